import PyProof.Rows.All
import Wide.All
import OpenK.AllK
import Wide.FinOn
import HandS.ForMost
import HandS.Defaults
import KE.KStateDown
import Lean
import HandS.Head0
import HandS.Head1
import HandS.Head2
import HandS.HeadEnd
import HandS.HeadHook1
import HandS.HeadHook2
import HandS.HeadHook3
import HandS.HeadHook4
import HandS.Deep
import HandS.Wide
import HandS.IsInst
import HandS.TupAny
import HandS.Evl
import HandS.More
import HandS.SortKw
import HandS.Walk
import KE.DataMinMax
import PySem.Challenge.RW_arcmill_k39_whole_parts_of_programs
set_option Elab.async false
set_option linter.all false
set_option maxRecDepth 100000
namespace Arc
open PySem L2
/-! the places of the defs -/
def top (i : Nat) : Stmt := PySem.Challenge.pw_arcmill_k39_whole_parts_of_programs.main.body.getD i (.Pass ⟨0, 0, 0, 0⟩)
abbrev s_divisor : Stmt := top 8
abbrev s_ratio : Stmt := top 9
abbrev s_plus : Stmt := top 10
abbrev s_minus : Stmt := top 11
abbrev s_times : Stmt := top 12
abbrev s_over : Stmt := top 13
abbrev s_below : Stmt := top 14
abbrev s_together : Stmt := top 16
abbrev s_off : Stmt := top 17
abbrev s_grown : Stmt := top 18
abbrev s_turned : Stmt := top 19
abbrev s_along : Stmt := top 20
abbrev s_far : Stmt := top 21
abbrev s_before : Stmt := top 22
abbrev s_stretch : Stmt := top 24
abbrev s_arc : Stmt := top 26
abbrev s_first : Stmt := top 29
abbrev s_led : Stmt := top 30
abbrev s_behind : Stmt := top 31
abbrev s_undone : Stmt := top 32
abbrev s_led_piece : Stmt := top 33
abbrev s_stood : Stmt := top 37
abbrev s_straight : Stmt := top 38
abbrev s_bowed : Stmt := top 39
abbrev s_shaped : Stmt := top 40
abbrev s_moved_by : Stmt := top 41
abbrev s_move : Stmt := top 42
abbrev s_draws : Stmt := top 43
abbrev s_done_by : Stmt := top 44
abbrev s_lines_in : Stmt := top 45
abbrev s_Pen_init : Stmt := inClass (top 46) 0
abbrev s_Pen_go_rows : Stmt := inClass (top 46) 1
abbrev s_Pen_go_row : Stmt := inClass (top 46) 2
abbrev s_Pen_go_ever : Stmt := inClass (top 46) 3
abbrev s_drawn : Stmt := top 47
abbrev s_is_whole : Stmt := top 55
abbrev s_is_fraction : Stmt := top 56
abbrev s_word_of : Stmt := top 57
abbrev s_is_round : Stmt := top 58
abbrev s_is_plain_row : Stmt := top 59
abbrev s_is_block : Stmt := top 60
abbrev s_size_by : Stmt := top 61
abbrev s_goes_on : Stmt := top 62
abbrev s_Looker_init : Stmt := inClass (top 63) 0
abbrev s_Looker_look_at : Stmt := inClass (top 63) 1
abbrev s_Looker_look_into : Stmt := inClass (top 63) 2
abbrev s_rows_in : Stmt := top 64
abbrev s_program_of : Stmt := top 65
abbrev s_number_text : Stmt := top 68
abbrev s_lines_of : Stmt := top 69
abbrev s_written : Stmt := top 70
abbrev s_whole_in : Stmt := top 71
abbrev s_fraction_in : Stmt := top 72
abbrev s_Reader_init : Stmt := inClass (top 73) 0
abbrev s_Reader_read_line : Stmt := inClass (top 73) 1
abbrev s_Reader_opened : Stmt := inClass (top 73) 2
abbrev s_Reader_closed : Stmt := inClass (top 73) 3
abbrev s_read : Stmt := top 74
abbrev s_law_cell_at : Stmt := top 76
abbrev s_law_row : Stmt := top 77
abbrev s_law_ratio : Stmt := top 78
abbrev s_law_plus : Stmt := top 79
abbrev s_law_times : Stmt := top 80
abbrev s_law_drawn : Stmt := top 81
abbrev s_law_bow : Stmt := top 82
abbrev s_law_plain : Stmt := top 83
abbrev s_law_size : Stmt := top 84
abbrev s_law_draws : Stmt := top 85
abbrev s_law_is_endless : Stmt := top 86
abbrev s_law_done : Stmt := top 87
abbrev s_law_close : Stmt := top 88
abbrev s_law_program : Stmt := top 89
abbrev s_law_numbers : Stmt := top 90
abbrev s_law_led_on : Stmt := top 91
abbrev s_law_led_ends : Stmt := top 92
abbrev s_law_cut : Stmt := top 93
abbrev s_law_deep : Stmt := top 94
abbrev s_law : Stmt := top 95
abbrev FnP (K : PySem.W.Frag) (x q : Str) (st : Stmt) (dvs : List V) (f : Addr) (fd : FuncData) : Prop := FunD K x q (defArgs st) (defBody st) (defScope st) dvs [] f fd
end Arc
set_option Elab.async false
set_option linter.all false
set_option maxRecDepth 100000
set_option maxHeartbeats 0
namespace Arc
open PySem PySem.Spec PyProof.Rows L2
def d_divisor : He.DefD := ⟨("divisor", none), "divisor", "divisor", defArgs s_divisor, defBody s_divisor, defScope s_divisor, [], []⟩
def d_ratio : He.DefD := ⟨("ratio", none), "ratio", "ratio", defArgs s_ratio, defBody s_ratio, defScope s_ratio, [], []⟩
def d_plus : He.DefD := ⟨("plus", none), "plus", "plus", defArgs s_plus, defBody s_plus, defScope s_plus, [], []⟩
def d_minus : He.DefD := ⟨("minus", none), "minus", "minus", defArgs s_minus, defBody s_minus, defScope s_minus, [], []⟩
def d_times : He.DefD := ⟨("times", none), "times", "times", defArgs s_times, defBody s_times, defScope s_times, [], []⟩
def d_over : He.DefD := ⟨("over", none), "over", "over", defArgs s_over, defBody s_over, defScope s_over, [], []⟩
def d_below : He.DefD := ⟨("below", none), "below", "below", defArgs s_below, defBody s_below, defScope s_below, [], []⟩
def d_together : He.DefD := ⟨("together", none), "together", "together", defArgs s_together, defBody s_together, defScope s_together, [], []⟩
def d_off : He.DefD := ⟨("off", none), "off", "off", defArgs s_off, defBody s_off, defScope s_off, [], []⟩
def d_grown : He.DefD := ⟨("grown", none), "grown", "grown", defArgs s_grown, defBody s_grown, defScope s_grown, [], []⟩
def d_turned : He.DefD := ⟨("turned", none), "turned", "turned", defArgs s_turned, defBody s_turned, defScope s_turned, [], []⟩
def d_along : He.DefD := ⟨("along", none), "along", "along", defArgs s_along, defBody s_along, defScope s_along, [], []⟩
def d_far : He.DefD := ⟨("far", none), "far", "far", defArgs s_far, defBody s_far, defScope s_far, [], []⟩
def d_before : He.DefD := ⟨("before", none), "before", "before", defArgs s_before, defBody s_before, defScope s_before, [], []⟩
def d_stretch : He.DefD := ⟨("stretch", none), "stretch", "stretch", defArgs s_stretch, defBody s_stretch, defScope s_stretch, [], []⟩
def d_arc : He.DefD := ⟨("arc", none), "arc", "arc", defArgs s_arc, defBody s_arc, defScope s_arc, [], []⟩
def d_first : He.DefD := ⟨("first", none), "first", "first", defArgs s_first, defBody s_first, defScope s_first, [], []⟩
def d_led : He.DefD := ⟨("led", none), "led", "led", defArgs s_led, defBody s_led, defScope s_led, [], []⟩
def d_behind : He.DefD := ⟨("behind", none), "behind", "behind", defArgs s_behind, defBody s_behind, defScope s_behind, [], []⟩
def d_undone : He.DefD := ⟨("undone", none), "undone", "undone", defArgs s_undone, defBody s_undone, defScope s_undone, [], []⟩
def d_led_piece : He.DefD := ⟨("led_piece", none), "led_piece", "led_piece", defArgs s_led_piece, defBody s_led_piece, defScope s_led_piece, [], []⟩
def d_stood : He.DefD := ⟨("stood", none), "stood", "stood", defArgs s_stood, defBody s_stood, defScope s_stood, [.int 0], []⟩
def d_straight : He.DefD := ⟨("straight", none), "straight", "straight", defArgs s_straight, defBody s_straight, defScope s_straight, [], []⟩
def d_bowed : He.DefD := ⟨("bowed", none), "bowed", "bowed", defArgs s_bowed, defBody s_bowed, defScope s_bowed, [], []⟩
def d_shaped : He.DefD := ⟨("shaped", none), "shaped", "shaped", defArgs s_shaped, defBody s_shaped, defScope s_shaped, [], []⟩
def d_moved_by : He.DefD := ⟨("moved_by", none), "moved_by", "moved_by", defArgs s_moved_by, defBody s_moved_by, defScope s_moved_by, [], []⟩
def d_move : He.DefD := ⟨("move", none), "move", "move", defArgs s_move, defBody s_move, defScope s_move, [], []⟩
def d_draws : He.DefD := ⟨("draws", none), "draws", "draws", defArgs s_draws, defBody s_draws, defScope s_draws, [], []⟩
def d_done_by : He.DefD := ⟨("done_by", none), "done_by", "done_by", defArgs s_done_by, defBody s_done_by, defScope s_done_by, [], []⟩
def d_lines_in : He.DefD := ⟨("lines_in", none), "lines_in", "lines_in", defArgs s_lines_in, defBody s_lines_in, defScope s_lines_in, [], []⟩
def d_Pen_init : He.DefD := ⟨("Pen", some "__init__"), "__init__", "Pen.__init__", defArgs s_Pen_init, defBody s_Pen_init, defScope s_Pen_init, [], []⟩
def d_Pen_go_rows : He.DefD := ⟨("Pen", some "go_rows"), "go_rows", "Pen.go_rows", defArgs s_Pen_go_rows, defBody s_Pen_go_rows, defScope s_Pen_go_rows, [], []⟩
def d_Pen_go_row : He.DefD := ⟨("Pen", some "go_row"), "go_row", "Pen.go_row", defArgs s_Pen_go_row, defBody s_Pen_go_row, defScope s_Pen_go_row, [], []⟩
def d_Pen_go_ever : He.DefD := ⟨("Pen", some "go_ever"), "go_ever", "Pen.go_ever", defArgs s_Pen_go_ever, defBody s_Pen_go_ever, defScope s_Pen_go_ever, [], []⟩
def d_drawn : He.DefD := ⟨("drawn", none), "drawn", "drawn", defArgs s_drawn, defBody s_drawn, defScope s_drawn, [], []⟩
def d_is_whole : He.DefD := ⟨("is_whole", none), "is_whole", "is_whole", defArgs s_is_whole, defBody s_is_whole, defScope s_is_whole, [], []⟩
def d_is_fraction : He.DefD := ⟨("is_fraction", none), "is_fraction", "is_fraction", defArgs s_is_fraction, defBody s_is_fraction, defScope s_is_fraction, [], []⟩
def d_word_of : He.DefD := ⟨("word_of", none), "word_of", "word_of", defArgs s_word_of, defBody s_word_of, defScope s_word_of, [], []⟩
def d_is_round : He.DefD := ⟨("is_round", none), "is_round", "is_round", defArgs s_is_round, defBody s_is_round, defScope s_is_round, [], []⟩
def d_is_plain_row : He.DefD := ⟨("is_plain_row", none), "is_plain_row", "is_plain_row", defArgs s_is_plain_row, defBody s_is_plain_row, defScope s_is_plain_row, [], []⟩
def d_is_block : He.DefD := ⟨("is_block", none), "is_block", "is_block", defArgs s_is_block, defBody s_is_block, defScope s_is_block, [], []⟩
def d_size_by : He.DefD := ⟨("size_by", none), "size_by", "size_by", defArgs s_size_by, defBody s_size_by, defScope s_size_by, [], []⟩
def d_goes_on : He.DefD := ⟨("goes_on", none), "goes_on", "goes_on", defArgs s_goes_on, defBody s_goes_on, defScope s_goes_on, [], []⟩
def d_Looker_init : He.DefD := ⟨("Looker", some "__init__"), "__init__", "Looker.__init__", defArgs s_Looker_init, defBody s_Looker_init, defScope s_Looker_init, [], []⟩
def d_Looker_look_at : He.DefD := ⟨("Looker", some "look_at"), "look_at", "Looker.look_at", defArgs s_Looker_look_at, defBody s_Looker_look_at, defScope s_Looker_look_at, [], []⟩
def d_Looker_look_into : He.DefD := ⟨("Looker", some "look_into"), "look_into", "Looker.look_into", defArgs s_Looker_look_into, defBody s_Looker_look_into, defScope s_Looker_look_into, [], []⟩
def d_rows_in : He.DefD := ⟨("rows_in", none), "rows_in", "rows_in", defArgs s_rows_in, defBody s_rows_in, defScope s_rows_in, [], []⟩
def d_program_of : He.DefD := ⟨("program_of", none), "program_of", "program_of", defArgs s_program_of, defBody s_program_of, defScope s_program_of, [], []⟩
def d_number_text : He.DefD := ⟨("number_text", none), "number_text", "number_text", defArgs s_number_text, defBody s_number_text, defScope s_number_text, [], []⟩
def d_lines_of : He.DefD := ⟨("lines_of", none), "lines_of", "lines_of", defArgs s_lines_of, defBody s_lines_of, defScope s_lines_of, [], []⟩
def d_written : He.DefD := ⟨("written", none), "written", "written", defArgs s_written, defBody s_written, defScope s_written, [], []⟩
def d_whole_in : He.DefD := ⟨("whole_in", none), "whole_in", "whole_in", defArgs s_whole_in, defBody s_whole_in, defScope s_whole_in, [], []⟩
def d_fraction_in : He.DefD := ⟨("fraction_in", none), "fraction_in", "fraction_in", defArgs s_fraction_in, defBody s_fraction_in, defScope s_fraction_in, [], []⟩
def d_Reader_init : He.DefD := ⟨("Reader", some "__init__"), "__init__", "Reader.__init__", defArgs s_Reader_init, defBody s_Reader_init, defScope s_Reader_init, [], []⟩
def d_Reader_read_line : He.DefD := ⟨("Reader", some "read_line"), "read_line", "Reader.read_line", defArgs s_Reader_read_line, defBody s_Reader_read_line, defScope s_Reader_read_line, [], []⟩
def d_Reader_opened : He.DefD := ⟨("Reader", some "opened"), "opened", "Reader.opened", defArgs s_Reader_opened, defBody s_Reader_opened, defScope s_Reader_opened, [], []⟩
def d_Reader_closed : He.DefD := ⟨("Reader", some "closed"), "closed", "Reader.closed", defArgs s_Reader_closed, defBody s_Reader_closed, defScope s_Reader_closed, [], []⟩
def d_read : He.DefD := ⟨("read", none), "read", "read", defArgs s_read, defBody s_read, defScope s_read, [], []⟩
def d_law_cell_at : He.DefD := ⟨("_law_cell_at", none), "_law_cell_at", "_law_cell_at", defArgs s_law_cell_at, defBody s_law_cell_at, defScope s_law_cell_at, [], []⟩
def d_law_row : He.DefD := ⟨("_law_row", none), "_law_row", "_law_row", defArgs s_law_row, defBody s_law_row, defScope s_law_row, [], []⟩
def d_law_ratio : He.DefD := ⟨("_law_ratio", none), "_law_ratio", "_law_ratio", defArgs s_law_ratio, defBody s_law_ratio, defScope s_law_ratio, [], []⟩
def d_law_plus : He.DefD := ⟨("_law_plus", none), "_law_plus", "_law_plus", defArgs s_law_plus, defBody s_law_plus, defScope s_law_plus, [], []⟩
def d_law_times : He.DefD := ⟨("_law_times", none), "_law_times", "_law_times", defArgs s_law_times, defBody s_law_times, defScope s_law_times, [], []⟩
def d_law_drawn : He.DefD := ⟨("_law_drawn", none), "_law_drawn", "_law_drawn", defArgs s_law_drawn, defBody s_law_drawn, defScope s_law_drawn, [], []⟩
def d_law_bow : He.DefD := ⟨("_law_bow", none), "_law_bow", "_law_bow", defArgs s_law_bow, defBody s_law_bow, defScope s_law_bow, [], []⟩
def d_law_plain : He.DefD := ⟨("_law_plain", none), "_law_plain", "_law_plain", defArgs s_law_plain, defBody s_law_plain, defScope s_law_plain, [], []⟩
def d_law_size : He.DefD := ⟨("_law_size", none), "_law_size", "_law_size", defArgs s_law_size, defBody s_law_size, defScope s_law_size, [], []⟩
def d_law_draws : He.DefD := ⟨("_law_draws", none), "_law_draws", "_law_draws", defArgs s_law_draws, defBody s_law_draws, defScope s_law_draws, [], []⟩
def d_law_is_endless : He.DefD := ⟨("_law_is_endless", none), "_law_is_endless", "_law_is_endless", defArgs s_law_is_endless, defBody s_law_is_endless, defScope s_law_is_endless, [], []⟩
def d_law_done : He.DefD := ⟨("_law_done", none), "_law_done", "_law_done", defArgs s_law_done, defBody s_law_done, defScope s_law_done, [], []⟩
def d_law_close : He.DefD := ⟨("_law_close", none), "_law_close", "_law_close", defArgs s_law_close, defBody s_law_close, defScope s_law_close, [], []⟩
def d_law_program : He.DefD := ⟨("_law_program", none), "_law_program", "_law_program", defArgs s_law_program, defBody s_law_program, defScope s_law_program, [], []⟩
def d_law_numbers : He.DefD := ⟨("_law_numbers", none), "_law_numbers", "_law_numbers", defArgs s_law_numbers, defBody s_law_numbers, defScope s_law_numbers, [], []⟩
def d_law_led_on : He.DefD := ⟨("_law_led_on", none), "_law_led_on", "_law_led_on", defArgs s_law_led_on, defBody s_law_led_on, defScope s_law_led_on, [], []⟩
def d_law_led_ends : He.DefD := ⟨("_law_led_ends", none), "_law_led_ends", "_law_led_ends", defArgs s_law_led_ends, defBody s_law_led_ends, defScope s_law_led_ends, [], []⟩
def d_law_cut : He.DefD := ⟨("_law_cut", none), "_law_cut", "_law_cut", defArgs s_law_cut, defBody s_law_cut, defScope s_law_cut, [], []⟩
def d_law_deep : He.DefD := ⟨("_law_deep", none), "_law_deep", "_law_deep", defArgs s_law_deep, defBody s_law_deep, defScope s_law_deep, [], []⟩
def d_law : He.DefD := ⟨("law", none), "law", "law", defArgs s_law, defBody s_law, defScope s_law, [], []⟩
def fn0 : List He.DefD := [d_divisor, d_ratio, d_plus, d_minus, d_times, d_over, d_below, d_together, d_off, d_grown, d_turned, d_along, d_far, d_before, d_stretch, d_arc, d_first, d_led, d_behind, d_undone, d_led_piece, d_stood, d_straight, d_bowed, d_shaped, d_moved_by, d_move, d_draws, d_done_by, d_lines_in]
def fn1 : List He.DefD := [d_Pen_init, d_Pen_go_rows, d_Pen_go_row, d_Pen_go_ever, d_drawn, d_is_whole, d_is_fraction, d_word_of, d_is_round, d_is_plain_row, d_is_block, d_size_by, d_goes_on, d_Looker_init, d_Looker_look_at, d_Looker_look_into, d_rows_in, d_program_of, d_number_text, d_lines_of, d_written, d_whole_in, d_fraction_in, d_Reader_init, d_Reader_read_line, d_Reader_opened, d_Reader_closed, d_read, d_law_cell_at, d_law_row]
def fn2 : List He.DefD := [d_law_ratio, d_law_plus, d_law_times, d_law_drawn, d_law_bow, d_law_plain, d_law_size, d_law_draws, d_law_is_endless, d_law_done, d_law_close, d_law_program, d_law_numbers, d_law_led_on, d_law_led_ends, d_law_cut, d_law_deep, d_law]
def fn : List He.DefD := fn0 ++ fn1 ++ fn2
def fa0 : List He.Fa := [.glo "divisor", .glo "ratio", .glo "plus", .glo "minus", .glo "times", .glo "over", .glo "below", .glo "together", .glo "off", .glo "grown", .glo "turned", .glo "along", .glo "far", .glo "before", .glo "stretch", .glo "arc", .glo "first", .glo "led", .glo "behind", .glo "undone", .glo "led_piece", .glo "stood", .glo "straight", .glo "bowed", .glo "shaped", .glo "moved_by", .glo "move", .glo "draws", .glo "done_by", .glo "lines_in"]
def fa1 : List He.Fa := [.glo "drawn", .glo "is_whole", .glo "is_fraction", .glo "word_of", .glo "is_round", .glo "is_plain_row", .glo "is_block", .glo "size_by", .glo "goes_on", .glo "rows_in", .glo "program_of", .glo "number_text", .glo "lines_of", .glo "written", .glo "whole_in", .glo "fraction_in", .glo "read", .glo "_law_cell_at", .glo "_law_row", .glo "_law_ratio", .glo "_law_plus", .glo "_law_times", .glo "_law_drawn", .glo "_law_bow", .glo "_law_plain", .glo "_law_size", .glo "_law_draws", .glo "_law_is_endless", .glo "_law_done", .glo "_law_close"]
def fa2 : List He.Fa := [.glo "_law_program", .glo "_law_numbers", .glo "_law_led_on", .glo "_law_led_ends", .glo "_law_cut", .glo "_law_deep", .glo "law", .glo "Pen", .cls "Pen", .mkr "Pen", .glo "Looker", .cls "Looker", .mkr "Looker", .glo "Reader", .cls "Reader", .mkr "Reader", .noat "Pen" "still", .noat "Pen" "ends", .noat "Looker" "number", .noat "Reader" "heads", .noat "Reader" "rows", .meth "Pen" "go_rows", .meth "Pen" "go_row", .meth "Pen" "go_ever", .meth "Looker" "look_at", .meth "Looker" "look_into", .meth "Reader" "read_line", .meth "Reader" "opened", .meth "Reader" "closed", .free "abs"]
def fa3 : List He.Fa := [.free "range", .free "len", .free "int", .free "str", .free "isinstance", .free "bool", .free "tuple", .free "all", .free "min", .free "max", .free "enumerate", .glo "NOUGHT", .int "MOST_DONE" 300, .glo "TURNS", .glo "NUMBERS", .int "MOST_ROWS" 60, .int "DEEPEST" 4, .int "MOST_ROUNDS" 12, .int "MOST_GROWN" 12, .glo "MOST_SIZE", .str "FIGURES" "0123456789"]
def fa : List He.Fa := fa0 ++ fa1 ++ fa2 ++ fa3
def tabs : List He.Tab := [((fun K => He.ga K "TURNS"), ["left", "round", "right"]), ((fun K => He.ga K "NUMBERS"), ["go", "skip", "side", "dot", "left", "right", "round", "mirror", "grow", "quarter", "half", "arc"])]
def valsTURNS : List (Str × He.Dv) := [("left", .int 1), ("round", .int 2), ("right", .int 3)]
def valsNUMBERS : List (Str × He.Dv) := [("go", .int 1), ("skip", .int 1), ("side", .int 2), ("dot", .int 0), ("left", .int 0), ("right", .int 0), ("round", .int 0), ("mirror", .int 0), ("grow", .int 1), ("quarter", .int 1), ("half", .int 1), ("arc", .int 4)]
/-- the i-th item of the tuple at a -/
def itAt (a : PySem.W.Frag → Addr) (i : Nat) (K : PySem.W.Frag) : Addr := match K.lookup (a K) with
  | some ⟨_, _, .seq its _, _⟩ => (match its.toList[i]? with
    | some (.ref b) => b
    | _ => 0)
  | _ => 0
def tupA (K : PySem.W.Frag) (a : Addr) (vs : List V) : Bool := match K.lookup a with
  | some ⟨.type c, _, .seq its _, _⟩ => decide (c = "tuple") && (decide (its.size ≤ sizeLine) && He.relAll vs its.toList)
  | _ => false
theorem tupA_ok {K : PySem.W.Frag} {a : Addr} {vs : List V} (h : tupA K a vs = true) (H : Hp) : SqT K H a vs := by
  unfold tupA at h
  cases q : K.lookup a with
  | none =>
    rw [q] at h
    cases h
  | some o =>
    obtain ⟨oc, od, dt, osl⟩ := o
    rw [q] at h
    cases oc with
    | type c =>
      cases dt with
      | seq its n =>
        obtain ⟨h1, h2⟩ := He.ba (show (decide (c = "tuple") && (decide (its.size ≤ sizeLine) && He.relAll vs its.toList)) = true from h)
        obtain ⟨h3, h4⟩ := He.ba h2
        exact .inr ⟨_, its, n, q, congrArg Value.type (of_decide_eq_true h1), rfl, of_decide_eq_true h3, He.relAll_ok h4⟩
      | _ => cases h
    | _ => cases dt <;> cases h
def ngA (K : PySem.W.Frag) : Addr := He.ga K "NOUGHT"
def ngA0 : PySem.W.Frag → Addr := itAt ngA 0
def ngA1 : PySem.W.Frag → Addr := itAt ngA 1
def exB (K : PySem.W.Frag) : Bool := He.valsB K (He.ga K "TURNS") valsTURNS && (He.valsB K (He.ga K "NUMBERS") valsNUMBERS && (tupA K (He.ga K "MOST_SIZE") [.int 3, .int 4] &&
  (tupA K (ngA K) [.ref (ngA0 K), .ref (ngA1 K)] && (tupA K (ngA0 K) [.int 0, .int 1] && (tupA K (ngA1 K) [.int 0, .int 1])))))
def loose0 : List PySem.Str := ["MillError", "NoNumber", "NoPiece", "TooMuch", "NoRow", "NoText", "divisor", "ratio", "plus", "minus", "times", "over", "below", "together", "off", "grown", "turned", "along", "far", "before", "stretch", "arc", "NOUGHT", "first", "led", "behind", "undone", "led_piece", "MOST_DONE", "TURNS"]
def loose1 : List PySem.Str := ["stood", "straight", "bowed", "shaped", "moved_by", "move", "draws", "done_by", "lines_in", "Pen", "drawn", "NUMBERS", "MOST_ROWS", "DEEPEST", "MOST_ROUNDS", "MOST_GROWN", "MOST_SIZE", "is_whole", "is_fraction", "word_of", "is_round", "is_plain_row", "is_block", "size_by", "goes_on", "Looker", "rows_in", "program_of", "FIGURES", "number_text"]
def loose2 : List PySem.Str := ["lines_of", "written", "whole_in", "fraction_in", "Reader", "read", "_law_cell_at", "_law_row", "_law_ratio", "_law_plus", "_law_times", "_law_drawn", "_law_bow", "_law_plain", "_law_size", "_law_draws", "_law_is_endless", "_law_done", "_law_close", "_law_program", "_law_numbers", "_law_led_on", "_law_led_ends", "_law_cut", "_law_deep"]
def loose : List PySem.Str := loose0 ++ loose1 ++ loose2
abbrev R : PySem.W.OpenRow := PySem.W.OpenLaw.row PySem.Challenge.rw_arcmill_k39_whole_parts_of_programs
abbrev hk : PySem.W.Hook := He.hookX 5 fa fn tabs [] exB
def ob (s : PySem.W.SharedT) : He.AlX := He.obsX 5 fa fn tabs [] exB (HandSHeadRun.getT s)
theorem ob_eq (s : PySem.W.SharedT) : ob s = hk.obs s.abs := He.obsX_eq (HandSHeadRun.getT_eq s)
end Arc
set_option Elab.async false
set_option linter.all false
set_option maxRecDepth 100000
set_option maxHeartbeats 0
namespace Arc
open PySem PySem.Spec PyProof.Rows L2
/-- the written part: all objects below an address -/
def KM (g : Addr → Option Obj) : PySem.W.Frag := He.frG g (List.range 720)
abbrev AlM : Type := He.AlT × Bool
def obsM (g : Addr → Option Obj) : AlM := (He.obsT fa fn tabs (KM g), exB (KM g))
def valM (w : World) : AlM := (He.valT fn tabs w, true)
def SaysM (w : World) (K : PySem.W.Frag) : Prop := He.SaysT fa fn tabs w K ∧ exB K = true
def hookM : PySem.W.Hook where
  α := AlM
  obs := fun s => obsM s.heap.get?
  val := fun w => valM w
  says := fun w h => ∃ K : PySem.W.Frag, K.In h ∧ SaysM w K
  of := fun _ _ e => ⟨_, He.frG_in, congrArg (fun z : AlM => z.1) e, congrArg (fun z : AlM => z.2) e⟩
  keeps := fun _ _ _ ⟨K, hK, c⟩ k => ⟨K, PySem.W.Frag.In.keeps hK k, c⟩
def obM (s : PySem.W.SharedT) : AlM := obsM (HandSHeadRun.getT s)
theorem obM_eq (s : PySem.W.SharedT) : obM s = hookM.obs s.abs := by
  have e : HandSHeadRun.getT s = s.abs.heap.get? := funext (HandSHeadRun.getT_eq s)
  show obsM (HandSHeadRun.getT s) = obsM s.abs.heap.get?
  rw [e]
end Arc
set_option Elab.async false
set_option linter.all false
set_option maxRecDepth 100000
set_option maxHeartbeats 0
namespace Arc
open PySem PySem.Spec PyProof.Rows L2
theorem run1 (w : World) : HandSHeadRun.RunEq R (PySem.W.view R.prog [95]) hookM obM 6000 loose (w.withFollow "special-get-raises" false) := by
  intro os
  kernel_rfl
theorem run2 (w : World) : HandSHeadRun.RunEq R (PySem.W.view R.prog [95]) hookM obM 6000 loose (w.withFollow "special-get-raises" true) := by
  intro os
  kernel_rfl
theorem run (w : World) : HandSHeadRun.RunEq R (PySem.W.view R.prog [95]) hookM obM 6000 loose w :=
  PySem.W.byRow2 "special-get-raises" (P := fun w => HandSHeadRun.RunEq R (PySem.W.view R.prog [95]) hookM obM 6000 loose w) run1 run2 w
end Arc
set_option Elab.async false
set_option linter.all false
set_option maxRecDepth 100000
set_option maxHeartbeats 2000000
/-! A layer of data over the hand layer: what an expression is worth as a function of the slots' data. -/
namespace Arc
open PySem L2

/-! ### data at a value: what is read of the heap; lists that stand as they are -/
mutual
inductive Is (K : PySem.W.Frag) (H : Hp) : V → PyData → Prop
  | non : Is K H .non .none
  | bl (b : Bool) : Is K H (.bl b) (.bool b)
  | int (i : Int) : Is K H (.int i) (.int i)
  | str (x : Str) : Is K H (.str x) (.str x)
  | lst {a : Addr} {xs : List V} {ds : List PyData} : H a = some (.lst xs) → IsAll K H xs ds → Is K H (.ref a) (.list ds)
  | tup {a : Addr} {xs : List V} {ds : List PyData} : SqT K H a xs → IsAll K H xs ds → Is K H (.ref a) (.tuple ds)
inductive IsAll (K : PySem.W.Frag) (H : Hp) : List V → List PyData → Prop
  | nil : IsAll K H [] []
  | cons {v : V} {vs : List V} {d : PyData} {ds : List PyData} : Is K H v d → IsAll K H vs ds → IsAll K H (v :: vs) (d :: ds)
end

theorem Same.sqT {K : PySem.W.Frag} {H H' : Hp} {a : Addr} {xs : List V} (e : Same H H') (h : SqT K H a xs) : SqT K H' a xs := by
  rcases h with (h | ⟨o, h⟩) | h
  · exact .inl (.inl (e _ _ h))
  · exact .inl (.inr ⟨o, e _ _ h⟩)
  · exact .inr h
theorem same_new {H : Hp} {p : Addr} {o : HO} (h : H p = none) : Same H (upd H p o) := fun b u q => by rw [upd_ne (ne_of_none q h)]; exact q

section
variable {K : PySem.W.Frag} {H H' : Hp}
mutual
theorem Is.mono (e : Same H H') : ∀ {v : V} {d : PyData}, Is K H v d → Is K H' v d
  | _, _, .non => .non
  | _, _, .bl b => .bl b
  | _, _, .int i => .int i
  | _, _, .str x => .str x
  | _, _, .lst h k => .lst (e _ _ h) (IsAll.mono e k)
  | _, _, .tup h k => .tup (Same.sqT e h) (IsAll.mono e k)
theorem IsAll.mono (e : Same H H') : ∀ {vs : List V} {ds : List PyData}, IsAll K H vs ds → IsAll K H' vs ds
  | _, _, .nil => .nil
  | _, _, .cons h k => .cons (Is.mono e h) (IsAll.mono e k)
end
mutual
theorem Is.dp : ∀ {v : V} {d : PyData}, Is K H v d → Dp K H v d
  | _, _, .non => .non
  | _, _, .bl b => .bl b
  | _, _, .int i => .int i
  | _, _, .str x => .str x
  | _, _, .lst h k => .lst (SqL.of h) (IsAll.dp k)
  | _, _, .tup h k => .tup h (IsAll.dp k)
theorem IsAll.dp : ∀ {vs : List V} {ds : List PyData}, IsAll K H vs ds → DpAll K H vs ds
  | _, _, .nil => .nil
  | _, _, .cons h k => .cons (Is.dp h) (IsAll.dp k)
end
theorem IsAll.length : ∀ {vs : List V} {ds : List PyData}, IsAll K H vs ds → vs.length = ds.length
  | _, _, .nil => rfl
  | _, _, .cons _ k => congrArg Nat.succ (IsAll.length k)
theorem IsAll.get : ∀ {vs : List V} {ds : List PyData} {i : Nat} {d : PyData}, IsAll K H vs ds → ds[i]? = some d → ∃ v, vs[i]? = some v ∧ Is K H v d
  | _, _, _, _, .nil, e => by simp at e
  | _, _, 0, _, .cons h _, e => by
    simp at e
    subst e
    exact ⟨_, rfl, h⟩
  | _, _, i + 1, _, .cons _ k, e => IsAll.get (i := i) k (by simpa using e)
theorem IsAll.getV : ∀ {vs : List V} {ds : List PyData} {i : Nat} {v : V}, IsAll K H vs ds → vs[i]? = some v → ∃ d, ds[i]? = some d ∧ Is K H v d
  | _, _, _, _, .nil, e => by simp at e
  | _, _, 0, _, .cons h _, e => by
    simp at e
    subst e
    exact ⟨_, rfl, h⟩
  | _, _, i + 1, _, .cons _ k, e => IsAll.getV (i := i) k (by simpa using e)
theorem IsAll.append : ∀ {vs ws : List V} {ds es : List PyData}, IsAll K H vs ds → IsAll K H ws es → IsAll K H (vs ++ ws) (ds ++ es)
  | _, _, _, _, .nil, q => q
  | _, _, _, _, .cons h k, q => .cons h (IsAll.append k q)
theorem IsAll.take : ∀ {vs : List V} {ds : List PyData} (n : Nat), IsAll K H vs ds → IsAll K H (vs.take n) (ds.take n)
  | _, _, 0, _ => .nil
  | _, _, _ + 1, .nil => .nil
  | _, _, n + 1, .cons h k => .cons h (IsAll.take n k)
theorem IsAll.drop : ∀ {vs : List V} {ds : List PyData} (n : Nat), IsAll K H vs ds → IsAll K H (vs.drop n) (ds.drop n)
  | _, _, 0, r => r
  | _, _, _ + 1, .nil => .nil
  | _, _, n + 1, .cons _ k => IsAll.drop n k
theorem IsAll.one {v : V} {d : PyData} (h : Is K H v d) : IsAll K H [v] [d] := .cons h .nil
theorem Is.tupI {v : V} {ds : List PyData} (h : Is K H v (.tuple ds)) : ∃ a xs, v = .ref a ∧ SqT K H a xs ∧ IsAll K H xs ds := by
  cases h with
  | tup h k => exact ⟨_, _, rfl, h, k⟩
theorem Is.lstI {v : V} {ds : List PyData} (h : Is K H v (.list ds)) : ∃ a xs, v = .ref a ∧ H a = some (.lst xs) ∧ IsAll K H xs ds := by
  cases h with
  | lst h k => exact ⟨_, _, rfl, h, k⟩
theorem Is.intI {v : V} {i : Int} (h : Is K H v (.int i)) : v = .int i := by
  cases h
  rfl
theorem Is.blI {v : V} {b : Bool} (h : Is K H v (.bool b)) : v = .bl b := by
  cases h
  rfl
theorem Is.strI {v : V} {x : Str} (h : Is K H v (.str x)) : v = .str x := by
  cases h
  rfl
theorem Is.nonI {v : V} (h : Is K H v .none) : v = .non := by
  cases h
  rfl
end

/-! ### the slots -/
abbrev Rho := List (Option PyData)
structure EO (K : PySem.W.Frag) (H : Hp) (σ : L2.St) (ρ : Rho) : Prop where
  len : σ.length = ρ.length
  at_ : ∀ (i : Nat) (d : PyData), ρ[i]? = some (some d) → ∃ v, σ[i]? = some (some v) ∧ Is K H v d
section
variable {K : PySem.W.Frag} {H H' : Hp} {σ : L2.St} {ρ : Rho}
theorem EO.mono (e : Same H H') (h : EO K H σ ρ) : EO K H' σ ρ := ⟨h.len, fun i d q => by
  obtain ⟨v, q1, q2⟩ := h.at_ i d q
  exact ⟨v, q1, q2.mono e⟩⟩
theorem EO.set (h : EO K H σ ρ) {v : V} {d : PyData} (i : Nat) (k : Is K H v d) : EO K H (σ.set i (some v)) (ρ.set i (some d)) := ⟨by simp [h.len], fun j z q => by
  by_cases hij : i = j
  · subst hij
    by_cases hl : i < ρ.length
    · rw [List.getElem?_set_self hl] at q
      cases q
      exact ⟨v, List.getElem?_set_self (by rw [h.len]; exact hl), k⟩
    · rw [List.getElem?_eq_none (by simp; omega)] at q
      cases q
  · rw [List.getElem?_set_ne hij] at q ⊢
    exact h.at_ j z q⟩
theorem EO.unset (h : EO K H σ ρ) (i : Nat) (o : Option V) : EO K H (σ.set i o) (ρ.set i none) := ⟨by simp [h.len], fun j z q => by
  by_cases hij : i = j
  · subst hij
    by_cases hl : i < ρ.length
    · rw [List.getElem?_set_self hl] at q
      cases q
    · rw [List.getElem?_eq_none (by simp; omega)] at q
      cases q
  · rw [List.getElem?_set_ne hij] at q ⊢
    exact h.at_ j z q⟩
def startR (n : Nat) (ds : List PyData) : Rho := ds.map some ++ List.replicate (n - ds.length) none
theorem EO.start {N : List Str} {vs : List V} {ds : List PyData} (h : IsAll K H vs ds) : EO K H (L2.start N vs) (startR N.length ds) := by
  have hl := h.length
  refine ⟨by unfold L2.start startR; simp [hl], fun i d q => ?_⟩
  unfold startR at q
  unfold L2.start
  by_cases hi : i < ds.length
  · rw [List.getElem?_append_left (by simpa using hi), List.getElem?_map] at q
    cases e : ds[i]? with
    | none => rw [e] at q; cases q
    | some d' =>
      rw [e] at q
      cases q
      obtain ⟨v, q1, q2⟩ := h.get e
      refine ⟨v, ?_, q2⟩
      rw [List.getElem?_append_left (by simp; omega), List.getElem?_map, q1]
      rfl
  · rw [List.getElem?_append_right (by simpa using hi), List.getElem?_replicate] at q
    split at q <;> cases q
end

/-! ### the readings of data -/
def tD (K : PySem.W.Frag) (f : Rho → Option PyData) : TE := fun σ H Q => ∃ ρ d, EO K H σ ρ ∧ f ρ = some d ∧ ∀ v H', Same H H' → Is K H' v d → Q v H'
def tDT (K : PySem.W.Frag) (f : Rho → Option Bool) : TT := fun σ H Q => ∃ ρ b, EO K H σ ρ ∧ f ρ = some b ∧ ∀ H', Same H H' → Q b H'
def tDA (K : PySem.W.Frag) (n : Nat) (f : Rho → Option (List PyData)) : TA := fun σ H Q => ∃ ρ ds, EO K H σ ρ ∧ f ρ = some ds ∧ ∀ vs H', Same H H' → IsAll K H' vs ds → ds.length = n → Q vs H'
def tDO (K : PySem.W.Frag) (f : Rho → Option (Option Int)) : TO := fun σ H Q => ∃ ρ o, EO K H σ ρ ∧ f ρ = some o ∧ ∀ H', Same H H' → Q o H'
inductive Out where
  | nxt (ρ : Rho)
  | ret (d : PyData)
def Fin (K : PySem.W.Frag) (H : Hp) (D : Ends) : Out → Prop
  | .nxt ρ => ∀ σ' H', Same H H' → EO K H' σ' ρ → D.nx σ' H'
  | .ret d => ∀ v H', Same H H' → Is K H' v d → D.rt v H'
def tDS (K : PySem.W.Frag) (F : Rho → Option Out) : TS := fun D σ H => ∃ ρ o, EO K H σ ρ ∧ F ρ = some o ∧ Fin K H D o
theorem Fin.mono {K : PySem.W.Frag} {H H' : Hp} {D : Ends} (e : Same H H') : ∀ {o : Out}, Fin K H D o → Fin K H' D o
  | .nxt _, h => fun σ' H2 e2 k => h σ' H2 (e.trans e2) k
  | .ret _, h => fun v H2 e2 k => h v H2 (e.trans e2) k
section
variable {X : Cx}
theorem peW {e : Expr} {t t' : TE} (h : PE X e t) (w : ∀ σ H Q, t' σ H Q → t σ H Q) : PE X e t' := ⟨fun pins s σ H Q I q => h.run pins s σ H Q I (w _ _ _ q)⟩
theorem ptW {e : Expr} {t t' : TT} (h : PT X e t) (w : ∀ σ H Q, t' σ H Q → t σ H Q) : PT X e t' := ⟨fun pins s σ H Q I q => h.run pins s σ H Q I (w _ _ _ q)⟩
theorem pwW {e : Expr} {t t' : TT} (h : PW X e t) (w : ∀ σ H Q, t' σ H Q → t σ H Q) : PW X e t' := ⟨fun wh pins s σ H Q I q => h.run wh pins s σ H Q I (w _ _ _ q)⟩
theorem paW {e : List Expr} {t t' : TA} (h : PA X e t) (w : ∀ σ H Q, t' σ H Q → t σ H Q) : PA X e t' := ⟨fun pos pins s σ H Q I q => h.run pos pins s σ H Q I (w _ _ _ q)⟩
theorem poW {e : Option Expr} {t t' : TO} (h : PO X e t) (w : ∀ σ H Q, t' σ H Q → t σ H Q) : PO X e t' := ⟨fun pins s σ H Q I q => h.run pins s σ H Q I (w _ _ _ q)⟩
theorem psW {e : Stmt} {t t' : TS} (h : PS X e t) (w : ∀ D σ H, t' D σ H → t D σ H) : PS X e t' := ⟨fun pins s σ H D I q => h.run pins s σ H D I (w _ _ _ q)⟩
theorem pssW {e : List Stmt} {t t' : TS} (h : PSs X e t) (w : ∀ D σ H, t' D σ H → t D σ H) : PSs X e t' := ⟨fun pins s σ H D I q => h.run pins s σ H D I (w _ _ _ q)⟩
end

/-! ### expressions -/
def fV (i : Nat) : Rho → Option PyData := fun ρ => (ρ[i]?).bind id
def fC (d : PyData) : Rho → Option PyData := fun _ => some d
def f1 {α β : Type} (g : α → Option β) (fa : Rho → Option α) : Rho → Option β := fun ρ => (fa ρ).bind g
def f2 {α β γ : Type} (g : α → β → Option γ) (fa : Rho → Option α) (fb : Rho → Option β) : Rho → Option γ := fun ρ => (fa ρ).bind fun a => (fb ρ).bind fun b => g a b
def fNil : Rho → Option (List PyData) := fun _ => some []
def fCons (fa : Rho → Option PyData) (fr : Rho → Option (List PyData)) : Rho → Option (List PyData) := fun ρ => (fa ρ).bind fun a => (fr ρ).bind fun l => some (a :: l)
section
variable {X : Cx}
theorem dv (i : Nat) {x : Str} {pos : Pos} (hN : X.N[i]? = some x := by rfl) (hv : Vis X.env.scope x := by first | exact Or.inl rfl | exact Or.inr (Or.inl rfl) | exact Or.inr (Or.inr rfl)) (hd : (x == ("__debug__" : Str)) = false := by decide)
    (hcd : (x == ("__classdict__" : Str)) = false := by decide) : PE X (.Name x pos) (tD X.K (fV i)) := peW (pe_var hN hv hd hcd) fun σ H Q ⟨ρ, d, eo, e, q⟩ => by
  unfold fV at e
  cases h : ρ[i]? with
  | none => rw [h] at e; cases e
  | some o =>
    rw [h] at e
    have e2 : o = some d := e
    subst e2
    obtain ⟨v, h1, h2⟩ := eo.at_ i d h
    exact ⟨v, h1, q v H (Same.refl H) h2⟩
theorem d_int {i : Int} {j pos} : PE X (.Constant (.int i) j pos) (tD X.K (fC (.int i))) := peW pe_int fun σ H Q ⟨ρ, d, eo, e, q⟩ => by cases e; exact q _ H (Same.refl H) (.int i)
theorem d_str {i : Str} {j pos} : PE X (.Constant (.str i) j pos) (tD X.K (fC (.str i))) := peW pe_str fun σ H Q ⟨ρ, d, eo, e, q⟩ => by cases e; exact q _ H (Same.refl H) (.str i)
theorem d_non {j pos} : PE X (.Constant .none j pos) (tD X.K (fC .none)) := peW pe_non fun σ H Q ⟨ρ, d, eo, e, q⟩ => by cases e; exact q _ H (Same.refl H) .non
theorem d_bl {b : Bool} {j pos} : PE X (.Constant (.bool b) j pos) (tD X.K (fC (.bool b))) := peW pe_bl fun σ H Q ⟨ρ, d, eo, e, q⟩ => by cases e; exact q _ H (Same.refl H) (.bl b)
/-- a constant of the module -/
structure GC (K : PySem.W.Frag) (mg : Str → Option Value) (x : Str) (d : PyData) : Prop where
  ex : ∃ (v : V) (u : Value), mg x = some u ∧ RelV v u ∧ ∀ H, Is K H v d
theorem d_glob {x : Str} {d : PyData} {pos : Pos} (g : GC X.K X.mg x d) (hg : Gl X x := by rfl) (hd : (x == ("__debug__" : Str)) = false := by decide) : PE X (.Name x pos) (tD X.K (fC d)) := by
  obtain ⟨v, u, hm, r, h⟩ := g.ex
  exact peW (pe_glob hg hm r hd) fun σ H Q ⟨ρ, d', eo, e, q⟩ => by
    cases e
    exact q _ H (Same.refl H) (h H)
/-- an operation on data -/
def OpD (K : PySem.W.Frag) (r : R2) (g : PyData → PyData → Option PyData) : Prop :=
  ∀ (H : Hp) (x y : V) (a b z : PyData), Is K H x a → Is K H y b → g a b = some z → ∀ Q : VK, (∀ v H', Same H H' → Is K H' v z → Q v H') → r x y H Q
theorem op2W {ta tb : TE} {r : R2} {g : PyData → PyData → Option PyData} {fa fb : Rho → Option PyData} {K : PySem.W.Frag} (hg : OpD K r g) : ∀ σ H Q, tD K (f2 g fa fb) σ H Q → tOp r (tD K fa) (tD K fb) σ H Q := fun σ H Q ⟨ρ, d, eo, e, q⟩ => by
  unfold f2 at e
  cases ea : fa ρ with
  | none => rw [ea] at e; cases e
  | some a =>
    rw [ea] at e
    cases eb : fb ρ with
    | none => rw [show (some a : Option PyData).bind (fun a => (fb ρ).bind fun b => g a b) = (fb ρ).bind fun b => g a b from rfl, eb] at e; cases e
    | some b =>
      have e2 : g a b = some d := by
        rw [show (some a : Option PyData).bind (fun a => (fb ρ).bind fun b => g a b) = (fb ρ).bind fun b => g a b from rfl, eb] at e
        exact e
      exact ⟨ρ, a, eo, ea, fun v H1 s1 i1 => ⟨ρ, b, eo.mono s1, eb, fun w H2 s2 i2 => hg H2 v w a b d (i1.mono s2) i2 e2 Q fun z H3 s3 i3 => q z H3 (s1.trans (s2.trans s3)) i3⟩⟩
variable {a b : Expr} {fa fb : Rho → Option PyData} {pos : Pos}
theorem d_op {op : Operator} {r : R2} {g : PyData → PyData → Option PyData} (ho : OpR X (binaryOp op) r) (hg : OpD X.K r g) (ha : PE X a (tD X.K fa)) (hb : PE X b (tD X.K fb)) : PE X (.BinOp a op b pos) (tD X.K (f2 g fa fb)) :=
  peW (pe_op ho ha hb) (op2W (ta := tD X.K fa) (tb := tD X.K fb) hg)
theorem d_cmp {op : CmpOp} {r : R2} {g : PyData → PyData → Option PyData} (ho : OpR X (compareOp op) r) (hg : OpD X.K r g) (ha : PE X a (tD X.K fa)) (hb : PE X b (tD X.K fb)) (hm : behindInMarks op b = false := by rfl) : PE X (.Compare a [op] [b] pos) (tD X.K (f2 g fa fb)) :=
  peW (pe_cmpR ho ha hb hm) (op2W (ta := tD X.K fa) (tb := tD X.K fb) hg)
/-- a test of data that is a truth -/
def gB : PyData → Option Bool
  | .bool b => some b
  | _ => none
theorem tB_W {K : PySem.W.Frag} {f : Rho → Option PyData} : ∀ σ H Q, tDT K (f1 gB f) σ H Q → (tD K f) σ H fun x H1 => ∃ k, x = .bl k ∧ Q k H1 := fun σ H Q ⟨ρ, b, eo, e, q⟩ => by
  unfold f1 at e
  cases h : f ρ with
  | none => rw [h] at e; cases e
  | some d =>
    rw [h] at e
    have e1 : gB d = some b := e
    cases d <;> try cases e1
    exact ⟨ρ, _, eo, h, fun v H1 s1 i1 => ⟨b, i1.blI, q H1 s1⟩⟩
theorem dt_cmp {op : CmpOp} {r : R2} {g : PyData → PyData → Option PyData} (ho : OpR X (compareOp op) r) (hg : OpD X.K r g) (ha : PE X a (tD X.K fa)) (hb : PE X b (tD X.K fb)) (hm : behindInMarks op b = false := by rfl) : PT X (.Compare a [op] [b] pos) (tDT X.K (f1 gB (f2 g fa fb))) :=
  ptW (pt_cmpR ho ha hb hm) fun σ H Q h => by
    have h2 := tB_W σ H Q h
    exact op2W (ta := tD X.K fa) (tb := tD X.K fb) hg σ H _ h2
theorem dt_val {f : Rho → Option PyData} (h : PE X a (tD X.K f)) (he : ∀ whole, isTrue a X.env whole = (do let v ← whole; standAt a.pos; holding [v] (truthy v)) := by intro _; rfl) : PT X a (tDT X.K (f1 gB f)) :=
  ptW (pt_val h he) fun σ H Q h => tB_W σ H Q h
/-- chained -/
def fChain (g g' : PyData → PyData → Option PyData) (fa fb fc : Rho → Option PyData) : Rho → Option PyData := fun ρ => (fa ρ).bind fun a => (fb ρ).bind fun b => (g a b).bind fun z => match z with
  | .bool true => (fc ρ).bind fun c => g' b c
  | .bool false => some (.bool false)
  | _ => none
theorem chainW {K : PySem.W.Frag} {r r' : R2} {g g' : PyData → PyData → Option PyData} {fa fb fc : Rho → Option PyData} (hg : OpD K r g) (hg' : OpD K r' g') : ∀ σ H Q, tD K (fChain g g' fa fb fc) σ H Q → tChain r r' (tD K fa) (tD K fb) (tD K fc) σ H Q := fun σ H Q ⟨ρ, d, eo, e, q⟩ => by
  unfold fChain at e
  obtain ⟨a, ea, e⟩ := Option.bind_eq_some_iff.mp e
  obtain ⟨b, eb, e⟩ := Option.bind_eq_some_iff.mp e
  obtain ⟨z, ez, e⟩ := Option.bind_eq_some_iff.mp e
  refine ⟨ρ, a, eo, ea, fun v H1 s1 i1 => ⟨ρ, b, eo.mono s1, eb, fun w H2 s2 i2 => ?_⟩⟩
  refine hg H2 v w a b z (i1.mono s2) i2 ez _ fun y H3 s3 i3 => ?_
  cases z with
  | bool k =>
    refine ⟨k, i3.blI, ?_⟩
    cases k with
    | true =>
      obtain ⟨c, ec, e⟩ := Option.bind_eq_some_iff.mp e
      exact ⟨ρ, c, eo.mono (s1.trans (s2.trans s3)), ec, fun u H4 s4 i4 => hg' H4 w u b c d (i2.mono (s3.trans s4)) i4 e Q fun t H5 s5 i5 => q t H5 (s1.trans (s2.trans (s3.trans (s4.trans s5)))) i5⟩
    | false =>
      cases e
      exact q _ H3 (s1.trans (s2.trans s3)) (.bl false)
  | _ => cases e
end
end Arc
set_option Elab.async false
set_option linter.all false
set_option maxRecDepth 100000
set_option maxHeartbeats 2000000
namespace Arc
open PySem L2
/-! ### the operations on data -/
def gAdd : PyData → PyData → Option PyData
  | .int a, .int b => some (.int (a + b))
  | _, _ => none
def gSub : PyData → PyData → Option PyData
  | .int a, .int b => some (.int (a - b))
  | _, _ => none
instance (i j : Int) : Decidable (CMulW i j) := by unfold CMulW; infer_instance
instance (i j : Int) : Decidable (CDivW i j) := by unfold CDivW; infer_instance
instance (i j : Int) : Decidable (CPow i j) := by unfold CPow; infer_instance
def gMul : PyData → PyData → Option PyData
  | .int a, .int b => if CMulW a b then some (.int (a * b)) else none
  | _, _ => none
def gDiv : PyData → PyData → Option PyData
  | .int a, .int b => if CDivW a b then some (.int (a / b)) else none
  | _, _ => none
def gMod : PyData → PyData → Option PyData
  | .int a, .int b => if 0 < b then some (.int (a % b)) else none
  | _, _ => none
def gPow : PyData → PyData → Option PyData
  | .int a, .int b => if CPow a b then some (.int (a ^ b.toNat)) else none
  | _, _ => none
def gLt : PyData → PyData → Option PyData
  | .int a, .int b => some (.bool (decide (a < b)))
  | _, _ => none
def gLe : PyData → PyData → Option PyData
  | .int a, .int b => some (.bool (decide (a ≤ b)))
  | _, _ => none
def gGt : PyData → PyData → Option PyData
  | .int a, .int b => some (.bool (decide (b < a)))
  | _, _ => none
def gGe : PyData → PyData → Option PyData
  | .int a, .int b => some (.bool (decide (b ≤ a)))
  | _, _ => none
def gEq : PyData → PyData → Option PyData := fun a b => if (SeqAt.shaped a && SeqAt.shaped b) = true then some (.bool (PyData.eqv a b)) else none
def gNe : PyData → PyData → Option PyData := fun a b => if (SeqAt.shaped a && SeqAt.shaped b) = true then some (.bool (!PyData.eqv a b)) else none
def gCatS : PyData → PyData → Option PyData
  | .str a, .str b => if a.length + b.length ≤ 1000000 then some (.str (a ++ b)) else none
  | _, _ => none
def gCatT : PyData → PyData → Option PyData
  | .tuple a, .tuple b => if a.length + b.length ≤ 1000000 then some (.tuple (a ++ b)) else none
  | _, _ => none
def gCatL : PyData → PyData → Option PyData
  | .list a, .list b => if a.length + b.length ≤ 1000000 then some (.list (a ++ b)) else none
  | _, _ => none
def gRepL : PyData → PyData → Option PyData
  | .list a, .int k => if 0 ≤ k ∧ k ≤ 1000 ∧ a.length ≤ 1000 then some (.list (List.replicate k.toNat a).flatten) else none
  | _, _ => none
def flatD : PyData → Bool
  | .none => true
  | .bool _ => true
  | .int _ => true
  | .str _ => true
  | _ => false
def eqF : PyData → PyData → Bool
  | .none, .none => true
  | .bool a, .bool b => a == b
  | .bool a, .int b => (if a then 1 else 0) == b
  | .int a, .bool b => a == (if b then 1 else 0)
  | .int a, .int b => a == b
  | .str a, .str b => a == b
  | _, _ => false
def gIn : PyData → PyData → Option PyData
  | x, .tuple l => if (flatD x && l.all flatD) = true then some (.bool (l.any fun y => eqF y x)) else none
  | x, .list l => if (flatD x && l.all flatD) = true then some (.bool (l.any fun y => eqF y x)) else none
  | _, _ => none
def gInD : PyData → PyData → Option PyData
  | x, .list l => if (SeqAt.shaped x && SeqAt.shaped (.list l)) = true then some (.bool (l.any fun y => PyData.eqv y x)) else none
  | _, _ => none
def gInSign : PyData → PyData → Option PyData
  | .str u, .str z => (match u.cps.toList with
    | [c] => some (.bool (decide (c ∈ z.cps.toList)))
    | _ => none)
  | _, _ => none
def gIsN : PyData → PyData → Option PyData
  | a, .none => some (.bool (match a with | .none => true | _ => false))
  | _, _ => none
def gNotN : PyData → PyData → Option PyData
  | a, .none => some (.bool (match a with | .none => false | _ => true))
  | _, _ => none
theorem sz6 {n : Nat} (h : n ≤ 1000000) : n ≤ sizeLine := Nat.le_trans h (by decide)

section
variable {K : PySem.W.Frag}
theorem o_add : OpD K (rI0 fun i j => .int (i + j)) gAdd := by
  intro H x y a b z ha hb e Q q
  cases ha <;> cases hb <;> cases e
  exact ⟨_, _, rfl, rfl, q _ H (Same.refl H) (.int _)⟩
theorem o_sub : OpD K (rI0 fun i j => .int (i - j)) gSub := by
  intro H x y a b z ha hb e Q q
  cases ha <;> cases hb <;> cases e
  exact ⟨_, _, rfl, rfl, q _ H (Same.refl H) (.int _)⟩
theorem o_lt : OpD K (rI0 fun i j => .bl (decide (i < j))) gLt := by
  intro H x y a b z ha hb e Q q
  cases ha <;> cases hb <;> cases e
  exact ⟨_, _, rfl, rfl, q _ H (Same.refl H) (.bl _)⟩
theorem o_le : OpD K (rI0 fun i j => .bl (decide (i ≤ j))) gLe := by
  intro H x y a b z ha hb e Q q
  cases ha <;> cases hb <;> cases e
  exact ⟨_, _, rfl, rfl, q _ H (Same.refl H) (.bl _)⟩
theorem o_gt : OpD K (rI0 fun i j => .bl (decide (j < i))) gGt := by
  intro H x y a b z ha hb e Q q
  cases ha <;> cases hb <;> cases e
  exact ⟨_, _, rfl, rfl, q _ H (Same.refl H) (.bl _)⟩
theorem o_ge : OpD K (rI0 fun i j => .bl (decide (j ≤ i))) gGe := by
  intro H x y a b z ha hb e Q q
  cases ha <;> cases hb <;> cases e
  exact ⟨_, _, rfl, rfl, q _ H (Same.refl H) (.bl _)⟩
theorem o_mul : OpD K (rI CMulW fun i j => .int (i * j)) gMul := by
  intro H x y a b z ha hb e Q q
  cases ha <;> cases hb <;> try cases e
  rename_i i j
  have e1 : (if CMulW i j then some (PyData.int (i * j)) else none) = some z := e
  split at e1
  · rename_i hc
    cases e1
    exact ⟨_, _, rfl, rfl, hc, q _ H (Same.refl H) (.int _)⟩
  · cases e1
theorem o_div : OpD K (rI CDivW fun i j => .int (i / j)) gDiv := by
  intro H x y a b z ha hb e Q q
  cases ha <;> cases hb <;> try cases e
  rename_i i j
  have e1 : (if CDivW i j then some (PyData.int (i / j)) else none) = some z := e
  split at e1
  · rename_i hc
    cases e1
    exact ⟨_, _, rfl, rfl, hc, q _ H (Same.refl H) (.int _)⟩
  · cases e1
theorem o_mod : OpD K (rI (fun _ j => 0 < j) fun i j => .int (i % j)) gMod := by
  intro H x y a b z ha hb e Q q
  cases ha <;> cases hb <;> try cases e
  rename_i i j
  have e1 : (if 0 < j then some (PyData.int (i % j)) else none) = some z := e
  split at e1
  · rename_i hc
    cases e1
    exact ⟨_, _, rfl, rfl, hc, q _ H (Same.refl H) (.int _)⟩
  · cases e1
theorem o_pow : OpD K (rI CPow fun i j => .int (i ^ j.toNat)) gPow := by
  intro H x y a b z ha hb e Q q
  cases ha <;> cases hb <;> try cases e
  rename_i i j
  have e1 : (if CPow i j then some (PyData.int (i ^ j.toNat)) else none) = some z := e
  split at e1
  · rename_i hc
    cases e1
    exact ⟨_, _, rfl, rfl, hc, q _ H (Same.refl H) (.int _)⟩
  · cases e1
theorem o_eq : OpD K (rEqD K) gEq := by
  intro H x y a b z ha hb e Q q
  unfold gEq at e
  split at e
  · rename_i hc
    cases e
    obtain ⟨h1, h2⟩ := Bool.and_eq_true_iff.mp hc
    exact ⟨a, b, ha.dp, hb.dp, h1, h2, q _ H (Same.refl H) (.bl _)⟩
  · cases e
theorem o_ne : OpD K (rNeD K) gNe := by
  intro H x y a b z ha hb e Q q
  unfold gNe at e
  split at e
  · rename_i hc
    cases e
    obtain ⟨h1, h2⟩ := Bool.and_eq_true_iff.mp hc
    exact ⟨a, b, ha.dp, hb.dp, h1, h2, q _ H (Same.refl H) (.bl _)⟩
  · cases e
theorem o_catS : OpD K (fun x y H Q => ∃ i j, x = .str i ∧ y = .str j ∧ i.length + j.length ≤ sizeLine ∧ Q (.str (i ++ j)) H) gCatS := by
  intro H x y a b z ha hb e Q q
  cases ha <;> cases hb <;> try cases e
  rename_i i j
  have e1 : (if i.length + j.length ≤ 1000000 then some (PyData.str (i ++ j)) else none) = some z := e
  split at e1
  · rename_i hc
    cases e1
    exact ⟨_, _, rfl, rfl, sz6 hc, q _ H (Same.refl H) (.str _)⟩
  · cases e1
theorem o_catT : OpD K (rCatA K) gCatT := by
  intro H x y a b z ha hb e Q q
  cases ha <;> try cases e
  rename_i p xs ds hp hd
  cases hb <;> try cases e
  rename_i p2 ys es hp2 he
  have e1 : (if ds.length + es.length ≤ 1000000 then some (PyData.tuple (ds ++ es)) else none) = some z := e
  have l1 := hd.length
  have l2 := he.length
  split at e1
  · rename_i hc
    cases e1
    refine ⟨p, p2, xs, ys, rfl, rfl, hp, hp2, by rw [l1, l2]; exact sz6 hc, fun hx => ?_, fun hx hy => ?_, fun hx hy t ht => ?_⟩
    · subst hx
      cases hd
      exact q _ H (Same.refl H) (.tup hp2 he)
    · subst hy
      cases he
      rw [List.append_nil] at q
      exact q _ H (Same.refl H) (.tup hp hd)
    · exact q _ _ (same_new ht) (.tup (SqT.of upd_same) ((hd.append he).mono (same_new ht)))
  · cases e1
theorem o_catL : OpD K rCat gCatL := by
  intro H x y a b z ha hb e Q q
  cases ha <;> try cases e
  rename_i p xs ds hp hd
  cases hb <;> try cases e
  rename_i p2 ys es hp2 he
  have e1 : (if ds.length + es.length ≤ 1000000 then some (PyData.list (ds ++ es)) else none) = some z := e
  have l1 := hd.length
  have l2 := he.length
  split at e1
  · rename_i hc
    cases e1
    exact ⟨p, p2, xs, ys, rfl, rfl, hp, hp2, by rw [l1, l2]; exact sz6 hc, fun t ht => q _ _ (same_new ht) (.lst upd_same ((hd.append he).mono (same_new ht)))⟩
  · cases e1
theorem IsAll.rep {H : Hp} {vs : List V} {ds : List PyData} (h : IsAll K H vs ds) : ∀ k : Nat, IsAll K H (List.replicate k vs).flatten (List.replicate k ds).flatten
  | 0 => .nil
  | k + 1 => by
    rw [List.replicate_succ, List.replicate_succ, List.flatten_cons, List.flatten_cons]
    exact h.append (IsAll.rep h k)
theorem o_repL : OpD K rRep gRepL := by
  intro H x y a b z ha hb e Q q
  cases ha <;> try cases e
  rename_i p xs ds hp hd
  cases hb <;> try cases e
  rename_i k
  have e1 : (if 0 ≤ k ∧ k ≤ 1000 ∧ ds.length ≤ 1000 then some (PyData.list (List.replicate k.toNat ds).flatten) else none) = some z := e
  have l1 := hd.length
  split at e1
  · rename_i hc
    obtain ⟨h0, h1, h2⟩ := hc
    cases e1
    have hz : xs.length * k.toNat ≤ 1000000 := by
      rw [l1]
      have h3 : k.toNat ≤ 1000 := by omega
      exact Nat.le_trans (Nat.mul_le_mul h2 h3) (by decide)
    exact ⟨p, k, xs, rfl, rfl, hp, by omega, by omega, sz6 hz, fun t ht => q _ _ (same_new ht) (.lst upd_same ((hd.rep _).mono (same_new ht)))⟩
  · cases e1
theorem Is.flat {H : Hp} {v : V} {d : PyData} (h : Is K H v d) (f : flatD d = true) : flatV v = true := by
  cases h <;> first | rfl | cases f
theorem IsAll.flat {H : Hp} : ∀ {vs : List V} {ds : List PyData}, IsAll K H vs ds → ds.all flatD = true → vs.all flatV = true
  | _, _, .nil, _ => rfl
  | _, _, .cons h k, f => by
    rw [List.all_cons, Bool.and_eq_true_iff] at f ⊢
    exact ⟨h.flat f.1, IsAll.flat k f.2⟩
theorem Is.eqF {H : Hp} {v w : V} {d e : PyData} (h : Is K H v d) (k : Is K H w e) : eqV v w = eqF d e := by
  cases h <;> cases k <;> rfl
theorem IsAll.inV {H : Hp} {v : V} {d : PyData} (h : Is K H v d) : ∀ {vs : List V} {ds : List PyData}, IsAll K H vs ds → inV v vs = ds.any fun y => Arc.eqF y d
  | _, _, .nil => rfl
  | _, _, .cons k r => by
    have ih := IsAll.inV h r
    unfold L2.inV at ih ⊢
    rw [List.any_cons, List.any_cons, ih, k.eqF h]
theorem o_in : OpD K (rIn K false) gIn := by
  intro H x y a b z ha hb e Q q
  cases hb with
  | lst hp hd =>
    rename_i p xs ds
    have e1 : (if (flatD a && ds.all flatD) = true then some (PyData.bool (ds.any fun y => eqF y a)) else none) = some z := by cases a <;> exact e
    split at e1
    · rename_i hc
      cases e1
      obtain ⟨h1, h2⟩ := Bool.and_eq_true_iff.mp hc
      refine ⟨p, xs, rfl, .inl (SqL.of hp), ha.flat h1, hd.flat h2, ?_⟩
      rw [IsAll.inV ha hd]
      exact q _ H (Same.refl H) (.bl _)
    · cases e1
  | tup hp hd =>
    rename_i p xs ds
    have e1 : (if (flatD a && ds.all flatD) = true then some (PyData.bool (ds.any fun y => eqF y a)) else none) = some z := by cases a <;> exact e
    split at e1
    · rename_i hc
      cases e1
      obtain ⟨h1, h2⟩ := Bool.and_eq_true_iff.mp hc
      refine ⟨p, xs, rfl, .inr hp, ha.flat h1, hd.flat h2, ?_⟩
      rw [IsAll.inV ha hd]
      exact q _ H (Same.refl H) (.bl _)
    · cases e1
  | _ => cases a <;> cases e
theorem o_inD : OpD K (rInD K) gInD := by
  intro H x y a b z ha hb e Q q
  cases hb with
  | lst hp hd =>
    rename_i p xs ds
    have e1 : (if (SeqAt.shaped a && SeqAt.shaped (.list ds)) = true then some (PyData.bool (ds.any fun y => PyData.eqv y a)) else none) = some z := by cases a <;> exact e
    split at e1
    · rename_i hc
      cases e1
      obtain ⟨h1, h2⟩ := Bool.and_eq_true_iff.mp hc
      exact ⟨a, ds, ha.dp, (Is.lst hp hd).dp, h1, h2, q _ H (Same.refl H) (.bl _)⟩
    · cases e1
  | _ => cases a <;> cases e
theorem o_inSign : OpD K (fun x y H Q => ∃ (c : Nat) (z : Str), x = .str ⟨#[c]⟩ ∧ y = .str z ∧ Q (.bl (decide (c ∈ z.cps.toList))) H) gInSign := by
  intro H x y a b z ha hb e Q q
  cases ha <;> try (cases e; done)
  rename_i u
  cases hb <;> try (cases e; done)
  rename_i w
  have e1 : (match u.cps.toList with
    | [c] => some (PyData.bool (decide (c ∈ w.cps.toList)))
    | _ => none) = some z := e
  split at e1
  · rename_i c h1
    cases e1
    have hu : u = ⟨#[c]⟩ := by
      obtain ⟨cps⟩ := u
      have h2 : cps.toList = [c] := h1
      have h3 : cps = [c].toArray := by rw [← h2]
      rw [h3]
    exact ⟨c, w, by rw [hu], rfl, q _ H (Same.refl H) (.bl _)⟩
  · cases e1
theorem o_isN : OpD K (fun x y H Q => y = .non ∧ Q (.bl (decide (x = .non))) H) gIsN := by
  intro H x y a b z ha hb e Q q
  cases hb <;> try (cases a <;> cases e; done)
  refine ⟨rfl, ?_⟩
  cases ha <;> cases e <;> exact q _ H (Same.refl H) (.bl _)
theorem o_notN : OpD K (fun x y H Q => y = .non ∧ Q (.bl (!decide (x = .non))) H) gNotN := by
  intro H x y a b z ha hb e Q q
  cases hb <;> try (cases a <;> cases e; done)
  refine ⟨rfl, ?_⟩
  cases ha <;> cases e <;> exact q _ H (Same.refl H) (.bl _)

/-! subscripts, slices -/
def gIx : PyData → PyData → Option PyData
  | .tuple l, .int i => atI l i
  | .list l, .int i => atI l i
  | .str z, .int i => if z.length ≤ 1000000 then (atI z.cps.toList i).map fun c => .str ⟨#[c]⟩ else none
  | _, _ => none
theorem IsAll.atI {H : Hp} {vs : List V} {ds : List PyData} {i : Int} {d : PyData} (h : IsAll K H vs ds) (e : L2.atI ds i = some d) : ∃ v, L2.atI vs i = some v ∧ Is K H v d := by
  unfold L2.atI at e ⊢
  rw [h.length]
  cases q : ixN ds.length i with
  | none => rw [q] at e; cases e
  | some j =>
    rw [q] at e
    exact h.get (i := j) e
theorem o_ix : OpD K (rIx K) gIx := by
  intro H x y a b z ha hb e Q q
  cases ha with
  | lst hp hd =>
    cases hb <;> try cases e
    obtain ⟨v, h1, h2⟩ := hd.atI e
    exact .inl ⟨_, _, _, v, rfl, rfl, SqL.of hp, h1, q _ H (Same.refl H) h2⟩
  | tup hp hd =>
    cases hb <;> try cases e
    obtain ⟨v, h1, h2⟩ := hd.atI e
    exact .inr (.inl ⟨_, _, _, v, rfl, rfl, hp, h1, q _ H (Same.refl H) h2⟩)
  | str w =>
    cases hb <;> try cases e
    rename_i i
    have e1 : (if w.length ≤ 1000000 then (L2.atI w.cps.toList i).map fun c => PyData.str ⟨#[c]⟩ else none) = some z := e
    split at e1
    · rename_i hc
      obtain ⟨c, h1, h2⟩ := Option.map_eq_some_iff.mp e1
      subst h2
      exact .inr (.inr ⟨w, i, c, rfl, rfl, sz6 hc, h1, q _ H (Same.refl H) (.str _)⟩)
    · cases e1
  | _ => cases e
def cutL {α : Type} (xs : List α) (lo hi : Option Int) : List α := (xs.drop (HT.sIx xs.length 0 lo)).take (HT.sIx xs.length xs.length hi - HT.sIx xs.length 0 lo)
def gSl : PyData → Option Int → Option Int → Option PyData
  | .tuple l, lo, hi => some (.tuple (cutL l lo hi))
  | .list l, lo, hi => some (.list (cutL l lo hi))
  | .str z, lo, hi => if z.length ≤ 1000000 then some (.str (cutS z lo hi)) else none
  | _, _, _ => none
theorem IsAll.cut {H : Hp} {vs : List V} {ds : List PyData} {lo hi : Option Int} (h : IsAll K H vs ds) : IsAll K H (cutV vs lo hi) (cutL ds lo hi) := by
  unfold cutV cutL
  rw [h.length]
  exact (h.drop _).take _
def rSlAny (K : PySem.W.Frag) : V → Option Int → Option Int → Hp → VK → Prop := fun x lo hi H Q => rSlA K x lo hi H Q ∨ (rSlL K x lo hi H Q ∨ rSlS x lo hi H Q)
theorem cutL_whole {α : Type} (l : List α) (lo hi : Option Int) (h : HT.sIx l.length 0 lo = 0 ∧ HT.sIx l.length l.length hi = l.length) : cutL l lo hi = l := by
  unfold cutL
  rw [h.1, h.2, List.drop_zero, Nat.sub_zero, List.take_length]
theorem o_sl {H : Hp} {x : V} {a z : PyData} {lo hi : Option Int} (ha : Is K H x a) (e : gSl a lo hi = some z) (Q : VK) (q : ∀ v H', Same H H' → Is K H' v z → Q v H') : rSlAny K x lo hi H Q := by
  cases ha with
  | tup hp hd =>
    rename_i p xs ds
    have e1 : some (PyData.tuple (cutL ds lo hi)) = some z := e
    cases e1
    refine .inl ⟨p, xs, rfl, hp, fun hw => ?_, fun hw t ht => ?_⟩
    · rw [hd.length] at hw
      rw [cutL_whole ds lo hi hw] at q
      exact q _ H (Same.refl H) (.tup hp hd)
    · exact q _ _ (same_new ht) (.tup (SqT.of upd_same) (hd.cut.mono (same_new ht)))
  | lst hp hd =>
    rename_i p xs ds
    have e1 : some (PyData.list (cutL ds lo hi)) = some z := e
    cases e1
    exact .inr (.inl ⟨p, xs, rfl, SqL.of hp, fun t ht => q _ _ (same_new ht) (.lst upd_same (hd.cut.mono (same_new ht)))⟩)
  | str w =>
    have e1 : (if w.length ≤ 1000000 then some (PyData.str (cutS w lo hi)) else none) = some z := e
    split at e1
    · rename_i hc
      cases e1
      exact .inr (.inr ⟨w, rfl, sz6 hc, q _ H (Same.refl H) (.str _)⟩)
    · cases e1
  | _ => cases e
end
section
variable {X : Cx} {a b e : Expr} {fa fb fe : Rho → Option PyData} {pos p2 : Pos} {lo hi : Option Expr} {fl fh : Rho → Option (Option Int)}
theorem d_ix (ha : PE X a (tD X.K fa)) (hb : PE X b (tD X.K fb)) (hs : PlainIx b := by exact fun _ _ => rfl) : PE X (.Subscript a b pos) (tD X.K (f2 gIx fa fb)) :=
  peW (pe_ix ix_seq ha hb hs) (op2W (ta := tD X.K fa) (tb := tD X.K fb) o_ix)
theorem do_none : PO X none (tDO X.K (fun _ => some none)) := poW po_none fun σ H Q ⟨ρ, o, eo, e, q⟩ => by cases e; exact q H (Same.refl H)
def gI : PyData → Option (Option Int)
  | .int i => some (some i)
  | _ => none
theorem do_some (h : PE X e (tD X.K fe)) : PO X (some e) (tDO X.K (f1 gI fe)) := poW (po_some h) fun σ H Q ⟨ρ, o, eo, e, q⟩ => by
  obtain ⟨d, e1, e2⟩ := Option.bind_eq_some_iff.mp e
  refine ⟨ρ, d, eo, e1, fun v H1 s1 i1 => ?_⟩
  cases d <;> try cases e2
  exact ⟨_, i1.intI, q H1 s1⟩
def fSl (fa : Rho → Option PyData) (fl fh : Rho → Option (Option Int)) : Rho → Option PyData := fun ρ => (fa ρ).bind fun a => (fl ρ).bind fun l => (fh ρ).bind fun h => gSl a l h
theorem d_sl (he : PE X e (tD X.K fe)) (hl : PO X lo (tDO X.K fl)) (hu : PO X hi (tDO X.K fh)) : PE X (.Subscript e (.Slice lo hi none p2) pos) (tD X.K (fSl fe fl fh)) :=
  peW (pe_slice (r := rSlAny X.K) (sl_tupA.or (sl_list.or sl_str)) he hl hu) fun σ H Q ⟨ρ, d, eo, e, q⟩ => by
    obtain ⟨a, e1, e⟩ := Option.bind_eq_some_iff.mp e
    obtain ⟨l, e2, e⟩ := Option.bind_eq_some_iff.mp e
    obtain ⟨h, e3, e⟩ := Option.bind_eq_some_iff.mp e
    exact ⟨ρ, a, eo, e1, fun v H1 s1 i1 => ⟨ρ, l, eo.mono s1, e2, fun H2 s2 => ⟨ρ, h, eo.mono (s1.trans s2), e3, fun H3 s3 =>
      o_sl (i1.mono (s2.trans s3)) e Q fun v H4 s4 i4 => q v H4 (s1.trans (s2.trans (s3.trans s4))) i4⟩⟩⟩

/-! and, or, not; displays -/
def fAnd (fa fb : Rho → Option Bool) : Rho → Option Bool := fun ρ => (fa ρ).bind fun a => if a = true then fb ρ else some false
def fOr (fa fb : Rho → Option Bool) : Rho → Option Bool := fun ρ => (fa ρ).bind fun a => if a = true then some true else fb ρ
def fAndV (fa fb : Rho → Option PyData) : Rho → Option PyData := fun ρ => ((fa ρ).bind gB).bind fun a => if a = true then fb ρ else some (.bool false)
def fOrV (fa fb : Rho → Option PyData) : Rho → Option PyData := fun ρ => ((fa ρ).bind gB).bind fun a => if a = true then some (.bool true) else fb ρ
def gNot : Bool → Option Bool := fun b => some (!b)
def gNotV : PyData → Option PyData
  | .bool b => some (.bool (!b))
  | _ => none
variable {ta tb : Rho → Option Bool} {rest : List Expr}
theorem dw_and1 (ha : PT X a (tDT X.K ta)) : PW X (.BoolOp .And [a] pos) (tDT X.K ta) := pw_and1 ha
theorem dw_or1 (ha : PT X a (tDT X.K ta)) : PW X (.BoolOp .Or [a] pos) (tDT X.K ta) := pw_or1 ha
theorem dw_and (ha : PT X a (tDT X.K ta)) (hb : PW X (.BoolOp .And (b :: rest) pos) (tDT X.K tb)) : PW X (.BoolOp .And (a :: b :: rest) pos) (tDT X.K (fAnd ta tb)) :=
  pwW (pw_and ha hb) fun σ H Q ⟨ρ, k, eo, e, q⟩ => by
    obtain ⟨c, e1, e2⟩ := Option.bind_eq_some_iff.mp e
    refine ⟨ρ, c, eo, e1, fun H1 s1 => ?_⟩
    cases c with
    | true => exact iteT ⟨ρ, k, eo.mono s1, e2, fun H2 s2 => q H2 (s1.trans s2)⟩
    | false =>
      cases e2
      exact iteF (q H1 s1)
theorem dw_or (ha : PT X a (tDT X.K ta)) (hb : PW X (.BoolOp .Or (b :: rest) pos) (tDT X.K tb)) : PW X (.BoolOp .Or (a :: b :: rest) pos) (tDT X.K (fOr ta tb)) :=
  pwW (pw_or ha hb) fun σ H Q ⟨ρ, k, eo, e, q⟩ => by
    obtain ⟨c, e1, e2⟩ := Option.bind_eq_some_iff.mp e
    refine ⟨ρ, c, eo, e1, fun H1 s1 => ?_⟩
    cases c with
    | true =>
      cases e2
      exact iteT (q H1 s1)
    | false => exact iteF ⟨ρ, k, eo.mono s1, e2, fun H2 s2 => q H2 (s1.trans s2)⟩
theorem dt_not (ha : PT X a (tDT X.K ta)) : PT X (.UnaryOp .Not a pos) (tDT X.K (f1 gNot ta)) := ptW (pt_not ha) fun σ H Q ⟨ρ, k, eo, e, q⟩ => by
  obtain ⟨c, e1, e2⟩ := Option.bind_eq_some_iff.mp e
  cases e2
  exact ⟨ρ, c, eo, e1, fun H1 s1 => q H1 s1⟩
theorem gB_some {d : PyData} {b : Bool} (h : gB d = some b) : d = .bool b := by
  cases d <;> cases h
  rfl
theorem d_one {op} (h : PE X a (tD X.K fa)) : PE X (.BoolOp op [a] pos) (tD X.K fa) := pe_one h
theorem d_and (ha : PE X a (tD X.K fa)) (hb : PE X (.BoolOp .And (b :: rest) pos) (tD X.K fb)) : PE X (.BoolOp .And (a :: b :: rest) pos) (tD X.K (fAndV fa fb)) :=
  peW (pe_and ha hb) fun σ H Q ⟨ρ, k, eo, e, q⟩ => by
    obtain ⟨c, e1, e2⟩ := Option.bind_eq_some_iff.mp e
    obtain ⟨d, e3, e4⟩ := Option.bind_eq_some_iff.mp e1
    have e5 := gB_some e4
    subst e5
    refine ⟨ρ, _, eo, e3, fun v H1 s1 i1 => ⟨c, i1.blI, ?_⟩⟩
    cases c with
    | true => exact iteT ⟨ρ, k, eo.mono s1, e2, fun v H2 s2 i2 => q v H2 (s1.trans s2) i2⟩
    | false =>
      cases e2
      exact iteF (q _ H1 s1 (.bl _))
theorem d_or (ha : PE X a (tD X.K fa)) (hb : PE X (.BoolOp .Or (b :: rest) pos) (tD X.K fb)) : PE X (.BoolOp .Or (a :: b :: rest) pos) (tD X.K (fOrV fa fb)) :=
  peW (pe_or ha hb) fun σ H Q ⟨ρ, k, eo, e, q⟩ => by
    obtain ⟨c, e1, e2⟩ := Option.bind_eq_some_iff.mp e
    obtain ⟨d, e3, e4⟩ := Option.bind_eq_some_iff.mp e1
    have e5 := gB_some e4
    subst e5
    refine ⟨ρ, _, eo, e3, fun v H1 s1 i1 => ⟨c, i1.blI, ?_⟩⟩
    cases c with
    | true =>
      cases e2
      exact iteT (q _ H1 s1 (.bl _))
    | false => exact iteF ⟨ρ, k, eo.mono s1, e2, fun v H2 s2 i2 => q v H2 (s1.trans s2) i2⟩
theorem d_not (ha : PE X a (tD X.K fa)) : PE X (.UnaryOp .Not a pos) (tD X.K (f1 gNotV fa)) := peW (pe_not ha) fun σ H Q ⟨ρ, k, eo, e, q⟩ => by
  obtain ⟨d, e1, e2⟩ := Option.bind_eq_some_iff.mp e
  refine ⟨ρ, d, eo, e1, fun v H1 s1 i1 => ?_⟩
  cases d <;> try cases e2
  exact ⟨_, i1.blI, q _ H1 s1 (.bl _)⟩
def gNeg : PyData → Option PyData
  | .int i => some (.int (-i))
  | _ => none
theorem d_neg (ha : PE X a (tD X.K fa)) : PE X (.UnaryOp .USub a pos) (tD X.K (f1 gNeg fa)) := peW (pe_un un_neg ha) fun σ H Q ⟨ρ, k, eo, e, q⟩ => by
  obtain ⟨d, e1, e2⟩ := Option.bind_eq_some_iff.mp e
  refine ⟨ρ, d, eo, e1, fun v H1 s1 i1 => ?_⟩
  cases d <;> try cases e2
  exact ⟨_, i1.intI, q _ H1 s1 (.int _)⟩
/-- a if t else b -/
theorem da_nil : PA X [] (tDA X.K 0 fNil) := paW pa_nil fun σ H Q ⟨ρ, ds, eo, e, q⟩ => by
  cases e
  exact q [] H (Same.refl H) .nil rfl
theorem da_cons {es : List Expr} {n : Nat} {fr : Rho → Option (List PyData)} (ha : PE X e (tD X.K fe)) (hr : PA X es (tDA X.K n fr)) (hs : starEach (e :: es) X.env = (false, eval e X.env) :: starEach es X.env := by rfl) :
    PA X (e :: es) (tDA X.K (n + 1) (fCons fe fr)) := paW (pa_cons ha hr hs) fun σ H Q ⟨ρ, ds, eo, e, q⟩ => by
  obtain ⟨a, e1, e⟩ := Option.bind_eq_some_iff.mp e
  obtain ⟨l, e2, e⟩ := Option.bind_eq_some_iff.mp e
  cases e
  exact ⟨ρ, a, eo, e1, fun v H1 s1 i1 => ⟨ρ, l, eo.mono s1, e2, fun vs H2 s2 i2 hl => q _ H2 (s1.trans s2) (.cons (i1.mono s2) i2) (by rw [List.length_cons, hl])⟩⟩
def gTu : List PyData → Option PyData := fun l => some (.tuple l)
def gLs : List PyData → Option PyData := fun l => some (.list l)
variable {es : List Expr} {n : Nat} {fr : Rho → Option (List PyData)}
theorem d_tup {x1} (h : PA X es (tDA X.K n fr)) (hn : n ≤ 1000 := by decide) : PE X (.Tuple es x1 pos) (tD X.K (f1 gTu fr)) := peW (pe_tup h) fun σ H Q ⟨ρ, k, eo, e, q⟩ => by
  obtain ⟨l, e1, e⟩ := Option.bind_eq_some_iff.mp e
  cases e
  exact ⟨ρ, l, eo, e1, fun vs H1 s1 i1 hl => ⟨by rw [i1.length, hl]; exact sz6 (by omega), fun p hp => q _ _ (s1.trans (same_new hp)) (.tup (SqT.of upd_same) (i1.mono (same_new hp)))⟩⟩
theorem d_lst (h : PA X es (tDA X.K n fr)) (hn : n ≤ 1000 := by decide) : PE X (.List es pos) (tD X.K (f1 gLs fr)) := peW (pe_lst h) fun σ H Q ⟨ρ, k, eo, e, q⟩ => by
  obtain ⟨l, e1, e⟩ := Option.bind_eq_some_iff.mp e
  cases e
  exact ⟨ρ, l, eo, e1, fun vs H1 s1 i1 hl => ⟨by rw [i1.length, hl]; exact sz6 (by omega), fun p hp => q _ _ (s1.trans (same_new hp)) (.lst upd_same (i1.mono (same_new hp)))⟩⟩
end
end Arc
set_option Elab.async false
set_option linter.all false
set_option maxRecDepth 100000
set_option maxHeartbeats 2000000
namespace Arc
open PySem L2
/-! ### calls -/
/-- a def that is a function of data -/
def FnSpec (K : PySem.W.Frag) (g : List PyData → Option PyData) : Sp := fun vs H Q _ => ∃ ds r, IsAll K H vs ds ∧ g ds = some r ∧ ∀ v H', Same H H' → Is K H' v r → Q v H'
/-- the def x of the module keeps that promise -/
structure Fc (P : Program) (w : World) (K : PySem.W.Frag) (mg : Str → Option Value) (base : Heap) (k : Nat) (x : Str) (ps : List Str) (g : List PyData → Option PyData) : Prop where
  ex : ∃ f fd, FnOk P w K mg base CX0 k f fd ps (FnSpec K g) ∧ mg x = some (.ref f) ∧ PySem.W.keepIn K (.ref f) = true ∧ Binds K fd ps []
theorem Fc.mono {P : Program} {w : World} {K : PySem.W.Frag} {mg : Str → Option Value} {base : Heap} {j k : Nat} {x : Str} {ps : List Str} {g : List PyData → Option PyData} (h : Fc P w K mg base j x ps g) (hj : j ≤ k) : Fc P w K mg base k x ps g := by
  obtain ⟨f, fd, h1, h2⟩ := h.ex
  exact ⟨f, fd, h1.mono hj, h2⟩
/-- a weaker function -/
theorem Fc.imp {P : Program} {w : World} {K : PySem.W.Frag} {mg : Str → Option Value} {base : Heap} {k : Nat} {x : Str} {ps : List Str} {g g' : List PyData → Option PyData} (h : Fc P w K mg base k x ps g) (hg : ∀ ds r, g' ds = some r → g ds = some r) : Fc P w K mg base k x ps g' := by
  obtain ⟨f, fd, h1, h2⟩ := h.ex
  exact ⟨f, fd, h1.imp fun vs H Q E ⟨ds, r, a, b, c⟩ => ⟨ds, r, a, hg ds r b, c⟩, h2⟩
theorem Fc.zero {P : Program} {w : World} {K : PySem.W.Frag} {mg : Str → Option Value} {base : Heap} {k : Nat} {x : Str} {ps : List Str} {f : Addr} {fd : FuncData} (hm : mg x = some (.ref f)) (hk : PySem.W.keepIn K (.ref f) = true) (hb : Binds K fd ps []) : Fc P w K mg base k x ps (fun _ => none) :=
  ⟨f, fd, ⟨fun vs H Q E ⟨ds, r, a, b, c⟩ => (nomatch b), fun A outer s H args us vs Q E _ _ _ _ ⟨ds, r, a, b, c⟩ => nomatch b⟩, hm, hk, hb⟩
section
variable {X : Cx} {x : Str} {p pos : Pos} {e : Expr} {es : List Expr} {n k j : Nat} {ps : List Str} {g : List PyData → Option PyData} {fr : Rho → Option (List PyData)} {fe : Rho → Option PyData}
theorem callW {K : PySem.W.Frag} : ∀ σ H Q, tD K (f1 g fr) σ H Q → tCall (FnSpec K g) [] E0 (tDA K n fr) σ H Q := fun σ H Q ⟨ρ, d, eo, e, q⟩ => by
  obtain ⟨l, e1, e2⟩ := Option.bind_eq_some_iff.mp e
  refine ⟨ρ, l, eo, e1, fun vs H1 s1 i1 hl => ⟨l, d, ?_, e2, fun v H2 s2 i2 => q v H2 (s1.trans s2) i2⟩⟩
  rw [List.append_nil]
  exact i1
theorem d_call (C : Fc X.prog X.w X.K X.mg X.base j x ps g) (hr : Room k X.A) (ha : PA X (e :: es) (tDA X.K n fr)) (hj : j ≤ k := by decide) (hg : Gl X x := by rfl) (hdb : (x == ("__debug__" : Str)) = false := by decide)
    (he : starEach (e :: es) X.env = (false, eval e X.env) :: starEach es X.env := by rfl) (hpl : (backTo pos (starEach es X.env)).any (·.1) = false := by rfl) : PE X (.Call (.Name x p) (e :: es) [] pos) (tD X.K (f1 g fr)) := by
  obtain ⟨f, fd, h1, h2, h3, h4⟩ := C.ex
  exact peW (pe_call h1 (hr.mono hj) hg h2 h3 h4 .nil pass0 ha hdb he hpl) callW
theorem d_call0 (C : Fc X.prog X.w X.K X.mg X.base j x ps g) (hr : Room k X.A) (hj : j ≤ k := by decide) (hg : Gl X x := by rfl) (hdb : (x == ("__debug__" : Str)) = false := by decide) : PE X (.Call (.Name x p) [] [] pos) (tD X.K (f1 g fNil)) := by
  obtain ⟨f, fd, h1, h2, h3, h4⟩ := C.ex
  refine peW (pe_call0 h1 (hr.mono hj) hg h2 h3 h4 .nil pass0 hdb) fun σ H Q ⟨ρ, d, eo, e, q⟩ => ?_
  exact ⟨[], d, .nil, e, q⟩
/-- a call that leaves the last parameters to their defaults, which are data -/
structure FcD (P : Program) (w : World) (K : PySem.W.Frag) (mg : Str → Option Value) (base : Heap) (k : Nat) (x : Str) (ps : List Str) (dfl : List PyData) (g : List PyData → Option PyData) : Prop where
  ex : ∃ f fd dvs ds, FnOk P w K mg base CX0 k f fd ps (FnSpec K g) ∧ mg x = some (.ref f) ∧ PySem.W.keepIn K (.ref f) = true ∧ Binds K fd ps ds ∧ Vals dvs ds ∧ ∀ H, IsAll K H dvs dfl
theorem d_callD {dfl : List PyData} (C : FcD X.prog X.w X.K X.mg X.base j x ps dfl g) (hr : Room k X.A) (ha : PA X (e :: es) (tDA X.K n fr)) (hj : j ≤ k := by decide) (hg : Gl X x := by rfl) (hdb : (x == ("__debug__" : Str)) = false := by decide)
    (he : starEach (e :: es) X.env = (false, eval e X.env) :: starEach es X.env := by rfl) (hpl : (backTo pos (starEach es X.env)).any (·.1) = false := by rfl) : PE X (.Call (.Name x p) (e :: es) [] pos) (tD X.K (f1 (fun l => g (l ++ dfl)) fr)) := by
  obtain ⟨f, fd, dvs, ds, h1, h2, h3, h4, h5, h6⟩ := C.ex
  refine peW (pe_call h1 (hr.mono hj) hg h2 h3 h4 h5 pass0 ha hdb he hpl) fun σ H Q ⟨ρ, d, eo, e, q⟩ => ?_
  obtain ⟨l, e1, e2⟩ := Option.bind_eq_some_iff.mp e
  exact ⟨ρ, l, eo, e1, fun vs H1 s1 i1 hl => ⟨l ++ dfl, d, i1.append (h6 H1), e2, fun v H2 s2 i2 => q v H2 (s1.trans s2) i2⟩⟩
/-- a builtin's call on data -/
def ClD (K : PySem.W.Frag) (r : List V → Hp → VK → Prop) (g : List PyData → Option PyData) : Prop :=
  ∀ (H : Hp) (vs : List V) (ds : List PyData) (z : PyData), IsAll K H vs ds → g ds = some z → ∀ Q : VK, (∀ v H', Same H H' → Is K H' v z → Q v H') → r vs H Q
theorem cbW {K : PySem.W.Frag} {r : List V → Hp → VK → Prop} (hg : ClD K r g) : ∀ σ H Q, tD K (f1 g fr) σ H Q → tCB r (tDA K n fr) σ H Q := fun σ H Q ⟨ρ, d, eo, e, q⟩ => by
  obtain ⟨l, e1, e2⟩ := Option.bind_eq_some_iff.mp e
  exact ⟨ρ, l, eo, e1, fun vs H1 s1 i1 hl => hg H1 vs l d i1 e2 Q fun v H2 s2 i2 => q v H2 (s1.trans s2) i2⟩
theorem d_bi {id : String} {r : List V → Hp → VK → Prop} (hc : CallR X (.builtin id) r) (hd : ClD X.K r g) (hm : X.mg x = none) (hv : bootBuiltins x = some (.builtin id)) (ha : PA X (e :: es) (tDA X.K n fr)) (hg : Gl X x := by rfl) (hn : x ≠ "__name__" := by decide) (hdb : (x == ("__debug__" : Str)) = false := by decide)
    (he : starEach (e :: es) X.env = (false, eval e X.env) :: starEach es X.env := by rfl) (hpl : (backTo pos (starEach es X.env)).any (·.1) = false := by rfl) : PE X (.Call (.Name x p) (e :: es) [] pos) (tD X.K (f1 g fr)) :=
  peW (pe_callB hc hg hm hv ha hn hdb he hpl) (cbW hd)
theorem d_ty {T : String} {r : List V → Hp → VK → Prop} (hc : CallR X (.type T) r) (hd : ClD X.K r g) (hm : X.mg x = none) (hv : bootBuiltins x = some (.type T)) (ha : PA X (e :: es) (tDA X.K n fr)) (hg : Gl X x := by rfl) (hn : x ≠ "__name__" := by decide) (hdb : (x == ("__debug__" : Str)) = false := by decide)
    (he : starEach (e :: es) X.env = (false, eval e X.env) :: starEach es X.env := by rfl) (hpl : (backTo pos (starEach es X.env)).any (·.1) = false := by rfl) : PE X (.Call (.Name x p) (e :: es) [] pos) (tD X.K (f1 g fr)) :=
  peW (pe_callTy hc hg hm hv ha hn hdb he hpl) (cbW hd)
end
/-! the builtins -/
def on1 (g : PyData → Option PyData) : List PyData → Option PyData
  | [d] => g d
  | _ => none
def on2 (g : PyData → PyData → Option PyData) : List PyData → Option PyData
  | [d, e] => g d e
  | _ => none
def gLen : PyData → Option PyData
  | .tuple l => some (.int l.length)
  | .list l => some (.int l.length)
  | .str z => if z.length ≤ 1000000 then some (.int z.length) else none
  | _ => none
def gAbs : PyData → Option PyData
  | .int i => some (.int (if i < 0 then -i else i))
  | _ => none
def gMin : PyData → PyData → Option PyData
  | .int i, .int j => some (.int (if j < i then j else i))
  | _, _ => none
def gInt : PyData → Option PyData
  | .int i => some (.int i)
  | .bool b => some (.int (if b then 1 else 0))
  | _ => none
def gIntS : PyData → Option PyData
  | .str z => if z.length ≤ 640 then (PySem.intText? z).map .int else none
  | _ => none
def gStr : PyData → Option PyData
  | .int i => if i.natAbs.log2 < 1920 then some (.str (toString i)) else none
  | _ => none
def gTuple : PyData → Option PyData
  | .list l => some (.tuple l)
  | .tuple l => some (.tuple l)
  | _ => none
def asBools : List PyData → Option (List Bool)
  | [] => some []
  | .bool b :: r => (asBools r).map (b :: ·)
  | _ => none
def gAll : PyData → Option PyData
  | .list l => (asBools l).map fun bs => .bool (bs.all id)
  | _ => none
section
variable {K : PySem.W.Frag}
theorem cl1 {r : List V → Hp → VK → Prop} {g : PyData → Option PyData} (h : ∀ (H : Hp) (v : V) (d z : PyData), Is K H v d → g d = some z → ∀ Q : VK, (∀ v H', Same H H' → Is K H' v z → Q v H') → r [v] H Q) : ClD K r (on1 g) := by
  intro H vs ds z hh e Q q
  cases hh with
  | nil => cases e
  | cons h1 k =>
    cases k with
    | cons _ _ => cases e
    | nil => exact h H _ _ z h1 e Q q
theorem cl2 {r : List V → Hp → VK → Prop} {g : PyData → PyData → Option PyData} (h : ∀ (H : Hp) (v w : V) (d e z : PyData), Is K H v d → Is K H w e → g d e = some z → ∀ Q : VK, (∀ v H', Same H H' → Is K H' v z → Q v H') → r [v, w] H Q) : ClD K r (on2 g) := by
  intro H vs ds z hh e Q q
  cases hh with
  | nil => cases e
  | cons h1 k =>
    cases k with
    | nil => cases e
    | cons h2 k =>
      cases k with
      | cons _ _ => cases e
      | nil => exact h H _ _ _ _ z h1 h2 e Q q
theorem c_len : ClD K (fun xs H Q => ∃ x n, xs = [x] ∧ LenV K x H n ∧ Q (.int n) H) (on1 gLen) := cl1 fun H v d z h e Q q => by
  cases h with
  | tup hp hd =>
    cases e
    exact ⟨_, _, rfl, .inr ⟨_, hp, hd.length.symm⟩, q _ H (Same.refl H) (.int _)⟩
  | lst hp hd =>
    cases e
    exact ⟨_, _, rfl, .inl ⟨_, SqL.of hp, hd.length.symm⟩, q _ H (Same.refl H) (.int _)⟩
  | str w =>
    have e1 : (if w.length ≤ 1000000 then some (PyData.int w.length) else none) = some z := e
    split at e1
    · rename_i hc
      cases e1
      exact ⟨_, _, rfl, ⟨sz6 hc, rfl⟩, q _ H (Same.refl H) (.int _)⟩
    · cases e1
  | _ => cases e
theorem c_abs : ClD K (fun xs H Q => ∃ i, xs = [.int i] ∧ Q (.int (if i < 0 then -i else i)) H) (on1 gAbs) := cl1 fun H v d z h e Q q => by
  cases h <;> cases e
  exact ⟨_, rfl, q _ H (Same.refl H) (.int _)⟩
theorem c_min : ClD K (fun xs H Q => ∃ i j, xs = [.int i, .int j] ∧ Q (.int (if j < i then j else i)) H) (on2 gMin) := cl2 fun H v w d d2 z h h2 e Q q => by
  cases h <;> cases h2 <;> cases e
  exact ⟨_, _, rfl, q _ H (Same.refl H) (.int _)⟩
theorem c_int : ClD K (fun xs H Q => (∃ i, xs = [.int i] ∧ Q (.int i) H) ∨ ∃ k, xs = [.bl k] ∧ Q (.int (if k then 1 else 0)) H) (on1 gInt) := cl1 fun H v d z h e Q q => by
  cases h <;> cases e
  · exact .inr ⟨_, rfl, q _ H (Same.refl H) (.int _)⟩
  · exact .inl ⟨_, rfl, q _ H (Same.refl H) (.int _)⟩
theorem c_intS : ClD K (fun xs H Q => ∃ a n, xs = [.str a] ∧ PySem.intText? a = some n ∧ a.length ≤ 640 ∧ Q (.int n) H) (on1 gIntS) := cl1 fun H v d z h e Q q => by
  cases h <;> try (cases e; done)
  rename_i w
  have e1 : (if w.length ≤ 640 then (PySem.intText? w).map PyData.int else none) = some z := e
  split at e1
  · rename_i hc
    obtain ⟨n, h1, h2⟩ := Option.map_eq_some_iff.mp e1
    subst h2
    exact ⟨_, n, rfl, h1, hc, q _ H (Same.refl H) (.int _)⟩
  · cases e1
theorem c_str : ClD K (fun xs H Q => ∃ i, xs = [.int i] ∧ i.natAbs.log2 < 1920 ∧ Q (.str (toString i)) H) (on1 gStr) := cl1 fun H v d z h e Q q => by
  cases h <;> try (cases e; done)
  rename_i i
  have e1 : (if i.natAbs.log2 < 1920 then some (PyData.str (toString i)) else none) = some z := e
  split at e1
  · rename_i hc
    cases e1
    exact ⟨_, rfl, hc, q _ H (Same.refl H) (.str _)⟩
  · cases e1
theorem c_tuple : ClD K (fun xs H Q => ∃ p ys, xs = [.ref p] ∧ ((SqL K H p ys ∧ ∀ l, H l = none → Q (.ref l) (upd H l (.tup ys))) ∨ (SqT K H p ys ∧ Q (.ref p) H))) (on1 gTuple) := cl1 fun H v d z h e Q q => by
  cases h <;> cases e
  · rename_i hp hd
    exact ⟨_, _, rfl, .inl ⟨SqL.of hp, fun l hl => q _ _ (same_new hl) (.tup (SqT.of upd_same) (hd.mono (same_new hl)))⟩⟩
  · rename_i hp hd
    exact ⟨_, _, rfl, .inr ⟨hp, q _ H (Same.refl H) (.tup hp hd)⟩⟩
theorem asBools_ok {H : Hp} : ∀ {vs : List V} {ds : List PyData} {bs : List Bool}, IsAll K H vs ds → asBools ds = some bs → vs = bs.map V.bl
  | _, _, bs, .nil, e => by cases e; rfl
  | _, _, bs, @IsAll.cons _ _ v vs d ds h k, e => by
    cases d <;> try (cases e; done)
    rename_i b
    have e1 : (asBools ds).map (b :: ·) = some bs := e
    obtain ⟨cs, h1, h2⟩ := Option.map_eq_some_iff.mp e1
    subst h2
    rw [h.blI, asBools_ok k h1]
    rfl
theorem c_all : ClD K (rAll K) (on1 gAll) := cl1 fun H v d z h e Q q => by
  cases h <;> try (cases e; done)
  rename_i a xs ds hp hd
  have e1 : (asBools ds).map (fun bs => PyData.bool (bs.all id)) = some z := e
  obtain ⟨bs, h1, h2⟩ := Option.map_eq_some_iff.mp e1
  subst h2
  refine ⟨_, bs, rfl, ?_, q _ H (Same.refl H) (.bl _)⟩
  rw [← asBools_ok hd h1]
  exact SqL.of hp
end
/-! isinstance -/
def tyD : PyData → String
  | .none => "NoneType"
  | .bool _ => "bool"
  | .int _ => "int"
  | .str _ => "str"
  | .list _ => "list"
  | .tuple _ => "tuple"
  | .dict _ => "dict"
theorem Is.ty {K : PySem.W.Frag} {H : Hp} {v : V} {d : PyData} (h : Is K H v d) : TyX K H v (.type (tyD d)) := by
  cases h with
  | non => exact .base .non
  | bl b => exact .base (.bl b)
  | int i => exact .base (.int i)
  | str x => exact .base (.str x)
  | lst hp _ => exact .base (.lst hp)
  | tup hp _ =>
    rcases hp with (hp | ⟨o, hp⟩) | ⟨o, its, n, hk, hc, _⟩
    · exact .base (.tup hp)
    · exact .fTuple hp
    · exact .kTuple hk hc
/-- isinstance(a, T): T among int, bool, str, tuple -/
def gIsi (T : String) : PyData → Option PyData := fun d => (kitB (tyD d) T).map .bool
section
variable {X : Cx} {p p2 pos : Pos} {e : Expr} {fe : Rho → Option PyData} {T : String} {x : Str}
theorem d_isi (hm : X.mg "isinstance" = none) (hm2 : X.mg x = none) (hv : bootBuiltins x = some (.type T)) (ha : PE X e (tD X.K fe)) (hs : starEach [e, .Name x p2] X.env = (false, eval e X.env) :: starEach [.Name x p2] X.env := by rfl) (hg : Gl X "isinstance" := by rfl) (hg2 : Gl X x := by rfl) (hn : x ≠ "__name__" := by decide) (hdb : (x == ("__debug__" : Str)) = false := by decide)
    (hpl : (backTo pos (starEach [.Name x p2] X.env)).any (·.1) = false := by rfl) :
    PE X (.Call (.Name "isinstance" p) [e, .Name x p2] [] pos) (tD X.K (f1 (gIsi T) fe)) := by
  refine peW (pe_callB call_isi hg hm (by decide +kernel) (pa_cons ha (pa_cons (pe_bltn (v := .ty T) hg2 hm2 hv rfl hn hdb) pa_nil) hs) (by decide) (by decide) hs hpl) fun σ H Q ⟨ρ, d, eo, e, q⟩ => ?_
  obtain ⟨a, e1, e2⟩ := Option.bind_eq_some_iff.mp e
  obtain ⟨b, e3, e4⟩ := Option.map_eq_some_iff.mp e2
  subst e4
  exact ⟨ρ, a, eo, e1, fun v H1 s1 i1 => ⟨v, .ty T, _, _, b, rfl, .ty T, i1.ty, kit_ty e3, q _ H1 s1 (.bl b)⟩⟩
end
/-! ### a table of the module: text keys, whole numbers -/
structure KTab (K : PySem.W.Frag) (w : World) (mg : Str → Option Value) (x : Str) (tbl : List (Str × Int)) : Prop where
  ex : ∃ a es n, mg x = some (.ref a) ∧ KDict K w a es n ∧ ∀ q ∈ tbl, ∃ u, PySem.W.nsIn K a q.1 = some (some u) ∧ RelV (.int q.2) u
def gKd (tbl : List (Str × Int)) : PyData → Option PyData
  | .str z => (tbl.lookup z).map .int
  | _ => none
def gKnot (tbl : List (Str × Int)) : PyData → Option PyData
  | .str z => (tbl.lookup z).map fun _ => .bool false
  | _ => none
theorem lookup_memS {α : Type} : ∀ {l : List (Str × α)} {z : Str} {v : α}, l.lookup z = some v → (z, v) ∈ l
  | (k, u) :: r, z, v, h => by
    rw [List.lookup_cons] at h
    cases hb : z == k with
    | true =>
      rw [hb] at h
      cases h
      rw [beq_iff_eq.mp hb]
      exact List.mem_cons_self
    | false =>
      rw [hb] at h
      exact List.mem_cons_of_mem _ (lookup_memS h)
section
variable {X : Cx} {p pos : Pos} {b : Expr} {fb : Rho → Option PyData} {x : Str} {tbl : List (Str × Int)}
theorem d_kd (T : KTab X.K X.w X.mg x tbl) (hb : PE X b (tD X.K fb)) (hs : PlainIx b := by exact fun _ _ => rfl) (hg : Gl X x := by rfl) (hdb : (x == ("__debug__" : Str)) = false := by decide) : PE X (.Subscript (.Name x p) b pos) (tD X.K (f1 (gKd tbl) fb)) := by
  obtain ⟨a, es, n, hm, D, ht⟩ := T.ex
  refine peW (pe_ix ix_kdict (pe_glob (v := .ref a) hg hm rfl hdb) hb hs) fun σ H Q ⟨ρ, d, eo, e, q⟩ => ?_
  obtain ⟨k, e1, e2⟩ := Option.bind_eq_some_iff.mp e
  show tD X.K fb σ H _
  refine ⟨ρ, k, eo, e1, fun v H1 s1 i1 => ?_⟩
  cases k <;> try cases e2
  rename_i z
  have e3 : (tbl.lookup z).map PyData.int = some d := e2
  obtain ⟨i, h1, h2⟩ := Option.map_eq_some_iff.mp e3
  subst h2
  obtain ⟨u, h3, h4⟩ := ht _ (lookup_memS h1)
  exact ⟨a, z, .int i, rfl, i1.strI, ⟨es, n, u, D.at_, D.lit, h3, h4⟩, q _ H1 s1 (.int i)⟩
theorem dt_knot (T : KTab X.K X.w X.mg x tbl) (hb : PE X b (tD X.K fb)) (hg : Gl X x := by rfl) (hdb : (x == ("__debug__" : Str)) = false := by decide) : PT X (.Compare b [.NotIn] [.Name x p] pos) (tDT X.K (f1 gB (f1 (gKnot tbl) fb))) := by
  obtain ⟨a, es, n, hm, D, ht⟩ := T.ex
  refine ptW (pt_cmpR (op_notIn_kd D) hb (pe_glob (v := .ref a) hg hm rfl hdb) rfl) fun σ H Q h => ?_
  obtain ⟨ρ, c, eo, e, q⟩ := h
  obtain ⟨d, e1, e2⟩ := Option.bind_eq_some_iff.mp e
  obtain ⟨k, e3, e4⟩ := Option.bind_eq_some_iff.mp e1
  refine ⟨ρ, k, eo, e3, fun v H1 s1 i1 => ?_⟩
  cases k <;> try cases e4
  rename_i z
  have e5 : (tbl.lookup z).map (fun _ => PyData.bool false) = some d := e4
  obtain ⟨i, h1, h2⟩ := Option.map_eq_some_iff.mp e5
  subst h2
  cases e2
  obtain ⟨u, h3, h4⟩ := ht _ (lookup_memS h1)
  exact ⟨z, some u, i1.strI, rfl, h3, false, rfl, q H1 s1⟩
end
/-! ### statements -/
section
variable {X : Cx} {st : Stmt} {rest : List Stmt} {F G : Rho → Option Out} {e : Expr} {fe : Rho → Option PyData} {pos : Pos}
def fNext : Rho → Option Out := fun ρ => some (.nxt ρ)
def fSeq (F G : Rho → Option Out) : Rho → Option Out := fun ρ => (F ρ).bind fun o => match o with
  | .nxt ρ' => G ρ'
  | .ret d => some (.ret d)
theorem dss_nil : PSs X [] (tDS X.K fNext) := pssW pss_nil fun D σ H ⟨ρ, o, eo, e, q⟩ => by
  cases e
  exact q σ H (Same.refl H) eo
theorem dss_one (h : PS X st (tDS X.K F)) : PSs X [st] (tDS X.K F) := pss_one h
theorem dss_cons (h1 : PS X st (tDS X.K F)) (h2 : PSs X rest (tDS X.K G)) : PSs X (st :: rest) (tDS X.K (fSeq F G)) := pssW (pss_cons h1 h2) fun D σ H ⟨ρ, o, eo, e, q⟩ => by
  obtain ⟨o1, e1, e2⟩ := Option.bind_eq_some_iff.mp e
  refine ⟨ρ, o1, eo, e1, ?_⟩
  cases o1 with
  | nxt ρ' => exact fun σ' H' s' eo' => ⟨ρ', o, eo', e2, q.mono s'⟩
  | ret d =>
    cases e2
    exact q
def fRet (fe : Rho → Option PyData) : Rho → Option Out := fun ρ => (fe ρ).map .ret
theorem ds_ret (he : PE X e (tD X.K fe)) : PS X (.Return (some e) pos) (tDS X.K (fRet fe)) := psW (ps_ret he) fun D σ H ⟨ρ, o, eo, e, q⟩ => by
  obtain ⟨d, e1, e2⟩ := Option.map_eq_some_iff.mp e
  subst e2
  exact ⟨ρ, d, eo, e1, q⟩
def fSet (i : Nat) (fe : Rho → Option PyData) : Rho → Option Out := fun ρ => (fe ρ).map fun d => .nxt (ρ.set i (some d))
theorem ds_set {i : Nat} {x : Str} {pos' : Pos} (hN : X.N.Nodup) (he : PE X e (tD X.K fe)) (hi : X.N[i]? = some x := by rfl) (hx : Loc X.env.scope x := by first | exact Or.inl rfl | exact Or.inr rfl) (hs : swapsWith e (some (.Name x pos')) pos.line X.env = pure false := by rfl) (hf : X.fn x = true ∨ X.env.scope.names.lookup x = some .local := by first | exact .inl rfl | exact .inr rfl | assumption) :
    PS X (.Assign [.Name x pos'] e pos) (tDS X.K (fSet i fe)) := psW (ps_set hN hi hx he hs hf) fun D σ H ⟨ρ, o, eo, e, q⟩ => by
  obtain ⟨d, e1, e2⟩ := Option.map_eq_some_iff.mp e
  subst e2
  exact ⟨ρ, d, eo, e1, fun v H1 s1 i1 => q _ H1 s1 ((eo.mono s1).set i i1)⟩
def fIf (ft : Rho → Option Bool) (F G : Rho → Option Out) : Rho → Option Out := fun ρ => (ft ρ).bind fun b => if b = true then F ρ else G ρ
theorem ds_if {c : Expr} {a b : List Stmt} {ft : Rho → Option Bool} (hc : PT X c (tDT X.K ft)) (ha : PSs X a (tDS X.K F)) (hb : PSs X b (tDS X.K G)) : PS X (.If c a b pos) (tDS X.K (fIf ft F G)) := psW (ps_if hc ha hb) fun D σ H ⟨ρ, o, eo, e, q⟩ => by
  obtain ⟨k, e1, e2⟩ := Option.bind_eq_some_iff.mp e
  refine ⟨ρ, k, eo, e1, fun H1 s1 => ?_⟩
  cases k with
  | true => exact iteT ⟨ρ, o, eo.mono s1, e2, q.mono s1⟩
  | false => exact iteF ⟨ρ, o, eo.mono s1, e2, q.mono s1⟩
def fNever : Rho → Option Out := fun _ => none
theorem ds_never : PS X st (tDS X.K fNever) := psW ps_never fun D σ H ⟨ρ, o, eo, e, q⟩ => by cases e
theorem dss_never : PSs X rest (tDS X.K fNever) := pssW pss_never fun D σ H ⟨ρ, o, eo, e, q⟩ => by cases e
/-- a, b = x, y -/
def fPar (i j : Nat) (fr : Rho → Option (List PyData)) : Rho → Option Out := fun ρ => (fr ρ).bind fun l => match l with
  | [a, b] => some (.nxt ((ρ.set i (some a)).set j (some b)))
  | _ => none
theorem ds_par {i j n : Nat} {x y : Str} {a b : Expr} {px py pt : Pos} {kt k2 pt2} {fr : Rho → Option (List PyData)} (hc : X.calm = true) (hN : X.N.Nodup) (hi : X.N[i]? = some x) (hj : X.N[j]? = some y) (hij : i ≠ j)
    (hx : X.env.scope.names.lookup x = some .local) (hy : X.env.scope.names.lookup y = some .local) (ha : PA X [a, b] (tDA X.K n fr))
    (hw : swappedStores [.Tuple [.Name x px, .Name y py] kt pt] (.Tuple [a, b] k2 pt2) X.env = pure (some [x, y]) := by rfl)
    (hs : swapsWithSole [.Tuple [.Name x px, .Name y py] kt pt] (.Tuple [a, b] k2 pt2) pos.line X.env = pure false := by rfl) :
    PS X (.Assign [.Tuple [.Name x px, .Name y py] kt pt] (.Tuple [a, b] k2 pt2) pos) (tDS X.K (fPar i j fr)) := psW (ps_par hc hN hi hj hij hx hy ha hw hs) fun D σ H ⟨ρ, o, eo, e, q⟩ => by
  obtain ⟨l, e1, e2⟩ := Option.bind_eq_some_iff.mp e
  refine ⟨ρ, l, eo, e1, fun vs H1 s1 i1 hl => ?_⟩
  cases i1 with
  | nil => cases e2
  | cons h k =>
    cases k with
    | nil => cases e2
    | cons h2 k =>
      cases k with
      | cons _ _ => cases e2
      | nil =>
        cases e2
        exact ⟨_, _, rfl, q _ H1 s1 (((eo.mono s1).set i h).set j h2)⟩
/-- targets that are names -/
def tgF : List Nat → List PyData → Rho → Option Rho
  | [], [], ρ => some ρ
  | i :: is, d :: ds, ρ => tgF is ds (ρ.set i (some d))
  | _, _, _ => none
def gNames : List Nat → TGs
  | [] => gNil
  | i :: is => gCons (gName i) (gNames is)
theorem gNames_ok {K : PySem.W.Frag} : ∀ {is : List Nat} {vs : List V} {ds : List PyData} {σ : L2.St} {H : Hp} {ρ ρ' : Rho} {Q : L2.St → Hp → Prop}, EO K H σ ρ → IsAll K H vs ds → tgF is ds ρ = some ρ' → (∀ σ', EO K H σ' ρ' → Q σ' H) → gNames is vs σ H Q
  | [], _, _, _, _, _, _, _, eo, .nil, e, q => by cases e; exact ⟨rfl, q _ eo⟩
  | [], _, _, _, _, _, _, _, eo, .cons _ _, e, q => by cases e
  | _ :: _, _, _, _, _, _, _, _, eo, .nil, e, q => by cases e
  | i :: is, _, _, _, _, _, _, _, eo, .cons h k, e, q => ⟨_, _, rfl, gNames_ok (eo.set i h) k e q⟩
def fUnp (is : List Nat) (fe : Rho → Option PyData) : Rho → Option Out := fun ρ => (fe ρ).bind fun d => match d with
  | .tuple l => (tgF is l ρ).map .nxt
  | _ => none
theorem tgF_len : ∀ {is : List Nat} {ds : List PyData} {ρ ρ' : Rho}, tgF is ds ρ = some ρ' → ds.length = is.length
  | [], [], _, _, _ => rfl
  | [], _ :: _, _, _, e => by cases e
  | _ :: _, [], _, _, e => by cases e
  | _ :: is, _ :: ds, _, _, e => congrArg Nat.succ (tgF_len (is := is) e)
/-- a, b, .. = e, e a tuple -/
theorem ds_unp {is : List Nat} {es : List Expr} {kt : Nat} {pt : Pos} (hg : PG X (.Tuple es kt pt) (gTup X.K is.length (gNames is))) (he : PE X e (tD X.K fe)) (hs : swapsWithSole [.Tuple es kt pt] e pos.line X.env = pure false := by rfl) (hw : swappedStores [.Tuple es kt pt] e X.env = pure none := by rfl)
    (h1 : (assignEach [.Tuple es kt pt] X.env).map (·.2) = [assign (.Tuple es kt pt) X.env] := by rfl) : PS X (.Assign [.Tuple es kt pt] e pos) (tDS X.K (fUnp is fe)) := psW (ps_asg he hg hs hw h1) fun D σ H ⟨ρ, o, eo, e, q⟩ => by
  obtain ⟨d, e1, e2⟩ := Option.bind_eq_some_iff.mp e
  refine ⟨ρ, d, eo, e1, fun v H1 s1 i1 => ?_⟩
  cases d <;> try cases e2
  rename_i l
  have e3 : (tgF is l ρ).map Out.nxt = some o := e2
  obtain ⟨ρ', e4, e5⟩ := Option.map_eq_some_iff.mp e3
  subst e5
  obtain ⟨a, xs, ev, hx, hd⟩ := i1.tupI
  exact ⟨a, xs, ev, hx, by rw [hd.length, tgF_len e4], gNames_ok (eo.mono s1) hd e4 fun σ' eo' => q σ' H1 s1 eo'⟩
/-! loops -/
def fForG (tgt : PyData → Rho → Option Rho) (F : Rho → Option Out) : List PyData → Rho → Option Out
  | [], ρ => some (.nxt ρ)
  | x :: r, ρ => (tgt x ρ).bind fun ρ1 => (F ρ1).bind fun o => match o with
    | .nxt ρ2 => fForG tgt F r ρ2
    | .ret d => some (.ret d)
def tgN (i : Nat) : PyData → Rho → Option Rho := fun d ρ => some (ρ.set i (some d))
def tgT (is : List Nat) : PyData → Rho → Option Rho
  | .tuple l, ρ => tgF is l ρ
  | _, _ => none
/-- a target's reading on data -/
def TgOk (K : PySem.W.Frag) (g : TG) (tgt : PyData → Rho → Option Rho) : Prop :=
  ∀ (v : V) (d : PyData) (σ : L2.St) (H : Hp) (ρ ρ' : Rho) (Q : L2.St → Hp → Prop), EO K H σ ρ → Is K H v d → tgt d ρ = some ρ' → (∀ σ', EO K H σ' ρ' → Q σ' H) → g v σ H Q
theorem tg_name {K : PySem.W.Frag} (i : Nat) : TgOk K (gName i) (tgN i) := fun v d σ H ρ ρ' Q eo h e q => by
  cases e
  exact q _ (eo.set i h)
theorem tg_tup {K : PySem.W.Frag} (is : List Nat) : TgOk K (gTup K is.length (gNames is)) (tgT is) := fun v d σ H ρ ρ' Q eo h e q => by
  cases d <;> try cases e
  rename_i l
  obtain ⟨a, xs, ev, hx, hd⟩ := h.tupI
  have e2 : tgF is l ρ = some ρ' := e
  exact ⟨a, xs, ev, hx, by rw [hd.length, tgF_len e2], gNames_ok eo hd e2 q⟩
def items : PyData → Option (List PyData)
  | .tuple l => some l
  | .list l => some l
  | _ => none
/-- the word of a loop over data -/
def ForW (K : PySem.W.Frag) (H : Hp) (tgt : PyData → Rho → Option Rho) (F : Rho → Option Out) (ds : List PyData) (o : Out) (i : Nat) (σ' : L2.St) (H' : Hp) : Prop :=
  Same H H' ∧ ∃ ρ', EO K H' σ' ρ' ∧ fForG tgt F (ds.drop i) ρ' = some o
theorem for_turn {K : PySem.W.Frag} {H : Hp} {tgt : PyData → Rho → Option Rho} {g : TG} {F : Rho → Option Out} {ds : List PyData} {o : Out} {D : Ends} (ht : TgOk K g tgt) (q : Fin K H D o) {i : Nat} {d : PyData} {x : V} {σ' : L2.St} {H' : Hp}
    (hd : ds[i]? = some d) (hx : Is K H' x d) (p : ForW K H tgt F ds o i σ' H') :
    g x σ' H' fun σ2 H2 => tDS K F { D with nx := ForW K H tgt F ds o (i + 1), ct := ForW K H tgt F ds o (i + 1), bk := D.nx } σ2 H2 := by
  obtain ⟨s1, ρ', eo, e⟩ := p
  have hi := (List.getElem?_eq_some_iff.mp hd).1
  have hdr : ds.drop i = d :: ds.drop (i + 1) := by
    rw [List.drop_eq_getElem_cons hi]
    rw [(List.getElem?_eq_some_iff.mp hd).2]
  rw [hdr] at e
  obtain ⟨ρ1, e1, e⟩ := Option.bind_eq_some_iff.mp e
  obtain ⟨o1, e2, e⟩ := Option.bind_eq_some_iff.mp e
  refine ht x d σ' H' ρ' ρ1 _ eo hx e1 fun σ2 eo2 => ⟨ρ1, o1, eo2, e2, ?_⟩
  cases o1 with
  | nxt ρ2 => exact fun σ3 H3 s3 eo3 => ⟨s1.trans s3, ρ2, eo3, e⟩
  | ret d2 =>
    cases e
    exact fun v H3 s3 i3 => q v H3 (s1.trans s3) i3
def fFor (fi : Rho → Option PyData) (tgt : PyData → Rho → Option Rho) (F : Rho → Option Out) : Rho → Option Out := fun ρ => ((fi ρ).bind items).bind fun l => fForG tgt F l ρ
theorem for_end {K : PySem.W.Frag} {H : Hp} {tgt : PyData → Rho → Option Rho} {F : Rho → Option Out} {ds : List PyData} {o : Out} {D : Ends} (q : Fin K H D o) {n : Nat} (hn : ds.length ≤ n) {σ' : L2.St} {H' : Hp} (p : ForW K H tgt F ds o n σ' H') : D.nx σ' H' := by
  obtain ⟨s1, ρ', eo, e⟩ := p
  rw [List.drop_eq_nil_of_le hn] at e
  cases e
  exact q σ' H' s1 eo
def gT : PyData → Option PyData := fun d => match d with
  | .tuple l => some (.tuple l)
  | _ => none
def gL : PyData → Option PyData := fun d => match d with
  | .list l => some (.list l)
  | _ => none
/-- for .. in a tuple -/
theorem ds_forT {tg iter : Expr} {body : List Stmt} {g : TG} {tgt : PyData → Rho → Option Rho} {fi : Rho → Option PyData} (hi : PE X iter (tD X.K fi)) (hg : PG X tg g) (ht : TgOk X.K g tgt) (hb : PSs X body (tDS X.K F)) (hp : PassesOwn (model X.prog X.w) X.A X.env X.xe := by exact PassesOwn.never) (hc : X.calm = true := by rfl)
    (hs : ∀ x, foldedSetIterable iter X.env x = pure x := by intro _; rfl) : PS X (.For tg iter body [] pos) (tDS X.K (fFor (f1 gT fi) tgt F)) := psW (ps_for hp hc (pi_tup hi) hg hb hs) fun D σ H ⟨ρ, o, eo, e, q⟩ => by
  obtain ⟨l, e1, e2⟩ := Option.bind_eq_some_iff.mp e
  obtain ⟨d0, e3, e4⟩ := Option.bind_eq_some_iff.mp e1
  obtain ⟨d, e5, e6⟩ := Option.bind_eq_some_iff.mp e3
  refine ⟨ρ, d, eo, e5, fun v H1 s1 i1 => ?_⟩
  cases d <;> try (cases e6; done)
  cases e6
  cases e4
  obtain ⟨a, xs, ev, hx, hd⟩ := i1.tupI
  have q1 := q.mono s1
  refine ⟨a, ev, ⟨xs, hx⟩, for_tup (xs := xs) (ForW X.K H1 tgt F l o) ⟨Same.refl H1, ρ, eo.mono s1, by rw [List.drop_zero]; exact e2⟩ (fun i σ' H' _ p => Same.sqT p.1 hx) (fun i x σ' H' hix p => ?_) fun σ' H' p => for_end q1 (by rw [hd.length]; exact Nat.le_refl _) p⟩
  obtain ⟨d', h1, h2⟩ := hd.getV hix
  exact for_turn ht q1 h1 (h2.mono p.1) p
/-- for .. in a list that stands as it is -/
theorem ds_forL {tg iter : Expr} {body : List Stmt} {g : TG} {tgt : PyData → Rho → Option Rho} {fi : Rho → Option PyData} (hi : PE X iter (tD X.K fi)) (hg : PG X tg g) (ht : TgOk X.K g tgt) (hb : PSs X body (tDS X.K F)) (hp : PassesOwn (model X.prog X.w) X.A X.env X.xe := by exact PassesOwn.never) (hc : X.calm = true := by rfl)
    (hs : ∀ x, foldedSetIterable iter X.env x = pure x := by intro _; rfl) : PS X (.For tg iter body [] pos) (tDS X.K (fFor (f1 gL fi) tgt F)) := psW (ps_for hp hc (pi_list hi) hg hb hs) fun D σ H ⟨ρ, o, eo, e, q⟩ => by
  obtain ⟨l, e1, e2⟩ := Option.bind_eq_some_iff.mp e
  obtain ⟨d0, e3, e4⟩ := Option.bind_eq_some_iff.mp e1
  obtain ⟨d, e5, e6⟩ := Option.bind_eq_some_iff.mp e3
  refine ⟨ρ, d, eo, e5, fun v H1 s1 i1 => ?_⟩
  cases d <;> try (cases e6; done)
  cases e6
  cases e4
  obtain ⟨a, xs, ev, hx, hd⟩ := i1.lstI
  have q1 := q.mono s1
  refine ⟨a, ev, ⟨xs, SqL.of hx⟩, for_list (xs := xs) (ForW X.K H1 tgt F l o) ⟨Same.refl H1, ρ, eo.mono s1, by rw [List.drop_zero]; exact e2⟩ (fun i σ' H' _ p => SqL.of (p.1 _ _ hx)) (fun i x σ' H' hix p => ?_) fun σ' H' p => for_end q1 (by rw [hd.length]; exact Nat.le_refl _) p⟩
  obtain ⟨d', h1, h2⟩ := hd.getV hix
  exact for_turn ht q1 h1 (h2.mono p.1) p
/-- the numbers from lo on -/
def numsD (lo : Int) (n : Nat) : List PyData := (List.range n).map fun (i : Nat) => PyData.int (lo + (i : Int))
theorem numsD_get (lo : Int) (n i : Nat) (h : i < n) : (numsD lo n)[i]? = some (.int (lo + (i : Int))) := by
  unfold numsD
  rw [List.getElem?_map, List.getElem?_range h]
  rfl
def gRng1 : List PyData → Option PyData
  | [.int n] => if -1000000 ≤ n ∧ n ≤ 1000000 then some (.list (numsD 0 n.toNat)) else none
  | _ => none
/-- for .. in range(n) -/
theorem ds_forR {tg a : Expr} {body : List Stmt} {g : TG} {tgt : PyData → Rho → Option Rho} {fr : Rho → Option (List PyData)} {n : Nat} {p pr : Pos} (hm : X.mg "range" = none) (ha : PA X [a] (tDA X.K n fr)) (hg : PG X tg g) (ht : TgOk X.K g tgt) (hb : PSs X body (tDS X.K F)) (hp : PassesOwn (model X.prog X.w) X.A X.env X.xe := by exact PassesOwn.never) (hc : X.calm = true := by rfl)
    (hgl : Gl X "range" := by rfl) (hs : starEach [a] X.env = [(false, eval a X.env)] := by rfl) (hf : ∀ x, foldedSetIterable (.Call (.Name "range" p) [a] [] pr) X.env x = pure x := by intro _; rfl) : PS X (.For tg (.Call (.Name "range" p) [a] [] pr) body [] pos) (tDS X.K (fFor (f1 gRng1 fr) tgt F)) :=
  psW (ps_for hp hc (pi_range1 hgl hm ha hs) hg hb hf) fun D σ H ⟨ρ, o, eo, e, q⟩ => by
  obtain ⟨l, e1, e2⟩ := Option.bind_eq_some_iff.mp e
  obtain ⟨d0, e3, e4⟩ := Option.bind_eq_some_iff.mp e1
  obtain ⟨ds, e5, e6⟩ := Option.bind_eq_some_iff.mp e3
  refine ⟨ρ, ds, eo, e5, fun vs H1 s1 i1 hl => ?_⟩
  unfold gRng1 at e6
  split at e6
  · rename_i k
    split at e6
    · rename_i hk
      cases e6
      cases e4
      cases i1 with
      | cons h1 h2 =>
        cases h2
        have q1 := q.mono s1
        refine ⟨k, by rw [h1.intI], by omega, by omega, for_range (lo := 0) (n := k.toNat) (ForW X.K H1 tgt F (numsD 0 k.toNat) o) ⟨Same.refl H1, ρ, eo.mono s1, by rw [List.drop_zero]; exact e2⟩ (fun i σ' H' hi p => ?_) fun σ' H' p => for_end q1 (by unfold numsD; simp) p⟩
        exact for_turn ht q1 (numsD_get 0 _ i hi) (.int _) p
    · cases e6
  · cases e6
/-- while, by fuel -/
def fWhile (c : Rho → Option Bool) (F : Rho → Option Out) : Nat → Rho → Option Out
  | 0, _ => none
  | n + 1, ρ => (c ρ).bind fun b => if b = true then (F ρ).bind fun o => match o with
    | .nxt ρ' => fWhile c F n ρ'
    | .ret d => some (.ret d)
    else some (.nxt ρ)
theorem ds_while {c : Expr} {body : List Stmt} {fc : Rho → Option Bool} (nf : Rho → Nat) (hcn : PT X c (tDT X.K fc)) (hb : PSs X body (tDS X.K F)) (hp : PassesOwn (model X.prog X.w) X.A X.env X.xe := by exact PassesOwn.never) :
    PS X (.While c body [] pos) (tDS X.K (fun ρ => fWhile fc F (nf ρ) ρ)) := psW (ps_while hp hcn hb) fun D σ H ⟨ρ, o, eo, e, q⟩ => by
  refine ⟨fun m σ' H' => Same H H' ∧ ∃ ρ', EO X.K H' σ' ρ' ∧ fWhile fc F m ρ' = some o, ⟨nf ρ, Same.refl H, ρ, eo, e⟩, ?_⟩
  rintro m σ' H' ⟨s1, ρ', eo', e'⟩
  cases m with
  | zero => cases e'
  | succ m =>
    obtain ⟨b, e1, e2⟩ := Option.bind_eq_some_iff.mp e'
    refine ⟨ρ', b, eo', e1, fun H2 s2 => ?_⟩
    cases b with
    | true =>
      obtain ⟨o1, e3, e4⟩ := Option.bind_eq_some_iff.mp e2
      refine iteT ⟨_, fun σ3 H3 n3 => ⟨m, Nat.lt_succ_self m, n3⟩, ρ', o1, eo'.mono s2, e3, ?_⟩
      cases o1 with
      | nxt ρ2 => exact fun σ3 H3 s3 eo3 => ⟨s1.trans (s2.trans s3), ρ2, eo3, e4⟩
      | ret d =>
        cases e4
        exact fun v H3 s3 i3 => q v H3 (s1.trans (s2.trans s3)) i3
    | false =>
      cases e2
      exact iteF (q σ' H2 (s1.trans s2) (eo'.mono s2))
end
/-! ### a def by its body -/
def outV : Option Out → Option PyData
  | some (.ret d) => some d
  | some (.nxt _) => some .none
  | none => none
/-- what a body makes of a def -/
def defG (np nn : Nat) (F : Rho → Option Out) : List PyData → Option PyData := fun ds => if ds.length = np then outV (F (startR nn ds)) else none
theorem fnD {P : Program} {w : World} {K : PySem.W.Frag} {mg : Str → Option Value} {base : Heap} {k : Nat} {x qual : Str} {params : Arguments} {body : List Stmt} {scope : Scope} {dvs : List V} {f : Addr} {fd : FuncData} {N ps : List Str} {F : Rho → Option Out}
    (Fd : FunD K x qual params body scope dvs [] f fd) (S : FnScope N ps scope)
    (hb : ∀ (cdv : Value) (A : Around) (outer : List Env) (s : Shared) (H : Hp) (E : XK), Room k (A.deeper (PyProof.Rows.envOfC qual scope s.heap.objs.size f cdv)) → PSs (cxOf CX0 P w K mg base N qual scope f cdv A outer s H E).nox body (tDS K F)) :
    FnOk P w K mg base CX0 (k + 1) f fd ps (FnSpec K (defG ps.length N.length F)) := by
  refine Fd.ok S (fun vs H Q E ⟨ds, r, a, b, c⟩ => ?_) (fun cdv A outer s H vs Q E hr ⟨ds, r, a, b, c⟩ => ⟨_, (hb cdv A outer s H E hr).nox, ?_⟩)
  · unfold defG at b
    split at b
    · rename_i h
      rw [a.length, h]
    · cases b
  · unfold defG at b
    split at b
    · cases e : F (startR N.length ds) with
      | none => rw [e] at b; cases b
      | some o =>
        rw [e] at b
        refine ⟨_, o, EO.start a, e, ?_⟩
        cases o with
        | ret d =>
          cases b
          exact c
        | nxt ρ =>
          cases b
          exact fun σ' H' s' _ => c _ H' s' .non
    · cases b
end Arc
set_option Elab.async false
set_option linter.all false
set_option maxRecDepth 100000
set_option maxHeartbeats 2000000
namespace Arc
open PySem L2
/-! ### data without lists -/
mutual
def imm : PyData → Bool
  | .none => true
  | .bool _ => true
  | .int _ => true
  | .str _ => true
  | .list _ => false
  | .tuple ds => immAll ds
  | .dict _ => false
def immAll : List PyData → Bool
  | [] => true
  | d :: ds => imm d && immAll ds
end
theorem sqT_lst {K : PySem.W.Frag} {H : Hp} {a D : Addr} {xs l0 : List V} {o : HO} (hD : H D = some (.lst l0)) (h : SqT K H a xs) : SqT K (upd H D o) a xs := by
  rcases h with (h | ⟨u, h⟩) | h
  · exact .inl (.inl (by rw [upd_ne (ne_of h hD (by intro z; cases z))]; exact h))
  · exact .inl (.inr ⟨u, by rw [upd_ne (ne_of h hD (by intro z; cases z))]; exact h⟩)
  · exact .inr h
section
variable {K : PySem.W.Frag} {H : Hp} {D : Addr} {l0 : List V} {o : HO}
mutual
theorem Is.immU (hD : H D = some (.lst l0)) : ∀ {v : V} {d : PyData}, Is K H v d → imm d = true → Is K (upd H D o) v d
  | _, _, .non, _ => .non
  | _, _, .bl b, _ => .bl b
  | _, _, .int i, _ => .int i
  | _, _, .str x, _ => .str x
  | _, _, .lst h k, e => by cases e
  | _, _, .tup h k, e => .tup (sqT_lst hD h) (IsAll.immU hD k e)
theorem IsAll.immU (hD : H D = some (.lst l0)) : ∀ {vs : List V} {ds : List PyData}, IsAll K H vs ds → immAll ds = true → IsAll K (upd H D o) vs ds
  | _, _, .nil, _ => .nil
  | _, _, .cons h k, e => by
    have e2 := Bool.and_eq_true_iff.mp e
    exact .cons (Is.immU hD h e2.1) (IsAll.immU hD k e2.2)
end
end
theorem immAll_append : ∀ (xs ys : List PyData), immAll (xs ++ ys) = (immAll xs && immAll ys)
  | [], ys => by simp [immAll]
  | x :: xs, ys => by simp [immAll, immAll_append xs ys, Bool.and_assoc]
/-- an object that H does not know may change -/
theorem same_mut {H H' : Hp} {p : Addr} {o : HO} (e : Same H H') (h : H p = none) : Same H (upd H' p o) := fun a u ha => by
  rw [upd_ne (ne_of_none ha h)]
  exact e a u ha

/-! ### comprehensions -/
def wipeR (ρ : Rho) : List Nat → Rho
  | [] => ρ
  | v :: vs => (wipeR ρ vs).set v none
theorem EO.wipe {K : PySem.W.Frag} {H : Hp} {σ : L2.St} {ρ : Rho} (h : EO K H σ ρ) : ∀ vs : List Nat, EO K H (L2.wipe σ vs) (wipeR ρ vs)
  | [] => h
  | v :: vs => (EO.wipe h vs).unset v none
theorem wipe_get (σ : L2.St) (j : Nat) : ∀ vs : List Nat, (L2.wipe σ vs)[j]? = if j ∈ vs ∧ j < σ.length then some none else σ[j]?
  | [] => by simp [L2.wipe]
  | v :: vs => by
    unfold L2.wipe
    have hl := wipe_length σ vs
    by_cases hv : v = j
    · subst hv
      by_cases hj : v < σ.length
      · rw [List.getElem?_set_self (by omega), if_pos ⟨List.mem_cons_self, hj⟩]
      · rw [List.getElem?_eq_none (by simp; omega), if_neg (fun z => hj z.2), List.getElem?_eq_none (by omega)]
    · rw [List.getElem?_set_ne hv, wipe_get σ j vs]
      have e : (j ∈ v :: vs ∧ j < σ.length) ↔ (j ∈ vs ∧ j < σ.length) := by
        constructor
        · rintro ⟨h1, h2⟩
          rcases List.mem_cons.mp h1 with h | h
          · exact absurd h.symm hv
          · exact ⟨h, h2⟩
        · rintro ⟨h1, h2⟩
          exact ⟨List.mem_cons_of_mem _ h1, h2⟩
      simp only [e]
theorem wipe_set {σ : L2.St} {i : Nat} {x : Option V} {vs : List Nat} (h : i ∈ vs) : L2.wipe (σ.set i x) vs = L2.wipe σ vs := by
  refine List.ext_getElem? fun j => ?_
  rw [wipe_get, wipe_get]
  by_cases hj : j ∈ vs ∧ j < σ.length
  · rw [if_pos hj, if_pos ⟨hj.1, by simp; exact hj.2⟩]
  · rw [if_neg hj, if_neg (by simpa using hj)]
    by_cases hij : i = j
    · subst hij
      have hl : ¬ i < σ.length := fun z => hj ⟨h, z⟩
      rw [List.getElem?_eq_none (by simp; omega), List.getElem?_eq_none (by omega)]
    · rw [List.getElem?_set_ne hij]
theorem wipe_wipe {σ : L2.St} {vs : List Nat} : L2.wipe (L2.wipe σ vs) vs = L2.wipe σ vs := by
  refine List.ext_getElem? fun j => ?_
  rw [wipe_get, wipe_get]
  by_cases hj : j ∈ vs ∧ j < σ.length
  · rw [if_pos hj, if_pos ⟨hj.1, by rw [wipe_length]; exact hj.2⟩]
  · rw [if_neg hj, if_neg (by rw [wipe_length]; exact hj)]
/-- a target within a comprehension -/
def TgLc (K : PySem.W.Frag) (g : TG) (tgt : PyData → Rho → Option Rho) (vs : List Nat) : Prop :=
  ∀ (v : V) (d : PyData) (σ : L2.St) (H : Hp) (ρ ρ' : Rho) (Q : L2.St → Hp → Prop), EO K H σ ρ → Is K H v d → tgt d ρ = some ρ' → (∀ σ', EO K H σ' ρ' → L2.wipe σ' vs = L2.wipe σ vs → Q σ' H) → g v σ H Q
theorem tl_name {K : PySem.W.Frag} {i : Nat} {vs : List Nat} (h : i ∈ vs) : TgLc K (gName i) (tgN i) vs := fun v d σ H ρ ρ' Q eo k e q => by
  cases e
  exact q _ (eo.set i k) (wipe_set h)
theorem gNames_lc {K : PySem.W.Frag} {ws : List Nat} : ∀ {is : List Nat} {vs : List V} {ds : List PyData} {σ : L2.St} {H : Hp} {ρ ρ' : Rho} {Q : L2.St → Hp → Prop}, (∀ i ∈ is, i ∈ ws) → EO K H σ ρ → IsAll K H vs ds → tgF is ds ρ = some ρ' → (∀ σ', EO K H σ' ρ' → L2.wipe σ' ws = L2.wipe σ ws → Q σ' H) → gNames is vs σ H Q
  | [], _, _, _, _, _, _, _, _, eo, .nil, e, q => by cases e; exact ⟨rfl, q _ eo rfl⟩
  | [], _, _, _, _, _, _, _, _, eo, .cons _ _, e, q => by cases e
  | _ :: _, _, _, _, _, _, _, _, _, eo, .nil, e, q => by cases e
  | i :: is, _, _, _, _, _, _, _, hi, eo, .cons h k, e, q => ⟨_, _, rfl, gNames_lc (fun j hj => hi j (List.mem_cons_of_mem _ hj)) (eo.set i h) k e fun σ' e1 e2 => q σ' e1 (e2.trans (wipe_set (hi i List.mem_cons_self)))⟩
theorem tl_tup {K : PySem.W.Frag} {is vs : List Nat} (h : ∀ i ∈ is, i ∈ vs) : TgLc K (gTup K is.length (gNames is)) (tgT is) vs := fun v d σ H ρ ρ' Q eo k e q => by
  cases d <;> try (cases e; done)
  rename_i l
  obtain ⟨a, xs, ev, hx, hd⟩ := k.tupI
  have e2 : tgF is l ρ = some ρ' := e
  exact ⟨a, xs, ev, hx, by rw [hd.length, tgF_len e2], gNames_lc h eo hd e2 q⟩
def lcF (tgt : PyData → Rho → Option Rho) (ft : Rho → Option Bool) (fe : Rho → Option PyData) (ρ : Rho) : List PyData → Option (List PyData)
  | [] => some []
  | x :: r => (tgt x ρ).bind fun ρ1 => (ft ρ1).bind fun b => if b = true then (fe ρ1).bind fun y => if imm y = true then (lcF tgt ft fe ρ r).map (y :: ·) else none else lcF tgt ft fe ρ r
def fLc (vs : List Nat) (tgt : PyData → Rho → Option Rho) (ft : Rho → Option Bool) (fe : Rho → Option PyData) (fl : Rho → Option (List PyData)) : Rho → Option PyData := fun ρ =>
  (fl ρ).bind fun l => if l.length ≤ 1000000 then (lcF tgt ft fe (wipeR ρ vs) l).map .list else none
/-- the items that an iterator gives out, as data -/
structure JOk (K : PySem.W.Frag) (H0 : Hp) (J : It) (ds : List PyData) : Prop where
  stop : ∀ H, Same H0 H → J.stop ds.length H
  go : ∀ i H, Same H0 H → i < ds.length → J.go i H
  yld : ∀ i H x H', Same H0 H → J.yld i H x H' → H' = H ∧ ∀ d, ds[i]? = some d → Is K H x d
theorem jok_tup {K : PySem.W.Frag} {H0 : Hp} {a : Addr} {xs : List V} {ds : List PyData} (h : SqT K H0 a xs) (k : IsAll K H0 xs ds) : JOk K H0 (Itt K a) ds where
  stop := fun H s => ⟨xs, Same.sqT s h, by rw [k.length]; exact Nat.le_refl _⟩
  go := fun i H s hi => by
    have hl : i < xs.length := by rw [k.length]; exact hi
    exact ⟨xs, xs[i], Same.sqT s h, List.getElem?_eq_getElem hl⟩
  yld := fun i H x H' s y => by
    obtain ⟨e, y⟩ := y
    refine ⟨e, fun d hd => ?_⟩
    obtain ⟨v, h1, h2⟩ := k.get hd
    have h3 := y xs (Same.sqT s h)
    rw [h1] at h3
    cases h3
    exact h2.mono s
theorem jok_lst {K : PySem.W.Frag} {H0 : Hp} {a : Addr} {xs : List V} {ds : List PyData} (h : H0 a = some (.lst xs)) (k : IsAll K H0 xs ds) : JOk K H0 (Itl K a) ds where
  stop := fun H s => ⟨xs, SqL.of (s _ _ h), by rw [k.length]; exact Nat.le_refl _⟩
  go := fun i H s hi => by
    have hl : i < xs.length := by rw [k.length]; exact hi
    exact ⟨xs, xs[i], SqL.of (s _ _ h), List.getElem?_eq_getElem hl⟩
  yld := fun i H x H' s y => by
    obtain ⟨e, y⟩ := y
    refine ⟨e, fun d hd => ?_⟩
    obtain ⟨v, h1, h2⟩ := k.get hd
    have h3 := y xs (SqL.of (s _ _ h))
    rw [h1] at h3
    cases h3
    exact h2.mono s
def signsD (z : Str) : List PyData := z.cps.toList.map fun c => .str ⟨#[c]⟩
theorem jok_str {K : PySem.W.Frag} {H0 : Hp} {z : Str} : JOk K H0 (Its z) (signsD z) where
  stop := fun H s => by
    show z.cps.size ≤ (signsD z).length
    unfold signsD
    simp
  go := fun i H s hi => by
    show i < z.cps.size
    unfold signsD at hi
    simpa using hi
  yld := fun i H x H' s y => by
    obtain ⟨e, c, h1, h2⟩ := y
    refine ⟨e, fun d hd => ?_⟩
    unfold signsD at hd
    rw [List.getElem?_map] at hd
    have h3 : z.cps.toList[i]? = some c := by simpa using h1
    rw [h3] at hd
    cases hd
    rw [h2]
    exact .str _
theorem lc_W {K : PySem.W.Frag} {H1 : Hp} {J : It} {ds out : List PyData} {g : TG} {tt : TT} {te : TE} {vs : List Nat} {σ : L2.St} {ρ : Rho} {D : Addr} {tgt : PyData → Rho → Option Rho} {ft : Rho → Option Bool} {fe : Rho → Option PyData} {Q : VK}
    (jo : JOk K H1 J ds) (ht : TgLc K g tgt vs) (eo : EO K H1 σ ρ) (hn : ds.length ≤ 1000000) (e : lcF tgt ft fe (wipeR ρ vs) ds = some out) (hD : H1 D = none) (htt : tt = tDT K ft) (hte : te = tD K fe)
    (q : ∀ v H', Same H1 H' → Is K H' v (.list out) → Q v H') :
    ∃ W : Nat → Nat → Hp → Prop, (∃ m, W 0 m (upd H1 D (.lst []))) ∧ ∀ i m H, W i m H →
      (J.stop i H ∧ Q (.ref D) H) ∨ (J.go i H ∧ ∃ Nx : Hp → Prop, (∀ H', Nx H' → ∃ m', m' < m ∧ W (i + 1) m' H') ∧ ∀ x H', J.yld i H x H' → g x (L2.wipe σ vs) H' fun σ2 H2 => L2.wipe σ2 vs = L2.wipe σ vs ∧ tt σ2 H2 fun b H3 =>
        if b = true then te σ2 H3 fun y H4 => ∃ acc, H4 D = some (.lst acc) ∧ acc.length < sizeLine ∧ Nx (upd H4 D (.lst (acc ++ [y]))) else Nx H3) := by
  subst htt hte
  refine ⟨fun i m H => m = ds.length - i ∧ i ≤ ds.length ∧ Same H1 H ∧ ∃ acc done rest, H D = some (.lst acc) ∧ IsAll K H acc done ∧ immAll done = true ∧ acc.length ≤ i ∧ lcF tgt ft fe (wipeR ρ vs) (ds.drop i) = some rest ∧ done ++ rest = out,
    ⟨ds.length, by simp, Nat.zero_le _, same_new hD, [], [], out, upd_same, .nil, rfl, Nat.le_refl _, by rw [List.drop_zero]; exact e, rfl⟩, ?_⟩
  rintro i m H ⟨rfl, hi, sm, acc, done, rest, hA, hI, hm, hl, hr, ho⟩
  by_cases hlt : i < ds.length
  · refine .inr ⟨jo.go i H sm hlt, fun H => i + 1 ≤ ds.length ∧ Same H1 H ∧ ∃ acc done rest, H D = some (.lst acc) ∧ IsAll K H acc done ∧ immAll done = true ∧ acc.length ≤ i + 1 ∧ lcF tgt ft fe (wipeR ρ vs) (ds.drop (i + 1)) = some rest ∧ done ++ rest = out,
      fun H' ⟨h1, h2⟩ => ⟨ds.length - (i + 1), by omega, rfl, h1, h2⟩, fun x H' hy => ?_⟩
    obtain ⟨eH, hx⟩ := jo.yld i H x H' sm hy
    subst eH
    have hdr : ds.drop i = ds[i] :: ds.drop (i + 1) := List.drop_eq_getElem_cons hlt
    rw [hdr] at hr
    obtain ⟨ρ1, e1, hr⟩ := Option.bind_eq_some_iff.mp hr
    obtain ⟨b, e2, hr⟩ := Option.bind_eq_some_iff.mp hr
    refine ht x ds[i] _ H' _ ρ1 _ ((eo.mono sm).wipe vs) (hx _ (List.getElem?_eq_getElem hlt)) e1 fun σ2 eo2 hw => ⟨hw.trans wipe_wipe, ρ1, b, eo2, e2, fun H3 s3 => ?_⟩
    cases b with
    | true =>
      have hr2 : ((fe ρ1).bind fun y => if imm y = true then (lcF tgt ft fe (wipeR ρ vs) (ds.drop (i + 1))).map (y :: ·) else none) = some rest := hr
      obtain ⟨y, e3, hr2⟩ := Option.bind_eq_some_iff.mp hr2
      refine iteT ⟨ρ1, y, eo2.mono s3, e3, fun v H4 s4 i4 => ?_⟩
      split at hr2
      · rename_i hy
        obtain ⟨r2, e4, e5⟩ := Option.map_eq_some_iff.mp hr2
        have hA4 : H4 D = some (.lst acc) := s4 _ _ (s3 _ _ hA)
        refine ⟨acc, hA4, Nat.lt_of_le_of_lt hl (Nat.lt_of_lt_of_le (by omega : i < 1000001) (by decide)), hlt, same_mut (sm.trans (s3.trans s4)) hD, acc ++ [v], done ++ [y], r2, upd_same, ?_, ?_, ?_, e4, ?_⟩
        · exact IsAll.append (IsAll.immU hA4 (hI.mono (s3.trans s4)) hm) (.one (i4.immU hA4 hy))
        · rw [immAll_append, hm]
          simp [immAll, hy]
        · rw [List.length_append, List.length_singleton]
          omega
        · rw [List.append_assoc, ← ho, ← e5]
          rfl
      · cases hr2
    | false =>
      exact iteF ⟨hlt, sm.trans s3, acc, done, rest, s3 _ _ hA, hI.mono s3, hm, by omega, hr, ho⟩
  · have hi2 : i = ds.length := by omega
    subst hi2
    rw [List.drop_eq_nil_of_le (Nat.le_refl _)] at hr
    cases hr
    rw [List.append_nil] at ho
    subst ho
    exact .inl ⟨jo.stop H sm, q _ H sm (.lst hA hI)⟩
section
variable {X : Cx} {elt tg iter : Expr} {ifs : List Expr} {scope : Scope} {own : List (Str × Nat)} {pos spos : Pos} {g : TG} {tgt : PyData → Rho → Option Rho} {ft : Rho → Option Bool} {fe fi : Rho → Option PyData}
theorem dts_nil : PTs X [] (tDT X.K fun _ => some true) := ⟨fun pins s σ H Q I ⟨ρ, b, eo, e, q⟩ => by
  cases e
  exact pts_nil.run pins s σ H Q I (q H (Same.refl H))⟩
theorem dts_one {c : Expr} (h : PT X c (tDT X.K ft)) : PTs X [c] (tDT X.K ft) := pts_one h
def itT : PyData → Option (List PyData)
  | .tuple l => some l
  | _ => none
def itL : PyData → Option (List PyData)
  | .list l => some l
  | _ => none
def itS : PyData → Option (List PyData)
  | .str z => some (signsD z)
  | _ => none
theorem lcT_W {K : PySem.W.Frag} {vs : List Nat} (ht : TgLc K g tgt vs) : ∀ σ H Q, tD K (fLc vs tgt ft fe (f1 itT fi)) σ H Q → tLc (iTup K (tD K fi)) g (tDT K ft) (tD K fe) vs σ H Q := fun σ H Q ⟨ρ, d, eo, e, q⟩ => by
  obtain ⟨l, e1, e2⟩ := Option.bind_eq_some_iff.mp e
  obtain ⟨k, e3, e4⟩ := Option.bind_eq_some_iff.mp e1
  refine ⟨ρ, k, eo, e3, fun v H1 s1 i1 => ?_⟩
  cases k <;> try (cases e4; done)
  cases e4
  split at e2
  · rename_i hn
    obtain ⟨out, e5, e6⟩ := Option.map_eq_some_iff.mp e2
    subst e6
    obtain ⟨a, xs, ev, hx, hd⟩ := i1.tupI
    exact ⟨a, ev, ⟨xs, hx⟩, fun D hD => lc_W (jok_tup hx hd) ht (eo.mono s1) hn e5 hD rfl rfl fun v H' s' i' => q v H' (s1.trans s') i'⟩
  · cases e2
theorem lcL_W {K : PySem.W.Frag} {vs : List Nat} (ht : TgLc K g tgt vs) : ∀ σ H Q, tD K (fLc vs tgt ft fe (f1 itL fi)) σ H Q → tLc (iList K (tD K fi)) g (tDT K ft) (tD K fe) vs σ H Q := fun σ H Q ⟨ρ, d, eo, e, q⟩ => by
  obtain ⟨l, e1, e2⟩ := Option.bind_eq_some_iff.mp e
  obtain ⟨k, e3, e4⟩ := Option.bind_eq_some_iff.mp e1
  refine ⟨ρ, k, eo, e3, fun v H1 s1 i1 => ?_⟩
  cases k <;> try (cases e4; done)
  cases e4
  split at e2
  · rename_i hn
    obtain ⟨out, e5, e6⟩ := Option.map_eq_some_iff.mp e2
    subst e6
    obtain ⟨a, xs, ev, hx, hd⟩ := i1.lstI
    exact ⟨a, ev, ⟨xs, SqL.of hx⟩, fun D hD => lc_W (jok_lst hx hd) ht (eo.mono s1) hn e5 hD rfl rfl fun v H' s' i' => q v H' (s1.trans s') i'⟩
  · cases e2
theorem lcS_W {K : PySem.W.Frag} {vs : List Nat} (ht : TgLc K g tgt vs) : ∀ σ H Q, tD K (fLc vs tgt ft fe (f1 itS fi)) σ H Q → tLc (iStr (tD K fi)) g (tDT K ft) (tD K fe) vs σ H Q := fun σ H Q ⟨ρ, d, eo, e, q⟩ => by
  obtain ⟨l, e1, e2⟩ := Option.bind_eq_some_iff.mp e
  obtain ⟨k, e3, e4⟩ := Option.bind_eq_some_iff.mp e1
  refine ⟨ρ, k, eo, e3, fun v H1 s1 i1 => ?_⟩
  cases k <;> try (cases e4; done)
  cases e4
  split at e2
  · rename_i hn
    obtain ⟨out, e5, e6⟩ := Option.map_eq_some_iff.mp e2
    subst e6
    exact ⟨_, i1.strI, fun D hD => lc_W jok_str ht (eo.mono s1) hn e5 hD rfl rfl fun v H' s' i' => q v H' (s1.trans s') i'⟩
  · cases e2
/-- what a comprehension is walked over -/
structure LcI (X : Cx) (tg iter : Expr) (g : TG) (tgt : PyData → Rho → Option Rho) (fl : Rho → Option (List PyData)) : Prop where
  ex : ∃ wi, PI X tg iter wi ∧ ∀ (vs : List Nat) (ft : Rho → Option Bool) (fe : Rho → Option PyData), TgLc X.K g tgt vs → ∀ σ H Q, tD X.K (fLc vs tgt ft fe fl) σ H Q → tLc wi g (tDT X.K ft) (tD X.K fe) vs σ H Q
theorem li_T (h : PE X iter (tD X.K fi)) : LcI X tg iter g tgt (f1 itT fi) := ⟨_, pi_tup h, fun _ _ _ ht => lcT_W ht⟩
theorem li_L (h : PE X iter (tD X.K fi)) : LcI X tg iter g tgt (f1 itL fi) := ⟨_, pi_list h, fun _ _ _ ht => lcL_W ht⟩
theorem li_S (h : PE X iter (tD X.K fi)) : LcI X tg iter g tgt (f1 itS fi) := ⟨_, pi_str h, fun _ _ _ ht => lcS_W ht⟩
variable {fl : Rho → Option (List PyData)}
theorem d_lc (hN : X.N.Nodup) (hi : LcI X tg iter g tgt fl) (ok : BlkOk X.N X.env.scope scope own)
    (hg : ∀ (s : Shared) (H : Hp) (C : Addr) (cl : List (Str × Addr)) (fp : List Addr), PG (X.blk s H scope (compEnvC scope cl C X.env) fp) tg g) (htg : TgLc X.K g tgt (own.map (·.2))) (ht : ∀ (s : Shared) (H : Hp) (C : Addr) (cl : List (Str × Addr)) (fp : List Addr), PTs (X.blk s H scope (compEnvC scope cl C X.env) fp) ifs (tDT X.K ft))
    (he : ∀ (s : Shared) (H : Hp) (C : Addr) (cl : List (Str × Addr)) (fp : List Addr), PE (X.blk s H scope (compEnvC scope cl C X.env) fp) elt (tD X.K fe)) (hc : X.calm = true := by rfl) (hs : ∀ x, foldedSetIterable iter X.env x = pure x := by intro _; rfl) :
    PE X (.ListComp elt [⟨tg, iter, ifs, 0⟩] scope pos) (tD X.K (fLc (own.map (·.2)) tgt ft fe fl)) := by
  obtain ⟨wi, h1, h2⟩ := hi.ex
  exact peW (pe_lc hc hN h1 ok hg ht he hs) (h2 _ _ _ htg)
theorem ds_setLc {i : Nat} {y : Str} {py : Pos} (hN : X.N.Nodup) (hsw : swapsWith (.ListComp elt [⟨tg, iter, ifs, 0⟩] scope pos) (some (.Name y py)) spos.line X.env = pure true) (hi : LcI X tg iter g tgt fl) (ok : BlkOk X.N X.env.scope scope own)
    (hg : ∀ (s : Shared) (H : Hp) (C : Addr) (cl : List (Str × Addr)) (fp : List Addr), PG (X.blk s H scope (compEnvC scope cl C X.env) fp) tg g) (htg : TgLc X.K g tgt (own.map (·.2))) (ht : ∀ (s : Shared) (H : Hp) (C : Addr) (cl : List (Str × Addr)) (fp : List Addr), PTs (X.blk s H scope (compEnvC scope cl C X.env) fp) ifs (tDT X.K ft))
    (he : ∀ (s : Shared) (H : Hp) (C : Addr) (cl : List (Str × Addr)) (fp : List Addr), PE (X.blk s H scope (compEnvC scope cl C X.env) fp) elt (tD X.K fe)) (hy : X.N[i]? = some y := by rfl) (hyl : X.env.scope.names.lookup y = some .local := by rfl) (hc : X.calm = true := by rfl) (hs : ∀ x, foldedSetIterable iter X.env x = pure x := by intro _; rfl) :
    PS X (.Assign [.Name y py] (.ListComp elt [⟨tg, iter, ifs, 0⟩] scope pos) spos) (tDS X.K (fSet i (fLc (own.map (·.2)) tgt ft fe fl))) := by
  obtain ⟨wi, h1, h2⟩ := hi.ex
  refine psW (L2.ps_setLc hc hN hy hyl hsw h1 ok hg ht he hs) fun D σ H ⟨ρ, o, eo, e, q⟩ => ?_
  obtain ⟨d, e1, e2⟩ := Option.map_eq_some_iff.mp e
  subst e2
  exact h2 _ _ _ htg σ H _ ⟨ρ, d, eo, e1, fun v H1 s1 i1 => q _ H1 s1 ((eo.mono s1).set i i1)⟩
end
/-! ### methods of texts -/
section
variable {X : Cx} {a b : Expr} {fa fb : Rho → Option PyData} {apos pos : Pos}
def asStrs : List PyData → Option (List Str)
  | [] => some []
  | .str b :: r => (asStrs r).map (b :: ·)
  | _ => none
theorem asStrs_ok {K : PySem.W.Frag} {H : Hp} : ∀ {vs : List V} {ds : List PyData} {bs : List Str}, IsAll K H vs ds → asStrs ds = some bs → vs = bs.map V.str
  | _, _, bs, .nil, e => by cases e; rfl
  | _, _, bs, @IsAll.cons _ _ v vs d ds h k, e => by
    cases d <;> try (cases e; done)
    rename_i b
    have e1 : (asStrs ds).map (b :: ·) = some bs := e
    obtain ⟨cs, h1, h2⟩ := Option.map_eq_some_iff.mp e1
    subst h2
    rw [h.strI, asStrs_ok k h1]
    rfl
def gJoin : PyData → PyData → Option PyData
  | .str a, .list l => (asStrs l).bind fun ys => if (ys.map (·.length)).sum + ys.length * a.length ≤ 16777216 then some (.str (Txt.join a ys)) else none
  | _, _ => none
def strsD (ys : List Str) : List PyData := ys.map .str
theorem IsAll.strsD {K : PySem.W.Frag} {H : Hp} : ∀ ys : List Str, IsAll K H (ys.map V.str) (strsD ys)
  | [] => .nil
  | y :: ys => .cons (.str y) (IsAll.strsD ys)
def gSplit : PyData → PyData → Option PyData
  | .str a, .str b => if (b.length == 0) = false ∧ a.length ≤ 1000000 then some (.list (strsD (Txt.split a b))) else none
  | _, _ => none
def gPart : PyData → PyData → Option PyData
  | .str a, .str b => if (b.length == 0) = false ∧ a.length ≤ 1000000 then some (.tuple [.str (Txt.partition a b).1, .str (Txt.partition a b).2.1, .str (Txt.partition a b).2.2]) else none
  | _, _ => none
theorem m1W {K : PySem.W.Frag} {r : V → List V → Hp → VK → Prop} {g : PyData → PyData → Option PyData} (hs : ∀ a b z, g a b = some z → ∃ w, a = .str w) (hg : ∀ (H : Hp) (x y : V) (a b z : PyData), Is K H x a → Is K H y b → g a b = some z → ∀ Q : VK, (∀ v H', Same H H' → Is K H' v z → Q v H') → r x [y] H Q) :
    ∀ σ H Q, tD K (f2 g fa fb) σ H Q → tM1 r (tD K fa) (tD K fb) σ H Q := fun σ H Q ⟨ρ, d, eo, e, q⟩ => by
  obtain ⟨x, e1, e⟩ := Option.bind_eq_some_iff.mp e
  obtain ⟨y, e2, e⟩ := Option.bind_eq_some_iff.mp e
  obtain ⟨w, hw⟩ := hs _ _ _ e
  subst hw
  exact ⟨ρ, _, eo, e1, fun v H1 s1 i1 => ⟨⟨w, i1.strI⟩, ρ, y, eo.mono s1, e2, fun u H2 s2 i2 => hg H2 v u _ y d (i1.mono s2) i2 e Q fun t H3 s3 i3 => q t H3 (s1.trans (s2.trans s3)) i3⟩⟩
theorem d_join (ho : PE X a (tD X.K fa)) (he : PE X b (tD X.K fb)) (hs : starEach [b] X.env = [(false, eval b X.env)] := by rfl) (hbase : attributeBase a "join" X.env (eval a X.env) = eval a X.env := by rfl) (hline : (apos.endLine == pos.line) = true := by rfl) :
    PE X (.Call (.Attribute a "join" apos) [b] [] pos) (tD X.K (f2 gJoin fa fb)) := peW (pe_join ho he hs hbase hline) (m1W (fun a b z e => by cases a <;> first | exact ⟨_, rfl⟩ | cases e) fun H x y a b z ha hb e Q q => by
  cases ha <;> try (cases e; done)
  cases hb <;> try (cases e; done)
  rename_i w p xs ds hp hd
  have e1 : ((asStrs ds).bind fun ys => if (ys.map (·.length)).sum + ys.length * w.length ≤ 16777216 then some (PyData.str (Txt.join w ys)) else none) = some z := e
  obtain ⟨ys, h1, h2⟩ := Option.bind_eq_some_iff.mp e1
  split at h2
  · rename_i hz
    cases h2
    have hv := asStrs_ok hd h1
    subst hv
    exact ⟨w, p, ys, rfl, rfl, .inl (SqL.of hp), hz, q _ H (Same.refl H) (.str _)⟩
  · cases h2)
theorem d_split (ho : PE X a (tD X.K fa)) (he : PE X b (tD X.K fb)) (hs : starEach [b] X.env = [(false, eval b X.env)] := by rfl) (hbase : attributeBase a "split" X.env (eval a X.env) = eval a X.env := by rfl) (hline : (apos.endLine == pos.line) = true := by rfl) :
    PE X (.Call (.Attribute a "split" apos) [b] [] pos) (tD X.K (f2 gSplit fa fb)) := peW (pe_split ho he hs hbase hline) (m1W (fun a b z e => by cases a <;> first | exact ⟨_, rfl⟩ | cases e) fun H x y a b z ha hb e Q q => by
  cases ha <;> try (cases e; done)
  cases hb <;> try (cases e; done)
  rename_i w u
  have e1 : (if (u.length == 0) = false ∧ w.length ≤ 1000000 then some (PyData.list (strsD (Txt.split w u))) else none) = some z := e
  split at e1
  · rename_i hz
    cases e1
    exact ⟨w, u, rfl, rfl, hz.1, Nat.le_trans (Nat.add_le_add_right hz.2 2) (by decide), fun p hp => q _ _ (same_new hp) (.lst upd_same (IsAll.strsD _))⟩
  · cases e1)
theorem d_part (ho : PE X a (tD X.K fa)) (he : PE X b (tD X.K fb)) (hs : starEach [b] X.env = [(false, eval b X.env)] := by rfl) (hbase : attributeBase a "partition" X.env (eval a X.env) = eval a X.env := by rfl) (hline : (apos.endLine == pos.line) = true := by rfl) :
    PE X (.Call (.Attribute a "partition" apos) [b] [] pos) (tD X.K (f2 gPart fa fb)) := peW (pe_partition ho he hs hbase hline) (m1W (fun a b z e => by cases a <;> first | exact ⟨_, rfl⟩ | cases e) fun H x y a b z ha hb e Q q => by
  cases ha <;> try (cases e; done)
  cases hb <;> try (cases e; done)
  rename_i w u
  have e1 : (if (u.length == 0) = false ∧ w.length ≤ 1000000 then some (PyData.tuple [.str (Txt.partition w u).1, .str (Txt.partition w u).2.1, .str (Txt.partition w u).2.2]) else none) = some z := e
  split at e1
  · rename_i hz
    cases e1
    exact ⟨w, u, rfl, rfl, hz.1, sz6 hz.2, fun p hp => q _ _ (same_new hp) (.tup (SqT.of upd_same) (.cons (.str _) (.cons (.str _) (.cons (.str _) .nil))))⟩
  · cases e1)
end
end Arc
set_option Elab.async false
set_option linter.all false
set_option maxRecDepth 100000
set_option maxHeartbeats 2000000
namespace Arc
open PySem L2
section
variable {X : Cx} {a b c : Expr} {fa fb fc : Rho → Option PyData} {pos : Pos}
theorem d_chain {op op' : CmpOp} {r r' : R2} {g g' : PyData → PyData → Option PyData} (ho : OpR X (compareOp op) r) (hg : OpD X.K r g) (ho' : OpR X (compareOp op') r') (hg' : OpD X.K r' g') (ha : PE X a (tD X.K fa)) (hb : PE X b (tD X.K fb)) (hc : PE X c (tD X.K fc))
    (hm : lastMarks [op, op'] [b, c] = false := by with_unfolding_all rfl) : PE X (.Compare a [op, op'] [b, c] pos) (tD X.K (fChain g g' fa fb fc)) := peW (pe_chain ho ho' ha hb hc hm) (chainW hg hg')
theorem dt_chain {op op' : CmpOp} {r r' : R2} {g g' : PyData → PyData → Option PyData} (ho : OpR X (compareOp op) r) (hg : OpD X.K r g) (ho' : OpR X (compareOp op') r') (hg' : OpD X.K r' g') (ha : PE X a (tD X.K fa)) (hb : PE X b (tD X.K fb)) (hc : PE X c (tD X.K fc))
    (hm : lastMarks [op, op'] [b, c] = false := by with_unfolding_all rfl) : PT X (.Compare a [op, op'] [b, c] pos) (tDT X.K (f1 gB (fChain g g' fa fb fc))) := ptW (pt_chain ho ho' ha hb hc hm) fun σ H Q h => chainW hg hg' σ H _ (tB_W σ H Q h)
/-- for .. in a tuple or a list -/
theorem ds_for {tg iter : Expr} {body : List Stmt} {g : TG} {tgt : PyData → Rho → Option Rho} {fi : Rho → Option PyData} {F : Rho → Option Out} (hi : PE X iter (tD X.K fi)) (hg : PG X tg g) (ht : TgOk X.K g tgt) (hb : PSs X body (tDS X.K F)) (hp : PassesOwn (model X.prog X.w) X.A X.env X.xe := by exact PassesOwn.never) (hc : X.calm = true := by rfl)
    (hs : ∀ x, foldedSetIterable iter X.env x = pure x := by intro _; rfl) : PS X (.For tg iter body [] pos) (tDS X.K (fFor fi tgt F)) := ⟨fun pins s σ H D I ⟨ρ, o, eo, e, q⟩ => by
  have e' := e
  obtain ⟨l, e1, e2⟩ := Option.bind_eq_some_iff.mp e
  obtain ⟨d, e3, e4⟩ := Option.bind_eq_some_iff.mp e1
  cases d <;> try (cases e4; done)
  · cases e4
    refine (ds_forL hi hg ht hb hp hc hs).run pins s σ H D I ⟨ρ, o, eo, ?_, q⟩
    show ((f1 gL fi ρ).bind items).bind _ = some o
    rw [show f1 gL fi ρ = some (.list l) from by show (fi ρ).bind gL = _; rw [e3]; rfl]
    exact e2
  · cases e4
    refine (ds_forT hi hg ht hb hp hc hs).run pins s σ H D I ⟨ρ, o, eo, ?_, q⟩
    show ((f1 gT fi ρ).bind items).bind _ = some o
    rw [show f1 gT fi ρ = some (.tuple l) from by show (fi ρ).bind gT = _; rw [e3]; rfl]
    exact e2⟩
end
theorem hu65 {k : Nat} {A : Around} (hr : Room k A) : A.units + 65 < cLine := by
  have := hr.un
  omega
/-- the fuel of a loop whose i-th slot falls -/
def nfI (i : Nat) : Rho → Nat := fun ρ => match fV i ρ with
  | some (.int n) => n.natAbs + 1
  | _ => 0
def fLoop (nf : Rho → Nat) (fc : Rho → Option Bool) (F : Rho → Option Out) : Rho → Option Out := fun ρ => fWhile fc F (nf ρ) ρ
theorem b_len : bootBuiltins "len" = some (.builtin "len") := PySem.boot_len
theorem b_abs : bootBuiltins "abs" = some (.builtin "abs") := by decide +kernel
theorem b_all : bootBuiltins "all" = some (.builtin "all") := by decide +kernel
theorem b_min : bootBuiltins "min" = some (.builtin "min") := by decide +kernel
theorem b_max : bootBuiltins "max" = some (.builtin "max") := by decide +kernel
theorem b_int : bootBuiltins "int" = some (.type "int") := by decide +kernel
theorem b_str : bootBuiltins "str" = some (.type "str") := by decide +kernel
theorem b_bool : bootBuiltins "bool" = some (.type "bool") := by decide +kernel
theorem b_tuple : bootBuiltins "tuple" = some (.type "tuple") := by decide +kernel
/-! ### what the top says -/
structure Bs (w : World) (K : PySem.W.Frag) (mg : Str → Option Value) : Prop where
  ex : ∃ h : Heap, K.In h ∧ h.Ns mainGlobals mg
  c : SaysM w K
section
variable {w : World} {K : PySem.W.Frag} {mg : Str → Option Value}
theorem Bs.fact (B : Bs w K mg) {f : He.Fa} (h : f ∈ fa) : f.ok K = true := B.c.1.d.facts h
theorem Bs.free (B : Bs w K mg) {x : Str} (h : He.Fa.free x ∈ fa) : mg x = none := by
  obtain ⟨hp, X, G⟩ := B.ex
  exact He.free_ok X G (B.fact h)
theorem Bs.glo (B : Bs w K mg) {x : Str} (h : He.Fa.glo x ∈ fa) : mg x = some (.ref (He.ga K x)) := by
  obtain ⟨hp, X, G⟩ := B.ex
  exact He.glo_ok X G (B.fact h)
theorem Bs.int (B : Bs w K mg) {x : Str} {i : Int} (h : He.Fa.int x i ∈ fa) : GC K mg x (.int i) := by
  obtain ⟨hp, X, G⟩ := B.ex
  obtain ⟨t, ht⟩ := He.int_ok X G (B.fact h)
  exact ⟨.int i, _, ht, ⟨t, rfl⟩, fun _ => .int i⟩
theorem Bs.str (B : Bs w K mg) {x z : Str} (h : He.Fa.str x z ∈ fa) : GC K mg x (.str z) := by
  obtain ⟨hp, X, G⟩ := B.ex
  obtain ⟨t, ht⟩ := He.str_ok X G (B.fact h)
  exact ⟨.str z, _, ht, ⟨t, rfl⟩, fun _ => .str z⟩
theorem Bs.defs (B : Bs w K mg) {d : He.DefD} (h : d ∈ fn) : ∃ fd, FunD K d.name d.qual d.params d.body d.scope (d.dvs K) (d.kws K) (He.fAd K d.at_) fd := B.c.1.d.defs h
def cNOUGHT : PyData := .tuple [.tuple [.int 0, .int 1], .tuple [.int 0, .int 1]]
def cMOST_SIZE : PyData := .tuple [.int 3, .int 4]
theorem Bs.ng (B : Bs w K mg) (h : He.Fa.glo "NOUGHT" ∈ fa) : GC K mg "NOUGHT" cNOUGHT := by
  have e := B.c.2
  obtain ⟨_, e⟩ := He.ba e
  obtain ⟨_, e⟩ := He.ba e
  obtain ⟨_, e⟩ := He.ba e
  obtain ⟨e1, e⟩ := He.ba e
  obtain ⟨e2, e3⟩ := He.ba e
  exact ⟨.ref (He.ga K "NOUGHT"), _, B.glo h, rfl, fun H => .tup (tupA_ok e1 H) (.cons (.tup (tupA_ok e2 H) (.cons (.int 0) (.cons (.int 1) .nil))) (.cons (.tup (tupA_ok e3 H) (.cons (.int 0) (.cons (.int 1) .nil))) .nil))⟩
theorem Bs.ms (B : Bs w K mg) (h : He.Fa.glo "MOST_SIZE" ∈ fa) : GC K mg "MOST_SIZE" cMOST_SIZE := by
  have e := B.c.2
  obtain ⟨_, e⟩ := He.ba e
  obtain ⟨_, e⟩ := He.ba e
  obtain ⟨e1, e⟩ := He.ba e
  exact ⟨.ref (He.ga K "MOST_SIZE"), _, B.glo h, rfl, fun H => .tup (tupA_ok e1 H) (.cons (.int 3) (.cons (.int 4) .nil))⟩
def tTURNS : List (Str × Int) := [("left", 1), ("round", 2), ("right", 3)]
def tNUMBERS : List (Str × Int) := [("go", 1), ("skip", 1), ("side", 2), ("dot", 0), ("left", 0), ("right", 0), ("round", 0), ("mirror", 0), ("grow", 1), ("quarter", 1), ("half", 1), ("arc", 4)]
theorem Bs.tb (B : Bs w K mg) {x : Str} {tbl : List (Str × Int)} (i : Nat) {ks : List Str} (h : He.Fa.glo x ∈ fa) (ht : tabs[i]? = some ((fun K => He.ga K x), ks)) (hv : He.valsB K (He.ga K x) (tbl.map fun q => (q.1, He.Dv.int q.2)) = true) : KTab K w mg x tbl := by
  obtain ⟨es, n, D⟩ := B.c.1.tab i ht
  refine ⟨He.ga K x, es, n, B.glo h, D, fun q hq => ?_⟩
  exact He.valsB_ok hv (q := (q.1, He.Dv.int q.2)) (List.mem_map.mpr ⟨q, hq, rfl⟩)
theorem Bs.turns (B : Bs w K mg) (h : He.Fa.glo "TURNS" ∈ fa) : KTab K w mg "TURNS" tTURNS := by
  have e := B.c.2
  obtain ⟨e1, e⟩ := He.ba e
  exact B.tb 0 h rfl e1
theorem Bs.numbers (B : Bs w K mg) (h : He.Fa.glo "NUMBERS" ∈ fa) : KTab K w mg "NUMBERS" tNUMBERS := by
  have e := B.c.2
  obtain ⟨_, e⟩ := He.ba e
  obtain ⟨e1, e⟩ := He.ba e
  exact B.tb 1 h rfl e1
end
end Arc
set_option Elab.async false
set_option linter.all false
set_option maxRecDepth 100000
set_option maxHeartbeats 4000000
namespace Arc
open PySem L2

theorem mem_fn (i : Nat) {d : He.DefD} (h : fn[i]? = some d) : d ∈ fn := List.mem_of_getElem? h
theorem mem_fa (i : Nat) {d : He.Fa} (h : fa[i]? = some d) : d ∈ fa := List.mem_of_getElem? h
structure Tp (w : World) (K : PySem.W.Frag) (mg : Str → Option Value) : Prop where
  z_abs : mg "abs" = none
  z_range : mg "range" = none
  z_len : mg "len" = none
  z_int : mg "int" = none
  z_str : mg "str" = none
  z_isinstance : mg "isinstance" = none
  z_bool : mg "bool" = none
  z_tuple : mg "tuple" = none
  z_all : mg "all" = none
  z_min : mg "min" = none
  z_max : mg "max" = none
  z_enumerate : mg "enumerate" = none
  c_NOUGHT : GC K mg "NOUGHT" cNOUGHT
  c_MOST_DONE : GC K mg "MOST_DONE" (.int 300)
  c_MOST_ROWS : GC K mg "MOST_ROWS" (.int 60)
  c_DEEPEST : GC K mg "DEEPEST" (.int 4)
  c_MOST_ROUNDS : GC K mg "MOST_ROUNDS" (.int 12)
  c_MOST_GROWN : GC K mg "MOST_GROWN" (.int 12)
  c_MOST_SIZE : GC K mg "MOST_SIZE" cMOST_SIZE
  c_FIGURES : GC K mg "FIGURES" (.str "0123456789")
  t_TURNS : KTab K w mg "TURNS" tTURNS
  t_NUMBERS : KTab K w mg "NUMBERS" tNUMBERS
theorem tp_of {w : World} {K : PySem.W.Frag} {mg : Str → Option Value} (B : Bs w K mg) : Tp w K mg := ⟨B.free (mem_fa 89 rfl), B.free (mem_fa 90 rfl), B.free (mem_fa 91 rfl), B.free (mem_fa 92 rfl), B.free (mem_fa 93 rfl), B.free (mem_fa 94 rfl), B.free (mem_fa 95 rfl), B.free (mem_fa 96 rfl), B.free (mem_fa 97 rfl), B.free (mem_fa 98 rfl), B.free (mem_fa 99 rfl), B.free (mem_fa 100 rfl), B.ng (mem_fa 101 rfl), B.int (mem_fa 102 rfl), B.int (mem_fa 105 rfl), B.int (mem_fa 106 rfl), B.int (mem_fa 107 rfl), B.int (mem_fa 108 rfl), B.ms (mem_fa 109 rfl), B.str (mem_fa 110 rfl), B.turns (mem_fa 103 rfl), B.numbers (mem_fa 104 rfl)⟩
theorem sc_divisor : FnScope ["one", "other"] ["one", "other"] (defScope s_divisor) := ⟨rfl, rfl, rfl, by decide +kernel, rfl, by decide +kernel, by decide +kernel⟩
def F_divisor : Rho → Option Out := (fSeq (fSet 0 (f1 (on1 gAbs) (fCons (fV 0) fNil))) (fSeq (fSet 1 (f1 (on1 gAbs) (fCons (fV 1) fNil))) (fSeq (fLoop (nfI 1) (f1 gB (f2 gGt (fV 1) (fC (.int 0)))) (fPar 0 1 (fCons (fV 1) (fCons (f2 gMod (fV 0) (fV 1)) fNil)))) (fRet (fV 0)))))
def divisor_G : List PyData → Option PyData := defG 2 2 F_divisor
theorem ok_divisor {P : Program} {w : World} {K : PySem.W.Frag} {mg : Str → Option Value} {base : Heap} (B : Bs w K mg) (T : Tp w K mg) : Fc P w K mg base 1 "divisor" ["one", "other"] divisor_G := by
  obtain ⟨fd, Fd⟩ := B.defs (d := d_divisor) (mem_fn 0 rfl)
  replace Fd : FnP K "divisor" "divisor" s_divisor [] (He.ga K "divisor") fd := Fd
  refine ⟨He.ga K "divisor", fd, fnD (k := 0) (N := ["one", "other"]) Fd sc_divisor (fun cdv A outer s H E hr => ?_), B.glo (mem_fa 0 rfl), Fd.kp, FunD.bindsN (ps := ["one", "other"]) Fd fun _ _ _ _ _ _ us hl => match us, hl with | [_, _], _ => rfl⟩
  exact (dss_cons (ds_set (i := 0) sc_divisor.nd (d_bi call_abs c_abs T.z_abs b_abs (da_cons (dv 0) da_nil))) (dss_cons (ds_set (i := 1) sc_divisor.nd (d_bi call_abs c_abs T.z_abs b_abs (da_cons (dv 1) da_nil))) (dss_cons (ds_while (nfI 1) (dt_cmp op_gt o_gt (dv 1) d_int) (dss_one (ds_par (i := 0) (j := 1) rfl sc_divisor.nd rfl rfl (by decide) rfl rfl (da_cons (dv 1) (da_cons (d_op op_mod o_mod (dv 0) (dv 1)) da_nil))))) (dss_one (ds_ret (dv 0))))))
theorem sc_ratio : FnScope ["top", "bottom", "by"] ["top", "bottom"] (defScope s_ratio) := ⟨rfl, rfl, rfl, by decide +kernel, rfl, by decide +kernel, by decide +kernel⟩
def F_ratio : Rho → Option Out := (fSeq (fIf (f1 gB (f2 gEq (fV 1) (fC (.int 0)))) fNever fNext) (fSeq (fSet 2 (f1 divisor_G (fCons (fV 0) (fCons (fV 1) fNil)))) (fSeq (fIf (f1 gB (f2 gLt (fV 1) (fC (.int 0)))) (fSet 2 (f2 gSub (fC (.int 0)) (fV 2))) fNext) (fRet (f1 gTu (fCons (f2 gDiv (fV 0) (fV 2)) (fCons (f2 gDiv (fV 1) (fV 2)) fNil)))))))
def ratio_G : List PyData → Option PyData := defG 2 3 F_ratio
theorem ok_ratio {P : Program} {w : World} {K : PySem.W.Frag} {mg : Str → Option Value} {base : Heap} (B : Bs w K mg) (T : Tp w K mg) (h_divisor : Fc P w K mg base 1 "divisor" ["one", "other"] divisor_G) : Fc P w K mg base 2 "ratio" ["top", "bottom"] ratio_G := by
  obtain ⟨fd, Fd⟩ := B.defs (d := d_ratio) (mem_fn 1 rfl)
  replace Fd : FnP K "ratio" "ratio" s_ratio [] (He.ga K "ratio") fd := Fd
  refine ⟨He.ga K "ratio", fd, fnD (k := 1) (N := ["top", "bottom", "by"]) Fd sc_ratio (fun cdv A outer s H E hr => ?_), B.glo (mem_fa 1 rfl), Fd.kp, FunD.bindsN (ps := ["top", "bottom"]) Fd fun _ _ _ _ _ _ us hl => match us, hl with | [_, _], _ => rfl⟩
  exact (dss_cons (ds_if (dt_cmp (op_eqD hr.units) o_eq (dv 1) d_int) (dss_one ds_never) dss_nil) (dss_cons (ds_set (i := 2) sc_ratio.nd (d_call h_divisor hr (da_cons (dv 0) (da_cons (dv 1) da_nil)))) (dss_cons (ds_if (dt_cmp op_lt o_lt (dv 1) d_int) (dss_one (ds_set (i := 2) sc_ratio.nd (d_op op_sub o_sub d_int (dv 2)))) dss_nil) (dss_one (ds_ret (d_tup (da_cons (d_op op_fdivW o_div (dv 0) (dv 2)) (da_cons (d_op op_fdivW o_div (dv 1) (dv 2)) da_nil))))))))
theorem sc_plus : FnScope ["one", "other"] ["one", "other"] (defScope s_plus) := ⟨rfl, rfl, rfl, by decide +kernel, rfl, by decide +kernel, by decide +kernel⟩
def F_plus : Rho → Option Out := (fRet (f1 ratio_G (fCons (f2 gAdd (f2 gMul (f2 gIx (fV 0) (fC (.int 0))) (f2 gIx (fV 1) (fC (.int 1)))) (f2 gMul (f2 gIx (fV 1) (fC (.int 0))) (f2 gIx (fV 0) (fC (.int 1))))) (fCons (f2 gMul (f2 gIx (fV 0) (fC (.int 1))) (f2 gIx (fV 1) (fC (.int 1)))) fNil))))
def plus_G : List PyData → Option PyData := defG 2 2 F_plus
theorem ok_plus {P : Program} {w : World} {K : PySem.W.Frag} {mg : Str → Option Value} {base : Heap} (B : Bs w K mg) (T : Tp w K mg) (h_ratio : Fc P w K mg base 2 "ratio" ["top", "bottom"] ratio_G) : Fc P w K mg base 3 "plus" ["one", "other"] plus_G := by
  obtain ⟨fd, Fd⟩ := B.defs (d := d_plus) (mem_fn 2 rfl)
  replace Fd : FnP K "plus" "plus" s_plus [] (He.ga K "plus") fd := Fd
  refine ⟨He.ga K "plus", fd, fnD (k := 2) (N := ["one", "other"]) Fd sc_plus (fun cdv A outer s H E hr => ?_), B.glo (mem_fa 2 rfl), Fd.kp, FunD.bindsN (ps := ["one", "other"]) Fd fun _ _ _ _ _ _ us hl => match us, hl with | [_, _], _ => rfl⟩
  exact (dss_one (ds_ret (d_call h_ratio hr (da_cons (d_op op_add o_add (d_op op_mulW o_mul (d_ix (dv 0) d_int) (d_ix (dv 1) d_int)) (d_op op_mulW o_mul (d_ix (dv 1) d_int) (d_ix (dv 0) d_int))) (da_cons (d_op op_mulW o_mul (d_ix (dv 0) d_int) (d_ix (dv 1) d_int)) da_nil)))))
theorem sc_minus : FnScope ["one", "other"] ["one", "other"] (defScope s_minus) := ⟨rfl, rfl, rfl, by decide +kernel, rfl, by decide +kernel, by decide +kernel⟩
def F_minus : Rho → Option Out := (fRet (f1 ratio_G (fCons (f2 gSub (f2 gMul (f2 gIx (fV 0) (fC (.int 0))) (f2 gIx (fV 1) (fC (.int 1)))) (f2 gMul (f2 gIx (fV 1) (fC (.int 0))) (f2 gIx (fV 0) (fC (.int 1))))) (fCons (f2 gMul (f2 gIx (fV 0) (fC (.int 1))) (f2 gIx (fV 1) (fC (.int 1)))) fNil))))
def minus_G : List PyData → Option PyData := defG 2 2 F_minus
theorem ok_minus {P : Program} {w : World} {K : PySem.W.Frag} {mg : Str → Option Value} {base : Heap} (B : Bs w K mg) (T : Tp w K mg) (h_ratio : Fc P w K mg base 2 "ratio" ["top", "bottom"] ratio_G) : Fc P w K mg base 3 "minus" ["one", "other"] minus_G := by
  obtain ⟨fd, Fd⟩ := B.defs (d := d_minus) (mem_fn 3 rfl)
  replace Fd : FnP K "minus" "minus" s_minus [] (He.ga K "minus") fd := Fd
  refine ⟨He.ga K "minus", fd, fnD (k := 2) (N := ["one", "other"]) Fd sc_minus (fun cdv A outer s H E hr => ?_), B.glo (mem_fa 3 rfl), Fd.kp, FunD.bindsN (ps := ["one", "other"]) Fd fun _ _ _ _ _ _ us hl => match us, hl with | [_, _], _ => rfl⟩
  exact (dss_one (ds_ret (d_call h_ratio hr (da_cons (d_op op_sub o_sub (d_op op_mulW o_mul (d_ix (dv 0) d_int) (d_ix (dv 1) d_int)) (d_op op_mulW o_mul (d_ix (dv 1) d_int) (d_ix (dv 0) d_int))) (da_cons (d_op op_mulW o_mul (d_ix (dv 0) d_int) (d_ix (dv 1) d_int)) da_nil)))))
theorem sc_times : FnScope ["one", "other"] ["one", "other"] (defScope s_times) := ⟨rfl, rfl, rfl, by decide +kernel, rfl, by decide +kernel, by decide +kernel⟩
def F_times : Rho → Option Out := (fRet (f1 ratio_G (fCons (f2 gMul (f2 gIx (fV 0) (fC (.int 0))) (f2 gIx (fV 1) (fC (.int 0)))) (fCons (f2 gMul (f2 gIx (fV 0) (fC (.int 1))) (f2 gIx (fV 1) (fC (.int 1)))) fNil))))
def times_G : List PyData → Option PyData := defG 2 2 F_times
theorem ok_times {P : Program} {w : World} {K : PySem.W.Frag} {mg : Str → Option Value} {base : Heap} (B : Bs w K mg) (T : Tp w K mg) (h_ratio : Fc P w K mg base 2 "ratio" ["top", "bottom"] ratio_G) : Fc P w K mg base 3 "times" ["one", "other"] times_G := by
  obtain ⟨fd, Fd⟩ := B.defs (d := d_times) (mem_fn 4 rfl)
  replace Fd : FnP K "times" "times" s_times [] (He.ga K "times") fd := Fd
  refine ⟨He.ga K "times", fd, fnD (k := 2) (N := ["one", "other"]) Fd sc_times (fun cdv A outer s H E hr => ?_), B.glo (mem_fa 4 rfl), Fd.kp, FunD.bindsN (ps := ["one", "other"]) Fd fun _ _ _ _ _ _ us hl => match us, hl with | [_, _], _ => rfl⟩
  exact (dss_one (ds_ret (d_call h_ratio hr (da_cons (d_op op_mulW o_mul (d_ix (dv 0) d_int) (d_ix (dv 1) d_int)) (da_cons (d_op op_mulW o_mul (d_ix (dv 0) d_int) (d_ix (dv 1) d_int)) da_nil)))))
theorem sc_over : FnScope ["one", "other"] ["one", "other"] (defScope s_over) := ⟨rfl, rfl, rfl, by decide +kernel, rfl, by decide +kernel, by decide +kernel⟩
def F_over : Rho → Option Out := (fRet (f1 ratio_G (fCons (f2 gMul (f2 gIx (fV 0) (fC (.int 0))) (f2 gIx (fV 1) (fC (.int 1)))) (fCons (f2 gMul (f2 gIx (fV 0) (fC (.int 1))) (f2 gIx (fV 1) (fC (.int 0)))) fNil))))
def over_G : List PyData → Option PyData := defG 2 2 F_over
theorem ok_over {P : Program} {w : World} {K : PySem.W.Frag} {mg : Str → Option Value} {base : Heap} (B : Bs w K mg) (T : Tp w K mg) (h_ratio : Fc P w K mg base 2 "ratio" ["top", "bottom"] ratio_G) : Fc P w K mg base 3 "over" ["one", "other"] over_G := by
  obtain ⟨fd, Fd⟩ := B.defs (d := d_over) (mem_fn 5 rfl)
  replace Fd : FnP K "over" "over" s_over [] (He.ga K "over") fd := Fd
  refine ⟨He.ga K "over", fd, fnD (k := 2) (N := ["one", "other"]) Fd sc_over (fun cdv A outer s H E hr => ?_), B.glo (mem_fa 5 rfl), Fd.kp, FunD.bindsN (ps := ["one", "other"]) Fd fun _ _ _ _ _ _ us hl => match us, hl with | [_, _], _ => rfl⟩
  exact (dss_one (ds_ret (d_call h_ratio hr (da_cons (d_op op_mulW o_mul (d_ix (dv 0) d_int) (d_ix (dv 1) d_int)) (da_cons (d_op op_mulW o_mul (d_ix (dv 0) d_int) (d_ix (dv 1) d_int)) da_nil)))))
theorem sc_below : FnScope ["one", "other"] ["one", "other"] (defScope s_below) := ⟨rfl, rfl, rfl, by decide +kernel, rfl, by decide +kernel, by decide +kernel⟩
def F_below : Rho → Option Out := (fRet (f2 gLt (f2 gMul (f2 gIx (fV 0) (fC (.int 0))) (f2 gIx (fV 1) (fC (.int 1)))) (f2 gMul (f2 gIx (fV 1) (fC (.int 0))) (f2 gIx (fV 0) (fC (.int 1))))))
def below_G : List PyData → Option PyData := defG 2 2 F_below
theorem ok_below {P : Program} {w : World} {K : PySem.W.Frag} {mg : Str → Option Value} {base : Heap} (B : Bs w K mg) (T : Tp w K mg) : Fc P w K mg base 1 "below" ["one", "other"] below_G := by
  obtain ⟨fd, Fd⟩ := B.defs (d := d_below) (mem_fn 6 rfl)
  replace Fd : FnP K "below" "below" s_below [] (He.ga K "below") fd := Fd
  refine ⟨He.ga K "below", fd, fnD (k := 0) (N := ["one", "other"]) Fd sc_below (fun cdv A outer s H E hr => ?_), B.glo (mem_fa 6 rfl), Fd.kp, FunD.bindsN (ps := ["one", "other"]) Fd fun _ _ _ _ _ _ us hl => match us, hl with | [_, _], _ => rfl⟩
  exact (dss_one (ds_ret (d_cmp op_lt o_lt (d_op op_mulW o_mul (d_ix (dv 0) d_int) (d_ix (dv 1) d_int)) (d_op op_mulW o_mul (d_ix (dv 1) d_int) (d_ix (dv 0) d_int)))))
theorem sc_together : FnScope ["p", "q"] ["p", "q"] (defScope s_together) := ⟨rfl, rfl, rfl, by decide +kernel, rfl, by decide +kernel, by decide +kernel⟩
def F_together : Rho → Option Out := (fRet (f1 gTu (fCons (f1 plus_G (fCons (f2 gIx (fV 0) (fC (.int 0))) (fCons (f2 gIx (fV 1) (fC (.int 0))) fNil))) (fCons (f1 plus_G (fCons (f2 gIx (fV 0) (fC (.int 1))) (fCons (f2 gIx (fV 1) (fC (.int 1))) fNil))) fNil))))
def together_G : List PyData → Option PyData := defG 2 2 F_together
theorem ok_together {P : Program} {w : World} {K : PySem.W.Frag} {mg : Str → Option Value} {base : Heap} (B : Bs w K mg) (T : Tp w K mg) (h_plus : Fc P w K mg base 3 "plus" ["one", "other"] plus_G) : Fc P w K mg base 4 "together" ["p", "q"] together_G := by
  obtain ⟨fd, Fd⟩ := B.defs (d := d_together) (mem_fn 7 rfl)
  replace Fd : FnP K "together" "together" s_together [] (He.ga K "together") fd := Fd
  refine ⟨He.ga K "together", fd, fnD (k := 3) (N := ["p", "q"]) Fd sc_together (fun cdv A outer s H E hr => ?_), B.glo (mem_fa 7 rfl), Fd.kp, FunD.bindsN (ps := ["p", "q"]) Fd fun _ _ _ _ _ _ us hl => match us, hl with | [_, _], _ => rfl⟩
  exact (dss_one (ds_ret (d_tup (da_cons (d_call h_plus hr (da_cons (d_ix (dv 0) d_int) (da_cons (d_ix (dv 1) d_int) da_nil))) (da_cons (d_call h_plus hr (da_cons (d_ix (dv 0) d_int) (da_cons (d_ix (dv 1) d_int) da_nil))) da_nil)))))
theorem sc_off : FnScope ["p", "q"] ["p", "q"] (defScope s_off) := ⟨rfl, rfl, rfl, by decide +kernel, rfl, by decide +kernel, by decide +kernel⟩
def F_off : Rho → Option Out := (fRet (f1 gTu (fCons (f1 minus_G (fCons (f2 gIx (fV 0) (fC (.int 0))) (fCons (f2 gIx (fV 1) (fC (.int 0))) fNil))) (fCons (f1 minus_G (fCons (f2 gIx (fV 0) (fC (.int 1))) (fCons (f2 gIx (fV 1) (fC (.int 1))) fNil))) fNil))))
def off_G : List PyData → Option PyData := defG 2 2 F_off
theorem ok_off {P : Program} {w : World} {K : PySem.W.Frag} {mg : Str → Option Value} {base : Heap} (B : Bs w K mg) (T : Tp w K mg) (h_minus : Fc P w K mg base 3 "minus" ["one", "other"] minus_G) : Fc P w K mg base 4 "off" ["p", "q"] off_G := by
  obtain ⟨fd, Fd⟩ := B.defs (d := d_off) (mem_fn 8 rfl)
  replace Fd : FnP K "off" "off" s_off [] (He.ga K "off") fd := Fd
  refine ⟨He.ga K "off", fd, fnD (k := 3) (N := ["p", "q"]) Fd sc_off (fun cdv A outer s H E hr => ?_), B.glo (mem_fa 8 rfl), Fd.kp, FunD.bindsN (ps := ["p", "q"]) Fd fun _ _ _ _ _ _ us hl => match us, hl with | [_, _], _ => rfl⟩
  exact (dss_one (ds_ret (d_tup (da_cons (d_call h_minus hr (da_cons (d_ix (dv 0) d_int) (da_cons (d_ix (dv 1) d_int) da_nil))) (da_cons (d_call h_minus hr (da_cons (d_ix (dv 0) d_int) (da_cons (d_ix (dv 1) d_int) da_nil))) da_nil)))))
theorem sc_grown : FnScope ["p", "number"] ["p", "number"] (defScope s_grown) := ⟨rfl, rfl, rfl, by decide +kernel, rfl, by decide +kernel, by decide +kernel⟩
def F_grown : Rho → Option Out := (fRet (f1 gTu (fCons (f1 times_G (fCons (f2 gIx (fV 0) (fC (.int 0))) (fCons (fV 1) fNil))) (fCons (f1 times_G (fCons (f2 gIx (fV 0) (fC (.int 1))) (fCons (fV 1) fNil))) fNil))))
def grown_G : List PyData → Option PyData := defG 2 2 F_grown
theorem ok_grown {P : Program} {w : World} {K : PySem.W.Frag} {mg : Str → Option Value} {base : Heap} (B : Bs w K mg) (T : Tp w K mg) (h_times : Fc P w K mg base 3 "times" ["one", "other"] times_G) : Fc P w K mg base 4 "grown" ["p", "number"] grown_G := by
  obtain ⟨fd, Fd⟩ := B.defs (d := d_grown) (mem_fn 9 rfl)
  replace Fd : FnP K "grown" "grown" s_grown [] (He.ga K "grown") fd := Fd
  refine ⟨He.ga K "grown", fd, fnD (k := 3) (N := ["p", "number"]) Fd sc_grown (fun cdv A outer s H E hr => ?_), B.glo (mem_fa 9 rfl), Fd.kp, FunD.bindsN (ps := ["p", "number"]) Fd fun _ _ _ _ _ _ us hl => match us, hl with | [_, _], _ => rfl⟩
  exact (dss_one (ds_ret (d_tup (da_cons (d_call h_times hr (da_cons (d_ix (dv 0) d_int) (da_cons (dv 1) da_nil))) (da_cons (d_call h_times hr (da_cons (d_ix (dv 0) d_int) (da_cons (dv 1) da_nil))) da_nil)))))
theorem sc_turned : FnScope ["p", "quarters", "x", "y", "turn"] ["p", "quarters"] (defScope s_turned) := ⟨rfl, rfl, rfl, by decide +kernel, rfl, by decide +kernel, by decide +kernel⟩
def F_turned : Rho → Option Out := (fSeq (fUnp [2, 3] (fV 0)) (fSeq (fFor (f1 gRng1 (fCons (f2 gMod (fV 1) (fC (.int 4))) fNil)) (tgN 4) (fPar 2 3 (fCons (f1 gTu (fCons (f2 gSub (fC (.int 0)) (f2 gIx (fV 3) (fC (.int 0)))) (fCons (f2 gIx (fV 3) (fC (.int 1))) fNil))) (fCons (fV 2) fNil)))) (fRet (f1 gTu (fCons (fV 2) (fCons (fV 3) fNil))))))
def turned_G : List PyData → Option PyData := defG 2 5 F_turned
theorem ok_turned {P : Program} {w : World} {K : PySem.W.Frag} {mg : Str → Option Value} {base : Heap} (B : Bs w K mg) (T : Tp w K mg) : Fc P w K mg base 1 "turned" ["p", "quarters"] turned_G := by
  obtain ⟨fd, Fd⟩ := B.defs (d := d_turned) (mem_fn 10 rfl)
  replace Fd : FnP K "turned" "turned" s_turned [] (He.ga K "turned") fd := Fd
  refine ⟨He.ga K "turned", fd, fnD (k := 0) (N := ["p", "quarters", "x", "y", "turn"]) Fd sc_turned (fun cdv A outer s H E hr => ?_), B.glo (mem_fa 10 rfl), Fd.kp, FunD.bindsN (ps := ["p", "quarters"]) Fd fun _ _ _ _ _ _ us hl => match us, hl with | [_, _], _ => rfl⟩
  exact (dss_cons (ds_unp (is := [2, 3]) (pg_tup rfl (pgs_cons (pg_name (i := 2) sc_turned.nd rfl (Or.inl rfl)) (pgs_cons (pg_name (i := 3) sc_turned.nd rfl (Or.inl rfl)) pgs_nil))) (dv 0)) (dss_cons (ds_forR T.z_range (da_cons (d_op op_mod o_mod (dv 1) d_int) da_nil) (pg_name (i := 4) sc_turned.nd rfl (Or.inl rfl)) (tg_name 4) (dss_one (ds_par (i := 2) (j := 3) rfl sc_turned.nd rfl rfl (by decide) rfl rfl (da_cons (d_tup (da_cons (d_op op_sub o_sub d_int (d_ix (dv 3) d_int)) (da_cons (d_ix (dv 3) d_int) da_nil))) (da_cons (dv 2) da_nil))))) (dss_one (ds_ret (d_tup (da_cons (dv 2) (da_cons (dv 3) da_nil)))))))
theorem sc_along : FnScope ["p", "q"] ["p", "q"] (defScope s_along) := ⟨rfl, rfl, rfl, by decide +kernel, rfl, by decide +kernel, by decide +kernel⟩
def F_along : Rho → Option Out := (fRet (f1 plus_G (fCons (f1 times_G (fCons (f2 gIx (fV 0) (fC (.int 0))) (fCons (f2 gIx (fV 1) (fC (.int 0))) fNil))) (fCons (f1 times_G (fCons (f2 gIx (fV 0) (fC (.int 1))) (fCons (f2 gIx (fV 1) (fC (.int 1))) fNil))) fNil))))
def along_G : List PyData → Option PyData := defG 2 2 F_along
theorem ok_along {P : Program} {w : World} {K : PySem.W.Frag} {mg : Str → Option Value} {base : Heap} (B : Bs w K mg) (T : Tp w K mg) (h_times : Fc P w K mg base 3 "times" ["one", "other"] times_G) (h_plus : Fc P w K mg base 3 "plus" ["one", "other"] plus_G) : Fc P w K mg base 4 "along" ["p", "q"] along_G := by
  obtain ⟨fd, Fd⟩ := B.defs (d := d_along) (mem_fn 11 rfl)
  replace Fd : FnP K "along" "along" s_along [] (He.ga K "along") fd := Fd
  refine ⟨He.ga K "along", fd, fnD (k := 3) (N := ["p", "q"]) Fd sc_along (fun cdv A outer s H E hr => ?_), B.glo (mem_fa 11 rfl), Fd.kp, FunD.bindsN (ps := ["p", "q"]) Fd fun _ _ _ _ _ _ us hl => match us, hl with | [_, _], _ => rfl⟩
  exact (dss_one (ds_ret (d_call h_plus hr (da_cons (d_call h_times hr (da_cons (d_ix (dv 0) d_int) (da_cons (d_ix (dv 1) d_int) da_nil))) (da_cons (d_call h_times hr (da_cons (d_ix (dv 0) d_int) (da_cons (d_ix (dv 1) d_int) da_nil))) da_nil)))))
theorem sc_far : FnScope ["p", "q", "way"] ["p", "q"] (defScope s_far) := ⟨rfl, rfl, rfl, by decide +kernel, rfl, by decide +kernel, by decide +kernel⟩
def F_far : Rho → Option Out := (fSeq (fSet 2 (f1 off_G (fCons (fV 0) (fCons (fV 1) fNil)))) (fRet (f1 along_G (fCons (fV 2) (fCons (fV 2) fNil)))))
def far_G : List PyData → Option PyData := defG 2 3 F_far
theorem ok_far {P : Program} {w : World} {K : PySem.W.Frag} {mg : Str → Option Value} {base : Heap} (B : Bs w K mg) (T : Tp w K mg) (h_along : Fc P w K mg base 4 "along" ["p", "q"] along_G) (h_off : Fc P w K mg base 4 "off" ["p", "q"] off_G) : Fc P w K mg base 5 "far" ["p", "q"] far_G := by
  obtain ⟨fd, Fd⟩ := B.defs (d := d_far) (mem_fn 12 rfl)
  replace Fd : FnP K "far" "far" s_far [] (He.ga K "far") fd := Fd
  refine ⟨He.ga K "far", fd, fnD (k := 4) (N := ["p", "q", "way"]) Fd sc_far (fun cdv A outer s H E hr => ?_), B.glo (mem_fa 12 rfl), Fd.kp, FunD.bindsN (ps := ["p", "q"]) Fd fun _ _ _ _ _ _ us hl => match us, hl with | [_, _], _ => rfl⟩
  exact (dss_cons (ds_set (i := 2) sc_far.nd (d_call h_off hr (da_cons (dv 0) (da_cons (dv 1) da_nil)))) (dss_one (ds_ret (d_call h_along hr (da_cons (dv 2) (da_cons (dv 2) da_nil))))))
theorem sc_before : FnScope ["p", "q"] ["p", "q"] (defScope s_before) := ⟨rfl, rfl, rfl, by decide +kernel, rfl, by decide +kernel, by decide +kernel⟩
def F_before : Rho → Option Out := (fRet (fOrV (f1 below_G (fCons (f2 gIx (fV 0) (fC (.int 0))) (fCons (f2 gIx (fV 1) (fC (.int 0))) fNil))) (fAndV (f2 gEq (f2 gIx (fV 0) (fC (.int 0))) (f2 gIx (fV 1) (fC (.int 0)))) (f1 below_G (fCons (f2 gIx (fV 0) (fC (.int 1))) (fCons (f2 gIx (fV 1) (fC (.int 1))) fNil))))))
def before_G : List PyData → Option PyData := defG 2 2 F_before
theorem ok_before {P : Program} {w : World} {K : PySem.W.Frag} {mg : Str → Option Value} {base : Heap} (B : Bs w K mg) (T : Tp w K mg) (h_below : Fc P w K mg base 1 "below" ["one", "other"] below_G) : Fc P w K mg base 2 "before" ["p", "q"] before_G := by
  obtain ⟨fd, Fd⟩ := B.defs (d := d_before) (mem_fn 13 rfl)
  replace Fd : FnP K "before" "before" s_before [] (He.ga K "before") fd := Fd
  refine ⟨He.ga K "before", fd, fnD (k := 1) (N := ["p", "q"]) Fd sc_before (fun cdv A outer s H E hr => ?_), B.glo (mem_fa 13 rfl), Fd.kp, FunD.bindsN (ps := ["p", "q"]) Fd fun _ _ _ _ _ _ us hl => match us, hl with | [_, _], _ => rfl⟩
  exact (dss_one (ds_ret (d_or (d_call h_below hr (da_cons (d_ix (dv 0) d_int) (da_cons (d_ix (dv 1) d_int) da_nil))) (d_one (d_and (d_cmp (op_eqD hr.units) o_eq (d_ix (dv 0) d_int) (d_ix (dv 1) d_int)) (d_one (d_call h_below hr (da_cons (d_ix (dv 0) d_int) (da_cons (d_ix (dv 1) d_int) da_nil)))))))))
theorem sc_stretch : FnScope ["p", "q"] ["p", "q"] (defScope s_stretch) := ⟨rfl, rfl, rfl, by decide +kernel, rfl, by decide +kernel, by decide +kernel⟩
def F_stretch : Rho → Option Out := (fSeq (fIf (f1 gB (f2 gEq (fV 0) (fV 1))) (fRet (f1 gTu (fCons (fC (.str "dot")) (fCons (fV 0) fNil)))) fNext) (fSeq (fIf (f1 gB (f1 before_G (fCons (fV 1) (fCons (fV 0) fNil)))) (fRet (f1 gTu (fCons (fC (.str "stretch")) (fCons (fV 1) (fCons (fV 0) fNil))))) fNext) (fRet (f1 gTu (fCons (fC (.str "stretch")) (fCons (fV 0) (fCons (fV 1) fNil)))))))
def stretch_G : List PyData → Option PyData := defG 2 2 F_stretch
theorem ok_stretch {P : Program} {w : World} {K : PySem.W.Frag} {mg : Str → Option Value} {base : Heap} (B : Bs w K mg) (T : Tp w K mg) (h_before : Fc P w K mg base 2 "before" ["p", "q"] before_G) : Fc P w K mg base 3 "stretch" ["p", "q"] stretch_G := by
  obtain ⟨fd, Fd⟩ := B.defs (d := d_stretch) (mem_fn 14 rfl)
  replace Fd : FnP K "stretch" "stretch" s_stretch [] (He.ga K "stretch") fd := Fd
  refine ⟨He.ga K "stretch", fd, fnD (k := 2) (N := ["p", "q"]) Fd sc_stretch (fun cdv A outer s H E hr => ?_), B.glo (mem_fa 14 rfl), Fd.kp, FunD.bindsN (ps := ["p", "q"]) Fd fun _ _ _ _ _ _ us hl => match us, hl with | [_, _], _ => rfl⟩
  exact (dss_cons (ds_if (dt_cmp (op_eqD hr.units) o_eq (dv 0) (dv 1)) (dss_one (ds_ret (d_tup (da_cons d_str (da_cons (dv 0) da_nil))))) dss_nil) (dss_cons (ds_if (dt_val (d_call h_before hr (da_cons (dv 1) (da_cons (dv 0) da_nil)))) (dss_one (ds_ret (d_tup (da_cons d_str (da_cons (dv 1) (da_cons (dv 0) da_nil)))))) dss_nil) (dss_one (ds_ret (d_tup (da_cons d_str (da_cons (dv 0) (da_cons (dv 1) da_nil))))))))
theorem sc_arc : FnScope ["c", "p", "q"] ["c", "p", "q"] (defScope s_arc) := ⟨rfl, rfl, rfl, by decide +kernel, rfl, by decide +kernel, by decide +kernel⟩
def F_arc : Rho → Option Out := (fSeq (fIf (fOr (f1 gB (f2 gNe (f1 far_G (fCons (fV 0) (fCons (fV 1) fNil))) (f1 far_G (fCons (fV 0) (fCons (fV 2) fNil))))) (f1 gB (f2 gEq (fV 0) (fV 1)))) fNever fNext) (fSeq (fIf (f1 gB (f2 gEq (fV 1) (fV 2))) (fRet (f1 gTu (fCons (fC (.str "ring")) (fCons (fV 0) (fCons (fV 1) fNil))))) fNext) (fRet (f1 gTu (fCons (fC (.str "arc")) (fCons (fV 0) (fCons (fV 1) (fCons (fV 2) fNil))))))))
def arc_G : List PyData → Option PyData := defG 3 3 F_arc
theorem ok_arc {P : Program} {w : World} {K : PySem.W.Frag} {mg : Str → Option Value} {base : Heap} (B : Bs w K mg) (T : Tp w K mg) (h_far : Fc P w K mg base 5 "far" ["p", "q"] far_G) : Fc P w K mg base 6 "arc" ["c", "p", "q"] arc_G := by
  obtain ⟨fd, Fd⟩ := B.defs (d := d_arc) (mem_fn 15 rfl)
  replace Fd : FnP K "arc" "arc" s_arc [] (He.ga K "arc") fd := Fd
  refine ⟨He.ga K "arc", fd, fnD (k := 5) (N := ["c", "p", "q"]) Fd sc_arc (fun cdv A outer s H E hr => ?_), B.glo (mem_fa 15 rfl), Fd.kp, FunD.bindsN (ps := ["c", "p", "q"]) Fd fun _ _ _ _ _ _ us hl => match us, hl with | [_, _, _], _ => rfl⟩
  exact (dss_cons (ds_if (PW.pt (dw_or (dt_cmp (op_neD hr.units) o_ne (d_call h_far hr (da_cons (dv 0) (da_cons (dv 1) da_nil))) (d_call h_far hr (da_cons (dv 0) (da_cons (dv 2) da_nil)))) (dw_or1 (dt_cmp (op_eqD hr.units) o_eq (dv 0) (dv 1))))) (dss_one ds_never) dss_nil) (dss_cons (ds_if (dt_cmp (op_eqD hr.units) o_eq (dv 1) (dv 2)) (dss_one (ds_ret (d_tup (da_cons d_str (da_cons (dv 0) (da_cons (dv 1) da_nil)))))) dss_nil) (dss_one (ds_ret (d_tup (da_cons d_str (da_cons (dv 0) (da_cons (dv 1) (da_cons (dv 2) da_nil)))))))))
theorem sc_first : FnScope [] [] (defScope s_first) := ⟨rfl, rfl, rfl, by decide +kernel, rfl, by decide +kernel, by decide +kernel⟩
def F_first : Rho → Option Out := (fRet (f1 gTu (fCons (fC cNOUGHT) (fCons (fC (.int 0)) (fCons (fC (.int 1)) (fCons (f1 gTu (fCons (fC (.int 1)) (fCons (fC (.int 1)) fNil))) fNil))))))
def first_G : List PyData → Option PyData := defG 0 0 F_first
theorem ok_first {P : Program} {w : World} {K : PySem.W.Frag} {mg : Str → Option Value} {base : Heap} (B : Bs w K mg) (T : Tp w K mg) : Fc P w K mg base 1 "first" [] first_G := by
  obtain ⟨fd, Fd⟩ := B.defs (d := d_first) (mem_fn 16 rfl)
  replace Fd : FnP K "first" "first" s_first [] (He.ga K "first") fd := Fd
  refine ⟨He.ga K "first", fd, fnD (k := 0) (N := []) Fd sc_first (fun cdv A outer s H E hr => ?_), B.glo (mem_fa 16 rfl), Fd.kp, FunD.bindsN (ps := []) Fd fun _ _ _ _ _ _ us hl => match us, hl with | [], _ => rfl⟩
  exact (dss_one (ds_ret (d_tup (da_cons (d_glob T.c_NOUGHT) (da_cons d_int (da_cons d_int (da_cons (d_tup (da_cons d_int (da_cons d_int da_nil))) da_nil)))))))
theorem sc_led : FnScope ["frame", "p", "place", "turns", "hand", "size", "x", "y"] ["frame", "p"] (defScope s_led) := ⟨rfl, rfl, rfl, by decide +kernel, rfl, by decide +kernel, by decide +kernel⟩
def F_led : Rho → Option Out := (fSeq (fUnp [2, 3, 4, 5] (fV 0)) (fSeq (fUnp [6, 7] (fV 1)) (fRet (f1 together_G (fCons (f1 grown_G (fCons (f1 turned_G (fCons (f1 gTu (fCons (fV 6) (fCons (f1 gTu (fCons (f2 gMul (fV 4) (f2 gIx (fV 7) (fC (.int 0)))) (fCons (f2 gIx (fV 7) (fC (.int 1))) fNil))) fNil))) (fCons (fV 3) fNil))) (fCons (fV 5) fNil))) (fCons (fV 2) fNil))))))
def led_G : List PyData → Option PyData := defG 2 8 F_led
theorem ok_led {P : Program} {w : World} {K : PySem.W.Frag} {mg : Str → Option Value} {base : Heap} (B : Bs w K mg) (T : Tp w K mg) (h_turned : Fc P w K mg base 1 "turned" ["p", "quarters"] turned_G) (h_grown : Fc P w K mg base 4 "grown" ["p", "number"] grown_G) (h_together : Fc P w K mg base 4 "together" ["p", "q"] together_G) : Fc P w K mg base 5 "led" ["frame", "p"] led_G := by
  obtain ⟨fd, Fd⟩ := B.defs (d := d_led) (mem_fn 17 rfl)
  replace Fd : FnP K "led" "led" s_led [] (He.ga K "led") fd := Fd
  refine ⟨He.ga K "led", fd, fnD (k := 4) (N := ["frame", "p", "place", "turns", "hand", "size", "x", "y"]) Fd sc_led (fun cdv A outer s H E hr => ?_), B.glo (mem_fa 17 rfl), Fd.kp, FunD.bindsN (ps := ["frame", "p"]) Fd fun _ _ _ _ _ _ us hl => match us, hl with | [_, _], _ => rfl⟩
  exact (dss_cons (ds_unp (is := [2, 3, 4, 5]) (pg_tup rfl (pgs_cons (pg_name (i := 2) sc_led.nd rfl (Or.inl rfl)) (pgs_cons (pg_name (i := 3) sc_led.nd rfl (Or.inl rfl)) (pgs_cons (pg_name (i := 4) sc_led.nd rfl (Or.inl rfl)) (pgs_cons (pg_name (i := 5) sc_led.nd rfl (Or.inl rfl)) pgs_nil))))) (dv 0)) (dss_cons (ds_unp (is := [6, 7]) (pg_tup rfl (pgs_cons (pg_name (i := 6) sc_led.nd rfl (Or.inl rfl)) (pgs_cons (pg_name (i := 7) sc_led.nd rfl (Or.inl rfl)) pgs_nil))) (dv 1)) (dss_one (ds_ret (d_call h_together hr (da_cons (d_call h_grown hr (da_cons (d_call h_turned hr (da_cons (d_tup (da_cons (dv 6) (da_cons (d_tup (da_cons (d_op op_mulW o_mul (dv 4) (d_ix (dv 7) d_int)) (da_cons (d_ix (dv 7) d_int) da_nil))) da_nil))) (da_cons (dv 3) da_nil))) (da_cons (dv 5) da_nil))) (da_cons (dv 2) da_nil)))))))
theorem sc_behind : FnScope ["one", "other", "turns"] ["one", "other"] (defScope s_behind) := ⟨rfl, rfl, rfl, by decide +kernel, rfl, by decide +kernel, by decide +kernel⟩
def F_behind : Rho → Option Out := (fSeq (fSet 2 (f2 gMod (f2 gAdd (f2 gIx (fV 0) (fC (.int 1))) (f2 gMul (f2 gIx (fV 0) (fC (.int 2))) (f2 gIx (fV 1) (fC (.int 1))))) (fC (.int 4)))) (fRet (f1 gTu (fCons (f1 led_G (fCons (fV 0) (fCons (f2 gIx (fV 1) (fC (.int 0))) fNil))) (fCons (fV 2) (fCons (f2 gMul (f2 gIx (fV 0) (fC (.int 2))) (f2 gIx (fV 1) (fC (.int 2)))) (fCons (f1 times_G (fCons (f2 gIx (fV 0) (fC (.int 3))) (fCons (f2 gIx (fV 1) (fC (.int 3))) fNil))) fNil)))))))
def behind_G : List PyData → Option PyData := defG 2 3 F_behind
theorem ok_behind {P : Program} {w : World} {K : PySem.W.Frag} {mg : Str → Option Value} {base : Heap} (B : Bs w K mg) (T : Tp w K mg) (h_times : Fc P w K mg base 3 "times" ["one", "other"] times_G) (h_led : Fc P w K mg base 5 "led" ["frame", "p"] led_G) : Fc P w K mg base 6 "behind" ["one", "other"] behind_G := by
  obtain ⟨fd, Fd⟩ := B.defs (d := d_behind) (mem_fn 18 rfl)
  replace Fd : FnP K "behind" "behind" s_behind [] (He.ga K "behind") fd := Fd
  refine ⟨He.ga K "behind", fd, fnD (k := 5) (N := ["one", "other", "turns"]) Fd sc_behind (fun cdv A outer s H E hr => ?_), B.glo (mem_fa 18 rfl), Fd.kp, FunD.bindsN (ps := ["one", "other"]) Fd fun _ _ _ _ _ _ us hl => match us, hl with | [_, _], _ => rfl⟩
  exact (dss_cons (ds_set (i := 2) sc_behind.nd (d_op op_mod o_mod (d_op op_add o_add (d_ix (dv 0) d_int) (d_op op_mulW o_mul (d_ix (dv 0) d_int) (d_ix (dv 1) d_int))) d_int)) (dss_one (ds_ret (d_tup (da_cons (d_call h_led hr (da_cons (dv 0) (da_cons (d_ix (dv 1) d_int) da_nil))) (da_cons (dv 2) (da_cons (d_op op_mulW o_mul (d_ix (dv 0) d_int) (d_ix (dv 1) d_int)) (da_cons (d_call h_times hr (da_cons (d_ix (dv 0) d_int) (da_cons (d_ix (dv 1) d_int) da_nil))) da_nil))))))))
theorem sc_undone : FnScope ["frame", "place", "turns", "hand", "size"] ["frame"] (defScope s_undone) := ⟨rfl, rfl, rfl, by decide +kernel, rfl, by decide +kernel, by decide +kernel⟩
def F_undone : Rho → Option Out := (fSeq (fUnp [1, 2, 3, 4] (fV 0)) (fSeq (fSet 2 (f2 gMod (f2 gSub (fC (.int 0)) (f2 gMul (fV 3) (fV 2))) (fC (.int 4)))) (fSeq (fSet 4 (f1 over_G (fCons (f1 gTu (fCons (fC (.int 1)) (fCons (fC (.int 1)) fNil))) (fCons (fV 4) fNil)))) (fRet (f1 gTu (fCons (f1 off_G (fCons (fC cNOUGHT) (fCons (f1 led_G (fCons (f1 gTu (fCons (fC cNOUGHT) (fCons (fV 2) (fCons (fV 3) (fCons (fV 4) fNil))))) (fCons (fV 1) fNil))) fNil))) (fCons (fV 2) (fCons (fV 3) (fCons (fV 4) fNil)))))))))
def undone_G : List PyData → Option PyData := defG 1 5 F_undone
theorem ok_undone {P : Program} {w : World} {K : PySem.W.Frag} {mg : Str → Option Value} {base : Heap} (B : Bs w K mg) (T : Tp w K mg) (h_led : Fc P w K mg base 5 "led" ["frame", "p"] led_G) (h_off : Fc P w K mg base 4 "off" ["p", "q"] off_G) (h_over : Fc P w K mg base 3 "over" ["one", "other"] over_G) : Fc P w K mg base 6 "undone" ["frame"] undone_G := by
  obtain ⟨fd, Fd⟩ := B.defs (d := d_undone) (mem_fn 19 rfl)
  replace Fd : FnP K "undone" "undone" s_undone [] (He.ga K "undone") fd := Fd
  refine ⟨He.ga K "undone", fd, fnD (k := 5) (N := ["frame", "place", "turns", "hand", "size"]) Fd sc_undone (fun cdv A outer s H E hr => ?_), B.glo (mem_fa 19 rfl), Fd.kp, FunD.bindsN (ps := ["frame"]) Fd fun _ _ _ _ _ _ us hl => match us, hl with | [_], _ => rfl⟩
  exact (dss_cons (ds_unp (is := [1, 2, 3, 4]) (pg_tup rfl (pgs_cons (pg_name (i := 1) sc_undone.nd rfl (Or.inl rfl)) (pgs_cons (pg_name (i := 2) sc_undone.nd rfl (Or.inl rfl)) (pgs_cons (pg_name (i := 3) sc_undone.nd rfl (Or.inl rfl)) (pgs_cons (pg_name (i := 4) sc_undone.nd rfl (Or.inl rfl)) pgs_nil))))) (dv 0)) (dss_cons (ds_set (i := 2) sc_undone.nd (d_op op_mod o_mod (d_op op_sub o_sub d_int (d_op op_mulW o_mul (dv 3) (dv 2))) d_int)) (dss_cons (ds_set (i := 4) sc_undone.nd (d_call h_over hr (da_cons (d_tup (da_cons d_int (da_cons d_int da_nil))) (da_cons (dv 4) da_nil)))) (dss_one (ds_ret (d_tup (da_cons (d_call h_off hr (da_cons (d_glob T.c_NOUGHT) (da_cons (d_call h_led hr (da_cons (d_tup (da_cons (d_glob T.c_NOUGHT) (da_cons (dv 2) (da_cons (dv 3) (da_cons (dv 4) da_nil))))) (da_cons (dv 1) da_nil))) da_nil))) (da_cons (dv 2) (da_cons (dv 3) (da_cons (dv 4) da_nil))))))))))
theorem sc_led_piece : FnScope ["frame", "piece", "points", "p"] ["frame", "piece"] (defScope s_led_piece) := ⟨rfl, rfl, rfl, by decide +kernel, rfl, by decide +kernel, by decide +kernel⟩
def F_led_piece : Rho → Option Out := (fSeq (fSet 2 (fLc [3] (tgN 3) (fun _ => some true) (f1 led_G (fCons (fV 0) (fCons (fV 3) fNil))) (f1 itT (fSl (fV 1) (f1 gI (fC (.int 1))) (fun _ => some none))))) (fSeq (fIf (f1 gB (f2 gEq (f2 gIx (fV 1) (fC (.int 0))) (fC (.str "stretch")))) (fRet (f1 stretch_G (fCons (f2 gIx (fV 2) (fC (.int 0))) (fCons (f2 gIx (fV 2) (fC (.int 1))) fNil)))) fNext) (fSeq (fIf (fAnd (f1 gB (f2 gEq (f2 gIx (fV 1) (fC (.int 0))) (fC (.str "arc")))) (f1 gB (f2 gLt (f2 gIx (fV 0) (fC (.int 2))) (fC (.int 0))))) (fRet (f1 gTu (fCons (fC (.str "arc")) (fCons (f2 gIx (fV 2) (fC (.int 0))) (fCons (f2 gIx (fV 2) (fC (.int 2))) (fCons (f2 gIx (fV 2) (fC (.int 1))) fNil)))))) fNext) (fRet (f2 gCatT (f1 gTu (fCons (f2 gIx (fV 1) (fC (.int 0))) fNil)) (f1 (on1 gTuple) (fCons (fV 2) fNil)))))))
def led_piece_G : List PyData → Option PyData := defG 2 4 F_led_piece
theorem ok_led_piece {P : Program} {w : World} {K : PySem.W.Frag} {mg : Str → Option Value} {base : Heap} (B : Bs w K mg) (T : Tp w K mg) (h_stretch : Fc P w K mg base 3 "stretch" ["p", "q"] stretch_G) (h_led : Fc P w K mg base 5 "led" ["frame", "p"] led_G) : Fc P w K mg base 6 "led_piece" ["frame", "piece"] led_piece_G := by
  obtain ⟨fd, Fd⟩ := B.defs (d := d_led_piece) (mem_fn 20 rfl)
  replace Fd : FnP K "led_piece" "led_piece" s_led_piece [] (He.ga K "led_piece") fd := Fd
  refine ⟨He.ga K "led_piece", fd, fnD (k := 5) (N := ["frame", "piece", "points", "p"]) Fd sc_led_piece (fun cdv A outer s H E hr => ?_), B.glo (mem_fa 20 rfl), Fd.kp, FunD.bindsN (ps := ["frame", "piece"]) Fd fun _ _ _ _ _ _ us hl => match us, hl with | [_, _], _ => rfl⟩
  exact (dss_cons (Arc.ds_setLc (i := 2) (own := [("p", 3)]) sc_led_piece.nd (sw_true rfl rfl rfl (by decide +kernel)) (li_T (d_sl (dv 1) (do_some d_int) do_none)) (blkOk_by (own := [("p", 3)]) (N := ["frame", "piece", "points", "p"]) (sc := defScope s_led_piece) (by decide +kernel)) (fun _ _ _ _ _ => pg_name (i := 3) sc_led_piece.nd rfl (Or.inl rfl)) (tl_name (by decide)) (fun _ _ _ _ _ => dts_nil) (fun _ _ _ _ _ => (d_call h_led hr (da_cons (dv 0) (da_cons (dv 3) da_nil))))) (dss_cons (ds_if (dt_cmp (op_eqD hr.units) o_eq (d_ix (dv 1) d_int) d_str) (dss_one (ds_ret (d_call h_stretch hr (da_cons (d_ix (dv 2) d_int) (da_cons (d_ix (dv 2) d_int) da_nil))))) dss_nil) (dss_cons (ds_if (PW.pt (dw_and (dt_cmp (op_eqD hr.units) o_eq (d_ix (dv 1) d_int) d_str) (dw_and1 (dt_cmp op_lt o_lt (d_ix (dv 0) d_int) d_int)))) (dss_one (ds_ret (d_tup (da_cons d_str (da_cons (d_ix (dv 2) d_int) (da_cons (d_ix (dv 2) d_int) (da_cons (d_ix (dv 2) d_int) da_nil))))))) dss_nil) (dss_one (ds_ret (d_op op_catA o_catT (d_tup (da_cons (d_ix (dv 1) d_int) da_nil)) (d_ty call_tuple_of c_tuple T.z_tuple b_tuple (da_cons (dv 2) da_nil))))))))
end Arc
set_option Elab.async false
set_option linter.all false
set_option maxRecDepth 100000
set_option maxHeartbeats 4000000
namespace Arc
open PySem L2

theorem sc_stood : FnScope ["place", "turns"] ["place", "turns"] (defScope s_stood) := ⟨rfl, rfl, rfl, by decide +kernel, rfl, by decide +kernel, by decide +kernel⟩
def F_stood : Rho → Option Out := (fRet (f1 gTu (fCons (fV 0) (fCons (fV 1) (fCons (fC (.int 1)) (fCons (f1 gTu (fCons (fC (.int 1)) (fCons (fC (.int 1)) fNil))) fNil))))))
def stood_G : List PyData → Option PyData := defG 2 2 F_stood
theorem ok_stood {P : Program} {w : World} {K : PySem.W.Frag} {mg : Str → Option Value} {base : Heap} (B : Bs w K mg) (T : Tp w K mg) : Fc P w K mg base 1 "stood" ["place", "turns"] stood_G := by
  obtain ⟨fd, Fd⟩ := B.defs (d := d_stood) (mem_fn 21 rfl)
  replace Fd : FnP K "stood" "stood" s_stood [.int 0] (He.ga K "stood") fd := Fd
  obtain ⟨ds, r, b⟩ := FunD.binds1 (ps := ["place", "turns"]) Fd 2 1 (by simp) rfl (fun _ _ _ _ _ _ _ us its h1 h2 => match us, its, h1, h2 with | [_, _], [_], _, _ => ⟨_, rfl, rfl⟩)
  cases r
  refine ⟨He.ga K "stood", fd, fnD (k := 0) (N := ["place", "turns"]) Fd sc_stood (fun cdv A outer s H E hr => ?_), B.glo (mem_fa 21 rfl), Fd.kp, b⟩
  exact (dss_one (ds_ret (d_tup (da_cons (dv 0) (da_cons (dv 1) (da_cons d_int (da_cons (d_tup (da_cons d_int (da_cons d_int da_nil))) da_nil)))))))
theorem ok_stoodD {P : Program} {w : World} {K : PySem.W.Frag} {mg : Str → Option Value} {base : Heap} (B : Bs w K mg) (T : Tp w K mg) : FcD P w K mg base 1 "stood" ["place", "turns"] [.int 0] stood_G := by
  obtain ⟨fd, Fd⟩ := B.defs (d := d_stood) (mem_fn 21 rfl)
  replace Fd : FnP K "stood" "stood" s_stood [.int 0] (He.ga K "stood") fd := Fd
  obtain ⟨ds, r, b⟩ := FunD.binds1 (ps := ["place", "turns"]) Fd 1 0 (by simp) rfl (fun _ _ _ _ _ _ _ us its h1 h2 => match us, its, h1, h2 with | [_], [_], _, _ => ⟨_, rfl, rfl⟩)
  refine ⟨He.ga K "stood", fd, _, ds, fnD (k := 0) (N := ["place", "turns"]) Fd sc_stood (fun cdv A outer s H E hr => ?_), B.glo (mem_fa 21 rfl), Fd.kp, b, r, fun H => .cons (.int 0) .nil⟩
  exact (dss_one (ds_ret (d_tup (da_cons (dv 0) (da_cons (dv 1) (da_cons d_int (da_cons (d_tup (da_cons d_int (da_cons d_int da_nil))) da_nil)))))))
theorem sc_straight : FnScope ["p"] ["p"] (defScope s_straight) := ⟨rfl, rfl, rfl, by decide +kernel, rfl, by decide +kernel, by decide +kernel⟩
def F_straight : Rho → Option Out := (fRet (f1 gTu (fCons (f1 stretch_G (fCons (fC cNOUGHT) (fCons (fV 0) fNil))) (fCons (f1 (fun l => stood_G (l ++ [.int 0])) (fCons (fV 0) fNil)) fNil))))
def straight_G : List PyData → Option PyData := defG 1 1 F_straight
theorem ok_straight {P : Program} {w : World} {K : PySem.W.Frag} {mg : Str → Option Value} {base : Heap} (B : Bs w K mg) (T : Tp w K mg) (h_stoodD : FcD P w K mg base 1 "stood" ["place", "turns"] [.int 0] stood_G) (h_stretch : Fc P w K mg base 3 "stretch" ["p", "q"] stretch_G) : Fc P w K mg base 4 "straight" ["p"] straight_G := by
  obtain ⟨fd, Fd⟩ := B.defs (d := d_straight) (mem_fn 22 rfl)
  replace Fd : FnP K "straight" "straight" s_straight [] (He.ga K "straight") fd := Fd
  refine ⟨He.ga K "straight", fd, fnD (k := 3) (N := ["p"]) Fd sc_straight (fun cdv A outer s H E hr => ?_), B.glo (mem_fa 22 rfl), Fd.kp, FunD.bindsN (ps := ["p"]) Fd fun _ _ _ _ _ _ us hl => match us, hl with | [_], _ => rfl⟩
  exact (dss_one (ds_ret (d_tup (da_cons (d_call h_stretch hr (da_cons (d_glob T.c_NOUGHT) (da_cons (dv 0) da_nil))) (da_cons (d_callD h_stoodD hr (da_cons (dv 0) da_nil)) da_nil)))))
theorem sc_bowed : FnScope ["number", "p", "turns", "c"] ["number", "p", "turns"] (defScope s_bowed) := ⟨rfl, rfl, rfl, by decide +kernel, rfl, by decide +kernel, by decide +kernel⟩
def F_bowed : Rho → Option Out := (fSeq (fSet 3 (f1 gTu (fCons (f1 gTu (fCons (fC (.int 0)) (fCons (fC (.int 1)) fNil))) (fCons (fV 0) fNil)))) (fSeq (fIf (f1 gB (f2 gGt (f2 gIx (fV 0) (fC (.int 0))) (fC (.int 0)))) (fRet (f1 gTu (fCons (f1 arc_G (fCons (fV 3) (fCons (fC cNOUGHT) (fCons (fV 1) fNil)))) (fCons (f1 stood_G (fCons (fV 1) (fCons (fV 2) fNil))) fNil)))) fNext) (fRet (f1 gTu (fCons (f1 arc_G (fCons (fV 3) (fCons (fV 1) (fCons (fC cNOUGHT) fNil)))) (fCons (f1 stood_G (fCons (fV 1) (fCons (f2 gMod (f2 gSub (fC (.int 0)) (fV 2)) (fC (.int 4))) fNil))) fNil))))))
def bowed_G : List PyData → Option PyData := defG 3 4 F_bowed
theorem ok_bowed {P : Program} {w : World} {K : PySem.W.Frag} {mg : Str → Option Value} {base : Heap} (B : Bs w K mg) (T : Tp w K mg) (h_stood : Fc P w K mg base 1 "stood" ["place", "turns"] stood_G) (h_arc : Fc P w K mg base 6 "arc" ["c", "p", "q"] arc_G) : Fc P w K mg base 7 "bowed" ["number", "p", "turns"] bowed_G := by
  obtain ⟨fd, Fd⟩ := B.defs (d := d_bowed) (mem_fn 23 rfl)
  replace Fd : FnP K "bowed" "bowed" s_bowed [] (He.ga K "bowed") fd := Fd
  refine ⟨He.ga K "bowed", fd, fnD (k := 6) (N := ["number", "p", "turns", "c"]) Fd sc_bowed (fun cdv A outer s H E hr => ?_), B.glo (mem_fa 23 rfl), Fd.kp, FunD.bindsN (ps := ["number", "p", "turns"]) Fd fun _ _ _ _ _ _ us hl => match us, hl with | [_, _, _], _ => rfl⟩
  exact (dss_cons (ds_set (i := 3) sc_bowed.nd (d_tup (da_cons (d_tup (da_cons d_int (da_cons d_int da_nil))) (da_cons (dv 0) da_nil)))) (dss_cons (ds_if (dt_cmp op_gt o_gt (d_ix (dv 0) d_int) d_int) (dss_one (ds_ret (d_tup (da_cons (d_call h_arc hr (da_cons (dv 3) (da_cons (d_glob T.c_NOUGHT) (da_cons (dv 1) da_nil)))) (da_cons (d_call h_stood hr (da_cons (dv 1) (da_cons (dv 2) da_nil))) da_nil))))) dss_nil) (dss_one (ds_ret (d_tup (da_cons (d_call h_arc hr (da_cons (dv 3) (da_cons (dv 1) (da_cons (d_glob T.c_NOUGHT) da_nil)))) (da_cons (d_call h_stood hr (da_cons (dv 1) (da_cons (d_op op_mod o_mod (d_op op_sub o_sub d_int (dv 2)) d_int) da_nil))) da_nil)))))))
theorem sc_shaped : FnScope ["row", "word"] ["row"] (defScope s_shaped) := ⟨rfl, rfl, rfl, by decide +kernel, rfl, by decide +kernel, by decide +kernel⟩
def F_shaped : Rho → Option Out := (fSeq (fSet 1 (f2 gIx (fV 0) (fC (.int 0)))) (fSeq (fIf (f1 gB (f2 gEq (fV 1) (fC (.str "go")))) (fRet (f1 straight_G (fCons (f1 gTu (fCons (f2 gIx (fV 0) (fC (.int 1))) (fCons (f1 gTu (fCons (fC (.int 0)) (fCons (fC (.int 1)) fNil))) fNil))) fNil))) fNext) (fSeq (fIf (f1 gB (f2 gEq (fV 1) (fC (.str "skip")))) (fRet (f1 gTu (fCons (fC .none) (fCons (f1 (fun l => stood_G (l ++ [.int 0])) (fCons (f1 gTu (fCons (f2 gIx (fV 0) (fC (.int 1))) (fCons (f1 gTu (fCons (fC (.int 0)) (fCons (fC (.int 1)) fNil))) fNil))) fNil)) fNil)))) fNext) (fSeq (fIf (f1 gB (f2 gEq (fV 1) (fC (.str "side")))) (fRet (f1 straight_G (fCons (f1 gTu (fCons (f2 gIx (fV 0) (fC (.int 1))) (fCons (f2 gIx (fV 0) (fC (.int 2))) fNil))) fNil))) fNext) (fSeq (fIf (f1 gB (f2 gEq (fV 1) (fC (.str "dot")))) (fRet (f1 gTu (fCons (f1 gTu (fCons (fC (.str "dot")) (fCons (fC cNOUGHT) fNil))) (fCons (f1 first_G fNil) fNil)))) fNext) (fSeq (fIf (f1 gB (f2 gEq (fV 1) (fC (.str "mirror")))) (fRet (f1 gTu (fCons (fC .none) (fCons (f1 gTu (fCons (fC cNOUGHT) (fCons (fC (.int 0)) (fCons (f1 gNeg (fC (.int 1))) (fCons (f1 gTu (fCons (fC (.int 1)) (fCons (fC (.int 1)) fNil))) fNil))))) fNil)))) fNext) (fSeq (fIf (f1 gB (f2 gEq (fV 1) (fC (.str "grow")))) (fRet (f1 gTu (fCons (fC .none) (fCons (f1 gTu (fCons (fC cNOUGHT) (fCons (fC (.int 0)) (fCons (fC (.int 1)) (fCons (f2 gIx (fV 0) (fC (.int 1))) fNil))))) fNil)))) fNext) (fSeq (fIf (f1 gB (f2 gEq (fV 1) (fC (.str "quarter")))) (fRet (f1 bowed_G (fCons (f2 gIx (fV 0) (fC (.int 1))) (fCons (f1 gTu (fCons (f1 gTu (fCons (f1 (on1 gAbs) (fCons (f2 gIx (f2 gIx (fV 0) (fC (.int 1))) (fC (.int 0))) fNil)) (fCons (f2 gIx (f2 gIx (fV 0) (fC (.int 1))) (fC (.int 1))) fNil))) (fCons (f2 gIx (fV 0) (fC (.int 1))) fNil))) (fCons (fC (.int 1)) fNil))))) fNext) (fSeq (fIf (f1 gB (f2 gEq (fV 1) (fC (.str "half")))) (fRet (f1 bowed_G (fCons (f2 gIx (fV 0) (fC (.int 1))) (fCons (f1 gTu (fCons (f1 gTu (fCons (fC (.int 0)) (fCons (fC (.int 1)) fNil))) (fCons (f1 plus_G (fCons (f2 gIx (fV 0) (fC (.int 1))) (fCons (f2 gIx (fV 0) (fC (.int 1))) fNil))) fNil))) (fCons (fC (.int 2)) fNil))))) fNext) (fSeq (fIf (f1 gB (f2 gEq (fV 1) (fC (.str "arc")))) (fRet (f1 gTu (fCons (f1 arc_G (fCons (f1 gTu (fCons (f2 gIx (fV 0) (fC (.int 1))) (fCons (f2 gIx (fV 0) (fC (.int 2))) fNil))) (fCons (fC cNOUGHT) (fCons (f1 gTu (fCons (f2 gIx (fV 0) (fC (.int 3))) (fCons (f2 gIx (fV 0) (fC (.int 4))) fNil))) fNil)))) (fCons (f1 (fun l => stood_G (l ++ [.int 0])) (fCons (f1 gTu (fCons (f2 gIx (fV 0) (fC (.int 3))) (fCons (f2 gIx (fV 0) (fC (.int 4))) fNil))) fNil)) fNil)))) fNext) (fRet (f1 gTu (fCons (fC .none) (fCons (f1 stood_G (fCons (fC cNOUGHT) (fCons (f1 (gKd tTURNS) (fV 1)) fNil))) fNil))))))))))))))
def shaped_G : List PyData → Option PyData := defG 1 2 F_shaped
theorem ok_shaped {P : Program} {w : World} {K : PySem.W.Frag} {mg : Str → Option Value} {base : Heap} (B : Bs w K mg) (T : Tp w K mg) (h_stoodD : FcD P w K mg base 1 "stood" ["place", "turns"] [.int 0] stood_G) (h_stood : Fc P w K mg base 1 "stood" ["place", "turns"] stood_G) (h_arc : Fc P w K mg base 6 "arc" ["c", "p", "q"] arc_G) (h_plus : Fc P w K mg base 3 "plus" ["one", "other"] plus_G) (h_bowed : Fc P w K mg base 7 "bowed" ["number", "p", "turns"] bowed_G) (h_first : Fc P w K mg base 1 "first" [] first_G) (h_straight : Fc P w K mg base 4 "straight" ["p"] straight_G) : Fc P w K mg base 8 "shaped" ["row"] shaped_G := by
  obtain ⟨fd, Fd⟩ := B.defs (d := d_shaped) (mem_fn 24 rfl)
  replace Fd : FnP K "shaped" "shaped" s_shaped [] (He.ga K "shaped") fd := Fd
  refine ⟨He.ga K "shaped", fd, fnD (k := 7) (N := ["row", "word"]) Fd sc_shaped (fun cdv A outer s H E hr => ?_), B.glo (mem_fa 24 rfl), Fd.kp, FunD.bindsN (ps := ["row"]) Fd fun _ _ _ _ _ _ us hl => match us, hl with | [_], _ => rfl⟩
  exact (dss_cons (ds_set (i := 1) sc_shaped.nd (d_ix (dv 0) d_int)) (dss_cons (ds_if (dt_cmp (op_eqD hr.units) o_eq (dv 1) d_str) (dss_one (ds_ret (d_call h_straight hr (da_cons (d_tup (da_cons (d_ix (dv 0) d_int) (da_cons (d_tup (da_cons d_int (da_cons d_int da_nil))) da_nil))) da_nil)))) dss_nil) (dss_cons (ds_if (dt_cmp (op_eqD hr.units) o_eq (dv 1) d_str) (dss_one (ds_ret (d_tup (da_cons d_non (da_cons (d_callD h_stoodD hr (da_cons (d_tup (da_cons (d_ix (dv 0) d_int) (da_cons (d_tup (da_cons d_int (da_cons d_int da_nil))) da_nil))) da_nil)) da_nil))))) dss_nil) (dss_cons (ds_if (dt_cmp (op_eqD hr.units) o_eq (dv 1) d_str) (dss_one (ds_ret (d_call h_straight hr (da_cons (d_tup (da_cons (d_ix (dv 0) d_int) (da_cons (d_ix (dv 0) d_int) da_nil))) da_nil)))) dss_nil) (dss_cons (ds_if (dt_cmp (op_eqD hr.units) o_eq (dv 1) d_str) (dss_one (ds_ret (d_tup (da_cons (d_tup (da_cons d_str (da_cons (d_glob T.c_NOUGHT) da_nil))) (da_cons (d_call0 h_first hr) da_nil))))) dss_nil) (dss_cons (ds_if (dt_cmp (op_eqD hr.units) o_eq (dv 1) d_str) (dss_one (ds_ret (d_tup (da_cons d_non (da_cons (d_tup (da_cons (d_glob T.c_NOUGHT) (da_cons d_int (da_cons (d_neg d_int) (da_cons (d_tup (da_cons d_int (da_cons d_int da_nil))) da_nil))))) da_nil))))) dss_nil) (dss_cons (ds_if (dt_cmp (op_eqD hr.units) o_eq (dv 1) d_str) (dss_one (ds_ret (d_tup (da_cons d_non (da_cons (d_tup (da_cons (d_glob T.c_NOUGHT) (da_cons d_int (da_cons d_int (da_cons (d_ix (dv 0) d_int) da_nil))))) da_nil))))) dss_nil) (dss_cons (ds_if (dt_cmp (op_eqD hr.units) o_eq (dv 1) d_str) (dss_one (ds_ret (d_call h_bowed hr (da_cons (d_ix (dv 0) d_int) (da_cons (d_tup (da_cons (d_tup (da_cons (d_bi call_abs c_abs T.z_abs b_abs (da_cons (d_ix (d_ix (dv 0) d_int) d_int) da_nil)) (da_cons (d_ix (d_ix (dv 0) d_int) d_int) da_nil))) (da_cons (d_ix (dv 0) d_int) da_nil))) (da_cons d_int da_nil)))))) dss_nil) (dss_cons (ds_if (dt_cmp (op_eqD hr.units) o_eq (dv 1) d_str) (dss_one (ds_ret (d_call h_bowed hr (da_cons (d_ix (dv 0) d_int) (da_cons (d_tup (da_cons (d_tup (da_cons d_int (da_cons d_int da_nil))) (da_cons (d_call h_plus hr (da_cons (d_ix (dv 0) d_int) (da_cons (d_ix (dv 0) d_int) da_nil))) da_nil))) (da_cons d_int da_nil)))))) dss_nil) (dss_cons (ds_if (dt_cmp (op_eqD hr.units) o_eq (dv 1) d_str) (dss_one (ds_ret (d_tup (da_cons (d_call h_arc hr (da_cons (d_tup (da_cons (d_ix (dv 0) d_int) (da_cons (d_ix (dv 0) d_int) da_nil))) (da_cons (d_glob T.c_NOUGHT) (da_cons (d_tup (da_cons (d_ix (dv 0) d_int) (da_cons (d_ix (dv 0) d_int) da_nil))) da_nil)))) (da_cons (d_callD h_stoodD hr (da_cons (d_tup (da_cons (d_ix (dv 0) d_int) (da_cons (d_ix (dv 0) d_int) da_nil))) da_nil)) da_nil))))) dss_nil) (dss_one (ds_ret (d_tup (da_cons d_non (da_cons (d_call h_stood hr (da_cons (d_glob T.c_NOUGHT) (da_cons (d_kd T.t_TURNS (dv 1)) da_nil))) da_nil)))))))))))))))
theorem sc_moved_by : FnScope ["row", "found", "once", "turn"] ["row"] (defScope s_moved_by) := ⟨rfl, rfl, rfl, by decide +kernel, rfl, by decide +kernel, by decide +kernel⟩
def F_moved_by (g_move : List PyData → Option PyData) : Rho → Option Out := (fSeq (fIf (fOr (f1 gB (f2 gEq (f2 gIx (fV 0) (fC (.int 0))) (fC (.str "keep")))) (f1 gB (f2 gEq (f2 gIx (fV 0) (fC (.int 0))) (fC (.str "ever"))))) (fRet (f1 first_G fNil)) fNext) (fSeq (fIf (f1 gB (f2 gNe (f2 gIx (fV 0) (fC (.int 0))) (fC (.str "again")))) (fRet (f2 gIx (f1 shaped_G (fCons (fV 0) fNil)) (fC (.int 1)))) fNext) (fSeq (fSet 1 (f1 first_G fNil)) (fSeq (fSet 2 (f1 g_move (fCons (f2 gIx (fV 0) (fC (.int 2))) fNil))) (fSeq (fFor (f1 gRng1 (fCons (f2 gIx (fV 0) (fC (.int 1))) fNil)) (tgN 3) (fSet 1 (f1 behind_G (fCons (fV 1) (fCons (fV 2) fNil))))) (fRet (fV 1)))))))
theorem ok_moved_by {P : Program} {w : World} {K : PySem.W.Frag} {mg : Str → Option Value} {base : Heap} {g_move : List PyData → Option PyData} (B : Bs w K mg) (T : Tp w K mg) {k : Nat} (hk : 8 ≤ k) (h_behind : Fc P w K mg base 6 "behind" ["one", "other"] behind_G) (h_move : Fc P w K mg base k "move" ["rows"] g_move) (h_first : Fc P w K mg base 1 "first" [] first_G) (h_shaped : Fc P w K mg base 8 "shaped" ["row"] shaped_G) : Fc P w K mg base (k + 1) "moved_by" ["row"] (defG 1 4 (F_moved_by g_move)) := by
  obtain ⟨fd, Fd⟩ := B.defs (d := d_moved_by) (mem_fn 25 rfl)
  replace Fd : FnP K "moved_by" "moved_by" s_moved_by [] (He.ga K "moved_by") fd := Fd
  refine ⟨He.ga K "moved_by", fd, fnD (k := k) (N := ["row", "found", "once", "turn"]) Fd sc_moved_by (fun cdv A outer s H E hr => ?_), B.glo (mem_fa 25 rfl), Fd.kp, FunD.bindsN (ps := ["row"]) Fd fun _ _ _ _ _ _ us hl => match us, hl with | [_], _ => rfl⟩
  exact (dss_cons (ds_if (PW.pt (dw_or (dt_cmp (op_eqD hr.units) o_eq (d_ix (dv 0) d_int) d_str) (dw_or1 (dt_cmp (op_eqD hr.units) o_eq (d_ix (dv 0) d_int) d_str)))) (dss_one (ds_ret (d_call0 (hj := Nat.le_trans (by decide) hk) h_first hr))) dss_nil) (dss_cons (ds_if (dt_cmp (op_neD hr.units) o_ne (d_ix (dv 0) d_int) d_str) (dss_one (ds_ret (d_ix (d_call (hj := Nat.le_trans (by decide) hk) h_shaped hr (da_cons (dv 0) da_nil)) d_int))) dss_nil) (dss_cons (ds_set (i := 1) sc_moved_by.nd (d_call0 (hj := Nat.le_trans (by decide) hk) h_first hr)) (dss_cons (ds_set (i := 2) sc_moved_by.nd (d_call (hj := Nat.le_refl _) h_move hr (da_cons (d_ix (dv 0) d_int) da_nil))) (dss_cons (ds_forR T.z_range (da_cons (d_ix (dv 0) d_int) da_nil) (pg_name (i := 3) sc_moved_by.nd rfl (Or.inl rfl)) (tg_name 3) (dss_one (ds_set (i := 1) sc_moved_by.nd (d_call (hj := Nat.le_trans (by decide) hk) h_behind hr (da_cons (dv 1) (da_cons (dv 2) da_nil)))))) (dss_one (ds_ret (dv 1))))))))
theorem sc_move : FnScope ["rows", "found", "row"] ["rows"] (defScope s_move) := ⟨rfl, rfl, rfl, by decide +kernel, rfl, by decide +kernel, by decide +kernel⟩
def F_move (g_moved_by : List PyData → Option PyData) : Rho → Option Out := (fSeq (fSet 1 (f1 first_G fNil)) (fSeq (fFor (fV 0) (tgN 2) (fSet 1 (f1 behind_G (fCons (fV 1) (fCons (f1 g_moved_by (fCons (fV 2) fNil)) fNil))))) (fRet (fV 1))))
theorem ok_move {P : Program} {w : World} {K : PySem.W.Frag} {mg : Str → Option Value} {base : Heap} {g_moved_by : List PyData → Option PyData} (B : Bs w K mg) (T : Tp w K mg) {k : Nat} (hk : 6 ≤ k) (h_moved_by : Fc P w K mg base k "moved_by" ["row"] g_moved_by) (h_behind : Fc P w K mg base 6 "behind" ["one", "other"] behind_G) (h_first : Fc P w K mg base 1 "first" [] first_G) : Fc P w K mg base (k + 1) "move" ["rows"] (defG 1 3 (F_move g_moved_by)) := by
  obtain ⟨fd, Fd⟩ := B.defs (d := d_move) (mem_fn 26 rfl)
  replace Fd : FnP K "move" "move" s_move [] (He.ga K "move") fd := Fd
  refine ⟨He.ga K "move", fd, fnD (k := k) (N := ["rows", "found", "row"]) Fd sc_move (fun cdv A outer s H E hr => ?_), B.glo (mem_fa 26 rfl), Fd.kp, FunD.bindsN (ps := ["rows"]) Fd fun _ _ _ _ _ _ us hl => match us, hl with | [_], _ => rfl⟩
  exact (dss_cons (ds_set (i := 1) sc_move.nd (d_call0 (hj := Nat.le_trans (by decide) hk) h_first hr)) (dss_cons (ds_for (dv 0) (pg_name (i := 2) sc_move.nd rfl (Or.inl rfl)) (tg_name 2) (dss_one (ds_set (i := 1) sc_move.nd (d_call (hj := Nat.le_trans (by decide) hk) h_behind hr (da_cons (dv 1) (da_cons (d_call (hj := Nat.le_refl _) h_moved_by hr (da_cons (dv 2) da_nil)) da_nil)))))) (dss_one (ds_ret (dv 1)))))
def move_R : Nat → List PyData → Option PyData
  | 0 => fun _ => none
  | n + 1 => defG 1 3 (F_move (defG 1 4 (F_moved_by (move_R n))))
def move_G : List PyData → Option PyData := move_R 8
theorem okR_move {P : Program} {w : World} {K : PySem.W.Frag} {mg : Str → Option Value} {base : Heap} (B : Bs w K mg) (T : Tp w K mg) (h_behind : Fc P w K mg base 6 "behind" ["one", "other"] behind_G) (h_first : Fc P w K mg base 1 "first" [] first_G) (h_shaped : Fc P w K mg base 8 "shaped" ["row"] shaped_G) : ∀ n : Nat, Fc P w K mg base (8 + 2 * n) "move" ["rows"] (move_R n)
  | 0 => by
    obtain ⟨fd, Fd⟩ := B.defs (d := d_move) (mem_fn 26 rfl)
    replace Fd : FnP K "move" "move" s_move [] (He.ga K "move") fd := Fd
    exact Fc.zero (B.glo (mem_fa 26 rfl)) Fd.kp (FunD.bindsN (ps := ["rows"]) Fd fun _ _ _ _ _ _ us hl => match us, hl with | [_], _ => rfl)
  | n + 1 => ok_move B T (Nat.le_trans (by decide) (Nat.le_add_right 8 (2 * n + 1))) (ok_moved_by B T (Nat.le_trans (by decide) (Nat.le_add_right 8 (2 * n))) h_behind (okR_move B T h_behind h_first h_shaped n) h_first h_shaped) h_behind h_first
theorem okG_move {P : Program} {w : World} {K : PySem.W.Frag} {mg : Str → Option Value} {base : Heap} (B : Bs w K mg) (T : Tp w K mg) (h_behind : Fc P w K mg base 6 "behind" ["one", "other"] behind_G) (h_first : Fc P w K mg base 1 "first" [] first_G) (h_shaped : Fc P w K mg base 8 "shaped" ["row"] shaped_G) : Fc P w K mg base 24 "move" ["rows"] move_G := okR_move B T h_behind h_first h_shaped 8
theorem sc_draws : FnScope ["rows", "row", "found"] ["rows"] (defScope s_draws) := ⟨rfl, rfl, rfl, by decide +kernel, rfl, by decide +kernel, by decide +kernel⟩
def F_draws (g_draws : List PyData → Option PyData) : Rho → Option Out := (fSeq (fFor (fV 0) (tgN 1) (fSeq (fIf (fAnd (f1 gB (f2 gEq (f2 gIx (fV 1) (fC (.int 0))) (fC (.str "again")))) (f1 gB (f2 gEq (f2 gIx (fV 1) (fC (.int 1))) (fC (.int 0))))) (fSet 2 (fC (.bool false))) (fIf (f1 gB (f2 gIn (f2 gIx (fV 1) (fC (.int 0))) (f1 gTu (fCons (fC (.str "again")) (fCons (fC (.str "keep")) (fCons (fC (.str "ever")) fNil)))))) (fSet 2 (f1 g_draws (fCons (f2 gIx (fV 1) (f2 gSub (f1 (on1 gLen) (fCons (fV 1) fNil)) (fC (.int 1)))) fNil))) (fSet 2 (f2 gNotN (f2 gIx (f1 shaped_G (fCons (fV 1) fNil)) (fC (.int 0))) (fC .none))))) (fIf (f1 gB (fV 2)) (fRet (fC (.bool true))) fNext))) (fRet (fC (.bool false))))
theorem ok_draws {P : Program} {w : World} {K : PySem.W.Frag} {mg : Str → Option Value} {base : Heap} {g_draws : List PyData → Option PyData} (B : Bs w K mg) (T : Tp w K mg) {k : Nat} (hk : 8 ≤ k) (h_draws : Fc P w K mg base k "draws" ["rows"] g_draws) (h_shaped : Fc P w K mg base 8 "shaped" ["row"] shaped_G) : Fc P w K mg base (k + 1) "draws" ["rows"] (defG 1 3 (F_draws g_draws)) := by
  obtain ⟨fd, Fd⟩ := B.defs (d := d_draws) (mem_fn 27 rfl)
  replace Fd : FnP K "draws" "draws" s_draws [] (He.ga K "draws") fd := Fd
  refine ⟨He.ga K "draws", fd, fnD (k := k) (N := ["rows", "row", "found"]) Fd sc_draws (fun cdv A outer s H E hr => ?_), B.glo (mem_fa 27 rfl), Fd.kp, FunD.bindsN (ps := ["rows"]) Fd fun _ _ _ _ _ _ us hl => match us, hl with | [_], _ => rfl⟩
  exact (dss_cons (ds_for (dv 0) (pg_name (i := 1) sc_draws.nd rfl (Or.inl rfl)) (tg_name 1) (dss_cons (ds_if (PW.pt (dw_and (dt_cmp (op_eqD hr.units) o_eq (d_ix (dv 1) d_int) d_str) (dw_and1 (dt_cmp (op_eqD hr.units) o_eq (d_ix (dv 1) d_int) d_int)))) (dss_one (ds_set (i := 2) sc_draws.nd d_bl)) (dss_one (ds_if (dt_cmp op_in_seq o_in (d_ix (dv 1) d_int) (d_tup (da_cons d_str (da_cons d_str (da_cons d_str da_nil))))) (dss_one (ds_set (i := 2) sc_draws.nd (d_call (hj := Nat.le_refl _) h_draws hr (da_cons (d_ix (dv 1) (d_op op_sub o_sub (d_bi call_len c_len T.z_len b_len (da_cons (dv 1) da_nil)) d_int)) da_nil)))) (dss_one (ds_set (i := 2) sc_draws.nd (d_cmp op_notN o_notN (d_ix (d_call (hj := Nat.le_trans (by decide) hk) h_shaped hr (da_cons (dv 1) da_nil)) d_int) d_non)))))) (dss_one (ds_if (dt_val (dv 2)) (dss_one (ds_ret d_bl)) dss_nil)))) (dss_one (ds_ret d_bl)))
def draws_R : Nat → List PyData → Option PyData
  | 0 => fun _ => none
  | n + 1 => defG 1 3 (F_draws (draws_R n))
def draws_G : List PyData → Option PyData := draws_R 8
theorem okR_draws {P : Program} {w : World} {K : PySem.W.Frag} {mg : Str → Option Value} {base : Heap} (B : Bs w K mg) (T : Tp w K mg) (h_shaped : Fc P w K mg base 8 "shaped" ["row"] shaped_G) : ∀ n : Nat, Fc P w K mg base (8 + n) "draws" ["rows"] (draws_R n)
  | 0 => by
    obtain ⟨fd, Fd⟩ := B.defs (d := d_draws) (mem_fn 27 rfl)
    replace Fd : FnP K "draws" "draws" s_draws [] (He.ga K "draws") fd := Fd
    exact Fc.zero (B.glo (mem_fa 27 rfl)) Fd.kp (FunD.bindsN (ps := ["rows"]) Fd fun _ _ _ _ _ _ us hl => match us, hl with | [_], _ => rfl)
  | n + 1 => ok_draws B T (Nat.le_add_right 8 n) (okR_draws B T h_shaped n) h_shaped
theorem okG_draws {P : Program} {w : World} {K : PySem.W.Frag} {mg : Str → Option Value} {base : Heap} (B : Bs w K mg) (T : Tp w K mg) (h_shaped : Fc P w K mg base 8 "shaped" ["row"] shaped_G) : Fc P w K mg base 16 "draws" ["rows"] draws_G := okR_draws B T h_shaped 8
theorem sc_done_by : FnScope ["rows", "many", "row"] ["rows"] (defScope s_done_by) := ⟨rfl, rfl, rfl, by decide +kernel, rfl, by decide +kernel, by decide +kernel⟩
def F_done_by (g_done_by : List PyData → Option PyData) : Rho → Option Out := (fSeq (fSet 1 (fC (.int 0))) (fSeq (fFor (fV 0) (tgN 2) (fIf (f1 gB (f2 gEq (f2 gIx (fV 2) (fC (.int 0))) (fC (.str "again")))) (fSet 1 (f2 gAdd (fV 1) (f2 gMul (f2 gIx (fV 2) (fC (.int 1))) (f1 g_done_by (fCons (f2 gIx (fV 2) (fC (.int 2))) fNil))))) (fIf (fOr (f1 gB (f2 gEq (f2 gIx (fV 2) (fC (.int 0))) (fC (.str "keep")))) (f1 gB (f2 gEq (f2 gIx (fV 2) (fC (.int 0))) (fC (.str "ever"))))) (fSet 1 (f2 gAdd (fV 1) (f1 g_done_by (fCons (f2 gIx (fV 2) (fC (.int 1))) fNil)))) (fSet 1 (f2 gAdd (fV 1) (fC (.int 1))))))) (fRet (fV 1))))
theorem ok_done_by {P : Program} {w : World} {K : PySem.W.Frag} {mg : Str → Option Value} {base : Heap} {g_done_by : List PyData → Option PyData} (B : Bs w K mg) (T : Tp w K mg) {k : Nat} (hk : 0 ≤ k) (h_done_by : Fc P w K mg base k "done_by" ["rows"] g_done_by) : Fc P w K mg base (k + 1) "done_by" ["rows"] (defG 1 3 (F_done_by g_done_by)) := by
  obtain ⟨fd, Fd⟩ := B.defs (d := d_done_by) (mem_fn 28 rfl)
  replace Fd : FnP K "done_by" "done_by" s_done_by [] (He.ga K "done_by") fd := Fd
  refine ⟨He.ga K "done_by", fd, fnD (k := k) (N := ["rows", "many", "row"]) Fd sc_done_by (fun cdv A outer s H E hr => ?_), B.glo (mem_fa 28 rfl), Fd.kp, FunD.bindsN (ps := ["rows"]) Fd fun _ _ _ _ _ _ us hl => match us, hl with | [_], _ => rfl⟩
  exact (dss_cons (ds_set (i := 1) sc_done_by.nd d_int) (dss_cons (ds_for (dv 0) (pg_name (i := 2) sc_done_by.nd rfl (Or.inl rfl)) (tg_name 2) (dss_one (ds_if (dt_cmp (op_eqD hr.units) o_eq (d_ix (dv 2) d_int) d_str) (dss_one (ds_set (i := 1) sc_done_by.nd (d_op op_add o_add (dv 1) (d_op op_mulW o_mul (d_ix (dv 2) d_int) (d_call (hj := Nat.le_refl _) h_done_by hr (da_cons (d_ix (dv 2) d_int) da_nil)))))) (dss_one (ds_if (PW.pt (dw_or (dt_cmp (op_eqD hr.units) o_eq (d_ix (dv 2) d_int) d_str) (dw_or1 (dt_cmp (op_eqD hr.units) o_eq (d_ix (dv 2) d_int) d_str)))) (dss_one (ds_set (i := 1) sc_done_by.nd (d_op op_add o_add (dv 1) (d_call (hj := Nat.le_refl _) h_done_by hr (da_cons (d_ix (dv 2) d_int) da_nil))))) (dss_one (ds_set (i := 1) sc_done_by.nd (d_op op_add o_add (dv 1) d_int)))))))) (dss_one (ds_ret (dv 1)))))
def done_by_R : Nat → List PyData → Option PyData
  | 0 => fun _ => none
  | n + 1 => defG 1 3 (F_done_by (done_by_R n))
def done_by_G : List PyData → Option PyData := done_by_R 8
theorem okR_done_by {P : Program} {w : World} {K : PySem.W.Frag} {mg : Str → Option Value} {base : Heap} (B : Bs w K mg) (T : Tp w K mg) : ∀ n : Nat, Fc P w K mg base (0 + n) "done_by" ["rows"] (done_by_R n)
  | 0 => by
    obtain ⟨fd, Fd⟩ := B.defs (d := d_done_by) (mem_fn 28 rfl)
    replace Fd : FnP K "done_by" "done_by" s_done_by [] (He.ga K "done_by") fd := Fd
    exact Fc.zero (B.glo (mem_fa 28 rfl)) Fd.kp (FunD.bindsN (ps := ["rows"]) Fd fun _ _ _ _ _ _ us hl => match us, hl with | [_], _ => rfl)
  | n + 1 => ok_done_by B T (Nat.le_add_right 0 n) (okR_done_by B T n)
theorem okG_done_by {P : Program} {w : World} {K : PySem.W.Frag} {mg : Str → Option Value} {base : Heap} (B : Bs w K mg) (T : Tp w K mg) : Fc P w K mg base 8 "done_by" ["rows"] done_by_G := okR_done_by B T 8
theorem sc_lines_in : FnScope ["rows", "many", "row"] ["rows"] (defScope s_lines_in) := ⟨rfl, rfl, rfl, by decide +kernel, rfl, by decide +kernel, by decide +kernel⟩
def F_lines_in (g_lines_in : List PyData → Option PyData) : Rho → Option Out := (fSeq (fSet 1 (fC (.int 0))) (fSeq (fFor (fV 0) (tgN 2) (fSeq (fSet 1 (f2 gAdd (fV 1) (fC (.int 1)))) (fIf (f1 gB (f2 gIn (f2 gIx (fV 2) (fC (.int 0))) (f1 gTu (fCons (fC (.str "again")) (fCons (fC (.str "keep")) (fCons (fC (.str "ever")) fNil)))))) (fSet 1 (f2 gAdd (f2 gAdd (fV 1) (fC (.int 1))) (f1 g_lines_in (fCons (f2 gIx (fV 2) (f2 gSub (f1 (on1 gLen) (fCons (fV 2) fNil)) (fC (.int 1)))) fNil)))) fNext))) (fRet (fV 1))))
theorem ok_lines_in {P : Program} {w : World} {K : PySem.W.Frag} {mg : Str → Option Value} {base : Heap} {g_lines_in : List PyData → Option PyData} (B : Bs w K mg) (T : Tp w K mg) {k : Nat} (hk : 0 ≤ k) (h_lines_in : Fc P w K mg base k "lines_in" ["rows"] g_lines_in) : Fc P w K mg base (k + 1) "lines_in" ["rows"] (defG 1 3 (F_lines_in g_lines_in)) := by
  obtain ⟨fd, Fd⟩ := B.defs (d := d_lines_in) (mem_fn 29 rfl)
  replace Fd : FnP K "lines_in" "lines_in" s_lines_in [] (He.ga K "lines_in") fd := Fd
  refine ⟨He.ga K "lines_in", fd, fnD (k := k) (N := ["rows", "many", "row"]) Fd sc_lines_in (fun cdv A outer s H E hr => ?_), B.glo (mem_fa 29 rfl), Fd.kp, FunD.bindsN (ps := ["rows"]) Fd fun _ _ _ _ _ _ us hl => match us, hl with | [_], _ => rfl⟩
  exact (dss_cons (ds_set (i := 1) sc_lines_in.nd d_int) (dss_cons (ds_for (dv 0) (pg_name (i := 2) sc_lines_in.nd rfl (Or.inl rfl)) (tg_name 2) (dss_cons (ds_set (i := 1) sc_lines_in.nd (d_op op_add o_add (dv 1) d_int)) (dss_one (ds_if (dt_cmp op_in_seq o_in (d_ix (dv 2) d_int) (d_tup (da_cons d_str (da_cons d_str (da_cons d_str da_nil))))) (dss_one (ds_set (i := 1) sc_lines_in.nd (d_op op_add o_add (d_op op_add o_add (dv 1) d_int) (d_call (hj := Nat.le_refl _) h_lines_in hr (da_cons (d_ix (dv 2) (d_op op_sub o_sub (d_bi call_len c_len T.z_len b_len (da_cons (dv 2) da_nil)) d_int)) da_nil))))) dss_nil)))) (dss_one (ds_ret (dv 1)))))
def lines_in_R : Nat → List PyData → Option PyData
  | 0 => fun _ => none
  | n + 1 => defG 1 3 (F_lines_in (lines_in_R n))
def lines_in_G : List PyData → Option PyData := lines_in_R 8
theorem okR_lines_in {P : Program} {w : World} {K : PySem.W.Frag} {mg : Str → Option Value} {base : Heap} (B : Bs w K mg) (T : Tp w K mg) : ∀ n : Nat, Fc P w K mg base (0 + n) "lines_in" ["rows"] (lines_in_R n)
  | 0 => by
    obtain ⟨fd, Fd⟩ := B.defs (d := d_lines_in) (mem_fn 29 rfl)
    replace Fd : FnP K "lines_in" "lines_in" s_lines_in [] (He.ga K "lines_in") fd := Fd
    exact Fc.zero (B.glo (mem_fa 29 rfl)) Fd.kp (FunD.bindsN (ps := ["rows"]) Fd fun _ _ _ _ _ _ us hl => match us, hl with | [_], _ => rfl)
  | n + 1 => ok_lines_in B T (Nat.le_add_right 0 n) (okR_lines_in B T n)
theorem okG_lines_in {P : Program} {w : World} {K : PySem.W.Frag} {mg : Str → Option Value} {base : Heap} (B : Bs w K mg) (T : Tp w K mg) : Fc P w K mg base 8 "lines_in" ["rows"] lines_in_G := okR_lines_in B T 8
theorem sc_is_whole : FnScope ["thing"] ["thing"] (defScope s_is_whole) := ⟨rfl, rfl, rfl, by decide +kernel, rfl, by decide +kernel, by decide +kernel⟩
def F_is_whole : Rho → Option Out := (fRet (fAndV (f1 (gIsi "int") (fV 0)) (f1 gNotV (f1 (gIsi "bool") (fV 0)))))
def is_whole_G : List PyData → Option PyData := defG 1 1 F_is_whole
theorem ok_is_whole {P : Program} {w : World} {K : PySem.W.Frag} {mg : Str → Option Value} {base : Heap} (B : Bs w K mg) (T : Tp w K mg) : Fc P w K mg base 1 "is_whole" ["thing"] is_whole_G := by
  obtain ⟨fd, Fd⟩ := B.defs (d := d_is_whole) (mem_fn 35 rfl)
  replace Fd : FnP K "is_whole" "is_whole" s_is_whole [] (He.ga K "is_whole") fd := Fd
  refine ⟨He.ga K "is_whole", fd, fnD (k := 0) (N := ["thing"]) Fd sc_is_whole (fun cdv A outer s H E hr => ?_), B.glo (mem_fa 31 rfl), Fd.kp, FunD.bindsN (ps := ["thing"]) Fd fun _ _ _ _ _ _ us hl => match us, hl with | [_], _ => rfl⟩
  exact (dss_one (ds_ret (d_and (d_isi (T := "int") T.z_isinstance T.z_int b_int (dv 0)) (d_one (d_not (d_isi (T := "bool") T.z_isinstance T.z_bool b_bool (dv 0)))))))
theorem sc_is_fraction : FnScope ["thing"] ["thing"] (defScope s_is_fraction) := ⟨rfl, rfl, rfl, by decide +kernel, rfl, by decide +kernel, by decide +kernel⟩
def F_is_fraction : Rho → Option Out := (fSeq (fIf (fOr (f1 gNot (f1 gB (f1 (gIsi "tuple") (fV 0)))) (fOr (f1 gB (f2 gNe (f1 (on1 gLen) (fCons (fV 0) fNil)) (fC (.int 2)))) (fOr (f1 gNot (f1 gB (f1 is_whole_G (fCons (f2 gIx (fV 0) (fC (.int 0))) fNil)))) (f1 gNot (f1 gB (f1 is_whole_G (fCons (f2 gIx (fV 0) (fC (.int 1))) fNil))))))) (fRet (fC (.bool false))) fNext) (fRet (fAndV (f2 gGt (f2 gIx (fV 0) (fC (.int 1))) (fC (.int 0))) (f2 gEq (f1 divisor_G (fCons (f2 gIx (fV 0) (fC (.int 0))) (fCons (f2 gIx (fV 0) (fC (.int 1))) fNil))) (fC (.int 1))))))
def is_fraction_G : List PyData → Option PyData := defG 1 1 F_is_fraction
theorem ok_is_fraction {P : Program} {w : World} {K : PySem.W.Frag} {mg : Str → Option Value} {base : Heap} (B : Bs w K mg) (T : Tp w K mg) (h_divisor : Fc P w K mg base 1 "divisor" ["one", "other"] divisor_G) (h_is_whole : Fc P w K mg base 1 "is_whole" ["thing"] is_whole_G) : Fc P w K mg base 2 "is_fraction" ["thing"] is_fraction_G := by
  obtain ⟨fd, Fd⟩ := B.defs (d := d_is_fraction) (mem_fn 36 rfl)
  replace Fd : FnP K "is_fraction" "is_fraction" s_is_fraction [] (He.ga K "is_fraction") fd := Fd
  refine ⟨He.ga K "is_fraction", fd, fnD (k := 1) (N := ["thing"]) Fd sc_is_fraction (fun cdv A outer s H E hr => ?_), B.glo (mem_fa 32 rfl), Fd.kp, FunD.bindsN (ps := ["thing"]) Fd fun _ _ _ _ _ _ us hl => match us, hl with | [_], _ => rfl⟩
  exact (dss_cons (ds_if (PW.pt (dw_or (dt_not (dt_val (d_isi (T := "tuple") T.z_isinstance T.z_tuple b_tuple (dv 0)))) (dw_or (dt_cmp (op_neD hr.units) o_ne (d_bi call_len c_len T.z_len b_len (da_cons (dv 0) da_nil)) d_int) (dw_or (dt_not (dt_val (d_call h_is_whole hr (da_cons (d_ix (dv 0) d_int) da_nil)))) (dw_or1 (dt_not (dt_val (d_call h_is_whole hr (da_cons (d_ix (dv 0) d_int) da_nil))))))))) (dss_one (ds_ret d_bl)) dss_nil) (dss_one (ds_ret (d_and (d_cmp op_gt o_gt (d_ix (dv 0) d_int) d_int) (d_one (d_cmp (op_eqD hr.units) o_eq (d_call h_divisor hr (da_cons (d_ix (dv 0) d_int) (da_cons (d_ix (dv 0) d_int) da_nil))) d_int))))))
theorem sc_word_of : FnScope ["row"] ["row"] (defScope s_word_of) := ⟨rfl, rfl, rfl, by decide +kernel, rfl, by decide +kernel, by decide +kernel⟩
def F_word_of : Rho → Option Out := (fSeq (fIf (fOr (f1 gNot (f1 gB (f1 (gIsi "tuple") (fV 0)))) (fOr (f1 gB (f2 gEq (f1 (on1 gLen) (fCons (fV 0) fNil)) (fC (.int 0)))) (f1 gNot (f1 gB (f1 (gIsi "str") (f2 gIx (fV 0) (fC (.int 0)))))))) (fRet (fC (.str ""))) fNext) (fRet (f2 gIx (fV 0) (fC (.int 0)))))
def word_of_G : List PyData → Option PyData := defG 1 1 F_word_of
theorem ok_word_of {P : Program} {w : World} {K : PySem.W.Frag} {mg : Str → Option Value} {base : Heap} (B : Bs w K mg) (T : Tp w K mg) : Fc P w K mg base 1 "word_of" ["row"] word_of_G := by
  obtain ⟨fd, Fd⟩ := B.defs (d := d_word_of) (mem_fn 37 rfl)
  replace Fd : FnP K "word_of" "word_of" s_word_of [] (He.ga K "word_of") fd := Fd
  refine ⟨He.ga K "word_of", fd, fnD (k := 0) (N := ["row"]) Fd sc_word_of (fun cdv A outer s H E hr => ?_), B.glo (mem_fa 33 rfl), Fd.kp, FunD.bindsN (ps := ["row"]) Fd fun _ _ _ _ _ _ us hl => match us, hl with | [_], _ => rfl⟩
  exact (dss_cons (ds_if (PW.pt (dw_or (dt_not (dt_val (d_isi (T := "tuple") T.z_isinstance T.z_tuple b_tuple (dv 0)))) (dw_or (dt_cmp (op_eqD hr.units) o_eq (d_bi call_len c_len T.z_len b_len (da_cons (dv 0) da_nil)) d_int) (dw_or1 (dt_not (dt_val (d_isi (T := "str") T.z_isinstance T.z_str b_str (d_ix (dv 0) d_int)))))))) (dss_one (ds_ret d_str)) dss_nil) (dss_one (ds_ret (d_ix (dv 0) d_int))))
theorem sc_is_round : FnScope ["row", "c"] ["row"] (defScope s_is_round) := ⟨rfl, rfl, rfl, by decide +kernel, rfl, by decide +kernel, by decide +kernel⟩
def F_is_round : Rho → Option Out := (fSeq (fSet 1 (f1 gTu (fCons (f2 gIx (fV 0) (fC (.int 1))) (fCons (f2 gIx (fV 0) (fC (.int 2))) fNil)))) (fRet (fAndV (f2 gNe (fV 1) (fC cNOUGHT)) (f2 gEq (f1 far_G (fCons (fV 1) (fCons (fC cNOUGHT) fNil))) (f1 far_G (fCons (fV 1) (fCons (f1 gTu (fCons (f2 gIx (fV 0) (fC (.int 3))) (fCons (f2 gIx (fV 0) (fC (.int 4))) fNil))) fNil)))))))
def is_round_G : List PyData → Option PyData := defG 1 2 F_is_round
theorem ok_is_round {P : Program} {w : World} {K : PySem.W.Frag} {mg : Str → Option Value} {base : Heap} (B : Bs w K mg) (T : Tp w K mg) (h_far : Fc P w K mg base 5 "far" ["p", "q"] far_G) : Fc P w K mg base 6 "is_round" ["row"] is_round_G := by
  obtain ⟨fd, Fd⟩ := B.defs (d := d_is_round) (mem_fn 38 rfl)
  replace Fd : FnP K "is_round" "is_round" s_is_round [] (He.ga K "is_round") fd := Fd
  refine ⟨He.ga K "is_round", fd, fnD (k := 5) (N := ["row", "c"]) Fd sc_is_round (fun cdv A outer s H E hr => ?_), B.glo (mem_fa 34 rfl), Fd.kp, FunD.bindsN (ps := ["row"]) Fd fun _ _ _ _ _ _ us hl => match us, hl with | [_], _ => rfl⟩
  exact (dss_cons (ds_set (i := 1) sc_is_round.nd (d_tup (da_cons (d_ix (dv 0) d_int) (da_cons (d_ix (dv 0) d_int) da_nil)))) (dss_one (ds_ret (d_and (d_cmp (op_neD hr.units) o_ne (dv 1) (d_glob T.c_NOUGHT)) (d_one (d_cmp (op_eqD hr.units) o_eq (d_call h_far hr (da_cons (dv 1) (da_cons (d_glob T.c_NOUGHT) da_nil))) (d_call h_far hr (da_cons (dv 1) (da_cons (d_tup (da_cons (d_ix (dv 0) d_int) (da_cons (d_ix (dv 0) d_int) da_nil))) da_nil)))))))))
theorem sc_is_plain_row : FnScope ["row", "word", "one"] ["row"] (defScope s_is_plain_row) := ⟨rfl, rfl, rfl, by decide +kernel, rfl, by decide +kernel, by decide +kernel⟩
def F_is_plain_row : Rho → Option Out := (fSeq (fSet 1 (f1 word_of_G (fCons (fV 0) fNil))) (fSeq (fIf (fOr (f1 gB (f1 (gKnot tNUMBERS) (fV 1))) (fOr (f1 gB (f2 gNe (f1 (on1 gLen) (fCons (fV 0) fNil)) (f2 gAdd (fC (.int 1)) (f1 (gKd tNUMBERS) (fV 1))))) (f1 gNot (f1 gB (f1 (on1 gAll) (fCons (fLc [2] (tgN 2) (fun _ => some true) (f1 is_fraction_G (fCons (fV 2) fNil)) (f1 itT (fSl (fV 0) (f1 gI (fC (.int 1))) (fun _ => some none)))) fNil)))))) (fRet (fC (.bool false))) fNext) (fSeq (fIf (f1 gB (f2 gEq (fV 1) (fC (.str "grow")))) (fRet (fAndV (fChain gLe gLe (fC (.int 1)) (f2 gIx (f2 gIx (fV 0) (fC (.int 1))) (fC (.int 0))) (fC (.int 12))) (f2 gLe (f2 gIx (f2 gIx (fV 0) (fC (.int 1))) (fC (.int 1))) (fC (.int 12))))) fNext) (fSeq (fIf (fOr (f1 gB (f2 gEq (fV 1) (fC (.str "quarter")))) (f1 gB (f2 gEq (fV 1) (fC (.str "half"))))) (fRet (f2 gNe (f2 gIx (f2 gIx (fV 0) (fC (.int 1))) (fC (.int 0))) (fC (.int 0)))) fNext) (fRet (fOrV (f2 gNe (fV 1) (fC (.str "arc"))) (f1 is_round_G (fCons (fV 0) fNil))))))))
def is_plain_row_G : List PyData → Option PyData := defG 1 3 F_is_plain_row
theorem ok_is_plain_row {P : Program} {w : World} {K : PySem.W.Frag} {mg : Str → Option Value} {base : Heap} (B : Bs w K mg) (T : Tp w K mg) (h_is_round : Fc P w K mg base 6 "is_round" ["row"] is_round_G) (h_is_fraction : Fc P w K mg base 2 "is_fraction" ["thing"] is_fraction_G) (h_word_of : Fc P w K mg base 1 "word_of" ["row"] word_of_G) : Fc P w K mg base 7 "is_plain_row" ["row"] is_plain_row_G := by
  obtain ⟨fd, Fd⟩ := B.defs (d := d_is_plain_row) (mem_fn 39 rfl)
  replace Fd : FnP K "is_plain_row" "is_plain_row" s_is_plain_row [] (He.ga K "is_plain_row") fd := Fd
  refine ⟨He.ga K "is_plain_row", fd, fnD (k := 6) (N := ["row", "word", "one"]) Fd sc_is_plain_row (fun cdv A outer s H E hr => ?_), B.glo (mem_fa 35 rfl), Fd.kp, FunD.bindsN (ps := ["row"]) Fd fun _ _ _ _ _ _ us hl => match us, hl with | [_], _ => rfl⟩
  exact (dss_cons (ds_set (i := 1) sc_is_plain_row.nd (d_call h_word_of hr (da_cons (dv 0) da_nil))) (dss_cons (ds_if (PW.pt (dw_or (dt_knot T.t_NUMBERS (dv 1)) (dw_or (dt_cmp (op_neD hr.units) o_ne (d_bi call_len c_len T.z_len b_len (da_cons (dv 0) da_nil)) (d_op op_add o_add d_int (d_kd T.t_NUMBERS (dv 1)))) (dw_or1 (dt_not (dt_val (d_bi (cr_all rfl) c_all T.z_all b_all (da_cons (d_lc (own := [("one", 2)]) sc_is_plain_row.nd  (li_T (d_sl (dv 0) (do_some d_int) do_none)) (blkOk_by (own := [("one", 2)]) (N := ["row", "word", "one"]) (sc := defScope s_is_plain_row) (by decide +kernel)) (fun _ _ _ _ _ => pg_name (i := 2) sc_is_plain_row.nd rfl (Or.inl rfl)) (tl_name (by decide)) (fun _ _ _ _ _ => dts_nil) (fun _ _ _ _ _ => (d_call h_is_fraction hr (da_cons (dv 2) da_nil)))) da_nil)))))))) (dss_one (ds_ret d_bl)) dss_nil) (dss_cons (ds_if (dt_cmp (op_eqD hr.units) o_eq (dv 1) d_str) (dss_one (ds_ret (d_and (d_chain op_le o_le op_le o_le d_int (d_ix (d_ix (dv 0) d_int) d_int) (d_glob T.c_MOST_GROWN)) (d_one (d_cmp op_le o_le (d_ix (d_ix (dv 0) d_int) d_int) (d_glob T.c_MOST_GROWN)))))) dss_nil) (dss_cons (ds_if (PW.pt (dw_or (dt_cmp (op_eqD hr.units) o_eq (dv 1) d_str) (dw_or1 (dt_cmp (op_eqD hr.units) o_eq (dv 1) d_str)))) (dss_one (ds_ret (d_cmp (op_neD hr.units) o_ne (d_ix (d_ix (dv 0) d_int) d_int) d_int))) dss_nil) (dss_one (ds_ret (d_or (d_cmp (op_neD hr.units) o_ne (dv 1) d_str) (d_one (d_call h_is_round hr (da_cons (dv 0) da_nil))))))))))
theorem sc_is_block : FnScope ["row"] ["row"] (defScope s_is_block) := ⟨rfl, rfl, rfl, by decide +kernel, rfl, by decide +kernel, by decide +kernel⟩
def F_is_block : Rho → Option Out := (fSeq (fIf (f1 gNot (f1 gB (f1 (gIsi "tuple") (f2 gIx (fV 0) (f2 gSub (f1 (on1 gLen) (fCons (fV 0) fNil)) (fC (.int 1))))))) (fRet (fC (.bool false))) fNext) (fSeq (fIf (f1 gB (f2 gEq (f2 gIx (fV 0) (fC (.int 0))) (fC (.str "again")))) (fRet (fAndV (f2 gEq (f1 (on1 gLen) (fCons (fV 0) fNil)) (fC (.int 3))) (fAndV (f1 is_whole_G (fCons (f2 gIx (fV 0) (fC (.int 1))) fNil)) (fChain gLe gLe (fC (.int 0)) (f2 gIx (fV 0) (fC (.int 1))) (fC (.int 12)))))) fNext) (fRet (f2 gEq (f1 (on1 gLen) (fCons (fV 0) fNil)) (fC (.int 2))))))
def is_block_G : List PyData → Option PyData := defG 1 1 F_is_block
theorem ok_is_block {P : Program} {w : World} {K : PySem.W.Frag} {mg : Str → Option Value} {base : Heap} (B : Bs w K mg) (T : Tp w K mg) (h_is_whole : Fc P w K mg base 1 "is_whole" ["thing"] is_whole_G) : Fc P w K mg base 2 "is_block" ["row"] is_block_G := by
  obtain ⟨fd, Fd⟩ := B.defs (d := d_is_block) (mem_fn 40 rfl)
  replace Fd : FnP K "is_block" "is_block" s_is_block [] (He.ga K "is_block") fd := Fd
  refine ⟨He.ga K "is_block", fd, fnD (k := 1) (N := ["row"]) Fd sc_is_block (fun cdv A outer s H E hr => ?_), B.glo (mem_fa 36 rfl), Fd.kp, FunD.bindsN (ps := ["row"]) Fd fun _ _ _ _ _ _ us hl => match us, hl with | [_], _ => rfl⟩
  exact (dss_cons (ds_if (dt_not (dt_val (d_isi (T := "tuple") T.z_isinstance T.z_tuple b_tuple (d_ix (dv 0) (d_op op_sub o_sub (d_bi call_len c_len T.z_len b_len (da_cons (dv 0) da_nil)) d_int))))) (dss_one (ds_ret d_bl)) dss_nil) (dss_cons (ds_if (dt_cmp (op_eqD hr.units) o_eq (d_ix (dv 0) d_int) d_str) (dss_one (ds_ret (d_and (d_cmp (op_eqD hr.units) o_eq (d_bi call_len c_len T.z_len b_len (da_cons (dv 0) da_nil)) d_int) (d_and (d_call h_is_whole hr (da_cons (d_ix (dv 0) d_int) da_nil)) (d_one (d_chain op_le o_le op_le o_le d_int (d_ix (dv 0) d_int) (d_glob T.c_MOST_ROUNDS))))))) dss_nil) (dss_one (ds_ret (d_cmp (op_eqD hr.units) o_eq (d_bi call_len c_len T.z_len b_len (da_cons (dv 0) da_nil)) d_int)))))
theorem sc_size_by : FnScope ["rows", "size", "row", "once", "turn"] ["rows"] (defScope s_size_by) := ⟨rfl, rfl, rfl, by decide +kernel, rfl, by decide +kernel, by decide +kernel⟩
def F_size_by (g_size_by : List PyData → Option PyData) : Rho → Option Out := (fSeq (fSet 1 (f1 gTu (fCons (fC (.int 1)) (fCons (fC (.int 1)) fNil)))) (fSeq (fFor (fV 0) (tgN 2) (fSeq (fIf (f1 gB (f2 gEq (f2 gIx (fV 2) (fC (.int 0))) (fC (.str "grow")))) (fSet 1 (f1 times_G (fCons (fV 1) (fCons (f2 gIx (fV 2) (fC (.int 1))) fNil)))) fNext) (fIf (f1 gB (f2 gEq (f2 gIx (fV 2) (fC (.int 0))) (fC (.str "again")))) (fSeq (fSet 3 (f1 g_size_by (fCons (f2 gIx (fV 2) (fC (.int 2))) fNil))) (fFor (f1 gRng1 (fCons (f2 gIx (fV 2) (fC (.int 1))) fNil)) (tgN 4) (fSet 1 (f1 times_G (fCons (fV 1) (fCons (fV 3) fNil)))))) fNext))) (fRet (fV 1))))
theorem ok_size_by {P : Program} {w : World} {K : PySem.W.Frag} {mg : Str → Option Value} {base : Heap} {g_size_by : List PyData → Option PyData} (B : Bs w K mg) (T : Tp w K mg) {k : Nat} (hk : 3 ≤ k) (h_times : Fc P w K mg base 3 "times" ["one", "other"] times_G) (h_size_by : Fc P w K mg base k "size_by" ["rows"] g_size_by) : Fc P w K mg base (k + 1) "size_by" ["rows"] (defG 1 5 (F_size_by g_size_by)) := by
  obtain ⟨fd, Fd⟩ := B.defs (d := d_size_by) (mem_fn 41 rfl)
  replace Fd : FnP K "size_by" "size_by" s_size_by [] (He.ga K "size_by") fd := Fd
  refine ⟨He.ga K "size_by", fd, fnD (k := k) (N := ["rows", "size", "row", "once", "turn"]) Fd sc_size_by (fun cdv A outer s H E hr => ?_), B.glo (mem_fa 37 rfl), Fd.kp, FunD.bindsN (ps := ["rows"]) Fd fun _ _ _ _ _ _ us hl => match us, hl with | [_], _ => rfl⟩
  exact (dss_cons (ds_set (i := 1) sc_size_by.nd (d_tup (da_cons d_int (da_cons d_int da_nil)))) (dss_cons (ds_for (dv 0) (pg_name (i := 2) sc_size_by.nd rfl (Or.inl rfl)) (tg_name 2) (dss_cons (ds_if (dt_cmp (op_eqD hr.units) o_eq (d_ix (dv 2) d_int) d_str) (dss_one (ds_set (i := 1) sc_size_by.nd (d_call (hj := Nat.le_trans (by decide) hk) h_times hr (da_cons (dv 1) (da_cons (d_ix (dv 2) d_int) da_nil))))) dss_nil) (dss_one (ds_if (dt_cmp (op_eqD hr.units) o_eq (d_ix (dv 2) d_int) d_str) (dss_cons (ds_set (i := 3) sc_size_by.nd (d_call (hj := Nat.le_refl _) h_size_by hr (da_cons (d_ix (dv 2) d_int) da_nil))) (dss_one (ds_forR T.z_range (da_cons (d_ix (dv 2) d_int) da_nil) (pg_name (i := 4) sc_size_by.nd rfl (Or.inl rfl)) (tg_name 4) (dss_one (ds_set (i := 1) sc_size_by.nd (d_call (hj := Nat.le_trans (by decide) hk) h_times hr (da_cons (dv 1) (da_cons (dv 3) da_nil)))))))) dss_nil)))) (dss_one (ds_ret (dv 1)))))
def size_by_R : Nat → List PyData → Option PyData
  | 0 => fun _ => none
  | n + 1 => defG 1 5 (F_size_by (size_by_R n))
def size_by_G : List PyData → Option PyData := size_by_R 8
theorem okR_size_by {P : Program} {w : World} {K : PySem.W.Frag} {mg : Str → Option Value} {base : Heap} (B : Bs w K mg) (T : Tp w K mg) (h_times : Fc P w K mg base 3 "times" ["one", "other"] times_G) : ∀ n : Nat, Fc P w K mg base (3 + n) "size_by" ["rows"] (size_by_R n)
  | 0 => by
    obtain ⟨fd, Fd⟩ := B.defs (d := d_size_by) (mem_fn 41 rfl)
    replace Fd : FnP K "size_by" "size_by" s_size_by [] (He.ga K "size_by") fd := Fd
    exact Fc.zero (B.glo (mem_fa 37 rfl)) Fd.kp (FunD.bindsN (ps := ["rows"]) Fd fun _ _ _ _ _ _ us hl => match us, hl with | [_], _ => rfl)
  | n + 1 => ok_size_by B T (Nat.le_add_right 3 n) h_times (okR_size_by B T h_times n)
theorem okG_size_by {P : Program} {w : World} {K : PySem.W.Frag} {mg : Str → Option Value} {base : Heap} (B : Bs w K mg) (T : Tp w K mg) (h_times : Fc P w K mg base 3 "times" ["one", "other"] times_G) : Fc P w K mg base 11 "size_by" ["rows"] size_by_G := okR_size_by B T h_times 8
theorem sc_goes_on : FnScope ["rows", "size"] ["rows"] (defScope s_goes_on) := ⟨rfl, rfl, rfl, by decide +kernel, rfl, by decide +kernel, by decide +kernel⟩
def F_goes_on : Rho → Option Out := (fSeq (fIf (f1 gB (f2 gGt (f1 done_by_G (fCons (fV 0) fNil)) (fC (.int 300)))) (fRet (fC (.bool false))) fNext) (fSeq (fSet 1 (f1 size_by_G (fCons (fV 0) fNil))) (fRet (fAndV (fOrV (f2 gEq (fV 1) (f1 gTu (fCons (fC (.int 1)) (fCons (fC (.int 1)) fNil)))) (f1 gNotV (f1 below_G (fCons (fC cMOST_SIZE) (fCons (fV 1) fNil))))) (f1 draws_G (fCons (fV 0) fNil))))))
def goes_on_G : List PyData → Option PyData := defG 1 2 F_goes_on
theorem ok_goes_on {P : Program} {w : World} {K : PySem.W.Frag} {mg : Str → Option Value} {base : Heap} (B : Bs w K mg) (T : Tp w K mg) (h_below : Fc P w K mg base 1 "below" ["one", "other"] below_G) (h_draws : Fc P w K mg base 16 "draws" ["rows"] draws_G) (h_size_by : Fc P w K mg base 11 "size_by" ["rows"] size_by_G) (h_done_by : Fc P w K mg base 8 "done_by" ["rows"] done_by_G) : Fc P w K mg base 17 "goes_on" ["rows"] goes_on_G := by
  obtain ⟨fd, Fd⟩ := B.defs (d := d_goes_on) (mem_fn 42 rfl)
  replace Fd : FnP K "goes_on" "goes_on" s_goes_on [] (He.ga K "goes_on") fd := Fd
  refine ⟨He.ga K "goes_on", fd, fnD (k := 16) (N := ["rows", "size"]) Fd sc_goes_on (fun cdv A outer s H E hr => ?_), B.glo (mem_fa 38 rfl), Fd.kp, FunD.bindsN (ps := ["rows"]) Fd fun _ _ _ _ _ _ us hl => match us, hl with | [_], _ => rfl⟩
  exact (dss_cons (ds_if (dt_cmp op_gt o_gt (d_call h_done_by hr (da_cons (dv 0) da_nil)) (d_glob T.c_MOST_DONE)) (dss_one (ds_ret d_bl)) dss_nil) (dss_cons (ds_set (i := 1) sc_goes_on.nd (d_call h_size_by hr (da_cons (dv 0) da_nil))) (dss_one (ds_ret (d_and (d_or (d_cmp (op_eqD hr.units) o_eq (dv 1) (d_tup (da_cons d_int (da_cons d_int da_nil)))) (d_one (d_not (d_call h_below hr (da_cons (d_glob T.c_MOST_SIZE) (da_cons (dv 1) da_nil)))))) (d_one (d_call h_draws hr (da_cons (dv 0) da_nil))))))))
theorem sc_rows_in : FnScope ["rows", "many", "row"] ["rows"] (defScope s_rows_in) := ⟨rfl, rfl, rfl, by decide +kernel, rfl, by decide +kernel, by decide +kernel⟩
def F_rows_in (g_rows_in : List PyData → Option PyData) : Rho → Option Out := (fSeq (fSet 1 (fC (.int 0))) (fSeq (fFor (fV 0) (tgN 2) (fSeq (fSet 1 (f2 gAdd (fV 1) (fC (.int 1)))) (fIf (f1 gB (f2 gIn (f2 gIx (fV 2) (fC (.int 0))) (f1 gTu (fCons (fC (.str "again")) (fCons (fC (.str "keep")) (fCons (fC (.str "ever")) fNil)))))) (fSet 1 (f2 gAdd (fV 1) (f1 g_rows_in (fCons (f2 gIx (fV 2) (f2 gSub (f1 (on1 gLen) (fCons (fV 2) fNil)) (fC (.int 1)))) fNil)))) fNext))) (fRet (fV 1))))
theorem ok_rows_in {P : Program} {w : World} {K : PySem.W.Frag} {mg : Str → Option Value} {base : Heap} {g_rows_in : List PyData → Option PyData} (B : Bs w K mg) (T : Tp w K mg) {k : Nat} (hk : 0 ≤ k) (h_rows_in : Fc P w K mg base k "rows_in" ["rows"] g_rows_in) : Fc P w K mg base (k + 1) "rows_in" ["rows"] (defG 1 3 (F_rows_in g_rows_in)) := by
  obtain ⟨fd, Fd⟩ := B.defs (d := d_rows_in) (mem_fn 46 rfl)
  replace Fd : FnP K "rows_in" "rows_in" s_rows_in [] (He.ga K "rows_in") fd := Fd
  refine ⟨He.ga K "rows_in", fd, fnD (k := k) (N := ["rows", "many", "row"]) Fd sc_rows_in (fun cdv A outer s H E hr => ?_), B.glo (mem_fa 39 rfl), Fd.kp, FunD.bindsN (ps := ["rows"]) Fd fun _ _ _ _ _ _ us hl => match us, hl with | [_], _ => rfl⟩
  exact (dss_cons (ds_set (i := 1) sc_rows_in.nd d_int) (dss_cons (ds_for (dv 0) (pg_name (i := 2) sc_rows_in.nd rfl (Or.inl rfl)) (tg_name 2) (dss_cons (ds_set (i := 1) sc_rows_in.nd (d_op op_add o_add (dv 1) d_int)) (dss_one (ds_if (dt_cmp op_in_seq o_in (d_ix (dv 2) d_int) (d_tup (da_cons d_str (da_cons d_str (da_cons d_str da_nil))))) (dss_one (ds_set (i := 1) sc_rows_in.nd (d_op op_add o_add (dv 1) (d_call (hj := Nat.le_refl _) h_rows_in hr (da_cons (d_ix (dv 2) (d_op op_sub o_sub (d_bi call_len c_len T.z_len b_len (da_cons (dv 2) da_nil)) d_int)) da_nil))))) dss_nil)))) (dss_one (ds_ret (dv 1)))))
def rows_in_R : Nat → List PyData → Option PyData
  | 0 => fun _ => none
  | n + 1 => defG 1 3 (F_rows_in (rows_in_R n))
def rows_in_G : List PyData → Option PyData := rows_in_R 8
theorem okR_rows_in {P : Program} {w : World} {K : PySem.W.Frag} {mg : Str → Option Value} {base : Heap} (B : Bs w K mg) (T : Tp w K mg) : ∀ n : Nat, Fc P w K mg base (0 + n) "rows_in" ["rows"] (rows_in_R n)
  | 0 => by
    obtain ⟨fd, Fd⟩ := B.defs (d := d_rows_in) (mem_fn 46 rfl)
    replace Fd : FnP K "rows_in" "rows_in" s_rows_in [] (He.ga K "rows_in") fd := Fd
    exact Fc.zero (B.glo (mem_fa 39 rfl)) Fd.kp (FunD.bindsN (ps := ["rows"]) Fd fun _ _ _ _ _ _ us hl => match us, hl with | [_], _ => rfl)
  | n + 1 => ok_rows_in B T (Nat.le_add_right 0 n) (okR_rows_in B T n)
theorem okG_rows_in {P : Program} {w : World} {K : PySem.W.Frag} {mg : Str → Option Value} {base : Heap} (B : Bs w K mg) (T : Tp w K mg) : Fc P w K mg base 8 "rows_in" ["rows"] rows_in_G := okR_rows_in B T 8
end Arc
set_option Elab.async false
set_option linter.all false
set_option maxRecDepth 100000
set_option maxHeartbeats 4000000
namespace Arc
open PySem L2

theorem sc_number_text : FnScope ["number"] ["number"] (defScope s_number_text) := ⟨rfl, rfl, rfl, by decide +kernel, rfl, by decide +kernel, by decide +kernel⟩
def F_number_text : Rho → Option Out := (fSeq (fIf (f1 gB (f1 (gIsi "int") (fV 0))) (fRet (f1 (on1 gStr) (fCons (fV 0) fNil))) fNext) (fSeq (fIf (f1 gB (f2 gEq (f2 gIx (fV 0) (fC (.int 1))) (fC (.int 1)))) (fRet (f1 (on1 gStr) (fCons (f2 gIx (fV 0) (fC (.int 0))) fNil))) fNext) (fRet (f2 gCatS (f2 gCatS (f1 (on1 gStr) (fCons (f2 gIx (fV 0) (fC (.int 0))) fNil)) (fC (.str "/"))) (f1 (on1 gStr) (fCons (f2 gIx (fV 0) (fC (.int 1))) fNil))))))
def number_text_G : List PyData → Option PyData := defG 1 1 F_number_text
theorem ok_number_text {P : Program} {w : World} {K : PySem.W.Frag} {mg : Str → Option Value} {base : Heap} (B : Bs w K mg) (T : Tp w K mg) : Fc P w K mg base 1 "number_text" ["number"] number_text_G := by
  obtain ⟨fd, Fd⟩ := B.defs (d := d_number_text) (mem_fn 48 rfl)
  replace Fd : FnP K "number_text" "number_text" s_number_text [] (He.ga K "number_text") fd := Fd
  refine ⟨He.ga K "number_text", fd, fnD (k := 0) (N := ["number"]) Fd sc_number_text (fun cdv A outer s H E hr => ?_), B.glo (mem_fa 41 rfl), Fd.kp, FunD.bindsN (ps := ["number"]) Fd fun _ _ _ _ _ _ us hl => match us, hl with | [_], _ => rfl⟩
  exact (dss_cons (ds_if (dt_val (d_isi (T := "int") T.z_isinstance T.z_int b_int (dv 0))) (dss_one (ds_ret (d_ty call_str_int c_str T.z_str b_str (da_cons (dv 0) da_nil)))) dss_nil) (dss_cons (ds_if (dt_cmp (op_eqD hr.units) o_eq (d_ix (dv 0) d_int) d_int) (dss_one (ds_ret (d_ty call_str_int c_str T.z_str b_str (da_cons (d_ix (dv 0) d_int) da_nil)))) dss_nil) (dss_one (ds_ret (d_op op_add_str o_catS (d_op op_add_str o_catS (d_ty call_str_int c_str T.z_str b_str (da_cons (d_ix (dv 0) d_int) da_nil)) d_str) (d_ty call_str_int c_str T.z_str b_str (da_cons (d_ix (dv 0) d_int) da_nil)))))))
theorem sc_whole_in : FnScope ["word", "figures", "sign"] ["word"] (defScope s_whole_in) := ⟨rfl, rfl, rfl, by decide +kernel, rfl, by decide +kernel, by decide +kernel⟩
def F_whole_in : Rho → Option Out := (fSeq (fSet 1 (fV 0)) (fSeq (fIf (f1 gB (f2 gEq (fSl (fV 0) (fun _ => some none) (f1 gI (fC (.int 1)))) (fC (.str "-")))) (fSet 1 (fSl (fV 0) (f1 gI (fC (.int 1))) (fun _ => some none))) fNext) (fSeq (fIf (fOr (f1 gB (f2 gEq (fV 1) (fC (.str "")))) (f1 gNot (f1 gB (f1 (on1 gAll) (fCons (fLc [2] (tgN 2) (fun _ => some true) (f2 gInSign (fV 2) (fC (.str "0123456789"))) (f1 itS (fV 1))) fNil))))) (fRet (fC .none)) fNext) (fSeq (fIf (fAnd (f1 gB (f2 gEq (f2 gIx (fV 1) (fC (.int 0))) (fC (.str "0")))) (f1 gB (f2 gNe (fV 0) (fC (.str "0"))))) (fRet (fC .none)) fNext) (fRet (f1 (on1 gIntS) (fCons (fV 0) fNil)))))))
def whole_in_G : List PyData → Option PyData := defG 1 3 F_whole_in
theorem ok_whole_in {P : Program} {w : World} {K : PySem.W.Frag} {mg : Str → Option Value} {base : Heap} (B : Bs w K mg) (T : Tp w K mg) : Fc P w K mg base 1 "whole_in" ["word"] whole_in_G := by
  obtain ⟨fd, Fd⟩ := B.defs (d := d_whole_in) (mem_fn 51 rfl)
  replace Fd : FnP K "whole_in" "whole_in" s_whole_in [] (He.ga K "whole_in") fd := Fd
  refine ⟨He.ga K "whole_in", fd, fnD (k := 0) (N := ["word", "figures", "sign"]) Fd sc_whole_in (fun cdv A outer s H E hr => ?_), B.glo (mem_fa 44 rfl), Fd.kp, FunD.bindsN (ps := ["word"]) Fd fun _ _ _ _ _ _ us hl => match us, hl with | [_], _ => rfl⟩
  exact (dss_cons (ds_set (i := 1) sc_whole_in.nd (dv 0)) (dss_cons (ds_if (dt_cmp (op_eqD hr.units) o_eq (d_sl (dv 0) do_none (do_some d_int)) d_str) (dss_one (ds_set (i := 1) sc_whole_in.nd (d_sl (dv 0) (do_some d_int) do_none))) dss_nil) (dss_cons (ds_if (PW.pt (dw_or (dt_cmp (op_eqD hr.units) o_eq (dv 1) d_str) (dw_or1 (dt_not (dt_val (d_bi (cr_all rfl) c_all T.z_all b_all (da_cons (d_lc (own := [("sign", 2)]) sc_whole_in.nd  (li_S (dv 1)) (blkOk_by (own := [("sign", 2)]) (N := ["word", "figures", "sign"]) (sc := defScope s_whole_in) (by decide +kernel)) (fun _ _ _ _ _ => pg_name (i := 2) sc_whole_in.nd rfl (Or.inl rfl)) (tl_name (by decide)) (fun _ _ _ _ _ => dts_nil) (fun _ _ _ _ _ => (d_cmp op_in_sign o_inSign (dv 2) (d_glob T.c_FIGURES)))) da_nil))))))) (dss_one (ds_ret d_non)) dss_nil) (dss_cons (ds_if (PW.pt (dw_and (dt_cmp (op_eqD hr.units) o_eq (d_ix (dv 1) d_int) d_str) (dw_and1 (dt_cmp (op_neD hr.units) o_ne (dv 0) d_str)))) (dss_one (ds_ret d_non)) dss_nil) (dss_one (ds_ret (d_ty call_int_str c_intS T.z_int b_int (da_cons (dv 0) da_nil))))))))
theorem sc_fraction_in : FnScope ["word", "top", "mark", "bottom", "found", "by"] ["word"] (defScope s_fraction_in) := ⟨rfl, rfl, rfl, by decide +kernel, rfl, by decide +kernel, by decide +kernel⟩
def F_fraction_in : Rho → Option Out := (fSeq (fUnp [1, 2, 3] (f2 gPart (fV 0) (fC (.str "/")))) (fSeq (fSet 4 (f1 whole_in_G (fCons (fV 1) fNil))) (fSeq (fSet 5 (fC (.int 1))) (fSeq (fIf (f1 gB (f2 gNe (fV 2) (fC (.str "")))) (fSet 5 (f1 whole_in_G (fCons (fV 3) fNil))) fNext) (fSeq (fIf (fOr (f1 gB (f2 gIsN (fV 4) (fC .none))) (fOr (f1 gB (f2 gIsN (fV 5) (fC .none))) (fOr (f1 gB (f2 gLt (fV 5) (fC (.int 1)))) (fOr (fAnd (f1 gB (f2 gEq (fV 5) (fC (.int 1)))) (f1 gB (f2 gNe (fV 2) (fC (.str ""))))) (f1 gB (f2 gNe (f1 divisor_G (fCons (fV 4) (fCons (fV 5) fNil))) (fC (.int 1)))))))) (fRet (fC .none)) fNext) (fRet (f1 gTu (fCons (fV 4) (fCons (fV 5) fNil)))))))))
def fraction_in_G : List PyData → Option PyData := defG 1 6 F_fraction_in
theorem ok_fraction_in {P : Program} {w : World} {K : PySem.W.Frag} {mg : Str → Option Value} {base : Heap} (B : Bs w K mg) (T : Tp w K mg) (h_divisor : Fc P w K mg base 1 "divisor" ["one", "other"] divisor_G) (h_whole_in : Fc P w K mg base 1 "whole_in" ["word"] whole_in_G) : Fc P w K mg base 2 "fraction_in" ["word"] fraction_in_G := by
  obtain ⟨fd, Fd⟩ := B.defs (d := d_fraction_in) (mem_fn 52 rfl)
  replace Fd : FnP K "fraction_in" "fraction_in" s_fraction_in [] (He.ga K "fraction_in") fd := Fd
  refine ⟨He.ga K "fraction_in", fd, fnD (k := 1) (N := ["word", "top", "mark", "bottom", "found", "by"]) Fd sc_fraction_in (fun cdv A outer s H E hr => ?_), B.glo (mem_fa 45 rfl), Fd.kp, FunD.bindsN (ps := ["word"]) Fd fun _ _ _ _ _ _ us hl => match us, hl with | [_], _ => rfl⟩
  exact (dss_cons (ds_unp (is := [1, 2, 3]) (pg_tup rfl (pgs_cons (pg_name (i := 1) sc_fraction_in.nd rfl (Or.inl rfl)) (pgs_cons (pg_name (i := 2) sc_fraction_in.nd rfl (Or.inl rfl)) (pgs_cons (pg_name (i := 3) sc_fraction_in.nd rfl (Or.inl rfl)) pgs_nil)))) (d_part (dv 0) d_str)) (dss_cons (ds_set (i := 4) sc_fraction_in.nd (d_call h_whole_in hr (da_cons (dv 1) da_nil))) (dss_cons (ds_set (i := 5) sc_fraction_in.nd d_int) (dss_cons (ds_if (dt_cmp (op_neD hr.units) o_ne (dv 2) d_str) (dss_one (ds_set (i := 5) sc_fraction_in.nd (d_call h_whole_in hr (da_cons (dv 3) da_nil)))) dss_nil) (dss_cons (ds_if (PW.pt (dw_or (dt_cmp op_isN o_isN (dv 4) d_non) (dw_or (dt_cmp op_isN o_isN (dv 5) d_non) (dw_or (dt_cmp op_lt o_lt (dv 5) d_int) (dw_or (PW.pt (dw_and (dt_cmp (op_eqD hr.units) o_eq (dv 5) d_int) (dw_and1 (dt_cmp (op_neD hr.units) o_ne (dv 2) d_str)))) (dw_or1 (dt_cmp (op_neD hr.units) o_ne (d_call h_divisor hr (da_cons (dv 4) (da_cons (dv 5) da_nil))) d_int))))))) (dss_one (ds_ret d_non)) dss_nil) (dss_one (ds_ret (d_tup (da_cons (dv 4) (da_cons (dv 5) da_nil))))))))))
theorem sc_law_ratio : FnScope ["_law_top", "_law_bottom", "_law_one", "_law_other"] ["_law_top", "_law_bottom"] (defScope s_law_ratio) := ⟨rfl, rfl, rfl, by decide +kernel, rfl, by decide +kernel, by decide +kernel⟩
def F_law_ratio : Rho → Option Out := (fSeq (fPar 2 3 (fCons (f1 (on1 gAbs) (fCons (fV 0) fNil)) (fCons (fV 1) fNil))) (fSeq (fLoop (nfI 3) (f1 gB (f2 gGt (fV 3) (fC (.int 0)))) (fPar 2 3 (fCons (fV 3) (fCons (f2 gMod (fV 2) (fV 3)) fNil)))) (fRet (f1 gTu (fCons (f2 gDiv (fV 0) (fV 2)) (fCons (f2 gDiv (fV 1) (fV 2)) fNil))))))
def law_ratio_G : List PyData → Option PyData := defG 2 4 F_law_ratio
theorem ok_law_ratio {P : Program} {w : World} {K : PySem.W.Frag} {mg : Str → Option Value} {base : Heap} (B : Bs w K mg) (T : Tp w K mg) : Fc P w K mg base 1 "_law_ratio" ["_law_top", "_law_bottom"] law_ratio_G := by
  obtain ⟨fd, Fd⟩ := B.defs (d := d_law_ratio) (mem_fn 60 rfl)
  replace Fd : FnP K "_law_ratio" "_law_ratio" s_law_ratio [] (He.ga K "_law_ratio") fd := Fd
  refine ⟨He.ga K "_law_ratio", fd, fnD (k := 0) (N := ["_law_top", "_law_bottom", "_law_one", "_law_other"]) Fd sc_law_ratio (fun cdv A outer s H E hr => ?_), B.glo (mem_fa 49 rfl), Fd.kp, FunD.bindsN (ps := ["_law_top", "_law_bottom"]) Fd fun _ _ _ _ _ _ us hl => match us, hl with | [_, _], _ => rfl⟩
  exact (dss_cons (ds_par (i := 2) (j := 3) rfl sc_law_ratio.nd rfl rfl (by decide) rfl rfl (da_cons (d_bi call_abs c_abs T.z_abs b_abs (da_cons (dv 0) da_nil)) (da_cons (dv 1) da_nil))) (dss_cons (ds_while (nfI 3) (dt_cmp op_gt o_gt (dv 3) d_int) (dss_one (ds_par (i := 2) (j := 3) rfl sc_law_ratio.nd rfl rfl (by decide) rfl rfl (da_cons (dv 3) (da_cons (d_op op_mod o_mod (dv 2) (dv 3)) da_nil))))) (dss_one (ds_ret (d_tup (da_cons (d_op op_fdivW o_div (dv 0) (dv 2)) (da_cons (d_op op_fdivW o_div (dv 1) (dv 2)) da_nil)))))))
theorem sc_law_plus : FnScope ["_law_one", "_law_other"] ["_law_one", "_law_other"] (defScope s_law_plus) := ⟨rfl, rfl, rfl, by decide +kernel, rfl, by decide +kernel, by decide +kernel⟩
def F_law_plus : Rho → Option Out := (fRet (f1 law_ratio_G (fCons (f2 gAdd (f2 gMul (f2 gIx (fV 0) (fC (.int 0))) (f2 gIx (fV 1) (fC (.int 1)))) (f2 gMul (f2 gIx (fV 1) (fC (.int 0))) (f2 gIx (fV 0) (fC (.int 1))))) (fCons (f2 gMul (f2 gIx (fV 0) (fC (.int 1))) (f2 gIx (fV 1) (fC (.int 1)))) fNil))))
def law_plus_G : List PyData → Option PyData := defG 2 2 F_law_plus
theorem ok_law_plus {P : Program} {w : World} {K : PySem.W.Frag} {mg : Str → Option Value} {base : Heap} (B : Bs w K mg) (T : Tp w K mg) (h_law_ratio : Fc P w K mg base 1 "_law_ratio" ["_law_top", "_law_bottom"] law_ratio_G) : Fc P w K mg base 2 "_law_plus" ["_law_one", "_law_other"] law_plus_G := by
  obtain ⟨fd, Fd⟩ := B.defs (d := d_law_plus) (mem_fn 61 rfl)
  replace Fd : FnP K "_law_plus" "_law_plus" s_law_plus [] (He.ga K "_law_plus") fd := Fd
  refine ⟨He.ga K "_law_plus", fd, fnD (k := 1) (N := ["_law_one", "_law_other"]) Fd sc_law_plus (fun cdv A outer s H E hr => ?_), B.glo (mem_fa 50 rfl), Fd.kp, FunD.bindsN (ps := ["_law_one", "_law_other"]) Fd fun _ _ _ _ _ _ us hl => match us, hl with | [_, _], _ => rfl⟩
  exact (dss_one (ds_ret (d_call h_law_ratio hr (da_cons (d_op op_add o_add (d_op op_mulW o_mul (d_ix (dv 0) d_int) (d_ix (dv 1) d_int)) (d_op op_mulW o_mul (d_ix (dv 1) d_int) (d_ix (dv 0) d_int))) (da_cons (d_op op_mulW o_mul (d_ix (dv 0) d_int) (d_ix (dv 1) d_int)) da_nil)))))
theorem sc_law_times : FnScope ["_law_one", "_law_other"] ["_law_one", "_law_other"] (defScope s_law_times) := ⟨rfl, rfl, rfl, by decide +kernel, rfl, by decide +kernel, by decide +kernel⟩
def F_law_times : Rho → Option Out := (fRet (f1 law_ratio_G (fCons (f2 gMul (f2 gIx (fV 0) (fC (.int 0))) (f2 gIx (fV 1) (fC (.int 0)))) (fCons (f2 gMul (f2 gIx (fV 0) (fC (.int 1))) (f2 gIx (fV 1) (fC (.int 1)))) fNil))))
def law_times_G : List PyData → Option PyData := defG 2 2 F_law_times
theorem ok_law_times {P : Program} {w : World} {K : PySem.W.Frag} {mg : Str → Option Value} {base : Heap} (B : Bs w K mg) (T : Tp w K mg) (h_law_ratio : Fc P w K mg base 1 "_law_ratio" ["_law_top", "_law_bottom"] law_ratio_G) : Fc P w K mg base 2 "_law_times" ["_law_one", "_law_other"] law_times_G := by
  obtain ⟨fd, Fd⟩ := B.defs (d := d_law_times) (mem_fn 62 rfl)
  replace Fd : FnP K "_law_times" "_law_times" s_law_times [] (He.ga K "_law_times") fd := Fd
  refine ⟨He.ga K "_law_times", fd, fnD (k := 1) (N := ["_law_one", "_law_other"]) Fd sc_law_times (fun cdv A outer s H E hr => ?_), B.glo (mem_fa 51 rfl), Fd.kp, FunD.bindsN (ps := ["_law_one", "_law_other"]) Fd fun _ _ _ _ _ _ us hl => match us, hl with | [_, _], _ => rfl⟩
  exact (dss_one (ds_ret (d_call h_law_ratio hr (da_cons (d_op op_mulW o_mul (d_ix (dv 0) d_int) (d_ix (dv 1) d_int)) (da_cons (d_op op_mulW o_mul (d_ix (dv 0) d_int) (d_ix (dv 1) d_int)) da_nil)))))
theorem sc_law_drawn : FnScope ["_law_one", "_law_other"] ["_law_one", "_law_other"] (defScope s_law_drawn) := ⟨rfl, rfl, rfl, by decide +kernel, rfl, by decide +kernel, by decide +kernel⟩
def F_law_drawn : Rho → Option Out := (fSeq (fIf (f1 gB (f2 gEq (f2 gMod (fV 1) (fC (.int 5))) (fC (.int 4)))) (fRet (f1 law_ratio_G (fCons (f2 gSub (f2 gMod (f2 gMul (fV 0) (fC (.int 7))) (fC (.int 1999999))) (fC (.int 999999))) (fCons (f2 gAdd (fC (.int 1)) (f2 gMod (f2 gMul (fV 1) (fC (.int 13))) (fC (.int 999999)))) fNil)))) fNext) (fRet (f1 law_ratio_G (fCons (f2 gSub (f2 gMod (fV 0) (fC (.int 41))) (fC (.int 20))) (fCons (f2 gAdd (fC (.int 1)) (f2 gMod (f2 gDiv (fV 0) (fC (.int 41))) (f2 gIx (f1 gLs (fCons (fC (.int 1)) (fCons (fC (.int 1)) (fCons (fC (.int 9)) fNil)))) (f2 gMod (fV 1) (fC (.int 3)))))) fNil)))))
def law_drawn_G : List PyData → Option PyData := defG 2 2 F_law_drawn
theorem ok_law_drawn {P : Program} {w : World} {K : PySem.W.Frag} {mg : Str → Option Value} {base : Heap} (B : Bs w K mg) (T : Tp w K mg) (h_law_ratio : Fc P w K mg base 1 "_law_ratio" ["_law_top", "_law_bottom"] law_ratio_G) : Fc P w K mg base 2 "_law_drawn" ["_law_one", "_law_other"] law_drawn_G := by
  obtain ⟨fd, Fd⟩ := B.defs (d := d_law_drawn) (mem_fn 63 rfl)
  replace Fd : FnP K "_law_drawn" "_law_drawn" s_law_drawn [] (He.ga K "_law_drawn") fd := Fd
  refine ⟨He.ga K "_law_drawn", fd, fnD (k := 1) (N := ["_law_one", "_law_other"]) Fd sc_law_drawn (fun cdv A outer s H E hr => ?_), B.glo (mem_fa 52 rfl), Fd.kp, FunD.bindsN (ps := ["_law_one", "_law_other"]) Fd fun _ _ _ _ _ _ us hl => match us, hl with | [_, _], _ => rfl⟩
  exact (dss_cons (ds_if (dt_cmp (op_eqD hr.units) o_eq (d_op op_mod o_mod (dv 1) d_int) d_int) (dss_one (ds_ret (d_call h_law_ratio hr (da_cons (d_op op_sub o_sub (d_op op_mod o_mod (d_op op_mulW o_mul (dv 0) d_int) d_int) d_int) (da_cons (d_op op_add o_add d_int (d_op op_mod o_mod (d_op op_mulW o_mul (dv 1) d_int) d_int)) da_nil))))) dss_nil) (dss_one (ds_ret (d_call h_law_ratio hr (da_cons (d_op op_sub o_sub (d_op op_mod o_mod (dv 0) d_int) d_int) (da_cons (d_op op_add o_add d_int (d_op op_mod o_mod (d_op op_fdivW o_div (dv 0) d_int) (d_ix (d_lst (da_cons d_int (da_cons d_int (da_cons d_int da_nil)))) (d_op op_mod o_mod (dv 1) d_int)))) da_nil))))))
theorem sc_law_bow : FnScope ["_law_row_here", "_law_x", "_law_y", "_law_p", "_law_q", "_law_u", "_law_v", "_law_back", "_law_right", "_law_up"] ["_law_row_here"] (defScope s_law_bow) := ⟨rfl, rfl, rfl, by decide +kernel, rfl, by decide +kernel, by decide +kernel⟩
def F_law_bow : Rho → Option Out := (fSeq (fPar 1 2 (fCons (f1 law_drawn_G (fCons (f2 gIx (fV 0) (fC (.int 0))) (fCons (fC (.int 0)) fNil))) (fCons (f1 law_drawn_G (fCons (f2 gIx (fV 0) (fC (.int 1))) (fCons (fC (.int 1)) fNil))) fNil))) (fSeq (fIf (fAnd (f1 gB (f2 gEq (f2 gIx (fV 1) (fC (.int 0))) (fC (.int 0)))) (f1 gB (f2 gEq (f2 gIx (fV 2) (fC (.int 0))) (fC (.int 0))))) (fSet 2 (f1 gTu (fCons (fC (.int 2)) (fCons (fC (.int 1)) fNil)))) fNext) (fSeq (fUnp [3, 4] (f2 gIx (f1 gLs (fCons (f1 gTu (fCons (fC (.int 1)) (fCons (fC (.int 0)) fNil))) (fCons (f1 gTu (fCons (fC (.int 0)) (fCons (fC (.int 1)) fNil))) (fCons (f1 gTu (fCons (f2 gSub (f2 gMod (f2 gIx (fV 0) (fC (.int 2))) (fC (.int 19))) (fC (.int 9))) (fCons (f2 gAdd (fC (.int 1)) (f2 gMod (f2 gIx (fV 0) (fC (.int 3))) (fC (.int 9)))) fNil))) fNil)))) (f1 (on2 gMin) (fCons (fC (.int 2)) (fCons (f2 gMod (f2 gIx (fV 0) (fC (.int 4))) (fC (.int 8))) fNil))))) (fSeq (fSet 5 (f1 law_ratio_G (fCons (f2 gSub (f2 gMul (fV 4) (fV 4)) (f2 gMul (fV 3) (fV 3))) (fCons (f2 gAdd (f2 gMul (fV 4) (fV 4)) (f2 gMul (fV 3) (fV 3))) fNil)))) (fSeq (fSet 6 (f1 law_ratio_G (fCons (f2 gMul (f2 gMul (fC (.int 2)) (fV 3)) (fV 4)) (fCons (f2 gAdd (f2 gMul (fV 4) (fV 4)) (f2 gMul (fV 3) (fV 3))) fNil)))) (fSeq (fSet 7 (f1 gTu (fCons (f1 gNeg (fC (.int 1))) (fCons (fC (.int 1)) fNil)))) (fSeq (fSet 8 (f1 law_plus_G (fCons (f1 law_times_G (fCons (fV 5) (fCons (f1 law_times_G (fCons (fV 1) (fCons (fV 7) fNil))) fNil))) (fCons (f1 law_times_G (fCons (fV 6) (fCons (fV 2) fNil))) fNil)))) (fSeq (fSet 9 (f1 law_plus_G (fCons (f1 law_times_G (fCons (fV 6) (fCons (f1 law_times_G (fCons (fV 1) (fCons (fV 7) fNil))) fNil))) (fCons (f1 law_times_G (fCons (fV 5) (fCons (f1 law_times_G (fCons (fV 2) (fCons (fV 7) fNil))) fNil))) fNil)))) (fRet (f1 gTu (fCons (fV 1) (fCons (fV 2) (fCons (f1 law_plus_G (fCons (fV 1) (fCons (fV 8) fNil))) (fCons (f1 law_plus_G (fCons (fV 2) (fCons (fV 9) fNil))) fNil))))))))))))))
def law_bow_G : List PyData → Option PyData := defG 1 10 F_law_bow
theorem ok_law_bow {P : Program} {w : World} {K : PySem.W.Frag} {mg : Str → Option Value} {base : Heap} (B : Bs w K mg) (T : Tp w K mg) (h_law_plus : Fc P w K mg base 2 "_law_plus" ["_law_one", "_law_other"] law_plus_G) (h_law_times : Fc P w K mg base 2 "_law_times" ["_law_one", "_law_other"] law_times_G) (h_law_ratio : Fc P w K mg base 1 "_law_ratio" ["_law_top", "_law_bottom"] law_ratio_G) (h_law_drawn : Fc P w K mg base 2 "_law_drawn" ["_law_one", "_law_other"] law_drawn_G) : Fc P w K mg base 3 "_law_bow" ["_law_row_here"] law_bow_G := by
  obtain ⟨fd, Fd⟩ := B.defs (d := d_law_bow) (mem_fn 64 rfl)
  replace Fd : FnP K "_law_bow" "_law_bow" s_law_bow [] (He.ga K "_law_bow") fd := Fd
  refine ⟨He.ga K "_law_bow", fd, fnD (k := 2) (N := ["_law_row_here", "_law_x", "_law_y", "_law_p", "_law_q", "_law_u", "_law_v", "_law_back", "_law_right", "_law_up"]) Fd sc_law_bow (fun cdv A outer s H E hr => ?_), B.glo (mem_fa 53 rfl), Fd.kp, FunD.bindsN (ps := ["_law_row_here"]) Fd fun _ _ _ _ _ _ us hl => match us, hl with | [_], _ => rfl⟩
  exact (dss_cons (ds_par (i := 1) (j := 2) rfl sc_law_bow.nd rfl rfl (by decide) rfl rfl (da_cons (d_call h_law_drawn hr (da_cons (d_ix (dv 0) d_int) (da_cons d_int da_nil))) (da_cons (d_call h_law_drawn hr (da_cons (d_ix (dv 0) d_int) (da_cons d_int da_nil))) da_nil))) (dss_cons (ds_if (PW.pt (dw_and (dt_cmp (op_eqD hr.units) o_eq (d_ix (dv 1) d_int) d_int) (dw_and1 (dt_cmp (op_eqD hr.units) o_eq (d_ix (dv 2) d_int) d_int)))) (dss_one (ds_set (i := 2) sc_law_bow.nd (d_tup (da_cons d_int (da_cons d_int da_nil))))) dss_nil) (dss_cons (ds_unp (is := [3, 4]) (pg_tup rfl (pgs_cons (pg_name (i := 3) sc_law_bow.nd rfl (Or.inl rfl)) (pgs_cons (pg_name (i := 4) sc_law_bow.nd rfl (Or.inl rfl)) pgs_nil))) (d_ix (d_lst (da_cons (d_tup (da_cons d_int (da_cons d_int da_nil))) (da_cons (d_tup (da_cons d_int (da_cons d_int da_nil))) (da_cons (d_tup (da_cons (d_op op_sub o_sub (d_op op_mod o_mod (d_ix (dv 0) d_int) d_int) d_int) (da_cons (d_op op_add o_add d_int (d_op op_mod o_mod (d_ix (dv 0) d_int) d_int)) da_nil))) da_nil)))) (d_bi (call_min2 rfl) c_min T.z_min b_min (da_cons d_int (da_cons (d_op op_mod o_mod (d_ix (dv 0) d_int) d_int) da_nil))))) (dss_cons (ds_set (i := 5) sc_law_bow.nd (d_call h_law_ratio hr (da_cons (d_op op_sub o_sub (d_op op_mulW o_mul (dv 4) (dv 4)) (d_op op_mulW o_mul (dv 3) (dv 3))) (da_cons (d_op op_add o_add (d_op op_mulW o_mul (dv 4) (dv 4)) (d_op op_mulW o_mul (dv 3) (dv 3))) da_nil)))) (dss_cons (ds_set (i := 6) sc_law_bow.nd (d_call h_law_ratio hr (da_cons (d_op op_mulW o_mul (d_op op_mulW o_mul d_int (dv 3)) (dv 4)) (da_cons (d_op op_add o_add (d_op op_mulW o_mul (dv 4) (dv 4)) (d_op op_mulW o_mul (dv 3) (dv 3))) da_nil)))) (dss_cons (ds_set (i := 7) sc_law_bow.nd (d_tup (da_cons (d_neg d_int) (da_cons d_int da_nil)))) (dss_cons (ds_set (i := 8) sc_law_bow.nd (d_call h_law_plus hr (da_cons (d_call h_law_times hr (da_cons (dv 5) (da_cons (d_call h_law_times hr (da_cons (dv 1) (da_cons (dv 7) da_nil))) da_nil))) (da_cons (d_call h_law_times hr (da_cons (dv 6) (da_cons (dv 2) da_nil))) da_nil)))) (dss_cons (ds_set (i := 9) sc_law_bow.nd (d_call h_law_plus hr (da_cons (d_call h_law_times hr (da_cons (dv 6) (da_cons (d_call h_law_times hr (da_cons (dv 1) (da_cons (dv 7) da_nil))) da_nil))) (da_cons (d_call h_law_times hr (da_cons (dv 5) (da_cons (d_call h_law_times hr (da_cons (dv 2) (da_cons (dv 7) da_nil))) da_nil))) da_nil)))) (dss_one (ds_ret (d_tup (da_cons (dv 1) (da_cons (dv 2) (da_cons (d_call h_law_plus hr (da_cons (dv 1) (da_cons (dv 8) da_nil))) (da_cons (d_call h_law_plus hr (da_cons (dv 2) (da_cons (dv 9) da_nil))) da_nil)))))))))))))))
theorem sc_law_plain : FnScope ["_law_row_here", "_law_words", "_law_word", "_law_one"] ["_law_row_here"] (defScope s_law_plain) := ⟨rfl, rfl, rfl, by decide +kernel, rfl, by decide +kernel, by decide +kernel⟩
def F_law_plain : Rho → Option Out := (fSeq (fSet 1 (f1 gLs (fCons (fC (.str "go")) (fCons (fC (.str "go")) (fCons (fC (.str "side")) (fCons (fC (.str "quarter")) (fCons (fC (.str "half")) (fCons (fC (.str "arc")) (fCons (fC (.str "dot")) (fCons (fC (.str "skip")) (fCons (fC (.str "left")) (fCons (fC (.str "right")) (fCons (fC (.str "round")) (fCons (fC (.str "mirror")) (fCons (fC (.str "grow")) fNil))))))))))))))) (fSeq (fSet 2 (f2 gIx (f2 gCatL (fV 1) (f1 gLs (fCons (fC (.str "side")) (fCons (fC (.str "quarter")) (fCons (fC (.str "arc")) fNil))))) (f2 gMod (f2 gIx (fV 0) (fC (.int 0))) (fC (.int 16))))) (fSeq (fSet 3 (f1 law_drawn_G (fCons (f2 gIx (fV 0) (fC (.int 1))) (fCons (f2 gIx (fV 0) (fC (.int 2))) fNil)))) (fSeq (fIf (f1 gB (f2 gIn (fV 2) (f1 gLs (fCons (fC (.str "go")) (fCons (fC (.str "skip")) fNil))))) (fRet (f1 gTu (fCons (fV 2) (fCons (fV 3) fNil)))) fNext) (fSeq (fIf (f1 gB (f2 gEq (fV 2) (fC (.str "side")))) (fRet (f1 gTu (fCons (fV 2) (fCons (fV 3) (fCons (f1 law_drawn_G (fCons (f2 gIx (fV 0) (fC (.int 3))) (fCons (f2 gIx (fV 0) (fC (.int 4))) fNil))) fNil))))) fNext) (fSeq (fIf (f1 gB (f2 gEq (fV 2) (fC (.str "grow")))) (fRet (f1 gTu (fCons (fV 2) (fCons (f1 law_ratio_G (fCons (f2 gAdd (fC (.int 1)) (f2 gMod (f2 gIx (fV 0) (fC (.int 1))) (fC (.int 12)))) (fCons (f2 gAdd (fC (.int 1)) (f2 gMod (f2 gIx (fV 0) (fC (.int 2))) (fC (.int 12)))) fNil))) fNil)))) fNext) (fSeq (fIf (f1 gB (f2 gIn (fV 2) (f1 gLs (fCons (fC (.str "quarter")) (fCons (fC (.str "half")) fNil))))) (fRet (f1 gTu (fCons (fV 2) (fCons (f2 gIx (f1 gLs (fCons (fV 3) (fCons (f1 gTu (fCons (fC (.int 1)) (fCons (fC (.int 3)) fNil))) fNil))) (f1 (on1 gInt) (fCons (f2 gEq (f2 gIx (fV 3) (fC (.int 0))) (fC (.int 0))) fNil))) fNil)))) fNext) (fSeq (fIf (f1 gB (f2 gEq (fV 2) (fC (.str "arc")))) (fRet (f2 gCatT (f1 gTu (fCons (fV 2) fNil)) (f1 law_bow_G (fCons (fSl (fV 0) (f1 gI (fC (.int 3))) (f1 gI (fC (.int 8)))) fNil)))) fNext) (fRet (f1 gTu (fCons (fV 2) fNil)))))))))))
def law_plain_G : List PyData → Option PyData := defG 1 4 F_law_plain
theorem ok_law_plain {P : Program} {w : World} {K : PySem.W.Frag} {mg : Str → Option Value} {base : Heap} (B : Bs w K mg) (T : Tp w K mg) (h_law_bow : Fc P w K mg base 3 "_law_bow" ["_law_row_here"] law_bow_G) (h_law_ratio : Fc P w K mg base 1 "_law_ratio" ["_law_top", "_law_bottom"] law_ratio_G) (h_law_drawn : Fc P w K mg base 2 "_law_drawn" ["_law_one", "_law_other"] law_drawn_G) : Fc P w K mg base 4 "_law_plain" ["_law_row_here"] law_plain_G := by
  obtain ⟨fd, Fd⟩ := B.defs (d := d_law_plain) (mem_fn 65 rfl)
  replace Fd : FnP K "_law_plain" "_law_plain" s_law_plain [] (He.ga K "_law_plain") fd := Fd
  refine ⟨He.ga K "_law_plain", fd, fnD (k := 3) (N := ["_law_row_here", "_law_words", "_law_word", "_law_one"]) Fd sc_law_plain (fun cdv A outer s H E hr => ?_), B.glo (mem_fa 54 rfl), Fd.kp, FunD.bindsN (ps := ["_law_row_here"]) Fd fun _ _ _ _ _ _ us hl => match us, hl with | [_], _ => rfl⟩
  exact (dss_cons (ds_set (i := 1) sc_law_plain.nd (d_lst (da_cons d_str (da_cons d_str (da_cons d_str (da_cons d_str (da_cons d_str (da_cons d_str (da_cons d_str (da_cons d_str (da_cons d_str (da_cons d_str (da_cons d_str (da_cons d_str (da_cons d_str da_nil))))))))))))))) (dss_cons (ds_set (i := 2) sc_law_plain.nd (d_ix (d_op op_cat o_catL (dv 1) (d_lst (da_cons d_str (da_cons d_str (da_cons d_str da_nil))))) (d_op op_mod o_mod (d_ix (dv 0) d_int) d_int))) (dss_cons (ds_set (i := 3) sc_law_plain.nd (d_call h_law_drawn hr (da_cons (d_ix (dv 0) d_int) (da_cons (d_ix (dv 0) d_int) da_nil)))) (dss_cons (ds_if (dt_cmp op_in_seq o_in (dv 2) (d_lst (da_cons d_str (da_cons d_str da_nil)))) (dss_one (ds_ret (d_tup (da_cons (dv 2) (da_cons (dv 3) da_nil))))) dss_nil) (dss_cons (ds_if (dt_cmp (op_eqD hr.units) o_eq (dv 2) d_str) (dss_one (ds_ret (d_tup (da_cons (dv 2) (da_cons (dv 3) (da_cons (d_call h_law_drawn hr (da_cons (d_ix (dv 0) d_int) (da_cons (d_ix (dv 0) d_int) da_nil))) da_nil)))))) dss_nil) (dss_cons (ds_if (dt_cmp (op_eqD hr.units) o_eq (dv 2) d_str) (dss_one (ds_ret (d_tup (da_cons (dv 2) (da_cons (d_call h_law_ratio hr (da_cons (d_op op_add o_add d_int (d_op op_mod o_mod (d_ix (dv 0) d_int) d_int)) (da_cons (d_op op_add o_add d_int (d_op op_mod o_mod (d_ix (dv 0) d_int) d_int)) da_nil))) da_nil))))) dss_nil) (dss_cons (ds_if (dt_cmp op_in_seq o_in (dv 2) (d_lst (da_cons d_str (da_cons d_str da_nil)))) (dss_one (ds_ret (d_tup (da_cons (dv 2) (da_cons (d_ix (d_lst (da_cons (dv 3) (da_cons (d_tup (da_cons d_int (da_cons d_int da_nil))) da_nil))) (d_ty call_int1 c_int T.z_int b_int (da_cons (d_cmp (op_eqD hr.units) o_eq (d_ix (dv 3) d_int) d_int) da_nil))) da_nil))))) dss_nil) (dss_cons (ds_if (dt_cmp (op_eqD hr.units) o_eq (dv 2) d_str) (dss_one (ds_ret (d_op op_catA o_catT (d_tup (da_cons (dv 2) da_nil)) (d_call h_law_bow hr (da_cons (d_sl (dv 0) (do_some d_int) (do_some d_int)) da_nil))))) dss_nil) (dss_one (ds_ret (d_tup (da_cons (dv 2) da_nil))))))))))))
theorem sc_law_size : FnScope ["_law_rows", "_law_size_here", "_law_row_here", "_law_once", "_law_turn"] ["_law_rows"] (defScope s_law_size) := ⟨rfl, rfl, rfl, by decide +kernel, rfl, by decide +kernel, by decide +kernel⟩
def F_law_size (g_law_size : List PyData → Option PyData) : Rho → Option Out := (fSeq (fSet 1 (f1 gTu (fCons (fC (.int 1)) (fCons (fC (.int 1)) fNil)))) (fSeq (fFor (fV 0) (tgN 2) (fSeq (fIf (f1 gB (f2 gEq (f2 gIx (fV 2) (fC (.int 0))) (fC (.str "grow")))) (fSet 1 (f1 law_times_G (fCons (fV 1) (fCons (f2 gIx (fV 2) (fC (.int 1))) fNil)))) fNext) (fIf (f1 gB (f2 gEq (f2 gIx (fV 2) (fC (.int 0))) (fC (.str "again")))) (fSeq (fSet 3 (f1 g_law_size (fCons (f2 gIx (fV 2) (fC (.int 2))) fNil))) (fFor (f1 gRng1 (fCons (f2 gIx (fV 2) (fC (.int 1))) fNil)) (tgN 4) (fSet 1 (f1 law_times_G (fCons (fV 1) (fCons (fV 3) fNil)))))) fNext))) (fRet (fV 1))))
theorem ok_law_size {P : Program} {w : World} {K : PySem.W.Frag} {mg : Str → Option Value} {base : Heap} {g_law_size : List PyData → Option PyData} (B : Bs w K mg) (T : Tp w K mg) {k : Nat} (hk : 2 ≤ k) (h_law_times : Fc P w K mg base 2 "_law_times" ["_law_one", "_law_other"] law_times_G) (h_law_size : Fc P w K mg base k "_law_size" ["_law_rows"] g_law_size) : Fc P w K mg base (k + 1) "_law_size" ["_law_rows"] (defG 1 5 (F_law_size g_law_size)) := by
  obtain ⟨fd, Fd⟩ := B.defs (d := d_law_size) (mem_fn 66 rfl)
  replace Fd : FnP K "_law_size" "_law_size" s_law_size [] (He.ga K "_law_size") fd := Fd
  refine ⟨He.ga K "_law_size", fd, fnD (k := k) (N := ["_law_rows", "_law_size_here", "_law_row_here", "_law_once", "_law_turn"]) Fd sc_law_size (fun cdv A outer s H E hr => ?_), B.glo (mem_fa 55 rfl), Fd.kp, FunD.bindsN (ps := ["_law_rows"]) Fd fun _ _ _ _ _ _ us hl => match us, hl with | [_], _ => rfl⟩
  exact (dss_cons (ds_set (i := 1) sc_law_size.nd (d_tup (da_cons d_int (da_cons d_int da_nil)))) (dss_cons (ds_for (dv 0) (pg_name (i := 2) sc_law_size.nd rfl (Or.inl rfl)) (tg_name 2) (dss_cons (ds_if (dt_cmp (op_eqD hr.units) o_eq (d_ix (dv 2) d_int) d_str) (dss_one (ds_set (i := 1) sc_law_size.nd (d_call (hj := Nat.le_trans (by decide) hk) h_law_times hr (da_cons (dv 1) (da_cons (d_ix (dv 2) d_int) da_nil))))) dss_nil) (dss_one (ds_if (dt_cmp (op_eqD hr.units) o_eq (d_ix (dv 2) d_int) d_str) (dss_cons (ds_set (i := 3) sc_law_size.nd (d_call (hj := Nat.le_refl _) h_law_size hr (da_cons (d_ix (dv 2) d_int) da_nil))) (dss_one (ds_forR T.z_range (da_cons (d_ix (dv 2) d_int) da_nil) (pg_name (i := 4) sc_law_size.nd rfl (Or.inl rfl)) (tg_name 4) (dss_one (ds_set (i := 1) sc_law_size.nd (d_call (hj := Nat.le_trans (by decide) hk) h_law_times hr (da_cons (dv 1) (da_cons (dv 3) da_nil)))))))) dss_nil)))) (dss_one (ds_ret (dv 1)))))
def law_size_R : Nat → List PyData → Option PyData
  | 0 => fun _ => none
  | n + 1 => defG 1 5 (F_law_size (law_size_R n))
def law_size_G : List PyData → Option PyData := law_size_R 8
theorem okR_law_size {P : Program} {w : World} {K : PySem.W.Frag} {mg : Str → Option Value} {base : Heap} (B : Bs w K mg) (T : Tp w K mg) (h_law_times : Fc P w K mg base 2 "_law_times" ["_law_one", "_law_other"] law_times_G) : ∀ n : Nat, Fc P w K mg base (2 + n) "_law_size" ["_law_rows"] (law_size_R n)
  | 0 => by
    obtain ⟨fd, Fd⟩ := B.defs (d := d_law_size) (mem_fn 66 rfl)
    replace Fd : FnP K "_law_size" "_law_size" s_law_size [] (He.ga K "_law_size") fd := Fd
    exact Fc.zero (B.glo (mem_fa 55 rfl)) Fd.kp (FunD.bindsN (ps := ["_law_rows"]) Fd fun _ _ _ _ _ _ us hl => match us, hl with | [_], _ => rfl)
  | n + 1 => ok_law_size B T (Nat.le_add_right 2 n) h_law_times (okR_law_size B T h_law_times n)
theorem okG_law_size {P : Program} {w : World} {K : PySem.W.Frag} {mg : Str → Option Value} {base : Heap} (B : Bs w K mg) (T : Tp w K mg) (h_law_times : Fc P w K mg base 2 "_law_times" ["_law_one", "_law_other"] law_times_G) : Fc P w K mg base 10 "_law_size" ["_law_rows"] law_size_G := okR_law_size B T h_law_times 8
theorem sc_law_draws : FnScope ["_law_rows", "_law_many", "_law_row_here"] ["_law_rows"] (defScope s_law_draws) := ⟨rfl, rfl, rfl, by decide +kernel, rfl, by decide +kernel, by decide +kernel⟩
def F_law_draws (g_law_draws : List PyData → Option PyData) : Rho → Option Out := (fSeq (fSet 1 (fC (.int 0))) (fSeq (fFor (fV 0) (tgN 2) (fSeq (fIf (f1 gB (f2 gIn (f2 gIx (fV 2) (fC (.int 0))) (f1 gLs (fCons (fC (.str "go")) (fCons (fC (.str "side")) (fCons (fC (.str "dot")) (fCons (fC (.str "quarter")) (fCons (fC (.str "half")) (fCons (fC (.str "arc")) fNil))))))))) (fSet 1 (f2 gAdd (fV 1) (fC (.int 1)))) fNext) (fIf (fAnd (f1 gB (f2 gIn (f2 gIx (fV 2) (fC (.int 0))) (f1 gLs (fCons (fC (.str "again")) (fCons (fC (.str "keep")) (fCons (fC (.str "ever")) fNil)))))) (fAnd (f1 gB (f2 gNe (f2 gIx (fV 2) (fC (.int 1))) (fC (.int 0)))) (f1 gB (f1 g_law_draws (fCons (f2 gIx (fV 2) (f1 gNeg (fC (.int 1)))) fNil))))) (fSet 1 (f2 gAdd (fV 1) (fC (.int 1)))) fNext))) (fRet (f2 gGt (fV 1) (fC (.int 0))))))
theorem ok_law_draws {P : Program} {w : World} {K : PySem.W.Frag} {mg : Str → Option Value} {base : Heap} {g_law_draws : List PyData → Option PyData} (B : Bs w K mg) (T : Tp w K mg) {k : Nat} (hk : 0 ≤ k) (h_law_draws : Fc P w K mg base k "_law_draws" ["_law_rows"] g_law_draws) : Fc P w K mg base (k + 1) "_law_draws" ["_law_rows"] (defG 1 3 (F_law_draws g_law_draws)) := by
  obtain ⟨fd, Fd⟩ := B.defs (d := d_law_draws) (mem_fn 67 rfl)
  replace Fd : FnP K "_law_draws" "_law_draws" s_law_draws [] (He.ga K "_law_draws") fd := Fd
  refine ⟨He.ga K "_law_draws", fd, fnD (k := k) (N := ["_law_rows", "_law_many", "_law_row_here"]) Fd sc_law_draws (fun cdv A outer s H E hr => ?_), B.glo (mem_fa 56 rfl), Fd.kp, FunD.bindsN (ps := ["_law_rows"]) Fd fun _ _ _ _ _ _ us hl => match us, hl with | [_], _ => rfl⟩
  exact (dss_cons (ds_set (i := 1) sc_law_draws.nd d_int) (dss_cons (ds_for (dv 0) (pg_name (i := 2) sc_law_draws.nd rfl (Or.inl rfl)) (tg_name 2) (dss_cons (ds_if (dt_cmp op_in_seq o_in (d_ix (dv 2) d_int) (d_lst (da_cons d_str (da_cons d_str (da_cons d_str (da_cons d_str (da_cons d_str (da_cons d_str da_nil)))))))) (dss_one (ds_set (i := 1) sc_law_draws.nd (d_op op_add o_add (dv 1) d_int))) dss_nil) (dss_one (ds_if (PW.pt (dw_and (dt_cmp op_in_seq o_in (d_ix (dv 2) d_int) (d_lst (da_cons d_str (da_cons d_str (da_cons d_str da_nil))))) (dw_and (dt_cmp (op_neD hr.units) o_ne (d_ix (dv 2) d_int) d_int) (dw_and1 (dt_val (d_call (hj := Nat.le_refl _) h_law_draws hr (da_cons (d_ix (dv 2) (d_neg d_int)) da_nil))))))) (dss_one (ds_set (i := 1) sc_law_draws.nd (d_op op_add o_add (dv 1) d_int))) dss_nil)))) (dss_one (ds_ret (d_cmp op_gt o_gt (dv 1) d_int)))))
def law_draws_R : Nat → List PyData → Option PyData
  | 0 => fun _ => none
  | n + 1 => defG 1 3 (F_law_draws (law_draws_R n))
def law_draws_G : List PyData → Option PyData := law_draws_R 8
theorem okR_law_draws {P : Program} {w : World} {K : PySem.W.Frag} {mg : Str → Option Value} {base : Heap} (B : Bs w K mg) (T : Tp w K mg) : ∀ n : Nat, Fc P w K mg base (0 + n) "_law_draws" ["_law_rows"] (law_draws_R n)
  | 0 => by
    obtain ⟨fd, Fd⟩ := B.defs (d := d_law_draws) (mem_fn 67 rfl)
    replace Fd : FnP K "_law_draws" "_law_draws" s_law_draws [] (He.ga K "_law_draws") fd := Fd
    exact Fc.zero (B.glo (mem_fa 56 rfl)) Fd.kp (FunD.bindsN (ps := ["_law_rows"]) Fd fun _ _ _ _ _ _ us hl => match us, hl with | [_], _ => rfl)
  | n + 1 => ok_law_draws B T (Nat.le_add_right 0 n) (okR_law_draws B T n)
theorem okG_law_draws {P : Program} {w : World} {K : PySem.W.Frag} {mg : Str → Option Value} {base : Heap} (B : Bs w K mg) (T : Tp w K mg) : Fc P w K mg base 8 "_law_draws" ["_law_rows"] law_draws_G := okR_law_draws B T 8
theorem sc_law_done : FnScope ["_law_rows", "_law_many", "_law_row_here"] ["_law_rows"] (defScope s_law_done) := ⟨rfl, rfl, rfl, by decide +kernel, rfl, by decide +kernel, by decide +kernel⟩
def F_law_done (g_law_done : List PyData → Option PyData) : Rho → Option Out := (fSeq (fSet 1 (fC (.int 0))) (fSeq (fFor (fV 0) (tgN 2) (fIf (f1 gB (f2 gEq (f2 gIx (fV 2) (fC (.int 0))) (fC (.str "again")))) (fSet 1 (f2 gAdd (fV 1) (f2 gMul (f2 gIx (fV 2) (fC (.int 1))) (f1 g_law_done (fCons (f2 gIx (fV 2) (fC (.int 2))) fNil))))) (fIf (f1 gB (f2 gIn (f2 gIx (fV 2) (fC (.int 0))) (f1 gLs (fCons (fC (.str "keep")) (fCons (fC (.str "ever")) fNil))))) (fSet 1 (f2 gAdd (fV 1) (f1 g_law_done (fCons (f2 gIx (fV 2) (fC (.int 1))) fNil)))) (fSet 1 (f2 gAdd (fV 1) (fC (.int 1))))))) (fRet (fV 1))))
theorem ok_law_done {P : Program} {w : World} {K : PySem.W.Frag} {mg : Str → Option Value} {base : Heap} {g_law_done : List PyData → Option PyData} (B : Bs w K mg) (T : Tp w K mg) {k : Nat} (hk : 0 ≤ k) (h_law_done : Fc P w K mg base k "_law_done" ["_law_rows"] g_law_done) : Fc P w K mg base (k + 1) "_law_done" ["_law_rows"] (defG 1 3 (F_law_done g_law_done)) := by
  obtain ⟨fd, Fd⟩ := B.defs (d := d_law_done) (mem_fn 69 rfl)
  replace Fd : FnP K "_law_done" "_law_done" s_law_done [] (He.ga K "_law_done") fd := Fd
  refine ⟨He.ga K "_law_done", fd, fnD (k := k) (N := ["_law_rows", "_law_many", "_law_row_here"]) Fd sc_law_done (fun cdv A outer s H E hr => ?_), B.glo (mem_fa 58 rfl), Fd.kp, FunD.bindsN (ps := ["_law_rows"]) Fd fun _ _ _ _ _ _ us hl => match us, hl with | [_], _ => rfl⟩
  exact (dss_cons (ds_set (i := 1) sc_law_done.nd d_int) (dss_cons (ds_for (dv 0) (pg_name (i := 2) sc_law_done.nd rfl (Or.inl rfl)) (tg_name 2) (dss_one (ds_if (dt_cmp (op_eqD hr.units) o_eq (d_ix (dv 2) d_int) d_str) (dss_one (ds_set (i := 1) sc_law_done.nd (d_op op_add o_add (dv 1) (d_op op_mulW o_mul (d_ix (dv 2) d_int) (d_call (hj := Nat.le_refl _) h_law_done hr (da_cons (d_ix (dv 2) d_int) da_nil)))))) (dss_one (ds_if (dt_cmp op_in_seq o_in (d_ix (dv 2) d_int) (d_lst (da_cons d_str (da_cons d_str da_nil)))) (dss_one (ds_set (i := 1) sc_law_done.nd (d_op op_add o_add (dv 1) (d_call (hj := Nat.le_refl _) h_law_done hr (da_cons (d_ix (dv 2) d_int) da_nil))))) (dss_one (ds_set (i := 1) sc_law_done.nd (d_op op_add o_add (dv 1) d_int)))))))) (dss_one (ds_ret (dv 1)))))
def law_done_R : Nat → List PyData → Option PyData
  | 0 => fun _ => none
  | n + 1 => defG 1 3 (F_law_done (law_done_R n))
def law_done_G : List PyData → Option PyData := law_done_R 8
theorem okR_law_done {P : Program} {w : World} {K : PySem.W.Frag} {mg : Str → Option Value} {base : Heap} (B : Bs w K mg) (T : Tp w K mg) : ∀ n : Nat, Fc P w K mg base (0 + n) "_law_done" ["_law_rows"] (law_done_R n)
  | 0 => by
    obtain ⟨fd, Fd⟩ := B.defs (d := d_law_done) (mem_fn 69 rfl)
    replace Fd : FnP K "_law_done" "_law_done" s_law_done [] (He.ga K "_law_done") fd := Fd
    exact Fc.zero (B.glo (mem_fa 58 rfl)) Fd.kp (FunD.bindsN (ps := ["_law_rows"]) Fd fun _ _ _ _ _ _ us hl => match us, hl with | [_], _ => rfl)
  | n + 1 => ok_law_done B T (Nat.le_add_right 0 n) (okR_law_done B T n)
theorem okG_law_done {P : Program} {w : World} {K : PySem.W.Frag} {mg : Str → Option Value} {base : Heap} (B : Bs w K mg) (T : Tp w K mg) : Fc P w K mg base 8 "_law_done" ["_law_rows"] law_done_G := okR_law_done B T 8
theorem sc_law_is_endless : FnScope ["_law_rows", "_law_size_here"] ["_law_rows"] (defScope s_law_is_endless) := ⟨rfl, rfl, rfl, by decide +kernel, rfl, by decide +kernel, by decide +kernel⟩
def F_law_is_endless : Rho → Option Out := (fSeq (fIf (f1 gB (f2 gGt (f1 law_done_G (fCons (fV 0) fNil)) (fC (.int 300)))) (fRet (fC (.bool false))) fNext) (fSeq (fSet 1 (f1 law_size_G (fCons (fV 0) fNil))) (fRet (fAndV (fOrV (f2 gEq (fV 1) (f1 gTu (fCons (fC (.int 1)) (fCons (fC (.int 1)) fNil)))) (f2 gLe (f2 gMul (fC (.int 4)) (f2 gIx (fV 1) (fC (.int 0)))) (f2 gMul (fC (.int 3)) (f2 gIx (fV 1) (fC (.int 1)))))) (f1 law_draws_G (fCons (fV 0) fNil))))))
def law_is_endless_G : List PyData → Option PyData := defG 1 2 F_law_is_endless
theorem ok_law_is_endless {P : Program} {w : World} {K : PySem.W.Frag} {mg : Str → Option Value} {base : Heap} (B : Bs w K mg) (T : Tp w K mg) (h_law_draws : Fc P w K mg base 8 "_law_draws" ["_law_rows"] law_draws_G) (h_law_size : Fc P w K mg base 10 "_law_size" ["_law_rows"] law_size_G) (h_law_done : Fc P w K mg base 8 "_law_done" ["_law_rows"] law_done_G) : Fc P w K mg base 11 "_law_is_endless" ["_law_rows"] law_is_endless_G := by
  obtain ⟨fd, Fd⟩ := B.defs (d := d_law_is_endless) (mem_fn 68 rfl)
  replace Fd : FnP K "_law_is_endless" "_law_is_endless" s_law_is_endless [] (He.ga K "_law_is_endless") fd := Fd
  refine ⟨He.ga K "_law_is_endless", fd, fnD (k := 10) (N := ["_law_rows", "_law_size_here"]) Fd sc_law_is_endless (fun cdv A outer s H E hr => ?_), B.glo (mem_fa 57 rfl), Fd.kp, FunD.bindsN (ps := ["_law_rows"]) Fd fun _ _ _ _ _ _ us hl => match us, hl with | [_], _ => rfl⟩
  exact (dss_cons (ds_if (dt_cmp op_gt o_gt (d_call h_law_done hr (da_cons (dv 0) da_nil)) d_int) (dss_one (ds_ret d_bl)) dss_nil) (dss_cons (ds_set (i := 1) sc_law_is_endless.nd (d_call h_law_size hr (da_cons (dv 0) da_nil))) (dss_one (ds_ret (d_and (d_or (d_cmp (op_eqD hr.units) o_eq (dv 1) (d_tup (da_cons d_int (da_cons d_int da_nil)))) (d_one (d_cmp op_le o_le (d_op op_mulW o_mul d_int (d_ix (dv 1) d_int)) (d_op op_mulW o_mul d_int (d_ix (dv 1) d_int))))) (d_one (d_call h_law_draws hr (da_cons (dv 0) da_nil))))))))
theorem sc_law_numbers : FnScope ["_law_rows", "_law_many", "_law_row_here"] ["_law_rows"] (defScope s_law_numbers) := ⟨rfl, rfl, rfl, by decide +kernel, rfl, by decide +kernel, by decide +kernel⟩
def F_law_numbers (g_law_numbers : List PyData → Option PyData) : Rho → Option Out := (fSeq (fSet 1 (fC (.int 0))) (fSeq (fFor (fV 0) (tgN 2) (fSeq (fSet 1 (f2 gAdd (fV 1) (fC (.int 1)))) (fIf (f1 gB (f2 gIn (f2 gIx (fV 2) (fC (.int 0))) (f1 gLs (fCons (fC (.str "again")) (fCons (fC (.str "keep")) (fCons (fC (.str "ever")) fNil)))))) (fSet 1 (f2 gAdd (f2 gAdd (fV 1) (fC (.int 1))) (f1 g_law_numbers (fCons (f2 gIx (fV 2) (f1 gNeg (fC (.int 1)))) fNil)))) fNext))) (fRet (fV 1))))
theorem ok_law_numbers {P : Program} {w : World} {K : PySem.W.Frag} {mg : Str → Option Value} {base : Heap} {g_law_numbers : List PyData → Option PyData} (B : Bs w K mg) (T : Tp w K mg) {k : Nat} (hk : 0 ≤ k) (h_law_numbers : Fc P w K mg base k "_law_numbers" ["_law_rows"] g_law_numbers) : Fc P w K mg base (k + 1) "_law_numbers" ["_law_rows"] (defG 1 3 (F_law_numbers g_law_numbers)) := by
  obtain ⟨fd, Fd⟩ := B.defs (d := d_law_numbers) (mem_fn 72 rfl)
  replace Fd : FnP K "_law_numbers" "_law_numbers" s_law_numbers [] (He.ga K "_law_numbers") fd := Fd
  refine ⟨He.ga K "_law_numbers", fd, fnD (k := k) (N := ["_law_rows", "_law_many", "_law_row_here"]) Fd sc_law_numbers (fun cdv A outer s H E hr => ?_), B.glo (mem_fa 61 rfl), Fd.kp, FunD.bindsN (ps := ["_law_rows"]) Fd fun _ _ _ _ _ _ us hl => match us, hl with | [_], _ => rfl⟩
  exact (dss_cons (ds_set (i := 1) sc_law_numbers.nd d_int) (dss_cons (ds_for (dv 0) (pg_name (i := 2) sc_law_numbers.nd rfl (Or.inl rfl)) (tg_name 2) (dss_cons (ds_set (i := 1) sc_law_numbers.nd (d_op op_add o_add (dv 1) d_int)) (dss_one (ds_if (dt_cmp op_in_seq o_in (d_ix (dv 2) d_int) (d_lst (da_cons d_str (da_cons d_str (da_cons d_str da_nil))))) (dss_one (ds_set (i := 1) sc_law_numbers.nd (d_op op_add o_add (d_op op_add o_add (dv 1) d_int) (d_call (hj := Nat.le_refl _) h_law_numbers hr (da_cons (d_ix (dv 2) (d_neg d_int)) da_nil))))) dss_nil)))) (dss_one (ds_ret (dv 1)))))
def law_numbers_R : Nat → List PyData → Option PyData
  | 0 => fun _ => none
  | n + 1 => defG 1 3 (F_law_numbers (law_numbers_R n))
def law_numbers_G : List PyData → Option PyData := law_numbers_R 8
theorem okR_law_numbers {P : Program} {w : World} {K : PySem.W.Frag} {mg : Str → Option Value} {base : Heap} (B : Bs w K mg) (T : Tp w K mg) : ∀ n : Nat, Fc P w K mg base (0 + n) "_law_numbers" ["_law_rows"] (law_numbers_R n)
  | 0 => by
    obtain ⟨fd, Fd⟩ := B.defs (d := d_law_numbers) (mem_fn 72 rfl)
    replace Fd : FnP K "_law_numbers" "_law_numbers" s_law_numbers [] (He.ga K "_law_numbers") fd := Fd
    exact Fc.zero (B.glo (mem_fa 61 rfl)) Fd.kp (FunD.bindsN (ps := ["_law_rows"]) Fd fun _ _ _ _ _ _ us hl => match us, hl with | [_], _ => rfl)
  | n + 1 => ok_law_numbers B T (Nat.le_add_right 0 n) (okR_law_numbers B T n)
theorem okG_law_numbers {P : Program} {w : World} {K : PySem.W.Frag} {mg : Str → Option Value} {base : Heap} (B : Bs w K mg) (T : Tp w K mg) : Fc P w K mg base 8 "_law_numbers" ["_law_rows"] law_numbers_G := okR_law_numbers B T 8
theorem sc_law_led_on : FnScope ["_law_frame", "_law_number", "_law_some", "_law_piece", "_law_row_here", "_law_rounds"] ["_law_frame", "_law_number", "_law_some"] (defScope s_law_led_on) := ⟨rfl, rfl, rfl, by decide +kernel, rfl, by decide +kernel, by decide +kernel⟩
def F_law_led_on : Rho → Option Out := (fRet (fLc [3, 4, 5] (tgT [3, 4, 5]) (fun _ => some true) (f1 gTu (fCons (f1 led_piece_G (fCons (fV 0) (fCons (fV 3) fNil))) (fCons (f2 gAdd (fV 1) (fV 4)) (fCons (fV 5) fNil)))) (f1 itL (fV 2))))
def law_led_on_G : List PyData → Option PyData := defG 3 6 F_law_led_on
theorem ok_law_led_on {P : Program} {w : World} {K : PySem.W.Frag} {mg : Str → Option Value} {base : Heap} (B : Bs w K mg) (T : Tp w K mg) (h_led_piece : Fc P w K mg base 6 "led_piece" ["frame", "piece"] led_piece_G) : Fc P w K mg base 7 "_law_led_on" ["_law_frame", "_law_number", "_law_some"] law_led_on_G := by
  obtain ⟨fd, Fd⟩ := B.defs (d := d_law_led_on) (mem_fn 73 rfl)
  replace Fd : FnP K "_law_led_on" "_law_led_on" s_law_led_on [] (He.ga K "_law_led_on") fd := Fd
  refine ⟨He.ga K "_law_led_on", fd, fnD (k := 6) (N := ["_law_frame", "_law_number", "_law_some", "_law_piece", "_law_row_here", "_law_rounds"]) Fd sc_law_led_on (fun cdv A outer s H E hr => ?_), B.glo (mem_fa 62 rfl), Fd.kp, FunD.bindsN (ps := ["_law_frame", "_law_number", "_law_some"]) Fd fun _ _ _ _ _ _ us hl => match us, hl with | [_, _, _], _ => rfl⟩
  exact (dss_one (ds_ret (d_lc (own := [("_law_piece", 3), ("_law_row_here", 4), ("_law_rounds", 5)]) sc_law_led_on.nd  (li_L (dv 2)) (blkOk_by (own := [("_law_piece", 3), ("_law_row_here", 4), ("_law_rounds", 5)]) (N := ["_law_frame", "_law_number", "_law_some", "_law_piece", "_law_row_here", "_law_rounds"]) (sc := defScope s_law_led_on) (by decide +kernel)) (fun _ _ _ _ _ => pg_tup rfl (pgs_cons (pg_name (i := 3) sc_law_led_on.nd rfl (Or.inl rfl)) (pgs_cons (pg_name (i := 4) sc_law_led_on.nd rfl (Or.inl rfl)) (pgs_cons (pg_name (i := 5) sc_law_led_on.nd rfl (Or.inl rfl)) pgs_nil)))) (tl_tup (by decide)) (fun _ _ _ _ _ => dts_nil) (fun _ _ _ _ _ => (d_tup (da_cons (d_call h_led_piece hr (da_cons (dv 0) (da_cons (dv 3) da_nil))) (da_cons (d_op op_add o_add (dv 1) (dv 4)) (da_cons (dv 5) da_nil))))))))
end Arc
set_option Elab.async false
set_option linter.all false
set_option maxRecDepth 100000
set_option maxHeartbeats 4000000
namespace Arc
open PySem L2
theorem sc_law_row : FnScope ["_law_cell", "_law_many", "_law_found", "_law_number", "_law_k"] ["_law_cell", "_law_many"] (defScope s_law_row) := ⟨rfl, rfl, rfl, by decide +kernel, rfl, by decide +kernel, by decide +kernel⟩
/-! ### the row of a cell -/
def rowSmall (c : Int) : Bool := decide ((if c < 0 then -c else c) < 10 ^ 18)
def rowStart (c : Int) : Int := if rowSmall c = true then c % 2147483647 + 1 else c
/-- the number ahead of turn k, and what turn k puts in -/
def rowNum (c : Int) : Nat → Int
  | 0 => rowStart c
  | k + 1 => if rowSmall c = true then rowNum c k * 48271 % 2147483647 else rowNum c k / 1000000
def rowOut (c : Int) (k : Nat) : Int := if rowSmall c = true then (rowNum c (k + 1) * rowNum c (k + 1) + 69621 * rowNum c (k + 1) + (k : Int)) % 2147483629 / 7 % 1000000 else rowNum c k % 1000000
def rowL (c : Int) (n : Nat) : List Int := (List.range n).map (rowOut c)
def law_row_G : List PyData → Option PyData
  | [.int c, .int n] => if 0 ≤ n ∧ n ≤ 1000 then some (.list ((rowL c n.toNat).map .int)) else none
  | _ => none
theorem rowNum_small {c : Int} (h : rowSmall c = true) : ∀ k : Nat, 0 ≤ rowNum c k ∧ rowNum c k ≤ 2147483647
  | 0 => by
    unfold rowNum rowStart
    rw [if_pos h]
    have := Int.emod_nonneg c (show (2147483647 : Int) ≠ 0 by decide)
    have := Int.emod_lt_of_pos c (show (0 : Int) < 2147483647 by decide)
    omega
  | k + 1 => by
    unfold rowNum
    rw [if_pos h]
    have := Int.emod_nonneg (rowNum c k * 48271) (show (2147483647 : Int) ≠ 0 by decide)
    have := Int.emod_lt_of_pos (rowNum c k * 48271) (show (0 : Int) < 2147483647 by decide)
    omega
theorem cmul_small {i j : Int} (h0 : 0 ≤ i) (h1 : i ≤ 2147483647) (h2 : 0 ≤ j) (h3 : j ≤ 2147483647) : CMulW i j :=
  wide_mul (a := 40) (b := 40) (by omega) (by omega) (by decide) (by decide) (by decide)
theorem is_ints {K : PySem.W.Frag} {H : Hp} : ∀ ns : List Int, IsAll K H (ns.map V.int) (ns.map .int)
  | [] => .nil
  | n :: ns => .cons (.int n) (is_ints ns)
theorem rowL_len (c : Int) (n : Nat) : (rowL c n).length = n := by
  unfold rowL
  simp
theorem rowL_succ (c : Int) (n : Nat) : rowL c (n + 1) = rowL c n ++ [rowOut c n] := by
  unfold rowL
  rw [List.range_succ, List.map_append]
  rfl
section
variable {K : PySem.W.Frag} {H : Hp} {σ : L2.St} {ρ : Rho}
theorem EO.nil : EO K H [] [] := ⟨rfl, fun i d e => by simp at e⟩
theorem EO.skip {o : Option V} (h : EO K H σ ρ) : EO K H (o :: σ) (none :: ρ) := ⟨by simp [h.len], fun i d e => by
  cases i with
  | zero => simp at e
  | succ i =>
    obtain ⟨v, h1, h2⟩ := h.at_ i d (by simpa using e)
    exact ⟨v, by simpa using h1, h2⟩⟩
theorem EO.keep {v : V} {d : PyData} (k : Is K H v d) (h : EO K H σ ρ) : EO K H (some v :: σ) (some d :: ρ) := ⟨by simp [h.len], fun i d' e => by
  cases i with
  | zero =>
    simp at e
    subst e
    exact ⟨v, rfl, k⟩
  | succ i =>
    obtain ⟨v, h1, h2⟩ := h.at_ i d' (by simpa using e)
    exact ⟨v, by simpa using h1, h2⟩⟩
end
theorem ok_law_row {P : Program} {w : World} {K : PySem.W.Frag} {mg : Str → Option Value} {base : Heap} (B : Bs w K mg) (T : Tp w K mg) : Fc P w K mg base 1 "_law_row" ["_law_cell", "_law_many"] law_row_G := by
  obtain ⟨fd, Fd⟩ := B.defs (d := d_law_row) (mem_fn 59 rfl)
  replace Fd : FnP K "_law_row" "_law_row" s_law_row [] (He.ga K "_law_row") fd := Fd
  refine ⟨He.ga K "_law_row", fd, ?_, B.glo (mem_fa 48 rfl), Fd.kp, FunD.bindsN (ps := ["_law_cell", "_law_many"]) Fd fun _ _ _ _ _ _ us hl => match us, hl with | [_, _], _ => rfl⟩
  refine Fd.ok (k := 0) sc_law_row (fun vs H Q E h => ?_) (fun cdv A outer s H vs Q E hr h => ⟨_, PSs.nox (pss_cons (ps_set (i := 2) sc_law_row.nd rfl (Or.inl rfl) (pe_lst pa_nil)) (pss_cons (ps_set (i := 3) sc_law_row.nd rfl (Or.inl rfl) (dv 0)) (pss_cons (ps_if (dt_cmp op_lt o_lt (d_bi call_abs c_abs T.z_abs b_abs (da_cons (dv 0) da_nil)) (d_op op_pow o_pow d_int d_int)) (pss_one (ps_set (i := 3) sc_law_row.nd rfl (Or.inl rfl) (d_op op_add o_add (d_op op_mod o_mod (dv 0) d_int) d_int))) pss_nil) (pss_cons (ps_for PassesOwn.never rfl (pi_range1 rfl T.z_range (pa_cons (dv 1) pa_nil)) (pg_name (i := 4) sc_law_row.nd rfl (Or.inl rfl)) (pss_one (ps_if (dt_cmp op_lt o_lt (d_bi call_abs c_abs T.z_abs b_abs (da_cons (dv 0) da_nil)) (d_op op_pow o_pow d_int d_int)) (pss_cons (ps_set (i := 3) sc_law_row.nd rfl (Or.inl rfl) (d_op op_mod o_mod (d_op op_mulW o_mul (dv 3) d_int) d_int)) (pss_one (ps_expr (pe_bm PySem.F.plainAttrs_list PySem.F.slot_list_append PySem.F.type_list_append mt_append (pv 2) (pa_cons (d_op op_mod o_mod (d_op op_fdivW o_div (d_op op_mod o_mod (d_op op_add o_add (d_op op_add o_add (d_op op_mulW o_mul (dv 3) (dv 3)) (d_op op_mulW o_mul d_int (dv 3))) (dv 4)) d_int) d_int) (d_op op_pow o_pow d_int d_int)) pa_nil))))) (pss_cons (ps_expr (pe_bm PySem.F.plainAttrs_list PySem.F.slot_list_append PySem.F.type_list_append mt_append (pv 2) (pa_cons (d_op op_mod o_mod (dv 3) (d_op op_pow o_pow d_int d_int)) pa_nil))) (pss_one (ps_set (i := 3) sc_law_row.nd rfl (Or.inl rfl) (d_op op_fdivW o_div (dv 3) (d_op op_pow o_pow d_int d_int)))))))) (pss_one (ps_ret (pv 2))))))), ?_⟩)
  · obtain ⟨ds, r, a, b, c⟩ := h
    unfold law_row_G at b
    split at b
    · rw [a.length]
      rfl
    · cases b
  · obtain ⟨ds, r, a, b, q⟩ := h
    unfold law_row_G at b
    split at b
    · rename_i c n
      split at b
      · rename_i hn
        cases b
        cases a with
        | cons h1 a =>
          cases a with
          | cons h2 a =>
            cases a
            obtain rfl := h1.intI
            obtain rfl := h2.intI
            have ePow : CPow 10 18 := ⟨by decide, by decide, by decide⟩
            have eTest : ∀ (r2 r3 r4 : Option PyData), f1 gB (f2 gLt (f1 (on1 gAbs) (fCons (fV 0) fNil)) (f2 gPow (fC (.int 10)) (fC (.int 18)))) [some (.int c), r2, none, r3, r4] = some (rowSmall c) := fun r2 r3 r4 => by
              simp [f1, f2, fCons, fNil, fV, fC, on1, gAbs, gPow, ePow, gLt, gB, rowSmall]
            refine ⟨Nat.zero_le _, fun l hl => ?_⟩
            refine ⟨[some (.int c), some (.int n), none, none, none], .int c, .keep (.int c) (.keep (.int n) (.skip (.skip (.skip .nil)))), rfl, fun v H1 s1 i1 => ?_⟩
            obtain rfl := i1.intI
            -- the start
            have start : ∀ (Nx : L2.St → Hp → Prop) (R : VK) (H2 : Hp), Same H1 H2 → (∀ H3, Same H1 H3 → Nx [some (.int c), some (.int n), some (.ref l), some (.int (rowStart c)), none] H3) →
                tIfS (tDT K (f1 gB (f2 gLt (f1 (on1 gAbs) (fCons (fV 0) fNil)) (f2 gPow (fC (.int 10)) (fC (.int 18)))))) (tAsg (tD K (f2 gAdd (f2 gMod (fV 0) (fC (.int 2147483647))) (fC (.int 1)))) (gName 3)) tNext { nx := Nx, rt := R } [some (.int c), some (.int n), some (.ref l), some (.int c), none] H2 := fun Nx R H2 s2 k => by
              refine ⟨[some (.int c), some (.int n), none, some (.int c), none], rowSmall c, .keep (.int c) (.keep (.int n) (.skip (.keep (.int c) (.skip .nil)))), eTest _ _ _, fun H3 s3 => ?_⟩
              cases hs : rowSmall c with
              | true =>
                have e2 : rowStart c = c % 2147483647 + 1 := by unfold rowStart; rw [hs]; rfl
                rw [e2] at k
                exact iteT ⟨[some (.int c), some (.int n), none, some (.int c), none], .int (c % 2147483647 + 1), .keep (.int c) (.keep (.int n) (.skip (.keep (.int c) (.skip .nil)))), rfl, fun v H4 s4 i4 => by
                  obtain rfl := i4.intI
                  exact k H4 (s2.trans (s3.trans s4))⟩
              | false =>
                have e2 : rowStart c = c := by unfold rowStart; rw [hs]; rfl
                rw [e2] at k
                exact iteF (k H3 (s2.trans s3))
            refine start _ _ H1 (Same.refl H1) fun H2 s2 => ?_
            have hl2 : H2 l = some (.lst []) := s2 _ _ (s1 _ _ upd_same)
            have sm2 : Same H H2 := (same_new hl).trans (s1.trans s2)
            refine ⟨[some (.int c), some (.int n), none, none, none], .int n, .keep (.int c) (.keep (.int n) (.skip (.skip (.skip .nil)))), rfl, fun v H3 s3 i3 => ?_⟩
            obtain rfl := i3.intI
            refine ⟨n, rfl, by omega, by omega, for_range (lo := 0) (n := n.toNat) (fun i σ' H' => ∃ z : Option V, σ' = [some (.int c), some (.int n), some (.ref l), some (.int (rowNum c i)), z] ∧ Same H H' ∧ H' l = some (.lst ((rowL c i).map V.int)))
              ⟨none, rfl, sm2.trans s3, s3 _ _ hl2⟩ ?_ ?_⟩
            · rintro i σ' H' hi ⟨z, rfl, s5, hl5⟩
              have hi2 : i < n.toNat := hi
              have e0 : (0 : Int) + (i : Int) = (i : Int) := Int.zero_add _
              refine ⟨[some (.int c), some (.int n), none, some (.int (rowNum c i)), some (.int (0 + (i : Int)))], rowSmall c, .keep (.int c) (.keep (.int n) (.skip (.keep (.int _) (.keep (.int _) .nil)))), eTest _ _ _, fun H6 s6 => ?_⟩
              have hl6 := s6 _ _ hl5
              cases hs : rowSmall c with
              | true =>
                have hb := rowNum_small hs i
                have hb1 := rowNum_small hs (i + 1)
                have en : rowNum c (i + 1) = rowNum c i * 48271 % 2147483647 := by
                  show (if rowSmall c = true then _ else _) = _
                  rw [if_pos hs]
                have c1 : CMulW (rowNum c i) 48271 := cmul_small hb.1 hb.2 (by decide) (by decide)
                have c2 : CMulW (rowNum c (i + 1)) (rowNum c (i + 1)) := cmul_small hb1.1 hb1.2 hb1.1 hb1.2
                have c3 : CMulW 69621 (rowNum c (i + 1)) := cmul_small (by decide) (by decide) hb1.1 hb1.2
                have c4 : ∀ x : Int, CDivW x 7 := fun x => ⟨by decide, by decide⟩
                have c5 : CPow 10 6 := ⟨by decide, by decide, by decide⟩
                refine iteT ⟨[some (.int c), some (.int n), none, some (.int (rowNum c i)), some (.int (0 + (i : Int)))], .int (rowNum c (i + 1)), .keep (.int c) (.keep (.int n) (.skip (.keep (.int _) (.keep (.int _) .nil)))), ?_, fun v H7 s7 i7 => ?_⟩
                · simp [f2, fV, fC, gMul, gMod, c1, en]
                · obtain rfl := i7.intI
                  have hl7 := s7 _ _ hl6
                  refine ⟨_, rfl, .inl ⟨rfl, _, SqL.of hl7⟩, ?_⟩
                  refine ⟨[some (.int c), some (.int n), none, some (.int (rowNum c (i + 1))), some (.int (0 + (i : Int)))], .int (rowOut c i), .keep (.int c) (.keep (.int n) (.skip (.keep (.int _) (.keep (.int _) .nil)))), ?_, fun v H8 s8 i8 => ?_⟩
                  · simp [f2, fV, fC, gMul, gMod, gAdd, gDiv, gPow, c2, c3, c4, c5, rowOut, hs]
                  · obtain rfl := i8.intI
                    refine ⟨l, _, _, rfl, rfl, s8 _ _ hl7, ?_, ?_⟩
                    · rw [List.length_map, rowL_len]
                      exact Nat.lt_of_lt_of_le (by omega : i < 1000) (by decide)
                    · refine ⟨some (.int (0 + (i : Int))), rfl, same_mut (s5.trans (s6.trans (s7.trans s8))) hl, ?_⟩
                      rw [upd_same, rowL_succ, List.map_append]
                      rfl
              | false =>
                have en : rowNum c (i + 1) = rowNum c i / 1000000 := by
                  show (if rowSmall c = true then _ else _) = _
                  rw [hs]
                  rfl
                have c4 : ∀ x : Int, CDivW x 1000000 := fun x => ⟨by decide, by decide⟩
                have c5 : CPow 10 6 := ⟨by decide, by decide, by decide⟩
                refine iteF ?_
                refine ⟨_, rfl, .inl ⟨rfl, _, SqL.of hl6⟩, ?_⟩
                refine ⟨[some (.int c), some (.int n), none, some (.int (rowNum c i)), some (.int (0 + (i : Int)))], .int (rowOut c i), .keep (.int c) (.keep (.int n) (.skip (.keep (.int _) (.keep (.int _) .nil)))), ?_, fun v H8 s8 i8 => ?_⟩
                · simp [f2, fV, fC, gMod, gPow, c5, rowOut, hs]
                · obtain rfl := i8.intI
                  refine ⟨l, _, _, rfl, rfl, s8 _ _ hl6, ?_, ?_⟩
                  · rw [List.length_map, rowL_len]
                    exact Nat.lt_of_lt_of_le (by omega : i < 1000) (by decide)
                  · refine ⟨[some (.int c), some (.int n), none, some (.int (rowNum c i)), some (.int (0 + (i : Int)))], .int (rowNum c (i + 1)), .keep (.int c) (.keep (.int n) (.skip (.keep (.int _) (.keep (.int _) .nil)))), ?_, fun v H9 s9 i9 => ?_⟩
                    · simp [f2, fV, fC, gDiv, gPow, c4, c5, en]
                    · obtain rfl := i9.intI
                      refine ⟨some (.int (0 + (i : Int))), rfl, (same_mut (s5.trans (s6.trans s8)) hl).trans s9, ?_⟩
                      have z := s9 _ _ (upd_same (H := H8) (a := l) (o := .lst ((rowL c i).map V.int ++ [V.int (rowOut c i)])))
                      rw [z, rowL_succ, List.map_append]
                      rfl
            · rintro σ' H' ⟨z, rfl, s5, hl5⟩
              exact ⟨_, rfl, q _ H' s5 (.lst hl5 (is_ints _))⟩
      · cases b
    · cases b
end Arc
set_option Elab.async false
set_option linter.all false
set_option maxRecDepth 100000
set_option maxHeartbeats 4000000
namespace Arc
open PySem L2
theorem sc_lines_of : FnScope ["rows", "lines", "row", "head", "more", "number"] ["rows"] (defScope s_lines_of) := ⟨rfl, rfl, rfl, by decide +kernel, rfl, by decide +kernel, by decide +kernel⟩
def blkF (i : Nat) : Rho → Option PyData := f2 gIn (f2 gIx (fV i) (fC (.int 0))) (f1 gTu (fCons (fC (.str "again")) (fCons (fC (.str "keep")) (fCons (fC (.str "ever")) fNil))))
def lastF (i : Nat) : Rho → Option PyData := f2 gSub (f1 (on1 gLen) (fCons (fV i) fNil)) (fC (.int 1))
def lnHead : Rho → Option PyData := fSl (fV 2) (fun _ => some none) (f1 gI (lastF 2))
def lnMore (g : List PyData → Option PyData) : Rho → Option PyData := f1 g (fCons (f2 gIx (fV 2) (lastF 2)) fNil)
def lnLine : Rho → Option PyData := f2 gJoin (fC (.str " ")) (f2 gCatL (f1 gLs (fCons (f2 gIx (fV 2) (fC (.int 0))) fNil)) (fLc [5] (tgN 5) (fun _ => some true) (f1 number_text_G (fCons (fV 5) fNil)) (f1 itT (fSl (fV 3) (f1 gI (fC (.int 1))) (fun _ => some none)))))
def rho2 (d : PyData) (h : Option PyData) : Rho := [none, none, some d, h, none, none]
def strL : PyData → Option (List Str)
  | .list l => asStrs l
  | _ => none
def strO : PyData → Option Str
  | .str z => some z
  | _ => none
/-- the head of a row and the lines behind its own -/
def lnParts (g : List PyData → Option PyData) (d : PyData) : Option (PyData × List Str) :=
  (f1 gB (blkF 2) (rho2 d none)).bind fun b => if b = true then (lnHead (rho2 d none)).bind fun h => ((lnMore g (rho2 d (some h))).bind strL).bind fun ts => some (h, ts ++ [("end" : Str)])
    else some (d, [])
/-- the lines of a row -/
def lnRow (g : List PyData → Option PyData) (d : PyData) : Option (List Str) :=
  (lnParts g d).bind fun p => ((lnLine (rho2 d (some p.1))).bind strO).map (· :: p.2)
def lnAll (g : List PyData → Option PyData) : List PyData → Option (List Str)
  | [] => some []
  | d :: r => (lnRow g d).bind fun a => (lnAll g r).map (a ++ ·)
def lines_of_R : Nat → List PyData → Option PyData
  | 0 => fun _ => none
  | n + 1 => fun ds => match ds with
    | [.tuple rows] => (lnAll (lines_of_R n) rows).bind fun out => if out.length ≤ 100000 then some (.list (strsD out)) else none
    | _ => none
def lines_of_G : List PyData → Option PyData := lines_of_R 8
theorem strs_map (ys : List Str) : (ys.map V.str).length = ys.length := List.length_map _
theorem ok_lines_of {P : Program} {w : World} {K : PySem.W.Frag} {mg : Str → Option Value} {base : Heap} (B : Bs w K mg) (T : Tp w K mg) {j k n : Nat} (hj_number_text : j ≤ k) (h_number_text : Fc P w K mg base j "number_text" ["number"] number_text_G) (h_lines_of : Fc P w K mg base k "lines_of" ["rows"] (lines_of_R n)) : Fc P w K mg base (k + 1) "lines_of" ["rows"] (lines_of_R (n + 1)) := by
  have hj_lines_of : k ≤ k := Nat.le_refl k
  obtain ⟨fd, Fd⟩ := B.defs (d := d_lines_of) (mem_fn 49 rfl)
  replace Fd : FnP K "lines_of" "lines_of" s_lines_of [] (He.ga K "lines_of") fd := Fd
  refine ⟨He.ga K "lines_of", fd, ?_, B.glo (mem_fa 42 rfl), Fd.kp, FunD.bindsN (ps := ["rows"]) Fd fun _ _ _ _ _ _ us hl => match us, hl with | [_], _ => rfl⟩
  refine Fd.ok (k := k) sc_lines_of (fun vs H Q E h => ?_) (fun cdv A outer s H vs Q E hr h => ⟨_, PSs.nox (pss_cons (ps_set (i := 1) sc_lines_of.nd rfl (Or.inl rfl) (pe_lst pa_nil)) (pss_cons (ps_for PassesOwn.never rfl (pi_tup (pv 0)) (pg_name (i := 2) sc_lines_of.nd rfl (Or.inl rfl)) (pss_cons (ps_if (dt_cmp op_in_seq o_in (d_ix (dv 2) d_int) (d_tup (da_cons d_str (da_cons d_str (da_cons d_str da_nil))))) (pss_cons (ps_set (i := 3) sc_lines_of.nd rfl (Or.inl rfl) (d_sl (dv 2) do_none (do_some (d_op op_sub o_sub (d_bi call_len c_len T.z_len b_len (da_cons (dv 2) da_nil)) d_int)))) (pss_one (ps_set (i := 4) sc_lines_of.nd rfl (Or.inl rfl) (pe_op op_cat (d_call (hj := hj_lines_of) h_lines_of hr (da_cons (d_ix (dv 2) (d_op op_sub o_sub (d_bi call_len c_len T.z_len b_len (da_cons (dv 2) da_nil)) d_int)) da_nil)) (d_lst (da_cons d_str da_nil)))))) (pss_cons (ps_set (i := 3) sc_lines_of.nd rfl (Or.inl rfl) (dv 2)) (pss_one (ps_set (i := 4) sc_lines_of.nd rfl (Or.inl rfl) (pe_lst pa_nil))))) (pss_cons (ps_expr (pe_bm PySem.F.plainAttrs_list PySem.F.slot_list_append PySem.F.type_list_append mt_append (pv 1) (pa_cons (d_join d_str (d_op op_cat o_catL (d_lst (da_cons (d_ix (dv 2) d_int) da_nil)) (d_lc (own := [("number", 5)]) sc_lines_of.nd  (li_T (d_sl (dv 3) (do_some d_int) do_none)) (blkOk_by (own := [("number", 5)]) (N := ["rows", "lines", "row", "head", "more", "number"]) (sc := defScope s_lines_of) (by decide +kernel)) (fun _ _ _ _ _ => pg_name (i := 5) sc_lines_of.nd rfl (Or.inl rfl)) (tl_name (by decide)) (fun _ _ _ _ _ => dts_nil) (fun _ _ _ _ _ => (d_call (hj := hj_number_text) h_number_text hr (da_cons (dv 5) da_nil)))))) pa_nil))) (pss_one (ps_expr (pe_bm PySem.F.plainAttrs_list PySem.F.slot_list_extend PySem.F.type_list_extend mt_extend (pv 1) (pa_cons (pv 4) pa_nil))))))) (pss_one (ps_ret (pv 1))))), ?_⟩)
  · obtain ⟨ds, r, a, b, c⟩ := h
    unfold lines_of_R at b
    split at b
    · rw [a.length]
      rfl
    · cases b
  · obtain ⟨ds, r, a, b, q⟩ := h
    unfold lines_of_R at b
    split at b
    · rename_i rows
      obtain ⟨out, e1, e2⟩ := Option.bind_eq_some_iff.mp b
      split at e2
      · rename_i hout
        cases e2
        cases a with
        | cons h1 a =>
          cases a
          obtain ⟨ar, xs, ev, hx, hd⟩ := h1.tupI
          subst ev
          refine ⟨Nat.zero_le _, fun l hl => ?_⟩
          have sm0 := same_new (o := .lst []) hl
          refine ⟨_, rfl, ar, rfl, ⟨xs, Same.sqT sm0 hx⟩, for_tup (xs := xs) (fun i σ' H' => ∃ o2 o3 o4 o5 acc rest, σ' = [some (.ref ar), some (.ref l), o2, o3, o4, o5] ∧ Same H H' ∧ H' l = some (.lst (acc.map V.str)) ∧ lnAll (lines_of_R n) (rows.drop i) = some rest ∧ acc ++ rest = out)
            ⟨none, none, none, none, [], out, rfl, sm0, upd_same, by rw [List.drop_zero]; exact e1, rfl⟩ (fun i σ' H' _ p => ?_) ?_ ?_⟩
          · obtain ⟨_, _, _, _, _, _, _, s5, _⟩ := p
            exact Same.sqT s5 hx
          · rintro i x σ' H' hi ⟨o2, o3, o4, o5, acc, rest, rfl, s5, hl5, hr, ho⟩
            obtain ⟨d, hd1, hd2⟩ := hd.getV hi
            have hlt := (List.getElem?_eq_some_iff.mp hd1).1
            have hdr : rows.drop i = d :: rows.drop (i + 1) := by
              rw [List.drop_eq_getElem_cons hlt, (List.getElem?_eq_some_iff.mp hd1).2]
            rw [hdr] at hr
            obtain ⟨a1, ha1, hr⟩ := Option.bind_eq_some_iff.mp hr
            obtain ⟨r2, hr2, hr⟩ := Option.map_eq_some_iff.mp hr
            subst hr
            obtain ⟨p, hp, ha1⟩ := Option.bind_eq_some_iff.mp ha1
            obtain ⟨z, hz, ha1⟩ := Option.map_eq_some_iff.mp ha1
            subst ha1
            have hlen : acc.length + (p.2.length + 1) ≤ 100000 := by
              have h3 := congrArg List.length ho
              simp only [List.length_append, List.length_cons] at h3
              omega
            have tail : ∀ (H2 : Hp) (vh : V) (b : Addr), Same H H2 → H2 l = some (.lst (acc.map V.str)) → b ≠ l → H2 b = some (.lst (p.2.map V.str)) → Is K H2 vh p.1 →
                tSeq (tDrop (tBM K "list" rAppend (tVar 1) (tCons (tD K lnLine) tNil))) (tDrop (tBM K "list" rExtend (tVar 1) (tCons (tVar 4) tNil))) { nx := fun σ' H' => ∃ o2 o3 o4 o5 acc rest, σ' = [some (.ref ar), some (.ref l), o2, o3, o4, o5] ∧ Same H H' ∧ H' l = some (.lst (acc.map V.str)) ∧ lnAll (lines_of_R n) (rows.drop (i + 1)) = some rest ∧ acc ++ rest = out, rt := Q } [some (.ref ar), some (.ref l), some x, some vh, some (.ref b), o5] H2 := by
              intro H2 vh b s2 hl2 hb hb2 ih
              refine ⟨_, rfl, .inl ⟨rfl, _, SqL.of hl2⟩, ?_⟩
              obtain ⟨dz, hz1, hz2⟩ := Option.bind_eq_some_iff.mp hz
              have hz3 : dz = .str z := by
                cases dz <;> cases hz2
                rfl
              subst hz3
              refine ⟨rho2 d (some p.1), .str z, .skip (.skip (.keep (hd2.mono s2) (.keep ih (.skip (.skip .nil))))), hz1, fun vz H3 s3 iz => ?_⟩
              obtain rfl := iz.strI
              refine ⟨l, _, _, rfl, rfl, s3 _ _ hl2, by rw [strs_map]; exact Nat.lt_of_lt_of_le (by omega : acc.length < 100001) (by decide), ?_⟩
              refine ⟨_, rfl, .inl ⟨rfl, _, SqL.of upd_same⟩, _, rfl, l, b, _, _, rfl, rfl, upd_same, by rw [upd_ne hb]; exact s3 _ _ hb2, ?_, ?_⟩
              · rw [List.length_append, strs_map, strs_map]
                exact sz6 (by simp; omega)
              · refine ⟨_, _, _, _, acc ++ (z :: p.2), r2, rfl, ?_, ?_, hr2, ?_⟩
                · exact same_mut (same_mut (s2.trans s3) hl) hl
                · rw [upd_same]
                  simp
                · rw [← ho]
                  simp
            unfold lnParts at hp
            obtain ⟨bk, hb1, hp⟩ := Option.bind_eq_some_iff.mp hp
            refine ⟨rho2 d none, bk, .skip (.skip (.keep (hd2.mono s5) (.skip (.skip (.skip .nil))))), hb1, fun H6 s6 => ?_⟩
            have hl6 := s6 _ _ hl5
            have s56 := s5.trans s6
            cases bk with
            | true =>
              obtain ⟨hh, hh1, hp⟩ := Option.bind_eq_some_iff.mp hp
              obtain ⟨ts, ht1, hp⟩ := Option.bind_eq_some_iff.mp hp
              have hp2 : (hh, ts ++ [("end" : Str)]) = p := Option.some.inj hp
              subst hp2
              refine iteT ⟨rho2 d none, hh, .skip (.skip (.keep (hd2.mono s56) (.skip (.skip (.skip .nil))))), hh1, fun vh H7 s7 ih => ?_⟩
              obtain ⟨md, hm1, hm2⟩ := Option.bind_eq_some_iff.mp ht1
              refine ⟨rho2 d (some hh), md, .skip (.skip (.keep (hd2.mono (s56.trans s7)) (.keep ih (.skip (.skip .nil))))), hm1, fun vm H8 s8 im => ?_⟩
              refine ⟨[none, none, none, none, none, none], .list [.str "end"], .skip (.skip (.skip (.skip (.skip (.skip .nil))))), rfl, fun ve H9 s9 ie => ?_⟩
              cases md <;> try (cases hm2; done)
              rename_i ms
              obtain ⟨am, xm, evm, hxm, hdm⟩ := im.lstI
              obtain ⟨ae, xe, eve, hxe, hde⟩ := ie.lstI
              have hxs := asStrs_ok hdm hm2
              have hxe2 := asStrs_ok hde (show asStrs [.str "end"] = some [("end" : Str)] from rfl)
              subst hxs hxe2
              refine ⟨am, ae, _, _, evm, eve, s9 _ _ hxm, hxe, ?_, fun b hb => ?_⟩
              · rw [strs_map]
                simp only [List.length_append, List.length_cons, List.length_nil] at hlen
                exact sz6 (by simp; omega)
              · have hl9 := s9 _ _ (s8 _ _ (s7 _ _ hl6))
                have hbl : b ≠ l := fun z => by
                  rw [z, hl9] at hb
                  cases hb
                have hln : l ≠ b := fun z => hbl z.symm
                exact tail _ vh b ((s56.trans (s7.trans (s8.trans s9))).trans (same_new hb)) (by rw [upd_ne hln]; exact hl9) hbl (by rw [upd_same]; simp) (ih.mono ((s8.trans s9).trans (same_new hb)))
            | false =>
              have hp2 : (d, ([] : List Str)) = p := Option.some.inj hp
              subst hp2
              refine iteF ⟨rho2 d none, d, .skip (.skip (.keep (hd2.mono s56) (.skip (.skip (.skip .nil))))), rfl, fun vh H7 s7 ih => ?_⟩
              refine ⟨Nat.zero_le _, fun b hb => ?_⟩
              have hl7 := s7 _ _ hl6
              have hbl : b ≠ l := fun z => by
                rw [z, hl7] at hb
                cases hb
              have hln : l ≠ b := fun z => hbl z.symm
              exact tail _ vh b ((s56.trans s7).trans (same_new hb)) (by rw [upd_ne hln]; exact hl7) hbl upd_same (ih.mono (same_new hb))
          · rintro σ' H' ⟨o2, o3, o4, o5, acc, rest, rfl, s5, hl5, hr, ho⟩
            have hlx : rows.drop xs.length = [] := List.drop_eq_nil_of_le (by rw [hd.length]; exact Nat.le_refl _)
            rw [hlx] at hr
            cases hr
            rw [List.append_nil] at ho
            subst ho
            exact ⟨_, rfl, q _ H' s5 (.lst hl5 (IsAll.strsD _))⟩
      · cases e2
    · cases b
theorem okR_lines_of {P : Program} {w : World} {K : PySem.W.Frag} {mg : Str → Option Value} {base : Heap} (B : Bs w K mg) (T : Tp w K mg) {j : Nat} (h_number_text : Fc P w K mg base j "number_text" ["number"] number_text_G) : ∀ n : Nat, Fc P w K mg base (j + n) "lines_of" ["rows"] (lines_of_R n)
  | 0 => by
    obtain ⟨fd, Fd⟩ := B.defs (d := d_lines_of) (mem_fn 49 rfl)
    replace Fd : FnP K "lines_of" "lines_of" s_lines_of [] (He.ga K "lines_of") fd := Fd
    exact Fc.zero (B.glo (mem_fa 42 rfl)) Fd.kp (FunD.bindsN (ps := ["rows"]) Fd fun _ _ _ _ _ _ us hl => match us, hl with | [_], _ => rfl)
  | n + 1 => ok_lines_of B T (Nat.le_add_right j n) h_number_text (okR_lines_of B T h_number_text n)
end Arc
set_option Elab.async false
set_option linter.all false
set_option maxRecDepth 100000
set_option maxHeartbeats 4000000
namespace Arc
open PySem L2
/-! ### what a pen does, on data -/
abbrev DrO := Option (PyData × List PyData × List PyData)
abbrev GoR := List PyData → Int → PyData → PyData → DrO
def immO (d : PyData) : Option PyData := if imm d = true then some d else none
def tupO : PyData → Option (List PyData)
  | .tuple l => some l
  | _ => none
def intO : PyData → Option Int
  | .int i => some i
  | _ => none
def gIx0 (row : PyData) (i : Int) : Option PyData := gIx row (.int i)
def pNone : PyData → Bool
  | .none => true
  | _ => false
def isW (row : PyData) (z : Str) : Option Bool := ((gIx0 row 0).bind fun a => gEq a (.str z)).bind gB
def goAgain (gr : GoR) (body : List PyData) (number : Int) (rounds : PyData) : Nat → Nat → PyData → DrO
  | 0, _, fr => some (fr, [], [])
  | m + 1, i, fr => (gCatT rounds (.tuple [.int (i : Int)])).bind fun rd => (immO rd).bind fun rd => (gr body (number + 1) fr rd).bind fun r => (goAgain gr body number rounds m (i + 1) r.1).map fun t => (t.1, r.2.1 ++ t.2.1, r.2.2 ++ t.2.2)
def goEver (gr : GoR) (row : PyData) (number : Int) (frame rounds : PyData) : Option PyData :=
  ((gIx0 row 1).bind tupO).bind fun body => (gr body (number + 1) frame (.tuple [])).bind fun r => if r.2.1.length ≤ 100000 ∧ r.2.2.length ≤ 100000 then
    ((move_G [.tuple body]).bind fun m => (behind_G [frame, m]).bind fun fm => (undone_G [frame]).bind fun u => (behind_G [fm, u]).bind immO).bind fun leads => some (.tuple [leads, .int number, rounds, .list r.2.1])
    else none
def goPlain (row : PyData) (number : Int) (frame rounds : PyData) : DrO :=
  ((shaped_G [row]).bind immO).bind fun s => (tupO s).bind fun l => match l with
    | [piece, told] => ((behind_G [frame, told]).bind immO).bind fun f => if pNone piece = true then some (f, [], [])
        else (led_piece_G [frame, piece]).bind fun lp => (immO (.tuple [lp, .int number, rounds])).bind fun t => some (f, [t], [])
    | _ => none
def goRow (gr : GoR) (row : PyData) (number : Int) (frame rounds : PyData) : DrO :=
  (isW row "again").bind fun b1 => if b1 = true then ((gIx0 row 1).bind intO).bind fun n => ((gIx0 row 2).bind tupO).bind fun body => if 0 ≤ n ∧ n ≤ 1000 then goAgain gr body number rounds n.toNat 0 frame else none
    else (isW row "keep").bind fun b2 => if b2 = true then ((gIx0 row 1).bind tupO).bind fun body => (gr body (number + 1) frame rounds).map fun r => (frame, r.2.1, r.2.2)
    else (isW row "ever").bind fun b3 => if b3 = true then (goEver gr row number frame rounds).map fun e => (frame, [], [e])
    else goPlain row number frame rounds
def goRowsL (gr : GoR) : GoR
  | [], _, fr, _ => some (fr, [], [])
  | row :: r, n, fr, rd => (goRow gr row n fr rd).bind fun a => ((lines_in_G [.tuple [row]]).bind intO).bind fun k => (goRowsL gr r (n + k) a.1 rd).map fun b => (b.1, a.2.1 ++ b.2.1, a.2.2 ++ b.2.2)
def goRowsR : Nat → GoR
  | 0 => fun _ _ _ _ => none
  | n + 1 => goRowsL (goRowsR n)
theorem immO_some {d e : PyData} (h : immO d = some e) : d = e ∧ imm e = true := by
  unfold immO at h
  split at h
  · cases h
    exact ⟨rfl, by assumption⟩
  · cases h
theorem tupO_some {d : PyData} {l : List PyData} (h : tupO d = some l) : d = .tuple l := by
  cases d <;> cases h
  rfl
theorem intO_some {d : PyData} {i : Int} (h : intO d = some i) : d = .int i := by
  cases d <;> cases h
  rfl
theorem immAll_get : ∀ {l : List PyData} {i : Nat} {d : PyData}, immAll l = true → l[i]? = some d → imm d = true
  | [], _, _, _, e => by simp at e
  | x :: l, 0, d, h, e => by
    simp at e
    subst e
    exact (Bool.and_eq_true_iff.mp h).1
  | x :: l, i + 1, d, h, e => immAll_get (l := l) (i := i) (Bool.and_eq_true_iff.mp h).2 (by simpa using e)
theorem gIx0_imm {row z : PyData} {i : Int} (h : imm row = true) (e : gIx0 row i = some z) : imm z = true := by
  unfold gIx0 gIx at e
  cases row <;> try (cases e; done)
  · rename_i s
    have e1 : (if s.length ≤ 1000000 then (L2.atI s.cps.toList i).map fun c => PyData.str ⟨#[c]⟩ else none) = some z := e
    split at e1
    · obtain ⟨c, _, h2⟩ := Option.map_eq_some_iff.mp e1
      subst h2
      rfl
    · cases e1
  · cases h
  · rename_i l
    have e1 : L2.atI l i = some z := e
    obtain ⟨j, _, h2, _⟩ := atI_get e1
    exact immAll_get h h2
/-! ### a pen in the heap -/
def penF (l1 l2 : Addr) : List (Str × V) := putF "ends" (.ref l2) (putF "still" (.ref l1) [])
theorem penF_ends (l1 l2 : Addr) : (penF l1 l2).lookup ("ends" : Str) = some (.ref l2) := by
  unfold penF
  rw [lookup_putF, if_pos rfl]
theorem penF_still (l1 l2 : Addr) : (penF l1 l2).lookup ("still" : Str) = some (.ref l1) := by
  unfold penF
  rw [lookup_putF, if_neg (by decide +kernel), lookup_putF, if_pos rfl]
theorem penF_no (l1 l2 : Addr) {m : Str} (h1 : ¬ m = "ends") (h2 : ¬ m = "still") : (penF l1 l2).lookup m = none := by
  unfold penF
  rw [lookup_putF, if_neg h1, lookup_putF, if_neg h2]
  rfl
theorem penF_len (l1 l2 : Addr) : (penF l1 l2).length < 1000 := by
  have h1 := length_putF "ends" (.ref l2) (putF "still" (.ref l1) [])
  have h2 := length_putF "still" (.ref l1) []
  unfold penF
  simp at h2
  omega
/-- the heap without three addresses -/
def hid (H : Hp) (x l1 l2 : Addr) : Hp := fun a => if a = x ∨ a = l1 ∨ a = l2 then none else H a
theorem hid_at {H : Hp} {x l1 l2 a : Addr} (h : a = x ∨ a = l1 ∨ a = l2) : hid H x l1 l2 a = none := if_pos h
theorem hid_ne {H : Hp} {x l1 l2 a : Addr} (h : ¬ (a = x ∨ a = l1 ∨ a = l2)) : hid H x l1 l2 a = H a := if_neg h
theorem hid_same (H : Hp) (x l1 l2 : Addr) : Same (hid H x l1 l2) H := fun a o e => by
  unfold hid at e
  split at e
  · cases e
  · exact e
section
variable {K : PySem.W.Frag}
mutual
theorem Is.immT {H G : Hp} (h : ∀ a xs, SqT K H a xs → SqT K G a xs) : ∀ {v : V} {d : PyData}, Is K H v d → imm d = true → Is K G v d
  | _, _, .non, _ => .non
  | _, _, .bl b, _ => .bl b
  | _, _, .int i, _ => .int i
  | _, _, .str x, _ => .str x
  | _, _, .lst _ _, e => by cases e
  | _, _, .tup t k, e => .tup (h _ _ t) (IsAll.immT h k e)
theorem IsAll.immT {H G : Hp} (h : ∀ a xs, SqT K H a xs → SqT K G a xs) : ∀ {vs : List V} {ds : List PyData}, IsAll K H vs ds → immAll ds = true → IsAll K G vs ds
  | _, _, .nil, _ => .nil
  | _, _, .cons k r, e => by
    have e2 := Bool.and_eq_true_iff.mp e
    exact .cons (Is.immT h k e2.1) (IsAll.immT h r e2.2)
end
/-- S, E: the data of still and ends; G: the heap beside the pen's own objects -/
structure PenAt (K : PySem.W.Frag) (C : Addr) (G H : Hp) (x : Addr) (S E : List PyData) : Prop where
  ex : ∃ dx l1 l2 xs ys, H x = some (.ins C dx (penF l1 l2)) ∧ H l1 = some (.lst xs) ∧ H l2 = some (.lst ys) ∧ IsAll K G xs S ∧ IsAll K G ys E ∧ Same G H ∧ G x = none ∧ G l1 = none ∧ G l2 = none ∧ l1 ≠ l2
theorem hid_tup {H : Hp} {C x l1 l2 dx : Addr} {xs ys : List V} {fs : List (Str × V)} (h1 : H x = some (.ins C dx fs)) (h2 : H l1 = some (.lst xs)) (h3 : H l2 = some (.lst ys)) : ∀ a zs, SqT K H a zs → SqT K (hid H x l1 l2) a zs := fun a zs h => by
  have ne : ∀ {o : HO}, H a = some o → (∀ C dx fs, o ≠ .ins C dx fs) → (∀ l, o ≠ .lst l) → ¬ (a = x ∨ a = l1 ∨ a = l2) := fun {o} e n1 n2 z => by
    rcases z with z | z | z
    · subst z
      rw [h1] at e
      exact n1 _ _ _ (Option.some.inj e).symm
    · subst z
      rw [h2] at e
      exact n2 _ (Option.some.inj e).symm
    · subst z
      rw [h3] at e
      exact n2 _ (Option.some.inj e).symm
  rcases h with (h | ⟨o, h⟩) | h
  · exact .inl (.inl (by rw [hid_ne (ne h (by intro _ _ _ z; cases z) (by intro _ z; cases z))]; exact h))
  · exact .inl (.inr ⟨o, by rw [hid_ne (ne h (by intro _ _ _ z; cases z) (by intro _ z; cases z))]; exact h⟩)
  · exact .inr h
theorem PenAt.grow {C : Addr} {G H H2 : Hp} {x : Addr} {S E : List PyData} (p : PenAt K C G H x S E) (s : Same H H2) : ∃ G2, Same G G2 ∧ PenAt K C G2 H2 x S E ∧ ∀ a zs, SqT K H2 a zs → SqT K G2 a zs := by
  obtain ⟨dx, l1, l2, xs, ys, h1, h2, h3, i1, i2, sm, g1, g2, g3, ne⟩ := p.ex
  have sg : Same G (hid H2 x l1 l2) := fun a o e => by
    have hn : ¬ (a = x ∨ a = l1 ∨ a = l2) := by
      rintro (z | z | z) <;> subst z
      · rw [g1] at e; cases e
      · rw [g2] at e; cases e
      · rw [g3] at e; cases e
    rw [hid_ne hn]
    exact s _ _ (sm _ _ e)
  exact ⟨hid H2 x l1 l2, sg, ⟨dx, l1, l2, xs, ys, s _ _ h1, s _ _ h2, s _ _ h3, i1.mono sg, i2.mono sg, hid_same _ _ _ _, hid_at (.inl rfl), hid_at (.inr (.inl rfl)), hid_at (.inr (.inr rfl)), ne⟩, hid_tup (s _ _ h1) (s _ _ h2) (s _ _ h3)⟩
theorem PenAt.same {C : Addr} {G H : Hp} {x : Addr} {S E : List PyData} (p : PenAt K C G H x S E) : Same G H := by
  obtain ⟨dx, l1, l2, xs, ys, h1, h2, h3, i1, i2, sm, _⟩ := p.ex
  exact sm
theorem PenAt.at_ {C : Addr} {G H : Hp} {x : Addr} {S E : List PyData} (p : PenAt K C G H x S E) : ∃ dx l1 l2, H x = some (.ins C dx (penF l1 l2)) := by
  obtain ⟨dx, l1, l2, xs, ys, h1, _⟩ := p.ex
  exact ⟨dx, l1, l2, h1⟩
end
/-! ### the promises -/
def spPenInit (K : PySem.W.Frag) (C : Addr) : Sp := fun vs H Q _ => ∃ (G : Hp) (x dx : Addr), vs = [.ref x] ∧ Same G H ∧ G x = none ∧ H x = some (.ins C dx []) ∧ ∀ H', PenAt K C G H' x [] [] → Q .non H'
/-- what go_rows and go_row hand back -/
def PenEnd (K : PySem.W.Frag) (C : Addr) (G : Hp) (x : Addr) (S E : List PyData) (r : PyData × List PyData × List PyData) (Q : VK) : Prop :=
  ∀ v G' H', Same G G' → PenAt K C G' H' x (S ++ r.2.1) (E ++ r.2.2) → Is K G' v r.1 → imm r.1 = true → immAll r.2.1 = true → Q v H'
def spGoRows (K : PySem.W.Frag) (C : Addr) (gr : GoR) : Sp := fun vs H Q _ => ∃ (G : Hp) (x : Addr) (S E : List PyData) (rv fv dv : V) (rows : List PyData) (n : Int) (fr rd : PyData) (r : PyData × List PyData × List PyData),
  vs = [.ref x, rv, .int n, fv, dv] ∧ PenAt K C G H x S E ∧ Is K G rv (.tuple rows) ∧ immAll rows = true ∧ Is K G fv fr ∧ imm fr = true ∧ Is K G dv rd ∧ imm rd = true ∧ gr rows n fr rd = some r ∧ S.length + r.2.1.length ≤ 100000 ∧ E.length + r.2.2.length ≤ 100000 ∧ PenEnd K C G x S E r Q
def spGoRow (K : PySem.W.Frag) (C : Addr) (gr : GoR) : Sp := fun vs H Q _ => ∃ (G : Hp) (x : Addr) (S E : List PyData) (rv fv dv : V) (row : PyData) (n : Int) (fr rd : PyData) (r : PyData × List PyData × List PyData),
  vs = [.ref x, rv, .int n, fv, dv] ∧ PenAt K C G H x S E ∧ Is K G rv row ∧ imm row = true ∧ Is K G fv fr ∧ imm fr = true ∧ Is K G dv rd ∧ imm rd = true ∧ goRow gr row n fr rd = some r ∧ S.length + r.2.1.length ≤ 100000 ∧ E.length + r.2.2.length ≤ 100000 ∧ PenEnd K C G x S E r Q
def spGoEver (K : PySem.W.Frag) (C : Addr) (gr : GoR) : Sp := fun vs H Q _ => ∃ (G : Hp) (x : Addr) (S E : List PyData) (rv fv dv : V) (row : PyData) (n : Int) (fr rd : PyData) (e : PyData),
  vs = [.ref x, rv, .int n, fv, dv] ∧ PenAt K C G H x S E ∧ Is K G rv row ∧ imm row = true ∧ Is K G fv fr ∧ imm fr = true ∧ Is K G dv rd ∧ imm rd = true ∧ goEver gr row n fr rd = some e ∧ E.length + 1 ≤ 100000 ∧
  ∀ G' H', Same G G' → PenAt K C G' H' x S (E ++ [e]) → Q .non H'
/-! ### the class -/
abbrev penC (K : PySem.W.Frag) : Addr := He.ga K "Pen"
section
variable {P : Program} {w : World} {K : PySem.W.Frag} {mg : Str → Option Value} {base : Heap}
theorem Bs.cls (B : Bs w K mg) {x : Str} (h : He.Fa.cls x ∈ fa) : Cls K (He.ga K x) := He.cls_ok (B.fact h)
theorem Bs.mkr (B : Bs w K mg) {x : Str} (h : He.Fa.mkr x ∈ fa) : Mk K (He.ga K x) (He.ma K (He.ga K x) "__init__") := He.mkr_ok (B.fact h)
theorem Bs.noat (B : Bs w K mg) {x f : Str} (h : He.Fa.noat x f ∈ fa) : NoAttr K (He.ga K x) f := He.noat_ok (B.fact h)
theorem Bs.meth (B : Bs w K mg) {x m : Str} (h : He.Fa.meth x m ∈ fa) : Meth K (He.ga K x) m (He.ma K (He.ga K x) m) := He.meth_ok (B.fact h)
theorem sc_Pen_init : FnScope ["self"] ["self"] (defScope s_Pen_init) := ⟨rfl, rfl, rfl, by decide +kernel, rfl, by decide +kernel, by decide +kernel⟩
theorem sc_Pen_go_rows : FnScope ["self", "rows", "number", "frame", "rounds", "row"] ["self", "rows", "number", "frame", "rounds"] (defScope s_Pen_go_rows) := ⟨rfl, rfl, rfl, by decide +kernel, rfl, by decide +kernel, by decide +kernel⟩
theorem sc_Pen_go_row : FnScope ["self", "row", "number", "frame", "rounds", "turn", "piece", "told"] ["self", "row", "number", "frame", "rounds"] (defScope s_Pen_go_row) := ⟨rfl, rfl, rfl, by decide +kernel, rfl, by decide +kernel, by decide +kernel⟩
theorem sc_Pen_go_ever : FnScope ["self", "row", "number", "frame", "rounds", "other", "leads"] ["self", "row", "number", "frame", "rounds"] (defScope s_Pen_go_ever) := ⟨rfl, rfl, rfl, by decide +kernel, rfl, by decide +kernel, by decide +kernel⟩
/-- a method of a class of the program -/
structure Mc (P : Program) (w : World) (K : PySem.W.Frag) (mg : Str → Option Value) (base : Heap) (k : Nat) (x m : Str) (ps : List Str) (sp : Sp) : Prop where
  ex : ∃ fd, FnOk P w K mg base CX0 k (He.ma K (He.ga K x) m) fd ps sp ∧ Binds K fd ps []
theorem Mc.mono {j k : Nat} {x m : Str} {ps : List Str} {sp : Sp} (h : Mc P w K mg base j x m ps sp) (hj : j ≤ k) : Mc P w K mg base k x m ps sp := by
  obtain ⟨fd, h1, h2⟩ := h.ex
  exact ⟨fd, h1.mono hj, h2⟩
theorem ok_Pen_init (B : Bs w K mg) (T : Tp w K mg) : Mc P w K mg base 1 "Pen" "__init__" ["self"] (spPenInit K (penC K)) := by
  obtain ⟨fd, Fd⟩ := B.defs (d := d_Pen_init) (mem_fn 30 rfl)
  replace Fd : FnP K "__init__" "Pen.__init__" s_Pen_init [] (He.ma K (He.ga K "Pen") "__init__") fd := Fd
  have C_cl := B.cls (x := "Pen") (mem_fa 68 rfl)
  have nS := B.noat (x := "Pen") (f := "still") (mem_fa 76 rfl)
  have nE := B.noat (x := "Pen") (f := "ends") (mem_fa 77 rfl)
  refine ⟨fd, ?_, FunD.bindsN (ps := ["self"]) Fd fun _ _ _ _ _ _ us hl => match us, hl with | [_], _ => rfl⟩
  refine Fd.ok (k := 0) sc_Pen_init (fun vs H Q E h => ?_) (fun cdv A outer s H vs Q E hr h => ⟨_, PSs.nox (pss_cons (ps_fld (pv 0) (pe_lst pa_nil) rfl) (pss_one (ps_fld (pv 0) (pe_lst pa_nil) rfl))), ?_⟩)
  · obtain ⟨G, x, dx, rfl, _⟩ := h
    rfl
  · obtain ⟨G, x, dx, rfl, sG, gx, hx, q⟩ := h
    refine ⟨Nat.zero_le _, fun l1 n1 => ?_⟩
    have ne1 : x ≠ l1 := ne_of_none hx n1
    refine ⟨_, rfl, x, penC K, dx, [], rfl, (by rw [upd_ne ne1]; exact hx), C_cl, nS, (by show 0 < 1000; decide), ?_⟩
    refine ⟨Nat.zero_le _, fun l2 n2 => ?_⟩
    have ne2 : x ≠ l2 := fun z => by
      rw [← z, upd_same] at n2
      cases n2
    have ne3 : l1 ≠ l2 := fun z => by
      rw [← z, upd_ne ne1.symm, upd_same] at n2
      cases n2
    have n2' : H l2 = none := by
      rw [upd_ne ne2.symm, upd_ne ne3.symm] at n2
      exact n2
    refine ⟨_, rfl, x, penC K, dx, _, rfl, (by rw [upd_ne ne2]; exact upd_same), C_cl, nE, (by have := length_putF "still" (.ref l1) []; simp at this; omega), ?_⟩
    refine q _ ⟨dx, l1, l2, [], [], upd_same, ?_, ?_, .nil, .nil, fun a o e => ?_, gx, sG.free n1, sG.free n2', ne3⟩
    · rw [upd_ne ne1.symm, upd_ne ne3, upd_ne ne1.symm, upd_same]
    · rw [upd_ne ne2.symm, upd_same]
    · have na : a ≠ x := fun z => by
        rw [z, gx] at e
        cases e
      have e2 := sG _ _ e
      rw [upd_ne na, upd_ne (ne_of_none e2 n2'), upd_ne na, upd_ne (ne_of_none e2 n1)]
      exact e2
theorem go_lookup {G H : Hp} {C x : Addr} {S E : List PyData} {m : Str} (p : PenAt K C G H x S E) (h1 : ¬ m = "ends") (h2 : ¬ m = "still") : ∃ dx fs, H x = some (.ins C dx fs) ∧ fs.lookup m = none := by
  obtain ⟨dx, l1, l2, h⟩ := p.at_
  exact ⟨dx, _, h, penF_no _ _ h1 h2⟩
theorem ok_Pen_go_rows (B : Bs w K mg) (T : Tp w K mg) {j k : Nat} {gr : GoR} (hj_go_row : j ≤ k) (hj_lines_in : 8 ≤ k) (h_lines_in : Fc P w K mg base 8 "lines_in" ["rows"] lines_in_G)
    (Mr : Mc P w K mg base j "Pen" "go_row" ["self", "row", "number", "frame", "rounds"] (spGoRow K (penC K) gr)) : Mc P w K mg base (k + 1) "Pen" "go_rows" ["self", "rows", "number", "frame", "rounds"] (spGoRows K (penC K) (goRowsL gr)) := by
  obtain ⟨fd, Fd⟩ := B.defs (d := d_Pen_go_rows) (mem_fn 31 rfl)
  replace Fd : FnP K "go_rows" "Pen.go_rows" s_Pen_go_rows [] (He.ma K (He.ga K "Pen") "go_rows") fd := Fd
  have C_cl := B.cls (x := "Pen") (mem_fa 68 rfl)
  have M_go_row := B.meth (x := "Pen") (m := "go_row") (mem_fa 82 rfl)
  obtain ⟨fr_, G_go_row, B_go_row⟩ := Mr.ex
  refine ⟨fd, ?_, FunD.bindsN (ps := ["self", "rows", "number", "frame", "rounds"]) Fd fun _ _ _ _ _ _ us hl => match us, hl with | [_, _, _, _, _], _ => rfl⟩
  refine Fd.ok (k := k) sc_Pen_go_rows (fun vs H Q E h => ?_) (fun cdv A outer s H vs Q E hr h => ⟨_, PSs.nox (pss_cons (ps_for PassesOwn.never rfl (pi_tup (pv 1)) (pg_name (i := 5) sc_Pen_go_rows.nd rfl (Or.inl rfl)) (pss_cons (ps_set (i := 3) sc_Pen_go_rows.nd rfl (Or.inl rfl) (pe_meth (pv 0) C_cl M_go_row G_go_row (hr.mono hj_go_row) B_go_row .nil pass0 (pa_cons (pv 5) (pa_cons (pv 2) (pa_cons (pv 3) (pa_cons (pv 4) pa_nil)))))) (pss_one (ps_set (i := 2) sc_Pen_go_rows.nd rfl (Or.inl rfl) (d_op op_add o_add (dv 2) (d_call (hj := hj_lines_in) h_lines_in hr (da_cons (d_tup (da_cons (dv 5) da_nil)) da_nil))))))) (pss_one (ps_ret (dv 3)))), ?_⟩)
  · obtain ⟨G, x, S, E, rv, fv, dv, rows, n, fr, rd, r, rfl, _⟩ := h
    rfl
  · obtain ⟨G, x, S, E1, rv, fv, dv, rows, n, fr, rd, r, rfl, pen, hrv, hri, hfv, hfi, hdv, hdi, e, hz1, hz2, q⟩ := h
    obtain ⟨ar, xs, ev, hx, hd⟩ := hrv.tupI
    subst ev
    refine ⟨_, rfl, ar, rfl, ⟨xs, Same.sqT pen.same hx⟩, for_tup (xs := xs) (fun i σ' H' => ∃ G' n' fv' fr' o5 s1 e1 r2, σ' = [some (.ref x), some (.ref ar), some (.int n'), some fv', some dv, o5] ∧ Same G G' ∧ PenAt K (penC K) G' H' x (S ++ s1) (E1 ++ e1) ∧ Is K G' fv' fr' ∧ imm fr' = true ∧ immAll s1 = true ∧ goRowsL gr (rows.drop i) n' fr' rd = some r2 ∧ r = (r2.1, s1 ++ r2.2.1, e1 ++ r2.2.2))
      ⟨G, n, fv, fr, none, [], [], r, rfl, Same.refl G, by rw [List.append_nil, List.append_nil]; exact pen, hfv, hfi, rfl, by rw [List.drop_zero]; exact e, rfl⟩ (fun i σ' H' _ p => ?_) ?_ ?_⟩
    · obtain ⟨_, _, _, _, _, _, _, _, _, sg, pn, _⟩ := p
      exact Same.sqT (sg.trans pn.same) hx
    · rintro i y σ' H' hi ⟨G', n', fv', fr', o5, s1, e1, r2, rfl, sg, pn, hf2, hf3, hs1, hr2, hrr⟩
      obtain ⟨d, hd1, hd2⟩ := hd.getV hi
      have hlt := (List.getElem?_eq_some_iff.mp hd1).1
      have hdr : rows.drop i = d :: rows.drop (i + 1) := by
        rw [List.drop_eq_getElem_cons hlt, (List.getElem?_eq_some_iff.mp hd1).2]
      rw [hdr] at hr2
      obtain ⟨a, ha, hr2⟩ := Option.bind_eq_some_iff.mp hr2
      obtain ⟨kk, hk, hr2⟩ := Option.bind_eq_some_iff.mp hr2
      obtain ⟨b, hb, hr2⟩ := Option.map_eq_some_iff.mp hr2
      obtain ⟨dx, fs, hX, hl⟩ := go_lookup (m := "go_row") pn (by decide +kernel) (by decide +kernel)
      refine ⟨_, rfl, x, dx, fs, rfl, hX, hl, _, rfl, _, rfl, _, rfl, _, rfl, G', x, S ++ s1, E1 ++ e1, y, fv', dv, d, n', fr', rd, a, rfl, pn, hd2.mono sg, immAll_get hri hd1, hf2, hf3, hdv.mono sg, hdi, ha, (by rw [hrr, ← hr2] at hz1; simp at hz1 ⊢; omega), (by rw [hrr, ← hr2] at hz2; simp at hz2 ⊢; omega), fun v G2 H2 sg2 pn2 iv im is2 => ?_⟩
      obtain ⟨kd, hk1, hk2⟩ := Option.bind_eq_some_iff.mp hk
      obtain rfl := intO_some hk2
      refine ⟨[none, none, some (.int n'), none, none, some d], .int (n' + kk), .skip (.skip (.keep (.int n') (.skip (.skip (.keep (hd2.mono ((sg.trans sg2).trans pn2.same)) .nil))))), ?_, fun u H3 s3 iu => ?_⟩
      · show ((some [PyData.tuple [d]]).bind lines_in_G).bind (fun b => gAdd (.int n') b) = some (.int (n' + kk))
        show (lines_in_G [PyData.tuple [d]]).bind (fun b => gAdd (.int n') b) = some (.int (n' + kk))
        rw [hk1]
        rfl
      · obtain rfl := iu.intI
        obtain ⟨G3, sg3, pn3, ht⟩ := pn2.grow s3
        refine ⟨G3, n' + kk, v, a.1, some y, s1 ++ a.2.1, e1 ++ a.2.2, b, rfl, sg.trans (sg2.trans sg3), ?_, iv.mono sg3, im, ?_, hb, ?_⟩
        · rw [← List.append_assoc, ← List.append_assoc]
          exact pn3
        · rw [immAll_append, hs1, is2]
          rfl
        · rw [hrr, ← hr2]
          simp [List.append_assoc]
    · rintro σ' H' ⟨G', n', fv', fr', o5, s1, e1, r2, rfl, sg, pn, hf2, hf3, hs1, hr2, hrr⟩
      have hlx : rows.drop xs.length = [] := List.drop_eq_nil_of_le (by rw [hd.length]; exact Nat.le_refl _)
      rw [hlx] at hr2
      cases hr2
      rw [List.append_nil, List.append_nil] at hrr
      subst hrr
      refine ⟨[none, none, none, some fr', none, none], fr', .skip (.skip (.skip (.keep (hf2.mono pn.same) (.skip (.skip .nil))))), rfl, fun u H3 s3 iu => ?_⟩
      obtain ⟨G3, sg3, pn3, ht⟩ := pn.grow s3
      exact q u G3 H3 (sg.trans sg3) pn3 (iu.immT ht hf3) hf3 hs1
end
end Arc
set_option Elab.async false
set_option linter.all false
set_option maxRecDepth 100000
set_option maxHeartbeats 4000000
namespace Arc
open PySem L2
section
variable {P : Program} {w : World} {K : PySem.W.Frag} {mg : Str → Option Value} {base : Heap}
/-- behind a store at one of the pen's own lists -/
theorem hid_upd {H : Hp} {x l1 l2 l : Addr} {o : HO} (h : l = x ∨ l = l1 ∨ l = l2) : hid (upd H l o) x l1 l2 = hid H x l1 l2 := by
  funext a
  unfold hid
  by_cases ha : a = x ∨ a = l1 ∨ a = l2
  · rw [if_pos ha, if_pos ha]
  · have hal : a ≠ l := fun z => ha (by rw [z]; exact h)
    rw [if_neg ha, if_neg ha, upd_ne hal]
theorem same_hid {G H H3 : Hp} {x l1 l2 : Addr} (s : Same G H) (s3 : Same H H3) (g1 : G x = none) (g2 : G l1 = none) (g3 : G l2 = none) : Same G (hid H3 x l1 l2) := fun a o e => by
  have hn : ¬ (a = x ∨ a = l1 ∨ a = l2) := by
    rintro (z | z | z) <;> subst z
    · rw [g1] at e; cases e
    · rw [g2] at e; cases e
    · rw [g3] at e; cases e
  rw [hid_ne hn]
  exact s3 _ _ (s _ _ e)
theorem ok_Pen_go_row (B : Bs w K mg) (T : Tp w K mg) {j k : Nat} {gr : GoR} (hj_go_rows : j ≤ k) (hj_go_ever : k ≤ k) (hj_shaped : 8 ≤ k) (hj_led_piece : 6 ≤ k) (hj_behind : 6 ≤ k) (h_shaped : Fc P w K mg base 8 "shaped" ["row"] shaped_G) (h_led_piece : Fc P w K mg base 6 "led_piece" ["frame", "piece"] led_piece_G) (h_behind : Fc P w K mg base 6 "behind" ["one", "other"] behind_G)
    (Mr : Mc P w K mg base j "Pen" "go_rows" ["self", "rows", "number", "frame", "rounds"] (spGoRows K (penC K) gr)) (Me : Mc P w K mg base k "Pen" "go_ever" ["self", "row", "number", "frame", "rounds"] (spGoEver K (penC K) gr)) :
    Mc P w K mg base (k + 1) "Pen" "go_row" ["self", "row", "number", "frame", "rounds"] (spGoRow K (penC K) gr) := by
  obtain ⟨fd, Fd⟩ := B.defs (d := d_Pen_go_row) (mem_fn 32 rfl)
  replace Fd : FnP K "go_row" "Pen.go_row" s_Pen_go_row [] (He.ma K (He.ga K "Pen") "go_row") fd := Fd
  have C_cl := B.cls (x := "Pen") (mem_fa 68 rfl)
  have nS := B.noat (x := "Pen") (f := "still") (mem_fa 76 rfl)
  have M_go_rows := B.meth (x := "Pen") (m := "go_rows") (mem_fa 81 rfl)
  have M_go_ever := B.meth (x := "Pen") (m := "go_ever") (mem_fa 83 rfl)
  obtain ⟨fr_, G_go_rows, B_go_rows⟩ := Mr.ex
  obtain ⟨fe_, G_go_ever, B_go_ever⟩ := Me.ex
  refine ⟨fd, ?_, FunD.bindsN (ps := ["self", "row", "number", "frame", "rounds"]) Fd fun _ _ _ _ _ _ us hl => match us, hl with | [_, _, _, _, _], _ => rfl⟩
  refine Fd.ok (k := k) sc_Pen_go_row (fun vs H Q E h => ?_) (fun cdv A outer s H vs Q E hr h => ⟨_, PSs.nox (pss_cons (ps_if (dt_cmp (op_eqD hr.units) o_eq (d_ix (dv 1) d_int) d_str) (pss_cons (ps_for PassesOwn.never rfl (pi_range1 rfl T.z_range (da_cons (d_ix (dv 1) d_int) da_nil)) (pg_name (i := 5) sc_Pen_go_row.nd rfl (Or.inl rfl)) (pss_one (ps_set (i := 3) sc_Pen_go_row.nd rfl (Or.inl rfl) (pe_meth (pv 0) C_cl M_go_rows G_go_rows (hr.mono hj_go_rows) B_go_rows .nil pass0 (da_cons (d_ix (dv 1) d_int) (da_cons (d_op op_add o_add (dv 2) d_int) (da_cons (dv 3) (da_cons (d_op op_catA o_catT (dv 4) (d_tup (da_cons (dv 5) da_nil))) da_nil)))))))) (pss_one (ps_ret (dv 3)))) pss_nil) (pss_cons (ps_if (dt_cmp (op_eqD hr.units) o_eq (d_ix (dv 1) d_int) d_str) (pss_cons (ps_expr (pe_meth (pv 0) C_cl M_go_rows G_go_rows (hr.mono hj_go_rows) B_go_rows .nil pass0 (da_cons (d_ix (dv 1) d_int) (da_cons (d_op op_add o_add (dv 2) d_int) (da_cons (dv 3) (da_cons (dv 4) da_nil)))))) (pss_one (ps_ret (dv 3)))) pss_nil) (pss_cons (ps_if (dt_cmp (op_eqD hr.units) o_eq (d_ix (dv 1) d_int) d_str) (pss_cons (ps_expr (pe_meth (pv 0) C_cl M_go_ever G_go_ever (hr.mono hj_go_ever) B_go_ever .nil pass0 (pa_cons (pv 1) (pa_cons (pv 2) (pa_cons (pv 3) (pa_cons (pv 4) pa_nil)))))) (pss_one (ps_ret (dv 3)))) pss_nil) (pss_cons (ps_asg (d_call (hj := hj_shaped) h_shaped hr (da_cons (dv 1) da_nil)) (pg_tup rfl (pgs_cons (pg_name (i := 6) sc_Pen_go_row.nd rfl (Or.inl rfl)) (pgs_cons (pg_name (i := 7) sc_Pen_go_row.nd rfl (Or.inl rfl)) pgs_nil)))) (pss_cons (ps_if (dt_cmp op_notN o_notN (dv 6) d_non) (pss_one (ps_expr (pe_bm PySem.F.plainAttrs_list PySem.F.slot_list_append PySem.F.type_list_append mt_append (pe_fld (pv 0) rfl) (da_cons (d_tup (da_cons (d_call (hj := hj_led_piece) h_led_piece hr (da_cons (dv 3) (da_cons (dv 6) da_nil))) (da_cons (dv 2) (da_cons (dv 4) da_nil)))) da_nil)))) pss_nil) (pss_one (ps_ret (d_call (hj := hj_behind) h_behind hr (da_cons (dv 3) (da_cons (dv 7) da_nil)))))))))), ?_⟩)
  · obtain ⟨G, x, S, E, rv, fv, dv, rows, n, fr, rd, r, rfl, _⟩ := h
    rfl
  · obtain ⟨G, x, S, E1, rv, fv, dv, row, n, fr, rd, r, rfl, pen, hrv, hri, hfv, hfi, hdv, hdi, e, hz1, hz2, q⟩ := h
    have eoR : ∀ (H2 : Hp) (o5 o6 o7 : Option V), Same G H2 → EO K H2 [some (.ref x), some rv, some (.int n), some fv, some dv, o5, o6, o7] [none, some row, some (.int n), some fr, some rd, none, none, none] := fun H2 o5 o6 o7 s2 =>
      .skip (.keep (hrv.mono s2) (.keep (.int n) (.keep (hfv.mono s2) (.keep (hdv.mono s2) (.skip (.skip (.skip .nil)))))))
    -- a return of the frame that stands in its slot
    have fin : ∀ (G' H' : Hp) (fv' : V) (fr' : PyData) (o5 o6 o7 : Option V) (s1 e1 : List PyData) (Nx : L2.St → Hp → Prop), Same G G' → PenAt K (penC K) G' H' x (S ++ s1) (E1 ++ e1) → Is K G' fv' fr' → imm fr' = true → immAll s1 = true → r = (fr', s1, e1) →
        tRet (tD K (fV 3)) { nx := Nx, rt := Q } [some (.ref x), some rv, some (.int n), some fv', some dv, o5, o6, o7] H' := by
      intro G' H' fv' fr' o5 o6 o7 s1 e1 Nx sg pn i im is er
      refine ⟨[none, none, none, some fr', none, none, none, none], fr', .skip (.skip (.skip (.keep (i.mono pn.same) (.skip (.skip (.skip (.skip .nil))))))), rfl, fun u H3 s3 iu => ?_⟩
      obtain ⟨G3, sg3, pn3, ht⟩ := pn.grow s3
      subst er
      exact q u G3 H3 (sg.trans sg3) pn3 (iu.immT ht im) im is
    unfold goRow at e
    obtain ⟨b1, h1, e⟩ := Option.bind_eq_some_iff.mp e
    refine ⟨_, b1, eoR H _ _ _ pen.same, h1, fun H1 t1 => ?_⟩
    obtain ⟨G1, sg1, pen1, ht1⟩ := pen.grow t1
    cases b1 with
    | true =>
      -- again
      obtain ⟨N, hN, e⟩ := Option.bind_eq_some_iff.mp e
      obtain ⟨body, hb, e⟩ := Option.bind_eq_some_iff.mp e
      obtain ⟨Nd, hN1, hN2⟩ := Option.bind_eq_some_iff.mp hN
      obtain ⟨bd, hb1, hb2⟩ := Option.bind_eq_some_iff.mp hb
      have eN := intO_some hN2
      have eB := tupO_some hb2
      subst eN eB
      have hbi := gIx0_imm hri hb1
      split at e
      · rename_i hNr
        refine iteT ⟨_, [.int N], eoR H1 _ _ _ (pen.same.trans t1), ?_, fun vs H2 t2 i2 hl2 => ?_⟩
        · show (gIx row (.int 1)).bind (fun a => some [a]) = some [.int N]
          rw [show gIx row (.int 1) = some (.int N) from hN1]
          rfl
        · obtain ⟨G2, sg2, pen2, ht2⟩ := pen1.grow t2
          have ev : vs = [.int N] := by
            cases i2 with
            | cons a b =>
              cases b
              rw [a.intI]
          subst ev
          refine ⟨N, rfl, by omega, by omega, for_range (lo := 0) (n := N.toNat) (fun i σ' H' => ∃ G' fv' fr' o5 s1 e1 r2, σ' = [some (.ref x), some rv, some (.int n), some fv', some dv, o5, none, none] ∧ Same G G' ∧ PenAt K (penC K) G' H' x (S ++ s1) (E1 ++ e1) ∧ Is K G' fv' fr' ∧ imm fr' = true ∧ immAll s1 = true ∧ goAgain gr body n rd (N.toNat - i) i fr' = some r2 ∧ r = (r2.1, s1 ++ r2.2.1, e1 ++ r2.2.2))
            ⟨G2, fv, fr, none, [], [], r, rfl, sg1.trans sg2, by rw [List.append_nil, List.append_nil]; exact pen2, hfv.mono (sg1.trans sg2), hfi, rfl, e, rfl⟩ ?_ ?_⟩
          · rintro i σ' H' hi ⟨G', fv', fr', o5, s1, e1, r2, rfl, sg, pn, hf2, hf3, hs1, hr2, hrr⟩
            have hm : N.toNat - i = (N.toNat - (i + 1)) + 1 := by
              have : i < N.toNat := hi
              omega
            rw [hm] at hr2
            obtain ⟨rd1, hc1, hr2⟩ := Option.bind_eq_some_iff.mp hr2
            obtain ⟨rd2, hc2, hr2⟩ := Option.bind_eq_some_iff.mp hr2
            obtain ⟨e12, hrdi⟩ := immO_some hc2
            subst e12
            obtain ⟨a, ha, hr2⟩ := Option.bind_eq_some_iff.mp hr2
            obtain ⟨b, hb3, hr2⟩ := Option.map_eq_some_iff.mp hr2
            obtain ⟨dx, fs, hX, hl⟩ := go_lookup (m := "go_rows") pn (by decide +kernel) (by decide +kernel)
            have sgH := sg.trans pn.same
            refine ⟨_, rfl, x, dx, fs, rfl, hX, hl, [none, some row, some (.int n), some fr', some rd, some (.int (0 + (i : Int))), none, none], [.tuple body, .int (n + 1), fr', rd1], .skip (.keep (hrv.mono sgH) (.keep (.int n) (.keep (hf2.mono pn.same) (.keep (hdv.mono sgH) (.keep (.int _) (.skip (.skip .nil))))))), ?_, fun vs H3 s3 i3 hl3 => ?_⟩
            · have h4 : gCatT rd (.tuple [.int (i : Int)]) = some rd1 := hc1
              have h2 : gIx row (.int 2) = some (.tuple body) := hb1
              simp [f1, f2, fCons, fNil, fV, fC, gTu, gAdd, h2, h4]
            · obtain ⟨G3, sg3, pn3, ht3⟩ := pn.grow s3
              cases i3 with
              | cons j1 i3 =>
                cases i3 with
                | cons j2 i3 =>
                  cases i3 with
                  | cons j3 i3 =>
                    cases i3 with
                    | cons j4 i3 =>
                      cases i3
                      obtain rfl := j2.intI
                      refine ⟨G3, x, S ++ s1, E1 ++ e1, _, _, _, body, n + 1, fr', rd1, a, rfl, pn3, j1.immT ht3 hbi, hbi, j3.immT ht3 hf3, hf3, j4.immT ht3 hrdi, hrdi, ha, (by rw [hrr, ← hr2] at hz1; simp at hz1 ⊢; omega), (by rw [hrr, ← hr2] at hz2; simp at hz2 ⊢; omega), fun v G4 H4 sg4 pn4 iv im is2 => ?_⟩
                      refine ⟨G4, v, a.1, some (.int (0 + (i : Int))), s1 ++ a.2.1, e1 ++ a.2.2, b, rfl, sg.trans (sg3.trans sg4), ?_, iv, im, ?_, hb3, ?_⟩
                      · rw [← List.append_assoc, ← List.append_assoc]
                        exact pn4
                      · rw [immAll_append, hs1, is2]
                        rfl
                      · rw [hrr, ← hr2]
                        simp [List.append_assoc]
          · rintro σ' H' ⟨G', fv', fr', o5, s1, e1, r2, rfl, sg, pn, hf2, hf3, hs1, hr2, hrr⟩
            rw [Nat.sub_self] at hr2
            cases hr2
            rw [List.append_nil, List.append_nil] at hrr
            exact fin G' H' fv' fr' o5 none none s1 e1 _ sg pn hf2 hf3 hs1 hrr
      · cases e
    | false =>
      obtain ⟨b2, h2, e⟩ := Option.bind_eq_some_iff.mp e
      refine iteF ⟨_, b2, eoR H1 _ _ _ (pen.same.trans t1), h2, fun H2 t2 => ?_⟩
      obtain ⟨G2, sg2, pen2, ht2⟩ := pen1.grow t2
      have sg12 := sg1.trans sg2
      have tH2 := pen.same.trans (t1.trans t2)
      cases b2 with
      | true =>
        -- keep
        obtain ⟨body, hb, e⟩ := Option.bind_eq_some_iff.mp e
        obtain ⟨a, ha, e⟩ := Option.map_eq_some_iff.mp e
        obtain ⟨bd, hb1, hb2⟩ := Option.bind_eq_some_iff.mp hb
        have eB := tupO_some hb2
        subst eB
        have hbi := gIx0_imm hri hb1
        obtain ⟨dx, fs, hX, hl⟩ := go_lookup (m := "go_rows") pen2 (by decide +kernel) (by decide +kernel)
        refine iteT ⟨_, rfl, x, dx, fs, rfl, hX, hl, _, [.tuple body, .int (n + 1), fr, rd], eoR H2 _ _ _ tH2, ?_, fun vs H3 s3 i3 hl3 => ?_⟩
        · have h4 : gIx row (.int 1) = some (.tuple body) := hb1
          simp [f1, f2, fCons, fNil, fV, fC, gAdd, h4]
        · obtain ⟨G3, sg3, pn3, ht3⟩ := pen2.grow s3
          cases i3 with
          | cons j1 i3 =>
            cases i3 with
            | cons j2 i3 =>
              cases i3 with
              | cons j3 i3 =>
                cases i3 with
                | cons j4 i3 =>
                  cases i3
                  obtain rfl := j2.intI
                  refine ⟨G3, x, S, E1, _, _, _, body, n + 1, fr, rd, a, rfl, pn3, j1.immT ht3 hbi, hbi, j3.immT ht3 hfi, hfi, j4.immT ht3 hdi, hdi, ha, (by rw [← e] at hz1; exact hz1), (by rw [← e] at hz2; exact hz2), fun v G4 H4 sg4 pn4 iv im is2 => ?_⟩
                  have sgA := sg12.trans (sg3.trans sg4)
                  exact fin G4 H4 fv fr _ _ _ a.2.1 a.2.2 _ sgA pn4 (hfv.mono sgA) hfi is2 e.symm
      | false =>
        obtain ⟨b3, h3, e⟩ := Option.bind_eq_some_iff.mp e
        refine iteF ⟨_, b3, eoR H2 _ _ _ tH2, h3, fun H3 t3 => ?_⟩
        obtain ⟨G3, sg3, pen3, ht3⟩ := pen2.grow t3
        have sg13 := sg12.trans sg3
        have tH3 := tH2.trans t3
        cases b3 with
        | true =>
          -- ever
          obtain ⟨ev, hev, e⟩ := Option.map_eq_some_iff.mp e
          obtain ⟨dx, fs, hX, hl⟩ := go_lookup (m := "go_ever") pen3 (by decide +kernel) (by decide +kernel)
          refine iteT ⟨_, rfl, x, dx, fs, rfl, hX, hl, _, rfl, _, rfl, _, rfl, _, rfl, G3, x, S, E1, rv, fv, dv, row, n, fr, rd, ev, rfl, pen3, hrv.mono sg13, hri, hfv.mono sg13, hfi, hdv.mono sg13, hdi, hev, (by rw [← e] at hz2; simpa using hz2), fun G4 H4 sg4 pn4 => ?_⟩
          have sgA := sg13.trans sg4
          exact fin G4 H4 fv fr _ _ _ [] [ev] _ sgA (by rw [List.append_nil]; exact pn4) (hfv.mono sgA) hfi rfl e.symm
        | false =>
          -- a row without a block
          have e1 : goPlain row n fr rd = some r := e
          clear e
          unfold goPlain at e1
          obtain ⟨sd, hs1, e2⟩ := Option.bind_eq_some_iff.mp e1
          clear e1
          obtain ⟨l, hs2, e3⟩ := Option.bind_eq_some_iff.mp e2
          clear e2
          obtain ⟨sd0, hs3, hs4⟩ := Option.bind_eq_some_iff.mp hs1
          obtain ⟨es, hsi⟩ := immO_some hs4
          subst es
          have el := tupO_some hs2
          subst el
          split at e3
          · rename_i piece told
            obtain ⟨f, hf1, e4⟩ := Option.bind_eq_some_iff.mp e3
            clear e3
            obtain ⟨f0, hf2, hf3⟩ := Option.bind_eq_some_iff.mp hf1
            obtain ⟨ef, hfim⟩ := immO_some hf3
            subst ef
            refine iteF ⟨_, .tuple [piece, told], eoR H3 _ _ _ tH3, hs3, fun v H4 s4 i4 => ?_⟩
            obtain ⟨aa, xs, eav, hxs, hds⟩ := i4.tupI
            subst eav
            cases hds with
            | cons k1 hds =>
              cases hds with
              | cons k2 hds =>
                cases hds
                rename_i vp vt
                refine ⟨aa, [vp, vt], rfl, hxs, rfl, vp, [vt], rfl, vt, [], rfl, rfl, ?_⟩
                have pim : imm piece = true := (Bool.and_eq_true_iff.mp hsi).1
                have tim : imm told = true := (Bool.and_eq_true_iff.mp (Bool.and_eq_true_iff.mp hsi).2).1
                have eo4 : ∀ H5, Same H4 H5 → EO K H5 [some (.ref x), some rv, some (.int n), some fv, some dv, none, some vp, some vt] [none, some row, some (.int n), some fr, some rd, none, some piece, some told] := fun H5 s5 =>
                  .skip (.keep (hrv.mono (tH3.trans (s4.trans s5))) (.keep (.int n) (.keep (hfv.mono (tH3.trans (s4.trans s5))) (.keep (hdv.mono (tH3.trans (s4.trans s5))) (.skip (.keep (k1.mono s5) (.keep (k2.mono s5) .nil)))))))
                -- the return
                have fin2 : ∀ (G5 H5 : Hp) (s1 : List PyData) (Nx : L2.St → Hp → Prop), Same G G5 → PenAt K (penC K) G5 H5 x (S ++ s1) (E1 ++ []) → EO K H5 [some (.ref x), some rv, some (.int n), some fv, some dv, none, some vp, some vt] [none, some row, some (.int n), some fr, some rd, none, some piece, some told] → immAll s1 = true → r = (f0, s1, []) →
                    tRet (tD K (f1 behind_G (fCons (fV 3) (fCons (fV 7) fNil)))) { nx := Nx, rt := Q } [some (.ref x), some rv, some (.int n), some fv, some dv, none, some vp, some vt] H5 := by
                  intro G5 H5 s1 Nx sg5 pn5 eo5 is5 er
                  refine ⟨_, f0, eo5, hf2, fun u H6 s6 iu => ?_⟩
                  obtain ⟨G6, sg6, pn6, ht6⟩ := pn5.grow s6
                  subst er
                  exact q u G6 H6 (sg5.trans sg6) pn6 (iu.immT ht6 hfim) hfim is5
                refine ⟨_, !(pNone piece), eo4 H4 (Same.refl H4), ?_, fun H5 s5 => ?_⟩
                · cases piece <;> rfl
                · split at e4
                  · rename_i hp
                    cases e4
                    rw [hp]
                    obtain ⟨G5, sg5, pn5, ht5⟩ := pen3.grow (s4.trans s5)
                    exact iteF (fin2 G5 H5 [] _ (sg13.trans sg5) (by rw [List.append_nil, List.append_nil]; exact pn5) (eo4 H5 s5) rfl rfl)
                  · rename_i hp
                    rw [Bool.eq_false_iff.mpr hp]
                    obtain ⟨lp, hl1, e5⟩ := Option.bind_eq_some_iff.mp e4
                    clear e4
                    obtain ⟨t, hl2, e6⟩ := Option.bind_eq_some_iff.mp e5
                    clear e5
                    obtain ⟨et, htim⟩ := immO_some hl2
                    subst et
                    cases e6
                    obtain ⟨dx, l1, l2, zs, ys, p1, p2, p3, q1, q2, q3, g1, g2, g3, ne⟩ := pen3.ex
                    have s45 := s4.trans s5
                    refine iteT ⟨_, rfl, x, penC K, dx, _, _, rfl, s45 _ _ p1, C_cl, nS, penF_still _ _, .inl ⟨rfl, _, SqL.of (s45 _ _ p2)⟩, _, [.tuple [lp, .int n, rd]], eo4 H5 s5, ?_, fun vs H6 s6 i6 hl6 => ?_⟩
                    · have h4 : led_piece_G [fr, piece] = some lp := hl1
                      simp [f1, f2, fCons, fNil, fV, fC, gTu, h4]
                    · cases i6 with
                      | cons k6 i6 =>
                        cases i6
                        rename_i vy
                        have s46 := s45.trans s6
                        have hl16 := s46 _ _ p2
                        have zlen : zs.length = S.length := q1.length
                        refine ⟨l1, zs, vy, rfl, rfl, hl16, ?_, ?_⟩
                        · rw [zlen]
                          simp at hz1
                          exact Nat.lt_of_lt_of_le (by omega : S.length < 100001) (by decide)
                        · have ht6 : ∀ a us, SqT K H6 a us → SqT K (hid H6 x l1 l2) a us := hid_tup (s46 _ _ p1) hl16 (s46 _ _ p3)
                          have sg6 : Same G3 (hid H6 x l1 l2) := same_hid q3 s46 g1 g2 g3
                          have hne1 : x ≠ l1 := ne_of p1 p2 (by intro z; cases z)
                          have eH : hid (upd H6 l1 (.lst (zs ++ [vy]))) x l1 l2 = hid H6 x l1 l2 := hid_upd (.inr (.inl rfl))
                          refine fin2 (hid H6 x l1 l2) (upd H6 l1 (.lst (zs ++ [vy]))) [.tuple [lp, .int n, rd]] _ (sg13.trans sg6) ?_ ?_ (by unfold immAll; rw [htim]; rfl) rfl
                          · rw [List.append_nil]
                            refine ⟨dx, l1, l2, zs ++ [vy], ys, ?_, upd_same, ?_, (q1.mono sg6).append (.one (k6.immT ht6 htim)), q2.mono sg6, ?_, hid_at (.inl rfl), hid_at (.inr (.inl rfl)), hid_at (.inr (.inr rfl)), ne⟩
                            · rw [upd_ne hne1]
                              exact s46 _ _ p1
                            · rw [upd_ne ne.symm]
                              exact s46 _ _ p3
                            · rw [← eH]
                              exact hid_same _ _ _ _
                          · have eo6 := eo4 H6 (s5.trans s6)
                            refine .skip (.keep ((hrv.mono (tH3.trans (s4.trans (s5.trans s6)))).immU hl16 hri) (.keep (.int n) (.keep ((hfv.mono (tH3.trans (s4.trans (s5.trans s6)))).immU hl16 hfi) (.keep ((hdv.mono (tH3.trans (s4.trans (s5.trans s6)))).immU hl16 hdi) (.skip (.keep ((k1.mono (s5.trans s6)).immU hl16 pim) (.keep ((k2.mono (s5.trans s6)).immU hl16 tim) .nil)))))))
          · cases e3
end
end Arc
set_option Elab.async false
set_option linter.all false
set_option maxRecDepth 100000
set_option maxHeartbeats 4000000
namespace Arc
open PySem L2
section
variable {P : Program} {w : World} {K : PySem.W.Frag} {mg : Str → Option Value} {base : Heap}
theorem ok_Pen_go_ever (B : Bs w K mg) (T : Tp w K mg) {j k : Nat} {gr : GoR} (hj_go_rows : j ≤ k) (hj_move : 24 ≤ k) (hj_undone : 6 ≤ k) (hj_behind : 6 ≤ k) (h_move : Fc P w K mg base 24 "move" ["rows"] move_G) (h_undone : Fc P w K mg base 6 "undone" ["frame"] undone_G) (h_behind : Fc P w K mg base 6 "behind" ["one", "other"] behind_G)
    (Mi : Mc P w K mg base 1 "Pen" "__init__" ["self"] (spPenInit K (penC K)))
    (Mr : Mc P w K mg base j "Pen" "go_rows" ["self", "rows", "number", "frame", "rounds"] (spGoRows K (penC K) gr)) :
    Mc P w K mg base (k + 1) "Pen" "go_ever" ["self", "row", "number", "frame", "rounds"] (spGoEver K (penC K) gr) := by
  obtain ⟨fd, Fd⟩ := B.defs (d := d_Pen_go_ever) (mem_fn 33 rfl)
  replace Fd : FnP K "go_ever" "Pen.go_ever" s_Pen_go_ever [] (He.ma K (He.ga K "Pen") "go_ever") fd := Fd
  have C_cl := B.cls (x := "Pen") (mem_fa 68 rfl)
  have MK_Pen := B.mkr (x := "Pen") (mem_fa 69 rfl)
  have MG_Pen := B.glo (x := "Pen") (mem_fa 67 rfl)
  have nS := B.noat (x := "Pen") (f := "still") (mem_fa 76 rfl)
  have nE := B.noat (x := "Pen") (f := "ends") (mem_fa 77 rfl)
  have M_go_rows := B.meth (x := "Pen") (m := "go_rows") (mem_fa 81 rfl)
  obtain ⟨fr_, G_go_rows, B_go_rows⟩ := Mr.ex
  obtain ⟨fi_, GI_Pen, BI_Pen⟩ := Mi.ex
  have hjI_Pen : 1 + 1 ≤ k := by omega
  refine ⟨fd, ?_, FunD.bindsN (ps := ["self", "row", "number", "frame", "rounds"]) Fd fun _ _ _ _ _ _ us hl => match us, hl with | [_, _, _, _, _], _ => rfl⟩
  refine Fd.ok (k := k) sc_Pen_go_ever (fun vs H Q E h => ?_) (fun cdv A outer s H vs Q E hr h => ⟨_, PSs.nox (pss_cons (ps_set (i := 5) sc_Pen_go_ever.nd rfl (Or.inl rfl) (pe_make0 MK_Pen GI_Pen (hr.mono hjI_Pen) rfl MG_Pen BI_Pen .nil pass0)) (pss_cons (ps_expr (pe_meth (pv 5) C_cl M_go_rows G_go_rows (hr.mono hj_go_rows) B_go_rows .nil pass0 (da_cons (d_ix (dv 1) d_int) (da_cons (d_op op_add o_add (dv 2) d_int) (da_cons (dv 3) (da_cons (d_tup da_nil) da_nil)))))) (pss_cons (ps_set (i := 6) sc_Pen_go_ever.nd rfl (Or.inl rfl) (d_call (hj := hj_behind) h_behind hr (da_cons (d_call (hj := hj_behind) h_behind hr (da_cons (dv 3) (da_cons (d_call (hj := hj_move) h_move hr (da_cons (d_ix (dv 1) d_int) da_nil)) da_nil))) (da_cons (d_call (hj := hj_undone) h_undone hr (da_cons (dv 3) da_nil)) da_nil)))) (pss_one (ps_expr (pe_bm PySem.F.plainAttrs_list PySem.F.slot_list_append PySem.F.type_list_append mt_append (pe_fld (pv 0) rfl) (pa_cons (pe_tup (pa_cons (pv 6) (pa_cons (pv 2) (pa_cons (pv 4) (pa_cons (pe_fld (pv 5) rfl) pa_nil))))) pa_nil))))))), ?_⟩)
  · obtain ⟨G, x, S, E, rv, fv, dv, rows, n, fr, rd, r, rfl, _⟩ := h
    rfl
  · obtain ⟨G, x, S, E1, rv, fv, dv, row, n, fr, rd, e, rfl, pen, hrv, hri, hfv, hfi, hdv, hdi, he, hz, q⟩ := h
    unfold goEver at he
    obtain ⟨body, hb, he2⟩ := Option.bind_eq_some_iff.mp he
    clear he
    obtain ⟨r, hr1, he3⟩ := Option.bind_eq_some_iff.mp he2
    clear he2
    obtain ⟨bd, hb1, hb2⟩ := Option.bind_eq_some_iff.mp hb
    have eB := tupO_some hb2
    subst eB
    have hbi := gIx0_imm hri hb1
    split at he3
    · rename_i hlen
      obtain ⟨ld, hl1, he4⟩ := Option.bind_eq_some_iff.mp he3
      clear he3
      cases he4
      obtain ⟨m, hm1, hl2⟩ := Option.bind_eq_some_iff.mp hl1
      obtain ⟨fm, hm2, hl3⟩ := Option.bind_eq_some_iff.mp hl2
      obtain ⟨un, hm3, hl4⟩ := Option.bind_eq_some_iff.mp hl3
      obtain ⟨ld0, hm4, hl5⟩ := Option.bind_eq_some_iff.mp hl4
      obtain ⟨eld, hldi⟩ := immO_some hl5
      subst eld
      have eoR : ∀ (H2 : Hp) (o5 o6 : Option V), Same G H2 → EO K H2 [some (.ref x), some rv, some (.int n), some fv, some dv, o5, o6] [none, some row, some (.int n), some fr, some rd, none, none] := fun H2 o5 o6 s2 =>
        .skip (.keep (hrv.mono s2) (.keep (.int n) (.keep (hfv.mono s2) (.keep (hdv.mono s2) (.skip (.skip .nil))))))
      -- other = Pen()
      intro x' dx' nx' ndx' nex
      have sG1 : Same H (upd H dx' (.own x')) := same_new ndx'
      refine ⟨upd H dx' (.own x'), x', dx', rfl, same_new (by rw [upd_ne nex.symm]; exact nx'), by rw [upd_ne nex.symm]; exact nx', upd_same, fun H2 pn => ⟨rfl, ?_⟩⟩
      have s02 : Same H H2 := sG1.trans pn.same
      obtain ⟨dxo, fso, hXo, hlo⟩ := go_lookup (m := "go_rows") pn (by decide +kernel) (by decide +kernel)
      refine ⟨_, rfl, x', dxo, fso, rfl, hXo, hlo, _, [.tuple body, .int (n + 1), fr, .tuple []], eoR H2 _ _ (pen.same.trans s02), ?_, fun vs H3 s3 i3 hl3 => ?_⟩
      · have h4 : gIx row (.int 1) = some (.tuple body) := hb1
        simp [f1, f2, fCons, fNil, fV, fC, gTu, gAdd, h4]
      · obtain ⟨G3, sg3, pn3, ht3⟩ := pn.grow s3
        cases i3 with
        | cons j1 i3 =>
          cases i3 with
          | cons j2 i3 =>
            cases i3 with
            | cons j3 i3 =>
              cases i3 with
              | cons j4 i3 =>
                cases i3
                obtain rfl := j2.intI
                refine ⟨G3, x', [], [], _, _, _, body, n + 1, fr, .tuple [], r, rfl, pn3, j1.immT ht3 hbi, hbi, j3.immT ht3 hfi, hfi, j4.immT ht3 rfl, rfl, hr1, by simpa using hlen.1, by simpa using hlen.2, fun v G4 H4 sg4 pn4 iv im is4 => ?_⟩
                rw [List.nil_append, List.nil_append] at pn4
                have s0G4 : Same H G4 := sG1.trans (sg3.trans sg4)
                have s04 : Same H H4 := s0G4.trans pn4.same
                -- leads
                refine ⟨_, ld0, eoR H4 _ _ (pen.same.trans s04), ?_, fun u H5 s5 iu => ?_⟩
                · have h4 : gIx row (.int 1) = some (.tuple body) := hb1
                  simp [f1, f2, fCons, fNil, fV, fC, h4, hm1, hm2, hm3, hm4]
                obtain ⟨G5, sg5, pn5, ht5⟩ := pn4.grow s5
                have s0G5 : Same H G5 := s0G4.trans sg5
                have s05 : Same H H5 := s04.trans s5
                obtain ⟨dx, l1, l2, zs, ys, p1, p2, p3, q1, q2, q3, g1, g2, g3, ne⟩ := pen.ex
                obtain ⟨dxp, k1, k2, ws, us, r1, r2, r3, t1, t2, t3, f1', f2', f3', ne'⟩ := pn5.ex
                refine ⟨_, rfl, x, penC K, dx, _, _, rfl, s05 _ _ p1, C_cl, nE, penF_ends _ _, .inl ⟨rfl, _, SqL.of (s05 _ _ p3)⟩, ?_⟩
                refine ⟨_, rfl, _, rfl, _, rfl, _, rfl, x', penC K, dxp, _, _, rfl, r1, C_cl, nS, penF_still _ _, (by show 4 ≤ sizeLine; decide +kernel), fun p np => ?_⟩
                have np' : H5 p = none := np
                have nx0 : ∀ {a o}, H5 a = some o → a ≠ p := fun h => ne_of_none h np'
                have s56 : Same H5 (upd H5 p (.tup [u, .int n, dv, .ref k1])) := same_new np'
                have P1 := s56 _ _ (s05 _ _ p1)
                have P2 := s56 _ _ (s05 _ _ p2)
                have P3 := s56 _ _ (s05 _ _ p3)
                refine ⟨l2, ys, .ref p, rfl, rfl, P3, ?_, ?_⟩
                · rw [q2.length]
                  exact Nat.lt_of_lt_of_le (by omega : E1.length < 100001) (by decide)
                · have s06 : Same H (upd H5 p (.tup [u, .int n, dv, .ref k1])) := s05.trans s56
                  have ht6 : ∀ a us, SqT K (upd H5 p (.tup [u, .int n, dv, .ref k1])) a us → SqT K (hid (upd H5 p (.tup [u, .int n, dv, .ref k1])) x l1 l2) a us := hid_tup P1 P2 P3
                  have sg6 : Same G (hid (upd H5 p (.tup [u, .int n, dv, .ref k1])) x l1 l2) := same_hid q3 s06 g1 g2 g3
                  have hne1 : x ≠ l1 := ne_of p1 p2 (by intro z; cases z)
                  have hne2 : x ≠ l2 := ne_of p1 p3 (by intro z; cases z)
                  have eH : hid (upd (upd H5 p (.tup [u, .int n, dv, .ref k1])) l2 (.lst (ys ++ [.ref p]))) x l1 l2 = hid (upd H5 p (.tup [u, .int n, dv, .ref k1])) x l1 l2 := hid_upd (.inr (.inr rfl))
                  have hk : ¬ (k1 = x ∨ k1 = l1 ∨ k1 = l2) := by
                    rintro (z | z | z)
                    · rw [z] at f2'
                      rw [s0G5 _ _ p1] at f2'
                      cases f2'
                    · rw [z] at f2'
                      rw [s0G5 _ _ p2] at f2'
                      cases f2'
                    · rw [z] at f2'
                      rw [s0G5 _ _ p3] at f2'
                      cases f2'
                  have hp : ¬ (p = x ∨ p = l1 ∨ p = l2) := by
                    rintro (z | z | z)
                    · exact nx0 (s05 _ _ p1) z.symm
                    · exact nx0 (s05 _ _ p2) z.symm
                    · exact nx0 (s05 _ _ p3) z.symm
                  have newI : Is K (hid (upd H5 p (.tup [u, .int n, dv, .ref k1])) x l1 l2) (.ref p) (.tuple [ld0, .int n, rd, .list r.2.1]) := by
                    refine .tup (.inl (.inl (by rw [hid_ne hp]; exact upd_same))) (.cons ((iu.mono s56).immT ht6 hldi) (.cons (.int n) (.cons ((hdv.mono (pen.same.trans s06)).immT ht6 hdi) (.cons (.lst (by rw [hid_ne hk]; exact s56 _ _ r2) ?_) .nil))))
                    exact (t1.mono (t3.trans s56)).immT ht6 is4
                  refine q (hid (upd H5 p (.tup [u, .int n, dv, .ref k1])) x l1 l2) _ sg6 ⟨dx, l1, l2, zs, ys ++ [.ref p], ?_, ?_, upd_same, q1.mono sg6, (q2.mono sg6).append (.one newI), ?_, hid_at (.inl rfl), hid_at (.inr (.inl rfl)), hid_at (.inr (.inr rfl)), ne⟩
                  · rw [upd_ne hne2]
                    exact P1
                  · rw [upd_ne ne]
                    exact P2
                  · rw [← eH]
                    exact hid_same _ _ _ _
    · cases he3
end
end Arc
set_option Elab.async false
set_option linter.all false
set_option maxRecDepth 100000
set_option maxHeartbeats 4000000
namespace Arc
open PySem L2
section
variable {P : Program} {w : World} {K : PySem.W.Frag} {mg : Str → Option Value} {base : Heap}
theorem Mc.none {k : Nat} {x m : Str} {ps : List Str} {sp : Sp} {fd : FuncData} (hn : ∀ vs H Q E, ¬ sp vs H Q E) (hb : Binds K fd ps []) : Mc P w K mg base k x m ps sp :=
  ⟨fd, ⟨fun vs H Q E h => (hn _ _ _ _ h).elim, fun A outer s H args us vs Q E _ _ _ _ h => (hn _ _ _ _ h).elim⟩, hb⟩
theorem okR_go_rows (B : Bs w K mg) (T : Tp w K mg) (h_shaped : Fc P w K mg base 8 "shaped" ["row"] shaped_G) (h_led_piece : Fc P w K mg base 6 "led_piece" ["frame", "piece"] led_piece_G) (h_behind : Fc P w K mg base 6 "behind" ["one", "other"] behind_G)
    (h_move : Fc P w K mg base 24 "move" ["rows"] move_G) (h_undone : Fc P w K mg base 6 "undone" ["frame"] undone_G) (h_lines_in : Fc P w K mg base 8 "lines_in" ["rows"] lines_in_G) :
    ∀ n : Nat, Mc P w K mg base (26 + 3 * n) "Pen" "go_rows" ["self", "rows", "number", "frame", "rounds"] (spGoRows K (penC K) (goRowsR n))
  | 0 => by
    obtain ⟨fd, Fd⟩ := B.defs (d := d_Pen_go_rows) (mem_fn 31 rfl)
    replace Fd : FnP K "go_rows" "Pen.go_rows" s_Pen_go_rows [] (He.ma K (He.ga K "Pen") "go_rows") fd := Fd
    exact Mc.none (fun vs H Q E ⟨G, x, S, E1, rv, fv, dv, rows, n, fr, rd, r, _, _, _, _, _, _, _, _, e, _⟩ => nomatch e) (FunD.bindsN (ps := ["self", "rows", "number", "frame", "rounds"]) Fd fun _ _ _ _ _ _ us hl => match us, hl with | [_, _, _, _, _], _ => rfl)
  | n + 1 =>
    have Mr := okR_go_rows B T h_shaped h_led_piece h_behind h_move h_undone h_lines_in n
    have Me := ok_Pen_go_ever B T (k := 26 + 3 * n) (Nat.le_refl _) (by omega) (by omega) (by omega) h_move h_undone h_behind (ok_Pen_init B T) Mr
    have Mo := ok_Pen_go_row B T (k := 26 + 3 * n + 1) (Nat.le_succ _) (Nat.le_refl _) (by omega) (by omega) (by omega) h_shaped h_led_piece h_behind Mr Me
    ok_Pen_go_rows B T (k := 26 + 3 * n + 2) (Nat.le_refl _) (by omega) h_lines_in Mo
/-- what drawn answers -/
def drawn_G : List PyData → Option PyData
  | [.tuple rows] => ((done_by_G [.tuple rows]).bind intO).bind fun n => if n ≤ 300 ∧ immAll rows = true then ((first_G []).bind immO).bind fun f => (goRowsR 8 rows 0 f (.tuple [])).bind fun r =>
      if r.2.1.length ≤ 100000 ∧ r.2.2.length ≤ 100000 then some (.tuple [.list r.2.1, .list r.2.2]) else none
    else none
  | _ => none
theorem sc_drawn : FnScope ["program", "pen"] ["program"] (defScope s_drawn) := ⟨rfl, rfl, rfl, by decide +kernel, rfl, by decide +kernel, by decide +kernel⟩
theorem ok_drawn (B : Bs w K mg) (T : Tp w K mg) (h_done_by : Fc P w K mg base 8 "done_by" ["rows"] done_by_G) (h_first : Fc P w K mg base 1 "first" [] first_G)
    (Mi : Mc P w K mg base 1 "Pen" "__init__" ["self"] (spPenInit K (penC K)))
    (Mr : Mc P w K mg base 50 "Pen" "go_rows" ["self", "rows", "number", "frame", "rounds"] (spGoRows K (penC K) (goRowsR 8))) : Fc P w K mg base 51 "drawn" ["program"] drawn_G := by
  obtain ⟨fd, Fd⟩ := B.defs (d := d_drawn) (mem_fn 34 rfl)
  replace Fd : FnP K "drawn" "drawn" s_drawn [] (He.ga K "drawn") fd := Fd
  have C_cl := B.cls (x := "Pen") (mem_fa 68 rfl)
  have MK_Pen := B.mkr (x := "Pen") (mem_fa 69 rfl)
  have MG_Pen := B.glo (x := "Pen") (mem_fa 67 rfl)
  have nS := B.noat (x := "Pen") (f := "still") (mem_fa 76 rfl)
  have nE := B.noat (x := "Pen") (f := "ends") (mem_fa 77 rfl)
  have M_go_rows := B.meth (x := "Pen") (m := "go_rows") (mem_fa 81 rfl)
  obtain ⟨fr_, G_go_rows, B_go_rows⟩ := Mr.ex
  obtain ⟨fi_, GI_Pen, BI_Pen⟩ := Mi.ex
  have hjI_Pen : 1 + 1 ≤ 50 := by decide
  have hj_go_rows : 50 ≤ 50 := by decide
  have hj_done_by : 8 ≤ 50 := by decide
  have hj_first : 1 ≤ 50 := by decide
  refine ⟨He.ga K "drawn", fd, ?_, B.glo (mem_fa 30 rfl), Fd.kp, FunD.bindsN (ps := ["program"]) Fd fun _ _ _ _ _ _ us hl => match us, hl with | [_], _ => rfl⟩
  refine Fd.ok (k := 50) sc_drawn (fun vs H Q E ⟨ds, r, a, b, c⟩ => ?_) (fun cdv A outer s H vs Q E hr ⟨ds, r, a, b, c⟩ => ⟨_, PSs.nox (pss_cons (ps_if (dt_cmp op_gt o_gt (d_call (hj := hj_done_by) h_done_by hr (da_cons (dv 0) da_nil)) (d_glob T.c_MOST_DONE)) (pss_one ps_never) pss_nil) (pss_cons (ps_set (i := 1) sc_drawn.nd rfl (Or.inl rfl) (pe_make0 MK_Pen GI_Pen (hr.mono hjI_Pen) rfl MG_Pen BI_Pen .nil pass0)) (pss_cons (ps_expr (pe_meth (pv 1) C_cl M_go_rows G_go_rows (hr.mono hj_go_rows) B_go_rows .nil pass0 (da_cons (dv 0) (da_cons d_int (da_cons (d_call0 (hj := hj_first) h_first hr) (da_cons (d_tup da_nil) da_nil)))))) (pss_one (ps_ret (pe_tup (pa_cons (pe_fld (pv 1) rfl) (pa_cons (pe_fld (pv 1) rfl) pa_nil)))))))), ?_⟩)
  · unfold drawn_G at b
    split at b
    · rw [a.length]
      rfl
    · cases b
  · unfold drawn_G at b
    split at b
    · rename_i rows
      obtain ⟨n, hn, b2⟩ := Option.bind_eq_some_iff.mp b
      clear b
      obtain ⟨nd, hn1, hn2⟩ := Option.bind_eq_some_iff.mp hn
      obtain rfl := intO_some hn2
      split at b2
      · rename_i hle
        obtain ⟨f, hf, b3⟩ := Option.bind_eq_some_iff.mp b2
        clear b2
        obtain ⟨f0, hf1, hf2⟩ := Option.bind_eq_some_iff.mp hf
        obtain ⟨ef, hfi⟩ := immO_some hf2
        subst ef
        obtain ⟨g, hg, b4⟩ := Option.bind_eq_some_iff.mp b3
        clear b3
        split at b4
        · rename_i hlen
          cases b4
          cases a with
          | cons i1 a =>
            cases a
            rename_i pv0
            refine ⟨[some (.tuple rows), none], false, .keep i1 (.skip .nil), ?_, fun H1 s1 => iteF ?_⟩
            · have : ¬ (300 < n) := by omega
              simp [f1, f2, fCons, fNil, fV, fC, hn1, gGt, gLt, gB, this]
            · intro x' dx' nx' ndx' nex
              have sG1 : Same H1 (upd H1 dx' (.own x')) := same_new ndx'
              refine ⟨upd H1 dx' (.own x'), x', dx', rfl, same_new (by rw [upd_ne nex.symm]; exact nx'), by rw [upd_ne nex.symm]; exact nx', upd_same, fun H2 pn => ⟨rfl, ?_⟩⟩
              have s02 : Same H H2 := s1.trans (sG1.trans pn.same)
              obtain ⟨dxo, fso, hXo, hlo⟩ := go_lookup (m := "go_rows") pn (by decide +kernel) (by decide +kernel)
              refine ⟨_, rfl, x', dxo, fso, rfl, hXo, hlo, [some (.tuple rows), none], [.tuple rows, .int 0, f0, .tuple []], .keep (i1.mono s02) (.skip .nil), ?_, fun vs H3 s3 i3 hl3 => ?_⟩
              · simp [f1, f2, fCons, fNil, fV, fC, gTu, hf1]
              · obtain ⟨G3, sg3, pn3, ht3⟩ := pn.grow s3
                cases i3 with
                | cons j1 i3 =>
                  cases i3 with
                  | cons j2 i3 =>
                    cases i3 with
                    | cons j3 i3 =>
                      cases i3 with
                      | cons j4 i3 =>
                        cases i3
                        obtain rfl := j2.intI
                        refine ⟨G3, x', [], [], _, _, _, rows, 0, f0, .tuple [], g, rfl, pn3, j1.immT ht3 hle.2, hle.2, j3.immT ht3 hfi, hfi, j4.immT ht3 rfl, rfl, hg, by simpa using hlen.1, by simpa using hlen.2, fun v G4 H4 sg4 pn4 iv im is4 => ?_⟩
                        rw [List.nil_append, List.nil_append] at pn4
                        have s04 : Same H H4 := s1.trans (sG1.trans (sg3.trans (sg4.trans pn4.same)))
                        obtain ⟨dx, l1, l2, zs, ys, p1, p2, p3, q1, q2, q3, _⟩ := pn4.ex
                        refine ⟨_, rfl, x', penC K, dx, _, _, rfl, p1, C_cl, nS, penF_still _ _, ?_⟩
                        refine ⟨_, rfl, x', penC K, dx, _, _, rfl, p1, C_cl, nE, penF_ends _ _, (by show 2 ≤ sizeLine; decide +kernel), fun p np => ?_⟩
                        have np' : H4 p = none := np
                        have s45 : Same H4 (upd H4 p (.tup [.ref l1, .ref l2])) := same_new np'
                        exact c _ _ (s04.trans s45) (.tup (.inl (.inl upd_same)) (.cons (.lst (s45 _ _ p2) (q1.mono (q3.trans s45))) (.cons (.lst (s45 _ _ p3) (q2.mono (q3.trans s45))) .nil)))
        · cases b4
      · cases b2
    · cases b
end
end Arc
set_option Elab.async false
set_option linter.all false
set_option maxRecDepth 100000
set_option maxHeartbeats 4000000
namespace Arc
open PySem L2
/-! ### a comprehension in an assignment, the other slots kept -/
theorem rs_setLc {X : Cx} {tg iter elt : Expr} {ifs : List Expr} {g : TG} {tgt : PyData → Rho → Option Rho} {fl : Rho → Option (List PyData)} {ft : Rho → Option Bool} {fe : Rho → Option PyData} {scope : Scope} {own : List (Str × Nat)} {pos spos : Pos} {i : Nat} {y : Str} {py : Pos} (hN : X.N.Nodup) (hsw : swapsWith (.ListComp elt [⟨tg, iter, ifs, 0⟩] scope pos) (some (.Name y py)) spos.line X.env = pure true) (hi : LcI X tg iter g tgt fl) (ok : BlkOk X.N X.env.scope scope own)
    (hg : ∀ (s : Shared) (H : Hp) (C : Addr) (cl : List (Str × Addr)) (fp : List Addr), PG (X.blk s H scope (compEnvC scope cl C X.env) fp) tg g) (htg : TgLc X.K g tgt (own.map (·.2))) (ht : ∀ (s : Shared) (H : Hp) (C : Addr) (cl : List (Str × Addr)) (fp : List Addr), PTs (X.blk s H scope (compEnvC scope cl C X.env) fp) ifs (tDT X.K ft))
    (he : ∀ (s : Shared) (H : Hp) (C : Addr) (cl : List (Str × Addr)) (fp : List Addr), PE (X.blk s H scope (compEnvC scope cl C X.env) fp) elt (tD X.K fe)) (hy : X.N[i]? = some y := by rfl) (hyl : X.env.scope.names.lookup y = some .local := by rfl) (hc : X.calm = true := by rfl) (hs : ∀ x, foldedSetIterable iter X.env x = pure x := by intro _; rfl) :
    PS X (.Assign [.Name y py] (.ListComp elt [⟨tg, iter, ifs, 0⟩] scope pos) spos) (fun D σ H => tD X.K (fLc (own.map (·.2)) tgt ft fe fl) σ H fun v H1 => D.nx (σ.set i (some v)) H1) := by
  obtain ⟨wi, h1, h2⟩ := hi.ex
  exact psW (L2.ps_setLc hc hN hy hyl hsw h1 ok hg ht he hs) fun D σ H h => h2 _ _ _ htg σ H _ h
theorem gEq_int (a b : Int) : gEq (.int a) (.int b) = some (.bool (decide (a = b))) := by
  have h : (SeqAt.shaped (.int a) && SeqAt.shaped (.int b)) = true := by rfl
  unfold gEq
  rw [if_pos h]
  simp [PyData.eqv]
  rfl
/-! ### the looker -/
abbrev LkR := List PyData → Int → Bool → Option Unit
def blkW (row : PyData) : Option Bool := (word_of_G [row]).bind fun z => (gIn z (.tuple [.str "again", .str "keep", .str "ever"])).bind gB
def lastD (row : PyData) : Option PyData := (gLen row).bind fun n => (gSub n (.int 1)).bind fun i => gIx row i
def lookInto (lk : LkR) (row : PyData) (deep : Int) (within : Bool) : Option Unit :=
  (isW row "ever").bind fun en => ((is_block_G [row]).bind gB).bind fun ib => if (ib && !decide (deep = 4) && !(within && en)) = true then
    ((lastD row).bind tupO).bind fun body => (lk body (deep + 1) (within || en)).bind fun _ => if en = true then ((goes_on_G [.tuple body]).bind gB).bind fun g => if g = true then some () else none else some ()
    else none
def lookOne (lk : LkR) (row : PyData) (deep : Int) (within : Bool) : Option Unit :=
  (blkW row).bind fun b => if b = true then lookInto lk row deep within else ((is_plain_row_G [row]).bind gB).bind fun p => if p = true then some () else none
def lookL (lk : LkR) : LkR
  | [], _, _ => some ()
  | row :: r, deep, within => (lookOne lk row deep within).bind fun _ => lookL lk r deep within
def lookR : Nat → LkR
  | 0 => fun _ _ _ => none
  | n + 1 => lookL (lookR n)
abbrev lookC (K : PySem.W.Frag) : Addr := He.ga K "Looker"
def lookF (n : Int) : List (Str × V) := [("number", .int n)]
structure LkAt (C : Addr) (G H : Hp) (x : Addr) : Prop where
  ex : ∃ dx n, H x = some (.ins C dx (lookF n)) ∧ Same G H ∧ G x = none
def hid1 (H : Hp) (x : Addr) : Hp := fun a => if a = x then none else H a
theorem hid1_same (H : Hp) (x : Addr) : Same (hid1 H x) H := fun a o e => by
  unfold hid1 at e
  split at e
  · cases e
  · exact e
theorem hid1_tup {K : PySem.W.Frag} {H : Hp} {C x dx : Addr} {fs : List (Str × V)} (h1 : H x = some (.ins C dx fs)) : ∀ a zs, SqT K H a zs → SqT K (hid1 H x) a zs := fun a zs h => by
  have ne : ∀ {o : HO}, H a = some o → (∀ C dx fs, o ≠ .ins C dx fs) → a ≠ x := fun {o} e n1 z => by
    subst z
    rw [h1] at e
    exact n1 _ _ _ (Option.some.inj e).symm
  rcases h with (h | ⟨o, h⟩) | h
  · exact .inl (.inl (by unfold hid1; rw [if_neg (ne h (by intro _ _ _ z; cases z))]; exact h))
  · exact .inl (.inr ⟨o, by unfold hid1; rw [if_neg (ne h (by intro _ _ _ z; cases z))]; exact h⟩)
  · exact .inr h
theorem LkAt.grow {K : PySem.W.Frag} {C : Addr} {G H H2 : Hp} {x : Addr} (p : LkAt C G H x) (s : Same H H2) : ∃ G2, Same G G2 ∧ LkAt C G2 H2 x ∧ ∀ a zs, SqT K H2 a zs → SqT K G2 a zs := by
  obtain ⟨dx, n, h1, sm, g1⟩ := p.ex
  refine ⟨hid1 H2 x, fun a o e => ?_, ⟨dx, n, s _ _ h1, hid1_same _ _, if_pos rfl⟩, hid1_tup (s _ _ h1)⟩
  have hn : a ≠ x := fun z => by
    subst z
    rw [g1] at e
    cases e
  unfold hid1
  rw [if_neg hn]
  exact s _ _ (sm _ _ e)
theorem LkAt.same {C : Addr} {G H : Hp} {x : Addr} (p : LkAt C G H x) : Same G H := by
  obtain ⟨dx, n, h1, sm, g1⟩ := p.ex
  exact sm
theorem LkAt.put {C dx : Addr} {G H : Hp} {x : Addr} {n : Int} (h : Same G H) (g : G x = none) : LkAt C G (upd H x (.ins C dx (lookF n))) x :=
  ⟨dx, n, upd_same, same_mut h g, g⟩
theorem lookF_no (n : Int) {m : Str} (h : ¬ m = "number") : (lookF n).lookup m = none := by
  have hb : (m == ("number" : Str)) = false := beq_eq_false_iff_ne.mpr h
  simp only [lookF, List.lookup, hb]
def spLkInit (C : Addr) : Sp := fun vs H Q _ => ∃ (G : Hp) (x dx : Addr), vs = [.ref x] ∧ Same G H ∧ G x = none ∧ H x = some (.ins C dx []) ∧ ∀ H', LkAt C G H' x → Q .non H'
def spLookAt (K : PySem.W.Frag) (C : Addr) (lk : LkR) : Sp := fun vs H Q _ => ∃ (G : Hp) (x : Addr) (rv : V) (rows : List PyData) (deep : Int) (within : Bool),
  vs = [.ref x, rv, .int deep, .bl within] ∧ LkAt C G H x ∧ Is K G rv (.tuple rows) ∧ immAll rows = true ∧ lk rows deep within = some () ∧ ∀ G' H', Same G G' → LkAt C G' H' x → Q .non H'
def spLookInto (K : PySem.W.Frag) (C : Addr) (lk : LkR) : Sp := fun vs H Q _ => ∃ (G : Hp) (x : Addr) (rv : V) (row : PyData) (hv : V) (deep : Int) (within : Bool),
  vs = [.ref x, rv, hv, .int deep, .bl within] ∧ LkAt C G H x ∧ Is K G rv row ∧ imm row = true ∧ lookInto lk row deep within = some () ∧ ∀ G' H', Same G G' → LkAt C G' H' x → Q .non H'
section
variable {P : Program} {w : World} {K : PySem.W.Frag} {mg : Str → Option Value} {base : Heap}
theorem sc_Looker_init : FnScope ["self"] ["self"] (defScope s_Looker_init) := ⟨rfl, rfl, rfl, by decide +kernel, rfl, by decide +kernel, by decide +kernel⟩
theorem sc_Looker_look_at : FnScope ["self", "rows", "deep", "within", "row", "here"] ["self", "rows", "deep", "within"] (defScope s_Looker_look_at) := ⟨rfl, rfl, rfl, by decide +kernel, rfl, by decide +kernel, by decide +kernel⟩
theorem sc_Looker_look_into : FnScope ["self", "row", "here", "deep", "within", "endless", "rows"] ["self", "row", "here", "deep", "within"] (defScope s_Looker_look_into) := ⟨rfl, rfl, rfl, by decide +kernel, rfl, by decide +kernel, by decide +kernel⟩
theorem ok_Looker_init (B : Bs w K mg) (T : Tp w K mg) : Mc P w K mg base 1 "Looker" "__init__" ["self"] (spLkInit (lookC K)) := by
  obtain ⟨fd, Fd⟩ := B.defs (d := d_Looker_init) (mem_fn 43 rfl)
  replace Fd : FnP K "__init__" "Looker.__init__" s_Looker_init [] (He.ma K (He.ga K "Looker") "__init__") fd := Fd
  have C_cl := B.cls (x := "Looker") (mem_fa 71 rfl)
  have nN := B.noat (x := "Looker") (f := "number") (mem_fa 78 rfl)
  refine ⟨fd, ?_, FunD.bindsN (ps := ["self"]) Fd fun _ _ _ _ _ _ us hl => match us, hl with | [_], _ => rfl⟩
  refine Fd.ok (k := 0) sc_Looker_init (fun vs H Q E h => ?_) (fun cdv A outer s H vs Q E hr h => ⟨_, PSs.nox (pss_one (ps_fld (pv 0) d_int rfl)), ?_⟩)
  · obtain ⟨G, x, dx, rfl, _⟩ := h
    rfl
  · obtain ⟨G, x, dx, rfl, sG, gx, hx, q⟩ := h
    refine ⟨[none], .int 0, .skip .nil, rfl, fun v H1 s1 i1 => ?_⟩
    obtain rfl := i1.intI
    refine ⟨_, rfl, x, lookC K, dx, [], rfl, s1 _ _ hx, C_cl, nN, (by show 0 < 1000; decide), ?_⟩
    exact q _ (LkAt.put (n := 0) (sG.trans s1) gx)
theorem ok_look_at (B : Bs w K mg) (T : Tp w K mg) {j k : Nat} {lk : LkR} (hj_look_into : j ≤ k) (hj_word_of : 1 ≤ k) (hj_is_plain_row : 7 ≤ k) (h_word_of : Fc P w K mg base 1 "word_of" ["row"] word_of_G) (h_is_plain_row : Fc P w K mg base 7 "is_plain_row" ["row"] is_plain_row_G)
    (Mi : Mc P w K mg base j "Looker" "look_into" ["self", "row", "here", "deep", "within"] (spLookInto K (lookC K) lk)) : Mc P w K mg base (k + 1) "Looker" "look_at" ["self", "rows", "deep", "within"] (spLookAt K (lookC K) (lookL lk)) := by
  obtain ⟨fd, Fd⟩ := B.defs (d := d_Looker_look_at) (mem_fn 44 rfl)
  replace Fd : FnP K "look_at" "Looker.look_at" s_Looker_look_at [] (He.ma K (He.ga K "Looker") "look_at") fd := Fd
  have C_cl := B.cls (x := "Looker") (mem_fa 71 rfl)
  have nN := B.noat (x := "Looker") (f := "number") (mem_fa 78 rfl)
  have M_look_into := B.meth (x := "Looker") (m := "look_into") (mem_fa 85 rfl)
  obtain ⟨fr_, G_look_into, B_look_into⟩ := Mi.ex
  refine ⟨fd, ?_, FunD.bindsN (ps := ["self", "rows", "deep", "within"]) Fd fun _ _ _ _ _ _ us hl => match us, hl with | [_, _, _, _], _ => rfl⟩
  refine Fd.ok (k := k) sc_Looker_look_at (fun vs H Q E h => ?_) (fun cdv A outer s H vs Q E hr h => ⟨_, PSs.nox (pss_one (ps_for PassesOwn.never rfl (pi_tup (pv 1)) (pg_name (i := 4) sc_Looker_look_at.nd rfl (Or.inl rfl)) (pss_cons (ps_set (i := 5) sc_Looker_look_at.nd rfl (Or.inl rfl) (pe_fld (pv 0) rfl)) (pss_cons (ps_fld (pv 0) (d_op op_add o_add (dv 5) d_int) rfl) (pss_one (ps_if (dt_cmp op_in_seq o_in (d_call (hj := hj_word_of) h_word_of hr (da_cons (dv 4) da_nil)) (d_tup (da_cons d_str (da_cons d_str (da_cons d_str da_nil))))) (pss_one (ps_expr (pe_meth (pv 0) C_cl M_look_into G_look_into (hr.mono hj_look_into) B_look_into .nil pass0 (pa_cons (pv 4) (pa_cons (pv 5) (pa_cons (pv 2) (pa_cons (pv 3) pa_nil))))))) (pss_one (ps_if (dt_not (dt_val (d_call (hj := hj_is_plain_row) h_is_plain_row hr (da_cons (dv 4) da_nil)))) (pss_one ps_never) pss_nil)))))))), ?_⟩)
  · obtain ⟨G, x, rv, rows, deep, within, rfl, _⟩ := h
    rfl
  · obtain ⟨G, x, rv, rows, deep, within, rfl, lka, hrv, hri, e, q⟩ := h
    obtain ⟨ar, xs, ev, hx, hd⟩ := hrv.tupI
    subst ev
    refine ⟨_, rfl, ar, rfl, ⟨xs, Same.sqT lka.same hx⟩, for_tup (xs := xs) (fun i σ' H' => ∃ G' o4 o5, σ' = [some (.ref x), some (.ref ar), some (.int deep), some (.bl within), o4, o5] ∧ Same G G' ∧ LkAt (lookC K) G' H' x ∧ lookL lk (rows.drop i) deep within = some ())
      ⟨G, none, none, rfl, Same.refl G, lka, by rw [List.drop_zero]; exact e⟩ (fun i σ' H' _ p => ?_) ?_ ?_⟩
    · obtain ⟨_, _, _, _, sg, pn, _⟩ := p
      exact Same.sqT (sg.trans pn.same) hx
    · rintro i y σ' H' hi ⟨G', o4, o5, rfl, sg, pn, hr2⟩
      obtain ⟨d, hd1, hd2⟩ := hd.getV hi
      have hlt := (List.getElem?_eq_some_iff.mp hd1).1
      have hdr : rows.drop i = d :: rows.drop (i + 1) := by
        rw [List.drop_eq_getElem_cons hlt, (List.getElem?_eq_some_iff.mp hd1).2]
      rw [hdr] at hr2
      obtain ⟨⟨⟩, ha, hr3⟩ := Option.bind_eq_some_iff.mp hr2
      clear hr2
      have hdi : imm d = true := immAll_get hri hd1
      obtain ⟨dx, n, hX, sGH, gx⟩ := pn.ex
      have sGG := sg.trans sGH
      refine ⟨_, rfl, x, lookC K, dx, _, _, rfl, hX, C_cl, nN, rfl, ?_⟩
      refine ⟨[none, none, none, none, some d, some (.int n)], .int (n + 1), .skip (.skip (.skip (.skip (.keep (hd2.mono sGG) (.keep (.int n) .nil))))), rfl, fun v H1 s1 i1 => ?_⟩
      obtain rfl := i1.intI
      refine ⟨_, rfl, x, lookC K, dx, _, rfl, s1 _ _ hX, C_cl, nN, (by show 1 < 1000; decide), ?_⟩
      have pn1 : LkAt (lookC K) G' (upd H1 x (.ins (lookC K) dx (putF "number" (.int (n + 1)) (lookF n)))) x := LkAt.put (n := n + 1) (sGH.trans s1) gx
      unfold lookOne at ha
      obtain ⟨b, hb, ha2⟩ := Option.bind_eq_some_iff.mp ha
      clear ha
      refine ⟨[none, none, none, none, some d, none], b, .skip (.skip (.skip (.skip (.keep (hd2.mono (sg.trans pn1.same)) (.skip .nil))))), ?_, fun H2 s2 => ?_⟩
      · obtain ⟨z, hz1, hz2⟩ := Option.bind_eq_some_iff.mp hb
        obtain ⟨z2, hz3, hz4⟩ := Option.bind_eq_some_iff.mp hz2
        simp [f1, f2, fCons, fNil, fV, fC, gTu, hz1, hz3, hz4]
      · obtain ⟨G2, sg2, pn2, ht2⟩ := pn1.grow (K := K) s2
        obtain ⟨dx2, n2, hX2, sGH2, gx2⟩ := pn2.ex
        cases b with
        | true =>
          rw [if_pos rfl] at ha2
          refine iteT ⟨_, rfl, x, dx2, _, rfl, hX2, lookF_no _ (by decide +kernel), _, rfl, _, rfl, _, rfl, _, rfl, G2, x, y, d, .int n, deep, within, rfl, pn2, hd2.mono (sg.trans sg2), hdi, ha2, fun G3 H3 sg3 pn3 => ?_⟩
          exact ⟨G3, some y, some (.int n), rfl, sg.trans (sg2.trans sg3), pn3, hr3⟩
        | false =>
          rw [if_neg Bool.false_ne_true] at ha2
          obtain ⟨p, hp, ha3⟩ := Option.bind_eq_some_iff.mp ha2
          obtain ⟨pd, hp1, hp2⟩ := Option.bind_eq_some_iff.mp hp
          cases p with
          | false => cases ha3
          | true =>
            refine iteF ⟨[none, none, none, none, some d, none], false, .skip (.skip (.skip (.skip (.keep (hd2.mono (sg.trans (sg2.trans pn2.same))) (.skip .nil))))), ?_, fun H3 s3 => iteF ?_⟩
            · simp [f1, f2, fCons, fNil, fV, fC, hp1, hp2, gNot]
            · obtain ⟨G3, sg3, pn3, ht3⟩ := pn2.grow (K := K) s3
              exact ⟨G3, some y, some (.int n), rfl, sg.trans (sg2.trans sg3), pn3, hr3⟩
    · rintro σ' H' ⟨G', o4, o5, rfl, sg, pn, hr2⟩
      exact q G' H' sg pn
theorem ok_look_into (B : Bs w K mg) (T : Tp w K mg) {j k : Nat} {lk : LkR} (hj_look_at : j ≤ k) (hj_is_block : 2 ≤ k) (hj_goes_on : 17 ≤ k) (h_is_block : Fc P w K mg base 2 "is_block" ["row"] is_block_G) (h_goes_on : Fc P w K mg base 17 "goes_on" ["rows"] goes_on_G)
    (Ma : Mc P w K mg base j "Looker" "look_at" ["self", "rows", "deep", "within"] (spLookAt K (lookC K) lk)) : Mc P w K mg base (k + 1) "Looker" "look_into" ["self", "row", "here", "deep", "within"] (spLookInto K (lookC K) lk) := by
  obtain ⟨fd, Fd⟩ := B.defs (d := d_Looker_look_into) (mem_fn 45 rfl)
  replace Fd : FnP K "look_into" "Looker.look_into" s_Looker_look_into [] (He.ma K (He.ga K "Looker") "look_into") fd := Fd
  have C_cl := B.cls (x := "Looker") (mem_fa 71 rfl)
  have nN := B.noat (x := "Looker") (f := "number") (mem_fa 78 rfl)
  have M_look_at := B.meth (x := "Looker") (m := "look_at") (mem_fa 84 rfl)
  obtain ⟨fr_, G_look_at, B_look_at⟩ := Ma.ex
  refine ⟨fd, ?_, FunD.bindsN (ps := ["self", "row", "here", "deep", "within"]) Fd fun _ _ _ _ _ _ us hl => match us, hl with | [_, _, _, _, _], _ => rfl⟩
  refine Fd.ok (k := k) sc_Looker_look_into (fun vs H Q E h => ?_) (fun cdv A outer s H vs Q E hr h => ⟨_, PSs.nox (pss_cons (ps_set (i := 5) sc_Looker_look_into.nd rfl (Or.inl rfl) (d_cmp (op_eqD hr.units) o_eq (d_ix (dv 1) d_int) d_str)) (pss_cons (ps_if (PW.pt (dw_or (dt_not (dt_val (d_call (hj := hj_is_block) h_is_block hr (da_cons (dv 1) da_nil)))) (dw_or (dt_cmp (op_eqD hr.units) o_eq (dv 3) (d_glob T.c_DEEPEST)) (dw_or1 (PW.pt (dw_and (dt_val (dv 4)) (dw_and1 (dt_val (dv 5))))))))) (pss_one ps_never) pss_nil) (pss_cons (ps_set (i := 6) sc_Looker_look_into.nd rfl (Or.inl rfl) (d_ix (dv 1) (d_op op_sub o_sub (d_bi call_len c_len T.z_len b_len (da_cons (dv 1) da_nil)) d_int))) (pss_cons (ps_expr (pe_meth (pv 0) C_cl M_look_at G_look_at (hr.mono hj_look_at) B_look_at .nil pass0 (da_cons (dv 6) (da_cons (d_op op_add o_add (dv 3) d_int) (da_cons (d_or (dv 4) (d_one (dv 5))) da_nil))))) (pss_cons (ps_fld (pv 0) (pe_op op_add (pe_fld (pv 0) rfl) d_int) rfl) (pss_one (ps_if (PW.pt (dw_and (dt_val (dv 5)) (dw_and1 (dt_not (dt_val (d_call (hj := hj_goes_on) h_goes_on hr (da_cons (dv 6) da_nil))))))) (pss_one ps_never) pss_nil))))))), ?_⟩)
  · obtain ⟨G, x, rv, row, hv, deep, within, rfl, _⟩ := h
    rfl
  · obtain ⟨G, x, rv, row, hv, deep, within, rfl, lka, hrv, hri, e, q⟩ := h
    unfold lookInto at e
    obtain ⟨en, he1, e2⟩ := Option.bind_eq_some_iff.mp e
    clear e
    obtain ⟨ib, he2, e3⟩ := Option.bind_eq_some_iff.mp e2
    clear e2
    obtain ⟨ibd, hi1, hi2⟩ := Option.bind_eq_some_iff.mp he2
    have hib := gB_some hi2
    subst hib
    obtain ⟨ed, he3, he4⟩ := Option.bind_eq_some_iff.mp he1
    have hed := gB_some he4
    subst hed
    obtain ⟨ew, he5, he6⟩ := Option.bind_eq_some_iff.mp he3
    split at e3
    · rename_i hc
      have hc1 : ib = true := (Bool.and_eq_true_iff.mp (Bool.and_eq_true_iff.mp hc).1).1
      have hc2 : ¬ deep = 4 := by
        have := (Bool.and_eq_true_iff.mp (Bool.and_eq_true_iff.mp hc).1).2
        simpa using this
      have hc3 : (within && en) = false := by
        have := (Bool.and_eq_true_iff.mp hc).2
        revert this
        cases within <;> cases en <;> simp
      subst hc1
      obtain ⟨body, hb, e4⟩ := Option.bind_eq_some_iff.mp e3
      clear e3
      obtain ⟨bd, hb1, hb2⟩ := Option.bind_eq_some_iff.mp hb
      have eB := tupO_some hb2
      subst eB
      obtain ⟨⟨⟩, hlk, e5⟩ := Option.bind_eq_some_iff.mp e4
      clear e4
      have hrG := lka.same
      have eo0 : ∀ (H2 : Hp) (o5 o6 : Option V), Same G H2 → EO K H2 [some (.ref x), some rv, some hv, some (.int deep), some (.bl within), o5, o6] [none, some row, none, some (.int deep), some (.bool within), none, none] := fun H2 o5 o6 s2 =>
        .skip (.keep (hrv.mono s2) (.skip (.keep (.int _) (.keep (.bl _) (.skip (.skip .nil))))))
      have eo1 : ∀ (H2 : Hp) (o6 : Option V), Same G H2 → EO K H2 [some (.ref x), some rv, some hv, some (.int deep), some (.bl within), some (.bl en), o6] [none, some row, none, some (.int deep), some (.bool within), some (.bool en), none] := fun H2 o6 s2 =>
        .skip (.keep (hrv.mono s2) (.skip (.keep (.int _) (.keep (.bl _) (.keep (.bl _) (.skip .nil))))))
      refine ⟨_, .bool en, eo0 H _ _ hrG, ?_, fun v H1 s1 i1 => ?_⟩
      · have he5' : gIx row (.int 0) = some ew := he5
        simp [f1, f2, fV, fC, he5', he6]
      obtain rfl := i1.blI
      refine ⟨_, false, eo1 H1 _ (hrG.trans s1), ?_, fun H2 s2 => iteF ?_⟩
      · have h4 : gEq (.int deep) (.int 4) = some (.bool false) := by
          rw [gEq_int, decide_eq_false hc2]
        cases within <;> cases en <;> simp [f1, f2, fV, fC, fOr, fAnd, fCons, fNil, hi1, gB, gNot, h4] at hc3 ⊢
      · have s02 : Same G H2 := hrG.trans (s1.trans s2)
        refine ⟨_, .tuple body, eo1 H2 _ s02, ?_, fun v H3 s3 i3 => ?_⟩
        · obtain ⟨z1, hz1, hz2⟩ := Option.bind_eq_some_iff.mp hb1
          obtain ⟨z3, hz3, hz4⟩ := Option.bind_eq_some_iff.mp hz2
          simp [f1, f2, fV, fC, fCons, fNil, on1, hz1, hz3, hz4]
        · obtain ⟨G3, sg3, pn3, ht3⟩ := lka.grow (K := K) (s1.trans (s2.trans s3))
          have hbi : imm (.tuple body) = true := by
            obtain ⟨z1, hz1, hz2⟩ := Option.bind_eq_some_iff.mp hb1
            obtain ⟨z3, hz3, hz4⟩ := Option.bind_eq_some_iff.mp hz2
            cases z1 <;> cases hz3
            exact gIx0_imm hri hz4
          obtain ⟨dx3, n3, hX3, sGH3, gx3⟩ := pn3.ex
          have eo2 : ∀ (H2 : Hp), Same G3 H2 → EO K H2 [some (.ref x), some rv, some hv, some (.int deep), some (.bl within), some (.bl en), some v] [none, some row, none, some (.int deep), some (.bool within), some (.bool en), some (.tuple body)] := fun H2 s2 =>
            .skip (.keep (hrv.mono (sg3.trans s2)) (.skip (.keep (.int _) (.keep (.bl _) (.keep (.bl _) (.keep ((i3.immT ht3 hbi).mono s2) .nil))))))
          refine ⟨_, rfl, x, dx3, _, rfl, hX3, lookF_no _ (by decide +kernel), _, [.tuple body, .int (deep + 1), .bool (within || en)], eo2 H3 sGH3, ?_, fun vs H4 s4 i4 hl4 => ?_⟩
          · cases within <;> simp [f1, f2, fV, fC, fCons, fNil, fOrV, gB, gAdd]
          · obtain ⟨G4, sg4, pn4, ht4⟩ := pn3.grow (K := K) s4
            cases i4 with
            | cons j1 i4 =>
              cases i4 with
              | cons j2 i4 =>
                cases i4 with
                | cons j3 i4 =>
                  cases i4
                  obtain rfl := j2.intI
                  obtain rfl := j3.blI
                  refine ⟨G4, x, _, body, deep + 1, within || en, rfl, pn4, j1.immT ht4 hbi, hbi, hlk, fun G5 H5 sg5 pn5 => ?_⟩
                  obtain ⟨dx5, n5, hX5, sGH5, gx5⟩ := pn5.ex
                  refine ⟨_, rfl, x, lookC K, dx5, _, _, rfl, hX5, C_cl, nN, rfl, ?_⟩
                  refine ⟨_, .int 1, eo2 H5 (sg4.trans (sg5.trans sGH5)), rfl, fun v6 H6 s6 i6 => ?_⟩
                  obtain rfl := i6.intI
                  refine ⟨_, _, rfl, rfl, _, rfl, x, lookC K, dx5, _, rfl, s6 _ _ hX5, C_cl, nN, (by show 1 < 1000; decide), ?_⟩
                  have pn6 : LkAt (lookC K) G5 (upd H6 x (.ins (lookC K) dx5 (putF "number" (.int (n5 + 1)) (lookF n5)))) x := LkAt.put (n := n5 + 1) (sGH5.trans s6) gx5
                  have s35 := sg4.trans sg5
                  refine ⟨_, false, eo2 _ (s35.trans pn6.same), ?_, fun H7 s7 => iteF ?_⟩
                  · cases en with
                    | false => simp [f1, fV, fAnd, gB]
                    | true =>
                      rw [if_pos rfl] at e5
                      obtain ⟨g, hg, e6⟩ := Option.bind_eq_some_iff.mp e5
                      obtain ⟨gd, hg1, hg2⟩ := Option.bind_eq_some_iff.mp hg
                      cases g with
                      | false => cases e6
                      | true =>
                        have hgd := gB_some hg2
                        subst hgd
                        simp [f1, fV, fAnd, fCons, fNil, hg1, gB, gNot]
                  · obtain ⟨G7, sg7, pn7, ht7⟩ := pn6.grow (K := K) s7
                    exact q G7 H7 (sg3.trans (s35.trans sg7)) pn7
    · cases e3
theorem okR_look_at (B : Bs w K mg) (T : Tp w K mg) (h_word_of : Fc P w K mg base 1 "word_of" ["row"] word_of_G) (h_is_plain_row : Fc P w K mg base 7 "is_plain_row" ["row"] is_plain_row_G) (h_is_block : Fc P w K mg base 2 "is_block" ["row"] is_block_G) (h_goes_on : Fc P w K mg base 17 "goes_on" ["rows"] goes_on_G) :
    ∀ n : Nat, Mc P w K mg base (17 + 2 * n) "Looker" "look_at" ["self", "rows", "deep", "within"] (spLookAt K (lookC K) (lookR n))
  | 0 => by
    obtain ⟨fd, Fd⟩ := B.defs (d := d_Looker_look_at) (mem_fn 44 rfl)
    replace Fd : FnP K "look_at" "Looker.look_at" s_Looker_look_at [] (He.ma K (He.ga K "Looker") "look_at") fd := Fd
    exact Mc.none (fun vs H Q E ⟨G, x, rv, rows, deep, within, _, _, _, _, e, _⟩ => nomatch e) (FunD.bindsN (ps := ["self", "rows", "deep", "within"]) Fd fun _ _ _ _ _ _ us hl => match us, hl with | [_, _, _, _], _ => rfl)
  | n + 1 =>
    have Ma := okR_look_at B T h_word_of h_is_plain_row h_is_block h_goes_on n
    have Mi := ok_look_into B T (k := 17 + 2 * n) (Nat.le_refl _) (by omega) (by omega) h_is_block h_goes_on Ma
    ok_look_at B T (k := 17 + 2 * n + 1) (Nat.le_refl _) (by omega) (by omega) h_word_of h_is_plain_row Mi
def program_of_G : List PyData → Option PyData
  | [.tuple rows] => if immAll rows = true then (lookR 8 rows 0 false).bind fun _ => ((rows_in_G [.tuple rows]).bind intO).bind fun n => if n ≤ 60 then some (.tuple rows) else none else none
  | _ => none
theorem sc_program_of : FnScope ["rows"] ["rows"] (defScope s_program_of) := ⟨rfl, rfl, rfl, by decide +kernel, rfl, by decide +kernel, by decide +kernel⟩
theorem ok_program_of (B : Bs w K mg) (T : Tp w K mg) (h_rows_in : Fc P w K mg base 8 "rows_in" ["rows"] rows_in_G)
    (Mi : Mc P w K mg base 1 "Looker" "__init__" ["self"] (spLkInit (lookC K)))
    (Ma : Mc P w K mg base 33 "Looker" "look_at" ["self", "rows", "deep", "within"] (spLookAt K (lookC K) (lookR 8))) : Fc P w K mg base 34 "program_of" ["rows"] program_of_G := by
  obtain ⟨fd, Fd⟩ := B.defs (d := d_program_of) (mem_fn 47 rfl)
  replace Fd : FnP K "program_of" "program_of" s_program_of [] (He.ga K "program_of") fd := Fd
  have C_cl := B.cls (x := "Looker") (mem_fa 71 rfl)
  have MK_Looker := B.mkr (x := "Looker") (mem_fa 72 rfl)
  have MG_Looker := B.glo (x := "Looker") (mem_fa 70 rfl)
  have M_look_at := B.meth (x := "Looker") (m := "look_at") (mem_fa 84 rfl)
  obtain ⟨fr_, G_look_at, B_look_at⟩ := Ma.ex
  obtain ⟨fi_, GI_Looker, BI_Looker⟩ := Mi.ex
  have hjI_Looker : 1 + 1 ≤ 33 := by decide
  have hj_look_at : 33 ≤ 33 := by decide
  have hj_rows_in : 8 ≤ 33 := by decide
  refine ⟨He.ga K "program_of", fd, ?_, B.glo (mem_fa 40 rfl), Fd.kp, FunD.bindsN (ps := ["rows"]) Fd fun _ _ _ _ _ _ us hl => match us, hl with | [_], _ => rfl⟩
  refine Fd.ok (k := 33) sc_program_of (fun vs H Q E ⟨ds, r, a, b, c⟩ => ?_) (fun cdv A outer s H vs Q E hr ⟨ds, r, a, b, c⟩ => ⟨_, PSs.nox (pss_cons (ps_expr (pe_meth (pe_make0 MK_Looker GI_Looker (hr.mono hjI_Looker) rfl MG_Looker BI_Looker .nil pass0) C_cl M_look_at G_look_at (hr.mono hj_look_at) B_look_at .nil pass0 (da_cons (dv 0) (da_cons d_int (da_cons d_bl da_nil))))) (pss_cons (ps_if (dt_cmp op_gt o_gt (d_call (hj := hj_rows_in) h_rows_in hr (da_cons (dv 0) da_nil)) (d_glob T.c_MOST_ROWS)) (pss_one ps_never) pss_nil) (pss_one (ps_ret (dv 0))))), ?_⟩)
  · unfold program_of_G at b
    split at b
    · rw [a.length]
      rfl
    · cases b
  · unfold program_of_G at b
    split at b
    · rename_i rows
      split at b
      · rename_i him
        obtain ⟨⟨⟩, hlk, b2⟩ := Option.bind_eq_some_iff.mp b
        clear b
        obtain ⟨n, hn, b3⟩ := Option.bind_eq_some_iff.mp b2
        clear b2
        obtain ⟨nd, hn1, hn2⟩ := Option.bind_eq_some_iff.mp hn
        obtain rfl := intO_some hn2
        split at b3
        · rename_i hle
          cases b3
          cases a with
          | cons i1 a =>
            cases a
            rename_i pv0
            intro x' dx' nx' ndx' nex
            have sG1 : Same H (upd H dx' (.own x')) := same_new ndx'
            refine ⟨upd H dx' (.own x'), x', dx', rfl, same_new (by rw [upd_ne nex.symm]; exact nx'), by rw [upd_ne nex.symm]; exact nx', upd_same, fun H2 pn => ⟨rfl, ?_⟩⟩
            have s02 : Same H H2 := sG1.trans pn.same
            obtain ⟨dxo, no, hXo, sGo, gxo⟩ := pn.ex
            refine ⟨x', dxo, _, rfl, hXo, lookF_no _ (by decide +kernel), [some (.tuple rows)], [.tuple rows, .int 0, .bool false], .keep (i1.mono s02) .nil, rfl, fun vs H3 s3 i3 hl3 => ?_⟩
            obtain ⟨G3, sg3, pn3, ht3⟩ := pn.grow (K := K) s3
            cases i3 with
            | cons j1 i3 =>
              cases i3 with
              | cons j2 i3 =>
                cases i3 with
                | cons j3 i3 =>
                  cases i3
                  obtain rfl := j2.intI
                  obtain rfl := j3.blI
                  refine ⟨G3, x', _, rows, 0, false, rfl, pn3, j1.immT ht3 him, him, hlk, fun G4 H4 sg4 pn4 => ?_⟩
                  have s04 : Same H H4 := sG1.trans (sg3.trans (sg4.trans pn4.same))
                  refine ⟨[some (.tuple rows)], false, .keep (i1.mono s04) .nil, ?_, fun H5 s5 => iteF ?_⟩
                  · have : ¬ (60 < n) := by omega
                    simp [f1, f2, fCons, fNil, fV, fC, hn1, gGt, gB, this]
                  · exact ⟨[some (.tuple rows)], .tuple rows, .keep (i1.mono (s04.trans s5)) .nil, rfl, fun v H6 s6 i6 => c v H6 (s04.trans (s5.trans s6)) i6⟩
        · cases b3
      · cases b
    · cases b
end
end Arc
set_option Elab.async false
set_option linter.all false
set_option maxRecDepth 100000
set_option maxHeartbeats 4000000
namespace Arc
open PySem L2
/-! ### the reader's state in the heap -/
section
variable {K : PySem.W.Frag}
inductive RwAt (K : PySem.W.Frag) (H : Hp) : List Addr → List (List PyData) → Prop
  | nil : RwAt K H [] []
  | cons {a : Addr} {as : List Addr} {zs : List V} {R : List PyData} {Rs : List (List PyData)} : H a = some (.lst zs) → IsAll K H zs R → immAll R = true → RwAt K H as Rs → RwAt K H (a :: as) (R :: Rs)
theorem RwAt.mono {H H' : Hp} (e : Same H H') : ∀ {as : List Addr} {Rs : List (List PyData)}, RwAt K H as Rs → RwAt K H' as Rs
  | _, _, .nil => .nil
  | _, _, .cons h k i r => .cons (e _ _ h) (k.mono e) i (RwAt.mono e r)
theorem RwAt.upd {H : Hp} {D : Addr} {l0 : List V} {o : HO} (hD : H D = some (.lst l0)) : ∀ {as : List Addr} {Rs : List (List PyData)}, RwAt K H as Rs → D ∉ as → RwAt K (upd H D o) as Rs
  | _, _, .nil, _ => .nil
  | _, _, .cons h k i r, n => .cons (by rw [upd_ne (fun z => n (by rw [z]; exact List.mem_cons_self))]; exact h) (k.immU hD i) i (RwAt.upd hD r fun z => n (List.mem_cons_of_mem _ z))
theorem RwAt.append {H : Hp} : ∀ {as bs : List Addr} {Rs Ss : List (List PyData)}, RwAt K H as Rs → RwAt K H bs Ss → RwAt K H (as ++ bs) (Rs ++ Ss)
  | _, _, _, _, .nil, q => q
  | _, _, _, _, .cons h k i r, q => .cons h k i (RwAt.append r q)
theorem RwAt.last {H : Hp} : ∀ {as : List Addr} {Rs : List (List PyData)} {R : List PyData}, RwAt K H as (Rs ++ [R]) → ∃ bs a zs, as = bs ++ [a] ∧ RwAt K H bs Rs ∧ H a = some (.lst zs) ∧ IsAll K H zs R ∧ immAll R = true
  | _, [], _, .cons h k i .nil => ⟨[], _, _, rfl, .nil, h, k, i⟩
  | _, _ :: _, _, .cons h k i r => by
    obtain ⟨bs, a, zs, e, h1, h2, h3, h4⟩ := RwAt.last r
    subst e
    exact ⟨_ :: bs, a, zs, rfl, .cons h k i h1, h2, h3, h4⟩
theorem IsAll.last {H : Hp} : ∀ {vs : List V} {ds : List PyData} {d : PyData}, IsAll K H vs (ds ++ [d]) → ∃ ws v, vs = ws ++ [v] ∧ IsAll K H ws ds ∧ Is K H v d
  | _, [], _, .cons h .nil => ⟨[], _, rfl, .nil, h⟩
  | _, _ :: _, _, .cons h r => by
    obtain ⟨ws, v, e, h1, h2⟩ := IsAll.last r
    subst e
    exact ⟨_ :: ws, v, rfl, .cons h h1, h2⟩
def rdF (l1 l2 : Addr) : List (Str × V) := [("heads", .ref l1), ("rows", .ref l2)]
theorem rdF_no (l1 l2 : Addr) {m : Str} (h1 : ¬ m = "heads") (h2 : ¬ m = "rows") : (rdF l1 l2).lookup m = none := by
  have hb : (m == ("heads" : Str)) = false := beq_eq_false_iff_ne.mpr h1
  have hc : (m == ("rows" : Str)) = false := beq_eq_false_iff_ne.mpr h2
  simp only [rdF, List.lookup, hb, hc]
structure RdX (K : PySem.W.Frag) (C : Addr) (G H : Hp) (x dx l1 l2 : Addr) (as : List Addr) (Hd : List PyData) (Rw : List (List PyData)) : Prop where
  hx : H x = some (.ins C dx (rdF l1 l2))
  h1 : ∃ xs, H l1 = some (.lst xs) ∧ IsAll K H xs Hd
  im : immAll Hd = true
  h2 : H l2 = some (.lst (as.map V.ref))
  rw_ : RwAt K H as Rw
  sm : Same G H
  gx : G x = none
  g1 : G l1 = none
  g2 : G l2 = none
  ga : ∀ a ∈ as, G a = none
  n12 : l1 ≠ l2
  n1 : l1 ∉ as
  n2 : l2 ∉ as
  nd : as.Nodup
structure RdAt (K : PySem.W.Frag) (C : Addr) (G H : Hp) (x : Addr) (Hd : List PyData) (Rw : List (List PyData)) : Prop where
  ex : ∃ dx l1 l2 as, RdX K C G H x dx l1 l2 as Hd Rw
variable {C : Addr} {G H H2 : Hp} {x dx l1 l2 : Addr} {as : List Addr} {Hd : List PyData} {Rw : List (List PyData)}
theorem RdX.grow (p : RdX K C G H x dx l1 l2 as Hd Rw) (s : Same H H2) : RdX K C G H2 x dx l1 l2 as Hd Rw := by
  obtain ⟨xs, e1, e2⟩ := p.h1
  exact { p with hx := s _ _ p.hx, h1 := ⟨xs, s _ _ e1, e2.mono s⟩, h2 := s _ _ p.h2, rw_ := p.rw_.mono s, sm := p.sm.trans s }
theorem RdX.nx (p : RdX K C G H x dx l1 l2 as Hd Rw) {l : Addr} {xs : List V} (h : H l = some (.lst xs)) : x ≠ l := ne_of p.hx h (by intro z; cases z)
theorem RdX.popH {h : PyData} (p : RdX K C G H x dx l1 l2 as (Hd ++ [h]) Rw) : ∃ xs y, H l1 = some (.lst xs) ∧ xs[xs.length - 1]? = some y ∧ Is K H y h ∧ imm h = true ∧ RdX K C G (upd H l1 (.lst xs.dropLast)) x dx l1 l2 as Hd Rw := by
  obtain ⟨xs, e1, e2⟩ := p.h1
  obtain ⟨ws, v, e3, e4, e5⟩ := e2.last
  subst e3
  have him := p.im
  rw [immAll_append] at him
  have i1 := (Bool.and_eq_true_iff.mp him).1
  have i2 := (Bool.and_eq_true_iff.mp (Bool.and_eq_true_iff.mp him).2).1
  refine ⟨ws ++ [v], v, e1, by simp, e5, i2, ?_⟩
  rw [List.dropLast_concat]
  exact { p with hx := by rw [upd_ne (p.nx e1)]; exact p.hx, h1 := ⟨ws, upd_same, e4.immU e1 i1⟩, im := i1, h2 := by rw [upd_ne p.n12.symm]; exact p.h2, rw_ := p.rw_.upd e1 p.n1, sm := same_mut p.sm p.g1 }
theorem RdX.appH {h : PyData} {v : V} (p : RdX K C G H x dx l1 l2 as Hd Rw) (hv : Is K H v h) (hi : imm h = true) : ∃ xs, H l1 = some (.lst xs) ∧ xs.length = Hd.length ∧ RdX K C G (upd H l1 (.lst (xs ++ [v]))) x dx l1 l2 as (Hd ++ [h]) Rw := by
  obtain ⟨xs, e1, e2⟩ := p.h1
  refine ⟨xs, e1, e2.length, ?_⟩
  exact { p with hx := by rw [upd_ne (p.nx e1)]; exact p.hx, h1 := ⟨_, upd_same, (e2.immU e1 p.im).append (.one (hv.immU e1 hi))⟩, im := by rw [immAll_append, p.im]; unfold immAll; rw [hi]; rfl, h2 := by rw [upd_ne p.n12.symm]; exact p.h2, rw_ := p.rw_.upd e1 p.n1, sm := same_mut p.sm p.g1 }
theorem RdX.popR {R : List PyData} (p : RdX K C G H x dx l1 l2 as Hd (Rw ++ [R])) : ∃ bs a zs, as = bs ++ [a] ∧ H a = some (.lst zs) ∧ IsAll K H zs R ∧ immAll R = true ∧ a ≠ l2 ∧ RdX K C G (upd H l2 (.lst (bs.map V.ref))) x dx l1 l2 bs Hd Rw := by
  obtain ⟨bs, a, zs, e, r1, r2, r3, r4⟩ := p.rw_.last
  subst e
  obtain ⟨xs, e1, e2⟩ := p.h1
  have n2 : l2 ∉ bs := fun z => p.n2 (List.mem_append_left _ z)
  refine ⟨bs, a, zs, rfl, r2, r3, r4, fun z => p.n2 (by rw [z]; simp), ?_⟩
  exact { p with hx := by rw [upd_ne (p.nx p.h2)]; exact p.hx, h1 := ⟨xs, by rw [upd_ne p.n12]; exact e1, e2.immU p.h2 p.im⟩, h2 := upd_same, rw_ := r1.upd p.h2 n2, sm := same_mut p.sm p.g2, ga := fun b hb => p.ga b (List.mem_append_left _ hb), n1 := fun z => p.n1 (List.mem_append_left _ z), n2 := n2, nd := (List.nodup_append.mp p.nd).1 }
theorem RdX.lastR {R : List PyData} (p : RdX K C G H x dx l1 l2 as Hd (Rw ++ [R])) : ∃ bs a zs, as = bs ++ [a] ∧ H a = some (.lst zs) ∧ IsAll K H zs R ∧ immAll R = true := by
  obtain ⟨bs, a, zs, e, r1, r2, r3, r4⟩ := p.rw_.last
  exact ⟨bs, a, zs, e, r2, r3, r4⟩
theorem RdX.appR {R : List PyData} {d : PyData} {v : V} {a : Addr} {zs : List V} (p : RdX K C G H x dx l1 l2 (as ++ [a]) Hd (Rw ++ [R])) (hz : H a = some (.lst zs)) (hv : Is K H v d) (hi : imm d = true) : RdX K C G (upd H a (.lst (zs ++ [v]))) x dx l1 l2 (as ++ [a]) Hd (Rw ++ [R ++ [d]]) := by
  obtain ⟨bs, b, ys, e, r1, r2, r3, r4⟩ := p.rw_.last
  obtain ⟨e1, e2⟩ := List.append_inj' e rfl
  cases e2
  subst e1
  obtain rfl : ys = zs := by
    rw [r2] at hz
    cases hz
    rfl
  obtain ⟨xs, f1, f2⟩ := p.h1
  have ma : a ∈ as ++ [a] := List.mem_append_right _ (List.mem_singleton.mpr rfl)
  have na1 : l1 ≠ a := fun z => p.n1 (by rw [z]; exact ma)
  have na2 : l2 ≠ a := fun z => p.n2 (by rw [z]; exact ma)
  have na : a ∉ as := fun z => (List.nodup_append.mp p.nd).2.2 a z a (List.mem_singleton.mpr rfl) rfl
  exact { p with hx := by rw [upd_ne (p.nx r2)]; exact p.hx, h1 := ⟨xs, by rw [upd_ne na1]; exact f1, f2.immU r2 p.im⟩, h2 := by rw [upd_ne na2]; exact p.h2, rw_ := (r1.upd r2 na).append (.cons upd_same ((r3.immU r2 r4).append (.one (hv.immU r2 hi))) (by rw [immAll_append, r4]; unfold immAll; rw [hi]; rfl) .nil), sm := same_mut p.sm (p.ga a ma) }
theorem RdX.newR {a : Addr} (p : RdX K C G H x dx l1 l2 as Hd Rw) (ha : H a = some (.lst [])) (ga : G a = none) (na : a ∉ as) (na1 : a ≠ l1) (na2 : a ≠ l2) : RdX K C G (upd H l2 (.lst (as.map V.ref ++ [.ref a]))) x dx l1 l2 (as ++ [a]) Hd (Rw ++ [[]]) := by
  obtain ⟨xs, e1, e2⟩ := p.h1
  have mm : ∀ {b : Addr} {Z : Prop}, (b ∈ as → Z) → (b = a → Z) → b ∈ as ++ [a] → Z := fun h1 h2 hb => (List.mem_append.mp hb).elim h1 fun z => h2 (List.mem_singleton.mp z)
  have q1 : ∀ b ∈ as ++ [a], G b = none := fun b hb => mm (p.ga b) (fun z => by rw [z]; exact ga) hb
  have q2 : l1 ∉ as ++ [a] := fun hb => mm p.n1 (fun z => na1 z.symm) hb
  have q3 : l2 ∉ as ++ [a] := fun hb => mm p.n2 (fun z => na2 z.symm) hb
  have q4 : (as ++ [a]).Nodup := List.nodup_append.mpr ⟨p.nd, by simp, fun b hb c hc e => na (by rw [← List.mem_singleton.mp hc, ← e]; exact hb)⟩
  exact { p with hx := by rw [upd_ne (p.nx p.h2)]; exact p.hx, h1 := ⟨xs, by rw [upd_ne p.n12]; exact e1, e2.immU p.h2 p.im⟩, h2 := by rw [upd_same, List.map_append]; rfl, rw_ := (p.rw_.upd p.h2 p.n2).append (.cons (by rw [upd_ne na2]; exact ha) .nil rfl .nil), sm := same_mut p.sm p.g2, ga := q1, n1 := q2, n2 := q3, nd := q4 }
end
theorem atI_last {α : Type} (l : List α) (a : α) : L2.atI (l ++ [a]) (-1) = some a := by
  unfold L2.atI L2.ixN
  rw [if_neg (by decide), if_pos (by simp; omega)]
  have e : (-1 + ((l ++ [a]).length : Int)).toNat = l.length := by simp; omega
  rw [e]
  simp
/-! ### the promises -/
abbrev rdC (K : PySem.W.Frag) : Addr := He.ga K "Reader"
def spRdInit (K : PySem.W.Frag) (C : Addr) : Sp := fun vs H Q _ => ∃ (G : Hp) (x dx : Addr), vs = [.ref x] ∧ Same G H ∧ G x = none ∧ H x = some (.ins C dx []) ∧ ∀ H', RdAt K C G H' x [] [[]] → Q .non H'
def spClosed (K : PySem.W.Frag) (C : Addr) : Sp := fun vs H Q _ => ∃ (G : Hp) (x : Addr) (hs : List PyData) (head row : PyData) (rs : List (List PyData)) (r2 r1 : List PyData), vs = [.ref x] ∧ RdAt K C G H x (hs ++ [head]) (rs ++ [r2] ++ [r1]) ∧
  gEq (.list (hs ++ [head])) (.list []) = some (.bool false) ∧ gCatT head (.tuple [.tuple r1]) = some row ∧ imm row = true ∧ r2.length ≤ 100000 ∧ ∀ H', RdAt K C G H' x hs (rs ++ [r2 ++ [row]]) → Q (.bl true) H'
section
variable {P : Program} {w : World} {K : PySem.W.Frag} {mg : Str → Option Value} {base : Heap}
theorem sc_Reader_init : FnScope ["self"] ["self"] (defScope s_Reader_init) := ⟨rfl, rfl, rfl, by decide +kernel, rfl, by decide +kernel, by decide +kernel⟩
theorem sc_Reader_closed : FnScope ["self", "head", "rows"] ["self"] (defScope s_Reader_closed) := ⟨rfl, rfl, rfl, by decide +kernel, rfl, by decide +kernel, by decide +kernel⟩
theorem ok_Reader_init (B : Bs w K mg) (T : Tp w K mg) : Mc P w K mg base 1 "Reader" "__init__" ["self"] (spRdInit K (rdC K)) := by
  obtain ⟨fd, Fd⟩ := B.defs (d := d_Reader_init) (mem_fn 53 rfl)
  replace Fd : FnP K "__init__" "Reader.__init__" s_Reader_init [] (He.ma K (He.ga K "Reader") "__init__") fd := Fd
  have C_cl := B.cls (x := "Reader") (mem_fa 74 rfl)
  have nH := B.noat (x := "Reader") (f := "heads") (mem_fa 79 rfl)
  have nR := B.noat (x := "Reader") (f := "rows") (mem_fa 80 rfl)
  refine ⟨fd, ?_, FunD.bindsN (ps := ["self"]) Fd fun _ _ _ _ _ _ us hl => match us, hl with | [_], _ => rfl⟩
  refine Fd.ok (k := 0) sc_Reader_init (fun vs H Q E h => ?_) (fun cdv A outer s H vs Q E hr h => ⟨_, PSs.nox (pss_cons (ps_fld (pv 0) (pe_lst pa_nil) rfl) (pss_one (ps_fld (pv 0) (pe_lst (pa_cons (pe_lst pa_nil) pa_nil)) rfl))), ?_⟩)
  · obtain ⟨G, x, dx, rfl, _⟩ := h
    rfl
  · obtain ⟨G, x, dx, rfl, sG, gx, hx, q⟩ := h
    refine ⟨Nat.zero_le _, fun l1 n1 => ?_⟩
    have ne1 : x ≠ l1 := ne_of_none hx n1
    refine ⟨_, rfl, x, rdC K, dx, [], rfl, (by rw [upd_ne ne1]; exact hx), C_cl, nH, (by show 0 < 1000; decide), ?_⟩
    refine ⟨Nat.zero_le _, fun a na => ⟨(by show 1 ≤ sizeLine; decide +kernel), fun l2 nl2 => ?_⟩⟩
    have nax : x ≠ a := fun z => by
      rw [← z, upd_same] at na
      cases na
    have na1 : l1 ≠ a := fun z => by
      rw [← z, upd_ne ne1.symm, upd_same] at na
      cases na
    have na' : H a = none := by
      rw [upd_ne nax.symm, upd_ne na1.symm] at na
      exact na
    have n2x : x ≠ l2 := fun z => by
      rw [← z, upd_ne nax, upd_same] at nl2
      cases nl2
    have n2a : a ≠ l2 := fun z => by
      rw [← z, upd_same] at nl2
      cases nl2
    have n21 : l1 ≠ l2 := fun z => by
      rw [← z, upd_ne na1, upd_ne ne1.symm, upd_same] at nl2
      cases nl2
    have nl2' : H l2 = none := by
      rw [upd_ne n2a.symm, upd_ne n2x.symm, upd_ne n21.symm] at nl2
      exact nl2
    refine ⟨_, rfl, x, rdC K, dx, _, rfl, (by rw [upd_ne n2x, upd_ne nax]; exact upd_same), C_cl, nR, (by show 1 < 1000; decide), ?_⟩
    refine q _ ⟨dx, l1, l2, [a], ?_, ⟨[], ?_, .nil⟩, rfl, ?_, .cons (zs := []) ?_ .nil rfl .nil, fun b o e => ?_, gx, sG.free n1, sG.free nl2', ?_, n21, ?_, ?_, by simp⟩
    · exact upd_same
    · rw [upd_ne ne1.symm, upd_ne n21, upd_ne na1, upd_ne ne1.symm, upd_same]
    · rw [upd_ne n2x.symm, upd_same]
      rfl
    · rw [upd_ne nax.symm, upd_ne n2a, upd_same]
    · have nb : b ≠ x := fun z => by
        rw [z, gx] at e
        cases e
      have e2 := sG _ _ e
      rw [upd_ne nb, upd_ne (ne_of_none e2 nl2'), upd_ne (ne_of_none e2 na'), upd_ne nb, upd_ne (ne_of_none e2 n1)]
      exact e2
    · intro b hb
      rw [List.mem_singleton.mp hb]
      exact sG.free na'
    · simpa using na1
    · simpa using n2a.symm
theorem ok_closed (B : Bs w K mg) (T : Tp w K mg) : Mc P w K mg base 1 "Reader" "closed" ["self"] (spClosed K (rdC K)) := by
  obtain ⟨fd, Fd⟩ := B.defs (d := d_Reader_closed) (mem_fn 56 rfl)
  replace Fd : FnP K "closed" "Reader.closed" s_Reader_closed [] (He.ma K (He.ga K "Reader") "closed") fd := Fd
  have C_cl := B.cls (x := "Reader") (mem_fa 74 rfl)
  have nH := B.noat (x := "Reader") (f := "heads") (mem_fa 79 rfl)
  have nR := B.noat (x := "Reader") (f := "rows") (mem_fa 80 rfl)
  refine ⟨fd, ?_, FunD.bindsN (ps := ["self"]) Fd fun _ _ _ _ _ _ us hl => match us, hl with | [_], _ => rfl⟩
  refine Fd.ok (k := 0) sc_Reader_closed (fun vs H Q E h => ?_) (fun cdv A outer s H vs Q E hr h => ⟨_, PSs.nox (pss_cons (ps_if (pt_cmpR (op_eqD hr.units) (pe_fld (pv 0) rfl) (d_lst da_nil) (nomark _)) (pss_one (ps_ret d_bl)) pss_nil) (pss_cons (ps_set (i := 1) sc_Reader_closed.nd rfl (Or.inl rfl) (pe_bm0 PySem.F.plainAttrs_list PySem.F.slot_list_pop PySem.F.type_list_pop mt_pop (pe_fld (pv 0) rfl))) (pss_cons (ps_set (i := 2) sc_Reader_closed.nd rfl (Or.inl rfl) (pe_callTy call_tuple_of (by rfl) T.z_tuple b_tuple (pa_cons (pe_bm0 PySem.F.plainAttrs_list PySem.F.slot_list_pop PySem.F.type_list_pop mt_pop (pe_fld (pv 0) rfl)) pa_nil))) (pss_cons (ps_expr (pe_bm PySem.F.plainAttrs_list PySem.F.slot_list_append PySem.F.type_list_append mt_append (pe_ix ix_list (pe_fld (pv 0) rfl) (pe_un un_neg pe_int) (fun _ _ => rfl)) (da_cons (d_op op_catA o_catT (dv 1) (d_tup (da_cons (dv 2) da_nil))) da_nil))) (pss_one (ps_ret d_bl)))))), ?_⟩)
  · obtain ⟨G, x, hs, head, row, rs, r2, r1, rfl, _⟩ := h
    rfl
  · obtain ⟨G, x, hs, head, row, rs, r2, r1, rfl, rd, heq, hcat, hri, hlen, q⟩ := h
    obtain ⟨dx, l1, l2, as, p⟩ := rd.ex
    obtain ⟨xs, e1, e2⟩ := p.h1
    refine ⟨_, rfl, x, rdC K, dx, _, _, rfl, p.hx, C_cl, nH, rfl, [none, none, none], .list [], .skip (.skip (.skip .nil)), rfl, fun v H1 s1 i1 => ?_⟩
    have p1 := p.grow s1
    unfold gEq at heq
    split at heq
    · rename_i hsh
      obtain ⟨hs1, hs2⟩ := Bool.and_eq_true_iff.mp hsh
      have heq2 := PyData.bool.inj (Option.some.inj heq)
      refine ⟨.list (hs ++ [head]), .list [], (Is.lst (s1 _ _ e1) (e2.mono s1)).dp, i1.dp, hs1, hs2, false, by rw [heq2], iteF ?_⟩
      obtain ⟨xs1, y, f1', f2', f3', him, p2⟩ := p1.popH
      refine ⟨_, rfl, x, rdC K, dx, _, _, rfl, p1.hx, C_cl, nH, rfl, .inl ⟨rfl, _, SqL.of f1'⟩, l1, xs1, y, rfl, rfl, f1', f2', ?_⟩
      obtain ⟨bs, a1, zs1, eas, g1', g2', g3', g4', p3⟩ := p2.popR
      subst eas
      have hl2 := p2.h2
      refine ⟨_, rfl, x, rdC K, dx, _, _, rfl, p2.hx, C_cl, nR, rfl, .inl ⟨rfl, _, SqL.of hl2⟩, l2, _, .ref a1, rfl, rfl, hl2, ?_, ?_⟩
      · simp
      have edl : ((bs ++ [a1]).map V.ref).dropLast = bs.map V.ref := by simp
      rw [edl]
      have hza : upd (upd H1 l1 (.lst xs1.dropLast)) l2 (.lst (bs.map V.ref)) a1 = some (.lst zs1) := by
        rw [upd_ne]
        exact g1'
        assumption
      refine ⟨a1, zs1, rfl, .inl ⟨SqL.of hza, fun t ht => ?_⟩⟩
      have p4 := p3.grow (same_new (o := .tup zs1) ht)
      obtain ⟨cs, a2, zs2, ecs, k1, k2, k3⟩ := p4.lastR
      subst ecs
      have hat : L2.atI ((cs ++ [a2]).map V.ref) (-1) = some (.ref a2) := by
        rw [List.map_append]
        exact atI_last _ _
      refine ⟨_, rfl, x, rdC K, dx, _, _, rfl, p4.hx, C_cl, nR, rfl, 1, rfl, l2, _, -1, .ref a2, rfl, rfl, SqL.of p4.h2, hat, .inl ⟨rfl, _, SqL.of k1⟩, ?_⟩
      have s34 : Same (upd (upd H1 l1 (.lst xs1.dropLast)) l2 (.lst ((cs ++ [a2]).map V.ref))) (upd (upd (upd H1 l1 (.lst xs1.dropLast)) l2 (.lst ((cs ++ [a2]).map V.ref))) t (.tup zs1)) := same_new ht
      refine ⟨[none, some head, some (.tuple r1)], [row], .skip (.keep (((f3'.immU f1' him).immU hl2 him).mono s34) (.keep (.tup (SqT.of upd_same) ((g2'.immU hl2 g3').mono s34)) .nil)), ?_, fun vs H5 s5 i5 hl5 => ?_⟩
      · simp [f1, f2, fV, fCons, fNil, gTu, hcat]
      · cases i5 with
        | cons j1 i5 =>
          cases i5
          have p5 := p4.grow s5
          have k5 := s5 _ _ k1
          refine ⟨a2, zs2, _, rfl, rfl, k5, ?_, ?_⟩
          · rw [k2.length]
            exact Nat.lt_of_lt_of_le (by omega : r2.length < 100001) (by decide)
          · refine ⟨[none, none, none], .bool true, .skip (.skip (.skip .nil)), rfl, fun v H6 s6 i6 => ?_⟩
            obtain rfl := i6.blI
            exact q _ ⟨dx, l1, l2, _, (p5.appR k5 j1 hri).grow s6⟩
    · cases heq
end
end Arc
set_option Elab.async false
set_option linter.all false
set_option maxRecDepth 100000
set_option maxHeartbeats 4000000
namespace Arc
open PySem L2
/-- what the first words of a block say -/
def wholesF : Rho → Option PyData := fLc [3] (tgN 3) (fun _ => some true) (f1 whole_in_G (fCons (fV 3) fNil)) (f1 itL (fSl (fV 1) (f1 gI (fC (.int 1))) (fun _ => some none)))
def badF : Rho → Option Bool := fOr (f1 gB (f2 gNe (f1 (on1 gLen) (fCons (fV 2) fNil)) (f1 (on1 gInt) (fCons (f2 gEq (f2 gIx (fV 1) (fC (.int 0))) (fC (.str "again"))) fNil)))) (f1 gB (f2 gInD (fC .none) (fV 2)))
def headRow (ws ns : PyData) : Option PyData := (gIx ws (.int 0)).bind fun w => (gTuple ns).bind fun tn => (gCatT (.tuple [w]) tn).bind immO
def headM (ws : List PyData) : Option PyData :=
  (wholesF [none, some (.list ws), none, none]).bind fun ns => (badF [none, some (.list ws), some ns, none]).bind fun b => if b = true then none else headRow (.list ws) ns
def fracsF : Rho → Option PyData := fLc [4] (tgN 4) (fun _ => some true) (f1 fraction_in_G (fCons (fV 4) fNil)) (f1 itL (fSl (fV 2) (f1 gI (fC (.int 1))) (fun _ => some none)))
def openF : Rho → Option Bool := fOr (f1 gB (f2 gEq (fV 2) (f1 gLs (fCons (fC (.str "keep")) fNil)))) (fOr (f1 gB (f2 gEq (fV 2) (f1 gLs (fCons (fC (.str "ever")) fNil)))) (f1 gB (f2 gEq (f2 gIx (fV 2) (fC (.int 0))) (fC (.str "again")))))
def noRowF : Rho → Option Bool := fOr (f1 gB (f1 (gKnot tNUMBERS) (f2 gIx (fV 2) (fC (.int 0))))) (f1 gB (f2 gNe (f1 (on1 gLen) (fCons (fV 2) fNil)) (f2 gAdd (fC (.int 1)) (f1 (gKd tNUMBERS) (f2 gIx (fV 2) (fC (.int 0)))))))
inductive LineK where
  | close
  | opn (h : PyData)
  | plain (row : PyData)
def listO : PyData → Option (List PyData)
  | .list l => some l
  | _ => none
theorem listO_some {d : PyData} {l : List PyData} (h : listO d = some l) : d = .list l := by
  cases d <;> cases h
  rfl
def wordsK (ws : List PyData) : Option LineK :=
  ((gEq (.list ws) (.list [.str "end"])).bind gB).bind fun b1 => if b1 = true then some .close else
  (openF [none, none, some (.list ws), none, none]).bind fun b2 => if b2 = true then (headM ws).map .opn else
  (noRowF [none, none, some (.list ws), none, none]).bind fun b3 => if b3 = true then none else
  (fracsF [none, none, some (.list ws), none, none]).bind fun ns => ((gInD .none ns).bind gB).bind fun b4 => if b4 = true then none else (headRow (.list ws) ns).map .plain
def lineK (t : Str) : Option LineK := ((gSplit (.str t) (.str " ")).bind listO).bind wordsK
/-- the reader's state on data: both stacks, the top first -/
abbrev RdS := List PyData × List (List PyData)
def rdStep : LineK → RdS → Option RdS
  | .close, (head :: hs, r1 :: r2 :: rs) => if (gEq (.list (head :: hs).reverse) (.list [])).bind gB = some false ∧ r2.length ≤ 100000 then ((gCatT head (.tuple [.tuple r1])).bind immO).map fun row => (hs, (r2 ++ [row]) :: rs) else none
  | .opn h, (hs, rs) => if hs.length ≤ 100000 ∧ rs.length ≤ 100000 then some (h :: hs, [] :: rs) else none
  | .plain row, (hs, r :: rs) => if r.length ≤ 100000 then some (hs, (r ++ [row]) :: rs) else none
  | _, _ => none
def spOpened (K : PySem.W.Frag) (C : Addr) : Sp := fun vs H Q _ => ∃ (G : Hp) (x : Addr) (wv : V) (ws : List PyData) (h : PyData) (Hd : List PyData) (Rw : List (List PyData)), vs = [.ref x, wv] ∧ Is K H wv (.list ws) ∧ RdAt K C G H x Hd Rw ∧
  headM ws = some h ∧ Hd.length ≤ 100000 ∧ Rw.length ≤ 100000 ∧ ∀ H', RdAt K C G H' x (Hd ++ [h]) (Rw ++ [[]]) → Q (.bl true) H'
def spReadLine (K : PySem.W.Frag) (C : Addr) : Sp := fun vs H Q _ => ∃ (G : Hp) (x : Addr) (t : Str) (k : LineK) (s s' : RdS), vs = [.ref x, .str t] ∧ RdAt K C G H x s.1.reverse s.2.reverse ∧
  lineK t = some k ∧ rdStep k s = some s' ∧ ∀ H', RdAt K C G H' x s'.1.reverse s'.2.reverse → Q (.bl true) H'
theorem RwAt.length {K : PySem.W.Frag} {H : Hp} : ∀ {as : List Addr} {Rs : List (List PyData)}, RwAt K H as Rs → as.length = Rs.length
  | _, _, .nil => rfl
  | _, _, .cons _ _ _ r => congrArg Nat.succ (RwAt.length r)
theorem RwAt.some {K : PySem.W.Frag} {H : Hp} : ∀ {as : List Addr} {Rs : List (List PyData)} {a : Addr}, RwAt K H as Rs → a ∈ as → ∃ zs, H a = some (.lst zs)
  | _, _, _, .cons h _ _ r, m => by
    rcases List.mem_cons.mp m with z | z
    · subst z
      exact ⟨_, h⟩
    · exact RwAt.some r z
section
variable {P : Program} {w : World} {K : PySem.W.Frag} {mg : Str → Option Value} {base : Heap}
theorem sc_Reader_opened : FnScope ["self", "words", "numbers", "word"] ["self", "words"] (defScope s_Reader_opened) := ⟨rfl, rfl, rfl, by decide +kernel, rfl, by decide +kernel, by decide +kernel⟩
theorem sc_Reader_read_line : FnScope ["self", "text", "words", "numbers", "word"] ["self", "text"] (defScope s_Reader_read_line) := ⟨rfl, rfl, rfl, by decide +kernel, rfl, by decide +kernel, by decide +kernel⟩
theorem ok_opened (B : Bs w K mg) (T : Tp w K mg) (h_whole_in : Fc P w K mg base 1 "whole_in" ["word"] whole_in_G) : Mc P w K mg base 2 "Reader" "opened" ["self", "words"] (spOpened K (rdC K)) := by
  obtain ⟨fd, Fd⟩ := B.defs (d := d_Reader_opened) (mem_fn 55 rfl)
  replace Fd : FnP K "opened" "Reader.opened" s_Reader_opened [] (He.ma K (He.ga K "Reader") "opened") fd := Fd
  have C_cl := B.cls (x := "Reader") (mem_fa 74 rfl)
  have nH := B.noat (x := "Reader") (f := "heads") (mem_fa 79 rfl)
  have nR := B.noat (x := "Reader") (f := "rows") (mem_fa 80 rfl)
  have hj_whole_in : 1 ≤ 1 := Nat.le_refl _
  refine ⟨fd, ?_, FunD.bindsN (ps := ["self", "words"]) Fd fun _ _ _ _ _ _ us hl => match us, hl with | [_, _], _ => rfl⟩
  refine Fd.ok (k := 1) sc_Reader_opened (fun vs H Q E h => ?_) (fun cdv A outer s H vs Q E hr h => ⟨_, PSs.nox (pss_cons (Arc.rs_setLc (i := 2) (own := [("word", 3)]) sc_Reader_opened.nd (sw_true rfl rfl rfl (by decide +kernel)) (li_L (d_sl (dv 1) (do_some d_int) do_none)) (blkOk_by (own := [("word", 3)]) (N := ["self", "words", "numbers", "word"]) (sc := defScope s_Reader_opened) (by decide +kernel)) (fun _ _ _ _ _ => pg_name (i := 3) sc_Reader_opened.nd rfl (Or.inl rfl)) (tl_name (by decide)) (fun _ _ _ _ _ => dts_nil) (fun _ _ _ _ _ => (d_call (hj := hj_whole_in) h_whole_in hr (da_cons (dv 3) da_nil)))) (pss_cons (ps_if (PW.pt (dw_or (dt_cmp (op_neD hr.units) o_ne (d_bi call_len c_len T.z_len b_len (da_cons (dv 2) da_nil)) (d_ty call_int1 c_int T.z_int b_int (da_cons (d_cmp (op_eqD hr.units) o_eq (d_ix (dv 1) d_int) d_str) da_nil))) (dw_or1 (dt_cmp (op_inD (hu65 hr)) o_inD d_non (dv 2))))) (pss_one (ps_ret d_bl)) pss_nil) (pss_cons (ps_expr (pe_bm PySem.F.plainAttrs_list PySem.F.slot_list_append PySem.F.type_list_append mt_append (pe_fld (pv 0) rfl) (da_cons (d_op op_catA o_catT (d_tup (da_cons (d_ix (dv 1) d_int) da_nil)) (d_ty call_tuple_of c_tuple T.z_tuple b_tuple (da_cons (dv 2) da_nil))) da_nil))) (pss_cons (ps_expr (pe_bm PySem.F.plainAttrs_list PySem.F.slot_list_append PySem.F.type_list_append mt_append (pe_fld (pv 0) rfl) (pa_cons (pe_lst pa_nil) pa_nil))) (pss_one (ps_ret d_bl)))))), ?_⟩)
  · obtain ⟨G, x, wv, ws, h, Hd, Rw, rfl, _⟩ := h
    rfl
  · obtain ⟨G, x, wv, ws, h, Hd, Rw, rfl, hwv, rd, hm, hb1, hb2, q⟩ := h
    unfold headM at hm
    obtain ⟨ns, hn, hm2⟩ := Option.bind_eq_some_iff.mp hm
    clear hm
    obtain ⟨b, hb, hm3⟩ := Option.bind_eq_some_iff.mp hm2
    clear hm2
    cases b with
    | true => cases hm3
    | false =>
      rw [if_neg Bool.false_ne_true] at hm3
      unfold headRow at hm3
      obtain ⟨wd, hw, hm4⟩ := Option.bind_eq_some_iff.mp hm3
      obtain ⟨tn, ht, hm5⟩ := Option.bind_eq_some_iff.mp hm4
      obtain ⟨hd0, hc, hm6⟩ := Option.bind_eq_some_iff.mp hm5
      obtain ⟨eh, him⟩ := immO_some hm6
      subst eh
      obtain ⟨dx, l1, l2, as, p⟩ := rd.ex
      refine ⟨[none, some (.list ws), none, none], ns, .skip (.keep hwv (.skip (.skip .nil))), hn, fun v H1 s1 i1 => ?_⟩
      refine ⟨[none, some (.list ws), some ns, none], false, .skip (.keep (hwv.mono s1) (.keep i1 (.skip .nil))), hb, fun H2 s2 => iteF ?_⟩
      have p2 := (p.grow s1).grow s2
      obtain ⟨xs2, e1, e2⟩ := p2.h1
      refine ⟨_, rfl, x, rdC K, dx, _, _, rfl, p2.hx, C_cl, nH, rfl, .inl ⟨rfl, _, SqL.of e1⟩, [none, some (.list ws), some ns, none], [hd0], .skip (.keep (hwv.mono (s1.trans s2)) (.keep (i1.mono s2) (.skip .nil))), ?_, fun vs H3 s3 i3 hl3 => ?_⟩
      · simp [f1, f2, fV, fC, fCons, fNil, gTu, on1, hw, ht, hc]
      · cases i3 with
        | cons j1 i3 =>
          cases i3
          have p3 := p2.grow s3
          obtain ⟨xs, e3, e4, p4⟩ := p3.appH j1 him
          refine ⟨l1, xs, _, rfl, rfl, e3, ?_, ?_⟩
          · rw [e4]
            exact Nat.lt_of_lt_of_le (by omega : Hd.length < 100001) (by decide)
          · refine ⟨_, rfl, x, rdC K, dx, _, _, rfl, p4.hx, C_cl, nR, rfl, .inl ⟨rfl, _, SqL.of p4.h2⟩, Nat.zero_le _, fun a na => ?_⟩
            have p5 := p4.grow (same_new (o := .lst []) na)
            refine ⟨l2, _, .ref a, rfl, rfl, p5.h2, ?_, ?_⟩
            · rw [List.length_map, p5.rw_.length]
              exact Nat.lt_of_lt_of_le (by omega : Rw.length < 100001) (by decide)
            · have nas : ∀ {b : Addr} {o : HO}, upd H3 l1 (.lst (xs ++ [_])) b = some o → a ≠ b := fun e z => by
                rw [← z, na] at e
                cases e
              have p6 := p5.newR upd_same (p4.sm.free na) (fun z => by
                obtain ⟨zs, hz⟩ := p4.rw_.some z
                exact nas hz rfl) (by
                obtain ⟨ys, hy, _⟩ := p4.h1
                exact nas hy) (nas p4.h2)
              refine ⟨[none, none, none, none], .bool true, .skip (.skip (.skip (.skip .nil))), rfl, fun v6 H6 s6 i6 => ?_⟩
              obtain rfl := i6.blI
              exact q _ ⟨dx, l1, l2, _, p6.grow s6⟩
theorem ok_read_line (B : Bs w K mg) (T : Tp w K mg) (h_fraction_in : Fc P w K mg base 2 "fraction_in" ["word"] fraction_in_G)
    (Mc1 : Mc P w K mg base 1 "Reader" "closed" ["self"] (spClosed K (rdC K))) (Mo : Mc P w K mg base 2 "Reader" "opened" ["self", "words"] (spOpened K (rdC K))) : Mc P w K mg base 3 "Reader" "read_line" ["self", "text"] (spReadLine K (rdC K)) := by
  obtain ⟨fd, Fd⟩ := B.defs (d := d_Reader_read_line) (mem_fn 54 rfl)
  replace Fd : FnP K "read_line" "Reader.read_line" s_Reader_read_line [] (He.ma K (He.ga K "Reader") "read_line") fd := Fd
  have C_cl := B.cls (x := "Reader") (mem_fa 74 rfl)
  have nR := B.noat (x := "Reader") (f := "rows") (mem_fa 80 rfl)
  have M_closed := B.meth (x := "Reader") (m := "closed") (mem_fa 88 rfl)
  have M_opened := B.meth (x := "Reader") (m := "opened") (mem_fa 87 rfl)
  obtain ⟨fr_, G_closed, B_closed⟩ := Mc1.ex
  obtain ⟨fo_, G_opened, B_opened⟩ := Mo.ex
  have hj_fraction_in : 2 ≤ 2 := Nat.le_refl _
  have hj_closed : 1 ≤ 2 := by decide
  have hj_opened : 2 ≤ 2 := Nat.le_refl _
  refine ⟨fd, ?_, FunD.bindsN (ps := ["self", "text"]) Fd fun _ _ _ _ _ _ us hl => match us, hl with | [_, _], _ => rfl⟩
  refine Fd.ok (k := 2) sc_Reader_read_line (fun vs H Q E h => ?_) (fun cdv A outer s H vs Q E hr h => ⟨_, PSs.nox (pss_cons (ps_set (i := 2) sc_Reader_read_line.nd rfl (Or.inl rfl) (d_split (dv 1) d_str)) (pss_cons (ps_if (dt_cmp (op_eqD hr.units) o_eq (dv 2) (d_lst (da_cons d_str da_nil))) (pss_one (ps_ret (pe_meth0 (pv 0) C_cl M_closed G_closed (hr.mono hj_closed) B_closed .nil pass0))) pss_nil) (pss_cons (ps_if (PW.pt (dw_or (dt_cmp (op_eqD hr.units) o_eq (dv 2) (d_lst (da_cons d_str da_nil))) (dw_or (dt_cmp (op_eqD hr.units) o_eq (dv 2) (d_lst (da_cons d_str da_nil))) (dw_or1 (dt_cmp (op_eqD hr.units) o_eq (d_ix (dv 2) d_int) d_str))))) (pss_one (ps_ret (pe_meth (pv 0) C_cl M_opened G_opened (hr.mono hj_opened) B_opened .nil pass0 (pa_cons (pv 2) pa_nil)))) pss_nil) (pss_cons (ps_if (PW.pt (dw_or (dt_knot T.t_NUMBERS (d_ix (dv 2) d_int)) (dw_or1 (dt_cmp (op_neD hr.units) o_ne (d_bi call_len c_len T.z_len b_len (da_cons (dv 2) da_nil)) (d_op op_add o_add d_int (d_kd T.t_NUMBERS (d_ix (dv 2) d_int))))))) (pss_one (ps_ret d_bl)) pss_nil) (pss_cons (Arc.rs_setLc (i := 3) (own := [("word", 4)]) sc_Reader_read_line.nd (sw_true rfl rfl rfl (by decide +kernel)) (li_L (d_sl (dv 2) (do_some d_int) do_none)) (blkOk_by (own := [("word", 4)]) (N := ["self", "text", "words", "numbers", "word"]) (sc := defScope s_Reader_read_line) (by decide +kernel)) (fun _ _ _ _ _ => pg_name (i := 4) sc_Reader_read_line.nd rfl (Or.inl rfl)) (tl_name (by decide)) (fun _ _ _ _ _ => dts_nil) (fun _ _ _ _ _ => (d_call (hj := hj_fraction_in) h_fraction_in hr (da_cons (dv 4) da_nil)))) (pss_cons (ps_if (dt_cmp (op_inD (hu65 hr)) o_inD d_non (dv 3)) (pss_one (ps_ret d_bl)) pss_nil) (pss_cons (ps_expr (pe_bm PySem.F.plainAttrs_list PySem.F.slot_list_append PySem.F.type_list_append mt_append (pe_ix ix_list (pe_fld (pv 0) rfl) (pe_un un_neg pe_int) (fun _ _ => rfl)) (da_cons (d_op op_catA o_catT (d_tup (da_cons (d_ix (dv 2) d_int) da_nil)) (d_ty call_tuple_of c_tuple T.z_tuple b_tuple (da_cons (dv 3) da_nil))) da_nil))) (pss_one (ps_ret d_bl))))))))), ?_⟩)
  · obtain ⟨G, x, t, k, s, s', rfl, _⟩ := h
    rfl
  · obtain ⟨G, x, t, k, st, st', rfl, rd, hk, hst, q⟩ := h
    unfold lineK at hk
    obtain ⟨ws, hw, hk2⟩ := Option.bind_eq_some_iff.mp hk
    clear hk
    obtain ⟨wl, hw1, hw2⟩ := Option.bind_eq_some_iff.mp hw
    obtain rfl := listO_some hw2
    obtain ⟨dx, l1, l2, as, p⟩ := rd.ex
    refine ⟨[none, some (.str t), none, none, none], .list ws, .skip (.keep (.str t) (.skip (.skip (.skip .nil)))), hw1, fun v H1 s1 i1 => ?_⟩
    unfold wordsK at hk2
    obtain ⟨b1, hb1, hk3⟩ := Option.bind_eq_some_iff.mp hk2
    clear hk2
    have eoW : ∀ H2, Same H1 H2 → EO K H2 [some (.ref x), some (.str t), some v, none, none] [none, none, some (.list ws), none, none] := fun H2 s2 => .skip (.skip (.keep (i1.mono s2) (.skip (.skip .nil))))
    refine ⟨_, b1, eoW H1 (Same.refl H1), ?_, fun H2 s2 => ?_⟩
    · obtain ⟨z, hz1, hz2⟩ := Option.bind_eq_some_iff.mp hb1
      simp [f1, f2, fV, fC, fCons, fNil, gLs, hz1, hz2]
    cases b1 with
    | true =>
      rw [if_pos rfl] at hk3
      cases hk3
      have p2 := (p.grow s1).grow s2
      obtain ⟨hs0, rw0⟩ := st
      cases hs0 with
      | nil =>
        cases rw0 with
        | nil => cases hst
        | cons r1 rs1 => cases rs1 <;> cases hst
      | cons head hs =>
        cases rw0 with
        | nil => cases hst
        | cons r1 rs1 =>
          cases rs1 with
          | nil => cases hst
          | cons r2 rs =>
            have hst2 : (if (gEq (.list (head :: hs).reverse) (.list [])).bind gB = some false ∧ r2.length ≤ 100000 then ((gCatT head (.tuple [.tuple r1])).bind immO).map fun row => (hs, (r2 ++ [row]) :: rs) else none) = some st' := hst
            split at hst2
            · rename_i hc
              obtain ⟨row, hrow, hst3⟩ := Option.map_eq_some_iff.mp hst2
              subst hst3
              obtain ⟨row0, hr1, hr2⟩ := Option.bind_eq_some_iff.mp hrow
              obtain ⟨er, him⟩ := immO_some hr2
              subst er
              obtain ⟨gd, hg1, hg2⟩ := Option.bind_eq_some_iff.mp hc.1
              have hgd := gB_some hg2
              subst hgd
              have e1 : (head :: hs).reverse = hs.reverse ++ [head] := List.reverse_cons
              have e2 : (r1 :: r2 :: rs).reverse = rs.reverse ++ [r2] ++ [r1] := by rw [List.reverse_cons, List.reverse_cons]
              have e3 : ((r2 ++ [row0]) :: rs).reverse = rs.reverse ++ [r2 ++ [row0]] := List.reverse_cons
              have p2' : RdX K (rdC K) G H2 x dx l1 l2 as (hs.reverse ++ [head]) (rs.reverse ++ [r2] ++ [r1]) := by
                rw [← e1, ← e2]
                exact p2
              rw [e1] at hg1
              refine iteT ⟨_, rfl, x, dx, _, rfl, p2.hx, rdF_no _ _ (by decide +kernel) (by decide +kernel), G, x, hs.reverse, head, row0, rs.reverse, r2, r1, rfl, ⟨dx, l1, l2, as, p2'⟩, hg1, hr1, him, hc.2, fun H3 rd3 => q H3 ?_⟩
              show RdAt K (rdC K) G H3 x hs.reverse ((r2 ++ [row0]) :: rs).reverse
              rw [e3]
              exact rd3
            · cases hst2
    | false =>
      rw [if_neg Bool.false_ne_true] at hk3
      obtain ⟨b2, hb2, hk4⟩ := Option.bind_eq_some_iff.mp hk3
      clear hk3
      refine iteF ⟨_, b2, eoW H2 s2, hb2, fun H3 s3 => ?_⟩
      have s13 := s2.trans s3
      have p3 := ((p.grow s1).grow s2).grow s3
      cases b2 with
      | true =>
        rw [if_pos rfl] at hk4
        obtain ⟨h, hh, hk5⟩ := Option.map_eq_some_iff.mp hk4
        subst hk5
        obtain ⟨hs, rs⟩ := st
        have hst2 : (if hs.length ≤ 100000 ∧ rs.length ≤ 100000 then some (h :: hs, [] :: rs) else none) = some st' := hst
        split at hst2
        · rename_i hc
          cases hst2
          refine iteT ⟨_, rfl, x, dx, _, rfl, p3.hx, rdF_no _ _ (by decide +kernel) (by decide +kernel), _, rfl, G, x, v, ws, h, hs.reverse, rs.reverse, rfl, i1.mono s13, ⟨dx, l1, l2, as, p3⟩, hh, by rw [List.length_reverse]; exact hc.1, by rw [List.length_reverse]; exact hc.2, fun H4 rd4 => q H4 ?_⟩
          show RdAt K (rdC K) G H4 x (h :: hs).reverse ([] :: rs).reverse
          rw [List.reverse_cons, List.reverse_cons]
          exact rd4
        · cases hst2
      | false =>
        rw [if_neg Bool.false_ne_true] at hk4
        obtain ⟨b3, hb3, hk5⟩ := Option.bind_eq_some_iff.mp hk4
        clear hk4
        refine iteF ⟨_, b3, eoW H3 s13, hb3, fun H4 s4 => ?_⟩
        cases b3 with
        | true => cases hk5
        | false =>
          rw [if_neg Bool.false_ne_true] at hk5
          obtain ⟨ns, hns, hk6⟩ := Option.bind_eq_some_iff.mp hk5
          clear hk5
          obtain ⟨b4, hb4, hk7⟩ := Option.bind_eq_some_iff.mp hk6
          clear hk6
          obtain ⟨z4, hz4, hz5⟩ := Option.bind_eq_some_iff.mp hb4
          cases b4 with
          | true => cases hk7
          | false =>
            rw [if_neg Bool.false_ne_true] at hk7
            obtain ⟨row, hrow, hk8⟩ := Option.map_eq_some_iff.mp hk7
            subst hk8
            unfold headRow at hrow
            obtain ⟨wd, hw', hm4⟩ := Option.bind_eq_some_iff.mp hrow
            obtain ⟨tn, ht, hm5⟩ := Option.bind_eq_some_iff.mp hm4
            obtain ⟨hd0, hc, hm6⟩ := Option.bind_eq_some_iff.mp hm5
            obtain ⟨eh, him⟩ := immO_some hm6
            subst eh
            have s14 := s13.trans s4
            refine iteF ⟨_, ns, eoW H4 s14, hns, fun v5 H5 s5 i5 => ?_⟩
            have eoN : ∀ H6, Same H5 H6 → EO K H6 [some (.ref x), some (.str t), some v, some v5, none] [none, none, some (.list ws), some ns, none] := fun H6 s6 => .skip (.skip (.keep (i1.mono (s14.trans (s5.trans s6))) (.keep (i5.mono s6) (.skip .nil))))
            refine ⟨_, false, eoN H5 (Same.refl H5), ?_, fun H6 s6 => iteF ?_⟩
            · simp [f1, f2, fV, fC, hz4, hz5]
            · obtain ⟨hs, rw0⟩ := st
              cases rw0 with
              | nil => cases hst
              | cons r rs =>
                have hst2 : (if r.length ≤ 100000 then some (hs, (r ++ [hd0]) :: rs) else none) = some st' := hst
                split at hst2
                · rename_i hr1
                  cases hst2
                  have p6 := ((p3.grow s4).grow s5).grow s6
                  rw [show (r :: rs).reverse = rs.reverse ++ [r] from List.reverse_cons] at p6
                  obtain ⟨cs, a2, zs2, ecs, k1, k2, k3⟩ := p6.lastR
                  subst ecs
                  have hat : L2.atI ((cs ++ [a2]).map V.ref) (-1) = some (.ref a2) := by
                    rw [List.map_append]
                    exact atI_last _ _
                  refine ⟨_, rfl, x, rdC K, dx, _, _, rfl, p6.hx, C_cl, nR, rfl, 1, rfl, l2, _, -1, .ref a2, rfl, rfl, SqL.of p6.h2, hat, .inl ⟨rfl, _, SqL.of k1⟩, _, [hd0], eoN H6 s6, ?_, fun vs H7 s7 i7 hl7 => ?_⟩
                  · simp [f1, f2, fV, fC, fCons, fNil, gTu, on1, hw', ht, hc]
                  · cases i7 with
                    | cons j1 i7 =>
                      cases i7
                      have p7 := p6.grow s7
                      have k7 := s7 _ _ k1
                      refine ⟨a2, zs2, _, rfl, rfl, k7, ?_, ?_⟩
                      · rw [k2.length]
                        exact Nat.lt_of_lt_of_le (by omega : r.length < 100001) (by decide)
                      · refine ⟨[none, none, none, none, none], .bool true, .skip (.skip (.skip (.skip (.skip .nil)))), rfl, fun v8 H8 s8 i8 => ?_⟩
                        obtain rfl := i8.blI
                        refine q _ ⟨dx, l1, l2, cs ++ [a2], ?_⟩
                        show RdX K (rdC K) G _ x dx l1 l2 (cs ++ [a2]) hs.reverse ((r ++ [hd0]) :: rs).reverse
                        rw [show ((r ++ [hd0]) :: rs).reverse = rs.reverse ++ [r ++ [hd0]] from List.reverse_cons]
                        exact (p7.appR k7 j1 him).grow s8
                · cases hst2
end
end Arc
set_option Elab.async false
set_option linter.all false
set_option maxRecDepth 100000
set_option maxHeartbeats 4000000
namespace Arc
open PySem L2
section
variable {X : Cx} {x : Str} {p pos : Pos} {e : Expr} {es : List Expr} {k j : Nat} {ps : List Str} {g : List PyData → Option PyData} {t : TA}
/-- a call of a def of data, its arguments read as they come -/
theorem pe_callF (C : Fc X.prog X.w X.K X.mg X.base j x ps g) (hr : Room k X.A) (ha : PA X (e :: es) t) (hj : j ≤ k := by decide) (hg : Gl X x := by rfl) (hdb : (x == ("__debug__" : Str)) = false := by decide)
    (he : starEach (e :: es) X.env = (false, eval e X.env) :: starEach es X.env := by rfl) (hpl : (backTo pos (starEach es X.env)).any (·.1) = false := by rfl) : PE X (.Call (.Name x p) (e :: es) [] pos) (fun σ H Q => t σ H fun vs H1 => FnSpec X.K g vs H1 Q E0) := by
  obtain ⟨f, fd, h1, h2, h3, h4⟩ := C.ex
  refine peW (pe_call h1 (hr.mono hj) hg h2 h3 h4 .nil pass0 ha hdb he hpl) fun σ H Q h => ?_
  have e1 : (fun (vs : List V) (H1 : Hp) => FnSpec X.K g vs H1 Q E0) = fun vs H1 => FnSpec X.K g (vs ++ []) H1 Q E0 := by
    funext vs H1
    rw [List.append_nil]
  rw [e1] at h
  exact h
end
theorem atI_zero {α : Type} (a : α) (l : List α) : L2.atI (a :: l) 0 = some a := by
  unfold L2.atI L2.ixN
  rw [if_pos (by decide), if_pos (by simp)]
  rfl
def readRun : List PyData → RdS → Option RdS
  | [], s => some s
  | .str t :: r, s => (lineK t).bind fun k => (rdStep k s).bind fun s' => readRun r s'
  | _ :: _, _ => none
def read_G : List PyData → Option PyData
  | [.str t] => ((gEq (.str t) (.str "")).bind gB).bind fun b => if b = true then program_of_G [.tuple []] else ((gSplit (.str t) (.str "\n")).bind listO).bind fun ls => match ls with
    | [] => none
    | _ :: _ => (readRun ls ([], [[]])).bind fun s => match s with
      | ([], [rows]) => program_of_G [.tuple rows]
      | _ => none
  | _ => none
def hidL (H : Hp) (x : Addr) (ls : List Addr) : Hp := fun b => if b = x ∨ b ∈ ls then none else H b
theorem hidL_same (H : Hp) (x : Addr) (ls : List Addr) : Same (hidL H x ls) H := fun a o e => by
  unfold hidL at e
  split at e
  · cases e
  · exact e
theorem hidL_ne {H : Hp} {x a : Addr} {ls : List Addr} (h1 : a ≠ x) (h2 : a ∉ ls) : hidL H x ls a = H a := if_neg (by rintro (z | z); exact h1 z; exact h2 z)
section
variable {P : Program} {w : World} {K : PySem.W.Frag} {mg : Str → Option Value} {base : Heap}
theorem sc_read : FnScope ["text", "reader", "lines", "number", "entry"] ["text"] (defScope s_read) := ⟨rfl, rfl, rfl, by decide +kernel, rfl, by decide +kernel, by decide +kernel⟩
theorem ok_read (B : Bs w K mg) (T : Tp w K mg) (h_program_of : Fc P w K mg base 34 "program_of" ["rows"] program_of_G)
    (Mi : Mc P w K mg base 1 "Reader" "__init__" ["self"] (spRdInit K (rdC K)))
    (Ml : Mc P w K mg base 3 "Reader" "read_line" ["self", "text"] (spReadLine K (rdC K))) : Fc P w K mg base 35 "read" ["text"] read_G := by
  obtain ⟨fd, Fd⟩ := B.defs (d := d_read) (mem_fn 57 rfl)
  replace Fd : FnP K "read" "read" s_read [] (He.ga K "read") fd := Fd
  have C_cl := B.cls (x := "Reader") (mem_fa 74 rfl)
  have MK_Reader := B.mkr (x := "Reader") (mem_fa 75 rfl)
  have MG_Reader := B.glo (x := "Reader") (mem_fa 73 rfl)
  have nH := B.noat (x := "Reader") (f := "heads") (mem_fa 79 rfl)
  have nR := B.noat (x := "Reader") (f := "rows") (mem_fa 80 rfl)
  have M_read_line := B.meth (x := "Reader") (m := "read_line") (mem_fa 86 rfl)
  obtain ⟨fr_, G_read_line, B_read_line⟩ := Ml.ex
  obtain ⟨fi_, GI_Reader, BI_Reader⟩ := Mi.ex
  have hjI_Reader : 1 + 1 ≤ 34 := by decide
  have hj_read_line : 3 ≤ 34 := by decide
  have hj_program_of : 34 ≤ 34 := by decide
  refine ⟨He.ga K "read", fd, ?_, B.glo (mem_fa 46 rfl), Fd.kp, FunD.bindsN (ps := ["text"]) Fd fun _ _ _ _ _ _ us hl => match us, hl with | [_], _ => rfl⟩
  refine Fd.ok (k := 34) sc_read (fun vs H Q E ⟨ds, r, a, b, c⟩ => ?_) (fun cdv A outer s H vs Q E hr ⟨ds, r, a, b, c⟩ => ⟨_, PSs.nox (pss_cons (ps_if (dt_cmp (op_eqD hr.units) o_eq (dv 0) d_str) (pss_one (ps_ret (d_call (hj := hj_program_of) h_program_of hr (da_cons (d_tup da_nil) da_nil)))) pss_nil) (pss_cons (ps_set (i := 1) sc_read.nd rfl (Or.inl rfl) (pe_make0 MK_Reader GI_Reader (hr.mono hjI_Reader) rfl MG_Reader BI_Reader .nil pass0)) (pss_cons (ps_set (i := 2) sc_read.nd rfl (Or.inl rfl) (d_split (dv 0) d_str)) (pss_cons (ps_for PassesOwn.never rfl (pi_enum (by rfl) T.z_enumerate (pa_cons (pv 2) pa_nil)) (pg_tup rfl (pgs_cons (pg_name (i := 3) sc_read.nd rfl (Or.inl rfl)) (pgs_cons (pg_name (i := 4) sc_read.nd rfl (Or.inl rfl)) pgs_nil))) (pss_one (ps_if (pt_not (pt_val (pe_meth (pv 1) C_cl M_read_line G_read_line (hr.mono hj_read_line) B_read_line .nil pass0 (pa_cons (pv 4) pa_nil)))) (pss_one ps_never) pss_nil))) (pss_cons (ps_if (pt_cmpR (op_neD hr.units) (pe_fld (pv 1) rfl) (d_lst da_nil) (nomark _)) (pss_one ps_never) pss_nil) (pss_one (ps_ret (pe_callF (hj := hj_program_of) h_program_of hr (pa_cons (pe_callTy call_tuple_of (by rfl) T.z_tuple b_tuple (pa_cons (pe_ix ix_list (pe_fld (pv 1) rfl) pe_int (fun _ _ => rfl)) pa_nil)) pa_nil))))))))), ?_⟩)
  · unfold read_G at b
    split at b
    · rw [a.length]
      rfl
    · cases b
  · unfold read_G at b
    split at b
    · rename_i t
      obtain ⟨bb, hb1, b2⟩ := Option.bind_eq_some_iff.mp b
      clear b
      obtain ⟨bd, hb2, hb3⟩ := Option.bind_eq_some_iff.mp hb1
      cases a with
      | cons i1 a =>
        cases a
        obtain rfl := i1.strI
        have eoT : ∀ (H1 : Hp) (o1 o2 o3 o4 : Option V), EO K H1 [some (.str t), o1, o2, o3, o4] [some (.str t), none, none, none, none] := fun H1 o1 o2 o3 o4 => .keep (.str t) (.skip (.skip (.skip (.skip .nil))))
        refine ⟨_, bb, eoT _ _ _ _ _, ?_, fun H1 s1 => ?_⟩
        · simp [f1, f2, fV, fC, hb2, hb3]
        cases bb with
        | true =>
          rw [if_pos rfl] at b2
          exact iteT ⟨_, r, eoT _ _ _ _ _, by simp [f1, fC, fNil, fCons, gTu, b2], fun v H2 s2 i2 => c v H2 (s1.trans s2) i2⟩
        | false =>
          rw [if_neg Bool.false_ne_true] at b2
          obtain ⟨ls, hls, b3⟩ := Option.bind_eq_some_iff.mp b2
          clear b2
          obtain ⟨ll, hl1, hl2⟩ := Option.bind_eq_some_iff.mp hls
          obtain rfl := listO_some hl2
          cases ls with
          | nil => cases b3
          | cons e0 er =>
            obtain ⟨fin, hrun, b4⟩ := Option.bind_eq_some_iff.mp b3
            clear b3
            split at b4
            · rename_i rows
              refine iteF ?_
              intro x' dx' nx' ndx' nex
              have sG1 : Same H1 (upd H1 dx' (.own x')) := same_new ndx'
              refine ⟨upd H1 dx' (.own x'), x', dx', rfl, same_new (by rw [upd_ne nex.symm]; exact nx'), by rw [upd_ne nex.symm]; exact nx', upd_same, fun H2 rd => ⟨rfl, ?_⟩⟩
              obtain ⟨dxo, l1, l2, as, p2⟩ := rd.ex
              have s12 : Same H1 H2 := sG1.trans p2.sm
              refine ⟨_, .list (e0 :: er), eoT _ _ _ _ _, ?_, fun v H3 s3 i3 => ?_⟩
              · simp [f2, fV, fC, hl1]
              have p3 := p2.grow s3
              obtain ⟨la, xs, ev, hla, hds⟩ := i3.lstI
              subst ev
              -- the list of lines is none of the reader's own
              have hxs : ∃ y ys, xs = y :: ys ∧ ∃ z, y = .str z := by
                cases hds with
                | cons k1 k2 =>
                  refine ⟨_, _, rfl, ?_⟩
                  cases e0 with
                  | str z => exact ⟨z, k1.strI⟩
                  | _ => cases hrun
              obtain ⟨y0, ys0, ex0, z0, ey0⟩ := hxs
              have nl1 : la ≠ l1 := fun z => by
                obtain ⟨us, u1, u2⟩ := p3.h1
                cases u2
                rw [z, u1] at hla
                have := HO.lst.inj (Option.some.inj hla)
                rw [ex0] at this
                cases this
              have nl2 : la ≠ l2 := fun z => by
                rw [z, p3.h2] at hla
                have := HO.lst.inj (Option.some.inj hla)
                rw [ex0, ey0] at this
                cases as with
                | nil => cases this
                | cons a as => cases this
              have nla : la ∉ as := fun z => by
                cases p3.rw_ with
                | cons h1 h2 h3 h4 =>
                  cases h4
                  rw [List.mem_singleton.mp z, h1] at hla
                  cases h2
                  have := HO.lst.inj (Option.some.inj hla)
                  rw [ex0] at this
                  cases this
              have nlx : la ≠ x' := (p3.nx hla).symm
              have nnL : la ∉ l1 :: l2 :: as := fun z => by
                rcases List.mem_cons.mp z with z | z
                · exact nl1 z
                · rcases List.mem_cons.mp z with z | z
                  · exact nl2 z
                  · exact nla z
              have hG2 : ∀ b, b = x' ∨ b ∈ l1 :: l2 :: as → hidL H3 x' (l1 :: l2 :: as) b = none := fun b h => if_pos h
              have p3' : RdX K (rdC K) (hidL H3 x' (l1 :: l2 :: as)) H3 x' dxo l1 l2 as [] [[]] :=
                { p3 with sm := hidL_same _ _ _, gx := hG2 _ (.inl rfl), g1 := hG2 _ (.inr (by simp)), g2 := hG2 _ (.inr (by simp)), ga := fun b hb => hG2 _ (.inr (by simp [hb])) }
              have hlaG : hidL H3 x' (l1 :: l2 :: as) la = some (.lst xs) := by
                rw [hidL_ne nlx nnL]
                exact hla
              have sHG : Same H1 (hidL H3 x' (l1 :: l2 :: as)) := fun b o e => by
                have e1 : upd H1 dx' (.own x') b = some o := sG1 _ _ e
                have nb : ¬ (b = x' ∨ b ∈ l1 :: l2 :: as) := by
                  rintro (z | z)
                  · rw [z, p2.gx] at e1
                    cases e1
                  · rcases List.mem_cons.mp z with z | z
                    · rw [z, p2.g1] at e1
                      cases e1
                    · rcases List.mem_cons.mp z with z | z
                      · rw [z, p2.g2] at e1
                        cases e1
                      · rw [p2.ga _ z] at e1
                        cases e1
                show (if _ then _ else _) = _
                rw [if_neg nb]
                exact s3 _ _ (p2.sm _ _ e1)
              refine ⟨_, rfl, la, xs, rfl, SqL.of hla, for_it (walk_enum (xs := xs)) (fun i σ' H' => ∃ o3 o4 s, σ' = [some (.str t), some (.ref x'), some (.ref la), o3, o4] ∧ RdAt K (rdC K) (hidL H3 x' (l1 :: l2 :: as)) H' x' s.1.reverse s.2.reverse ∧ readRun ((e0 :: er).drop i) s = some ([], [rows]))
                ⟨none, none, ([], [[]]), rfl, ⟨dxo, l1, l2, as, p3'⟩, hrun⟩ (fun i σ' H' _ p => ?_) ?_ ?_⟩
              · obtain ⟨_, _, _, _, rd', _⟩ := p
                obtain ⟨_, _, _, _, p'⟩ := rd'.ex
                exact SqL.of (p'.sm _ _ hlaG)
              · rintro i y σ' H' H'' hi ⟨o3, o4, s, rfl, rd', hrun'⟩ ⟨Tt, pI, pX, rfl, hT, rfl, epI, epX⟩
                cases epI
                have epX2 : xs[i]? = some pX := epX
                obtain ⟨d, hd1, hd2⟩ := hds.getV epX2
                have hlt := (List.getElem?_eq_some_iff.mp hd1).1
                have hdr : (e0 :: er).drop i = d :: (e0 :: er).drop (i + 1) := by
                  rw [List.drop_eq_getElem_cons hlt, (List.getElem?_eq_some_iff.mp hd1).2]
                rw [hdr] at hrun'
                cases d with
                | str z =>
                  obtain ⟨k, hk, hrun2⟩ := Option.bind_eq_some_iff.mp hrun'
                  obtain ⟨s', hs', hrun3⟩ := Option.bind_eq_some_iff.mp hrun2
                  obtain rfl := hd2.strI
                  obtain ⟨dxa, ll1, ll2, las, pa⟩ := rd'.ex
                  have pb := pa.grow (same_new (o := .tup [.int (i : Int), .str z]) hT)
                  refine ⟨Tt, [.int (i : Int), .str z], rfl, SqT.of upd_same, rfl, .int (i : Int), [.str z], rfl, .str z, [], rfl, rfl, ?_⟩
                  refine ⟨_, rfl, x', dxa, _, rfl, pb.hx, rdF_no _ _ (by decide +kernel) (by decide +kernel), _, rfl, hidL H3 x' (l1 :: l2 :: as), x', z, k, s, s', rfl, ⟨dxa, ll1, ll2, las, pb⟩, hk, hs', fun H5 rd5 => ⟨true, rfl, iteF ?_⟩⟩
                  exact ⟨some (.int (i : Int)), some (.str z), s', rfl, rd5, hrun3⟩
                | _ => cases hrun'
              · rintro σ' H' ⟨o3, o4, s, rfl, rd', hrun'⟩
                have hlx : (e0 :: er).drop xs.length = [] := List.drop_eq_nil_of_le (by rw [hds.length]; exact Nat.le_refl _)
                rw [hlx] at hrun'
                cases hrun'
                obtain ⟨dxa, ll1, ll2, las, pa⟩ := rd'.ex
                obtain ⟨us, u1, u2⟩ := pa.h1
                refine ⟨_, rfl, x', rdC K, dxa, _, _, rfl, pa.hx, C_cl, nH, rfl, _, .list [], eoT _ _ _ _ _, rfl, fun v5 H5 s5 i5 => ?_⟩
                have p5 := pa.grow s5
                refine ⟨.list [], .list [], (Is.lst (s5 _ _ u1) (u2.mono s5)).dp, i5.dp, rfl, rfl, false, rfl, iteF ?_⟩
                cases las with
                | nil => cases p5.rw_
                | cons la0 las0 =>
                  have pr := p5.rw_
                  cases pr with
                  | cons r1 r2 r3 r4 =>
                    rename_i zs0
                    refine ⟨_, rfl, x', rdC K, dxa, _, _, rfl, p5.hx, C_cl, nR, rfl, ll2, _, 0, .ref la0, rfl, rfl, SqL.of p5.h2, atI_zero _ _, la0, zs0, rfl, .inl ⟨SqL.of r1, fun t0 ht0 => ?_⟩⟩
                    have s56 := same_new (o := .tup zs0) ht0
                    refine ⟨[.tuple rows], r, .one (.tup (SqT.of upd_same) (r2.mono s56)), b4, fun v6 H6 s6 i6 => c v6 H6 ?_ i6⟩
                    exact s1.trans (sHG.trans (p5.sm.trans (s56.trans s6)))
            · cases b4
    · cases b
end
end Arc
set_option Elab.async false
set_option linter.all false
set_option maxRecDepth 100000
set_option maxHeartbeats 4000000
namespace Arc
open PySem L2
/-! ### a def whose list is new -/
def tDN (K : PySem.W.Frag) (f : Rho → Option PyData) : TE := fun σ H Q => ∃ ρ d, EO K H σ ρ ∧ f ρ = some d ∧ ∀ a H', Same H H' → H a = none → Is K H' (.ref a) d → Q (.ref a) H'
theorem lcLN_W {K : PySem.W.Frag} {g : TG} {tgt : PyData → Rho → Option Rho} {ft : Rho → Option Bool} {fe fi : Rho → Option PyData} {vs : List Nat} (ht : TgLc K g tgt vs) : ∀ σ H Q, tDN K (fLc vs tgt ft fe (f1 itL fi)) σ H Q → tLc (iList K (tD K fi)) g (tDT K ft) (tD K fe) vs σ H Q := fun σ H Q ⟨ρ, d, eo, e, q⟩ => by
  obtain ⟨l, e1, e2⟩ := Option.bind_eq_some_iff.mp e
  obtain ⟨k, e3, e4⟩ := Option.bind_eq_some_iff.mp e1
  refine ⟨ρ, k, eo, e3, fun v H1 s1 i1 => ?_⟩
  cases k <;> try (cases e4; done)
  cases e4
  split at e2
  · rename_i hn
    obtain ⟨out, e5, e6⟩ := Option.map_eq_some_iff.mp e2
    subst e6
    obtain ⟨a, xs, ev, hx, hd⟩ := i1.lstI
    refine ⟨a, ev, ⟨xs, SqL.of hx⟩, fun D hD => ?_⟩
    obtain ⟨W, h0, hs⟩ := lc_W (Q := fun v H' => v = .ref D → Q v H') (jok_lst hx hd) ht (eo.mono s1) hn e5 hD rfl rfl fun v H' s' i' ev => by
      subst ev
      exact q D H' (s1.trans s') (s1.free hD) i'
    exact ⟨W, h0, fun i m H w => (hs i m H w).imp (fun ⟨a, b⟩ => ⟨a, b rfl⟩) id⟩
  · cases e2
section
variable {X : Cx} {elt tg iter : Expr} {ifs : List Expr} {scope : Scope} {own : List (Str × Nat)} {pos : Pos} {g : TG} {tgt : PyData → Rho → Option Rho} {ft : Rho → Option Bool} {fe fi : Rho → Option PyData}
theorem d_lcN (hN : X.N.Nodup) (hi : PE X iter (tD X.K fi)) (ok : BlkOk X.N X.env.scope scope own)
    (hg : ∀ (s : Shared) (H : Hp) (C : Addr) (cl : List (Str × Addr)) (fp : List Addr), PG (X.blk s H scope (compEnvC scope cl C X.env) fp) tg g) (htg : TgLc X.K g tgt (own.map (·.2))) (ht : ∀ (s : Shared) (H : Hp) (C : Addr) (cl : List (Str × Addr)) (fp : List Addr), PTs (X.blk s H scope (compEnvC scope cl C X.env) fp) ifs (tDT X.K ft))
    (he : ∀ (s : Shared) (H : Hp) (C : Addr) (cl : List (Str × Addr)) (fp : List Addr), PE (X.blk s H scope (compEnvC scope cl C X.env) fp) elt (tD X.K fe)) (hc : X.calm = true := by rfl) (hs : ∀ x, foldedSetIterable iter X.env x = pure x := by intro _; rfl) :
    PE X (.ListComp elt [⟨tg, iter, ifs, 0⟩] scope pos) (tDN X.K (fLc (own.map (·.2)) tgt ft fe (f1 itL fi))) :=
  peW (pe_lc hc hN (pi_list hi) ok hg ht he hs) (lcLN_W htg)
end
def FnSpecN (K : PySem.W.Frag) (g : List PyData → Option PyData) : Sp := fun vs H Q _ => ∃ ds r, IsAll K H vs ds ∧ g ds = some r ∧ ∀ a H', Same H H' → H a = none → Is K H' (.ref a) r → Q (.ref a) H'
structure FcN (P : Program) (w : World) (K : PySem.W.Frag) (mg : Str → Option Value) (base : Heap) (k : Nat) (x : Str) (ps : List Str) (g : List PyData → Option PyData) : Prop where
  ex : ∃ f fd, FnOk P w K mg base CX0 k f fd ps (FnSpecN K g) ∧ mg x = some (.ref f) ∧ PySem.W.keepIn K (.ref f) = true ∧ Binds K fd ps []
section
variable {X : Cx} {x : Str} {p pos : Pos} {e : Expr} {es : List Expr} {k j : Nat} {ps : List Str} {g : List PyData → Option PyData} {t : TA}
theorem pe_callN (C : FcN X.prog X.w X.K X.mg X.base j x ps g) (hr : Room k X.A) (ha : PA X (e :: es) t) (hj : j ≤ k := by decide) (hg : Gl X x := by rfl) (hdb : (x == ("__debug__" : Str)) = false := by decide)
    (he : starEach (e :: es) X.env = (false, eval e X.env) :: starEach es X.env := by rfl) (hpl : (backTo pos (starEach es X.env)).any (·.1) = false := by rfl) : PE X (.Call (.Name x p) (e :: es) [] pos) (fun σ H Q => t σ H fun vs H1 => FnSpecN X.K g vs H1 Q E0) := by
  obtain ⟨f, fd, h1, h2, h3, h4⟩ := C.ex
  refine peW (pe_call h1 (hr.mono hj) hg h2 h3 h4 .nil pass0 ha hdb he hpl) fun σ H Q h => ?_
  have e1 : (fun (vs : List V) (H1 : Hp) => FnSpecN X.K g vs H1 Q E0) = fun vs H1 => FnSpecN X.K g (vs ++ []) H1 Q E0 := by
    funext vs H1
    rw [List.append_nil]
  rw [e1] at h
  exact h
end
theorem hid1_tupL {K : PySem.W.Frag} {H : Hp} {x : Addr} {l0 : List V} (h1 : H x = some (.lst l0)) : ∀ a zs, SqT K H a zs → SqT K (hid1 H x) a zs := fun a zs h => by
  have ne : ∀ {o : HO}, H a = some o → (∀ l, o ≠ .lst l) → a ≠ x := fun {o} e n1 z => by
    subst z
    rw [h1] at e
    exact n1 _ (Option.some.inj e).symm
  rcases h with (h | ⟨o, h⟩) | h
  · exact .inl (.inl (by unfold hid1; rw [if_neg (ne h (by intro _ z; cases z))]; exact h))
  · exact .inl (.inr ⟨o, by unfold hid1; rw [if_neg (ne h (by intro _ z; cases z))]; exact h⟩)
  · exact .inr h
theorem hid1_mono {H H2 : Hp} {x : Addr} (s : Same H H2) : Same (hid1 H x) (hid1 H2 x) := fun a o e => by
  unfold hid1 at e ⊢
  split at e
  · cases e
  · rename_i h
    rw [if_neg h]
    exact s _ _ e
theorem hid1_upd (H : Hp) (x : Addr) (o : HO) : hid1 (upd H x o) x = hid1 H x := by
  funext a
  unfold hid1
  by_cases h : a = x
  · rw [if_pos h, if_pos h]
  · rw [if_neg h, if_neg h, upd_ne h]
theorem same_hid1 {G H : Hp} {x : Addr} (s : Same G H) (g : G x = none) : Same G (hid1 H x) := fun a o e => by
  have : a ≠ x := fun z => by
    rw [z, g] at e
    cases e
  unfold hid1
  rw [if_neg this]
  exact s _ _ e
/-! ### the ends, led -/
def ledEnd (fr num : PyData) : PyData → Option PyData
  | .tuple [leads, row, rounds, pieces] => ((behind_G [fr, leads]).bind fun a => (undone_G [fr]).bind fun u => (behind_G [a, u]).bind immO).bind fun ld => ((gAdd num row).bind intO).bind fun n => ((law_led_on_G [fr, num, pieces]).bind listO).bind fun ps =>
      if immAll ps = true then some (.tuple [ld, .int n, rounds, .list ps]) else none
  | _ => none
def ledEnds (fr num : PyData) : List PyData → Option (List PyData)
  | [] => some []
  | e :: r => (ledEnd fr num e).bind fun x => (ledEnds fr num r).map (x :: ·)
def law_led_ends_G : List PyData → Option PyData
  | [fr, num, .list ends] => if ends.length ≤ 100000 then (ledEnds fr num ends).map .list else none
  | _ => none
section
variable {P : Program} {w : World} {K : PySem.W.Frag} {mg : Str → Option Value} {base : Heap}
theorem okN_law_led_on (B : Bs w K mg) (T : Tp w K mg) (h_led_piece : Fc P w K mg base 6 "led_piece" ["frame", "piece"] led_piece_G) : FcN P w K mg base 7 "_law_led_on" ["_law_frame", "_law_number", "_law_some"] law_led_on_G := by
  obtain ⟨fd, Fd⟩ := B.defs (d := d_law_led_on) (mem_fn 73 rfl)
  replace Fd : FnP K "_law_led_on" "_law_led_on" s_law_led_on [] (He.ga K "_law_led_on") fd := Fd
  refine ⟨He.ga K "_law_led_on", fd, ?_, B.glo (mem_fa 62 rfl), Fd.kp, FunD.bindsN (ps := ["_law_frame", "_law_number", "_law_some"]) Fd fun _ _ _ _ _ _ us hl => match us, hl with | [_, _, _], _ => rfl⟩
  have hb : ∀ (cdv : Value) (A : Around) (outer : List Env) (s : Shared) (H : Hp) (E : XK), Room 6 (A.deeper (PyProof.Rows.envOfC "_law_led_on" (defScope s_law_led_on) s.heap.objs.size (He.ga K "_law_led_on") cdv)) →
      PSs (cxOf CX0 P w K mg base ["_law_frame", "_law_number", "_law_some", "_law_piece", "_law_row_here", "_law_rounds"] "_law_led_on" (defScope s_law_led_on) (He.ga K "_law_led_on") cdv A outer s H E).nox (defBody s_law_led_on)
        (tRet (tDN K (fLc [3, 4, 5] (tgT [3, 4, 5]) (fun _ => some true) (f1 gTu (fCons (f1 led_piece_G (fCons (fV 0) (fCons (fV 3) fNil))) (fCons (f2 gAdd (fV 1) (fV 4)) (fCons (fV 5) fNil)))) (f1 itL (fV 2))))) := by
    intro cdv A outer s H E hr
    exact (pss_one (ps_ret (d_lcN (own := [("_law_piece", 3), ("_law_row_here", 4), ("_law_rounds", 5)]) sc_law_led_on.nd (dv 2) (blkOk_by (own := [("_law_piece", 3), ("_law_row_here", 4), ("_law_rounds", 5)]) (N := ["_law_frame", "_law_number", "_law_some", "_law_piece", "_law_row_here", "_law_rounds"]) (sc := defScope s_law_led_on) (by decide +kernel)) (fun _ _ _ _ _ => pg_tup rfl (pgs_cons (pg_name (i := 3) sc_law_led_on.nd rfl (Or.inl rfl)) (pgs_cons (pg_name (i := 4) sc_law_led_on.nd rfl (Or.inl rfl)) (pgs_cons (pg_name (i := 5) sc_law_led_on.nd rfl (Or.inl rfl)) pgs_nil)))) (tl_tup (by decide)) (fun _ _ _ _ _ => dts_nil) (fun _ _ _ _ _ => (d_tup (da_cons (d_call (hj := (by decide : 6 ≤ 6)) h_led_piece hr (da_cons (dv 0) (da_cons (dv 3) da_nil))) (da_cons (d_op op_add o_add (dv 1) (dv 4)) (da_cons (dv 5) da_nil))))))))
  refine Fd.ok (k := 6) sc_law_led_on (fun vs H Q E ⟨ds, r, a, b, c⟩ => ?_) (fun cdv A outer s H vs Q E hr ⟨ds, r, a, b, c⟩ => ⟨_, (hb cdv A outer s H E hr).nox, ?_⟩)
  · unfold law_led_on_G defG at b
    split at b
    · rename_i h
      rw [a.length, h]
      rfl
    · cases b
  · unfold law_led_on_G defG at b
    split at b
    · rename_i h
      cases e : F_law_led_on (startR 6 ds) with
      | none => rw [e] at b; cases b
      | some o =>
        rw [e] at b
        unfold F_law_led_on fRet at e
        obtain ⟨d, e1, e2⟩ := Option.map_eq_some_iff.mp e
        subst e2
        cases b
        exact ⟨_, _, EO.start a, e1, c⟩
    · cases b
theorem sc_law_led_ends : FnScope ["_law_frame", "_law_number", "_law_ends", "_law_found", "_law_leads", "_law_row_here", "_law_rounds", "_law_pieces"] ["_law_frame", "_law_number", "_law_ends"] (defScope s_law_led_ends) := ⟨rfl, rfl, rfl, by decide +kernel, rfl, by decide +kernel, by decide +kernel⟩
theorem ok_law_led_ends (B : Bs w K mg) (T : Tp w K mg) (h_behind : Fc P w K mg base 6 "behind" ["one", "other"] behind_G) (h_undone : Fc P w K mg base 6 "undone" ["frame"] undone_G) (h_law_led_on : FcN P w K mg base 7 "_law_led_on" ["_law_frame", "_law_number", "_law_some"] law_led_on_G) :
    Fc P w K mg base 8 "_law_led_ends" ["_law_frame", "_law_number", "_law_ends"] law_led_ends_G := by
  obtain ⟨fd, Fd⟩ := B.defs (d := d_law_led_ends) (mem_fn 74 rfl)
  replace Fd : FnP K "_law_led_ends" "_law_led_ends" s_law_led_ends [] (He.ga K "_law_led_ends") fd := Fd
  have hj_behind : 6 ≤ 7 := by decide
  have hj_undone : 6 ≤ 7 := by decide
  have hj_law_led_on : 7 ≤ 7 := by decide
  refine ⟨He.ga K "_law_led_ends", fd, ?_, B.glo (mem_fa 63 rfl), Fd.kp, FunD.bindsN (ps := ["_law_frame", "_law_number", "_law_ends"]) Fd fun _ _ _ _ _ _ us hl => match us, hl with | [_, _, _], _ => rfl⟩
  refine Fd.ok (k := 7) sc_law_led_ends (fun vs H Q E ⟨ds, r, a, b, c⟩ => ?_) (fun cdv A outer s H vs Q E hr ⟨ds, r, a, b, c⟩ => ⟨_, PSs.nox (pss_cons (ps_set (i := 3) sc_law_led_ends.nd rfl (Or.inl rfl) (pe_lst pa_nil)) (pss_cons (ps_for PassesOwn.never rfl (pi_list (pv 2)) (pg_tup rfl (pgs_cons (pg_name (i := 4) sc_law_led_ends.nd rfl (Or.inl rfl)) (pgs_cons (pg_name (i := 5) sc_law_led_ends.nd rfl (Or.inl rfl)) (pgs_cons (pg_name (i := 6) sc_law_led_ends.nd rfl (Or.inl rfl)) (pgs_cons (pg_name (i := 7) sc_law_led_ends.nd rfl (Or.inl rfl)) pgs_nil))))) (pss_cons (ps_set (i := 4) sc_law_led_ends.nd rfl (Or.inl rfl) (d_call (hj := hj_behind) h_behind hr (da_cons (d_call (hj := hj_behind) h_behind hr (da_cons (dv 0) (da_cons (dv 4) da_nil))) (da_cons (d_call (hj := hj_undone) h_undone hr (da_cons (dv 0) da_nil)) da_nil)))) (pss_one (ps_expr (pe_bm PySem.F.plainAttrs_list PySem.F.slot_list_append PySem.F.type_list_append mt_append (pv 3) (pa_cons (pe_tup (pa_cons (pv 4) (pa_cons (d_op op_add o_add (dv 1) (dv 5)) (pa_cons (pv 6) (pa_cons (pe_callN (hj := hj_law_led_on) h_law_led_on hr (da_cons (dv 0) (da_cons (dv 1) (da_cons (dv 7) da_nil)))) pa_nil))))) pa_nil)))))) (pss_one (ps_ret (pv 3))))), ?_⟩)
  · unfold law_led_ends_G at b
    split at b
    · rw [a.length]
      rfl
    · cases b
  · unfold law_led_ends_G at b
    split at b
    · rename_i fr num ends
      split at b
      · rename_i hlen
        obtain ⟨out, hout, e⟩ := Option.map_eq_some_iff.mp b
        subst e
        cases a with
        | cons i1 a =>
          cases a with
          | cons i2 a =>
            cases a with
            | cons i3 a =>
              cases a
              rename_i vf vn ve _
              obtain ⟨ae, xs, ev, hx, hd⟩ := i3.lstI
              subst ev
              refine ⟨Nat.zero_le _, fun l hl => ?_⟩
              have hl' : H l = none := hl
              refine ⟨_, rfl, ae, rfl, ⟨xs, SqL.of (same_new hl' _ _ hx)⟩, for_list (xs := xs) (fun i σ' H' => ∃ o4 o5 o6 o7 acc done rest, σ' = [some vf, some vn, some (.ref ae), some (.ref l), o4, o5, o6, o7] ∧ Same H H' ∧ H' l = some (.lst acc) ∧ IsAll K (hid1 H' l) acc done ∧ done.length ≤ i ∧ ledEnds fr num (ends.drop i) = some rest ∧ done ++ rest = out)
                ⟨none, none, none, none, [], [], out, rfl, same_new hl', upd_same, .nil, Nat.le_refl _, by rw [List.drop_zero]; exact hout, rfl⟩ (fun i σ' H' _ p => ?_) ?_ ?_⟩
              · obtain ⟨_, _, _, _, _, _, _, _, sm, _⟩ := p
                exact SqL.of (sm _ _ hx)
              · rintro i y σ' H' hi ⟨o4, o5, o6, o7, acc, done, rest, rfl, sm, hA, hI, hdl, hr2, ho⟩
                obtain ⟨d, hd1, hd2⟩ := hd.getV hi
                have hlt := (List.getElem?_eq_some_iff.mp hd1).1
                have hdr : ends.drop i = d :: ends.drop (i + 1) := by
                  rw [List.drop_eq_getElem_cons hlt, (List.getElem?_eq_some_iff.mp hd1).2]
                rw [hdr] at hr2
                obtain ⟨x0, hx0, hr3⟩ := Option.bind_eq_some_iff.mp hr2
                obtain ⟨r2, hr4, hr5⟩ := Option.map_eq_some_iff.mp hr3
                unfold ledEnd at hx0
                split at hx0
                · rename_i leads row rounds pieces
                  obtain ⟨ld, hld, hx1⟩ := Option.bind_eq_some_iff.mp hx0
                  clear hx0
                  obtain ⟨nn, hnn, hx2⟩ := Option.bind_eq_some_iff.mp hx1
                  clear hx1
                  obtain ⟨ps, hps, hx3⟩ := Option.bind_eq_some_iff.mp hx2
                  clear hx2
                  split at hx3
                  · rename_i hpi
                    cases hx3
                    obtain ⟨ba, hb1, hl2⟩ := Option.bind_eq_some_iff.mp hld
                    obtain ⟨un, hb2, hl3⟩ := Option.bind_eq_some_iff.mp hl2
                    obtain ⟨ld0, hb3, hl4⟩ := Option.bind_eq_some_iff.mp hl3
                    obtain ⟨eld, hldi⟩ := immO_some hl4
                    subst eld
                    obtain ⟨nd, hn1, hn2⟩ := Option.bind_eq_some_iff.mp hnn
                    obtain rfl := intO_some hn2
                    obtain ⟨pd, hp1, hp2⟩ := Option.bind_eq_some_iff.mp hps
                    obtain rfl := listO_some hp2
                    obtain ⟨ta, ts, etv, hts, hds⟩ := hd2.tupI
                    subst etv
                    cases hds with
                    | cons k1 hds =>
                      cases hds with
                      | cons k2 hds =>
                        cases hds with
                        | cons k3 hds =>
                          cases hds with
                          | cons k4 hds =>
                            cases hds
                            rename_i w1 w2 w3 w4
                            refine ⟨ta, [w1, w2, w3, w4], rfl, Same.sqT sm hts, rfl, w1, [w2, w3, w4], rfl, w2, [w3, w4], rfl, w3, [w4], rfl, w4, [], rfl, rfl, ?_⟩
                            have eo1 : ∀ H1 o, Same H' H1 → EO K H1 [some vf, some vn, some (.ref ae), some (.ref l), some o, some w2, some w3, some w4] [some fr, some num, none, none, none, some row, some rounds, some pieces] := fun H1 o s1 =>
                              .keep (i1.mono (sm.trans s1)) (.keep (i2.mono (sm.trans s1)) (.skip (.skip (.skip (.keep (k2.mono (sm.trans s1)) (.keep (k3.mono (sm.trans s1)) (.keep (k4.mono (sm.trans s1)) .nil)))))))
                            refine ⟨[some fr, some num, none, none, some leads, none, none, none], ld0, .keep (i1.mono sm) (.keep (i2.mono sm) (.skip (.skip (.keep (k1.mono sm) (.skip (.skip (.skip .nil))))))), ?_, fun vl H1 s1 il => ?_⟩
                            · simp [f1, fCons, fNil, fV, hb1, hb2, hb3]
                            have hA1 := s1 _ _ hA
                            refine ⟨_, rfl, .inl ⟨rfl, _, SqL.of hA1⟩, ?_⟩
                            refine ⟨_, rfl, _, .int nn, eo1 H1 vl s1, by simp [f2, fV, hn1], fun vn2 H2 s2 in2 => ?_⟩
                            obtain rfl := in2.intI
                            refine ⟨_, rfl, _, [fr, num, pieces], eo1 H2 vl (s1.trans s2), rfl, fun vs H3 s3 i3' hl3 => ?_⟩
                            refine ⟨[fr, num, pieces], .list ps, i3', hp1, fun pa H4 s4 hpa ips => ?_⟩
                            refine ⟨(by show 4 ≤ sizeLine; decide +kernel), fun p np => ?_⟩
                            have np' : H4 p = none := np
                            obtain ⟨pa2, us, epa, hus, hui⟩ := ips.lstI
                            cases epa
                            have s14 : Same H1 H4 := s2.trans (s3.trans s4)
                            have s45 : Same H4 (upd H4 p (.tup [vl, .int nn, w3, .ref pa])) := same_new np'
                            have hA3 : H3 l = some (.lst acc) := s3 _ _ (s2 _ _ hA1)
                            have hA4 : H4 l = some (.lst acc) := s4 _ _ hA3
                            have hA5 := s45 _ _ hA4
                            have hpl : p ≠ l := (ne_of_none hA4 np').symm
                            have hpal : pa ≠ l := (ne_of_none hA3 hpa).symm
                            have sH5 : Same H (upd H4 p (.tup [vl, .int nn, w3, .ref pa])) := sm.trans (s1.trans (s14.trans s45))
                            have ht5 := hid1_tupL (K := K) hA5
                            refine ⟨l, acc, .ref p, rfl, rfl, hA5, ?_, ?_⟩
                            · rw [hI.length]
                              exact Nat.lt_of_lt_of_le (by have := hd.length; omega : done.length < 100001) (by decide)
                            · refine ⟨some vl, some w2, some w3, some w4, acc ++ [.ref p], done ++ [.tuple [ld0, .int nn, rounds, .list ps]], r2, rfl, same_mut sH5 hl', upd_same, ?_, ?_, hr4, ?_⟩
                              · rw [hid1_upd]
                                refine (hI.mono (hid1_mono (s1.trans (s14.trans s45)))).append (.one (.tup (SqT.of ?_) (.cons ((il.mono (s14.trans s45)).immT ht5 hldi) (.cons (.int nn) (.cons (k3.mono (same_hid1 sH5 hl')) (.cons (Is.lst (a := pa) (xs := us) ?_ ((hui.mono s45).immT ht5 hpi)) .nil))))))
                                · unfold hid1
                                  rw [if_neg hpl, upd_same]
                                · unfold hid1
                                  rw [if_neg hpal]
                                  exact s45 _ _ hus
                              · simp
                                omega
                              · rw [List.append_assoc, ← ho, ← hr5]
                                rfl
                  · cases hx3
                · cases hx0
              · rintro σ' H' ⟨o4, o5, o6, o7, acc, done, rest, rfl, sm, hA, hI, hdl, hr2, ho⟩
                have hlx : ends.drop xs.length = [] := List.drop_eq_nil_of_le (by rw [hd.length]; exact Nat.le_refl _)
                rw [hlx] at hr2
                cases hr2
                rw [List.append_nil] at ho
                subst ho
                exact ⟨_, rfl, c _ H' sm (.lst hA (hI.mono (hid1_same _ _)))⟩
      · cases b
    · cases b
end
end Arc
set_option Elab.async false
set_option linter.all false
set_option maxRecDepth 100000
set_option maxHeartbeats 4000000
namespace Arc
open PySem L2
/-! ### a def with a promise of its own -/
structure FcS (P : Program) (w : World) (K : PySem.W.Frag) (mg : Str → Option Value) (base : Heap) (k : Nat) (x : Str) (ps : List Str) (sp : Sp) : Prop where
  ex : ∃ f fd, FnOk P w K mg base CX0 k f fd ps sp ∧ mg x = some (.ref f) ∧ PySem.W.keepIn K (.ref f) = true ∧ Binds K fd ps []
section
variable {X : Cx} {x : Str} {p pos : Pos} {e : Expr} {es : List Expr} {k j : Nat} {ps : List Str} {sp : Sp} {t : TA}
theorem pe_callS (C : FcS X.prog X.w X.K X.mg X.base j x ps sp) (hr : Room k X.A) (ha : PA X (e :: es) t) (hj : j ≤ k := by decide) (hg : Gl X x := by rfl) (hdb : (x == ("__debug__" : Str)) = false := by decide)
    (he : starEach (e :: es) X.env = (false, eval e X.env) :: starEach es X.env := by rfl) (hpl : (backTo pos (starEach es X.env)).any (·.1) = false := by rfl) : PE X (.Call (.Name x p) (e :: es) [] pos) (fun σ H Q => t σ H fun vs H1 => sp vs H1 Q E0) := by
  obtain ⟨f, fd, h1, h2, h3, h4⟩ := C.ex
  refine peW (pe_call h1 (hr.mono hj) hg h2 h3 h4 .nil pass0 ha hdb he hpl) fun σ H Q h => ?_
  have e1 : (fun (vs : List V) (H1 : Hp) => sp vs H1 Q E0) = fun vs H1 => sp (vs ++ []) H1 Q E0 := by
    funext vs H1
    rw [List.append_nil]
  rw [e1] at h
  exact h
end
/-! ### the stack of open blocks -/
abbrev Ent := Str × Int × List PyData
def entD (e : Ent) : PyData := .tuple [.str e.1, .int e.2.1, .list e.2.2]
def addB (e : Ent) (b : PyData) : Ent := (e.1, e.2.1, e.2.2 ++ [b])
section
variable {K : PySem.W.Frag}
inductive EnAt (K : PySem.W.Frag) (H : Hp) : List Addr → List Addr → List Ent → Prop
  | nil : EnAt K H [] [] []
  | cons {t a : Addr} {ts as : List Addr} {zs : List V} {e : Ent} {es : List Ent} : SqT K H t [.str e.1, .int e.2.1, .ref a] → H a = some (.lst zs) → IsAll K H zs e.2.2 → immAll e.2.2 = true → EnAt K H ts as es → EnAt K H (t :: ts) (a :: as) (e :: es)
theorem EnAt.mono {H H' : Hp} (s : Same H H') : ∀ {ts as : List Addr} {es : List Ent}, EnAt K H ts as es → EnAt K H' ts as es
  | _, _, _, .nil => .nil
  | _, _, _, .cons h k i m r => .cons (Same.sqT s h) (s _ _ k) (i.mono s) m (EnAt.mono s r)
theorem EnAt.upd {H : Hp} {D : Addr} {l0 : List V} {o : HO} (hD : H D = some (.lst l0)) : ∀ {ts as : List Addr} {es : List Ent}, EnAt K H ts as es → D ∉ as → EnAt K (upd H D o) ts as es
  | _, _, _, .nil, _ => .nil
  | _, _, _, .cons h k i m r, n => .cons (sqT_lst hD h) (by rw [upd_ne (fun z => n (by rw [z]; exact List.mem_cons_self))]; exact k) (i.immU hD m) m (EnAt.upd hD r fun z => n (List.mem_cons_of_mem _ z))
theorem EnAt.append {H : Hp} : ∀ {ts as us bs : List Addr} {es fs : List Ent}, EnAt K H ts as es → EnAt K H us bs fs → EnAt K H (ts ++ us) (as ++ bs) (es ++ fs)
  | _, _, _, _, _, _, .nil, q => q
  | _, _, _, _, _, _, .cons h k i m r, q => .cons h k i m (EnAt.append r q)
theorem EnAt.last {H : Hp} {e : Ent} : ∀ {es : List Ent} {ts as : List Addr}, EnAt K H ts as (es ++ [e]) → ∃ us bs t a zs, ts = us ++ [t] ∧ as = bs ++ [a] ∧ EnAt K H us bs es ∧ SqT K H t [.str e.1, .int e.2.1, .ref a] ∧ H a = some (.lst zs) ∧ IsAll K H zs e.2.2 ∧ immAll e.2.2 = true := by
  intro es
  induction es with
  | nil =>
    intro ts as h
    cases h with
    | cons h k i m r =>
      rename_i t a ts2 as2 zs
      cases r
      exact ⟨[], [], t, a, zs, rfl, rfl, .nil, h, k, i, m⟩
  | cons e0 es ih =>
    intro ts as h
    cases h with
    | cons h k i m r =>
      rename_i t0 a0 ts2 as2 zs0
      obtain ⟨us, bs, t, a, zs, e1, e2, h1, h2⟩ := ih r
      exact ⟨t0 :: us, a0 :: bs, t, a, zs, by rw [e1]; rfl, by rw [e2]; rfl, .cons h k i m h1, h2⟩
theorem EnAt.data {H : Hp} : ∀ {ts as : List Addr} {es : List Ent}, EnAt K H ts as es → IsAll K H (ts.map V.ref) (es.map entD)
  | _, _, _, .nil => .nil
  | _, _, _, .cons h k i m r => .cons (.tup h (.cons (.str _) (.cons (.int _) (.cons (.lst k i) .nil)))) (EnAt.data r)
theorem EnAt.some {H : Hp} : ∀ {ts as : List Addr} {es : List Ent} {a : Addr}, EnAt K H ts as es → a ∈ as → ∃ zs, H a = some (.lst zs)
  | _, _, _, _, .cons h k i m r, ha => by
    rcases List.mem_cons.mp ha with z | z
    · subst z
      exact ⟨_, k⟩
    · exact EnAt.some r z
structure StX (K : PySem.W.Frag) (G H : Hp) (st : Addr) (ts as : List Addr) (es : List Ent) : Prop where
  hs : H st = some (.lst (ts.map V.ref))
  en : EnAt K H ts as es
  sm : Same G H
  gs : G st = none
  ga : ∀ a ∈ as, G a = none
  ns : st ∉ as
  nd : as.Nodup
structure StAt (K : PySem.W.Frag) (G H : Hp) (st : Addr) (es : List Ent) : Prop where
  ex : ∃ ts as, StX K G H st ts as es
variable {G H H2 : Hp} {st : Addr} {ts as : List Addr} {es : List Ent}
theorem StX.grow (p : StX K G H st ts as es) (s : Same H H2) : StX K G H2 st ts as es := { p with hs := s _ _ p.hs, en := p.en.mono s, sm := p.sm.trans s }
theorem StX.data (p : StX K G H st ts as es) : Is K H (.ref st) (.list (es.map entD)) := .lst p.hs p.en.data
theorem StX.pop {e : Ent} (p : StX K G H st ts as (es ++ [e])) : ∃ us bs t a zs, ts = us ++ [t] ∧ as = bs ++ [a] ∧ SqT K H t [.str e.1, .int e.2.1, .ref a] ∧ H a = some (.lst zs) ∧ IsAll K H zs e.2.2 ∧ immAll e.2.2 = true ∧ a ≠ st ∧ StX K G (upd H st (.lst (us.map V.ref))) st us bs es := by
  obtain ⟨us, bs, t, a, zs, e1, e2, h1, h2, h3, h4, h5⟩ := p.en.last
  subst e1 e2
  have nb : st ∉ bs := fun z => p.ns (List.mem_append_left _ z)
  refine ⟨us, bs, t, a, zs, rfl, rfl, h2, h3, h4, h5, fun z => p.ns (by rw [← z]; simp), ?_⟩
  exact { hs := upd_same, en := h1.upd p.hs nb, sm := same_mut p.sm p.gs, gs := p.gs, ga := fun b hb => p.ga b (List.mem_append_left _ hb), ns := nb, nd := (List.nodup_append.mp p.nd).1 }
theorem StX.top {e : Ent} (p : StX K G H st ts as (es ++ [e])) : ∃ us bs t a zs, ts = us ++ [t] ∧ as = bs ++ [a] ∧ SqT K H t [.str e.1, .int e.2.1, .ref a] ∧ H a = some (.lst zs) ∧ IsAll K H zs e.2.2 ∧ immAll e.2.2 = true := by
  obtain ⟨us, bs, t, a, zs, e1, e2, h1, h2, h3, h4, h5⟩ := p.en.last
  exact ⟨us, bs, t, a, zs, e1, e2, h2, h3, h4, h5⟩
theorem StX.add {e : Ent} {d : PyData} {v : V} {t a : Addr} {zs : List V} (p : StX K G H st (ts ++ [t]) (as ++ [a]) (es ++ [e])) (hz : H a = some (.lst zs)) (hv : Is K H v d) (hi : imm d = true) : StX K G (upd H a (.lst (zs ++ [v]))) st (ts ++ [t]) (as ++ [a]) (es ++ [addB e d]) := by
  obtain ⟨us, bs, t', b, ys, e1, e2, h1, h2, h3, h4, h5⟩ := p.en.last
  obtain ⟨e3, e4⟩ := List.append_inj' e1 rfl
  obtain ⟨e5, e6⟩ := List.append_inj' e2 rfl
  cases e4
  cases e6
  subst e3 e5
  obtain rfl : ys = zs := by
    rw [h3] at hz
    cases hz
    rfl
  have ma : a ∈ as ++ [a] := List.mem_append_right _ (List.mem_singleton.mpr rfl)
  have na : a ∉ as := fun z => (List.nodup_append.mp p.nd).2.2 a z a (List.mem_singleton.mpr rfl) rfl
  have nst : st ≠ a := fun z => p.ns (by rw [z]; exact ma)
  exact { p with hs := by rw [upd_ne nst]; exact p.hs, en := (h1.upd h3 na).append (.cons (sqT_lst h3 h2) upd_same ((h4.immU h3 h5).append (.one (hv.immU h3 hi))) (by show immAll (e.2.2 ++ [d]) = true; rw [immAll_append, h5]; unfold immAll; rw [hi]; rfl) .nil), sm := same_mut p.sm (p.ga a ma) }
theorem StX.push {w : Str} {m : Int} {t a : Addr} (p : StX K G H st ts as es) (ht : SqT K H t [.str w, .int m, .ref a]) (ha : H a = some (.lst [])) (ga : G a = none) (na : a ∉ as) (nas : a ≠ st) : StX K G (upd H st (.lst (ts.map V.ref ++ [.ref t]))) st (ts ++ [t]) (as ++ [a]) (es ++ [(w, m, [])]) := by
  have mm : ∀ {b : Addr} {Z : Prop}, (b ∈ as → Z) → (b = a → Z) → b ∈ as ++ [a] → Z := fun h1 h2 hb => (List.mem_append.mp hb).elim h1 fun z => h2 (List.mem_singleton.mp z)
  exact { hs := by rw [upd_same, List.map_append]; rfl, en := (p.en.upd p.hs p.ns).append (.cons (e := (w, m, [])) (sqT_lst p.hs ht) (by rw [upd_ne nas]; exact ha) .nil rfl .nil), sm := same_mut p.sm p.gs, gs := p.gs, ga := fun b hb => mm (p.ga b) (fun z => by rw [z]; exact ga) hb, ns := fun hb => mm p.ns (fun z => nas z.symm) hb, nd := List.nodup_append.mpr ⟨p.nd, by simp, fun b hb c hc e => na (by rw [← List.mem_singleton.mp hc, ← e]; exact hb)⟩ }
end
/-! ### what a closed block is -/
def dotRow : PyData := .tuple [.str "dot"]
def growRow : PyData := .tuple [.str "grow", .tuple [.int 1, .int 12]]
/-- rows, and the row more times a truth -/
def moreB (R : List PyData) (row : PyData) (b : Option PyData) : Option (List PyData) := (((b.bind gNotV).bind gInt).bind fun k => (gRepL (.list [row]) k).bind fun ex => gCatL (.list R) ex).bind listO
def everB (R : List PyData) : Option (PyData × List PyData) :=
  (moreB R dotRow (law_draws_G [.list R])).bind fun R1 => (moreB R1 growRow (law_is_endless_G [.list R1])).bind fun R2 => (((law_is_endless_G [.list R2]).bind gInt).bind fun k => gIx (.list [.str "keep", .str "ever"]) k).map fun wd => (wd, R2)
def blockB (wd : PyData) (m : Int) (R : List PyData) : Option PyData :=
  ((gEq wd (.str "again")).bind gB).bind fun ag => if ag = true then ((((law_done_G [.list R]).bind fun dn => gMul (.int m) dn).bind fun p => gGt p (.int 90)).bind gInt).bind fun k => (gIx (.list [.int m, .int 1]) k).map fun mm => .tuple [wd, mm, .tuple R]
    else some (.tuple [wd, .tuple R])
def closeB (e : Ent) : Option PyData := (((gEq (.str e.1) (.str "ever")).bind gB).bind fun ev => if ev = true then (everB e.2.2).bind fun p => blockB p.1 e.2.1 p.2 else blockB (.str e.1) e.2.1 e.2.2).bind immO
def spClose (K : PySem.W.Frag) : Sp := fun vs H Q _ => ∃ (G : Hp) (st : Addr) (es : List Ent) (e2 e1 : Ent) (blk : PyData), vs = [.ref st] ∧ StAt K G H st (es ++ [e2] ++ [e1]) ∧ closeB e1 = some blk ∧ e2.2.2.length ≤ 100000 ∧ ∀ H', StAt K G H' st (es ++ [addB e2 blk]) → Q .non H'
section
variable {P : Program} {w : World} {K : PySem.W.Frag} {mg : Str → Option Value} {base : Heap}
theorem sc_law_close : FnScope ["_law_stack", "_law_word", "_law_many", "_law_rows", "_law_block"] ["_law_stack"] (defScope s_law_close) := ⟨rfl, rfl, rfl, by decide +kernel, rfl, by decide +kernel, by decide +kernel⟩
theorem ok_law_close (B : Bs w K mg) (T : Tp w K mg) (h_law_draws : Fc P w K mg base 8 "_law_draws" ["_law_rows"] law_draws_G) (h_law_is_endless : Fc P w K mg base 11 "_law_is_endless" ["_law_rows"] law_is_endless_G) (h_law_done : Fc P w K mg base 8 "_law_done" ["_law_rows"] law_done_G) :
    FcS P w K mg base 12 "_law_close" ["_law_stack"] (spClose K) := by
  obtain ⟨fd, Fd⟩ := B.defs (d := d_law_close) (mem_fn 70 rfl)
  replace Fd : FnP K "_law_close" "_law_close" s_law_close [] (He.ga K "_law_close") fd := Fd
  have hj_law_draws : 8 ≤ 11 := by decide
  have hj_law_is_endless : 11 ≤ 11 := by decide
  have hj_law_done : 8 ≤ 11 := by decide
  refine ⟨He.ga K "_law_close", fd, ?_, B.glo (mem_fa 59 rfl), Fd.kp, FunD.bindsN (ps := ["_law_stack"]) Fd fun _ _ _ _ _ _ us hl => match us, hl with | [_], _ => rfl⟩
  refine Fd.ok (k := 11) sc_law_close (fun vs H Q E h => ?_) (fun cdv A outer s H vs Q E hr h => ⟨_, PSs.nox (pss_cons (ps_asg (pe_bm0 PySem.F.plainAttrs_list PySem.F.slot_list_pop PySem.F.type_list_pop mt_pop (pv 0)) (pg_tup rfl (pgs_cons (pg_name (i := 1) sc_law_close.nd rfl (Or.inl rfl)) (pgs_cons (pg_name (i := 2) sc_law_close.nd rfl (Or.inl rfl)) (pgs_cons (pg_name (i := 3) sc_law_close.nd rfl (Or.inl rfl)) pgs_nil))))) (pss_cons (ps_if (dt_cmp (op_eqD hr.units) o_eq (dv 1) d_str) (pss_cons (ps_set (i := 3) sc_law_close.nd rfl (Or.inl rfl) (d_op op_cat o_catL (dv 3) (d_op op_rep o_repL (d_lst (da_cons (d_tup (da_cons d_str da_nil)) da_nil)) (d_ty call_int1 c_int T.z_int b_int (da_cons (d_not (d_call (hj := hj_law_draws) h_law_draws hr (da_cons (dv 3) da_nil))) da_nil))))) (pss_cons (ps_set (i := 3) sc_law_close.nd rfl (Or.inl rfl) (d_op op_cat o_catL (dv 3) (d_op op_rep o_repL (d_lst (da_cons (d_tup (da_cons d_str (da_cons (d_tup (da_cons d_int (da_cons d_int da_nil))) da_nil))) da_nil)) (d_ty call_int1 c_int T.z_int b_int (da_cons (d_not (d_call (hj := hj_law_is_endless) h_law_is_endless hr (da_cons (dv 3) da_nil))) da_nil))))) (pss_one (ps_set (i := 1) sc_law_close.nd rfl (Or.inl rfl) (d_ix (d_lst (da_cons d_str (da_cons d_str da_nil))) (d_ty call_int1 c_int T.z_int b_int (da_cons (d_call (hj := hj_law_is_endless) h_law_is_endless hr (da_cons (dv 3) da_nil)) da_nil))))))) pss_nil) (pss_cons (ps_set (i := 4) sc_law_close.nd rfl (Or.inl rfl) (d_tup (da_cons (dv 1) (da_cons (d_ty call_tuple_of c_tuple T.z_tuple b_tuple (da_cons (dv 3) da_nil)) da_nil)))) (pss_cons (ps_if (dt_cmp (op_eqD hr.units) o_eq (dv 1) d_str) (pss_one (ps_set (i := 4) sc_law_close.nd rfl (Or.inl rfl) (d_tup (da_cons (dv 1) (da_cons (d_ix (d_lst (da_cons (dv 2) (da_cons d_int da_nil))) (d_ty call_int1 c_int T.z_int b_int (da_cons (d_cmp op_gt o_gt (d_op op_mulW o_mul (dv 2) (d_call (hj := hj_law_done) h_law_done hr (da_cons (dv 3) da_nil))) d_int) da_nil))) (da_cons (d_ty call_tuple_of c_tuple T.z_tuple b_tuple (da_cons (dv 3) da_nil)) da_nil)))))) pss_nil) (pss_one (ps_expr (pe_bm PySem.F.plainAttrs_list PySem.F.slot_list_append PySem.F.type_list_append mt_append (pe_ix ix_tup (pe_ix ix_list (pv 0) (pe_un un_neg pe_int) (fun _ _ => rfl)) pe_int (fun _ _ => rfl)) (da_cons (dv 4) da_nil)))))))), ?_⟩)
  · obtain ⟨G, st, es, e2, e1, blk, rfl, _⟩ := h
    rfl
  · obtain ⟨G, st, es, e2, e1, blk, rfl, sta, hcl, hlen, q⟩ := h
    obtain ⟨ts, as, p0⟩ := sta.ex
    obtain ⟨us, bs, t, a, zs, et, ea, hts, haz, hzs, hzi, nast, p1⟩ := p0.pop
    subst et ea
    have hst := p0.hs
    refine ⟨_, rfl, .inl ⟨rfl, _, SqL.of hst⟩, st, _, .ref t, rfl, rfl, hst, by simp, ?_⟩
    have edl : ((us ++ [t]).map V.ref).dropLast = us.map V.ref := by simp
    rw [edl]
    refine ⟨t, [.str e1.1, .int e1.2.1, .ref a], rfl, sqT_lst hst hts, rfl, .str e1.1, [.int e1.2.1, .ref a], rfl, .int e1.2.1, [.ref a], rfl, .ref a, [], rfl, rfl, ?_⟩
    have hrow : Is K (upd H st (.lst (us.map V.ref))) (.ref a) (.list e1.2.2) := .lst (by rw [upd_ne nast]; exact haz) (hzs.immU hst hzi)
    unfold closeB at hcl
    obtain ⟨blk0, hcl1, hcl2⟩ := Option.bind_eq_some_iff.mp hcl
    clear hcl
    obtain ⟨eblk, hbi⟩ := immO_some hcl2
    subst eblk
    obtain ⟨ev, hev, hcl3⟩ := Option.bind_eq_some_iff.mp hcl1
    clear hcl1
    have eoQ : ∀ (H2 : Hp) (wv rv : V) (o4 : Option V) {wd : PyData} {R : List PyData}, Is K H2 wv wd → Is K H2 rv (.list R) → EO K H2 [some (.ref st), some wv, some (.int e1.2.1), some rv, o4] [none, some wd, some (.int e1.2.1), some (.list R), none] := fun H2 wv rv o4 wd R h1 h2 =>
      .skip (.keep h1 (.keep (.int _) (.keep h2 (.skip .nil))))
    refine ⟨_, ev, eoQ _ _ _ none (.str e1.1) hrow, ?_, fun H1 s1 => ?_⟩
    · obtain ⟨z, hz1, hz2⟩ := Option.bind_eq_some_iff.mp hev
      simp [f1, f2, fV, fC, hz1, hz2]
    cases ev with
    | true =>
      rw [if_pos rfl] at hcl3
      obtain ⟨pr, hpr, hbl⟩ := Option.bind_eq_some_iff.mp hcl3
      obtain ⟨wd, R2⟩ := pr
      unfold everB at hpr
      obtain ⟨R1, hm1, hpr2⟩ := Option.bind_eq_some_iff.mp hpr
      clear hpr
      obtain ⟨R2', hm2, hpr3⟩ := Option.bind_eq_some_iff.mp hpr2
      clear hpr2
      obtain ⟨wd', hm3, hpr4⟩ := Option.map_eq_some_iff.mp hpr3
      cases hpr4
      clear hpr3
      unfold moreB at hm1 hm2
      obtain ⟨x1, hx1, hx2⟩ := Option.bind_eq_some_iff.mp hm1
      obtain rfl := listO_some hx2
      obtain ⟨y1, hy1, hy2⟩ := Option.bind_eq_some_iff.mp hx1
      obtain ⟨y2, hy3, hy4⟩ := Option.bind_eq_some_iff.mp hy2
      obtain ⟨y3, hy5, hy6⟩ := Option.bind_eq_some_iff.mp hy1
      obtain ⟨y4, hy7, hy8⟩ := Option.bind_eq_some_iff.mp hy5
      obtain ⟨x2, hx3, hx4⟩ := Option.bind_eq_some_iff.mp hm2
      obtain rfl := listO_some hx4
      obtain ⟨z1, hz1, hz2⟩ := Option.bind_eq_some_iff.mp hx3
      obtain ⟨z2, hz3, hz4⟩ := Option.bind_eq_some_iff.mp hz2
      obtain ⟨z3, hz5, hz6⟩ := Option.bind_eq_some_iff.mp hz1
      obtain ⟨z4, hz7, hz8⟩ := Option.bind_eq_some_iff.mp hz5
      obtain ⟨k1, hk1, hk2⟩ := Option.bind_eq_some_iff.mp hm3
      obtain ⟨k2, hk3, hk4⟩ := Option.bind_eq_some_iff.mp hk1
      refine iteT ⟨_, .list R1, eoQ _ _ _ none (.str e1.1) (hrow.mono s1), ?_, fun r1v H2 s2 i2 => ?_⟩
      · have hy3' : gRepL (.list [.tuple [.str "dot"]]) y1 = some y2 := hy3
        simp [f1, f2, fV, fC, fCons, fNil, gLs, gTu, on1, hy7, hy8, hy6, hy3', hy4]
      refine ⟨_, .list R2, eoQ _ _ _ none (.str e1.1) i2, ?_, fun r2v H3 s3 i3 => ?_⟩
      · have hz3' : gRepL (.list [.tuple [.str "grow", .tuple [.int 1, .int 12]]]) z1 = some z2 := hz3
        simp [f1, f2, fV, fC, fCons, fNil, gLs, gTu, on1, hz7, hz8, hz6, hz3', hz4]
      refine ⟨_, wd, eoQ _ _ _ none (.str e1.1) i3, ?_, fun wv H4 s4 i4 => ?_⟩
      · simp [f1, f2, fV, fC, fCons, fNil, gLs, on1, hk3, hk4, hk2]
      have p4 := (((p1.grow s1).grow s2).grow s3).grow s4
      have ir4 := i3.mono s4
      refine ⟨_, .tuple [wd, .tuple (R2)], eoQ H4 wv r2v none i4 ir4, ?_, fun bv H5 s5 i5 => ?_⟩
      · simp [f1, fV, fCons, fNil, gTu, on1, gTuple]
      unfold blockB at hbl
      obtain ⟨ag, hag, hbl2⟩ := Option.bind_eq_some_iff.mp hbl
      obtain ⟨g1, hg1, hg2⟩ := Option.bind_eq_some_iff.mp hag
      refine ⟨_, ag, eoQ H5 wv r2v (some bv) (Is.mono s5 i4) (ir4.mono s5), ?_, fun H6 s6 => ?_⟩
      · simp [f1, f2, fV, fC, hg1, hg2]
      have p6 := (p4.grow s5).grow s6
      cases ag with
      | true =>
        rw [if_pos rfl] at hbl2
        obtain ⟨kk, hkk, hbl3⟩ := Option.bind_eq_some_iff.mp hbl2
        obtain ⟨mm, hmm, hbl4⟩ := Option.map_eq_some_iff.mp hbl3
        obtain ⟨g2, hg3, hg4⟩ := Option.bind_eq_some_iff.mp hkk
        obtain ⟨g3, hg5, hg6⟩ := Option.bind_eq_some_iff.mp hg3
        obtain ⟨g4, hg7, hg8⟩ := Option.bind_eq_some_iff.mp hg5
        refine iteT ⟨_, blk0, eoQ H6 wv r2v (some bv) (Is.mono (s5.trans s6) i4) (ir4.mono (s5.trans s6)), ?_, fun cv H7 s7 i7 => ?_⟩
        · simp [f1, f2, fV, fC, fCons, fNil, gLs, gTu, on1, gTuple, hg7, hg8, hg6, hg4, hmm, hbl4]
        have p7 := p6.grow s7
        obtain ⟨vs2, cs, t2, a2, zs2, et2, ea2, ht2, hz2, hi2, hm2'⟩ := p7.top
        subst et2 ea2
        have hat : L2.atI ((vs2 ++ [t2]).map V.ref) (-1) = some (.ref t2) := by
          rw [List.map_append]
          exact atI_last _ _
        refine ⟨_, rfl, 1, rfl, st, _, -1, .ref t2, rfl, rfl, SqL.of p7.hs, hat, t2, _, 2, .ref a2, rfl, rfl, ht2, rfl, .inl ⟨rfl, _, SqL.of hz2⟩, [none, none, none, none, some blk0], [blk0], .skip (.skip (.skip (.skip (.keep i7 .nil)))), rfl, fun vs8 H8 s8 i8 hl8 => ?_⟩
        cases i8 with
        | cons j1 i8 =>
          cases i8
          have p8 := p7.grow s8
          have hz8 := s8 _ _ hz2
          refine ⟨a2, zs2, _, rfl, rfl, hz8, ?_, q _ ⟨_, _, p8.add hz8 j1 hbi⟩⟩
          rw [hi2.length]
          exact Nat.lt_of_lt_of_le (by omega : e2.2.2.length < 100001) (by decide)
      | false =>
        rw [if_neg Bool.false_ne_true] at hbl2
        cases hbl2
        refine iteF ?_
        obtain ⟨vs2, cs, t2, a2, zs2, et2, ea2, ht2, hz2, hi2, hm2'⟩ := p6.top
        subst et2 ea2
        have hat : L2.atI ((vs2 ++ [t2]).map V.ref) (-1) = some (.ref t2) := by
          rw [List.map_append]
          exact atI_last _ _
        refine ⟨_, rfl, 1, rfl, st, _, -1, .ref t2, rfl, rfl, SqL.of p6.hs, hat, t2, _, 2, .ref a2, rfl, rfl, ht2, rfl, .inl ⟨rfl, _, SqL.of hz2⟩, [none, none, none, none, some (.tuple [wd, .tuple (R2)])], [.tuple [wd, .tuple (R2)]], .skip (.skip (.skip (.skip (.keep (i5.mono s6) .nil)))), rfl, fun vs8 H8 s8 i8 hl8 => ?_⟩
        cases i8 with
        | cons j1 i8 =>
          cases i8
          have p8 := p6.grow s8
          have hz8 := s8 _ _ hz2
          refine ⟨a2, zs2, _, rfl, rfl, hz8, ?_, q _ ⟨_, _, p8.add hz8 j1 hbi⟩⟩
          rw [hi2.length]
          exact Nat.lt_of_lt_of_le (by omega : e2.2.2.length < 100001) (by decide)
    | false =>
      rw [if_neg Bool.false_ne_true] at hcl3
      refine iteF ?_
      have hbl := hcl3
      have p4 := p1.grow s1
      have ir4 := hrow.mono s1
      refine ⟨_, .tuple [(.str e1.1), .tuple (e1.2.2)], eoQ H1 (.str e1.1) (.ref a) none (.str e1.1) ir4, ?_, fun bv H5 s5 i5 => ?_⟩
      · simp [f1, fV, fCons, fNil, gTu, on1, gTuple]
      unfold blockB at hbl
      obtain ⟨ag, hag, hbl2⟩ := Option.bind_eq_some_iff.mp hbl
      obtain ⟨g1, hg1, hg2⟩ := Option.bind_eq_some_iff.mp hag
      refine ⟨_, ag, eoQ H5 (.str e1.1) (.ref a) (some bv) (Is.mono s5 (.str e1.1)) (ir4.mono s5), ?_, fun H6 s6 => ?_⟩
      · simp [f1, f2, fV, fC, hg1, hg2]
      have p6 := (p4.grow s5).grow s6
      cases ag with
      | true =>
        rw [if_pos rfl] at hbl2
        obtain ⟨kk, hkk, hbl3⟩ := Option.bind_eq_some_iff.mp hbl2
        obtain ⟨mm, hmm, hbl4⟩ := Option.map_eq_some_iff.mp hbl3
        obtain ⟨g2, hg3, hg4⟩ := Option.bind_eq_some_iff.mp hkk
        obtain ⟨g3, hg5, hg6⟩ := Option.bind_eq_some_iff.mp hg3
        obtain ⟨g4, hg7, hg8⟩ := Option.bind_eq_some_iff.mp hg5
        refine iteT ⟨_, blk0, eoQ H6 (.str e1.1) (.ref a) (some bv) (Is.mono (s5.trans s6) (.str e1.1)) (ir4.mono (s5.trans s6)), ?_, fun cv H7 s7 i7 => ?_⟩
        · simp [f1, f2, fV, fC, fCons, fNil, gLs, gTu, on1, gTuple, hg7, hg8, hg6, hg4, hmm, hbl4]
        have p7 := p6.grow s7
        obtain ⟨vs2, cs, t2, a2, zs2, et2, ea2, ht2, hz2, hi2, hm2'⟩ := p7.top
        subst et2 ea2
        have hat : L2.atI ((vs2 ++ [t2]).map V.ref) (-1) = some (.ref t2) := by
          rw [List.map_append]
          exact atI_last _ _
        refine ⟨_, rfl, 1, rfl, st, _, -1, .ref t2, rfl, rfl, SqL.of p7.hs, hat, t2, _, 2, .ref a2, rfl, rfl, ht2, rfl, .inl ⟨rfl, _, SqL.of hz2⟩, [none, none, none, none, some blk0], [blk0], .skip (.skip (.skip (.skip (.keep i7 .nil)))), rfl, fun vs8 H8 s8 i8 hl8 => ?_⟩
        cases i8 with
        | cons j1 i8 =>
          cases i8
          have p8 := p7.grow s8
          have hz8 := s8 _ _ hz2
          refine ⟨a2, zs2, _, rfl, rfl, hz8, ?_, q _ ⟨_, _, p8.add hz8 j1 hbi⟩⟩
          rw [hi2.length]
          exact Nat.lt_of_lt_of_le (by omega : e2.2.2.length < 100001) (by decide)
      | false =>
        rw [if_neg Bool.false_ne_true] at hbl2
        cases hbl2
        refine iteF ?_
        obtain ⟨vs2, cs, t2, a2, zs2, et2, ea2, ht2, hz2, hi2, hm2'⟩ := p6.top
        subst et2 ea2
        have hat : L2.atI ((vs2 ++ [t2]).map V.ref) (-1) = some (.ref t2) := by
          rw [List.map_append]
          exact atI_last _ _
        refine ⟨_, rfl, 1, rfl, st, _, -1, .ref t2, rfl, rfl, SqL.of p6.hs, hat, t2, _, 2, .ref a2, rfl, rfl, ht2, rfl, .inl ⟨rfl, _, SqL.of hz2⟩, [none, none, none, none, some (.tuple [(.str e1.1), .tuple (e1.2.2)])], [.tuple [(.str e1.1), .tuple (e1.2.2)]], .skip (.skip (.skip (.skip (.keep (i5.mono s6) .nil)))), rfl, fun vs8 H8 s8 i8 hl8 => ?_⟩
        cases i8 with
        | cons j1 i8 =>
          cases i8
          have p8 := p6.grow s8
          have hz8 := s8 _ _ hz2
          refine ⟨a2, zs2, _, rfl, rfl, hz8, ?_, q _ ⟨_, _, p8.add hz8 j1 hbi⟩⟩
          rw [hi2.length]
          exact Nat.lt_of_lt_of_le (by omega : e2.2.2.length < 100001) (by decide)
end
end Arc
set_option Elab.async false
set_option linter.all false
set_option maxRecDepth 100000
set_option maxHeartbeats 4000000
namespace Arc
open PySem L2
theorem strO_some {d : PyData} {z : Str} (h : strO d = some z) : d = .str z := by
  cases d <;> cases h
  rfl
def openT : Rho → Option Bool := fAnd (f1 gB (f2 gLt (fV 4) (fC (.int 3)))) (f1 gB (f2 gLt (f1 (on1 gLen) (fCons (fV 1) fNil)) (fC (.int 5))))
def closeT : Rho → Option Bool := fAnd (f1 gB (f2 gEq (fV 4) (fC (.int 3)))) (f1 gB (f2 gGt (f1 (on1 gLen) (fCons (fV 1) fNil)) (fC (.int 1))))
def wordF : Rho → Option PyData := f2 gIx (f1 gLs (fCons (fC (.str "again")) (fCons (fC (.str "keep")) (fCons (fC (.str "ever")) fNil)))) (fV 4)
def everT : Rho → Option Bool := fAnd (f1 gB (f2 gEq (fV 5) (fC (.str "ever")))) (f1 gB (f2 gIn (fC (.str "ever")) (fLc [7] (tgN 7) (fun _ => some true) (f2 gIx (fV 7) (fC (.int 0))) (f1 itL (fV 1)))))
def manyF : Rho → Option PyData := f2 gMod (f2 gIx (fV 3) (fC (.int 10))) (f2 gIx (f1 gLs (fCons (fC (.int 3)) (fCons (fC (.int 3)) (fCons (fC (.int 13)) fNil)))) (f2 gMod (f2 gIx (fV 3) (fC (.int 9))) (fC (.int 3))))
def wayF : Rho → Option PyData := f2 gMod (f2 gIx (fV 3) (fC (.int 11))) (fC (.int 9))
abbrev stkD (stk : List Ent) : PyData := .list (stk.reverse.map entD)
def pushS (stk : List Ent) (row : List PyData) (way : Int) (w : Str) : Option (List Ent) :=
  ((manyF [none, some (stkD stk), none, some (.list row), some (.int way), none, none, none]).bind intO).bind fun m => if stk.length ≤ 100000 then some ((w, m, []) :: stk) else none
def closeS : List Ent → Option (List Ent)
  | e1 :: e2 :: r => if e2.2.2.length ≤ 100000 then (closeB e1).map fun b => addB e2 b :: r else none
  | _ => none
def addS (d : PyData) : List Ent → Option (List Ent)
  | e :: r => if e.2.2.length ≤ 100000 then some (addB e d :: r) else none
  | [] => none
def stepP (c : Int) (stk : List Ent) : Option (List Ent) :=
  ((law_row_G [.int c, .int 12]).bind listO).bind fun row => ((wayF [none, none, none, some (.list row), none, none, none, none]).bind intO).bind fun way =>
  (openT [none, some (stkD stk), none, some (.list row), some (.int way), none, none, none]).bind fun b1 => if b1 = true then
    ((wordF [none, some (stkD stk), none, some (.list row), some (.int way), none, none, none]).bind strO).bind fun w0 =>
      (everT [none, some (stkD stk), none, some (.list row), some (.int way), some (.str w0), none, none]).bind fun b2 => if b2 = true then pushS stk row way "keep" else pushS stk row way w0
    else (closeT [none, some (stkD stk), none, some (.list row), some (.int way), none, none, none]).bind fun b3 => if b3 = true then closeS stk
    else ((law_plain_G [.list row]).bind immO).bind fun d => addS d stk
def runP : List PyData → List Ent → Option (List Ent)
  | [], stk => some stk
  | .int c :: r, stk => (stepP c stk).bind fun s => runP r s
  | _ :: _, _ => none
def closeAll : Nat → List Ent → Option Ent
  | _, [e] => some e
  | n + 1, e1 :: e2 :: r => (closeS (e1 :: e2 :: r)).bind fun s => closeAll n s
  | _, _ => none
def trimF : Nat → List PyData → Option (List PyData)
  | 0, R => ((law_done_G [.list R]).bind intO).bind fun k => if 300 < k then none else some R
  | n + 1, R => ((law_done_G [.list R]).bind intO).bind fun k => if 300 < k then (if R.length = 0 then none else trimF n R.dropLast) else some R
def law_program_G : List PyData → Option PyData
  | [.list cells] => (runP cells [("", 0, [])]).bind fun stk => (closeAll stk.length stk).bind fun e => (trimF e.2.2.length e.2.2).map .tuple
  | _ => none
section
variable {P : Program} {w : World} {K : PySem.W.Frag} {mg : Str → Option Value} {base : Heap}
theorem SameStk {G H : Hp} {st : Addr} {es : List Ent} (h : StAt K G H st es) : Same G H := by
  obtain ⟨ts, as, p⟩ := h.ex
  exact p.sm
theorem StAt.grow {G H H2 : Hp} {st : Addr} {es : List Ent} (h : StAt K G H st es) (s : Same H H2) : StAt K G H2 st es := by
  obtain ⟨ts, as, p⟩ := h.ex
  exact ⟨ts, as, p.grow s⟩
theorem StAt.data {G H : Hp} {st : Addr} {es : List Ent} (h : StAt K G H st es) : Is K H (.ref st) (.list (es.map entD)) := by
  obtain ⟨ts, as, p⟩ := h.ex
  exact p.data
theorem EnAt.lenT {H : Hp} : ∀ {ts as : List Addr} {es : List Ent}, EnAt K H ts as es → ts.length = es.length
  | _, _, _, .nil => rfl
  | _, _, _, .cons _ _ _ _ r => congrArg Nat.succ (EnAt.lenT r)
theorem sc_law_program : FnScope ["_law_cells", "_law_stack", "_law_cell", "_law_row_here", "_law_way", "_law_word", "_law_rows", "_law_block"] ["_law_cells"] (defScope s_law_program) := ⟨rfl, rfl, rfl, by decide +kernel, rfl, by decide +kernel, by decide +kernel⟩
theorem ok_law_program (B : Bs w K mg) (T : Tp w K mg) (h_law_row : Fc P w K mg base 1 "_law_row" ["_law_cell", "_law_many"] law_row_G) (h_law_plain : Fc P w K mg base 4 "_law_plain" ["_law_row_here"] law_plain_G) (h_law_done : Fc P w K mg base 8 "_law_done" ["_law_rows"] law_done_G)
    (h_law_close : FcS P w K mg base 12 "_law_close" ["_law_stack"] (spClose K)) : Fc P w K mg base 13 "_law_program" ["_law_cells"] law_program_G := by
  obtain ⟨fd, Fd⟩ := B.defs (d := d_law_program) (mem_fn 71 rfl)
  replace Fd : FnP K "_law_program" "_law_program" s_law_program [] (He.ga K "_law_program") fd := Fd
  have hj_law_row : 1 ≤ 12 := by decide
  have hj_law_plain : 4 ≤ 12 := by decide
  have hj_law_done : 8 ≤ 12 := by decide
  have hj_law_close : 12 ≤ 12 := by decide
  refine ⟨He.ga K "_law_program", fd, ?_, B.glo (mem_fa 60 rfl), Fd.kp, FunD.bindsN (ps := ["_law_cells"]) Fd fun _ _ _ _ _ _ us hl => match us, hl with | [_], _ => rfl⟩
  refine Fd.ok (k := 12) sc_law_program (fun vs H Q E ⟨ds, r, a, b, c⟩ => ?_) (fun cdv A outer s H vs Q E hr ⟨ds, r, a, b, c⟩ => ⟨_, PSs.nox (pss_cons (ps_set (i := 1) sc_law_program.nd rfl (Or.inl rfl) (pe_lst (pa_cons (pe_tup (pa_cons d_str (pa_cons d_int (pa_cons (pe_lst pa_nil) pa_nil)))) pa_nil))) (pss_cons (ps_for PassesOwn.never rfl (pi_list (pv 0)) (pg_name (i := 2) sc_law_program.nd rfl (Or.inl rfl)) (pss_cons (ps_set (i := 3) sc_law_program.nd rfl (Or.inl rfl) (d_call (hj := hj_law_row) h_law_row hr (da_cons (dv 2) (da_cons d_int da_nil)))) (pss_cons (ps_set (i := 4) sc_law_program.nd rfl (Or.inl rfl) (d_op op_mod o_mod (d_ix (dv 3) d_int) d_int)) (pss_one (ps_if (PW.pt (dw_and (dt_cmp op_lt o_lt (dv 4) d_int) (dw_and1 (dt_cmp op_lt o_lt (d_bi call_len c_len T.z_len b_len (da_cons (dv 1) da_nil)) d_int)))) (pss_cons (ps_set (i := 5) sc_law_program.nd rfl (Or.inl rfl) (d_ix (d_lst (da_cons d_str (da_cons d_str (da_cons d_str da_nil)))) (dv 4))) (pss_cons (ps_if (PW.pt (dw_and (dt_cmp (op_eqD hr.units) o_eq (dv 5) d_str) (dw_and1 (dt_cmp op_in_seq o_in d_str (d_lc (own := [("_law_block", 7)]) sc_law_program.nd  (li_L (dv 1)) (blkOk_by (own := [("_law_block", 7)]) (N := ["_law_cells", "_law_stack", "_law_cell", "_law_row_here", "_law_way", "_law_word", "_law_rows", "_law_block"]) (sc := defScope s_law_program) (by decide +kernel)) (fun _ _ _ _ _ => pg_name (i := 7) sc_law_program.nd rfl (Or.inl rfl)) (tl_name (by decide)) (fun _ _ _ _ _ => dts_nil) (fun _ _ _ _ _ => (d_ix (dv 7) d_int))))))) (pss_one (ps_set (i := 5) sc_law_program.nd rfl (Or.inl rfl) d_str)) pss_nil) (pss_one (ps_expr (pe_bm PySem.F.plainAttrs_list PySem.F.slot_list_append PySem.F.type_list_append mt_append (pv 1) (pa_cons (pe_tup (pa_cons (pv 5) (pa_cons (d_op op_mod o_mod (d_ix (dv 3) d_int) (d_ix (d_lst (da_cons d_int (da_cons d_int (da_cons d_int da_nil)))) (d_op op_mod o_mod (d_ix (dv 3) d_int) d_int))) (pa_cons (pe_lst pa_nil) pa_nil)))) pa_nil)))))) (pss_one (ps_if (PW.pt (dw_and (dt_cmp (op_eqD hr.units) o_eq (dv 4) d_int) (dw_and1 (dt_cmp op_gt o_gt (d_bi call_len c_len T.z_len b_len (da_cons (dv 1) da_nil)) d_int)))) (pss_one (ps_expr (pe_callS (hj := hj_law_close) h_law_close hr (pa_cons (pv 1) pa_nil)))) (pss_one (ps_expr (pe_bm PySem.F.plainAttrs_list PySem.F.slot_list_append PySem.F.type_list_append mt_append (pe_ix ix_tup (pe_ix ix_list (pv 1) (pe_un un_neg pe_int) (fun _ _ => rfl)) pe_int (fun _ _ => rfl)) (da_cons (d_call (hj := hj_law_plain) h_law_plain hr (da_cons (dv 3) da_nil)) da_nil))))))))))) (pss_cons (ps_while PassesOwn.never (dt_cmp op_gt o_gt (d_bi call_len c_len T.z_len b_len (da_cons (dv 1) da_nil)) d_int) (pss_one (ps_expr (pe_callS (hj := hj_law_close) h_law_close hr (pa_cons (pv 1) pa_nil))))) (pss_cons (ps_set (i := 6) sc_law_program.nd rfl (Or.inl rfl) (pe_ix ix_tup (pe_ix ix_list (pv 1) pe_int (fun _ _ => rfl)) pe_int (fun _ _ => rfl))) (pss_cons (ps_while PassesOwn.never (dt_cmp op_gt o_gt (d_call (hj := hj_law_done) h_law_done hr (da_cons (dv 6) da_nil)) d_int) (pss_one (ps_expr (pe_bm0 PySem.F.plainAttrs_list PySem.F.slot_list_pop PySem.F.type_list_pop mt_pop (pv 6))))) (pss_one (ps_ret (d_ty call_tuple_of c_tuple T.z_tuple b_tuple (da_cons (dv 6) da_nil))))))))), ?_⟩)
  · unfold law_program_G at b
    split at b
    · rw [a.length]
      rfl
    · cases b
  · unfold law_program_G at b
    split at b
    · rename_i cells
      obtain ⟨stkF, hrun, b2⟩ := Option.bind_eq_some_iff.mp b
      clear b
      obtain ⟨eF, hca, b3⟩ := Option.bind_eq_some_iff.mp b2
      clear b2
      obtain ⟨RF, htr, b4⟩ := Option.map_eq_some_iff.mp b3
      clear b3
      subst b4
      cases a with
      | cons i1 a =>
        cases a
        obtain ⟨ac, xs, ev, hxs, hds⟩ := i1.lstI
        subst ev
        have eoN : ∀ (H1 : Hp) (o0 o1 o2 o3 o4 o5 o6 o7 : Option V), EO K H1 [o0, o1, o2, o3, o4, o5, o6, o7] [none, none, none, none, none, none, none, none] := fun _ _ _ _ _ _ _ _ _ => .skip (.skip (.skip (.skip (.skip (.skip (.skip (.skip .nil)))))))
        refine ⟨_, .str "", eoN _ _ _ _ _ _ _ _ _, rfl, fun v1 H1 s1 j1 => ⟨_, .int 0, eoN _ _ _ _ _ _ _ _ _, rfl, fun v2 H2 s2 j2 => ⟨Nat.zero_le _, fun a na => ⟨(by show 3 ≤ sizeLine; decide +kernel), fun t nt => ⟨(by show 1 ≤ sizeLine; decide +kernel), fun st nst => ?_⟩⟩⟩⟩⟩
        obtain rfl := j1.strI
        obtain rfl := j2.intI
        have na' : H2 a = none := na
        have nta : t ≠ a := fun z => by
          rw [z, upd_same] at nt
          cases nt
        have nsta : st ≠ a := fun z => by
          rw [z, upd_ne nta.symm, upd_same] at nst
          cases nst
        have nstt : st ≠ t := fun z => by
          rw [z, upd_same] at nst
          cases nst
        have nt' : H2 t = none := by
          rw [upd_ne nta] at nt
          exact nt
        have nst' : H2 st = none := by
          rw [upd_ne nstt, upd_ne nsta] at nst
          exact nst
        have s02 : Same H H2 := s1.trans s2
        have st0 : StAt K H (upd (upd (upd H2 a (.lst [])) t (.tup [.str "", .int 0, .ref a])) st (.lst [.ref t])) st (([("", 0, [])] : List Ent).reverse) := by
          refine ⟨[t], [a], ⟨upd_same, .cons (e := ("", 0, [])) (SqT.of ?_) ?_ .nil rfl .nil, ?_, s02.free nst', ?_, ?_, ?_⟩⟩
          · rw [upd_ne nstt.symm, upd_same]
          · rw [upd_ne nsta.symm, upd_ne nta.symm, upd_same]
          · intro b o e
            have e2 := s02 _ _ e
            rw [upd_ne (ne_of_none e2 nst'), upd_ne (ne_of_none e2 nt'), upd_ne (ne_of_none e2 na')]
            exact e2
          · intro b hb
            rw [List.mem_singleton.mp hb]
            exact s02.free na'
          · simpa using nsta
          · simp
        refine ⟨_, rfl, ac, rfl, ⟨xs, SqL.of (SameStk st0 _ _ hxs)⟩, for_list (xs := xs) (fun i σ' H' => ∃ o2 o3 o4 o5 stk, σ' = [some (.ref ac), some (.ref st), o2, o3, o4, o5, none, none] ∧ StAt K H H' st (List.reverse stk) ∧ runP (cells.drop i) stk = some stkF)
          ⟨none, none, none, none, [("", 0, [])], rfl, st0, by rw [List.drop_zero]; exact hrun⟩ (fun i σ' H' _ p => ?_) ?_ ?_⟩
        · obtain ⟨_, _, _, _, _, _, sta, _⟩ := p
          exact SqL.of (SameStk sta _ _ hxs)
        · rintro i y σ' H' hi ⟨o2, o3, o4, o5, stk, rfl, sta, hr2⟩
          obtain ⟨d, hd1, hd2⟩ := hds.getV hi
          have hlt := (List.getElem?_eq_some_iff.mp hd1).1
          have hdr : cells.drop i = d :: cells.drop (i + 1) := by
            rw [List.drop_eq_getElem_cons hlt, (List.getElem?_eq_some_iff.mp hd1).2]
          rw [hdr] at hr2
          cases d with
          | int cc =>
            obtain ⟨stk', hst, hr3⟩ := Option.bind_eq_some_iff.mp hr2
            clear hr2
            unfold stepP at hst
            obtain ⟨row, hrow, hst2⟩ := Option.bind_eq_some_iff.mp hst
            clear hst
            obtain ⟨rowd, hrow1, hrow2⟩ := Option.bind_eq_some_iff.mp hrow
            obtain rfl := listO_some hrow2
            obtain ⟨way, hway, hst3⟩ := Option.bind_eq_some_iff.mp hst2
            clear hst2
            obtain ⟨wayd, hway1, hway2⟩ := Option.bind_eq_some_iff.mp hway
            obtain rfl := intO_some hway2
            obtain ⟨b1, hb1, hst4⟩ := Option.bind_eq_some_iff.mp hst3
            clear hst3
            obtain rfl := hd2.intI
            refine ⟨[none, none, some (.int cc), none, none, none, none, none], .list row, .skip (.skip (.keep (.int cc) (.skip (.skip (.skip (.skip (.skip .nil))))))), ?_, fun rv H1 s1 k1 => ?_⟩
            · simp [f1, fV, fC, fCons, fNil, hrow1]
            refine ⟨[none, none, none, some (.list row), none, none, none, none], .int way, .skip (.skip (.skip (.keep k1 (.skip (.skip (.skip (.skip .nil))))))), hway1, fun wv H2 s2 k2 => ?_⟩
            obtain rfl := k2.intI
            have sta2 := sta.grow (s1.trans s2)
            have eoF : ∀ (H3 : Hp) (o2 o5 : Option V), StAt K H H3 st stk.reverse → Same H1 H3 → EO K H3 [some (.ref ac), some (.ref st), o2, some rv, some (.int way), o5, none, none] [none, some (stkD stk), none, some (.list row), some (.int way), none, none, none] := fun H3 o2 o5 sta s =>
              .skip (.keep sta.data (.skip (.keep (k1.mono s) (.keep (.int way) (.skip (.skip (.skip .nil)))))))
            refine ⟨_, b1, eoF H2 _ _ sta2 s2, hb1, fun H3 s3 => ?_⟩
            have sta3 := sta2.grow s3
            have s13 := s2.trans s3
            cases b1 with
            | true =>
              rw [if_pos rfl] at hst4
              obtain ⟨w0, hw0, hst5⟩ := Option.bind_eq_some_iff.mp hst4
              clear hst4
              obtain ⟨w0d, hw1, hw2⟩ := Option.bind_eq_some_iff.mp hw0
              obtain rfl := strO_some hw2
              obtain ⟨b2, hb2, hst6⟩ := Option.bind_eq_some_iff.mp hst5
              clear hst5
              refine iteT ⟨_, .str w0, eoF H3 _ _ sta3 s13, hw1, fun w0v H4 s4 k4 => ?_⟩
              obtain rfl := k4.strI
              have sta4 := sta3.grow s4
              refine ⟨[none, some (stkD stk), none, some (.list row), some (.int way), some (.str w0), none, none], b2, .skip (.keep sta4.data (.skip (.keep (k1.mono (s13.trans s4)) (.keep (.int way) (.keep (.str w0) (.skip (.skip .nil))))))), hb2, fun H5 s5 => ?_⟩
              have sta5 := sta4.grow s5
              have s15 := (s13.trans s4).trans s5
              cases b2 with
              | true =>
                rw [if_pos rfl] at hst6
                refine iteT ⟨_, .str "keep", eoN _ _ _ _ _ _ _ _ _, rfl, fun kv H6 s6 k6 => ?_⟩
                obtain rfl := k6.strI
                have sta6 := sta5.grow s6
                have s16 := s15.trans s6
                unfold pushS at hst6
                obtain ⟨m, hm, hst7⟩ := Option.bind_eq_some_iff.mp hst6
                obtain ⟨md, hm1, hm2⟩ := Option.bind_eq_some_iff.mp hm
                obtain rfl := intO_some hm2
                split at hst7
                · rename_i hle
                  cases hst7
                  obtain ⟨ts, as, p6⟩ := sta6.ex
                  refine ⟨_, rfl, .inl ⟨rfl, _, SqL.of p6.hs⟩, _, rfl, _, .int m, eoF _ _ _ sta6 s16, hm1, fun mv H7 s7 k7 => ⟨Nat.zero_le _, fun a1 na1 => ⟨(by show 3 ≤ sizeLine; decide +kernel), fun t1 nt1 => ?_⟩⟩⟩
                  obtain rfl := k7.intI
                  have p7 := p6.grow s7
                  have na1' : H7 a1 = none := na1
                  have nta1 : t1 ≠ a1 := fun z => by
                    rw [z, upd_same] at nt1
                    cases nt1
                  have nt1' : H7 t1 = none := by
                    rw [upd_ne nta1] at nt1
                    exact nt1
                  have p8 := (p7.grow (same_new (o := .lst []) na1')).grow (same_new (o := .tup [.str "keep", .int m, .ref a1]) nt1)
                  refine ⟨st, _, .ref t1, rfl, rfl, p8.hs, ?_, ?_⟩
                  · rw [List.length_map, p8.en.lenT, List.length_reverse]
                    exact Nat.lt_of_lt_of_le (by omega : stk.length < 100001) (by decide)
                  · refine ⟨_, _, _, _, ("keep", m, []) :: stk, rfl, ?_, hr3⟩
                    rw [List.reverse_cons]
                    refine ⟨_, _, p8.push (SqT.of upd_same) ?_ (p7.sm.free na1') ?_ ?_⟩
                    · rw [upd_ne nta1.symm, upd_same]
                    · intro z
                      obtain ⟨zs, hz⟩ := p7.en.some z
                      rw [hz] at na1'
                      cases na1'
                    · intro z
                      rw [z, p7.hs] at na1'
                      cases na1'
                · cases hst7
              | false =>
                rw [if_neg Bool.false_ne_true] at hst6
                refine iteF ?_
                have sta6 := sta5
                have s16 := s15
                unfold pushS at hst6
                obtain ⟨m, hm, hst7⟩ := Option.bind_eq_some_iff.mp hst6
                obtain ⟨md, hm1, hm2⟩ := Option.bind_eq_some_iff.mp hm
                obtain rfl := intO_some hm2
                split at hst7
                · rename_i hle
                  cases hst7
                  obtain ⟨ts, as, p6⟩ := sta6.ex
                  refine ⟨_, rfl, .inl ⟨rfl, _, SqL.of p6.hs⟩, _, rfl, _, .int m, eoF _ _ _ sta6 s16, hm1, fun mv H7 s7 k7 => ⟨Nat.zero_le _, fun a1 na1 => ⟨(by show 3 ≤ sizeLine; decide +kernel), fun t1 nt1 => ?_⟩⟩⟩
                  obtain rfl := k7.intI
                  have p7 := p6.grow s7
                  have na1' : H7 a1 = none := na1
                  have nta1 : t1 ≠ a1 := fun z => by
                    rw [z, upd_same] at nt1
                    cases nt1
                  have nt1' : H7 t1 = none := by
                    rw [upd_ne nta1] at nt1
                    exact nt1
                  have p8 := (p7.grow (same_new (o := .lst []) na1')).grow (same_new (o := .tup [.str w0, .int m, .ref a1]) nt1)
                  refine ⟨st, _, .ref t1, rfl, rfl, p8.hs, ?_, ?_⟩
                  · rw [List.length_map, p8.en.lenT, List.length_reverse]
                    exact Nat.lt_of_lt_of_le (by omega : stk.length < 100001) (by decide)
                  · refine ⟨_, _, _, _, (w0, m, []) :: stk, rfl, ?_, hr3⟩
                    rw [List.reverse_cons]
                    refine ⟨_, _, p8.push (SqT.of upd_same) ?_ (p7.sm.free na1') ?_ ?_⟩
                    · rw [upd_ne nta1.symm, upd_same]
                    · intro z
                      obtain ⟨zs, hz⟩ := p7.en.some z
                      rw [hz] at na1'
                      cases na1'
                    · intro z
                      rw [z, p7.hs] at na1'
                      cases na1'
                · cases hst7
            | false =>
              rw [if_neg Bool.false_ne_true] at hst4
              obtain ⟨b3, hb3, hst5⟩ := Option.bind_eq_some_iff.mp hst4
              clear hst4
              refine iteF ⟨_, b3, eoF H3 _ _ sta3 s13, hb3, fun H4 s4 => ?_⟩
              have sta4 := sta3.grow s4
              cases b3 with
              | true =>
                rw [if_pos rfl] at hst5
                cases stk with
                | nil => cases hst5
                | cons e1 r1 =>
                  cases r1 with
                  | nil => cases hst5
                  | cons e2 r2 =>
                    have hst6 : (if e2.2.2.length ≤ 100000 then (closeB e1).map fun b => addB e2 b :: r2 else none) = some stk' := hst5
                    split at hst6
                    · rename_i hle
                      obtain ⟨blk, hblk, hst7⟩ := Option.map_eq_some_iff.mp hst6
                      subst hst7
                      have e3 : (e1 :: e2 :: r2).reverse = r2.reverse ++ [e2] ++ [e1] := by rw [List.reverse_cons, List.reverse_cons]
                      rw [e3] at sta4
                      refine iteT ⟨_, rfl, H, st, r2.reverse, e2, e1, blk, rfl, sta4, hblk, hle, fun H5 sta5 => ?_⟩
                      refine ⟨_, _, _, _, addB e2 blk :: r2, rfl, ?_, hr3⟩
                      rw [List.reverse_cons]
                      exact sta5
                    · cases hst6
              | false =>
                rw [if_neg Bool.false_ne_true] at hst5
                obtain ⟨d, hd, hst6⟩ := Option.bind_eq_some_iff.mp hst5
                clear hst5
                obtain ⟨d0, hdA, hdB⟩ := Option.bind_eq_some_iff.mp hd
                obtain ⟨ed, hdi⟩ := immO_some hdB
                subst ed
                cases stk with
                | nil => cases hst6
                | cons e1 r1 =>
                  have hst7 : (if e1.2.2.length ≤ 100000 then some (addB e1 d0 :: r1) else none) = some stk' := hst6
                  split at hst7
                  · rename_i hle
                    cases hst7
                    have e3 : (e1 :: r1).reverse = r1.reverse ++ [e1] := List.reverse_cons
                    rw [e3] at sta4
                    obtain ⟨ts, as, p4⟩ := sta4.ex
                    obtain ⟨us, bs, t2, a2, zs2, et2, ea2, ht2, hz2, hi2, hm2⟩ := p4.top
                    subst et2 ea2
                    have hat : L2.atI ((us ++ [t2]).map V.ref) (-1) = some (.ref t2) := by
                      rw [List.map_append]
                      exact atI_last _ _
                    refine iteF ⟨_, rfl, 1, rfl, st, _, -1, .ref t2, rfl, rfl, SqL.of p4.hs, hat, t2, _, 2, .ref a2, rfl, rfl, ht2, rfl, .inl ⟨rfl, _, SqL.of hz2⟩, [none, none, none, some (.list row), none, none, none, none], [d0], .skip (.skip (.skip (.keep (k1.mono (s13.trans s4)) (.skip (.skip (.skip (.skip .nil))))))), ?_, fun vs5 H5 s5 i5 hl5 => ?_⟩
                    · simp [f1, fV, fCons, fNil, hdA]
                    cases i5 with
                    | cons j1 i5 =>
                      cases i5
                      have p5 := p4.grow s5
                      have hz5 := s5 _ _ hz2
                      refine ⟨a2, zs2, _, rfl, rfl, hz5, ?_, ?_⟩
                      · rw [hi2.length]
                        exact Nat.lt_of_lt_of_le (by omega : e1.2.2.length < 100001) (by decide)
                      · refine ⟨_, _, _, _, addB e1 d0 :: r1, rfl, ?_, hr3⟩
                        rw [List.reverse_cons]
                        exact ⟨_, _, p5.add hz5 j1 hdi⟩
                  · cases hst7
          | _ => cases hr2
        · rintro σ' H' ⟨o2, o3, o4, o5, stk, rfl, sta, hr2⟩
          have hlx : cells.drop xs.length = [] := List.drop_eq_nil_of_le (by rw [hds.length]; exact Nat.le_refl _)
          rw [hlx] at hr2
          cases hr2
          refine ⟨fun m σ' H' => ∃ o2 o3 o4 o5 stk, σ' = [some (.ref ac), some (.ref st), o2, o3, o4, o5, none, none] ∧ StAt K H H' st (List.reverse stk) ∧ closeAll m stk = some eF, ⟨stkF.length, o2, o3, o4, o5, stkF, rfl, sta, hca⟩, ?_⟩
          clear sta hca
          rintro m σ' H' ⟨o2, o3, o4, o5, stk, rfl, sta, hca⟩
          have eoS : EO K H' [some (.ref ac), some (.ref st), o2, o3, o4, o5, none, none] [none, some (stkD stk), none, none, none, none, none, none] := .skip (.keep sta.data (.skip (.skip (.skip (.skip (.skip (.skip .nil)))))))
          cases stk with
          | nil => cases m <;> cases hca
          | cons e1 r1 =>
            cases r1 with
            | nil =>
              have hca1 : some e1 = some eF := by cases m <;> exact hca
              cases hca1
              refine ⟨_, false, eoS, rfl, fun H1 s1 => iteF ?_⟩
              have sta1 := sta.grow s1
              obtain ⟨ts, as, p1⟩ := sta1.ex
              obtain ⟨us, bs, t2, a2, zs2, et2, ea2, ht2, hz2, hi2, hm2⟩ := StX.top (es := []) p1
              have eus : us = [] := by
                have l1 := p1.en.lenT
                rw [et2] at l1
                simp at l1
                exact l1
              subst et2
              subst eus
              have hta : H a2 = none := p1.ga _ (by rw [ea2]; simp)
              refine ⟨_, rfl, st, _, 0, .ref t2, rfl, rfl, SqL.of p1.hs, atI_zero _ _, t2, _, 2, .ref a2, rfl, rfl, ht2, rfl, ?_⟩
              refine ⟨fun m σ' H' => ∃ R zs, σ' = [some (.ref ac), some (.ref st), o2, o3, o4, o5, some (.ref a2), none] ∧ Same H H' ∧ H' a2 = some (.lst zs) ∧ IsAll K H' zs R ∧ immAll R = true ∧ trimF m R = some RF, ⟨eF.2.2.length, eF.2.2, zs2, rfl, p1.sm, hz2, hi2, hm2, htr⟩, ?_⟩
              rintro m2 σ2 H2 ⟨R, zs, rfl, sm2, hza, hzi, hRi, htr2⟩
              have eoR : ∀ H3, Same H2 H3 → EO K H3 [some (.ref ac), some (.ref st), o2, o3, o4, o5, some (.ref a2), none] [none, none, none, none, none, none, some (.list R), none] := fun H3 s3 => .skip (.skip (.skip (.skip (.skip (.skip (.keep (.lst (s3 _ _ hza) (hzi.mono s3)) (.skip .nil)))))))
              have fin : ∀ (kk : Int), (law_done_G [.list R]).bind intO = some kk → ¬ 300 < kk → R = RF → ∀ (H3 : Hp), Same H2 H3 → ∃ ρ d, EO K H3 [some (.ref ac), some (.ref st), o2, o3, o4, o5, some (.ref a2), none] ρ ∧ (f1 (on1 gTuple) (fCons (fV 6) fNil)) ρ = some d ∧ ∀ v H4, Same H3 H4 → Is K H4 v d → Q v H4 := fun kk _ _ eR H3 s3 => by
                subst eR
                exact ⟨_, .tuple R, eoR H3 s3, rfl, fun v H4 s4 i4 => c v H4 (sm2.trans (s3.trans s4)) i4⟩
              have tst : ∀ (kk : Int), (law_done_G [.list R]).bind intO = some kk → (f1 gB (f2 gGt (f1 law_done_G (fCons (fV 6) fNil)) (fC (.int 300)))) [none, none, none, none, none, none, some (.list R), none] = some (decide ((300 : Int) < kk)) := fun kk h => by
                obtain ⟨kd, hk1, hk2⟩ := Option.bind_eq_some_iff.mp h
                obtain rfl := intO_some hk2
                simp [f1, f2, fV, fC, fCons, fNil, hk1, gGt, gB]
              cases m2 with
              | zero =>
                unfold trimF at htr2
                obtain ⟨kk, hkk, htr3⟩ := Option.bind_eq_some_iff.mp htr2
                by_cases hlt : 300 < kk
                · rw [if_pos hlt] at htr3
                  cases htr3
                · rw [if_neg hlt] at htr3
                  refine ⟨_, _, eoR H2 (Same.refl H2), tst kk hkk, fun H3 s3 => ?_⟩
                  rw [decide_eq_false hlt]
                  exact iteF (fin kk hkk hlt (Option.some.inj htr3) H3 s3)
              | succ m2 =>
                unfold trimF at htr2
                obtain ⟨kk, hkk, htr3⟩ := Option.bind_eq_some_iff.mp htr2
                refine ⟨_, _, eoR H2 (Same.refl H2), tst kk hkk, fun H3 s3 => ?_⟩
                by_cases hlt : 300 < kk
                · rw [if_pos hlt] at htr3
                  rw [decide_eq_true hlt]
                  by_cases hn : R.length = 0
                  · rw [if_pos hn] at htr3
                    cases htr3
                  · rw [if_neg hn] at htr3
                    refine iteT ⟨fun σ' H' => ∃ R zs, σ' = [some (.ref ac), some (.ref st), o2, o3, o4, o5, some (.ref a2), none] ∧ Same H H' ∧ H' a2 = some (.lst zs) ∧ IsAll K H' zs R ∧ immAll R = true ∧ trimF m2 R = some RF, fun σ' H' h => ⟨m2, Nat.lt_succ_self m2, h⟩, ?_⟩
                    have hne : R ≠ [] := fun z => hn (by rw [z]; rfl)
                    have eR : R.dropLast ++ [R.getLast hne] = R := List.dropLast_concat_getLast hne
                    rw [← eR] at hzi hRi
                    obtain ⟨ws, v, ez, hw1, hw2⟩ := hzi.last
                    subst ez
                    rw [immAll_append] at hRi
                    have hza3 := s3 _ _ hza
                    refine ⟨_, rfl, .inl ⟨rfl, _, SqL.of hza3⟩, a2, _, v, rfl, rfl, hza3, by simp, ?_⟩
                    rw [List.dropLast_concat]
                    have hRi1 := (Bool.and_eq_true_iff.mp hRi).1
                    exact ⟨R.dropLast, ws, rfl, same_mut (sm2.trans s3) hta, upd_same, (hw1.mono s3).immU hza3 hRi1, hRi1, htr3⟩
                · rw [if_neg hlt] at htr3
                  rw [decide_eq_false hlt]
                  exact iteF (fin kk hkk hlt (Option.some.inj htr3) H3 s3)
            | cons e2 r2 =>
              cases m with
              | zero => cases hca
              | succ m =>
                obtain ⟨s', hs', hca2⟩ := Option.bind_eq_some_iff.mp hca
                have hs2 : (if e2.2.2.length ≤ 100000 then (closeB e1).map fun b => addB e2 b :: r2 else none) = some s' := hs'
                split at hs2
                · rename_i hle
                  obtain ⟨blk, hblk, hs3⟩ := Option.map_eq_some_iff.mp hs2
                  subst hs3
                  refine ⟨_, true, eoS, ?_, fun H1 s1 => iteT ?_⟩
                  · have hn : (1 : Int) < (((e1 :: e2 :: r2).reverse.map entD).length : Int) := by simp; omega
                    show some (decide ((1 : Int) < (((e1 :: e2 :: r2).reverse.map entD).length : Int))) = some true
                    rw [decide_eq_true hn]
                  · have sta1 := sta.grow s1
                    have e3 : (e1 :: e2 :: r2).reverse = r2.reverse ++ [e2] ++ [e1] := by rw [List.reverse_cons, List.reverse_cons]
                    rw [e3] at sta1
                    refine ⟨fun σ' H' => ∃ o2 o3 o4 o5 stk, σ' = [some (.ref ac), some (.ref st), o2, o3, o4, o5, none, none] ∧ StAt K H H' st (List.reverse stk) ∧ closeAll m stk = some eF, fun σ' H' h => ⟨m, Nat.lt_succ_self m, h⟩, ?_⟩
                    refine ⟨_, rfl, H, st, r2.reverse, e2, e1, blk, rfl, sta1, hblk, hle, fun H5 sta5 => ?_⟩
                    refine ⟨_, _, _, _, addB e2 blk :: r2, rfl, ?_, hca2⟩
                    rw [List.reverse_cons]
                    exact sta5
                · cases hs2
    · cases b
end
end Arc
set_option Elab.async false
set_option linter.all false
set_option maxRecDepth 100000
set_option maxHeartbeats 4000000
namespace Arc
open PySem L2
/-! ### max of a list of ints, with a default -/
def maxI (d : Int) : List Int → Int
  | [] => d
  | n :: ns => ns.foldl max n
def rMaxD (K : PySem.W.Frag) : List V → List V → Hp → VK → Prop := fun vs zs H Q => ∃ (a : Addr) (ns : List Int) (d : Int), vs = [.ref a] ∧ zs = [.int d] ∧ SqL K H a (ns.map V.int) ∧ Q (.int (maxI d ns)) H
theorem dpInts {K : PySem.W.Frag} {H : Hp} : ∀ ns : List Int, DpAll K H (ns.map V.int) (ns.map PyData.int)
  | [] => .nil
  | n :: ns => .cons (.int n) (dpInts ns)
theorem depthInts : ∀ ns : List Int, PyData.depthAll (ns.map PyData.int) ≤ 1
  | [] => by simp [PyData.depthAll]
  | n :: ns => by
    have := depthInts ns
    simp [PyData.depthAll, PyData.depth] at this ⊢
    omega
theorem cr_maxD {X : Cx} (hu : X.A.units + 65 < cLine) (hc : X.calm = true := by rfl) : CallRK X (.builtin "max") [Str.ofString "default"] (rMaxD X.K) := by
  intro pins s σ H vs zs us ws Q I r rz h
  obtain ⟨a, ns, d, rfl, rfl, hs, q⟩ := h
  obtain rfl := Vals.ref1 r
  obtain ⟨w1, rfl, t, rfl⟩ := vals1 rz
  obtain ⟨its, rv, hl, hz⟩ := I.list hs
  obtain ⟨as, hr⟩ := Dp.readsAll I _ _ _ (dpInts ns) rv
  refine PySem.W.max_list_default (vs := its.toArray) (xs := ns.map PyData.int) (as := as) (I.ok.hd hc) hl.isList hr ?_ ?_ ?_ ?_
  · refine ⟨fun x hx y hy => ?_, fun x hx => ?_⟩
    · obtain ⟨i, _, rfl⟩ := List.mem_map.mp hx
      obtain ⟨j, _, rfl⟩ := List.mem_map.mp hy
      rfl
    · obtain ⟨i, _, rfl⟩ := List.mem_map.mp hx
      intro z
      cases z
  · have := depthInts ns
    omega
  · intro e h' tk k
    have en : ns = [] := by simpa using e
    subst en
    exact ⟨.int d, H, I.kept (t' := tk) k, ⟨t, rfl⟩, q⟩
  · intro y ys i v h' tk bs e hv hrd k
    cases ns with
    | nil => cases e
    | cons n ns =>
      cases e
      rw [PySem.W.maxD_ints] at hrd
      cases hrd
      exact ⟨.int (ns.foldl max n), H, I.kept (t' := tk) k, ⟨_, rfl⟩, q⟩
/-! ### how deep a program is -/
def asInts : List PyData → Option (List Int)
  | [] => some []
  | .int i :: r => (asInts r).map (i :: ·)
  | _ => none
theorem asInts_ok {K : PySem.W.Frag} {H : Hp} : ∀ {vs : List V} {ds : List PyData} {bs : List Int}, IsAll K H vs ds → asInts ds = some bs → vs = bs.map V.int
  | _, _, bs, .nil, e => by cases e; rfl
  | _, _, bs, @IsAll.cons _ _ v vs d ds h k, e => by
    cases d <;> try (cases e; done)
    rename_i b
    have e1 : (asInts ds).map (b :: ·) = some bs := e
    obtain ⟨cs, h1, h2⟩ := Option.map_eq_some_iff.mp e1
    subst h2
    rw [h.intI, asInts_ok k h1]
    rfl
def deepL (g : List PyData → Option PyData) : Rho → Option PyData := fLc [1] (tgN 1) (f1 gB (f2 gIn (f2 gIx (fV 1) (fC (.int 0))) (f1 gLs (fCons (fC (.str "again")) (fCons (fC (.str "keep")) (fCons (fC (.str "ever")) fNil)))))) (f2 gAdd (fC (.int 1)) (f1 g (fCons (f2 gIx (fV 1) (f1 gNeg (fC (.int 1)))) fNil))) (f1 itT (fV 0))
def law_deepS (g : List PyData → Option PyData) : List PyData → Option PyData
  | [r] => ((((deepL g) [some r, none]).bind listO).bind asInts).map fun ns => .int (maxI 0 ns)
  | _ => none
def law_deep_R : Nat → List PyData → Option PyData
  | 0 => fun _ => none
  | n + 1 => law_deepS (law_deep_R n)
def law_deep_G : List PyData → Option PyData := law_deep_R 8
section
variable {P : Program} {w : World} {K : PySem.W.Frag} {mg : Str → Option Value} {base : Heap}
theorem sc_law_deep : FnScope ["_law_rows", "_law_row_here"] ["_law_rows"] (defScope s_law_deep) := ⟨rfl, rfl, rfl, by decide +kernel, rfl, by decide +kernel, by decide +kernel⟩
theorem ok_law_deep {g : List PyData → Option PyData} (B : Bs w K mg) (T : Tp w K mg) {k : Nat} (h_law_deep : Fc P w K mg base k "_law_deep" ["_law_rows"] g) : Fc P w K mg base (k + 1) "_law_deep" ["_law_rows"] (law_deepS g) := by
  obtain ⟨fd, Fd⟩ := B.defs (d := d_law_deep) (mem_fn 76 rfl)
  replace Fd : FnP K "_law_deep" "_law_deep" s_law_deep [] (He.ga K "_law_deep") fd := Fd
  have hj_law_deep : k ≤ k := Nat.le_refl _
  refine ⟨He.ga K "_law_deep", fd, ?_, B.glo (mem_fa 65 rfl), Fd.kp, FunD.bindsN (ps := ["_law_rows"]) Fd fun _ _ _ _ _ _ us hl => match us, hl with | [_], _ => rfl⟩
  have hb : ∀ (cdv : Value) (A : Around) (outer : List Env) (s : Shared) (H : Hp) (E : XK), Room k (A.deeper (PyProof.Rows.envOfC "_law_deep" (defScope s_law_deep) s.heap.objs.size (He.ga K "_law_deep") cdv)) →
      PSs (cxOf CX0 P w K mg base ["_law_rows", "_law_row_here"] "_law_deep" (defScope s_law_deep) (He.ga K "_law_deep") cdv A outer s H E).nox (defBody s_law_deep)
        (tRet (tCKw (rMaxD K) (tDA K 1 (fCons (deepL g) fNil)) (tCons (tD K (fC (.int 0))) tNil))) := by
    intro cdv A outer s H E hr
    exact (pss_one (ps_ret (pe_callBK (cr_maxD (hu65 hr)) (by rfl) T.z_max b_max (da_cons (d_lc (own := [("_law_row_here", 1)]) sc_law_deep.nd  (li_T (dv 0)) (blkOk_by (own := [("_law_row_here", 1)]) (N := ["_law_rows", "_law_row_here"]) (sc := defScope s_law_deep) (by decide +kernel)) (fun _ _ _ _ _ => pg_name (i := 1) sc_law_deep.nd rfl (Or.inl rfl)) (tl_name (by decide)) (fun _ _ _ _ _ => dts_one (dt_cmp op_in_seq o_in (d_ix (dv 1) d_int) (d_lst (da_cons d_str (da_cons d_str (da_cons d_str da_nil)))))) (fun _ _ _ _ _ => (d_op op_add o_add d_int (d_call (hj := hj_law_deep) h_law_deep hr (da_cons (d_ix (dv 1) (d_neg d_int)) da_nil))))) da_nil) (pk_cons d_int pk_nil))))
  refine Fd.ok (k := k) sc_law_deep (fun vs H Q E ⟨ds, r, a, b, c⟩ => ?_) (fun cdv A outer s H vs Q E hr ⟨ds, r, a, b, c⟩ => ⟨_, (hb cdv A outer s H E hr).nox, ?_⟩)
  · unfold law_deepS at b
    split at b
    · rw [a.length]
      rfl
    · cases b
  · unfold law_deepS at b
    split at b
    · rename_i r0
      obtain ⟨ns, hns, e⟩ := Option.map_eq_some_iff.mp b
      subst e
      obtain ⟨l, hl, hns2⟩ := Option.bind_eq_some_iff.mp hns
      obtain ⟨ld, hl1, hl2⟩ := Option.bind_eq_some_iff.mp hl
      obtain rfl := listO_some hl2
      cases a with
      | cons i1 a =>
        cases a
        refine ⟨[some r0, none], [.list l], .keep i1 (.skip .nil), ?_, fun vs1 H1 s1 j1 hl1' => ?_⟩
        · simp [fCons, fNil, hl1]
        cases j1 with
        | cons j1 j2 =>
          cases j2
          refine ⟨[none, none], .int 0, .skip (.skip .nil), rfl, fun v2 H2 s2 k2 => ?_⟩
          obtain rfl := k2.intI
          obtain ⟨a, xs, ev, hx, hd⟩ := (j1.mono s2).lstI
          subst ev
          have exs := asInts_ok hd hns2
          subst exs
          exact ⟨a, ns, 0, rfl, rfl, SqL.of hx, c _ H2 (s1.trans s2) (.int _)⟩
    · cases b
theorem okR_law_deep (B : Bs w K mg) (T : Tp w K mg) : ∀ n : Nat, Fc P w K mg base n "_law_deep" ["_law_rows"] (law_deep_R n)
  | 0 => by
    obtain ⟨fd, Fd⟩ := B.defs (d := d_law_deep) (mem_fn 76 rfl)
    replace Fd : FnP K "_law_deep" "_law_deep" s_law_deep [] (He.ga K "_law_deep") fd := Fd
    exact Fc.zero (B.glo (mem_fa 65 rfl)) Fd.kp (FunD.bindsN (ps := ["_law_rows"]) Fd fun _ _ _ _ _ _ us hl => match us, hl with | [_], _ => rfl)
  | n + 1 => ok_law_deep B T (okR_law_deep B T n)
end
end Arc
set_option Elab.async false
set_option linter.all false
set_option maxRecDepth 100000
set_option maxHeartbeats 4000000
namespace Arc
open PySem L2
theorem sc_written : FnScope ["program"] ["program"] (defScope s_written) := ⟨rfl, rfl, rfl, by decide +kernel, rfl, by decide +kernel, by decide +kernel⟩
def F_written : Rho → Option Out := (fRet (f2 gJoin (fC (.str "\n")) (f1 lines_of_G (fCons (fV 0) fNil))))
def written_G : List PyData → Option PyData := defG 1 1 F_written
theorem ok_written {P : Program} {w : World} {K : PySem.W.Frag} {mg : Str → Option Value} {base : Heap} (B : Bs w K mg) (T : Tp w K mg) (h_lines_of : Fc P w K mg base 9 "lines_of" ["rows"] lines_of_G) : Fc P w K mg base 10 "written" ["program"] written_G := by
  obtain ⟨fd, Fd⟩ := B.defs (d := d_written) (mem_fn 50 rfl)
  replace Fd : FnP K "written" "written" s_written [] (He.ga K "written") fd := Fd
  refine ⟨He.ga K "written", fd, fnD (k := 9) (N := ["program"]) Fd sc_written (fun cdv A outer s H E hr => ?_), B.glo (mem_fa 43 rfl), Fd.kp, FunD.bindsN (ps := ["program"]) Fd fun _ _ _ _ _ _ us hl => match us, hl with | [_], _ => rfl⟩
  exact (dss_one (ds_ret (d_join d_str (d_call h_lines_of hr (da_cons (dv 0) da_nil)))))
theorem sc_law_cut : FnScope ["_law_program_here", "_law_at", "_law_still", "_law_ends", "_law_one", "_law_two", "_law_three", "_law_four", "_law_leads", "_law_number"] ["_law_program_here", "_law_at"] (defScope s_law_cut) := ⟨rfl, rfl, rfl, by decide +kernel, rfl, by decide +kernel, by decide +kernel⟩
def F_law_cut : Rho → Option Out := (fSeq (fUnp [2, 3] (f1 drawn_G (fCons (fV 0) fNil))) (fSeq (fUnp [4, 5] (f1 drawn_G (fCons (fSl (fV 0) (fun _ => some none) (f1 gI (fV 1))) fNil))) (fSeq (fUnp [6, 7] (f1 drawn_G (fCons (fSl (fV 0) (f1 gI (fV 1)) (fun _ => some none)) fNil))) (fSeq (fSet 8 (f1 move_G (fCons (fSl (fV 0) (fun _ => some none) (f1 gI (fV 1))) fNil))) (fSeq (fSet 9 (f1 law_numbers_G (fCons (fSl (fV 0) (fun _ => some none) (f1 gI (fV 1))) fNil))) (fSeq (fIf (fOr (f1 gB (f2 gNe (fV 2) (f2 gCatL (fV 4) (f1 law_led_on_G (fCons (fV 8) (fCons (fV 9) (fCons (fV 6) fNil))))))) (f1 gB (f2 gNe (fV 3) (f2 gCatL (fV 5) (f1 law_led_ends_G (fCons (fV 8) (fCons (fV 9) (fCons (fV 7) fNil)))))))) (fRet (fC (.bool false))) fNext) (fRet (f2 gEq (f1 move_G (fCons (fV 0) fNil)) (f1 behind_G (fCons (fV 8) (fCons (f1 move_G (fCons (fSl (fV 0) (f1 gI (fV 1)) (fun _ => some none)) fNil)) fNil)))))))))))
def law_cut_G : List PyData → Option PyData := defG 2 10 F_law_cut
theorem ok_law_cut {P : Program} {w : World} {K : PySem.W.Frag} {mg : Str → Option Value} {base : Heap} (B : Bs w K mg) (T : Tp w K mg) (h_move : Fc P w K mg base 24 "move" ["rows"] move_G) (h_behind : Fc P w K mg base 6 "behind" ["one", "other"] behind_G) (h_law_led_on : Fc P w K mg base 7 "_law_led_on" ["_law_frame", "_law_number", "_law_some"] law_led_on_G) (h_law_led_ends : Fc P w K mg base 8 "_law_led_ends" ["_law_frame", "_law_number", "_law_ends"] law_led_ends_G) (h_law_numbers : Fc P w K mg base 8 "_law_numbers" ["_law_rows"] law_numbers_G) (h_drawn : Fc P w K mg base 51 "drawn" ["program"] drawn_G) : Fc P w K mg base 52 "_law_cut" ["_law_program_here", "_law_at"] law_cut_G := by
  obtain ⟨fd, Fd⟩ := B.defs (d := d_law_cut) (mem_fn 75 rfl)
  replace Fd : FnP K "_law_cut" "_law_cut" s_law_cut [] (He.ga K "_law_cut") fd := Fd
  refine ⟨He.ga K "_law_cut", fd, fnD (k := 51) (N := ["_law_program_here", "_law_at", "_law_still", "_law_ends", "_law_one", "_law_two", "_law_three", "_law_four", "_law_leads", "_law_number"]) Fd sc_law_cut (fun cdv A outer s H E hr => ?_), B.glo (mem_fa 64 rfl), Fd.kp, FunD.bindsN (ps := ["_law_program_here", "_law_at"]) Fd fun _ _ _ _ _ _ us hl => match us, hl with | [_, _], _ => rfl⟩
  exact (dss_cons (ds_unp (is := [2, 3]) (pg_tup rfl (pgs_cons (pg_name (i := 2) sc_law_cut.nd rfl (Or.inl rfl)) (pgs_cons (pg_name (i := 3) sc_law_cut.nd rfl (Or.inl rfl)) pgs_nil))) (d_call h_drawn hr (da_cons (dv 0) da_nil))) (dss_cons (ds_unp (is := [4, 5]) (pg_tup rfl (pgs_cons (pg_name (i := 4) sc_law_cut.nd rfl (Or.inl rfl)) (pgs_cons (pg_name (i := 5) sc_law_cut.nd rfl (Or.inl rfl)) pgs_nil))) (d_call h_drawn hr (da_cons (d_sl (dv 0) do_none (do_some (dv 1))) da_nil))) (dss_cons (ds_unp (is := [6, 7]) (pg_tup rfl (pgs_cons (pg_name (i := 6) sc_law_cut.nd rfl (Or.inl rfl)) (pgs_cons (pg_name (i := 7) sc_law_cut.nd rfl (Or.inl rfl)) pgs_nil))) (d_call h_drawn hr (da_cons (d_sl (dv 0) (do_some (dv 1)) do_none) da_nil))) (dss_cons (ds_set (i := 8) sc_law_cut.nd (d_call h_move hr (da_cons (d_sl (dv 0) do_none (do_some (dv 1))) da_nil))) (dss_cons (ds_set (i := 9) sc_law_cut.nd (d_call h_law_numbers hr (da_cons (d_sl (dv 0) do_none (do_some (dv 1))) da_nil))) (dss_cons (ds_if (PW.pt (dw_or (dt_cmp (op_neD hr.units) o_ne (dv 2) (d_op op_cat o_catL (dv 4) (d_call h_law_led_on hr (da_cons (dv 8) (da_cons (dv 9) (da_cons (dv 6) da_nil)))))) (dw_or1 (dt_cmp (op_neD hr.units) o_ne (dv 3) (d_op op_cat o_catL (dv 5) (d_call h_law_led_ends hr (da_cons (dv 8) (da_cons (dv 9) (da_cons (dv 7) da_nil))))))))) (dss_one (ds_ret d_bl)) dss_nil) (dss_one (ds_ret (d_cmp (op_eqD hr.units) o_eq (d_call h_move hr (da_cons (dv 0) da_nil)) (d_call h_behind hr (da_cons (dv 8) (da_cons (d_call h_move hr (da_cons (d_sl (dv 0) (do_some (dv 1)) do_none) da_nil)) da_nil))))))))))))
end Arc
set_option Elab.async false
set_option linter.all false
set_option maxRecDepth 100000
set_option maxHeartbeats 4000000
namespace Arc
open PySem L2
def restF : Rho → Option Out := (fSeq (fUnp [3, 4] (f1 drawn_G (fCons (fV 1) fNil))) (fSeq (fIf (f1 gB (f2 gNe (f1 drawn_G (fCons (f1 read_G (fCons (f1 written_G (fCons (fV 1) fNil)) fNil)) fNil)) (f1 gTu (fCons (fV 3) (fCons (fV 4) fNil))))) (fRet (fC (.bool false))) fNext) (fSeq (fSet 5 (f1 gTu (fCons (f1 gTu (fCons (fC (.str "dot")) (fCons (f1 led_G (fCons (f1 move_G (fCons (fV 1) fNil)) (fCons (f1 gTu (fCons (f1 gTu (fCons (fC (.int 0)) (fCons (fC (.int 1)) fNil))) (fCons (f1 gTu (fCons (fC (.int 0)) (fCons (fC (.int 1)) fNil))) fNil))) fNil))) fNil))) (fCons (f1 law_numbers_G (fCons (fV 1) fNil)) (fCons (f1 gTu fNil) fNil))))) (fSeq (fIf (fAnd (f1 gB (f2 gLt (f1 law_done_G (fCons (fV 1) fNil)) (fC (.int 300)))) (f1 gB (f2 gNe (f1 drawn_G (fCons (f2 gCatT (fV 1) (f1 gTu (fCons (f1 gTu (fCons (fC (.str "dot")) fNil)) fNil))) fNil)) (f1 gTu (fCons (f2 gCatL (fV 3) (f1 gLs (fCons (fV 5) fNil))) (fCons (fV 4) fNil)))))) (fRet (fC (.bool false))) fNext) (fSeq (fIf (f1 gB (f2 gLt (f1 law_deep_G (fCons (fV 1) fNil)) (fC (.int 4)))) (fSeq (fSet 6 (f1 gTu (fCons (f1 law_led_on_G (fCons (f1 first_G fNil) (fCons (fC (.int 1)) (fCons (fV 3) fNil)))) (fCons (f1 law_led_ends_G (fCons (f1 first_G fNil) (fCons (fC (.int 1)) (fCons (fV 4) fNil)))) fNil)))) (fRet (fAndV (f2 gEq (f1 drawn_G (fCons (f1 gTu (fCons (f1 gTu (fCons (fC (.str "keep")) (fCons (fV 1) fNil))) fNil)) fNil)) (fV 6)) (f2 gEq (f1 move_G (fCons (f1 gTu (fCons (f1 gTu (fCons (fC (.str "keep")) (fCons (fV 1) fNil))) fNil)) fNil)) (f1 first_G fNil))))) fNext) (fRet (fC (.bool true))))))))
def lawStep (n : Nat) : Int := 1 + (n : Int) / 3
def lawLo (n : Nat) : Int := if 1 ≤ (n : Int) then 1 else n
abbrev lawN (n : Nat) : Int := Builtin.Range.rangeSize (lawLo n) ((n : Int) + 1) (lawStep n)
theorem law_range (n : Nat) (hn : n ≤ 300) : RgC (lawLo n) ((n : Int) + 1) (lawStep n) (lawN n).toNat ∧ ∀ k : Nat, k < (lawN n).toNat → 0 ≤ lawLo n + (k : Int) * lawStep n ∧ lawLo n + (k : Int) * lawStep n ≤ n := by
  have h : ∀ n : Nat, n < 301 → (lawStep n ≠ 0 ∧ (lawStep n).natAbs < 1073741824 ∧ Builtin.Range.small (lawLo n) ((n : Int) + 1) (lawStep n) = true ∧ 0 ≤ lawN n) ∧
      ∀ k : Nat, k < (lawN n).toNat → 0 ≤ lawLo n + (k : Int) * lawStep n ∧ lawLo n + (k : Int) * lawStep n ≤ n := by decide +kernel
  obtain ⟨⟨a, b, c, e⟩, d⟩ := h n (by omega)
  exact ⟨⟨a, b, c, by rw [Int.toNat_of_nonneg e]⟩, d⟩
/-- what the law asks of its cells, on data -/
structure LawOk (ns : List Int) : Prop where
  ex : ∃ rows, law_program_G [.list ((ns.take 16).map .int)] = some (.tuple rows) ∧ rows.length ≤ 300 ∧ (∀ at_ : Nat, at_ ≤ rows.length → law_cut_G [.tuple rows, .int at_] = some (.bool true)) ∧
    restF [none, some (.tuple rows), none, none, none, none, none] = some (.ret (.bool true))
section
variable {P : Program} {w : World} {K : PySem.W.Frag} {mg : Str → Option Value} {base : Heap}
theorem sqL_mono {H H' : Hp} {a : Addr} {xs : List V} (e : Same H H') (h : SqL K H a xs) : SqL K H' a xs := by
  rcases h with (h | ⟨o, h⟩) | h
  · exact .inl (.inl (e _ _ h))
  · exact .inl (.inr ⟨o, e _ _ h⟩)
  · exact .inr h
theorem cut16 (ns : List Int) : cutV (ns.map V.int) none (some 16) = (ns.take 16).map V.int := by
  unfold cutV
  simp [HT.sIx]
theorem sc_law : FnScope ["_law_script", "_law_program_here", "_law_at", "_law_still", "_law_ends", "_law_dot", "_law_within"] ["_law_script"] (defScope s_law) := ⟨rfl, rfl, rfl, by decide +kernel, rfl, by decide +kernel, by decide +kernel⟩
theorem ok_law (B : Bs w K mg) (T : Tp w K mg) (h_law_program : Fc P w K mg base 13 "_law_program" ["_law_cells"] law_program_G) (h_law_cut : Fc P w K mg base 52 "_law_cut" ["_law_program_here", "_law_at"] law_cut_G) (h_law_deep : Fc P w K mg base 8 "_law_deep" ["_law_rows"] law_deep_G) (h_drawn : Fc P w K mg base 51 "drawn" ["program"] drawn_G) (h_move : Fc P w K mg base 24 "move" ["rows"] move_G) (h_first : Fc P w K mg base 1 "first" [] first_G) (h_law_led_ends : Fc P w K mg base 8 "_law_led_ends" ["_law_frame", "_law_number", "_law_ends"] law_led_ends_G) (h_law_led_on : Fc P w K mg base 7 "_law_led_on" ["_law_frame", "_law_number", "_law_some"] law_led_on_G) (h_law_done : Fc P w K mg base 8 "_law_done" ["_law_rows"] law_done_G) (h_law_numbers : Fc P w K mg base 8 "_law_numbers" ["_law_rows"] law_numbers_G) (h_led : Fc P w K mg base 5 "led" ["frame", "p"] led_G) (h_written : Fc P w K mg base 10 "written" ["program"] written_G) (h_read : Fc P w K mg base 35 "read" ["text"] read_G) {fd : FuncData} (Fd : FnP K "law" "law" s_law [] (He.ga K "law") fd) :
    FnOk P w K mg base CX0 53 (He.ga K "law") fd ["_law_script"] (fun vs H Q _ => ∃ (a : Addr) (ns : List Int), vs = [.ref a] ∧ SqL K H a (ns.map V.int) ∧ LawOk ns ∧ ∀ H', Q (.bl true) H') := by
  have hj_law_program : 13 ≤ 52 := by decide
  have hj_law_cut : 52 ≤ 52 := by decide
  refine Fd.ok (k := 52) sc_law (fun vs H Q E h => ?_) (fun cdv A outer s H vs Q E hr h => ⟨_, PSs.nox (pss_cons (ps_set (i := 1) sc_law.nd rfl (Or.inl rfl) (pe_callF (hj := hj_law_program) h_law_program hr (pa_cons (pe_slice sl_list (pv 0) do_none (do_some d_int)) pa_nil))) (pss_cons (ps_for PassesOwn.never rfl (pi_range3 rfl T.z_range (da_cons (d_bi (call_min2 rfl) c_min T.z_min b_min (da_cons d_int (da_cons (d_bi call_len c_len T.z_len b_len (da_cons (dv 1) da_nil)) da_nil))) (da_cons (d_op op_add o_add (d_bi call_len c_len T.z_len b_len (da_cons (dv 1) da_nil)) d_int) (da_cons (d_op op_add o_add d_int (d_op op_fdivW o_div (d_bi call_len c_len T.z_len b_len (da_cons (dv 1) da_nil)) d_int)) da_nil)))) (pg_name (i := 2) sc_law.nd rfl (Or.inl rfl)) (pss_one (ps_if (dt_not (dt_val (d_call h_law_cut hr (da_cons (dv 1) (da_cons (dv 2) da_nil))))) (pss_one (ps_ret d_bl)) pss_nil))) (dss_cons (ds_unp (is := [3, 4]) (pg_tup rfl (pgs_cons (pg_name (i := 3) sc_law.nd rfl (Or.inl rfl)) (pgs_cons (pg_name (i := 4) sc_law.nd rfl (Or.inl rfl)) pgs_nil))) (d_call h_drawn hr (da_cons (dv 1) da_nil))) (dss_cons (ds_if (dt_cmp (op_neD hr.units) o_ne (d_call h_drawn hr (da_cons (d_call h_read hr (da_cons (d_call h_written hr (da_cons (dv 1) da_nil)) da_nil)) da_nil)) (d_tup (da_cons (dv 3) (da_cons (dv 4) da_nil)))) (dss_one (ds_ret d_bl)) dss_nil) (dss_cons (ds_set (i := 5) sc_law.nd (d_tup (da_cons (d_tup (da_cons d_str (da_cons (d_call h_led hr (da_cons (d_call h_move hr (da_cons (dv 1) da_nil)) (da_cons (d_tup (da_cons (d_tup (da_cons d_int (da_cons d_int da_nil))) (da_cons (d_tup (da_cons d_int (da_cons d_int da_nil))) da_nil))) da_nil))) da_nil))) (da_cons (d_call h_law_numbers hr (da_cons (dv 1) da_nil)) (da_cons (d_tup da_nil) da_nil))))) (dss_cons (ds_if (PW.pt (dw_and (dt_cmp op_lt o_lt (d_call h_law_done hr (da_cons (dv 1) da_nil)) d_int) (dw_and1 (dt_cmp (op_neD hr.units) o_ne (d_call h_drawn hr (da_cons (d_op op_catA o_catT (dv 1) (d_tup (da_cons (d_tup (da_cons d_str da_nil)) da_nil))) da_nil)) (d_tup (da_cons (d_op op_cat o_catL (dv 3) (d_lst (da_cons (dv 5) da_nil))) (da_cons (dv 4) da_nil))))))) (dss_one (ds_ret d_bl)) dss_nil) (dss_cons (ds_if (dt_cmp op_lt o_lt (d_call h_law_deep hr (da_cons (dv 1) da_nil)) d_int) (dss_cons (ds_set (i := 6) sc_law.nd (d_tup (da_cons (d_call h_law_led_on hr (da_cons (d_call0 h_first hr) (da_cons d_int (da_cons (dv 3) da_nil)))) (da_cons (d_call h_law_led_ends hr (da_cons (d_call0 h_first hr) (da_cons d_int (da_cons (dv 4) da_nil)))) da_nil)))) (dss_one (ds_ret (d_and (d_cmp (op_eqD hr.units) o_eq (d_call h_drawn hr (da_cons (d_tup (da_cons (d_tup (da_cons d_str (da_cons (dv 1) da_nil))) da_nil)) da_nil)) (dv 6)) (d_one (d_cmp (op_eqD hr.units) o_eq (d_call h_move hr (da_cons (d_tup (da_cons (d_tup (da_cons d_str (da_cons (dv 1) da_nil))) da_nil)) da_nil)) (d_call0 h_first hr))))))) dss_nil) (dss_one (ds_ret d_bl))))))))), ?_⟩)
  · obtain ⟨a, ns, rfl, _⟩ := h
    rfl
  · obtain ⟨a, ns, rfl, hs, ⟨rows, hp, hlen, hcut, hrest⟩, q⟩ := h
    have eoN : ∀ (H1 : Hp) (o0 o1 o2 o3 o4 o5 o6 : Option V), EO K H1 [o0, o1, o2, o3, o4, o5, o6] [none, none, none, none, none, none, none] := fun _ _ _ _ _ _ _ _ => .skip (.skip (.skip (.skip (.skip (.skip (.skip .nil))))))
    refine ⟨_, rfl, _, none, eoN _ _ _ _ _ _ _ _, rfl, fun H1 s1 => ⟨_, some 16, eoN _ _ _ _ _ _ _ _, rfl, fun H2 s2 => ⟨a, ns.map V.int, rfl, ?_, fun p np => ?_⟩⟩⟩
    · exact sqL_mono (s1.trans s2) hs
    rw [cut16]
    refine ⟨[.list ((ns.take 16).map .int)], .tuple rows, .one (.lst upd_same (is_ints _)), hp, fun pv H3 s3 i3 => ?_⟩
    have eoP : ∀ (H4 : Hp) (o2 : Option V), Same H3 H4 → EO K H4 [some (.ref a), some pv, o2, none, none, none, none] [none, some (.tuple rows), none, none, none, none, none] := fun H4 o2 s4 => .skip (.keep (i3.mono s4) (.skip (.skip (.skip (.skip (.skip .nil))))))
    refine ⟨_, [.int (lawLo rows.length), .int ((rows.length : Int) + 1), .int (lawStep rows.length)], eoP H3 none (Same.refl H3), ?_, fun vs4 H4 s4 i4 hl4 => ?_⟩
    · have c3 : CDivW (rows.length : Int) 3 := ⟨by decide, by decide⟩
      simp [f1, f2, fV, fC, fCons, fNil, on1, on2, gLen, gMin, gAdd, gDiv, c3, lawStep, lawLo]
      omega
    cases i4 with
    | cons k1 i4 =>
      cases i4 with
      | cons k2 i4 =>
        cases i4 with
        | cons k3 i4 =>
          cases i4
          obtain rfl := k1.intI
          obtain rfl := k2.intI
          obtain rfl := k3.intI
          obtain ⟨hr1, hr2⟩ := law_range rows.length hlen
          refine ⟨_, _, _, (lawN rows.length).toNat, rfl, hr1, for_rangeC (fun i σ' H' => ∃ o2, σ' = [some (.ref a), some pv, o2, none, none, none, none] ∧ Same H3 H') ⟨none, rfl, s4⟩ ?_ ?_⟩
          · rintro i σ' H' hi ⟨o2, rfl, s5⟩
            obtain ⟨h0, h1⟩ := hr2 i hi
            have hz : ((lawLo rows.length + (i : Int) * lawStep rows.length).toNat : Int) = lawLo rows.length + (i : Int) * lawStep rows.length := Int.toNat_of_nonneg h0
            have hc := hcut (lawLo rows.length + (i : Int) * lawStep rows.length).toNat (by omega)
            rw [hz] at hc
            refine ⟨[none, some (.tuple rows), some (.int (lawLo rows.length + (i : Int) * lawStep rows.length)), none, none, none, none], false, .skip (.keep (i3.mono s5) (.keep (.int _) (.skip (.skip (.skip (.skip .nil)))))), ?_, fun H6 s6 => iteF ⟨_, rfl, s5.trans s6⟩⟩
            simp [f1, fV, fCons, fNil, hc, gB, gNot]
          · rintro σ' H' ⟨o2, rfl, s5⟩
            refine ⟨_, .ret (.bool true), eoP H' o2 s5, hrest, fun v H6 s6 i6 => ?_⟩
            obtain rfl := i6.blI
            exact q H6
theorem law_def (B : Bs w K mg) : ∃ fd : FuncData, FnP K "law" "law" s_law [] (He.ga K "law") fd ∧ mg "law" = some (.ref (He.ga K "law")) := by
  obtain ⟨fd, Fd⟩ := B.defs (d := d_law) (mem_fn 77 rfl)
  exact ⟨fd, Fd, B.glo (mem_fa 66 rfl)⟩
end
end Arc
set_option Elab.async false
set_option linter.all false
set_option maxRecDepth 100000
set_option maxHeartbeats 1000000
namespace Arc
open PySem L2
/-! ## the mathematics: fractions -/
def fr (r : Rat) : PyData := .tuple [.int r.num, .int r.den]
/-- the sizes that the model's arithmetic bears -/
structure Sm (r : Rat) : Prop where
  d : r.den.log2 < 4499
  n : r.num.natAbs.log2 < 100000
theorem divisor_loop : ∀ (n x y : Nat), y < n → fWhile (f1 gB (f2 gGt (fV 1) (fC (.int 0)))) (fPar 0 1 (fCons (fV 1) (fCons (f2 gMod (fV 0) (fV 1)) fNil))) n [some (.int x), some (.int y)] = some (.nxt [some (.int (Nat.gcd x y)), some (.int 0)])
  | 0, _, _, h => absurd h (Nat.not_lt_zero _)
  | n + 1, x, y, h => by
    by_cases hy : y = 0
    · subst hy
      simp [fWhile, f1, f2, fV, fC, fCons, fNil, fSeq, fSet, fRet, fIf, fNext, fNever, fAnd, fOr, fAndV, fOrV, fUnp, fPar, fSl, fChain, tgF, tgN, gTu, gLs, startR, defG, outV, on1, on2, gB, gNot, gNotV, gI, gGt]
    · have hp : (0 : Int) < (y : Int) := by omega
      have ih := divisor_loop n y (x % y) (by have := Nat.mod_lt x (Nat.pos_of_ne_zero hy); omega)
      have eg : Nat.gcd y (x % y) = Nat.gcd x y := by rw [Nat.gcd_comm x y, Nat.gcd_rec y x, Nat.gcd_comm]
      rw [eg] at ih
      have e2 : (x : Int) % (y : Int) = ((x % y : Nat) : Int) := by simp
      have hF : fPar 0 1 (fCons (fV 1) (fCons (f2 gMod (fV 0) (fV 1)) fNil)) [some (.int x), some (.int y)] = some (.nxt [some (.int y), some (.int ((x % y : Nat) : Int))]) := by
        have hm : gMod (.int x) (.int y) = some (.int ((x % y : Nat) : Int)) := by
          show (if (0 : Int) < (y : Int) then some (PyData.int ((x : Int) % (y : Int))) else none) = _
          rw [if_pos hp, e2]
        show (((gMod (.int x) (.int y)).bind fun b => (some []).bind fun l => some (b :: l)).bind fun l => some (PyData.int y :: l)).bind _ = _
        rw [hm]
        rfl
      have hc : f1 gB (f2 gGt (fV 1) (fC (.int 0))) [some (.int x), some (.int y)] = some true := by
        show some (decide ((0 : Int) < (y : Int))) = _
        rw [decide_eq_true hp]
      show (f1 gB (f2 gGt (fV 1) (fC (.int 0))) [some (.int x), some (.int y)]).bind _ = _
      rw [hc]
      show (fPar 0 1 (fCons (fV 1) (fCons (f2 gMod (fV 0) (fV 1)) fNil)) [some (.int x), some (.int y)]).bind _ = _
      rw [hF]
      exact ih
theorem abs_nat (a : Int) : (if a < 0 then -a else a) = (a.natAbs : Int) := by
  split <;> omega
theorem divisor_ev (a b : Int) : divisor_G [.int a, .int b] = some (.int (Int.gcd a b)) := by
  have h := divisor_loop (b.natAbs + 1) a.natAbs b.natAbs (Nat.lt_succ_self _)
  have e : divisor_G [.int a, .int b] = outV (fSeq (fLoop (nfI 1) (f1 gB (f2 gGt (fV 1) (fC (.int 0)))) (fPar 0 1 (fCons (fV 1) (fCons (f2 gMod (fV 0) (fV 1)) fNil)))) (fRet (fV 0)) [some (.int (if a < 0 then -a else a)), some (.int (if b < 0 then -b else b))]) := rfl
  rw [e, abs_nat, abs_nat]
  unfold fSeq fLoop
  have en : nfI 1 [some (.int (a.natAbs : Int)), some (.int (b.natAbs : Int))] = b.natAbs + 1 := rfl
  rw [en, h]
  rfl
theorem ratio_ev (t : Int) (b : Nat) (hb : 0 < b) (hs : b.log2 < 9000) : ratio_G [.int t, .int b] = some (fr (mkRat t b)) := by
  have hg : 0 < Int.gcd t b := Int.gcd_pos_of_ne_zero_right t (by omega)
  have hgb : Int.gcd t b ≤ b := Nat.le_of_dvd hb (by have := Int.gcd_dvd_right t b; omega)
  have hgl : (Int.gcd t b).log2 < 9000 := by
    have : (Int.gcd t b).log2 ≤ b.log2 := by
      rw [Nat.le_log2 (by omega)]
      exact Nat.le_trans (Nat.log2_self_le (by omega)) hgb
    omega
  have cd : ∀ i : Int, CDivW i (Int.gcd t b) := fun i => ⟨by omega, by simpa using hgl⟩
  have e1 : gEq (.int (b : Int)) (.int 0) = some (.bool false) := by
    rw [gEq_int, decide_eq_false (by omega)]
  have e2 : decide ((b : Int) < 0) = false := decide_eq_false (by omega)
  simp only [ratio_G, F_ratio]
  simp [f1, f2, fV, fC, fCons, fNil, fSeq, fSet, fRet, fIf, fNext, fNever, fAnd, fOr, fAndV, fOrV, fUnp, fPar, fSl, fChain, tgF, tgN, gTu, gLs, startR, defG, outV, on1, on2, gB, gNot, gNotV, gI, e1, divisor_ev, gLt, e2, gDiv, cd, fr]
  rw [Rat.num_mkRat, Rat.den_mkRat, if_neg (by omega), if_neg (by omega)]
  have eg : Int.gcd t b = b.gcd t.natAbs := by
    rw [Int.gcd, Nat.gcd_comm]
    simp
  rw [eg]
  simp
theorem log2_mul_lt {a b k m : Nat} (ha : a.log2 < k) (hb : b.log2 < m) : (a * b).log2 < k + m := by
  by_cases h : a * b = 0
  · rw [h]
    simp
    omega
  · have h1 : a ≠ 0 := fun z => h (by rw [z]; simp)
    have h2 : b ≠ 0 := fun z => h (by rw [z]; simp)
    rw [Nat.log2_lt h]
    rw [Nat.log2_lt h1] at ha
    rw [Nat.log2_lt h2] at hb
    rw [Nat.pow_add]
    exact Nat.mul_lt_mul'' ha hb
theorem Sm.dd {x y : Rat} (hx : Sm x) (hy : Sm y) : (x.den * y.den).log2 < 9000 := by
  have := log2_mul_lt hx.d hy.d
  omega
theorem plus_ev {x y : Rat} (hx : Sm x) (hy : Sm y) : plus_G [fr x, fr y] = some (fr (x + y)) := by
  have c1 : CMulW x.num y.den := by
    have := hx.n; have := hy.d; unfold CMulW; simp; omega
  have c2 : CMulW y.num x.den := by
    have := hy.n; have := hx.d; unfold CMulW; simp; omega
  have c3 : CMulW x.den y.den := by
    have := hx.d; have := hy.d; unfold CMulW; simp; omega
  have h := ratio_ev (x.num * y.den + y.num * x.den) (x.den * y.den) (Nat.mul_pos x.den_pos y.den_pos) (hx.dd hy)
  rw [← Rat.add_def'] at h
  simp only [plus_G, F_plus]
  simp [f1, f2, fV, fC, fCons, fNil, fSeq, fSet, fRet, fIf, fNext, fNever, fAnd, fOr, fAndV, fOrV, fUnp, fPar, fSl, fChain, tgF, tgN, gTu, gLs, startR, defG, outV, on1, on2, gB, gNot, gNotV, gI, fr, gIx, atI, ixN, gMul, gAdd, c1, c2, c3] at h ⊢
  rw [h]
  rfl
theorem minus_ev {x y : Rat} (hx : Sm x) (hy : Sm y) : minus_G [fr x, fr y] = some (fr (x - y)) := by
  have c1 : CMulW x.num y.den := by
    have := hx.n; have := hy.d; unfold CMulW; simp; omega
  have c2 : CMulW y.num x.den := by
    have := hy.n; have := hx.d; unfold CMulW; simp; omega
  have c3 : CMulW x.den y.den := by
    have := hx.d; have := hy.d; unfold CMulW; simp; omega
  have h := ratio_ev (x.num * y.den - y.num * x.den) (x.den * y.den) (Nat.mul_pos x.den_pos y.den_pos) (hx.dd hy)
  rw [← Rat.sub_def'] at h
  simp only [minus_G, F_minus]
  simp [f1, f2, fV, fC, fCons, fNil, fSeq, fSet, fRet, fIf, fNext, fNever, fAnd, fOr, fAndV, fOrV, fUnp, fPar, fSl, fChain, tgF, tgN, gTu, gLs, startR, defG, outV, on1, on2, gB, gNot, gNotV, gI, fr, gIx, atI, ixN, gMul, gSub, c1, c2, c3] at h ⊢
  rw [h]
  rfl
theorem times_ev {x y : Rat} (hx : Sm x) (hy : Sm y) : times_G [fr x, fr y] = some (fr (x * y)) := by
  have c1 : CMulW x.num y.num := by
    have := hx.n; have := hy.n; unfold CMulW; omega
  have c3 : CMulW x.den y.den := by
    have := hx.d; have := hy.d; unfold CMulW; simp; omega
  have h := ratio_ev (x.num * y.num) (x.den * y.den) (Nat.mul_pos x.den_pos y.den_pos) (hx.dd hy)
  rw [← Rat.mul_def'] at h
  simp only [times_G, F_times]
  simp [f1, f2, fV, fC, fCons, fNil, fSeq, fSet, fRet, fIf, fNext, fNever, fAnd, fOr, fAndV, fOrV, fUnp, fPar, fSl, fChain, tgF, tgN, gTu, gLs, startR, defG, outV, on1, on2, gB, gNot, gNotV, gI, fr, gIx, atI, ixN, gMul, c1, c3] at h ⊢
  rw [h]
  rfl
/-- 1 over y; y's own sizes the other way round -/
theorem over_ev {y : Rat} (hp : 0 < y) (hn : y.num.natAbs.log2 < 4499) (hd : y.den.log2 < 100000) : over_G [fr 1, fr y] = some (fr y⁻¹) := by
  have hnum : 0 < y.num := by
    have h1 : 0 ≤ y.num := Rat.num_nonneg.mpr (Rat.le_of_lt hp)
    have h2 : y.num ≠ 0 := fun z => Rat.ne_of_gt hp (Rat.num_eq_zero.mp z)
    omega
  have l1 : Nat.log2 1 = 0 := by decide +kernel
  have c1 : CMulW 1 y.den := by
    unfold CMulW; simp; omega
  have c3 : CMulW 1 y.num := by
    unfold CMulW; simp; omega
  have en : ((y.num.natAbs : Nat) : Int) = y.num := by omega
  have h := ratio_ev (y.den : Int) y.num.natAbs (by omega) (by omega)
  rw [en] at h
  have ei : mkRat (y.den : Int) y.num.natAbs = y⁻¹ := by rw [Rat.inv_def, ← Rat.divInt_ofNat, en]
  rw [ei] at h
  simp only [over_G, F_over]
  simp [f1, f2, fV, fC, fCons, fNil, fSeq, fSet, fRet, fIf, fNext, fNever, fAnd, fOr, fAndV, fOrV, fUnp, fPar, fSl, fChain, tgF, tgN, gTu, gLs, startR, defG, outV, on1, on2, gB, gNot, gNotV, gI, fr, gIx, atI, ixN, gMul, c1, c3] at h ⊢
  rw [h]
  rfl
theorem below_ev {x y : Rat} (hx : Sm x) (hy : Sm y) : below_G [fr x, fr y] = some (.bool (decide (x < y))) := by
  have c1 : CMulW x.num y.den := by
    have := hx.n; have := hy.d; unfold CMulW; simp; omega
  have c2 : CMulW y.num x.den := by
    have := hy.n; have := hx.d; unfold CMulW; simp; omega
  simp only [below_G, F_below]
  simp [f1, f2, fV, fC, fCons, fNil, fSeq, fSet, fRet, fIf, fNext, fNever, fAnd, fOr, fAndV, fOrV, fUnp, fPar, fSl, fChain, tgF, tgN, gTu, gLs, startR, defG, outV, on1, on2, gB, gNot, gNotV, gI, fr, gIx, atI, ixN, gMul, gLt, c1, c2, Rat.lt_iff]
end Arc
set_option Elab.async false
set_option linter.all false
set_option maxRecDepth 100000
set_option maxHeartbeats 1000000
namespace Arc
open PySem L2
/-! ## frames -/
abbrev Pt := Rat × Rat
structure Fm where
  x : Rat
  y : Rat
  t : _root_.Fin 4
  neg : Bool
  s : Rat
def turn : _root_.Fin 4 → Pt → Pt
  | 0, p => p
  | 1, p => (-p.2, p.1)
  | 2, p => (-p.1, -p.2)
  | 3, p => (p.2, -p.1)
def flp (n : Bool) (p : Pt) : Pt := if n = true then (p.1, -p.2) else p
def rot (F : Fm) (p : Pt) : Pt := turn F.t (flp F.neg p)
def ledF (F : Fm) (p : Pt) : Pt := ((rot F p).1 * F.s + F.x, (rot F p).2 * F.s + F.y)
def addT (n : Bool) (a b : _root_.Fin 4) : _root_.Fin 4 := if n = true then a - b else a + b
def beh (F G : Fm) : Fm := ⟨(ledF F (G.x, G.y)).1, (ledF F (G.x, G.y)).2, addT F.neg F.t G.t, F.neg ^^ G.neg, F.s * G.s⟩
def invR (F : Fm) : Fm := ⟨0, 0, if F.neg = true then F.t else 0 - F.t, F.neg, F.s⁻¹⟩
def und (F : Fm) : Fm := ⟨0 - (ledF (invR F) (F.x, F.y)).1, 0 - (ledF (invR F) (F.x, F.y)).2, (invR F).t, F.neg, F.s⁻¹⟩
def fst0 : Fm := ⟨0, 0, 0, false, 1⟩
theorem turn_turn : ∀ (a b : _root_.Fin 4) (p : Pt), turn a (turn b p) = turn (a + b) p := by
  intro a b p
  match a, b with
  | 0, 0 => rfl
  | 0, 1 => rfl
  | 0, 2 => rfl
  | 0, 3 => rfl
  | 1, 0 => rfl
  | 1, 1 => rfl
  | 1, 2 => simp [turn, Rat.neg_neg]
  | 1, 3 => simp [turn, Rat.neg_neg]
  | 2, 0 => rfl
  | 2, 1 => simp [turn, Rat.neg_neg]
  | 2, 2 => simp [turn, Rat.neg_neg]
  | 2, 3 => simp [turn, Rat.neg_neg]
  | 3, 0 => rfl
  | 3, 1 => simp [turn, Rat.neg_neg]
  | 3, 2 => simp [turn, Rat.neg_neg]
  | 3, 3 => simp [turn, Rat.neg_neg]
theorem flp_turn (b : _root_.Fin 4) (p : Pt) : flp true (turn b p) = turn (0 - b) (flp true p) := by
  match b with
  | 0 => rfl
  | 1 => simp [turn, flp, Rat.neg_neg]
  | 2 => simp [turn, flp, Rat.neg_neg]
  | 3 => simp [turn, flp, Rat.neg_neg]
theorem flp_flp (a b : Bool) (p : Pt) : flp a (flp b p) = flp (a ^^ b) p := by
  cases a <;> cases b <;> simp [flp, Rat.neg_neg]
theorem turn_lin (t : _root_.Fin 4) (p q : Pt) (s : Rat) : turn t (p.1 * s + q.1, p.2 * s + q.2) = ((turn t p).1 * s + (turn t q).1, (turn t p).2 * s + (turn t q).2) := by
  match t with
  | 0 => rfl
  | 1 => simp only [turn]; congr 1; grind
  | 2 => simp only [turn]; congr 1 <;> grind
  | 3 => simp only [turn]; congr 1; grind
theorem flp_lin (n : Bool) (p q : Pt) (s : Rat) : flp n (p.1 * s + q.1, p.2 * s + q.2) = ((flp n p).1 * s + (flp n q).1, (flp n p).2 * s + (flp n q).2) := by
  cases n
  · rfl
  · simp only [flp, if_true]
    congr 1
    grind
theorem rot_lin (F : Fm) (p q : Pt) (s : Rat) : rot F (p.1 * s + q.1, p.2 * s + q.2) = ((rot F p).1 * s + (rot F q).1, (rot F p).2 * s + (rot F q).2) := by
  unfold rot
  rw [flp_lin, turn_lin]
theorem rot_beh (F G : Fm) (p : Pt) : rot (beh F G) p = rot F (rot G p) := by
  unfold rot beh addT
  cases F.neg
  · simp only [Bool.false_eq_true, if_false]
    rw [← turn_turn]
    congr 1
    cases G.neg <;> rfl
  · simp only [if_true]
    rw [flp_turn, turn_turn, flp_flp]
    congr 1
    grind
theorem led_beh (F G : Fm) (p : Pt) : ledF (beh F G) p = ledF F (ledF G p) := by
  unfold ledF
  rw [rot_beh]
  have h := rot_lin F (rot G p) (G.x, G.y) G.s
  rw [h]
  show ((rot F (rot G p)).1 * (F.s * G.s) + ((rot F (G.x, G.y)).1 * F.s + F.x), _) = _
  show (_, (rot F (rot G p)).2 * (F.s * G.s) + ((rot F (G.x, G.y)).2 * F.s + F.y)) = _
  congr 1 <;> grind
theorem addT_assoc (m n : Bool) (a b c : _root_.Fin 4) : addT (m ^^ n) (addT m a b) c = addT m a (addT n b c) := by
  revert m n a b c
  decide
theorem beh_assoc (F G K : Fm) : beh (beh F G) K = beh F (beh G K) := by
  have h := led_beh F G (K.x, K.y)
  show Fm.mk (ledF (beh F G) (K.x, K.y)).1 (ledF (beh F G) (K.x, K.y)).2 (addT (F.neg ^^ G.neg) (addT F.neg F.t G.t) K.t) ((F.neg ^^ G.neg) ^^ K.neg) (F.s * G.s * K.s) = _
  rw [h, addT_assoc, Bool.xor_assoc, Rat.mul_assoc]
  rfl
theorem turn_zero (t : _root_.Fin 4) : turn t (0, 0) = (0, 0) := by
  match t with
  | 0 => rfl
  | 1 => rfl
  | 2 => rfl
  | 3 => rfl
theorem rot_zero (F : Fm) : rot F (0, 0) = (0, 0) := by
  unfold rot
  have : flp F.neg (0, 0) = (0, 0) := by cases F.neg <;> rfl
  rw [this, turn_zero]
theorem led_zero (F : Fm) : ledF F (0, 0) = (F.x, F.y) := by
  unfold ledF
  rw [rot_zero]
  simp [Rat.zero_mul, Rat.zero_add]
theorem beh_first (F : Fm) : beh F fst0 = F := by
  unfold beh
  show Fm.mk (ledF F (0, 0)).1 (ledF F (0, 0)).2 (addT F.neg F.t 0) (F.neg ^^ false) (F.s * 1) = F
  rw [led_zero, Rat.mul_one, Bool.xor_false]
  have : addT F.neg F.t 0 = F.t := by
    generalize F.t = t
    cases F.neg <;> revert t <;> decide
  rw [this]
theorem rot_first (p : Pt) : rot fst0 p = p := rfl
theorem led_first (p : Pt) : ledF fst0 p = p := by
  unfold ledF
  rw [rot_first]
  show (p.1 * 1 + 0, p.2 * 1 + 0) = p
  rw [Rat.mul_one, Rat.mul_one, Rat.add_zero, Rat.add_zero]
theorem first_beh (F : Fm) : beh fst0 F = F := by
  unfold beh
  rw [led_first]
  show Fm.mk F.x F.y (addT false 0 F.t) (false ^^ F.neg) (1 * F.s) = F
  rw [Rat.one_mul, Bool.false_xor]
  have : addT false 0 F.t = F.t := by
    generalize F.t = t
    revert t
    decide
  rw [this]
theorem rot_inv (F : Fm) (p : Pt) : rot F (rot (invR F) p) = p := by
  unfold rot invR
  cases h : F.neg
  · simp only [Bool.false_eq_true, if_false]
    rw [show flp false (turn (0 - F.t) (flp false p)) = turn (0 - F.t) p from rfl, turn_turn]
    have : F.t + (0 - F.t) = 0 := by
      generalize F.t = t
      revert t
      decide
    rw [this]
    rfl
  · simp only [if_true]
    rw [flp_turn, turn_turn, flp_flp]
    have : F.t + (0 - F.t) = 0 := by
      generalize F.t = t
      revert t
      decide
    rw [this]
    rfl
theorem beh_und (F : Fm) (hs : F.s ≠ 0) : beh F (und F) = fst0 := by
  have hp : rot F ((und F).x, (und F).y) = (0 - F.x * F.s⁻¹, 0 - F.y * F.s⁻¹) := by
    have h := rot_lin F (rot (invR F) (F.x, F.y)) (0, 0) (- F.s⁻¹)
    rw [rot_inv, rot_zero] at h
    have e : ((und F).x, (und F).y) = ((rot (invR F) (F.x, F.y)).1 * (- F.s⁻¹) + (0, 0).1, (rot (invR F) (F.x, F.y)).2 * (- F.s⁻¹) + (0, 0).2) := by
      show (0 - ((rot (invR F) (F.x, F.y)).1 * F.s⁻¹ + 0), 0 - ((rot (invR F) (F.x, F.y)).2 * F.s⁻¹ + 0)) = _
      congr 1 <;> grind
    rw [e, h]
    congr 1 <;> grind
  have hl : ledF F ((und F).x, (und F).y) = (0, 0) := by
    unfold ledF
    rw [hp]
    have h1 := Rat.mul_inv_cancel F.s hs
    congr 1 <;> grind
  unfold beh
  rw [hl]
  show Fm.mk 0 0 (addT F.neg F.t (if F.neg = true then F.t else 0 - F.t)) (F.neg ^^ F.neg) (F.s * F.s⁻¹) = fst0
  rw [Rat.mul_inv_cancel F.s hs, Bool.xor_self]
  have : addT F.neg F.t (if F.neg = true then F.t else 0 - F.t) = 0 := by
    generalize F.t = t
    cases F.neg <;> revert t <;> decide
  rw [this]
  rfl
theorem und_s (F : Fm) : (und F).s = F.s⁻¹ := rfl
theorem inv_ne {r : Rat} (h : r ≠ 0) : r⁻¹ ≠ 0 := fun z => by
  have := Rat.mul_inv_cancel r h
  rw [z, Rat.mul_zero] at this
  exact absurd this (by decide)
/-- the two-sided inverse, from the one side and associativity -/
theorem und_beh (F : Fm) (hs : F.s ≠ 0) : beh (und F) F = fst0 := by
  have h1 := beh_und F hs
  have h2 := beh_und (und F) (inv_ne hs)
  have h3 : beh F (und F) = fst0 := h1
  calc beh (und F) F = beh (beh (und F) F) fst0 := (beh_first _).symm
    _ = beh (beh (und F) F) (beh (und F) (und (und F))) := by rw [h2]
    _ = beh (und F) (beh (beh F (und F)) (und (und F))) := by rw [beh_assoc, beh_assoc]
    _ = fst0 := by rw [h3, first_beh, h2]
theorem und_uniq {F G : Fm} (hs : F.s ≠ 0) (h : beh F G = fst0) : G = und F := by
  calc G = beh fst0 G := (first_beh G).symm
    _ = beh (beh (und F) F) G := by rw [und_beh F hs]
    _ = beh (und F) (beh F G) := beh_assoc _ _ _
    _ = und F := by rw [h, beh_first]
theorem und_comp (F G : Fm) (hf : F.s ≠ 0) (hg : G.s ≠ 0) : und (beh F G) = beh (und G) (und F) := by
  symm
  apply und_uniq
  · show F.s * G.s ≠ 0
    intro z
    rcases Rat.mul_eq_zero.mp z with z | z
    · exact hf z
    · exact hg z
  · rw [beh_assoc, ← beh_assoc G, beh_und G hg, first_beh, beh_und F hf]
theorem und_first : und fst0 = fst0 := by
  symm
  apply und_uniq
  · show (1 : Rat) ≠ 0
    decide
  · exact beh_first _
/-- a turn of the whole drawing moves an endless block's lead by conjugation -/
theorem leads_comp (L F M : Fm) (hl : L.s ≠ 0) (hf : F.s ≠ 0) : beh (beh (beh L F) M) (und (beh L F)) = beh (beh L (beh (beh F M) (und F))) (und L) := by
  rw [und_comp L F hl hf]
  simp only [beh_assoc]
/-! ## pieces -/
def bef (p q : Pt) : Bool := decide (p.1 < q.1) || (decide (p.1 = q.1) && decide (p.2 < q.2))
inductive Pc where
  | str (p q : Pt)
  | dot (p : Pt)
  | ring (c p : Pt)
  | arc (c p q : Pt)
def mkStr (p q : Pt) : Pc := if p = q then .dot p else if bef q p = true then .str q p else .str p q
theorem rat_asymm {a b : Rat} (h : a < b) : ¬ b < a := Rat.not_lt.mpr (Rat.le_of_lt h)
theorem bef_total {p q : Pt} (h : p ≠ q) : bef p q = !bef q p := by
  obtain ⟨a, b⟩ := p
  obtain ⟨c, d⟩ := q
  unfold bef
  by_cases h1 : a < c
  · have h2 : ¬ c < a := rat_asymm h1
    have h3 : ¬ c = a := fun z => by rw [z] at h1; exact Rat.lt_irrefl h1
    simp [h1, h2, h3]
  · by_cases h2 : c < a
    · have h3 : ¬ a = c := fun z => by rw [z] at h2; exact Rat.lt_irrefl h2
      simp [h1, h2, h3]
    · have h3 : a = c := Rat.le_antisymm (Rat.not_lt.mp h2) (Rat.not_lt.mp h1)
      subst h3
      have hbd : b ≠ d := fun z => h (by rw [z])
      by_cases h4 : b < d
      · have h5 : ¬ d < b := rat_asymm h4
        simp [h1, h4, h5]
      · have h5 : d < b := Rat.lt_of_le_of_ne (Rat.not_lt.mp h4) (fun z => hbd z.symm)
        simp [h1, h4, h5]
theorem mkStr_comm (p q : Pt) : mkStr p q = mkStr q p := by
  unfold mkStr
  by_cases h : p = q
  · subst h
    rfl
  · rw [if_neg h, if_neg (Ne.symm h), bef_total h]
    cases bef q p <;> rfl
def leadP (F : Fm) : Pc → Pc
  | .str p q => mkStr (ledF F p) (ledF F q)
  | .dot p => .dot (ledF F p)
  | .ring c p => .ring (ledF F c) (ledF F p)
  | .arc c p q => if F.neg = true then .arc (ledF F c) (ledF F q) (ledF F p) else .arc (ledF F c) (ledF F p) (ledF F q)
theorem leadP_mkStr (F : Fm) (p q : Pt) : leadP F (mkStr p q) = mkStr (ledF F p) (ledF F q) := by
  unfold mkStr
  by_cases h : p = q
  · subst h
    rw [if_pos rfl, if_pos rfl]
    rfl
  · rw [if_neg h]
    by_cases hb : bef q p = true
    · rw [if_pos hb]
      show mkStr (ledF F q) (ledF F p) = _
      rw [mkStr_comm]
      rfl
    · rw [if_neg hb]
      rfl
theorem leadP_beh (F G : Fm) (P : Pc) : leadP (beh F G) P = leadP F (leadP G P) := by
  cases P with
  | str p q =>
    show mkStr (ledF (beh F G) p) (ledF (beh F G) q) = leadP F (mkStr (ledF G p) (ledF G q))
    rw [leadP_mkStr, led_beh, led_beh]
  | dot p => show Pc.dot _ = Pc.dot _; rw [led_beh]
  | ring c p => show Pc.ring _ _ = Pc.ring _ _; rw [led_beh, led_beh]
  | arc c p q =>
    unfold leadP
    have e : (beh F G).neg = (F.neg ^^ G.neg) := rfl
    rw [e]
    cases h1 : F.neg <;> cases h2 : G.neg <;> simp [h1, led_beh]
theorem leadP_first (P : Pc) (h : ∀ p q, P = .str p q → mkStr p q = P) : leadP fst0 P = P := by
  cases P with
  | str p q =>
    show mkStr (ledF fst0 p) (ledF fst0 q) = _
    rw [led_first, led_first]
    exact h p q rfl
  | dot p => show Pc.dot _ = _; rw [led_first]
  | ring c p => show Pc.ring _ _ = _; rw [led_first, led_first]
  | arc c p q =>
    simp [leadP, led_first]
    intro h
    exact absurd h (by decide)
end Arc
set_option Elab.async false
set_option linter.all false
set_option maxRecDepth 100000
set_option maxHeartbeats 1000000
namespace Arc
open PySem L2
/-! ## what the program computes, on frames -/
def ptD (p : Pt) : PyData := .tuple [fr p.1, fr p.2]
def sgD (n : Bool) : Int := if n = true then -1 else 1
def fmD (F : Fm) : PyData := .tuple [ptD (F.x, F.y), .int (F.t.val : Int), .int (sgD F.neg), fr F.s]
theorem gEq_fr (a b : Rat) : gEq (fr a) (fr b) = some (.bool (decide (a = b))) := by
  have h : (SeqAt.shaped (fr a) && SeqAt.shaped (fr b)) = true := by rfl
  unfold gEq
  rw [if_pos h]
  have e : PyData.eqv (fr a) (fr b) = decide (a = b) := by
    simp [fr, PyData.eqv, PyData.eqvAll]
    by_cases hab : a = b
    · simp [hab]
    · simp [hab]
      intro h1 h2
      exact hab (Rat.ext h1 (by omega))
  rw [e]
theorem gEq_pt (p q : Pt) : gEq (ptD p) (ptD q) = some (.bool (decide (p = q))) := by
  have h : (SeqAt.shaped (ptD p) && SeqAt.shaped (ptD q)) = true := by rfl
  have h1 := gEq_fr p.1 q.1
  have h2 := gEq_fr p.2 q.2
  have g : ∀ a b : Rat, PyData.eqv (fr a) (fr b) = decide (a = b) := fun a b => by
    have h := gEq_fr a b
    unfold gEq at h
    rw [if_pos (by rfl)] at h
    exact PyData.bool.inj (Option.some.inj h)
  unfold gEq
  rw [if_pos h]
  have e : PyData.eqv (ptD p) (ptD q) = decide (p = q) := by
    simp [ptD, PyData.eqv, PyData.eqvAll, g, Prod.ext_iff]
  rw [e]
theorem together_ev {p q : Pt} (h1 : Sm p.1) (h2 : Sm p.2) (h3 : Sm q.1) (h4 : Sm q.2) : together_G [ptD p, ptD q] = some (ptD (p.1 + q.1, p.2 + q.2)) := by
  simp only [together_G, F_together]
  simp [f1, f2, fV, fC, fCons, fNil, fSeq, fSet, fRet, fIf, fNext, fNever, fAnd, fOr, fAndV, fOrV, fUnp, fPar, fSl, fChain, tgF, tgN, gTu, gLs, startR, defG, outV, on1, on2, gB, gNot, gNotV, gI, ptD, gIx, atI, ixN, plus_ev h1 h3, plus_ev h2 h4]
theorem off_ev {p q : Pt} (h1 : Sm p.1) (h2 : Sm p.2) (h3 : Sm q.1) (h4 : Sm q.2) : off_G [ptD p, ptD q] = some (ptD (p.1 - q.1, p.2 - q.2)) := by
  simp only [off_G, F_off]
  simp [f1, f2, fV, fC, fCons, fNil, fSeq, fSet, fRet, fIf, fNext, fNever, fAnd, fOr, fAndV, fOrV, fUnp, fPar, fSl, fChain, tgF, tgN, gTu, gLs, startR, defG, outV, on1, on2, gB, gNot, gNotV, gI, ptD, gIx, atI, ixN, minus_ev h1 h3, minus_ev h2 h4]
theorem grown_ev {p : Pt} {s : Rat} (h1 : Sm p.1) (h2 : Sm p.2) (hs : Sm s) : grown_G [ptD p, fr s] = some (ptD (p.1 * s, p.2 * s)) := by
  simp only [grown_G, F_grown]
  simp [f1, f2, fV, fC, fCons, fNil, fSeq, fSet, fRet, fIf, fNext, fNever, fAnd, fOr, fAndV, fOrV, fUnp, fPar, fSl, fChain, tgF, tgN, gTu, gLs, startR, defG, outV, on1, on2, gB, gNot, gNotV, gI, ptD, gIx, atI, ixN, times_ev h1 hs, times_ev h2 hs]
theorem turned_ev (p : Pt) (t : _root_.Fin 4) : turned_G [ptD p, .int (t.val : Int)] = some (ptD (turn t p)) := by
  have e : ∀ a : Int, 0 - (0 - a) = a := fun a => by omega
  match t with
  | 0 => rfl
  | 1 =>
    have : turned_G [ptD p, .int 1] = some (.tuple [.tuple [.int (0 - p.2.num), .int p.2.den], fr p.1]) := rfl
    show turned_G [ptD p, .int 1] = _
    rw [this, Int.zero_sub]
    rfl
  | 2 =>
    have : turned_G [ptD p, .int 2] = some (.tuple [.tuple [.int (0 - p.1.num), .int p.1.den], .tuple [.int (0 - p.2.num), .int p.2.den]]) := rfl
    show turned_G [ptD p, .int 2] = _
    rw [this, Int.zero_sub, Int.zero_sub]
    rfl
  | 3 =>
    have : turned_G [ptD p, .int 3] = some (.tuple [.tuple [.int (0 - (0 - p.2.num)), .int p.2.den], .tuple [.int (0 - p.1.num), .int p.1.den]]) := rfl
    show turned_G [ptD p, .int 3] = _
    rw [this, e, Int.zero_sub]
    rfl
theorem Sm.neg {r : Rat} (h : Sm r) : Sm (-r) := ⟨h.d, by simpa using h.n⟩
theorem turn_sm {t : _root_.Fin 4} {p : Pt} (h1 : Sm p.1) (h2 : Sm p.2) : Sm (turn t p).1 ∧ Sm (turn t p).2 := by
  match t with
  | 0 => exact ⟨h1, h2⟩
  | 1 => exact ⟨h2.neg, h1⟩
  | 2 => exact ⟨h1.neg, h2.neg⟩
  | 3 => exact ⟨h2, h1.neg⟩
theorem flp_sm {n : Bool} {p : Pt} (h1 : Sm p.1) (h2 : Sm p.2) : Sm (flp n p).1 ∧ Sm (flp n p).2 := by
  cases n
  · exact ⟨h1, h2⟩
  · exact ⟨h1, h2.neg⟩
theorem rot_sm {F : Fm} {p : Pt} (h1 : Sm p.1) (h2 : Sm p.2) : Sm (rot F p).1 ∧ Sm (rot F p).2 :=
  turn_sm (flp_sm h1 h2).1 (flp_sm h1 h2).2
/-- the sizes met on the way of led -/
structure LedOk (F : Fm) (p : Pt) : Prop where
  p1 : Sm p.1
  p2 : Sm p.2
  s : Sm F.s
  x : Sm F.x
  y : Sm F.y
  m1 : Sm ((rot F p).1 * F.s)
  m2 : Sm ((rot F p).2 * F.s)
theorem led_ev {F : Fm} {p : Pt} (h : LedOk F p) : led_G [fmD F, ptD p] = some (ptD (ledF F p)) := by
  have hm : gMul (.int (sgD F.neg)) (.int p.2.num) = some (.int (sgD F.neg * p.2.num)) := by
    have c : CMulW (sgD F.neg) p.2.num := by
      have := h.p2.n
      have l1 : Nat.log2 1 = 0 := by decide +kernel
      unfold CMulW sgD
      cases F.neg <;> simp <;> omega
    show (if CMulW (sgD F.neg) p.2.num then _ else _) = _
    rw [if_pos c]
  have hf : PyData.tuple [.int (sgD F.neg * p.2.num), .int p.2.den] = fr (flp F.neg p).2 := by
    unfold sgD
    cases F.neg
    · show PyData.tuple [.int (1 * p.2.num), .int p.2.den] = _
      rw [Int.one_mul]
      rfl
    · show PyData.tuple [.int (-1 * p.2.num), .int p.2.den] = _
      rw [Int.neg_one_mul]
      rfl
  have hf1 : (flp F.neg p).1 = p.1 := by cases F.neg <;> rfl
  have ht := turned_ev (flp F.neg p) F.t
  have hr := rot_sm (F := F) h.p1 h.p2
  have hg := grown_ev (p := rot F p) hr.1 hr.2 h.s
  have hto := together_ev (p := ((rot F p).1 * F.s, (rot F p).2 * F.s)) (q := (F.x, F.y)) h.m1 h.m2 h.x h.y
  have g0 : gIx (fr p.2) (.int 0) = some (.int p.2.num) := rfl
  have g1 : gIx (fr p.2) (.int 1) = some (.int p.2.den) := rfl
  have er : turn F.t (flp F.neg p) = rot F p := rfl
  rw [er] at ht
  simp only [ptD, hf1] at ht hg hto
  simp only [led_G, F_led]
  simp [f1, f2, fV, fC, fCons, fNil, fSeq, fSet, fRet, fIf, fNext, fNever, fAnd, fOr, fAndV, fOrV, fUnp, fPar, fSl, fChain, tgF, tgN, gTu, gLs, startR, defG, outV, on1, on2, gB, gNot, gNotV, gI, fmD, ptD, hm, g0, g1, hf, ht, hg, hto, ledF]
end Arc
set_option Elab.async false
set_option linter.all false
set_option maxRecDepth 100000
set_option maxHeartbeats 1000000
namespace Arc
open PySem L2
theorem turns_beh : ∀ (n : Bool) (a b : _root_.Fin 4), ((a.val : Int) + sgD n * (b.val : Int)) % 4 = ((addT n a b).val : Int) := by
  decide
theorem turns_inv : ∀ (n : Bool) (a : _root_.Fin 4), (0 - sgD n * (a.val : Int)) % 4 = (((if n = true then a else 0 - a) : _root_.Fin 4).val : Int) := by
  decide
theorem sg_mul : ∀ m n : Bool, sgD m * sgD n = sgD (m ^^ n) := by
  decide
theorem cm_sg : ∀ (m n : Bool), CMulW (sgD m) (sgD n) := by
  decide +kernel
theorem cm_st : ∀ (m : Bool) (b : _root_.Fin 4), CMulW (sgD m) (b.val : Int) := by
  decide +kernel
theorem nought : cNOUGHT = ptD (0, 0) := rfl
theorem sm0 : Sm 0 := ⟨by decide +kernel, by decide +kernel⟩
theorem sm1 : Sm 1 := ⟨by decide +kernel, by decide +kernel⟩
theorem behind_ev {F G : Fm} (h : LedOk F (G.x, G.y)) (hs : Sm G.s) : behind_G [fmD F, fmD G] = some (fmD (beh F G)) := by
  have hl := led_ev h
  have ht := times_ev h.s hs
  have m1 : gMul (.int (sgD F.neg)) (.int (G.t.val : Int)) = some (.int (sgD F.neg * (G.t.val : Int))) := by
    show (if CMulW (sgD F.neg) (G.t.val : Int) then _ else _) = _
    rw [if_pos (cm_st _ _)]
  have m2 : gMul (.int (sgD F.neg)) (.int (sgD G.neg)) = some (.int (sgD (F.neg ^^ G.neg))) := by
    show (if CMulW (sgD F.neg) (sgD G.neg) then _ else _) = _
    rw [if_pos (cm_sg _ _), sg_mul]
  have m3 : gMod (.int ((F.t.val : Int) + sgD F.neg * (G.t.val : Int))) (.int 4) = some (.int ((addT F.neg F.t G.t).val : Int)) := by
    show (if (0 : Int) < 4 then some (PyData.int (((F.t.val : Int) + sgD F.neg * (G.t.val : Int)) % 4)) else none) = _
    rw [if_pos (by decide), turns_beh]
  have i0 : ∀ K : Fm, gIx (fmD K) (.int 0) = some (ptD (K.x, K.y)) := fun _ => rfl
  have i1 : ∀ K : Fm, gIx (fmD K) (.int 1) = some (.int (K.t.val : Int)) := fun _ => rfl
  have i2 : ∀ K : Fm, gIx (fmD K) (.int 2) = some (.int (sgD K.neg)) := fun _ => rfl
  have i3 : ∀ K : Fm, gIx (fmD K) (.int 3) = some (fr K.s) := fun _ => rfl
  have a1 : ∀ a b : Int, gAdd (.int a) (.int b) = some (.int (a + b)) := fun _ _ => rfl
  simp only [behind_G, F_behind]
  simp [f1, f2, fV, fC, fCons, fNil, fSeq, fSet, fRet, fIf, fNext, fNever, fAnd, fOr, fAndV, fOrV, fUnp, fPar, fSl, fChain, tgF, tgN, gTu, gLs, startR, defG, outV, on1, on2, gB, gNot, gNotV, gI, i0, i1, i2, i3, m1, m2, a1, m3, hl, ht]
  rfl
/-- the sizes met on the way of undone -/
structure UndOk (F : Fm) : Prop where
  pos : 0 < F.s
  sn : F.s.num.natAbs.log2 < 4499
  sd : F.s.den.log2 < 100000
  l : LedOk (invR F) (F.x, F.y)
  r1 : Sm (ledF (invR F) (F.x, F.y)).1
  r2 : Sm (ledF (invR F) (F.x, F.y)).2
theorem undone_ev {F : Fm} (h : UndOk F) : undone_G [fmD F] = some (fmD (und F)) := by
  have ho := over_ev h.pos h.sn h.sd
  have hl := led_ev h.l
  have hf := off_ev (p := (0, 0)) (q := ledF (invR F) (F.x, F.y)) sm0 sm0 h.r1 h.r2
  have m1 : gMul (.int (sgD F.neg)) (.int (F.t.val : Int)) = some (.int (sgD F.neg * (F.t.val : Int))) := by
    show (if CMulW (sgD F.neg) (F.t.val : Int) then _ else _) = _
    rw [if_pos (cm_st _ _)]
  have m3 : gMod (.int (0 - sgD F.neg * (F.t.val : Int))) (.int 4) = some (.int ((invR F).t.val : Int)) := by
    show (if (0 : Int) < 4 then some (PyData.int ((0 - sgD F.neg * (F.t.val : Int)) % 4)) else none) = _
    rw [if_pos (by decide), turns_inv]
    rfl
  rw [Int.zero_sub] at m3
  have s1 : ∀ a b : Int, gSub (.int a) (.int b) = some (.int (a - b)) := fun _ _ => rfl
  have e1 : PyData.tuple [.int 1, .int 1] = fr 1 := rfl
  have ei : PyData.tuple [ptD (0, 0), .int ((invR F).t.val : Int), .int (sgD F.neg), fr F.s⁻¹] = fmD (invR F) := rfl
  have ef : fmD F = .tuple [ptD (F.x, F.y), .int (F.t.val : Int), .int (sgD F.neg), fr F.s] := rfl
  simp only [undone_G, F_undone, nought]
  rw [ef]
  simp [f1, f2, fV, fC, fCons, fNil, fSeq, fSet, fRet, fIf, fNext, fNever, fAnd, fOr, fAndV, fOrV, fUnp, fPar, fSl, fChain, tgF, tgN, gTu, gLs, startR, defG, outV, on1, on2, gB, gNot, gNotV, gI, m1, s1, m3, e1, ho, ei, hl, hf]
  rfl
theorem ixT (l : List PyData) (i : Int) : gIx (.tuple l) (.int i) = atI l i := rfl
theorem ixL (l : List PyData) (i : Int) : gIx (.list l) (.int i) = atI l i := rfl
theorem strE {a b : Str} {r : Bool} (h : (PyData.strOk a && PyData.strOk b && (decide (a = b) == r)) = true) : gEq (.str a) (.str b) = some (.bool r) := by
  have h1 := Bool.and_eq_true_iff.mp h
  have h2 := Bool.and_eq_true_iff.mp h1.1
  have hs : ∀ {z : Str}, PyData.strOk z = true → SeqAt.shaped (.str z) = true := fun {z} hz => by
    unfold SeqAt.shaped
    simp [PyData.canLay0, PyData.depth, hz]
  unfold gEq
  rw [hs h2.1, hs h2.2]
  simp only [Bool.and_self, if_true]
  have h3 : decide (a = b) = r := by simpa using h1.2
  have h4 : PyData.eqv (.str a) (.str b) = decide (a = b) := by
    simp [PyData.eqv]
    rfl
  rw [h4, h3]
theorem first_ev : first_G [] = some (fmD fst0) := rfl
theorem before_ev {p q : Pt} (h1 : Sm p.1) (h2 : Sm p.2) (h3 : Sm q.1) (h4 : Sm q.2) : before_G [ptD p, ptD q] = some (.bool (bef p q)) := by
  have i0 : ∀ K : Pt, gIx (ptD K) (.int 0) = some (fr K.1) := fun _ => rfl
  have i1 : ∀ K : Pt, gIx (ptD K) (.int 1) = some (fr K.2) := fun _ => rfl
  simp only [before_G, F_before]
  unfold bef
  by_cases c1 : p.1 < q.1
  · simp [f1, f2, fV, fC, fCons, fNil, fSeq, fSet, fRet, fIf, fNext, fNever, fAnd, fOr, fAndV, fOrV, fUnp, fPar, fSl, fChain, tgF, tgN, gTu, gLs, startR, defG, outV, on1, on2, gB, gNot, gNotV, gI, i0, i1, below_ev h1 h3, c1]
  · by_cases c2 : p.1 = q.1
    · simp [f1, f2, fV, fC, fCons, fNil, fSeq, fSet, fRet, fIf, fNext, fNever, fAnd, fOr, fAndV, fOrV, fUnp, fPar, fSl, fChain, tgF, tgN, gTu, gLs, startR, defG, outV, on1, on2, gB, gNot, gNotV, gI, i0, i1, below_ev h1 h3, below_ev h3 h3, below_ev h2 h4, gEq_fr, c1, c2, Rat.lt_irrefl]
    · simp [f1, f2, fV, fC, fCons, fNil, fSeq, fSet, fRet, fIf, fNext, fNever, fAnd, fOr, fAndV, fOrV, fUnp, fPar, fSl, fChain, tgF, tgN, gTu, gLs, startR, defG, outV, on1, on2, gB, gNot, gNotV, gI, i0, i1, below_ev h1 h3, gEq_fr, c1, c2]
def pcD : Pc → PyData
  | .str p q => .tuple [.str "stretch", ptD p, ptD q]
  | .dot p => .tuple [.str "dot", ptD p]
  | .ring c p => .tuple [.str "ring", ptD c, ptD p]
  | .arc c p q => .tuple [.str "arc", ptD c, ptD p, ptD q]
theorem stretch_ev {p q : Pt} (h1 : Sm p.1) (h2 : Sm p.2) (h3 : Sm q.1) (h4 : Sm q.2) : stretch_G [ptD p, ptD q] = some (pcD (mkStr p q)) := by
  simp only [stretch_G, F_stretch]
  unfold mkStr
  by_cases c : p = q
  · simp [f1, f2, fV, fC, fCons, fNil, fSeq, fSet, fRet, fIf, fNext, fNever, fAnd, fOr, fAndV, fOrV, fUnp, fPar, fSl, fChain, tgF, tgN, gTu, gLs, startR, defG, outV, on1, on2, gB, gNot, gNotV, gI, gEq_pt, c, pcD]
  · cases hb : bef q p
    · simp [f1, f2, fV, fC, fCons, fNil, fSeq, fSet, fRet, fIf, fNext, fNever, fAnd, fOr, fAndV, fOrV, fUnp, fPar, fSl, fChain, tgF, tgN, gTu, gLs, startR, defG, outV, on1, on2, gB, gNot, gNotV, gI, gEq_pt, c, before_ev h3 h4 h1 h2, hb, pcD]
    · simp [f1, f2, fV, fC, fCons, fNil, fSeq, fSet, fRet, fIf, fNext, fNever, fAnd, fOr, fAndV, fOrV, fUnp, fPar, fSl, fChain, tgF, tgN, gTu, gLs, startR, defG, outV, on1, on2, gB, gNot, gNotV, gI, gEq_pt, c, before_ev h3 h4 h1 h2, hb, pcD]
def ptsP : Pc → List Pt
  | .str p q => [p, q]
  | .dot p => [p]
  | .ring c p => [c, p]
  | .arc c p q => [c, p, q]
/-- the sizes met on the way of led_piece -/
structure LeadOk (F : Fm) (P : Pc) : Prop where
  l : ∀ p ∈ ptsP P, LedOk F p
  r : ∀ p ∈ ptsP P, Sm (ledF F p).1 ∧ Sm (ledF F p).2
theorem immPt (p : Pt) : imm (ptD p) = true := rfl
theorem led_piece_ev {F : Fm} {P : Pc} (h : LeadOk F P) : led_piece_G [fmD F, pcD P] = some (pcD (leadP F P)) := by
  have i2 : gIx (fmD F) (.int 2) = some (.int (sgD F.neg)) := rfl
  have s1 : ∀ (x : Str) (l : List PyData), gSl (.tuple (.str x :: l)) (some 1) none = some (.tuple l) := fun x l => by
    show some (PyData.tuple (cutL (PyData.str x :: l) (some 1) none)) = _
    simp [cutL, HT.sIx]
  simp only [led_piece_G, F_led_piece]
  cases P with
  | str p q =>
    have l1 := led_ev (h.l p (by simp [ptsP]))
    have l2 := led_ev (h.l q (by simp [ptsP]))
    have r1 := h.r p (by simp [ptsP])
    have r2 := h.r q (by simp [ptsP])
    have hst := stretch_ev r1.1 r1.2 r2.1 r2.2
    have e1 : gEq (.str "stretch") (.str "stretch") = some (.bool true) := strE (by decide +kernel)
    simp [f1, f2, fV, fC, fCons, fNil, fSeq, fSet, fRet, fIf, fNext, fNever, fAnd, fOr, fAndV, fOrV, fUnp, fPar, fSl, fChain, tgF, tgN, gTu, gLs, startR, defG, outV, on1, on2, gB, gNot, gNotV, gI, fLc, lcF, wipeR, itT, pcD, s1, l1, l2, immPt, ixT, ixL, atI, ixN, e1, hst, leadP]
  | dot p =>
    have l1 := led_ev (h.l p (by simp [ptsP]))
    have e1 : gEq (.str "dot") (.str "stretch") = some (.bool false) := strE (by decide +kernel)
    have e2 : gEq (.str "dot") (.str "arc") = some (.bool false) := strE (by decide +kernel)
    simp [f1, f2, fV, fC, fCons, fNil, fSeq, fSet, fRet, fIf, fNext, fNever, fAnd, fOr, fAndV, fOrV, fUnp, fPar, fSl, fChain, tgF, tgN, gTu, gLs, startR, defG, outV, on1, on2, gB, gNot, gNotV, gI, fLc, lcF, wipeR, itT, pcD, s1, l1, immPt, ixT, ixL, atI, ixN, e1, e2, leadP, gCatT, gTuple]
  | ring c p =>
    have l1 := led_ev (h.l c (by simp [ptsP]))
    have l2 := led_ev (h.l p (by simp [ptsP]))
    have e1 : gEq (.str "ring") (.str "stretch") = some (.bool false) := strE (by decide +kernel)
    have e2 : gEq (.str "ring") (.str "arc") = some (.bool false) := strE (by decide +kernel)
    simp [f1, f2, fV, fC, fCons, fNil, fSeq, fSet, fRet, fIf, fNext, fNever, fAnd, fOr, fAndV, fOrV, fUnp, fPar, fSl, fChain, tgF, tgN, gTu, gLs, startR, defG, outV, on1, on2, gB, gNot, gNotV, gI, fLc, lcF, wipeR, itT, pcD, s1, l1, l2, immPt, ixT, ixL, atI, ixN, e1, e2, leadP, gCatT, gTuple]
  | arc c p q =>
    have l1 := led_ev (h.l c (by simp [ptsP]))
    have l2 := led_ev (h.l p (by simp [ptsP]))
    have l3 := led_ev (h.l q (by simp [ptsP]))
    have e1 : gEq (.str "arc") (.str "stretch") = some (.bool false) := strE (by decide +kernel)
    have e2 : gEq (.str "arc") (.str "arc") = some (.bool true) := strE (by decide +kernel)
    cases hn : F.neg
    · have e3 : gLt (.int (sgD false)) (.int 0) = some (.bool false) := by rfl
      rw [hn] at i2
      simp [f1, f2, fV, fC, fCons, fNil, fSeq, fSet, fRet, fIf, fNext, fNever, fAnd, fOr, fAndV, fOrV, fUnp, fPar, fSl, fChain, tgF, tgN, gTu, gLs, startR, defG, outV, on1, on2, gB, gNot, gNotV, gI, fLc, lcF, wipeR, itT, pcD, s1, l1, l2, l3, immPt, i2, e3, ixT, ixL, atI, ixN, e1, e2, leadP, gCatT, gTuple, hn]
    · have e3 : gLt (.int (sgD true)) (.int 0) = some (.bool true) := by rfl
      rw [hn] at i2
      simp [f1, f2, fV, fC, fCons, fNil, fSeq, fSet, fRet, fIf, fNext, fNever, fAnd, fOr, fAndV, fOrV, fUnp, fPar, fSl, fChain, tgF, tgN, gTu, gLs, startR, defG, outV, on1, on2, gB, gNot, gNotV, gI, fLc, lcF, wipeR, itT, pcD, s1, l1, l2, l3, immPt, i2, e3, ixT, ixL, atI, ixN, e1, e2, leadP, gCatT, gTuple, hn]
end Arc
set_option Elab.async false
set_option linter.all false
set_option maxRecDepth 100000
set_option maxHeartbeats 1000000
namespace Arc
open PySem L2
/-! ## sizes -/
/-- r is n/d for a whole n of at most m d -/
structure Bd (d m : Nat) (r : Rat) : Prop where
  pos : 0 < d
  ex : ∃ n : Int, (d : Rat) * r = n ∧ n.natAbs ≤ m * d
theorem rat_num (r : Rat) : r * (r.den : Rat) = r.num := by
  have h : (r.den : Rat) ≠ 0 := by
    intro z
    have : ((r.den : Rat)).num = 0 := by rw [z]; rfl
    rw [Rat.num_natCast] at this
    have := r.den_nz
    omega
  have e : r = (r.num : Rat) / (r.den : Rat) := by
    have := Rat.mkRat_self r
    rw [Rat.mkRat_eq_div] at this
    exact this.symm
  have e2 : r * (r.den : Rat) = (r.num : Rat) / (r.den : Rat) * (r.den : Rat) := by rw [← e]
  rw [e2, Rat.div_mul_cancel h]
theorem cast_inj {a b : Int} (h : (a : Rat) = b) : a = b := by
  have := congrArg Rat.num h
  simpa using this
theorem Bd.den_dvd {d m : Nat} {r : Rat} (h : Bd d m r) : r.den ∣ d := by
  obtain ⟨n, e, _⟩ := h.ex
  have h1 : ((d : Int) * r.num : Int) = n * r.den := by
    apply cast_inj
    have := rat_num r
    rw [Rat.intCast_mul, Rat.intCast_mul]
    rw [← this, ← e]
    show (d : Rat) * (r * (r.den : Rat)) = (d : Rat) * r * (r.den : Rat)
    rw [Rat.mul_assoc]
  have h2 : (r.den : Int) ∣ (d : Int) * r.num := ⟨n, by rw [h1, Int.mul_comm]⟩
  have h3 : r.den ∣ d * r.num.natAbs := by
    have := Int.natAbs_dvd_natAbs.mpr h2
    simpa [Int.natAbs_mul] using this
  exact (Nat.Coprime.symm r.reduced).dvd_of_dvd_mul_right h3
theorem Bd.num_le {d m : Nat} {r : Rat} (h : Bd d m r) : r.num.natAbs ≤ m * d := by
  obtain ⟨n, e, hn⟩ := h.ex
  obtain ⟨c, hc⟩ := h.den_dvd
  have hp := h.pos
  have h1 : n = c * r.num := by
    apply cast_inj
    rw [← e, Rat.intCast_mul, ← rat_num r, hc]
    rw [Rat.natCast_mul]
    show ((r.den : Rat) * (c : Rat)) * r = (c : Rat) * (r * (r.den : Rat))
    grind
  have h2 : n.natAbs = c * r.num.natAbs := by
    rw [h1, Int.natAbs_mul]
    simp
  have hc0 : 0 < c := Nat.pos_of_ne_zero fun z => by
    rw [z] at hc
    omega
  have : r.num.natAbs ≤ c * r.num.natAbs := Nat.le_mul_of_pos_left _ hc0
  omega
theorem Bd.sm {d m : Nat} {r : Rat} (h : Bd d m r) (hd : d < 2 ^ 4499) (hm : m * d < 2 ^ 100000) : Sm r := by
  refine ⟨?_, ?_⟩
  · rw [Nat.log2_lt r.den_nz]
    exact Nat.lt_of_le_of_lt (Nat.le_of_dvd h.pos h.den_dvd) hd
  · by_cases hz : r.num.natAbs = 0
    · rw [hz]
      simp
    · rw [Nat.log2_lt hz]
      exact Nat.lt_of_le_of_lt h.num_le hm
theorem Bd.up {d d' m m' : Nat} {r : Rat} (h : Bd d m r) (hd : d ∣ d') (hp : 0 < d') (hm : m ≤ m') : Bd d' m' r := by
  obtain ⟨n, e, hn⟩ := h.ex
  obtain ⟨c, rfl⟩ := hd
  refine ⟨hp, n * c, ?_, ?_⟩
  · rw [Rat.intCast_mul, ← e, Rat.natCast_mul]
    show (d : Rat) * (c : Rat) * r = (d : Rat) * r * (c : Rat)
    grind
  · rw [Int.natAbs_mul]
    simp
    have h1 := Nat.mul_le_mul_right c hn
    have h2 : m * d * c ≤ m' * (d * c) := by
      rw [Nat.mul_assoc]
      exact Nat.mul_le_mul_right _ hm
    exact Nat.le_trans h1 h2
theorem Bd.neg {d m : Nat} {r : Rat} (h : Bd d m r) : Bd d m (-r) := by
  obtain ⟨n, e, hn⟩ := h.ex
  refine ⟨h.pos, -n, ?_, by simpa using hn⟩
  rw [Rat.intCast_neg, ← e]
  grind
theorem Bd.add {d m m' : Nat} {r q : Rat} (h : Bd d m r) (h' : Bd d m' q) : Bd d (m + m') (r + q) := by
  obtain ⟨n, e, hn⟩ := h.ex
  obtain ⟨n', e', hn'⟩ := h'.ex
  refine ⟨h.pos, n + n', ?_, ?_⟩
  · rw [Rat.intCast_add, ← e, ← e']
    grind
  · rw [Nat.add_mul]
    omega
theorem Bd.mul {d d' m m' : Nat} {r q : Rat} (h : Bd d m r) (h' : Bd d' m' q) : Bd (d * d') (m * m') (r * q) := by
  obtain ⟨n, e, hn⟩ := h.ex
  obtain ⟨n', e', hn'⟩ := h'.ex
  refine ⟨Nat.mul_pos h.pos h'.pos, n * n', ?_, ?_⟩
  · rw [Rat.intCast_mul, ← e, ← e', Rat.natCast_mul]
    grind
  · rw [Int.natAbs_mul]
    have := Nat.mul_le_mul hn hn'
    have e3 : m * d * (m' * d') = m * m' * (d * d') := by grind
    omega
theorem Bd.zero {d m : Nat} (hd : 0 < d) : Bd d m 0 := ⟨hd, 0, by rw [Rat.mul_zero]; rfl, by simp⟩
theorem Bd.one : Bd 1 1 1 := ⟨Nat.one_pos, 1, by rw [Rat.mul_one]; rfl, by simp⟩
end Arc
set_option Elab.async false
set_option linter.all false
set_option maxRecDepth 100000
set_option maxHeartbeats 1000000
set_option exponentiation.threshold 200
namespace Arc
open PySem L2
abbrev XX : Nat := 16777216
/-- sizes of a frame behind k rows -/
structure FB (E k : Nat) (F : Fm) : Prop where
  ex : ∃ a b : Nat, a ≤ 16 ^ k ∧ b ≤ 16 ^ k ∧ Bd (E * a) (XX * k * 16 ^ k) F.x ∧ Bd (E * a) (XX * k * 16 ^ k) F.y ∧ Bd a (16 ^ k) F.s ∧ Bd b (16 ^ k) F.s⁻¹
  pos : 0 < F.s
/-- sizes of a point -/
structure PB (E k m : Nat) (p : Pt) : Prop where
  ex : ∃ c : Nat, c ≤ 16 ^ k ∧ Bd (E * c) m p.1 ∧ Bd (E * c) m p.2
theorem FB.e0 {E k : Nat} {F : Fm} (h : FB E k F) : 0 < E := by
  obtain ⟨a, b, h1, h2, h3, _⟩ := h.ex
  exact Nat.pos_of_mul_pos_right h3.pos
theorem FB.first {E : Nat} (hE : 0 < E) : FB E 0 fst0 := ⟨⟨1, 1, Nat.le_refl _, Nat.le_refl _, .zero (by omega), .zero (by omega), Bd.one, by show Bd 1 1 ((1 : Rat)⁻¹); rw [show (1 : Rat)⁻¹ = 1 from by decide +kernel]; exact Bd.one⟩, by show (0 : Rat) < 1; decide +kernel⟩
theorem p16 (k : Nat) : 0 < 16 ^ k := Nat.pow_pos (by decide)
theorem rot_bd {F : Fm} {d m : Nat} {p : Pt} (h1 : Bd d m p.1) (h2 : Bd d m p.2) : Bd d m (rot F p).1 ∧ Bd d m (rot F p).2 := by
  unfold rot
  have hf : Bd d m (flp F.neg p).1 ∧ Bd d m (flp F.neg p).2 := by
    cases F.neg
    · exact ⟨h1, h2⟩
    · exact ⟨h1, h2.neg⟩
  generalize flp F.neg p = q at hf
  match F.t with
  | 0 => exact hf
  | 1 => exact ⟨hf.2.neg, hf.1⟩
  | 2 => exact ⟨hf.1.neg, hf.2.neg⟩
  | 3 => exact ⟨hf.2, hf.1.neg⟩
theorem led_bd {E k k' m : Nat} {F : Fm} {p : Pt} (hF : FB E k F) (hp : PB E k' m p) : PB E (k + k') (m * 16 ^ k + XX * k * 16 ^ k) (ledF F p) ∧ PB E (k + k') (m * 16 ^ k) ((rot F p).1 * F.s, (rot F p).2 * F.s) := by
  obtain ⟨a, b, ha, hb, hx, hy, hs, hi⟩ := hF.ex
  obtain ⟨c, hc, h1, h2⟩ := hp.ex
  obtain ⟨r1, r2⟩ := rot_bd (F := F) h1 h2
  have m1 := r1.mul hs
  have m2 := r2.mul hs
  have e : E * c * a = E * (a * c) := by grind
  rw [e] at m1 m2
  have hac : a * c ≤ 16 ^ (k + k') := by
    rw [Nat.pow_add]
    exact Nat.mul_le_mul ha hc
  have hd : E * a ∣ E * (a * c) := ⟨c, by grind⟩
  exact ⟨⟨a * c, hac, m1.add (hx.up hd m1.pos (Nat.le_refl _)), m2.add (hy.up hd m1.pos (Nat.le_refl _))⟩, ⟨a * c, hac, m1, m2⟩⟩
theorem FB.beh {E k k' : Nat} {F G : Fm} (hF : FB E k F) (hG : FB E k' G) : FB E (k + k') (beh F G) := by
  obtain ⟨a', b', ha', hb', hx', hy', hs', hi'⟩ := hG.ex
  obtain ⟨a, b, ha, hb, hx, hy, hs, hi⟩ := hF.ex
  obtain ⟨r1, r2⟩ := rot_bd (F := F) (p := (G.x, G.y)) hx' hy'
  have m1 := r1.mul hs
  have m2 := r2.mul hs
  have e : E * a' * a = E * (a * a') := by grind
  rw [e] at m1 m2
  have hd : E * a ∣ E * (a * a') := ⟨a', by grind⟩
  have hle : XX * k' * 16 ^ k' * 16 ^ k + XX * k * 16 ^ k ≤ XX * (k + k') * 16 ^ (k + k') := by
    rw [Nat.pow_add]
    have h1 : XX * k * 16 ^ k ≤ XX * k * (16 ^ k * 16 ^ k') := Nat.mul_le_mul_left _ (Nat.le_mul_of_pos_right _ (p16 k'))
    have h2 : XX * (k + k') * (16 ^ k * 16 ^ k') = XX * k' * 16 ^ k' * 16 ^ k + XX * k * (16 ^ k * 16 ^ k') := by grind
    omega
  refine ⟨⟨a * a', b * b', ?_, ?_, ?_, ?_, ?_, ?_⟩, ?_⟩
  · rw [Nat.pow_add]; exact Nat.mul_le_mul ha ha'
  · rw [Nat.pow_add]; exact Nat.mul_le_mul hb hb'
  · exact (m1.add (hx.up hd m1.pos (Nat.le_refl _))).up (Nat.dvd_refl _) m1.pos hle
  · exact (m2.add (hy.up hd m1.pos (Nat.le_refl _))).up (Nat.dvd_refl _) m1.pos hle
  · rw [Nat.pow_add]; exact hs.mul hs'
  · rw [Nat.pow_add]
    show Bd (b * b') (16 ^ k * 16 ^ k') (F.s * G.s)⁻¹
    rw [Rat.inv_mul_rev, Rat.mul_comm]
    exact hi.mul hi'
  · exact Rat.mul_pos hF.pos hG.pos
theorem FB.invR {E k : Nat} {F : Fm} (hF : FB E k F) : FB E k (invR F) := by
  obtain ⟨a, b, ha, hb, hx, hy, hs, hi⟩ := hF.ex
  have hE := hF.e0
  refine ⟨⟨b, a, hb, ha, .zero (Nat.mul_pos hE hi.pos), .zero (Nat.mul_pos hE hi.pos), hi, ?_⟩, Rat.inv_pos.mpr hF.pos⟩
  show Bd a (16 ^ k) (F.s⁻¹)⁻¹
  rw [Rat.inv_inv]
  exact hs
theorem FB.place {E k : Nat} {F : Fm} (hF : FB E k F) : PB E k (XX * k * 16 ^ k) (F.x, F.y) := by
  obtain ⟨a, b, ha, hb, hx, hy, hs, hi⟩ := hF.ex
  exact ⟨a, ha, hx, hy⟩
theorem FB.und {E k : Nat} {F : Fm} (hF : FB E k F) : FB E (k + k) (und F) := by
  obtain ⟨a, b, ha, hb, hx, hy, hs, hi⟩ := hF.ex
  obtain ⟨r1, r2⟩ := rot_bd (F := Arc.invR F) (p := (F.x, F.y)) hx hy
  have m1 := r1.mul hi
  have m2 := r2.mul hi
  have e : E * a * b = E * (a * b) := by grind
  rw [e] at m1 m2
  have hle : XX * k * 16 ^ k * 16 ^ k ≤ XX * (k + k) * 16 ^ (k + k) := by
    rw [Nat.pow_add]
    have h2 : XX * (k + k) * (16 ^ k * 16 ^ k) = XX * k * 16 ^ k * 16 ^ k + XX * k * 16 ^ k * 16 ^ k := by grind
    omega
  have hab : a * b ≤ 16 ^ (k + k) := by rw [Nat.pow_add]; exact Nat.mul_le_mul ha hb
  have hkk : 16 ^ k ≤ 16 ^ (k + k) := Nat.pow_le_pow_right (by decide) (Nat.le_add_right _ _)
  have hp : 0 < a * b := Nat.pos_of_mul_pos_left (a := E) m1.pos
  refine ⟨⟨a * b, a, hab, Nat.le_trans ha hkk, ?_, ?_, ?_, ?_⟩, Rat.inv_pos.mpr hF.pos⟩
  · have e1 : (Arc.und F).x = -((rot (Arc.invR F) (F.x, F.y)).1 * F.s⁻¹) := by
      show 0 - ((rot (Arc.invR F) (F.x, F.y)).1 * F.s⁻¹ + 0) = _
      grind
    rw [e1]
    exact (m1.up (Nat.dvd_refl _) m1.pos hle).neg
  · have e1 : (Arc.und F).y = -((rot (Arc.invR F) (F.x, F.y)).2 * F.s⁻¹) := by
      show 0 - ((rot (Arc.invR F) (F.x, F.y)).2 * F.s⁻¹ + 0) = _
      grind
    rw [e1]
    exact (m2.up (Nat.dvd_refl _) m1.pos hle).neg
  · exact hi.up ⟨a, by rw [Nat.mul_comm]⟩ hp hkk
  · show Bd a (16 ^ (k + k)) (F.s⁻¹)⁻¹
    rw [Rat.inv_inv]
    exact hs.up (Nat.dvd_refl _) hs.pos hkk
theorem FB.mono {E k k' : Nat} {F : Fm} (h : FB E k F) (hk : k ≤ k') : FB E k' F := by
  obtain ⟨a, b, ha, hb, hx, hy, hs, hi⟩ := h.ex
  have hkk : 16 ^ k ≤ 16 ^ k' := Nat.pow_le_pow_right (by decide) hk
  have hle : XX * k * 16 ^ k ≤ XX * k' * 16 ^ k' := Nat.mul_le_mul (Nat.mul_le_mul_left _ hk) hkk
  exact ⟨⟨a, b, Nat.le_trans ha hkk, Nat.le_trans hb hkk, hx.up (Nat.dvd_refl _) hx.pos hle, hy.up (Nat.dvd_refl _) hy.pos hle, hs.up (Nat.dvd_refl _) hs.pos hkk, hi.up (Nat.dvd_refl _) hi.pos hkk⟩, h.pos⟩
theorem PB.mono {E k k' m m' : Nat} {p : Pt} (h : PB E k m p) (hk : k ≤ k') (hm : m ≤ m') : PB E k' m' p := by
  obtain ⟨c, hc, h1, h2⟩ := h.ex
  exact ⟨c, Nat.le_trans hc (Nat.pow_le_pow_right (by decide) hk), h1.up (Nat.dvd_refl _) h1.pos hm, h2.up (Nat.dvd_refl _) h2.pos hm⟩
/-! what fits -/
theorem pow16 {k : Nat} (h : k ≤ 960) : 16 ^ k ≤ 2 ^ 3840 := by
  have : (16 : Nat) ^ k = 2 ^ (4 * k) := by rw [Nat.pow_mul]
  rw [this]
  exact Nat.pow_le_pow_right (by decide) (by omega)
theorem Bd.fit {E c m : Nat} {r : Rat} (h : Bd (E * c) m r) (hE : E ≤ 2 ^ 640) (hc : c ≤ 2 ^ 3840) (hm : m ≤ 2 ^ 50000) : Sm r := by
  have h1 : E * c ≤ 2 ^ 4480 := by
    have := Nat.mul_le_mul hE hc
    rwa [← Nat.pow_add] at this
  refine h.sm (Nat.lt_of_le_of_lt h1 (Nat.pow_lt_pow_right (by decide) (by decide))) ?_
  have h2 := Nat.mul_le_mul hm h1
  rw [← Nat.pow_add] at h2
  exact Nat.lt_of_le_of_lt h2 (Nat.pow_lt_pow_right (by decide) (by decide))
theorem PB.sm {E k m : Nat} {p : Pt} (h : PB E k m p) (hE : E ≤ 2 ^ 640) (hk : k ≤ 960) (hm : m ≤ 2 ^ 50000) : Sm p.1 ∧ Sm p.2 := by
  obtain ⟨c, hc, h1, h2⟩ := h.ex
  exact ⟨h1.fit hE (Nat.le_trans hc (pow16 hk)) hm, h2.fit hE (Nat.le_trans hc (pow16 hk)) hm⟩
theorem mB {k : Nat} (h : k ≤ 960) : XX * k * 16 ^ k ≤ 2 ^ 4000 := by
  have h1 : XX * k ≤ 2 ^ 40 := by
    have : XX * k ≤ XX * 960 := Nat.mul_le_mul_left _ h
    exact Nat.le_trans this (by decide)
  have := Nat.mul_le_mul h1 (pow16 h)
  rw [← Nat.pow_add] at this
  exact Nat.le_trans this (Nat.pow_le_pow_right (by decide) (by decide))
theorem FB.sm_s {E k : Nat} {F : Fm} (h : FB E k F) (hk : k ≤ 960) : Sm F.s ∧ Sm F.s⁻¹ := by
  obtain ⟨a, b, ha, hb, hx, hy, hs, hi⟩ := h.ex
  have h1 := pow16 hk
  have fit : ∀ {c : Nat} {r : Rat}, c ≤ 16 ^ k → Bd c (16 ^ k) r → Sm r := fun {c r} hc hb => by
    have : Bd (1 * c) (16 ^ k) r := by rwa [Nat.one_mul]
    exact this.fit Nat.one_le_two_pow (Nat.le_trans hc h1) (Nat.le_trans h1 (Nat.pow_le_pow_right (by decide) (by decide)))
  exact ⟨fit ha hs, fit hb hi⟩
theorem mm_le {m k : Nat} (hm : m ≤ 2 ^ 20000) (hk : k ≤ 960) : m * 16 ^ k + XX * k * 16 ^ k ≤ 2 ^ 50000 ∧ m * 16 ^ k ≤ 2 ^ 50000 := by
  have h1 := Nat.mul_le_mul hm (pow16 hk)
  rw [← Nat.pow_add] at h1
  have h2 := mB hk
  have h3 : (2 : Nat) ^ 23840 ≤ 2 ^ 49999 := Nat.pow_le_pow_right (by decide) (by decide)
  have h4 : (2 : Nat) ^ 4000 ≤ 2 ^ 49999 := Nat.pow_le_pow_right (by decide) (by decide)
  have h5 : (2 : Nat) ^ 50000 = 2 ^ 49999 + 2 ^ 49999 := by rw [show 50000 = 49999 + 1 from rfl, Nat.pow_succ]; omega
  generalize (2 : Nat) ^ 49999 = z at *
  generalize (2 : Nat) ^ 23840 = z1 at *
  generalize (2 : Nat) ^ 4000 = z2 at *
  rw [h5]
  omega
theorem FB.ledOk {E k k' m : Nat} {F : Fm} {p : Pt} (hF : FB E k F) (hp : PB E k' m p) (hE : E ≤ 2 ^ 640) (hk : k + k' ≤ 960) (hm : m ≤ 2 ^ 20000) : LedOk F p ∧ Sm (ledF F p).1 ∧ Sm (ledF F p).2 := by
  obtain ⟨h1, h2⟩ := led_bd hF hp
  have hmm := mm_le hm (show k ≤ 960 by omega)
  have s1 := h1.sm hE hk hmm.1
  have s2 := h2.sm hE hk hmm.2
  have s3 := hp.sm hE (by omega) (Nat.le_trans hm (Nat.pow_le_pow_right (by decide) (by decide)))
  have s4 := hF.place.sm hE (by omega) (Nat.le_trans (mB (by omega)) (Nat.pow_le_pow_right (by decide) (by decide)))
  exact ⟨⟨s3.1, s3.2, (hF.sm_s (by omega)).1, s4.1, s4.2, s2.1, s2.2⟩, s1⟩
theorem behind_fb {E k k' : Nat} {F G : Fm} (hF : FB E k F) (hG : FB E k' G) (hE : E ≤ 2 ^ 640) (hk : k + k' ≤ 960) : behind_G [fmD F, fmD G] = some (fmD (beh F G)) :=
  behind_ev (hF.ledOk hG.place hE hk (Nat.le_trans (mB (by omega)) (Nat.pow_le_pow_right (by decide) (by decide)))).1 (hG.sm_s (by omega)).1
theorem undone_fb {E k : Nat} {F : Fm} (hF : FB E k F) (hE : E ≤ 2 ^ 640) (hk : k + k ≤ 960) : undone_G [fmD F] = some (fmD (und F)) := by
  have h := hF.invR.ledOk hF.place hE hk (Nat.le_trans (mB (by omega)) (Nat.pow_le_pow_right (by decide) (by decide)))
  obtain ⟨s1, s2⟩ := hF.sm_s (show k ≤ 960 by omega)
  have hn : F.s.num.natAbs.log2 < 4499 := by
    have h1 := s2.d
    have hz : F.s.num ≠ 0 := fun z => Rat.ne_of_gt hF.pos (Rat.num_eq_zero.mp z)
    rw [Rat.den_inv, if_neg hz] at h1
    exact h1
  exact undone_ev ⟨hF.pos, hn, by have := s1.d; omega, h.1, h.2.1, h.2.2⟩
theorem lead_fb {E k k' m : Nat} {F : Fm} {P : Pc} (hF : FB E k F) (hp : ∀ p ∈ ptsP P, PB E k' m p) (hE : E ≤ 2 ^ 640) (hk : k + k' ≤ 960) (hm : m ≤ 2 ^ 20000) : led_piece_G [fmD F, pcD P] = some (pcD (leadP F P)) :=
  led_piece_ev ⟨fun p h => (hF.ledOk (hp p h) hE hk hm).1, fun p h => (hF.ledOk (hp p h) hE hk hm).2⟩
theorem leadP_pts {F : Fm} {P : Pc} {q : Pt} (h : q ∈ ptsP (leadP F P)) : ∃ p ∈ ptsP P, q = ledF F p := by
  cases P with
  | str p r =>
    have h2 : q ∈ ptsP (mkStr (ledF F p) (ledF F r)) := h
    unfold mkStr at h2
    by_cases c1 : ledF F p = ledF F r
    · rw [if_pos c1] at h2
      exact ⟨p, by simp [ptsP], by simpa [ptsP] using h2⟩
    · rw [if_neg c1] at h2
      by_cases c2 : bef (ledF F r) (ledF F p) = true
      · rw [if_pos c2] at h2
        rcases (by simpa [ptsP] using h2 : q = ledF F r ∨ q = ledF F p) with z | z
        · exact ⟨r, by simp [ptsP], z⟩
        · exact ⟨p, by simp [ptsP], z⟩
      · rw [if_neg c2] at h2
        rcases (by simpa [ptsP] using h2 : q = ledF F p ∨ q = ledF F r) with z | z
        · exact ⟨p, by simp [ptsP], z⟩
        · exact ⟨r, by simp [ptsP], z⟩
  | dot p => exact ⟨p, by simp [ptsP], by simpa [ptsP, leadP] using h⟩
  | ring c p =>
    rcases (by simpa [ptsP, leadP] using h : q = ledF F c ∨ q = ledF F p) with z | z
    · exact ⟨c, by simp [ptsP], z⟩
    · exact ⟨p, by simp [ptsP], z⟩
  | arc c p r =>
    have h2 : q ∈ ptsP (if F.neg = true then Pc.arc (ledF F c) (ledF F r) (ledF F p) else Pc.arc (ledF F c) (ledF F p) (ledF F r)) := h
    by_cases c1 : F.neg = true
    · rw [if_pos c1] at h2
      rcases (by simpa [ptsP] using h2 : q = ledF F c ∨ q = ledF F r ∨ q = ledF F p) with z | z | z
      · exact ⟨c, by simp [ptsP], z⟩
      · exact ⟨r, by simp [ptsP], z⟩
      · exact ⟨p, by simp [ptsP], z⟩
    · rw [if_neg c1] at h2
      rcases (by simpa [ptsP] using h2 : q = ledF F c ∨ q = ledF F p ∨ q = ledF F r) with z | z | z
      · exact ⟨c, by simp [ptsP], z⟩
      · exact ⟨p, by simp [ptsP], z⟩
      · exact ⟨r, by simp [ptsP], z⟩
end Arc
set_option Elab.async false
set_option linter.all false
set_option maxRecDepth 100000
set_option maxHeartbeats 1000000
set_option exponentiation.threshold 200
namespace Arc
open PySem L2
/-! ## words -/
theorem strNE {a b : Str} {r : Bool} (h : (PyData.strOk a && PyData.strOk b && (decide (a = b) == !r)) = true) : gNe (.str a) (.str b) = some (.bool r) := by
  have h1 := strE h
  unfold gEq at h1
  unfold gNe
  split at h1
  · rename_i hc
    rw [if_pos hc]
    have := PyData.bool.inj (Option.some.inj h1)
    rw [this, Bool.not_not]
  · cases h1
theorem inET {a : Str} {l : List PyData} {r : Bool} (h : (l.all flatD && (l.any (fun y => eqF y (.str a)) == r)) = true) : gIn (.str a) (.tuple l) = some (.bool r) := by
  have h1 := Bool.and_eq_true_iff.mp h
  have h2 : l.any (fun y => eqF y (.str a)) = r := by simpa using h1.2
  show (if (flatD (.str a) && l.all flatD) = true then some (PyData.bool (l.any fun y => eqF y (.str a))) else none) = _
  rw [h1.1, h2]
  rfl
theorem inEL {a : Str} {l : List PyData} {r : Bool} (h : (l.all flatD && (l.any (fun y => eqF y (.str a)) == r)) = true) : gIn (.str a) (.list l) = some (.bool r) := by
  have h1 := Bool.and_eq_true_iff.mp h
  have h2 : l.any (fun y => eqF y (.str a)) = r := by simpa using h1.2
  show (if (flatD (.str a) && l.all flatD) = true then some (PyData.bool (l.any fun y => eqF y (.str a))) else none) = _
  rw [h1.1, h2]
  rfl
theorem eq_go_go : gEq (.str "go") (.str "go") = some (.bool true) := strE (by decide +kernel)
theorem ne_go_go : gNe (.str "go") (.str "go") = some (.bool false) := strNE (by decide +kernel)
theorem eq_go_skip : gEq (.str "go") (.str "skip") = some (.bool false) := strE (by decide +kernel)
theorem ne_go_skip : gNe (.str "go") (.str "skip") = some (.bool true) := strNE (by decide +kernel)
theorem eq_go_side : gEq (.str "go") (.str "side") = some (.bool false) := strE (by decide +kernel)
theorem ne_go_side : gNe (.str "go") (.str "side") = some (.bool true) := strNE (by decide +kernel)
theorem eq_go_dot : gEq (.str "go") (.str "dot") = some (.bool false) := strE (by decide +kernel)
theorem ne_go_dot : gNe (.str "go") (.str "dot") = some (.bool true) := strNE (by decide +kernel)
theorem eq_go_mirror : gEq (.str "go") (.str "mirror") = some (.bool false) := strE (by decide +kernel)
theorem ne_go_mirror : gNe (.str "go") (.str "mirror") = some (.bool true) := strNE (by decide +kernel)
theorem eq_go_grow : gEq (.str "go") (.str "grow") = some (.bool false) := strE (by decide +kernel)
theorem ne_go_grow : gNe (.str "go") (.str "grow") = some (.bool true) := strNE (by decide +kernel)
theorem eq_go_quarter : gEq (.str "go") (.str "quarter") = some (.bool false) := strE (by decide +kernel)
theorem ne_go_quarter : gNe (.str "go") (.str "quarter") = some (.bool true) := strNE (by decide +kernel)
theorem eq_go_half : gEq (.str "go") (.str "half") = some (.bool false) := strE (by decide +kernel)
theorem ne_go_half : gNe (.str "go") (.str "half") = some (.bool true) := strNE (by decide +kernel)
theorem eq_go_arc : gEq (.str "go") (.str "arc") = some (.bool false) := strE (by decide +kernel)
theorem ne_go_arc : gNe (.str "go") (.str "arc") = some (.bool true) := strNE (by decide +kernel)
theorem eq_go_again : gEq (.str "go") (.str "again") = some (.bool false) := strE (by decide +kernel)
theorem ne_go_again : gNe (.str "go") (.str "again") = some (.bool true) := strNE (by decide +kernel)
theorem eq_go_keep : gEq (.str "go") (.str "keep") = some (.bool false) := strE (by decide +kernel)
theorem ne_go_keep : gNe (.str "go") (.str "keep") = some (.bool true) := strNE (by decide +kernel)
theorem eq_go_ever : gEq (.str "go") (.str "ever") = some (.bool false) := strE (by decide +kernel)
theorem ne_go_ever : gNe (.str "go") (.str "ever") = some (.bool true) := strNE (by decide +kernel)
theorem eq_go_none : gEq (.str "go") (.str "") = some (.bool false) := strE (by decide +kernel)
theorem ne_go_none : gNe (.str "go") (.str "") = some (.bool true) := strNE (by decide +kernel)
theorem in_go_tuple : gIn (.str "go") (.tuple [.str "again", .str "keep", .str "ever"]) = some (.bool false) := inET (by decide +kernel)
theorem in_go_list : gIn (.str "go") (.list [.str "again", .str "keep", .str "ever"]) = some (.bool false) := inEL (by decide +kernel)
theorem in_go_six : gIn (.str "go") (.list [.str "go", .str "side", .str "dot", .str "quarter", .str "half", .str "arc"]) = some (.bool true) := inEL (by decide +kernel)
theorem eq_skip_go : gEq (.str "skip") (.str "go") = some (.bool false) := strE (by decide +kernel)
theorem ne_skip_go : gNe (.str "skip") (.str "go") = some (.bool true) := strNE (by decide +kernel)
theorem eq_skip_skip : gEq (.str "skip") (.str "skip") = some (.bool true) := strE (by decide +kernel)
theorem ne_skip_skip : gNe (.str "skip") (.str "skip") = some (.bool false) := strNE (by decide +kernel)
theorem eq_skip_side : gEq (.str "skip") (.str "side") = some (.bool false) := strE (by decide +kernel)
theorem ne_skip_side : gNe (.str "skip") (.str "side") = some (.bool true) := strNE (by decide +kernel)
theorem eq_skip_dot : gEq (.str "skip") (.str "dot") = some (.bool false) := strE (by decide +kernel)
theorem ne_skip_dot : gNe (.str "skip") (.str "dot") = some (.bool true) := strNE (by decide +kernel)
theorem eq_skip_mirror : gEq (.str "skip") (.str "mirror") = some (.bool false) := strE (by decide +kernel)
theorem ne_skip_mirror : gNe (.str "skip") (.str "mirror") = some (.bool true) := strNE (by decide +kernel)
theorem eq_skip_grow : gEq (.str "skip") (.str "grow") = some (.bool false) := strE (by decide +kernel)
theorem ne_skip_grow : gNe (.str "skip") (.str "grow") = some (.bool true) := strNE (by decide +kernel)
theorem eq_skip_quarter : gEq (.str "skip") (.str "quarter") = some (.bool false) := strE (by decide +kernel)
theorem ne_skip_quarter : gNe (.str "skip") (.str "quarter") = some (.bool true) := strNE (by decide +kernel)
theorem eq_skip_half : gEq (.str "skip") (.str "half") = some (.bool false) := strE (by decide +kernel)
theorem ne_skip_half : gNe (.str "skip") (.str "half") = some (.bool true) := strNE (by decide +kernel)
theorem eq_skip_arc : gEq (.str "skip") (.str "arc") = some (.bool false) := strE (by decide +kernel)
theorem ne_skip_arc : gNe (.str "skip") (.str "arc") = some (.bool true) := strNE (by decide +kernel)
theorem eq_skip_again : gEq (.str "skip") (.str "again") = some (.bool false) := strE (by decide +kernel)
theorem ne_skip_again : gNe (.str "skip") (.str "again") = some (.bool true) := strNE (by decide +kernel)
theorem eq_skip_keep : gEq (.str "skip") (.str "keep") = some (.bool false) := strE (by decide +kernel)
theorem ne_skip_keep : gNe (.str "skip") (.str "keep") = some (.bool true) := strNE (by decide +kernel)
theorem eq_skip_ever : gEq (.str "skip") (.str "ever") = some (.bool false) := strE (by decide +kernel)
theorem ne_skip_ever : gNe (.str "skip") (.str "ever") = some (.bool true) := strNE (by decide +kernel)
theorem eq_skip_none : gEq (.str "skip") (.str "") = some (.bool false) := strE (by decide +kernel)
theorem ne_skip_none : gNe (.str "skip") (.str "") = some (.bool true) := strNE (by decide +kernel)
theorem in_skip_tuple : gIn (.str "skip") (.tuple [.str "again", .str "keep", .str "ever"]) = some (.bool false) := inET (by decide +kernel)
theorem in_skip_list : gIn (.str "skip") (.list [.str "again", .str "keep", .str "ever"]) = some (.bool false) := inEL (by decide +kernel)
theorem in_skip_six : gIn (.str "skip") (.list [.str "go", .str "side", .str "dot", .str "quarter", .str "half", .str "arc"]) = some (.bool false) := inEL (by decide +kernel)
theorem eq_side_go : gEq (.str "side") (.str "go") = some (.bool false) := strE (by decide +kernel)
theorem ne_side_go : gNe (.str "side") (.str "go") = some (.bool true) := strNE (by decide +kernel)
theorem eq_side_skip : gEq (.str "side") (.str "skip") = some (.bool false) := strE (by decide +kernel)
theorem ne_side_skip : gNe (.str "side") (.str "skip") = some (.bool true) := strNE (by decide +kernel)
theorem eq_side_side : gEq (.str "side") (.str "side") = some (.bool true) := strE (by decide +kernel)
theorem ne_side_side : gNe (.str "side") (.str "side") = some (.bool false) := strNE (by decide +kernel)
theorem eq_side_dot : gEq (.str "side") (.str "dot") = some (.bool false) := strE (by decide +kernel)
theorem ne_side_dot : gNe (.str "side") (.str "dot") = some (.bool true) := strNE (by decide +kernel)
theorem eq_side_mirror : gEq (.str "side") (.str "mirror") = some (.bool false) := strE (by decide +kernel)
theorem ne_side_mirror : gNe (.str "side") (.str "mirror") = some (.bool true) := strNE (by decide +kernel)
theorem eq_side_grow : gEq (.str "side") (.str "grow") = some (.bool false) := strE (by decide +kernel)
theorem ne_side_grow : gNe (.str "side") (.str "grow") = some (.bool true) := strNE (by decide +kernel)
theorem eq_side_quarter : gEq (.str "side") (.str "quarter") = some (.bool false) := strE (by decide +kernel)
theorem ne_side_quarter : gNe (.str "side") (.str "quarter") = some (.bool true) := strNE (by decide +kernel)
theorem eq_side_half : gEq (.str "side") (.str "half") = some (.bool false) := strE (by decide +kernel)
theorem ne_side_half : gNe (.str "side") (.str "half") = some (.bool true) := strNE (by decide +kernel)
theorem eq_side_arc : gEq (.str "side") (.str "arc") = some (.bool false) := strE (by decide +kernel)
theorem ne_side_arc : gNe (.str "side") (.str "arc") = some (.bool true) := strNE (by decide +kernel)
theorem eq_side_again : gEq (.str "side") (.str "again") = some (.bool false) := strE (by decide +kernel)
theorem ne_side_again : gNe (.str "side") (.str "again") = some (.bool true) := strNE (by decide +kernel)
theorem eq_side_keep : gEq (.str "side") (.str "keep") = some (.bool false) := strE (by decide +kernel)
theorem ne_side_keep : gNe (.str "side") (.str "keep") = some (.bool true) := strNE (by decide +kernel)
theorem eq_side_ever : gEq (.str "side") (.str "ever") = some (.bool false) := strE (by decide +kernel)
theorem ne_side_ever : gNe (.str "side") (.str "ever") = some (.bool true) := strNE (by decide +kernel)
theorem eq_side_none : gEq (.str "side") (.str "") = some (.bool false) := strE (by decide +kernel)
theorem ne_side_none : gNe (.str "side") (.str "") = some (.bool true) := strNE (by decide +kernel)
theorem in_side_tuple : gIn (.str "side") (.tuple [.str "again", .str "keep", .str "ever"]) = some (.bool false) := inET (by decide +kernel)
theorem in_side_list : gIn (.str "side") (.list [.str "again", .str "keep", .str "ever"]) = some (.bool false) := inEL (by decide +kernel)
theorem in_side_six : gIn (.str "side") (.list [.str "go", .str "side", .str "dot", .str "quarter", .str "half", .str "arc"]) = some (.bool true) := inEL (by decide +kernel)
theorem eq_dot_go : gEq (.str "dot") (.str "go") = some (.bool false) := strE (by decide +kernel)
theorem ne_dot_go : gNe (.str "dot") (.str "go") = some (.bool true) := strNE (by decide +kernel)
theorem eq_dot_skip : gEq (.str "dot") (.str "skip") = some (.bool false) := strE (by decide +kernel)
theorem ne_dot_skip : gNe (.str "dot") (.str "skip") = some (.bool true) := strNE (by decide +kernel)
theorem eq_dot_side : gEq (.str "dot") (.str "side") = some (.bool false) := strE (by decide +kernel)
theorem ne_dot_side : gNe (.str "dot") (.str "side") = some (.bool true) := strNE (by decide +kernel)
theorem eq_dot_dot : gEq (.str "dot") (.str "dot") = some (.bool true) := strE (by decide +kernel)
theorem ne_dot_dot : gNe (.str "dot") (.str "dot") = some (.bool false) := strNE (by decide +kernel)
theorem eq_dot_mirror : gEq (.str "dot") (.str "mirror") = some (.bool false) := strE (by decide +kernel)
theorem ne_dot_mirror : gNe (.str "dot") (.str "mirror") = some (.bool true) := strNE (by decide +kernel)
theorem eq_dot_grow : gEq (.str "dot") (.str "grow") = some (.bool false) := strE (by decide +kernel)
theorem ne_dot_grow : gNe (.str "dot") (.str "grow") = some (.bool true) := strNE (by decide +kernel)
theorem eq_dot_quarter : gEq (.str "dot") (.str "quarter") = some (.bool false) := strE (by decide +kernel)
theorem ne_dot_quarter : gNe (.str "dot") (.str "quarter") = some (.bool true) := strNE (by decide +kernel)
theorem eq_dot_half : gEq (.str "dot") (.str "half") = some (.bool false) := strE (by decide +kernel)
theorem ne_dot_half : gNe (.str "dot") (.str "half") = some (.bool true) := strNE (by decide +kernel)
theorem eq_dot_arc : gEq (.str "dot") (.str "arc") = some (.bool false) := strE (by decide +kernel)
theorem ne_dot_arc : gNe (.str "dot") (.str "arc") = some (.bool true) := strNE (by decide +kernel)
theorem eq_dot_again : gEq (.str "dot") (.str "again") = some (.bool false) := strE (by decide +kernel)
theorem ne_dot_again : gNe (.str "dot") (.str "again") = some (.bool true) := strNE (by decide +kernel)
theorem eq_dot_keep : gEq (.str "dot") (.str "keep") = some (.bool false) := strE (by decide +kernel)
theorem ne_dot_keep : gNe (.str "dot") (.str "keep") = some (.bool true) := strNE (by decide +kernel)
theorem eq_dot_ever : gEq (.str "dot") (.str "ever") = some (.bool false) := strE (by decide +kernel)
theorem ne_dot_ever : gNe (.str "dot") (.str "ever") = some (.bool true) := strNE (by decide +kernel)
theorem eq_dot_none : gEq (.str "dot") (.str "") = some (.bool false) := strE (by decide +kernel)
theorem ne_dot_none : gNe (.str "dot") (.str "") = some (.bool true) := strNE (by decide +kernel)
theorem in_dot_tuple : gIn (.str "dot") (.tuple [.str "again", .str "keep", .str "ever"]) = some (.bool false) := inET (by decide +kernel)
theorem in_dot_list : gIn (.str "dot") (.list [.str "again", .str "keep", .str "ever"]) = some (.bool false) := inEL (by decide +kernel)
theorem in_dot_six : gIn (.str "dot") (.list [.str "go", .str "side", .str "dot", .str "quarter", .str "half", .str "arc"]) = some (.bool true) := inEL (by decide +kernel)
theorem eq_left_go : gEq (.str "left") (.str "go") = some (.bool false) := strE (by decide +kernel)
theorem ne_left_go : gNe (.str "left") (.str "go") = some (.bool true) := strNE (by decide +kernel)
theorem eq_left_skip : gEq (.str "left") (.str "skip") = some (.bool false) := strE (by decide +kernel)
theorem ne_left_skip : gNe (.str "left") (.str "skip") = some (.bool true) := strNE (by decide +kernel)
theorem eq_left_side : gEq (.str "left") (.str "side") = some (.bool false) := strE (by decide +kernel)
theorem ne_left_side : gNe (.str "left") (.str "side") = some (.bool true) := strNE (by decide +kernel)
theorem eq_left_dot : gEq (.str "left") (.str "dot") = some (.bool false) := strE (by decide +kernel)
theorem ne_left_dot : gNe (.str "left") (.str "dot") = some (.bool true) := strNE (by decide +kernel)
theorem eq_left_mirror : gEq (.str "left") (.str "mirror") = some (.bool false) := strE (by decide +kernel)
theorem ne_left_mirror : gNe (.str "left") (.str "mirror") = some (.bool true) := strNE (by decide +kernel)
theorem eq_left_grow : gEq (.str "left") (.str "grow") = some (.bool false) := strE (by decide +kernel)
theorem ne_left_grow : gNe (.str "left") (.str "grow") = some (.bool true) := strNE (by decide +kernel)
theorem eq_left_quarter : gEq (.str "left") (.str "quarter") = some (.bool false) := strE (by decide +kernel)
theorem ne_left_quarter : gNe (.str "left") (.str "quarter") = some (.bool true) := strNE (by decide +kernel)
theorem eq_left_half : gEq (.str "left") (.str "half") = some (.bool false) := strE (by decide +kernel)
theorem ne_left_half : gNe (.str "left") (.str "half") = some (.bool true) := strNE (by decide +kernel)
theorem eq_left_arc : gEq (.str "left") (.str "arc") = some (.bool false) := strE (by decide +kernel)
theorem ne_left_arc : gNe (.str "left") (.str "arc") = some (.bool true) := strNE (by decide +kernel)
theorem eq_left_again : gEq (.str "left") (.str "again") = some (.bool false) := strE (by decide +kernel)
theorem ne_left_again : gNe (.str "left") (.str "again") = some (.bool true) := strNE (by decide +kernel)
theorem eq_left_keep : gEq (.str "left") (.str "keep") = some (.bool false) := strE (by decide +kernel)
theorem ne_left_keep : gNe (.str "left") (.str "keep") = some (.bool true) := strNE (by decide +kernel)
theorem eq_left_ever : gEq (.str "left") (.str "ever") = some (.bool false) := strE (by decide +kernel)
theorem ne_left_ever : gNe (.str "left") (.str "ever") = some (.bool true) := strNE (by decide +kernel)
theorem eq_left_none : gEq (.str "left") (.str "") = some (.bool false) := strE (by decide +kernel)
theorem ne_left_none : gNe (.str "left") (.str "") = some (.bool true) := strNE (by decide +kernel)
theorem in_left_tuple : gIn (.str "left") (.tuple [.str "again", .str "keep", .str "ever"]) = some (.bool false) := inET (by decide +kernel)
theorem in_left_list : gIn (.str "left") (.list [.str "again", .str "keep", .str "ever"]) = some (.bool false) := inEL (by decide +kernel)
theorem in_left_six : gIn (.str "left") (.list [.str "go", .str "side", .str "dot", .str "quarter", .str "half", .str "arc"]) = some (.bool false) := inEL (by decide +kernel)
theorem eq_right_go : gEq (.str "right") (.str "go") = some (.bool false) := strE (by decide +kernel)
theorem ne_right_go : gNe (.str "right") (.str "go") = some (.bool true) := strNE (by decide +kernel)
theorem eq_right_skip : gEq (.str "right") (.str "skip") = some (.bool false) := strE (by decide +kernel)
theorem ne_right_skip : gNe (.str "right") (.str "skip") = some (.bool true) := strNE (by decide +kernel)
theorem eq_right_side : gEq (.str "right") (.str "side") = some (.bool false) := strE (by decide +kernel)
theorem ne_right_side : gNe (.str "right") (.str "side") = some (.bool true) := strNE (by decide +kernel)
theorem eq_right_dot : gEq (.str "right") (.str "dot") = some (.bool false) := strE (by decide +kernel)
theorem ne_right_dot : gNe (.str "right") (.str "dot") = some (.bool true) := strNE (by decide +kernel)
theorem eq_right_mirror : gEq (.str "right") (.str "mirror") = some (.bool false) := strE (by decide +kernel)
theorem ne_right_mirror : gNe (.str "right") (.str "mirror") = some (.bool true) := strNE (by decide +kernel)
theorem eq_right_grow : gEq (.str "right") (.str "grow") = some (.bool false) := strE (by decide +kernel)
theorem ne_right_grow : gNe (.str "right") (.str "grow") = some (.bool true) := strNE (by decide +kernel)
theorem eq_right_quarter : gEq (.str "right") (.str "quarter") = some (.bool false) := strE (by decide +kernel)
theorem ne_right_quarter : gNe (.str "right") (.str "quarter") = some (.bool true) := strNE (by decide +kernel)
theorem eq_right_half : gEq (.str "right") (.str "half") = some (.bool false) := strE (by decide +kernel)
theorem ne_right_half : gNe (.str "right") (.str "half") = some (.bool true) := strNE (by decide +kernel)
theorem eq_right_arc : gEq (.str "right") (.str "arc") = some (.bool false) := strE (by decide +kernel)
theorem ne_right_arc : gNe (.str "right") (.str "arc") = some (.bool true) := strNE (by decide +kernel)
theorem eq_right_again : gEq (.str "right") (.str "again") = some (.bool false) := strE (by decide +kernel)
theorem ne_right_again : gNe (.str "right") (.str "again") = some (.bool true) := strNE (by decide +kernel)
theorem eq_right_keep : gEq (.str "right") (.str "keep") = some (.bool false) := strE (by decide +kernel)
theorem ne_right_keep : gNe (.str "right") (.str "keep") = some (.bool true) := strNE (by decide +kernel)
theorem eq_right_ever : gEq (.str "right") (.str "ever") = some (.bool false) := strE (by decide +kernel)
theorem ne_right_ever : gNe (.str "right") (.str "ever") = some (.bool true) := strNE (by decide +kernel)
theorem eq_right_none : gEq (.str "right") (.str "") = some (.bool false) := strE (by decide +kernel)
theorem ne_right_none : gNe (.str "right") (.str "") = some (.bool true) := strNE (by decide +kernel)
theorem in_right_tuple : gIn (.str "right") (.tuple [.str "again", .str "keep", .str "ever"]) = some (.bool false) := inET (by decide +kernel)
theorem in_right_list : gIn (.str "right") (.list [.str "again", .str "keep", .str "ever"]) = some (.bool false) := inEL (by decide +kernel)
theorem in_right_six : gIn (.str "right") (.list [.str "go", .str "side", .str "dot", .str "quarter", .str "half", .str "arc"]) = some (.bool false) := inEL (by decide +kernel)
theorem eq_round_go : gEq (.str "round") (.str "go") = some (.bool false) := strE (by decide +kernel)
theorem ne_round_go : gNe (.str "round") (.str "go") = some (.bool true) := strNE (by decide +kernel)
theorem eq_round_skip : gEq (.str "round") (.str "skip") = some (.bool false) := strE (by decide +kernel)
theorem ne_round_skip : gNe (.str "round") (.str "skip") = some (.bool true) := strNE (by decide +kernel)
theorem eq_round_side : gEq (.str "round") (.str "side") = some (.bool false) := strE (by decide +kernel)
theorem ne_round_side : gNe (.str "round") (.str "side") = some (.bool true) := strNE (by decide +kernel)
theorem eq_round_dot : gEq (.str "round") (.str "dot") = some (.bool false) := strE (by decide +kernel)
theorem ne_round_dot : gNe (.str "round") (.str "dot") = some (.bool true) := strNE (by decide +kernel)
theorem eq_round_mirror : gEq (.str "round") (.str "mirror") = some (.bool false) := strE (by decide +kernel)
theorem ne_round_mirror : gNe (.str "round") (.str "mirror") = some (.bool true) := strNE (by decide +kernel)
theorem eq_round_grow : gEq (.str "round") (.str "grow") = some (.bool false) := strE (by decide +kernel)
theorem ne_round_grow : gNe (.str "round") (.str "grow") = some (.bool true) := strNE (by decide +kernel)
theorem eq_round_quarter : gEq (.str "round") (.str "quarter") = some (.bool false) := strE (by decide +kernel)
theorem ne_round_quarter : gNe (.str "round") (.str "quarter") = some (.bool true) := strNE (by decide +kernel)
theorem eq_round_half : gEq (.str "round") (.str "half") = some (.bool false) := strE (by decide +kernel)
theorem ne_round_half : gNe (.str "round") (.str "half") = some (.bool true) := strNE (by decide +kernel)
theorem eq_round_arc : gEq (.str "round") (.str "arc") = some (.bool false) := strE (by decide +kernel)
theorem ne_round_arc : gNe (.str "round") (.str "arc") = some (.bool true) := strNE (by decide +kernel)
theorem eq_round_again : gEq (.str "round") (.str "again") = some (.bool false) := strE (by decide +kernel)
theorem ne_round_again : gNe (.str "round") (.str "again") = some (.bool true) := strNE (by decide +kernel)
theorem eq_round_keep : gEq (.str "round") (.str "keep") = some (.bool false) := strE (by decide +kernel)
theorem ne_round_keep : gNe (.str "round") (.str "keep") = some (.bool true) := strNE (by decide +kernel)
theorem eq_round_ever : gEq (.str "round") (.str "ever") = some (.bool false) := strE (by decide +kernel)
theorem ne_round_ever : gNe (.str "round") (.str "ever") = some (.bool true) := strNE (by decide +kernel)
theorem eq_round_none : gEq (.str "round") (.str "") = some (.bool false) := strE (by decide +kernel)
theorem ne_round_none : gNe (.str "round") (.str "") = some (.bool true) := strNE (by decide +kernel)
theorem in_round_tuple : gIn (.str "round") (.tuple [.str "again", .str "keep", .str "ever"]) = some (.bool false) := inET (by decide +kernel)
theorem in_round_list : gIn (.str "round") (.list [.str "again", .str "keep", .str "ever"]) = some (.bool false) := inEL (by decide +kernel)
theorem in_round_six : gIn (.str "round") (.list [.str "go", .str "side", .str "dot", .str "quarter", .str "half", .str "arc"]) = some (.bool false) := inEL (by decide +kernel)
theorem eq_mirror_go : gEq (.str "mirror") (.str "go") = some (.bool false) := strE (by decide +kernel)
theorem ne_mirror_go : gNe (.str "mirror") (.str "go") = some (.bool true) := strNE (by decide +kernel)
theorem eq_mirror_skip : gEq (.str "mirror") (.str "skip") = some (.bool false) := strE (by decide +kernel)
theorem ne_mirror_skip : gNe (.str "mirror") (.str "skip") = some (.bool true) := strNE (by decide +kernel)
theorem eq_mirror_side : gEq (.str "mirror") (.str "side") = some (.bool false) := strE (by decide +kernel)
theorem ne_mirror_side : gNe (.str "mirror") (.str "side") = some (.bool true) := strNE (by decide +kernel)
theorem eq_mirror_dot : gEq (.str "mirror") (.str "dot") = some (.bool false) := strE (by decide +kernel)
theorem ne_mirror_dot : gNe (.str "mirror") (.str "dot") = some (.bool true) := strNE (by decide +kernel)
theorem eq_mirror_mirror : gEq (.str "mirror") (.str "mirror") = some (.bool true) := strE (by decide +kernel)
theorem ne_mirror_mirror : gNe (.str "mirror") (.str "mirror") = some (.bool false) := strNE (by decide +kernel)
theorem eq_mirror_grow : gEq (.str "mirror") (.str "grow") = some (.bool false) := strE (by decide +kernel)
theorem ne_mirror_grow : gNe (.str "mirror") (.str "grow") = some (.bool true) := strNE (by decide +kernel)
theorem eq_mirror_quarter : gEq (.str "mirror") (.str "quarter") = some (.bool false) := strE (by decide +kernel)
theorem ne_mirror_quarter : gNe (.str "mirror") (.str "quarter") = some (.bool true) := strNE (by decide +kernel)
theorem eq_mirror_half : gEq (.str "mirror") (.str "half") = some (.bool false) := strE (by decide +kernel)
theorem ne_mirror_half : gNe (.str "mirror") (.str "half") = some (.bool true) := strNE (by decide +kernel)
theorem eq_mirror_arc : gEq (.str "mirror") (.str "arc") = some (.bool false) := strE (by decide +kernel)
theorem ne_mirror_arc : gNe (.str "mirror") (.str "arc") = some (.bool true) := strNE (by decide +kernel)
theorem eq_mirror_again : gEq (.str "mirror") (.str "again") = some (.bool false) := strE (by decide +kernel)
theorem ne_mirror_again : gNe (.str "mirror") (.str "again") = some (.bool true) := strNE (by decide +kernel)
theorem eq_mirror_keep : gEq (.str "mirror") (.str "keep") = some (.bool false) := strE (by decide +kernel)
theorem ne_mirror_keep : gNe (.str "mirror") (.str "keep") = some (.bool true) := strNE (by decide +kernel)
theorem eq_mirror_ever : gEq (.str "mirror") (.str "ever") = some (.bool false) := strE (by decide +kernel)
theorem ne_mirror_ever : gNe (.str "mirror") (.str "ever") = some (.bool true) := strNE (by decide +kernel)
theorem eq_mirror_none : gEq (.str "mirror") (.str "") = some (.bool false) := strE (by decide +kernel)
theorem ne_mirror_none : gNe (.str "mirror") (.str "") = some (.bool true) := strNE (by decide +kernel)
theorem in_mirror_tuple : gIn (.str "mirror") (.tuple [.str "again", .str "keep", .str "ever"]) = some (.bool false) := inET (by decide +kernel)
theorem in_mirror_list : gIn (.str "mirror") (.list [.str "again", .str "keep", .str "ever"]) = some (.bool false) := inEL (by decide +kernel)
theorem in_mirror_six : gIn (.str "mirror") (.list [.str "go", .str "side", .str "dot", .str "quarter", .str "half", .str "arc"]) = some (.bool false) := inEL (by decide +kernel)
theorem eq_grow_go : gEq (.str "grow") (.str "go") = some (.bool false) := strE (by decide +kernel)
theorem ne_grow_go : gNe (.str "grow") (.str "go") = some (.bool true) := strNE (by decide +kernel)
theorem eq_grow_skip : gEq (.str "grow") (.str "skip") = some (.bool false) := strE (by decide +kernel)
theorem ne_grow_skip : gNe (.str "grow") (.str "skip") = some (.bool true) := strNE (by decide +kernel)
theorem eq_grow_side : gEq (.str "grow") (.str "side") = some (.bool false) := strE (by decide +kernel)
theorem ne_grow_side : gNe (.str "grow") (.str "side") = some (.bool true) := strNE (by decide +kernel)
theorem eq_grow_dot : gEq (.str "grow") (.str "dot") = some (.bool false) := strE (by decide +kernel)
theorem ne_grow_dot : gNe (.str "grow") (.str "dot") = some (.bool true) := strNE (by decide +kernel)
theorem eq_grow_mirror : gEq (.str "grow") (.str "mirror") = some (.bool false) := strE (by decide +kernel)
theorem ne_grow_mirror : gNe (.str "grow") (.str "mirror") = some (.bool true) := strNE (by decide +kernel)
theorem eq_grow_grow : gEq (.str "grow") (.str "grow") = some (.bool true) := strE (by decide +kernel)
theorem ne_grow_grow : gNe (.str "grow") (.str "grow") = some (.bool false) := strNE (by decide +kernel)
theorem eq_grow_quarter : gEq (.str "grow") (.str "quarter") = some (.bool false) := strE (by decide +kernel)
theorem ne_grow_quarter : gNe (.str "grow") (.str "quarter") = some (.bool true) := strNE (by decide +kernel)
theorem eq_grow_half : gEq (.str "grow") (.str "half") = some (.bool false) := strE (by decide +kernel)
theorem ne_grow_half : gNe (.str "grow") (.str "half") = some (.bool true) := strNE (by decide +kernel)
theorem eq_grow_arc : gEq (.str "grow") (.str "arc") = some (.bool false) := strE (by decide +kernel)
theorem ne_grow_arc : gNe (.str "grow") (.str "arc") = some (.bool true) := strNE (by decide +kernel)
theorem eq_grow_again : gEq (.str "grow") (.str "again") = some (.bool false) := strE (by decide +kernel)
theorem ne_grow_again : gNe (.str "grow") (.str "again") = some (.bool true) := strNE (by decide +kernel)
theorem eq_grow_keep : gEq (.str "grow") (.str "keep") = some (.bool false) := strE (by decide +kernel)
theorem ne_grow_keep : gNe (.str "grow") (.str "keep") = some (.bool true) := strNE (by decide +kernel)
theorem eq_grow_ever : gEq (.str "grow") (.str "ever") = some (.bool false) := strE (by decide +kernel)
theorem ne_grow_ever : gNe (.str "grow") (.str "ever") = some (.bool true) := strNE (by decide +kernel)
theorem eq_grow_none : gEq (.str "grow") (.str "") = some (.bool false) := strE (by decide +kernel)
theorem ne_grow_none : gNe (.str "grow") (.str "") = some (.bool true) := strNE (by decide +kernel)
theorem in_grow_tuple : gIn (.str "grow") (.tuple [.str "again", .str "keep", .str "ever"]) = some (.bool false) := inET (by decide +kernel)
theorem in_grow_list : gIn (.str "grow") (.list [.str "again", .str "keep", .str "ever"]) = some (.bool false) := inEL (by decide +kernel)
theorem in_grow_six : gIn (.str "grow") (.list [.str "go", .str "side", .str "dot", .str "quarter", .str "half", .str "arc"]) = some (.bool false) := inEL (by decide +kernel)
theorem eq_quarter_go : gEq (.str "quarter") (.str "go") = some (.bool false) := strE (by decide +kernel)
theorem ne_quarter_go : gNe (.str "quarter") (.str "go") = some (.bool true) := strNE (by decide +kernel)
theorem eq_quarter_skip : gEq (.str "quarter") (.str "skip") = some (.bool false) := strE (by decide +kernel)
theorem ne_quarter_skip : gNe (.str "quarter") (.str "skip") = some (.bool true) := strNE (by decide +kernel)
theorem eq_quarter_side : gEq (.str "quarter") (.str "side") = some (.bool false) := strE (by decide +kernel)
theorem ne_quarter_side : gNe (.str "quarter") (.str "side") = some (.bool true) := strNE (by decide +kernel)
theorem eq_quarter_dot : gEq (.str "quarter") (.str "dot") = some (.bool false) := strE (by decide +kernel)
theorem ne_quarter_dot : gNe (.str "quarter") (.str "dot") = some (.bool true) := strNE (by decide +kernel)
theorem eq_quarter_mirror : gEq (.str "quarter") (.str "mirror") = some (.bool false) := strE (by decide +kernel)
theorem ne_quarter_mirror : gNe (.str "quarter") (.str "mirror") = some (.bool true) := strNE (by decide +kernel)
theorem eq_quarter_grow : gEq (.str "quarter") (.str "grow") = some (.bool false) := strE (by decide +kernel)
theorem ne_quarter_grow : gNe (.str "quarter") (.str "grow") = some (.bool true) := strNE (by decide +kernel)
theorem eq_quarter_quarter : gEq (.str "quarter") (.str "quarter") = some (.bool true) := strE (by decide +kernel)
theorem ne_quarter_quarter : gNe (.str "quarter") (.str "quarter") = some (.bool false) := strNE (by decide +kernel)
theorem eq_quarter_half : gEq (.str "quarter") (.str "half") = some (.bool false) := strE (by decide +kernel)
theorem ne_quarter_half : gNe (.str "quarter") (.str "half") = some (.bool true) := strNE (by decide +kernel)
theorem eq_quarter_arc : gEq (.str "quarter") (.str "arc") = some (.bool false) := strE (by decide +kernel)
theorem ne_quarter_arc : gNe (.str "quarter") (.str "arc") = some (.bool true) := strNE (by decide +kernel)
theorem eq_quarter_again : gEq (.str "quarter") (.str "again") = some (.bool false) := strE (by decide +kernel)
theorem ne_quarter_again : gNe (.str "quarter") (.str "again") = some (.bool true) := strNE (by decide +kernel)
theorem eq_quarter_keep : gEq (.str "quarter") (.str "keep") = some (.bool false) := strE (by decide +kernel)
theorem ne_quarter_keep : gNe (.str "quarter") (.str "keep") = some (.bool true) := strNE (by decide +kernel)
theorem eq_quarter_ever : gEq (.str "quarter") (.str "ever") = some (.bool false) := strE (by decide +kernel)
theorem ne_quarter_ever : gNe (.str "quarter") (.str "ever") = some (.bool true) := strNE (by decide +kernel)
theorem eq_quarter_none : gEq (.str "quarter") (.str "") = some (.bool false) := strE (by decide +kernel)
theorem ne_quarter_none : gNe (.str "quarter") (.str "") = some (.bool true) := strNE (by decide +kernel)
theorem in_quarter_tuple : gIn (.str "quarter") (.tuple [.str "again", .str "keep", .str "ever"]) = some (.bool false) := inET (by decide +kernel)
theorem in_quarter_list : gIn (.str "quarter") (.list [.str "again", .str "keep", .str "ever"]) = some (.bool false) := inEL (by decide +kernel)
theorem in_quarter_six : gIn (.str "quarter") (.list [.str "go", .str "side", .str "dot", .str "quarter", .str "half", .str "arc"]) = some (.bool true) := inEL (by decide +kernel)
theorem eq_half_go : gEq (.str "half") (.str "go") = some (.bool false) := strE (by decide +kernel)
theorem ne_half_go : gNe (.str "half") (.str "go") = some (.bool true) := strNE (by decide +kernel)
theorem eq_half_skip : gEq (.str "half") (.str "skip") = some (.bool false) := strE (by decide +kernel)
theorem ne_half_skip : gNe (.str "half") (.str "skip") = some (.bool true) := strNE (by decide +kernel)
theorem eq_half_side : gEq (.str "half") (.str "side") = some (.bool false) := strE (by decide +kernel)
theorem ne_half_side : gNe (.str "half") (.str "side") = some (.bool true) := strNE (by decide +kernel)
theorem eq_half_dot : gEq (.str "half") (.str "dot") = some (.bool false) := strE (by decide +kernel)
theorem ne_half_dot : gNe (.str "half") (.str "dot") = some (.bool true) := strNE (by decide +kernel)
theorem eq_half_mirror : gEq (.str "half") (.str "mirror") = some (.bool false) := strE (by decide +kernel)
theorem ne_half_mirror : gNe (.str "half") (.str "mirror") = some (.bool true) := strNE (by decide +kernel)
theorem eq_half_grow : gEq (.str "half") (.str "grow") = some (.bool false) := strE (by decide +kernel)
theorem ne_half_grow : gNe (.str "half") (.str "grow") = some (.bool true) := strNE (by decide +kernel)
theorem eq_half_quarter : gEq (.str "half") (.str "quarter") = some (.bool false) := strE (by decide +kernel)
theorem ne_half_quarter : gNe (.str "half") (.str "quarter") = some (.bool true) := strNE (by decide +kernel)
theorem eq_half_half : gEq (.str "half") (.str "half") = some (.bool true) := strE (by decide +kernel)
theorem ne_half_half : gNe (.str "half") (.str "half") = some (.bool false) := strNE (by decide +kernel)
theorem eq_half_arc : gEq (.str "half") (.str "arc") = some (.bool false) := strE (by decide +kernel)
theorem ne_half_arc : gNe (.str "half") (.str "arc") = some (.bool true) := strNE (by decide +kernel)
theorem eq_half_again : gEq (.str "half") (.str "again") = some (.bool false) := strE (by decide +kernel)
theorem ne_half_again : gNe (.str "half") (.str "again") = some (.bool true) := strNE (by decide +kernel)
theorem eq_half_keep : gEq (.str "half") (.str "keep") = some (.bool false) := strE (by decide +kernel)
theorem ne_half_keep : gNe (.str "half") (.str "keep") = some (.bool true) := strNE (by decide +kernel)
theorem eq_half_ever : gEq (.str "half") (.str "ever") = some (.bool false) := strE (by decide +kernel)
theorem ne_half_ever : gNe (.str "half") (.str "ever") = some (.bool true) := strNE (by decide +kernel)
theorem eq_half_none : gEq (.str "half") (.str "") = some (.bool false) := strE (by decide +kernel)
theorem ne_half_none : gNe (.str "half") (.str "") = some (.bool true) := strNE (by decide +kernel)
theorem in_half_tuple : gIn (.str "half") (.tuple [.str "again", .str "keep", .str "ever"]) = some (.bool false) := inET (by decide +kernel)
theorem in_half_list : gIn (.str "half") (.list [.str "again", .str "keep", .str "ever"]) = some (.bool false) := inEL (by decide +kernel)
theorem in_half_six : gIn (.str "half") (.list [.str "go", .str "side", .str "dot", .str "quarter", .str "half", .str "arc"]) = some (.bool true) := inEL (by decide +kernel)
theorem eq_arc_go : gEq (.str "arc") (.str "go") = some (.bool false) := strE (by decide +kernel)
theorem ne_arc_go : gNe (.str "arc") (.str "go") = some (.bool true) := strNE (by decide +kernel)
theorem eq_arc_skip : gEq (.str "arc") (.str "skip") = some (.bool false) := strE (by decide +kernel)
theorem ne_arc_skip : gNe (.str "arc") (.str "skip") = some (.bool true) := strNE (by decide +kernel)
theorem eq_arc_side : gEq (.str "arc") (.str "side") = some (.bool false) := strE (by decide +kernel)
theorem ne_arc_side : gNe (.str "arc") (.str "side") = some (.bool true) := strNE (by decide +kernel)
theorem eq_arc_dot : gEq (.str "arc") (.str "dot") = some (.bool false) := strE (by decide +kernel)
theorem ne_arc_dot : gNe (.str "arc") (.str "dot") = some (.bool true) := strNE (by decide +kernel)
theorem eq_arc_mirror : gEq (.str "arc") (.str "mirror") = some (.bool false) := strE (by decide +kernel)
theorem ne_arc_mirror : gNe (.str "arc") (.str "mirror") = some (.bool true) := strNE (by decide +kernel)
theorem eq_arc_grow : gEq (.str "arc") (.str "grow") = some (.bool false) := strE (by decide +kernel)
theorem ne_arc_grow : gNe (.str "arc") (.str "grow") = some (.bool true) := strNE (by decide +kernel)
theorem eq_arc_quarter : gEq (.str "arc") (.str "quarter") = some (.bool false) := strE (by decide +kernel)
theorem ne_arc_quarter : gNe (.str "arc") (.str "quarter") = some (.bool true) := strNE (by decide +kernel)
theorem eq_arc_half : gEq (.str "arc") (.str "half") = some (.bool false) := strE (by decide +kernel)
theorem ne_arc_half : gNe (.str "arc") (.str "half") = some (.bool true) := strNE (by decide +kernel)
theorem eq_arc_arc : gEq (.str "arc") (.str "arc") = some (.bool true) := strE (by decide +kernel)
theorem ne_arc_arc : gNe (.str "arc") (.str "arc") = some (.bool false) := strNE (by decide +kernel)
theorem eq_arc_again : gEq (.str "arc") (.str "again") = some (.bool false) := strE (by decide +kernel)
theorem ne_arc_again : gNe (.str "arc") (.str "again") = some (.bool true) := strNE (by decide +kernel)
theorem eq_arc_keep : gEq (.str "arc") (.str "keep") = some (.bool false) := strE (by decide +kernel)
theorem ne_arc_keep : gNe (.str "arc") (.str "keep") = some (.bool true) := strNE (by decide +kernel)
theorem eq_arc_ever : gEq (.str "arc") (.str "ever") = some (.bool false) := strE (by decide +kernel)
theorem ne_arc_ever : gNe (.str "arc") (.str "ever") = some (.bool true) := strNE (by decide +kernel)
theorem eq_arc_none : gEq (.str "arc") (.str "") = some (.bool false) := strE (by decide +kernel)
theorem ne_arc_none : gNe (.str "arc") (.str "") = some (.bool true) := strNE (by decide +kernel)
theorem in_arc_tuple : gIn (.str "arc") (.tuple [.str "again", .str "keep", .str "ever"]) = some (.bool false) := inET (by decide +kernel)
theorem in_arc_list : gIn (.str "arc") (.list [.str "again", .str "keep", .str "ever"]) = some (.bool false) := inEL (by decide +kernel)
theorem in_arc_six : gIn (.str "arc") (.list [.str "go", .str "side", .str "dot", .str "quarter", .str "half", .str "arc"]) = some (.bool true) := inEL (by decide +kernel)
theorem eq_again_go : gEq (.str "again") (.str "go") = some (.bool false) := strE (by decide +kernel)
theorem ne_again_go : gNe (.str "again") (.str "go") = some (.bool true) := strNE (by decide +kernel)
theorem eq_again_skip : gEq (.str "again") (.str "skip") = some (.bool false) := strE (by decide +kernel)
theorem ne_again_skip : gNe (.str "again") (.str "skip") = some (.bool true) := strNE (by decide +kernel)
theorem eq_again_side : gEq (.str "again") (.str "side") = some (.bool false) := strE (by decide +kernel)
theorem ne_again_side : gNe (.str "again") (.str "side") = some (.bool true) := strNE (by decide +kernel)
theorem eq_again_dot : gEq (.str "again") (.str "dot") = some (.bool false) := strE (by decide +kernel)
theorem ne_again_dot : gNe (.str "again") (.str "dot") = some (.bool true) := strNE (by decide +kernel)
theorem eq_again_mirror : gEq (.str "again") (.str "mirror") = some (.bool false) := strE (by decide +kernel)
theorem ne_again_mirror : gNe (.str "again") (.str "mirror") = some (.bool true) := strNE (by decide +kernel)
theorem eq_again_grow : gEq (.str "again") (.str "grow") = some (.bool false) := strE (by decide +kernel)
theorem ne_again_grow : gNe (.str "again") (.str "grow") = some (.bool true) := strNE (by decide +kernel)
theorem eq_again_quarter : gEq (.str "again") (.str "quarter") = some (.bool false) := strE (by decide +kernel)
theorem ne_again_quarter : gNe (.str "again") (.str "quarter") = some (.bool true) := strNE (by decide +kernel)
theorem eq_again_half : gEq (.str "again") (.str "half") = some (.bool false) := strE (by decide +kernel)
theorem ne_again_half : gNe (.str "again") (.str "half") = some (.bool true) := strNE (by decide +kernel)
theorem eq_again_arc : gEq (.str "again") (.str "arc") = some (.bool false) := strE (by decide +kernel)
theorem ne_again_arc : gNe (.str "again") (.str "arc") = some (.bool true) := strNE (by decide +kernel)
theorem eq_again_again : gEq (.str "again") (.str "again") = some (.bool true) := strE (by decide +kernel)
theorem ne_again_again : gNe (.str "again") (.str "again") = some (.bool false) := strNE (by decide +kernel)
theorem eq_again_keep : gEq (.str "again") (.str "keep") = some (.bool false) := strE (by decide +kernel)
theorem ne_again_keep : gNe (.str "again") (.str "keep") = some (.bool true) := strNE (by decide +kernel)
theorem eq_again_ever : gEq (.str "again") (.str "ever") = some (.bool false) := strE (by decide +kernel)
theorem ne_again_ever : gNe (.str "again") (.str "ever") = some (.bool true) := strNE (by decide +kernel)
theorem eq_again_none : gEq (.str "again") (.str "") = some (.bool false) := strE (by decide +kernel)
theorem ne_again_none : gNe (.str "again") (.str "") = some (.bool true) := strNE (by decide +kernel)
theorem in_again_tuple : gIn (.str "again") (.tuple [.str "again", .str "keep", .str "ever"]) = some (.bool true) := inET (by decide +kernel)
theorem in_again_list : gIn (.str "again") (.list [.str "again", .str "keep", .str "ever"]) = some (.bool true) := inEL (by decide +kernel)
theorem in_again_six : gIn (.str "again") (.list [.str "go", .str "side", .str "dot", .str "quarter", .str "half", .str "arc"]) = some (.bool false) := inEL (by decide +kernel)
theorem eq_keep_go : gEq (.str "keep") (.str "go") = some (.bool false) := strE (by decide +kernel)
theorem ne_keep_go : gNe (.str "keep") (.str "go") = some (.bool true) := strNE (by decide +kernel)
theorem eq_keep_skip : gEq (.str "keep") (.str "skip") = some (.bool false) := strE (by decide +kernel)
theorem ne_keep_skip : gNe (.str "keep") (.str "skip") = some (.bool true) := strNE (by decide +kernel)
theorem eq_keep_side : gEq (.str "keep") (.str "side") = some (.bool false) := strE (by decide +kernel)
theorem ne_keep_side : gNe (.str "keep") (.str "side") = some (.bool true) := strNE (by decide +kernel)
theorem eq_keep_dot : gEq (.str "keep") (.str "dot") = some (.bool false) := strE (by decide +kernel)
theorem ne_keep_dot : gNe (.str "keep") (.str "dot") = some (.bool true) := strNE (by decide +kernel)
theorem eq_keep_mirror : gEq (.str "keep") (.str "mirror") = some (.bool false) := strE (by decide +kernel)
theorem ne_keep_mirror : gNe (.str "keep") (.str "mirror") = some (.bool true) := strNE (by decide +kernel)
theorem eq_keep_grow : gEq (.str "keep") (.str "grow") = some (.bool false) := strE (by decide +kernel)
theorem ne_keep_grow : gNe (.str "keep") (.str "grow") = some (.bool true) := strNE (by decide +kernel)
theorem eq_keep_quarter : gEq (.str "keep") (.str "quarter") = some (.bool false) := strE (by decide +kernel)
theorem ne_keep_quarter : gNe (.str "keep") (.str "quarter") = some (.bool true) := strNE (by decide +kernel)
theorem eq_keep_half : gEq (.str "keep") (.str "half") = some (.bool false) := strE (by decide +kernel)
theorem ne_keep_half : gNe (.str "keep") (.str "half") = some (.bool true) := strNE (by decide +kernel)
theorem eq_keep_arc : gEq (.str "keep") (.str "arc") = some (.bool false) := strE (by decide +kernel)
theorem ne_keep_arc : gNe (.str "keep") (.str "arc") = some (.bool true) := strNE (by decide +kernel)
theorem eq_keep_again : gEq (.str "keep") (.str "again") = some (.bool false) := strE (by decide +kernel)
theorem ne_keep_again : gNe (.str "keep") (.str "again") = some (.bool true) := strNE (by decide +kernel)
theorem eq_keep_keep : gEq (.str "keep") (.str "keep") = some (.bool true) := strE (by decide +kernel)
theorem ne_keep_keep : gNe (.str "keep") (.str "keep") = some (.bool false) := strNE (by decide +kernel)
theorem eq_keep_ever : gEq (.str "keep") (.str "ever") = some (.bool false) := strE (by decide +kernel)
theorem ne_keep_ever : gNe (.str "keep") (.str "ever") = some (.bool true) := strNE (by decide +kernel)
theorem eq_keep_none : gEq (.str "keep") (.str "") = some (.bool false) := strE (by decide +kernel)
theorem ne_keep_none : gNe (.str "keep") (.str "") = some (.bool true) := strNE (by decide +kernel)
theorem in_keep_tuple : gIn (.str "keep") (.tuple [.str "again", .str "keep", .str "ever"]) = some (.bool true) := inET (by decide +kernel)
theorem in_keep_list : gIn (.str "keep") (.list [.str "again", .str "keep", .str "ever"]) = some (.bool true) := inEL (by decide +kernel)
theorem in_keep_six : gIn (.str "keep") (.list [.str "go", .str "side", .str "dot", .str "quarter", .str "half", .str "arc"]) = some (.bool false) := inEL (by decide +kernel)
theorem eq_ever_go : gEq (.str "ever") (.str "go") = some (.bool false) := strE (by decide +kernel)
theorem ne_ever_go : gNe (.str "ever") (.str "go") = some (.bool true) := strNE (by decide +kernel)
theorem eq_ever_skip : gEq (.str "ever") (.str "skip") = some (.bool false) := strE (by decide +kernel)
theorem ne_ever_skip : gNe (.str "ever") (.str "skip") = some (.bool true) := strNE (by decide +kernel)
theorem eq_ever_side : gEq (.str "ever") (.str "side") = some (.bool false) := strE (by decide +kernel)
theorem ne_ever_side : gNe (.str "ever") (.str "side") = some (.bool true) := strNE (by decide +kernel)
theorem eq_ever_dot : gEq (.str "ever") (.str "dot") = some (.bool false) := strE (by decide +kernel)
theorem ne_ever_dot : gNe (.str "ever") (.str "dot") = some (.bool true) := strNE (by decide +kernel)
theorem eq_ever_mirror : gEq (.str "ever") (.str "mirror") = some (.bool false) := strE (by decide +kernel)
theorem ne_ever_mirror : gNe (.str "ever") (.str "mirror") = some (.bool true) := strNE (by decide +kernel)
theorem eq_ever_grow : gEq (.str "ever") (.str "grow") = some (.bool false) := strE (by decide +kernel)
theorem ne_ever_grow : gNe (.str "ever") (.str "grow") = some (.bool true) := strNE (by decide +kernel)
theorem eq_ever_quarter : gEq (.str "ever") (.str "quarter") = some (.bool false) := strE (by decide +kernel)
theorem ne_ever_quarter : gNe (.str "ever") (.str "quarter") = some (.bool true) := strNE (by decide +kernel)
theorem eq_ever_half : gEq (.str "ever") (.str "half") = some (.bool false) := strE (by decide +kernel)
theorem ne_ever_half : gNe (.str "ever") (.str "half") = some (.bool true) := strNE (by decide +kernel)
theorem eq_ever_arc : gEq (.str "ever") (.str "arc") = some (.bool false) := strE (by decide +kernel)
theorem ne_ever_arc : gNe (.str "ever") (.str "arc") = some (.bool true) := strNE (by decide +kernel)
theorem eq_ever_again : gEq (.str "ever") (.str "again") = some (.bool false) := strE (by decide +kernel)
theorem ne_ever_again : gNe (.str "ever") (.str "again") = some (.bool true) := strNE (by decide +kernel)
theorem eq_ever_keep : gEq (.str "ever") (.str "keep") = some (.bool false) := strE (by decide +kernel)
theorem ne_ever_keep : gNe (.str "ever") (.str "keep") = some (.bool true) := strNE (by decide +kernel)
theorem eq_ever_ever : gEq (.str "ever") (.str "ever") = some (.bool true) := strE (by decide +kernel)
theorem ne_ever_ever : gNe (.str "ever") (.str "ever") = some (.bool false) := strNE (by decide +kernel)
theorem eq_ever_none : gEq (.str "ever") (.str "") = some (.bool false) := strE (by decide +kernel)
theorem ne_ever_none : gNe (.str "ever") (.str "") = some (.bool true) := strNE (by decide +kernel)
theorem in_ever_tuple : gIn (.str "ever") (.tuple [.str "again", .str "keep", .str "ever"]) = some (.bool true) := inET (by decide +kernel)
theorem in_ever_list : gIn (.str "ever") (.list [.str "again", .str "keep", .str "ever"]) = some (.bool true) := inEL (by decide +kernel)
theorem in_ever_six : gIn (.str "ever") (.list [.str "go", .str "side", .str "dot", .str "quarter", .str "half", .str "arc"]) = some (.bool false) := inEL (by decide +kernel)
/-! ## plain rows -/
inductive Pl where
  | go (a : Rat)
  | skip (a : Rat)
  | side (a b : Rat)
  | dot
  | left
  | right
  | round
  | mirror
  | grow (a : Rat)
  | quarter (a : Rat)
  | half (a : Rat)
  | arc (a b c d : Rat)
def plD : Pl → PyData
  | .go a => .tuple [.str "go", fr a]
  | .skip a => .tuple [.str "skip", fr a]
  | .side a b => .tuple [.str "side", fr a, fr b]
  | .dot => .tuple [.str "dot"]
  | .left => .tuple [.str "left"]
  | .right => .tuple [.str "right"]
  | .round => .tuple [.str "round"]
  | .mirror => .tuple [.str "mirror"]
  | .grow a => .tuple [.str "grow", fr a]
  | .quarter a => .tuple [.str "quarter", fr a]
  | .half a => .tuple [.str "half", fr a]
  | .arc a b c d => .tuple [.str "arc", fr a, fr b, fr c, fr d]
/-- a number of a row -/
abbrev RB (E : Nat) (r : Rat) : Prop := Bd E 1048576 r
def farR (p q : Pt) : Rat := (p.1 - q.1) * (p.1 - q.1) + (p.2 - q.2) * (p.2 - q.2)
def PlOk (E : Nat) : Pl → Prop
  | .go a => RB E a
  | .skip a => RB E a
  | .side a b => RB E a ∧ RB E b
  | .grow a => 1 ≤ a.num ∧ a.num ≤ 12 ∧ a.den ≤ 12
  | .quarter a => RB E a ∧ a ≠ 0
  | .half a => RB E a ∧ a ≠ 0
  | .arc a b c d => RB E a ∧ RB E b ∧ RB E c ∧ RB E d ∧ ((a, b) : Pt) ≠ (0, 0) ∧ farR (a, b) (0, 0) = farR (a, b) (c, d)
  | _ => True
def stoodF (p : Pt) (t : _root_.Fin 4) : Fm := ⟨p.1, p.2, t, false, 1⟩
def absR (a : Rat) : Rat := if 0 < a then a else -a
def arcP (c p q : Pt) : Pc := if p = q then .ring c p else .arc c p q
def bowP (n : Rat) (p : Pt) : Pc := if 0 < n then arcP (0, n) (0, 0) p else arcP (0, n) p (0, 0)
def told : Pl → Fm
  | .go a => stoodF (a, 0) 0
  | .skip a => stoodF (a, 0) 0
  | .side a b => stoodF (a, b) 0
  | .dot => fst0
  | .left => stoodF (0, 0) 1
  | .right => stoodF (0, 0) 3
  | .round => stoodF (0, 0) 2
  | .mirror => ⟨0, 0, 0, true, 1⟩
  | .grow a => ⟨0, 0, 0, false, a⟩
  | .quarter a => stoodF (absR a, a) (if 0 < a then 1 else 3)
  | .half a => stoodF (0, a + a) 2
  | .arc _ _ c d => stoodF (c, d) 0
def pieceP : Pl → Option Pc
  | .go a => some (mkStr (0, 0) (a, 0))
  | .side a b => some (mkStr (0, 0) (a, b))
  | .dot => some (.dot (0, 0))
  | .quarter a => some (bowP a (absR a, a))
  | .half a => some (bowP a (0, a + a))
  | .arc a b c d => some (arcP (a, b) (0, 0) (c, d))
  | _ => none
def optD : Option Pc → PyData
  | none => .none
  | some P => pcD P
theorem RB.sm {E : Nat} {r : Rat} (h : RB E r) (hE : E ≤ 2 ^ 640) : Sm r := by
  have : Bd (E * 1) 1048576 r := by rwa [Nat.mul_one]
  exact this.fit hE (Nat.le_trans (by decide) (Nat.pow_le_pow_right (show 0 < 2 by decide) (show 1 ≤ 3840 by decide))) (Nat.le_trans (show 1048576 ≤ 2 ^ 20 by decide) (Nat.pow_le_pow_right (by decide) (by decide)))
theorem RB.neg {E : Nat} {r : Rat} (h : RB E r) : RB E (-r) := Bd.neg h
/-- sums and products of row numbers -/
theorem bdE2 {E m : Nat} {r : Rat} (h : Bd (E * E) m r) (hE : E ≤ 2 ^ 640) (hm : m ≤ 2 ^ 50000) : Sm r := h.fit hE (Nat.le_trans hE (Nat.pow_le_pow_right (by decide) (by decide))) hm
theorem far_ev {E m : Nat} {p q : Pt} (h1 : Bd E m p.1) (h2 : Bd E m p.2) (h3 : Bd E m q.1) (h4 : Bd E m q.2) (hE : E ≤ 2 ^ 640) (hm : m ≤ 2 ^ 100) : far_G [ptD p, ptD q] = some (fr (farR p q)) := by
  have sE : ∀ {n : Nat} {r : Rat}, n ≤ 2 ^ 1000 → Bd E n r → Sm r := fun {n r} hn h => by
    have : Bd (E * 1) n r := by rwa [Nat.mul_one]
    exact this.fit hE (Nat.le_trans (by decide) (Nat.pow_le_pow_right (show 0 < 2 by decide) (show 1 ≤ 3840 by decide))) (Nat.le_trans hn (Nat.pow_le_pow_right (by decide) (by decide)))
  have hm1 : m ≤ 2 ^ 1000 := Nat.le_trans hm (Nat.pow_le_pow_right (by decide) (by decide))
  have hmm : m + m ≤ 2 ^ 101 := by
    have : (2 : Nat) ^ 101 = 2 ^ 100 + 2 ^ 100 := by decide
    omega
  have hmm1 : m + m ≤ 2 ^ 1000 := Nat.le_trans hmm (Nat.pow_le_pow_right (by decide) (by decide))
  have sub : ∀ {a b : Rat}, Bd E m a → Bd E m b → Bd E (m + m) (a - b) := fun {a b} ha hb => by
    have := ha.add hb.neg
    rw [Rat.sub_eq_add_neg]
    exact this
  have d1 := sub h1 h3
  have d2 := sub h2 h4
  have q1 := d1.mul d1
  have q2 := d2.mul d2
  have hq : (m + m) * (m + m) ≤ 2 ^ 50000 := by
    have := Nat.mul_le_mul hmm hmm
    rw [← Nat.pow_add] at this
    exact Nat.le_trans this (Nat.pow_le_pow_right (by decide) (by decide))
  have e1 := off_ev (sE hm1 h1) (sE hm1 h2) (sE hm1 h3) (sE hm1 h4)
  have e2 := times_ev (sE hmm1 d1) (sE hmm1 d1)
  have e3 := times_ev (sE hmm1 d2) (sE hmm1 d2)
  have e4 := plus_ev (bdE2 q1 hE hq) (bdE2 q2 hE hq)
  have ea : along_G [ptD (p.1 - q.1, p.2 - q.2), ptD (p.1 - q.1, p.2 - q.2)] = some (fr (farR p q)) := by
    simp only [along_G, F_along]
    simp [f1, f2, fV, fC, fCons, fNil, fSeq, fSet, fRet, fIf, fNext, fNever, fAnd, fOr, fAndV, fOrV, fUnp, fPar, fSl, fChain, tgF, tgN, gTu, gLs, startR, defG, outV, on1, on2, gB, gNot, gNotV, gI, ptD, ixT, atI, ixN, e2, e3, e4, farR]
  simp only [far_G, F_far]
  simp [f1, f2, fV, fC, fCons, fNil, fSeq, fSet, fRet, fIf, fNext, fNever, fAnd, fOr, fAndV, fOrV, fUnp, fPar, fSl, fChain, tgF, tgN, gTu, gLs, startR, defG, outV, on1, on2, gB, gNot, gNotV, gI, e1, ea]
theorem gNe_fr (a b : Rat) : gNe (fr a) (fr b) = some (.bool (!decide (a = b))) := by
  have h := gEq_fr a b
  unfold gEq at h
  unfold gNe
  split at h
  · rename_i hc
    rw [if_pos hc, PyData.bool.inj (Option.some.inj h)]
  · cases h
theorem gNe_pt (a b : Pt) : gNe (ptD a) (ptD b) = some (.bool (!decide (a = b))) := by
  have h := gEq_pt a b
  unfold gEq at h
  unfold gNe
  split at h
  · rename_i hc
    rw [if_pos hc, PyData.bool.inj (Option.some.inj h)]
  · cases h
theorem arc_ev {E m : Nat} {c p q : Pt} (hc : Bd E m c.1 ∧ Bd E m c.2) (hp : Bd E m p.1 ∧ Bd E m p.2) (hq : Bd E m q.1 ∧ Bd E m q.2) (hE : E ≤ 2 ^ 640) (hm : m ≤ 2 ^ 100) (hf : farR c p = farR c q) (hn : c ≠ p) : arc_G [ptD c, ptD p, ptD q] = some (pcD (arcP c p q)) := by
  have e1 := far_ev hc.1 hc.2 hp.1 hp.2 hE hm
  have e2 := far_ev hc.1 hc.2 hq.1 hq.2 hE hm
  rw [← hf] at e2
  simp only [arc_G, F_arc]
  unfold arcP
  by_cases h : p = q
  · subst h
    simp [f1, f2, fV, fC, fCons, fNil, fSeq, fSet, fRet, fIf, fNext, fNever, fAnd, fOr, fAndV, fOrV, fUnp, fPar, fSl, fChain, tgF, tgN, gTu, gLs, startR, defG, outV, on1, on2, gB, gNot, gNotV, gI, e1, gNe_fr, gEq_pt, hn, pcD]
  · simp [f1, f2, fV, fC, fCons, fNil, fSeq, fSet, fRet, fIf, fNext, fNever, fAnd, fOr, fAndV, fOrV, fUnp, fPar, fSl, fChain, tgF, tgN, gTu, gLs, startR, defG, outV, on1, on2, gB, gNot, gNotV, gI, e1, e2, gNe_fr, gEq_pt, hn, h, pcD]
end Arc
set_option Elab.async false
set_option linter.all false
set_option maxRecDepth 100000
set_option maxHeartbeats 1000000
set_option exponentiation.threshold 200
namespace Arc
open PySem L2
theorem fr00 : PyData.tuple [.int 0, .int 1] = fr 0 := rfl
theorem fr11 : PyData.tuple [.int 1, .int 1] = fr 1 := rfl
theorem pt_fold (a b : Rat) : PyData.tuple [fr a, fr b] = ptD (a, b) := rfl
theorem stood_ev (p : Pt) (t : _root_.Fin 4) : stood_G [ptD p, .int (t.val : Int)] = some (fmD (stoodF p t)) := rfl
theorem stood_ev0 (p : Pt) : stood_G [ptD p, .int 0] = some (fmD (stoodF p 0)) := rfl
theorem stood_evL (p : Pt) : (fun l => stood_G (l ++ [.int 0])) [ptD p] = some (fmD (stoodF p 0)) := rfl
theorem straight_ev {p : Pt} (h1 : Sm p.1) (h2 : Sm p.2) : straight_G [ptD p] = some (.tuple [pcD (mkStr (0, 0) p), fmD (stoodF p 0)]) := by
  have e := stretch_ev (p := (0, 0)) (q := p) sm0 sm0 h1 h2
  simp only [straight_G, F_straight, nought]
  simp [f1, f2, fV, fC, fCons, fNil, fSeq, fSet, fRet, fIf, fNext, fNever, fAnd, fOr, fAndV, fOrV, fUnp, fPar, fSl, fChain, tgF, tgN, gTu, gLs, startR, defG, outV, on1, on2, gB, gNot, gNotV, gI, e, stood_ev0]
theorem absR_bd {E m : Nat} {a : Rat} (h : Bd E m a) : Bd E m (absR a) := by
  unfold absR
  split
  · exact h
  · exact h.neg
theorem absR_fr (a : Rat) : PyData.tuple [.int (if a.num < 0 then -a.num else a.num), .int a.den] = fr (absR a) := by
  unfold absR
  have h : 0 < a ↔ 0 < a.num := by
    have h1 := Rat.num_nonneg (q := a)
    have h2 := Rat.num_eq_zero (q := a)
    have h3 := @Rat.lt_iff_le_and_ne 0 a
    constructor
    · intro z
      have z1 := h3.mp z
      have : a.num ≠ 0 := fun y => z1.2 (h2.mp y).symm
      have := h1.mpr z1.1
      omega
    · intro z
      refine h3.mpr ⟨h1.mp (by omega), fun y => ?_⟩
      have := h2.mpr y.symm
      omega
  by_cases c : 0 < a
  · rw [if_pos c, if_neg (by have := h.mp c; omega)]
    rfl
  · rw [if_neg c]
    have hn : ¬ 0 < a.num := fun z => c (h.mpr z)
    by_cases c2 : a.num < 0
    · rw [if_pos c2]
      rfl
    · have : a.num = 0 := by omega
      rw [if_neg c2, this]
      show _ = PyData.tuple [.int (-a.num), .int a.den]
      rw [this]
      rfl
theorem pos_num (a : Rat) : decide (0 < a.num) = decide (0 < a) := by
  have h1 := Rat.num_nonneg (q := a)
  have h2 := Rat.num_eq_zero (q := a)
  have h3 := @Rat.lt_iff_le_and_ne 0 a
  by_cases c : 0 < a
  · have z1 := h3.mp c
    have : a.num ≠ 0 := fun y => z1.2 (h2.mp y).symm
    have := h1.mpr z1.1
    simp [c]
    omega
  · have : ¬ 0 < a.num := fun z => c (h3.mpr ⟨h1.mp (by omega), fun y => by have := h2.mpr y.symm; omega⟩)
    simp [c, this]
/-- a bow round (0, n) to p, p as far from there as the start -/
theorem bowed_ev {E m : Nat} {n : Rat} {p : Pt} {t : _root_.Fin 4} (hn : Bd E m n) (hp : Bd E m p.1 ∧ Bd E m p.2) (hE : E ≤ 2 ^ 640) (hm : m ≤ 2 ^ 100) (hf : farR (0, n) (0, 0) = farR (0, n) p) (h0 : n ≠ 0) (hc : ((0, n) : Pt) ≠ p) :
    bowed_G [fr n, ptD p, .int (t.val : Int)] = some (.tuple [pcD (bowP n p), fmD (stoodF p (if 0 < n then t else 0 - t))]) := by
  have z0 : ∀ {E m : Nat}, 0 < E → Bd E m 0 := fun h => .zero h
  have hE0 := hn.pos
  have n0 : ((0, n) : Pt) ≠ (0, 0) := fun z => h0 (congrArg Prod.snd z)
  have a1 := arc_ev (c := (0, n)) (p := (0, 0)) (q := p) ⟨z0 hE0, hn⟩ ⟨z0 hE0, z0 hE0⟩ hp hE hm hf n0
  have a2 := arc_ev (c := (0, n)) (p := p) (q := (0, 0)) ⟨z0 hE0, hn⟩ hp ⟨z0 hE0, z0 hE0⟩ hE hm hf.symm hc
  have g0 : gIx (fr n) (.int 0) = some (.int n.num) := rfl
  have gg : gGt (.int n.num) (.int 0) = some (.bool (decide (0 < n))) := by rw [← pos_num]; rfl
  have tt : gMod (.int (0 - (t.val : Int))) (.int 4) = some (.int ((0 - t : _root_.Fin 4).val : Int)) := by
    have : ∀ t : _root_.Fin 4, (0 - (t.val : Int)) % 4 = ((0 - t : _root_.Fin 4).val : Int) := by decide
    show (if (0 : Int) < 4 then some (PyData.int ((0 - (t.val : Int)) % 4)) else none) = _
    rw [if_pos (by decide), this]
  have s1 : ∀ a b : Int, gSub (.int a) (.int b) = some (.int (a - b)) := fun _ _ => rfl
  rw [Int.zero_sub] at tt
  simp only [bowed_G, F_bowed, nought, fr00]
  unfold bowP
  by_cases c : 0 < n
  · simp [f1, f2, fV, fC, fCons, fNil, fSeq, fSet, fRet, fIf, fNext, fNever, fAnd, fOr, fAndV, fOrV, fUnp, fPar, fSl, fChain, tgF, tgN, gTu, gLs, startR, defG, outV, on1, on2, gB, gNot, gNotV, gI, g0, gg, c, fr00, pt_fold, a1, stood_ev]
  · simp [f1, f2, fV, fC, fCons, fNil, fSeq, fSet, fRet, fIf, fNext, fNever, fAnd, fOr, fAndV, fOrV, fUnp, fPar, fSl, fChain, tgF, tgN, gTu, gLs, startR, defG, outV, on1, on2, gB, gNot, gNotV, gI, g0, gg, c, fr00, pt_fold, a2, s1, tt, stood_ev]
theorem sqN (n : Rat) : farR (0, n) (0, 0) = n * n := by
  unfold farR
  grind
theorem sqQ (n : Rat) : farR (0, n) (absR n, n) = n * n := by
  unfold farR absR
  split <;> grind
theorem sqH (n : Rat) : farR (0, n) (0, n + n) = n * n := by
  unfold farR
  grind
theorem absR_ne {n : Rat} (h : n ≠ 0) : absR n ≠ 0 := by
  unfold absR
  split
  · exact h
  · intro z
    apply h
    grind
theorem shaped_ev {E : Nat} (hE : E ≤ 2 ^ 640) : ∀ {r : Pl}, PlOk E r → shaped_G [plD r] = some (.tuple [optD (pieceP r), fmD (told r)])
  | .go a, h => by
    have e := straight_ev (p := (a, 0)) (RB.sm h hE) sm0
    simp only [shaped_G, F_shaped, nought, fr00, fr11]
    simp [f1, f2, fV, fC, fCons, fNil, fSeq, fSet, fRet, fIf, fNext, fNever, fAnd, fOr, fAndV, fOrV, fUnp, fPar, fSl, fChain, tgF, tgN, gTu, gLs, startR, defG, outV, on1, on2, gB, gNot, gNotV, gI, plD, ixT, atI, ixN, eq_go_go, eq_go_skip, eq_go_side, eq_go_dot, eq_go_mirror, eq_go_grow, eq_go_quarter, eq_go_half, eq_go_arc, eq_go_again, eq_go_keep, eq_go_ever, eq_go_none, ne_go_go, ne_go_skip, ne_go_side, ne_go_dot, ne_go_mirror, ne_go_grow, ne_go_quarter, ne_go_half, ne_go_arc, ne_go_again, ne_go_keep, ne_go_ever, ne_go_none, in_go_tuple, in_go_list, in_go_six, fr00, fr11, pt_fold, e, optD, pieceP, told]
  | .skip a, h => by
    simp only [shaped_G, F_shaped, nought]
    simp [f1, f2, fV, fC, fCons, fNil, fSeq, fSet, fRet, fIf, fNext, fNever, fAnd, fOr, fAndV, fOrV, fUnp, fPar, fSl, fChain, tgF, tgN, gTu, gLs, startR, defG, outV, on1, on2, gB, gNot, gNotV, gI, plD, ixT, atI, ixN, eq_skip_go, eq_skip_skip, eq_skip_side, eq_skip_dot, eq_skip_mirror, eq_skip_grow, eq_skip_quarter, eq_skip_half, eq_skip_arc, eq_skip_again, eq_skip_keep, eq_skip_ever, eq_skip_none, ne_skip_go, ne_skip_skip, ne_skip_side, ne_skip_dot, ne_skip_mirror, ne_skip_grow, ne_skip_quarter, ne_skip_half, ne_skip_arc, ne_skip_again, ne_skip_keep, ne_skip_ever, ne_skip_none, in_skip_tuple, in_skip_list, in_skip_six, fr00, fr11, pt_fold, stood_ev0, optD, pieceP, told]
  | .side a b, h => by
    have e := straight_ev (p := (a, b)) (RB.sm h.1 hE) (RB.sm h.2 hE)
    simp only [shaped_G, F_shaped, nought]
    simp [f1, f2, fV, fC, fCons, fNil, fSeq, fSet, fRet, fIf, fNext, fNever, fAnd, fOr, fAndV, fOrV, fUnp, fPar, fSl, fChain, tgF, tgN, gTu, gLs, startR, defG, outV, on1, on2, gB, gNot, gNotV, gI, plD, ixT, atI, ixN, eq_side_go, eq_side_skip, eq_side_side, eq_side_dot, eq_side_mirror, eq_side_grow, eq_side_quarter, eq_side_half, eq_side_arc, eq_side_again, eq_side_keep, eq_side_ever, eq_side_none, ne_side_go, ne_side_skip, ne_side_side, ne_side_dot, ne_side_mirror, ne_side_grow, ne_side_quarter, ne_side_half, ne_side_arc, ne_side_again, ne_side_keep, ne_side_ever, ne_side_none, in_side_tuple, in_side_list, in_side_six, fr00, fr11, pt_fold, e, optD, pieceP, told]
  | .dot, h => by
    simp only [shaped_G, F_shaped, nought]
    simp [f1, f2, fV, fC, fCons, fNil, fSeq, fSet, fRet, fIf, fNext, fNever, fAnd, fOr, fAndV, fOrV, fUnp, fPar, fSl, fChain, tgF, tgN, gTu, gLs, startR, defG, outV, on1, on2, gB, gNot, gNotV, gI, plD, ixT, atI, ixN, eq_dot_go, eq_dot_skip, eq_dot_side, eq_dot_dot, eq_dot_mirror, eq_dot_grow, eq_dot_quarter, eq_dot_half, eq_dot_arc, eq_dot_again, eq_dot_keep, eq_dot_ever, eq_dot_none, ne_dot_go, ne_dot_skip, ne_dot_side, ne_dot_dot, ne_dot_mirror, ne_dot_grow, ne_dot_quarter, ne_dot_half, ne_dot_arc, ne_dot_again, ne_dot_keep, ne_dot_ever, ne_dot_none, in_dot_tuple, in_dot_list, in_dot_six, fr00, fr11, pt_fold, first_ev, optD, pieceP, told, pcD]
  | .mirror, h => by
    simp only [shaped_G, F_shaped, nought]
    simp [f1, f2, fV, fC, fCons, fNil, fSeq, fSet, fRet, fIf, fNext, fNever, fAnd, fOr, fAndV, fOrV, fUnp, fPar, fSl, fChain, tgF, tgN, gTu, gLs, startR, defG, outV, on1, on2, gB, gNot, gNotV, gI, plD, ixT, atI, ixN, eq_mirror_go, eq_mirror_skip, eq_mirror_side, eq_mirror_dot, eq_mirror_mirror, eq_mirror_grow, eq_mirror_quarter, eq_mirror_half, eq_mirror_arc, eq_mirror_again, eq_mirror_keep, eq_mirror_ever, eq_mirror_none, ne_mirror_go, ne_mirror_skip, ne_mirror_side, ne_mirror_dot, ne_mirror_mirror, ne_mirror_grow, ne_mirror_quarter, ne_mirror_half, ne_mirror_arc, ne_mirror_again, ne_mirror_keep, ne_mirror_ever, ne_mirror_none, in_mirror_tuple, in_mirror_list, in_mirror_six, fr00, fr11, pt_fold, gNeg, optD, pieceP, told]
    rfl
  | .grow a, h => by
    simp only [shaped_G, F_shaped, nought]
    simp [f1, f2, fV, fC, fCons, fNil, fSeq, fSet, fRet, fIf, fNext, fNever, fAnd, fOr, fAndV, fOrV, fUnp, fPar, fSl, fChain, tgF, tgN, gTu, gLs, startR, defG, outV, on1, on2, gB, gNot, gNotV, gI, plD, ixT, atI, ixN, eq_grow_go, eq_grow_skip, eq_grow_side, eq_grow_dot, eq_grow_mirror, eq_grow_grow, eq_grow_quarter, eq_grow_half, eq_grow_arc, eq_grow_again, eq_grow_keep, eq_grow_ever, eq_grow_none, ne_grow_go, ne_grow_skip, ne_grow_side, ne_grow_dot, ne_grow_mirror, ne_grow_grow, ne_grow_quarter, ne_grow_half, ne_grow_arc, ne_grow_again, ne_grow_keep, ne_grow_ever, ne_grow_none, in_grow_tuple, in_grow_list, in_grow_six, fr00, fr11, pt_fold, optD, pieceP, told]
    rfl
  | .quarter a, h => by
    have e := bowed_ev (p := (absR a, a)) (t := 1) h.1 ⟨absR_bd h.1, h.1⟩ hE (by decide) (by rw [sqN, sqQ]) h.2 (fun z => absR_ne h.2 (congrArg Prod.fst z).symm)
    have e1 : (((1 : _root_.Fin 4).val : Nat) : Int) = 1 := rfl
    rw [e1] at e
    have g0 : gIx (fr a) (.int 0) = some (.int a.num) := rfl
    have g1 : gIx (fr a) (.int 1) = some (.int a.den) := rfl
    simp only [shaped_G, F_shaped, nought]
    simp [f1, f2, fV, fC, fCons, fNil, fSeq, fSet, fRet, fIf, fNext, fNever, fAnd, fOr, fAndV, fOrV, fUnp, fPar, fSl, fChain, tgF, tgN, gTu, gLs, startR, defG, outV, on1, on2, gB, gNot, gNotV, gI, plD, ixT, atI, ixN, eq_quarter_go, eq_quarter_skip, eq_quarter_side, eq_quarter_dot, eq_quarter_mirror, eq_quarter_grow, eq_quarter_quarter, eq_quarter_half, eq_quarter_arc, eq_quarter_again, eq_quarter_keep, eq_quarter_ever, eq_quarter_none, ne_quarter_go, ne_quarter_skip, ne_quarter_side, ne_quarter_dot, ne_quarter_mirror, ne_quarter_grow, ne_quarter_quarter, ne_quarter_half, ne_quarter_arc, ne_quarter_again, ne_quarter_keep, ne_quarter_ever, ne_quarter_none, in_quarter_tuple, in_quarter_list, in_quarter_six, g0, g1, gAbs, absR_fr, pt_fold, e, optD, pieceP, told]
  | .half a, h => by
    have hs := RB.sm h.1 hE
    have e := bowed_ev (p := (0, a + a)) (t := 2) (h.1.up (Nat.dvd_refl _) h.1.pos (show 1048576 ≤ 1048576 + 1048576 by decide)) ⟨.zero h.1.pos, h.1.add h.1⟩ hE (by decide) (by rw [sqN, sqH]) h.2 (fun z => h.2 (by have := congrArg Prod.snd z; simp at this; grind))
    have e1 : (((2 : _root_.Fin 4).val : Nat) : Int) = 2 := rfl
    rw [e1] at e
    have e2 := plus_ev hs hs
    simp only [shaped_G, F_shaped, nought]
    simp [f1, f2, fV, fC, fCons, fNil, fSeq, fSet, fRet, fIf, fNext, fNever, fAnd, fOr, fAndV, fOrV, fUnp, fPar, fSl, fChain, tgF, tgN, gTu, gLs, startR, defG, outV, on1, on2, gB, gNot, gNotV, gI, plD, ixT, atI, ixN, eq_half_go, eq_half_skip, eq_half_side, eq_half_dot, eq_half_mirror, eq_half_grow, eq_half_quarter, eq_half_half, eq_half_arc, eq_half_again, eq_half_keep, eq_half_ever, eq_half_none, ne_half_go, ne_half_skip, ne_half_side, ne_half_dot, ne_half_mirror, ne_half_grow, ne_half_quarter, ne_half_half, ne_half_arc, ne_half_again, ne_half_keep, ne_half_ever, ne_half_none, in_half_tuple, in_half_list, in_half_six, fr00, e2, pt_fold, e, optD, pieceP, told]
  | .arc a b c d, h => by
    have e := arc_ev (c := (a, b)) (p := (0, 0)) (q := (c, d)) ⟨h.1, h.2.1⟩ ⟨.zero h.1.pos, .zero h.1.pos⟩ ⟨h.2.2.1, h.2.2.2.1⟩ hE (by decide) h.2.2.2.2.2 h.2.2.2.2.1
    simp only [shaped_G, F_shaped, nought]
    simp [f1, f2, fV, fC, fCons, fNil, fSeq, fSet, fRet, fIf, fNext, fNever, fAnd, fOr, fAndV, fOrV, fUnp, fPar, fSl, fChain, tgF, tgN, gTu, gLs, startR, defG, outV, on1, on2, gB, gNot, gNotV, gI, plD, ixT, atI, ixN, eq_arc_go, eq_arc_skip, eq_arc_side, eq_arc_dot, eq_arc_mirror, eq_arc_grow, eq_arc_quarter, eq_arc_half, eq_arc_arc, eq_arc_again, eq_arc_keep, eq_arc_ever, eq_arc_none, ne_arc_go, ne_arc_skip, ne_arc_side, ne_arc_dot, ne_arc_mirror, ne_arc_grow, ne_arc_quarter, ne_arc_half, ne_arc_arc, ne_arc_again, ne_arc_keep, ne_arc_ever, ne_arc_none, in_arc_tuple, in_arc_list, in_arc_six, pt_fold, e, stood_ev0, optD, pieceP, told]
  | .left, h => by
    have e : gKd tTURNS (.str "left") = some (.int 1) := by show ((tTURNS.lookup (Str.ofString "left")).map PyData.int) = _; rw [show tTURNS.lookup (Str.ofString "left") = some 1 from by decide +kernel]; rfl
    have e2 := stood_ev (0, 0) 1
    simp only [shaped_G, F_shaped, nought]
    simp [f1, f2, fV, fC, fCons, fNil, fSeq, fSet, fRet, fIf, fNext, fNever, fAnd, fOr, fAndV, fOrV, fUnp, fPar, fSl, fChain, tgF, tgN, gTu, gLs, startR, defG, outV, on1, on2, gB, gNot, gNotV, gI, plD, ixT, atI, ixN, eq_left_go, eq_left_skip, eq_left_side, eq_left_dot, eq_left_mirror, eq_left_grow, eq_left_quarter, eq_left_half, eq_left_arc, eq_left_again, eq_left_keep, eq_left_ever, eq_left_none, ne_left_go, ne_left_skip, ne_left_side, ne_left_dot, ne_left_mirror, ne_left_grow, ne_left_quarter, ne_left_half, ne_left_arc, ne_left_again, ne_left_keep, ne_left_ever, ne_left_none, in_left_tuple, in_left_list, in_left_six, e, optD, pieceP, told]
    rfl
  | .right, h => by
    have e : gKd tTURNS (.str "right") = some (.int 3) := by show ((tTURNS.lookup (Str.ofString "right")).map PyData.int) = _; rw [show tTURNS.lookup (Str.ofString "right") = some 3 from by decide +kernel]; rfl
    simp only [shaped_G, F_shaped, nought]
    simp [f1, f2, fV, fC, fCons, fNil, fSeq, fSet, fRet, fIf, fNext, fNever, fAnd, fOr, fAndV, fOrV, fUnp, fPar, fSl, fChain, tgF, tgN, gTu, gLs, startR, defG, outV, on1, on2, gB, gNot, gNotV, gI, plD, ixT, atI, ixN, eq_right_go, eq_right_skip, eq_right_side, eq_right_dot, eq_right_mirror, eq_right_grow, eq_right_quarter, eq_right_half, eq_right_arc, eq_right_again, eq_right_keep, eq_right_ever, eq_right_none, ne_right_go, ne_right_skip, ne_right_side, ne_right_dot, ne_right_mirror, ne_right_grow, ne_right_quarter, ne_right_half, ne_right_arc, ne_right_again, ne_right_keep, ne_right_ever, ne_right_none, in_right_tuple, in_right_list, in_right_six, e, optD, pieceP, told]
    rfl
  | .round, h => by
    have e : gKd tTURNS (.str "round") = some (.int 2) := by show ((tTURNS.lookup (Str.ofString "round")).map PyData.int) = _; rw [show tTURNS.lookup (Str.ofString "round") = some 2 from by decide +kernel]; rfl
    simp only [shaped_G, F_shaped, nought]
    simp [f1, f2, fV, fC, fCons, fNil, fSeq, fSet, fRet, fIf, fNext, fNever, fAnd, fOr, fAndV, fOrV, fUnp, fPar, fSl, fChain, tgF, tgN, gTu, gLs, startR, defG, outV, on1, on2, gB, gNot, gNotV, gI, plD, ixT, atI, ixN, eq_round_go, eq_round_skip, eq_round_side, eq_round_dot, eq_round_mirror, eq_round_grow, eq_round_quarter, eq_round_half, eq_round_arc, eq_round_again, eq_round_keep, eq_round_ever, eq_round_none, ne_round_go, ne_round_skip, ne_round_side, ne_round_dot, ne_round_mirror, ne_round_grow, ne_round_quarter, ne_round_half, ne_round_arc, ne_round_again, ne_round_keep, ne_round_ever, ne_round_none, in_round_tuple, in_round_list, in_round_six, e, optD, pieceP, told]
    rfl
end Arc
set_option Elab.async false
set_option linter.all false
set_option maxRecDepth 100000
set_option maxHeartbeats 1000000
set_option exponentiation.threshold 200
namespace Arc
open PySem L2
/-! ## programs -/
inductive Kd where
  | again (n : Nat)
  | keep
  | ever
inductive Prog where
  | nil
  | pl (r : Pl) (p : Prog)
  | blk (k : Kd) (b : Prog) (p : Prog)
def blkD : Kd → List PyData → PyData
  | .again n, l => .tuple [.str "again", .int (n : Int), .tuple l]
  | .keep, l => .tuple [.str "keep", .tuple l]
  | .ever, l => .tuple [.str "ever", .tuple l]
def enc : Prog → List PyData
  | .nil => []
  | .pl r p => plD r :: enc p
  | .blk k b p => blkD k (enc b) :: enc p
def timesK : Kd → Nat
  | .again n => n
  | _ => 1
def doneN : Prog → Nat
  | .nil => 0
  | .pl _ p => 1 + doneN p
  | .blk k b p => timesK k * doneN b + doneN p
def linesN : Prog → Nat
  | .nil => 0
  | .pl _ p => 1 + linesN p
  | .blk _ b p => 2 + linesN b + linesN p
def rowsN : Prog → Nat
  | .nil => 0
  | .pl _ p => 1 + rowsN p
  | .blk _ b p => 1 + rowsN b + rowsN p
def deepN : Prog → Nat
  | .nil => 0
  | .pl _ p => deepN p
  | .blk _ b p => max (1 + deepN b) (deepN p)
/-- the counts are small enough -/
def Lim : Prog → Prop
  | .nil => True
  | .pl _ p => Lim p
  | .blk k b p => timesK k ≤ 12 ∧ doneN b ≤ 720 ∧ Lim b ∧ Lim p
def wordP : Pl → Str
  | .go _ => "go"
  | .skip _ => "skip"
  | .side _ _ => "side"
  | .dot => "dot"
  | .left => "left"
  | .right => "right"
  | .round => "round"
  | .mirror => "mirror"
  | .grow _ => "grow"
  | .quarter _ => "quarter"
  | .half _ => "half"
  | .arc _ _ _ _ => "arc"
theorem w0P (r : Pl) : gIx (plD r) (.int 0) = some (.str (wordP r)) := by cases r <;> rfl
theorem eP_again : ∀ r : Pl, gEq (.str (wordP r)) (.str "again") = some (.bool false)
  | .go _ => eq_go_again
  | .skip _ => eq_skip_again
  | .side _ _ => eq_side_again
  | .dot => eq_dot_again
  | .left => eq_left_again
  | .right => eq_right_again
  | .round => eq_round_again
  | .mirror => eq_mirror_again
  | .grow _ => eq_grow_again
  | .quarter _ => eq_quarter_again
  | .half _ => eq_half_again
  | .arc _ _ _ _ => eq_arc_again
theorem eP_keep : ∀ r : Pl, gEq (.str (wordP r)) (.str "keep") = some (.bool false)
  | .go _ => eq_go_keep
  | .skip _ => eq_skip_keep
  | .side _ _ => eq_side_keep
  | .dot => eq_dot_keep
  | .left => eq_left_keep
  | .right => eq_right_keep
  | .round => eq_round_keep
  | .mirror => eq_mirror_keep
  | .grow _ => eq_grow_keep
  | .quarter _ => eq_quarter_keep
  | .half _ => eq_half_keep
  | .arc _ _ _ _ => eq_arc_keep
theorem eP_ever : ∀ r : Pl, gEq (.str (wordP r)) (.str "ever") = some (.bool false)
  | .go _ => eq_go_ever
  | .skip _ => eq_skip_ever
  | .side _ _ => eq_side_ever
  | .dot => eq_dot_ever
  | .left => eq_left_ever
  | .right => eq_right_ever
  | .round => eq_round_ever
  | .mirror => eq_mirror_ever
  | .grow _ => eq_grow_ever
  | .quarter _ => eq_quarter_ever
  | .half _ => eq_half_ever
  | .arc _ _ _ _ => eq_arc_ever
theorem inP_tuple : ∀ r : Pl, gIn (.str (wordP r)) (.tuple [.str "again", .str "keep", .str "ever"]) = some (.bool false)
  | .go _ => in_go_tuple
  | .skip _ => in_skip_tuple
  | .side _ _ => in_side_tuple
  | .dot => in_dot_tuple
  | .left => in_left_tuple
  | .right => in_right_tuple
  | .round => in_round_tuple
  | .mirror => in_mirror_tuple
  | .grow _ => in_grow_tuple
  | .quarter _ => in_quarter_tuple
  | .half _ => in_half_tuple
  | .arc _ _ _ _ => in_arc_tuple
theorem inP_list : ∀ r : Pl, gIn (.str (wordP r)) (.list [.str "again", .str "keep", .str "ever"]) = some (.bool false)
  | .go _ => in_go_list
  | .skip _ => in_skip_list
  | .side _ _ => in_side_list
  | .dot => in_dot_list
  | .left => in_left_list
  | .right => in_right_list
  | .round => in_round_list
  | .mirror => in_mirror_list
  | .grow _ => in_grow_list
  | .quarter _ => in_quarter_list
  | .half _ => in_half_list
  | .arc _ _ _ _ => in_arc_list
theorem inP_two : ∀ r : Pl, gIn (.str (wordP r)) (.list [.str "keep", .str "ever"]) = some (.bool false)
  | .go _ => inEL (a := "go") (by decide +kernel)
  | .skip _ => inEL (a := "skip") (by decide +kernel)
  | .side _ _ => inEL (a := "side") (by decide +kernel)
  | .dot => inEL (a := "dot") (by decide +kernel)
  | .left => inEL (a := "left") (by decide +kernel)
  | .right => inEL (a := "right") (by decide +kernel)
  | .round => inEL (a := "round") (by decide +kernel)
  | .mirror => inEL (a := "mirror") (by decide +kernel)
  | .grow _ => inEL (a := "grow") (by decide +kernel)
  | .quarter _ => inEL (a := "quarter") (by decide +kernel)
  | .half _ => inEL (a := "half") (by decide +kernel)
  | .arc _ _ _ _ => inEL (a := "arc") (by decide +kernel)
def wordK : Kd → Str
  | .again _ => "again"
  | .keep => "keep"
  | .ever => "ever"
theorem w0K (k : Kd) (l : List PyData) : gIx (blkD k l) (.int 0) = some (.str (wordK k)) := by cases k <;> rfl
theorem inK_tuple : ∀ k : Kd, gIn (.str (wordK k)) (.tuple [.str "again", .str "keep", .str "ever"]) = some (.bool true)
  | .again _ => in_again_tuple
  | .keep => in_keep_tuple
  | .ever => in_ever_tuple
theorem inK_list : ∀ k : Kd, gIn (.str (wordK k)) (.list [.str "again", .str "keep", .str "ever"]) = some (.bool true)
  | .again _ => in_again_list
  | .keep => in_keep_list
  | .ever => in_ever_list
/-- the last of a block is its rows -/
theorem lastK (k : Kd) (l : List PyData) : ((gLen (blkD k l)).bind fun n => (gSub n (.int 1)).bind fun i => gIx (blkD k l) i) = some (.tuple l) := by cases k <;> rfl
theorem last1K (k : Kd) (l : List PyData) : gIx (blkD k l) (.int (-1)) = some (.tuple l) := by cases k <;> rfl
theorem gAdd_i (a b : Int) : gAdd (.int a) (.int b) = some (.int (a + b)) := rfl
theorem gSub_i (a b : Int) : gSub (.int a) (.int b) = some (.int (a - b)) := rfl
theorem gNeg_i (a : Int) : gNeg (.int a) = some (.int (-a)) := rfl
/-- one turn of a loop -/
theorem for_step {i : Nat} {F : Rho → Option Out} {x : PyData} {r : List PyData} {ρ ρ' : Rho} (h : F (ρ.set i (some x)) = some (.nxt ρ')) : fForG (tgN i) F (x :: r) ρ = fForG (tgN i) F r ρ' := by
  show ((some (ρ.set i (some x))).bind fun ρ1 => (F ρ1).bind _) = _
  show ((F (ρ.set i (some x))).bind _) = _
  rw [h]
  rfl
/-- a loop that counts: its count stands in slot 1, the row in slot 2 -/
theorem count_loop {F : Rho → Option Out} {r0 : Option PyData} {cnt : Prog → Nat} (hnil : cnt .nil = 0) (P : Prog → Prop)
    (hpl : ∀ r p, P (.pl r p) → P p ∧ ∃ c, cnt (.pl r p) = c + cnt p ∧ ∀ (m : Int) (o : Option PyData), F [r0, some (.int m), some (plD r)] = some (.nxt [r0, some (.int (m + (c : Int))), some (plD r)]))
    (hblk : ∀ k b p, P (.blk k b p) → P p ∧ ∃ c, cnt (.blk k b p) = c + cnt p ∧ ∀ (m : Int) (o : Option PyData), F [r0, some (.int m), some (blkD k (enc b))] = some (.nxt [r0, some (.int (m + (c : Int))), some (blkD k (enc b))])) :
    ∀ (p : Prog), P p → ∀ (m : Int) (o : Option PyData), ∃ o', fForG (tgN 2) F (enc p) [r0, some (.int m), o] = some (.nxt [r0, some (.int (m + (cnt p : Int))), o'])
  | .nil, _, m, o => ⟨o, by rw [hnil]; show some (Out.nxt [r0, some (.int m), o]) = _; simp⟩
  | .pl r p, hP, m, o => by
    obtain ⟨h1, c, h2, h3⟩ := hpl r p hP
    obtain ⟨o', ih⟩ := count_loop hnil P hpl hblk p h1 (m + c) (some (plD r))
    refine ⟨o', ?_⟩
    show fForG (tgN 2) F (plD r :: enc p) _ = _
    rw [for_step (ρ' := [r0, some (.int (m + (c : Int))), some (plD r)]) (h3 m o), ih, h2, show m + ((c + cnt p : Nat) : Int) = m + (c : Int) + (cnt p : Int) from by omega]
  | .blk k b p, hP, m, o => by
    obtain ⟨h1, c, h2, h3⟩ := hblk k b p hP
    obtain ⟨o', ih⟩ := count_loop hnil P hpl hblk p h1 (m + c) (some (blkD k (enc b)))
    refine ⟨o', ?_⟩
    show fForG (tgN 2) F (blkD k (enc b) :: enc p) _ = _
    rw [for_step (ρ' := [r0, some (.int (m + (c : Int))), some (blkD k (enc b))]) (h3 m o), ih, h2, show m + ((c + cnt p : Nat) : Int) = m + (c : Int) + (cnt p : Int) from by omega]
theorem cmN {n d : Nat} (hn : n ≤ 12) (hd0 : d ≤ 720) : gMul (.int (n : Int)) (.int (d : Int)) = some (.int ((n * d : Nat) : Int)) := by
  have hd : d ≤ 1000000000 := by omega
  have c : CMulW (n : Int) (d : Int) := by
    have h1 : n.log2 < 1000 := by
      by_cases z : n = 0
      · rw [z]; decide +kernel
      · rw [Nat.log2_lt z]
        exact Nat.lt_of_le_of_lt hn (Nat.lt_of_lt_of_le (by decide : 12 < 2 ^ 4) (Nat.pow_le_pow_right (by decide) (by decide)))
    have h2 : d.log2 < 1000 := by
      by_cases z : d = 0
      · rw [z]; decide +kernel
      · rw [Nat.log2_lt z]
        exact Nat.lt_of_le_of_lt hd (Nat.lt_of_lt_of_le (by decide : 1000000000 < 2 ^ 40) (Nat.pow_le_pow_right (by decide) (by decide)))
    unfold CMulW
    simp
    omega
  show (if CMulW (n : Int) (d : Int) then _ else _) = _
  rw [if_pos c]
  simp
theorem done_ev : ∀ (n : Nat) (p : Prog), deepN p < n → Lim p → done_by_R n [.tuple (enc p)] = some (.int (doneN p : Int)) ∧ law_done_R n [.tuple (enc p)] = some (.int (doneN p : Int)) ∧ law_done_R n [.list (enc p)] = some (.int (doneN p : Int))
  | 0, _, h, _ => absurd h (Nat.not_lt_zero _)
  | n + 1, p, h, hl => by
    have ih := done_ev n
    have h1 : ∀ r0, ∀ (p : Prog), (deepN p < n + 1 ∧ Lim p) → ∀ (m : Int) (o : Option PyData), ∃ o', fForG (tgN 2) (fIf (f1 gB (f2 gEq (f2 gIx (fV 2) (fC (.int 0))) (fC (.str "again")))) (fSet 1 (f2 gAdd (fV 1) (f2 gMul (f2 gIx (fV 2) (fC (.int 1))) (f1 (done_by_R n) (fCons (f2 gIx (fV 2) (fC (.int 2))) fNil))))) (fIf (fOr (f1 gB (f2 gEq (f2 gIx (fV 2) (fC (.int 0))) (fC (.str "keep")))) (f1 gB (f2 gEq (f2 gIx (fV 2) (fC (.int 0))) (fC (.str "ever"))))) (fSet 1 (f2 gAdd (fV 1) (f1 (done_by_R n) (fCons (f2 gIx (fV 2) (fC (.int 1))) fNil)))) (fSet 1 (f2 gAdd (fV 1) (fC (.int 1)))))) (enc p) [r0, some (.int m), o] = some (.nxt [r0, some (.int (m + (doneN p : Int))), o']) := by
      intro r0
      refine count_loop rfl _ (fun r p hP => ⟨hP, 1, rfl, fun m o => ?_⟩) (fun k b p hP => ⟨⟨Nat.lt_of_le_of_lt (Nat.le_max_right _ _) hP.1, hP.2.2.2.2⟩, timesK k * doneN b, rfl, fun m o => ?_⟩)
      · simp [f1, f2, fV, fC, fCons, fNil, fSeq, fSet, fRet, fIf, fNext, fNever, fAnd, fOr, fAndV, fOrV, fUnp, fPar, fSl, fChain, tgF, tgN, gTu, gLs, startR, defG, outV, on1, on2, gB, gNot, gNotV, gI, w0P, eP_again, eP_keep, eP_ever, gAdd_i]
      · have hb := (ih b (by have := Nat.lt_of_le_of_lt (Nat.le_max_left _ _) hP.1; omega) hP.2.2.2.1).1
        cases k with
        | again t =>
          have hc := cmN hP.2.1 hP.2.2.1
          simp only [timesK] at hc
          simp [f1, f2, fV, fC, fCons, fNil, fSeq, fSet, fRet, fIf, fNext, fNever, fAnd, fOr, fAndV, fOrV, fUnp, fPar, fSl, fChain, tgF, tgN, gTu, gLs, startR, defG, outV, on1, on2, gB, gNot, gNotV, gI, blkD, ixT, atI, ixN, eq_again_go, eq_again_skip, eq_again_side, eq_again_dot, eq_again_mirror, eq_again_grow, eq_again_quarter, eq_again_half, eq_again_arc, eq_again_again, eq_again_keep, eq_again_ever, eq_again_none, ne_again_go, ne_again_skip, ne_again_side, ne_again_dot, ne_again_mirror, ne_again_grow, ne_again_quarter, ne_again_half, ne_again_arc, ne_again_again, ne_again_keep, ne_again_ever, ne_again_none, in_again_tuple, in_again_list, in_again_six, hb, hc, gAdd_i, timesK]
        | keep => simp [f1, f2, fV, fC, fCons, fNil, fSeq, fSet, fRet, fIf, fNext, fNever, fAnd, fOr, fAndV, fOrV, fUnp, fPar, fSl, fChain, tgF, tgN, gTu, gLs, startR, defG, outV, on1, on2, gB, gNot, gNotV, gI, blkD, ixT, atI, ixN, eq_keep_go, eq_keep_skip, eq_keep_side, eq_keep_dot, eq_keep_mirror, eq_keep_grow, eq_keep_quarter, eq_keep_half, eq_keep_arc, eq_keep_again, eq_keep_keep, eq_keep_ever, eq_keep_none, ne_keep_go, ne_keep_skip, ne_keep_side, ne_keep_dot, ne_keep_mirror, ne_keep_grow, ne_keep_quarter, ne_keep_half, ne_keep_arc, ne_keep_again, ne_keep_keep, ne_keep_ever, ne_keep_none, in_keep_tuple, in_keep_list, in_keep_six, hb, gAdd_i, timesK]
        | ever => simp [f1, f2, fV, fC, fCons, fNil, fSeq, fSet, fRet, fIf, fNext, fNever, fAnd, fOr, fAndV, fOrV, fUnp, fPar, fSl, fChain, tgF, tgN, gTu, gLs, startR, defG, outV, on1, on2, gB, gNot, gNotV, gI, blkD, ixT, atI, ixN, eq_ever_go, eq_ever_skip, eq_ever_side, eq_ever_dot, eq_ever_mirror, eq_ever_grow, eq_ever_quarter, eq_ever_half, eq_ever_arc, eq_ever_again, eq_ever_keep, eq_ever_ever, eq_ever_none, ne_ever_go, ne_ever_skip, ne_ever_side, ne_ever_dot, ne_ever_mirror, ne_ever_grow, ne_ever_quarter, ne_ever_half, ne_ever_arc, ne_ever_again, ne_ever_keep, ne_ever_ever, ne_ever_none, in_ever_tuple, in_ever_list, in_ever_six, hb, gAdd_i, timesK]
    have h2 : ∀ r0, ∀ (p : Prog), (deepN p < n + 1 ∧ Lim p) → ∀ (m : Int) (o : Option PyData), ∃ o', fForG (tgN 2) (fIf (f1 gB (f2 gEq (f2 gIx (fV 2) (fC (.int 0))) (fC (.str "again")))) (fSet 1 (f2 gAdd (fV 1) (f2 gMul (f2 gIx (fV 2) (fC (.int 1))) (f1 (law_done_R n) (fCons (f2 gIx (fV 2) (fC (.int 2))) fNil))))) (fIf (f1 gB (f2 gIn (f2 gIx (fV 2) (fC (.int 0))) (f1 gLs (fCons (fC (.str "keep")) (fCons (fC (.str "ever")) fNil))))) (fSet 1 (f2 gAdd (fV 1) (f1 (law_done_R n) (fCons (f2 gIx (fV 2) (fC (.int 1))) fNil)))) (fSet 1 (f2 gAdd (fV 1) (fC (.int 1)))))) (enc p) [r0, some (.int m), o] = some (.nxt [r0, some (.int (m + (doneN p : Int))), o']) := by
      intro r0
      refine count_loop rfl _ (fun r p hP => ⟨hP, 1, rfl, fun m o => ?_⟩) (fun k b p hP => ⟨⟨Nat.lt_of_le_of_lt (Nat.le_max_right _ _) hP.1, hP.2.2.2.2⟩, timesK k * doneN b, rfl, fun m o => ?_⟩)
      · simp [f1, f2, fV, fC, fCons, fNil, fSeq, fSet, fRet, fIf, fNext, fNever, fAnd, fOr, fAndV, fOrV, fUnp, fPar, fSl, fChain, tgF, tgN, gTu, gLs, startR, defG, outV, on1, on2, gB, gNot, gNotV, gI, w0P, eP_again, inP_two, gAdd_i]
      · have hb := (ih b (by have := Nat.lt_of_le_of_lt (Nat.le_max_left _ _) hP.1; omega) hP.2.2.2.1).2.1
        have two : ∀ k : Kd, (∀ t, k ≠ .again t) → gIn (.str (wordK k)) (.list [.str "keep", .str "ever"]) = some (.bool true) := fun k hk => by
          cases k with
          | again t => exact absurd rfl (hk t)
          | keep => exact inEL (a := "keep") (by decide +kernel)
          | ever => exact inEL (a := "ever") (by decide +kernel)
        cases k with
        | again t =>
          have hc := cmN hP.2.1 hP.2.2.1
          simp only [timesK] at hc
          simp [f1, f2, fV, fC, fCons, fNil, fSeq, fSet, fRet, fIf, fNext, fNever, fAnd, fOr, fAndV, fOrV, fUnp, fPar, fSl, fChain, tgF, tgN, gTu, gLs, startR, defG, outV, on1, on2, gB, gNot, gNotV, gI, blkD, ixT, atI, ixN, eq_again_go, eq_again_skip, eq_again_side, eq_again_dot, eq_again_mirror, eq_again_grow, eq_again_quarter, eq_again_half, eq_again_arc, eq_again_again, eq_again_keep, eq_again_ever, eq_again_none, ne_again_go, ne_again_skip, ne_again_side, ne_again_dot, ne_again_mirror, ne_again_grow, ne_again_quarter, ne_again_half, ne_again_arc, ne_again_again, ne_again_keep, ne_again_ever, ne_again_none, in_again_tuple, in_again_list, in_again_six, hb, hc, gAdd_i, timesK]
        | keep =>
          have t2 := two .keep (by intro t z; cases z)
          simp only [wordK] at t2
          simp [f1, f2, fV, fC, fCons, fNil, fSeq, fSet, fRet, fIf, fNext, fNever, fAnd, fOr, fAndV, fOrV, fUnp, fPar, fSl, fChain, tgF, tgN, gTu, gLs, startR, defG, outV, on1, on2, gB, gNot, gNotV, gI, blkD, ixT, atI, ixN, eq_keep_go, eq_keep_skip, eq_keep_side, eq_keep_dot, eq_keep_mirror, eq_keep_grow, eq_keep_quarter, eq_keep_half, eq_keep_arc, eq_keep_again, eq_keep_keep, eq_keep_ever, eq_keep_none, ne_keep_go, ne_keep_skip, ne_keep_side, ne_keep_dot, ne_keep_mirror, ne_keep_grow, ne_keep_quarter, ne_keep_half, ne_keep_arc, ne_keep_again, ne_keep_keep, ne_keep_ever, ne_keep_none, in_keep_tuple, in_keep_list, in_keep_six, t2, hb, gAdd_i, timesK]
        | ever =>
          have t2 := two .ever (by intro t z; cases z)
          simp only [wordK] at t2
          simp [f1, f2, fV, fC, fCons, fNil, fSeq, fSet, fRet, fIf, fNext, fNever, fAnd, fOr, fAndV, fOrV, fUnp, fPar, fSl, fChain, tgF, tgN, gTu, gLs, startR, defG, outV, on1, on2, gB, gNot, gNotV, gI, blkD, ixT, atI, ixN, eq_ever_go, eq_ever_skip, eq_ever_side, eq_ever_dot, eq_ever_mirror, eq_ever_grow, eq_ever_quarter, eq_ever_half, eq_ever_arc, eq_ever_again, eq_ever_keep, eq_ever_ever, eq_ever_none, ne_ever_go, ne_ever_skip, ne_ever_side, ne_ever_dot, ne_ever_mirror, ne_ever_grow, ne_ever_quarter, ne_ever_half, ne_ever_arc, ne_ever_again, ne_ever_keep, ne_ever_ever, ne_ever_none, in_ever_tuple, in_ever_list, in_ever_six, t2, hb, gAdd_i, timesK]
    refine ⟨?_, ?_, ?_⟩
    · obtain ⟨o', e⟩ := h1 (some (.tuple (enc p))) p ⟨h, hl⟩ 0 none
      simp only [done_by_R, F_done_by]
      simp [f1, f2, fV, fC, fCons, fNil, fSeq, fSet, fRet, fIf, fNext, fNever, fAnd, fOr, fAndV, fOrV, fUnp, fPar, fSl, fChain, tgF, tgN, gTu, gLs, startR, defG, outV, on1, on2, gB, gNot, gNotV, gI, fFor, items, e]
    · obtain ⟨o', e⟩ := h2 (some (.tuple (enc p))) p ⟨h, hl⟩ 0 none
      simp only [law_done_R, F_law_done]
      simp [f1, f2, fV, fC, fCons, fNil, fSeq, fSet, fRet, fIf, fNext, fNever, fAnd, fOr, fAndV, fOrV, fUnp, fPar, fSl, fChain, tgF, tgN, gTu, gLs, startR, defG, outV, on1, on2, gB, gNot, gNotV, gI, fFor, items, e]
    · obtain ⟨o', e⟩ := h2 (some (.list (enc p))) p ⟨h, hl⟩ 0 none
      simp only [law_done_R, F_law_done]
      simp [f1, f2, fV, fC, fCons, fNil, fSeq, fSet, fRet, fIf, fNext, fNever, fAnd, fOr, fAndV, fOrV, fUnp, fPar, fSl, fChain, tgF, tgN, gTu, gLs, startR, defG, outV, on1, on2, gB, gNot, gNotV, gI, fFor, items, e]
end Arc
set_option Elab.async false
set_option linter.all false
set_option maxRecDepth 100000
set_option maxHeartbeats 1000000
set_option exponentiation.threshold 200
namespace Arc
open PySem L2
theorem last3K (k : Kd) (l : List PyData) : ∃ n i, gLen (blkD k l) = some n ∧ gSub n (.int 1) = some i ∧ gIx (blkD k l) i = some (.tuple l) := by
  cases k
  all_goals exact ⟨_, _, rfl, rfl, rfl⟩
theorem dB {k : Kd} {b p : Prog} {n : Nat} (h : deepN (.blk k b p) < n + 1) : deepN b < n ∧ deepN p < n + 1 := by
  have h1 := Nat.lt_of_le_of_lt (Nat.le_max_left (1 + deepN b) (deepN p)) h
  have h2 := Nat.lt_of_le_of_lt (Nat.le_max_right (1 + deepN b) (deepN p)) h
  omega
theorem lines_ev : ∀ (n : Nat) (p : Prog), deepN p < n → lines_in_R n [.tuple (enc p)] = some (.int (linesN p : Int)) ∧ law_numbers_R n [.tuple (enc p)] = some (.int (linesN p : Int)) ∧ rows_in_R n [.tuple (enc p)] = some (.int (rowsN p : Int))
  | 0, _, h => absurd h (Nat.not_lt_zero _)
  | n + 1, p, h => by
    have ih := lines_ev n
    refine ⟨?_, ?_, ?_⟩
    · have h1 : ∀ r0, ∀ (p : Prog), deepN p < n + 1 → ∀ (m : Int) (o : Option PyData), ∃ o', fForG (tgN 2) (fSeq (fSet 1 (f2 gAdd (fV 1) (fC (.int 1)))) (fIf (f1 gB (f2 gIn (f2 gIx (fV 2) (fC (.int 0))) (f1 gTu (fCons (fC (.str "again")) (fCons (fC (.str "keep")) (fCons (fC (.str "ever")) fNil)))))) (fSet 1 (f2 gAdd (f2 gAdd (fV 1) (fC (.int 1))) (f1 (lines_in_R n) (fCons (f2 gIx (fV 2) (f2 gSub (f1 (on1 gLen) (fCons (fV 2) fNil)) (fC (.int 1)))) fNil)))) fNext)) (enc p) [r0, some (.int m), o] = some (.nxt [r0, some (.int (m + (linesN p : Int))), o']) := by
        intro r0
        refine count_loop rfl _ (fun r p hP => ⟨hP, 1, rfl, fun m o => ?_⟩) (fun k b p hP => ⟨(dB hP).2, 2 + linesN b, rfl, fun m o => ?_⟩)
        · simp [f1, f2, fV, fC, fCons, fNil, fSeq, fSet, fRet, fIf, fNext, fNever, fAnd, fOr, fAndV, fOrV, fUnp, fPar, fSl, fChain, tgF, tgN, gTu, gLs, startR, defG, outV, on1, on2, gB, gNot, gNotV, gI, w0P, inP_tuple, gAdd_i]
        · have hb := (ih b (dB hP).1).1
          obtain ⟨z1, z2, e1, e2, e3⟩ := last3K k (enc b)
          simp [f1, f2, fV, fC, fCons, fNil, fSeq, fSet, fRet, fIf, fNext, fNever, fAnd, fOr, fAndV, fOrV, fUnp, fPar, fSl, fChain, tgF, tgN, gTu, gLs, startR, defG, outV, on1, on2, gB, gNot, gNotV, gI, w0K, inK_tuple, e1, e2, e3, hb, gAdd_i]
          omega
      obtain ⟨o', e⟩ := h1 (some (.tuple (enc p))) p h 0 none
      simp only [lines_in_R, F_lines_in]
      simp [f1, f2, fV, fC, fCons, fNil, fSeq, fSet, fRet, fIf, fNext, fNever, fAnd, fOr, fAndV, fOrV, fUnp, fPar, fSl, fChain, tgF, tgN, gTu, gLs, startR, defG, outV, on1, on2, gB, gNot, gNotV, gI, fFor, items, e]
    · have h1 : ∀ r0, ∀ (p : Prog), deepN p < n + 1 → ∀ (m : Int) (o : Option PyData), ∃ o', fForG (tgN 2) (fSeq (fSet 1 (f2 gAdd (fV 1) (fC (.int 1)))) (fIf (f1 gB (f2 gIn (f2 gIx (fV 2) (fC (.int 0))) (f1 gLs (fCons (fC (.str "again")) (fCons (fC (.str "keep")) (fCons (fC (.str "ever")) fNil)))))) (fSet 1 (f2 gAdd (f2 gAdd (fV 1) (fC (.int 1))) (f1 (law_numbers_R n) (fCons (f2 gIx (fV 2) (f1 gNeg (fC (.int 1)))) fNil)))) fNext)) (enc p) [r0, some (.int m), o] = some (.nxt [r0, some (.int (m + (linesN p : Int))), o']) := by
        intro r0
        refine count_loop rfl _ (fun r p hP => ⟨hP, 1, rfl, fun m o => ?_⟩) (fun k b p hP => ⟨(dB hP).2, 2 + linesN b, rfl, fun m o => ?_⟩)
        · simp [f1, f2, fV, fC, fCons, fNil, fSeq, fSet, fRet, fIf, fNext, fNever, fAnd, fOr, fAndV, fOrV, fUnp, fPar, fSl, fChain, tgF, tgN, gTu, gLs, startR, defG, outV, on1, on2, gB, gNot, gNotV, gI, w0P, inP_list, gAdd_i]
        · have hb := (ih b (dB hP).1).2.1
          have e3 := last1K k (enc b)
          simp [f1, f2, fV, fC, fCons, fNil, fSeq, fSet, fRet, fIf, fNext, fNever, fAnd, fOr, fAndV, fOrV, fUnp, fPar, fSl, fChain, tgF, tgN, gTu, gLs, startR, defG, outV, on1, on2, gB, gNot, gNotV, gI, w0K, inK_list, gNeg_i, e3, hb, gAdd_i]
          omega
      obtain ⟨o', e⟩ := h1 (some (.tuple (enc p))) p h 0 none
      simp only [law_numbers_R, F_law_numbers]
      simp [f1, f2, fV, fC, fCons, fNil, fSeq, fSet, fRet, fIf, fNext, fNever, fAnd, fOr, fAndV, fOrV, fUnp, fPar, fSl, fChain, tgF, tgN, gTu, gLs, startR, defG, outV, on1, on2, gB, gNot, gNotV, gI, fFor, items, e]
    · have h1 : ∀ r0, ∀ (p : Prog), deepN p < n + 1 → ∀ (m : Int) (o : Option PyData), ∃ o', fForG (tgN 2) (fSeq (fSet 1 (f2 gAdd (fV 1) (fC (.int 1)))) (fIf (f1 gB (f2 gIn (f2 gIx (fV 2) (fC (.int 0))) (f1 gTu (fCons (fC (.str "again")) (fCons (fC (.str "keep")) (fCons (fC (.str "ever")) fNil)))))) (fSet 1 (f2 gAdd (fV 1) (f1 (rows_in_R n) (fCons (f2 gIx (fV 2) (f2 gSub (f1 (on1 gLen) (fCons (fV 2) fNil)) (fC (.int 1)))) fNil)))) fNext)) (enc p) [r0, some (.int m), o] = some (.nxt [r0, some (.int (m + (rowsN p : Int))), o']) := by
        intro r0
        refine count_loop rfl _ (fun r p hP => ⟨hP, 1, rfl, fun m o => ?_⟩) (fun k b p hP => ⟨(dB hP).2, 1 + rowsN b, rfl, fun m o => ?_⟩)
        · simp [f1, f2, fV, fC, fCons, fNil, fSeq, fSet, fRet, fIf, fNext, fNever, fAnd, fOr, fAndV, fOrV, fUnp, fPar, fSl, fChain, tgF, tgN, gTu, gLs, startR, defG, outV, on1, on2, gB, gNot, gNotV, gI, w0P, inP_tuple, gAdd_i]
        · have hb := (ih b (dB hP).1).2.2
          obtain ⟨z1, z2, e1, e2, e3⟩ := last3K k (enc b)
          simp [f1, f2, fV, fC, fCons, fNil, fSeq, fSet, fRet, fIf, fNext, fNever, fAnd, fOr, fAndV, fOrV, fUnp, fPar, fSl, fChain, tgF, tgN, gTu, gLs, startR, defG, outV, on1, on2, gB, gNot, gNotV, gI, w0K, inK_tuple, e1, e2, e3, hb, gAdd_i]
          omega
      obtain ⟨o', e⟩ := h1 (some (.tuple (enc p))) p h 0 none
      simp only [rows_in_R, F_rows_in]
      simp [f1, f2, fV, fC, fCons, fNil, fSeq, fSet, fRet, fIf, fNext, fNever, fAnd, fOr, fAndV, fOrV, fUnp, fPar, fSl, fChain, tgF, tgN, gTu, gLs, startR, defG, outV, on1, on2, gB, gNot, gNotV, gI, fFor, items, e]
end Arc
set_option Elab.async false
set_option linter.all false
set_option maxRecDepth 100000
set_option maxHeartbeats 1000000
set_option exponentiation.threshold 200
namespace Arc
open PySem L2
theorem plD_lay : ∀ r : Pl, PyData.canLay0 (plD r) = true ∧ PyData.depth (plD r) ≤ 2 := by
  intro r
  cases r <;> simp [plD, fr, PyData.canLay0, PyData.canLayAll0, PyData.depth, PyData.depthAll] <;> decide +kernel
theorem enc_lay : ∀ p : Prog, PyData.canLayAll0 (enc p) = true ∧ PyData.depthAll (enc p) ≤ 2 * deepN p + 2
  | .nil => by simp [enc, PyData.canLayAll0, PyData.depthAll]
  | .pl r p => by
    have h1 := enc_lay p
    have h2 := plD_lay r
    simp only [enc, PyData.canLayAll0, PyData.depthAll, deepN, h1.1, h2.1]
    refine ⟨rfl, ?_⟩
    omega
  | .blk k b p => by
    have h1 := enc_lay p
    have h2 := enc_lay b
    have h3 : PyData.canLay0 (blkD k (enc b)) = true ∧ PyData.depth (blkD k (enc b)) ≤ PyData.depthAll (enc b) + 2 := by
      cases k <;> simp [blkD, PyData.canLay0, PyData.canLayAll0, PyData.depth, PyData.depthAll, h2.1] <;> decide +kernel
    simp only [enc, PyData.canLayAll0, PyData.depthAll, deepN, h1.1, h3.1]
    refine ⟨rfl, ?_⟩
    omega
theorem shp_tuple {p : Prog} (h : deepN p ≤ 20) : SeqAt.shaped (.tuple (enc p)) = true := by
  have h1 := enc_lay p
  unfold SeqAt.shaped
  simp [PyData.canLay0, PyData.depth, h1.1]
  omega
def zeroK : Kd → Bool
  | .again 0 => true
  | _ => false
def drawsB : Prog → Bool
  | .nil => false
  | .pl r p => (pieceP r).isSome || drawsB p
  | .blk k b p => (!zeroK k && drawsB b) || drawsB p
/-- every plain row is sound -/
def AllPl (E : Nat) : Prog → Prop
  | .nil => True
  | .pl r p => PlOk E r ∧ AllPl E p
  | .blk _ b p => AllPl E b ∧ AllPl E p
theorem gNe_int (a b : Int) : gNe (.int a) (.int b) = some (.bool (!decide (a = b))) := by
  have h := gEq_int a b
  unfold gEq at h
  unfold gNe
  split at h
  · rename_i hc
    rw [if_pos hc, PyData.bool.inj (Option.some.inj h)]
  · cases h
theorem gNotN_opt (o : Option Pc) : gNotN (optD o) .none = some (.bool o.isSome) := by
  cases o with
  | none => rfl
  | some P => cases P <;> rfl
theorem draws_ev {E : Nat} (hE : E ≤ 2 ^ 640) : ∀ (n : Nat) (p : Prog), deepN p < n → AllPl E p → draws_R n [.tuple (enc p)] = some (.bool (drawsB p))
  | 0, _, h, _ => absurd h (Nat.not_lt_zero _)
  | n + 1, p, h, ha => by
    have ih := draws_ev hE n
    have loop : ∀ (p : Prog), deepN p < n + 1 → AllPl E p → ∀ (r0 o1 o2 : Option PyData), (drawsB p = true → fForG (tgN 1) (fSeq (fIf (fAnd (f1 gB (f2 gEq (f2 gIx (fV 1) (fC (.int 0))) (fC (.str "again")))) (f1 gB (f2 gEq (f2 gIx (fV 1) (fC (.int 1))) (fC (.int 0))))) (fSet 2 (fC (.bool false))) (fIf (f1 gB (f2 gIn (f2 gIx (fV 1) (fC (.int 0))) (f1 gTu (fCons (fC (.str "again")) (fCons (fC (.str "keep")) (fCons (fC (.str "ever")) fNil)))))) (fSet 2 (f1 (draws_R n) (fCons (f2 gIx (fV 1) (f2 gSub (f1 (on1 gLen) (fCons (fV 1) fNil)) (fC (.int 1)))) fNil))) (fSet 2 (f2 gNotN (f2 gIx (f1 shaped_G (fCons (fV 1) fNil)) (fC (.int 0))) (fC .none))))) (fIf (f1 gB (fV 2)) (fRet (fC (.bool true))) fNext)) (enc p) [r0, o1, o2] = some (.ret (.bool true))) ∧
        (drawsB p = false → ∃ ρ, fForG (tgN 1) (fSeq (fIf (fAnd (f1 gB (f2 gEq (f2 gIx (fV 1) (fC (.int 0))) (fC (.str "again")))) (f1 gB (f2 gEq (f2 gIx (fV 1) (fC (.int 1))) (fC (.int 0))))) (fSet 2 (fC (.bool false))) (fIf (f1 gB (f2 gIn (f2 gIx (fV 1) (fC (.int 0))) (f1 gTu (fCons (fC (.str "again")) (fCons (fC (.str "keep")) (fCons (fC (.str "ever")) fNil)))))) (fSet 2 (f1 (draws_R n) (fCons (f2 gIx (fV 1) (f2 gSub (f1 (on1 gLen) (fCons (fV 1) fNil)) (fC (.int 1)))) fNil))) (fSet 2 (f2 gNotN (f2 gIx (f1 shaped_G (fCons (fV 1) fNil)) (fC (.int 0))) (fC .none))))) (fIf (f1 gB (fV 2)) (fRet (fC (.bool true))) fNext)) (enc p) [r0, o1, o2] = some (.nxt ρ)) := by
      intro p
      induction p with
      | nil => exact fun _ _ r0 o1 o2 => ⟨(fun z => by cases z), fun _ => ⟨_, rfl⟩⟩
      | pl r p ihp =>
        intro hd ha r0 o1 o2
        have hs := shaped_ev hE ha.1
        have i0 : gIx (.tuple [optD (pieceP r), fmD (told r)]) (.int 0) = some (optD (pieceP r)) := rfl
        have ip := ihp hd ha.2 r0 (some (plD r)) (some (.bool (pieceP r).isSome))
        have step : ∀ b, (pieceP r).isSome = b → (fSeq (fIf (fAnd (f1 gB (f2 gEq (f2 gIx (fV 1) (fC (.int 0))) (fC (.str "again")))) (f1 gB (f2 gEq (f2 gIx (fV 1) (fC (.int 1))) (fC (.int 0))))) (fSet 2 (fC (.bool false))) (fIf (f1 gB (f2 gIn (f2 gIx (fV 1) (fC (.int 0))) (f1 gTu (fCons (fC (.str "again")) (fCons (fC (.str "keep")) (fCons (fC (.str "ever")) fNil)))))) (fSet 2 (f1 (draws_R n) (fCons (f2 gIx (fV 1) (f2 gSub (f1 (on1 gLen) (fCons (fV 1) fNil)) (fC (.int 1)))) fNil))) (fSet 2 (f2 gNotN (f2 gIx (f1 shaped_G (fCons (fV 1) fNil)) (fC (.int 0))) (fC .none))))) (fIf (f1 gB (fV 2)) (fRet (fC (.bool true))) fNext)) [r0, some (plD r), o2] = if b = true then some (.ret (.bool true)) else some (.nxt [r0, some (plD r), some (.bool b)]) := fun b hb => by
          cases b <;> simp [f1, f2, fV, fC, fCons, fNil, fSeq, fSet, fRet, fIf, fNext, fNever, fAnd, fOr, fAndV, fOrV, fUnp, fPar, fSl, fChain, tgF, tgN, gTu, gLs, startR, defG, outV, on1, on2, gB, gNot, gNotV, gI, w0P, eP_again, inP_tuple, hs, i0, gNotN_opt, hb]
        cases hb : (pieceP r).isSome with
        | true =>
          refine ⟨fun _ => ?_, fun z => by simp [drawsB, hb] at z⟩
          have s1 := step true hb
          rw [if_pos rfl] at s1
          show ((fSeq _ _ [r0, some (plD r), o2]).bind _) = _
          rw [s1]
          rfl
        | false =>
          have s1 := step false hb
          rw [if_neg (by decide)] at s1
          rw [hb] at ip
          have e : drawsB (.pl r p) = drawsB p := by simp [drawsB, hb]
          rw [e]
          show (_ → fForG _ _ (plD r :: enc p) _ = _) ∧ (_ → ∃ ρ, fForG _ _ (plD r :: enc p) _ = _)
          rw [for_step (ρ' := [r0, some (plD r), some (.bool false)]) s1]
          exact ip
      | blk k b p ihb ihp =>
        intro hd ha r0 o1 o2
        have hb := ih b (dB hd).1 ha.1
        have ip := ihp (dB hd).2 ha.2 r0 (some (blkD k (enc b))) (some (.bool (!zeroK k && drawsB b)))
        obtain ⟨z1, z2, e1, e2, e3⟩ := last3K k (enc b)
        have step : ∀ c, (!zeroK k && drawsB b) = c → (fSeq (fIf (fAnd (f1 gB (f2 gEq (f2 gIx (fV 1) (fC (.int 0))) (fC (.str "again")))) (f1 gB (f2 gEq (f2 gIx (fV 1) (fC (.int 1))) (fC (.int 0))))) (fSet 2 (fC (.bool false))) (fIf (f1 gB (f2 gIn (f2 gIx (fV 1) (fC (.int 0))) (f1 gTu (fCons (fC (.str "again")) (fCons (fC (.str "keep")) (fCons (fC (.str "ever")) fNil)))))) (fSet 2 (f1 (draws_R n) (fCons (f2 gIx (fV 1) (f2 gSub (f1 (on1 gLen) (fCons (fV 1) fNil)) (fC (.int 1)))) fNil))) (fSet 2 (f2 gNotN (f2 gIx (f1 shaped_G (fCons (fV 1) fNil)) (fC (.int 0))) (fC .none))))) (fIf (f1 gB (fV 2)) (fRet (fC (.bool true))) fNext)) [r0, some (blkD k (enc b)), o2] = if c = true then some (.ret (.bool true)) else some (.nxt [r0, some (blkD k (enc b)), some (.bool c)]) := fun c hc => by
          cases k with
          | again t =>
            have g1 : gIx (blkD (.again t) (enc b)) (.int 1) = some (.int (t : Int)) := rfl
            cases t with
            | zero =>
              have hc' : c = false := by rw [← hc]; rfl
              subst hc'
              simp [f1, f2, fV, fC, fCons, fNil, fSeq, fSet, fRet, fIf, fNext, fNever, fAnd, fOr, fAndV, fOrV, fUnp, fPar, fSl, fChain, tgF, tgN, gTu, gLs, startR, defG, outV, on1, on2, gB, gNot, gNotV, gI, w0K, wordK, eq_again_again, g1, gEq_int]
            | succ t =>
              have hz : ((t : Int) + 1 = 0) ↔ False := ⟨fun h => by omega, fun h => h.elim⟩
              have hc' : drawsB b = c := by rw [← hc]; simp [zeroK]
              cases c <;> simp [f1, f2, fV, fC, fCons, fNil, fSeq, fSet, fRet, fIf, fNext, fNever, fAnd, fOr, fAndV, fOrV, fUnp, fPar, fSl, fChain, tgF, tgN, gTu, gLs, startR, defG, outV, on1, on2, gB, gNot, gNotV, gI, w0K, wordK, eq_again_again, g1, gEq_int, hz, in_again_tuple, e1, e2, e3, hb, hc']
          | keep =>
            have hc' : drawsB b = c := by rw [← hc]; simp [zeroK]
            cases c <;> simp [f1, f2, fV, fC, fCons, fNil, fSeq, fSet, fRet, fIf, fNext, fNever, fAnd, fOr, fAndV, fOrV, fUnp, fPar, fSl, fChain, tgF, tgN, gTu, gLs, startR, defG, outV, on1, on2, gB, gNot, gNotV, gI, w0K, wordK, eq_keep_again, in_keep_tuple, e1, e2, e3, hb, hc']
          | ever =>
            have hc' : drawsB b = c := by rw [← hc]; simp [zeroK]
            cases c <;> simp [f1, f2, fV, fC, fCons, fNil, fSeq, fSet, fRet, fIf, fNext, fNever, fAnd, fOr, fAndV, fOrV, fUnp, fPar, fSl, fChain, tgF, tgN, gTu, gLs, startR, defG, outV, on1, on2, gB, gNot, gNotV, gI, w0K, wordK, eq_ever_again, in_ever_tuple, e1, e2, e3, hb, hc']
        cases hc : (!zeroK k && drawsB b) with
        | true =>
          refine ⟨fun _ => ?_, fun z => by simp [drawsB, hc] at z⟩
          have s1 := step true hc
          rw [if_pos rfl] at s1
          show ((fSeq _ _ [r0, some (blkD k (enc b)), o2]).bind _) = _
          rw [s1]
          rfl
        | false =>
          have s1 := step false hc
          rw [if_neg (by decide)] at s1
          rw [hc] at ip
          have e : drawsB (.blk k b p) = drawsB p := by show ((!zeroK k && drawsB b) || drawsB p) = _; rw [hc]; rfl
          rw [e]
          show (_ → fForG _ _ (blkD k (enc b) :: enc p) _ = _) ∧ (_ → ∃ ρ, fForG _ _ (blkD k (enc b) :: enc p) _ = _)
          rw [for_step (ρ' := [r0, some (blkD k (enc b)), some (.bool false)]) s1]
          exact ip
    have hl := loop p h ha (some (.tuple (enc p))) none none
    cases hb : drawsB p with
    | true =>
      have e := hl.1 hb
      simp only [draws_R, F_draws]
      simp [f1, f2, fV, fC, fCons, fNil, fSeq, fSet, fRet, fIf, fNext, fNever, fAnd, fOr, fAndV, fOrV, fUnp, fPar, fSl, fChain, tgF, tgN, gTu, gLs, startR, defG, outV, on1, on2, gB, gNot, gNotV, gI, fFor, items, e]
    | false =>
      obtain ⟨ρ, e⟩ := hl.2 hb
      simp only [draws_R, F_draws]
      simp [f1, f2, fV, fC, fCons, fNil, fSeq, fSet, fRet, fIf, fNext, fNever, fAnd, fOr, fAndV, fOrV, fUnp, fPar, fSl, fChain, tgF, tgN, gTu, gLs, startR, defG, outV, on1, on2, gB, gNot, gNotV, gI, fFor, items, e]
end Arc
set_option Elab.async false
set_option linter.all false
set_option maxRecDepth 100000
set_option maxHeartbeats 1000000
set_option exponentiation.threshold 200
namespace Arc
open PySem L2
/-! ## the claim's own draws -/
theorem inP_six : ∀ r : Pl, gIn (.str (wordP r)) (.list [.str "go", .str "side", .str "dot", .str "quarter", .str "half", .str "arc"]) = some (.bool (pieceP r).isSome)
  | .go _ => in_go_six
  | .skip _ => in_skip_six
  | .side _ _ => in_side_six
  | .dot => in_dot_six
  | .left => in_left_six
  | .right => in_right_six
  | .round => in_round_six
  | .mirror => in_mirror_six
  | .grow _ => in_grow_six
  | .quarter _ => in_quarter_six
  | .half _ => in_half_six
  | .arc _ _ _ _ => in_arc_six
theorem inK_six : ∀ k : Kd, gIn (.str (wordK k)) (.list [.str "go", .str "side", .str "dot", .str "quarter", .str "half", .str "arc"]) = some (.bool false)
  | .again _ => in_again_six
  | .keep => in_keep_six
  | .ever => in_ever_six
def bn (b : Bool) : Nat := if b = true then 1 else 0
def drawN : Prog → Nat
  | .nil => 0
  | .pl r p => bn (pieceP r).isSome + drawN p
  | .blk k b p => bn (!zeroK k && drawsB b) + drawN p
theorem drawN_draws : ∀ p : Prog, decide ((0 : Int) < (drawN p : Int)) = drawsB p
  | .nil => rfl
  | .pl r p => by
    have h := drawN_draws p
    unfold drawN drawsB
    cases hb : (pieceP r).isSome
    · rw [← h]
      simp [bn]
    · simp [bn]
      omega
  | .blk k b p => by
    have h := drawN_draws p
    show decide ((0 : Int) < ((bn (!zeroK k && drawsB b) + drawN p : Nat) : Int)) = ((!zeroK k && drawsB b) || drawsB p)
    cases hb : (!zeroK k && drawsB b)
    · rw [← h]
      simp [bn]
    · simp [bn]
      omega
theorem ne1K {k : Kd} {b : Prog} (h : deepN b ≤ 20) : ∃ z, gIx (blkD k (enc b)) (.int 1) = some z ∧ gNe z (.int 0) = some (.bool (!zeroK k)) := by
  have hs := shp_tuple h
  have h0 : ∀ i : Int, SeqAt.shaped (.int i) = true := fun _ => rfl
  have ht : gNe (.tuple (enc b)) (.int 0) = some (.bool true) := by
    unfold gNe
    rw [hs, h0]
    rfl
  cases k with
  | again t =>
    refine ⟨.int (t : Int), rfl, ?_⟩
    rw [gNe_int]
    cases t with
    | zero => rfl
    | succ t =>
      have : ¬ (((t + 1 : Nat) : Int) = 0) := by omega
      rw [decide_eq_false this]
      rfl
  | keep => exact ⟨_, rfl, ht⟩
  | ever => exact ⟨_, rfl, ht⟩
theorem law_draws_ev : ∀ (n : Nat) (p : Prog), deepN p < n → deepN p ≤ 20 → law_draws_R n [.tuple (enc p)] = some (.bool (drawsB p)) ∧ law_draws_R n [.list (enc p)] = some (.bool (drawsB p))
  | 0, _, h, _ => absurd h (Nat.not_lt_zero _)
  | n + 1, p, h, hd => by
    have ih := law_draws_ev n
    have h1 : ∀ r0, ∀ (p : Prog), (deepN p < n + 1 ∧ deepN p ≤ 20) → ∀ (m : Int) (o : Option PyData), ∃ o', fForG (tgN 2) (fSeq (fIf (f1 gB (f2 gIn (f2 gIx (fV 2) (fC (.int 0))) (f1 gLs (fCons (fC (.str "go")) (fCons (fC (.str "side")) (fCons (fC (.str "dot")) (fCons (fC (.str "quarter")) (fCons (fC (.str "half")) (fCons (fC (.str "arc")) fNil))))))))) (fSet 1 (f2 gAdd (fV 1) (fC (.int 1)))) fNext) (fIf (fAnd (f1 gB (f2 gIn (f2 gIx (fV 2) (fC (.int 0))) (f1 gLs (fCons (fC (.str "again")) (fCons (fC (.str "keep")) (fCons (fC (.str "ever")) fNil)))))) (fAnd (f1 gB (f2 gNe (f2 gIx (fV 2) (fC (.int 1))) (fC (.int 0)))) (f1 gB (f1 (law_draws_R n) (fCons (f2 gIx (fV 2) (f1 gNeg (fC (.int 1)))) fNil))))) (fSet 1 (f2 gAdd (fV 1) (fC (.int 1)))) fNext)) (enc p) [r0, some (.int m), o] = some (.nxt [r0, some (.int (m + (drawN p : Int))), o']) := by
      intro r0
      refine count_loop rfl _ (fun r p hP => ⟨hP, bn (pieceP r).isSome, rfl, fun m o => ?_⟩) (fun k b p hP => ⟨⟨(dB hP.1).2, Nat.le_trans (Nat.le_max_right _ _) hP.2⟩, bn (!zeroK k && drawsB b), rfl, fun m o => ?_⟩)
      · cases hb : (pieceP r).isSome <;> simp [f1, f2, fV, fC, fCons, fNil, fSeq, fSet, fRet, fIf, fNext, fNever, fAnd, fOr, fAndV, fOrV, fUnp, fPar, fSl, fChain, tgF, tgN, gTu, gLs, startR, defG, outV, on1, on2, gB, gNot, gNotV, gI, w0P, inP_six, inP_list, hb, bn, gAdd_i]
      · have hd2 : deepN b ≤ 20 := by have := Nat.le_trans (Nat.le_max_left (1 + deepN b) (deepN p)) hP.2; omega
        have hb := (ih b (dB hP.1).1 hd2).1
        obtain ⟨z, e1, e2⟩ := ne1K (k := k) hd2
        have e3 := last1K k (enc b)
        cases hz : zeroK k
        · rw [hz] at e2
          cases hdr : drawsB b <;> simp [f1, f2, fV, fC, fCons, fNil, fSeq, fSet, fRet, fIf, fNext, fNever, fAnd, fOr, fAndV, fOrV, fUnp, fPar, fSl, fChain, tgF, tgN, gTu, gLs, startR, defG, outV, on1, on2, gB, gNot, gNotV, gI, w0K, inK_six, inK_list, e1, e2, e3, gNeg_i, hb, hdr, bn, gAdd_i]
        · rw [hz] at e2
          simp [f1, f2, fV, fC, fCons, fNil, fSeq, fSet, fRet, fIf, fNext, fNever, fAnd, fOr, fAndV, fOrV, fUnp, fPar, fSl, fChain, tgF, tgN, gTu, gLs, startR, defG, outV, on1, on2, gB, gNot, gNotV, gI, w0K, inK_six, inK_list, e1, e2, bn, gAdd_i]
    have fin : ∀ (q : Prog), gGt (.int (0 + (drawN q : Int))) (.int 0) = some (.bool (drawsB q)) := fun q => by
      show some (PyData.bool (decide ((0 : Int) < 0 + (drawN q : Int)))) = _
      rw [Int.zero_add, drawN_draws]
    have fin2 : gGt (.int (drawN p : Int)) (.int 0) = some (.bool (drawsB p)) := by
      have := fin p
      rwa [Int.zero_add] at this
    refine ⟨?_, ?_⟩
    · obtain ⟨o', e⟩ := h1 (some (.tuple (enc p))) p ⟨h, hd⟩ 0 none
      simp only [law_draws_R, F_law_draws]
      simp [f1, f2, fV, fC, fCons, fNil, fSeq, fSet, fRet, fIf, fNext, fNever, fAnd, fOr, fAndV, fOrV, fUnp, fPar, fSl, fChain, tgF, tgN, gTu, gLs, startR, defG, outV, on1, on2, gB, gNot, gNotV, gI, fFor, items, e, fin2]
    · obtain ⟨o', e⟩ := h1 (some (.list (enc p))) p ⟨h, hd⟩ 0 none
      simp only [law_draws_R, F_law_draws]
      simp [f1, f2, fV, fC, fCons, fNil, fSeq, fSet, fRet, fIf, fNext, fNever, fAnd, fOr, fAndV, fOrV, fUnp, fPar, fSl, fChain, tgF, tgN, gTu, gLs, startR, defG, outV, on1, on2, gB, gNot, gNotV, gI, fFor, items, e, fin2]
/-! ## moves -/
def powF : Nat → Fm → Fm
  | 0, _ => fst0
  | n + 1, M => beh M (powF n M)
def moveK (k : Kd) (M : Fm) : Fm := match k with
  | .again n => powF n M
  | _ => fst0
def moveP : Prog → Fm
  | .nil => fst0
  | .pl r p => beh (told r) (moveP p)
  | .blk k b p => beh (moveK k (moveP b)) (moveP p)
theorem stood_fb {E : Nat} {p : Pt} {t : _root_.Fin 4} {m : Nat} (h1 : Bd E m p.1) (h2 : Bd E m p.2) (hm : m ≤ XX) : FB E 1 (stoodF p t) := by
  refine ⟨⟨1, 1, by decide, by decide, ?_, ?_, Bd.one.up (Nat.dvd_refl _) (by decide) (by decide), ?_⟩, by show (0 : Rat) < 1; decide +kernel⟩
  · rw [Nat.mul_one]; exact h1.up (Nat.dvd_refl _) h1.pos (by omega)
  · rw [Nat.mul_one]; exact h2.up (Nat.dvd_refl _) h1.pos (by omega)
  · show Bd 1 (16 ^ 1) ((1 : Rat)⁻¹)
    rw [show (1 : Rat)⁻¹ = 1 from by decide +kernel]
    exact Bd.one.up (Nat.dvd_refl _) (by decide) (by decide)
theorem bd_self (r : Rat) {m : Nat} (h : r.num.natAbs ≤ m * r.den) : Bd r.den m r := ⟨r.den_pos, r.num, by rw [Rat.mul_comm]; exact rat_num r, h⟩
theorem told_fb {E : Nat} (hE : 0 < E) : ∀ {r : Pl}, PlOk E r → FB E 1 (told r)
  | .go a, h => stood_fb (p := (a, 0)) h (.zero hE) (by decide)
  | .skip a, h => stood_fb (p := (a, 0)) h (.zero hE) (by decide)
  | .side a b, h => stood_fb (p := (a, b)) h.1 h.2 (by decide)
  | .dot, _ => (FB.first hE).mono (by decide)
  | .left, _ => stood_fb (p := (0, 0)) (m := 0) (.zero hE) (.zero hE) (by decide)
  | .right, _ => stood_fb (p := (0, 0)) (m := 0) (.zero hE) (.zero hE) (by decide)
  | .round, _ => stood_fb (p := (0, 0)) (m := 0) (.zero hE) (.zero hE) (by decide)
  | .mirror, _ => by
    have h := stood_fb (E := E) (p := (0, 0)) (t := 0) (m := 0) (.zero hE) (.zero hE) (by decide)
    exact ⟨h.ex, h.pos⟩
  | .grow a, h => by
    obtain ⟨h1, h2, h3⟩ := h
    have hp := a.den_pos
    have hpos : 0 < a := by
      have := pos_num a
      have h0 : 0 < a.num := by omega
      rw [decide_eq_true h0] at this
      exact of_decide_eq_true this.symm
    have hn : a.num.natAbs ≤ 12 := by omega
    refine ⟨⟨a.den, a.num.natAbs, by omega, by omega, .zero (Nat.mul_pos hE hp), .zero (Nat.mul_pos hE hp), bd_self a ?_, ?_⟩, hpos⟩
    · have : 12 * 1 ≤ 16 ^ 1 * a.den := Nat.mul_le_mul (by decide) hp
      omega
    · have e : (a⁻¹).den = a.num.natAbs := by rw [Rat.den_inv, if_neg (by omega)]
      have e2 : (a⁻¹).num.natAbs = a.den := by
        rw [Rat.num_inv, Int.natAbs_mul]
        have : a.num.sign = 1 := Int.sign_eq_one_of_pos (by omega)
        rw [this]
        simp
      have := bd_self a⁻¹ (m := 16 ^ 1) (by
        rw [e, e2]
        have : 16 * 1 ≤ 16 ^ 1 * a.num.natAbs := Nat.mul_le_mul (by decide) (by omega)
        omega)
      rw [e] at this
      exact this
  | .quarter a, h => stood_fb (p := (absR a, a)) (absR_bd h.1) h.1 (by decide)
  | .half a, h => stood_fb (p := (0, a + a)) (.zero hE) (h.1.add h.1) (by decide)
  | .arc a b c d, h => stood_fb (p := (c, d)) h.2.2.1 h.2.2.2.1 (by decide)
theorem pow_fb {E k : Nat} {M : Fm} (hE : 0 < E) (h : FB E k M) : ∀ n, FB E (n * k) (powF n M)
  | 0 => by rw [Nat.zero_mul]; exact FB.first hE
  | n + 1 => by
    rw [Nat.succ_mul, Nat.add_comm]
    exact h.beh (pow_fb hE h n)
theorem move_fb {E : Nat} (hE : 0 < E) : ∀ {p : Prog}, AllPl E p → FB E (doneN p) (moveP p)
  | .nil, _ => FB.first hE
  | .pl r p, h => (told_fb hE h.1).beh (move_fb hE h.2)
  | .blk k b p, h => by
    have hb := move_fb hE h.1
    have hp := move_fb hE h.2
    have hk : FB E (timesK k * doneN b) (moveK k (moveP b)) := by
      cases k with
      | again n => exact pow_fb hE hb n
      | keep => exact (FB.first hE).mono (Nat.zero_le _)
      | ever => exact (FB.first hE).mono (Nat.zero_le _)
    exact hk.beh hp
end Arc
set_option Elab.async false
set_option linter.all false
set_option maxRecDepth 100000
set_option maxHeartbeats 1000000
set_option exponentiation.threshold 200
namespace Arc
open PySem L2
theorem fSeq_nxt {F G : Rho → Option Out} {ρ ρ' : Rho} (h : F ρ = some (.nxt ρ')) : fSeq F G ρ = G ρ' := by
  unfold fSeq
  rw [h]
  rfl
theorem fFor_t {fi : Rho → Option PyData} {tgt : PyData → Rho → Option Rho} {F : Rho → Option Out} {ρ : Rho} {l : List PyData} {r : Option Out} (h : fi ρ = some (.tuple l)) (e : fForG tgt F l ρ = r) : fFor fi tgt F ρ = r := by
  unfold fFor
  rw [h]
  exact e
theorem fFor_l {fi : Rho → Option PyData} {tgt : PyData → Rho → Option Rho} {F : Rho → Option Out} {ρ : Rho} {l : List PyData} {r : Option Out} (h : fi ρ = some (.list l)) (e : fForG tgt F l ρ = r) : fFor fi tgt F ρ = r := by
  unfold fFor
  rw [h]
  exact e
theorem numsD_len (lo : Int) (n : Nat) : (numsD lo n).length = n := by
  unfold numsD
  simp
theorem gRng_n {n : Nat} (h : n ≤ 12) : gRng1 [.int (n : Int)] = some (.list (numsD 0 n)) := by
  show (if -1000000 ≤ (n : Int) ∧ (n : Int) ≤ 1000000 then some (PyData.list (numsD 0 (n : Int).toNat)) else none) = _
  rw [if_pos ⟨by omega, by omega⟩]
  simp
theorem pow_loop {E k : Nat} {M : Fm} (hE : E ≤ 2 ^ 640) (hM : FB E k M) (r : Option PyData) : ∀ (l : List PyData) (kF : Nat) (F : Fm) (o : Option PyData), FB E kF F → kF + l.length * k ≤ 960 →
    ∃ o', fForG (tgN 3) (fSet 1 (f1 behind_G (fCons (fV 1) (fCons (fV 2) fNil)))) l [r, some (fmD F), some (fmD M), o] = some (.nxt [r, some (fmD (beh F (powF l.length M))), some (fmD M), o'])
  | [], kF, F, o, hF, _ => ⟨o, by rw [show powF ([] : List PyData).length M = fst0 from rfl, beh_first]; rfl⟩
  | x :: l, kF, F, o, hF, hk => by
    have hk2 : kF + k + l.length * k ≤ 960 := by
      rw [List.length_cons, Nat.succ_mul] at hk
      omega
    have hb := behind_fb hF hM hE (by omega)
    obtain ⟨o', ih⟩ := pow_loop hE hM r l (kF + k) (beh F M) (some x) (hF.beh hM) hk2
    refine ⟨o', ?_⟩
    rw [for_step (ρ' := [r, some (fmD (beh F M)), some (fmD M), some x]), ih, beh_assoc]
    · rfl
    · simp [f1, f2, fV, fC, fCons, fNil, fSeq, fSet, fRet, fIf, fNext, fNever, fAnd, fOr, fAndV, fOrV, fUnp, fPar, fSl, fChain, tgF, tgN, gTu, gLs, startR, defG, outV, on1, on2, gB, gNot, gNotV, gI, hb]
theorem moved_ev {E : Nat} (hE0 : 0 < E) (hE : E ≤ 2 ^ 640) {g : List PyData → Option PyData} {k : Kd} {b : Prog} (hn : timesK k ≤ 12) (hd : timesK k * doneN b ≤ 900) (hd2 : doneN b ≤ 900) (ha : AllPl E b) (hg : g [.tuple (enc b)] = some (fmD (moveP b))) :
    defG 1 4 (F_moved_by g) [blkD k (enc b)] = some (fmD (moveK k (moveP b))) := by
  cases k with
  | keep =>
    have e0 : gIx (blkD .keep (enc b)) (.int 0) = some (.str "keep") := rfl
    simp only [F_moved_by]
    simp [f1, f2, fV, fC, fCons, fNil, fSeq, fSet, fRet, fIf, fNext, fNever, fAnd, fOr, fAndV, fOrV, fUnp, fPar, fSl, fChain, tgF, tgN, gTu, gLs, startR, defG, outV, on1, on2, gB, gNot, gNotV, gI, e0, eq_keep_keep, first_ev, moveK]
  | ever =>
    have e0 : gIx (blkD .ever (enc b)) (.int 0) = some (.str "ever") := rfl
    simp only [F_moved_by]
    simp [f1, f2, fV, fC, fCons, fNil, fSeq, fSet, fRet, fIf, fNext, fNever, fAnd, fOr, fAndV, fOrV, fUnp, fPar, fSl, fChain, tgF, tgN, gTu, gLs, startR, defG, outV, on1, on2, gB, gNot, gNotV, gI, e0, eq_ever_keep, eq_ever_ever, first_ev, moveK]
  | again t =>
    have e0 : gIx (blkD (.again t) (enc b)) (.int 0) = some (.str "again") := rfl
    have e1 : gIx (blkD (.again t) (enc b)) (.int 1) = some (.int (t : Int)) := rfl
    have e2 : gIx (blkD (.again t) (enc b)) (.int 2) = some (.tuple (enc b)) := rfl
    have hr := gRng_n (n := t) hn
    obtain ⟨o', hl⟩ := pow_loop hE (move_fb hE0 ha) (some (blkD (.again t) (enc b))) (numsD 0 t) 0 fst0 none (FB.first hE0) (by
      rw [numsD_len]
      simp only [timesK] at hd
      omega)
    rw [numsD_len, first_beh] at hl
    simp only [F_moved_by]
    simp [f1, f2, fV, fC, fCons, fNil, fSeq, fSet, fRet, fIf, fNext, fNever, fAnd, fOr, fAndV, fOrV, fUnp, fPar, fSl, fChain, tgF, tgN, gTu, gLs, startR, defG, outV, on1, on2, gB, gNot, gNotV, gI, e0, e1, e2, eq_again_keep, eq_again_ever, ne_again_again, first_ev, moveK, hg, hr, fFor, items, hl]
theorem moved_pl {E : Nat} (hE : E ≤ 2 ^ 640) {g : List PyData → Option PyData} {r : Pl} (h : PlOk E r) : defG 1 4 (F_moved_by g) [plD r] = some (fmD (told r)) := by
  have hs := shaped_ev hE h
  have i1 : gIx (.tuple [optD (pieceP r), fmD (told r)]) (.int 1) = some (fmD (told r)) := rfl
  have hn : gNe (.str (wordP r)) (.str "again") = some (.bool true) := by
    have h := eP_again r
    unfold gEq at h
    unfold gNe
    split at h
    · rename_i hc
      rw [if_pos hc, PyData.bool.inj (Option.some.inj h)]
      rfl
    · cases h
  simp only [F_moved_by]
  simp [f1, f2, fV, fC, fCons, fNil, fSeq, fSet, fRet, fIf, fNext, fNever, fAnd, fOr, fAndV, fOrV, fUnp, fPar, fSl, fChain, tgF, tgN, gTu, gLs, startR, defG, outV, on1, on2, gB, gNot, gNotV, gI, w0P, eP_keep, eP_ever, hn, hs, i1]
theorem move_ev {E : Nat} (hE0 : 0 < E) (hE : E ≤ 2 ^ 640) : ∀ (n : Nat) (p : Prog), deepN p < n → AllPl E p → Lim p → doneN p ≤ 900 → move_R n [.tuple (enc p)] = some (fmD (moveP p))
  | 0, _, h, _, _, _ => absurd h (Nat.not_lt_zero _)
  | n + 1, p, h, ha, hl, hd => by
    have ih := move_ev hE0 hE n
    have loop : ∀ (p : Prog), deepN p < n + 1 → AllPl E p → Lim p → ∀ (r0 o : Option PyData) (kF : Nat) (F : Fm), FB E kF F → kF + doneN p ≤ 900 →
        ∃ o', fForG (tgN 2) (fSet 1 (f1 behind_G (fCons (fV 1) (fCons (f1 (defG 1 4 (F_moved_by (move_R n))) (fCons (fV 2) fNil)) fNil)))) (enc p) [r0, some (fmD F), o] = some (.nxt [r0, some (fmD (beh F (moveP p))), o']) := by
      intro p
      induction p with
      | nil => exact fun _ _ _ r0 o kF F _ _ => ⟨o, by rw [show moveP .nil = fst0 from rfl, beh_first]; rfl⟩
      | pl r p ihp =>
        intro hd ha hl r0 o kF F hF hk
        have hk2 : kF + (1 + doneN p) ≤ 900 := hk
        have hm := moved_pl (g := move_R n) hE ha.1
        have hb := behind_fb hF (told_fb hE0 ha.1) hE (by omega)
        obtain ⟨o', e⟩ := ihp hd ha.2 hl r0 (some (plD r)) (kF + 1) (beh F (told r)) (hF.beh (told_fb hE0 ha.1)) (by omega)
        refine ⟨o', ?_⟩
        show fForG _ _ (plD r :: enc p) _ = _
        rw [for_step (ρ' := [r0, some (fmD (beh F (told r))), some (plD r)]), e, beh_assoc]
        · rfl
        · simp only [f1, fCons, fNil, fSet, fV]
          simp [hm, hb]
      | blk k b p ihb ihp =>
        intro hd ha hl r0 o kF F hF hk
        have hk2 : kF + (timesK k * doneN b + doneN p) ≤ 900 := hk
        have hg := ih b (dB hd).1 ha.1 hl.2.2.1 (by have := hl.2.1; omega)
        have hm := moved_ev (g := move_R n) (k := k) hE0 hE hl.1 (by omega) (by have := hl.2.1; omega) ha.1 hg
        have hfb : FB E (timesK k * doneN b) (moveK k (moveP b)) := by
          cases k with
          | again n => exact pow_fb hE0 (move_fb hE0 ha.1) n
          | keep => exact (FB.first hE0).mono (Nat.zero_le _)
          | ever => exact (FB.first hE0).mono (Nat.zero_le _)
        have hb := behind_fb hF hfb hE (by omega)
        obtain ⟨o', e⟩ := ihp (dB hd).2 ha.2 hl.2.2.2 r0 (some (blkD k (enc b))) (kF + timesK k * doneN b) (beh F (moveK k (moveP b))) (hF.beh hfb) (by omega)
        refine ⟨o', ?_⟩
        show fForG _ _ (blkD k (enc b) :: enc p) _ = _
        rw [for_step (ρ' := [r0, some (fmD (beh F (moveK k (moveP b)))), some (blkD k (enc b))]), e, beh_assoc]
        · rfl
        · simp only [f1, fCons, fNil, fSet, fV]
          simp [hm, hb]
    obtain ⟨o', e⟩ := loop p h ha hl (some (.tuple (enc p))) none 0 fst0 (FB.first hE0) (by omega)
    rw [first_beh] at e
    show outV (fSeq (fSet 1 (f1 first_G fNil)) (fSeq (fFor (fV 0) (tgN 2) (fSet 1 (f1 behind_G (fCons (fV 1) (fCons (f1 (defG 1 4 (F_moved_by (move_R n))) (fCons (fV 2) fNil)) fNil))))) (fRet (fV 1))) [some (.tuple (enc p)), none, none]) = _
    rw [fSeq_nxt (ρ' := [some (.tuple (enc p)), some (fmD fst0), none]) rfl, fSeq_nxt (fFor_t rfl e)]
    rfl
end Arc
set_option Elab.async false
set_option linter.all false
set_option maxRecDepth 100000
set_option maxHeartbeats 1000000
set_option exponentiation.threshold 200
namespace Arc
open PySem L2
/-! ## the claim's own fractions -/
theorem law_loop (p q : Option PyData) : ∀ (n x y : Nat), y < n → fWhile (f1 gB (f2 gGt (fV 3) (fC (.int 0)))) (fPar 2 3 (fCons (fV 3) (fCons (f2 gMod (fV 2) (fV 3)) fNil))) n [p, q, some (.int x), some (.int y)] = some (.nxt [p, q, some (.int (Nat.gcd x y)), some (.int 0)])
  | 0, _, _, h => absurd h (Nat.not_lt_zero _)
  | n + 1, x, y, h => by
    by_cases hy : y = 0
    · subst hy
      rw [Nat.gcd_zero_right]
      rfl
    · have hp : (0 : Int) < (y : Int) := by omega
      have ih := law_loop p q n y (x % y) (by have := Nat.mod_lt x (Nat.pos_of_ne_zero hy); omega)
      have eg : Nat.gcd y (x % y) = Nat.gcd x y := by rw [Nat.gcd_comm x y, Nat.gcd_rec y x, Nat.gcd_comm]
      rw [eg] at ih
      have e2 : (x : Int) % (y : Int) = ((x % y : Nat) : Int) := by simp
      have hF : fPar 2 3 (fCons (fV 3) (fCons (f2 gMod (fV 2) (fV 3)) fNil)) [p, q, some (.int x), some (.int y)] = some (.nxt [p, q, some (.int y), some (.int ((x % y : Nat) : Int))]) := by
        have hm : gMod (.int x) (.int y) = some (.int ((x % y : Nat) : Int)) := by
          show (if (0 : Int) < (y : Int) then some (PyData.int ((x : Int) % (y : Int))) else none) = _
          rw [if_pos hp, e2]
        show (((gMod (.int x) (.int y)).bind fun b => (some []).bind fun l => some (b :: l)).bind fun l => some (PyData.int y :: l)).bind _ = _
        rw [hm]
        rfl
      have hc : f1 gB (f2 gGt (fV 3) (fC (.int 0))) [p, q, some (.int x), some (.int y)] = some true := by
        show some (decide ((0 : Int) < (y : Int))) = _
        rw [decide_eq_true hp]
      show (f1 gB (f2 gGt (fV 3) (fC (.int 0))) [p, q, some (.int x), some (.int y)]).bind _ = _
      rw [hc]
      show (fPar 2 3 (fCons (fV 3) (fCons (f2 gMod (fV 2) (fV 3)) fNil)) [p, q, some (.int x), some (.int y)]).bind _ = _
      rw [hF]
      exact ih
theorem law_ratio_ev (t : Int) (b : Nat) (hb : 0 < b) (hs : b.log2 < 9000) : law_ratio_G [.int t, .int b] = some (fr (mkRat t b)) := by
  have hg : 0 < Nat.gcd t.natAbs b := Nat.gcd_pos_of_pos_right _ hb
  have hgb : Nat.gcd t.natAbs b ≤ b := Nat.gcd_le_right _ hb
  have hgl : (Nat.gcd t.natAbs b).log2 < 9000 := by
    have : (Nat.gcd t.natAbs b).log2 ≤ b.log2 := by
      rw [Nat.le_log2 (by omega)]
      exact Nat.le_trans (Nat.log2_self_le (by omega)) hgb
    omega
  have cd : ∀ i : Int, gDiv (.int i) (.int (Nat.gcd t.natAbs b : Nat)) = some (.int (i / (Nat.gcd t.natAbs b : Nat))) := fun i => by
    have c : CDivW i (Nat.gcd t.natAbs b : Nat) := ⟨by omega, by simpa using hgl⟩
    show (if CDivW i (Nat.gcd t.natAbs b : Nat) then _ else _) = _
    rw [if_pos c]
  have hl := law_loop (some (.int t)) (some (.int (b : Int))) (b + 1) t.natAbs b (Nat.lt_succ_self _)
  have e : law_ratio_G [.int t, .int b] = outV (fSeq (fLoop (nfI 3) (f1 gB (f2 gGt (fV 3) (fC (.int 0)))) (fPar 2 3 (fCons (fV 3) (fCons (f2 gMod (fV 2) (fV 3)) fNil)))) (fRet (f1 gTu (fCons (f2 gDiv (fV 0) (fV 2)) (fCons (f2 gDiv (fV 1) (fV 2)) fNil)))) [some (.int t), some (.int b), some (.int (if t < 0 then -t else t)), some (.int b)]) := rfl
  rw [e, abs_nat, fSeq_nxt (F := fLoop _ _ _) (ρ' := [some (.int t), some (.int b), some (.int (Nat.gcd t.natAbs b : Nat)), some (.int 0)])]
  · have e2 : (fRet (f1 gTu (fCons (f2 gDiv (fV 0) (fV 2)) (fCons (f2 gDiv (fV 1) (fV 2)) fNil)))) [some (.int t), some (.int b), some (.int (Nat.gcd t.natAbs b : Nat)), some (.int 0)] = some (.ret (.tuple [.int (t / (Nat.gcd t.natAbs b : Nat)), .int ((b : Int) / (Nat.gcd t.natAbs b : Nat))])) := by
      simp [f1, f2, fV, fC, fCons, fNil, fSeq, fSet, fRet, fIf, fNext, fNever, fAnd, fOr, fAndV, fOrV, fUnp, fPar, fSl, fChain, tgF, tgN, gTu, gLs, startR, defG, outV, on1, on2, gB, gNot, gNotV, gI, cd]
    rw [e2]
    show some (PyData.tuple [.int (t / (Nat.gcd t.natAbs b : Nat)), .int ((b : Int) / (Nat.gcd t.natAbs b : Nat))]) = _
    unfold fr
    rw [Rat.num_mkRat, Rat.den_mkRat, if_neg (by omega), if_neg (by omega), Nat.gcd_comm]
    simp
  · exact hl
theorem law_times_ev {x y : Rat} (hx : Sm x) (hy : Sm y) : law_times_G [fr x, fr y] = some (fr (x * y)) := by
  have c1 : CMulW x.num y.num := by
    have := hx.n; have := hy.n; unfold CMulW; omega
  have c3 : CMulW x.den y.den := by
    have := hx.d; have := hy.d; unfold CMulW; simp; omega
  have h := law_ratio_ev (x.num * y.num) (x.den * y.den) (Nat.mul_pos x.den_pos y.den_pos) (hx.dd hy)
  rw [← Rat.mul_def'] at h
  simp only [law_times_G, F_law_times]
  simp [f1, f2, fV, fC, fCons, fNil, fSeq, fSet, fRet, fIf, fNext, fNever, fAnd, fOr, fAndV, fOrV, fUnp, fPar, fSl, fChain, tgF, tgN, gTu, gLs, startR, defG, outV, on1, on2, gB, gNot, gNotV, gI, fr, gIx, atI, ixN, gMul, c1, c3] at h ⊢
  rw [h]
  rfl
theorem law_plus_ev {x y : Rat} (hx : Sm x) (hy : Sm y) : law_plus_G [fr x, fr y] = some (fr (x + y)) := by
  have c1 : CMulW x.num y.den := by
    have := hx.n; have := hy.d; unfold CMulW; simp; omega
  have c2 : CMulW y.num x.den := by
    have := hy.n; have := hx.d; unfold CMulW; simp; omega
  have c3 : CMulW x.den y.den := by
    have := hx.d; have := hy.d; unfold CMulW; simp; omega
  have h := law_ratio_ev (x.num * y.den + y.num * x.den) (x.den * y.den) (Nat.mul_pos x.den_pos y.den_pos) (hx.dd hy)
  rw [← Rat.add_def'] at h
  simp only [law_plus_G, F_law_plus]
  simp [f1, f2, fV, fC, fCons, fNil, fSeq, fSet, fRet, fIf, fNext, fNever, fAnd, fOr, fAndV, fOrV, fUnp, fPar, fSl, fChain, tgF, tgN, gTu, gLs, startR, defG, outV, on1, on2, gB, gNot, gNotV, gI, fr, gIx, atI, ixN, gMul, gAdd, c1, c2, c3] at h ⊢
  rw [h]
  rfl
/-! ## the growth of a program -/
theorem eP_grow : ∀ r : Pl, gEq (.str (wordP r)) (.str "grow") = some (.bool (match r with | .grow _ => true | _ => false))
  | .go _ => eq_go_grow
  | .skip _ => eq_skip_grow
  | .side _ _ => eq_side_grow
  | .dot => eq_dot_grow
  | .left => eq_left_grow
  | .right => eq_right_grow
  | .round => eq_round_grow
  | .mirror => eq_mirror_grow
  | .grow _ => eq_grow_grow
  | .quarter _ => eq_quarter_grow
  | .half _ => eq_half_grow
  | .arc _ _ _ _ => eq_arc_grow
abbrev bodySz (T g : List PyData → Option PyData) : Rho → Option Out := fSeq (fIf (f1 gB (f2 gEq (f2 gIx (fV 2) (fC (.int 0))) (fC (.str "grow")))) (fSet 1 (f1 T (fCons (fV 1) (fCons (f2 gIx (fV 2) (fC (.int 1))) fNil)))) fNext) (fIf (f1 gB (f2 gEq (f2 gIx (fV 2) (fC (.int 0))) (fC (.str "again")))) (fSeq (fSet 3 (f1 g (fCons (f2 gIx (fV 2) (fC (.int 2))) fNil))) (fFor (f1 gRng1 (fCons (f2 gIx (fV 2) (fC (.int 1))) fNil)) (tgN 4) (fSet 1 (f1 T (fCons (fV 1) (fCons (fV 3) fNil)))))) fNext)
theorem size_pow {E k : Nat} {M : Fm} {T : List PyData → Option PyData} (hT : ∀ {x y : Rat}, Sm x → Sm y → T [fr x, fr y] = some (fr (x * y))) (hM : FB E k M) (r w : Option PyData) : ∀ (l : List PyData) (kF : Nat) (F : Fm) (o : Option PyData), FB E kF F → kF + l.length * k ≤ 960 →
    ∃ o', fForG (tgN 4) (fSet 1 (f1 T (fCons (fV 1) (fCons (fV 3) fNil)))) l [r, some (fr F.s), w, some (fr M.s), o] = some (.nxt [r, some (fr (beh F (powF l.length M)).s), w, some (fr M.s), o'])
  | [], kF, F, o, hF, _ => ⟨o, by rw [show powF ([] : List PyData).length M = fst0 from rfl, beh_first]; rfl⟩
  | x :: l, kF, F, o, hF, hk => by
    have hk2 : kF + k + l.length * k ≤ 960 := by
      rw [List.length_cons, Nat.succ_mul] at hk
      omega
    have hb : T [fr F.s, fr M.s] = some (fr (beh F M).s) := by
      by_cases hz : k ≤ 960
      · exact hT (hF.sm_s (by omega)).1 (hM.sm_s hz).1
      · omega
    obtain ⟨o', ih⟩ := size_pow hT hM r w l (kF + k) (beh F M) (some x) (hF.beh hM) hk2
    refine ⟨o', ?_⟩
    rw [for_step (ρ' := [r, some (fr (beh F M).s), w, some (fr M.s), some x]), ih, beh_assoc]
    · rfl
    · simp [f1, f2, fV, fC, fCons, fNil, fSeq, fSet, fRet, fIf, fNext, fNever, fAnd, fOr, fAndV, fOrV, fUnp, fPar, fSl, fChain, tgF, tgN, gTu, gLs, startR, defG, outV, on1, on2, gB, gNot, gNotV, gI, hb]
theorem size_loop {E : Nat} (hE0 : 0 < E) {T g : List PyData → Option PyData} (hT : ∀ {x y : Rat}, Sm x → Sm y → T [fr x, fr y] = some (fr (x * y))) {n : Nat} (hg : ∀ b, deepN b < n → AllPl E b → Lim b → doneN b ≤ 900 → g [.tuple (enc b)] = some (fr (moveP b).s)) :
    ∀ (p : Prog), deepN p < n + 1 → AllPl E p → Lim p → ∀ (r0 o2 o3 o4 : Option PyData) (kF : Nat) (F : Fm), FB E kF F → kF + doneN p ≤ 900 →
        ∃ o2' o3' o4', fForG (tgN 2) (bodySz T g) (enc p) [r0, some (fr F.s), o2, o3, o4] = some (.nxt [r0, some (fr (beh F (moveP p)).s), o2', o3', o4']) := by
  intro p
  induction p with
  | nil => exact fun _ _ _ r0 o2 o3 o4 kF F _ _ => ⟨o2, o3, o4, by rw [show moveP .nil = fst0 from rfl, beh_first]; rfl⟩
  | pl r p ihp =>
    intro hd ha hl r0 o2 o3 o4 kF F hF hk
    have hk2 : kF + (1 + doneN p) ≤ 900 := hk
    have ht := told_fb hE0 ha.1
    obtain ⟨a2, a3, a4, e⟩ := ihp hd ha.2 hl r0 (some (plD r)) o3 o4 (kF + 1) (beh F (told r)) (hF.beh ht) (by omega)
    refine ⟨a2, a3, a4, ?_⟩
    have hb := hT (hF.sm_s (show kF ≤ 960 by omega)).1 (ht.sm_s (by decide)).1
    have step : bodySz T g [r0, some (fr F.s), some (plD r), o3, o4] = some (.nxt [r0, some (fr (beh F (told r)).s), some (plD r), o3, o4]) := by
      have i0 := w0P r
      have g1 := eP_grow r
      have g2 := eP_again r
      cases r with
      | grow a =>
        have i1 : gIx (plD (.grow a)) (.int 1) = some (fr a) := rfl
        have hb2 : T [fr F.s, fr a] = some (fr (beh F (told (.grow a))).s) := hb
        simp only at g1
        simp [f1, f2, fV, fC, fCons, fNil, fSeq, fSet, fRet, fIf, fNext, fNever, fAnd, fOr, fAndV, fOrV, fUnp, fPar, fSl, fChain, tgF, tgN, gTu, gLs, startR, defG, outV, on1, on2, gB, gNot, gNotV, gI, i0, g1, g2, i1, hb2]
      | _ =>
        simp only at g1
        have e1 : ∀ (x y : Rat) (t : _root_.Fin 4) (m : Bool), (beh F ⟨x, y, t, m, 1⟩).s = F.s := fun x y t m => Rat.mul_one _
        simp [f1, f2, fV, fC, fCons, fNil, fSeq, fSet, fRet, fIf, fNext, fNever, fAnd, fOr, fAndV, fOrV, fUnp, fPar, fSl, fChain, tgF, tgN, gTu, gLs, startR, defG, outV, on1, on2, gB, gNot, gNotV, gI, i0, g1, g2, told, stoodF, fst0, e1]
    show fForG _ _ (plD r :: enc p) _ = _
    rw [for_step (ρ' := [r0, some (fr (beh F (told r)).s), some (plD r), o3, o4]) step, e, beh_assoc]
    rfl
  | blk k b p ihb ihp =>
    intro hd ha hl r0 o2 o3 o4 kF F hF hk
    have hk2 : kF + (timesK k * doneN b + doneN p) ≤ 900 := hk
    have hb := hg b (dB hd).1 ha.1 hl.2.2.1 (by have := hl.2.1; omega)
    have hM := move_fb hE0 ha.1
    have step : ∃ o3' o4', bodySz T g [r0, some (fr F.s), some (blkD k (enc b)), o3, o4] = some (.nxt [r0, some (fr (beh F (moveK k (moveP b))).s), some (blkD k (enc b)), o3', o4']) := by
      cases k with
      | again t =>
        have i0 : gIx (blkD (.again t) (enc b)) (.int 0) = some (.str "again") := rfl
        have i1 : gIx (blkD (.again t) (enc b)) (.int 1) = some (.int (t : Int)) := rfl
        have i2 : gIx (blkD (.again t) (enc b)) (.int 2) = some (.tuple (enc b)) := rfl
        have hr := gRng_n (n := t) hl.1
        obtain ⟨o', hp⟩ := size_pow hT hM r0 (some (blkD (.again t) (enc b))) (numsD 0 t) kF F o4 hF (by
          rw [numsD_len]
          simp only [timesK] at hk2
          omega)
        rw [numsD_len] at hp
        exact ⟨some (fr (moveP b).s), o', by simp [f1, f2, fV, fC, fCons, fNil, fSeq, fSet, fRet, fIf, fNext, fNever, fAnd, fOr, fAndV, fOrV, fUnp, fPar, fSl, fChain, tgF, tgN, gTu, gLs, startR, defG, outV, on1, on2, gB, gNot, gNotV, gI, i0, i1, i2, eq_again_grow, eq_again_again, hb, hr, fFor, items, hp, moveK]⟩
      | keep =>
        have i0 : gIx (blkD .keep (enc b)) (.int 0) = some (.str "keep") := rfl
        exact ⟨o3, o4, by simp [f1, f2, fV, fC, fCons, fNil, fSeq, fSet, fRet, fIf, fNext, fNever, fAnd, fOr, fAndV, fOrV, fUnp, fPar, fSl, fChain, tgF, tgN, gTu, gLs, startR, defG, outV, on1, on2, gB, gNot, gNotV, gI, i0, eq_keep_grow, eq_keep_again, moveK, beh_first]⟩
      | ever =>
        have i0 : gIx (blkD .ever (enc b)) (.int 0) = some (.str "ever") := rfl
        exact ⟨o3, o4, by simp [f1, f2, fV, fC, fCons, fNil, fSeq, fSet, fRet, fIf, fNext, fNever, fAnd, fOr, fAndV, fOrV, fUnp, fPar, fSl, fChain, tgF, tgN, gTu, gLs, startR, defG, outV, on1, on2, gB, gNot, gNotV, gI, i0, eq_ever_grow, eq_ever_again, moveK, beh_first]⟩
    obtain ⟨o3', o4', step⟩ := step
    have hfb : FB E (timesK k * doneN b) (moveK k (moveP b)) := by
      cases k with
      | again n => exact pow_fb hE0 hM n
      | keep => exact (FB.first hE0).mono (Nat.zero_le _)
      | ever => exact (FB.first hE0).mono (Nat.zero_le _)
    obtain ⟨a2, a3, a4, e⟩ := ihp (dB hd).2 ha.2 hl.2.2.2 r0 (some (blkD k (enc b))) o3' o4' (kF + timesK k * doneN b) (beh F (moveK k (moveP b))) (hF.beh hfb) (by omega)
    refine ⟨a2, a3, a4, ?_⟩
    show fForG _ _ (blkD k (enc b) :: enc p) _ = _
    rw [for_step step, e, beh_assoc]
    rfl
theorem size_ev {E : Nat} (hE0 : 0 < E) : ∀ (n : Nat) (p : Prog), deepN p < n → AllPl E p → Lim p → doneN p ≤ 900 → size_by_R n [.tuple (enc p)] = some (fr (moveP p).s) ∧ law_size_R n [.tuple (enc p)] = some (fr (moveP p).s) ∧ law_size_R n [.list (enc p)] = some (fr (moveP p).s)
  | 0, _, h, _, _, _ => absurd h (Nat.not_lt_zero _)
  | n + 1, p, h, ha, hl, hd => by
    have ih := size_ev hE0 n
    refine ⟨?_, ?_, ?_⟩
    · obtain ⟨a2, a3, a4, e⟩ := size_loop hE0 (T := times_G) times_ev (g := size_by_R n) (fun b h1 h2 h3 h4 => (ih b h1 h2 h3 h4).1) p h ha hl (some (.tuple (enc p))) none none none 0 fst0 (FB.first hE0) (by omega)
      rw [first_beh] at e
      show outV (fSeq (fSet 1 (f1 gTu (fCons (fC (.int 1)) (fCons (fC (.int 1)) fNil)))) (fSeq (fFor (fV 0) (tgN 2) (bodySz times_G (size_by_R n))) (fRet (fV 1))) [some (.tuple (enc p)), none, none, none, none]) = _
      rw [fSeq_nxt (ρ' := [some (.tuple (enc p)), some (fr fst0.s), none, none, none]) rfl, fSeq_nxt (fFor_t rfl e)]
      rfl
    · obtain ⟨a2, a3, a4, e⟩ := size_loop hE0 (T := law_times_G) law_times_ev (g := law_size_R n) (fun b h1 h2 h3 h4 => (ih b h1 h2 h3 h4).2.1) p h ha hl (some (.tuple (enc p))) none none none 0 fst0 (FB.first hE0) (by omega)
      rw [first_beh] at e
      show outV (fSeq (fSet 1 (f1 gTu (fCons (fC (.int 1)) (fCons (fC (.int 1)) fNil)))) (fSeq (fFor (fV 0) (tgN 2) (bodySz law_times_G (law_size_R n))) (fRet (fV 1))) [some (.tuple (enc p)), none, none, none, none]) = _
      rw [fSeq_nxt (ρ' := [some (.tuple (enc p)), some (fr fst0.s), none, none, none]) rfl, fSeq_nxt (fFor_t rfl e)]
      rfl
    · obtain ⟨a2, a3, a4, e⟩ := size_loop hE0 (T := law_times_G) law_times_ev (g := law_size_R n) (fun b h1 h2 h3 h4 => (ih b h1 h2 h3 h4).2.1) p h ha hl (some (.list (enc p))) none none none 0 fst0 (FB.first hE0) (by omega)
      rw [first_beh] at e
      show outV (fSeq (fSet 1 (f1 gTu (fCons (fC (.int 1)) (fCons (fC (.int 1)) fNil)))) (fSeq (fFor (fV 0) (tgN 2) (bodySz law_times_G (law_size_R n))) (fRet (fV 1))) [some (.list (enc p)), none, none, none, none]) = _
      rw [fSeq_nxt (ρ' := [some (.list (enc p)), some (fr fst0.s), none, none, none]) rfl, fSeq_nxt (fFor_l rfl e)]
      rfl
end Arc
set_option Elab.async false
set_option linter.all false
set_option maxRecDepth 100000
set_option maxHeartbeats 1000000
set_option exponentiation.threshold 200
namespace Arc
open PySem L2
/-! ## endless blocks -/
def mostS : Rat := mkRat 3 4
theorem most_fr : cMOST_SIZE = fr mostS := rfl
theorem most_sm : Sm mostS := ⟨by decide +kernel, by decide +kernel⟩
def endlessB (p : Prog) : Bool := decide (doneN p ≤ 300) && ((decide ((moveP p).s = 1) || !decide (mostS < (moveP p).s)) && drawsB p)
theorem fr_le (s : Rat) : decide (4 * s.num ≤ 3 * (s.den : Int)) = !decide (mostS < s) := by
  have h := Rat.lt_iff mostS s
  have h1 : mostS.num = 3 := by decide +kernel
  have h2 : mostS.den = 4 := by decide +kernel
  rw [h1, h2] at h
  by_cases c : mostS < s
  · have := h.mp c
    have c2 : ¬ 4 * s.num ≤ 3 * (s.den : Int) := by
      have h4 : ((4 : Nat) : Int) = 4 := rfl
      rw [h4] at this
      omega
    rw [decide_eq_true c, decide_eq_false c2]
    rfl
  · have c2 : 4 * s.num ≤ 3 * (s.den : Int) := by
      have h4 : ((4 : Nat) : Int) = 4 := rfl
      rw [h4] at h
      have := mt h.mpr c
      omega
    rw [decide_eq_false c, decide_eq_true c2]
    rfl
theorem goes_on_ev {E : Nat} (hE0 : 0 < E) (hE : E ≤ 2 ^ 640) {p : Prog} (hd : deepN p < 8) (ha : AllPl E p) (hl : Lim p) (hd2 : doneN p ≤ 900) : goes_on_G [.tuple (enc p)] = some (.bool (endlessB p)) := by
  have e1 : done_by_G [.tuple (enc p)] = some (.int (doneN p : Int)) := (done_ev 8 p hd hl).1
  have e2 : size_by_G [.tuple (enc p)] = some (fr (moveP p).s) := (size_ev hE0 8 p hd ha hl hd2).1
  have e3 : draws_G [.tuple (enc p)] = some (.bool (drawsB p)) := draws_ev hE 8 p hd ha
  have sm := ((move_fb hE0 ha).sm_s (show doneN p ≤ 960 by omega)).1
  have e4 := below_ev most_sm sm
  have e5 := gEq_fr (moveP p).s 1
  have g : gGt (.int (doneN p : Int)) (.int 300) = some (.bool (!decide (doneN p ≤ 300))) := by
    show some (PyData.bool (decide ((300 : Int) < (doneN p : Int)))) = _
    by_cases c : doneN p ≤ 300
    · rw [decide_eq_false (by omega), decide_eq_true c]
      rfl
    · rw [decide_eq_true (by omega), decide_eq_false c]
      rfl
  simp only [goes_on_G, F_goes_on, most_fr]
  unfold endlessB
  by_cases c : doneN p ≤ 300
  · by_cases c1 : (moveP p).s = 1
    · rw [c1] at e2 e5
      simp [f1, f2, fV, fC, fCons, fNil, fSeq, fSet, fRet, fIf, fNext, fNever, fAnd, fOr, fAndV, fOrV, fUnp, fPar, fSl, fChain, tgF, tgN, gTu, gLs, startR, defG, outV, on1, on2, gB, gNot, gNotV, gI, e1, g, c, e2, fr11, e5, e3, c1]
    · cases c2 : decide (mostS < (moveP p).s)
      · simp [f1, f2, fV, fC, fCons, fNil, fSeq, fSet, fRet, fIf, fNext, fNever, fAnd, fOr, fAndV, fOrV, fUnp, fPar, fSl, fChain, tgF, tgN, gTu, gLs, startR, defG, outV, on1, on2, gB, gNot, gNotV, gI, e1, g, c, e2, fr11, e5, e3, c1, e4, c2]
      · simp [f1, f2, fV, fC, fCons, fNil, fSeq, fSet, fRet, fIf, fNext, fNever, fAnd, fOr, fAndV, fOrV, fUnp, fPar, fSl, fChain, tgF, tgN, gTu, gLs, startR, defG, outV, on1, on2, gB, gNot, gNotV, gI, e1, g, c, e2, fr11, e5, e3, c1, e4, c2]
  · simp [f1, f2, fV, fC, fCons, fNil, fSeq, fSet, fRet, fIf, fNext, fNever, fAnd, fOr, fAndV, fOrV, fUnp, fPar, fSl, fChain, tgF, tgN, gTu, gLs, startR, defG, outV, on1, on2, gB, gNot, gNotV, gI, e1, g, c]
theorem law_endless_ev {E : Nat} (hE0 : 0 < E) (hE : E ≤ 2 ^ 640) {p : Prog} (hd : deepN p < 8) (ha : AllPl E p) (hl : Lim p) (hd2 : doneN p ≤ 900) : law_is_endless_G [.list (enc p)] = some (.bool (endlessB p)) := by
  have e1 : law_done_G [.list (enc p)] = some (.int (doneN p : Int)) := (done_ev 8 p hd hl).2.2
  have e2 : law_size_G [.list (enc p)] = some (fr (moveP p).s) := (size_ev hE0 8 p hd ha hl hd2).2.2
  have e3 : law_draws_G [.list (enc p)] = some (.bool (drawsB p)) := (law_draws_ev 8 p hd (by omega)).2
  have sm := ((move_fb hE0 ha).sm_s (show doneN p ≤ 960 by omega)).1
  have e5 := gEq_fr (moveP p).s 1
  have g : gGt (.int (doneN p : Int)) (.int 300) = some (.bool (!decide (doneN p ≤ 300))) := by
    show some (PyData.bool (decide ((300 : Int) < (doneN p : Int)))) = _
    by_cases c : doneN p ≤ 300
    · rw [decide_eq_false (by omega), decide_eq_true c]
      rfl
    · rw [decide_eq_true (by omega), decide_eq_false c]
      rfl
  have l4 : Nat.log2 4 = 2 := by decide +kernel
  have l3 : Nat.log2 3 = 1 := by decide +kernel
  have m1 : gMul (.int 4) (.int (moveP p).s.num) = some (.int (4 * (moveP p).s.num)) := by
    have c : CMulW 4 (moveP p).s.num := by
      have := sm.n
      unfold CMulW
      simp
      omega
    show (if CMulW 4 (moveP p).s.num then _ else _) = _
    rw [if_pos c]
  have m2 : gMul (.int 3) (.int ((moveP p).s.den : Int)) = some (.int (3 * ((moveP p).s.den : Int))) := by
    have c : CMulW 3 ((moveP p).s.den : Int) := by
      have := sm.d
      unfold CMulW
      simp
      omega
    show (if CMulW 3 ((moveP p).s.den : Int) then _ else _) = _
    rw [if_pos c]
  have m3 : gLe (.int (4 * (moveP p).s.num)) (.int (3 * ((moveP p).s.den : Int))) = some (.bool (!decide (mostS < (moveP p).s))) := by
    show some (PyData.bool (decide (4 * (moveP p).s.num ≤ 3 * ((moveP p).s.den : Int)))) = _
    rw [fr_le]
  have i0 : gIx (fr (moveP p).s) (.int 0) = some (.int (moveP p).s.num) := rfl
  have i1 : gIx (fr (moveP p).s) (.int 1) = some (.int (moveP p).s.den) := rfl
  simp only [law_is_endless_G, F_law_is_endless]
  unfold endlessB
  by_cases c : doneN p ≤ 300
  · by_cases c1 : (moveP p).s = 1
    · rw [c1] at e2 e5
      simp [f1, f2, fV, fC, fCons, fNil, fSeq, fSet, fRet, fIf, fNext, fNever, fAnd, fOr, fAndV, fOrV, fUnp, fPar, fSl, fChain, tgF, tgN, gTu, gLs, startR, defG, outV, on1, on2, gB, gNot, gNotV, gI, e1, g, c, e2, fr11, e5, e3, c1]
    · cases c2 : decide (mostS < (moveP p).s)
      · rw [c2] at m3
        simp [f1, f2, fV, fC, fCons, fNil, fSeq, fSet, fRet, fIf, fNext, fNever, fAnd, fOr, fAndV, fOrV, fUnp, fPar, fSl, fChain, tgF, tgN, gTu, gLs, startR, defG, outV, on1, on2, gB, gNot, gNotV, gI, e1, g, c, e2, fr11, e5, e3, c1, i0, i1, m1, m2, m3]
      · rw [c2] at m3
        simp [f1, f2, fV, fC, fCons, fNil, fSeq, fSet, fRet, fIf, fNext, fNever, fAnd, fOr, fAndV, fOrV, fUnp, fPar, fSl, fChain, tgF, tgN, gTu, gLs, startR, defG, outV, on1, on2, gB, gNot, gNotV, gI, e1, g, c, e2, fr11, e5, e3, c1, i0, i1, m1, m2, m3]
  · simp [f1, f2, fV, fC, fCons, fNil, fSeq, fSet, fRet, fIf, fNext, fNever, fAnd, fOr, fAndV, fOrV, fUnp, fPar, fSl, fChain, tgF, tgN, gTu, gLs, startR, defG, outV, on1, on2, gB, gNot, gNotV, gI, e1, g, c]
end Arc
set_option Elab.async false
set_option linter.all false
set_option maxRecDepth 100000
set_option maxHeartbeats 1000000
set_option exponentiation.threshold 200
namespace Arc
open PySem L2
/-! ## what is drawn -/
abbrev St1 := Pc × Int × List Nat
abbrev En1 := Fm × Int × List Nat × List St1
def rdD (rs : List Nat) : PyData := .tuple (rs.map fun (i : Nat) => PyData.int (i : Int))
def stD (s : St1) : PyData := .tuple [pcD s.1, .int s.2.1, rdD s.2.2]
def enD (e : En1) : PyData := .tuple [fmD e.1, .int e.2.1, rdD e.2.2.1, .list (e.2.2.2.map stD)]
def stillL : Prog → Int → Fm → List Nat → List St1
  | .nil, _, _, _ => []
  | .pl r p, n, F, rs => (match pieceP r with | some P => [(leadP F P, n, rs)] | none => []) ++ stillL p (n + 1) (beh F (told r)) rs
  | .blk k b p, n, F, rs => (match k with
      | .again t => (List.range t).flatMap fun i => stillL b (n + 1) (beh F (powF i (moveP b))) (rs ++ [i])
      | .keep => stillL b (n + 1) F rs
      | .ever => []) ++ stillL p (n + (2 + linesN b : Nat)) (beh F (moveK k (moveP b))) rs
def endsL : Prog → Int → Fm → List Nat → List En1
  | .nil, _, _, _ => []
  | .pl r p, n, F, rs => endsL p (n + 1) (beh F (told r)) rs
  | .blk k b p, n, F, rs => (match k with
      | .again t => (List.range t).flatMap fun i => endsL b (n + 1) (beh F (powF i (moveP b))) (rs ++ [i])
      | .keep => endsL b (n + 1) F rs
      | .ever => [(beh (beh F (moveP b)) (und F), n, rs, stillL b (n + 1) F [])]) ++ endsL p (n + (2 + linesN b : Nat)) (beh F (moveK k (moveP b))) rs
def noEver : Prog → Bool
  | .nil => true
  | .pl _ p => noEver p
  | .blk k b p => (match k with | .ever => false | _ => true) && noEver b && noEver p
def EvOk : Prog → Prop
  | .nil => True
  | .pl _ p => EvOk p
  | .blk k b p => (match k with | .ever => endlessB b = true ∧ noEver b = true | _ => True) ∧ EvOk b ∧ EvOk p
theorem draws_done : ∀ {p : Prog}, drawsB p = true → 0 < doneN p
  | .nil, h => by cases h
  | .pl r p, _ => by show 0 < 1 + doneN p; omega
  | .blk k b p, h => by
    show 0 < timesK k * doneN b + doneN p
    have h2 : ((!zeroK k && drawsB b) || drawsB p) = true := h
    rcases Bool.or_eq_true_iff.mp h2 with z | z
    · obtain ⟨z1, z2⟩ := Bool.and_eq_true_iff.mp z
      have h3 := draws_done z2
      have h4 : 0 < timesK k := by
        cases k with
        | again t =>
          cases t with
          | zero => cases z1
          | succ t => exact Nat.succ_pos t
        | keep => exact Nat.one_pos
        | ever => exact Nat.one_pos
      have := Nat.mul_pos h4 h3
      omega
    · have := draws_done z
      omega
theorem flatMap_len {α : Type} (f : Nat → List α) (c : Nat) (h : ∀ i, (f i).length ≤ c) : ∀ t, ((List.range t).flatMap f).length ≤ t * c
  | 0 => by simp
  | t + 1 => by
    have := flatMap_len f c h t
    have h2 := h t
    rw [List.range_succ, List.flatMap_append, List.length_append, Nat.succ_mul]
    simp at this ⊢
    omega
theorem still_len : ∀ (p : Prog) (n : Int) (F : Fm) (rs : List Nat), (stillL p n F rs).length ≤ doneN p
  | .nil, _, _, _ => Nat.le_refl _
  | .pl r p, n, F, rs => by
    have := still_len p (n + 1) (beh F (told r)) rs
    simp only [stillL, doneN, List.length_append]
    cases pieceP r <;> simp <;> omega
  | .blk k b p, n, F, rs => by
    have h1 := still_len p (n + (2 + linesN b : Nat)) (beh F (moveK k (moveP b))) rs
    simp only [stillL, doneN, List.length_append]
    cases k with
    | again t =>
      have h2 := flatMap_len (fun i => stillL b (n + 1) (beh F (powF i (moveP b))) (rs ++ [i])) (doneN b) (fun i => still_len b _ _ _) t
      simp only [timesK] at h1 ⊢
      omega
    | keep =>
      have h2 := still_len b (n + 1) F rs
      simp only [timesK] at h1 ⊢
      omega
    | ever =>
      simp only [timesK, List.length_nil] at h1 ⊢
      omega
theorem ends_len : ∀ (p : Prog), EvOk p → ∀ (n : Int) (F : Fm) (rs : List Nat), (endsL p n F rs).length ≤ doneN p
  | .nil, _, _, _, _ => Nat.le_refl _
  | .pl r p, h, n, F, rs => by
    have := ends_len p h (n + 1) (beh F (told r)) rs
    simp only [endsL, doneN]
    omega
  | .blk k b p, h, n, F, rs => by
    have h1 := ends_len p h.2.2 (n + (2 + linesN b : Nat)) (beh F (moveK k (moveP b))) rs
    simp only [endsL, doneN, List.length_append]
    cases k with
    | again t =>
      have h2 := flatMap_len (fun i => endsL b (n + 1) (beh F (powF i (moveP b))) (rs ++ [i])) (doneN b) (fun i => ends_len b h.2.1 _ _ _) t
      simp only [timesK] at h1 ⊢
      omega
    | keep =>
      have h2 := ends_len b h.2.1 (n + 1) F rs
      simp only [timesK] at h1 ⊢
      omega
    | ever =>
      have h3 : drawsB b = true := (Bool.and_eq_true_iff.mp (Bool.and_eq_true_iff.mp h.1.1).2).2
      have h4 := draws_done h3
      simp only [timesK, List.length_cons, List.length_nil] at h1 ⊢
      omega
end Arc
set_option Elab.async false
set_option linter.all false
set_option maxRecDepth 100000
set_option maxHeartbeats 1000000
set_option exponentiation.threshold 200
namespace Arc
open PySem L2
theorem pow_comm (M : Fm) : ∀ n, beh (powF n M) M = powF (n + 1) M
  | 0 => by
    show beh fst0 M = beh M fst0
    rw [first_beh, beh_first]
  | n + 1 => by
    show beh (beh M (powF n M)) M = beh M (powF (n + 1) M)
    rw [beh_assoc, pow_comm M n]
theorem pb0 {E m : Nat} {p : Pt} (h1 : Bd E m p.1) (h2 : Bd E m p.2) : PB E 0 m p := ⟨1, by decide, by rw [Nat.mul_one]; exact h1, by rw [Nat.mul_one]; exact h2⟩
theorem mkStr_pts {p q r : Pt} (h : r ∈ ptsP (mkStr p q)) : r = p ∨ r = q := by
  unfold mkStr at h
  by_cases c1 : p = q
  · rw [if_pos c1] at h
    exact .inl (by simpa [ptsP] using h)
  · rw [if_neg c1] at h
    by_cases c2 : bef q p = true
    · rw [if_pos c2] at h
      rcases (by simpa [ptsP] using h : r = q ∨ r = p) with z | z
      · exact .inr z
      · exact .inl z
    · rw [if_neg c2] at h
      exact (by simpa [ptsP] using h)
theorem arcP_pts {c p q r : Pt} (h : r ∈ ptsP (arcP c p q)) : r = c ∨ r = p ∨ r = q := by
  unfold arcP at h
  by_cases c1 : p = q
  · rw [if_pos c1] at h
    rcases (by simpa [ptsP] using h : r = c ∨ r = p) with z | z
    · exact .inl z
    · exact .inr (.inl z)
  · rw [if_neg c1] at h
    exact (by simpa [ptsP] using h)
theorem bowP_pts {n : Rat} {p r : Pt} (h : r ∈ ptsP (bowP n p)) : r = (0, n) ∨ r = p ∨ r = (0, 0) := by
  unfold bowP at h
  by_cases c : 0 < n
  · rw [if_pos c] at h
    rcases arcP_pts h with z | z | z
    · exact .inl z
    · exact .inr (.inr z)
    · exact .inr (.inl z)
  · rw [if_neg c] at h
    exact arcP_pts h
theorem piece_pb {E : Nat} (hE : 0 < E) : ∀ {r : Pl} {P : Pc}, PlOk E r → pieceP r = some P → ∀ q ∈ ptsP P, PB E 0 XX q := by
  have up : ∀ {r : Rat} {m : Nat}, m ≤ XX → Bd E m r → Bd E XX r := fun hm h => h.up (Nat.dvd_refl _) h.pos hm
  have z0 : Bd E XX 0 := .zero hE
  have zz : PB E 0 XX (0, 0) := pb0 z0 z0
  intro r P h e q hq
  cases r with
  | go a =>
    cases e
    rcases mkStr_pts hq with z | z <;> subst z
    · exact zz
    · exact pb0 (p := (a, 0)) (up (by decide) h) z0
  | side a b =>
    cases e
    rcases mkStr_pts hq with z | z <;> subst z
    · exact zz
    · exact pb0 (p := (a, b)) (up (by decide) h.1) (up (by decide) h.2)
  | dot =>
    cases e
    have : q = (0, 0) := by simpa [ptsP] using hq
    subst this
    exact zz
  | quarter a =>
    cases e
    rcases bowP_pts hq with z | z | z <;> subst z
    · exact pb0 (p := (0, a)) z0 (up (by decide) h.1)
    · exact pb0 (p := (absR a, a)) (up (by decide) (absR_bd h.1)) (up (by decide) h.1)
    · exact zz
  | half a =>
    cases e
    rcases bowP_pts hq with z | z | z <;> subst z
    · exact pb0 (p := (0, a)) z0 (up (by decide) h.1)
    · exact pb0 (p := (0, a + a)) z0 (up (by decide) (h.1.add h.1))
    · exact zz
  | arc a b c d =>
    cases e
    rcases arcP_pts hq with z | z | z <;> subst z
    · exact pb0 (p := (a, b)) (up (by decide) h.1) (up (by decide) h.2.1)
    · exact zz
    · exact pb0 (p := (c, d)) (up (by decide) h.2.2.1) (up (by decide) h.2.2.2.1)
  | _ => cases e
theorem imm_rd (rs : List Nat) : imm (rdD rs) = true := by
  show immAll (rs.map fun (i : Nat) => PyData.int (i : Int)) = true
  induction rs with
  | nil => rfl
  | cons a l ih => exact ih
theorem imm_pc (P : Pc) : imm (pcD P) = true := by cases P <;> rfl
theorem imm_fm (F : Fm) : imm (fmD F) = true := rfl
theorem imm_st (s : St1) : imm (stD s) = true := by
  show (imm (pcD s.1) && (true && (imm (rdD s.2.2) && true))) = true
  rw [imm_pc, imm_rd]
  rfl
theorem immO_ok {d : PyData} (h : imm d = true) : immO d = some d := by
  unfold immO
  rw [if_pos h]
theorem isW_pl (r : Pl) : isW (plD r) "again" = some false ∧ isW (plD r) "keep" = some false ∧ isW (plD r) "ever" = some false := by
  simp [isW, gIx0, w0P, eP_again, eP_keep, eP_ever, gB]
theorem rd_cat {rs : List Nat} (h : rs.length ≤ 100) (i : Nat) : gCatT (rdD rs) (.tuple [.int (i : Int)]) = some (rdD (rs ++ [i])) := by
  show (if (rs.map fun (i : Nat) => PyData.int (i : Int)).length + [PyData.int (i : Int)].length ≤ 1000000 then some (PyData.tuple ((rs.map fun (i : Nat) => PyData.int (i : Int)) ++ [PyData.int (i : Int)])) else none) = _
  rw [if_pos (by simp; omega)]
  unfold rdD
  rw [List.map_append]
  rfl
theorem goPlain_ev {E kF : Nat} (hE0 : 0 < E) (hE : E ≤ 2 ^ 640) {r : Pl} (h : PlOk E r) {F : Fm} (hF : FB E kF F) (hk : kF ≤ 900) (num : Int) (rs : List Nat) :
    goPlain (plD r) num (fmD F) (rdD rs) = some (fmD (beh F (told r)), (match pieceP r with | some P => [stD (leadP F P, num, rs)] | none => []), []) := by
  have hs := shaped_ev hE h
  have hb := behind_fb hF (told_fb hE0 h) hE (by omega)
  unfold goPlain
  cases hp : pieceP r with
  | none =>
    rw [hp] at hs
    have e1 : immO (.tuple [optD none, fmD (told r)]) = some (.tuple [optD none, fmD (told r)]) := immO_ok rfl
    rw [hs]
    show ((immO _).bind _) = _
    rw [e1]
    show ((behind_G [fmD F, fmD (told r)]).bind immO).bind _ = _
    rw [hb]
    rfl
  | some P =>
    rw [hp] at hs
    have e1 : immO (.tuple [optD (some P), fmD (told r)]) = some (.tuple [optD (some P), fmD (told r)]) := immO_ok (by
      show (imm (pcD P) && (imm (fmD (told r)) && true)) = true
      rw [imm_pc]
      rfl)
    have hl := lead_fb hF (piece_pb hE0 h hp) hE (by omega) (show XX ≤ 2 ^ 20000 from Nat.le_trans (by decide : XX ≤ 2 ^ 24) (Nat.pow_le_pow_right (by decide) (by decide)))
    have e2 : immO (.tuple [pcD (leadP F P), .int num, rdD rs]) = some (.tuple [pcD (leadP F P), .int num, rdD rs]) := immO_ok (imm_st (leadP F P, num, rs))
    have e3 : pNone (pcD P) = false := by cases P <;> rfl
    rw [hs]
    show ((immO _).bind _) = _
    rw [e1]
    show ((behind_G [fmD F, fmD (told r)]).bind immO).bind _ = _
    rw [hb]
    show (if pNone (pcD P) = true then _ else _) = _
    rw [e3, if_neg (by decide)]
    show ((led_piece_G [fmD F, pcD P]).bind _) = _
    rw [hl]
    show ((immO (.tuple [pcD (leadP F P), .int num, rdD rs])).bind _) = _
    rw [e2]
    rfl
theorem goAgain_ev {E kF : Nat} (hE0 : 0 < E) {gr : GoR} {b : Prog} (ha : AllPl E b) {F : Fm} (hF : FB E kF F) (num : Int) {rs : List Nat} (hrs : rs.length ≤ 100) {lim : Nat}
    (hg : ∀ (k : Nat) (G : Fm) (i : Nat), FB E k G → k + doneN b ≤ lim → gr (enc b) (num + 1) (fmD G) (rdD (rs ++ [i])) = some (fmD (beh G (moveP b)), (stillL b (num + 1) G (rs ++ [i])).map stD, (endsL b (num + 1) G (rs ++ [i])).map enD)) :
    ∀ (m i : Nat), kF + (i + m) * doneN b ≤ lim → goAgain gr (enc b) num (rdD rs) m i (fmD (beh F (powF i (moveP b)))) = some (fmD (beh F (powF (i + m) (moveP b))), ((List.range' i m).flatMap fun i => stillL b (num + 1) (beh F (powF i (moveP b))) (rs ++ [i])).map stD, ((List.range' i m).flatMap fun i => endsL b (num + 1) (beh F (powF i (moveP b))) (rs ++ [i])).map enD)
  | 0, i, _ => rfl
  | m + 1, i, hk => by
    have hfb : FB E (kF + i * doneN b) (beh F (powF i (moveP b))) := hF.beh (pow_fb hE0 (move_fb hE0 ha) i)
    have hk2 : (i + (m + 1)) * doneN b = i * doneN b + doneN b + m * doneN b := by grind
    have h1 := hg _ _ i hfb (by rw [hk2] at hk; omega)
    have h2 := goAgain_ev hE0 ha hF num hrs hg m (i + 1) (by rw [show i + 1 + m = i + (m + 1) from by omega]; exact hk)
    have e1 : immO (rdD (rs ++ [i])) = some (rdD (rs ++ [i])) := immO_ok (imm_rd _)
    have e2 : beh (beh F (powF i (moveP b))) (moveP b) = beh F (powF (i + 1) (moveP b)) := by rw [beh_assoc, pow_comm]
    show ((gCatT (rdD rs) (.tuple [.int (i : Int)])).bind _) = _
    rw [rd_cat hrs]
    show ((immO (rdD (rs ++ [i]))).bind _) = _
    rw [e1]
    show ((gr (enc b) (num + 1) (fmD (beh F (powF i (moveP b)))) (rdD (rs ++ [i]))).bind _) = _
    rw [h1, e2]
    show ((goAgain gr (enc b) num (rdD rs) m (i + 1) (fmD (beh F (powF (i + 1) (moveP b))))).map _) = _
    rw [h2, List.range'_succ]
    simp only [Option.map_some, List.flatMap_cons, List.map_append]
    rw [show i + 1 + m = i + (m + 1) from by omega]
end Arc
set_option Elab.async false
set_option linter.all false
set_option maxRecDepth 100000
set_option maxHeartbeats 1000000
set_option exponentiation.threshold 200
namespace Arc
open PySem L2
theorem isW_bl (k : Kd) (l : List PyData) : isW (blkD k l) "again" = some (match k with | .again _ => true | _ => false) ∧ isW (blkD k l) "keep" = some (match k with | .keep => true | _ => false) ∧ isW (blkD k l) "ever" = some (match k with | .ever => true | _ => false) := by
  cases k with
  | again t => simp [isW, gIx0, w0K, wordK, eq_again_again, eq_again_keep, eq_again_ever, gB]
  | keep => simp [isW, gIx0, w0K, wordK, eq_keep_again, eq_keep_keep, eq_keep_ever, gB]
  | ever => simp [isW, gIx0, w0K, wordK, eq_ever_again, eq_ever_keep, eq_ever_ever, gB]
theorem one_lines_pl (r : Pl) : lines_in_G [.tuple [plD r]] = some (.int 1) := (lines_ev 8 (.pl r .nil) (by show 0 < 8; decide)).1
theorem one_lines_bl {k : Kd} {b : Prog} (h : deepN b < 7) : lines_in_G [.tuple [blkD k (enc b)]] = some (.int ((2 + linesN b : Nat) : Int)) := by
  have := (lines_ev 8 (.blk k b .nil) (by show max (1 + deepN b) 0 < 8; omega)).1
  exact this
theorem goEver_ev {E kF : Nat} (hE0 : 0 < E) (hE : E ≤ 2 ^ 640) {gr : GoR} {b : Prog} (ha : AllPl E b) (hl : Lim b) (hev : EvOk b) (hdp : deepN b < 8) {F : Fm} (hF : FB E kF F) (hk : kF + doneN b ≤ 300) (num : Int) (rs : List Nat)
    (hg : gr (enc b) (num + 1) (fmD F) (.tuple []) = some (fmD (beh F (moveP b)), (stillL b (num + 1) F []).map stD, (endsL b (num + 1) F []).map enD)) :
    goEver gr (blkD .ever (enc b)) num (fmD F) (rdD rs) = some (enD (beh (beh F (moveP b)) (und F), num, rs, stillL b (num + 1) F [])) := by
  have hM := move_fb hE0 ha
  have m1 : move_G [.tuple (enc b)] = some (fmD (moveP b)) := move_ev hE0 hE 8 b hdp ha hl (by omega)
  have m2 := behind_fb hF hM hE (by omega)
  have m3 := undone_fb hF hE (by omega)
  have m4 := behind_fb (hF.beh hM) hF.und hE (by omega)
  have l1 := still_len b (num + 1) F []
  have l2 := ends_len b hev (num + 1) F []
  unfold goEver
  show ((gr (enc b) (num + 1) (fmD F) (.tuple [])).bind _) = _
  rw [hg]
  show (if ((stillL b (num + 1) F []).map stD).length ≤ 100000 ∧ ((endsL b (num + 1) F []).map enD).length ≤ 100000 then _ else none) = _
  rw [if_pos (by rw [List.length_map, List.length_map]; omega), m1]
  show (((behind_G [fmD F, fmD (moveP b)]).bind _).bind _) = _
  rw [m2]
  show (((undone_G [fmD F]).bind _).bind _) = _
  rw [m3]
  show (((behind_G [fmD (beh F (moveP b)), fmD (und F)]).bind immO).bind _) = _
  rw [m4]
  rfl
theorem go_ev {E : Nat} (hE0 : 0 < E) (hE : E ≤ 2 ^ 640) : ∀ (n : Nat) (p : Prog), deepN p < n → deepN p < 8 → AllPl E p → Lim p → EvOk p → ∀ (num : Int) (F : Fm) (rs : List Nat) (kF : Nat), FB E kF F → kF + doneN p ≤ 300 → rs.length + deepN p ≤ 100 →
    goRowsR n (enc p) num (fmD F) (rdD rs) = some (fmD (beh F (moveP p)), (stillL p num F rs).map stD, (endsL p num F rs).map enD)
  | 0, _, h, _, _, _, _ => absurd h (Nat.not_lt_zero _)
  | n + 1, p, hn, h8, ha, hl, hv => by
    have ih := go_ev hE0 hE n
    show ∀ (num : Int) (F : Fm) (rs : List Nat) (kF : Nat), FB E kF F → kF + doneN p ≤ 300 → rs.length + deepN p ≤ 100 → goRowsL (goRowsR n) (enc p) num (fmD F) (rdD rs) = _
    induction p with
    | nil =>
      intro num F rs kF hF hk hr
      rw [show moveP .nil = fst0 from rfl, beh_first]
      rfl
    | pl r p ihp =>
      intro num F rs kF hF hk hr
      have hk2 : kF + (1 + doneN p) ≤ 300 := hk
      have hp := goPlain_ev hE0 hE ha.1 hF (by omega) num rs
      obtain ⟨w1, w2, w3⟩ := isW_pl r
      have hrow : goRow (goRowsR n) (plD r) num (fmD F) (rdD rs) = some (fmD (beh F (told r)), (match pieceP r with | some P => [stD (leadP F P, num, rs)] | none => []), []) := by
        unfold goRow
        rw [w1, w2, w3]
        exact hp
      have e := ihp hn h8 ha.2 hl hv (num + 1) (beh F (told r)) rs (kF + 1) (hF.beh (told_fb hE0 ha.1)) (by omega) hr
      show ((goRow (goRowsR n) (plD r) num (fmD F) (rdD rs)).bind _) = _
      rw [hrow]
      show (((lines_in_G [.tuple [plD r]]).bind intO).bind _) = _
      rw [one_lines_pl]
      show ((goRowsL (goRowsR n) (enc p) (num + 1) (fmD (beh F (told r))) (rdD rs)).map _) = _
      rw [e, beh_assoc]
      simp only [Option.map_some, stillL, endsL, List.nil_append, List.map_append, moveP]
      cases pieceP r <;> rfl
    | blk k b p ihb ihp =>
      intro num F rs kF hF hk hr
      clear ihb
      have hk2 : kF + (timesK k * doneN b + doneN p) ≤ 300 := hk
      have hd := dB hn
      have hd8 : deepN b < 7 ∧ deepN p < 8 := dB (n := 7) h8
      have hr1 : rs.length + 1 + deepN b ≤ 100 := by
        have : deepN (.blk k b p) = max (1 + deepN b) (deepN p) := rfl
        rw [this] at hr
        omega
      have hr2 : rs.length + deepN p ≤ 100 := by
        have : deepN (.blk k b p) = max (1 + deepN b) (deepN p) := rfl
        rw [this] at hr
        omega
      have hM := move_fb hE0 ha.1
      have hfb : FB E (timesK k * doneN b) (moveK k (moveP b)) := by
        cases k with
        | again t => exact pow_fb hE0 hM t
        | keep => exact (FB.first hE0).mono (Nat.zero_le _)
        | ever => exact (FB.first hE0).mono (Nat.zero_le _)
      have hrow : ∃ S1 S2, goRow (goRowsR n) (blkD k (enc b)) num (fmD F) (rdD rs) = some (fmD (beh F (moveK k (moveP b))), S1, S2) ∧ S1 ++ (stillL p (num + (2 + linesN b : Nat)) (beh F (moveK k (moveP b))) rs).map stD = (stillL (.blk k b p) num F rs).map stD ∧ S2 ++ (endsL p (num + (2 + linesN b : Nat)) (beh F (moveK k (moveP b))) rs).map enD = (endsL (.blk k b p) num F rs).map enD := by
        cases k with
        | again t =>
          have i1 : gIx0 (blkD (.again t) (enc b)) 1 = some (.int (t : Int)) := rfl
          have i2 : gIx0 (blkD (.again t) (enc b)) 2 = some (.tuple (enc b)) := rfl
          simp only [timesK] at hk2
          have hA := goAgain_ev hE0 (gr := goRowsR n) ha.1 hF num (rs := rs) (by omega) (lim := 300) (fun k G i hG hkk => ih b hd.1 (by omega) ha.1 hl.2.2.1 hv.2.1 (num + 1) G (rs ++ [i]) k hG hkk (by rw [List.length_append]; simp; omega)) t 0 (by rw [Nat.zero_add]; omega)
          rw [show beh F (powF 0 (moveP b)) = F from beh_first F, Nat.zero_add] at hA
          have w1 : isW (blkD (.again t) (enc b)) "again" = some true := (isW_bl (.again t) (enc b)).1
          refine ⟨((List.range t).flatMap fun i => stillL b (num + 1) (beh F (powF i (moveP b))) (rs ++ [i])).map stD, ((List.range t).flatMap fun i => endsL b (num + 1) (beh F (powF i (moveP b))) (rs ++ [i])).map enD, ?_, by rw [← List.map_append]; simp only [stillL], by rw [← List.map_append]; simp only [endsL]⟩
          · unfold goRow
            rw [w1]
            simp only [Option.bind_some, if_true]
            rw [i1, i2]
            show (if (0 : Int) ≤ (t : Int) ∧ (t : Int) ≤ 1000 then goAgain (goRowsR n) (enc b) num (rdD rs) (t : Int).toNat 0 (fmD F) else none) = _
            rw [if_pos ⟨by omega, by have : t ≤ 12 := hl.1; omega⟩, Int.toNat_natCast, hA, ← List.range_eq_range']
            rfl
        | keep =>
          have i1 : gIx0 (blkD .keep (enc b)) 1 = some (.tuple (enc b)) := rfl
          simp only [timesK] at hk2
          have hg := ih b hd.1 (by omega) ha.1 hl.2.2.1 hv.2.1 (num + 1) F rs kF hF (by omega) (by omega)
          have w1 : isW (blkD .keep (enc b)) "again" = some false := (isW_bl .keep (enc b)).1
          have w2 : isW (blkD .keep (enc b)) "keep" = some true := (isW_bl .keep (enc b)).2.1
          refine ⟨(stillL b (num + 1) F rs).map stD, (endsL b (num + 1) F rs).map enD, ?_, ?_, ?_⟩
          · unfold goRow
            rw [w1, w2]
            simp only [Option.bind_some, Bool.false_eq_true, if_false, if_true]
            rw [i1]
            show ((goRowsR n (enc b) (num + 1) (fmD F) (rdD rs)).map _) = _
            rw [hg, show moveK .keep (moveP b) = fst0 from rfl, beh_first]
            rfl
          · rw [← List.map_append]
            simp only [stillL]
          · rw [← List.map_append]
            simp only [endsL]
        | ever =>
          simp only [timesK] at hk2
          have hg := ih b hd.1 (by omega) ha.1 hl.2.2.1 hv.2.1 (num + 1) F [] kF hF (by omega) (by simp; omega)
          have he := goEver_ev hE0 hE (gr := goRowsR n) ha.1 hl.2.2.1 hv.2.1 (by omega) hF (by omega) num rs hg
          have w1 : isW (blkD .ever (enc b)) "again" = some false := (isW_bl .ever (enc b)).1
          have w2 : isW (blkD .ever (enc b)) "keep" = some false := (isW_bl .ever (enc b)).2.1
          have w3 : isW (blkD .ever (enc b)) "ever" = some true := (isW_bl .ever (enc b)).2.2
          refine ⟨[], [enD (beh (beh F (moveP b)) (und F), num, rs, stillL b (num + 1) F [])], ?_, ?_, ?_⟩
          · unfold goRow
            rw [w1, w2, w3]
            show ((goEver (goRowsR n) (blkD .ever (enc b)) num (fmD F) (rdD rs)).map _) = _
            rw [he, show moveK .ever (moveP b) = fst0 from rfl, beh_first]
            rfl
          · simp only [stillL, List.nil_append]
          · simp only [endsL, List.map_append]
            rfl
      obtain ⟨S1, S2, hrow, q1, q2⟩ := hrow
      have e := ihp hd.2 hd8.2 ha.2 hl.2.2.2 hv.2.2 (num + (2 + linesN b : Nat)) (beh F (moveK k (moveP b))) rs (kF + timesK k * doneN b) (hF.beh hfb) (by omega) hr2
      show ((goRow (goRowsR n) (blkD k (enc b)) num (fmD F) (rdD rs)).bind _) = _
      rw [hrow]
      show (((lines_in_G [.tuple [blkD k (enc b)]]).bind intO).bind _) = _
      rw [one_lines_bl hd8.1]
      show ((goRowsL (goRowsR n) (enc p) (num + ((2 + linesN b : Nat) : Int)) (fmD (beh F (moveK k (moveP b)))) (rdD rs)).map _) = _
      rw [e, beh_assoc]
      show some (_, S1 ++ _, S2 ++ _) = _
      rw [q1, q2]
      rfl
theorem imm_plD : ∀ r : Pl, imm (plD r) = true := by
  intro r
  cases r <;> rfl
theorem imm_enc : ∀ p : Prog, immAll (enc p) = true
  | .nil => rfl
  | .pl r p => by
    show (imm (plD r) && immAll (enc p)) = true
    rw [imm_plD, imm_enc p]
    rfl
  | .blk k b p => by
    have h : imm (blkD k (enc b)) = true := by
      have hb := imm_enc b
      cases k with
      | again t => show (true && (true && (immAll (enc b) && true))) = true; rw [hb]; rfl
      | keep => show (true && (immAll (enc b) && true)) = true; rw [hb]; rfl
      | ever => show (true && (immAll (enc b) && true)) = true; rw [hb]; rfl
    show (imm (blkD k (enc b)) && immAll (enc p)) = true
    rw [h, imm_enc p]
    rfl
/-- what a sound program draws -/
theorem drawn_ev {E : Nat} (hE0 : 0 < E) (hE : E ≤ 2 ^ 640) {p : Prog} (h8 : deepN p < 8) (ha : AllPl E p) (hl : Lim p) (hv : EvOk p) (hd : doneN p ≤ 300) :
    drawn_G [.tuple (enc p)] = some (.tuple [.list ((stillL p 0 fst0 []).map stD), .list ((endsL p 0 fst0 []).map enD)]) := by
  have e1 : done_by_G [.tuple (enc p)] = some (.int (doneN p : Int)) := (done_ev 8 p h8 hl).1
  have e2 := go_ev hE0 hE 8 p h8 h8 ha hl hv 0 fst0 [] 0 (FB.first hE0) (by omega) (by simp; omega)
  have l1 := still_len p 0 fst0 []
  have l2 := ends_len p hv 0 fst0 []
  have e3 : (first_G []).bind immO = some (fmD fst0) := rfl
  unfold drawn_G
  show ((done_by_G [.tuple (enc p)]).bind intO).bind _ = _
  rw [e1]
  show (if (doneN p : Int) ≤ 300 ∧ immAll (enc p) = true then _ else none) = _
  rw [if_pos ⟨by omega, imm_enc p⟩, e3]
  show ((goRowsR 8 (enc p) 0 (fmD fst0) (.tuple [])).bind _) = _
  rw [show (PyData.tuple []) = rdD [] from rfl, e2]
  show (if _ then _ else none) = _
  rw [if_pos (by simp only [List.length_map]; omega)]
end Arc
set_option Elab.async false
set_option linter.all false
set_option maxRecDepth 100000
set_option maxHeartbeats 1000000
set_option exponentiation.threshold 200
namespace Arc
open PySem L2
/-! ## the law, on what is drawn -/
def appP : Prog → Prog → Prog
  | .nil, q => q
  | .pl r p, q => .pl r (appP p q)
  | .blk k b p, q => .blk k b (appP p q)
theorem enc_app : ∀ p q : Prog, enc (appP p q) = enc p ++ enc q
  | .nil, _ => rfl
  | .pl r p, q => by show _ :: enc (appP p q) = _; rw [enc_app p q]; rfl
  | .blk k b p, q => by show _ :: enc (appP p q) = _; rw [enc_app p q]; rfl
theorem move_app : ∀ p q : Prog, moveP (appP p q) = beh (moveP p) (moveP q)
  | .nil, q => (first_beh _).symm
  | .pl r p, q => by show beh _ (moveP (appP p q)) = _; rw [move_app p q, ← beh_assoc]; rfl
  | .blk k b p, q => by show beh _ (moveP (appP p q)) = _; rw [move_app p q, ← beh_assoc]; rfl
theorem done_app : ∀ p q : Prog, doneN (appP p q) = doneN p + doneN q
  | .nil, q => (Nat.zero_add _).symm
  | .pl r p, q => by show 1 + doneN (appP p q) = 1 + doneN p + doneN q; rw [done_app p q]; omega
  | .blk k b p, q => by show _ + doneN (appP p q) = _ + doneN p + doneN q; rw [done_app p q]; omega
theorem lines_app : ∀ p q : Prog, linesN (appP p q) = linesN p + linesN q
  | .nil, q => (Nat.zero_add _).symm
  | .pl r p, q => by show 1 + linesN (appP p q) = 1 + linesN p + linesN q; rw [lines_app p q]; omega
  | .blk k b p, q => by show 2 + linesN b + linesN (appP p q) = 2 + linesN b + linesN p + linesN q; rw [lines_app p q]; omega
theorem deep_app : ∀ p q : Prog, deepN (appP p q) = max (deepN p) (deepN q)
  | .nil, q => by show deepN q = max 0 (deepN q); omega
  | .pl r p, q => deep_app p q
  | .blk k b p, q => by show max _ (deepN (appP p q)) = max (max _ (deepN p)) (deepN q); rw [deep_app p q]; omega
theorem all_app {E : Nat} : ∀ {p q : Prog}, AllPl E (appP p q) ↔ AllPl E p ∧ AllPl E q
  | .nil, q => by show AllPl E q ↔ True ∧ AllPl E q; simp
  | .pl r p, q => by
    have := all_app (E := E) (p := p) (q := q)
    show (PlOk E r ∧ AllPl E (appP p q)) ↔ (PlOk E r ∧ AllPl E p) ∧ AllPl E q
    rw [this]
    exact and_assoc.symm
  | .blk k b p, q => by
    have := all_app (E := E) (p := p) (q := q)
    show (AllPl E b ∧ AllPl E (appP p q)) ↔ (AllPl E b ∧ AllPl E p) ∧ AllPl E q
    rw [this]
    exact and_assoc.symm
theorem lim_app : ∀ {p q : Prog}, Lim (appP p q) ↔ Lim p ∧ Lim q
  | .nil, q => by show Lim q ↔ True ∧ Lim q; simp
  | .pl r p, q => lim_app (p := p) (q := q)
  | .blk k b p, q => by
    have := lim_app (p := p) (q := q)
    show (_ ∧ _ ∧ _ ∧ Lim (appP p q)) ↔ (_ ∧ _ ∧ _ ∧ Lim p) ∧ Lim q
    rw [this]
    simp only [and_assoc]
theorem ev_app : ∀ {p q : Prog}, EvOk (appP p q) ↔ EvOk p ∧ EvOk q
  | .nil, q => by show EvOk q ↔ True ∧ EvOk q; simp
  | .pl r p, q => ev_app (p := p) (q := q)
  | .blk k b p, q => by
    have := ev_app (p := p) (q := q)
    show (_ ∧ _ ∧ EvOk (appP p q)) ↔ (_ ∧ _ ∧ EvOk p) ∧ EvOk q
    rw [this]
    simp only [and_assoc]
theorem still_app : ∀ (p q : Prog) (n : Int) (F : Fm) (rs : List Nat), stillL (appP p q) n F rs = stillL p n F rs ++ stillL q (n + (linesN p : Nat)) (beh F (moveP p)) rs
  | .nil, q, n, F, rs => by
    show stillL q n F rs = [] ++ stillL q (n + ((0 : Nat) : Int)) (beh F fst0) rs
    rw [beh_first]
    simp
  | .pl r p, q, n, F, rs => by
    have h := still_app p q (n + 1) (beh F (told r)) rs
    have e : n + 1 + ((linesN p : Nat) : Int) = n + ((1 + linesN p : Nat) : Int) := by omega
    show _ ++ stillL (appP p q) (n + 1) (beh F (told r)) rs = (_ ++ stillL p (n + 1) (beh F (told r)) rs) ++ stillL q (n + ((1 + linesN p : Nat) : Int)) (beh F (beh (told r) (moveP p))) rs
    rw [h, e, beh_assoc, List.append_assoc]
  | .blk k b p, q, n, F, rs => by
    have h := still_app p q (n + (2 + linesN b : Nat)) (beh F (moveK k (moveP b))) rs
    have e : n + ((2 + linesN b : Nat) : Int) + ((linesN p : Nat) : Int) = n + ((2 + linesN b + linesN p : Nat) : Int) := by omega
    show _ ++ stillL (appP p q) (n + (2 + linesN b : Nat)) (beh F (moveK k (moveP b))) rs = (_ ++ stillL p (n + (2 + linesN b : Nat)) (beh F (moveK k (moveP b))) rs) ++ stillL q (n + ((2 + linesN b + linesN p : Nat) : Int)) (beh F (beh (moveK k (moveP b)) (moveP p))) rs
    rw [h, e, beh_assoc, List.append_assoc]
theorem ends_app : ∀ (p q : Prog) (n : Int) (F : Fm) (rs : List Nat), endsL (appP p q) n F rs = endsL p n F rs ++ endsL q (n + (linesN p : Nat)) (beh F (moveP p)) rs
  | .nil, q, n, F, rs => by
    show endsL q n F rs = [] ++ endsL q (n + ((0 : Nat) : Int)) (beh F fst0) rs
    rw [beh_first]
    simp
  | .pl r p, q, n, F, rs => by
    have h := ends_app p q (n + 1) (beh F (told r)) rs
    have e : n + 1 + ((linesN p : Nat) : Int) = n + ((1 + linesN p : Nat) : Int) := by omega
    show endsL (appP p q) (n + 1) (beh F (told r)) rs = (endsL p (n + 1) (beh F (told r)) rs) ++ endsL q (n + ((1 + linesN p : Nat) : Int)) (beh F (beh (told r) (moveP p))) rs
    rw [h, e, beh_assoc]
  | .blk k b p, q, n, F, rs => by
    have h := ends_app p q (n + (2 + linesN b : Nat)) (beh F (moveK k (moveP b))) rs
    have e : n + ((2 + linesN b : Nat) : Int) + ((linesN p : Nat) : Int) = n + ((2 + linesN b + linesN p : Nat) : Int) := by omega
    show _ ++ endsL (appP p q) (n + (2 + linesN b : Nat)) (beh F (moveK k (moveP b))) rs = (_ ++ endsL p (n + (2 + linesN b : Nat)) (beh F (moveK k (moveP b))) rs) ++ endsL q (n + ((2 + linesN b + linesN p : Nat) : Int)) (beh F (beh (moveK k (moveP b)) (moveP p))) rs
    rw [h, e, ← beh_assoc F (moveK k (moveP b)) (moveP p), List.append_assoc]
def ledS (L : Fm) (n : Int) (s : St1) : St1 := (leadP L s.1, n + s.2.1, s.2.2)
def ledE (L : Fm) (n : Int) (e : En1) : En1 := (beh (beh L e.1) (und L), n + e.2.1, e.2.2.1, e.2.2.2.map (ledS L n))
theorem flatMap_map2 {α β : Type} (f : Nat → List α) (g : Nat → List β) (h : α → β) (l : List Nat) (e : ∀ i, g i = (f i).map h) : l.flatMap g = (l.flatMap f).map h := by
  induction l with
  | nil => rfl
  | cons a l ih => rw [List.flatMap_cons, List.flatMap_cons, List.map_append, ih, e]
/-- what is drawn behind a frame is what is drawn, led by it -/
theorem still_led (L : Fm) (n : Int) : ∀ (p : Prog) (m : Int) (F : Fm) (rs : List Nat), stillL p (n + m) (beh L F) rs = (stillL p m F rs).map (ledS L n)
  | .nil, _, _, _ => rfl
  | .pl r p, m, F, rs => by
    have h := still_led L n p (m + 1) (beh F (told r)) rs
    simp only [stillL, List.map_append]
    rw [beh_assoc, Int.add_assoc, h]
    cases pieceP r with
    | none => rfl
    | some P =>
      show [(leadP (beh L F) P, n + m, rs)] ++ _ = _
      rw [leadP_beh]
      rfl
  | .blk k b p, m, F, rs => by
    have h := still_led L n p (m + (2 + linesN b : Nat)) (beh F (moveK k (moveP b))) rs
    simp only [stillL, List.map_append]
    rw [beh_assoc L F (moveK k (moveP b)), Int.add_assoc n m ((2 + linesN b : Nat) : Int), h]
    congr 1
    cases k with
    | again t =>
      refine flatMap_map2 _ _ _ _ fun i => ?_
      rw [beh_assoc, Int.add_assoc]
      exact still_led L n b (m + 1) (beh F (powF i (moveP b))) (rs ++ [i])
    | keep =>
      show stillL b (n + m + 1) (beh L F) rs = _
      rw [Int.add_assoc]
      exact still_led L n b (m + 1) F rs
    | ever => rfl
theorem pos_ne {r : Rat} (h : 0 < r) : r ≠ 0 := fun z => by
  rw [z] at h
  exact Rat.lt_irrefl h
theorem ends_led {E : Nat} (hE : 0 < E) {L : Fm} (hL : 0 < L.s) (n : Int) : ∀ (p : Prog), AllPl E p → ∀ (m : Int) (F : Fm) (rs : List Nat), 0 < F.s → endsL p (n + m) (beh L F) rs = (endsL p m F rs).map (ledE L n)
  | .nil, _, _, _, _, _ => rfl
  | .pl r p, ha, m, F, rs, hF => by
    have h := ends_led hE hL n p ha.2 (m + 1) (beh F (told r)) rs (Rat.mul_pos hF (told_fb hE ha.1).pos)
    simp only [endsL]
    rw [beh_assoc, Int.add_assoc, h]
  | .blk k b p, ha, m, F, rs, hF => by
    have hM := move_fb hE ha.1
    have hK : 0 < (moveK k (moveP b)).s := by
      cases k with
      | again t => exact (pow_fb hE hM t).pos
      | keep => exact (FB.first hE).pos
      | ever => exact (FB.first hE).pos
    have h := ends_led hE hL n p ha.2 (m + (2 + linesN b : Nat)) (beh F (moveK k (moveP b))) rs (Rat.mul_pos hF hK)
    simp only [endsL, List.map_append]
    rw [beh_assoc L F (moveK k (moveP b)), Int.add_assoc n m ((2 + linesN b : Nat) : Int), h]
    congr 1
    cases k with
    | again t =>
      refine flatMap_map2 _ _ _ _ fun i => ?_
      rw [beh_assoc, Int.add_assoc]
      exact ends_led hE hL n b ha.1 (m + 1) (beh F (powF i (moveP b))) (rs ++ [i]) (Rat.mul_pos hF (pow_fb hE hM i).pos)
    | keep =>
      show endsL b (n + m + 1) (beh L F) rs = _
      rw [Int.add_assoc]
      exact ends_led hE hL n b ha.1 (m + 1) F rs hF
    | ever =>
      show [(beh (beh (beh L F) (moveP b)) (und (beh L F)), n + m, rs, stillL b (n + m + 1) (beh L F) [])] = [ledE L n (beh (beh F (moveP b)) (und F), m, rs, stillL b (m + 1) F [])]
      rw [leads_comp L F (moveP b) (pos_ne hL) (pos_ne hF), Int.add_assoc, still_led L n b (m + 1) F []]
      rfl
end Arc
set_option Elab.async false
set_option linter.all false
set_option maxRecDepth 100000
set_option maxHeartbeats 1000000
set_option exponentiation.threshold 200
namespace Arc
open PySem L2
/-! ## sizes of what is drawn -/
abbrev MM : Nat := 2 ^ 6000
theorem mm_ok {k : Nat} (h : k ≤ 960) : XX * 16 ^ k + XX * k * 16 ^ k ≤ MM := by
  have h1 := pow16 h
  have h2 := mB h
  have h3 : XX * 16 ^ k ≤ 2 ^ 24 * 2 ^ 3840 := Nat.mul_le_mul (by decide) h1
  rw [← Nat.pow_add] at h3
  have h4 : (2 : Nat) ^ (24 + 3840) ≤ 2 ^ 5999 := Nat.pow_le_pow_right (by decide) (by decide)
  have h5 : (2 : Nat) ^ 4000 ≤ 2 ^ 5999 := Nat.pow_le_pow_right (by decide) (by decide)
  have h6 : (2 : Nat) ^ 6000 = 2 ^ 5999 + 2 ^ 5999 := by rw [show 6000 = 5999 + 1 from rfl, Nat.pow_succ]; omega
  show _ ≤ 2 ^ 6000
  generalize (2 : Nat) ^ 5999 = z at *
  generalize (2 : Nat) ^ 4000 = z2 at *
  generalize (2 : Nat) ^ (24 + 3840) = z3 at *
  rw [h6]
  omega
theorem flat_mem {α : Type} {f : Nat → List α} {l : List Nat} {x : α} (h : x ∈ l.flatMap f) : ∃ i ∈ l, x ∈ f i := List.mem_flatMap.mp h
theorem still_pb {E : Nat} (hE : 0 < E) : ∀ (p : Prog), AllPl E p → ∀ (n : Int) (F : Fm) (rs : List Nat) (kF : Nat), FB E kF F → kF + doneN p ≤ 900 → ∀ s ∈ stillL p n F rs, ∀ q ∈ ptsP s.1, PB E (kF + doneN p) MM q
  | .nil, _, _, _, _, _, _, _, _, h => by cases h
  | .pl r p, ha, n, F, rs, kF, hF, hk, s, hs => by
    have hk2 : kF + (1 + doneN p) ≤ 900 := hk
    simp only [stillL] at hs
    rcases List.mem_append.mp hs with h | h
    · cases hp : pieceP r with
      | none =>
        rw [hp] at h
        cases h
      | some P =>
        rw [hp] at h
        have e : s = (leadP F P, n, rs) := by simpa using h
        subst e
        intro q hq
        obtain ⟨p0, hp0, rfl⟩ := leadP_pts hq
        have hb := (led_bd hF (piece_pb hE ha.1 hp p0 hp0)).1
        exact hb.mono (by show kF + 0 ≤ kF + (1 + doneN p); omega) (mm_ok (by omega))
    · intro q hq
      have := still_pb hE p ha.2 (n + 1) (beh F (told r)) rs (kF + 1) (hF.beh (told_fb hE ha.1)) (by omega) s h q hq
      exact this.mono (by show kF + 1 + doneN p ≤ kF + (1 + doneN p); omega) (Nat.le_refl _)
  | .blk k b p, ha, n, F, rs, kF, hF, hk, s, hs => by
    have hk2 : kF + (timesK k * doneN b + doneN p) ≤ 900 := hk
    have hM := move_fb hE ha.1
    have ed : doneN (.blk k b p) = timesK k * doneN b + doneN p := rfl
    simp only [stillL] at hs
    rcases List.mem_append.mp hs with h | h
    · intro q hq
      cases k with
      | again t =>
        simp only [timesK] at hk2 ed
        obtain ⟨i, hi, hx⟩ := flat_mem h
        have hit : i < t := List.mem_range.mp hi
        have hle : i * doneN b + doneN b ≤ t * doneN b := by
          have := Nat.mul_le_mul_right (doneN b) hit
          rwa [Nat.succ_mul] at this
        have := still_pb hE b ha.1 (n + 1) (beh F (powF i (moveP b))) (rs ++ [i]) (kF + i * doneN b) (hF.beh (pow_fb hE hM i)) (by omega) s hx q hq
        exact this.mono (by rw [ed]; omega) (Nat.le_refl _)
      | keep =>
        simp only [timesK] at hk2 ed
        have := still_pb hE b ha.1 (n + 1) F rs kF hF (by omega) s h q hq
        exact this.mono (by rw [ed]; omega) (Nat.le_refl _)
      | ever => cases h
    · intro q hq
      have hfb : FB E (timesK k * doneN b) (moveK k (moveP b)) := by
        cases k with
        | again t => exact pow_fb hE hM t
        | keep => exact (FB.first hE).mono (Nat.zero_le _)
        | ever => exact (FB.first hE).mono (Nat.zero_le _)
      have := still_pb hE p ha.2 (n + (2 + linesN b : Nat)) (beh F (moveK k (moveP b))) rs (kF + timesK k * doneN b) (hF.beh hfb) (by omega) s h q hq
      exact this.mono (by rw [ed]; omega) (Nat.le_refl _)
theorem ends_fb {E : Nat} (hE : 0 < E) : ∀ (p : Prog), AllPl E p → ∀ (n : Int) (F : Fm) (rs : List Nat) (kF : Nat), FB E kF F → kF + doneN p ≤ 900 → ∀ e ∈ endsL p n F rs, FB E (3 * (kF + doneN p)) e.1 ∧ ∀ s ∈ e.2.2.2, ∀ q ∈ ptsP s.1, PB E (kF + doneN p) MM q
  | .nil, _, _, _, _, _, _, _, _, h => by cases h
  | .pl r p, ha, n, F, rs, kF, hF, hk, e, he => by
    have hk2 : kF + (1 + doneN p) ≤ 900 := hk
    have h := ends_fb hE p ha.2 (n + 1) (beh F (told r)) rs (kF + 1) (hF.beh (told_fb hE ha.1)) (by omega) e he
    have ed : doneN (.pl r p) = 1 + doneN p := rfl
    exact ⟨h.1.mono (by rw [ed]; omega), fun s hs q hq => (h.2 s hs q hq).mono (by rw [ed]; omega) (Nat.le_refl _)⟩
  | .blk k b p, ha, n, F, rs, kF, hF, hk, e, he => by
    have hk2 : kF + (timesK k * doneN b + doneN p) ≤ 900 := hk
    have hM := move_fb hE ha.1
    have ed : doneN (.blk k b p) = timesK k * doneN b + doneN p := rfl
    simp only [endsL] at he
    rcases List.mem_append.mp he with h | h
    · cases k with
      | again t =>
        simp only [timesK] at hk2 ed
        obtain ⟨i, hi, hx⟩ := flat_mem h
        have hit : i < t := List.mem_range.mp hi
        have hle : i * doneN b + doneN b ≤ t * doneN b := by
          have := Nat.mul_le_mul_right (doneN b) hit
          rwa [Nat.succ_mul] at this
        have := ends_fb hE b ha.1 (n + 1) (beh F (powF i (moveP b))) (rs ++ [i]) (kF + i * doneN b) (hF.beh (pow_fb hE hM i)) (by omega) e hx
        exact ⟨this.1.mono (by rw [ed]; omega), fun s hs q hq => (this.2 s hs q hq).mono (by rw [ed]; omega) (Nat.le_refl _)⟩
      | keep =>
        simp only [timesK] at hk2 ed
        have := ends_fb hE b ha.1 (n + 1) F rs kF hF (by omega) e h
        exact ⟨this.1.mono (by rw [ed]; omega), fun s hs q hq => (this.2 s hs q hq).mono (by rw [ed]; omega) (Nat.le_refl _)⟩
      | ever =>
        simp only [timesK] at hk2 ed
        have e1 : e = (beh (beh F (moveP b)) (und F), n, rs, stillL b (n + 1) F []) := by simpa using h
        subst e1
        refine ⟨((hF.beh hM).beh hF.und).mono (by rw [ed]; omega), fun s hs q hq => ?_⟩
        exact (still_pb hE b ha.1 (n + 1) F [] kF hF (by omega) s hs q hq).mono (by rw [ed]; omega) (Nat.le_refl _)
    · have hfb : FB E (timesK k * doneN b) (moveK k (moveP b)) := by
        cases k with
        | again t => exact pow_fb hE hM t
        | keep => exact (FB.first hE).mono (Nat.zero_le _)
        | ever => exact (FB.first hE).mono (Nat.zero_le _)
      have := ends_fb hE p ha.2 (n + (2 + linesN b : Nat)) (beh F (moveK k (moveP b))) rs (kF + timesK k * doneN b) (hF.beh hfb) (by omega) e h
      exact ⟨this.1.mono (by rw [ed]; omega), fun s hs q hq => (this.2 s hs q hq).mono (by rw [ed]; omega) (Nat.le_refl _)⟩
end Arc
set_option Elab.async false
set_option linter.all false
set_option maxRecDepth 100000
set_option maxHeartbeats 1000000
set_option exponentiation.threshold 200
namespace Arc
open PySem L2
/-! ## the claim's leading on -/
theorem led_on_ev {E l T : Nat} (hE : E ≤ 2 ^ 640) {L : Fm} (hL : FB E l L) (n : Int) (S : List St1) (hS : ∀ s ∈ S, ∀ q ∈ ptsP s.1, PB E T MM q) (hk : l + T ≤ 960) (hlen : S.length ≤ 1000000) :
    law_led_on_G [fmD L, .int n, .list (S.map stD)] = some (.list ((S.map (ledS L n)).map stD)) := by
  have hm : MM ≤ 2 ^ 20000 := Nat.pow_le_pow_right (by decide) (by decide)
  have loop : ∀ (S : List St1), (∀ s ∈ S, ∀ q ∈ ptsP s.1, PB E T MM q) → lcF (tgT [3, 4, 5]) (fun _ => some true) (f1 gTu (fCons (f1 led_piece_G (fCons (fV 0) (fCons (fV 3) fNil))) (fCons (f2 gAdd (fV 1) (fV 4)) (fCons (fV 5) fNil)))) [some (fmD L), some (.int n), some (.list ((S.map stD))), none, none, none] (S.map stD) = some ((S.map (ledS L n)).map stD) ∧
      ∀ o2, lcF (tgT [3, 4, 5]) (fun _ => some true) (f1 gTu (fCons (f1 led_piece_G (fCons (fV 0) (fCons (fV 3) fNil))) (fCons (f2 gAdd (fV 1) (fV 4)) (fCons (fV 5) fNil)))) [some (fmD L), some (.int n), o2, none, none, none] (S.map stD) = some ((S.map (ledS L n)).map stD) := by
    intro S
    have main : (∀ s ∈ S, ∀ q ∈ ptsP s.1, PB E T MM q) → ∀ o2, lcF (tgT [3, 4, 5]) (fun _ => some true) (f1 gTu (fCons (f1 led_piece_G (fCons (fV 0) (fCons (fV 3) fNil))) (fCons (f2 gAdd (fV 1) (fV 4)) (fCons (fV 5) fNil)))) [some (fmD L), some (.int n), o2, none, none, none] (S.map stD) = some ((S.map (ledS L n)).map stD) := by
      induction S with
      | nil => exact fun _ _ => rfl
      | cons s S ih =>
        intro h o2
        have hp := lead_fb hL (h s (by simp)) hE hk hm
        have i2 := ih (fun s hs => h s (by simp [hs])) o2
        have ei : imm (stD (ledS L n s)) = true := imm_st _
        have et : PyData.tuple [pcD (leadP L s.1), .int (n + s.2.1), rdD s.2.2] = stD (ledS L n s) := rfl
        have step : (f1 gTu (fCons (f1 led_piece_G (fCons (fV 0) (fCons (fV 3) fNil))) (fCons (f2 gAdd (fV 1) (fV 4)) (fCons (fV 5) fNil)))) [some (fmD L), some (.int n), o2, some (pcD s.1), some (.int s.2.1), some (rdD s.2.2)] = some (stD (ledS L n s)) := by
          simp [f1, f2, fV, fC, fCons, fNil, fSeq, fSet, fRet, fIf, fNext, fNever, fAnd, fOr, fAndV, fOrV, fUnp, fPar, fSl, fChain, tgF, tgN, gTu, gLs, startR, defG, outV, on1, on2, gB, gNot, gNotV, gI, hp, gAdd_i, et]
        show ((f1 gTu (fCons (f1 led_piece_G (fCons (fV 0) (fCons (fV 3) fNil))) (fCons (f2 gAdd (fV 1) (fV 4)) (fCons (fV 5) fNil)))) [some (fmD L), some (.int n), o2, some (pcD s.1), some (.int s.2.1), some (rdD s.2.2)]).bind _ = _
        rw [step]
        show (if imm (stD (ledS L n s)) = true then _ else none) = _
        rw [if_pos ei, i2]
        rfl
    exact fun h => ⟨main h _, main h⟩
  have h := (loop S hS).2 (some (.list (S.map stD)))
  have hl2 : (S.map stD).length ≤ 1000000 := by rw [List.length_map]; exact hlen
  show outV ((fLc [3, 4, 5] (tgT [3, 4, 5]) (fun _ => some true) (f1 gTu (fCons (f1 led_piece_G (fCons (fV 0) (fCons (fV 3) fNil))) (fCons (f2 gAdd (fV 1) (fV 4)) (fCons (fV 5) fNil)))) (f1 itL (fV 2)) [some (fmD L), some (.int n), some (.list (S.map stD)), none, none, none]).map .ret) = _
  have h2 : fLc [3, 4, 5] (tgT [3, 4, 5]) (fun _ => some true) (f1 gTu (fCons (f1 led_piece_G (fCons (fV 0) (fCons (fV 3) fNil))) (fCons (f2 gAdd (fV 1) (fV 4)) (fCons (fV 5) fNil)))) (f1 itL (fV 2)) [some (fmD L), some (.int n), some (.list (S.map stD)), none, none, none] = some (.list ((S.map (ledS L n)).map stD)) := by
    show (if (S.map stD).length ≤ 1000000 then _ else none) = _
    rw [if_pos hl2]
    show (lcF (tgT [3, 4, 5]) (fun _ => some true) (f1 gTu (fCons (f1 led_piece_G (fCons (fV 0) (fCons (fV 3) fNil))) (fCons (f2 gAdd (fV 1) (fV 4)) (fCons (fV 5) fNil)))) [some (fmD L), some (.int n), some (.list (S.map stD)), none, none, none] (S.map stD)).map _ = _
    rw [h]
    rfl
  rw [h2]
  rfl
theorem immAll_st (S : List St1) : immAll (S.map stD) = true := by
  induction S with
  | nil => rfl
  | cons s S ih =>
    show (imm (stD s) && immAll (S.map stD)) = true
    rw [imm_st, ih]
    rfl
theorem led_ends_ev {E l T : Nat} (hE : E ≤ 2 ^ 640) {L : Fm} (hL : FB E l L) (n : Int) (es : List En1) (hS : ∀ e ∈ es, FB E (3 * T) e.1 ∧ (∀ s ∈ e.2.2.2, ∀ q ∈ ptsP s.1, PB E T MM q) ∧ e.2.2.2.length ≤ 1000000) (hk : l + T ≤ 300) (hlen : es.length ≤ 100000) :
    law_led_ends_G [fmD L, .int n, .list (es.map enD)] = some (.list ((es.map (ledE L n)).map enD)) := by
  have hu := undone_fb hL hE (by omega)
  have one : ∀ e ∈ es, ledEnd (fmD L) (.int n) (enD e) = some (enD (ledE L n e)) := fun e he => by
    obtain ⟨h1, h2, h3⟩ := hS e he
    have b1 := behind_fb hL h1 hE (by omega)
    have b2 := behind_fb (hL.beh h1) hL.und hE (by omega)
    have lo := led_on_ev hE hL n e.2.2.2 h2 (by omega) h3
    show ((((behind_G [fmD L, fmD e.1]).bind _).bind _) = _)
    rw [b1]
    show ((((undone_G [fmD L]).bind _).bind _) = _)
    rw [hu]
    show ((((behind_G [fmD (beh L e.1), fmD (und L)]).bind immO).bind _) = _)
    rw [b2]
    show ((immO (fmD (beh (beh L e.1) (und L)))).bind _) = _
    rw [immO_ok (imm_fm _)]
    simp only [Option.bind_some]
    rw [gAdd_i]
    show ((((law_led_on_G [fmD L, .int n, .list (e.2.2.2.map stD)]).bind listO).bind _) = _)
    rw [lo]
    show (if immAll ((e.2.2.2.map (ledS L n)).map stD) = true then _ else none) = _
    rw [if_pos (immAll_st _)]
    rfl
  have all : ∀ es : List En1, (∀ e ∈ es, ledEnd (fmD L) (.int n) (enD e) = some (enD (ledE L n e))) → ledEnds (fmD L) (.int n) (es.map enD) = some ((es.map (ledE L n)).map enD) := by
    intro es
    induction es with
    | nil => exact fun _ => rfl
    | cons e es ih =>
      intro h
      show ((ledEnd (fmD L) (.int n) (enD e)).bind _) = _
      rw [h e (by simp)]
      show ((ledEnds (fmD L) (.int n) (es.map enD)).map _) = _
      rw [ih fun e he => h e (by simp [he])]
      rfl
  show (if (es.map enD).length ≤ 100000 then _ else none) = _
  rw [if_pos (by rw [List.length_map]; exact hlen), all es one]
  rfl
/-! ## shapes -/
theorem lay_map {α : Type} (f : α → PyData) (k : Nat) : ∀ l : List α, (∀ x ∈ l, PyData.canLay0 (f x) = true ∧ PyData.depth (f x) ≤ k) → PyData.canLayAll0 (l.map f) = true ∧ PyData.depthAll (l.map f) ≤ k
  | [], _ => ⟨rfl, Nat.zero_le _⟩
  | x :: l, h => by
    have h1 := h x (by simp)
    have h2 := lay_map f k l fun y hy => h y (by simp [hy])
    simp only [List.map_cons, PyData.canLayAll0, PyData.depthAll, h1.1, h2.1]
    exact ⟨by trivial, by omega⟩
theorem lay_rd (rs : List Nat) : PyData.canLay0 (rdD rs) = true ∧ PyData.depth (rdD rs) ≤ 1 := by
  have h := lay_map (fun (i : Nat) => PyData.int (i : Int)) 0 rs fun x _ => ⟨rfl, Nat.le_refl _⟩
  unfold rdD
  simp only [PyData.canLay0, PyData.depth, h.1]
  exact ⟨by trivial, by omega⟩
theorem lay_pc (P : Pc) : PyData.canLay0 (pcD P) = true ∧ PyData.depth (pcD P) ≤ 3 := by
  cases P <;> simp [pcD, ptD, fr, PyData.canLay0, PyData.canLayAll0, PyData.depth, PyData.depthAll] <;> decide +kernel
theorem lay_st (s : St1) : PyData.canLay0 (stD s) = true ∧ PyData.depth (stD s) ≤ 4 := by
  have h1 := lay_pc s.1
  have h2 := lay_rd s.2.2
  unfold stD
  simp only [PyData.canLay0, PyData.canLayAll0, PyData.depth, PyData.depthAll, h1.1, h2.1]
  exact ⟨by trivial, by omega⟩
theorem lay_fm (F : Fm) : PyData.canLay0 (fmD F) = true ∧ PyData.depth (fmD F) ≤ 3 := ⟨rfl, Nat.le_refl _⟩
theorem lay_en (e : En1) : PyData.canLay0 (enD e) = true ∧ PyData.depth (enD e) ≤ 6 := by
  have h1 := lay_fm e.1
  have h2 := lay_rd e.2.2.1
  have h3 := lay_map stD 4 e.2.2.2 fun s _ => lay_st s
  unfold enD
  simp only [PyData.canLay0, PyData.canLayAll0, PyData.depth, PyData.depthAll, h1.1, h2.1, h3.1]
  exact ⟨by trivial, by omega⟩
theorem shp_of {d : PyData} (h : PyData.canLay0 d = true ∧ PyData.depth d ≤ 64) : SeqAt.shaped d = true := by
  unfold SeqAt.shaped
  simp [h.1, h.2]
theorem shp_S (S : List St1) : SeqAt.shaped (.list (S.map stD)) = true := by
  have h := lay_map stD 4 S fun s _ => lay_st s
  exact shp_of (by simp only [PyData.canLay0, PyData.depth, h.1]; exact ⟨by trivial, by omega⟩)
theorem shp_E (es : List En1) : SeqAt.shaped (.list (es.map enD)) = true := by
  have h := lay_map enD 6 es fun e _ => lay_en e
  exact shp_of (by simp only [PyData.canLay0, PyData.depth, h.1]; exact ⟨by trivial, by omega⟩)
theorem gEq_refl {d : PyData} (h : SeqAt.shaped d = true) : gEq d d = some (.bool true) := by
  unfold gEq
  rw [h]
  simp only [Bool.and_self, if_true]
  rw [SeqAt.eqv_refl d (SeqAt.canLay_of_shaped h)]
theorem gNe_refl {d : PyData} (h : SeqAt.shaped d = true) : gNe d d = some (.bool false) := by
  unfold gNe
  rw [h]
  simp only [Bool.and_self, if_true]
  rw [SeqAt.eqv_refl d (SeqAt.canLay_of_shaped h)]
  rfl
end Arc
set_option Elab.async false
set_option linter.all false
set_option maxRecDepth 100000
set_option maxHeartbeats 1000000
set_option exponentiation.threshold 200
namespace Arc
open PySem L2
/-! ## the cuts -/
theorem cut_core {R Ra Rb at_ S En Sa Ea Sb Eb Sl El L N M Mb : PyData} {i : Int} (hat : gI at_ = some (some i)) (s1 : gSl R none (some i) = some Ra) (s2 : gSl R (some i) none = some Rb)
    (d1 : drawn_G [R] = some (.tuple [S, En])) (d2 : drawn_G [Ra] = some (.tuple [Sa, Ea])) (d3 : drawn_G [Rb] = some (.tuple [Sb, Eb])) (m1 : move_G [Ra] = some L) (n1 : law_numbers_G [Ra] = some N)
    (l1 : law_led_on_G [L, N, Sb] = some Sl) (l2 : law_led_ends_G [L, N, Eb] = some El) (c1 : gCatL Sa Sl = some S) (c2 : gCatL Ea El = some En) (n2 : gNe S S = some (.bool false)) (n3 : gNe En En = some (.bool false))
    (m2 : move_G [R] = some M) (m3 : move_G [Rb] = some Mb) (b1 : behind_G [L, Mb] = some M) (e1 : gEq M M = some (.bool true)) : law_cut_G [R, at_] = some (.bool true) := by
  simp only [law_cut_G, F_law_cut]
  simp [f1, f2, fV, fC, fCons, fNil, fSeq, fSet, fRet, fIf, fNext, fOr, fUnp, fSl, tgF, startR, defG, outV, gB, s1, s2, d1, d2, d3, m1, n1, l1, l2, c1, c2, n2, n3, m2, m3, b1, e1, hat]
theorem cutL_take {α : Type} (l : List α) (n : Nat) : cutL l none (some (n : Int)) = l.take n := by
  unfold cutL
  rw [HT.sIx_nat]
  simp [HT.sIx]
theorem cutL_drop {α : Type} (l : List α) (n : Nat) (h : n ≤ l.length) : cutL l (some (n : Int)) none = l.drop n := by
  unfold cutL
  rw [HT.sIx_nat, Nat.min_eq_left h]
  show List.take (l.length - n) (l.drop n) = _
  exact List.take_of_length_le (by simp)
theorem split_at : ∀ (p : Prog) (i : Nat), i ≤ (enc p).length → ∃ a b, p = appP a b ∧ (enc p).take i = enc a ∧ (enc p).drop i = enc b
  | p, 0, _ => ⟨.nil, p, rfl, rfl, rfl⟩
  | .nil, i + 1, h => by simp [enc] at h
  | .pl r p, i + 1, h => by
    obtain ⟨a, b, h1, h2, h3⟩ := split_at p i (by simpa [enc] using h)
    exact ⟨.pl r a, b, by rw [h1]; rfl, by show plD r :: (enc p).take i = _; rw [h2]; rfl, h3⟩
  | .blk k q p, i + 1, h => by
    obtain ⟨a, b, h1, h2, h3⟩ := split_at p i (by simpa [enc] using h)
    exact ⟨.blk k q a, b, by rw [h1]; rfl, by show blkD k (enc q) :: (enc p).take i = _; rw [h2]; rfl, h3⟩
structure Sound (E : Nat) (p : Prog) : Prop where
  dp : deepN p ≤ 5
  all : AllPl E p
  lim : Lim p
  ev : EvOk p
  dn : doneN p ≤ 300
theorem shp_fm (F : Fm) : SeqAt.shaped (fmD F) = true := rfl
theorem enc_len : ∀ p : Prog, (enc p).length ≤ rowsN p
  | .nil => Nat.le_refl _
  | .pl r p => by have := enc_len p; show (enc p).length + 1 ≤ 1 + rowsN p; omega
  | .blk k b p => by have := enc_len p; show (enc p).length + 1 ≤ 1 + rowsN b + rowsN p; omega
theorem law_cut_ev {E : Nat} (hE0 : 0 < E) (hE : E ≤ 2 ^ 640) {p : Prog} (hp : Sound E p) (i : Nat) (hi : i ≤ (enc p).length) : law_cut_G [.tuple (enc p), .int (i : Int)] = some (.bool true) := by
  obtain ⟨a, b, e, t1, t2⟩ := split_at p i hi
  subst e
  have h1 := deep_app a b
  have h2 := done_app a b
  have hdp := hp.dp
  have hdn := hp.dn
  have hall := all_app.mp hp.all
  have hlim := lim_app.mp hp.lim
  have hev := ev_app.mp hp.ev
  have da := drawn_ev hE0 hE (p := a) (by omega) hall.1 hlim.1 hev.1 (by omega)
  have db := drawn_ev hE0 hE (p := b) (by omega) hall.2 hlim.2 hev.2 (by omega)
  have dd := drawn_ev hE0 hE (p := appP a b) (by omega) hp.all hp.lim hp.ev hdn
  have ma : move_G [.tuple (enc a)] = some (fmD (moveP a)) := move_ev hE0 hE 8 a (by omega) hall.1 hlim.1 (by omega)
  have mb : move_G [.tuple (enc b)] = some (fmD (moveP b)) := move_ev hE0 hE 8 b (by omega) hall.2 hlim.2 (by omega)
  have mm : move_G [.tuple (enc (appP a b))] = some (fmD (moveP (appP a b))) := move_ev hE0 hE 8 (appP a b) (by omega) hp.all hp.lim (by omega)
  have na : law_numbers_G [.tuple (enc a)] = some (.int (linesN a : Int)) := (lines_ev 8 a (by omega)).2.1
  have fa := move_fb hE0 hall.1
  have fb := move_fb hE0 hall.2
  have bb := behind_fb fa fb hE (by omega)
  have z0 : FB E 0 fst0 := FB.first hE0
  have ls := led_on_ev hE fa (linesN a : Int) (stillL b 0 fst0 []) (fun s hs q hq => still_pb hE0 b hall.2 0 fst0 [] 0 z0 (by omega) s hs q hq) (by omega) (Nat.le_trans (still_len _ _ _ _) (by omega))
  have slen : ∀ e ∈ endsL b 0 fst0 [], e.2.2.2.length ≤ 1000000 := by
    have gen : ∀ (p : Prog) (n : Int) (F : Fm) (rs : List Nat), Lim p → ∀ e ∈ endsL p n F rs, e.2.2.2.length ≤ 720 := by
      intro p
      induction p with
      | nil => exact fun _ _ _ _ _ h => by cases h
      | pl r p ih => exact fun n F rs hl e he => ih _ _ _ hl e he
      | blk k q p ihq ihp =>
        intro n F rs hl e he
        simp only [endsL] at he
        rcases List.mem_append.mp he with h | h
        · cases k with
          | again t =>
            obtain ⟨j, hj, hx⟩ := flat_mem h
            exact ihq _ _ _ hl.2.2.1 e hx
          | keep => exact ihq _ _ _ hl.2.2.1 e h
          | ever =>
            have e1 : e = (beh (beh F (moveP q)) (und F), n, rs, stillL q (n + 1) F []) := by simpa using h
            subst e1
            exact Nat.le_trans (still_len _ _ _ _) hl.2.1
        · exact ihp _ _ _ hl.2.2.2 e h
    exact fun e he => Nat.le_trans (gen b 0 fst0 [] hlim.2 e he) (by decide)
  have le := led_ends_ev hE fa (linesN a : Int) (endsL b 0 fst0 []) (T := 0 + doneN b) (fun e he => by
    have := ends_fb hE0 b hall.2 0 fst0 [] 0 z0 (by omega) e he
    exact ⟨this.1, this.2, slen e he⟩) (by omega) (Nat.le_trans (ends_len _ hev.2 _ _ _) (by omega))
  have eqS : stillL (appP a b) 0 fst0 [] = stillL a 0 fst0 [] ++ (stillL b 0 fst0 []).map (ledS (moveP a) (linesN a : Int)) := by
    rw [still_app, first_beh]
    have := still_led (moveP a) (linesN a : Int) b 0 fst0 []
    rw [beh_first, Int.add_zero] at this
    rw [Int.zero_add, this]
  have eqE : endsL (appP a b) 0 fst0 [] = endsL a 0 fst0 [] ++ (endsL b 0 fst0 []).map (ledE (moveP a) (linesN a : Int)) := by
    rw [ends_app, first_beh]
    have := ends_led hE0 fa.pos (linesN a : Int) b hall.2 0 fst0 [] z0.pos
    rw [beh_first, Int.add_zero] at this
    rw [Int.zero_add, this]
  have l1 := still_len a 0 fst0 []
  have l2 := still_len b 0 fst0 []
  have l3 := ends_len a hev.1 0 fst0 []
  have l4 := ends_len b hev.2 0 fst0 []
  refine cut_core (i := (i : Int)) (L := fmD (moveP a)) (N := .int (linesN a : Int)) (M := fmD (moveP (appP a b))) (Mb := fmD (moveP b)) rfl (Ra := .tuple (enc a)) (Rb := .tuple (enc b)) ?_ ?_ dd da db ma na ls le ?_ ?_ (gNe_refl (shp_S _)) (gNe_refl (shp_E _)) mm mb ?_ (gEq_refl (shp_fm _))
  · show some (PyData.tuple (cutL (enc (appP a b)) none (some (i : Int)))) = _
    rw [cutL_take, t1]
  · show some (PyData.tuple (cutL (enc (appP a b)) (some (i : Int)) none)) = _
    rw [cutL_drop _ _ hi, t2]
  · show (if _ ≤ 1000000 then some (PyData.list (_ ++ _)) else none) = _
    rw [if_pos (by simp only [List.length_map]; omega), ← List.map_append, eqS]
  · show (if _ ≤ 1000000 then some (PyData.list (_ ++ _)) else none) = _
    rw [if_pos (by simp only [List.length_map]; omega), ← List.map_append, eqE]
  · rw [bb, move_app]
end Arc
set_option Elab.async false
set_option linter.all false
set_option maxRecDepth 100000
set_option maxHeartbeats 1000000
set_option exponentiation.threshold 200
namespace Arc
open PySem L2
/-! ## how deep -/
def deepsN : Prog → List Int
  | .nil => []
  | .pl _ p => deepsN p
  | .blk _ b p => (1 + (deepN b : Int)) :: deepsN p
theorem fold_max : ∀ (l : List Int) (a : Int), l.foldl max a = max a (l.foldl max a) ∧ ∀ b : Int, l.foldl max (max b a) = max b (l.foldl max a)
  | [], a => ⟨by show a = max a a; omega, fun b => rfl⟩
  | x :: l, a => by
    have h := fold_max l (max a x)
    have h2 := fold_max l x
    refine ⟨?_, fun b => ?_⟩
    · show l.foldl max (max a x) = max a (l.foldl max (max a x))
      rw [h2.2 a]
      omega
    · show l.foldl max (max (max b a) x) = max b (l.foldl max (max a x))
      rw [show max (max b a) x = max b (max a x) from by omega]
      exact h.2 b
theorem deeps_max : ∀ p : Prog, (deepsN p).foldl max 0 = (deepN p : Int)
  | .nil => rfl
  | .pl r p => deeps_max p
  | .blk k b p => by
    have h := deeps_max p
    show (deepsN p).foldl max (max 0 (1 + (deepN b : Int))) = ((max (1 + deepN b) (deepN p) : Nat) : Int)
    have h2 := (fold_max (deepsN p) 0).2 (1 + (deepN b : Int))
    rw [show max (1 + (deepN b : Int)) 0 = max 0 (1 + (deepN b : Int)) from by omega] at h2
    rw [h2, h]
    omega
theorem maxI_deeps (p : Prog) : maxI 0 (deepsN p) = (deepN p : Int) := by
  rw [← deeps_max p]
  have pos : ∀ p : Prog, ∀ x ∈ deepsN p, (0 : Int) ≤ x := by
    intro p
    induction p with
    | nil => exact fun x h => by cases h
    | pl r p ih => exact ih
    | blk k b p _ ih =>
      intro x h
      rcases List.mem_cons.mp h with z | z
      · omega
      · exact ih x z
  have hp := pos p
  cases h : deepsN p with
  | nil => rfl
  | cons x l =>
    rw [h] at hp
    have hx := hp x (by simp)
    show l.foldl max x = l.foldl max (max 0 x)
    rw [show max 0 x = x from by omega]
theorem asInts_map : ∀ l : List Int, asInts (l.map PyData.int) = some l
  | [] => rfl
  | x :: l => by
    show (asInts (l.map PyData.int)).map (x :: ·) = _
    rw [asInts_map l]
    rfl
theorem law_deep_ev : ∀ (n : Nat) (p : Prog), deepN p < n → (enc p).length ≤ 1000000 → (∀ q : Prog, deepN q < deepN p → True) → rowsN p ≤ 1000000 → law_deep_R n [.tuple (enc p)] = some (.int (deepN p : Int))
  | 0, _, h, _, _, _ => absurd h (Nat.not_lt_zero _)
  | n + 1, p, h, hlen, _, hrows => by
    have ih : ∀ b : Prog, deepN b < n → rowsN b ≤ 1000000 → law_deep_R n [.tuple (enc b)] = some (.int (deepN b : Int)) := fun b hb hr => law_deep_ev n b hb (Nat.le_trans (enc_len b) hr) (fun _ _ => trivial) hr
    have loop : ∀ (p : Prog), deepN p < n + 1 → rowsN p ≤ 1000000 → ∀ r0, lcF (tgN 1) (f1 gB (f2 gIn (f2 gIx (fV 1) (fC (.int 0))) (f1 gLs (fCons (fC (.str "again")) (fCons (fC (.str "keep")) (fCons (fC (.str "ever")) fNil)))))) (f2 gAdd (fC (.int 1)) (f1 (law_deep_R n) (fCons (f2 gIx (fV 1) (f1 gNeg (fC (.int 1)))) fNil))) [r0, none] (enc p) = some ((deepsN p).map PyData.int) := by
      intro p
      induction p with
      | nil => exact fun _ _ _ => rfl
      | pl r p ihp =>
        intro hd hr r0
        have h2 := ihp hd (by have : rowsN (.pl r p) = 1 + rowsN p := rfl; omega) r0
        have ht : (f1 gB (f2 gIn (f2 gIx (fV 1) (fC (.int 0))) (f1 gLs (fCons (fC (.str "again")) (fCons (fC (.str "keep")) (fCons (fC (.str "ever")) fNil)))))) [r0, some (plD r)] = some false := by
          simp [f1, f2, fV, fC, fCons, fNil, fSeq, fSet, fRet, fIf, fNext, fNever, fAnd, fOr, fAndV, fOrV, fUnp, fPar, fSl, fChain, tgF, tgN, gTu, gLs, startR, defG, outV, on1, on2, gB, gNot, gNotV, gI, w0P, inP_list]
        show ((f1 gB (f2 gIn (f2 gIx (fV 1) (fC (.int 0))) (f1 gLs (fCons (fC (.str "again")) (fCons (fC (.str "keep")) (fCons (fC (.str "ever")) fNil)))))) [r0, some (plD r)]).bind _ = _
        rw [ht]
        exact h2
      | blk k b p _ ihp =>
        intro hd hr r0
        have er : rowsN (.blk k b p) = 1 + rowsN b + rowsN p := rfl
        have h2 := ihp (dB hd).2 (by omega) r0
        have hb := ih b (dB hd).1 (by omega)
        have e3 := last1K k (enc b)
        have ht : (f1 gB (f2 gIn (f2 gIx (fV 1) (fC (.int 0))) (f1 gLs (fCons (fC (.str "again")) (fCons (fC (.str "keep")) (fCons (fC (.str "ever")) fNil)))))) [r0, some (blkD k (enc b))] = some true := by
          simp [f1, f2, fV, fC, fCons, fNil, fSeq, fSet, fRet, fIf, fNext, fNever, fAnd, fOr, fAndV, fOrV, fUnp, fPar, fSl, fChain, tgF, tgN, gTu, gLs, startR, defG, outV, on1, on2, gB, gNot, gNotV, gI, w0K, inK_list]
        have hv : (f2 gAdd (fC (.int 1)) (f1 (law_deep_R n) (fCons (f2 gIx (fV 1) (f1 gNeg (fC (.int 1)))) fNil))) [r0, some (blkD k (enc b))] = some (.int (1 + (deepN b : Int))) := by
          simp [f1, f2, fV, fC, fCons, fNil, fSeq, fSet, fRet, fIf, fNext, fNever, fAnd, fOr, fAndV, fOrV, fUnp, fPar, fSl, fChain, tgF, tgN, gTu, gLs, startR, defG, outV, on1, on2, gB, gNot, gNotV, gI, gNeg_i, e3, hb, gAdd_i]
        show ((f1 gB (f2 gIn (f2 gIx (fV 1) (fC (.int 0))) (f1 gLs (fCons (fC (.str "again")) (fCons (fC (.str "keep")) (fCons (fC (.str "ever")) fNil)))))) [r0, some (blkD k (enc b))]).bind _ = _
        rw [ht]
        show (((f2 gAdd (fC (.int 1)) (f1 (law_deep_R n) (fCons (f2 gIx (fV 1) (f1 gNeg (fC (.int 1)))) fNil))) [r0, some (blkD k (enc b))]).bind _) = _
        rw [hv]
        show (lcF (tgN 1) _ _ [r0, none] (enc p)).map _ = _
        rw [h2]
        rfl
    have hl := loop p h hrows (some (.tuple (enc p)))
    show (((deepL (law_deep_R n) [some (.tuple (enc p)), none]).bind listO).bind asInts).map _ = _
    have hd : deepL (law_deep_R n) [some (.tuple (enc p)), none] = some (.list ((deepsN p).map PyData.int)) := by
      show (if (enc p).length ≤ 1000000 then _ else none) = _
      rw [if_pos hlen]
      show (lcF (tgN 1) _ _ [some (.tuple (enc p)), none] (enc p)).map _ = _
      rw [hl]
      rfl
    rw [hd]
    show (asInts ((deepsN p).map PyData.int)).map _ = _
    rw [asInts_map]
    show some (PyData.int (maxI 0 (deepsN p))) = _
    rw [maxI_deeps]
/-! ## the rest of the law -/
theorem rest_core {R S En T2 M Dp N F0 Rd : PyData} {dn dp : Int} (d1 : drawn_G [R] = some (.tuple [S, En])) (w1 : written_G [R] = some T2) (r1 : read_G [T2] = some R) (n1 : gNe (.tuple [S, En]) (.tuple [S, En]) = some (.bool false))
    (m1 : move_G [R] = some M) (l1 : led_G [M, ptD (0, 0)] = some Dp) (u1 : law_numbers_G [R] = some N) (dn1 : law_done_G [R] = some (.int dn))
    (hd : dn < 300 → ∃ S2, gCatT R (.tuple [.tuple [.str "dot"]]) = some Rd ∧ gCatL S (.list [.tuple [.tuple [.str "dot", Dp], N, .tuple []]]) = some S2 ∧ drawn_G [Rd] = some (.tuple [S2, En]) ∧ gNe (.tuple [S2, En]) (.tuple [S2, En]) = some (.bool false))
    (dp1 : law_deep_G [R] = some (.int dp)) (f0 : first_G [] = some F0)
    (hw : dp < 4 → ∃ S3 E3, law_led_on_G [F0, .int 1, S] = some S3 ∧ law_led_ends_G [F0, .int 1, En] = some E3 ∧ drawn_G [.tuple [.tuple [.str "keep", R]]] = some (.tuple [S3, E3]) ∧ gEq (.tuple [S3, E3]) (.tuple [S3, E3]) = some (.bool true) ∧ move_G [.tuple [.tuple [.str "keep", R]]] = some F0 ∧ gEq F0 F0 = some (.bool true)) :
    restF [none, some R, none, none, none, none, none] = some (.ret (.bool true)) := by
  have p0 : PyData.tuple [.tuple [.int 0, .int 1], .tuple [.int 0, .int 1]] = ptD (0, 0) := rfl
  have g1 : gLt (.int dn) (.int 300) = some (.bool (decide (dn < 300))) := rfl
  have g2 : gLt (.int dp) (.int 4) = some (.bool (decide (dp < 4))) := rfl
  unfold restF
  by_cases c1 : dn < 300
  · obtain ⟨S2, a1, a2, a3, a4⟩ := hd c1
    by_cases c2 : dp < 4
    · obtain ⟨S3, E3, b1, b2, b3, b4, b5, b6⟩ := hw c2
      simp [f1, f2, fV, fC, fCons, fNil, fSeq, fSet, fRet, fIf, fNext, fNever, fAnd, fOr, fAndV, fOrV, fUnp, fPar, fSl, fChain, tgF, tgN, gTu, gLs, startR, defG, outV, on1, on2, gB, gNot, gNotV, gI, d1, w1, r1, n1, m1, p0, l1, u1, dn1, g1, c1, a1, a2, a3, a4, dp1, g2, c2, f0, b1, b2, b3, b4, b5, b6]
    · simp [f1, f2, fV, fC, fCons, fNil, fSeq, fSet, fRet, fIf, fNext, fNever, fAnd, fOr, fAndV, fOrV, fUnp, fPar, fSl, fChain, tgF, tgN, gTu, gLs, startR, defG, outV, on1, on2, gB, gNot, gNotV, gI, d1, w1, r1, n1, m1, p0, l1, u1, dn1, g1, c1, a1, a2, a3, a4, dp1, g2, c2]
  · by_cases c2 : dp < 4
    · obtain ⟨S3, E3, b1, b2, b3, b4, b5, b6⟩ := hw c2
      simp [f1, f2, fV, fC, fCons, fNil, fSeq, fSet, fRet, fIf, fNext, fNever, fAnd, fOr, fAndV, fOrV, fUnp, fPar, fSl, fChain, tgF, tgN, gTu, gLs, startR, defG, outV, on1, on2, gB, gNot, gNotV, gI, d1, w1, r1, n1, m1, p0, l1, u1, dn1, g1, c1, dp1, g2, c2, f0, b1, b2, b3, b4, b5, b6]
    · simp [f1, f2, fV, fC, fCons, fNil, fSeq, fSet, fRet, fIf, fNext, fNever, fAnd, fOr, fAndV, fOrV, fUnp, fPar, fSl, fChain, tgF, tgN, gTu, gLs, startR, defG, outV, on1, on2, gB, gNot, gNotV, gI, d1, w1, r1, n1, m1, p0, l1, u1, dn1, g1, c1, dp1, g2, c2]
end Arc
set_option Elab.async false
set_option linter.all false
set_option maxRecDepth 100000
set_option maxHeartbeats 1000000
set_option exponentiation.threshold 200
namespace Arc
open PySem L2
theorem shp_pair (S : List St1) (es : List En1) : SeqAt.shaped (.tuple [.list (S.map stD), .list (es.map enD)]) = true := by
  have h1 := lay_map stD 4 S fun s _ => lay_st s
  have h2 := lay_map enD 6 es fun e _ => lay_en e
  exact shp_of (by simp only [PyData.canLay0, PyData.canLayAll0, PyData.depth, PyData.depthAll, h1.1, h2.1]; exact ⟨by trivial, by omega⟩)
theorem ends_slen : ∀ (p : Prog) (n : Int) (F : Fm) (rs : List Nat), Lim p → ∀ e ∈ endsL p n F rs, e.2.2.2.length ≤ 720 := by
  intro p
  induction p with
  | nil => exact fun _ _ _ _ _ h => by cases h
  | pl r p ih => exact fun n F rs hl e he => ih _ _ _ hl e he
  | blk k q p ihq ihp =>
    intro n F rs hl e he
    simp only [endsL] at he
    rcases List.mem_append.mp he with h | h
    · cases k with
      | again t =>
        obtain ⟨j, hj, hx⟩ := flat_mem h
        exact ihq _ _ _ hl.2.2.1 e hx
      | keep => exact ihq _ _ _ hl.2.2.1 e h
      | ever =>
        have e1 : e = (beh (beh F (moveP q)) (und F), n, rs, stillL q (n + 1) F []) := by simpa using h
        subst e1
        exact Nat.le_trans (still_len _ _ _ _) hl.2.1
    · exact ihp _ _ _ hl.2.2.2 e h
theorem rest_ev {E : Nat} (hE0 : 0 < E) (hE : E ≤ 2 ^ 640) {p : Prog} (hp : Sound E p) (h4 : deepN p ≤ 4) (hrows : rowsN p ≤ 1000) {t : Str} (hw : written_G [.tuple (enc p)] = some (.str t)) (hr : read_G [.str t] = some (.tuple (enc p))) :
    restF [none, some (.tuple (enc p)), none, none, none, none, none] = some (.ret (.bool true)) := by
  have z0 : FB E 0 fst0 := FB.first hE0
  have hdn := hp.dn
  have dd := drawn_ev hE0 hE (p := p) (by omega) hp.all hp.lim hp.ev hdn
  have mm : move_G [.tuple (enc p)] = some (fmD (moveP p)) := move_ev hE0 hE 8 p (by omega) hp.all hp.lim (by omega)
  have nn : law_numbers_G [.tuple (enc p)] = some (.int (linesN p : Int)) := (lines_ev 8 p (by omega)).2.1
  have dn : law_done_G [.tuple (enc p)] = some (.int (doneN p : Int)) := (done_ev 8 p (by omega) hp.lim).2.1
  have dp : law_deep_G [.tuple (enc p)] = some (.int (deepN p : Int)) := law_deep_ev 8 p (by omega) (Nat.le_trans (enc_len p) (by omega)) (fun _ _ => trivial) (by omega)
  have fm := move_fb hE0 hp.all
  have l0 := fm.ledOk (p := (0, 0)) (k' := 0) (m := 0) (pb0 (.zero hE0) (.zero hE0)) hE (by omega) (Nat.zero_le _)
  have le := led_ev l0.1
  have l1 := still_len p 0 fst0 []
  have l2 := ends_len p hp.ev 0 fst0 []
  refine rest_core (Rd := .tuple (enc (appP p (.pl .dot .nil)))) dd hw hr (gNe_refl (shp_pair _ _)) mm le nn dn (fun hlt => ?_) dp first_ev (fun hlt => ?_)
  · have hdn2 : doneN p < 300 := by omega
    have hq : doneN (appP p (.pl .dot .nil)) = doneN p + 1 := done_app p (.pl .dot .nil)
    have hdeep : deepN (appP p (.pl .dot .nil)) = deepN p := by rw [deep_app]; show max (deepN p) 0 = deepN p; omega
    have d2 := drawn_ev hE0 hE (p := appP p (.pl .dot .nil)) (by omega) (all_app.mpr ⟨hp.all, trivial, trivial⟩) (lim_app.mpr ⟨hp.lim, trivial⟩) (ev_app.mpr ⟨hp.ev, trivial⟩) (by omega)
    have eS : stillL (appP p (.pl .dot .nil)) 0 fst0 [] = stillL p 0 fst0 [] ++ [(.dot (ledF (moveP p) (0, 0)), (linesN p : Int), [])] := by
      rw [still_app, first_beh, Int.zero_add]
      rfl
    have eE : endsL (appP p (.pl .dot .nil)) 0 fst0 [] = endsL p 0 fst0 [] := by
      rw [ends_app]
      show _ ++ [] = _
      rw [List.append_nil]
    rw [eE, eS] at d2
    refine ⟨.list ((stillL p 0 fst0 [] ++ [(Pc.dot (ledF (moveP p) (0, 0)), (linesN p : Int), [])]).map stD), ?_, ?_, d2, gNe_refl (shp_pair _ _)⟩
    · rw [enc_app]
      show (if (enc p).length + [plD Pl.dot].length ≤ 1000000 then some (PyData.tuple (enc p ++ [plD Pl.dot])) else none) = _
      rw [if_pos (by have := enc_len p; simp; omega)]
      rfl
    · show (if _ ≤ 1000000 then some (PyData.list (_ ++ _)) else none) = _
      rw [if_pos (by simp; omega), List.map_append]
      rfl
  · have ls := led_on_ev hE z0 1 (stillL p 0 fst0 []) (fun s hs q hq => still_pb hE0 p hp.all 0 fst0 [] 0 z0 (by omega) s hs q hq) (by omega) (by omega)
    have le2 := led_ends_ev hE z0 1 (endsL p 0 fst0 []) (T := 0 + doneN p) (fun e he => by
      have := ends_fb hE0 p hp.all 0 fst0 [] 0 z0 (by omega) e he
      exact ⟨this.1, this.2, Nat.le_trans (ends_slen p 0 fst0 [] hp.lim e he) (by decide)⟩) (by omega) (by omega)
    have hk : Sound E (.blk .keep p .nil) := ⟨by show max (1 + deepN p) 0 ≤ 5; omega, ⟨hp.all, trivial⟩, ⟨by decide, by omega, hp.lim, trivial⟩, ⟨trivial, hp.ev, trivial⟩, by show 1 * doneN p + 0 ≤ 300; omega⟩
    have dk := drawn_ev hE0 hE (p := .blk .keep p .nil) (by have := hk.dp; omega) hk.all hk.lim hk.ev hk.dn
    have mk : move_G [.tuple (enc (.blk .keep p .nil))] = some (fmD (moveP (.blk .keep p .nil))) := move_ev hE0 hE 8 _ (by have := hk.dp; omega) hk.all hk.lim (by have := hk.dn; omega)
    have em : moveP (.blk .keep p .nil) = fst0 := by show beh fst0 fst0 = fst0; exact beh_first _
    rw [em] at mk
    have eS : stillL (.blk .keep p .nil) 0 fst0 [] = (stillL p 0 fst0 []).map (ledS fst0 1) := by
      have h := still_led fst0 1 p 0 fst0 []
      rw [beh_first] at h
      show stillL p (0 + 1) fst0 [] ++ [] = _
      rw [List.append_nil, ← h]
      rfl
    have eE : endsL (.blk .keep p .nil) 0 fst0 [] = (endsL p 0 fst0 []).map (ledE fst0 1) := by
      have h := ends_led hE0 z0.pos 1 p hp.all 0 fst0 [] z0.pos
      rw [beh_first] at h
      show endsL p (0 + 1) fst0 [] ++ [] = _
      rw [List.append_nil, ← h]
      rfl
    rw [eS, eE] at dk
    exact ⟨_, _, ls, le2, dk, gEq_refl (shp_pair _ _), mk, gEq_refl (shp_fm _)⟩
end Arc
set_option Elab.async false
set_option linter.all false
set_option maxRecDepth 100000
set_option maxHeartbeats 1000000
set_option exponentiation.threshold 200
namespace Arc
open PySem L2 TL
/-! ## texts of numbers -/
def itx (n : Int) : Str := Str.ofString (toString n)
def numT (n : Int) : List Nat := if n < 0 then 45 :: numL n.natAbs else numL n.natAbs
theorem tl_itx (n : Int) : tl (itx n) = numT n := by
  unfold numT itx
  cases n with
  | ofNat m =>
    rw [if_neg (show ¬ (Int.ofNat m < 0) from fun h => by have : (m : Int) < 0 := h; omega)]
    exact tl_num m
  | negSucc m =>
    rw [if_pos (by omega)]
    have e : toString (Int.negSucc m) = "-" ++ toString ((((m + 1 : Nat)) : Int)) := rfl
    rw [e, tl_ofString, String.toList_append, List.map_append, ← tl_ofString (toString (((m + 1 : Nat)) : Int)), tl_num]
    rfl
def SS (l : List Nat) : Str := ⟨l.toArray⟩
theorem itx_S (n : Int) : itx n = SS (numT n) := by rw [← tl_itx]; exact (mk_tl _).symm
theorem SS_inj {a b : List Nat} : SS a = SS b ↔ a = b := ⟨fun h => congrArg (fun z : Str => z.cps.toList) h, fun h => by rw [h]⟩
theorem strOk_S {l : List Nat} (h : ∀ c ∈ l, c < 0x110000) : PyData.strOk (SS l) = true := by
  unfold PyData.strOk SS
  simp
  exact h
theorem gEq_S {a b : List Nat} (ha : ∀ c ∈ a, c < 0x110000) (hb : ∀ c ∈ b, c < 0x110000) : gEq (.str (SS a)) (.str (SS b)) = some (.bool (decide (a = b))) := by
  refine strE ?_
  rw [strOk_S ha, strOk_S hb]
  simp [SS_inj]
theorem gNe_S {a b : List Nat} (ha : ∀ c ∈ a, c < 0x110000) (hb : ∀ c ∈ b, c < 0x110000) : gNe (.str (SS a)) (.str (SS b)) = some (.bool (!decide (a = b))) := by
  refine strNE ?_
  rw [strOk_S ha, strOk_S hb]
  simp [SS_inj]
theorem len_S (l : List Nat) : (SS l).length = l.length := by
  unfold SS Str.length
  simp
theorem cut_take (l : List Nat) (h : l.length ≤ 1000000) : gSl (.str (SS l)) none (some 1) = some (.str (SS (l.take 1))) := by
  show (if (SS l).length ≤ 1000000 then some (PyData.str (cutS (SS l) none (some 1))) else none) = _
  rw [if_pos (by rw [len_S]; exact h)]
  unfold cutS
  have e : HT.sIx (SS l).length (SS l).length (some 1) = min 1 l.length := by
    rw [len_S]
    exact HT.sIx_nat _ _ 1
  rw [e]
  simp [HT.sIx, SS]
theorem cut_drop (l : List Nat) (h : l.length ≤ 1000000) (h1 : 1 ≤ l.length) : gSl (.str (SS l)) (some 1) none = some (.str (SS (l.drop 1))) := by
  show (if (SS l).length ≤ 1000000 then some (PyData.str (cutS (SS l) (some 1) none)) else none) = _
  rw [if_pos (by rw [len_S]; exact h)]
  unfold cutS
  have e : HT.sIx (SS l).length 0 (some 1) = 1 := by
    rw [len_S]
    have := HT.sIx_nat l.length 0 1
    rw [show ((1 : Nat) : Int) = 1 from rfl] at this
    rw [this]
    omega
  rw [e, HT.sIx_none, len_S]
  show some (PyData.str ⟨((l.drop 1).take (l.length - 1)).toArray⟩) = _
  rw [List.take_of_length_le (by simp)]
  rfl
/-! ## whole numbers read back -/
theorem all_digits (o0 o1 : Option PyData) : ∀ l : List Nat, NumText.AllDigits l → lcF (tgN 2) (fun _ => some true) (f2 gInSign (fV 2) (fC (.str "0123456789"))) [o0, o1, none] (l.map fun c => .str ⟨#[c]⟩) = some (l.map fun _ => .bool true)
  | [], _ => rfl
  | c :: l, h => by
    have ih := all_digits o0 o1 l (fun x hx => h x (by simp [hx]))
    have hc := h c (by simp)
    have hm : decide (c ∈ (Str.ofString "0123456789").cps.toList) = true := by
      have : (Str.ofString "0123456789").cps.toList = [48, 49, 50, 51, 52, 53, 54, 55, 56, 57] := by decide +kernel
      rw [this]
      simp
      omega
    have e : f2 gInSign (fV 2) (fC (.str "0123456789")) [o0, o1, some (.str ⟨#[c]⟩)] = some (.bool true) := by
      show some (PyData.bool (decide (c ∈ (Str.ofString "0123456789").cps.toList))) = _
      rw [hm]
    simp only [List.map_cons, lcF, tgN, List.set_cons_succ, List.set_cons_zero, Option.bind_some, if_true]
    rw [e]
    simp only [Option.bind_some]
    rw [if_pos (show imm (.bool true) = true from rfl)]
    rw [ih]
    rfl
theorem asBools_true {α : Type} : ∀ l : List α, (asBools (l.map fun _ => PyData.bool true)).map (fun bs => PyData.bool (bs.all id)) = some (.bool true)
  | [] => rfl
  | x :: l => by
    have ih := asBools_true l
    obtain ⟨bs, h1, h2⟩ := Option.map_eq_some_iff.mp ih
    show ((asBools (l.map fun _ => PyData.bool true)).map (true :: ·)).map _ = _
    rw [h1]
    have h3 : bs.all id = true := PyData.bool.inj h2
    show some (PyData.bool ((true :: bs).all id)) = _
    rw [List.all_cons, h3]
    rfl
/-- the signs of a text are figures -/
theorem figures_ok (o0 : Option PyData) {l : List Nat} (h : NumText.AllDigits l) (hl : l.length ≤ 1000000) : f1 (on1 gAll) (fCons (fLc [2] (tgN 2) (fun _ => some true) (f2 gInSign (fV 2) (fC (.str "0123456789"))) (f1 itS (fV 1))) fNil) [o0, some (.str (SS l)), none] = some (.bool true) := by
  have e : fLc [2] (tgN 2) (fun _ => some true) (f2 gInSign (fV 2) (fC (.str "0123456789"))) (f1 itS (fV 1)) [o0, some (.str (SS l)), none] = some (.list (l.map fun _ => .bool true)) := by
    show (if (signsD (SS l)).length ≤ 1000000 then (lcF (tgN 2) (fun _ => some true) (f2 gInSign (fV 2) (fC (.str "0123456789"))) [o0, some (.str (SS l)), none] (signsD (SS l))).map PyData.list else none) = _
    have hs : signsD (SS l) = l.map fun c => PyData.str ⟨#[c]⟩ := rfl
    rw [hs, if_pos (by rw [List.length_map]; exact hl), all_digits _ _ l h]
    rfl
  show ((fLc [2] (tgN 2) (fun _ => some true) (f2 gInSign (fV 2) (fC (.str "0123456789"))) (f1 itS (fV 1)) [o0, some (.str (SS l)), none]).bind _).bind _ = _
  rw [e]
  exact asBools_true l
end Arc
set_option Elab.async false
set_option linter.all false
set_option maxRecDepth 100000
set_option maxHeartbeats 1000000
set_option exponentiation.threshold 200
namespace Arc
open PySem L2 TL
theorem numL_head : ∀ n : Nat, 0 < n → ∃ c r, numL n = c :: r ∧ c ≠ 48 ∧ 48 ≤ c ∧ c ≤ 57 := by
  intro n
  induction n using Nat.strongRecOn with
  | _ n ih =>
    intro h
    by_cases h10 : n < 10
    · exact ⟨48 + n, [], numL_lt h10, by omega, by omega, by omega⟩
    · obtain ⟨c, r, e, h1, h2, h3⟩ := ih (n / 10) (by omega) (by omega)
      exact ⟨c, r ++ [48 + n % 10], by rw [numL_step (by omega), e]; rfl, h1, h2, h3⟩
theorem lit_minus : Str.ofString "-" = SS [45] := by decide +kernel
theorem lit_empty : Str.ofString "" = SS [] := by decide +kernel
theorem lit_zero : Str.ofString "0" = SS [48] := by decide +kernel
theorem lit_slash : Str.ofString "/" = SS [47] := by decide +kernel
theorem dig_ok {l : List Nat} (h : NumText.AllDigits l) : ∀ c ∈ l, c < 0x110000 := fun c hc => by
  have := h c hc
  omega
theorem gIx_S (c : Nat) (r : List Nat) (h : (c :: r).length ≤ 1000000) : gIx (.str (SS (c :: r))) (.int 0) = some (.str (SS [c])) := by
  show (if (SS (c :: r)).length ≤ 1000000 then (atI (c :: r) 0).map _ else none) = _
  rw [if_pos (by rw [len_S]; exact h), atI_zero]
  rfl
theorem whole_core {W Fg Hd H0 V : PyData} {b z : Bool} (a1 : gSl W none (some 1) = some Hd) (a2 : gEq Hd (.str (SS [45])) = some (.bool b)) (a3 : b = true → gSl W (some 1) none = some Fg) (a4 : b = false → Fg = W)
    (c1 : gEq Fg (.str (SS [])) = some (.bool false)) (c2 : f1 (on1 gAll) (fCons (fLc [2] (tgN 2) (fun _ => some true) (f2 gInSign (fV 2) (fC (.str "0123456789"))) (f1 itS (fV 1))) fNil) [some W, some Fg, none] = some (.bool true))
    (d1 : gIx Fg (.int 0) = some H0) (d2 : gEq H0 (.str (SS [48])) = some (.bool z)) (d3 : z = true → gNe W (.str (SS [48])) = some (.bool false)) (e : gIntS W = some V) : whole_in_G [W] = some V := by
  simp only [whole_in_G, F_whole_in, lit_minus, lit_empty, lit_zero]
  have hb : (fIf (f1 gB (f2 gEq (fSl (fV 0) (fun _ => some none) (f1 gI (fC (.int 1)))) (fC (.str (SS [45]))))) (fSet 1 (fSl (fV 0) (f1 gI (fC (.int 1))) (fun _ => some none))) fNext) [some W, some W, none] = some (.nxt [some W, some Fg, none]) := by
    cases b with
    | true => simp [f1, f2, fV, fC, fCons, fNil, fSeq, fSet, fRet, fIf, fNext, fAnd, fOr, fSl, startR, defG, outV, on1, gB, gNot, gI, a1, a2, a3 rfl]
    | false =>
      have := a4 rfl
      subst this
      simp [f1, f2, fV, fC, fCons, fNil, fSeq, fSet, fRet, fIf, fNext, fAnd, fOr, fSl, startR, defG, outV, on1, gB, gNot, gI, a1, a2]
  have hc : (fIf (fOr (f1 gB (f2 gEq (fV 1) (fC (.str (SS []))))) (f1 gNot (f1 gB (f1 (on1 gAll) (fCons (fLc [2] (tgN 2) (fun _ => some true) (f2 gInSign (fV 2) (fC (.str "0123456789"))) (f1 itS (fV 1))) fNil))))) (fRet (fC .none)) fNext) [some W, some Fg, none] = some (.nxt [some W, some Fg, none]) := by
    have t1 : f1 gB (f2 gEq (fV 1) (fC (.str (SS [])))) [some W, some Fg, none] = some false := by simp [f1, f2, fV, fC, fCons, fNil, fSeq, fSet, fRet, fIf, fNext, fAnd, fOr, fSl, startR, defG, outV, on1, gB, gNot, gI, c1]
    have t2 : f1 gNot (f1 gB (f1 (on1 gAll) (fCons (fLc [2] (tgN 2) (fun _ => some true) (f2 gInSign (fV 2) (fC (.str "0123456789"))) (f1 itS (fV 1))) fNil))) [some W, some Fg, none] = some false := by
      show (((f1 (on1 gAll) (fCons (fLc [2] (tgN 2) (fun _ => some true) (f2 gInSign (fV 2) (fC (.str "0123456789"))) (f1 itS (fV 1))) fNil) [some W, some Fg, none]).bind gB).bind gNot) = _
      rw [c2]
      rfl
    unfold fIf fOr
    rw [t1]
    simp only [Option.bind_some, Bool.false_eq_true, if_false]
    rw [t2]
    rfl
  have hd : (fIf (fAnd (f1 gB (f2 gEq (f2 gIx (fV 1) (fC (.int 0))) (fC (.str (SS [48]))))) (f1 gB (f2 gNe (fV 0) (fC (.str (SS [48])))))) (fRet (fC .none)) fNext) [some W, some Fg, none] = some (.nxt [some W, some Fg, none]) := by
    cases z with
    | true => simp [f1, f2, fV, fC, fCons, fNil, fSeq, fSet, fRet, fIf, fNext, fAnd, fOr, fSl, startR, defG, outV, on1, gB, gNot, gI, d1, d2, d3 rfl]
    | false => simp [f1, f2, fV, fC, fCons, fNil, fSeq, fSet, fRet, fIf, fNext, fAnd, fOr, fSl, startR, defG, outV, on1, gB, gNot, gI, d1, d2]
  show outV (fSeq (fSet 1 (fV 0)) _ [some W, none, none]) = _
  rw [fSeq_nxt (ρ' := [some W, some W, none]) rfl, fSeq_nxt hb, fSeq_nxt hc, fSeq_nxt hd]
  show outV (((gIntS W)).map .ret) = _
  rw [e]
  rfl
theorem whole_ev {n : Int} (hl : (numT n).length ≤ 640) : whole_in_G [.str (itx n)] = some (.int n) := by
  rw [itx_S]
  have en : numT n = if n < 0 then 45 :: numL n.natAbs else numL n.natAbs := rfl
  by_cases hn : n < 0
  · obtain ⟨c, r, e, h1, h2, h3⟩ := numL_head n.natAbs (by omega)
    have hd := numL_digits n.natAbs
    rw [if_pos hn, e] at en
    rw [e] at hd
    rw [en] at hl ⊢
    simp only [List.length_cons] at hl
    have k := dig_ok hd
    have k2 : ∀ x ∈ (45 :: c :: r), x < 0x110000 := fun x hx => by
      rcases List.mem_cons.mp hx with z | z
      · omega
      · exact k x z
    have hi := PySem.intText_neg (x := SS (45 :: c :: r)) (cs := c :: r) rfl hd (by simp) (by rw [len_S]; simp; omega)
    have hv : -((NumText.digitsVal (c :: r) : Nat) : Int) = n := by rw [← e, numL_val]; omega
    rw [hv] at hi
    refine whole_core (Fg := .str (SS (c :: r))) (b := true) (z := false) (cut_take _ (by simp; omega)) ?_ (fun _ => cut_drop _ (by simp; omega) (by simp)) (fun h => by cases h) ?_ (figures_ok _ hd (by simp; omega)) (gIx_S c r (by simp; omega)) ?_ (fun h => by cases h) ?_
    · rw [gEq_S (by simp) (by simp)]
      simp
    · rw [gEq_S k (by simp), decide_eq_false (by simp)]
    · rw [gEq_S (by simp; omega) (by simp), decide_eq_false (by simp; omega)]
    · show (if (SS (45 :: c :: r)).length ≤ 640 then (intText? (SS (45 :: c :: r))).map PyData.int else none) = _
      rw [if_pos (by rw [len_S]; simp; omega), hi]
      rfl
  · have hd := numL_digits n.natAbs
    rw [if_neg hn] at en
    rw [en] at hl ⊢
    have k := dig_ok hd
    obtain ⟨c, r, e, h2, h3, h4⟩ : ∃ c r, numL n.natAbs = c :: r ∧ 48 ≤ c ∧ c ≤ 57 ∧ (c = 48 → r = []) := by
      by_cases h0 : n.natAbs = 0
      · exact ⟨48, [], by rw [h0]; exact numL_lt (by decide), by omega, by omega, fun _ => rfl⟩
      · obtain ⟨c, r, e, h1, h2, h3⟩ := numL_head n.natAbs (by omega)
        exact ⟨c, r, e, h2, h3, fun z => absurd z h1⟩
    have hv : ((NumText.digitsVal (c :: r) : Nat) : Int) = n := by rw [← e, numL_val]; omega
    rw [e] at hd hl k ⊢
    simp only [List.length_cons] at hl
    have hi := PySem.intText_digits (x := SS (c :: r)) hd (by simp [SS]) (by rw [len_S]; simp; omega)
    have hv2 : intText? (SS (c :: r)) = some n := by
      rw [hi]
      exact congrArg some hv
    refine whole_core (Fg := .str (SS (c :: r))) (b := false) (z := decide (c = 48)) (cut_take _ (by simp; omega)) ?_ (fun h => by cases h) (fun _ => rfl) ?_ (figures_ok _ hd (by simp; omega)) (gIx_S c r (by simp; omega)) ?_ (fun h => ?_) ?_
    · rw [gEq_S (fun x hx => k x (List.mem_of_mem_take hx)) (by simp), decide_eq_false (by simp; omega)]
    · rw [gEq_S k (by simp), decide_eq_false (by simp)]
    · rw [gEq_S (by simp; omega) (by simp)]
      simp
    · have hc := of_decide_eq_true h
      have hr := h4 hc
      subst hr hc
      rw [gNe_S (by simp) (by simp)]
      simp
    · show (if (SS (c :: r)).length ≤ 640 then (intText? (SS (c :: r))).map PyData.int else none) = _
      rw [if_pos (by rw [len_S]; simp; omega), hv2]
      rfl
end Arc
set_option Elab.async false
set_option linter.all false
set_option maxRecDepth 100000
set_option maxHeartbeats 1000000
set_option exponentiation.threshold 200
namespace Arc
open PySem L2 TL
/-! ## fractions read back -/
/-- a number of few figures -/
def Few (n : Int) : Prop := n.natAbs < 10 ^ 30
theorem Few.len {n : Int} (h : Few n) : (numT n).length ≤ 31 := by
  have := numL_len (n := n.natAbs) (k := 30) (by decide) h
  unfold numT
  split
  · simp
    omega
  · omega
theorem gStr_ev {n : Int} (h : Few n) : gStr (.int n) = some (.str (itx n)) := by
  have hl : n.natAbs.log2 < 1920 := by
    by_cases z : n.natAbs = 0
    · rw [z]; decide +kernel
    · rw [Nat.log2_lt z]
      exact Nat.lt_trans h (Nat.lt_of_lt_of_le (by decide : 10 ^ 30 < 2 ^ 100) (Nat.pow_le_pow_right (by decide) (by decide)))
  show (if n.natAbs.log2 < 1920 then some (PyData.str (toString n)) else none) = _
  rw [if_pos hl]
  rfl
def frT (r : Rat) : Str := if r.den = 1 then itx r.num else itx r.num ++ Str.ofString "/" ++ itx r.den
def FewR (r : Rat) : Prop := Few r.num ∧ Few (r.den : Int)
theorem isi_fr (r : Rat) : gIsi "int" (fr r) = some (.bool false) := by rfl
theorem cat_S {a b : Str} (h : a.length + b.length ≤ 1000000) : gCatS (.str a) (.str b) = some (.str (a ++ b)) := by
  show (if a.length + b.length ≤ 1000000 then _ else none) = _
  rw [if_pos h]
theorem len_itx {n : Int} (h : Few n) : (itx n).length ≤ 31 := by
  rw [itx_S, len_S]
  exact h.len
theorem text_fr {r : Rat} (h : FewR r) : number_text_G [fr r] = some (.str (frT r)) := by
  have g0 : gIx (fr r) (.int 0) = some (.int r.num) := rfl
  have g1 : gIx (fr r) (.int 1) = some (.int r.den) := rfl
  have s0 := gStr_ev h.1
  have s1 := gStr_ev h.2
  have l0 := len_itx h.1
  have l1 := len_itx h.2
  have ls : (Str.ofString "/").length = 1 := by decide +kernel
  have c1 := cat_S (a := itx r.num) (b := Str.ofString "/") (by omega)
  have la : (itx r.num ++ Str.ofString "/").length = (itx r.num).length + 1 := by rw [len_tl, tl_append, List.length_append, ← len_tl, ← len_tl, ls]
  have c2 := cat_S (a := itx r.num ++ Str.ofString "/") (b := itx r.den) (by omega)
  have e1 := gEq_int (r.den : Int) 1
  simp only [number_text_G, F_number_text]
  unfold frT
  by_cases c : r.den = 1
  · have c' : ((r.den : Int) = 1) := by omega
    have e2 : gEq (.int 1) (.int 1) = some (.bool true) := gEq_int 1 1
    simp [f1, f2, fV, fC, fCons, fNil, fSeq, fSet, fRet, fIf, fNext, fNever, fAnd, fOr, fAndV, fOrV, fUnp, fPar, fSl, fChain, tgF, tgN, gTu, gLs, startR, defG, outV, on1, on2, gB, gNot, gNotV, gI, isi_fr, g0, g1, e2, s0, c]
  · have c' : ¬ ((r.den : Int) = 1) := by omega
    rw [decide_eq_false c'] at e1
    simp [f1, f2, fV, fC, fCons, fNil, fSeq, fSet, fRet, fIf, fNext, fNever, fAnd, fOr, fAndV, fOrV, fUnp, fPar, fSl, fChain, tgF, tgN, gTu, gLs, startR, defG, outV, on1, on2, gB, gNot, gNotV, gI, isi_fr, g0, g1, e1, s0, s1, c1, c2, c]
theorem text_int {n : Int} (h : Few n) : number_text_G [.int n] = some (.str (itx n)) := by
  have s0 := gStr_ev h
  have e : gIsi "int" (.int n) = some (.bool true) := rfl
  simp only [number_text_G, F_number_text]
  simp [f1, f2, fV, fC, fCons, fNil, fSeq, fSet, fRet, fIf, fNext, fNever, fAnd, fOr, fAndV, fOrV, fUnp, fPar, fSl, fChain, tgF, tgN, gTu, gLs, startR, defG, outV, on1, on2, gB, gNot, gNotV, gI, e, s0]
end Arc
set_option Elab.async false
set_option linter.all false
set_option maxRecDepth 100000
set_option maxHeartbeats 1000000
set_option exponentiation.threshold 200
namespace Arc
open PySem L2 TL
theorem no_slash (n : Int) : 47 ∉ tl (itx n) := by
  rw [tl_itx]
  unfold numT
  have h : 47 ∉ numL n.natAbs := numL_free (by omega)
  split
  · simp
    exact h
  · exact h
theorem tl_slash : tl (Str.ofString "/") = 47 :: [] := by decide +kernel
theorem whole_few {n : Int} (h : Few n) : whole_in_G [.str (itx n)] = some (.int n) := whole_ev (by have := h.len; omega)
theorem gcd_red (r : Rat) : Int.gcd r.num (r.den : Int) = 1 := by
  have := r.reduced
  unfold Nat.Coprime at this
  unfold Int.gcd
  simpa using this
theorem frac_core {W P M B : PyData} {x : Int} {y : Int} {m : Bool} (p1 : gPart W (.str "/") = some (.tuple [P, M, B])) (f1' : whole_in_G [P] = some (.int x)) (m1 : gNe M (.str "") = some (.bool m)) (b1 : m = true → whole_in_G [B] = some (.int y)) (b2 : m = false → y = 1)
    (h1 : 1 ≤ y) (h2 : m = true → y ≠ 1) (h3 : Int.gcd x y = 1) : fraction_in_G [W] = some (.tuple [.int x, .int y]) := by
  have i1 : ∀ z : Int, gIsN (.int z) .none = some (.bool false) := fun _ => rfl
  have l1 : gLt (.int y) (.int 1) = some (.bool false) := by
    show some (PyData.bool (decide (y < 1))) = _
    rw [decide_eq_false (by omega)]
  have e1 := gEq_int y 1
  have dv := divisor_ev x y
  rw [h3] at dv
  have n1 : gNe (.int 1) (.int 1) = some (.bool false) := gNe_int 1 1
  have dv2 : divisor_G [.int x, .int y] = some (.int 1) := dv
  simp only [fraction_in_G, F_fraction_in]
  cases m with
  | true =>
    have hy : ¬ y = 1 := h2 rfl
    rw [decide_eq_false hy] at e1
    simp [f1, f2, fV, fC, fCons, fNil, fSeq, fSet, fRet, fIf, fNext, fNever, fAnd, fOr, fAndV, fOrV, fUnp, fPar, fSl, fChain, tgF, tgN, gTu, gLs, startR, defG, outV, on1, on2, gB, gNot, gNotV, gI, p1, f1', m1, b1 rfl, i1, l1, e1, dv2, n1]
  | false =>
    have hy := b2 rfl
    subst hy
    have e2 : gEq (.int 1) (.int 1) = some (.bool true) := gEq_int 1 1
    simp [f1, f2, fV, fC, fCons, fNil, fSeq, fSet, fRet, fIf, fNext, fNever, fAnd, fOr, fAndV, fOrV, fUnp, fPar, fSl, fChain, tgF, tgN, gTu, gLs, startR, defG, outV, on1, on2, gB, gNot, gNotV, gI, p1, f1', m1, i1, l1, e2, dv2, n1]
theorem gPart_ev {a b : Str} (hb : (b.length == 0) = false) (ha : a.length ≤ 1000000) : gPart (.str a) (.str b) = some (.tuple [.str (Txt.partition a b).1, .str (Txt.partition a b).2.1, .str (Txt.partition a b).2.2]) := by
  show (if (b.length == 0) = false ∧ a.length ≤ 1000000 then _ else none) = _
  rw [if_pos ⟨hb, ha⟩]
theorem empty_ne : gNe (.str Str.empty) (.str (Str.ofString "")) = some (.bool false) := strNE (by decide +kernel)
theorem slash_ne : gNe (.str (Str.ofString "/")) (.str (Str.ofString "")) = some (.bool true) := strNE (by decide +kernel)
theorem len_slash : ((Str.ofString "/").length == 0) = false := by decide +kernel
theorem fraction_ev {r : Rat} (h : FewR r) : fraction_in_G [.str (frT r)] = some (fr r) := by
  have l0 := len_itx h.1
  have l1 := len_itx h.2
  have ls : (Str.ofString "/").length = 1 := by decide +kernel
  unfold frT
  by_cases c : r.den = 1
  · rw [if_pos c]
    have p1 := gPart_ev (a := itx r.num) (b := Str.ofString "/") len_slash (by omega)
    rw [partition_none tl_slash (no_slash r.num)] at p1
    have e : fr r = .tuple [.int r.num, .int 1] := by
      unfold fr
      rw [c]
      rfl
    rw [e]
    have hg := gcd_red r
    rw [c] at hg
    refine frac_core (m := false) p1 (whole_few h.1) ?_ (fun z => by cases z) (fun _ => rfl) (by decide) (fun z => by cases z) hg
    exact empty_ne
  · rw [if_neg c]
    have la : (itx r.num ++ Str.ofString "/" ++ itx r.den).length ≤ 1000000 := by
      rw [len_tl, tl_append, tl_append, List.length_append, List.length_append, ← len_tl, ← len_tl, ← len_tl]
      omega
    have p1 := gPart_ev (a := itx r.num ++ Str.ofString "/" ++ itx r.den) (b := Str.ofString "/") len_slash la
    rw [partition_app tl_slash (no_slash r.num)] at p1
    have hp := r.den_pos
    refine frac_core (m := true) p1 (whole_few h.1) slash_ne (fun _ => whole_few h.2) (fun z => by cases z) (by omega) (fun _ => by omega) (gcd_red r)
end Arc
set_option Elab.async false
set_option linter.all false
set_option maxRecDepth 100000
set_option maxHeartbeats 1000000
set_option exponentiation.threshold 200
namespace Arc
open PySem L2 TL
/-! ## lines -/
def plF : Pl → List Rat
  | .go a => [a]
  | .skip a => [a]
  | .side a b => [a, b]
  | .grow a => [a]
  | .quarter a => [a]
  | .half a => [a]
  | .arc a b c d => [a, b, c, d]
  | _ => []
theorem plD_eq (r : Pl) : plD r = .tuple (.str (wordP r) :: (plF r).map fr) := by cases r <;> rfl
def FewP (r : Pl) : Prop := ∀ a ∈ plF r, FewR a
theorem imm_str (z : Str) : imm (.str z) = true := rfl
theorem texts_lc {i : Nat} (F : Rho → Option PyData) {ρ : Rho} (hF : ∀ a : Rat, FewR a → F (ρ.set i (some (fr a))) = some (.str (frT a))) : ∀ (l : List Rat), (∀ a ∈ l, FewR a) → lcF (tgN i) (fun _ => some true) F ρ (l.map fr) = some ((l.map frT).map .str)
  | [], _ => rfl
  | a :: l, h => by
    have ih := texts_lc F hF l (fun x hx => h x (by simp [hx]))
    simp only [List.map_cons, lcF, tgN, Option.bind_some, if_true]
    rw [hF a (h a (by simp))]
    simp only [Option.bind_some]
    rw [if_pos (imm_str _), ih]
    rfl
theorem asStrs_map : ∀ l : List Str, asStrs (l.map .str) = some l
  | [] => rfl
  | a :: l => by
    show (asStrs (l.map .str)).map (a :: ·) = _
    rw [asStrs_map l]
    rfl
theorem join_ev {a : Str} {l : List Str} (h : (l.map (·.length)).sum + l.length * a.length ≤ 16777216) : gJoin (.str a) (.list (l.map .str)) = some (.str (Txt.join a l)) := by
  show ((asStrs (l.map .str)).bind _) = _
  rw [asStrs_map]
  show (if (l.map (·.length)).sum + l.length * a.length ≤ 16777216 then _ else none) = _
  rw [if_pos h]
theorem frT_len {r : Rat} (h : FewR r) : (frT r).length ≤ 63 := by
  have l0 := len_itx h.1
  have l1 := len_itx h.2
  have ls : (Str.ofString "/").length = 1 := by decide +kernel
  unfold frT
  split
  · omega
  · rw [len_tl, tl_append, tl_append, List.length_append, List.length_append, ← len_tl, ← len_tl, ← len_tl]
    omega
theorem word_len (r : Pl) : (wordP r).length ≤ 7 := by
  cases r
  all_goals (first | (show (Str.ofString "go").length ≤ 7; decide +kernel) | (show (Str.ofString "skip").length ≤ 7; decide +kernel) | (show (Str.ofString "side").length ≤ 7; decide +kernel) | (show (Str.ofString "dot").length ≤ 7; decide +kernel) | (show (Str.ofString "left").length ≤ 7; decide +kernel) | (show (Str.ofString "right").length ≤ 7; decide +kernel) | (show (Str.ofString "round").length ≤ 7; decide +kernel) | (show (Str.ofString "mirror").length ≤ 7; decide +kernel) | (show (Str.ofString "grow").length ≤ 7; decide +kernel) | (show (Str.ofString "quarter").length ≤ 7; decide +kernel) | (show (Str.ofString "half").length ≤ 7; decide +kernel) | (show (Str.ofString "arc").length ≤ 7; decide +kernel))
def lineP (r : Pl) : Str := Txt.join (Str.ofString " ") (wordP r :: (plF r).map frT)
theorem sum_le {α : Type} (f : α → Nat) (c : Nat) : ∀ l : List α, (∀ x ∈ l, f x ≤ c) → (l.map f).sum ≤ l.length * c
  | [], _ => by simp
  | x :: l, h => by
    have h1 := h x (by simp)
    have h2 := sum_le f c l fun y hy => h y (by simp [hy])
    simp only [List.map_cons, List.sum_cons, List.length_cons, Nat.succ_mul]
    omega
theorem plF_len (r : Pl) : (plF r).length ≤ 4 := by cases r <;> simp [plF]
theorem sp_len : (Str.ofString " ").length = 1 := by decide +kernel
theorem lnRow_pl {g : List PyData → Option PyData} {r : Pl} (h : FewP r) : lnRow g (plD r) = some [lineP r] := by
  have hp : lnParts g (plD r) = some (plD r, []) := by
    have e : f1 gB (blkF 2) (rho2 (plD r) none) = some false := by
      simp [f1, f2, fV, fC, fCons, fNil, fSeq, fSet, fRet, fIf, fNext, fNever, fAnd, fOr, fAndV, fOrV, fUnp, fPar, fSl, fChain, tgF, tgN, gTu, gLs, startR, defG, outV, on1, on2, gB, gNot, gNotV, gI, blkF, rho2, w0P, inP_tuple]
    unfold lnParts
    rw [e]
    rfl
  have hs : gSl (plD r) (some 1) none = some (.tuple ((plF r).map fr)) := by
    rw [plD_eq]
    show some (PyData.tuple (cutL (.str (wordP r) :: (plF r).map fr) (some ((1 : Nat) : Int)) none)) = _
    rw [cutL_drop _ 1 (by simp)]
    rfl
  have hF : ∀ a : Rat, FewR a → f1 number_text_G (fCons (fV 5) fNil) ((wipeR (rho2 (plD r) (some (plD r))) [5]).set 5 (some (fr a))) = some (.str (frT a)) := fun a ha => text_fr ha
  have hlc := texts_lc _ hF (plF r) h
  have hl : fLc [5] (tgN 5) (fun _ => some true) (f1 number_text_G (fCons (fV 5) fNil)) (f1 itT (fSl (fV 3) (f1 gI (fC (.int 1))) (fun _ => some none))) (rho2 (plD r) (some (plD r))) = some (.list (((plF r).map frT).map .str)) := by
    have e1 : f1 itT (fSl (fV 3) (f1 gI (fC (.int 1))) (fun _ => some none)) (rho2 (plD r) (some (plD r))) = some ((plF r).map fr) := by
      show ((gSl (plD r) (some 1) none).bind itT) = _
      rw [hs]
      rfl
    unfold fLc
    rw [e1]
    show (if ((plF r).map fr).length ≤ 1000000 then _ else none) = _
    rw [if_pos (by rw [List.length_map]; have := plF_len r; omega), hlc]
    rfl
  have hcat : gCatL (.list [.str (wordP r)]) (.list (((plF r).map frT).map .str)) = some (.list ((wordP r :: (plF r).map frT).map .str)) := by
    show (if _ ≤ 1000000 then some (PyData.list (_ ++ _)) else none) = _
    rw [if_pos (by have := plF_len r; simp; omega)]
    rfl
  have hj := join_ev (a := Str.ofString " ") (l := wordP r :: (plF r).map frT) (by
    have h1 := sum_le (fun z : Str => z.length) 63 (wordP r :: (plF r).map frT) (fun x hx => by
      rcases List.mem_cons.mp hx with z | z
      · rw [z]
        have := word_len r
        omega
      · obtain ⟨a, ha, rfl⟩ := List.mem_map.mp z
        exact frT_len (h a ha))
    have h2 := plF_len r
    rw [sp_len]
    simp only [List.length_cons, List.length_map] at h1 ⊢
    omega)
  have hln : lnLine (rho2 (plD r) (some (plD r))) = some (.str (lineP r)) := by
    unfold lnLine
    show ((f2 gCatL (f1 gLs (fCons (f2 gIx (fV 2) (fC (.int 0))) fNil)) _ (rho2 (plD r) (some (plD r)))).bind _) = _
    have e2 : f1 gLs (fCons (f2 gIx (fV 2) (fC (.int 0))) fNil) (rho2 (plD r) (some (plD r))) = some (.list [.str (wordP r)]) := by
      show (((gIx (plD r) (.int 0)).bind _).bind gLs) = _
      rw [w0P]
      rfl
    have e3 : f2 gCatL (f1 gLs (fCons (f2 gIx (fV 2) (fC (.int 0))) fNil)) (fLc [5] (tgN 5) (fun _ => some true) (f1 number_text_G (fCons (fV 5) fNil)) (f1 itT (fSl (fV 3) (f1 gI (fC (.int 1))) (fun _ => some none)))) (rho2 (plD r) (some (plD r))) = some (.list ((wordP r :: (plF r).map frT).map .str)) := by
      show ((f1 gLs (fCons (f2 gIx (fV 2) (fC (.int 0))) fNil) (rho2 (plD r) (some (plD r)))).bind fun a => (fLc [5] (tgN 5) (fun _ => some true) (f1 number_text_G (fCons (fV 5) fNil)) (f1 itT (fSl (fV 3) (f1 gI (fC (.int 1))) (fun _ => some none))) (rho2 (plD r) (some (plD r)))).bind fun b => gCatL a b) = _
      rw [e2, hl]
      exact hcat
    rw [e3]
    exact hj
  unfold lnRow
  rw [hp]
  show ((lnLine (rho2 (plD r) (some (plD r)))).bind strO).map _ = _
  rw [hln]
  rfl
end Arc
set_option Elab.async false
set_option linter.all false
set_option maxRecDepth 100000
set_option maxHeartbeats 1000000
set_option exponentiation.threshold 200
namespace Arc
open PySem L2 TL
/-! ## the lines of a program -/
def numsK : Kd → List Int
  | .again n => [(n : Int)]
  | _ => []
def headD (k : Kd) : PyData := .tuple (.str (wordK k) :: (numsK k).map .int)
def lineK0 (k : Kd) : Str := Txt.join (Str.ofString " ") (wordK k :: (numsK k).map itx)
def linesP : Prog → List Str
  | .nil => []
  | .pl r p => lineP r :: linesP p
  | .blk k b p => (lineK0 k :: linesP b ++ [Str.ofString "end"]) ++ linesP p
def FewG : Prog → Prop
  | .nil => True
  | .pl r p => FewP r ∧ FewG p
  | .blk _ b p => FewG b ∧ FewG p
theorem linesP_len : ∀ p : Prog, (linesP p).length = linesN p
  | .nil => rfl
  | .pl r p => by
    have := linesP_len p
    show (linesP p).length + 1 = 1 + linesN p
    omega
  | .blk k b p => by
    have h1 := linesP_len b
    have h2 := linesP_len p
    simp only [linesP, linesN, List.length_append, List.length_cons, List.length_nil]
    omega
theorem head_ev (k : Kd) (l : List PyData) (h : Option PyData) : lnHead (rho2 (blkD k l) h) = some (headD k) := by
  cases k <;> rfl
theorem more_ev {g : List PyData → Option PyData} (k : Kd) (l : List PyData) (h : Option PyData) : lnMore g (rho2 (blkD k l) h) = g [.tuple l] := by
  obtain ⟨z1, z2, e1, e2, e3⟩ := last3K k l
  unfold lnMore lastF
  simp [f1, f2, fV, fC, fCons, fNil, fSeq, fSet, fRet, fIf, fNext, fNever, fAnd, fOr, fAndV, fOrV, fUnp, fPar, fSl, fChain, tgF, tgN, gTu, gLs, startR, defG, outV, on1, on2, gB, gNot, gNotV, gI, rho2, e1, e2, e3]
theorem few_n {n : Nat} (h : n ≤ 12) : Few (n : Int) := by
  unfold Few
  exact Nat.lt_of_le_of_lt (show (n : Int).natAbs ≤ 12 by omega) (by decide)
theorem nums_lc {i : Nat} (F : Rho → Option PyData) {ρ : Rho} (hF : ∀ a : Int, Few a → F (ρ.set i (some (.int a))) = some (.str (itx a))) : ∀ (l : List Int), (∀ a ∈ l, Few a) → lcF (tgN i) (fun _ => some true) F ρ (l.map .int) = some ((l.map itx).map .str)
  | [], _ => rfl
  | a :: l, h => by
    have ih := nums_lc F hF l (fun x hx => h x (by simp [hx]))
    simp only [List.map_cons, lcF, tgN, Option.bind_some, if_true]
    rw [hF a (h a (by simp))]
    simp only [Option.bind_some]
    rw [if_pos (imm_str _), ih]
    rfl
theorem wordK_len : ∀ k : Kd, (wordK k).length ≤ 7
  | .again _ => by show (Str.ofString "again").length ≤ 7; decide +kernel
  | .keep => by show (Str.ofString "keep").length ≤ 7; decide +kernel
  | .ever => by show (Str.ofString "ever").length ≤ 7; decide +kernel
theorem nums_few {k : Kd} (h : timesK k ≤ 12) : ∀ a ∈ numsK k, Few a := by
  intro a ha
  cases k with
  | again n =>
    have : a = (n : Int) := by simpa [numsK] using ha
    subst this
    exact few_n h
  | keep => cases ha
  | ever => cases ha
theorem nums_len (k : Kd) : (numsK k).length ≤ 1 := by cases k <;> simp [numsK]
theorem lnLine_bl {k : Kd} {l : List PyData} (h : timesK k ≤ 12) : lnLine (rho2 (blkD k l) (some (headD k))) = some (.str (lineK0 k)) := by
  have hF : ∀ a : Int, Few a → f1 number_text_G (fCons (fV 5) fNil) ((wipeR (rho2 (blkD k l) (some (headD k))) [5]).set 5 (some (.int a))) = some (.str (itx a)) := fun a ha => text_int ha
  have hlc := nums_lc _ hF (numsK k) (nums_few h)
  have hs : gSl (headD k) (some 1) none = some (.tuple ((numsK k).map .int)) := by
    show some (PyData.tuple (cutL (.str (wordK k) :: (numsK k).map .int) (some ((1 : Nat) : Int)) none)) = _
    rw [cutL_drop _ 1 (by simp)]
    rfl
  have hl : fLc [5] (tgN 5) (fun _ => some true) (f1 number_text_G (fCons (fV 5) fNil)) (f1 itT (fSl (fV 3) (f1 gI (fC (.int 1))) (fun _ => some none))) (rho2 (blkD k l) (some (headD k))) = some (.list (((numsK k).map itx).map .str)) := by
    have e1 : f1 itT (fSl (fV 3) (f1 gI (fC (.int 1))) (fun _ => some none)) (rho2 (blkD k l) (some (headD k))) = some ((numsK k).map .int) := by
      show ((gSl (headD k) (some 1) none).bind itT) = _
      rw [hs]
      rfl
    unfold fLc
    rw [e1]
    show (if ((numsK k).map PyData.int).length ≤ 1000000 then _ else none) = _
    rw [if_pos (by rw [List.length_map]; have := nums_len k; omega), hlc]
    rfl
  have hcat : gCatL (.list [.str (wordK k)]) (.list (((numsK k).map itx).map .str)) = some (.list ((wordK k :: (numsK k).map itx).map .str)) := by
    show (if _ ≤ 1000000 then some (PyData.list (_ ++ _)) else none) = _
    rw [if_pos (by have := nums_len k; simp; omega)]
    rfl
  have hj := join_ev (a := Str.ofString " ") (l := wordK k :: (numsK k).map itx) (by
    have h1 := sum_le (fun z : Str => z.length) 63 (wordK k :: (numsK k).map itx) (fun x hx => by
      rcases List.mem_cons.mp hx with z | z
      · rw [z]
        have := wordK_len k
        omega
      · obtain ⟨a, ha, rfl⟩ := List.mem_map.mp z
        have := len_itx (nums_few h a ha)
        omega)
    have h2 := nums_len k
    rw [sp_len]
    simp only [List.length_cons, List.length_map] at h1 ⊢
    omega)
  have e2 : f1 gLs (fCons (f2 gIx (fV 2) (fC (.int 0))) fNil) (rho2 (blkD k l) (some (headD k))) = some (.list [.str (wordK k)]) := by
    show (((gIx (blkD k l) (.int 0)).bind _).bind gLs) = _
    rw [w0K]
    rfl
  have e3 : f2 gCatL (f1 gLs (fCons (f2 gIx (fV 2) (fC (.int 0))) fNil)) (fLc [5] (tgN 5) (fun _ => some true) (f1 number_text_G (fCons (fV 5) fNil)) (f1 itT (fSl (fV 3) (f1 gI (fC (.int 1))) (fun _ => some none)))) (rho2 (blkD k l) (some (headD k))) = some (.list ((wordK k :: (numsK k).map itx).map .str)) := by
    show ((f1 gLs (fCons (f2 gIx (fV 2) (fC (.int 0))) fNil) (rho2 (blkD k l) (some (headD k)))).bind fun a => (fLc [5] (tgN 5) (fun _ => some true) (f1 number_text_G (fCons (fV 5) fNil)) (f1 itT (fSl (fV 3) (f1 gI (fC (.int 1))) (fun _ => some none))) (rho2 (blkD k l) (some (headD k)))).bind fun b => gCatL a b) = _
    rw [e2, hl]
    exact hcat
  unfold lnLine
  show ((f2 gCatL (f1 gLs (fCons (f2 gIx (fV 2) (fC (.int 0))) fNil)) _ (rho2 (blkD k l) (some (headD k)))).bind _) = _
  rw [e3]
  exact hj
theorem strL_ev (l : List Str) : strL (.list (strsD l)) = some l := asStrs_map l
theorem lnRow_bl {g : List PyData → Option PyData} {k : Kd} {b : Prog} (h : timesK k ≤ 12) (hg : g [.tuple (enc b)] = some (.list (strsD (linesP b)))) : lnRow g (blkD k (enc b)) = some (lineK0 k :: linesP b ++ [Str.ofString "end"]) := by
  have hp : lnParts g (blkD k (enc b)) = some (headD k, linesP b ++ [Str.ofString "end"]) := by
    have e : f1 gB (blkF 2) (rho2 (blkD k (enc b)) none) = some true := by
      simp [f1, f2, fV, fC, fCons, fNil, fSeq, fSet, fRet, fIf, fNext, fNever, fAnd, fOr, fAndV, fOrV, fUnp, fPar, fSl, fChain, tgF, tgN, gTu, gLs, startR, defG, outV, on1, on2, gB, gNot, gNotV, gI, blkF, rho2, w0K, inK_tuple]
    unfold lnParts
    rw [e]
    simp only [Option.bind_some, if_true]
    rw [head_ev]
    simp only [Option.bind_some]
    rw [more_ev, hg]
    simp only [Option.bind_some]
    rw [strL_ev]
    rfl
  unfold lnRow
  rw [hp]
  show ((lnLine (rho2 (blkD k (enc b)) (some (headD k)))).bind strO).map _ = _
  rw [lnLine_bl h]
  rfl
theorem lines_of_ev : ∀ (n : Nat) (p : Prog), deepN p < n → FewG p → Lim p → linesN p ≤ 100000 → lines_of_R n [.tuple (enc p)] = some (.list (strsD (linesP p)))
  | 0, _, h, _, _, _ => absurd h (Nat.not_lt_zero _)
  | n + 1, p, h, hf, hl, hn => by
    have ih := lines_of_ev n
    have loop : ∀ p : Prog, deepN p < n + 1 → FewG p → Lim p → linesN p ≤ 100000 → lnAll (lines_of_R n) (enc p) = some (linesP p) := by
      intro p
      induction p with
      | nil => exact fun _ _ _ _ => rfl
      | pl r p ihp =>
        intro hd hf hl hn
        have e1 : linesN (.pl r p) = 1 + linesN p := rfl
        have h2 := ihp hd hf.2 hl (by omega)
        show ((lnRow (lines_of_R n) (plD r)).bind _) = _
        rw [lnRow_pl hf.1]
        show ((lnAll (lines_of_R n) (enc p)).map _) = _
        rw [h2]
        rfl
      | blk k b p _ ihp =>
        intro hd hf hl hn
        have e1 : linesN (.blk k b p) = 2 + linesN b + linesN p := rfl
        have h2 := ihp (dB hd).2 hf.2 hl.2.2.2 (by omega)
        have hb := ih b (dB hd).1 hf.1 hl.2.2.1 (by omega)
        show ((lnRow (lines_of_R n) (blkD k (enc b))).bind _) = _
        rw [lnRow_bl hl.1 hb]
        show ((lnAll (lines_of_R n) (enc p)).map _) = _
        rw [h2]
        rfl
    show (lnAll (lines_of_R n) (enc p)).bind _ = _
    rw [loop p h hf hl hn]
    show (if (linesP p).length ≤ 100000 then _ else none) = _
    rw [if_pos (by rw [linesP_len]; exact hn)]
end Arc
set_option Elab.async false
set_option linter.all false
set_option maxRecDepth 100000
set_option maxHeartbeats 1000000
set_option exponentiation.threshold 200
namespace Arc
open PySem L2 TL
/-! ## the lines, read -/
theorem tl_space : tl (Str.ofString " ") = 32 :: [] := by decide +kernel
theorem tl_line : tl (Str.ofString "\n") = 10 :: [] := by decide +kernel
theorem no_sp_itx (n : Int) {c : Nat} (h : c < 45) : c ∉ tl (itx n) := by
  rw [tl_itx]
  unfold numT
  have h2 : c ∉ numL n.natAbs := numL_free (by omega)
  split
  · simp
    exact ⟨by omega, h2⟩
  · exact h2
theorem no_sp_frT (r : Rat) {c : Nat} (h : c < 45) : c ∉ tl (frT r) := by
  have h1 := no_sp_itx r.num h
  have h2 := no_sp_itx (r.den : Int) h
  unfold frT
  split
  · exact h1
  · rw [tl_append, tl_append, tl_slash]
    simp only [List.mem_append, List.mem_singleton, not_or]
    exact ⟨⟨h1, by omega⟩, h2⟩
theorem strOk_tl {x : Str} (h : ∀ c ∈ tl x, c < 0x110000) : PyData.strOk x = true := by
  have := strOk_S (l := tl x) h
  rw [show SS (tl x) = x from mk_tl x] at this
  exact this
theorem ok_itx (n : Int) : ∀ c ∈ tl (itx n), c < 0x110000 := by
  rw [tl_itx]
  unfold numT
  intro c hc
  split at hc
  · rcases List.mem_cons.mp hc with z | z
    · omega
    · exact dig_ok (numL_digits _) c z
  · exact dig_ok (numL_digits _) c hc
theorem ok_frT (r : Rat) : ∀ c ∈ tl (frT r), c < 0x110000 := by
  unfold frT
  intro c hc
  split at hc
  · exact ok_itx _ c hc
  · rw [tl_append, tl_append, tl_slash] at hc
    rcases List.mem_append.mp hc with z | z
    · rcases List.mem_append.mp z with y | y
      · exact ok_itx _ c y
      · rw [List.mem_singleton.mp y]
        omega
    · exact ok_itx _ c z
theorem eqv_strs : ∀ a b : List Str, PyData.eqvAll (a.map .str) (b.map .str) = decide (a = b)
  | [], [] => by simp [PyData.eqvAll]
  | [], _ :: _ => by simp [PyData.eqvAll]
  | _ :: _, [] => by simp [PyData.eqvAll]
  | x :: a, y :: b => by
    have ih := eqv_strs a b
    simp only [List.map_cons, PyData.eqvAll, PyData.eqv, ih]
    by_cases h1 : x = y
    · by_cases h2 : a = b
      · simp [h1, h2]
      · simp [h1, h2]
    · simp [h1]
theorem shp_strs {a : List Str} (h : ∀ x ∈ a, PyData.strOk x = true) : SeqAt.shaped (.list (a.map .str)) = true := by
  have h1 := lay_map PyData.str 0 a fun x hx => ⟨h x hx, Nat.le_refl _⟩
  exact shp_of (by simp only [PyData.canLay0, PyData.depth, h1.1]; exact ⟨by trivial, by omega⟩)
theorem gEq_strs {a b : List Str} (ha : ∀ x ∈ a, PyData.strOk x = true) (hb : ∀ x ∈ b, PyData.strOk x = true) : gEq (.list (a.map .str)) (.list (b.map .str)) = some (.bool (decide (a = b))) := by
  unfold gEq
  rw [shp_strs ha, shp_strs hb]
  simp only [Bool.and_self, if_true]
  rw [PyData.eqv, eqv_strs]
/-! ### words -/
def wordsA : List Str := ["go", "skip", "side", "dot", "left", "right", "round", "mirror", "grow", "quarter", "half", "arc", "again", "keep", "ever", "end"]
def wchk (x : Str) : Bool := !(tl x).contains 32 && (!(tl x).contains 10 && (PyData.strOk x && (decide (x.length ≤ 7) && decide (1 ≤ x.length))))
theorem wchk_all : ∀ x ∈ wordsA, wchk x = true := by decide +kernel
structure WOk (x : Str) : Prop where
  sp : 32 ∉ tl x
  nl : 10 ∉ tl x
  ok : PyData.strOk x = true
  le : x.length ≤ 7
  ge : 1 ≤ x.length
theorem wok {x : Str} (h : x ∈ wordsA) : WOk x := by
  have h1 := wchk_all x h
  unfold wchk at h1
  simp only [Bool.and_eq_true, Bool.not_eq_true', decide_eq_true_eq] at h1
  obtain ⟨a, b, c, d, e⟩ := h1
  exact ⟨fun z => absurd (List.contains_iff_mem.mpr z) (by rw [a]; decide), fun z => absurd (List.contains_iff_mem.mpr z) (by rw [b]; decide), c, d, e⟩
theorem memP (r : Pl) : wordP r ∈ wordsA := by cases r <;> simp [wordP, wordsA]
theorem memK (k : Kd) : wordK k ∈ wordsA := by cases k <;> simp [wordK, wordsA]
theorem memE : Str.ofString "end" ∈ wordsA := by
  show ("end" : Str) ∈ wordsA
  simp [wordsA]
/-! ### joined texts -/
theorem joinL_len (S : List Nat) : ∀ l : List (List Nat), (joinL S l).length ≤ (l.map List.length).sum + l.length * S.length
  | [] => by simp [joinL]
  | [p] => by simp [joinL]
  | p :: q :: r => by
    have h := joinL_len S (q :: r)
    show (p ++ (S ++ joinL S (q :: r))).length ≤ _
    rw [List.length_append, List.length_append]
    simp only [List.map_cons, List.sum_cons, List.length_cons, Nat.succ_mul] at h ⊢
    omega
theorem joinL_ge (S : List Nat) (p : List Nat) : ∀ l : List (List Nat), p.length ≤ (joinL S (p :: l)).length
  | [] => Nat.le_refl _
  | q :: r => by
    show p.length ≤ (p ++ (S ++ joinL S (q :: r))).length
    rw [List.length_append]
    omega
theorem joinL_mem {S : List Nat} {c : Nat} : ∀ {l : List (List Nat)}, c ∈ joinL S l → c ∈ S ∨ ∃ p ∈ l, c ∈ p
  | [], h => by cases h
  | [p], h => .inr ⟨p, by simp, h⟩
  | p :: q :: r, h => by
    have h2 : c ∈ p ++ (S ++ joinL S (q :: r)) := h
    rcases List.mem_append.mp h2 with z | z
    · exact .inr ⟨p, by simp, z⟩
    · rcases List.mem_append.mp z with y | y
      · exact .inl y
      · rcases joinL_mem y with x | ⟨p', h1, h3⟩
        · exact .inl x
        · exact .inr ⟨p', List.mem_cons_of_mem _ h1, h3⟩
theorem tl_joinT (y : Str) (l : List Str) : tl (Txt.join y l) = joinL (tl y) (l.map tl) := by rw [join_eq, tl_join]
theorem join_len (y : Str) (l : List Str) : (Txt.join y l).length ≤ (l.map (·.length)).sum + l.length * y.length := by
  have h := joinL_len (tl y) (l.map tl)
  rw [len_tl, tl_joinT, len_tl]
  have e : (l.map tl).map List.length = l.map (·.length) := by
    rw [List.map_map]
    exact List.map_congr_left fun a _ => (len_tl a).symm
  rw [e, List.length_map] at h
  exact h
theorem join_mem {y : Str} {l : List Str} {c : Nat} (h : c ∈ tl (Txt.join y l)) : c ∈ tl y ∨ ∃ x ∈ l, c ∈ tl x := by
  rw [tl_joinT] at h
  rcases joinL_mem h with z | ⟨p, h1, h2⟩
  · exact .inl z
  · obtain ⟨x, hx, rfl⟩ := List.mem_map.mp h1
    exact .inr ⟨x, hx, h2⟩
theorem join_ge (y x : Str) (l : List Str) : x.length ≤ (Txt.join y (x :: l)).length := by
  rw [len_tl, len_tl, tl_joinT]
  exact joinL_ge _ _ _
theorem gSplit_ev {y : Str} {s : Nat} {S : List Nat} (ey : tl y = s :: S) (hk : y.cps.all (· < 256) = true) (hy : (y.length == 0) = false) {l : List Str} (hne : l ≠ []) (hp : ∀ x ∈ l, s ∉ tl x) (hl : (Txt.join y l).length ≤ 1000000) : gSplit (.str (Txt.join y l)) (.str y) = some (.list (strsD l)) := by
  show (if (y.length == 0) = false ∧ (Txt.join y l).length ≤ 1000000 then some (PyData.list (strsD (Txt.split (Txt.join y l) y))) else none) = _
  rw [if_pos ⟨hy, hl⟩, split_join ey hk hne hp]
theorem sp_k : (Str.ofString " ").cps.all (· < 256) = true := by decide +kernel
theorem ln_k : (Str.ofString "\n").cps.all (· < 256) = true := by decide +kernel
theorem sp_0 : ((Str.ofString " ").length == 0) = false := by decide +kernel
theorem ln_0 : ((Str.ofString "\n").length == 0) = false := by decide +kernel
theorem ln_len : (Str.ofString "\n").length = 1 := by decide +kernel
/-! ### the lines as texts -/
structure LOk (x : Str) : Prop where
  nl : 10 ∉ tl x
  ok : ∀ c ∈ tl x, c < 0x110000
  le : x.length ≤ 400
  ge : 1 ≤ x.length
theorem strOk_mem {x : Str} (h : PyData.strOk x = true) : ∀ c ∈ tl x, c < 0x110000 := by
  unfold PyData.strOk at h
  intro c hc
  have h2 := Array.all_eq_true_iff_forall_mem.mp h c (by
    show c ∈ x.cps
    exact Array.mem_def.mpr hc)
  exact of_decide_eq_true h2
theorem line_ok {w : Str} {l : List Str} (hw : WOk w) (hn : l.length ≤ 4) (h1 : ∀ x ∈ l, 10 ∉ tl x) (h2 : ∀ x ∈ l, ∀ c ∈ tl x, c < 0x110000) (h3 : ∀ x ∈ l, x.length ≤ 63) : LOk (Txt.join (Str.ofString " ") (w :: l)) := by
  refine ⟨fun h => ?_, fun c h => ?_, ?_, Nat.le_trans hw.ge (join_ge _ _ _)⟩
  · rcases join_mem h with z | ⟨x, hx, z⟩
    · rw [tl_space] at z
      simp at z
    · rcases List.mem_cons.mp hx with y | y
      · rw [y] at z
        exact hw.nl z
      · exact h1 x y z
  · rcases join_mem h with z | ⟨x, hx, z⟩
    · rw [tl_space] at z
      have := List.mem_singleton.mp z
      omega
    · rcases List.mem_cons.mp hx with y | y
      · rw [y] at z
        exact strOk_mem hw.ok c z
      · exact h2 x y c z
  · have h := join_len (Str.ofString " ") (w :: l)
    have hs := sum_le (fun z : Str => z.length) 63 (w :: l) (fun x hx => by
      rcases List.mem_cons.mp hx with y | y
      · rw [y]
        have := hw.le
        omega
      · exact h3 x y)
    rw [sp_len] at h
    simp only [List.length_cons] at h hs
    omega
theorem lineP_ok {r : Pl} (h : FewP r) : LOk (lineP r) := line_ok (wok (memP r)) (by rw [List.length_map]; exact plF_len r)
  (fun x hx => by obtain ⟨a, ha, rfl⟩ := List.mem_map.mp hx; exact no_sp_frT a (by decide))
  (fun x hx => by obtain ⟨a, ha, rfl⟩ := List.mem_map.mp hx; exact ok_frT a)
  (fun x hx => by obtain ⟨a, ha, rfl⟩ := List.mem_map.mp hx; exact frT_len (h a ha))
theorem lineK_ok {k : Kd} (h : timesK k ≤ 12) : LOk (lineK0 k) := line_ok (wok (memK k)) (by rw [List.length_map]; have := nums_len k; omega)
  (fun x hx => by obtain ⟨a, ha, rfl⟩ := List.mem_map.mp hx; exact no_sp_itx a (by decide))
  (fun x hx => by obtain ⟨a, ha, rfl⟩ := List.mem_map.mp hx; exact ok_itx a)
  (fun x hx => by obtain ⟨a, ha, rfl⟩ := List.mem_map.mp hx; have := len_itx (nums_few h a ha); omega)
theorem end_ok : LOk (Str.ofString "end") := by
  have h := wok memE
  exact ⟨h.nl, strOk_mem h.ok, by have := h.le; omega, h.ge⟩
theorem lines_ok : ∀ (p : Prog), FewG p → Lim p → ∀ x ∈ linesP p, LOk x
  | .nil, _, _, x, h => by cases h
  | .pl r p, hf, hl, x, h => by
    rcases List.mem_cons.mp h with z | z
    · rw [z]
      exact lineP_ok hf.1
    · exact lines_ok p hf.2 hl x z
  | .blk k b p, hf, hl, x, h => by
    have h2 : x ∈ (lineK0 k :: linesP b ++ [Str.ofString "end"]) ++ linesP p := h
    rcases List.mem_append.mp h2 with z | z
    · rcases List.mem_append.mp z with y | y
      · rcases List.mem_cons.mp y with v | v
        · rw [v]
          exact lineK_ok hl.1
        · exact lines_ok b hf.1 hl.2.2.1 x v
      · rw [List.mem_singleton.mp y]
        exact end_ok
    · exact lines_ok p hf.2 hl.2.2.2 x z
end Arc
set_option Elab.async false
set_option linter.all false
set_option maxRecDepth 100000
set_option maxHeartbeats 1000000
set_option exponentiation.threshold 200
namespace Arc
open PySem L2 TL
/-! ## a line's words, read -/
theorem num_mem (r : Pl) : (wordP r, ((plF r).length : Int)) ∈ tNUMBERS := by cases r <;> simp [wordP, plF, tNUMBERS]
theorem num_look : ∀ q ∈ tNUMBERS, tNUMBERS.lookup q.1 = some q.2 := by decide +kernel
theorem open_core {L w : PyData} {a b c : Bool} (h1 : gEq L (.list [.str "keep"]) = some (.bool a)) (h2 : gEq L (.list [.str "ever"]) = some (.bool b)) (h3 : gIx L (.int 0) = some w) (h4 : gEq w (.str "again") = some (.bool c)) : openF [none, none, some L, none, none] = some (a || (b || c)) := by
  unfold openF
  cases a <;> cases b <;> cases c <;> simp [f1, f2, fV, fC, fCons, fNil, fSeq, fSet, fRet, fIf, fNext, fNever, fAnd, fOr, fAndV, fOrV, fUnp, fPar, fSl, fChain, tgF, tgN, gTu, gLs, startR, defG, outV, on1, on2, gB, gNot, gNotV, gI, h1, h2, h3, h4]
theorem norow_core {L : PyData} {w : Str} {n k : Int} (h1 : gIx L (.int 0) = some (.str w)) (h2 : tNUMBERS.lookup w = some k) (h3 : gLen L = some (.int n)) (h4 : n = 1 + k) : noRowF [none, none, some L, none, none] = some false := by
  have g1 : gKnot tNUMBERS (.str w) = some (.bool false) := by
    show (tNUMBERS.lookup w).map _ = _
    rw [h2]
    rfl
  have g2 : gKd tNUMBERS (.str w) = some (.int k) := by
    show (tNUMBERS.lookup w).map _ = _
    rw [h2]
    rfl
  have g3 : gNe (.int n) (.int (1 + k)) = some (.bool false) := by
    rw [gNe_int, h4]
    simp
  unfold noRowF
  simp [f1, f2, fV, fC, fCons, fNil, fSeq, fSet, fRet, fIf, fNext, fNever, fAnd, fOr, fAndV, fOrV, fUnp, fPar, fSl, fChain, tgF, tgN, gTu, gLs, startR, defG, outV, on1, on2, gB, gNot, gNotV, gI, h1, g1, h3, g2, gAdd_i, g3]
theorem eq_one {w : Str} {l : List Str} {z : Str} (h : ∀ x ∈ w :: l, PyData.strOk x = true) (hz : z ∈ wordsA) : gEq (.list (strsD (w :: l))) (.list [.str z]) = some (.bool (decide (w :: l = [z]))) :=
  gEq_strs (a := w :: l) (b := [z]) h (fun x hx => by rw [List.mem_singleton.mp hx]; exact (wok hz).ok)
theorem slice1 (l : List PyData) (h : 1 ≤ l.length) : gSl (.list l) (some 1) none = some (.list (l.drop 1)) := by
  show some (PyData.list (cutL l (some ((1 : Nat) : Int)) none)) = _
  rw [cutL_drop _ 1 h]
theorem reads_lc {α : Type} {i : Nat} (F : Rho → Option PyData) {ρ : Rho} (f : α → Str) (g : α → PyData) : ∀ (l : List α), (∀ a ∈ l, F (ρ.set i (some (.str (f a)))) = some (g a) ∧ imm (g a) = true) → lcF (tgN i) (fun _ => some true) F ρ ((l.map f).map .str) = some (l.map g)
  | [], _ => rfl
  | a :: l, h => by
    have ih := reads_lc F (ρ := ρ) f g l (fun x hx => h x (by simp [hx]))
    simp only [List.map_cons, lcF, tgN, Option.bind_some, if_true]
    rw [(h a (by simp)).1]
    simp only [Option.bind_some]
    rw [if_pos (h a (by simp)).2, ih]
    rfl
theorem none_in {α : Type} (g : α → PyData) (l : List α) (h : ∀ a ∈ l, (PyData.canLay0 (g a) = true ∧ PyData.depth (g a) ≤ 3) ∧ PyData.eqv (g a) .none = false) : gInD .none (.list (l.map g)) = some (.bool false) := by
  have h1 := lay_map g 3 l fun x hx => (h x hx).1
  have hs : SeqAt.shaped (.list (l.map g)) = true := shp_of (by simp only [PyData.canLay0, PyData.depth, h1.1]; exact ⟨by trivial, by omega⟩)
  have hn : SeqAt.shaped .none = true := by rfl
  show (if (SeqAt.shaped .none && SeqAt.shaped (.list (l.map g))) = true then some (PyData.bool ((l.map g).any fun y => PyData.eqv y .none)) else none) = _
  rw [hs, hn]
  simp only [Bool.and_self, if_true]
  have e : ((l.map g).any fun y => PyData.eqv y .none) = false := by
    rw [List.any_eq_false]
    intro x hx
    obtain ⟨a, ha, rfl⟩ := List.mem_map.mp hx
    rw [(h a ha).2]
    decide
  rw [e]
theorem head_core {w : Str} {ws ns : List PyData} (h : ws.length + 1 ≤ 1000) (hi : immAll ns = true) (hl : ns.length ≤ 1000) : headRow (.list (.str w :: ws)) (.list ns) = some (.tuple (.str w :: ns)) := by
  unfold headRow
  have g0 : gIx (.list (.str w :: ws)) (.int 0) = some (.str w) := atI_zero _ _
  rw [g0]
  show ((gCatT (.tuple [.str w]) (.tuple ns)).bind immO) = _
  have g1 : gCatT (.tuple [.str w]) (.tuple ns) = some (.tuple (.str w :: ns)) := by
    show (if [PyData.str w].length + ns.length ≤ 1000000 then some (PyData.tuple ([PyData.str w] ++ ns)) else none) = _
    rw [if_pos (by simp; omega)]
    rfl
  rw [g1]
  exact immO_ok (by show immAll (.str w :: ns) = true; show (true && immAll ns) = true; rw [hi]; rfl)
theorem immAll_map {α : Type} (g : α → PyData) : ∀ l : List α, (∀ a ∈ l, imm (g a) = true) → immAll (l.map g) = true
  | [], _ => rfl
  | a :: l, h => by
    show (imm (g a) && immAll (l.map g)) = true
    rw [h a (by simp), immAll_map g l fun x hx => h x (by simp [hx])]
    rfl
theorem lay_fr (a : Rat) : PyData.canLay0 (fr a) = true ∧ PyData.depth (fr a) ≤ 3 := by
  simp [fr, PyData.canLay0, PyData.canLayAll0, PyData.depth, PyData.depthAll]
theorem ne_end {w : Str} (hw : w ≠ Str.ofString "end") (l : List Str) : decide (w :: l = [Str.ofString "end"]) = false := decide_eq_false fun z => hw (by
  have := List.cons.inj z
  exact this.1)
theorem wordP_ne (r : Pl) {z : Str} (hz : z ∈ (["again", "keep", "ever", "end"] : List Str)) : wordP r ≠ z := by
  have h : ∀ z ∈ (["again", "keep", "ever", "end"] : List Str), ∀ x ∈ (["go", "skip", "side", "dot", "left", "right", "round", "mirror", "grow", "quarter", "half", "arc"] : List Str), x ≠ z := by decide +kernel
  exact h z hz (wordP r) (by cases r <;> simp [wordP])
theorem wordK_ne (k : Kd) : wordK k ≠ Str.ofString "end" := by
  have h : ∀ x ∈ (["again", "keep", "ever"] : List Str), x ≠ Str.ofString "end" := by decide +kernel
  exact h (wordK k) (by cases k <;> simp [wordK])
theorem ok_frS (a : Rat) : PyData.strOk (frT a) = true := strOk_tl (ok_frT a)
theorem ok_itS (a : Int) : PyData.strOk (itx a) = true := strOk_tl (ok_itx a)
theorem words_pl {r : Pl} (h : FewP r) : wordsK (strsD (wordP r :: (plF r).map frT)) = some (.plain (plD r)) := by
  have hok : ∀ x ∈ wordP r :: (plF r).map frT, PyData.strOk x = true := fun x hx => by
    rcases List.mem_cons.mp hx with z | z
    · rw [z]
      exact (wok (memP r)).ok
    · obtain ⟨a, ha, rfl⟩ := List.mem_map.mp z
      exact ok_frS a
  have e1 := eq_one (z := "end") hok (by simp [wordsA])
  have e2 := eq_one (z := "keep") hok (by simp [wordsA])
  have e3 := eq_one (z := "ever") hok (by simp [wordsA])
  have ne : ∀ {z : Str}, z ∈ (["again", "keep", "ever", "end"] : List Str) → decide (wordP r :: (plF r).map frT = [z]) = false := fun hz => decide_eq_false fun y => wordP_ne r hz (List.cons.inj y).1
  rw [ne (by simp)] at e1 e2 e3
  have g0 : gIx (.list (strsD (wordP r :: (plF r).map frT))) (.int 0) = some (.str (wordP r)) := atI_zero _ _
  have ho := open_core e2 e3 g0 (eP_again r)
  have hk := num_look _ (num_mem r)
  have hn := norow_core (n := ((plF r).length : Int) + 1) g0 hk (by
    show some (PyData.int _) = _
    simp [strsD]) (by omega)
  have hF : ∀ a ∈ plF r, f1 fraction_in_G (fCons (fV 4) fNil) ((wipeR [none, none, some (.list (strsD (wordP r :: (plF r).map frT))), none, none] [4]).set 4 (some (.str (frT a)))) = some (fr a) ∧ imm (fr a) = true := fun a ha => ⟨fraction_ev (h a ha), rfl⟩
  have hlc := reads_lc _ frT fr (plF r) hF
  have hs := slice1 (strsD (wordP r :: (plF r).map frT)) (by simp [strsD])
  have hfr : fracsF [none, none, some (.list (strsD (wordP r :: (plF r).map frT))), none, none] = some (.list ((plF r).map fr)) := by
    have e1 : f1 itL (fSl (fV 2) (f1 gI (fC (.int 1))) (fun _ => some none)) [none, none, some (.list (strsD (wordP r :: (plF r).map frT))), none, none] = some (((plF r).map frT).map .str) := by
      show ((gSl (.list (strsD (wordP r :: (plF r).map frT))) (some 1) none).bind itL) = _
      rw [hs]
      rfl
    unfold fracsF fLc
    rw [e1]
    show (if (((plF r).map frT).map PyData.str).length ≤ 1000000 then _ else none) = _
    rw [if_pos (by rw [List.length_map, List.length_map]; have := plF_len r; omega), hlc]
    rfl
  have hin := none_in fr (plF r) fun a _ => ⟨lay_fr a, rfl⟩
  have hh := head_core (w := wordP r) (ws := ((plF r).map frT).map .str) (ns := (plF r).map fr) (by rw [List.length_map, List.length_map]; have := plF_len r; omega) (immAll_map fr _ fun _ _ => rfl) (by rw [List.length_map]; have := plF_len r; omega)
  rw [← plD_eq] at hh
  unfold wordsK
  rw [e1]
  show ((openF [none, none, some (.list (strsD (wordP r :: (plF r).map frT))), none, none]).bind _) = _
  rw [ho]
  show ((noRowF [none, none, some (.list (strsD (wordP r :: (plF r).map frT))), none, none]).bind _) = _
  rw [hn]
  show ((fracsF [none, none, some (.list (strsD (wordP r :: (plF r).map frT))), none, none]).bind _) = _
  rw [hfr]
  show (((gInD .none (.list ((plF r).map fr))).bind gB).bind _) = _
  rw [hin]
  show ((headRow (.list (strsD (wordP r :: (plF r).map frT))) (.list ((plF r).map fr))).map LineK.plain) = _
  have eS : strsD (wordP r :: (plF r).map frT) = .str (wordP r) :: ((plF r).map frT).map .str := rfl
  rw [eS, hh]
  rfl
theorem bad_core {L ns w : PyData} {n : Int} {c : Bool} (h1 : gLen ns = some (.int n)) (h2 : gIx L (.int 0) = some w) (h3 : gEq w (.str "again") = some (.bool c)) (h4 : n = if c = true then 1 else 0) (h5 : gInD .none ns = some (.bool false)) : badF [none, some L, some ns, none] = some false := by
  unfold badF
  have e : ∀ z : Int, gNe (.int z) (.int z) = some (.bool false) := fun z => by rw [gNe_int]; simp
  cases c
  · subst h4
    have i0 : gInt (.bool false) = some (.int 0) := rfl
    have e0 := e 0
    simp only [Bool.false_eq_true, if_false] at h1
    simp [f1, f2, fV, fC, fCons, fNil, fSeq, fSet, fRet, fIf, fNext, fNever, fAnd, fOr, fAndV, fOrV, fUnp, fPar, fSl, fChain, tgF, tgN, gTu, gLs, startR, defG, outV, on1, on2, gB, gNot, gNotV, gI, h1, h2, h3, i0, e0, h5]
  · subst h4
    have i0 : gInt (.bool true) = some (.int 1) := rfl
    have e0 := e 1
    simp only [if_true] at h1
    simp [f1, f2, fV, fC, fCons, fNil, fSeq, fSet, fRet, fIf, fNext, fNever, fAnd, fOr, fAndV, fOrV, fUnp, fPar, fSl, fChain, tgF, tgN, gTu, gLs, startR, defG, outV, on1, on2, gB, gNot, gNotV, gI, h1, h2, h3, i0, e0, h5]
theorem words_bl {k : Kd} (h : timesK k ≤ 12) : wordsK (strsD (wordK k :: (numsK k).map itx)) = some (.opn (headD k)) := by
  have hok : ∀ x ∈ wordK k :: (numsK k).map itx, PyData.strOk x = true := fun x hx => by
    rcases List.mem_cons.mp hx with z | z
    · rw [z]
      exact (wok (memK k)).ok
    · obtain ⟨a, ha, rfl⟩ := List.mem_map.mp z
      exact ok_itS a
  have e1 := eq_one (z := "end") hok (by simp [wordsA])
  have e2 := eq_one (z := "keep") hok (by simp [wordsA])
  have e3 := eq_one (z := "ever") hok (by simp [wordsA])
  rw [ne_end (wordK_ne k)] at e1
  have g0 : gIx (.list (strsD (wordK k :: (numsK k).map itx))) (.int 0) = some (.str (wordK k)) := atI_zero _ _
  have hag : gEq (.str (wordK k)) (.str "again") = some (.bool (match k with | .again _ => true | _ => false)) := by
    cases k with
    | again n => exact eq_again_again
    | keep => exact eq_keep_again
    | ever => exact eq_ever_again
  have ho := open_core e2 e3 g0 hag
  have ho2 : openF [none, none, some (.list (strsD (wordK k :: (numsK k).map itx))), none, none] = some true := by
    rw [ho]
    cases k with
    | again n => simp
    | keep => simp [wordK, numsK]
    | ever => simp [wordK, numsK]
  have hF : ∀ a ∈ numsK k, f1 whole_in_G (fCons (fV 3) fNil) ((wipeR [none, some (.list (strsD (wordK k :: (numsK k).map itx))), none, none] [3]).set 3 (some (.str (itx a)))) = some (.int a) ∧ imm (.int a) = true := fun a ha => ⟨whole_few (nums_few h a ha), rfl⟩
  have hlc := reads_lc _ itx PyData.int (numsK k) hF
  have hs := slice1 (strsD (wordK k :: (numsK k).map itx)) (by simp [strsD])
  have hfr : wholesF [none, some (.list (strsD (wordK k :: (numsK k).map itx))), none, none] = some (.list ((numsK k).map .int)) := by
    have e1 : f1 itL (fSl (fV 1) (f1 gI (fC (.int 1))) (fun _ => some none)) [none, some (.list (strsD (wordK k :: (numsK k).map itx))), none, none] = some (((numsK k).map itx).map .str) := by
      show ((gSl (.list (strsD (wordK k :: (numsK k).map itx))) (some 1) none).bind itL) = _
      rw [hs]
      rfl
    unfold wholesF fLc
    rw [e1]
    show (if (((numsK k).map itx).map PyData.str).length ≤ 1000000 then _ else none) = _
    rw [if_pos (by rw [List.length_map, List.length_map]; have := nums_len k; omega), hlc]
    rfl
  have hin := none_in PyData.int (numsK k) fun a _ => ⟨⟨rfl, by show 0 ≤ 3; omega⟩, rfl⟩
  have hb : badF [none, some (.list (strsD (wordK k :: (numsK k).map itx))), some (.list ((numsK k).map .int)), none] = some false := by
    refine bad_core (n := ((numsK k).length : Int)) (by show some (PyData.int _) = _; rw [List.length_map]) g0 hag ?_ hin
    cases k <;> rfl
  have hh := head_core (w := wordK k) (ws := ((numsK k).map itx).map .str) (ns := (numsK k).map .int) (by rw [List.length_map, List.length_map]; have := nums_len k; omega) (immAll_map PyData.int _ fun _ _ => rfl) (by rw [List.length_map]; have := nums_len k; omega)
  unfold wordsK
  rw [e1]
  show ((openF [none, none, some (.list (strsD (wordK k :: (numsK k).map itx))), none, none]).bind _) = _
  rw [ho2]
  show ((headM (strsD (wordK k :: (numsK k).map itx))).map LineK.opn) = _
  unfold headM
  rw [hfr]
  show (((badF [none, some (.list (strsD (wordK k :: (numsK k).map itx))), some (.list ((numsK k).map .int)), none]).bind _).map _) = _
  rw [hb]
  show ((headRow (.list (strsD (wordK k :: (numsK k).map itx))) (.list ((numsK k).map .int))).map LineK.opn) = _
  have eS : strsD (wordK k :: (numsK k).map itx) = .str (wordK k) :: ((numsK k).map itx).map .str := rfl
  rw [eS, hh]
  rfl
theorem words_end : wordsK (strsD [Str.ofString "end"]) = some .close := by
  have e1 := eq_one (w := Str.ofString "end") (l := []) (z := "end") (fun x hx => by rw [List.mem_singleton.mp hx]; exact (wok memE).ok) (by simp [wordsA])
  unfold wordsK
  rw [e1]
  simp [gB]
/-! ### lines -/
theorem line_split {w : Str} {l : List Str} (hw : WOk w) (h : ∀ x ∈ l, 32 ∉ tl x) (hl : (Txt.join (Str.ofString " ") (w :: l)).length ≤ 400) : lineK (Txt.join (Str.ofString " ") (w :: l)) = wordsK (strsD (w :: l)) := by
  have e := gSplit_ev tl_space sp_k sp_0 (l := w :: l) (by simp) (fun x hx => by
    rcases List.mem_cons.mp hx with z | z
    · rw [z]
      exact hw.sp
    · exact h x z) (by omega)
  show ((gSplit (.str (Txt.join (Str.ofString " ") (w :: l))) (.str (Str.ofString " "))).bind listO).bind wordsK = _
  rw [e]
  rfl
theorem lineK_pl {r : Pl} (h : FewP r) : lineK (lineP r) = some (.plain (plD r)) := by
  have e := line_split (wok (memP r)) (l := (plF r).map frT) (fun x hx => by obtain ⟨a, ha, rfl⟩ := List.mem_map.mp hx; exact no_sp_frT a (by decide)) (lineP_ok h).le
  unfold lineP
  rw [e]
  exact words_pl h
theorem lineK_bl {k : Kd} (h : timesK k ≤ 12) : lineK (lineK0 k) = some (.opn (headD k)) := by
  have e := line_split (wok (memK k)) (l := (numsK k).map itx) (fun x hx => by obtain ⟨a, ha, rfl⟩ := List.mem_map.mp hx; exact no_sp_itx a (by decide)) (lineK_ok h).le
  unfold lineK0
  rw [e]
  exact words_bl h
theorem lineK_end : lineK (Str.ofString "end") = some .close := by
  have e0 : Txt.join (Str.ofString " ") [Str.ofString "end"] = Str.ofString "end" := rfl
  have e := line_split (wok memE) (l := []) (fun x hx => by cases hx) (by rw [e0]; exact end_ok.le)
  rw [e0] at e
  rw [e]
  exact words_end
end Arc
set_option Elab.async false
set_option linter.all false
set_option maxRecDepth 100000
set_option maxHeartbeats 1000000
set_option exponentiation.threshold 200
namespace Arc
open PySem L2 TL
/-! ## a text, read -/
theorem strsD_app (a b : List Str) : strsD (a ++ b) = strsD a ++ strsD b := List.map_append
theorem readRun_cons {x : Str} {k : LineK} {r : List PyData} {s s' : RdS} (h1 : lineK x = some k) (h2 : rdStep k s = some s') : readRun (.str x :: r) s = readRun r s' := by
  show ((lineK x).bind fun k => (rdStep k s).bind fun s' => readRun r s') = _
  rw [h1]
  show ((rdStep k s).bind fun s' => readRun r s') = _
  rw [h2]
  rfl
theorem lay_head (k : Kd) : PyData.canLay0 (headD k) = true ∧ PyData.depth (headD k) ≤ 1 := by
  cases k <;> simp [headD, wordK, numsK, PyData.canLay0, PyData.canLayAll0, PyData.depth, PyData.depthAll] <;> decide +kernel
theorem heads_ne (k : Kd) (ks : List Kd) : (gEq (.list ((k :: ks).map headD).reverse) (.list [])).bind gB = some false := by
  have e : ((k :: ks).map headD).reverse = (k :: ks).reverse.map headD := (List.map_reverse).symm
  have h1 := lay_map headD 1 (k :: ks).reverse fun x _ => lay_head x
  have hs : SeqAt.shaped (.list ((k :: ks).reverse.map headD)) = true := shp_of (by simp only [PyData.canLay0, PyData.depth, h1.1]; exact ⟨by trivial, by omega⟩)
  have hn : SeqAt.shaped (.list []) = true := by rfl
  rw [e]
  unfold gEq
  rw [hs, hn]
  have hne : PyData.eqv (.list ((k :: ks).reverse.map headD)) (.list []) = false := by
    rw [PyData.eqv]
    cases h : (k :: ks).reverse.map headD with
    | nil => simp at h
    | cons a l => rfl
  rw [hne]
  rfl
theorem close_bl (k : Kd) (l : List PyData) (h : immAll l = true) : (gCatT (headD k) (.tuple [.tuple l])).bind immO = some (blkD k l) := by
  have hi : imm (blkD k l) = true := by
    cases k with
    | again t => show (true && (true && (immAll l && true))) = true; rw [h]; rfl
    | keep => show (true && (immAll l && true)) = true; rw [h]; rfl
    | ever => show (true && (immAll l && true)) = true; rw [h]; rfl
  have e : gCatT (headD k) (.tuple [.tuple l]) = some (blkD k l) := by
    cases k <;> rfl
  rw [e]
  exact immO_ok hi
theorem run_lines : ∀ (p : Prog), FewG p → Lim p → ∀ (ks : List Kd) (R : List PyData) (Rs : List (List PyData)) (rest : List PyData), ks.length + deepN p ≤ 1000 → Rs.length + deepN p ≤ 1000 → R.length + rowsN p ≤ 1000 → (∀ r ∈ Rs, r.length ≤ 1000) →
    readRun (strsD (linesP p) ++ rest) (ks.map headD, R :: Rs) = readRun rest (ks.map headD, (R ++ enc p) :: Rs)
  | .nil, _, _, ks, R, Rs, rest, _, _, _, _ => by
    show readRun rest (ks.map headD, R :: Rs) = readRun rest (ks.map headD, (R ++ []) :: Rs)
    rw [List.append_nil]
  | .pl r p, hf, hl, ks, R, Rs, rest, h1, h2, h3, h4 => by
    have h3' : R.length + (1 + rowsN p) ≤ 1000 := h3
    have ih := run_lines p hf.2 hl ks (R ++ [plD r]) Rs rest h1 h2 (by rw [List.length_append]; simp; omega) h4
    have e : (R ++ [plD r]) ++ enc p = R ++ enc (.pl r p) := by rw [List.append_assoc]; rfl
    rw [e] at ih
    show readRun (.str (lineP r) :: (strsD (linesP p) ++ rest)) _ = _
    rw [readRun_cons (lineK_pl hf.1) (s' := (ks.map headD, (R ++ [plD r]) :: Rs)), ih]
    show (if R.length ≤ 100000 then _ else none) = _
    rw [if_pos (by omega)]
  | .blk k b p, hf, hl, ks, R, Rs, rest, h1, h2, h3, h4 => by
    have h3' : R.length + (1 + rowsN b + rowsN p) ≤ 1000 := h3
    have hdp : deepN (.blk k b p) = max (1 + deepN b) (deepN p) := rfl
    rw [hdp] at h1 h2
    have ihb := run_lines b hf.1 hl.2.2.1 (k :: ks) [] (R :: Rs) (.str (Str.ofString "end") :: (strsD (linesP p) ++ rest)) (by simp only [List.length_cons]; omega) (by simp only [List.length_cons]; omega) (by simp only [List.length_nil]; omega) (fun r hr => by
      rcases List.mem_cons.mp hr with z | z
      · rw [z]
        omega
      · exact h4 r z)
    have ihp := run_lines p hf.2 hl.2.2.2 ks (R ++ [blkD k (enc b)]) Rs rest (by omega) (by omega) (by rw [List.length_append]; simp; omega) h4
    have e : (R ++ [blkD k (enc b)]) ++ enc p = R ++ enc (.blk k b p) := by rw [List.append_assoc]; rfl
    rw [e] at ihp
    have el : strsD (linesP (.blk k b p)) ++ rest = .str (lineK0 k) :: (strsD (linesP b) ++ (.str (Str.ofString "end") :: (strsD (linesP p) ++ rest))) := by
      show strsD ((lineK0 k :: linesP b ++ [Str.ofString "end"]) ++ linesP p) ++ rest = _
      rw [strsD_app, strsD_app, List.append_assoc, List.append_assoc]
      rfl
    rw [el, readRun_cons (lineK_bl hl.1) (s' := ((k :: ks).map headD, [] :: R :: Rs)), ihb, readRun_cons lineK_end (s' := (ks.map headD, (R ++ [blkD k (enc b)]) :: Rs)), ihp]
    · show (if (gEq (.list ((k :: ks).map headD).reverse) (.list [])).bind gB = some false ∧ R.length ≤ 100000 then ((gCatT (headD k) (.tuple [.tuple ([] ++ enc b)])).bind immO).map (fun row => (ks.map headD, (R ++ [row]) :: Rs)) else none) = _
      rw [if_pos ⟨heads_ne k ks, by omega⟩, List.nil_append, close_bl k (enc b) (imm_enc b)]
      rfl
    · show (if (ks.map headD).length ≤ 100000 ∧ (R :: Rs).length ≤ 100000 then _ else none) = _
      rw [if_pos (by simp only [List.length_map, List.length_cons]; omega)]
      rfl
def textP (p : Prog) : Str := Txt.join (Str.ofString "\n") (linesP p)
theorem sum_len (l : List Str) (h : ∀ x ∈ l, LOk x) : (l.map (·.length)).sum ≤ l.length * 400 := sum_le (fun z : Str => z.length) 400 l fun x hx => (h x hx).le
theorem written_ev {p : Prog} (hd : deepN p < 8) (hf : FewG p) (hl : Lim p) (hn : linesN p ≤ 1000) : written_G [.tuple (enc p)] = some (.str (textP p)) := by
  have e := lines_of_ev 8 p hd hf hl (by omega)
  have hs := sum_len (linesP p) (lines_ok p hf hl)
  have hj := join_ev (a := Str.ofString "\n") (l := linesP p) (by
    rw [ln_len, linesP_len] 
    rw [linesP_len] at hs
    omega)
  have e2 : lines_of_G [.tuple (enc p)] = some (.list ((linesP p).map .str)) := e
  simp only [written_G, F_written]
  simp [f1, f2, fV, fC, fCons, fNil, fSeq, fSet, fRet, fIf, fNext, fNever, fAnd, fOr, fAndV, fOrV, fUnp, fPar, fSl, fChain, tgF, tgN, gTu, gLs, startR, defG, outV, on1, on2, gB, gNot, gNotV, gI, e2]
  rw [hj]
  rfl
theorem text_len {p : Prog} (hf : FewG p) (hl : Lim p) (hn : linesN p ≤ 1000) : (textP p).length ≤ 1000000 := by
  have h := join_len (Str.ofString "\n") (linesP p)
  have hs := sum_len (linesP p) (lines_ok p hf hl)
  rw [ln_len, linesP_len] at h
  rw [linesP_len] at hs
  unfold textP
  omega
theorem read_text {p : Prog} (hd : deepN p < 8) (hf : FewG p) (hl : Lim p) (hn : linesN p ≤ 1000) (hr : rowsN p ≤ 1000) : read_G [.str (textP p)] = program_of_G [.tuple (enc p)] := by
  have hls := lines_ok p hf hl
  by_cases hne : linesP p = []
  · have ep : p = .nil := by
      cases p with
      | nil => rfl
      | pl r p => cases hne
      | blk k b p => 
        have h2 := linesP_len (.blk k b p)
        rw [hne] at h2
        have h3 : linesN (.blk k b p) = 2 + linesN b + linesN p := rfl
        simp only [List.length_nil] at h2
        omega
    subst ep
    have e : gEq (.str (textP .nil)) (.str "") = some (.bool true) := strE (by decide +kernel)
    show ((gEq (.str (textP .nil)) (.str "")).bind gB).bind _ = _
    rw [e]
    rfl
  · have hch : ∀ c ∈ tl (textP p), c < 0x110000 := fun c hc => by
      rcases join_mem hc with z | ⟨x, hx, z⟩
      · rw [tl_line] at z
        have := List.mem_singleton.mp z
        omega
      · exact (hls x hx).ok c z
    have hpos : 1 ≤ (textP p).length := by
      unfold textP
      cases hc : linesP p with
      | nil => exact absurd hc hne
      | cons x l =>
        have h1 := (hls x (by rw [hc]; simp)).ge
        exact Nat.le_trans h1 (join_ge _ _ _)
    have hemp : gEq (.str (textP p)) (.str "") = some (.bool false) := by
      refine strE ?_
      rw [strOk_tl hch]
      have h1 : textP p ≠ Str.ofString "" := fun z => by
        rw [z] at hpos
        exact absurd hpos (by decide +kernel)
      have h2 : PyData.strOk (Str.ofString "") = true := by decide +kernel
      show (true && PyData.strOk (Str.ofString "") && (decide (textP p = Str.ofString "") == false)) = true
      rw [h2, decide_eq_false h1]
      rfl
    have hsp := gSplit_ev tl_line ln_k ln_0 (l := linesP p) hne (fun x hx => (hls x hx).nl) (text_len hf hl hn)
    have hrun := run_lines p hf hl [] [] [] [] (by simp; omega) (by simp; omega) (by simp; omega) (fun r hr => by cases hr)
    rw [List.append_nil, List.nil_append] at hrun
    have hrun2 : readRun (strsD (linesP p)) ([], [[]]) = some ([], [enc p]) := hrun
    show ((gEq (.str (textP p)) (.str "")).bind gB).bind _ = _
    rw [hemp]
    show (((gSplit (.str (textP p)) (.str (Str.ofString "\n"))).bind listO).bind _) = _
    have hsp2 : gSplit (.str (textP p)) (.str (Str.ofString "\n")) = some (.list (strsD (linesP p))) := hsp
    rw [hsp2]
    cases hc : strsD (linesP p) with
    | nil =>
      have : linesP p = [] := List.map_eq_nil_iff.mp hc
      exact absurd this hne
    | cons a l =>
      rw [hc] at hrun2
      show ((readRun (a :: l) ([], [[]])).bind _) = _
      rw [hrun2]
      rfl
end Arc
set_option Elab.async false
set_option linter.all false
set_option maxRecDepth 100000
set_option maxHeartbeats 1000000
set_option exponentiation.threshold 200
namespace Arc
open PySem L2 TL
/-! ## rows looked over -/
theorem word_core {R : PyData} {w : Str} {n : Int} (h1 : gIsi "tuple" R = some (.bool true)) (h2 : gLen R = some (.int n)) (h3 : n ≠ 0) (h4 : gIx R (.int 0) = some (.str w)) : word_of_G [R] = some (.str w) := by
  have e := gEq_int n 0
  rw [decide_eq_false h3] at e
  have i : gIsi "str" (.str w) = some (.bool true) := by rfl
  simp only [word_of_G, F_word_of]
  simp [f1, f2, fV, fC, fCons, fNil, fSeq, fSet, fRet, fIf, fNext, fNever, fAnd, fOr, fAndV, fOrV, fUnp, fPar, fSl, fChain, tgF, tgN, gTu, gLs, startR, defG, outV, on1, on2, gB, gNot, gNotV, gI, h1, h2, e, h4, i]
theorem len_pl (r : Pl) : gLen (plD r) = some (.int ((plF r).length + 1 : Nat)) := by
  rw [plD_eq]
  show some (PyData.int _) = _
  simp
theorem word_pl (r : Pl) : word_of_G [plD r] = some (.str (wordP r)) :=
  word_core (n := ((plF r).length + 1 : Nat)) (by cases r <;> rfl) (len_pl r) (by omega) (w0P r)
theorem word_bl (k : Kd) (l : List PyData) : word_of_G [blkD k l] = some (.str (wordK k)) := by
  cases k with
  | again t => exact word_core (n := 3) (by rfl) rfl (by decide) rfl
  | keep => exact word_core (n := 2) (by rfl) rfl (by decide) rfl
  | ever => exact word_core (n := 2) (by rfl) rfl (by decide) rfl
theorem whole_ok (n : Int) : is_whole_G [.int n] = some (.bool true) := by
  have a : gIsi "int" (.int n) = some (.bool true) := rfl
  have b : gIsi "bool" (.int n) = some (.bool false) := rfl
  simp only [is_whole_G, F_is_whole]
  simp [f1, f2, fV, fC, fCons, fNil, fSeq, fSet, fRet, fIf, fNext, fNever, fAnd, fOr, fAndV, fOrV, fUnp, fPar, fSl, fChain, tgF, tgN, gTu, gLs, startR, defG, outV, on1, on2, gB, gNot, gNotV, gI, a, b]
theorem fracs_ok (a : Rat) : is_fraction_G [fr a] = some (.bool true) := by
  have h1 : gIsi "tuple" (fr a) = some (.bool true) := by rfl
  have h2 : gLen (fr a) = some (.int 2) := rfl
  have h3 : gIx (fr a) (.int 0) = some (.int a.num) := rfl
  have h4 : gIx (fr a) (.int 1) = some (.int a.den) := rfl
  have h5 : gGt (.int a.den) (.int 0) = some (.bool true) := by
    show some (PyData.bool (decide ((0 : Int) < (a.den : Int)))) = _
    rw [decide_eq_true (by have := a.den_pos; omega)]
  have h6 := divisor_ev a.num a.den
  rw [gcd_red] at h6
  have h6' : divisor_G [.int a.num, .int a.den] = some (.int 1) := h6
  have h7 : gEq (.int 1) (.int 1) = some (.bool true) := gEq_int 1 1
  have h8 : gNe (.int 2) (.int 2) = some (.bool false) := gNe_int 2 2
  simp only [is_fraction_G, F_is_fraction]
  simp [f1, f2, fV, fC, fCons, fNil, fSeq, fSet, fRet, fIf, fNext, fNever, fAnd, fOr, fAndV, fOrV, fUnp, fPar, fSl, fChain, tgF, tgN, gTu, gLs, startR, defG, outV, on1, on2, gB, gNot, gNotV, gI, h1, h2, h8, h3, h4, whole_ok, h5, h6', h7]
theorem map_lc {α : Type} {i : Nat} (F : Rho → Option PyData) {ρ : Rho} (f g : α → PyData) : ∀ (l : List α), (∀ a ∈ l, F (ρ.set i (some (f a))) = some (g a) ∧ imm (g a) = true) → lcF (tgN i) (fun _ => some true) F ρ (l.map f) = some (l.map g)
  | [], _ => rfl
  | a :: l, h => by
    have ih := map_lc F (ρ := ρ) f g l (fun x hx => h x (by simp [hx]))
    simp only [List.map_cons, lcF, tgN, Option.bind_some, if_true]
    rw [(h a (by simp)).1]
    simp only [Option.bind_some]
    rw [if_pos (h a (by simp)).2, ih]
    rfl
def plTail : Rho → Option Out := (fSeq (fIf (f1 gB (f2 gEq (fV 1) (fC (.str "grow")))) (fRet (fAndV (fChain gLe gLe (fC (.int 1)) (f2 gIx (f2 gIx (fV 0) (fC (.int 1))) (fC (.int 0))) (fC (.int 12))) (f2 gLe (f2 gIx (f2 gIx (fV 0) (fC (.int 1))) (fC (.int 1))) (fC (.int 12))))) fNext) (fSeq (fIf (fOr (f1 gB (f2 gEq (fV 1) (fC (.str "quarter")))) (f1 gB (f2 gEq (fV 1) (fC (.str "half"))))) (fRet (f2 gNe (f2 gIx (f2 gIx (fV 0) (fC (.int 1))) (fC (.int 0))) (fC (.int 0)))) fNext) (fRet (fOrV (f2 gNe (fV 1) (fC (.str "arc"))) (f1 is_round_G (fCons (fV 0) fNil))))))
def plCheck : Rho → Option Out := (fIf (fOr (f1 gB (f1 (gKnot tNUMBERS) (fV 1))) (fOr (f1 gB (f2 gNe (f1 (on1 gLen) (fCons (fV 0) fNil)) (f2 gAdd (fC (.int 1)) (f1 (gKd tNUMBERS) (fV 1))))) (f1 gNot (f1 gB (f1 (on1 gAll) (fCons (fLc [2] (tgN 2) (fun _ => some true) (f1 is_fraction_G (fCons (fV 2) fNil)) (f1 itT (fSl (fV 0) (f1 gI (fC (.int 1))) (fun _ => some none)))) fNil)))))) (fRet (fC (.bool false))) fNext)
theorem plCheck_ev (r : Pl) : plCheck [some (plD r), some (.str (wordP r)), none] = some (.nxt [some (plD r), some (.str (wordP r)), none]) := by
  have hk := num_look _ (num_mem r)
  have g1 : gKnot tNUMBERS (.str (wordP r)) = some (.bool false) := by
    show (tNUMBERS.lookup (wordP r)).map _ = _
    rw [hk]
    rfl
  have g2 : gKd tNUMBERS (.str (wordP r)) = some (.int ((plF r).length : Int)) := by
    show (tNUMBERS.lookup (wordP r)).map _ = _
    rw [hk]
    rfl
  have g3 : gNe (.int ((plF r).length + 1 : Nat)) (.int (1 + ((plF r).length : Int))) = some (.bool false) := by
    rw [gNe_int, decide_eq_true (by omega)]
    rfl
  have hs : gSl (plD r) (some 1) none = some (.tuple ((plF r).map fr)) := by
    rw [plD_eq]
    show some (PyData.tuple (cutL (.str (wordP r) :: (plF r).map fr) (some ((1 : Nat) : Int)) none)) = _
    rw [cutL_drop _ 1 (by simp)]
    rfl
  have hlc := map_lc (f1 is_fraction_G (fCons (fV 2) fNil)) (i := 2) (ρ := wipeR [some (plD r), some (.str (wordP r)), none] [2]) fr (fun _ => .bool true) (plF r) (fun a _ => ⟨fracs_ok a, rfl⟩)
  have hl : fLc [2] (tgN 2) (fun _ => some true) (f1 is_fraction_G (fCons (fV 2) fNil)) (f1 itT (fSl (fV 0) (f1 gI (fC (.int 1))) (fun _ => some none))) [some (plD r), some (.str (wordP r)), none] = some (.list ((plF r).map fun _ => .bool true)) := by
    have e1 : f1 itT (fSl (fV 0) (f1 gI (fC (.int 1))) (fun _ => some none)) [some (plD r), some (.str (wordP r)), none] = some ((plF r).map fr) := by
      show ((gSl (plD r) (some 1) none).bind itT) = _
      rw [hs]
      rfl
    unfold fLc
    rw [e1]
    show (if ((plF r).map fr).length ≤ 1000000 then _ else none) = _
    rw [if_pos (by rw [List.length_map]; have := plF_len r; omega), hlc]
    rfl
  have ha : f1 (on1 gAll) (fCons (fLc [2] (tgN 2) (fun _ => some true) (f1 is_fraction_G (fCons (fV 2) fNil)) (f1 itT (fSl (fV 0) (f1 gI (fC (.int 1))) (fun _ => some none)))) fNil) [some (plD r), some (.str (wordP r)), none] = some (.bool true) := by
    show ((fLc [2] (tgN 2) (fun _ => some true) (f1 is_fraction_G (fCons (fV 2) fNil)) (f1 itT (fSl (fV 0) (f1 gI (fC (.int 1))) (fun _ => some none))) [some (plD r), some (.str (wordP r)), none]).bind _).bind _ = _
    rw [hl]
    exact asBools_true (plF r)
  have t1 : f1 gB (f1 (gKnot tNUMBERS) (fV 1)) [some (plD r), some (.str (wordP r)), none] = some false := by
    simp [f1, f2, fV, fC, fCons, fNil, fSeq, fSet, fRet, fIf, fNext, fNever, fAnd, fOr, fAndV, fOrV, fUnp, fPar, fSl, fChain, tgF, tgN, gTu, gLs, startR, defG, outV, on1, on2, gB, gNot, gNotV, gI, g1]
  have t2 : f1 gB (f2 gNe (f1 (on1 gLen) (fCons (fV 0) fNil)) (f2 gAdd (fC (.int 1)) (f1 (gKd tNUMBERS) (fV 1)))) [some (plD r), some (.str (wordP r)), none] = some false := by
    have l := len_pl r
    show (((gLen (plD r)).bind _).bind _) = _
    rw [l]
    show ((((gKd tNUMBERS (.str (wordP r))).bind _).bind _).bind _) = _
    rw [g2]
    show ((gNe (.int ((plF r).length + 1 : Nat)) (.int (1 + ((plF r).length : Int)))).bind gB) = _
    rw [g3]
    rfl
  have t3 : f1 gNot (f1 gB (f1 (on1 gAll) (fCons (fLc [2] (tgN 2) (fun _ => some true) (f1 is_fraction_G (fCons (fV 2) fNil)) (f1 itT (fSl (fV 0) (f1 gI (fC (.int 1))) (fun _ => some none)))) fNil))) [some (plD r), some (.str (wordP r)), none] = some false := by
    show (((f1 (on1 gAll) (fCons (fLc [2] (tgN 2) (fun _ => some true) (f1 is_fraction_G (fCons (fV 2) fNil)) (f1 itT (fSl (fV 0) (f1 gI (fC (.int 1))) (fun _ => some none)))) fNil) [some (plD r), some (.str (wordP r)), none]).bind gB).bind gNot) = _
    rw [ha]
    rfl
  unfold plCheck fIf fOr
  rw [t1]
  simp only [Option.bind_some, Bool.false_eq_true, if_false]
  rw [t2]
  simp only [Option.bind_some, Bool.false_eq_true, if_false]
  rw [t3]
  rfl
theorem gLe_i (a b : Int) : gLe (.int a) (.int b) = some (.bool (decide (a ≤ b))) := rfl
theorem round_ev {E : Nat} (hE : E ≤ 2 ^ 640) {a b c d : Rat} (h : PlOk E (.arc a b c d)) : is_round_G [plD (.arc a b c d)] = some (.bool true) := by
  have z0 : Bd E 1048576 0 := .zero h.1.pos
  have f1' := far_ev (p := (a, b)) (q := (0, 0)) h.1 h.2.1 z0 z0 hE (by decide)
  have f2' := far_ev (p := (a, b)) (q := (c, d)) h.1 h.2.1 h.2.2.1 h.2.2.2.1 hE (by decide)
  have hf := h.2.2.2.2.2
  have i1 : gIx (plD (.arc a b c d)) (.int 1) = some (fr a) := rfl
  have i2 : gIx (plD (.arc a b c d)) (.int 2) = some (fr b) := rfl
  have i3 : gIx (plD (.arc a b c d)) (.int 3) = some (fr c) := rfl
  have i4 : gIx (plD (.arc a b c d)) (.int 4) = some (fr d) := rfl
  have hn := gNe_pt (a, b) (0, 0)
  rw [decide_eq_false h.2.2.2.2.1] at hn
  have he := gEq_fr (farR (a, b) (0, 0)) (farR (a, b) (c, d))
  rw [decide_eq_true hf] at he
  simp only [is_round_G, F_is_round, nought]
  simp [f1, f2, fV, fC, fCons, fNil, fSeq, fSet, fRet, fIf, fNext, fNever, fAnd, fOr, fAndV, fOrV, fUnp, fPar, fSl, fChain, tgF, tgN, gTu, gLs, startR, defG, outV, on1, on2, gB, gNot, gNotV, gI, i1, i2, i3, i4, pt_fold, hn, f1', f2', he]
theorem plTail_ev {E : Nat} (hE : E ≤ 2 ^ 640) : ∀ {r : Pl}, PlOk E r → outV (plTail [some (plD r), some (.str (wordP r)), none]) = some (.bool true)
  | .go a, h => by
    unfold plTail
    simp [f1, f2, fV, fC, fCons, fNil, fSeq, fSet, fRet, fIf, fNext, fNever, fAnd, fOr, fAndV, fOrV, fUnp, fPar, fSl, fChain, tgF, tgN, gTu, gLs, startR, defG, outV, on1, on2, gB, gNot, gNotV, gI, wordP, eq_go_go, eq_go_skip, eq_go_side, eq_go_dot, eq_go_mirror, eq_go_grow, eq_go_quarter, eq_go_half, eq_go_arc, eq_go_again, eq_go_keep, eq_go_ever, eq_go_none, ne_go_go, ne_go_skip, ne_go_side, ne_go_dot, ne_go_mirror, ne_go_grow, ne_go_quarter, ne_go_half, ne_go_arc, ne_go_again, ne_go_keep, ne_go_ever, ne_go_none, in_go_tuple, in_go_list, in_go_six]
  | .skip a, h => by
    unfold plTail
    simp [f1, f2, fV, fC, fCons, fNil, fSeq, fSet, fRet, fIf, fNext, fNever, fAnd, fOr, fAndV, fOrV, fUnp, fPar, fSl, fChain, tgF, tgN, gTu, gLs, startR, defG, outV, on1, on2, gB, gNot, gNotV, gI, wordP, eq_skip_go, eq_skip_skip, eq_skip_side, eq_skip_dot, eq_skip_mirror, eq_skip_grow, eq_skip_quarter, eq_skip_half, eq_skip_arc, eq_skip_again, eq_skip_keep, eq_skip_ever, eq_skip_none, ne_skip_go, ne_skip_skip, ne_skip_side, ne_skip_dot, ne_skip_mirror, ne_skip_grow, ne_skip_quarter, ne_skip_half, ne_skip_arc, ne_skip_again, ne_skip_keep, ne_skip_ever, ne_skip_none, in_skip_tuple, in_skip_list, in_skip_six]
  | .side a b, h => by
    unfold plTail
    simp [f1, f2, fV, fC, fCons, fNil, fSeq, fSet, fRet, fIf, fNext, fNever, fAnd, fOr, fAndV, fOrV, fUnp, fPar, fSl, fChain, tgF, tgN, gTu, gLs, startR, defG, outV, on1, on2, gB, gNot, gNotV, gI, wordP, eq_side_go, eq_side_skip, eq_side_side, eq_side_dot, eq_side_mirror, eq_side_grow, eq_side_quarter, eq_side_half, eq_side_arc, eq_side_again, eq_side_keep, eq_side_ever, eq_side_none, ne_side_go, ne_side_skip, ne_side_side, ne_side_dot, ne_side_mirror, ne_side_grow, ne_side_quarter, ne_side_half, ne_side_arc, ne_side_again, ne_side_keep, ne_side_ever, ne_side_none, in_side_tuple, in_side_list, in_side_six]
  | .dot, h => by
    unfold plTail
    simp [f1, f2, fV, fC, fCons, fNil, fSeq, fSet, fRet, fIf, fNext, fNever, fAnd, fOr, fAndV, fOrV, fUnp, fPar, fSl, fChain, tgF, tgN, gTu, gLs, startR, defG, outV, on1, on2, gB, gNot, gNotV, gI, wordP, eq_dot_go, eq_dot_skip, eq_dot_side, eq_dot_dot, eq_dot_mirror, eq_dot_grow, eq_dot_quarter, eq_dot_half, eq_dot_arc, eq_dot_again, eq_dot_keep, eq_dot_ever, eq_dot_none, ne_dot_go, ne_dot_skip, ne_dot_side, ne_dot_dot, ne_dot_mirror, ne_dot_grow, ne_dot_quarter, ne_dot_half, ne_dot_arc, ne_dot_again, ne_dot_keep, ne_dot_ever, ne_dot_none, in_dot_tuple, in_dot_list, in_dot_six]
  | .mirror, h => by
    unfold plTail
    simp [f1, f2, fV, fC, fCons, fNil, fSeq, fSet, fRet, fIf, fNext, fNever, fAnd, fOr, fAndV, fOrV, fUnp, fPar, fSl, fChain, tgF, tgN, gTu, gLs, startR, defG, outV, on1, on2, gB, gNot, gNotV, gI, wordP, eq_mirror_go, eq_mirror_skip, eq_mirror_side, eq_mirror_dot, eq_mirror_mirror, eq_mirror_grow, eq_mirror_quarter, eq_mirror_half, eq_mirror_arc, eq_mirror_again, eq_mirror_keep, eq_mirror_ever, eq_mirror_none, ne_mirror_go, ne_mirror_skip, ne_mirror_side, ne_mirror_dot, ne_mirror_mirror, ne_mirror_grow, ne_mirror_quarter, ne_mirror_half, ne_mirror_arc, ne_mirror_again, ne_mirror_keep, ne_mirror_ever, ne_mirror_none, in_mirror_tuple, in_mirror_list, in_mirror_six]
  | .left, h => by
    unfold plTail
    simp [f1, f2, fV, fC, fCons, fNil, fSeq, fSet, fRet, fIf, fNext, fNever, fAnd, fOr, fAndV, fOrV, fUnp, fPar, fSl, fChain, tgF, tgN, gTu, gLs, startR, defG, outV, on1, on2, gB, gNot, gNotV, gI, wordP, eq_left_go, eq_left_skip, eq_left_side, eq_left_dot, eq_left_mirror, eq_left_grow, eq_left_quarter, eq_left_half, eq_left_arc, eq_left_again, eq_left_keep, eq_left_ever, eq_left_none, ne_left_go, ne_left_skip, ne_left_side, ne_left_dot, ne_left_mirror, ne_left_grow, ne_left_quarter, ne_left_half, ne_left_arc, ne_left_again, ne_left_keep, ne_left_ever, ne_left_none, in_left_tuple, in_left_list, in_left_six]
  | .right, h => by
    unfold plTail
    simp [f1, f2, fV, fC, fCons, fNil, fSeq, fSet, fRet, fIf, fNext, fNever, fAnd, fOr, fAndV, fOrV, fUnp, fPar, fSl, fChain, tgF, tgN, gTu, gLs, startR, defG, outV, on1, on2, gB, gNot, gNotV, gI, wordP, eq_right_go, eq_right_skip, eq_right_side, eq_right_dot, eq_right_mirror, eq_right_grow, eq_right_quarter, eq_right_half, eq_right_arc, eq_right_again, eq_right_keep, eq_right_ever, eq_right_none, ne_right_go, ne_right_skip, ne_right_side, ne_right_dot, ne_right_mirror, ne_right_grow, ne_right_quarter, ne_right_half, ne_right_arc, ne_right_again, ne_right_keep, ne_right_ever, ne_right_none, in_right_tuple, in_right_list, in_right_six]
  | .round, h => by
    unfold plTail
    simp [f1, f2, fV, fC, fCons, fNil, fSeq, fSet, fRet, fIf, fNext, fNever, fAnd, fOr, fAndV, fOrV, fUnp, fPar, fSl, fChain, tgF, tgN, gTu, gLs, startR, defG, outV, on1, on2, gB, gNot, gNotV, gI, wordP, eq_round_go, eq_round_skip, eq_round_side, eq_round_dot, eq_round_mirror, eq_round_grow, eq_round_quarter, eq_round_half, eq_round_arc, eq_round_again, eq_round_keep, eq_round_ever, eq_round_none, ne_round_go, ne_round_skip, ne_round_side, ne_round_dot, ne_round_mirror, ne_round_grow, ne_round_quarter, ne_round_half, ne_round_arc, ne_round_again, ne_round_keep, ne_round_ever, ne_round_none, in_round_tuple, in_round_list, in_round_six]
  | .grow a, h => by
    have i1 : gIx (plD (.grow a)) (.int 1) = some (fr a) := rfl
    have g0 : gIx (fr a) (.int 0) = some (.int a.num) := rfl
    have g1 : gIx (fr a) (.int 1) = some (.int a.den) := rfl
    obtain ⟨h1, h2, h3⟩ := h
    have l1 : gLe (.int 1) (.int a.num) = some (.bool true) := by rw [gLe_i, decide_eq_true h1]
    have l2 : gLe (.int a.num) (.int 12) = some (.bool true) := by rw [gLe_i, decide_eq_true h2]
    have l3 : gLe (.int a.den) (.int 12) = some (.bool true) := by rw [gLe_i, decide_eq_true (by omega)]
    unfold plTail
    simp [f1, f2, fV, fC, fCons, fNil, fSeq, fSet, fRet, fIf, fNext, fNever, fAnd, fOr, fAndV, fOrV, fUnp, fPar, fSl, fChain, tgF, tgN, gTu, gLs, startR, defG, outV, on1, on2, gB, gNot, gNotV, gI, wordP, eq_grow_go, eq_grow_skip, eq_grow_side, eq_grow_dot, eq_grow_mirror, eq_grow_grow, eq_grow_quarter, eq_grow_half, eq_grow_arc, eq_grow_again, eq_grow_keep, eq_grow_ever, eq_grow_none, ne_grow_go, ne_grow_skip, ne_grow_side, ne_grow_dot, ne_grow_mirror, ne_grow_grow, ne_grow_quarter, ne_grow_half, ne_grow_arc, ne_grow_again, ne_grow_keep, ne_grow_ever, ne_grow_none, in_grow_tuple, in_grow_list, in_grow_six, i1, g0, g1, l1, l2, l3]
  | .quarter a, h => by
    have i1 : gIx (plD (.quarter a)) (.int 1) = some (fr a) := rfl
    have g0 : gIx (fr a) (.int 0) = some (.int a.num) := rfl
    have hn := gNe_int a.num 0
    rw [decide_eq_false (fun z => h.2 (Rat.num_eq_zero.mp z))] at hn
    unfold plTail
    simp [f1, f2, fV, fC, fCons, fNil, fSeq, fSet, fRet, fIf, fNext, fNever, fAnd, fOr, fAndV, fOrV, fUnp, fPar, fSl, fChain, tgF, tgN, gTu, gLs, startR, defG, outV, on1, on2, gB, gNot, gNotV, gI, wordP, eq_quarter_go, eq_quarter_skip, eq_quarter_side, eq_quarter_dot, eq_quarter_mirror, eq_quarter_grow, eq_quarter_quarter, eq_quarter_half, eq_quarter_arc, eq_quarter_again, eq_quarter_keep, eq_quarter_ever, eq_quarter_none, ne_quarter_go, ne_quarter_skip, ne_quarter_side, ne_quarter_dot, ne_quarter_mirror, ne_quarter_grow, ne_quarter_quarter, ne_quarter_half, ne_quarter_arc, ne_quarter_again, ne_quarter_keep, ne_quarter_ever, ne_quarter_none, in_quarter_tuple, in_quarter_list, in_quarter_six, i1, g0, hn]
  | .half a, h => by
    have i1 : gIx (plD (.half a)) (.int 1) = some (fr a) := rfl
    have g0 : gIx (fr a) (.int 0) = some (.int a.num) := rfl
    have hn := gNe_int a.num 0
    rw [decide_eq_false (fun z => h.2 (Rat.num_eq_zero.mp z))] at hn
    unfold plTail
    simp [f1, f2, fV, fC, fCons, fNil, fSeq, fSet, fRet, fIf, fNext, fNever, fAnd, fOr, fAndV, fOrV, fUnp, fPar, fSl, fChain, tgF, tgN, gTu, gLs, startR, defG, outV, on1, on2, gB, gNot, gNotV, gI, wordP, eq_half_go, eq_half_skip, eq_half_side, eq_half_dot, eq_half_mirror, eq_half_grow, eq_half_quarter, eq_half_half, eq_half_arc, eq_half_again, eq_half_keep, eq_half_ever, eq_half_none, ne_half_go, ne_half_skip, ne_half_side, ne_half_dot, ne_half_mirror, ne_half_grow, ne_half_quarter, ne_half_half, ne_half_arc, ne_half_again, ne_half_keep, ne_half_ever, ne_half_none, in_half_tuple, in_half_list, in_half_six, i1, g0, hn]
  | .arc a b c d, h => by
    have hr := round_ev hE h
    unfold plTail
    simp [f1, f2, fV, fC, fCons, fNil, fSeq, fSet, fRet, fIf, fNext, fNever, fAnd, fOr, fAndV, fOrV, fUnp, fPar, fSl, fChain, tgF, tgN, gTu, gLs, startR, defG, outV, on1, on2, gB, gNot, gNotV, gI, wordP, eq_arc_go, eq_arc_skip, eq_arc_side, eq_arc_dot, eq_arc_mirror, eq_arc_grow, eq_arc_quarter, eq_arc_half, eq_arc_arc, eq_arc_again, eq_arc_keep, eq_arc_ever, eq_arc_none, ne_arc_go, ne_arc_skip, ne_arc_side, ne_arc_dot, ne_arc_mirror, ne_arc_grow, ne_arc_quarter, ne_arc_half, ne_arc_arc, ne_arc_again, ne_arc_keep, ne_arc_ever, ne_arc_none, in_arc_tuple, in_arc_list, in_arc_six, hr]
theorem plain_ev {E : Nat} (hE : E ≤ 2 ^ 640) {r : Pl} (h : PlOk E r) : is_plain_row_G [plD r] = some (.bool true) := by
  have hw : fSet 1 (f1 word_of_G (fCons (fV 0) fNil)) [some (plD r), none, none] = some (.nxt [some (plD r), some (.str (wordP r)), none]) := by
    simp [f1, f2, fV, fC, fCons, fNil, fSeq, fSet, fRet, fIf, fNext, fNever, fAnd, fOr, fAndV, fOrV, fUnp, fPar, fSl, fChain, tgF, tgN, gTu, gLs, startR, defG, outV, on1, on2, gB, gNot, gNotV, gI, word_pl]
  show outV (fSeq (fSet 1 (f1 word_of_G (fCons (fV 0) fNil))) (fSeq plCheck plTail) [some (plD r), none, none]) = _
  rw [fSeq_nxt hw, fSeq_nxt (plCheck_ev r)]
  exact plTail_ev hE h
theorem block_ev {k : Kd} (l : List PyData) (h : timesK k ≤ 12) : is_block_G [blkD k l] = some (.bool true) := by
  have ht : gIsi "tuple" (.tuple l) = some (.bool true) := by rfl
  cases k with
  | again t =>
    have i0 : gIx (blkD (.again t) l) (.int 0) = some (.str "again") := rfl
    have i1 : gIx (blkD (.again t) l) (.int 1) = some (.int (t : Int)) := rfl
    have i2 : gIx (blkD (.again t) l) (.int 2) = some (.tuple l) := rfl
    have hl : gLen (blkD (.again t) l) = some (.int 3) := rfl
    have h3 : gEq (.int 3) (.int 3) = some (.bool true) := gEq_int 3 3
    have l1 : gLe (.int 0) (.int (t : Int)) = some (.bool true) := by rw [gLe_i, decide_eq_true (by omega)]
    have l2 : gLe (.int (t : Int)) (.int 12) = some (.bool true) := by
      have : t ≤ 12 := h
      rw [gLe_i, decide_eq_true (by omega)]
    simp only [is_block_G, F_is_block]
    simp [f1, f2, fV, fC, fCons, fNil, fSeq, fSet, fRet, fIf, fNext, fNever, fAnd, fOr, fAndV, fOrV, fUnp, fPar, fSl, fChain, tgF, tgN, gTu, gLs, startR, defG, outV, on1, on2, gB, gNot, gNotV, gI, hl, gSub_i, i2, ht, i0, eq_again_again, h3, i1, whole_ok, l1, l2]
  | keep =>
    have i0 : gIx (blkD .keep l) (.int 0) = some (.str "keep") := rfl
    have i2 : gIx (blkD .keep l) (.int 1) = some (.tuple l) := rfl
    have hl : gLen (blkD .keep l) = some (.int 2) := rfl
    have h3 : gEq (.int 2) (.int 2) = some (.bool true) := gEq_int 2 2
    simp only [is_block_G, F_is_block]
    simp [f1, f2, fV, fC, fCons, fNil, fSeq, fSet, fRet, fIf, fNext, fNever, fAnd, fOr, fAndV, fOrV, fUnp, fPar, fSl, fChain, tgF, tgN, gTu, gLs, startR, defG, outV, on1, on2, gB, gNot, gNotV, gI, hl, gSub_i, i2, ht, i0, eq_keep_again, h3]
  | ever =>
    have i0 : gIx (blkD .ever l) (.int 0) = some (.str "ever") := rfl
    have i2 : gIx (blkD .ever l) (.int 1) = some (.tuple l) := rfl
    have hl : gLen (blkD .ever l) = some (.int 2) := rfl
    have h3 : gEq (.int 2) (.int 2) = some (.bool true) := gEq_int 2 2
    simp only [is_block_G, F_is_block]
    simp [f1, f2, fV, fC, fCons, fNil, fSeq, fSet, fRet, fIf, fNext, fNever, fAnd, fOr, fAndV, fOrV, fUnp, fPar, fSl, fChain, tgF, tgN, gTu, gLs, startR, defG, outV, on1, on2, gB, gNot, gNotV, gI, hl, gSub_i, i2, ht, i0, eq_ever_again, h3]
def isEv : Kd → Bool
  | .ever => true
  | _ => false
theorem isW_ever (k : Kd) (l : List PyData) : isW (blkD k l) "ever" = some (isEv k) := by
  rw [(isW_bl k l).2.2]
  cases k <;> rfl
theorem noEver_blk {k : Kd} {b p : Prog} : noEver (.blk k b p) = ((!isEv k) && noEver b && noEver p) := by
  cases k <;> rfl
theorem look_ev {E : Nat} (hE0 : 0 < E) (hE : E ≤ 2 ^ 640) : ∀ (n : Nat) (p : Prog), deepN p < n → AllPl E p → Lim p → EvOk p → ∀ (deep : Int) (within : Bool), 0 ≤ deep → deep + (deepN p : Int) ≤ 4 → (within = true → noEver p = true) → lookR n (enc p) deep within = some ()
  | 0, _, h, _, _, _ => absurd h (Nat.not_lt_zero _)
  | n + 1, p, hn, ha, hl, hv => by
    have ih := look_ev hE0 hE n
    show ∀ (deep : Int) (within : Bool), 0 ≤ deep → deep + (deepN p : Int) ≤ 4 → (within = true → noEver p = true) → lookL (lookR n) (enc p) deep within = some ()
    intro deep within hdeep
    induction p with
    | nil => exact fun _ _ => rfl
    | pl r p ihp =>
      intro h4 hw
      have h1 : lookOne (lookR n) (plD r) deep within = some () := by
        have hb : blkW (plD r) = some false := by
          show (((word_of_G [plD r]).bind _)) = _
          rw [word_pl]
          show (((gIn (.str (wordP r)) (.tuple [.str "again", .str "keep", .str "ever"]))).bind gB) = _
          rw [inP_tuple]
          rfl
        unfold lookOne
        rw [hb]
        show (((is_plain_row_G [plD r]).bind gB).bind _) = _
        rw [plain_ev hE ha.1]
        rfl
      show ((lookOne (lookR n) (plD r) deep within).bind _) = _
      rw [h1]
      exact ihp hn ha.2 hl hv h4 hw
    | blk k b p ihb ihp =>
      intro h4 hw
      clear ihb
      have hdp : deepN (.blk k b p) = max (1 + deepN b) (deepN p) := rfl
      rw [hdp] at h4
      have hwb : within = true → noEver b = true ∧ noEver p = true ∧ isEv k = false := fun z => by
        have h := hw z
        rw [noEver_blk, Bool.and_eq_true, Bool.and_eq_true] at h
        exact ⟨h.1.2, h.2, by
          have := h.1.1
          cases hk : isEv k
          · rfl
          · rw [hk] at this
            cases this⟩
      have h1 : lookOne (lookR n) (blkD k (enc b)) deep within = some () := by
        have hb : blkW (blkD k (enc b)) = some true := by
          show (((word_of_G [blkD k (enc b)]).bind _)) = _
          rw [word_bl]
          show (((gIn (.str (wordK k)) (.tuple [.str "again", .str "keep", .str "ever"]))).bind gB) = _
          rw [inK_tuple]
          rfl
        have hib : ((is_block_G [blkD k (enc b)]).bind gB) = some true := by
          rw [block_ev _ hl.1]
          rfl
        have hla : (lastD (blkD k (enc b))).bind tupO = some (enc b) := by
          have h := lastK k (enc b)
          show (((gLen (blkD k (enc b))).bind fun n => (gSub n (.int 1)).bind fun i => gIx (blkD k (enc b)) i).bind tupO) = _
          rw [h]
          rfl
        have hlk := ih b (dB hn).1 ha.1 hl.2.2.1 hv.2.1 (deep + 1) (within || isEv k) (by omega) (by omega) (fun z => by
          rcases Bool.or_eq_true_iff.mp z with y | y
          · exact (hwb y).1
          · cases k with
            | again t => cases y
            | keep => cases y
            | ever => exact hv.1.2)
        have hgo : isEv k = true → ((goes_on_G [.tuple (enc b)]).bind gB) = some true := fun z => by
          cases k with
          | again t => cases z
          | keep => cases z
          | ever =>
            rw [goes_on_ev hE0 hE (by omega) ha.1 hl.2.2.1 (by have := hl.2.1; omega), hv.1.1]
            rfl
        have hcond : (true && !decide (deep = 4) && !(within && isEv k)) = true := by
          have hd : deep ≠ 4 := by omega
          rw [decide_eq_false hd]
          cases within with
          | false => rfl
          | true => rw [(hwb rfl).2.2]; rfl
        unfold lookOne
        rw [hb]
        show lookInto (lookR n) (blkD k (enc b)) deep within = _
        unfold lookInto
        rw [isW_ever, hib]
        simp only [Option.bind_some]
        rw [if_pos hcond, hla]
        simp only [Option.bind_some]
        rw [hlk]
        simp only [Option.bind_some]
        cases he : isEv k with
        | false => rfl
        | true =>
          rw [hgo he]
          rfl
      show ((lookOne (lookR n) (blkD k (enc b)) deep within).bind _) = _
      rw [h1]
      exact ihp (dB hn).2 ha.2 hl.2.2.2 hv.2.2 (by omega) (fun z => (hwb z).2.1)
theorem program_of_ev {E : Nat} (hE0 : 0 < E) (hE : E ≤ 2 ^ 640) {p : Prog} (h4 : deepN p ≤ 4) (ha : AllPl E p) (hl : Lim p) (hv : EvOk p) (hr : rowsN p ≤ 60) : program_of_G [.tuple (enc p)] = some (.tuple (enc p)) := by
  have h1 := look_ev hE0 hE 8 p (by omega) ha hl hv 0 false (by decide) (by omega) (fun z => by cases z)
  have h2 : rows_in_G [.tuple (enc p)] = some (.int (rowsN p : Int)) := (lines_ev 8 p (by omega)).2.2
  show (if immAll (enc p) = true then _ else none) = _
  rw [if_pos (imm_enc p), h1]
  show (((rows_in_G [.tuple (enc p)]).bind intO).bind _) = _
  rw [h2]
  show (if (rowsN p : Int) ≤ 60 then _ else none) = _
  rw [if_pos (by omega)]
theorem lines_rows : ∀ p : Prog, linesN p ≤ 2 * rowsN p
  | .nil => Nat.le_refl _
  | .pl r p => by
    have := lines_rows p
    show 1 + linesN p ≤ 2 * (1 + rowsN p)
    omega
  | .blk k b p => by
    have := lines_rows p
    have := lines_rows b
    show 2 + linesN b + linesN p ≤ 2 * (1 + rowsN b + rowsN p)
    omega
/-- written and read, a sound program is the same -/
theorem text_ev {E : Nat} (hE0 : 0 < E) (hE : E ≤ 2 ^ 640) {p : Prog} (h4 : deepN p ≤ 4) (ha : AllPl E p) (hl : Lim p) (hv : EvOk p) (hr : rowsN p ≤ 60) (hf : FewG p) : written_G [.tuple (enc p)] = some (.str (textP p)) ∧ read_G [.str (textP p)] = some (.tuple (enc p)) := by
  have hn := lines_rows p
  refine ⟨written_ev (by omega) hf hl (by omega), ?_⟩
  rw [read_text (by omega) hf hl (by omega) (by omega)]
  exact program_of_ev hE0 hE h4 ha hl hv hr
end Arc
set_option Elab.async false
set_option linter.all false
set_option maxRecDepth 100000
set_option maxHeartbeats 1000000
set_option exponentiation.threshold 200
namespace Arc
open PySem L2 TL
/-! ## drawn numbers -/
theorem mk_bd {t : Int} {d m : Nat} (hd : 0 < d) (ht : t.natAbs ≤ m * d) : Bd d m (mkRat t d) := by
  have h0 : (d : Rat) ≠ 0 := by
    intro z
    have : ((d : Rat)).num = 0 := by rw [z]; rfl
    rw [Rat.num_natCast] at this
    omega
  refine ⟨hd, t, ?_, ht⟩
  rw [Rat.mkRat_eq_div, Rat.mul_comm]
  exact Rat.div_mul_cancel h0
theorem int_bd (t : Int) {m : Nat} (h : t.natAbs ≤ m) : Bd 1 m (t : Rat) := ⟨Nat.one_pos, t, by
  rw [show ((1 : Nat) : Rat) = 1 from rfl, Rat.one_mul], by omega⟩
theorem sm_small {d m : Nat} {r : Rat} (h : Bd d m r) (hd : d ≤ 2 ^ 50) (hm : m ≤ 2 ^ 50) : Sm r := by
  refine h.sm (Nat.lt_of_le_of_lt hd (Nat.pow_lt_pow_right (by decide) (by decide))) ?_
  have h2 := Nat.mul_le_mul hm hd
  rw [← Nat.pow_add] at h2
  exact Nat.lt_of_le_of_lt h2 (Nat.pow_lt_pow_right (by decide) (by decide))
theorem lg {d : Nat} (hp : 0 < d) (h : d ≤ 2 ^ 50) : d.log2 < 9000 := by
  rw [Nat.log2_lt (by omega)]
  exact Nat.lt_of_le_of_lt h (Nat.pow_lt_pow_right (by decide) (by decide))
theorem mul_i {a b : Int} (h0 : 0 ≤ a) (h1 : a ≤ 2147483647) (h2 : 0 ≤ b) (h3 : b ≤ 2147483647) : gMul (.int a) (.int b) = some (.int (a * b)) := by
  show (if CMulW a b then _ else _) = _
  rw [if_pos (cmul_small h0 h1 h2 h3)]
theorem mod_i (a : Int) {b : Int} (h : 0 < b) : gMod (.int a) (.int b) = some (.int (a % b)) := by
  show (if (0 : Int) < b then _ else _) = _
  rw [if_pos h]
theorem div_41 (a : Int) : gDiv (.int a) (.int 41) = some (.int (a / 41)) := by
  have c : CDivW a 41 := ⟨by decide, by decide +kernel⟩
  show (if CDivW a 41 then some (PyData.int (a / 41)) else none) = _
  rw [if_pos c]
/-- a number of a cell -/
def Cel (a : Int) : Prop := 0 ≤ a ∧ a < 1000000
theorem drawn_big {a b : Int} (ha : Cel a) (hb : Cel b) (h : b % 5 = 4) : law_drawn_G [.int a, .int b] = law_ratio_G [.int (a * 7 % 1999999 - 999999), .int (1 + b * 13 % 999999)] := by
  have e : gEq (.int (b % 5)) (.int 4) = some (.bool true) := by rw [gEq_int, decide_eq_true h]
  have m1 := mul_i (a := a) (b := 7) ha.1 (by have := ha.2; omega) (by decide) (by decide)
  have m2 := mul_i (a := b) (b := 13) hb.1 (by have := hb.2; omega) (by decide) (by decide)
  have d1 := mod_i b (b := 5) (by decide)
  have d2 := mod_i (a * 7) (b := 1999999) (by decide)
  have d3 := mod_i (b * 13) (b := 999999) (by decide)
  show outV (F_law_drawn [some (.int a), some (.int b)]) = _
  unfold F_law_drawn
  simp [f1, f2, fV, fC, fCons, fNil, fSeq, fSet, fRet, fIf, fNext, fNever, fAnd, fOr, fAndV, fOrV, fUnp, fPar, fSl, fChain, tgF, tgN, gTu, gLs, startR, defG, outV, on1, on2, gB, gNot, gNotV, gI, d1, e, m1, d2, gSub_i, m2, d3, gAdd_i]
  cases law_ratio_G [.int (a * 7 % 1999999 - 999999), .int (1 + b * 13 % 999999)] <;> rfl
theorem drawn_small {a b : Int} {c : Int} (ha : Cel a) (hb : Cel b) (h : b % 5 ≠ 4) (hc : c = if b % 3 = 2 then 9 else 1) : law_drawn_G [.int a, .int b] = law_ratio_G [.int (a % 41 - 20), .int (1 + a / 41 % c)] := by
  have e : gEq (.int (b % 5)) (.int 4) = some (.bool false) := by rw [gEq_int, decide_eq_false h]
  have d1 := mod_i b (b := 5) (by decide)
  have d2 := mod_i a (b := 41) (by decide)
  have d3 := mod_i b (b := 3) (by decide)
  have d4 : gMod (.int (a / 41)) (.int c) = some (.int (a / 41 % c)) := mod_i _ (by rw [hc]; split <;> decide)
  have i : gIx (.list [.int 1, .int 1, .int 9]) (.int (b % 3)) = some (.int c) := by
    have h3 : b % 3 = 0 ∨ b % 3 = 1 ∨ b % 3 = 2 := by omega
    rcases h3 with z | z | z
    · rw [z] at hc ⊢
      rw [hc]
      rfl
    · rw [z] at hc ⊢
      rw [hc]
      rfl
    · rw [z] at hc ⊢
      rw [hc]
      rfl
  show outV (F_law_drawn [some (.int a), some (.int b)]) = _
  unfold F_law_drawn
  simp [f1, f2, fV, fC, fCons, fNil, fSeq, fSet, fRet, fIf, fNext, fNever, fAnd, fOr, fAndV, fOrV, fUnp, fPar, fSl, fChain, tgF, tgN, gTu, gLs, startR, defG, outV, on1, on2, gB, gNot, gNotV, gI, d1, e, d2, gSub_i, div_41, d3, i, d4, gAdd_i]
  cases law_ratio_G [.int (a % 41 - 20), .int (1 + a / 41 % c)] <;> rfl
theorem ratio_pos {t b : Int} (hb : 0 < b) (h : b ≤ 1000000) : law_ratio_G [.int t, .int b] = some (fr (mkRat t b.toNat)) := by
  have e := law_ratio_ev t b.toNat (by omega) (lg (by omega) (Nat.le_trans (show b.toNat ≤ 1000000 by omega) (by decide)))
  rw [Int.toNat_of_nonneg (by omega)] at e
  exact e
theorem drawn_num {a b : Int} (ha : Cel a) (hb : Cel b) : ∃ r d, law_drawn_G [.int a, .int b] = some (fr r) ∧ d ≤ 1000000 ∧ RB d r := by
  by_cases h : b % 5 = 4
  · have h1 : 0 < 1 + b * 13 % 999999 := by omega
    have h2 : 1 + b * 13 % 999999 ≤ 1000000 := by omega
    refine ⟨_, (1 + b * 13 % 999999).toNat, by rw [drawn_big ha hb h, ratio_pos h1 h2], by omega, mk_bd (by omega) ?_⟩
    have h3 : (a * 7 % 1999999 - 999999).natAbs ≤ 1048576 := by omega
    exact Nat.le_trans h3 (Nat.le_mul_of_pos_right _ (by omega))
  · obtain ⟨c, hc⟩ : ∃ c : Int, c = if b % 3 = 2 then 9 else 1 := ⟨_, rfl⟩
    have hc1 : 0 < c ∧ c ≤ 9 := by rw [hc]; split <;> decide
    have m0 := Int.emod_nonneg (a / 41) (show c ≠ 0 by omega)
    have m1 := Int.emod_lt_of_pos (a / 41) hc1.1
    have h1 : 0 < 1 + a / 41 % c := by omega
    have h2 : 1 + a / 41 % c ≤ 1000000 := by omega
    refine ⟨_, (1 + a / 41 % c).toNat, by rw [drawn_small ha hb h hc, ratio_pos h1 h2], by omega, mk_bd (by omega) ?_⟩
    have h3 : (a % 41 - 20).natAbs ≤ 1048576 := by omega
    exact Nat.le_trans h3 (Nat.le_mul_of_pos_right _ (by omega))
theorem drawn_int {a b : Int} (ha : Cel a) (hb : b = 0 ∨ b = 1) : law_drawn_G [.int a, .int b] = some (fr ((a % 41 - 20 : Int) : Rat)) := by
  have hb2 : Cel b := by rcases hb with z | z <;> subst z <;> exact ⟨by decide, by decide⟩
  have h5 : b % 5 ≠ 4 := by rcases hb with z | z <;> subst z <;> decide
  have hc : (1 : Int) = if b % 3 = 2 then 9 else 1 := by rcases hb with z | z <;> subst z <;> rfl
  have e1 : 1 + a / 41 % 1 = 1 := by omega
  rw [drawn_small ha hb2 h5 hc, e1, ratio_pos (by decide) (by decide)]
  rw [show (1 : Int).toNat = 1 from rfl, Rat.mkRat_one]
theorem RB.up {d d' : Nat} {r : Rat} (h : RB d r) (hd : d ∣ d') (hp : 0 < d') : RB d' r := Bd.up h hd hp (Nat.le_refl _)
/-! ## bows -/
theorem sq_nn (q : Int) : 0 ≤ q * q := by
  rw [← Int.natAbs_mul_self]
  exact Int.natCast_nonneg _
theorem fr_int (n : Int) : fr (n : Rat) = .tuple [.int n, .int 1] := rfl
theorem unit_uv {p q : Int} {s : Nat} (hs : 0 < s) (hsq : (s : Int) = q * q + p * p) : mkRat (q * q - p * p) s * mkRat (q * q - p * p) s + mkRat (2 * p * q) s * mkRat (2 * p * q) s = 1 := by
  have h0 : (s : Rat) ≠ 0 := by
    intro z
    have : ((s : Rat)).num = 0 := by rw [z]; rfl
    rw [Rat.num_natCast] at this
    omega
  have hc : (s : Rat) = (q : Rat) * q + (p : Rat) * p := by
    have : ((s : Int) : Rat) = ((q * q + p * p : Int) : Rat) := by rw [hsq]
    rw [Rat.intCast_add, Rat.intCast_mul, Rat.intCast_mul] at this
    exact this
  rw [Rat.mkRat_eq_div, Rat.mkRat_eq_div, Rat.intCast_sub, Rat.intCast_mul, Rat.intCast_mul, Rat.intCast_mul, Rat.intCast_mul]
  have e2 : ((2 : Int) : Rat) = 2 := rfl
  rw [e2, Rat.div_def, Rat.div_def]
  have hi := Rat.mul_inv_cancel (s : Rat) h0
  generalize hz : (s : Rat)⁻¹ = z at hi
  have e3 : ((q : Rat) * q - (p : Rat) * p) * z * (((q : Rat) * q - (p : Rat) * p) * z) + 2 * (p : Rat) * q * z * (2 * (p : Rat) * q * z) = ((q : Rat) * q + (p : Rat) * p) * z * (((q : Rat) * q + (p : Rat) * p) * z) := by grind
  rw [e3, ← hc, hi]
  exact Rat.mul_one 1
theorem bow_core {X Y p q : Int} {s : Nat} {row y0 p0 : PyData} {y1 : Int} {r2 r3 r4 : Int} (g0 : gIx row (.int 0) = some y0) (d0 : law_drawn_G [y0, .int 0] = some (fr (X : Rat))) (g1 : gIx row (.int 1) = some p0) (d1 : law_drawn_G [p0, .int 1] = some (fr (y1 : Rat)))
    (hY : Y = if X = 0 ∧ y1 = 0 then 2 else y1) (g2 : gIx row (.int 2) = some (.int r2)) (g3 : gIx row (.int 3) = some (.int r3)) (g4 : gIx row (.int 4) = some (.int r4))
    (hpq : gIx (.list [.tuple [.int 1, .int 0], .tuple [.int 0, .int 1], .tuple [.int (r2 % 19 - 9), .int (1 + r3 % 9)]]) (.int (if r4 % 8 < 2 then r4 % 8 else 2)) = some (.tuple [.int p, .int q]))
    (hX : X.natAbs ≤ 20) (hy1 : y1.natAbs ≤ 20) (hp : p.natAbs ≤ 10) (hq : q.natAbs ≤ 10) (hs : 0 < s) (hsq : (s : Int) = q * q + p * p) (hs2 : s ≤ 200) :
    ∃ C D : Rat, law_bow_G [row] = some (.tuple [fr (X : Rat), fr (Y : Rat), fr C, fr D]) ∧ RB s (X : Rat) ∧ RB s (Y : Rat) ∧ RB s C ∧ RB s D ∧ farR ((X : Rat), (Y : Rat)) (0, 0) = farR ((X : Rat), (Y : Rat)) (C, D) := by
  have hYn : Y.natAbs ≤ 20 := by rw [hY]; split <;> omega
  have hqq : q * q ≤ 100 ∧ 0 ≤ q * q := by
    have h1 : (q * q).natAbs = q.natAbs * q.natAbs := Int.natAbs_mul q q
    have h2 := Nat.mul_le_mul hq hq
    have h3 : 0 ≤ q * q := sq_nn q
    omega
  have hpp : p * p ≤ 100 ∧ 0 ≤ p * p := by
    have h1 : (p * p).natAbs = p.natAbs * p.natAbs := Int.natAbs_mul p p
    have h2 := Nat.mul_le_mul hp hp
    have h3 : 0 ≤ p * p := sq_nn p
    omega
  have hpq2 : (2 * p * q).natAbs ≤ 200 := by
    have h1 : (2 * p * q).natAbs = 2 * p.natAbs * q.natAbs := by rw [Int.natAbs_mul, Int.natAbs_mul]; rfl
    have h2 := Nat.mul_le_mul (Nat.mul_le_mul_left 2 hp) hq
    omega
  have bu : Bd s 200 (mkRat (q * q - p * p) s) := mk_bd hs (Nat.le_trans (show (q * q - p * p).natAbs ≤ 200 by omega) (Nat.le_mul_of_pos_right _ hs))
  have bv : Bd s 200 (mkRat (2 * p * q) s) := mk_bd hs (Nat.le_trans hpq2 (Nat.le_mul_of_pos_right _ hs))
  have bX := int_bd X hX
  have bY := int_bd Y hYn
  have bm : Bd 1 1 (((-1 : Int)) : Rat) := int_bd (-1) (by decide)
  have em0 : PyData.tuple [.int (-1), .int 1] = fr (((-1 : Int)) : Rat) := rfl
  have hmo : (((-1 : Int)) : Rat) = -1 := rfl
  generalize (((-1 : Int)) : Rat) = mo at bm em0 hmo
  have uv := unit_uv (p := p) (q := q) hs hsq
  generalize hu : mkRat (q * q - p * p) s = u at bu uv
  generalize hv : mkRat (2 * p * q) s = v at bv uv
  have bXm := bX.mul bm
  have bYm := bY.mul bm
  have b1 := bu.mul bXm
  have b2 := bv.mul bY
  have b3 := bv.mul bXm
  have b4 := bu.mul bYm
  simp only [Nat.mul_one] at bXm bYm b1 b2 b3 b4
  have br := b1.add b2
  have bp := b3.add b4
  have bXs : Bd s 20 (X : Rat) := bX.up (Nat.one_dvd _) hs (Nat.le_refl _)
  have bYs : Bd s 20 (Y : Rat) := bY.up (Nat.one_dvd _) hs (Nat.le_refl _)
  have bC := bXs.add br
  have bD := bYs.add bp
  have sm : ∀ {d m : Nat} {r : Rat}, d ≤ 200 → m ≤ 100000 → Bd d m r → Sm r := fun hd hm h => sm_small h (Nat.le_trans hd (by decide)) (Nat.le_trans hm (by decide))
  have eXm := law_times_ev (sm (by decide) (by decide) bX) (sm (by decide) (by decide) bm)
  have eYm := law_times_ev (sm (by decide) (by decide) bY) (sm (by decide) (by decide) bm)
  have e1 := law_times_ev (sm hs2 (by decide) bu) (sm (by decide) (by decide) bXm)
  have e2 := law_times_ev (sm hs2 (by decide) bv) (sm (by decide) (by decide) bY)
  have e3 := law_times_ev (sm hs2 (by decide) bv) (sm (by decide) (by decide) bXm)
  have e4 := law_times_ev (sm hs2 (by decide) bu) (sm (by decide) (by decide) bYm)
  have er := law_plus_ev (sm hs2 (by decide) b1) (sm hs2 (by decide) b2)
  have ep := law_plus_ev (sm hs2 (by decide) b3) (sm hs2 (by decide) b4)
  have eC := law_plus_ev (sm (by decide) (by decide) bX) (sm hs2 (by decide) br)
  have eD := law_plus_ev (sm (by decide) (by decide) bY) (sm hs2 (by decide) bp)
  have ru : law_ratio_G [.int (q * q - p * p), .int (q * q + p * p)] = some (fr u) := by
    have h := law_ratio_ev (q * q - p * p) s hs (lg hs (Nat.le_trans hs2 (by decide)))
    rw [hsq, hu] at h
    exact h
  have rv : law_ratio_G [.int (2 * p * q), .int (q * q + p * p)] = some (fr v) := by
    have h := law_ratio_ev (2 * p * q) s hs (lg hs (Nat.le_trans hs2 (by decide)))
    rw [hsq, hv] at h
    exact h
  have cm : ∀ {a b : Int}, a.natAbs ≤ 1000 → b.natAbs ≤ 1000 → gMul (.int a) (.int b) = some (.int (a * b)) := fun {a b} h1 h2 => by
    have l : ∀ n : Nat, n ≤ 1000 → n.log2 < 40 := fun n hn => by
      by_cases z : n = 0
      · rw [z]; decide +kernel
      · rw [Nat.log2_lt z]
        exact Nat.lt_of_le_of_lt hn (by decide)
    have c : CMulW a b := by
      have := l _ h1
      have := l _ h2
      unfold CMulW
      omega
    show (if CMulW a b then _ else _) = _
    rw [if_pos c]
  have mqq := cm (a := q) (b := q) (by omega) (by omega)
  have mpp := cm (a := p) (b := p) (by omega) (by omega)
  have m2p := cm (a := 2) (b := p) (by decide) (by omega)
  have m2pq := cm (a := 2 * p) (b := q) (by have h1 : (2 * p).natAbs = 2 * p.natAbs := by rw [Int.natAbs_mul]; rfl
                                            omega) (by omega)
  have ix0 : ∀ n : Int, gIx (fr (n : Rat)) (.int 0) = some (.int n) := fun _ => rfl
  have eqX := gEq_int X 0
  have eqY := gEq_int y1 0
  have q8 := mod_i r4 (b := 8) (by decide)
  have q19 := mod_i r2 (b := 19) (by decide)
  have q9 := mod_i r3 (b := 9) (by decide)
  have mn : gMin (.int 2) (.int (r4 % 8)) = some (.int (if r4 % 8 < 2 then r4 % 8 else 2)) := rfl
  refine ⟨(X : Rat) + (u * ((X : Rat) * mo) + v * (Y : Rat)), (Y : Rat) + (v * ((X : Rat) * mo) + u * ((Y : Rat) * mo)), ?_, ?_, ?_, ?_, ?_, ?_⟩
  · have h1 : fPar 1 2 (fCons (f1 law_drawn_G (fCons (f2 gIx (fV 0) (fC (.int 0))) (fCons (fC (.int 0)) fNil))) (fCons (f1 law_drawn_G (fCons (f2 gIx (fV 0) (fC (.int 1))) (fCons (fC (.int 1)) fNil))) fNil)) [some row, none, none, none, none, none, none, none, none, none] = some (.nxt [some row, some (fr (X : Rat)), some (fr (y1 : Rat)), none, none, none, none, none, none, none]) := by
      simp [f1, f2, fV, fC, fCons, fNil, fSeq, fSet, fRet, fIf, fNext, fNever, fAnd, fOr, fAndV, fOrV, fUnp, fPar, fSl, fChain, tgF, tgN, gTu, gLs, startR, defG, outV, on1, on2, gB, gNot, gNotV, gI, g0, g1, d0, d1]
    have h2 : (fIf (fAnd (f1 gB (f2 gEq (f2 gIx (fV 1) (fC (.int 0))) (fC (.int 0)))) (f1 gB (f2 gEq (f2 gIx (fV 2) (fC (.int 0))) (fC (.int 0))))) (fSet 2 (f1 gTu (fCons (fC (.int 2)) (fCons (fC (.int 1)) fNil)))) fNext) [some row, some (fr (X : Rat)), some (fr (y1 : Rat)), none, none, none, none, none, none, none] = some (.nxt [some row, some (fr (X : Rat)), some (fr (Y : Rat)), none, none, none, none, none, none, none]) := by
      by_cases c1 : X = 0
      · by_cases c2 : y1 = 0
        · have eY : Y = 2 := by rw [hY, if_pos ⟨c1, c2⟩]
          rw [decide_eq_true c1] at eqX
          rw [decide_eq_true c2] at eqY
          rw [eY]
          simp [f1, f2, fV, fC, fCons, fNil, fSeq, fSet, fRet, fIf, fNext, fNever, fAnd, fOr, fAndV, fOrV, fUnp, fPar, fSl, fChain, tgF, tgN, gTu, gLs, startR, defG, outV, on1, on2, gB, gNot, gNotV, gI, ix0, eqX, eqY]
          rfl
        · have eY : Y = y1 := by rw [hY, if_neg (fun z => c2 z.2)]
          rw [decide_eq_true c1] at eqX
          rw [decide_eq_false c2] at eqY
          rw [eY]
          simp [f1, f2, fV, fC, fCons, fNil, fSeq, fSet, fRet, fIf, fNext, fNever, fAnd, fOr, fAndV, fOrV, fUnp, fPar, fSl, fChain, tgF, tgN, gTu, gLs, startR, defG, outV, on1, on2, gB, gNot, gNotV, gI, ix0, eqX, eqY]
      · have eY : Y = y1 := by rw [hY, if_neg (fun z => c1 z.1)]
        rw [decide_eq_false c1] at eqX
        rw [eY]
        simp [f1, f2, fV, fC, fCons, fNil, fSeq, fSet, fRet, fIf, fNext, fNever, fAnd, fOr, fAndV, fOrV, fUnp, fPar, fSl, fChain, tgF, tgN, gTu, gLs, startR, defG, outV, on1, on2, gB, gNot, gNotV, gI, ix0, eqX]
    show outV (F_law_bow [some row, none, none, none, none, none, none, none, none, none]) = _
    unfold F_law_bow
    rw [fSeq_nxt h1, fSeq_nxt h2]
    simp [f1, f2, fV, fC, fCons, fNil, fSeq, fSet, fRet, fIf, fNext, fNever, fAnd, fOr, fAndV, fOrV, fUnp, fPar, fSl, fChain, tgF, tgN, gTu, gLs, startR, defG, outV, on1, on2, gB, gNot, gNotV, gI, g2, q19, gSub_i, g3, q9, gAdd_i, g4, q8, mn, hpq, mqq, mpp, ru, m2p, m2pq, rv, gNeg_i, em0, eXm, e1, e2, er, e3, eYm, e4, ep, eC, eD]
  · exact bXs.up (Nat.dvd_refl _) hs (by decide)
  · exact bYs.up (Nat.dvd_refl _) hs (by decide)
  · exact bC.up (Nat.dvd_refl _) hs (by decide)
  · exact bD.up (Nat.dvd_refl _) hs (by decide)
  · unfold farR
    rw [hmo]
    have h1 : ((X : Rat) - 0) * ((X : Rat) - 0) + ((Y : Rat) - 0) * ((Y : Rat) - 0) = 1 * ((X : Rat) * X + (Y : Rat) * Y) := by grind
    rw [h1, ← uv]
    grind
end Arc
set_option Elab.async false
set_option linter.all false
set_option maxRecDepth 100000
set_option maxHeartbeats 1000000
set_option exponentiation.threshold 200
namespace Arc
open PySem L2 TL
/-! ## a plain row of a cell -/
theorem bow_ev {r0 r1 r2 r3 r4 : Int} (h0 : Cel r0) (h1 : Cel r1) (h2 : Cel r2) (h3 : Cel r3) (h4 : Cel r4) : ∃ (a b c d : Rat) (s : Nat), law_bow_G [.list [.int r0, .int r1, .int r2, .int r3, .int r4]] = some (.tuple [fr a, fr b, fr c, fr d]) ∧ 0 < s ∧ s ≤ 200 ∧ PlOk s (.arc a b c d) := by
  obtain ⟨Y, hY⟩ : ∃ Y : Int, Y = if r0 % 41 - 20 = 0 ∧ r1 % 41 - 20 = 0 then 2 else r1 % 41 - 20 := ⟨_, rfl⟩
  obtain ⟨p, q, hpq, hp, hq, hpos⟩ : ∃ p q : Int, gIx (.list [.tuple [.int 1, .int 0], .tuple [.int 0, .int 1], .tuple [.int (r2 % 19 - 9), .int (1 + r3 % 9)]]) (.int (if r4 % 8 < 2 then r4 % 8 else 2)) = some (.tuple [.int p, .int q]) ∧ p.natAbs ≤ 9 ∧ q.natAbs ≤ 9 ∧ (p ≠ 0 ∨ q ≠ 0) := by
    have h8 : r4 % 8 = 0 ∨ r4 % 8 = 1 ∨ ¬ r4 % 8 < 2 := by omega
    rcases h8 with z | z | z
    · rw [z]
      exact ⟨1, 0, rfl, by decide, by decide, .inl (by decide)⟩
    · rw [z]
      exact ⟨0, 1, rfl, by decide, by decide, .inr (by decide)⟩
    · rw [if_neg z]
      exact ⟨r2 % 19 - 9, 1 + r3 % 9, rfl, by omega, by omega, .inr (by omega)⟩
  have hqq : q * q ≤ 81 ∧ 0 ≤ q * q := by
    have e1 : (q * q).natAbs = q.natAbs * q.natAbs := Int.natAbs_mul q q
    have e2 := Nat.mul_le_mul hq hq
    have e3 : 0 ≤ q * q := sq_nn q
    omega
  have hpp : p * p ≤ 81 ∧ 0 ≤ p * p := by
    have e1 : (p * p).natAbs = p.natAbs * p.natAbs := Int.natAbs_mul p p
    have e2 := Nat.mul_le_mul hp hp
    have e3 : 0 ≤ p * p := sq_nn p
    omega
  have hs0 : 0 < q * q + p * p := by
    rcases hpos with z | z
    · have : p * p ≠ 0 := fun y => by rcases Int.mul_eq_zero.mp y with x | x <;> exact z x
      omega
    · have : q * q ≠ 0 := fun y => by rcases Int.mul_eq_zero.mp y with x | x <;> exact z x
      omega
  obtain ⟨C, D, e, b1, b2, b3, b4, hf⟩ := bow_core (row := .list [.int r0, .int r1, .int r2, .int r3, .int r4]) (s := (q * q + p * p).toNat) rfl (drawn_int h0 (.inl rfl)) rfl (drawn_int h1 (.inr rfl)) hY rfl rfl rfl hpq (by omega) (by omega) (by omega) (by omega) (by omega) (by omega) (by omega)
  refine ⟨_, _, C, D, (q * q + p * p).toNat, e, by omega, by omega, b1, b2, b3, b4, ?_, hf⟩
  intro z
  have z1 : ((r0 % 41 - 20 : Int) : Rat) = ((0 : Int) : Rat) := congrArg Prod.fst z
  have z2 : (Y : Rat) = ((0 : Int) : Rat) := congrArg Prod.snd z
  have y1 := cast_inj z1
  have y2 := cast_inj z2
  rw [hY] at y2
  split at y2
  · cases y2
  · rename_i hn
    exact hn ⟨y1, y2⟩
def plainT : Rho → Option Out := (fSeq (fSet 3 (f1 law_drawn_G (fCons (f2 gIx (fV 0) (fC (.int 1))) (fCons (f2 gIx (fV 0) (fC (.int 2))) fNil)))) (fSeq (fIf (f1 gB (f2 gIn (fV 2) (f1 gLs (fCons (fC (.str "go")) (fCons (fC (.str "skip")) fNil))))) (fRet (f1 gTu (fCons (fV 2) (fCons (fV 3) fNil)))) fNext) (fSeq (fIf (f1 gB (f2 gEq (fV 2) (fC (.str "side")))) (fRet (f1 gTu (fCons (fV 2) (fCons (fV 3) (fCons (f1 law_drawn_G (fCons (f2 gIx (fV 0) (fC (.int 3))) (fCons (f2 gIx (fV 0) (fC (.int 4))) fNil))) fNil))))) fNext) (fSeq (fIf (f1 gB (f2 gEq (fV 2) (fC (.str "grow")))) (fRet (f1 gTu (fCons (fV 2) (fCons (f1 law_ratio_G (fCons (f2 gAdd (fC (.int 1)) (f2 gMod (f2 gIx (fV 0) (fC (.int 1))) (fC (.int 12)))) (fCons (f2 gAdd (fC (.int 1)) (f2 gMod (f2 gIx (fV 0) (fC (.int 2))) (fC (.int 12)))) fNil))) fNil)))) fNext) (fSeq (fIf (f1 gB (f2 gIn (fV 2) (f1 gLs (fCons (fC (.str "quarter")) (fCons (fC (.str "half")) fNil))))) (fRet (f1 gTu (fCons (fV 2) (fCons (f2 gIx (f1 gLs (fCons (fV 3) (fCons (f1 gTu (fCons (fC (.int 1)) (fCons (fC (.int 3)) fNil))) fNil))) (f1 (on1 gInt) (fCons (f2 gEq (f2 gIx (fV 3) (fC (.int 0))) (fC (.int 0))) fNil))) fNil)))) fNext) (fSeq (fIf (f1 gB (f2 gEq (fV 2) (fC (.str "arc")))) (fRet (f2 gCatT (f1 gTu (fCons (fV 2) fNil)) (f1 law_bow_G (fCons (fSl (fV 0) (f1 gI (fC (.int 3))) (f1 gI (fC (.int 8)))) fNil)))) fNext) (fRet (f1 gTu (fCons (fV 2) fNil)))))))))
def wordsL : List PyData := [.str "go", .str "go", .str "side", .str "quarter", .str "half", .str "arc", .str "dot", .str "skip", .str "left", .str "right", .str "round", .str "mirror", .str "grow"]
def wordsM : List PyData := wordsL ++ [.str "side", .str "quarter", .str "arc"]
theorem go_two (w : Str) (b : Bool) (h : ([PyData.str "go", .str "skip"].any (fun y => eqF y (.str w)) == b) = true) : gIn (.str w) (.list [.str "go", .str "skip"]) = some (.bool b) := inEL (by
  have : ([PyData.str "go", .str "skip"].all flatD) = true := rfl
  rw [this, h]
  rfl)
theorem qh_two (w : Str) (b : Bool) (h : ([PyData.str "quarter", .str "half"].any (fun y => eqF y (.str w)) == b) = true) : gIn (.str w) (.list [.str "quarter", .str "half"]) = some (.bool b) := inEL (by
  have : ([PyData.str "quarter", .str "half"].all flatD) = true := rfl
  rw [this, h]
  rfl)
/-- what a row's numbers come to -/
def RowR (R : PyData) (w : PyData) (W : Option PyData) : Prop := ∃ (r : Pl) (d : Nat), outV (plainT [some R, W, some w, none]) = some (plD r) ∧ 0 < d ∧ d ≤ 2 ^ 40 ∧ PlOk d r
section
variable {R : PyData} {W : Option PyData} {r1 r2 r3 r4 : Int}
theorem row_one {r : Rat} {d : Nat} (g1 : gIx R (.int 1) = some (.int r1)) (g2 : gIx R (.int 2) = some (.int r2)) (e : law_drawn_G [.int r1, .int r2] = some (fr r)) (hd : d ≤ 1000000) (hr : RB d r) : RowR R (.str "go") W ∧ RowR R (.str "skip") W := by
  have a1 := go_two "go" true (by decide +kernel)
  have a2 := go_two "skip" true (by decide +kernel)
  have hd2 : d ≤ 2 ^ 40 := Nat.le_trans hd (by decide)
  refine ⟨⟨.go r, d, ?_, hr.pos, hd2, hr⟩, ⟨.skip r, d, ?_, hr.pos, hd2, hr⟩⟩
  · unfold plainT
    simp [f1, f2, fV, fC, fCons, fNil, fSeq, fSet, fRet, fIf, fNext, fNever, fAnd, fOr, fAndV, fOrV, fUnp, fPar, fSl, fChain, tgF, tgN, gTu, gLs, startR, defG, outV, on1, on2, gB, gNot, gNotV, gI, g1, g2, e, a1, plD]
  · unfold plainT
    simp [f1, f2, fV, fC, fCons, fNil, fSeq, fSet, fRet, fIf, fNext, fNever, fAnd, fOr, fAndV, fOrV, fUnp, fPar, fSl, fChain, tgF, tgN, gTu, gLs, startR, defG, outV, on1, on2, gB, gNot, gNotV, gI, g1, g2, e, a2, plD]
theorem row_side {r t : Rat} {d f : Nat} (g1 : gIx R (.int 1) = some (.int r1)) (g2 : gIx R (.int 2) = some (.int r2)) (g3 : gIx R (.int 3) = some (.int r3)) (g4 : gIx R (.int 4) = some (.int r4)) (e : law_drawn_G [.int r1, .int r2] = some (fr r)) (e2 : law_drawn_G [.int r3, .int r4] = some (fr t)) (hd : d ≤ 1000000) (hr : RB d r) (hf : f ≤ 1000000) (ht : RB f t) : RowR R (.str "side") W := by
  have a1 := go_two "side" false (by decide +kernel)
  have hp := Nat.mul_pos hr.pos ht.pos
  refine ⟨.side r t, d * f, ?_, hp, Nat.le_trans (Nat.mul_le_mul hd hf) (by decide), hr.up (Nat.dvd_mul_right _ _) hp, ht.up (Nat.dvd_mul_left _ _) hp⟩
  unfold plainT
  simp [f1, f2, fV, fC, fCons, fNil, fSeq, fSet, fRet, fIf, fNext, fNever, fAnd, fOr, fAndV, fOrV, fUnp, fPar, fSl, fChain, tgF, tgN, gTu, gLs, startR, defG, outV, on1, on2, gB, gNot, gNotV, gI, g1, g2, g3, g4, e, e2, a1, eq_side_go, eq_side_skip, eq_side_side, eq_side_dot, eq_side_mirror, eq_side_grow, eq_side_quarter, eq_side_half, eq_side_arc, eq_side_again, eq_side_keep, eq_side_ever, eq_side_none, ne_side_go, ne_side_skip, ne_side_side, ne_side_dot, ne_side_mirror, ne_side_grow, ne_side_quarter, ne_side_half, ne_side_arc, ne_side_again, ne_side_keep, ne_side_ever, ne_side_none, in_side_tuple, in_side_list, in_side_six, plD]
theorem row_grow {r : Rat} (g1 : gIx R (.int 1) = some (.int r1)) (g2 : gIx R (.int 2) = some (.int r2)) (e : law_drawn_G [.int r1, .int r2] = some (fr r)) : RowR R (.str "grow") W := by
  have a1 := go_two "grow" false (by decide +kernel)
  have m1 := mod_i r1 (b := 12) (by decide)
  have m2 := mod_i r2 (b := 12) (by decide)
  have n1 : 0 < 1 + r1 % 12 ∧ 1 + r1 % 12 ≤ 12 := by omega
  have n2 : 0 < 1 + r2 % 12 ∧ 1 + r2 % 12 ≤ 12 := by omega
  have e3 := ratio_pos (t := 1 + r1 % 12) n2.1 (by omega)
  refine ⟨.grow (mkRat (1 + r1 % 12) (1 + r2 % 12).toNat), 1, ?_, by decide, by decide, ?_⟩
  · unfold plainT
    simp [f1, f2, fV, fC, fCons, fNil, fSeq, fSet, fRet, fIf, fNext, fNever, fAnd, fOr, fAndV, fOrV, fUnp, fPar, fSl, fChain, tgF, tgN, gTu, gLs, startR, defG, outV, on1, on2, gB, gNot, gNotV, gI, g1, g2, e, a1, eq_grow_go, eq_grow_skip, eq_grow_side, eq_grow_dot, eq_grow_mirror, eq_grow_grow, eq_grow_quarter, eq_grow_half, eq_grow_arc, eq_grow_again, eq_grow_keep, eq_grow_ever, eq_grow_none, ne_grow_go, ne_grow_skip, ne_grow_side, ne_grow_dot, ne_grow_mirror, ne_grow_grow, ne_grow_quarter, ne_grow_half, ne_grow_arc, ne_grow_again, ne_grow_keep, ne_grow_ever, ne_grow_none, in_grow_tuple, in_grow_list, in_grow_six, m1, m2, gAdd_i, e3, plD]
  · have hb := mk_bd (t := 1 + r1 % 12) (d := (1 + r2 % 12).toNat) (m := 12) (by omega) (by omega)
    have hden := Nat.le_of_dvd hb.pos hb.den_dvd
    have hnum : (mkRat (1 + r1 % 12) (1 + r2 % 12).toNat).num = (1 + r1 % 12) / ((Nat.gcd (1 + r1 % 12).natAbs (1 + r2 % 12).toNat : Nat) : Int) := by
      rw [Rat.num_mkRat, if_neg (by omega), Nat.gcd_comm]
    have hg : 0 < Nat.gcd (1 + r1 % 12).natAbs (1 + r2 % 12).toNat := Nat.gcd_pos_of_pos_left _ (by omega)
    have hdv : ((Nat.gcd (1 + r1 % 12).natAbs (1 + r2 % 12).toNat : Nat) : Int) ∣ (1 + r1 % 12) := by
      rw [← Int.dvd_natAbs]
      exact Int.natCast_dvd_natCast.mpr (Nat.gcd_dvd_left _ _)
    obtain ⟨k, hk⟩ := hdv
    generalize hG : Nat.gcd (1 + r1 % 12).natAbs (1 + r2 % 12).toNat = G at *
    have hk2 : (1 + r1 % 12) / (G : Int) = k := by
      rw [hk]
      exact Int.mul_ediv_cancel_left k (by omega)
    have hkp : 0 < k := by
      have h1 : 0 < (G : Int) * k := by omega
      refine Int.lt_of_not_ge fun hk0 => ?_
      have h2 := Int.mul_le_mul_of_nonneg_left hk0 (show (0 : Int) ≤ (G : Int) by omega)
      rw [Int.mul_zero] at h2
      omega
    have hkl : k ≤ (G : Int) * k := by
      have h1 : 1 * k ≤ (G : Int) * k := Int.mul_le_mul_of_nonneg_right (by omega) (by omega)
      omega
    refine ⟨?_, ?_, ?_⟩
    · rw [hnum, hk2]
      omega
    · rw [hnum, hk2]
      omega
    · omega
theorem row_bow {r : Rat} {d : Nat} (g1 : gIx R (.int 1) = some (.int r1)) (g2 : gIx R (.int 2) = some (.int r2)) (e : law_drawn_G [.int r1, .int r2] = some (fr r)) (hd : d ≤ 1000000) (hr : RB d r) : RowR R (.str "quarter") W ∧ RowR R (.str "half") W := by
  have a1 := go_two "quarter" false (by decide +kernel)
  have a2 := go_two "half" false (by decide +kernel)
  have b1 := qh_two "quarter" true (by decide +kernel)
  have b2 := qh_two "half" true (by decide +kernel)
  have g0 : gIx (fr r) (.int 0) = some (.int r.num) := rfl
  have hq := gEq_int r.num 0
  have hd2 : d ≤ 2 ^ 40 := Nat.le_trans hd (by decide)
  by_cases c : r.num = 0
  · rw [decide_eq_true c] at hq
    have i1 : gInt (.bool true) = some (.int 1) := rfl
    have t3 : PyData.tuple [.int 1, .int 3] = fr (mkRat 1 3) := by
      have n1 : (mkRat 1 3).num = 1 := by decide +kernel
      have n2 : (mkRat 1 3).den = 3 := by decide +kernel
      unfold fr
      rw [n1, n2]
      rfl
    have i2 : gIx (.list [fr r, fr (mkRat 1 3)]) (.int 1) = some (fr (mkRat 1 3)) := rfl
    have h3 : RB 3 (mkRat 1 3) := mk_bd (by decide) (by decide)
    have hne : mkRat 1 3 ≠ 0 := by decide +kernel
    refine ⟨⟨.quarter (mkRat 1 3), 3, ?_, by decide, by decide, h3, hne⟩, ⟨.half (mkRat 1 3), 3, ?_, by decide, by decide, h3, hne⟩⟩
    · unfold plainT
      simp [f1, f2, fV, fC, fCons, fNil, fSeq, fSet, fRet, fIf, fNext, fNever, fAnd, fOr, fAndV, fOrV, fUnp, fPar, fSl, fChain, tgF, tgN, gTu, gLs, startR, defG, outV, on1, on2, gB, gNot, gNotV, gI, g1, g2, e, a1, eq_quarter_go, eq_quarter_skip, eq_quarter_side, eq_quarter_dot, eq_quarter_mirror, eq_quarter_grow, eq_quarter_quarter, eq_quarter_half, eq_quarter_arc, eq_quarter_again, eq_quarter_keep, eq_quarter_ever, eq_quarter_none, ne_quarter_go, ne_quarter_skip, ne_quarter_side, ne_quarter_dot, ne_quarter_mirror, ne_quarter_grow, ne_quarter_quarter, ne_quarter_half, ne_quarter_arc, ne_quarter_again, ne_quarter_keep, ne_quarter_ever, ne_quarter_none, in_quarter_tuple, in_quarter_list, in_quarter_six, b1, g0, hq, i1, t3, i2, plD]
    · unfold plainT
      simp [f1, f2, fV, fC, fCons, fNil, fSeq, fSet, fRet, fIf, fNext, fNever, fAnd, fOr, fAndV, fOrV, fUnp, fPar, fSl, fChain, tgF, tgN, gTu, gLs, startR, defG, outV, on1, on2, gB, gNot, gNotV, gI, g1, g2, e, a2, eq_half_go, eq_half_skip, eq_half_side, eq_half_dot, eq_half_mirror, eq_half_grow, eq_half_quarter, eq_half_half, eq_half_arc, eq_half_again, eq_half_keep, eq_half_ever, eq_half_none, ne_half_go, ne_half_skip, ne_half_side, ne_half_dot, ne_half_mirror, ne_half_grow, ne_half_quarter, ne_half_half, ne_half_arc, ne_half_again, ne_half_keep, ne_half_ever, ne_half_none, in_half_tuple, in_half_list, in_half_six, b2, g0, hq, i1, t3, i2, plD]
  · rw [decide_eq_false c] at hq
    have i1 : gInt (.bool false) = some (.int 0) := rfl
    have i2 : ∀ x : PyData, gIx (.list [fr r, x]) (.int 0) = some (fr r) := fun _ => rfl
    have hne : r ≠ 0 := fun z => c (Rat.num_eq_zero.mpr z)
    refine ⟨⟨.quarter r, d, ?_, hr.pos, hd2, hr, hne⟩, ⟨.half r, d, ?_, hr.pos, hd2, hr, hne⟩⟩
    · unfold plainT
      simp [f1, f2, fV, fC, fCons, fNil, fSeq, fSet, fRet, fIf, fNext, fNever, fAnd, fOr, fAndV, fOrV, fUnp, fPar, fSl, fChain, tgF, tgN, gTu, gLs, startR, defG, outV, on1, on2, gB, gNot, gNotV, gI, g1, g2, e, a1, eq_quarter_go, eq_quarter_skip, eq_quarter_side, eq_quarter_dot, eq_quarter_mirror, eq_quarter_grow, eq_quarter_quarter, eq_quarter_half, eq_quarter_arc, eq_quarter_again, eq_quarter_keep, eq_quarter_ever, eq_quarter_none, ne_quarter_go, ne_quarter_skip, ne_quarter_side, ne_quarter_dot, ne_quarter_mirror, ne_quarter_grow, ne_quarter_quarter, ne_quarter_half, ne_quarter_arc, ne_quarter_again, ne_quarter_keep, ne_quarter_ever, ne_quarter_none, in_quarter_tuple, in_quarter_list, in_quarter_six, b1, g0, hq, i1, i2, plD]
    · unfold plainT
      simp [f1, f2, fV, fC, fCons, fNil, fSeq, fSet, fRet, fIf, fNext, fNever, fAnd, fOr, fAndV, fOrV, fUnp, fPar, fSl, fChain, tgF, tgN, gTu, gLs, startR, defG, outV, on1, on2, gB, gNot, gNotV, gI, g1, g2, e, a2, eq_half_go, eq_half_skip, eq_half_side, eq_half_dot, eq_half_mirror, eq_half_grow, eq_half_quarter, eq_half_half, eq_half_arc, eq_half_again, eq_half_keep, eq_half_ever, eq_half_none, ne_half_go, ne_half_skip, ne_half_side, ne_half_dot, ne_half_mirror, ne_half_grow, ne_half_quarter, ne_half_half, ne_half_arc, ne_half_again, ne_half_keep, ne_half_ever, ne_half_none, in_half_tuple, in_half_list, in_half_six, b2, g0, hq, i1, i2, plD]
theorem row_arc {r a b c d : Rat} {s : Nat} {L : PyData} (g1 : gIx R (.int 1) = some (.int r1)) (g2 : gIx R (.int 2) = some (.int r2)) (e : law_drawn_G [.int r1, .int r2] = some (fr r)) (g3 : gSl R (some 3) (some 8) = some L) (e2 : law_bow_G [L] = some (.tuple [fr a, fr b, fr c, fr d])) (hs : 0 < s) (hs2 : s ≤ 200) (hp : PlOk s (.arc a b c d)) : RowR R (.str "arc") W := by
  have a1 := go_two "arc" false (by decide +kernel)
  have b1 := qh_two "arc" false (by decide +kernel)
  have hc : gCatT (.tuple [.str "arc"]) (.tuple [fr a, fr b, fr c, fr d]) = some (plD (.arc a b c d)) := rfl
  refine ⟨.arc a b c d, s, ?_, hs, Nat.le_trans hs2 (by decide), hp⟩
  unfold plainT
  simp [f1, f2, fV, fC, fCons, fNil, fSeq, fSet, fRet, fIf, fNext, fNever, fAnd, fOr, fAndV, fOrV, fUnp, fPar, fSl, fChain, tgF, tgN, gTu, gLs, startR, defG, outV, on1, on2, gB, gNot, gNotV, gI, g1, g2, e, a1, eq_arc_go, eq_arc_skip, eq_arc_side, eq_arc_dot, eq_arc_mirror, eq_arc_grow, eq_arc_quarter, eq_arc_half, eq_arc_arc, eq_arc_again, eq_arc_keep, eq_arc_ever, eq_arc_none, ne_arc_go, ne_arc_skip, ne_arc_side, ne_arc_dot, ne_arc_mirror, ne_arc_grow, ne_arc_quarter, ne_arc_half, ne_arc_arc, ne_arc_again, ne_arc_keep, ne_arc_ever, ne_arc_none, in_arc_tuple, in_arc_list, in_arc_six, b1, g3, e2, hc]
theorem row_bare {r : Rat} {q : Pl} (g1 : gIx R (.int 1) = some (.int r1)) (g2 : gIx R (.int 2) = some (.int r2)) (e : law_drawn_G [.int r1, .int r2] = some (fr r)) (hw : plD q = .tuple [.str (wordP q)]) (hq : PlOk 1 q) (a1 : gIn (.str (wordP q)) (.list [.str "go", .str "skip"]) = some (.bool false)) (a2 : gEq (.str (wordP q)) (.str "side") = some (.bool false)) (a3 : gEq (.str (wordP q)) (.str "grow") = some (.bool false))
    (a4 : gIn (.str (wordP q)) (.list [.str "quarter", .str "half"]) = some (.bool false)) (a5 : gEq (.str (wordP q)) (.str "arc") = some (.bool false)) : RowR R (.str (wordP q)) W := by
  refine ⟨q, 1, ?_, by decide, by decide, hq⟩
  unfold plainT
  simp [f1, f2, fV, fC, fCons, fNil, fSeq, fSet, fRet, fIf, fNext, fNever, fAnd, fOr, fAndV, fOrV, fUnp, fPar, fSl, fChain, tgF, tgN, gTu, gLs, startR, defG, outV, on1, on2, gB, gNot, gNotV, gI, g1, g2, e, a1, a2, a3, a4, a5, hw]
end
theorem plain_G {R w : PyData} {r0 : Int} (g0 : gIx R (.int 0) = some (.int r0)) (hw : atI wordsM (r0 % 16) = some w) : law_plain_G [R] = outV (plainT [some R, some (.list wordsL), some w, none]) := by
  have m := mod_i r0 (b := 16) (by decide)
  have hc : gCatL (.list wordsL) (.list [.str "side", .str "quarter", .str "arc"]) = some (.list wordsM) := rfl
  have h1 : fSet 1 (f1 gLs (fCons (fC (.str "go")) (fCons (fC (.str "go")) (fCons (fC (.str "side")) (fCons (fC (.str "quarter")) (fCons (fC (.str "half")) (fCons (fC (.str "arc")) (fCons (fC (.str "dot")) (fCons (fC (.str "skip")) (fCons (fC (.str "left")) (fCons (fC (.str "right")) (fCons (fC (.str "round")) (fCons (fC (.str "mirror")) (fCons (fC (.str "grow")) fNil)))))))))))))) [some R, none, none, none] = some (.nxt [some R, some (.list wordsL), none, none]) := rfl
  have h2 : fSet 2 (f2 gIx (f2 gCatL (fV 1) (f1 gLs (fCons (fC (.str "side")) (fCons (fC (.str "quarter")) (fCons (fC (.str "arc")) fNil))))) (f2 gMod (f2 gIx (fV 0) (fC (.int 0))) (fC (.int 16)))) [some R, some (.list wordsL), none, none] = some (.nxt [some R, some (.list wordsL), some w, none]) := by
    have hw2 : gIx (.list wordsM) (.int (r0 % 16)) = some w := hw
    simp [f1, f2, fV, fC, fCons, fNil, fSeq, fSet, fRet, fIf, fNext, fNever, fAnd, fOr, fAndV, fOrV, fUnp, fPar, fSl, fChain, tgF, tgN, gTu, gLs, startR, defG, outV, on1, on2, gB, gNot, gNotV, gI, hc, g0, m, hw2]
  show outV (fSeq (fSet 1 _) (fSeq (fSet 2 _) plainT) [some R, none, none, none]) = _
  rw [fSeq_nxt h1, fSeq_nxt h2]
theorem words_at : ∀ k : Nat, k < 16 → ∃ w : Str, atI wordsM (k : Int) = some (.str w) ∧ w ∈ (["go", "side", "quarter", "half", "arc", "dot", "skip", "left", "right", "round", "mirror", "grow"] : List Str) := by
  intro k hk
  have h : ∀ k : Nat, k < 16 → k = 0 ∨ k = 1 ∨ k = 2 ∨ k = 3 ∨ k = 4 ∨ k = 5 ∨ k = 6 ∨ k = 7 ∨ k = 8 ∨ k = 9 ∨ k = 10 ∨ k = 11 ∨ k = 12 ∨ k = 13 ∨ k = 14 ∨ k = 15 := by omega
  rcases h k hk with z | z | z | z | z | z | z | z | z | z | z | z | z | z | z | z <;> subst z <;> exact ⟨_, rfl, by simp⟩
theorem plain_row_ev {l : List Int} (hl : l.length = 12) (hc : ∀ x ∈ l, Cel x) : ∃ (r : Pl) (d : Nat), law_plain_G [.list (l.map .int)] = some (plD r) ∧ 0 < d ∧ d ≤ 2 ^ 40 ∧ PlOk d r := by
  match l, hl with
  | [r0, r1, r2, r3, r4, r5, r6, r7, r8, r9, r10, r11], _ =>
    have c : ∀ x ∈ [r0, r1, r2, r3, r4, r5, r6, r7, r8, r9, r10, r11], Cel x := hc
    obtain ⟨w, hw1, hw2⟩ := words_at (r0 % 16).toNat (by omega)
    rw [Int.toNat_of_nonneg (by omega)] at hw1
    rw [plain_G (R := .list ([r0, r1, r2, r3, r4, r5, r6, r7, r8, r9, r10, r11].map .int)) (r0 := r0) rfl hw1]
    have c1 := c r1 (by simp)
    have c2 := c r2 (by simp)
    have c3 := c r3 (by simp)
    have c4 := c r4 (by simp)
    have c5 := c r5 (by simp)
    have c6 := c r6 (by simp)
    have c7 := c r7 (by simp)
    obtain ⟨x, d, ex, hd, hx⟩ := drawn_num c1 c2
    obtain ⟨y, f, ey, hf, hy⟩ := drawn_num c3 c4
    have g1 : gIx (.list ([r0, r1, r2, r3, r4, r5, r6, r7, r8, r9, r10, r11].map .int)) (.int 1) = some (.int r1) := rfl
    have g2 : gIx (.list ([r0, r1, r2, r3, r4, r5, r6, r7, r8, r9, r10, r11].map .int)) (.int 2) = some (.int r2) := rfl
    have fin : RowR (.list ([r0, r1, r2, r3, r4, r5, r6, r7, r8, r9, r10, r11].map .int)) (.str w) (some (.list wordsL)) := by
      simp only [List.mem_cons, List.not_mem_nil, or_false] at hw2
      rcases hw2 with z | z | z | z | z | z | z | z | z | z | z | z <;> subst z
      · exact (row_one g1 g2 ex hd hx).1
      · exact row_side g1 g2 rfl rfl ex ey hd hx hf hy
      · exact (row_bow g1 g2 ex hd hx).1
      · exact (row_bow g1 g2 ex hd hx).2
      · obtain ⟨a, b, c', d', s, e2, hs, hs2, hp⟩ := bow_ev c3 c4 c5 c6 c7
        exact row_arc g1 g2 ex rfl e2 hs hs2 hp
      · exact row_bare (q := .dot) g1 g2 ex rfl trivial (go_two "dot" false (by decide +kernel)) eq_dot_side eq_dot_grow (qh_two "dot" false (by decide +kernel)) eq_dot_arc
      · exact (row_one g1 g2 ex hd hx).2
      · exact row_bare (q := .left) g1 g2 ex rfl trivial (go_two "left" false (by decide +kernel)) eq_left_side eq_left_grow (qh_two "left" false (by decide +kernel)) eq_left_arc
      · exact row_bare (q := .right) g1 g2 ex rfl trivial (go_two "right" false (by decide +kernel)) eq_right_side eq_right_grow (qh_two "right" false (by decide +kernel)) eq_right_arc
      · exact row_bare (q := .round) g1 g2 ex rfl trivial (go_two "round" false (by decide +kernel)) eq_round_side eq_round_grow (qh_two "round" false (by decide +kernel)) eq_round_arc
      · exact row_bare (q := .mirror) g1 g2 ex rfl trivial (go_two "mirror" false (by decide +kernel)) eq_mirror_side eq_mirror_grow (qh_two "mirror" false (by decide +kernel)) eq_mirror_arc
      · exact row_grow g1 g2 ex
    obtain ⟨r, d2, h1, h2, h3, h4⟩ := fin
    exact ⟨r, d2, h1, h2, h3, h4⟩
theorem few_bd {d : Nat} {r : Rat} (h : RB d r) (hd : d ≤ 2 ^ 40) : FewR r := by
  have h1 := h.num_le
  have h2 := Nat.le_of_dvd h.pos h.den_dvd
  have h3 : 1048576 * d ≤ 1048576 * 2 ^ 40 := Nat.mul_le_mul_left _ hd
  exact ⟨Nat.lt_of_le_of_lt (Nat.le_trans h1 h3) (by decide), Nat.lt_of_le_of_lt (show (r.den : Int).natAbs ≤ 2 ^ 40 by omega) (by decide)⟩
theorem few_pl {d : Nat} (hd : d ≤ 2 ^ 40) : ∀ {r : Pl}, PlOk d r → FewP r := by
  intro r h a ha
  have one : ∀ {x : Rat}, a ∈ [x] → a = x := fun h => List.mem_singleton.mp h
  cases r with
  | go x => rw [one ha]; exact few_bd h hd
  | skip x => rw [one ha]; exact few_bd h hd
  | side x y =>
    rcases (by simpa [plF] using ha : a = x ∨ a = y) with z | z <;> rw [z]
    · exact few_bd h.1 hd
    · exact few_bd h.2 hd
  | grow x =>
    rw [one ha]
    obtain ⟨h1, h2, h3⟩ := h
    exact ⟨Nat.lt_of_le_of_lt (show x.num.natAbs ≤ 12 by omega) (by decide), Nat.lt_of_le_of_lt (show (x.den : Int).natAbs ≤ 12 by omega) (by decide)⟩
  | quarter x => rw [one ha]; exact few_bd h.1 hd
  | half x => rw [one ha]; exact few_bd h.1 hd
  | arc x y z u =>
    rcases (by simpa [plF] using ha : a = x ∨ a = y ∨ a = z ∨ a = u) with v | v | v | v <;> rw [v]
    · exact few_bd h.1 hd
    · exact few_bd h.2.1 hd
    · exact few_bd h.2.2.1 hd
    · exact few_bd h.2.2.2.1 hd
  | _ => cases ha
theorem row_cel (c : Int) : ∀ x ∈ rowL c 12, Cel x := by
  intro x hx
  unfold rowL at hx
  obtain ⟨k, _, rfl⟩ := List.mem_map.mp hx
  unfold rowOut Cel
  split <;> omega
end Arc
set_option Elab.async false
set_option linter.all false
set_option maxRecDepth 100000
set_option maxHeartbeats 1000000
set_option exponentiation.threshold 200
namespace Arc
open PySem L2 TL
/-! ## programs of so many cells -/
theorem PlOk.up {E E' : Nat} (hd : E ∣ E') (hp : 0 < E') : ∀ {r : Pl}, PlOk E r → PlOk E' r
  | .go a, h => RB.up h hd hp
  | .skip a, h => RB.up h hd hp
  | .side a b, h => ⟨RB.up h.1 hd hp, RB.up h.2 hd hp⟩
  | .grow a, h => h
  | .quarter a, h => ⟨RB.up h.1 hd hp, h.2⟩
  | .half a, h => ⟨RB.up h.1 hd hp, h.2⟩
  | .arc a b c d, h => ⟨RB.up h.1 hd hp, RB.up h.2.1 hd hp, RB.up h.2.2.1 hd hp, RB.up h.2.2.2.1 hd hp, h.2.2.2.2⟩
  | .dot, h => trivial
  | .left, h => trivial
  | .right, h => trivial
  | .round, h => trivial
  | .mirror, h => trivial
theorem AllPl.up {E E' : Nat} (hd : E ∣ E') (hp : 0 < E') : ∀ {p : Prog}, AllPl E p → AllPl E' p
  | .nil, _ => trivial
  | .pl r p, h => ⟨h.1.up hd hp, AllPl.up hd hp h.2⟩
  | .blk k b p, h => ⟨AllPl.up hd hp h.1, AllPl.up hd hp h.2⟩
theorem rows_app : ∀ p q : Prog, rowsN (appP p q) = rowsN p + rowsN q
  | .nil, q => (Nat.zero_add _).symm
  | .pl r p, q => by show 1 + rowsN (appP p q) = 1 + rowsN p + rowsN q; rw [rows_app p q]; omega
  | .blk k b p, q => by show 1 + rowsN b + rowsN (appP p q) = 1 + rowsN b + rowsN p + rowsN q; rw [rows_app p q]; omega
theorem few_app : ∀ {p q : Prog}, FewG (appP p q) ↔ FewG p ∧ FewG q
  | .nil, q => by show FewG q ↔ True ∧ FewG q; simp
  | .pl r p, q => by
    have := few_app (p := p) (q := q)
    show (FewP r ∧ FewG (appP p q)) ↔ (FewP r ∧ FewG p) ∧ FewG q
    rw [this]
    exact and_assoc.symm
  | .blk k b p, q => by
    have := few_app (p := p) (q := q)
    show (FewG b ∧ FewG (appP p q)) ↔ (FewG b ∧ FewG p) ∧ FewG q
    rw [this]
    exact and_assoc.symm
theorem noEver_app : ∀ p q : Prog, noEver (appP p q) = (noEver p && noEver q)
  | .nil, q => by show noEver q = (true && noEver q); simp
  | .pl r p, q => noEver_app p q
  | .blk k b p, q => by
    show noEver (.blk k b (appP p q)) = (noEver (.blk k b p) && noEver q)
    rw [noEver_blk, noEver_blk, noEver_app p q]
    simp only [Bool.and_assoc]
/-- a program of at most c cells, d blocks deep; x more rows -/
structure Wf (c d x : Nat) (p : Prog) : Prop where
  ex : ∃ E, 0 < E ∧ E ≤ 2 ^ (40 * c) ∧ AllPl E p
  dp : deepN p ≤ d
  dn : doneN p ≤ 45 * c + x
  rw : rowsN p ≤ 3 * c + x
  ev : EvOk p
  few : FewG p
  lim : Lim p
theorem Wf.nil (d : Nat) : Wf 0 d 0 .nil := ⟨⟨1, by decide, by decide, trivial⟩, Nat.zero_le _, by decide, by decide, trivial, trivial, trivial⟩
theorem Wf.app {c c' d x x' : Nat} {p q : Prog} (h : Wf c d x p) (h' : Wf c' d x' q) : Wf (c + c') d (x + x') (appP p q) := by
  obtain ⟨E, e1, e2, e3⟩ := h.ex
  obtain ⟨E', f1', f2', f3'⟩ := h'.ex
  have hp := Nat.mul_pos e1 f1'
  refine ⟨⟨E * E', hp, ?_, all_app.mpr ⟨e3.up (Nat.dvd_mul_right _ _) hp, f3'.up (Nat.dvd_mul_left _ _) hp⟩⟩, ?_, ?_, ?_, ev_app.mpr ⟨h.ev, h'.ev⟩, few_app.mpr ⟨h.few, h'.few⟩, lim_app.mpr ⟨h.lim, h'.lim⟩⟩
  · rw [Nat.mul_add, Nat.pow_add]
    exact Nat.mul_le_mul e2 f2'
  · rw [deep_app]
    have := h.dp
    have := h'.dp
    omega
  · rw [done_app]
    have := h.dn
    have := h'.dn
    omega
  · rw [rows_app]
    have := h.rw
    have := h'.rw
    omega
theorem Wf.plain {r : Pl} {E d : Nat} (h0 : 0 < E) (hE : E ≤ 2 ^ 40) (h : PlOk E r) : Wf 1 d 0 (.pl r .nil) := by
  refine ⟨⟨E, h0, by rw [Nat.mul_one]; exact hE, h, trivial⟩, Nat.zero_le _, ?_, ?_, trivial, ⟨few_pl hE h, trivial⟩, trivial⟩
  · show 1 + 0 ≤ 45 * 1 + 0
    decide
  · show 1 + 0 ≤ 3 * 1 + 0
    decide
/-- a row that is put in without a cell -/
theorem Wf.more {r : Pl} {d : Nat} (h : PlOk 1 r) (hf : FewP r) : Wf 0 d 1 (.pl r .nil) := by
  refine ⟨⟨1, by decide, by decide, h, trivial⟩, Nat.zero_le _, ?_, ?_, trivial, ⟨hf, trivial⟩, trivial⟩
  · show 1 + 0 ≤ 45 * 0 + 1
    decide
  · show 1 + 0 ≤ 3 * 0 + 1
    decide
theorem Wf.e {c d x : Nat} {p : Prog} (h : Wf c d x p) (hc : c ≤ 16) : ∃ E, 0 < E ∧ E ≤ 2 ^ 640 ∧ AllPl E p := by
  obtain ⟨E, e1, e2, e3⟩ := h.ex
  exact ⟨E, e1, Nat.le_trans e2 (Nat.pow_le_pow_right (by decide) (by omega)), e3⟩
theorem Wf.block {c d x : Nat} {b : Prog} {k : Kd} (h : Wf c d x b) (hx : x ≤ 2) (hc : c ≤ 15) (ht : timesK k ≤ 12) (hd : timesK k * doneN b ≤ 45 * (c + 1)) (hv : isEv k = true → endlessB b = true ∧ noEver b = true) : Wf (c + 1) (d + 1) 0 (.blk k b .nil) := by
  obtain ⟨E, e1, e2, e3⟩ := h.ex
  refine ⟨⟨E, e1, Nat.le_trans e2 (Nat.pow_le_pow_right (by decide) (by omega)), e3, trivial⟩, ?_, ?_, ?_, ⟨?_, h.ev, trivial⟩, ⟨h.few, trivial⟩, ⟨ht, ?_, h.lim, trivial⟩⟩
  · show max (1 + deepN b) 0 ≤ d + 1
    have := h.dp
    omega
  · show timesK k * doneN b + 0 ≤ 45 * (c + 1) + 0
    omega
  · show 1 + rowsN b + 0 ≤ 3 * (c + 1) + 0
    have := h.rw
    omega
  · cases k with
    | again t => trivial
    | keep => trivial
    | ever => exact hv rfl
  · have := h.dn
    omega
theorem Wf.up {c c' d d' x : Nat} {p : Prog} (h : Wf c d x p) (hc : c ≤ c') (hd : d ≤ d') : Wf c' d' x p := by
  obtain ⟨E, e1, e2, e3⟩ := h.ex
  have := h.dp
  have := h.dn
  have := h.rw
  exact ⟨⟨E, e1, Nat.le_trans e2 (Nat.pow_le_pow_right (by decide) (by omega)), e3⟩, by omega, by omega, by omega, h.ev, h.few, h.lim⟩
/-! ## a block closed -/
theorem rowsL_len {c d x : Nat} {p : Prog} (h : Wf c d x p) (hc : c ≤ 16) (hx : x ≤ 2) : (enc p).length ≤ 100 := by
  have h1 := enc_len p
  have h2 := h.rw
  omega
theorem more_ok {p : Prog} {row : Pl} {b : Option PyData} {t : Bool} (hb : b = some (.bool t)) (hl : (enc p).length ≤ 1000) : moreB (enc p) (plD row) b = some (enc (appP p (if t = true then .nil else .pl row .nil))) := by
  subst hb
  cases t with
  | true =>
    have e : gRepL (.list [plD row]) (.int 0) = some (.list []) := rfl
    show ((((gRepL (.list [plD row]) (.int 0)).bind fun ex => gCatL (.list (enc p)) ex)).bind listO) = _
    rw [e]
    show ((if (enc p).length + ([] : List PyData).length ≤ 1000000 then some (PyData.list (enc p ++ [])) else none).bind listO) = _
    rw [if_pos (by simp; omega), if_pos rfl, enc_app]
    rfl
  | false =>
    have e : gRepL (.list [plD row]) (.int 1) = some (.list [plD row]) := rfl
    show ((((gRepL (.list [plD row]) (.int 1)).bind fun ex => gCatL (.list (enc p)) ex)).bind listO) = _
    rw [e]
    show ((if (enc p).length + [plD row].length ≤ 1000000 then some (PyData.list (enc p ++ [plD row])) else none).bind listO) = _
    rw [if_pos (by simp; omega), if_neg (by decide), enc_app]
    rfl
def growR : Rat := mkRat 1 12
theorem grow_num : growR.num = 1 ∧ growR.den = 12 := by decide +kernel
theorem growRow_eq : growRow = plD (.grow growR) := by
  show PyData.tuple [.str "grow", .tuple [.int 1, .int 12]] = PyData.tuple [.str "grow", .tuple [.int growR.num, .int growR.den]]
  rw [grow_num.1, grow_num.2]
  rfl
theorem dotRow_eq : dotRow = plD .dot := rfl
theorem grow_ok : PlOk 1 (.grow growR) := by
  show 1 ≤ growR.num ∧ growR.num ≤ 12 ∧ growR.den ≤ 12
  rw [grow_num.1, grow_num.2]
  decide
theorem grow_few : FewP (.grow growR) := few_pl (d := 1) (by decide) grow_ok
theorem dot_few : FewP .dot := fun a h => by cases h
def dotted (p : Prog) : Prog := appP p (if drawsB p = true then .nil else .pl .dot .nil)
def shrunk (p : Prog) : Prog := appP p (if endlessB p = true then .nil else .pl (.grow growR) .nil)
theorem wf_if {c d x : Nat} {p : Prog} {r : Pl} (h : Wf c d x p) (h1 : PlOk 1 r) (h2 : FewP r) (t : Bool) : Wf c d (x + 1) (appP p (if t = true then .nil else .pl r .nil)) := by
  cases t with
  | true =>
    rw [if_pos rfl]
    have := h.app (Wf.nil d)
    have w : Wf c d x (appP p .nil) := this
    exact ⟨w.ex, w.dp, by have := w.dn; omega, by have := w.rw; omega, w.ev, w.few, w.lim⟩
  | false =>
    rw [if_neg (by decide)]
    exact h.app (Wf.more h1 h2)
theorem ne_if {p : Prog} {r : Pl} (h : noEver p = true) (t : Bool) : noEver (appP p (if t = true then .nil else .pl r .nil)) = true := by
  rw [noEver_app, h]
  cases t <;> rfl
theorem everB_ok {c d : Nat} {p : Prog} (h : Wf c d 0 p) (hc : c ≤ 15) (hd : d ≤ 5) : everB (enc p) = some (if endlessB (shrunk (dotted p)) = true then .str "ever" else .str "keep", enc (shrunk (dotted p))) := by
  have w1 : Wf c d 1 (dotted p) := wf_if (r := .dot) h trivial dot_few _
  have w2 : Wf c d 2 (shrunk (dotted p)) := wf_if w1 grow_ok grow_few _
  have e1 : law_draws_G [.list (enc p)] = some (.bool (drawsB p)) := (law_draws_ev 8 p (by have := h.dp; omega) (by have := h.dp; omega)).2
  obtain ⟨E1, a1, a2, a3⟩ := w1.e (by omega)
  obtain ⟨E2, b1, b2, b3⟩ := w2.e (by omega)
  have e2 := law_endless_ev a1 a2 (p := dotted p) (by have := w1.dp; omega) a3 w1.lim (by have := w1.dn; omega)
  have e3 := law_endless_ev b1 b2 (p := shrunk (dotted p)) (by have := w2.dp; omega) b3 w2.lim (by have := w2.dn; omega)
  have m1 := more_ok (row := .dot) e1 (Nat.le_trans (rowsL_len h (by omega) (by omega)) (by decide))
  have m2 := more_ok (row := .grow growR) e2 (Nat.le_trans (rowsL_len w1 (by omega) (by omega)) (by decide))
  unfold everB
  rw [dotRow_eq, m1]
  show ((moreB (enc (dotted p)) growRow (law_is_endless_G [.list (enc (dotted p))])).bind _) = _
  rw [growRow_eq, m2]
  show ((((law_is_endless_G [.list (enc (shrunk (dotted p)))]).bind gInt).bind fun k => gIx (.list [.str "keep", .str "ever"]) k).map _) = _
  rw [e3]
  cases endlessB (shrunk (dotted p)) <;> rfl
theorem blockB_two {w : Str} {m : Int} {R : List PyData} (h : gEq (.str w) (.str "again") = some (.bool false)) : blockB (.str w) m R = some (.tuple [.str w, .tuple R]) := by
  unfold blockB
  rw [h]
  rfl
theorem blockB_again {m : Nat} {p : Prog} (hm : m ≤ 12) (hd : deepN p < 8) (hl : Lim p) (hn : doneN p ≤ 720) : blockB (.str "again") (m : Int) (enc p) = some (blkD (.again (if m * doneN p ≤ 90 then m else 1)) (enc p)) := by
  have e1 : law_done_G [.list (enc p)] = some (.int (doneN p : Int)) := (done_ev 8 p hd hl).2.2
  have e2 := cmN hm hn
  unfold blockB
  rw [eq_again_again]
  show (((((law_done_G [.list (enc p)]).bind fun dn => gMul (.int (m : Int)) dn).bind fun p => gGt p (.int 90)).bind gInt).bind _) = _
  rw [e1]
  show ((((gMul (.int (m : Int)) (.int (doneN p : Int))).bind fun p => gGt p (.int 90)).bind gInt).bind _) = _
  rw [e2]
  show (((some (PyData.bool (decide ((90 : Int) < ((m * doneN p : Nat) : Int))))).bind gInt).bind _) = _
  by_cases c : m * doneN p ≤ 90
  · rw [decide_eq_false (by omega), if_pos c]
    rfl
  · rw [decide_eq_true (by omega), if_neg c]
    rfl
theorem blk_imm (k : Kd) (p : Prog) : imm (blkD k (enc p)) = true := by
  have h := imm_enc (.blk k p .nil)
  have h2 : (imm (blkD k (enc p)) && true) = true := h
  rwa [Bool.and_true] at h2
theorem times_le {m n : Nat} (h : m * n ≤ 90) (c : Nat) (hn : n ≤ 45 * c) : m * n ≤ 45 * (c + 1) := by
  cases c with
  | zero =>
    have : n = 0 := by omega
    rw [this]
    simp
  | succ c => omega
theorem close_ok {w : Str} {m c d : Nat} {p : Prog} (hw : w = "again" ∨ w = "keep" ∨ w = "ever") (hm : m ≤ 12) (h : Wf c d 0 p) (hc : c ≤ 15) (hd : d ≤ 5) (hv : w = "ever" → noEver p = true) :
    ∃ k b, closeB (w, (m : Int), enc p) = some (blkD k (enc b)) ∧ Wf (c + 1) (d + 1) 0 (.blk k b .nil) ∧ (w ≠ "ever" → noEver p = true → noEver (.blk k b .nil) = true) := by
  have hdn := h.dn
  rcases hw with z | z | z
  · subst z
    refine ⟨.again (if m * doneN p ≤ 90 then m else 1), p, ?_, h.block (by decide) hc ?_ ?_ (fun y => by cases y), fun _ hn => ?_⟩
    · unfold closeB
      show (((gEq (.str "again") (.str "ever")).bind gB).bind _).bind immO = _
      rw [eq_again_ever]
      show (blockB (.str "again") (m : Int) (enc p)).bind immO = _
      rw [blockB_again hm (by have := h.dp; omega) h.lim (by omega)]
      exact immO_ok (blk_imm _ _)
    · show (if m * doneN p ≤ 90 then m else 1) ≤ 12
      split <;> omega
    · show (if m * doneN p ≤ 90 then m else 1) * doneN p ≤ _
      by_cases y : m * doneN p ≤ 90
      · rw [if_pos y]
        exact times_le y c (by omega)
      · rw [if_neg y]
        omega
    · rw [noEver_blk, hn]
      rfl
  · subst z
    refine ⟨.keep, p, ?_, h.block (by decide) hc (by decide) (by show 1 * doneN p ≤ _; omega) (fun y => by cases y), fun _ hn => by rw [noEver_blk, hn]; rfl⟩
    unfold closeB
    show (((gEq (.str "keep") (.str "ever")).bind gB).bind _).bind immO = _
    rw [eq_keep_ever]
    show (blockB (.str "keep") (m : Int) (enc p)).bind immO = _
    rw [blockB_two eq_keep_again]
    exact immO_ok (blk_imm .keep p)
  · subst z
    have w1 : Wf c d 1 (dotted p) := wf_if (r := .dot) h trivial dot_few _
    have w2 : Wf c d 2 (shrunk (dotted p)) := wf_if w1 grow_ok grow_few _
    have hne : noEver (shrunk (dotted p)) = true := ne_if (ne_if (hv rfl) _) _
    have he := everB_ok h hc hd
    have hdn2 := w2.dn
    have hun : closeB ("ever", (m : Int), enc p) = ((everB (enc p)).bind fun p => blockB p.1 (m : Int) p.2).bind immO := by
      unfold closeB
      show (((gEq (.str "ever") (.str "ever")).bind gB).bind _).bind immO = _
      rw [eq_ever_ever]
      rfl
    cases hb : endlessB (shrunk (dotted p)) with
    | true =>
      rw [hb, if_pos rfl] at he
      refine ⟨.ever, shrunk (dotted p), ?_, w2.block (by decide) hc (by decide) (by show 1 * doneN _ ≤ _; omega) (fun _ => ⟨hb, hne⟩), fun y => absurd rfl y⟩
      rw [hun, he]
      show (blockB (.str "ever") (m : Int) (enc (shrunk (dotted p)))).bind immO = _
      rw [blockB_two eq_ever_again]
      exact immO_ok (blk_imm .ever _)
    | false =>
      rw [hb, if_neg (by decide)] at he
      refine ⟨.keep, shrunk (dotted p), ?_, w2.block (by decide) hc (by decide) (by show 1 * doneN _ ≤ _; omega) (fun y => by cases y), fun y => absurd rfl y⟩
      rw [hun, he]
      show (blockB (.str "keep") (m : Int) (enc (shrunk (dotted p)))).bind immO = _
      rw [blockB_two eq_keep_again]
      exact immO_ok (blk_imm .keep _)
end Arc
set_option Elab.async false
set_option linter.all false
set_option maxRecDepth 100000
set_option maxHeartbeats 1000000
set_option exponentiation.threshold 200
namespace Arc
open PySem L2 TL
/-! ## the stack of open blocks, on programs -/
abbrev AE := Str × Nat × Prog
def ent (a : AE) : Ent := (a.1, (a.2.1 : Int), enc a.2.2)
def hasEv : List AE → Bool
  | [] => false
  | a :: r => decide (a.1 = "ever") || hasEv r
inductive SOk : Nat → List AE → Prop
  | bot {c : Nat} {p : Prog} : Wf c 4 0 p → SOk c [("", 0, p)]
  | cons {c c' m : Nat} {w : Str} {p : Prog} {r : List AE} : SOk c' r → (w = "again" ∨ w = "keep" ∨ w = "ever") → m ≤ 12 → r.length ≤ 4 → Wf c (4 - r.length) 0 p → (hasEv ((w, m, p) :: r) = true → noEver p = true) → (w = "ever" → hasEv r = false) → SOk (c + c' + 1) ((w, m, p) :: r)
theorem SOk.len {n : Nat} {s : List AE} (h : SOk n s) : 1 ≤ s.length ∧ s.length ≤ 5 := by
  cases h with
  | bot h => exact ⟨Nat.le_refl _, by show 1 ≤ 5; decide⟩
  | cons h hw hm hl hf he hv => exact ⟨by simp, by simp only [List.length_cons]; omega⟩
theorem SOk.top {n : Nat} {a : AE} {r : List AE} (h : SOk n (a :: r)) : ∃ c d, c ≤ n ∧ Wf c d 0 a.2.2 := by
  cases h with
  | bot h => exact ⟨_, _, Nat.le_refl _, h⟩
  | cons h hw hm hl hf he hv => exact ⟨_, _, by omega, hf⟩
theorem SOk.add {n c : Nat} {a : AE} {r : List AE} {q : Prog} (h : SOk n (a :: r)) (hq : Wf c (4 - r.length) 0 q) (he : hasEv (a :: r) = true → noEver q = true) : SOk (n + c) ((a.1, a.2.1, appP a.2.2 q) :: r) := by
  cases h with
  | bot h => exact .bot (h.app hq)
  | cons h hw hm hl hf he2 hv =>
    rename_i c0 c' m w p
    have hs : SOk (c0 + c + c' + 1) ((w, m, appP p q) :: r) := .cons h hw hm hl (hf.app hq) (fun z => by
      rw [noEver_app, he2 z, he z]
      rfl) hv
    have e : c0 + c' + 1 + c = c0 + c + c' + 1 := by omega
    rw [e]
    exact hs
theorem ent_add (a : AE) (q : Prog) (d : PyData) (h : enc q = [d]) : addB (ent a) d = ent (a.1, a.2.1, appP a.2.2 q) := by
  show (a.1, (a.2.1 : Int), enc a.2.2 ++ [d]) = (a.1, (a.2.1 : Int), enc (appP a.2.2 q))
  rw [enc_app, h]
theorem top_len {n : Nat} {a : AE} {r : List AE} (h : SOk n (a :: r)) (hn : n ≤ 16) : (ent a).2.2.length ≤ 100000 := by
  obtain ⟨c, d, hc, w⟩ := h.top
  have := rowsL_len w (by omega) (by omega)
  show (enc a.2.2).length ≤ 100000
  omega
theorem closeS_ok {n : Nat} {a b : AE} {r : List AE} (h : SOk n (a :: b :: r)) (hn : n ≤ 16) : ∃ b', closeS ((a :: b :: r).map ent) = some ((b' :: r).map ent) ∧ SOk n (b' :: r) := by
  cases h with
  | cons h hw hm hl hf he hv =>
    rename_i c c' m w p
    have hl2 : r.length + 1 ≤ 4 := hl
    have hf2 : Wf c (4 - (r.length + 1)) 0 p := hf
    obtain ⟨k, q, h1, h2, h3⟩ := close_ok (d := 4 - (r.length + 1)) hw hm hf2 (by omega) (by omega) (fun z => he (by
      show (decide (w = "ever") || _) = true
      rw [decide_eq_true z]
      rfl))
    have h4 := h.add (h2.up (Nat.le_refl _) (show 4 - (r.length + 1) + 1 ≤ 4 - r.length by omega)) (fun z => by
      have hne : w ≠ "ever" := fun y => by
        rw [hv y] at z
        cases z
      refine h3 hne (he ?_)
      show (decide (w = "ever") || hasEv (b :: r)) = true
      rw [z, Bool.or_true])
    have e : c + c' + 1 = c' + (c + 1) := by omega
    rw [e]
    refine ⟨_, ?_, h4⟩
    show (if (ent b).2.2.length ≤ 100000 then (closeB (w, (m : Int), enc p)).map (fun z => addB (ent b) z :: r.map ent) else none) = _
    rw [if_pos (top_len h (by omega)), h1]
    show some (addB (ent b) (blkD k (enc q)) :: r.map ent) = _
    rw [ent_add b (.blk k q .nil) _ rfl]
    rfl
/-! ### a cell -/
theorem stk_len (s : List AE) : gLen (stkD (s.map ent)) = some (.int (s.length : Int)) := by
  show some (PyData.int _) = _
  simp
theorem openT_ev {L R : PyData} {way n : Int} (h : gLen L = some (.int n)) : openT [none, some L, none, some R, some (.int way), none, none, none] = some (decide (way < 3) && decide (n < 5)) := by
  have g1 : gLt (.int way) (.int 3) = some (.bool (decide (way < 3))) := rfl
  have g2 : gLt (.int n) (.int 5) = some (.bool (decide (n < 5))) := rfl
  unfold openT
  by_cases c : way < 3
  · rw [decide_eq_true c] at g1 ⊢
    simp [f1, f2, fV, fC, fCons, fNil, fSeq, fSet, fRet, fIf, fNext, fNever, fAnd, fOr, fAndV, fOrV, fUnp, fPar, fSl, fChain, tgF, tgN, gTu, gLs, startR, defG, outV, on1, on2, gB, gNot, gNotV, gI, g1, h, g2]
  · rw [decide_eq_false c] at g1 ⊢
    simp [f1, f2, fV, fC, fCons, fNil, fSeq, fSet, fRet, fIf, fNext, fNever, fAnd, fOr, fAndV, fOrV, fUnp, fPar, fSl, fChain, tgF, tgN, gTu, gLs, startR, defG, outV, on1, on2, gB, gNot, gNotV, gI, g1]
theorem closeT_ev {L R : PyData} {way n : Int} (h : gLen L = some (.int n)) : closeT [none, some L, none, some R, some (.int way), none, none, none] = some (decide (way = 3) && decide (1 < n)) := by
  have g1 := gEq_int way 3
  have g2 : gGt (.int n) (.int 1) = some (.bool (decide (1 < n))) := rfl
  unfold closeT
  by_cases c : way = 3
  · rw [decide_eq_true c] at g1 ⊢
    simp [f1, f2, fV, fC, fCons, fNil, fSeq, fSet, fRet, fIf, fNext, fNever, fAnd, fOr, fAndV, fOrV, fUnp, fPar, fSl, fChain, tgF, tgN, gTu, gLs, startR, defG, outV, on1, on2, gB, gNot, gNotV, gI, g1, h, g2]
  · rw [decide_eq_false c] at g1 ⊢
    simp [f1, f2, fV, fC, fCons, fNil, fSeq, fSet, fRet, fIf, fNext, fNever, fAnd, fOr, fAndV, fOrV, fUnp, fPar, fSl, fChain, tgF, tgN, gTu, gLs, startR, defG, outV, on1, on2, gB, gNot, gNotV, gI, g1]
theorem any_ev : ∀ s : List AE, (((s.map ent).reverse.map fun e : Ent => PyData.str e.1).any fun y => eqF y (.str "ever")) = hasEv s
  | [] => rfl
  | a :: s => by
    have ih := any_ev s
    rw [List.map_cons, List.reverse_cons, List.map_append, List.any_append, ih]
    show (hasEv s || ((a.1 == ("ever" : Str)) || false)) = (decide (a.1 = "ever") || hasEv s)
    rw [Bool.or_false, Bool.or_comm]
    rfl
theorem words_lc (s : List AE) (ρ : Rho) : lcF (tgN 7) (fun _ => some true) (f2 gIx (fV 7) (fC (.int 0))) [none, some (stkD (s.map ent)), none, ρ.headD none, ρ[1]?.getD none, ρ[2]?.getD none, none, none] ((s.map ent).reverse.map entD) = some ((s.map ent).reverse.map fun e : Ent => PyData.str e.1) :=
  map_lc _ entD (fun e : Ent => PyData.str e.1) (s.map ent).reverse fun a _ => ⟨rfl, rfl⟩
theorem everT_no {L R : PyData} {way : Int} {w : Str} (h : gEq (.str w) (.str "ever") = some (.bool false)) : everT [none, some L, none, some R, some (.int way), some (.str w), none, none] = some false := by
  unfold everT
  simp [f1, f2, fV, fC, fCons, fNil, fSeq, fSet, fRet, fIf, fNext, fNever, fAnd, fOr, fAndV, fOrV, fUnp, fPar, fSl, fChain, tgF, tgN, gTu, gLs, startR, defG, outV, on1, on2, gB, gNot, gNotV, gI, h]
theorem everT_yes {s : List AE} {R : PyData} {way : Int} (hl : s.length ≤ 5) : everT [none, some (stkD (s.map ent)), none, some R, some (.int way), some (.str "ever"), none, none] = some (hasEv s) := by
  have hlc := words_lc s [some R, some (.int way), some (.str "ever")]
  have hf : fLc [7] (tgN 7) (fun _ => some true) (f2 gIx (fV 7) (fC (.int 0))) (f1 itL (fV 1)) [none, some (stkD (s.map ent)), none, some R, some (.int way), some (.str "ever"), none, none] = some (.list ((s.map ent).reverse.map fun e : Ent => PyData.str e.1)) := by
    show (if ((s.map ent).reverse.map entD).length ≤ 1000000 then (lcF (tgN 7) (fun _ => some true) (f2 gIx (fV 7) (fC (.int 0))) [none, some (stkD (s.map ent)), none, some R, some (.int way), some (.str "ever"), none, none] ((s.map ent).reverse.map entD)).map PyData.list else none) = _
    rw [if_pos (by simp; omega)]
    have hlc2 : lcF (tgN 7) (fun _ => some true) (f2 gIx (fV 7) (fC (.int 0))) [none, some (stkD (s.map ent)), none, some R, some (.int way), some (.str "ever"), none, none] ((s.map ent).reverse.map entD) = some ((s.map ent).reverse.map fun e : Ent => PyData.str e.1) := hlc
    rw [hlc2]
    rfl
  have hin : gIn (.str "ever") (.list ((s.map ent).reverse.map fun e : Ent => PyData.str e.1)) = some (.bool (hasEv s)) := by
    show (if (flatD (.str "ever") && ((s.map ent).reverse.map fun e : Ent => PyData.str e.1).all flatD) = true then some (PyData.bool (((s.map ent).reverse.map fun e : Ent => PyData.str e.1).any fun y => eqF y (.str "ever"))) else none) = _
    have ha : ((s.map ent).reverse.map fun e : Ent => PyData.str e.1).all flatD = true := by
      rw [List.all_eq_true]
      intro x hx
      obtain ⟨e, _, rfl⟩ := List.mem_map.mp hx
      rfl
    rw [ha, any_ev]
    rfl
  unfold everT fAnd
  have t1 : f1 gB (f2 gEq (fV 5) (fC (.str "ever"))) [none, some (stkD (s.map ent)), none, some R, some (.int way), some (.str "ever"), none, none] = some true := by
    simp [f1, f2, fV, fC, fCons, fNil, fSeq, fSet, fRet, fIf, fNext, fNever, fAnd, fOr, fAndV, fOrV, fUnp, fPar, fSl, fChain, tgF, tgN, gTu, gLs, startR, defG, outV, on1, on2, gB, gNot, gNotV, gI, eq_ever_ever]
  rw [t1]
  simp only [Option.bind_some, if_true]
  show ((((fLc [7] (tgN 7) (fun _ => some true) (f2 gIx (fV 7) (fC (.int 0))) (f1 itL (fV 1)) [none, some (stkD (s.map ent)), none, some R, some (.int way), some (.str "ever"), none, none]).bind fun b => gIn (.str "ever") b)).bind gB) = _
  rw [hf]
  show ((gIn (.str "ever") (.list ((s.map ent).reverse.map fun e : Ent => PyData.str e.1))).bind gB) = _
  rw [hin]
  rfl
theorem push_ok {n : Nat} {s : List AE} {row : List PyData} {way r9 r10 : Int} {w : Str} (h : SOk n s) (hl : s.length ≤ 4) (g9 : gIx (.list row) (.int 9) = some (.int r9)) (g10 : gIx (.list row) (.int 10) = some (.int r10)) (hw : w = "again" ∨ w = "keep" ∨ w = "ever") (hv : w = "ever" → hasEv s = false) :
    ∃ m : Nat, pushS (s.map ent) row way w = some (((w, m, .nil) :: s).map ent) ∧ SOk (n + 1) ((w, m, .nil) :: s) := by
  obtain ⟨t, ht, hi⟩ : ∃ t : Int, (0 < t ∧ t ≤ 13) ∧ gIx (.list [.int 3, .int 3, .int 13]) (.int (r9 % 3)) = some (.int t) := by
    have h3 : r9 % 3 = 0 ∨ r9 % 3 = 1 ∨ r9 % 3 = 2 := by omega
    rcases h3 with z | z | z <;> rw [z]
    · exact ⟨3, by decide, rfl⟩
    · exact ⟨3, by decide, rfl⟩
    · exact ⟨13, by decide, rfl⟩
  have m0 := Int.emod_nonneg r10 (show t ≠ 0 by omega)
  have m1 := Int.emod_lt_of_pos r10 ht.1
  have d1 := mod_i r9 (b := 3) (by decide)
  have d2 := mod_i r10 ht.1
  have hm : manyF [none, some (stkD (s.map ent)), none, some (.list row), some (.int way), none, none, none] = some (.int (((r10 % t).toNat : Nat) : Int)) := by
    rw [Int.toNat_of_nonneg m0]
    unfold manyF
    simp [f1, f2, fV, fC, fCons, fNil, fSeq, fSet, fRet, fIf, fNext, fNever, fAnd, fOr, fAndV, fOrV, fUnp, fPar, fSl, fChain, tgF, tgN, gTu, gLs, startR, defG, outV, on1, on2, gB, gNot, gNotV, gI, g10, g9, d1, hi, d2]
  refine ⟨(r10 % t).toNat, ?_, ?_⟩
  · unfold pushS
    rw [hm]
    show (if (s.map ent).length ≤ 100000 then _ else none) = _
    rw [if_pos (by rw [List.length_map]; omega)]
    rfl
  · have hs : SOk (0 + n + 1) ((w, (r10 % t).toNat, .nil) :: s) := .cons h hw (by omega) hl (Wf.nil _) (fun _ => rfl) hv
    rw [Nat.zero_add] at hs
    exact hs
theorem step_ok {n : Nat} {s : List AE} (c : Int) (h : SOk n s) (hn : n ≤ 15) : ∃ n' s', stepP c (s.map ent) = some (s'.map ent) ∧ SOk n' s' ∧ n' ≤ n + 1 := by
  have hrow : law_row_G [.int c, .int 12] = some (.list ((rowL c 12).map .int)) := rfl
  have hlen := rowL_len c 12
  have hcel := row_cel c
  generalize rowL c 12 = l at hrow hlen hcel
  have hl5 := h.len
  obtain ⟨r9, r10, r11, g9, g10, g11⟩ : ∃ r9 r10 r11 : Int, gIx (.list (l.map .int)) (.int 9) = some (.int r9) ∧ gIx (.list (l.map .int)) (.int 10) = some (.int r10) ∧ gIx (.list (l.map .int)) (.int 11) = some (.int r11) := by
    match l, hlen with
    | [r0, r1, r2, r3, r4, r5, r6, r7, r8, r9, r10, r11], _ => exact ⟨r9, r10, r11, rfl, rfl, rfl⟩
  have d1 := mod_i r11 (b := 9) (by decide)
  have hway : wayF [none, none, none, some (.list (l.map .int)), none, none, none, none] = some (.int (r11 % 9)) := by
    unfold wayF
    simp [f1, f2, fV, fC, fCons, fNil, fSeq, fSet, fRet, fIf, fNext, fNever, fAnd, fOr, fAndV, fOrV, fUnp, fPar, fSl, fChain, tgF, tgN, gTu, gLs, startR, defG, outV, on1, on2, gB, gNot, gNotV, gI, g11, d1]
  have hm0 : 0 ≤ r11 % 9 := by omega
  generalize r11 % 9 = way at hway hm0
  have ho := openT_ev (R := .list (l.map .int)) (way := way) (stk_len s)
  have hc := closeT_ev (R := .list (l.map .int)) (way := way) (stk_len s)
  have hstep : stepP c (s.map ent) = (openT [none, some (stkD (s.map ent)), none, some (.list (l.map .int)), some (.int way), none, none, none]).bind fun b1 => if b1 = true then
    ((wordF [none, some (stkD (s.map ent)), none, some (.list (l.map .int)), some (.int way), none, none, none]).bind strO).bind fun w0 =>
      (everT [none, some (stkD (s.map ent)), none, some (.list (l.map .int)), some (.int way), some (.str w0), none, none]).bind fun b2 => if b2 = true then pushS (s.map ent) (l.map .int) way "keep" else pushS (s.map ent) (l.map .int) way w0
    else (closeT [none, some (stkD (s.map ent)), none, some (.list (l.map .int)), some (.int way), none, none, none]).bind fun b3 => if b3 = true then closeS (s.map ent)
    else ((law_plain_G [.list (l.map .int)]).bind immO).bind fun d => addS d (s.map ent) := by
    unfold stepP
    rw [hrow]
    show ((wayF [none, none, none, some (.list (l.map .int)), none, none, none, none]).bind intO).bind _ = _
    rw [hway]
    rfl
  rw [hstep, ho]
  cases hb1 : (decide (way < 3) && decide ((s.length : Int) < 5)) with
  | true =>
    rw [Bool.and_eq_true, decide_eq_true_eq, decide_eq_true_eq] at hb1
    obtain ⟨hw3, hs5⟩ := hb1
    have hs4 : s.length ≤ 4 := by omega
    simp only [Option.bind_some, if_true]
    have h3 : way = 0 ∨ way = 1 ∨ way = 2 := by omega
    rcases h3 with z | z | z
    · have hwd : wordF [none, some (stkD (s.map ent)), none, some (.list (l.map .int)), some (.int way), none, none, none] = some (.str "again") := by
        rw [z]
        rfl
      obtain ⟨m, e1, e2⟩ := push_ok (way := way) (w := "again") h hs4 g9 g10 (.inl rfl) (fun y => by
        have : ("again" : Str) ≠ "ever" := by decide +kernel
        exact absurd y this)
      refine ⟨_, _, ?_, e2, Nat.le_refl _⟩
      rw [hwd]
      show (everT [none, some (stkD (s.map ent)), none, some (.list (l.map .int)), some (.int way), some (.str "again"), none, none]).bind _ = _
      rw [everT_no eq_again_ever]
      exact e1
    · have hwd : wordF [none, some (stkD (s.map ent)), none, some (.list (l.map .int)), some (.int way), none, none, none] = some (.str "keep") := by
        rw [z]
        rfl
      obtain ⟨m, e1, e2⟩ := push_ok (way := way) (w := "keep") h hs4 g9 g10 (.inr (.inl rfl)) (fun y => by
        have : ("keep" : Str) ≠ "ever" := by decide +kernel
        exact absurd y this)
      refine ⟨_, _, ?_, e2, Nat.le_refl _⟩
      rw [hwd]
      show (everT [none, some (stkD (s.map ent)), none, some (.list (l.map .int)), some (.int way), some (.str "keep"), none, none]).bind _ = _
      rw [everT_no eq_keep_ever]
      exact e1
    · have hwd : wordF [none, some (stkD (s.map ent)), none, some (.list (l.map .int)), some (.int way), none, none, none] = some (.str "ever") := by
        rw [z]
        rfl
      cases hev : hasEv s with
      | true =>
        obtain ⟨m, e1, e2⟩ := push_ok (way := way) (w := "keep") h hs4 g9 g10 (.inr (.inl rfl)) (fun y => by
          have : ("keep" : Str) ≠ "ever" := by decide +kernel
          exact absurd y this)
        refine ⟨_, _, ?_, e2, Nat.le_refl _⟩
        rw [hwd]
        show (everT [none, some (stkD (s.map ent)), none, some (.list (l.map .int)), some (.int way), some (.str "ever"), none, none]).bind _ = _
        rw [everT_yes (by omega), hev]
        exact e1
      | false =>
        obtain ⟨m, e1, e2⟩ := push_ok (way := way) (w := "ever") h hs4 g9 g10 (.inr (.inr rfl)) (fun _ => hev)
        refine ⟨_, _, ?_, e2, Nat.le_refl _⟩
        rw [hwd]
        show (everT [none, some (stkD (s.map ent)), none, some (.list (l.map .int)), some (.int way), some (.str "ever"), none, none]).bind _ = _
        rw [everT_yes (by omega), hev]
        exact e1
  | false =>
    simp only [Option.bind_some, Bool.false_eq_true, if_false]
    rw [hc]
    cases hb3 : (decide (way = 3) && decide ((1 : Int) < (s.length : Int))) with
    | true =>
      rw [Bool.and_eq_true, decide_eq_true_eq, decide_eq_true_eq] at hb3
      simp only [Option.bind_some, if_true]
      match s, h, hb3 with
      | [], _, hb3 => simp at hb3
      | [a], _, hb3 => simp at hb3
      | a :: b :: r, h, _ =>
        obtain ⟨b', e1, e2⟩ := closeS_ok h (by omega)
        exact ⟨n, _, e1, e2, by omega⟩
    | false =>
      simp only [Option.bind_some, Bool.false_eq_true, if_false]
      obtain ⟨r, E, e1, hE0, hE, hp⟩ := plain_row_ev hlen hcel
      rw [e1]
      match s, h with
      | [], h => exact absurd h.len.1 (by simp)
      | a :: t, h =>
        refine ⟨n + 1, _, ?_, h.add (q := .pl r .nil) (Wf.plain hE0 hE hp) (fun _ => rfl), Nat.le_refl _⟩
        show ((immO (plD r)).bind fun d => addS d ((a :: t).map ent)) = _
        rw [immO_ok (imm_plD r)]
        show (if (ent a).2.2.length ≤ 100000 then some (addB (ent a) (plD r) :: t.map ent) else none) = _
        rw [if_pos (top_len h (by omega)), ent_add a (.pl r .nil) _ rfl]
        rfl
theorem run_ok : ∀ (l : List Int) (n : Nat) (s : List AE), SOk n s → n + l.length ≤ 16 → ∃ n' s', runP (l.map .int) (s.map ent) = some (s'.map ent) ∧ SOk n' s' ∧ n' ≤ 16
  | [], n, s, h, hn => ⟨n, s, rfl, h, by simpa using hn⟩
  | c :: l, n, s, h, hn => by
    simp only [List.length_cons] at hn
    obtain ⟨n1, s1, e1, h1, hn1⟩ := step_ok c h (by omega)
    obtain ⟨n2, s2, e2, h2, hn2⟩ := run_ok l n1 s1 h1 (by omega)
    refine ⟨n2, s2, ?_, h2, hn2⟩
    show ((stepP c (s.map ent)).bind fun s => runP (l.map .int) s) = _
    rw [e1]
    exact e2
theorem closeAll_ok : ∀ (k : Nat) (s : List AE) (n : Nat), s.length ≤ k → SOk n s → n ≤ 16 → ∃ p, closeAll k (s.map ent) = some ((("" : Str), (0 : Int), enc p) : Ent) ∧ Wf n 4 0 p
  | k, [], n, _, h, _ => absurd h.len.1 (by simp)
  | k, [a], n, _, h, hn => by
    cases h with
    | bot h => exact ⟨_, by cases k <;> rfl, h⟩
    | cons h hw hm hl hf he hv => exact absurd h.len.1 (by simp)
  | 0, a :: b :: r, n, hk, _, _ => by simp at hk
  | k + 1, a :: b :: r, n, hk, h, hn => by
    obtain ⟨b', e1, e2⟩ := closeS_ok h hn
    obtain ⟨p, e3, w⟩ := closeAll_ok k (b' :: r) n (by simp at hk ⊢; omega) e2 hn
    refine ⟨p, ?_, w⟩
    show ((closeS ((a :: b :: r).map ent)).bind fun s => closeAll k s) = _
    rw [e1]
    exact e3
theorem app_nil : ∀ p : Prog, appP p .nil = p
  | .nil => rfl
  | .pl r p => by show Prog.pl r (appP p .nil) = _; rw [app_nil p]
  | .blk k b p => by show Prog.blk k b (appP p .nil) = _; rw [app_nil p]
theorem app_assoc : ∀ p q r : Prog, appP (appP p q) r = appP p (appP q r)
  | .nil, _, _ => rfl
  | .pl x p, q, r => by show Prog.pl x (appP (appP p q) r) = Prog.pl x (appP p (appP q r)); rw [app_assoc p q r]
  | .blk k b p, q, r => by show Prog.blk k b (appP (appP p q) r) = Prog.blk k b (appP p (appP q r)); rw [app_assoc p q r]
theorem trim_ok : ∀ (k : Nat) (p : Prog), (enc p).length ≤ k → deepN p < 8 → Lim p → ∃ a b, p = appP a b ∧ trimF k (enc p) = some (enc a) ∧ doneN a ≤ 300
  | 0, p, hk, hd, hl => by
    have e1 : law_done_G [.list (enc p)] = some (.int (doneN p : Int)) := (done_ev 8 p hd hl).2.2
    have ep : p = .nil := by
      cases p with
      | nil => rfl
      | pl r p => simp [enc] at hk
      | blk k b p => simp [enc] at hk
    subst ep
    refine ⟨.nil, .nil, rfl, ?_, by decide⟩
    unfold trimF
    rw [e1]
    rfl
  | k + 1, p, hk, hd, hl => by
    have e1 : law_done_G [.list (enc p)] = some (.int (doneN p : Int)) := (done_ev 8 p hd hl).2.2
    by_cases c : doneN p ≤ 300
    · refine ⟨p, .nil, (app_nil p).symm, ?_, c⟩
      unfold trimF
      rw [e1]
      show (if (300 : Int) < (doneN p : Int) then _ else _) = _
      rw [if_neg (by omega)]
    · have hne : (enc p).length ≠ 0 := fun z => by
        cases p with
        | nil => exact c (by decide)
        | pl r p => simp [enc] at z
        | blk k b p => simp [enc] at z
      obtain ⟨a, b, h1, h2, h3⟩ := split_at p ((enc p).length - 1) (by omega)
      have hdl : (enc p).dropLast = enc a := by rw [List.dropLast_eq_take, h2]
      have hla : (enc a).length ≤ k := by rw [← hdl, List.length_dropLast]; omega
      have hd2 := deep_app a b
      rw [← h1] at hd2
      have hl2 : Lim (appP a b) := by rw [← h1]; exact hl
      obtain ⟨a', b', i1, i2, i3⟩ := trim_ok k a hla (by omega) (lim_app.mp hl2).1
      refine ⟨a', appP b' b, ?_, ?_, i3⟩
      · rw [← app_assoc, ← i1]
        exact h1
      · unfold trimF
        rw [e1]
        show (if (300 : Int) < (doneN p : Int) then (if (enc p).length = 0 then none else trimF k (enc p).dropLast) else some (enc p)) = _
        rw [if_pos (by omega), if_neg hne, hdl]
        exact i2
/-- what the cells make -/
theorem program_ok (l : List Int) (hl : l.length ≤ 16) : ∃ (p : Prog) (E : Nat), law_program_G [.list (l.map .int)] = some (.tuple (enc p)) ∧ 0 < E ∧ E ≤ 2 ^ 640 ∧ Sound E p ∧ deepN p ≤ 4 ∧ rowsN p ≤ 60 ∧ FewG p := by
  obtain ⟨n, s, e1, h1, hn⟩ := run_ok l 0 [("", 0, .nil)] (.bot (Wf.nil 4)) (by omega)
  obtain ⟨q, e2, w⟩ := closeAll_ok (s.map ent).length s n (by rw [List.length_map]; exact Nat.le_refl _) h1 hn
  obtain ⟨a, b, h2, e3, hd⟩ := trim_ok (enc q).length q (Nat.le_refl _) (by have := w.dp; omega) w.lim
  obtain ⟨E, hE0, hE, hall⟩ := w.e hn
  have hdp := deep_app a b
  have hrw := rows_app a b
  rw [← h2] at hdp hrw
  have wdp := w.dp
  have wrw := w.rw
  have hlim := w.lim
  have hev := w.ev
  have hfew := w.few
  rw [h2] at hall hlim hev hfew
  refine ⟨a, E, ?_, hE0, hE, ⟨by omega, (all_app.mp hall).1, (lim_app.mp hlim).1, (ev_app.mp hev).1, hd⟩, by omega, by omega, (few_app.mp hfew).1⟩
  have e1' : runP (l.map .int) [("", 0, [])] = some (s.map ent) := e1
  show ((runP (l.map .int) [("", 0, [])]).bind fun stk => (closeAll stk.length stk).bind fun e => (trimF e.2.2.length e.2.2).map PyData.tuple) = _
  rw [e1']
  show ((closeAll (s.map ent).length (s.map ent)).bind fun e => (trimF e.2.2.length e.2.2).map PyData.tuple) = _
  rw [e2]
  show (trimF (enc q).length (enc q)).map PyData.tuple = _
  rw [e3]
  rfl
theorem law_ok (ns : List Int) : LawOk ns := by
  obtain ⟨p, E, e, hE0, hE, hs, h4, hr, hf⟩ := program_ok (ns.take 16) (by rw [List.length_take]; omega)
  obtain ⟨t1, t2⟩ := text_ev hE0 hE h4 hs.all hs.lim hs.ev hr hf
  have hlen := enc_len p
  exact ⟨enc p, e, by omega, fun i hi => law_cut_ev hE0 hE hs i hi, rest_ev hE0 hE hs h4 (by omega) t1 t2⟩
end Arc
set_option Elab.async false
set_option linter.all false
set_option maxRecDepth 100000
set_option maxHeartbeats 4000000
namespace Arc
open PySem PySem.Spec PyProof.Rows L2
def spLaw (K : PySem.W.Frag) : Sp := fun vs H Q _ => ∃ (a : Addr) (ns : List Int), vs = [.ref a] ∧ SqL K H a (ns.map V.int) ∧ ns.length ≤ 63 ∧ ∀ H', Q (.bl true) H'
theorem facts {P : Program} {w : World} {K : PySem.W.Frag} {h : Heap} {mg : Str → Option Value} {f : Addr} (X : K.In h) (G : h.Ns mainGlobals mg) (hfa : mg ("law" : Str) = some (.ref f)) (c : SaysM w K) :
    ∃ fd : FuncData, (∀ (s : Shared) (v : Value), BindsTo s fd ⟨[v], []⟩ [("_law_script", v)]) ∧ ∀ base : Heap, K.In base → base.Ns mainGlobals mg → FnOk P w K mg base CX0 200 f fd ["_law_script"] (spLaw K) := by
  have B : Bs w K mg := ⟨⟨h, X, G⟩, c⟩
  have T := tp_of B
  obtain ⟨fd, Fd, hm⟩ := law_def B
  have ef : f = He.ga K "law" := by
    rw [hm] at hfa
    cases hfa
    rfl
  subst ef
  have whole : ∀ base : Heap, FnOk P w K mg base CX0 53 (He.ga K "law") fd ["_law_script"] (fun vs H Q _ => ∃ (a : Addr) (ns : List Int), vs = [.ref a] ∧ SqL K H a (ns.map V.int) ∧ LawOk ns ∧ ∀ H', Q (.bl true) H') := by
    intro base
    have h_divisor := ok_divisor (P := P) (base := base) B T
    have h_ratio := ok_ratio (P := P) (base := base) B T h_divisor
    have h_plus := ok_plus (P := P) (base := base) B T h_ratio
    have h_minus := ok_minus (P := P) (base := base) B T h_ratio
    have h_times := ok_times (P := P) (base := base) B T h_ratio
    have h_over := ok_over (P := P) (base := base) B T h_ratio
    have h_below := ok_below (P := P) (base := base) B T
    have h_together := ok_together (P := P) (base := base) B T h_plus
    have h_off := ok_off (P := P) (base := base) B T h_minus
    have h_grown := ok_grown (P := P) (base := base) B T h_times
    have h_turned := ok_turned (P := P) (base := base) B T
    have h_along := ok_along (P := P) (base := base) B T h_times h_plus
    have h_far := ok_far (P := P) (base := base) B T h_along h_off
    have h_before := ok_before (P := P) (base := base) B T h_below
    have h_stretch := ok_stretch (P := P) (base := base) B T h_before
    have h_arc := ok_arc (P := P) (base := base) B T h_far
    have h_first := ok_first (P := P) (base := base) B T
    have h_led := ok_led (P := P) (base := base) B T h_turned h_grown h_together
    have h_behind := ok_behind (P := P) (base := base) B T h_times h_led
    have h_undone := ok_undone (P := P) (base := base) B T h_led h_off h_over
    have h_led_piece := ok_led_piece (P := P) (base := base) B T h_stretch h_led
    have h_stood := ok_stood (P := P) (base := base) B T
    have h_stoodD := ok_stoodD (P := P) (base := base) B T
    have h_straight := ok_straight (P := P) (base := base) B T h_stoodD h_stretch
    have h_bowed := ok_bowed (P := P) (base := base) B T h_stood h_arc
    have h_shaped := ok_shaped (P := P) (base := base) B T h_stoodD h_stood h_arc h_plus h_bowed h_first h_straight
    have h_move := okG_move (P := P) (base := base) B T h_behind h_first h_shaped
    have h_draws := okG_draws (P := P) (base := base) B T h_shaped
    have h_done_by := okG_done_by (P := P) (base := base) B T
    have h_lines_in := okG_lines_in (P := P) (base := base) B T
    have h_is_whole := ok_is_whole (P := P) (base := base) B T
    have h_is_fraction := ok_is_fraction (P := P) (base := base) B T h_divisor h_is_whole
    have h_word_of := ok_word_of (P := P) (base := base) B T
    have h_is_round := ok_is_round (P := P) (base := base) B T h_far
    have h_is_plain_row := ok_is_plain_row (P := P) (base := base) B T h_is_round h_is_fraction h_word_of
    have h_is_block := ok_is_block (P := P) (base := base) B T h_is_whole
    have h_size_by := okG_size_by (P := P) (base := base) B T h_times
    have h_goes_on := ok_goes_on (P := P) (base := base) B T h_below h_draws h_size_by h_done_by
    have h_rows_in := okG_rows_in (P := P) (base := base) B T
    have h_number_text := ok_number_text (P := P) (base := base) B T
    have h_whole_in := ok_whole_in (P := P) (base := base) B T
    have h_fraction_in := ok_fraction_in (P := P) (base := base) B T h_divisor h_whole_in
    have h_law_ratio := ok_law_ratio (P := P) (base := base) B T
    have h_law_plus := ok_law_plus (P := P) (base := base) B T h_law_ratio
    have h_law_times := ok_law_times (P := P) (base := base) B T h_law_ratio
    have h_law_drawn := ok_law_drawn (P := P) (base := base) B T h_law_ratio
    have h_law_bow := ok_law_bow (P := P) (base := base) B T h_law_plus h_law_times h_law_ratio h_law_drawn
    have h_law_plain := ok_law_plain (P := P) (base := base) B T h_law_bow h_law_ratio h_law_drawn
    have h_law_size := okG_law_size (P := P) (base := base) B T h_law_times
    have h_law_draws := okG_law_draws (P := P) (base := base) B T
    have h_law_done := okG_law_done (P := P) (base := base) B T
    have h_law_is_endless := ok_law_is_endless (P := P) (base := base) B T h_law_draws h_law_size h_law_done
    have h_law_numbers := okG_law_numbers (P := P) (base := base) B T
    have h_law_led_on := ok_law_led_on (P := P) (base := base) B T h_led_piece
    have h_law_row := ok_law_row (P := P) (base := base) B T
    have h_lines_of := okR_lines_of (P := P) (base := base) B T h_number_text 8
    have h_pinit := ok_Pen_init (P := P) (base := base) B T
    have h_go := okR_go_rows (P := P) (base := base) B T h_shaped h_led_piece h_behind h_move h_undone h_lines_in 8
    have h_drawn := ok_drawn B T h_done_by h_first h_pinit h_go
    have h_linit := ok_Looker_init (P := P) (base := base) B T
    have h_look := okR_look_at (P := P) (base := base) B T h_word_of h_is_plain_row h_is_block h_goes_on 8
    have h_program_of := ok_program_of B T h_rows_in h_linit h_look
    have h_rinit := ok_Reader_init (P := P) (base := base) B T
    have h_rl := ok_read_line B T h_fraction_in (ok_closed (P := P) (base := base) B T) (ok_opened B T h_whole_in)
    have h_read := ok_read B T h_program_of h_rinit h_rl
    have h_led_onN := okN_law_led_on B T h_led_piece
    have h_law_led_ends := ok_law_led_ends B T h_behind h_undone h_led_onN
    have h_law_close := ok_law_close B T h_law_draws h_law_is_endless h_law_done
    have h_law_program := ok_law_program B T h_law_row h_law_plain h_law_done h_law_close
    have h_law_deep := okR_law_deep (P := P) (base := base) B T 8
    have h_written := ok_written B T h_lines_of
    have h_law_cut := ok_law_cut B T h_move h_behind h_law_led_on h_law_led_ends h_law_numbers h_drawn
    exact ok_law B T h_law_program h_law_cut h_law_deep h_drawn h_move h_first h_law_led_ends h_law_led_on h_law_done h_law_numbers h_led h_written h_read Fd
  refine ⟨fd, fun s v => FunD.bindsA (ps := ["_law_script"]) Fd (fun _ _ _ _ _ _ us hl => match us, hl with | [_], _ => rfl) s [v] rfl, fun base _ _ => ((whole base).mono (by decide)).imp fun vs H Q E ⟨a, ns, h1, h2, h3, h4⟩ => ⟨a, ns, h1, h2, law_ok ns, h4⟩⟩
end Arc
set_option Elab.async false
set_option linter.all false
set_option maxRecDepth 100000
set_option maxHeartbeats 0
open PySem PySem.W PySem.Calls PyProof.Rows
theorem PySem.Challenge.cw_arcmill_k39_whole_parts_of_programs_holds : PySem.Challenge.rw_arcmill_k39_whole_parts_of_programs.Holds := by
  w_on; o_law
  refine HandSHeadRun.head_any (r := OpenLaw.row PySem.Challenge.rw_arcmill_k39_whole_parts_of_programs) (q := view (OpenLaw.row PySem.Challenge.rw_arcmill_k39_whole_parts_of_programs).prog [95]) (H := Arc.hookM) (ob := Arc.obM) (M := 6000) (loose := Arc.loose) (d := HandSHeadRun.topDef (OpenLaw.row PySem.Challenge.rw_arcmill_k39_whole_parts_of_programs).prog 95) (kwd := []) Arc.obM_eq
    (by kernel_rfl) (fun s => by kernel_rfl) Arc.run (by kernel_rfl) (by kernel_rfl) (by kernel_rfl) (by rfl) (by first | assumption | decide +kernel) (by decide +kernel) ⟨rfl, rfl, rfl, rfl, rfl, by decide +kernel⟩ ?hw ?hc
  case hw => w_witness2
  case hc =>
    refine L2.walk_ofE (l := PySem.Challenge.rw_arcmill_k39_whole_parts_of_programs) (n := 63) (k := 200) (x := "_law_script") (CX := L2.CX0) rfl (by decide) (by kernel_rfl) ⟨rfl, by decide, by decide⟩ ?F (fun _ _ _ _ z => z)
    intro w mg fa h Y G hmg0
    obtain ⟨K, KX, c⟩ := Y
    have hmg : mg ("law" : PySem.Str) = some (.ref fa) := by
      have e : (HandSHeadRun.topDef (OpenLaw.row PySem.Challenge.rw_arcmill_k39_whole_parts_of_programs).prog 95).name = ("law" : PySem.Str) := by kernel_rfl
      rw [← e]
      exact hmg0
    obtain ⟨fd, hb, hF⟩ := Arc.facts (P := (PySem.Challenge.rw_arcmill_k39_whole_parts_of_programs).prog) (w := w) KX G hmg c
    exact ⟨K, fd, Arc.spLaw K, KX, hb, fun H a ns hl _ hS => ⟨a, ns, rfl, hS, hl, fun _ => rfl⟩, hF⟩
