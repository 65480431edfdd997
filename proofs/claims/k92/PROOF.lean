import PyProof.Rows.All
import Wide.All
import OpenK.AllK
import Wide.FinOn
import KE.KStateDown
import HandS.ForMost
import HandS.WordsExc
import HandS.Defaults
import HandS.Head0
import HandS.Head1
import HandS.Head2
import HandS.HeadEnd
import HandS.HeadHook1
import HandS.HeadHook2
import HandS.ClsMeth
import HandS.Conv
import HandS.Wide
import HandS.WideBits
import HandS.IsInst
import HandS.Rev
import HandS.Flow
import HandS.Evl
import KE.BitLaws
import HandS.TupLe
import KE.DatumOrd
import KE.DataFind
import HandS.Deep
import HandS.Style
import HandS.SetFor
import HandS.Dict
import HandS.SetKeys
import PyProof.DictMoreH
import PyProof.Draws
import PyProof.EnumMake
import HandS.Ends
import PySem.Challenge.RW_twinwires_k92_whole_what_went_wrong_is_p
set_option Elab.async false
set_option linter.all false
set_option maxRecDepth 100000
section
set_option maxHeartbeats 0
namespace K92
open PySem PySem.Spec PyProof.Rows L2
def top (i : Nat) : Stmt := PySem.Challenge.pw_twinwires_k92_whole_what_went_wrong_is_p.main.body.getD i (.Pass ⟨0, 0, 0, 0⟩)
abbrev s_ones : Stmt := top 2
abbrev s_places : Stmt := top 3
abbrev s_whole_below : Stmt := top 16
abbrev s_checked_row : Stmt := top 17
abbrev s_goes_beside : Stmt := top 18
abbrev s_times : Stmt := top 19
abbrev s_letter_number : Stmt := top 22
abbrev s_mirror_number : Stmt := top 23
abbrev s_left_over : Stmt := top 24
abbrev s_solved_by : Stmt := top 25
abbrev s_deeds_of : Stmt := top 27
abbrev s_columns : Stmt := top 30
abbrev s_brought_down : Stmt := top 31
abbrev s_all_beside : Stmt := top 32
abbrev s_telling : Stmt := top 33
abbrev s_bit_at : Stmt := top 35
abbrev s_is_whole : Stmt := top 43
abbrev s_wires_wanted : Stmt := top 44
abbrev s_checked_words : Stmt := top 45
abbrev s_deed_of : Stmt := top 46
abbrev s_row_behind : Stmt := top 48
abbrev s_undone : Stmt := top 49
abbrev s_without_done : Stmt := top 51
abbrev s_to_z : Stmt := top 52
abbrev s_made : Stmt := top 53
abbrev s_checked_look : Stmt := top 55
abbrev s_without_bit : Stmt := top 59
abbrev s_value_by : Stmt := top 60
abbrev s_law_cell_at : Stmt := top 63
abbrev s_law_stream : Stmt := top 64
abbrev s_law_ones : Stmt := top 65
abbrev s_law_beside : Stmt := top 66
abbrev s_law_deed : Stmt := top 68
abbrev s_law_on : Stmt := top 69
abbrev s_law_behind : Stmt := top 70
abbrev s_law_whole : Stmt := top 73
abbrev s_law_row : Stmt := top 74
abbrev s_law_letters : Stmt := top 75
abbrev s_law_known : Stmt := top 76
abbrev s_law_turns : Stmt := top 77
abbrev s_law_code : Stmt := top 78
abbrev s_law_wrong : Stmt := top 79
abbrev s_law_signs : Stmt := top 80
abbrev s_law_weight : Stmt := top 81
abbrev s_law_parting : Stmt := top 82
abbrev s_law_put_right : Stmt := top 83
abbrev s_law : Stmt := top 84
abbrev s_Code_init : Stmt := inClass (top 26) 0
abbrev s_Code_take : Stmt := inClass (top 26) 1
abbrev s_Code_signs : Stmt := inClass (top 26) 4
abbrev s_Code_harmless : Stmt := inClass (top 26) 5
abbrev s_Code_wrongs : Stmt := inClass (top 26) 6
abbrev s_Code_parting_wrongs : Stmt := inClass (top 26) 7
abbrev s_Code_shower : Stmt := inClass (top 26) 8
abbrev s_Code_guess : Stmt := inClass (top 26) 9
abbrev s_Over_init : Stmt := inClass (top 36) 0
abbrev s_Over_undoing : Stmt := inClass (top 36) 3
abbrev s_Over_on_row : Stmt := inClass (top 37) 1
abbrev s_Quarter_init : Stmt := inClass (top 36) 0
abbrev s_Quarter_undoing : Stmt := inClass (top 38) 0
abbrev s_Quarter_on_row : Stmt := inClass (top 38) 2
abbrev s_Back_init : Stmt := inClass (top 36) 0
abbrev s_Back_undoing : Stmt := inClass (top 39) 0
abbrev s_Back_on_row : Stmt := inClass (top 39) 2
abbrev s_Both_init : Stmt := inClass (top 36) 0
abbrev s_Both_undoing : Stmt := inClass (top 36) 3
abbrev s_Both_on_row : Stmt := inClass (top 40) 1
abbrev s_Where_init : Stmt := inClass (top 36) 0
abbrev s_Where_undoing : Stmt := inClass (top 36) 3
abbrev s_Where_on_row : Stmt := inClass (top 41) 1
abbrev s_Swap_init : Stmt := inClass (top 36) 0
abbrev s_Swap_undoing : Stmt := inClass (top 36) 3
abbrev s_Swap_on_row : Stmt := inClass (top 42) 2
abbrev s_Swap_exchanged : Stmt := inClass (top 42) 0
abbrev s_Machine_init : Stmt := inClass (top 56) 0
abbrev s_Signs_init : Stmt := inClass (top 61) 0
abbrev s_Signs_rows : Stmt := inClass (top 61) 1
abbrev s_Signs_do : Stmt := inClass (top 61) 2
abbrev s_Signs_look : Stmt := inClass (top 61) 3
abbrev s_Signs_surely : Stmt := inClass (top 61) 4
abbrev s_Signs_looked_at : Stmt := inClass (top 56) 4
def d_ones : He.DefD := ⟨("ones", none), "ones", "ones", defArgs s_ones, defBody s_ones, defScope s_ones, [], []⟩
def d_places : He.DefD := ⟨("places", none), "places", "places", defArgs s_places, defBody s_places, defScope s_places, [], []⟩
def d_whole_below : He.DefD := ⟨("whole_below", none), "whole_below", "whole_below", defArgs s_whole_below, defBody s_whole_below, defScope s_whole_below, [], []⟩
def d_checked_row : He.DefD := ⟨("checked_row", none), "checked_row", "checked_row", defArgs s_checked_row, defBody s_checked_row, defScope s_checked_row, [], []⟩
def d_goes_beside : He.DefD := ⟨("goes_beside", none), "goes_beside", "goes_beside", defArgs s_goes_beside, defBody s_goes_beside, defScope s_goes_beside, [], []⟩
def d_times : He.DefD := ⟨("times", none), "times", "times", defArgs s_times, defBody s_times, defScope s_times, [], []⟩
def d_letter_number : He.DefD := ⟨("letter_number", none), "letter_number", "letter_number", defArgs s_letter_number, defBody s_letter_number, defScope s_letter_number, [], []⟩
def d_mirror_number : He.DefD := ⟨("mirror_number", none), "mirror_number", "mirror_number", defArgs s_mirror_number, defBody s_mirror_number, defScope s_mirror_number, [], []⟩
def d_left_over : He.DefD := ⟨("left_over", none), "left_over", "left_over", defArgs s_left_over, defBody s_left_over, defScope s_left_over, [], []⟩
def d_solved_by : He.DefD := ⟨("solved_by", none), "solved_by", "solved_by", defArgs s_solved_by, defBody s_solved_by, defScope s_solved_by, [], []⟩
def d_deeds_of : He.DefD := ⟨("deeds_of", none), "deeds_of", "deeds_of", defArgs s_deeds_of, defBody s_deeds_of, defScope s_deeds_of, [], []⟩
def d_columns : He.DefD := ⟨("columns", none), "columns", "columns", defArgs s_columns, defBody s_columns, defScope s_columns, [], []⟩
def d_brought_down : He.DefD := ⟨("brought_down", none), "brought_down", "brought_down", defArgs s_brought_down, defBody s_brought_down, defScope s_brought_down, [], []⟩
def d_all_beside : He.DefD := ⟨("all_beside", none), "all_beside", "all_beside", defArgs s_all_beside, defBody s_all_beside, defScope s_all_beside, [], []⟩
def d_telling : He.DefD := ⟨("telling", none), "telling", "telling", defArgs s_telling, defBody s_telling, defScope s_telling, [], []⟩
def d_bit_at : He.DefD := ⟨("bit_at", none), "bit_at", "bit_at", defArgs s_bit_at, defBody s_bit_at, defScope s_bit_at, [], []⟩
def d_is_whole : He.DefD := ⟨("is_whole", none), "is_whole", "is_whole", defArgs s_is_whole, defBody s_is_whole, defScope s_is_whole, [], []⟩
def d_wires_wanted : He.DefD := ⟨("wires_wanted", none), "wires_wanted", "wires_wanted", defArgs s_wires_wanted, defBody s_wires_wanted, defScope s_wires_wanted, [], []⟩
def d_checked_words : He.DefD := ⟨("checked_words", none), "checked_words", "checked_words", defArgs s_checked_words, defBody s_checked_words, defScope s_checked_words, [], []⟩
def d_deed_of : He.DefD := ⟨("deed_of", none), "deed_of", "deed_of", defArgs s_deed_of, defBody s_deed_of, defScope s_deed_of, [], []⟩
def d_row_behind : He.DefD := ⟨("row_behind", none), "row_behind", "row_behind", defArgs s_row_behind, defBody s_row_behind, defScope s_row_behind, [], []⟩
def d_undone : He.DefD := ⟨("undone", none), "undone", "undone", defArgs s_undone, defBody s_undone, defScope s_undone, [], []⟩
def d_without_done : He.DefD := ⟨("without_done", none), "without_done", "without_done", defArgs s_without_done, defBody s_without_done, defScope s_without_done, [], []⟩
def d_to_z : He.DefD := ⟨("to_z", none), "to_z", "to_z", defArgs s_to_z, defBody s_to_z, defScope s_to_z, [], []⟩
def d_made : He.DefD := ⟨("made", none), "made", "made", defArgs s_made, defBody s_made, defScope s_made, [], []⟩
def d_checked_look : He.DefD := ⟨("checked_look", none), "checked_look", "checked_look", defArgs s_checked_look, defBody s_checked_look, defScope s_checked_look, [], []⟩
def d_without_bit : He.DefD := ⟨("without_bit", none), "without_bit", "without_bit", defArgs s_without_bit, defBody s_without_bit, defScope s_without_bit, [], []⟩
def d_value_by : He.DefD := ⟨("value_by", none), "value_by", "value_by", defArgs s_value_by, defBody s_value_by, defScope s_value_by, [], []⟩
def d_law_cell_at : He.DefD := ⟨("_law_cell_at", none), "_law_cell_at", "_law_cell_at", defArgs s_law_cell_at, defBody s_law_cell_at, defScope s_law_cell_at, [], []⟩
def d_law_stream : He.DefD := ⟨("_law_stream", none), "_law_stream", "_law_stream", defArgs s_law_stream, defBody s_law_stream, defScope s_law_stream, [], []⟩
def d_law_ones : He.DefD := ⟨("_law_ones", none), "_law_ones", "_law_ones", defArgs s_law_ones, defBody s_law_ones, defScope s_law_ones, [], []⟩
def d_law_beside : He.DefD := ⟨("_law_beside", none), "_law_beside", "_law_beside", defArgs s_law_beside, defBody s_law_beside, defScope s_law_beside, [], []⟩
def d_law_deed : He.DefD := ⟨("_law_deed", none), "_law_deed", "_law_deed", defArgs s_law_deed, defBody s_law_deed, defScope s_law_deed, [], []⟩
def d_law_on : He.DefD := ⟨("_law_on", none), "_law_on", "_law_on", defArgs s_law_on, defBody s_law_on, defScope s_law_on, [], []⟩
def d_law_behind : He.DefD := ⟨("_law_behind", none), "_law_behind", "_law_behind", defArgs s_law_behind, defBody s_law_behind, defScope s_law_behind, [], []⟩
def d_law_whole : He.DefD := ⟨("_law_whole", none), "_law_whole", "_law_whole", defArgs s_law_whole, defBody s_law_whole, defScope s_law_whole, [], []⟩
def d_law_row : He.DefD := ⟨("_law_row", none), "_law_row", "_law_row", defArgs s_law_row, defBody s_law_row, defScope s_law_row, [], []⟩
def d_law_letters : He.DefD := ⟨("_law_letters", none), "_law_letters", "_law_letters", defArgs s_law_letters, defBody s_law_letters, defScope s_law_letters, [], []⟩
def d_law_known : He.DefD := ⟨("_law_known", none), "_law_known", "_law_known", defArgs s_law_known, defBody s_law_known, defScope s_law_known, [], []⟩
def d_law_turns : He.DefD := ⟨("_law_turns", none), "_law_turns", "_law_turns", defArgs s_law_turns, defBody s_law_turns, defScope s_law_turns, [], []⟩
def d_law_code : He.DefD := ⟨("_law_code", none), "_law_code", "_law_code", defArgs s_law_code, defBody s_law_code, defScope s_law_code, [], []⟩
def d_law_wrong : He.DefD := ⟨("_law_wrong", none), "_law_wrong", "_law_wrong", defArgs s_law_wrong, defBody s_law_wrong, defScope s_law_wrong, [], []⟩
def d_law_signs : He.DefD := ⟨("_law_signs", none), "_law_signs", "_law_signs", defArgs s_law_signs, defBody s_law_signs, defScope s_law_signs, [], []⟩
def d_law_weight : He.DefD := ⟨("_law_weight", none), "_law_weight", "_law_weight", defArgs s_law_weight, defBody s_law_weight, defScope s_law_weight, [], []⟩
def d_law_parting : He.DefD := ⟨("_law_parting", none), "_law_parting", "_law_parting", defArgs s_law_parting, defBody s_law_parting, defScope s_law_parting, [], []⟩
def d_law_put_right : He.DefD := ⟨("_law_put_right", none), "_law_put_right", "_law_put_right", defArgs s_law_put_right, defBody s_law_put_right, defScope s_law_put_right, [], []⟩
def d_law : He.DefD := ⟨("law", none), "law", "law", defArgs s_law, defBody s_law, defScope s_law, [], []⟩
def d_Code_init : He.DefD := ⟨("Code", some "__init__"), "__init__", "Code.__init__", defArgs s_Code_init, defBody s_Code_init, defScope s_Code_init, [], []⟩
def d_Code_take : He.DefD := ⟨("Code", some "take"), "take", "Code.take", defArgs s_Code_take, defBody s_Code_take, defScope s_Code_take, [], []⟩
def d_Code_signs : He.DefD := ⟨("Code", some "signs"), "signs", "Code.signs", defArgs s_Code_signs, defBody s_Code_signs, defScope s_Code_signs, [], []⟩
def d_Code_harmless : He.DefD := ⟨("Code", some "harmless"), "harmless", "Code.harmless", defArgs s_Code_harmless, defBody s_Code_harmless, defScope s_Code_harmless, [], []⟩
def d_Code_wrongs : He.DefD := ⟨("Code", some "wrongs"), "wrongs", "Code.wrongs", defArgs s_Code_wrongs, defBody s_Code_wrongs, defScope s_Code_wrongs, [], []⟩
def d_Code_parting_wrongs : He.DefD := ⟨("Code", some "parting_wrongs"), "parting_wrongs", "Code.parting_wrongs", defArgs s_Code_parting_wrongs, defBody s_Code_parting_wrongs, defScope s_Code_parting_wrongs, [], []⟩
def d_Code_shower : He.DefD := ⟨("Code", some "shower"), "shower", "Code.shower", defArgs s_Code_shower, defBody s_Code_shower, defScope s_Code_shower, [], []⟩
def d_Code_guess : He.DefD := ⟨("Code", some "guess"), "guess", "Code.guess", defArgs s_Code_guess, defBody s_Code_guess, defScope s_Code_guess, [], []⟩
def d_Over_init : He.DefD := ⟨("Over", some "__init__"), "__init__", "Deed.__init__", defArgs s_Over_init, defBody s_Over_init, defScope s_Over_init, [], []⟩
def d_Over_undoing : He.DefD := ⟨("Over", some "undoing"), "undoing", "Deed.undoing", defArgs s_Over_undoing, defBody s_Over_undoing, defScope s_Over_undoing, [], []⟩
def d_Over_on_row : He.DefD := ⟨("Over", some "on_row"), "on_row", "Over.on_row", defArgs s_Over_on_row, defBody s_Over_on_row, defScope s_Over_on_row, [], []⟩
def d_Quarter_init : He.DefD := ⟨("Quarter", some "__init__"), "__init__", "Deed.__init__", defArgs s_Quarter_init, defBody s_Quarter_init, defScope s_Quarter_init, [], []⟩
def d_Quarter_undoing : He.DefD := ⟨("Quarter", some "undoing"), "undoing", "Quarter.undoing", defArgs s_Quarter_undoing, defBody s_Quarter_undoing, defScope s_Quarter_undoing, [], []⟩
def d_Quarter_on_row : He.DefD := ⟨("Quarter", some "on_row"), "on_row", "Quarter.on_row", defArgs s_Quarter_on_row, defBody s_Quarter_on_row, defScope s_Quarter_on_row, [], []⟩
def d_Back_init : He.DefD := ⟨("Back", some "__init__"), "__init__", "Deed.__init__", defArgs s_Back_init, defBody s_Back_init, defScope s_Back_init, [], []⟩
def d_Back_undoing : He.DefD := ⟨("Back", some "undoing"), "undoing", "Back.undoing", defArgs s_Back_undoing, defBody s_Back_undoing, defScope s_Back_undoing, [], []⟩
def d_Back_on_row : He.DefD := ⟨("Back", some "on_row"), "on_row", "Back.on_row", defArgs s_Back_on_row, defBody s_Back_on_row, defScope s_Back_on_row, [], []⟩
def d_Both_init : He.DefD := ⟨("Both", some "__init__"), "__init__", "Deed.__init__", defArgs s_Both_init, defBody s_Both_init, defScope s_Both_init, [], []⟩
def d_Both_undoing : He.DefD := ⟨("Both", some "undoing"), "undoing", "Deed.undoing", defArgs s_Both_undoing, defBody s_Both_undoing, defScope s_Both_undoing, [], []⟩
def d_Both_on_row : He.DefD := ⟨("Both", some "on_row"), "on_row", "Both.on_row", defArgs s_Both_on_row, defBody s_Both_on_row, defScope s_Both_on_row, [], []⟩
def d_Where_init : He.DefD := ⟨("Where", some "__init__"), "__init__", "Deed.__init__", defArgs s_Where_init, defBody s_Where_init, defScope s_Where_init, [], []⟩
def d_Where_undoing : He.DefD := ⟨("Where", some "undoing"), "undoing", "Deed.undoing", defArgs s_Where_undoing, defBody s_Where_undoing, defScope s_Where_undoing, [], []⟩
def d_Where_on_row : He.DefD := ⟨("Where", some "on_row"), "on_row", "Where.on_row", defArgs s_Where_on_row, defBody s_Where_on_row, defScope s_Where_on_row, [], []⟩
def d_Swap_init : He.DefD := ⟨("Swap", some "__init__"), "__init__", "Deed.__init__", defArgs s_Swap_init, defBody s_Swap_init, defScope s_Swap_init, [], []⟩
def d_Swap_undoing : He.DefD := ⟨("Swap", some "undoing"), "undoing", "Deed.undoing", defArgs s_Swap_undoing, defBody s_Swap_undoing, defScope s_Swap_undoing, [], []⟩
def d_Swap_on_row : He.DefD := ⟨("Swap", some "on_row"), "on_row", "Swap.on_row", defArgs s_Swap_on_row, defBody s_Swap_on_row, defScope s_Swap_on_row, [], []⟩
def d_Swap_exchanged : He.DefD := ⟨("Swap", some "exchanged"), "exchanged", "Swap.exchanged", defArgs s_Swap_exchanged, defBody s_Swap_exchanged, defScope s_Swap_exchanged, [], []⟩
def d_Machine_init : He.DefD := ⟨("Machine", some "__init__"), "__init__", "Machine.__init__", defArgs s_Machine_init, defBody s_Machine_init, defScope s_Machine_init, [], []⟩
def d_Signs_init : He.DefD := ⟨("Signs", some "__init__"), "__init__", "Signs.__init__", defArgs s_Signs_init, defBody s_Signs_init, defScope s_Signs_init, [], []⟩
def d_Signs_rows : He.DefD := ⟨("Signs", some "rows"), "rows", "Signs.rows", defArgs s_Signs_rows, defBody s_Signs_rows, defScope s_Signs_rows, [], []⟩
def d_Signs_do : He.DefD := ⟨("Signs", some "do"), "do", "Signs.do", defArgs s_Signs_do, defBody s_Signs_do, defScope s_Signs_do, [], []⟩
def d_Signs_look : He.DefD := ⟨("Signs", some "look"), "look", "Signs.look", defArgs s_Signs_look, defBody s_Signs_look, defScope s_Signs_look, [.non], []⟩
def d_Signs_surely : He.DefD := ⟨("Signs", some "surely"), "surely", "Signs.surely", defArgs s_Signs_surely, defBody s_Signs_surely, defScope s_Signs_surely, [], []⟩
def d_Signs_looked_at : He.DefD := ⟨("Signs", some "looked_at"), "looked_at", "Machine.looked_at", defArgs s_Signs_looked_at, defBody s_Signs_looked_at, defScope s_Signs_looked_at, [], []⟩
def fn0 : List He.DefD := [d_ones, d_places, d_whole_below, d_checked_row, d_goes_beside, d_times, d_letter_number, d_mirror_number, d_left_over, d_solved_by, d_deeds_of, d_columns, d_brought_down, d_all_beside, d_telling, d_bit_at, d_is_whole, d_wires_wanted, d_checked_words, d_deed_of, d_row_behind, d_undone, d_without_done, d_to_z, d_made, d_checked_look, d_without_bit, d_value_by, d_law_cell_at, d_law_stream, d_law_ones, d_law_beside, d_law_deed, d_law_on, d_law_behind, d_law_whole, d_law_row, d_law_letters, d_law_known, d_law_turns]
def fn1 : List He.DefD := [d_law_code, d_law_wrong, d_law_signs, d_law_weight, d_law_parting, d_law_put_right, d_law, d_Code_init, d_Code_take, d_Code_signs, d_Code_harmless, d_Code_wrongs, d_Code_parting_wrongs, d_Code_shower, d_Code_guess, d_Over_init, d_Over_undoing, d_Over_on_row, d_Quarter_init, d_Quarter_undoing, d_Quarter_on_row, d_Back_init, d_Back_undoing, d_Back_on_row, d_Both_init, d_Both_undoing, d_Both_on_row, d_Where_init, d_Where_undoing, d_Where_on_row, d_Swap_init, d_Swap_undoing, d_Swap_on_row, d_Swap_exchanged, d_Machine_init, d_Signs_init, d_Signs_rows, d_Signs_do, d_Signs_look, d_Signs_surely]
def fn2 : List He.DefD := [d_Signs_looked_at]
def fn : List He.DefD := fn0 ++ (fn1 ++ (fn2))
def fa0 : List He.Fa := [.glo "ones", .glo "places", .glo "whole_below", .glo "checked_row", .glo "goes_beside", .glo "times", .glo "letter_number", .glo "mirror_number", .glo "left_over", .glo "solved_by", .glo "deeds_of", .glo "columns", .glo "brought_down", .glo "all_beside", .glo "telling", .glo "bit_at", .glo "is_whole", .glo "wires_wanted", .glo "checked_words", .glo "deed_of", .glo "row_behind", .glo "undone", .glo "without_done", .glo "to_z", .glo "made", .glo "checked_look", .glo "without_bit", .glo "value_by", .glo "_law_cell_at", .glo "_law_stream", .glo "_law_ones", .glo "_law_beside", .glo "_law_deed", .glo "_law_on", .glo "_law_behind", .glo "_law_whole", .glo "_law_row", .glo "_law_letters", .glo "_law_known", .glo "_law_turns"]
def fa1 : List He.Fa := [.glo "_law_code", .glo "_law_wrong", .glo "_law_signs", .glo "_law_weight", .glo "_law_parting", .glo "_law_put_right", .glo "law", .glo "Code", .glo "Over", .glo "Quarter", .glo "Back", .glo "Both", .glo "Where", .glo "Swap", .glo "Machine", .glo "Signs", .free "len", .free "range", .free "list", .free "isinstance", .free "all", .free "max", .free "min", .free "int", .free "enumerate", .free "reversed", .free "tuple", .free "bool", .free "str", .int "MOST_OF_CODE" 9, .int "ABOVE" 64, .int "MOST_WIRES" 40, .cls "Code", .cls "Over", .cls "Quarter", .cls "Back", .cls "Both", .cls "Where", .cls "Swap", .cls "Signs"]
def fa2 : List He.Fa := [.noat "Code" "many", .noat "Code" "kept", .noat "Code" "leads", .noat "Signs" "many", .noat "Signs" "kept", .noat "Over" "told", .noat "Quarter" "told", .noat "Back" "told", .noat "Both" "told", .noat "Where" "told", .noat "Swap" "told", .meth "Code" "take", .meth "Code" "signs", .meth "Code" "harmless", .meth "Code" "wrongs", .meth "Code" "parting_wrongs", .meth "Code" "shower", .meth "Code" "guess", .meth "Over" "undoing", .meth "Over" "on_row", .meth "Quarter" "undoing", .meth "Quarter" "on_row", .meth "Back" "undoing", .meth "Back" "on_row", .meth "Both" "undoing", .meth "Both" "on_row", .meth "Where" "undoing", .meth "Where" "on_row", .meth "Swap" "undoing", .meth "Swap" "on_row", .meth "Swap" "exchanged", .meth "Signs" "rows", .meth "Signs" "do", .meth "Signs" "look", .meth "Signs" "surely", .meth "Signs" "looked_at", .meth "Machine" "__init__", .mkr "Code", .mkr "Over", .mkr "Quarter"]
def fa3 : List He.Fa := [.mkr "Back", .mkr "Both", .mkr "Where", .mkr "Swap", .mkr "Signs"]
def fa : List He.Fa := fa0 ++ (fa1 ++ (fa2 ++ (fa3)))
def loose0 : List PySem.Str := ["_wall", "ones", "places", "WireError", "NoWires", "NoRow", "NoProduct", "NoDeed", "NoWire", "NoLook", "NoWhole", "NoCode", "NoMend", "whole_below", "checked_row", "goes_beside", "times", "MOST_OF_CODE", "letter_number", "mirror_number"]
def loose1 : List PySem.Str := ["left_over", "solved_by", "Code", "deeds_of", "ABOVE", "columns", "brought_down", "all_beside", "telling", "bit_at", "Deed", "Over", "Quarter", "Back", "Both", "Where", "Swap", "is_whole", "wires_wanted", "checked_words"]
def loose2 : List PySem.Str := ["deed_of", "row_behind", "undone", "without_done", "to_z", "made", "checked_look", "Machine", "MOST_WIRES", "without_bit", "value_by", "Signs", "_law_cell_at", "_law_stream", "_law_ones", "_law_beside", "_law_times", "_law_deed", "_law_on", "_law_behind"]
def loose3 : List PySem.Str := ["_law_undone", "_law_of_whole", "_law_whole", "_law_row", "_law_letters", "_law_known", "_law_turns", "_law_code", "_law_wrong", "_law_signs", "_law_weight", "_law_parting", "_law_put_right"]
def loose : List PySem.Str := loose0 ++ (loose1 ++ (loose2 ++ (loose3)))
/-- Machine.__init__ read off the class -/
def exM (K : PySem.W.Frag) : Bool := PySem.W.readsIn K (He.ga K "Machine") (.type "type") && (He.eqO (PySem.W.specialIn K (.ref (He.ga K "Machine")) "__getattribute__") (some (some (.builtin "type.__getattribute__"))) && (match PySem.W.findCls K (.ref (He.ga K "Machine")) (.type "type") "__init__" with
  | some (.val (.ref a)) => decide (a = He.ma K (He.ga K "Machine") "__init__")
  | _ => false))
theorem exM_ok {K : PySem.W.Frag} (h : exM K = true) : ClX.CRead K (He.ga K "Machine") (.type "type") ∧ PySem.W.findCls K (.ref (He.ga K "Machine")) (.type "type") "__init__" = some (.val (.ref (He.ma K (He.ga K "Machine") "__init__"))) := by
  obtain ⟨h1, h⟩ := He.ba h
  obtain ⟨h2, h3⟩ := He.ba h
  refine ⟨⟨h1, He.eqO_ok h2⟩, ?_⟩
  split at h3
  · rename_i a e
    rw [e, of_decide_eq_true h3]
  · cases h3
/-- what the top has left -/
structure Wd (K : PySem.W.Frag) (mg : Str → Option Value) : Prop where
  ex0 : ∃ h : Heap, K.In h ∧ h.Ns mainGlobals mg ∧ He.SaysD fa fn K ∧ exM K = true
theorem Wd.ex {K : PySem.W.Frag} {mg : Str → Option Value} (T : Wd K mg) : ∃ h : Heap, K.In h ∧ h.Ns mainGlobals mg ∧ He.SaysD fa fn K := by obtain ⟨h, a, b, c, _⟩ := T.ex0; exact ⟨h, a, b, c⟩
section
variable {K : PySem.W.Frag} {mg : Str → Option Value} (T : Wd K mg)
include T
theorem X_Machine : ClX.CRead K (He.ga K "Machine") (.type "type") ∧ PySem.W.findCls K (.ref (He.ga K "Machine")) (.type "type") "__init__" = some (.val (.ref (He.ma K (He.ga K "Machine") "__init__"))) := by obtain ⟨_, _, _, _, e⟩ := T.ex0; exact exM_ok e
theorem G_ones : mg "ones" = some (.ref (He.ga K "ones")) := by obtain ⟨h, X, G, c⟩ := T.ex; exact He.glo_ok X G (c.fact 0 (f := .glo "ones") rfl)
theorem G_places : mg "places" = some (.ref (He.ga K "places")) := by obtain ⟨h, X, G, c⟩ := T.ex; exact He.glo_ok X G (c.fact 1 (f := .glo "places") rfl)
theorem G_whole_below : mg "whole_below" = some (.ref (He.ga K "whole_below")) := by obtain ⟨h, X, G, c⟩ := T.ex; exact He.glo_ok X G (c.fact 2 (f := .glo "whole_below") rfl)
theorem G_checked_row : mg "checked_row" = some (.ref (He.ga K "checked_row")) := by obtain ⟨h, X, G, c⟩ := T.ex; exact He.glo_ok X G (c.fact 3 (f := .glo "checked_row") rfl)
theorem G_goes_beside : mg "goes_beside" = some (.ref (He.ga K "goes_beside")) := by obtain ⟨h, X, G, c⟩ := T.ex; exact He.glo_ok X G (c.fact 4 (f := .glo "goes_beside") rfl)
theorem G_times : mg "times" = some (.ref (He.ga K "times")) := by obtain ⟨h, X, G, c⟩ := T.ex; exact He.glo_ok X G (c.fact 5 (f := .glo "times") rfl)
theorem G_letter_number : mg "letter_number" = some (.ref (He.ga K "letter_number")) := by obtain ⟨h, X, G, c⟩ := T.ex; exact He.glo_ok X G (c.fact 6 (f := .glo "letter_number") rfl)
theorem G_mirror_number : mg "mirror_number" = some (.ref (He.ga K "mirror_number")) := by obtain ⟨h, X, G, c⟩ := T.ex; exact He.glo_ok X G (c.fact 7 (f := .glo "mirror_number") rfl)
theorem G_left_over : mg "left_over" = some (.ref (He.ga K "left_over")) := by obtain ⟨h, X, G, c⟩ := T.ex; exact He.glo_ok X G (c.fact 8 (f := .glo "left_over") rfl)
theorem G_solved_by : mg "solved_by" = some (.ref (He.ga K "solved_by")) := by obtain ⟨h, X, G, c⟩ := T.ex; exact He.glo_ok X G (c.fact 9 (f := .glo "solved_by") rfl)
theorem G_deeds_of : mg "deeds_of" = some (.ref (He.ga K "deeds_of")) := by obtain ⟨h, X, G, c⟩ := T.ex; exact He.glo_ok X G (c.fact 10 (f := .glo "deeds_of") rfl)
theorem G_columns : mg "columns" = some (.ref (He.ga K "columns")) := by obtain ⟨h, X, G, c⟩ := T.ex; exact He.glo_ok X G (c.fact 11 (f := .glo "columns") rfl)
theorem G_brought_down : mg "brought_down" = some (.ref (He.ga K "brought_down")) := by obtain ⟨h, X, G, c⟩ := T.ex; exact He.glo_ok X G (c.fact 12 (f := .glo "brought_down") rfl)
theorem G_all_beside : mg "all_beside" = some (.ref (He.ga K "all_beside")) := by obtain ⟨h, X, G, c⟩ := T.ex; exact He.glo_ok X G (c.fact 13 (f := .glo "all_beside") rfl)
theorem G_telling : mg "telling" = some (.ref (He.ga K "telling")) := by obtain ⟨h, X, G, c⟩ := T.ex; exact He.glo_ok X G (c.fact 14 (f := .glo "telling") rfl)
theorem G_bit_at : mg "bit_at" = some (.ref (He.ga K "bit_at")) := by obtain ⟨h, X, G, c⟩ := T.ex; exact He.glo_ok X G (c.fact 15 (f := .glo "bit_at") rfl)
theorem G_is_whole : mg "is_whole" = some (.ref (He.ga K "is_whole")) := by obtain ⟨h, X, G, c⟩ := T.ex; exact He.glo_ok X G (c.fact 16 (f := .glo "is_whole") rfl)
theorem G_wires_wanted : mg "wires_wanted" = some (.ref (He.ga K "wires_wanted")) := by obtain ⟨h, X, G, c⟩ := T.ex; exact He.glo_ok X G (c.fact 17 (f := .glo "wires_wanted") rfl)
theorem G_checked_words : mg "checked_words" = some (.ref (He.ga K "checked_words")) := by obtain ⟨h, X, G, c⟩ := T.ex; exact He.glo_ok X G (c.fact 18 (f := .glo "checked_words") rfl)
theorem G_deed_of : mg "deed_of" = some (.ref (He.ga K "deed_of")) := by obtain ⟨h, X, G, c⟩ := T.ex; exact He.glo_ok X G (c.fact 19 (f := .glo "deed_of") rfl)
theorem G_row_behind : mg "row_behind" = some (.ref (He.ga K "row_behind")) := by obtain ⟨h, X, G, c⟩ := T.ex; exact He.glo_ok X G (c.fact 20 (f := .glo "row_behind") rfl)
theorem G_undone : mg "undone" = some (.ref (He.ga K "undone")) := by obtain ⟨h, X, G, c⟩ := T.ex; exact He.glo_ok X G (c.fact 21 (f := .glo "undone") rfl)
theorem G_without_done : mg "without_done" = some (.ref (He.ga K "without_done")) := by obtain ⟨h, X, G, c⟩ := T.ex; exact He.glo_ok X G (c.fact 22 (f := .glo "without_done") rfl)
theorem G_to_z : mg "to_z" = some (.ref (He.ga K "to_z")) := by obtain ⟨h, X, G, c⟩ := T.ex; exact He.glo_ok X G (c.fact 23 (f := .glo "to_z") rfl)
theorem G_made : mg "made" = some (.ref (He.ga K "made")) := by obtain ⟨h, X, G, c⟩ := T.ex; exact He.glo_ok X G (c.fact 24 (f := .glo "made") rfl)
theorem G_checked_look : mg "checked_look" = some (.ref (He.ga K "checked_look")) := by obtain ⟨h, X, G, c⟩ := T.ex; exact He.glo_ok X G (c.fact 25 (f := .glo "checked_look") rfl)
theorem G_without_bit : mg "without_bit" = some (.ref (He.ga K "without_bit")) := by obtain ⟨h, X, G, c⟩ := T.ex; exact He.glo_ok X G (c.fact 26 (f := .glo "without_bit") rfl)
theorem G_value_by : mg "value_by" = some (.ref (He.ga K "value_by")) := by obtain ⟨h, X, G, c⟩ := T.ex; exact He.glo_ok X G (c.fact 27 (f := .glo "value_by") rfl)
theorem G_law_cell_at : mg "_law_cell_at" = some (.ref (He.ga K "_law_cell_at")) := by obtain ⟨h, X, G, c⟩ := T.ex; exact He.glo_ok X G (c.fact 28 (f := .glo "_law_cell_at") rfl)
theorem G_law_stream : mg "_law_stream" = some (.ref (He.ga K "_law_stream")) := by obtain ⟨h, X, G, c⟩ := T.ex; exact He.glo_ok X G (c.fact 29 (f := .glo "_law_stream") rfl)
theorem G_law_ones : mg "_law_ones" = some (.ref (He.ga K "_law_ones")) := by obtain ⟨h, X, G, c⟩ := T.ex; exact He.glo_ok X G (c.fact 30 (f := .glo "_law_ones") rfl)
theorem G_law_beside : mg "_law_beside" = some (.ref (He.ga K "_law_beside")) := by obtain ⟨h, X, G, c⟩ := T.ex; exact He.glo_ok X G (c.fact 31 (f := .glo "_law_beside") rfl)
theorem G_law_deed : mg "_law_deed" = some (.ref (He.ga K "_law_deed")) := by obtain ⟨h, X, G, c⟩ := T.ex; exact He.glo_ok X G (c.fact 32 (f := .glo "_law_deed") rfl)
theorem G_law_on : mg "_law_on" = some (.ref (He.ga K "_law_on")) := by obtain ⟨h, X, G, c⟩ := T.ex; exact He.glo_ok X G (c.fact 33 (f := .glo "_law_on") rfl)
theorem G_law_behind : mg "_law_behind" = some (.ref (He.ga K "_law_behind")) := by obtain ⟨h, X, G, c⟩ := T.ex; exact He.glo_ok X G (c.fact 34 (f := .glo "_law_behind") rfl)
theorem G_law_whole : mg "_law_whole" = some (.ref (He.ga K "_law_whole")) := by obtain ⟨h, X, G, c⟩ := T.ex; exact He.glo_ok X G (c.fact 35 (f := .glo "_law_whole") rfl)
theorem G_law_row : mg "_law_row" = some (.ref (He.ga K "_law_row")) := by obtain ⟨h, X, G, c⟩ := T.ex; exact He.glo_ok X G (c.fact 36 (f := .glo "_law_row") rfl)
theorem G_law_letters : mg "_law_letters" = some (.ref (He.ga K "_law_letters")) := by obtain ⟨h, X, G, c⟩ := T.ex; exact He.glo_ok X G (c.fact 37 (f := .glo "_law_letters") rfl)
theorem G_law_known : mg "_law_known" = some (.ref (He.ga K "_law_known")) := by obtain ⟨h, X, G, c⟩ := T.ex; exact He.glo_ok X G (c.fact 38 (f := .glo "_law_known") rfl)
theorem G_law_turns : mg "_law_turns" = some (.ref (He.ga K "_law_turns")) := by obtain ⟨h, X, G, c⟩ := T.ex; exact He.glo_ok X G (c.fact 39 (f := .glo "_law_turns") rfl)
theorem G_law_code : mg "_law_code" = some (.ref (He.ga K "_law_code")) := by obtain ⟨h, X, G, c⟩ := T.ex; exact He.glo_ok X G (c.fact 40 (f := .glo "_law_code") rfl)
theorem G_law_wrong : mg "_law_wrong" = some (.ref (He.ga K "_law_wrong")) := by obtain ⟨h, X, G, c⟩ := T.ex; exact He.glo_ok X G (c.fact 41 (f := .glo "_law_wrong") rfl)
theorem G_law_signs : mg "_law_signs" = some (.ref (He.ga K "_law_signs")) := by obtain ⟨h, X, G, c⟩ := T.ex; exact He.glo_ok X G (c.fact 42 (f := .glo "_law_signs") rfl)
theorem G_law_weight : mg "_law_weight" = some (.ref (He.ga K "_law_weight")) := by obtain ⟨h, X, G, c⟩ := T.ex; exact He.glo_ok X G (c.fact 43 (f := .glo "_law_weight") rfl)
theorem G_law_parting : mg "_law_parting" = some (.ref (He.ga K "_law_parting")) := by obtain ⟨h, X, G, c⟩ := T.ex; exact He.glo_ok X G (c.fact 44 (f := .glo "_law_parting") rfl)
theorem G_law_put_right : mg "_law_put_right" = some (.ref (He.ga K "_law_put_right")) := by obtain ⟨h, X, G, c⟩ := T.ex; exact He.glo_ok X G (c.fact 45 (f := .glo "_law_put_right") rfl)
theorem G_law : mg "law" = some (.ref (He.ga K "law")) := by obtain ⟨h, X, G, c⟩ := T.ex; exact He.glo_ok X G (c.fact 46 (f := .glo "law") rfl)
theorem G_Code : mg "Code" = some (.ref (He.ga K "Code")) := by obtain ⟨h, X, G, c⟩ := T.ex; exact He.glo_ok X G (c.fact 47 (f := .glo "Code") rfl)
theorem G_Over : mg "Over" = some (.ref (He.ga K "Over")) := by obtain ⟨h, X, G, c⟩ := T.ex; exact He.glo_ok X G (c.fact 48 (f := .glo "Over") rfl)
theorem G_Quarter : mg "Quarter" = some (.ref (He.ga K "Quarter")) := by obtain ⟨h, X, G, c⟩ := T.ex; exact He.glo_ok X G (c.fact 49 (f := .glo "Quarter") rfl)
theorem G_Back : mg "Back" = some (.ref (He.ga K "Back")) := by obtain ⟨h, X, G, c⟩ := T.ex; exact He.glo_ok X G (c.fact 50 (f := .glo "Back") rfl)
theorem G_Both : mg "Both" = some (.ref (He.ga K "Both")) := by obtain ⟨h, X, G, c⟩ := T.ex; exact He.glo_ok X G (c.fact 51 (f := .glo "Both") rfl)
theorem G_Where : mg "Where" = some (.ref (He.ga K "Where")) := by obtain ⟨h, X, G, c⟩ := T.ex; exact He.glo_ok X G (c.fact 52 (f := .glo "Where") rfl)
theorem G_Swap : mg "Swap" = some (.ref (He.ga K "Swap")) := by obtain ⟨h, X, G, c⟩ := T.ex; exact He.glo_ok X G (c.fact 53 (f := .glo "Swap") rfl)
theorem G_Machine : mg "Machine" = some (.ref (He.ga K "Machine")) := by obtain ⟨h, X, G, c⟩ := T.ex; exact He.glo_ok X G (c.fact 54 (f := .glo "Machine") rfl)
theorem G_Signs : mg "Signs" = some (.ref (He.ga K "Signs")) := by obtain ⟨h, X, G, c⟩ := T.ex; exact He.glo_ok X G (c.fact 55 (f := .glo "Signs") rfl)
theorem T_len : mg "len" = none := by obtain ⟨h, X, G, c⟩ := T.ex; exact He.free_ok X G (c.fact 56 (f := .free "len") rfl)
theorem T_range : mg "range" = none := by obtain ⟨h, X, G, c⟩ := T.ex; exact He.free_ok X G (c.fact 57 (f := .free "range") rfl)
theorem T_list : mg "list" = none := by obtain ⟨h, X, G, c⟩ := T.ex; exact He.free_ok X G (c.fact 58 (f := .free "list") rfl)
theorem T_isinstance : mg "isinstance" = none := by obtain ⟨h, X, G, c⟩ := T.ex; exact He.free_ok X G (c.fact 59 (f := .free "isinstance") rfl)
theorem T_all : mg "all" = none := by obtain ⟨h, X, G, c⟩ := T.ex; exact He.free_ok X G (c.fact 60 (f := .free "all") rfl)
theorem T_max : mg "max" = none := by obtain ⟨h, X, G, c⟩ := T.ex; exact He.free_ok X G (c.fact 61 (f := .free "max") rfl)
theorem T_min : mg "min" = none := by obtain ⟨h, X, G, c⟩ := T.ex; exact He.free_ok X G (c.fact 62 (f := .free "min") rfl)
theorem T_int : mg "int" = none := by obtain ⟨h, X, G, c⟩ := T.ex; exact He.free_ok X G (c.fact 63 (f := .free "int") rfl)
theorem T_enumerate : mg "enumerate" = none := by obtain ⟨h, X, G, c⟩ := T.ex; exact He.free_ok X G (c.fact 64 (f := .free "enumerate") rfl)
theorem T_reversed : mg "reversed" = none := by obtain ⟨h, X, G, c⟩ := T.ex; exact He.free_ok X G (c.fact 65 (f := .free "reversed") rfl)
theorem T_tuple : mg "tuple" = none := by obtain ⟨h, X, G, c⟩ := T.ex; exact He.free_ok X G (c.fact 66 (f := .free "tuple") rfl)
theorem T_bool : mg "bool" = none := by obtain ⟨h, X, G, c⟩ := T.ex; exact He.free_ok X G (c.fact 67 (f := .free "bool") rfl)
theorem T_str : mg "str" = none := by obtain ⟨h, X, G, c⟩ := T.ex; exact He.free_ok X G (c.fact 68 (f := .free "str") rfl)
theorem T_MOST_OF_CODE : ∃ t, mg "MOST_OF_CODE" = some (.int 9 t) := by obtain ⟨h, X, G, c⟩ := T.ex; exact He.int_ok X G (c.fact 69 (f := .int "MOST_OF_CODE" 9) rfl)
theorem T_ABOVE : ∃ t, mg "ABOVE" = some (.int 64 t) := by obtain ⟨h, X, G, c⟩ := T.ex; exact He.int_ok X G (c.fact 70 (f := .int "ABOVE" 64) rfl)
theorem T_MOST_WIRES : ∃ t, mg "MOST_WIRES" = some (.int 40 t) := by obtain ⟨h, X, G, c⟩ := T.ex; exact He.int_ok X G (c.fact 71 (f := .int "MOST_WIRES" 40) rfl)
theorem L_Code : Cls K (He.ga K "Code") := by obtain ⟨h, X, G, c⟩ := T.ex; exact He.cls_ok (c.fact 72 (f := .cls "Code") rfl)
theorem L_Over : Cls K (He.ga K "Over") := by obtain ⟨h, X, G, c⟩ := T.ex; exact He.cls_ok (c.fact 73 (f := .cls "Over") rfl)
theorem L_Quarter : Cls K (He.ga K "Quarter") := by obtain ⟨h, X, G, c⟩ := T.ex; exact He.cls_ok (c.fact 74 (f := .cls "Quarter") rfl)
theorem L_Back : Cls K (He.ga K "Back") := by obtain ⟨h, X, G, c⟩ := T.ex; exact He.cls_ok (c.fact 75 (f := .cls "Back") rfl)
theorem L_Both : Cls K (He.ga K "Both") := by obtain ⟨h, X, G, c⟩ := T.ex; exact He.cls_ok (c.fact 76 (f := .cls "Both") rfl)
theorem L_Where : Cls K (He.ga K "Where") := by obtain ⟨h, X, G, c⟩ := T.ex; exact He.cls_ok (c.fact 77 (f := .cls "Where") rfl)
theorem L_Swap : Cls K (He.ga K "Swap") := by obtain ⟨h, X, G, c⟩ := T.ex; exact He.cls_ok (c.fact 78 (f := .cls "Swap") rfl)
theorem L_Signs : Cls K (He.ga K "Signs") := by obtain ⟨h, X, G, c⟩ := T.ex; exact He.cls_ok (c.fact 79 (f := .cls "Signs") rfl)
theorem N_Code_many : NoAttr K (He.ga K "Code") "many" := by obtain ⟨h, X, G, c⟩ := T.ex; exact He.noat_ok (c.fact 80 (f := .noat "Code" "many") rfl)
theorem N_Code_kept : NoAttr K (He.ga K "Code") "kept" := by obtain ⟨h, X, G, c⟩ := T.ex; exact He.noat_ok (c.fact 81 (f := .noat "Code" "kept") rfl)
theorem N_Code_leads : NoAttr K (He.ga K "Code") "leads" := by obtain ⟨h, X, G, c⟩ := T.ex; exact He.noat_ok (c.fact 82 (f := .noat "Code" "leads") rfl)
theorem N_Signs_many : NoAttr K (He.ga K "Signs") "many" := by obtain ⟨h, X, G, c⟩ := T.ex; exact He.noat_ok (c.fact 83 (f := .noat "Signs" "many") rfl)
theorem N_Signs_kept : NoAttr K (He.ga K "Signs") "kept" := by obtain ⟨h, X, G, c⟩ := T.ex; exact He.noat_ok (c.fact 84 (f := .noat "Signs" "kept") rfl)
theorem N_Over_told : NoAttr K (He.ga K "Over") "told" := by obtain ⟨h, X, G, c⟩ := T.ex; exact He.noat_ok (c.fact 85 (f := .noat "Over" "told") rfl)
theorem N_Quarter_told : NoAttr K (He.ga K "Quarter") "told" := by obtain ⟨h, X, G, c⟩ := T.ex; exact He.noat_ok (c.fact 86 (f := .noat "Quarter" "told") rfl)
theorem N_Back_told : NoAttr K (He.ga K "Back") "told" := by obtain ⟨h, X, G, c⟩ := T.ex; exact He.noat_ok (c.fact 87 (f := .noat "Back" "told") rfl)
theorem N_Both_told : NoAttr K (He.ga K "Both") "told" := by obtain ⟨h, X, G, c⟩ := T.ex; exact He.noat_ok (c.fact 88 (f := .noat "Both" "told") rfl)
theorem N_Where_told : NoAttr K (He.ga K "Where") "told" := by obtain ⟨h, X, G, c⟩ := T.ex; exact He.noat_ok (c.fact 89 (f := .noat "Where" "told") rfl)
theorem N_Swap_told : NoAttr K (He.ga K "Swap") "told" := by obtain ⟨h, X, G, c⟩ := T.ex; exact He.noat_ok (c.fact 90 (f := .noat "Swap" "told") rfl)
theorem M_Code_take : Meth K (He.ga K "Code") "take" (He.ma K (He.ga K "Code") "take") := by obtain ⟨h, X, G, c⟩ := T.ex; exact He.meth_ok (c.fact 91 (f := .meth "Code" "take") rfl)
theorem M_Code_signs : Meth K (He.ga K "Code") "signs" (He.ma K (He.ga K "Code") "signs") := by obtain ⟨h, X, G, c⟩ := T.ex; exact He.meth_ok (c.fact 92 (f := .meth "Code" "signs") rfl)
theorem M_Code_harmless : Meth K (He.ga K "Code") "harmless" (He.ma K (He.ga K "Code") "harmless") := by obtain ⟨h, X, G, c⟩ := T.ex; exact He.meth_ok (c.fact 93 (f := .meth "Code" "harmless") rfl)
theorem M_Code_wrongs : Meth K (He.ga K "Code") "wrongs" (He.ma K (He.ga K "Code") "wrongs") := by obtain ⟨h, X, G, c⟩ := T.ex; exact He.meth_ok (c.fact 94 (f := .meth "Code" "wrongs") rfl)
theorem M_Code_parting_wrongs : Meth K (He.ga K "Code") "parting_wrongs" (He.ma K (He.ga K "Code") "parting_wrongs") := by obtain ⟨h, X, G, c⟩ := T.ex; exact He.meth_ok (c.fact 95 (f := .meth "Code" "parting_wrongs") rfl)
theorem M_Code_shower : Meth K (He.ga K "Code") "shower" (He.ma K (He.ga K "Code") "shower") := by obtain ⟨h, X, G, c⟩ := T.ex; exact He.meth_ok (c.fact 96 (f := .meth "Code" "shower") rfl)
theorem M_Code_guess : Meth K (He.ga K "Code") "guess" (He.ma K (He.ga K "Code") "guess") := by obtain ⟨h, X, G, c⟩ := T.ex; exact He.meth_ok (c.fact 97 (f := .meth "Code" "guess") rfl)
theorem M_Over_undoing : Meth K (He.ga K "Over") "undoing" (He.ma K (He.ga K "Over") "undoing") := by obtain ⟨h, X, G, c⟩ := T.ex; exact He.meth_ok (c.fact 98 (f := .meth "Over" "undoing") rfl)
theorem M_Over_on_row : Meth K (He.ga K "Over") "on_row" (He.ma K (He.ga K "Over") "on_row") := by obtain ⟨h, X, G, c⟩ := T.ex; exact He.meth_ok (c.fact 99 (f := .meth "Over" "on_row") rfl)
theorem M_Quarter_undoing : Meth K (He.ga K "Quarter") "undoing" (He.ma K (He.ga K "Quarter") "undoing") := by obtain ⟨h, X, G, c⟩ := T.ex; exact He.meth_ok (c.fact 100 (f := .meth "Quarter" "undoing") rfl)
theorem M_Quarter_on_row : Meth K (He.ga K "Quarter") "on_row" (He.ma K (He.ga K "Quarter") "on_row") := by obtain ⟨h, X, G, c⟩ := T.ex; exact He.meth_ok (c.fact 101 (f := .meth "Quarter" "on_row") rfl)
theorem M_Back_undoing : Meth K (He.ga K "Back") "undoing" (He.ma K (He.ga K "Back") "undoing") := by obtain ⟨h, X, G, c⟩ := T.ex; exact He.meth_ok (c.fact 102 (f := .meth "Back" "undoing") rfl)
theorem M_Back_on_row : Meth K (He.ga K "Back") "on_row" (He.ma K (He.ga K "Back") "on_row") := by obtain ⟨h, X, G, c⟩ := T.ex; exact He.meth_ok (c.fact 103 (f := .meth "Back" "on_row") rfl)
theorem M_Both_undoing : Meth K (He.ga K "Both") "undoing" (He.ma K (He.ga K "Both") "undoing") := by obtain ⟨h, X, G, c⟩ := T.ex; exact He.meth_ok (c.fact 104 (f := .meth "Both" "undoing") rfl)
theorem M_Both_on_row : Meth K (He.ga K "Both") "on_row" (He.ma K (He.ga K "Both") "on_row") := by obtain ⟨h, X, G, c⟩ := T.ex; exact He.meth_ok (c.fact 105 (f := .meth "Both" "on_row") rfl)
theorem M_Where_undoing : Meth K (He.ga K "Where") "undoing" (He.ma K (He.ga K "Where") "undoing") := by obtain ⟨h, X, G, c⟩ := T.ex; exact He.meth_ok (c.fact 106 (f := .meth "Where" "undoing") rfl)
theorem M_Where_on_row : Meth K (He.ga K "Where") "on_row" (He.ma K (He.ga K "Where") "on_row") := by obtain ⟨h, X, G, c⟩ := T.ex; exact He.meth_ok (c.fact 107 (f := .meth "Where" "on_row") rfl)
theorem M_Swap_undoing : Meth K (He.ga K "Swap") "undoing" (He.ma K (He.ga K "Swap") "undoing") := by obtain ⟨h, X, G, c⟩ := T.ex; exact He.meth_ok (c.fact 108 (f := .meth "Swap" "undoing") rfl)
theorem M_Swap_on_row : Meth K (He.ga K "Swap") "on_row" (He.ma K (He.ga K "Swap") "on_row") := by obtain ⟨h, X, G, c⟩ := T.ex; exact He.meth_ok (c.fact 109 (f := .meth "Swap" "on_row") rfl)
theorem M_Swap_exchanged : Meth K (He.ga K "Swap") "exchanged" (He.ma K (He.ga K "Swap") "exchanged") := by obtain ⟨h, X, G, c⟩ := T.ex; exact He.meth_ok (c.fact 110 (f := .meth "Swap" "exchanged") rfl)
theorem M_Signs_rows : Meth K (He.ga K "Signs") "rows" (He.ma K (He.ga K "Signs") "rows") := by obtain ⟨h, X, G, c⟩ := T.ex; exact He.meth_ok (c.fact 111 (f := .meth "Signs" "rows") rfl)
theorem M_Signs_do : Meth K (He.ga K "Signs") "do" (He.ma K (He.ga K "Signs") "do") := by obtain ⟨h, X, G, c⟩ := T.ex; exact He.meth_ok (c.fact 112 (f := .meth "Signs" "do") rfl)
theorem M_Signs_look : Meth K (He.ga K "Signs") "look" (He.ma K (He.ga K "Signs") "look") := by obtain ⟨h, X, G, c⟩ := T.ex; exact He.meth_ok (c.fact 113 (f := .meth "Signs" "look") rfl)
theorem M_Signs_surely : Meth K (He.ga K "Signs") "surely" (He.ma K (He.ga K "Signs") "surely") := by obtain ⟨h, X, G, c⟩ := T.ex; exact He.meth_ok (c.fact 114 (f := .meth "Signs" "surely") rfl)
theorem M_Signs_looked_at : Meth K (He.ga K "Signs") "looked_at" (He.ma K (He.ga K "Signs") "looked_at") := by obtain ⟨h, X, G, c⟩ := T.ex; exact He.meth_ok (c.fact 115 (f := .meth "Signs" "looked_at") rfl)
theorem M_Machine_init : Meth K (He.ga K "Machine") "__init__" (He.ma K (He.ga K "Machine") "__init__") := by obtain ⟨h, X, G, c⟩ := T.ex; exact He.meth_ok (c.fact 116 (f := .meth "Machine" "__init__") rfl)
theorem K_Code : Mk K (He.ga K "Code") (He.ma K (He.ga K "Code") "__init__") := by obtain ⟨h, X, G, c⟩ := T.ex; exact He.mkr_ok (c.fact 117 (f := .mkr "Code") rfl)
theorem K_Over : Mk K (He.ga K "Over") (He.ma K (He.ga K "Over") "__init__") := by obtain ⟨h, X, G, c⟩ := T.ex; exact He.mkr_ok (c.fact 118 (f := .mkr "Over") rfl)
theorem K_Quarter : Mk K (He.ga K "Quarter") (He.ma K (He.ga K "Quarter") "__init__") := by obtain ⟨h, X, G, c⟩ := T.ex; exact He.mkr_ok (c.fact 119 (f := .mkr "Quarter") rfl)
theorem K_Back : Mk K (He.ga K "Back") (He.ma K (He.ga K "Back") "__init__") := by obtain ⟨h, X, G, c⟩ := T.ex; exact He.mkr_ok (c.fact 120 (f := .mkr "Back") rfl)
theorem K_Both : Mk K (He.ga K "Both") (He.ma K (He.ga K "Both") "__init__") := by obtain ⟨h, X, G, c⟩ := T.ex; exact He.mkr_ok (c.fact 121 (f := .mkr "Both") rfl)
theorem K_Where : Mk K (He.ga K "Where") (He.ma K (He.ga K "Where") "__init__") := by obtain ⟨h, X, G, c⟩ := T.ex; exact He.mkr_ok (c.fact 122 (f := .mkr "Where") rfl)
theorem K_Swap : Mk K (He.ga K "Swap") (He.ma K (He.ga K "Swap") "__init__") := by obtain ⟨h, X, G, c⟩ := T.ex; exact He.mkr_ok (c.fact 123 (f := .mkr "Swap") rfl)
theorem K_Signs : Mk K (He.ga K "Signs") (He.ma K (He.ga K "Signs") "__init__") := by obtain ⟨h, X, G, c⟩ := T.ex; exact He.mkr_ok (c.fact 124 (f := .mkr "Signs") rfl)
theorem F_ones : ∃ fd, FunD K "ones" "ones" (defArgs s_ones) (defBody s_ones) (defScope s_ones) [] [] (He.ga K "ones") fd := by obtain ⟨h, X, G, c⟩ := T.ex; exact c.def_ 0 (d := d_ones) rfl
theorem F_places : ∃ fd, FunD K "places" "places" (defArgs s_places) (defBody s_places) (defScope s_places) [] [] (He.ga K "places") fd := by obtain ⟨h, X, G, c⟩ := T.ex; exact c.def_ 1 (d := d_places) rfl
theorem F_whole_below : ∃ fd, FunD K "whole_below" "whole_below" (defArgs s_whole_below) (defBody s_whole_below) (defScope s_whole_below) [] [] (He.ga K "whole_below") fd := by obtain ⟨h, X, G, c⟩ := T.ex; exact c.def_ 2 (d := d_whole_below) rfl
theorem F_checked_row : ∃ fd, FunD K "checked_row" "checked_row" (defArgs s_checked_row) (defBody s_checked_row) (defScope s_checked_row) [] [] (He.ga K "checked_row") fd := by obtain ⟨h, X, G, c⟩ := T.ex; exact c.def_ 3 (d := d_checked_row) rfl
theorem F_goes_beside : ∃ fd, FunD K "goes_beside" "goes_beside" (defArgs s_goes_beside) (defBody s_goes_beside) (defScope s_goes_beside) [] [] (He.ga K "goes_beside") fd := by obtain ⟨h, X, G, c⟩ := T.ex; exact c.def_ 4 (d := d_goes_beside) rfl
theorem F_times : ∃ fd, FunD K "times" "times" (defArgs s_times) (defBody s_times) (defScope s_times) [] [] (He.ga K "times") fd := by obtain ⟨h, X, G, c⟩ := T.ex; exact c.def_ 5 (d := d_times) rfl
theorem F_letter_number : ∃ fd, FunD K "letter_number" "letter_number" (defArgs s_letter_number) (defBody s_letter_number) (defScope s_letter_number) [] [] (He.ga K "letter_number") fd := by obtain ⟨h, X, G, c⟩ := T.ex; exact c.def_ 6 (d := d_letter_number) rfl
theorem F_mirror_number : ∃ fd, FunD K "mirror_number" "mirror_number" (defArgs s_mirror_number) (defBody s_mirror_number) (defScope s_mirror_number) [] [] (He.ga K "mirror_number") fd := by obtain ⟨h, X, G, c⟩ := T.ex; exact c.def_ 7 (d := d_mirror_number) rfl
theorem F_left_over : ∃ fd, FunD K "left_over" "left_over" (defArgs s_left_over) (defBody s_left_over) (defScope s_left_over) [] [] (He.ga K "left_over") fd := by obtain ⟨h, X, G, c⟩ := T.ex; exact c.def_ 8 (d := d_left_over) rfl
theorem F_solved_by : ∃ fd, FunD K "solved_by" "solved_by" (defArgs s_solved_by) (defBody s_solved_by) (defScope s_solved_by) [] [] (He.ga K "solved_by") fd := by obtain ⟨h, X, G, c⟩ := T.ex; exact c.def_ 9 (d := d_solved_by) rfl
theorem F_deeds_of : ∃ fd, FunD K "deeds_of" "deeds_of" (defArgs s_deeds_of) (defBody s_deeds_of) (defScope s_deeds_of) [] [] (He.ga K "deeds_of") fd := by obtain ⟨h, X, G, c⟩ := T.ex; exact c.def_ 10 (d := d_deeds_of) rfl
theorem F_columns : ∃ fd, FunD K "columns" "columns" (defArgs s_columns) (defBody s_columns) (defScope s_columns) [] [] (He.ga K "columns") fd := by obtain ⟨h, X, G, c⟩ := T.ex; exact c.def_ 11 (d := d_columns) rfl
theorem F_brought_down : ∃ fd, FunD K "brought_down" "brought_down" (defArgs s_brought_down) (defBody s_brought_down) (defScope s_brought_down) [] [] (He.ga K "brought_down") fd := by obtain ⟨h, X, G, c⟩ := T.ex; exact c.def_ 12 (d := d_brought_down) rfl
theorem F_all_beside : ∃ fd, FunD K "all_beside" "all_beside" (defArgs s_all_beside) (defBody s_all_beside) (defScope s_all_beside) [] [] (He.ga K "all_beside") fd := by obtain ⟨h, X, G, c⟩ := T.ex; exact c.def_ 13 (d := d_all_beside) rfl
theorem F_telling : ∃ fd, FunD K "telling" "telling" (defArgs s_telling) (defBody s_telling) (defScope s_telling) [] [] (He.ga K "telling") fd := by obtain ⟨h, X, G, c⟩ := T.ex; exact c.def_ 14 (d := d_telling) rfl
theorem F_bit_at : ∃ fd, FunD K "bit_at" "bit_at" (defArgs s_bit_at) (defBody s_bit_at) (defScope s_bit_at) [] [] (He.ga K "bit_at") fd := by obtain ⟨h, X, G, c⟩ := T.ex; exact c.def_ 15 (d := d_bit_at) rfl
theorem F_is_whole : ∃ fd, FunD K "is_whole" "is_whole" (defArgs s_is_whole) (defBody s_is_whole) (defScope s_is_whole) [] [] (He.ga K "is_whole") fd := by obtain ⟨h, X, G, c⟩ := T.ex; exact c.def_ 16 (d := d_is_whole) rfl
theorem F_wires_wanted : ∃ fd, FunD K "wires_wanted" "wires_wanted" (defArgs s_wires_wanted) (defBody s_wires_wanted) (defScope s_wires_wanted) [] [] (He.ga K "wires_wanted") fd := by obtain ⟨h, X, G, c⟩ := T.ex; exact c.def_ 17 (d := d_wires_wanted) rfl
theorem F_checked_words : ∃ fd, FunD K "checked_words" "checked_words" (defArgs s_checked_words) (defBody s_checked_words) (defScope s_checked_words) [] [] (He.ga K "checked_words") fd := by obtain ⟨h, X, G, c⟩ := T.ex; exact c.def_ 18 (d := d_checked_words) rfl
theorem F_deed_of : ∃ fd, FunD K "deed_of" "deed_of" (defArgs s_deed_of) (defBody s_deed_of) (defScope s_deed_of) [] [] (He.ga K "deed_of") fd := by obtain ⟨h, X, G, c⟩ := T.ex; exact c.def_ 19 (d := d_deed_of) rfl
theorem F_row_behind : ∃ fd, FunD K "row_behind" "row_behind" (defArgs s_row_behind) (defBody s_row_behind) (defScope s_row_behind) [] [] (He.ga K "row_behind") fd := by obtain ⟨h, X, G, c⟩ := T.ex; exact c.def_ 20 (d := d_row_behind) rfl
theorem F_undone : ∃ fd, FunD K "undone" "undone" (defArgs s_undone) (defBody s_undone) (defScope s_undone) [] [] (He.ga K "undone") fd := by obtain ⟨h, X, G, c⟩ := T.ex; exact c.def_ 21 (d := d_undone) rfl
theorem F_without_done : ∃ fd, FunD K "without_done" "without_done" (defArgs s_without_done) (defBody s_without_done) (defScope s_without_done) [] [] (He.ga K "without_done") fd := by obtain ⟨h, X, G, c⟩ := T.ex; exact c.def_ 22 (d := d_without_done) rfl
theorem F_to_z : ∃ fd, FunD K "to_z" "to_z" (defArgs s_to_z) (defBody s_to_z) (defScope s_to_z) [] [] (He.ga K "to_z") fd := by obtain ⟨h, X, G, c⟩ := T.ex; exact c.def_ 23 (d := d_to_z) rfl
theorem F_made : ∃ fd, FunD K "made" "made" (defArgs s_made) (defBody s_made) (defScope s_made) [] [] (He.ga K "made") fd := by obtain ⟨h, X, G, c⟩ := T.ex; exact c.def_ 24 (d := d_made) rfl
theorem F_checked_look : ∃ fd, FunD K "checked_look" "checked_look" (defArgs s_checked_look) (defBody s_checked_look) (defScope s_checked_look) [] [] (He.ga K "checked_look") fd := by obtain ⟨h, X, G, c⟩ := T.ex; exact c.def_ 25 (d := d_checked_look) rfl
theorem F_without_bit : ∃ fd, FunD K "without_bit" "without_bit" (defArgs s_without_bit) (defBody s_without_bit) (defScope s_without_bit) [] [] (He.ga K "without_bit") fd := by obtain ⟨h, X, G, c⟩ := T.ex; exact c.def_ 26 (d := d_without_bit) rfl
theorem F_value_by : ∃ fd, FunD K "value_by" "value_by" (defArgs s_value_by) (defBody s_value_by) (defScope s_value_by) [] [] (He.ga K "value_by") fd := by obtain ⟨h, X, G, c⟩ := T.ex; exact c.def_ 27 (d := d_value_by) rfl
theorem F_law_cell_at : ∃ fd, FunD K "_law_cell_at" "_law_cell_at" (defArgs s_law_cell_at) (defBody s_law_cell_at) (defScope s_law_cell_at) [] [] (He.ga K "_law_cell_at") fd := by obtain ⟨h, X, G, c⟩ := T.ex; exact c.def_ 28 (d := d_law_cell_at) rfl
theorem F_law_stream : ∃ fd, FunD K "_law_stream" "_law_stream" (defArgs s_law_stream) (defBody s_law_stream) (defScope s_law_stream) [] [] (He.ga K "_law_stream") fd := by obtain ⟨h, X, G, c⟩ := T.ex; exact c.def_ 29 (d := d_law_stream) rfl
theorem F_law_ones : ∃ fd, FunD K "_law_ones" "_law_ones" (defArgs s_law_ones) (defBody s_law_ones) (defScope s_law_ones) [] [] (He.ga K "_law_ones") fd := by obtain ⟨h, X, G, c⟩ := T.ex; exact c.def_ 30 (d := d_law_ones) rfl
theorem F_law_beside : ∃ fd, FunD K "_law_beside" "_law_beside" (defArgs s_law_beside) (defBody s_law_beside) (defScope s_law_beside) [] [] (He.ga K "_law_beside") fd := by obtain ⟨h, X, G, c⟩ := T.ex; exact c.def_ 31 (d := d_law_beside) rfl
theorem F_law_deed : ∃ fd, FunD K "_law_deed" "_law_deed" (defArgs s_law_deed) (defBody s_law_deed) (defScope s_law_deed) [] [] (He.ga K "_law_deed") fd := by obtain ⟨h, X, G, c⟩ := T.ex; exact c.def_ 32 (d := d_law_deed) rfl
theorem F_law_on : ∃ fd, FunD K "_law_on" "_law_on" (defArgs s_law_on) (defBody s_law_on) (defScope s_law_on) [] [] (He.ga K "_law_on") fd := by obtain ⟨h, X, G, c⟩ := T.ex; exact c.def_ 33 (d := d_law_on) rfl
theorem F_law_behind : ∃ fd, FunD K "_law_behind" "_law_behind" (defArgs s_law_behind) (defBody s_law_behind) (defScope s_law_behind) [] [] (He.ga K "_law_behind") fd := by obtain ⟨h, X, G, c⟩ := T.ex; exact c.def_ 34 (d := d_law_behind) rfl
theorem F_law_whole : ∃ fd, FunD K "_law_whole" "_law_whole" (defArgs s_law_whole) (defBody s_law_whole) (defScope s_law_whole) [] [] (He.ga K "_law_whole") fd := by obtain ⟨h, X, G, c⟩ := T.ex; exact c.def_ 35 (d := d_law_whole) rfl
theorem F_law_row : ∃ fd, FunD K "_law_row" "_law_row" (defArgs s_law_row) (defBody s_law_row) (defScope s_law_row) [] [] (He.ga K "_law_row") fd := by obtain ⟨h, X, G, c⟩ := T.ex; exact c.def_ 36 (d := d_law_row) rfl
theorem F_law_letters : ∃ fd, FunD K "_law_letters" "_law_letters" (defArgs s_law_letters) (defBody s_law_letters) (defScope s_law_letters) [] [] (He.ga K "_law_letters") fd := by obtain ⟨h, X, G, c⟩ := T.ex; exact c.def_ 37 (d := d_law_letters) rfl
theorem F_law_known : ∃ fd, FunD K "_law_known" "_law_known" (defArgs s_law_known) (defBody s_law_known) (defScope s_law_known) [] [] (He.ga K "_law_known") fd := by obtain ⟨h, X, G, c⟩ := T.ex; exact c.def_ 38 (d := d_law_known) rfl
theorem F_law_turns : ∃ fd, FunD K "_law_turns" "_law_turns" (defArgs s_law_turns) (defBody s_law_turns) (defScope s_law_turns) [] [] (He.ga K "_law_turns") fd := by obtain ⟨h, X, G, c⟩ := T.ex; exact c.def_ 39 (d := d_law_turns) rfl
theorem F_law_code : ∃ fd, FunD K "_law_code" "_law_code" (defArgs s_law_code) (defBody s_law_code) (defScope s_law_code) [] [] (He.ga K "_law_code") fd := by obtain ⟨h, X, G, c⟩ := T.ex; exact c.def_ 40 (d := d_law_code) rfl
theorem F_law_wrong : ∃ fd, FunD K "_law_wrong" "_law_wrong" (defArgs s_law_wrong) (defBody s_law_wrong) (defScope s_law_wrong) [] [] (He.ga K "_law_wrong") fd := by obtain ⟨h, X, G, c⟩ := T.ex; exact c.def_ 41 (d := d_law_wrong) rfl
theorem F_law_signs : ∃ fd, FunD K "_law_signs" "_law_signs" (defArgs s_law_signs) (defBody s_law_signs) (defScope s_law_signs) [] [] (He.ga K "_law_signs") fd := by obtain ⟨h, X, G, c⟩ := T.ex; exact c.def_ 42 (d := d_law_signs) rfl
theorem F_law_weight : ∃ fd, FunD K "_law_weight" "_law_weight" (defArgs s_law_weight) (defBody s_law_weight) (defScope s_law_weight) [] [] (He.ga K "_law_weight") fd := by obtain ⟨h, X, G, c⟩ := T.ex; exact c.def_ 43 (d := d_law_weight) rfl
theorem F_law_parting : ∃ fd, FunD K "_law_parting" "_law_parting" (defArgs s_law_parting) (defBody s_law_parting) (defScope s_law_parting) [] [] (He.ga K "_law_parting") fd := by obtain ⟨h, X, G, c⟩ := T.ex; exact c.def_ 44 (d := d_law_parting) rfl
theorem F_law_put_right : ∃ fd, FunD K "_law_put_right" "_law_put_right" (defArgs s_law_put_right) (defBody s_law_put_right) (defScope s_law_put_right) [] [] (He.ga K "_law_put_right") fd := by obtain ⟨h, X, G, c⟩ := T.ex; exact c.def_ 45 (d := d_law_put_right) rfl
theorem F_law : ∃ fd, FunD K "law" "law" (defArgs s_law) (defBody s_law) (defScope s_law) [] [] (He.ga K "law") fd := by obtain ⟨h, X, G, c⟩ := T.ex; exact c.def_ 46 (d := d_law) rfl
theorem F_Code_init : ∃ fd, FunD K "__init__" "Code.__init__" (defArgs s_Code_init) (defBody s_Code_init) (defScope s_Code_init) [] [] (He.ma K (He.ga K "Code") "__init__") fd := by obtain ⟨h, X, G, c⟩ := T.ex; exact c.def_ 47 (d := d_Code_init) rfl
theorem F_Code_take : ∃ fd, FunD K "take" "Code.take" (defArgs s_Code_take) (defBody s_Code_take) (defScope s_Code_take) [] [] (He.ma K (He.ga K "Code") "take") fd := by obtain ⟨h, X, G, c⟩ := T.ex; exact c.def_ 48 (d := d_Code_take) rfl
theorem F_Code_signs : ∃ fd, FunD K "signs" "Code.signs" (defArgs s_Code_signs) (defBody s_Code_signs) (defScope s_Code_signs) [] [] (He.ma K (He.ga K "Code") "signs") fd := by obtain ⟨h, X, G, c⟩ := T.ex; exact c.def_ 49 (d := d_Code_signs) rfl
theorem F_Code_harmless : ∃ fd, FunD K "harmless" "Code.harmless" (defArgs s_Code_harmless) (defBody s_Code_harmless) (defScope s_Code_harmless) [] [] (He.ma K (He.ga K "Code") "harmless") fd := by obtain ⟨h, X, G, c⟩ := T.ex; exact c.def_ 50 (d := d_Code_harmless) rfl
theorem F_Code_wrongs : ∃ fd, FunD K "wrongs" "Code.wrongs" (defArgs s_Code_wrongs) (defBody s_Code_wrongs) (defScope s_Code_wrongs) [] [] (He.ma K (He.ga K "Code") "wrongs") fd := by obtain ⟨h, X, G, c⟩ := T.ex; exact c.def_ 51 (d := d_Code_wrongs) rfl
theorem F_Code_parting_wrongs : ∃ fd, FunD K "parting_wrongs" "Code.parting_wrongs" (defArgs s_Code_parting_wrongs) (defBody s_Code_parting_wrongs) (defScope s_Code_parting_wrongs) [] [] (He.ma K (He.ga K "Code") "parting_wrongs") fd := by obtain ⟨h, X, G, c⟩ := T.ex; exact c.def_ 52 (d := d_Code_parting_wrongs) rfl
theorem F_Code_shower : ∃ fd, FunD K "shower" "Code.shower" (defArgs s_Code_shower) (defBody s_Code_shower) (defScope s_Code_shower) [] [] (He.ma K (He.ga K "Code") "shower") fd := by obtain ⟨h, X, G, c⟩ := T.ex; exact c.def_ 53 (d := d_Code_shower) rfl
theorem F_Code_guess : ∃ fd, FunD K "guess" "Code.guess" (defArgs s_Code_guess) (defBody s_Code_guess) (defScope s_Code_guess) [] [] (He.ma K (He.ga K "Code") "guess") fd := by obtain ⟨h, X, G, c⟩ := T.ex; exact c.def_ 54 (d := d_Code_guess) rfl
theorem F_Over_init : ∃ fd, FunD K "__init__" "Deed.__init__" (defArgs s_Over_init) (defBody s_Over_init) (defScope s_Over_init) [] [] (He.ma K (He.ga K "Over") "__init__") fd := by obtain ⟨h, X, G, c⟩ := T.ex; exact c.def_ 55 (d := d_Over_init) rfl
theorem F_Over_undoing : ∃ fd, FunD K "undoing" "Deed.undoing" (defArgs s_Over_undoing) (defBody s_Over_undoing) (defScope s_Over_undoing) [] [] (He.ma K (He.ga K "Over") "undoing") fd := by obtain ⟨h, X, G, c⟩ := T.ex; exact c.def_ 56 (d := d_Over_undoing) rfl
theorem F_Over_on_row : ∃ fd, FunD K "on_row" "Over.on_row" (defArgs s_Over_on_row) (defBody s_Over_on_row) (defScope s_Over_on_row) [] [] (He.ma K (He.ga K "Over") "on_row") fd := by obtain ⟨h, X, G, c⟩ := T.ex; exact c.def_ 57 (d := d_Over_on_row) rfl
theorem F_Quarter_init : ∃ fd, FunD K "__init__" "Deed.__init__" (defArgs s_Quarter_init) (defBody s_Quarter_init) (defScope s_Quarter_init) [] [] (He.ma K (He.ga K "Quarter") "__init__") fd := by obtain ⟨h, X, G, c⟩ := T.ex; exact c.def_ 58 (d := d_Quarter_init) rfl
theorem F_Quarter_undoing : ∃ fd, FunD K "undoing" "Quarter.undoing" (defArgs s_Quarter_undoing) (defBody s_Quarter_undoing) (defScope s_Quarter_undoing) [] [] (He.ma K (He.ga K "Quarter") "undoing") fd := by obtain ⟨h, X, G, c⟩ := T.ex; exact c.def_ 59 (d := d_Quarter_undoing) rfl
theorem F_Quarter_on_row : ∃ fd, FunD K "on_row" "Quarter.on_row" (defArgs s_Quarter_on_row) (defBody s_Quarter_on_row) (defScope s_Quarter_on_row) [] [] (He.ma K (He.ga K "Quarter") "on_row") fd := by obtain ⟨h, X, G, c⟩ := T.ex; exact c.def_ 60 (d := d_Quarter_on_row) rfl
theorem F_Back_init : ∃ fd, FunD K "__init__" "Deed.__init__" (defArgs s_Back_init) (defBody s_Back_init) (defScope s_Back_init) [] [] (He.ma K (He.ga K "Back") "__init__") fd := by obtain ⟨h, X, G, c⟩ := T.ex; exact c.def_ 61 (d := d_Back_init) rfl
theorem F_Back_undoing : ∃ fd, FunD K "undoing" "Back.undoing" (defArgs s_Back_undoing) (defBody s_Back_undoing) (defScope s_Back_undoing) [] [] (He.ma K (He.ga K "Back") "undoing") fd := by obtain ⟨h, X, G, c⟩ := T.ex; exact c.def_ 62 (d := d_Back_undoing) rfl
theorem F_Back_on_row : ∃ fd, FunD K "on_row" "Back.on_row" (defArgs s_Back_on_row) (defBody s_Back_on_row) (defScope s_Back_on_row) [] [] (He.ma K (He.ga K "Back") "on_row") fd := by obtain ⟨h, X, G, c⟩ := T.ex; exact c.def_ 63 (d := d_Back_on_row) rfl
theorem F_Both_init : ∃ fd, FunD K "__init__" "Deed.__init__" (defArgs s_Both_init) (defBody s_Both_init) (defScope s_Both_init) [] [] (He.ma K (He.ga K "Both") "__init__") fd := by obtain ⟨h, X, G, c⟩ := T.ex; exact c.def_ 64 (d := d_Both_init) rfl
theorem F_Both_undoing : ∃ fd, FunD K "undoing" "Deed.undoing" (defArgs s_Both_undoing) (defBody s_Both_undoing) (defScope s_Both_undoing) [] [] (He.ma K (He.ga K "Both") "undoing") fd := by obtain ⟨h, X, G, c⟩ := T.ex; exact c.def_ 65 (d := d_Both_undoing) rfl
theorem F_Both_on_row : ∃ fd, FunD K "on_row" "Both.on_row" (defArgs s_Both_on_row) (defBody s_Both_on_row) (defScope s_Both_on_row) [] [] (He.ma K (He.ga K "Both") "on_row") fd := by obtain ⟨h, X, G, c⟩ := T.ex; exact c.def_ 66 (d := d_Both_on_row) rfl
theorem F_Where_init : ∃ fd, FunD K "__init__" "Deed.__init__" (defArgs s_Where_init) (defBody s_Where_init) (defScope s_Where_init) [] [] (He.ma K (He.ga K "Where") "__init__") fd := by obtain ⟨h, X, G, c⟩ := T.ex; exact c.def_ 67 (d := d_Where_init) rfl
theorem F_Where_undoing : ∃ fd, FunD K "undoing" "Deed.undoing" (defArgs s_Where_undoing) (defBody s_Where_undoing) (defScope s_Where_undoing) [] [] (He.ma K (He.ga K "Where") "undoing") fd := by obtain ⟨h, X, G, c⟩ := T.ex; exact c.def_ 68 (d := d_Where_undoing) rfl
theorem F_Where_on_row : ∃ fd, FunD K "on_row" "Where.on_row" (defArgs s_Where_on_row) (defBody s_Where_on_row) (defScope s_Where_on_row) [] [] (He.ma K (He.ga K "Where") "on_row") fd := by obtain ⟨h, X, G, c⟩ := T.ex; exact c.def_ 69 (d := d_Where_on_row) rfl
theorem F_Swap_init : ∃ fd, FunD K "__init__" "Deed.__init__" (defArgs s_Swap_init) (defBody s_Swap_init) (defScope s_Swap_init) [] [] (He.ma K (He.ga K "Swap") "__init__") fd := by obtain ⟨h, X, G, c⟩ := T.ex; exact c.def_ 70 (d := d_Swap_init) rfl
theorem F_Swap_undoing : ∃ fd, FunD K "undoing" "Deed.undoing" (defArgs s_Swap_undoing) (defBody s_Swap_undoing) (defScope s_Swap_undoing) [] [] (He.ma K (He.ga K "Swap") "undoing") fd := by obtain ⟨h, X, G, c⟩ := T.ex; exact c.def_ 71 (d := d_Swap_undoing) rfl
theorem F_Swap_on_row : ∃ fd, FunD K "on_row" "Swap.on_row" (defArgs s_Swap_on_row) (defBody s_Swap_on_row) (defScope s_Swap_on_row) [] [] (He.ma K (He.ga K "Swap") "on_row") fd := by obtain ⟨h, X, G, c⟩ := T.ex; exact c.def_ 72 (d := d_Swap_on_row) rfl
theorem F_Swap_exchanged : ∃ fd, FunD K "exchanged" "Swap.exchanged" (defArgs s_Swap_exchanged) (defBody s_Swap_exchanged) (defScope s_Swap_exchanged) [] [] (He.ma K (He.ga K "Swap") "exchanged") fd := by obtain ⟨h, X, G, c⟩ := T.ex; exact c.def_ 73 (d := d_Swap_exchanged) rfl
theorem F_Machine_init : ∃ fd, FunD K "__init__" "Machine.__init__" (defArgs s_Machine_init) (defBody s_Machine_init) (defScope s_Machine_init) [] [] (He.ma K (He.ga K "Machine") "__init__") fd := by obtain ⟨h, X, G, c⟩ := T.ex; exact c.def_ 74 (d := d_Machine_init) rfl
theorem F_Signs_init : ∃ fd, FunD K "__init__" "Signs.__init__" (defArgs s_Signs_init) (defBody s_Signs_init) (defScope s_Signs_init) [] [] (He.ma K (He.ga K "Signs") "__init__") fd := by obtain ⟨h, X, G, c⟩ := T.ex; exact c.def_ 75 (d := d_Signs_init) rfl
theorem F_Signs_rows : ∃ fd, FunD K "rows" "Signs.rows" (defArgs s_Signs_rows) (defBody s_Signs_rows) (defScope s_Signs_rows) [] [] (He.ma K (He.ga K "Signs") "rows") fd := by obtain ⟨h, X, G, c⟩ := T.ex; exact c.def_ 76 (d := d_Signs_rows) rfl
theorem F_Signs_do : ∃ fd, FunD K "do" "Signs.do" (defArgs s_Signs_do) (defBody s_Signs_do) (defScope s_Signs_do) [] [] (He.ma K (He.ga K "Signs") "do") fd := by obtain ⟨h, X, G, c⟩ := T.ex; exact c.def_ 77 (d := d_Signs_do) rfl
theorem F_Signs_look : ∃ fd, FunD K "look" "Signs.look" (defArgs s_Signs_look) (defBody s_Signs_look) (defScope s_Signs_look) [.non] [] (He.ma K (He.ga K "Signs") "look") fd := by obtain ⟨h, X, G, c⟩ := T.ex; exact c.def_ 78 (d := d_Signs_look) rfl
theorem F_Signs_surely : ∃ fd, FunD K "surely" "Signs.surely" (defArgs s_Signs_surely) (defBody s_Signs_surely) (defScope s_Signs_surely) [] [] (He.ma K (He.ga K "Signs") "surely") fd := by obtain ⟨h, X, G, c⟩ := T.ex; exact c.def_ 79 (d := d_Signs_surely) rfl
theorem F_Signs_looked_at : ∃ fd, FunD K "looked_at" "Machine.looked_at" (defArgs s_Signs_looked_at) (defBody s_Signs_looked_at) (defScope s_Signs_looked_at) [] [] (He.ma K (He.ga K "Signs") "looked_at") fd := by obtain ⟨h, X, G, c⟩ := T.ex; exact c.def_ 80 (d := d_Signs_looked_at) rfl
end
end K92
end
section
set_option maxHeartbeats 0
namespace K92
open PySem PySem.Spec PyProof.Rows L2
abbrev R : PySem.W.OpenRow := PySem.W.OpenLaw.row PySem.Challenge.rw_twinwires_k92_whole_what_went_wrong_is_p
/-- the addresses behind these -/
def behind (g : Addr → Option Obj) (as : List Addr) : List Addr := as.flatMap fun a => match g a with
  | some o => He.refsD o
  | none => []
def asX (g : Addr → Option Obj) : List Addr := mainGlobals :: cStatics :: ((behind g [mainGlobals]) ++ ((behind g (behind g [mainGlobals])) ++ ((behind g (behind g (behind g [mainGlobals]))) ++ (behind g (behind g (behind g (behind g [mainGlobals])))))))
def obsX (g : Addr → Option Obj) : He.AlD × Bool := (fun K => (He.obsD fa fn K, exM K)) (He.frG g (asX g))
def hk : PySem.W.Hook where
  α := He.AlD × Bool
  obs := fun s => obsX s.heap.get?
  val := fun _ => (He.valD fn, true)
  says := fun _ h => ∃ K : PySem.W.Frag, K.In h ∧ He.SaysD fa fn K ∧ exM K = true
  of := fun _ _ e => ⟨_, He.frG_in, (Prod.mk.inj e).1, (Prod.mk.inj e).2⟩
  keeps := fun _ _ _ ⟨K, hK, c⟩ k => ⟨K, PySem.W.Frag.In.keeps hK k, c⟩
theorem obsX_eq {g : Addr → Option Obj} {s : Shared} (h : ∀ a, g a = s.heap.get? a) : obsX g = hk.obs s := by
  have e : g = s.heap.get? := funext h
  rw [e] <;> rfl
def ob (s : PySem.W.SharedT) : He.AlD × Bool := obsX (HandSHeadRun.getT s)
theorem ob_eq (s : PySem.W.SharedT) : ob s = hk.obs s.abs := obsX_eq (HandSHeadRun.getT_eq s)
theorem run (w : World) : HandSHeadRun.RunEq R (PySem.W.view R.prog [84]) hk ob 20000 loose w := by
  intro os
  kernel_rfl
end K92
end
section
set_option autoImplicit false
/-! Rows of signs in plain Lean: products, deeds, the symplectic sign. -/
namespace K92
@[ext] structure Row where
  m : Bool
  x : Nat
  z : Nat
deriving DecidableEq
def b2i (b : Bool) : Int := if b then 1 else 0
/-! ### sums over 64 places -/
def sumN : Nat → (Nat → Int) → Int
  | 0, _ => 0
  | n + 1, f => sumN n f + f n
def xorN : Nat → (Nat → Bool) → Bool
  | 0, _ => false
  | n + 1, f => xorN n f ^^ f n
theorem sumN_congr {n : Nat} {f g : Nat → Int} (h : ∀ k, k < n → f k = g k) : sumN n f = sumN n g := by
  induction n with
  | zero => rfl
  | succ n ih => simp only [sumN]; rw [ih fun k hk => h k (by omega), h n (by omega)]
theorem xorN_congr {n : Nat} {f g : Nat → Bool} (h : ∀ k, k < n → f k = g k) : xorN n f = xorN n g := by
  induction n with
  | zero => rfl
  | succ n ih => simp only [xorN]; rw [ih fun k hk => h k (by omega), h n (by omega)]
theorem sumN_add (n : Nat) (f g : Nat → Int) : sumN n (fun k => f k + g k) = sumN n f + sumN n g := by
  induction n with
  | zero => rfl
  | succ n ih => simp only [sumN]; rw [ih]; omega
theorem sumN_sub (n : Nat) (f g : Nat → Int) : sumN n (fun k => f k - g k) = sumN n f - sumN n g := by
  induction n with
  | zero => rfl
  | succ n ih => simp only [sumN]; rw [ih]; omega
theorem sumN_two (n : Nat) (f : Nat → Int) : sumN n (fun k => 2 * f k) = 2 * sumN n f := by
  induction n with
  | zero => rfl
  | succ n ih => simp only [sumN]; rw [ih]; omega
theorem xorN_xor (n : Nat) (f g : Nat → Bool) : xorN n (fun k => f k ^^ g k) = (xorN n f ^^ xorN n g) := by
  induction n with
  | zero => rfl
  | succ n ih =>
    simp only [xorN]; rw [ih]
    cases xorN n f <;> cases xorN n g <;> cases f n <;> cases g n <;> rfl
theorem xorN_false (n : Nat) : xorN n (fun _ => false) = false := by
  induction n with
  | zero => rfl
  | succ n ih => simp only [xorN]; rw [ih]; rfl
theorem sumN_zero (n : Nat) : sumN n (fun _ => 0) = 0 := by
  induction n with
  | zero => rfl
  | succ n ih => simp only [sumN]; rw [ih]; rfl
theorem sumN_par (n : Nat) (f : Nat → Int) (g : Nat → Bool) (h : ∀ k, f k % 2 = b2i (g k)) : sumN n f % 2 = b2i (xorN n g) := by
  induction n with
  | zero => rfl
  | succ n ih =>
    have q := h n
    simp only [sumN, xorN]
    revert ih q
    cases xorN n g <;> cases g n <;> simp only [b2i, Bool.xor_false, Bool.xor_true, Bool.not_true, Bool.not_false] <;> intro ih q <;> simp at * <;> omega
/-- two sums whose terms are alike but at k -/
theorem sumN_at1 {n k : Nat} (hk : k < n) {f g : Nat → Int} (h : ∀ i, i ≠ k → f i = g i) : sumN n f + g k = sumN n g + f k := by
  induction n with
  | zero => omega
  | succ n ih =>
    simp only [sumN]
    by_cases e : k = n
    · subst e
      rw [sumN_congr (f := f) (g := g) fun i hi => h i (by omega)]; omega
    · have := ih (by omega)
      rw [h n (fun q => e q.symm)]; omega
theorem sumN_at2 {n j k : Nat} (hj : j < n) (hk : k < n) (ne : j ≠ k) {f g : Nat → Int} (h : ∀ i, i ≠ j → i ≠ k → f i = g i) : sumN n f + g j + g k = sumN n g + f j + f k := by
  have a := sumN_at1 (n := n) (k := k) hk (f := f) (g := fun i => if i = k then g k else f i) (fun i hi => by simp [hi])
  have b := sumN_at1 (n := n) (k := j) hj (f := fun i => if i = k then g k else f i) (g := g) (fun i hi => by
    by_cases q : i = k
    · subst q; simp
    · simp [q, h i hi q])
  simp [ne] at a b
  omega
theorem xorN_at1 {n k : Nat} (hk : k < n) {f g : Nat → Bool} (h : ∀ i, i ≠ k → f i = g i) : (xorN n f ^^ g k) = (xorN n g ^^ f k) := by
  induction n with
  | zero => omega
  | succ n ih =>
    simp only [xorN]
    by_cases e : k = n
    · subst e
      rw [xorN_congr (f := f) (g := g) fun i hi => h i (by omega)]
      cases xorN k g <;> cases f k <;> cases g k <;> rfl
    · have := ih (by omega)
      rw [h n (fun q => e q.symm)]
      revert this
      cases xorN n f <;> cases xorN n g <;> cases f k <;> cases g k <;> cases g n <;> decide
theorem xorN_at2 {n j k : Nat} (hj : j < n) (hk : k < n) (ne : j ≠ k) {f g : Nat → Bool} (h : ∀ i, i ≠ j → i ≠ k → f i = g i) : (xorN n f ^^ (g j ^^ g k)) = (xorN n g ^^ (f j ^^ f k)) := by
  have a := xorN_at1 (n := n) (k := k) hk (f := f) (g := fun i => if i = k then g k else f i) (fun i hi => by simp [hi])
  have b := xorN_at1 (n := n) (k := j) hj (f := fun i => if i = k then g k else f i) (g := g) (fun i hi => by
    by_cases q : i = k
    · subst q; simp
    · simp [q, h i hi q])
  simp [ne] at a b
  revert a b
  generalize xorN n (fun i => if i = k then g k else f i) = w
  generalize xorN n f = u
  generalize xorN n g = v
  generalize f j = p
  generalize g j = q
  generalize f k = r
  generalize g k = s
  cases u <;> cases v <;> cases w <;> cases p <;> cases q <;> cases r <;> cases s <;> decide
/-- how many bits -/
def pop (n : Nat) : Int := sumN 64 fun k => b2i (n.testBit k)
/-- whether they are an odd number -/
def par (n : Nat) : Bool := xorN 64 fun k => n.testBit k
theorem pop_par (n : Nat) : pop n % 2 = b2i (par n) := sumN_par 64 _ _ fun k => by cases n.testBit k <;> rfl
theorem par_xor (a b : Nat) : par (a ^^^ b) = (par a ^^ par b) := by
  unfold par
  rw [← xorN_xor]
  exact xorN_congr fun k _ => by rw [Nat.testBit_xor]
theorem par_zero : par 0 = false := by
  unfold par
  rw [xorN_congr (g := fun _ => false) fun k _ => by simp]
  exact xorN_false 64
theorem xor_and_right (a b c : Nat) : (a ^^^ b) &&& c = (a &&& c) ^^^ (b &&& c) := by
  apply Nat.eq_of_testBit_eq; intro i
  simp only [Nat.testBit_and, Nat.testBit_xor]
  cases a.testBit i <;> cases b.testBit i <;> cases c.testBit i <;> rfl
theorem xor_and_left (a b c : Nat) : c &&& (a ^^^ b) = (c &&& a) ^^^ (c &&& b) := by
  apply Nat.eq_of_testBit_eq; intro i
  simp only [Nat.testBit_and, Nat.testBit_xor]
  cases a.testBit i <;> cases b.testBit i <;> cases c.testBit i <;> rfl
/-! ### going beside, products -/
/-- they don't go beside one another -/
def ac (a b : Row) : Bool := par (a.x &&& b.z) ^^ par (a.z &&& b.x)
def beside (a b : Row) : Bool := !ac a b
theorem ac_comm (a b : Row) : ac a b = ac b a := by
  unfold ac
  rw [Nat.and_comm a.x, Nat.and_comm a.z, Bool.xor_comm]
def sl (p q r s : Bool) : Bool := (p && s) ^^ (q && r)
theorem ac_sum (a b : Row) : ac a b = xorN 64 fun k => sl (a.x.testBit k) (a.z.testBit k) (b.x.testBit k) (b.z.testBit k) := by
  unfold ac par
  rw [← xorN_xor]
  exact xorN_congr fun k _ => by simp only [Nat.testBit_and, sl]
/-- the product's letters with another row -/
theorem ac_letters {a b c d : Row} (hx : c.x = a.x ^^^ b.x) (hz : c.z = a.z ^^^ b.z) : ac c d = (ac a d ^^ ac b d) := by
  unfold ac
  rw [hx, hz, xor_and_right, xor_and_right, par_xor, par_xor]
  cases par (a.x &&& d.z) <;> cases par (b.x &&& d.z) <;> cases par (a.z &&& d.x) <;> cases par (b.z &&& d.x) <;> rfl
def qd (a b : Row) : Int := pop (a.x &&& a.z) + pop (b.x &&& b.z) - pop ((a.x ^^^ b.x) &&& (a.z ^^^ b.z)) + 2 * pop (a.z &&& b.x)
def ql (p q r s : Bool) : Int := b2i (p && q) + b2i (r && s) - b2i ((p ^^ r) && (q ^^ s)) + 2 * b2i (q && r)
theorem qd_sum (a b : Row) : qd a b = sumN 64 fun k => ql (a.x.testBit k) (a.z.testBit k) (b.x.testBit k) (b.z.testBit k) := by
  unfold qd pop
  rw [← sumN_add, ← sumN_sub, ← sumN_two, ← sumN_add]
  exact sumN_congr fun k _ => by simp only [Nat.testBit_and, Nat.testBit_xor, ql]
theorem qd_even {a b : Row} (h : ac a b = false) : qd a b % 2 = 0 := by
  rw [qd_sum, sumN_par 64 _ (fun k => sl (a.x.testBit k) (a.z.testBit k) (b.x.testBit k) (b.z.testBit k)) (fun k => by
    cases a.x.testBit k <;> cases a.z.testBit k <;> cases b.x.testBit k <;> cases b.z.testBit k <;> rfl), ← ac_sum, h]
  rfl
def two (q : Int) : Bool := decide (q % 4 = 2)
def mul (a b : Row) : Row := ⟨(a.m ^^ b.m) ^^ two (qd a b), a.x ^^^ b.x, a.z ^^^ b.z⟩
theorem ac_mul (a b d : Row) : ac (mul a b) d = (ac a d ^^ ac b d) := ac_letters rfl rfl
theorem two_cases {q : Int} (h : q % 2 = 0) : (two q = true ∧ q % 4 = 2) ∨ (two q = false ∧ q % 4 = 0) := by
  unfold two
  by_cases e : q % 4 = 2
  · exact .inl ⟨decide_eq_true e, e⟩
  · exact .inr ⟨decide_eq_false e, by omega⟩
theorem mstep (ma mb da db dab : Bool) {Q Q' : Int} (e : Q % 2 = 0) (h : (2 * b2i dab + Q - 2 * b2i da - 2 * b2i db - Q') % 4 = 0) :
    (((ma ^^ mb) ^^ two Q) ^^ dab) = (((ma ^^ da) ^^ (mb ^^ db)) ^^ two Q') := by
  have e' : Q' % 2 = 0 := by omega
  rcases two_cases e with ⟨h1, h2⟩ | ⟨h1, h2⟩ <;> rcases two_cases e' with ⟨h3, h4⟩ | ⟨h3, h4⟩ <;> rw [h1, h3] <;> revert h <;>
    cases da <;> cases db <;> cases dab <;> simp only [b2i] <;> intro h <;> simp at h <;> cases ma <;> cases mb <;> first | rfl | (exfalso; omega)
/-- a product done twice falls out -/
theorem mul_cancel {a b : Row} (h : ac a b = false) : mul (mul a b) b = a := by
  have ex : (a.x ^^^ b.x) ^^^ b.x = a.x := by rw [Nat.xor_assoc, Nat.xor_self, Nat.xor_zero]
  have ez : (a.z ^^^ b.z) ^^^ b.z = a.z := by rw [Nat.xor_assoc, Nat.xor_self, Nat.xor_zero]
  have e1 := qd_even h
  have hab : ac (mul a b) b = false := by
    rw [ac_mul, h]
    unfold ac
    rw [Nat.and_comm b.z b.x]
    cases par (b.x &&& b.z) <;> rfl
  have e2 := qd_even hab
  have p1 : (a.z ^^^ b.z) &&& b.x = (a.z &&& b.x) ^^^ (b.z &&& b.x) := xor_and_right _ _ _
  have q1 := pop_par (a.z &&& b.x)
  have q2 := pop_par (b.z &&& b.x)
  have q3 := pop_par ((a.z ^^^ b.z) &&& b.x)
  rw [p1, par_xor, ← p1] at q3
  have s : (qd a b + qd (mul a b) b) % 4 = 0 := by
    show (qd a b + (pop ((a.x ^^^ b.x) &&& (a.z ^^^ b.z)) + pop (b.x &&& b.z) - pop (((a.x ^^^ b.x) ^^^ b.x) &&& ((a.z ^^^ b.z) ^^^ b.z)) + 2 * pop ((a.z ^^^ b.z) &&& b.x))) % 4 = 0
    rw [ex, ez]
    unfold qd
    rw [Nat.and_comm b.z b.x] at q2 q3
    revert q1 q2 q3
    cases par (a.z &&& b.x) <;> cases par (b.x &&& b.z) <;> simp only [b2i] <;> simp <;> omega
  apply Row.ext
  · show ((((a.m ^^ b.m) ^^ two (qd a b)) ^^ b.m) ^^ two (qd (mul a b) b)) = a.m
    rcases two_cases e1 with ⟨h1, h2⟩ | ⟨h1, h2⟩ <;> rcases two_cases e2 with ⟨h3, h4⟩ | ⟨h3, h4⟩ <;> rw [h1, h3] <;> cases a.m <;> cases b.m <;> first | rfl | (exfalso; omega)
  · exact ex
  · exact ez
/-! ### deeds -/
def put (k : Nat) (b : Bool) : Nat := if b then 2 ^ k else 0
theorem put_bit (k i : Nat) (b : Bool) : (put k b).testBit i = (b && decide (i = k)) := by
  unfold put
  cases b
  · simp
  · simp [Nat.testBit_two_pow, eq_comm]
theorem put_lt {k n : Nat} (h : k < n) (b : Bool) : put k b < 2 ^ n := by
  unfold put
  cases b
  · simpa using Nat.two_pow_pos n
  · simpa using Nat.pow_lt_pow_right (by decide) h
inductive Dd where
  | ov (k : Nat) | qu (k : Nat) | ba (k : Nat) | bo (k : Nat) | wh (j k : Nat) | sw (j k : Nat)
deriving DecidableEq
def Dd.ok (n : Nat) : Dd → Prop
  | .ov k => k < n
  | .qu k => k < n
  | .ba k => k < n
  | .bo k => k < n
  | .wh j k => j < n ∧ k < n ∧ j ≠ k
  | .sw j k => j < n ∧ k < n ∧ j ≠ k
def act : Dd → Row → Row
  | .ov k, r => ⟨r.m ^^ r.z.testBit k, r.x, r.z⟩
  | .qu k, r => ⟨r.m ^^ (r.x.testBit k && r.z.testBit k), r.x, r.z ^^^ put k (r.x.testBit k)⟩
  | .ba k, r => ⟨r.m ^^ (r.x.testBit k && !r.z.testBit k), r.x, r.z ^^^ put k (r.x.testBit k)⟩
  | .bo k, r => ⟨r.m ^^ (r.x.testBit k && r.z.testBit k), r.x ^^^ put k (r.x.testBit k ^^ r.z.testBit k), r.z ^^^ put k (r.x.testBit k ^^ r.z.testBit k)⟩
  | .wh j k, r => ⟨r.m ^^ ((r.x.testBit j && r.z.testBit k) && (r.x.testBit k == r.z.testBit j)), r.x ^^^ put k (r.x.testBit j), r.z ^^^ put j (r.z.testBit k)⟩
  | .sw j k, r => ⟨r.m, (r.x ^^^ put j (r.x.testBit j ^^ r.x.testBit k)) ^^^ put k (r.x.testBit j ^^ r.x.testBit k), (r.z ^^^ put j (r.z.testBit j ^^ r.z.testBit k)) ^^^ put k (r.z.testBit j ^^ r.z.testBit k)⟩
def undo : Dd → Dd
  | .qu k => .ba k
  | .ba k => .qu k
  | d => d
structure Row.wf (n : Nat) (r : Row) : Prop where
  x : r.x < 2 ^ n
  z : r.z < 2 ^ n
theorem wf_mul {n : Nat} {a b : Row} (ha : a.wf n) (hb : b.wf n) : (mul a b).wf n := ⟨Nat.xor_lt_two_pow ha.x hb.x, Nat.xor_lt_two_pow ha.z hb.z⟩
theorem wf_act {n : Nat} {d : Dd} {r : Row} (hd : d.ok n) (h : r.wf n) : (act d r).wf n := by
  have xl : ∀ {a k : Nat} {b : Bool}, a < 2 ^ n → k < n → a ^^^ put k b < 2 ^ n := fun h hk => Nat.xor_lt_two_pow h (put_lt hk _)
  cases d with
  | ov k => exact ⟨h.x, h.z⟩
  | qu k => exact ⟨h.x, xl h.z hd⟩
  | ba k => exact ⟨h.x, xl h.z hd⟩
  | bo k => exact ⟨xl h.x hd, xl h.z hd⟩
  | wh j k => exact ⟨xl h.x hd.2.1, xl h.z hd.1⟩
  | sw j k => exact ⟨xl (xl h.x hd.1) hd.2.1, xl (xl h.z hd.1) hd.2.1⟩
/-- an op on one wire, by its letters there -/
structure Op1 (F : Row → Row) (k : Nat) (f : Bool → Bool → Bool × Bool) (g : Bool → Bool → Bool) : Prop where
  hx : ∀ r i, (F r).x.testBit i = if i = k then (f (r.x.testBit k) (r.z.testBit k)).1 else r.x.testBit i
  hz : ∀ r i, (F r).z.testBit i = if i = k then (f (r.x.testBit k) (r.z.testBit k)).2 else r.z.testBit i
  hm : ∀ r, (F r).m = (r.m ^^ g (r.x.testBit k) (r.z.testBit k))
structure Tab1 (f : Bool → Bool → Bool × Bool) (g : Bool → Bool → Bool) : Prop where
  s : ∀ p q r s : Bool, sl (f p q).1 (f p q).2 (f r s).1 (f r s).2 = sl p q r s
  l : ∀ p q r s : Bool, f (p ^^ r) (q ^^ s) = ((f p q).1 ^^ (f r s).1, (f p q).2 ^^ (f r s).2)
  m : ∀ p q r s : Bool, (2 * b2i (g (p ^^ r) (q ^^ s)) + ql p q r s - 2 * b2i (g p q) - 2 * b2i (g r s) - ql (f p q).1 (f p q).2 (f r s).1 (f r s).2) % 4 = 0
theorem Op1.ac {F : Row → Row} {k : Nat} {f : Bool → Bool → Bool × Bool} {g : Bool → Bool → Bool} (O : Op1 F k f g) (T : Tab1 f g) (hk : k < 64) (a b : Row) : K92.ac (F a) (F b) = K92.ac a b := by
  rw [ac_sum, ac_sum]
  have h := xorN_at1 (n := 64) hk (f := fun i => sl ((F a).x.testBit i) ((F a).z.testBit i) ((F b).x.testBit i) ((F b).z.testBit i)) (g := fun i => sl (a.x.testBit i) (a.z.testBit i) (b.x.testBit i) (b.z.testBit i))
    (fun i hi => by simp only [O.hx, O.hz, if_neg hi])
  simp only [O.hx, O.hz, ↓reduceIte, T.s] at h
  simp only [O.hx, O.hz]
  revert h
  generalize xorN 64 _ = u
  generalize xorN 64 _ = v
  generalize sl _ _ _ _ = w
  cases u <;> cases v <;> cases w <;> decide
theorem Op1.mul {F : Row → Row} {k : Nat} {f : Bool → Bool → Bool × Bool} {g : Bool → Bool → Bool} (O : Op1 F k f g) (T : Tab1 f g) (hk : k < 64) {a b : Row} (h : K92.ac a b = false) : F (mul a b) = mul (F a) (F b) := by
  have lx : (F (K92.mul a b)).x = (F a).x ^^^ (F b).x := by
    apply Nat.eq_of_testBit_eq; intro i
    rw [Nat.testBit_xor, O.hx, O.hx, O.hx]
    by_cases e : i = k
    · simp only [if_pos e, K92.mul, Nat.testBit_xor, T.l]
    · simp only [if_neg e, K92.mul, Nat.testBit_xor]
  have lz : (F (K92.mul a b)).z = (F a).z ^^^ (F b).z := by
    apply Nat.eq_of_testBit_eq; intro i
    rw [Nat.testBit_xor, O.hz, O.hz, O.hz]
    by_cases e : i = k
    · simp only [if_pos e, K92.mul, Nat.testBit_xor, T.l]
    · simp only [if_neg e, K92.mul, Nat.testBit_xor]
  refine Row.ext ?_ lx lz
  rw [O.hm]
  show (((a.m ^^ b.m) ^^ two (qd a b)) ^^ g _ _) = (((F a).m ^^ (F b).m) ^^ two (qd (F a) (F b)))
  rw [O.hm, O.hm]
  refine mstep _ _ _ _ _ (qd_even h) ?_
  rw [qd_sum, qd_sum]
  have q := sumN_at1 (n := 64) hk (f := fun i => ql ((F a).x.testBit i) ((F a).z.testBit i) ((F b).x.testBit i) ((F b).z.testBit i)) (g := fun i => ql (a.x.testBit i) (a.z.testBit i) (b.x.testBit i) (b.z.testBit i))
    (fun i hi => by simp only [O.hx, O.hz, if_neg hi])
  have t := T.m (a.x.testBit k) (a.z.testBit k) (b.x.testBit k) (b.z.testBit k)
  simp only [O.hx, O.hz, ↓reduceIte] at q
  simp only [O.hx, O.hz, K92.mul, Nat.testBit_xor]
  omega
/-- an op on two wires -/
structure Op2 (F : Row → Row) (j k : Nat) (fj fk : Bool → Bool → Bool → Bool → Bool × Bool) (g : Bool → Bool → Bool → Bool → Bool) : Prop where
  hx : ∀ r i, (F r).x.testBit i = if i = j then (fj (r.x.testBit j) (r.z.testBit j) (r.x.testBit k) (r.z.testBit k)).1 else if i = k then (fk (r.x.testBit j) (r.z.testBit j) (r.x.testBit k) (r.z.testBit k)).1 else r.x.testBit i
  hz : ∀ r i, (F r).z.testBit i = if i = j then (fj (r.x.testBit j) (r.z.testBit j) (r.x.testBit k) (r.z.testBit k)).2 else if i = k then (fk (r.x.testBit j) (r.z.testBit j) (r.x.testBit k) (r.z.testBit k)).2 else r.z.testBit i
  hm : ∀ r, (F r).m = (r.m ^^ g (r.x.testBit j) (r.z.testBit j) (r.x.testBit k) (r.z.testBit k))
structure Tab2 (fj fk : Bool → Bool → Bool → Bool → Bool × Bool) (g : Bool → Bool → Bool → Bool → Bool) : Prop where
  s : ∀ p q r s p' q' r' s' : Bool, (sl (fj p q r s).1 (fj p q r s).2 (fj p' q' r' s').1 (fj p' q' r' s').2 ^^ sl (fk p q r s).1 (fk p q r s).2 (fk p' q' r' s').1 (fk p' q' r' s').2) = (sl p q p' q' ^^ sl r s r' s')
  lj : ∀ p q r s p' q' r' s' : Bool, fj (p ^^ p') (q ^^ q') (r ^^ r') (s ^^ s') = ((fj p q r s).1 ^^ (fj p' q' r' s').1, (fj p q r s).2 ^^ (fj p' q' r' s').2)
  lk : ∀ p q r s p' q' r' s' : Bool, fk (p ^^ p') (q ^^ q') (r ^^ r') (s ^^ s') = ((fk p q r s).1 ^^ (fk p' q' r' s').1, (fk p q r s).2 ^^ (fk p' q' r' s').2)
  m : ∀ p q r s p' q' r' s' : Bool, (2 * b2i (g (p ^^ p') (q ^^ q') (r ^^ r') (s ^^ s')) + (ql p q p' q' + ql r s r' s') - 2 * b2i (g p q r s) - 2 * b2i (g p' q' r' s')
    - (ql (fj p q r s).1 (fj p q r s).2 (fj p' q' r' s').1 (fj p' q' r' s').2 + ql (fk p q r s).1 (fk p q r s).2 (fk p' q' r' s').1 (fk p' q' r' s').2)) % 4 = 0
theorem Op2.ac {F : Row → Row} {j k : Nat} {fj fk : Bool → Bool → Bool → Bool → Bool × Bool} {g : Bool → Bool → Bool → Bool → Bool} (O : Op2 F j k fj fk g) (T : Tab2 fj fk g) (hj : j < 64) (hk : k < 64) (ne : j ≠ k) (a b : Row) : K92.ac (F a) (F b) = K92.ac a b := by
  rw [ac_sum, ac_sum]
  have h := xorN_at2 (n := 64) hj hk ne (f := fun i => sl ((F a).x.testBit i) ((F a).z.testBit i) ((F b).x.testBit i) ((F b).z.testBit i)) (g := fun i => sl (a.x.testBit i) (a.z.testBit i) (b.x.testBit i) (b.z.testBit i))
    (fun i hi hi' => by simp only [O.hx, O.hz, if_neg hi, if_neg hi'])
  simp only [O.hx, O.hz, ↓reduceIte, if_neg ne.symm, T.s] at h
  simp only [O.hx, O.hz]
  revert h
  generalize xorN 64 _ = u
  generalize xorN 64 _ = v
  generalize sl _ _ _ _ = w
  generalize sl _ _ _ _ = w'
  cases u <;> cases v <;> cases w <;> cases w' <;> decide
theorem Op2.mul {F : Row → Row} {j k : Nat} {fj fk : Bool → Bool → Bool → Bool → Bool × Bool} {g : Bool → Bool → Bool → Bool → Bool} (O : Op2 F j k fj fk g) (T : Tab2 fj fk g) (hj : j < 64) (hk : k < 64) (ne : j ≠ k) {a b : Row} (h : K92.ac a b = false) : F (mul a b) = mul (F a) (F b) := by
  have lx : (F (K92.mul a b)).x = (F a).x ^^^ (F b).x := by
    apply Nat.eq_of_testBit_eq; intro i
    rw [Nat.testBit_xor, O.hx, O.hx, O.hx]
    by_cases e : i = j
    · simp only [if_pos e, K92.mul, Nat.testBit_xor, T.lj]
    · by_cases e' : i = k
      · simp only [if_neg e, if_pos e', K92.mul, Nat.testBit_xor, T.lk]
      · simp only [if_neg e, if_neg e', K92.mul, Nat.testBit_xor]
  have lz : (F (K92.mul a b)).z = (F a).z ^^^ (F b).z := by
    apply Nat.eq_of_testBit_eq; intro i
    rw [Nat.testBit_xor, O.hz, O.hz, O.hz]
    by_cases e : i = j
    · simp only [if_pos e, K92.mul, Nat.testBit_xor, T.lj]
    · by_cases e' : i = k
      · simp only [if_neg e, if_pos e', K92.mul, Nat.testBit_xor, T.lk]
      · simp only [if_neg e, if_neg e', K92.mul, Nat.testBit_xor]
  refine Row.ext ?_ lx lz
  rw [O.hm]
  show (((a.m ^^ b.m) ^^ two (qd a b)) ^^ g _ _ _ _) = (((F a).m ^^ (F b).m) ^^ two (qd (F a) (F b)))
  rw [O.hm, O.hm]
  refine mstep _ _ _ _ _ (qd_even h) ?_
  rw [qd_sum, qd_sum]
  have q := sumN_at2 (n := 64) hj hk ne (f := fun i => ql ((F a).x.testBit i) ((F a).z.testBit i) ((F b).x.testBit i) ((F b).z.testBit i)) (g := fun i => ql (a.x.testBit i) (a.z.testBit i) (b.x.testBit i) (b.z.testBit i))
    (fun i hi hi' => by simp only [O.hx, O.hz, if_neg hi, if_neg hi'])
  have t := T.m (a.x.testBit j) (a.z.testBit j) (a.x.testBit k) (a.z.testBit k) (b.x.testBit j) (b.z.testBit j) (b.x.testBit k) (b.z.testBit k)
  simp only [O.hx, O.hz, ↓reduceIte, if_neg ne.symm] at q
  simp only [O.hx, O.hz, K92.mul, Nat.testBit_xor]
  omega
theorem tab_ov : Tab1 (fun p q => (p, q)) (fun p q => q) := ⟨by decide +kernel, by decide +kernel, by decide +kernel⟩
theorem tab_qu : Tab1 (fun p q => (p, q ^^ p)) (fun p q => p && q) := ⟨by decide +kernel, by decide +kernel, by decide +kernel⟩
theorem tab_ba : Tab1 (fun p q => (p, q ^^ p)) (fun p q => p && !q) := ⟨by decide +kernel, by decide +kernel, by decide +kernel⟩
theorem tab_bo : Tab1 (fun p q => (q, p)) (fun p q => p && q) := ⟨by decide +kernel, by decide +kernel, by decide +kernel⟩
theorem tab_wh : Tab2 (fun p q r s => (p, q ^^ s)) (fun p q r s => (r ^^ p, s)) (fun p q r s => (p && s) && (r == q)) := ⟨by decide +kernel, by decide +kernel, by decide +kernel, by decide +kernel⟩
theorem tab_sw : Tab2 (fun p q r s => (r, s)) (fun p q r s => (p, q)) (fun p q r s => false) := ⟨by decide +kernel, by decide +kernel, by decide +kernel, by decide +kernel⟩
theorem op_ov (k : Nat) : Op1 (act (.ov k)) k (fun p q => (p, q)) (fun p q => q) :=
  ⟨fun r i => by simp only [act]; split <;> simp [*], fun r i => by simp only [act]; split <;> simp [*], fun r => rfl⟩
theorem op_qu (k : Nat) : Op1 (act (.qu k)) k (fun p q => (p, q ^^ p)) (fun p q => p && q) :=
  ⟨fun r i => by simp only [act]; split <;> simp [*], fun r i => by simp only [act, Nat.testBit_xor, put_bit]; split <;> simp [*], fun r => rfl⟩
theorem op_ba (k : Nat) : Op1 (act (.ba k)) k (fun p q => (p, q ^^ p)) (fun p q => p && !q) :=
  ⟨fun r i => by simp only [act]; split <;> simp [*], fun r i => by simp only [act, Nat.testBit_xor, put_bit]; split <;> simp [*], fun r => rfl⟩
theorem op_bo (k : Nat) : Op1 (act (.bo k)) k (fun p q => (q, p)) (fun p q => p && q) :=
  ⟨fun r i => by
    simp only [act, Nat.testBit_xor, put_bit]; split
    · simp [*]
    · simp [*],
   fun r i => by
    simp only [act, Nat.testBit_xor, put_bit]; split
    · simp [*]; cases r.x.testBit k <;> cases r.z.testBit k <;> rfl
    · simp [*], fun r => rfl⟩
theorem op_wh {j k : Nat} (ne : j ≠ k) : Op2 (act (.wh j k)) j k (fun p q r s => (p, q ^^ s)) (fun p q r s => (r ^^ p, s)) (fun p q r s => (p && s) && (r == q)) :=
  ⟨fun r i => by
    simp only [act, Nat.testBit_xor, put_bit]
    by_cases e : i = j
    · subst e; simp [ne]
    · by_cases e' : i = k
      · subst e'; simp [e]
      · simp [e, e'],
   fun r i => by
    simp only [act, Nat.testBit_xor, put_bit]
    by_cases e : i = j
    · subst e; simp
    · by_cases e' : i = k
      · subst e'; simp [e]
      · simp [e, e'], fun r => rfl⟩
theorem op_sw {j k : Nat} (ne : j ≠ k) : Op2 (act (.sw j k)) j k (fun p q r s => (r, s)) (fun p q r s => (p, q)) (fun p q r s => false) :=
  ⟨fun r i => by
    simp only [act, Nat.testBit_xor, put_bit]
    by_cases e : i = j
    · subst e; simp [ne]
    · by_cases e' : i = k
      · subst e'; simp [e]; cases r.x.testBit i <;> cases r.x.testBit j <;> rfl
      · simp [e, e'],
   fun r i => by
    simp only [act, Nat.testBit_xor, put_bit]
    by_cases e : i = j
    · subst e; simp [ne]
    · by_cases e' : i = k
      · subst e'; simp [e]; cases r.z.testBit i <;> cases r.z.testBit j <;> rfl
      · simp [e, e'], fun r => by simp [act]⟩
theorem ac_act {n : Nat} {d : Dd} (hn : n ≤ 64) (hd : d.ok n) (a b : Row) : ac (act d a) (act d b) = ac a b := by
  cases d with
  | ov k => exact (op_ov k).ac tab_ov (Nat.lt_of_lt_of_le hd hn) a b
  | qu k => exact (op_qu k).ac tab_qu (Nat.lt_of_lt_of_le hd hn) a b
  | ba k => exact (op_ba k).ac tab_ba (Nat.lt_of_lt_of_le hd hn) a b
  | bo k => exact (op_bo k).ac tab_bo (Nat.lt_of_lt_of_le hd hn) a b
  | wh j k => exact (op_wh hd.2.2).ac tab_wh (Nat.lt_of_lt_of_le hd.1 hn) (Nat.lt_of_lt_of_le hd.2.1 hn) hd.2.2 a b
  | sw j k => exact (op_sw hd.2.2).ac tab_sw (Nat.lt_of_lt_of_le hd.1 hn) (Nat.lt_of_lt_of_le hd.2.1 hn) hd.2.2 a b
theorem mul_act {n : Nat} {d : Dd} (hn : n ≤ 64) (hd : d.ok n) {a b : Row} (h : ac a b = false) : act d (mul a b) = mul (act d a) (act d b) := by
  cases d with
  | ov k => exact (op_ov k).mul tab_ov (Nat.lt_of_lt_of_le hd hn) h
  | qu k => exact (op_qu k).mul tab_qu (Nat.lt_of_lt_of_le hd hn) h
  | ba k => exact (op_ba k).mul tab_ba (Nat.lt_of_lt_of_le hd hn) h
  | bo k => exact (op_bo k).mul tab_bo (Nat.lt_of_lt_of_le hd hn) h
  | wh j k => exact (op_wh hd.2.2).mul tab_wh (Nat.lt_of_lt_of_le hd.1 hn) (Nat.lt_of_lt_of_le hd.2.1 hn) hd.2.2 h
  | sw j k => exact (op_sw hd.2.2).mul tab_sw (Nat.lt_of_lt_of_le hd.1 hn) (Nat.lt_of_lt_of_le hd.2.1 hn) hd.2.2 h
/-- the letters go by the letters alone, as sums -/
theorem lin_act {n : Nat} {d : Dd} (hn : n ≤ 64) (hd : d.ok n) {a b c : Row} (hx : c.x = a.x ^^^ b.x) (hz : c.z = a.z ^^^ b.z) : (act d c).x = (act d a).x ^^^ (act d b).x ∧ (act d c).z = (act d a).z ^^^ (act d b).z := by
  have o1 : ∀ {F : Row → Row} {k : Nat} {f : Bool → Bool → Bool × Bool} {g : Bool → Bool → Bool}, Op1 F k f g → Tab1 f g → (F c).x = (F a).x ^^^ (F b).x ∧ (F c).z = (F a).z ^^^ (F b).z := fun {F k f g} O T => by
    constructor <;> (apply Nat.eq_of_testBit_eq; intro i; rw [Nat.testBit_xor]; simp only [O.hx, O.hz]; by_cases e : i = k)
    · simp only [if_pos e, hx, hz, Nat.testBit_xor, T.l]
    · simp only [if_neg e, hx, hz, Nat.testBit_xor]
    · simp only [if_pos e, hx, hz, Nat.testBit_xor, T.l]
    · simp only [if_neg e, hx, hz, Nat.testBit_xor]
  have o2 : ∀ {F : Row → Row} {j k : Nat} {fj fk : Bool → Bool → Bool → Bool → Bool × Bool} {g : Bool → Bool → Bool → Bool → Bool}, Op2 F j k fj fk g → Tab2 fj fk g → (F c).x = (F a).x ^^^ (F b).x ∧ (F c).z = (F a).z ^^^ (F b).z := fun {F j k fj fk g} O T => by
    constructor <;> (apply Nat.eq_of_testBit_eq; intro i; rw [Nat.testBit_xor]; simp only [O.hx, O.hz]; by_cases e : i = j)
    · simp only [if_pos e, hx, hz, Nat.testBit_xor, T.lj]
    · by_cases e' : i = k
      · simp only [if_neg e, if_pos e', hx, hz, Nat.testBit_xor, T.lk]
      · simp only [if_neg e, if_neg e', hx, hz, Nat.testBit_xor]
    · simp only [if_pos e, hx, hz, Nat.testBit_xor, T.lj]
    · by_cases e' : i = k
      · simp only [if_neg e, if_pos e', hx, hz, Nat.testBit_xor, T.lk]
      · simp only [if_neg e, if_neg e', hx, hz, Nat.testBit_xor]
  cases d with
  | ov k => exact o1 (op_ov k) tab_ov
  | qu k => exact o1 (op_qu k) tab_qu
  | ba k => exact o1 (op_ba k) tab_ba
  | bo k => exact o1 (op_bo k) tab_bo
  | wh j k => exact o2 (op_wh hd.2.2) tab_wh
  | sw j k => exact o2 (op_sw hd.2.2) tab_sw
end K92
end
section
set_option autoImplicit false
/-! Counting bits. -/
namespace K92
theorem sumN_head (n : Nat) (f : Nat → Int) : sumN (n + 1) f = f 0 + sumN n fun k => f (k + 1) := by
  induction n with
  | zero => simp [sumN]
  | succ n ih =>
    have e : sumN (n + 1 + 1) f = sumN (n + 1) f + f (n + 1) := rfl
    rw [e, ih]
    show f 0 + sumN n (fun k => f (k + 1)) + f (n + 1) = f 0 + (sumN n (fun k => f (k + 1)) + f (n + 1))
    omega
theorem pop_half {n : Nat} (h : n < 2 ^ 64) : pop n = ((n % 2 : Nat) : Int) + pop (n / 2) := by
  unfold pop
  have a := sumN_head 63 fun k => b2i (n.testBit k)
  have b : sumN 64 (fun k => b2i ((n / 2).testBit k)) = sumN 63 (fun k => b2i ((n / 2).testBit k)) + b2i ((n / 2).testBit 63) := rfl
  have c : (n / 2).testBit 63 = false := Nat.testBit_lt_two_pow (by omega)
  rw [a, b, c]
  have d : sumN 63 (fun k => b2i (n.testBit (k + 1))) = sumN 63 (fun k => b2i ((n / 2).testBit k)) := sumN_congr fun k _ => by rw [Nat.testBit_succ]
  rw [d]
  have e : b2i (n.testBit 0) = ((n % 2 : Nat) : Int) := by
    rw [Nat.testBit_zero]
    rcases Nat.mod_two_eq_zero_or_one n with h | h <;> rw [h] <;> rfl
  show b2i (n.testBit 0) + _ = _
  rw [e]
  simp [b2i]
theorem pop_zero : pop 0 = 0 := by
  unfold pop
  rw [sumN_congr (g := fun _ => 0) fun k _ => by simp [b2i]]
  exact sumN_zero 64
theorem pop_nonneg (n : Nat) : 0 ≤ pop n := by
  have q : ∀ m, 0 ≤ sumN m fun k => b2i (n.testBit k) := fun m => by
    induction m with
    | zero => simp [sumN]
    | succ m ih =>
      simp only [sumN]
      have : 0 ≤ b2i (n.testBit m) := by cases n.testBit m <;> decide
      omega
  exact q 64
theorem pop_kern : ∀ (n : Nat), 0 < n → n < 2 ^ 64 → pop (n &&& (n - 1)) = pop n - 1 ∧ n &&& (n - 1) < n := by
  intro n
  induction n using Nat.strongRecOn with
  | ind n ih =>
    intro h0 h
    have hd : (n &&& (n - 1)) / 2 = n / 2 &&& (n - 1) / 2 := Nat.and_div_two
    have hm := @Nat.and_mod_two_eq_one n (n - 1)
    by_cases odd : n % 2 = 1
    · have e1 : (n - 1) / 2 = n / 2 := by omega
      rw [e1, Nat.and_self] at hd
      have e2 : n &&& (n - 1) = n - 1 := by omega
      rw [e2]
      refine ⟨?_, by omega⟩
      rw [pop_half (n := n - 1) (by omega), pop_half h, e1]
      omega
    · have e1 : (n - 1) / 2 = n / 2 - 1 := by omega
      rw [e1] at hd
      obtain ⟨i1, i2⟩ := ih (n / 2) (by omega) (by omega) (by omega)
      have e2 : (n &&& (n - 1)) % 2 = 0 := by omega
      have lt : n &&& (n - 1) < n := by omega
      refine ⟨?_, lt⟩
      rw [pop_half (n := n &&& (n - 1)) (by omega), pop_half h, hd, i1, e2]
      omega
theorem and_lt64 {a b : Nat} (h : a < 2 ^ 64) : a &&& b < 2 ^ 64 := Nat.lt_of_le_of_lt Nat.and_le_left h
theorem pop_le1 (k : Nat) (b : Bool) : pop (put k b) ≤ 1 := by
  by_cases hk : k < 64
  · have h := sumN_at1 (n := 64) hk (f := fun i => b2i ((put k b).testBit i)) (g := fun i => 0) (fun i hi => by rw [put_bit]; simp [hi, b2i])
    rw [sumN_zero] at h
    unfold pop
    have : b2i ((put k b).testBit k) ≤ 1 := by cases (put k b).testBit k <;> decide
    omega
  · unfold pop
    rw [sumN_congr (g := fun _ => 0) fun i hi => by rw [put_bit]; simp [show i ≠ k by omega, b2i]]
    rw [sumN_zero]; decide
end K92
end
section
set_option autoImplicit false
/-! Rows brought down to the one telling. -/
namespace K92
theorem ac_self (a : Row) : ac a a = false := by
  unfold ac
  rw [Nat.and_comm a.z a.x]
  cases par (a.x &&& a.z) <;> rfl
theorem ac_mul_r (a b d : Row) : ac d (mul a b) = (ac d a ^^ ac d b) := by rw [ac_comm, ac_mul, ac_comm a d, ac_comm b d]
/-- each two go beside one another -/
def Bes (rs : List Row) : Prop := ∀ a ∈ rs, ∀ b ∈ rs, ac a b = false
/-- e has the signs f with the rows -/
def Sat (rs : List Row) (f : Nat → Bool) (e : Row) : Prop := ∀ (i : Nat) (r : Row), rs[i]? = some r → ac r e = f i
/-- apart: any signs are met -/
def Ind (rs : List Row) : Prop := ∀ f : Nat → Bool, ∃ e, Sat rs f e
theorem sat_app {A B : List Row} {f : Nat → Bool} {e : Row} : Sat (A ++ B) f e ↔ Sat A f e ∧ Sat B (fun i => f (A.length + i)) e := by
  constructor
  · intro h
    refine ⟨fun i r hi => h i r ?_, fun i r hi => h (A.length + i) r ?_⟩
    · rw [List.getElem?_append_left (List.getElem?_eq_some_iff.mp hi).1]; exact hi
    · rw [List.getElem?_append_right (Nat.le_add_right _ _), Nat.add_sub_cancel_left]; exact hi
  · rintro ⟨h1, h2⟩ i r hi
    by_cases hl : i < A.length
    · rw [List.getElem?_append_left hl] at hi; exact h1 i r hi
    · rw [List.getElem?_append_right (by omega)] at hi
      have := h2 (i - A.length) r hi
      rw [this]
      show f (A.length + (i - A.length)) = f i
      rw [Nat.add_sub_cancel' (by omega)]
theorem ind_app {A B : List Row} : Ind (A ++ B) ↔ ∀ f g : Nat → Bool, ∃ e, Sat A f e ∧ Sat B g e := by
  constructor
  · intro h f g
    obtain ⟨e, he⟩ := h fun i => if i < A.length then f i else g (i - A.length)
    obtain ⟨h1, h2⟩ := sat_app.mp he
    refine ⟨e, fun i r hi => ?_, fun i r hi => ?_⟩
    · have hl := (List.getElem?_eq_some_iff.mp hi).1
      rw [h1 i r hi]
      show (if i < A.length then f i else g (i - A.length)) = f i
      rw [if_pos hl]
    · rw [h2 i r hi]
      dsimp only
      rw [if_neg (by omega), Nat.add_sub_cancel_left]
  · intro h f
    obtain ⟨e, h1, h2⟩ := h f fun i => f (A.length + i)
    exact ⟨e, sat_app.mpr ⟨h1, h2⟩⟩
/-- a sign of a row by the place of its column: x ones ahead, z ones from 64 on -/
def cbit (r : Row) (k : Nat) : Bool := if k < 64 then r.x.testBit k else r.z.testBit (k - 64)
theorem cbit_mul (a b : Row) (k : Nat) : cbit (mul a b) k = (cbit a k ^^ cbit b k) := by
  unfold cbit mul
  split <;> exact Nat.testBit_xor ..
def adj (k : Nat) (lead r : Row) : Row := if cbit r k = true then mul r lead else r
theorem ac_adj (k : Nat) (l r e : Row) : ac (adj k l r) e = (ac r e ^^ (cbit r k && ac l e)) := by
  unfold adj
  cases h : cbit r k
  · simp
  · simp [ac_mul]
theorem ac_adj2 (k : Nat) (l r e : Row) : ac e (adj k l r) = (ac e r ^^ (cbit r k && ac e l)) := by rw [ac_comm, ac_adj, ac_comm r e, ac_comm l e]
theorem wf_adj {n k : Nat} {l r : Row} (hl : l.wf n) (hr : r.wf n) : (adj k l r).wf n := by
  unfold adj
  split
  · exact wf_mul hr hl
  · exact hr
theorem sat_adj {A : List Row} {f : Nat → Bool} {e l : Row} {k : Nat} {b : Bool} (hl : ac l e = b) (h : Sat A (fun i => f i ^^ (((A[i]?).map fun r => cbit r k).getD false && b)) e) : Sat (A.map (adj k l)) f e := fun i r hi => by
  rw [List.getElem?_map] at hi
  cases ha : A[i]? with
  | none => rw [ha] at hi; cases hi
  | some a =>
    rw [ha] at hi
    have er : adj k l a = r := Option.some.inj hi
    have := h i a ha
    dsimp only at this
    rw [ha] at this
    simp only [Option.map_some, Option.getD_some] at this
    rw [← er, ac_adj, this, hl]
    cases f i <;> cases cbit a k <;> cases b <;> rfl
/-- closed under products of rows that go beside one another -/
def Clo (n : Nat) (Pr : Row → Prop) : Prop := ∀ a b, a.wf n → b.wf n → Pr a → Pr b → ac a b = false → Pr (mul a b)
def Gen (n : Nat) (A B : List Row) : Prop := ∀ Pr, Clo n Pr → (∀ a ∈ A, Pr a) → ∀ b ∈ B, Pr b
def bstep (k : Nat) (s : List Row × List Row) : List Row × List Row := match s.2.filter fun r => cbit r k with
  | [] => s
  | lead :: _ => (s.1.map (adj k lead) ++ [lead], (s.2.erase lead).map (adj k lead))
theorem head_split : ∀ {rest : List Row} {p : Row → Bool} {lead : Row} {tl : List Row}, rest.filter p = lead :: tl → ∃ pre post, rest = pre ++ lead :: post ∧ (∀ r ∈ pre, p r = false) ∧ p lead = true ∧ rest.erase lead = pre ++ post
  | [], p, lead, tl, h => by cases h
  | r :: rest, p, lead, tl, h => by
    rw [List.filter_cons] at h
    by_cases hp : p r = true
    · rw [if_pos hp] at h
      have e : r = lead := (List.cons.inj h).1
      subst e
      exact ⟨[], rest, rfl, fun _ z => (by cases z), hp, by simp⟩
    · rw [if_neg hp] at h
      obtain ⟨pre, post, h1, h2, h3, h4⟩ := head_split h
      have hf : p r = false := by simpa using hp
      have ne : (r == lead) = false := beq_eq_false_iff_ne.mpr fun q => by rw [q, h3] at hf; cases hf
      refine ⟨r :: pre, post, by rw [h1]; rfl, fun x hx => ?_, h3, ?_⟩
      · rcases List.mem_cons.mp hx with q | q
        · rw [q]; exact hf
        · exact h2 x q
      · rw [List.erase_cons, ne]
        simp [h4]
structure BI (n : Nat) (rs : List Row) (done : Nat → Prop) (s : List Row × List Row) : Prop where
  wf : ∀ r ∈ s.1 ++ s.2, r.wf n
  bes : Bes (s.1 ++ s.2)
  ind : Ind (s.1 ++ s.2)
  gen : Gen n (s.1 ++ s.2) rs
  len : s.1.length + s.2.length = rs.length
  low : ∀ r ∈ s.2, ∀ k, done k → cbit r k = false
theorem bi_start {n : Nat} {rs : List Row} (h1 : ∀ r ∈ rs, r.wf n) (h2 : Bes rs) (h3 : Ind rs) : BI n rs (fun _ => False) ([], rs) :=
  ⟨h1, h2, h3, fun _ _ h => h, by simp, fun _ _ _ z => z.elim⟩
theorem bi_step {n : Nat} {rs : List Row} {done : Nat → Prop} {s : List Row × List Row} (B : BI n rs done s) (k : Nat) : BI n rs (fun j => done j ∨ j = k) (bstep k s) := by
  obtain ⟨F, R⟩ := s
  unfold bstep
  cases hf : R.filter fun r => cbit r k with
  | nil =>
    refine ⟨B.wf, B.bes, B.ind, B.gen, B.len, fun r hr j hj => ?_⟩
    rcases hj with hj | hj
    · exact B.low r hr j hj
    · subst hj
      cases hc : cbit r j with
      | false => rfl
      | true =>
        have : r ∈ R.filter fun r => cbit r j := List.mem_filter.mpr ⟨hr, hc⟩
        rw [hf] at this; cases this
  | cons lead tl =>
    obtain ⟨pre, post, e1, e2, e3, e4⟩ := head_split hf
    subst e1
    show BI n rs _ (F.map (adj k lead) ++ [lead], ((pre ++ lead :: post).erase lead).map (adj k lead))
    rw [e4]
    have mL : lead ∈ F ++ (pre ++ lead :: post) := by simp
    have wL := B.wf lead mL
    -- members of the old
    have old : ∀ r, r ∈ F ∨ r ∈ pre ++ post → r ∈ F ++ (pre ++ lead :: post) := fun r h => by
      rcases h with h | h
      · exact List.mem_append_left _ h
      · rcases List.mem_append.mp h with h | h <;> simp [h]
    have new : ∀ r, r ∈ (F.map (adj k lead) ++ [lead]) ++ (pre ++ post).map (adj k lead) → r = lead ∨ ∃ q, (q ∈ F ∨ q ∈ pre ++ post) ∧ r = adj k lead q := fun r h => by
      rcases List.mem_append.mp h with h | h
      · rcases List.mem_append.mp h with h | h
        · obtain ⟨q, h1, h2⟩ := List.mem_map.mp h
          exact .inr ⟨q, .inl h1, h2.symm⟩
        · exact .inl (List.mem_singleton.mp h)
      · obtain ⟨q, h1, h2⟩ := List.mem_map.mp h
        exact .inr ⟨q, .inr h1, h2.symm⟩
    have aL : ∀ r, r ∈ F ∨ r ∈ pre ++ post → ac r lead = false := fun r h => B.bes r (old r h) lead mL
    refine ⟨fun r h => ?_, fun a ha b hb => ?_, ?_, fun Pr cl hp => ?_, ?_, fun r hr j hj => ?_⟩
    · rcases new r h with h | ⟨q, h1, h2⟩
      · rw [h]; exact wL
      · rw [h2]; exact wf_adj wL (B.wf q (old q h1))
    · rcases new a ha with h | ⟨q, h1, h2⟩ <;> rcases new b hb with h' | ⟨q', h1', h2'⟩
      · rw [h, h']; exact ac_self lead
      · rw [h, h2', ac_comm, ac_adj, aL q' h1', ac_self, Bool.and_false]; rfl
      · rw [h', h2, ac_adj, aL q h1, ac_self, Bool.and_false]; rfl
      · rw [h2, h2', ac_adj, ac_adj2, ac_adj2, ac_self, B.bes q (old q h1) q' (old q' h1'), aL q h1, ac_comm lead q', aL q' h1']
        simp
    · rw [List.map_append, ind_app]
      intro f g
      -- targets of the old list
      have i0 := B.ind
      rw [ind_app] at i0
      let b := f (F.map (adj k lead)).length
      have i1 : ∀ f g h : Nat → Bool, ∃ e, Sat F f e ∧ Sat pre g e ∧ ac lead e = b ∧ Sat post h e := fun f g h => by
        obtain ⟨e, s1, s2⟩ := i0 f fun i => if i < pre.length then g i else if i = pre.length then b else h (i - pre.length - 1)
        obtain ⟨s3, s4⟩ := sat_app.mp s2
        refine ⟨e, s1, fun i r hi => ?_, ?_, fun i r hi => ?_⟩
        · have hl := (List.getElem?_eq_some_iff.mp hi).1
          rw [s3 i r hi]
          show (if i < pre.length then g i else _) = g i
          rw [if_pos hl]
        · have := s4 0 lead rfl
          rw [this]; simp
        · have := s4 (i + 1) r hi
          rw [this]
          dsimp only
          rw [if_neg (by omega), if_neg (by omega), show pre.length + (i + 1) - pre.length - 1 = i by omega]
      obtain ⟨e, s1, s2, s3, s4⟩ := i1 (fun i => f i ^^ (((F[i]?).map fun r => cbit r k).getD false && b)) (fun i => g i ^^ (((pre[i]?).map fun r => cbit r k).getD false && b)) (fun i => g ((pre.map (adj k lead)).length + i) ^^ (((post[i]?).map fun r => cbit r k).getD false && b))
      refine ⟨e, sat_app.mpr ⟨sat_adj s3 s1, fun i r hi => ?_⟩, sat_app.mpr ⟨sat_adj s3 s2, sat_adj (f := fun i => g ((pre.map (adj k lead)).length + i)) s3 s4⟩⟩
      cases i with
      | zero =>
        have er : lead = r := Option.some.inj hi
        rw [← er, s3]; simp [b]
      | succ i => cases hi
    · refine B.gen Pr cl fun r hr => ?_
      have pL : Pr lead := hp lead (by simp)
      have back : ∀ q, q ∈ F ∨ q ∈ pre ++ post → Pr (adj k lead q) → Pr q := fun q hq h => by
        unfold adj at h
        split at h
        · have := cl _ _ (wf_mul (B.wf q (old q hq)) wL) wL h pL (by rw [ac_mul, aL q hq, ac_self]; rfl)
          rw [mul_cancel (aL q hq)] at this
          exact this
        · exact h
      rcases List.mem_append.mp hr with h | h
      · exact back r (.inl h) (hp _ (by simp only [List.mem_append, List.mem_map]; exact .inl (.inl ⟨r, h, rfl⟩)))
      · rcases List.mem_append.mp h with h | h
        · exact back r (.inr (List.mem_append_left _ h)) (hp _ (by rw [List.mem_append]; exact .inr (List.mem_map.mpr ⟨r, List.mem_append_left _ h, rfl⟩)))
        · rcases List.mem_cons.mp h with h | h
          · rw [h]; exact pL
          · exact back r (.inr (List.mem_append_right _ h)) (hp _ (by rw [List.mem_append]; exact .inr (List.mem_map.mpr ⟨r, List.mem_append_right _ h, rfl⟩)))
    · have := B.len
      simp only [List.length_append, List.length_cons, List.length_map, List.length_nil] at this ⊢
      omega
    · obtain ⟨q, h1, h2⟩ := List.mem_map.mp hr
      subst h2
      have lq : ∀ j, done j → cbit q j = false := fun j hj => B.low q (by rcases List.mem_append.mp h1 with h | h <;> simp [h]) j hj
      have ll : ∀ j, done j → cbit lead j = false := fun j hj => B.low lead (by simp) j hj
      unfold adj
      rcases hj with hj | hj
      · split
        · rw [cbit_mul, lq j hj, ll j hj]; rfl
        · exact lq j hj
      · subst hj
        split
        · rename_i hc
          rw [cbit_mul, hc, e3]; rfl
        · rename_i hc
          simpa using hc
/-- the columns in turn -/
def colsOf (n : Nat) : List Nat := List.range n ++ (List.range n).map (64 + ·)
def bfold (ks : List Nat) (s : List Row × List Row) : List Row × List Row := ks.foldl (fun s k => bstep k s) s
theorem bi_fold {n : Nat} {rs : List Row} : ∀ {ks : List Nat} {done : Nat → Prop} {s : List Row × List Row}, BI n rs done s → BI n rs (fun j => done j ∨ j ∈ ks) (bfold ks s)
  | [], done, s, B => ⟨B.wf, B.bes, B.ind, B.gen, B.len, fun r hr j hj => hj.elim (B.low r hr j) fun z => by cases z⟩
  | k :: ks, done, s, B => by
    have q := bi_fold (ks := ks) (bi_step B k)
    exact ⟨q.wf, q.bes, q.ind, q.gen, q.len, fun r hr j hj => q.low r hr j (by
      rcases hj with hj | hj
      · exact .inl (.inl hj)
      · rcases List.mem_cons.mp hj with hj | hj
        · exact .inl (.inr hj)
        · exact .inr hj)⟩
/-- good rows of a whole -/
structure Good (n : Nat) (rs : List Row) : Prop where
  wf : ∀ r ∈ rs, r.wf n
  bes : Bes rs
  ind : Ind rs
  len : rs.length = n
def tell (n : Nat) (rs : List Row) : List Row := (bfold (colsOf n) ([], rs)).1
theorem zero_of {n : Nat} {r : Row} (hn : n ≤ 64) (hw : r.wf n) (h : ∀ k ∈ colsOf n, cbit r k = false) : r.x = 0 ∧ r.z = 0 := by
  constructor <;> (apply Nat.eq_of_testBit_eq; intro i; rw [Nat.zero_testBit])
  · by_cases hi : i < n
    · have := h i (List.mem_append_left _ (List.mem_range.mpr hi))
      unfold cbit at this
      rw [if_pos (by omega)] at this
      exact this
    · exact Nat.testBit_lt_two_pow (Nat.lt_of_lt_of_le hw.x (Nat.pow_le_pow_right (by decide) (by omega)))
  · by_cases hi : i < n
    · have := h (64 + i) (List.mem_append_right _ (List.mem_map.mpr ⟨i, List.mem_range.mpr hi, rfl⟩))
      unfold cbit at this
      rw [if_neg (by omega), Nat.add_sub_cancel_left] at this
      exact this
    · exact Nat.testBit_lt_two_pow (Nat.lt_of_lt_of_le hw.z (Nat.pow_le_pow_right (by decide) (by omega)))
theorem ac_zero {r e : Row} (h : r.x = 0 ∧ r.z = 0) : ac r e = false := by
  unfold ac
  rw [h.1, h.2, Nat.zero_and, Nat.zero_and, par_zero]
  rfl
theorem tell_ok {n : Nat} {rs : List Row} (hn : n ≤ 64) (G : Good n rs) : (bfold (colsOf n) ([], rs)).2 = [] ∧ Good n (tell n rs) ∧ Gen n (tell n rs) rs := by
  have q := bi_fold (ks := colsOf n) (bi_start G.wf G.bes G.ind)
  have e : (bfold (colsOf n) ([], rs)).2 = [] := by
    cases h : (bfold (colsOf n) ([], rs)).2 with
    | nil => rfl
    | cons r l =>
      have hr : r ∈ (bfold (colsOf n) ([], rs)).2 := by rw [h]; simp
      have z := zero_of hn (q.wf r (List.mem_append_right _ hr)) fun k hk => q.low r hr k (.inr hk)
      obtain ⟨e, he⟩ := (ind_app.mp q.ind) (fun _ => true) (fun _ => true)
      have := he.2 0 r (by rw [h]; rfl)
      rw [ac_zero z] at this; cases this
  have q1 := q.wf
  have q2 := q.bes
  have q3 := q.ind
  have q4 := q.gen
  have q5 := q.len
  rw [e, List.append_nil] at q1 q2 q3 q4
  rw [e] at q5
  exact ⟨e, ⟨q1, q2, q3, by have z := G.len; rw [← q5] at z; exact z⟩, q4⟩
end K92
end
section
set_option autoImplicit false
/-! Works made from rows. -/
namespace K92
/-! ### works -/
def actW (ws : List Dd) (r : Row) : Row := ws.foldl (fun r d => act d r) r
theorem actW_take {ws : List Dd} {i : Nat} {e : Dd} (h : ws[i]? = some e) (r : Row) : actW (ws.take (i + 1)) r = act e (actW (ws.take i) r) := by
  unfold actW
  rw [List.take_add_one, h, List.foldl_append]
  rfl
theorem actW_app (A B : List Dd) (r : Row) : actW (A ++ B) r = actW B (actW A r) := List.foldl_append ..
theorem ok_le {e : Dd} {m n : Nat} (h : e.ok m) (hn : m ≤ n) : e.ok n := by
  cases e <;> simp only [Dd.ok] at h ⊢ <;> omega
theorem wf_actW {n : Nat} {ws : List Dd} {r : Row} (ho : ∀ e ∈ ws, e.ok n) (h : r.wf n) : (actW ws r).wf n := by
  induction ws generalizing r with
  | nil => exact h
  | cons e ws ih => exact ih (r := act e r) (fun x hx => ho x (List.mem_cons_of_mem _ hx)) (wf_act (ho e (List.mem_cons_self ..)) h)
theorem ac_actW {n : Nat} (hn : n ≤ 64) {ws : List Dd} {a b : Row} (ho : ∀ e ∈ ws, e.ok n) : ac (actW ws a) (actW ws b) = ac a b := by
  induction ws generalizing a b with
  | nil => rfl
  | cons e ws ih =>
    have q := ih (a := act e a) (b := act e b) fun x hx => ho x (List.mem_cons_of_mem _ hx)
    rw [ac_act hn (ho e (List.mem_cons_self ..))] at q
    exact q
theorem mul_actW {n : Nat} (hn : n ≤ 64) {ws : List Dd} {a b : Row} (ho : ∀ e ∈ ws, e.ok n) (h : ac a b = false) : actW ws (mul a b) = mul (actW ws a) (actW ws b) := by
  induction ws generalizing a b with
  | nil => rfl
  | cons e ws ih =>
    have he := ho e (List.mem_cons_self ..)
    have q := ih (a := act e a) (b := act e b) (fun x hx => ho x (List.mem_cons_of_mem _ hx)) (by rw [ac_act hn he]; exact h)
    rw [← mul_act hn he h] at q
    exact q
/-! undoing -/
theorem inv1 {F G : Row → Row} {k : Nat} {f f' : Bool → Bool → Bool × Bool} {g g' : Bool → Bool → Bool} (O : Op1 F k f g) (O' : Op1 G k f' g') (h : ∀ p q : Bool, f' (f p q).1 (f p q).2 = (p, q) ∧ (g p q ^^ g' (f p q).1 (f p q).2) = false) (r : Row) : G (F r) = r := by
  have ex : ∀ i, (G (F r)).x.testBit i = r.x.testBit i := fun i => by
    rw [O'.hx]
    by_cases e : i = k
    · subst e; rw [if_pos rfl, O.hx, O.hz, if_pos rfl, if_pos rfl, (h _ _).1]
    · rw [if_neg e, O.hx, if_neg e]
  have ez : ∀ i, (G (F r)).z.testBit i = r.z.testBit i := fun i => by
    rw [O'.hz]
    by_cases e : i = k
    · subst e; rw [if_pos rfl, O.hx, O.hz, if_pos rfl, if_pos rfl, (h _ _).1]
    · rw [if_neg e, O.hz, if_neg e]
  refine Row.ext ?_ (Nat.eq_of_testBit_eq ex) (Nat.eq_of_testBit_eq ez)
  rw [O'.hm, O.hm, O.hx, O.hz, if_pos rfl, if_pos rfl, Bool.xor_assoc, (h _ _).2, Bool.xor_false]
theorem inv2 {F G : Row → Row} {j k : Nat} {fj fk fj' fk' : Bool → Bool → Bool → Bool → Bool × Bool} {g g' : Bool → Bool → Bool → Bool → Bool} (ne : j ≠ k) (O : Op2 F j k fj fk g) (O' : Op2 G j k fj' fk' g')
    (h : ∀ p q r s : Bool, fj' (fj p q r s).1 (fj p q r s).2 (fk p q r s).1 (fk p q r s).2 = (p, q) ∧ fk' (fj p q r s).1 (fj p q r s).2 (fk p q r s).1 (fk p q r s).2 = (r, s) ∧ (g p q r s ^^ g' (fj p q r s).1 (fj p q r s).2 (fk p q r s).1 (fk p q r s).2) = false) (r : Row) : G (F r) = r := by
  have ex : ∀ i, (G (F r)).x.testBit i = r.x.testBit i := fun i => by
    rw [O'.hx]
    by_cases e : i = j
    · subst e; rw [if_pos rfl, O.hx, O.hz, O.hx, O.hz, if_pos rfl, if_pos rfl, if_neg ne.symm, if_pos rfl, if_neg ne.symm, if_pos rfl, (h _ _ _ _).1]
    · by_cases e' : i = k
      · subst e'; rw [if_neg e, if_pos rfl, O.hx, O.hz, O.hx, O.hz, if_pos rfl, if_pos rfl, if_neg e, if_pos rfl, if_neg e, if_pos rfl, (h _ _ _ _).2.1]
      · rw [if_neg e, if_neg e', O.hx, if_neg e, if_neg e']
  have ez : ∀ i, (G (F r)).z.testBit i = r.z.testBit i := fun i => by
    rw [O'.hz]
    by_cases e : i = j
    · subst e; rw [if_pos rfl, O.hx, O.hz, O.hx, O.hz, if_pos rfl, if_pos rfl, if_neg ne.symm, if_pos rfl, if_neg ne.symm, if_pos rfl, (h _ _ _ _).1]
    · by_cases e' : i = k
      · subst e'; rw [if_neg e, if_pos rfl, O.hx, O.hz, O.hx, O.hz, if_pos rfl, if_pos rfl, if_neg e, if_pos rfl, if_neg e, if_pos rfl, (h _ _ _ _).2.1]
      · rw [if_neg e, if_neg e', O.hz, if_neg e, if_neg e']
  refine Row.ext ?_ (Nat.eq_of_testBit_eq ex) (Nat.eq_of_testBit_eq ez)
  rw [O'.hm, O.hm, O.hx, O.hz, O.hx, O.hz, if_pos rfl, if_pos rfl, if_neg ne.symm, if_pos rfl, if_neg ne.symm, if_pos rfl, Bool.xor_assoc, (h _ _ _ _).2.2, Bool.xor_false]
theorem act_undo {n : Nat} {d : Dd} (hd : d.ok n) (r : Row) : act (undo d) (act d r) = r := by
  cases d with
  | ov k => exact inv1 (op_ov k) (op_ov k) (by decide) r
  | qu k => exact inv1 (op_qu k) (op_ba k) (by decide) r
  | ba k => exact inv1 (op_ba k) (op_qu k) (by decide) r
  | bo k => exact inv1 (op_bo k) (op_bo k) (by decide) r
  | wh j k => exact inv2 hd.2.2 (op_wh hd.2.2) (op_wh hd.2.2) (by decide) r
  | sw j k => exact inv2 hd.2.2 (op_sw hd.2.2) (op_sw hd.2.2) (by decide) r
theorem undo_ok {n : Nat} {d : Dd} (hd : d.ok n) : (undo d).ok n := by cases d <;> exact hd
theorem undo_undo (d : Dd) : undo (undo d) = d := by cases d <;> rfl
def inv (ws : List Dd) : List Dd := ws.reverse.map undo
theorem inv_ok {n : Nat} {ws : List Dd} (h : ∀ e ∈ ws, e.ok n) : ∀ e ∈ inv ws, e.ok n := fun e he => by
  obtain ⟨d, h1, h2⟩ := List.mem_map.mp he
  rw [← h2]
  exact undo_ok (h d (List.mem_reverse.mp h1))
theorem inv_inv (ws : List Dd) : inv (inv ws) = ws := by
  unfold inv
  rw [← List.map_reverse, List.reverse_reverse, List.map_map]
  conv => rhs; rw [← List.map_id ws]
  exact List.map_congr_left fun d _ => undo_undo d
theorem actW_inv {n : Nat} : ∀ {ws : List Dd} (_ : ∀ e ∈ ws, e.ok n) (r : Row), actW (inv ws) (actW ws r) = r
  | [], _, r => rfl
  | e :: ws, ho, r => by
    have q := actW_inv (ws := ws) (fun x hx => ho x (List.mem_cons_of_mem _ hx)) (act e r)
    have he : inv (e :: ws) = inv ws ++ [undo e] := by unfold inv; rw [List.reverse_cons, List.map_append]; rfl
    rw [he, actW_app]
    show act (undo e) (actW (inv ws) (actW ws (act e r))) = r
    rw [q, act_undo (ho e (List.mem_cons_self ..))]
theorem actW_inv' {n : Nat} {ws : List Dd} (ho : ∀ e ∈ ws, e.ok n) (r : Row) : actW ws (actW (inv ws) r) = r := by
  have q := actW_inv (inv_ok ho) r
  rw [inv_inv] at q
  exact q
/-! ### z rows -/
def zrow (k : Nat) : Row := ⟨false, 0, 2 ^ k⟩
theorem zrow_wf {k n : Nat} (h : k < n) : (zrow k).wf n := ⟨Nat.two_pow_pos n, Nat.pow_lt_pow_right (by decide) h⟩
theorem par_two {k a : Nat} (hk : k < 64) : par (2 ^ k &&& a) = a.testBit k := by
  unfold par
  have h := xorN_at1 (n := 64) hk (f := fun i => (2 ^ k &&& a).testBit i) (g := fun _ => false) (fun i hi => by
    rw [Nat.testBit_and, Nat.testBit_two_pow]; simp [Ne.symm hi])
  rw [xorN_false] at h
  rw [Nat.testBit_and, Nat.testBit_two_pow] at h
  simpa using h
theorem ac_z {k : Nat} (hk : k < 64) (r : Row) : ac (zrow k) r = r.x.testBit k := by
  unfold ac zrow
  rw [Nat.zero_and, par_zero, par_two hk]
  simp
theorem ac_zz (j k : Nat) : ac (zrow j) (zrow k) = false := by
  unfold ac zrow
  rw [Nat.zero_and, Nat.and_zero, par_zero]
  rfl
/-! ### without the z rows ahead -/
def wdstep (r : Row) (j : Nat) : Row := if r.z.testBit j = true then mul r (zrow j) else r
def wd (k : Nat) (r : Row) : Row := (List.range k).foldl wdstep r
theorem wd_succ (k : Nat) (r : Row) : wd (k + 1) r = wdstep (wd k r) k := by
  unfold wd
  rw [List.range_succ, List.foldl_append]
  rfl
theorem mul_zx (r : Row) (j : Nat) : (mul r (zrow j)).x = r.x := by show r.x ^^^ 0 = r.x; exact Nat.xor_zero _
theorem wdstep_x (r : Row) (j : Nat) : (wdstep r j).x = r.x := by
  unfold wdstep; split
  · exact mul_zx r j
  · rfl
theorem wd_x (k : Nat) (r : Row) : (wd k r).x = r.x := by
  induction k with
  | zero => rfl
  | succ k ih => rw [wd_succ, wdstep_x, ih]
theorem wdstep_z (r : Row) (j i : Nat) : (wdstep r j).z.testBit i = if i = j then false else r.z.testBit i := by
  unfold wdstep
  by_cases h : r.z.testBit j = true
  · rw [if_pos h]
    show (r.z ^^^ 2 ^ j).testBit i = _
    rw [Nat.testBit_xor, Nat.testBit_two_pow]
    by_cases e : i = j
    · subst e; simp [h]
    · simp [e, Ne.symm e]
  · rw [if_neg h]
    by_cases e : i = j
    · subst e; simpa using h
    · rw [if_neg e]
theorem wd_z (k : Nat) (r : Row) (i : Nat) : (wd k r).z.testBit i = if i < k then false else r.z.testBit i := by
  induction k with
  | zero => simp [wd]
  | succ k ih =>
    rw [wd_succ, wdstep_z, ih]
    by_cases e : i = k
    · subst e; simp
    · by_cases e2 : i < k
      · rw [if_neg e, if_pos e2, if_pos (by omega)]
      · rw [if_neg e, if_neg e2, if_neg (by omega)]
theorem wd_wf {n k : Nat} {r : Row} (hk : k ≤ n) (h : r.wf n) : (wd k r).wf n := by
  induction k with
  | zero => exact h
  | succ k ih =>
    rw [wd_succ]
    unfold wdstep
    split
    · exact wf_mul (ih (by omega)) (zrow_wf (by omega))
    · exact ih (by omega)
theorem wd_ac {k : Nat} {r e : Row} (h : ∀ j, j < k → ac (zrow j) e = false) : ac (wd k r) e = ac r e := by
  induction k with
  | zero => rfl
  | succ k ih =>
    rw [wd_succ]
    unfold wdstep
    split
    · rw [ac_mul, h k (by omega), Bool.xor_false]; exact ih fun j hj => h j (by omega)
    · exact ih fun j hj => h j (by omega)
theorem wd_back {n k : Nat} {r : Row} {Pr : Row → Prop} (hn : n ≤ 64) (hk : k ≤ n) (cl : Clo n Pr) (hz : ∀ j, j < k → Pr (zrow j)) (hw : r.wf n) (hx : ∀ j, j < k → r.x.testBit j = false) (h : Pr (wd k r)) : Pr r := by
  induction k with
  | zero => exact h
  | succ k ih =>
    refine ih (by omega) (fun j hj => hz j (by omega)) (fun j hj => hx j (by omega)) ?_
    rw [wd_succ] at h
    unfold wdstep at h
    split at h
    · have c : ac (wd k r) (zrow k) = false := by rw [ac_comm, ac_z (by omega), wd_x, hx k (by omega)]
      have := cl _ _ (wf_mul (wd_wf (by omega) hw) (zrow_wf (by omega))) (zrow_wf (by omega)) h (hz k (by omega)) (by rw [ac_mul, c, ac_zz]; rfl)
      rw [mul_cancel c] at this
      exact this
    · exact h
/-! ### z at one wire of a row -/
def wiresFrom (k n : Nat) : List Nat := (List.range (n - k)).map (k + ·)
theorem mem_wires {k n i : Nat} : i ∈ wiresFrom k n ↔ k ≤ i ∧ i < n := by
  unfold wiresFrom
  constructor
  · intro h
    obtain ⟨j, h1, h2⟩ := List.mem_map.mp h
    have := List.mem_range.mp h1
    omega
  · intro h
    exact List.mem_map.mpr ⟨i - k, List.mem_range.mpr (by omega), by omega⟩
def deedA (r : Row) (w : Nat) : List Dd := if r.z.testBit w = true then (if r.x.testBit w = true then [.qu w] else [.bo w]) else []
def hasL (r : Row) (w : Nat) : Bool := r.x.testBit w || r.z.testBit w
def partA (ws : List Nat) (r : Row) : List Dd := ws.flatMap (deedA r)
def someOf (k n : Nat) (r : Row) : List Nat := (wiresFrom k n).filter (hasL r)
def base (k n : Nat) (r : Row) : List Dd := partA (wiresFrom k n) r ++ ((if (someOf k n r).headD 0 ≠ k then [.sw k ((someOf k n r).headD 0)] else []) ++ ((someOf k n r).tail.map (Dd.wh k) ++ [.bo k]))
def toz (k n : Nat) (r : Row) : List Dd := base k n r ++ if (actW (base k n r) r).m = true then [.ov k] else []
/-- a step on one wire leaves the others -/
theorem deedA_bits (r0 r : Row) (w : Nat) (hx : r.x.testBit w = r0.x.testBit w) (hz : r.z.testBit w = r0.z.testBit w) (i : Nat) : (actW (deedA r0 w) r).x.testBit i = (if i = w then hasL r0 w else r.x.testBit i) ∧ (actW (deedA r0 w) r).z.testBit i = (if i = w then false else r.z.testBit i) := by
  unfold deedA hasL
  by_cases h1 : r0.z.testBit w = true
  · rw [if_pos h1]
    by_cases h2 : r0.x.testBit w = true
    · rw [if_pos h2]
      show (act (.qu w) r).x.testBit i = _ ∧ (act (.qu w) r).z.testBit i = _
      rw [(op_qu w).hx, (op_qu w).hz, hx, hz, h1, h2]
      exact ⟨rfl, rfl⟩
    · rw [if_neg h2]
      show (act (.bo w) r).x.testBit i = _ ∧ (act (.bo w) r).z.testBit i = _
      have h2' : r0.x.testBit w = false := by simpa using h2
      rw [(op_bo w).hx, (op_bo w).hz, hx, hz, h1, h2']
      exact ⟨rfl, rfl⟩
  · rw [if_neg h1]
    have h1' : r0.z.testBit w = false := by simpa using h1
    show r.x.testBit i = _ ∧ r.z.testBit i = _
    rw [h1', Bool.or_false]
    by_cases e : i = w
    · subst e; rw [if_pos rfl, if_pos rfl, hx, hz, h1']; exact ⟨rfl, rfl⟩
    · rw [if_neg e, if_neg e]; exact ⟨rfl, rfl⟩
theorem partA_bits (r0 : Row) : ∀ (ws : List Nat) (r : Row), ws.Nodup → (∀ w ∈ ws, r.x.testBit w = r0.x.testBit w ∧ r.z.testBit w = r0.z.testBit w) → ∀ i, (actW (partA ws r0) r).x.testBit i = (if i ∈ ws then hasL r0 i else r.x.testBit i) ∧ (actW (partA ws r0) r).z.testBit i = (if i ∈ ws then false else r.z.testBit i)
  | [], r, _, _, i => by simp [partA, actW]
  | w :: ws, r, nd, h, i => by
    obtain ⟨hx, hz⟩ := h w (List.mem_cons_self ..)
    have nd' := List.nodup_cons.mp nd
    have e : partA (w :: ws) r0 = deedA r0 w ++ partA ws r0 := rfl
    rw [e, actW_app]
    have d := deedA_bits r0 r w hx hz
    obtain ⟨q1, q2⟩ := partA_bits r0 ws (actW (deedA r0 w) r) nd'.2 (fun u hu => by
      have ne : u ≠ w := fun z => nd'.1 (z ▸ hu)
      rw [(d u).1, (d u).2, if_neg ne, if_neg ne]
      exact h u (List.mem_cons_of_mem _ hu)) i
    rw [q1, q2, (d i).1, (d i).2]
    by_cases e1 : i ∈ ws
    · have : i ∈ w :: ws := List.mem_cons_of_mem _ e1
      rw [if_pos e1, if_pos e1, if_pos this, if_pos this]
      exact ⟨rfl, rfl⟩
    · rw [if_neg e1, if_neg e1]
      by_cases e2 : i = w
      · subst e2
        rw [if_pos rfl, if_pos rfl, if_pos (List.mem_cons_self ..), if_pos (List.mem_cons_self ..)]
        exact ⟨rfl, rfl⟩
      · have : i ∉ w :: ws := fun z => (List.mem_cons.mp z).elim e2 e1
        rw [if_neg e2, if_neg e2, if_neg this, if_neg this]
        exact ⟨rfl, rfl⟩
theorem wires_nodup (k n : Nat) : (wiresFrom k n).Nodup := by
  unfold wiresFrom
  refine List.Pairwise.map _ (fun a b h => ?_) List.nodup_range
  omega
/-- x at some wires, where of them falls out at the others -/
theorem partC_bits (k : Nat) : ∀ (ws : List Nat) (r : Row), (∀ w ∈ ws, w ≠ k) → ws.Nodup → r.x.testBit k = true → (∀ i, r.z.testBit i = false) → (∀ w ∈ ws, r.x.testBit w = true) → ∀ i, (actW (ws.map (Dd.wh k)) r).x.testBit i = (if i ∈ ws then false else r.x.testBit i) ∧ (actW (ws.map (Dd.wh k)) r).z.testBit i = false
  | [], r, _, _, _, hz, _, i => by simp [actW, hz i]
  | w :: ws, r, ne, nd, hk, hz, h, i => by
    have nd' := List.nodup_cons.mp nd
    have nw := ne w (List.mem_cons_self ..)
    have O := op_wh (j := k) (k := w) (Ne.symm nw)
    have bx : ∀ i, (act (.wh k w) r).x.testBit i = if i = w then false else r.x.testBit i := fun i => by
      rw [O.hx]
      by_cases e : i = k
      · subst e; rw [if_pos rfl, if_neg (Ne.symm nw)]
      · rw [if_neg e]
        by_cases e2 : i = w
        · subst e2; rw [if_pos rfl, if_pos rfl, h _ (List.mem_cons_self ..), hk]; rfl
        · rw [if_neg e2, if_neg e2]
    have bz : ∀ i, (act (.wh k w) r).z.testBit i = false := fun i => by
      rw [O.hz, hz, hz, hz]
      by_cases e : i = k
      · rw [if_pos e]; rfl
      · rw [if_neg e]
        by_cases e2 : i = w
        · rw [if_pos e2]
        · rw [if_neg e2]
    obtain ⟨q1, q2⟩ := partC_bits k ws (act (.wh k w) r) (fun u hu => ne u (List.mem_cons_of_mem _ hu)) nd'.2 (by rw [bx, if_neg (Ne.symm nw)]; exact hk) bz (fun u hu => by
      have ne2 : u ≠ w := fun z => nd'.1 (z ▸ hu)
      rw [bx, if_neg ne2]
      exact h u (List.mem_cons_of_mem _ hu)) i
    show (actW (ws.map (Dd.wh k)) (act (.wh k w) r)).x.testBit i = _ ∧ _
    refine ⟨?_, q2⟩
    rw [q1, bx]
    by_cases e1 : i ∈ ws
    · rw [if_pos e1, if_pos (List.mem_cons_of_mem _ e1)]
    · rw [if_neg e1]
      by_cases e2 : i = w
      · subst e2; rw [if_pos rfl, if_pos (List.mem_cons_self ..)]
      · rw [if_neg e2, if_neg fun z => (List.mem_cons.mp z).elim e2 e1]
end K92
end
section
set_option autoImplicit false
/-! z at one wire; the work made. -/
namespace K92
/-- deeds on wires from k on -/
def Dd.ge (k : Nat) : Dd → Prop
  | .ov w => k ≤ w
  | .qu w => k ≤ w
  | .ba w => k ≤ w
  | .bo w => k ≤ w
  | .wh v w => k ≤ v ∧ k ≤ w
  | .sw v w => k ≤ v ∧ k ≤ w
theorem two_bit {j w : Nat} (h : j < w) : (2 ^ j).testBit w = false := by rw [Nat.testBit_two_pow]; exact decide_eq_false (by omega)
theorem act_fix {d : Dd} {j k : Nat} (h : d.ge k) (hj : j < k) : act d (zrow j) = zrow j := by
  have b : ∀ w, k ≤ w → (2 ^ j).testBit w = false := fun w hw => two_bit (by omega)
  cases d with
  | ov w => simp [act, zrow, b w h]
  | qu w => simp [act, zrow, put]
  | ba w => simp [act, zrow, put]
  | bo w => simp [act, zrow, put, b w h]
  | wh v w => simp [act, zrow, put, b w h.2]
  | sw v w => simp [act, zrow, put, b w h.2, b v h.1]
theorem actW_fix {j k : Nat} (hj : j < k) {ws : List Dd} (h : ∀ d ∈ ws, d.ge k) : actW ws (zrow j) = zrow j := by
  induction ws with
  | nil => rfl
  | cons e ws ih =>
    have q := ih fun d hd => h d (List.mem_cons_of_mem _ hd)
    show actW ws (act e (zrow j)) = zrow j
    rw [act_fix (h e (List.mem_cons_self ..)) hj, q]
theorem some_sorted (k n : Nat) (r : Row) : (someOf k n r).Pairwise (· < ·) := by
  unfold someOf wiresFrom
  exact List.Pairwise.filter _ (List.Pairwise.map _ (fun a b h => by omega) List.pairwise_lt_range)
theorem mem_some {k n w : Nat} {r : Row} : w ∈ someOf k n r ↔ (k ≤ w ∧ w < n) ∧ hasL r w = true := by
  unfold someOf
  rw [List.mem_filter, mem_wires]
/-- what the deeds of a row's z stand on -/
structure Up (k n : Nat) (r : Row) : Prop where
  hn : n ≤ 64
  hk : k < n
  wf : r.wf n
  low : ∀ i, i < k → hasL r i = false
  some : ∃ w, hasL r w = true
theorem hasL_lt {n : Nat} {r : Row} (h : r.wf n) {w : Nat} (hw : hasL r w = true) : w < n := by
  by_cases e : w < n
  · exact e
  · exfalso
    have z := Nat.pow_le_pow_right (show 2 > 0 by decide) (show n ≤ w by omega)
    unfold hasL at hw
    rw [Nat.testBit_lt_two_pow (Nat.lt_of_lt_of_le h.x z), Nat.testBit_lt_two_pow (Nat.lt_of_lt_of_le h.z z)] at hw
    cases hw
theorem Up.mem {k n : Nat} {r : Row} (U : Up k n r) {w : Nat} : w ∈ someOf k n r ↔ hasL r w = true := by
  rw [mem_some]
  refine ⟨fun h => h.2, fun h => ⟨⟨?_, hasL_lt U.wf h⟩, h⟩⟩
  by_cases e : k ≤ w
  · exact e
  · rw [U.low w (by omega)] at h; cases h
theorem Up.split {k n : Nat} {r : Row} (U : Up k n r) : ∃ s tl, someOf k n r = s :: tl ∧ k ≤ s ∧ s < n ∧ (∀ t ∈ tl, s < t ∧ t < n) ∧ tl.Nodup := by
  obtain ⟨w, hw⟩ := U.some
  cases h : someOf k n r with
  | nil =>
    have := U.mem.mpr hw
    rw [h] at this; cases this
  | cons s tl =>
    have srt := some_sorted k n r
    rw [h] at srt
    have ms := (mem_some (k := k) (n := n) (r := r) (w := s)).mp (by rw [h]; exact List.mem_cons_self ..)
    have p := List.pairwise_cons.mp srt
    refine ⟨s, tl, rfl, ms.1.1, ms.1.2, fun t ht => ⟨p.1 t ht, ?_⟩, p.2.imp fun h => Nat.ne_of_lt h⟩
    exact ((mem_some (k := k) (n := n) (r := r) (w := t)).mp (by rw [h]; exact List.mem_cons_of_mem _ ht)).1.2
theorem deedA_ok {r : Row} {w n : Nat} (h : w < n) : ∀ d ∈ deedA r w, d.ok n := fun d hd => by
  unfold deedA at hd
  split at hd
  · split at hd
    · rw [List.mem_singleton.mp hd]; exact h
    · rw [List.mem_singleton.mp hd]; exact h
  · cases hd
theorem deedA_ge {r : Row} {w k : Nat} (h : k ≤ w) : ∀ d ∈ deedA r w, d.ge k := fun d hd => by
  unfold deedA at hd
  split at hd
  · split at hd
    · rw [List.mem_singleton.mp hd]; exact h
    · rw [List.mem_singleton.mp hd]; exact h
  · cases hd
theorem base_all {k n : Nat} {r : Row} (U : Up k n r) : ∀ d ∈ base k n r, d.ok n ∧ d.ge k := fun d hd => by
  obtain ⟨s, tl, e, h1, h2, h3, h4⟩ := U.split
  unfold base at hd
  rw [e] at hd
  rcases List.mem_append.mp hd with hd | hd
  · obtain ⟨w, hw, hd⟩ := List.mem_flatMap.mp hd
    have := mem_wires.mp hw
    exact ⟨deedA_ok this.2 d hd, deedA_ge this.1 d hd⟩
  · rcases List.mem_append.mp hd with hd | hd
    · by_cases c : s ≠ k
      · rw [if_pos (show (s :: tl).headD 0 ≠ k from c)] at hd
        rw [List.mem_singleton.mp hd]
        exact ⟨⟨U.hk, h2, Ne.symm c⟩, Nat.le_refl _, h1⟩
      · rw [if_neg (show ¬ (s :: tl).headD 0 ≠ k from c)] at hd; cases hd
    · rcases List.mem_append.mp hd with hd | hd
      · obtain ⟨t, ht, rfl⟩ := List.mem_map.mp hd
        have := h3 t ht
        exact ⟨⟨U.hk, this.2, by omega⟩, Nat.le_refl _, by omega⟩
      · rw [List.mem_singleton.mp hd]
        exact ⟨U.hk, Nat.le_refl _⟩
theorem toz_all {k n : Nat} {r : Row} (U : Up k n r) : ∀ d ∈ toz k n r, d.ok n ∧ d.ge k := fun d hd => by
  unfold toz at hd
  rcases List.mem_append.mp hd with hd | hd
  · exact base_all U d hd
  · split at hd
    · rw [List.mem_singleton.mp hd]; exact ⟨U.hk, Nat.le_refl _⟩
    · cases hd
theorem base_bits {k n : Nat} {r : Row} (U : Up k n r) : (actW (base k n r) r).x = 0 ∧ (actW (base k n r) r).z = 2 ^ k := by
  obtain ⟨s, tl, e, h1, h2, h3, h4⟩ := U.split
  have hm : ∀ i, hasL r i = decide (i = s ∨ i ∈ tl) := fun i => by
    have := U.mem (w := i)
    rw [e, List.mem_cons] at this
    by_cases c : i = s ∨ i ∈ tl
    · rw [this.mp c, decide_eq_true c]
    · rw [decide_eq_false c]
      cases q : hasL r i with
      | false => rfl
      | true => exact absurd (this.mpr q) c
  unfold base
  rw [e, actW_app, actW_app, actW_app]
  -- behind the first part
  have a1 := partA_bits r (wiresFrom k n) r (wires_nodup k n) (fun _ _ => ⟨rfl, rfl⟩)
  have out : ∀ i, i ∉ wiresFrom k n → r.x.testBit i = false ∧ r.z.testBit i = false := fun i hi => by
    have q : hasL r i = false := by
      by_cases c : i < k
      · exact U.low i c
      · cases q : hasL r i with
        | false => rfl
        | true => exact absurd (mem_wires.mpr ⟨by omega, hasL_lt U.wf q⟩) hi
    unfold hasL at q
    exact Bool.or_eq_false_iff.mp q
  have ax : ∀ i, (actW (partA (wiresFrom k n) r) r).x.testBit i = hasL r i := fun i => by
    rw [(a1 i).1]
    by_cases c : i ∈ wiresFrom k n
    · rw [if_pos c]
    · rw [if_neg c]
      unfold hasL
      rw [(out i c).1, (out i c).2]; rfl
  have az : ∀ i, (actW (partA (wiresFrom k n) r) r).z.testBit i = false := fun i => by
    rw [(a1 i).2]
    by_cases c : i ∈ wiresFrom k n
    · rw [if_pos c]
    · rw [if_neg c]; exact (out i c).2
  generalize actW (partA (wiresFrom k n) r) r = ra at ax az
  -- behind the swap
  have b1 : ∀ i, (actW (if (s :: tl).headD 0 ≠ k then [Dd.sw k ((s :: tl).headD 0)] else []) ra).x.testBit i = decide (i = k ∨ i ∈ tl) ∧ (actW (if (s :: tl).headD 0 ≠ k then [Dd.sw k ((s :: tl).headD 0)] else []) ra).z.testBit i = false := fun i => by
    by_cases c : s ≠ k
    · rw [if_pos (show (s :: tl).headD 0 ≠ k from c)]
      have O := op_sw (j := k) (k := s) (Ne.symm c)
      show (act (.sw k s) ra).x.testBit i = _ ∧ (act (.sw k s) ra).z.testBit i = _
      rw [O.hx, O.hz, az, az, az, ax, ax, ax, hm, hm, hm]
      have kt : k ∉ tl := fun z => by have := (h3 k z).1; omega
      have st : s ∉ tl := fun z => by have := (h3 s z).1; omega
      by_cases e1 : i = k
      · subst e1; simp
      · by_cases e2 : i = s
        · subst e2; simp [e1, kt, st, Ne.symm c]
        · simp [e1, e2]
    · rw [if_neg (show ¬ (s :: tl).headD 0 ≠ k from c)]
      have ek : s = k := Decidable.not_not.mp c
      subst ek
      show ra.x.testBit i = _ ∧ ra.z.testBit i = _
      rw [ax, az, hm]
      exact ⟨rfl, rfl⟩
  generalize actW (if (s :: tl).headD 0 ≠ k then [Dd.sw k ((s :: tl).headD 0)] else []) ra = rb at b1
  have c1 := partC_bits k tl rb (fun t ht => by have := (h3 t ht).1; omega) h4 (by rw [(b1 k).1]; simp) (fun i => (b1 i).2) (fun t ht => by rw [(b1 t).1]; simp [ht])
  show (actW [Dd.bo k] (actW (tl.map (Dd.wh k)) rb)).x = 0 ∧ (actW [Dd.bo k] (actW (tl.map (Dd.wh k)) rb)).z = 2 ^ k
  generalize actW (tl.map (Dd.wh k)) rb = rc at c1
  have cx : ∀ i, rc.x.testBit i = decide (i = k) := fun i => by
    rw [(c1 i).1]
    by_cases c : i ∈ tl
    · have : i ≠ k := by have := (h3 i c).1; omega
      simp [c, this]
    · rw [if_neg c, (b1 i).1]; simp [c]
  have O := op_bo k
  show (act (.bo k) rc).x = 0 ∧ (act (.bo k) rc).z = 2 ^ k
  constructor
  · apply Nat.eq_of_testBit_eq; intro i
    rw [O.hx, Nat.zero_testBit]
    by_cases c : i = k
    · rw [if_pos c]; exact (c1 k).2
    · rw [if_neg c, cx]; simp [c]
  · apply Nat.eq_of_testBit_eq; intro i
    rw [O.hz, Nat.testBit_two_pow]
    by_cases c : i = k
    · rw [if_pos c]
      show rc.x.testBit k = _
      rw [cx]; simp [c]
    · rw [if_neg c, (c1 i).2]; simp [Ne.symm c]
theorem toz_act {k n : Nat} {r : Row} (U : Up k n r) : actW (toz k n r) r = zrow k := by
  obtain ⟨h1, h2⟩ := base_bits U
  unfold toz
  rw [actW_app]
  generalize actW (base k n r) r = q at h1 h2
  by_cases c : q.m = true
  · rw [if_pos c]
    show (⟨q.m ^^ q.z.testBit k, q.x, q.z⟩ : Row) = zrow k
    unfold zrow
    rw [c, h1, h2, Nat.testBit_two_pow]
    simp
  · rw [if_neg c]
    have : q.m = false := by simpa using c
    show q = zrow k
    exact Row.ext this h1 h2
/-! ### the work -/
structure MI (n : Nat) (ts : List Row) (k : Nat) (D : List Dd) (rest : List Row) : Prop where
  ok : ∀ d ∈ D, d.ok n
  wf : ∀ r ∈ rest, r.wf n
  len : rest.length = n - k
  bes : Bes rest
  low : ∀ r ∈ rest, ∀ j, j < k → r.x.testBit j = false
  dual : ∀ f : Nat → Bool, ∃ e, Sat rest f e ∧ ∀ j, j < k → ac (zrow j) e = false
  gen : ∀ Pr, Clo n Pr → (∀ j, j < k → Pr (zrow j)) → (∀ r ∈ rest, Pr r) → ∀ t ∈ ts, Pr (actW D t)
theorem mi_start {n : Nat} {ts : List Row} (G : Good n ts) : MI n ts 0 [] ts :=
  ⟨fun _ h => (by cases h), G.wf, G.len, G.bes, fun _ _ _ h => by omega, fun f => by
    obtain ⟨e, he⟩ := G.ind f
    exact ⟨e, he, fun _ h => by omega⟩, fun Pr _ _ h => h⟩
theorem mi_up {n k : Nat} {ts : List Row} {D : List Dd} {r0 : Row} {tl : List Row} (hn : n ≤ 64) (hk : k < n) (M : MI n ts k D (r0 :: tl)) : Up k n (wd k r0) := by
  have h0 : r0 ∈ r0 :: tl := List.mem_cons_self ..
  refine ⟨hn, hk, wd_wf (by omega) (M.wf r0 h0), fun i hi => ?_, ?_⟩
  · unfold hasL
    rw [wd_x, M.low r0 h0 i hi, wd_z, if_pos hi]; rfl
  · obtain ⟨e, he, hz⟩ := M.dual fun _ => true
    have a1 : ac (wd k r0) e = true := by rw [wd_ac hz]; exact he 0 r0 rfl
    refine Classical.byContradiction fun no => ?_
    have z : (wd k r0).x = 0 ∧ (wd k r0).z = 0 := by
      have q : ∀ i, hasL (wd k r0) i = false := fun i => by
        cases c : hasL (wd k r0) i with
        | false => rfl
        | true => exact absurd ⟨i, c⟩ no
      constructor <;> (apply Nat.eq_of_testBit_eq; intro i; rw [Nat.zero_testBit])
      · exact (Bool.or_eq_false_iff.mp (q i)).1
      · exact (Bool.or_eq_false_iff.mp (q i)).2
    rw [ac_zero z] at a1; cases a1
theorem mi_step {n k : Nat} {ts : List Row} {D : List Dd} {r0 : Row} {tl : List Row} (hn : n ≤ 64) (hk : k < n) (M : MI n ts k D (r0 :: tl)) :
    MI n ts (k + 1) (D ++ toz k n (wd k r0)) (tl.map fun r => actW (toz k n (wd k r0)) (wd k r)) := by
  have U := mi_up hn hk M
  have all := toz_all U
  have eq0 := toz_act U
  have h0 : r0 ∈ r0 :: tl := List.mem_cons_self ..
  have ht : ∀ r, r ∈ tl → r ∈ r0 :: tl := fun r h => List.mem_cons_of_mem _ h
  generalize toz k n (wd k r0) = E at all eq0
  have eok : ∀ d ∈ E, d.ok n := fun d h => (all d h).1
  have fix : ∀ j, j < k → actW E (zrow j) = zrow j := fun j hj => actW_fix hj fun d h => (all d h).2
  have zr : ∀ r ∈ r0 :: tl, ∀ j, j < k → ac (zrow j) r = false := fun r hr j hj => by rw [ac_z (by omega)]; exact M.low r hr j hj
  have zw : ∀ r ∈ r0 :: tl, ∀ j, j < k → ac (zrow j) (wd k r) = false := fun r hr j hj => by rw [ac_z (by omega), wd_x]; exact M.low r hr j hj
  have ww : ∀ a ∈ r0 :: tl, ∀ b ∈ r0 :: tl, ac (wd k a) (wd k b) = false := fun a ha b hb => by
    rw [wd_ac (zw b hb), ac_comm, wd_ac (zr a ha)]
    exact M.bes b hb a ha
  refine ⟨fun d hd => ?_, fun r hr => ?_, ?_, fun a ha b hb => ?_, fun r hr j hj => ?_, fun f => ?_, fun Pr cl hz hr t ht' => ?_⟩
  · rcases List.mem_append.mp hd with h | h
    · exact M.ok d h
    · exact eok d h
  · obtain ⟨q, h1, rfl⟩ := List.mem_map.mp hr
    exact wf_actW eok (wd_wf (by omega) (M.wf q (ht q h1)))
  · have := M.len
    rw [List.length_map]
    rw [List.length_cons] at this
    omega
  · obtain ⟨q, h1, rfl⟩ := List.mem_map.mp ha
    obtain ⟨p, h2, rfl⟩ := List.mem_map.mp hb
    rw [ac_actW hn eok]
    exact ww q (ht q h1) p (ht p h2)
  · obtain ⟨q, h1, rfl⟩ := List.mem_map.mp hr
    rw [← ac_z (k := j) (by omega)]
    by_cases c : j < k
    · rw [← fix j c, ac_actW hn eok]
      exact zw q (ht q h1) j c
    · have : j = k := by omega
      subst this
      rw [← eq0, ac_actW hn eok]
      exact ww r0 h0 q (ht q h1)
  · obtain ⟨e, he, hz⟩ := M.dual fun i => match i with
      | 0 => false
      | i + 1 => f i
    refine ⟨actW E e, fun i r hi => ?_, fun j hj => ?_⟩
    · rw [List.getElem?_map] at hi
      cases c : tl[i]? with
      | none => rw [c] at hi; cases hi
      | some q =>
        rw [c] at hi
        rw [← Option.some.inj hi, ac_actW hn eok, wd_ac hz]
        exact he (i + 1) q c
    · by_cases c : j < k
      · rw [← fix j c, ac_actW hn eok]
        exact hz j c
      · have : j = k := by omega
        subst this
        rw [← eq0, ac_actW hn eok, wd_ac hz]
        exact he 0 r0 rfl
  · rw [actW_app]
    have cl' : Clo n fun r => Pr (actW E r) := fun a b ha hb pa pb hc => by
      show Pr (actW E (mul a b))
      rw [mul_actW hn eok hc]
      exact cl _ _ (wf_actW eok ha) (wf_actW eok hb) pa pb (by rw [ac_actW hn eok]; exact hc)
    have z' : ∀ j, j < k → Pr (actW E (zrow j)) := fun j hj => by rw [fix j hj]; exact hz j (by omega)
    refine M.gen (fun r => Pr (actW E r)) cl' z' (fun r hr' => ?_) t ht'
    refine wd_back (Pr := fun r => Pr (actW E r)) hn (by omega) cl' z' (M.wf r hr') (M.low r hr') ?_
    rcases List.mem_cons.mp hr' with h | h
    · subst h
      show Pr (actW E (wd k r))
      rw [eq0]
      exact hz k (by omega)
    · exact hr _ (List.mem_map.mpr ⟨r, h, rfl⟩)
/-- the state of the work's making behind k turns -/
def mstate (n : Nat) (ts : List Row) : Nat → List Dd × List Row
  | 0 => ([], ts)
  | k + 1 => match (mstate n ts k).2 with
    | [] => mstate n ts k
    | r0 :: tl => ((mstate n ts k).1 ++ toz k n (wd k r0), tl.map fun r => actW (toz k n (wd k r0)) (wd k r))
theorem mi_all {n : Nat} {ts : List Row} (hn : n ≤ 64) (G : Good n ts) : ∀ k, k ≤ n → MI n ts k (mstate n ts k).1 (mstate n ts k).2
  | 0, _ => mi_start G
  | k + 1, h => by
    have M := mi_all hn G k (by omega)
    have l := M.len
    unfold mstate
    cases e : (mstate n ts k).2 with
    | nil => rw [e] at l; simp at l; omega
    | cons r0 tl =>
      rw [e] at M
      exact mi_step hn (by omega) M
def madeD (n : Nat) (ts : List Row) : List Dd := (mstate n ts n).1
/-- what the work made brings about -/
theorem made_ok {n : Nat} {rs : List Row} (hn : n ≤ 64) (G : Good n rs) : (∀ d ∈ madeD n (tell n rs), d.ok n) ∧ ∀ r ∈ rs, (actW (madeD n (tell n rs)) r).m = false ∧ (actW (madeD n (tell n rs)) r).x = 0 := by
  obtain ⟨_, G2, gen⟩ := tell_ok hn G
  have M := mi_all hn G2 n (Nat.le_refl n)
  have e : (mstate n (tell n rs) n).2 = [] := List.length_eq_zero_iff.mp (by rw [M.len]; omega)
  refine ⟨M.ok, ?_⟩
  have clz : Clo n fun r => r.m = false ∧ r.x = 0 := fun a b ha hb pa pb _ => by
    refine ⟨?_, ?_⟩
    · show ((a.m ^^ b.m) ^^ two (qd a b)) = false
      have q : qd a b = 0 := by
        unfold qd
        rw [pa.2, pb.2]
        have p0 : pop 0 = 0 := by
          unfold pop
          rw [sumN_congr (g := fun _ => 0) fun k _ => by simp [b2i]]
          exact sumN_zero 64
        simp [p0]
      rw [pa.1, pb.1, q]; rfl
    · show a.x ^^^ b.x = 0
      rw [pa.2, pb.2]; rfl
  have g1 := M.gen (fun r => r.m = false ∧ r.x = 0) clz (fun j _ => ⟨rfl, rfl⟩) (fun r hr => by rw [e] at hr; cases hr)
  have cl2 : Clo n fun r => (actW (madeD n (tell n rs)) r).m = false ∧ (actW (madeD n (tell n rs)) r).x = 0 := fun a b ha hb pa pb hc => by
    show (actW (madeD n (tell n rs)) (mul a b)).m = false ∧ (actW (madeD n (tell n rs)) (mul a b)).x = 0
    rw [mul_actW (ws := madeD n (tell n rs)) hn M.ok hc]
    exact clz _ _ (wf_actW M.ok ha) (wf_actW M.ok hb) pa pb (by rw [ac_actW (ws := madeD n (tell n rs)) hn M.ok]; exact hc)
  exact gen _ cl2 g1
end K92
end
section
set_option autoImplicit false
/-! The value of a sure look, in plain Lean. -/
namespace K92
/-- predicates of letters that are linear -/
structure Lin (Q : Nat → Nat → Prop) : Prop where
  zero : Q 0 0
  add : ∀ a b c d, Q a b → Q c d → Q (a ^^^ c) (b ^^^ d)
/-- letters that are a product of those of some rows -/
def Spn (rs : List Row) (x z : Nat) : Prop := ∀ Q, Lin Q → (∀ r ∈ rs, Q r.x r.z) → Q x z
theorem spn_zero (rs : List Row) : Spn rs 0 0 := fun Q l _ => l.zero
theorem spn_mem {rs : List Row} {r : Row} (h : r ∈ rs) : Spn rs r.x r.z := fun Q _ q => q r h
theorem spn_add {rs : List Row} {a b c d : Nat} (h : Spn rs a b) (k : Spn rs c d) : Spn rs (a ^^^ c) (b ^^^ d) := fun Q l q => l.add _ _ _ _ (h Q l q) (k Q l q)
theorem spn_mono {rs ss : List Row} {x z : Nat} (h : ∀ r ∈ rs, r ∈ ss) (k : Spn rs x z) : Spn ss x z := fun Q l q => k Q l fun r hr => q r (h r hr)
theorem spn_ac {rs : List Row} {r e : Row} (h : Spn rs r.x r.z) (k : ∀ a ∈ rs, ac a e = false) : ac r e = false := by
  have z := h (fun x z => ac ⟨false, x, z⟩ e = false) ⟨ac_zero ⟨rfl, rfl⟩, fun a b c d h1 h2 => by
    rw [ac_letters (a := ⟨false, a, b⟩) (b := ⟨false, c, d⟩) rfl rfl, h1, h2]; rfl⟩ fun a ha => k a ha
  exact z
/-- one letter bit -/
def xb (q : Bool × Nat) (x z : Nat) : Bool := (if q.1 then z else x).testBit q.2
def rb (q : Bool × Nat) (r : Row) : Bool := xb q r.x r.z
theorem xb_zero (q : Bool × Nat) : xb q 0 0 = false := by unfold xb; split <;> exact Nat.zero_testBit _
theorem xb_xor (q : Bool × Nat) (a b c d : Nat) : xb q (a ^^^ c) (b ^^^ d) = (xb q a b ^^ xb q c d) := by
  unfold xb
  split <;> exact Nat.testBit_xor ..
theorem xb_lin (q : Bool × Nat) : Lin fun x z => xb q x z = false := ⟨xb_zero q, fun a b c d h k => by rw [xb_xor, h, k]; rfl⟩
theorem rb_mul (q : Bool × Nat) (a b : Row) : rb q (mul a b) = (rb q a ^^ rb q b) := xb_xor q _ _ _ _
/-- a row without a bit by another row -/
def wmul (q : Bool × Nat) (c r : Row) : Row := if rb q r = true then mul r c else r
def wob (q : Bool × Nat) (s : List Row × Row) : List Row × Row := match s.1.find? (rb q) with
  | none => s
  | some c => ((s.1.eraseP (rb q)).map (wmul q c), wmul q c s.2)
def sgn (t : Bool) (r : Row) : Row := ⟨r.m ^^ t, r.x, r.z⟩
theorem sgn_mul (t : Bool) (a b : Row) : mul (sgn t a) b = sgn t (mul a b) := by
  unfold mul sgn
  have e : qd ⟨a.m ^^ t, a.x, a.z⟩ b = qd a b := rfl
  rw [e]
  simp only [Row.mk.injEq, and_true]
  cases a.m <;> cases t <;> cases b.m <;> cases two (qd a b) <;> rfl
theorem sgn_wmul (q : Bool × Nat) (t : Bool) (c r : Row) : wmul q c (sgn t r) = sgn t (wmul q c r) := by
  unfold wmul
  have e : rb q (sgn t r) = rb q r := rfl
  rw [e]
  split
  · exact sgn_mul t r c
  · rfl
theorem wmul_ac (q : Bool × Nat) (c r e : Row) (h : ac c e = false) : ac (wmul q c r) e = ac r e := by
  unfold wmul
  split
  · rw [ac_mul, h]; simp
  · rfl
theorem wmul_wf {n : Nat} (q : Bool × Nat) {c r : Row} (hc : c.wf n) (hr : r.wf n) : (wmul q c r).wf n := by
  unfold wmul
  split
  · exact wf_mul hr hc
  · exact hr
theorem wmul_rb (q : Bool × Nat) (c r : Row) (h : rb q c = true) : rb q (wmul q c r) = false := by
  unfold wmul
  split
  · rename_i z
    rw [rb_mul, z, h]; rfl
  · rename_i z
    simpa using z
theorem wmul_rb2 (p q : Bool × Nat) (c r : Row) (h : rb p c = false) (k : rb p r = false) : rb p (wmul q c r) = false := by
  unfold wmul
  split
  · rw [rb_mul, h, k]; rfl
  · exact k
structure WI (n : Nat) (Pr : Row → Prop) (t : Bool) (done : Bool × Nat → Prop) (s : List Row × Row) : Prop where
  wf : ∀ r ∈ s.1, r.wf n
  wf2 : s.2.wf n
  bes : Bes s.1
  bes2 : ∀ r ∈ s.1, ac r s.2 = false
  pr : ∀ r ∈ s.1, Pr r
  pr2 : Pr (sgn t s.2)
  spn : Spn s.1 s.2.x s.2.z
  clr : ∀ q, done q → ∀ r ∈ s.1, rb q r = false
theorem mem_erase {f : Row → Bool} {rs : List Row} {r c : Row} (hf : rs.find? f = some c) (h : r ∈ rs) : r = c ∨ r ∈ rs.eraseP f := by
  induction rs with
  | nil => cases h
  | cons a l ih =>
    rw [List.find?_cons] at hf
    cases e : f a with
    | true =>
      rw [e] at hf
      cases hf
      rw [List.eraseP_cons_of_pos e]
      exact List.mem_cons.mp h
    | false =>
      rw [e] at hf
      rw [List.eraseP_cons_of_neg (by rw [e]; decide)]
      rcases List.mem_cons.mp h with h | h
      · exact .inr (h ▸ List.mem_cons_self ..)
      · rcases ih hf h with h | h
        · exact .inl h
        · exact .inr (List.mem_cons_of_mem _ h)
theorem wob_ok {n : Nat} {Pr : Row → Prop} {t : Bool} {done : Bool × Nat → Prop} {s : List Row × Row} (cl : Clo n Pr) (W : WI n Pr t done s) (q : Bool × Nat) : WI n Pr t (fun p => done p ∨ p = q) (wob q s) := by
  obtain ⟨rs, row⟩ := s
  unfold wob
  cases hf : rs.find? (rb q) with
  | none =>
    refine ⟨W.wf, W.wf2, W.bes, W.bes2, W.pr, W.pr2, W.spn, fun p hp r hr => ?_⟩
    rcases hp with hp | hp
    · exact W.clr p hp r hr
    · subst hp
      have := List.find?_eq_none.mp hf r hr
      simpa using this
  | some c =>
    have hc : c ∈ rs := List.mem_of_find?_eq_some hf
    have fc : rb q c = true := List.find?_some hf
    have sub : ∀ r ∈ rs.eraseP (rb q), r ∈ rs := fun r h => List.mem_of_mem_eraseP h
    have wc := W.wf c hc
    refine ⟨fun r hr => ?_, wmul_wf q wc W.wf2, fun a ha b hb => ?_, fun r hr => ?_, fun r hr => ?_, ?_, fun Q l hQ => ?_, fun p hp r hr => ?_⟩
    · obtain ⟨a, h1, rfl⟩ := List.mem_map.mp hr
      exact wmul_wf q wc (W.wf a (sub a h1))
    · obtain ⟨a, h1, rfl⟩ := List.mem_map.mp ha
      obtain ⟨b, h2, rfl⟩ := List.mem_map.mp hb
      rw [wmul_ac _ _ _ _ (by rw [ac_comm, wmul_ac _ _ _ _ (W.bes c hc c hc)]; exact W.bes _ (sub b h2) _ hc), ac_comm, wmul_ac _ _ _ _ (W.bes c hc a (sub a h1))]
      exact W.bes _ (sub b h2) _ (sub a h1)
    · obtain ⟨a, h1, rfl⟩ := List.mem_map.mp hr
      show ac (wmul q c a) (wmul q c row) = false
      rw [wmul_ac _ _ _ _ (by rw [ac_comm, wmul_ac _ _ _ _ (W.bes c hc c hc), ac_comm]; exact W.bes2 c hc), ac_comm, wmul_ac _ _ _ _ (W.bes c hc a (sub a h1)), ac_comm]
      exact W.bes2 a (sub a h1)
    · obtain ⟨a, h1, rfl⟩ := List.mem_map.mp hr
      unfold wmul
      split
      · exact cl a c (W.wf a (sub a h1)) wc (W.pr a (sub a h1)) (W.pr c hc) (W.bes a (sub a h1) c hc)
      · exact W.pr a (sub a h1)
    · show Pr (sgn t (wmul q c row))
      rw [← sgn_wmul]
      have b2 : ac (sgn t row) c = false := by
        have e : ac (sgn t row) c = ac row c := rfl
        rw [e, ac_comm]; exact W.bes2 c hc
      unfold wmul
      split
      · exact cl (sgn t row) c ⟨W.wf2.x, W.wf2.z⟩ wc W.pr2 (W.pr c hc) b2
      · exact W.pr2
    · have key := W.spn (fun x z => Q (if xb q x z = true then x ^^^ c.x else x) (if xb q x z = true then z ^^^ c.z else z)) ⟨by rw [xb_zero]; exact l.zero, fun a b d e h k => by
        rw [xb_xor]
        revert h k
        generalize xb q a b = u
        generalize xb q d e = v
        intro h k
        cases u <;> cases v <;> simp only [Bool.xor_false, Bool.xor_true, Bool.not_true, Bool.not_false, Bool.false_xor, if_true, Bool.false_eq_true, if_false, reduceIte] at h k ⊢
        · exact l.add _ _ _ _ h k
        · have := l.add _ _ _ _ h k
          rwa [← Nat.xor_assoc, ← Nat.xor_assoc] at this
        · have := l.add _ _ _ _ h k
          rwa [Nat.xor_assoc a, Nat.xor_comm c.x, ← Nat.xor_assoc a, Nat.xor_assoc b, Nat.xor_comm c.z, ← Nat.xor_assoc b] at this
        · have := l.add _ _ _ _ h k
          have e1 : ∀ p q r : Nat, (p ^^^ r) ^^^ (q ^^^ r) = p ^^^ q := fun p q r => by
            rw [Nat.xor_comm q r, ← Nat.xor_assoc, Nat.xor_assoc p, Nat.xor_self, Nat.xor_zero]
          rwa [e1, e1] at this⟩ fun r hr => ?_
      · show Q (wmul q c row).x (wmul q c row).z
        unfold wmul
        dsimp only at key
        unfold rb
        split
        · rename_i z
          rw [if_pos z, if_pos z] at key
          exact key
        · rename_i z
          rw [if_neg z, if_neg z] at key
          exact key
      · rcases mem_erase hf hr with e | e
        · rw [e]
          have z : xb q c.x c.z = true := fc
          rw [if_pos z, if_pos z, Nat.xor_self, Nat.xor_self]
          exact l.zero
        · have := hQ _ (List.mem_map.mpr ⟨r, e, rfl⟩)
          unfold wmul rb at this
          split at this
          · rename_i z
            rw [if_pos z, if_pos z]
            exact this
          · rename_i z
            rw [if_neg z, if_neg z]
            exact this
    · obtain ⟨a, h1, rfl⟩ := List.mem_map.mp hr
      rcases hp with hp | hp
      · exact wmul_rb2 p q c a (W.clr p hp c hc) (W.clr p hp a (sub a h1))
      · subst hp
        exact wmul_rb p c a fc
def wobs (qs : List (Bool × Nat)) (s : List Row × Row) : List Row × Row := qs.foldl (fun s q => wob q s) s
theorem wobs_ok {n : Nat} {Pr : Row → Prop} {t : Bool} (cl : Clo n Pr) : ∀ {qs : List (Bool × Nat)} {done : Bool × Nat → Prop} {s : List Row × Row}, WI n Pr t done s → WI n Pr t (fun p => done p ∨ p ∈ qs) (wobs qs s)
  | [], done, s, W => ⟨W.wf, W.wf2, W.bes, W.bes2, W.pr, W.pr2, W.spn, fun q hq => W.clr q (hq.elim id fun z => by cases z)⟩
  | q :: qs, done, s, W => by
    have W2 := wobs_ok cl (qs := qs) (wob_ok cl W q)
    exact ⟨W2.wf, W2.wf2, W2.bes, W2.bes2, W2.pr, W2.pr2, W2.spn, fun p hp => W2.clr p (by
      rcases hp with hp | hp
      · exact .inl (.inl hp)
      · rcases List.mem_cons.mp hp with e | e
        · exact .inl (.inr e)
        · exact .inr e)⟩
def lets (n : Nat) : List (Bool × Nat) := (List.range n).map (fun k => (false, k)) ++ (List.range n).map fun k => (true, k)
theorem lt_bits {n a : Nat} (h : a < 2 ^ n) (k : ∀ i, i < n → a.testBit i = false) : a = 0 := by
  apply Nat.eq_of_testBit_eq
  intro i
  rw [Nat.zero_testBit]
  by_cases c : i < n
  · exact k i c
  · exact Nat.testBit_lt_two_pow (Nat.lt_of_lt_of_le h (Nat.pow_le_pow_right (by decide) (by omega)))
/-- the value: Pr a group of rows without minus the whole that has all of the rows; t the sign in it -/
theorem value_ok {n : Nat} {Pr : Row → Prop} {t : Bool} {rs : List Row} {row : Row} (cl : Clo n Pr) (no : ¬ Pr ⟨true, 0, 0⟩) (W : WI n Pr t (fun _ => False) (rs, row)) : (wobs (lets n) (rs, row)).2.m = t := by
  have W2 := wobs_ok cl (qs := lets n) W
  have cz : ∀ q ∈ lets n, rb q (wobs (lets n) (rs, row)).2 = false := fun q hq => W2.spn (fun x z => xb q x z = false) (xb_lin q) fun r hr => W2.clr q (.inr hq) r hr
  have ex : (wobs (lets n) (rs, row)).2.x = 0 := lt_bits W2.wf2.x fun i hi => cz (false, i) (List.mem_append_left _ (List.mem_map.mpr ⟨i, List.mem_range.mpr hi, rfl⟩))
  have ez : (wobs (lets n) (rs, row)).2.z = 0 := lt_bits W2.wf2.z fun i hi => cz (true, i) (List.mem_append_right _ (List.mem_map.mpr ⟨i, List.mem_range.mpr hi, rfl⟩))
  have p := W2.pr2
  unfold sgn at p
  rw [ex, ez] at p
  cases e : (wobs (lets n) (rs, row)).2.m ^^ t with
  | true => rw [e] at p; exact absurd p no
  | false => simpa using e
end K92
end
section
set_option autoImplicit false
/-! Numbers that are taken out by leads; equations that are solved. -/
namespace K92
def lo1 (m : Nat) (p : Nat × Nat) : Nat := if m.testBit p.1 = true then m ^^^ p.2 else m
def lo (ks : List (Nat × Nat)) (m : Nat) : Nat := ks.foldl lo1 m
def red1 (s : Nat × Bool) (t : Nat × Nat × Bool) : Nat × Bool := if s.1.testBit t.1 = true then (s.1 ^^^ t.2.1, s.2 ^^ t.2.2) else s
def redk (ks : List (Nat × Nat × Bool)) (s : Nat × Bool) : Nat × Bool := ks.foldl red1 s
def clr1 (l m : Nat) (d : Bool) (t : Nat × Nat × Bool) : Nat × Nat × Bool := if t.2.1.testBit l = true then (t.1, t.2.1 ^^^ m, t.2.2 ^^ d) else t
def slv1 (ks : List (Nat × Nat × Bool)) (e : Nat × Bool) : List (Nat × Nat × Bool) := if (redk ks e).1 = 0 then ks else ks.map (clr1 (redk ks e).1.log2 (redk ks e).1 (redk ks e).2) ++ [((redk ks e).1.log2, (redk ks e).1, (redk ks e).2)]
def slv (es : List (Nat × Bool)) : List (Nat × Nat × Bool) := es.foldl slv1 []
def sol1 (f : Nat) (t : Nat × Nat × Bool) : Nat := f ||| put t.1 t.2.2
def sol (ks : List (Nat × Nat × Bool)) : Nat := ks.foldl sol1 0
theorem fold_take {α β : Type} {f : β → α → β} {l : List α} {i : Nat} {a : α} {b : β} (h : l[i]? = some a) : (l.take (i + 1)).foldl f b = f ((l.take i).foldl f b) a := by
  rw [List.take_add_one, h, List.foldl_append]
  rfl
/-- all numbers of the kept ones are below -/
def Kb (ks : List (Nat × Nat × Bool)) : Prop := ∀ t ∈ ks, t.1 < 64 ∧ t.2.1 < 2 ^ 64
theorem red1_lt {s : Nat × Bool} {t : Nat × Nat × Bool} (hs : s.1 < 2 ^ 64) (ht : t.2.1 < 2 ^ 64) : (red1 s t).1 < 2 ^ 64 := by
  unfold red1
  split
  · exact Nat.xor_lt_two_pow hs ht
  · exact hs
theorem redk_lt : ∀ {ks : List (Nat × Nat × Bool)} {s : Nat × Bool}, Kb ks → s.1 < 2 ^ 64 → (redk ks s).1 < 2 ^ 64
  | [], _, _, h => h
  | t :: ks, s, hk, h => redk_lt (ks := ks) (fun t ht => hk t (List.mem_cons_of_mem _ ht)) (red1_lt h (hk t (List.mem_cons_self ..)).2)
theorem log2_lt64 {m : Nat} (h : m < 2 ^ 64) (h0 : m ≠ 0) : m.log2 < 64 := (Nat.log2_lt h0).mpr h
theorem clr1_b {l m : Nat} {d : Bool} {t : Nat × Nat × Bool} (hm : m < 2 ^ 64) (ht : t.1 < 64 ∧ t.2.1 < 2 ^ 64) : (clr1 l m d t).1 < 64 ∧ (clr1 l m d t).2.1 < 2 ^ 64 := by
  unfold clr1
  split
  · exact ⟨ht.1, Nat.xor_lt_two_pow ht.2 hm⟩
  · exact ht
theorem slv1_b {ks : List (Nat × Nat × Bool)} {e : Nat × Bool} (hk : Kb ks) (he : e.1 < 2 ^ 64) : Kb (slv1 ks e) := by
  unfold slv1
  have hr := redk_lt hk he
  split
  · exact hk
  · rename_i h0
    intro t ht
    rcases List.mem_append.mp ht with h | h
    · obtain ⟨u, h1, rfl⟩ := List.mem_map.mp h
      exact clr1_b hr (hk u h1)
    · rw [List.mem_singleton.mp h]
      exact ⟨log2_lt64 hr h0, hr⟩
theorem slv1_len (ks : List (Nat × Nat × Bool)) (e : Nat × Bool) : (slv1 ks e).length ≤ ks.length + 1 := by
  unfold slv1
  split
  · omega
  · rw [List.length_append, List.length_map]; exact Nat.le_refl _
theorem slv_b : ∀ {es : List (Nat × Bool)} {ks : List (Nat × Nat × Bool)}, (∀ e ∈ es, e.1 < 2 ^ 64) → Kb ks → Kb (es.foldl slv1 ks) ∧ (es.foldl slv1 ks).length ≤ ks.length + es.length
  | [], ks, _, hk => ⟨hk, Nat.le_refl _⟩
  | e :: es, ks, he, hk => by
    obtain ⟨a, b⟩ := slv_b (es := es) (ks := slv1 ks e) (fun e h => he e (List.mem_cons_of_mem _ h)) (slv1_b hk (he e (List.mem_cons_self ..)))
    refine ⟨a, ?_⟩
    have := slv1_len ks e
    show (es.foldl slv1 (slv1 ks e)).length ≤ _
    rw [List.length_cons]
    omega
def ltn (n : Nat) (r : Row) : Nat := r.x ||| r.z <<< n
def mrn (n : Nat) (r : Row) : Nat := r.z ||| r.x <<< n
def addl (n : Nat) (ls : List (Nat × Nat)) (r : Row) : List (Nat × Nat) := ls ++ [((lo ls (ltn n r)).log2, lo ls (ltn n r))]
def leadsOf (n : Nat) (rs : List Row) : List (Nat × Nat) := rs.foldl (addl n) []
theorem leads_len (n : Nat) : ∀ (rs : List Row) (ls : List (Nat × Nat)), (rs.foldl (addl n) ls).length = ls.length + rs.length
  | [], ls => rfl
  | r :: rs, ls => by
    show (rs.foldl (addl n) (addl n ls r)).length = _
    rw [leads_len n rs]
    unfold addl
    rw [List.length_append, List.length_cons, List.length_cons, List.length_nil]
    omega
/-- what a code is made of -/
structure CodeOk (n : Nat) (rs : List Row) : Prop where
  n1 : 1 ≤ n
  n9 : n ≤ 9
  wf : ∀ r ∈ rs, r.wf n
  bes : Bes rs
  len : rs.length ≤ 60
  ind : ∀ (i : Nat) (r : Row), rs[i]? = some r → lo (leadsOf n (rs.take i)) (ltn n r) ≠ 0
/-! wrongs by weight -/
def nbits (m : Nat) : Nat := if m = 0 then 0 else m.log2 + 1
theorem nbits_le {m n : Nat} (h : m < 2 ^ n) : nbits m ≤ n := by
  unfold nbits
  split
  · omega
  · rename_i h0
    exact (Nat.log2_lt h0).mpr h
def grow1 (r : Row) (k : Nat) : List Row := [⟨false, r.x ||| 2 ^ k, r.z⟩, ⟨false, r.x, r.z ||| 2 ^ k⟩, ⟨false, r.x ||| 2 ^ k, r.z ||| 2 ^ k⟩]
def grow (n : Nat) (r : Row) : List Row := (wiresFrom (nbits (r.x ||| r.z)) n).flatMap (grow1 r)
def layer (n : Nat) : Nat → List Row
  | 0 => [⟨false, 0, 0⟩]
  | i + 1 => (layer n i).flatMap (grow n)
def wrs (n m : Nat) : List Row := (List.range (m + 1)).flatMap (layer n)
theorem flat_len {α β : Type} {f : α → List β} {b : Nat} : ∀ (l : List α), (∀ a ∈ l, (f a).length ≤ b) → (l.flatMap f).length ≤ b * l.length
  | [], _ => Nat.zero_le _
  | a :: l, h => by
    rw [List.flatMap_cons, List.length_append, List.length_cons, Nat.mul_add, Nat.mul_one]
    have := flat_len l fun x hx => h x (List.mem_cons_of_mem _ hx)
    have := h a (List.mem_cons_self ..)
    omega
theorem grow_len {n : Nat} (hn : n ≤ 9) (r : Row) : (grow n r).length ≤ 27 := by
  unfold grow
  have := flat_len (f := grow1 r) (b := 3) (wiresFrom (nbits (r.x ||| r.z)) n) fun _ _ => Nat.le_refl _
  have e : (wiresFrom (nbits (r.x ||| r.z)) n).length = n - nbits (r.x ||| r.z) := by unfold wiresFrom; rw [List.length_map, List.length_range]
  rw [e] at this
  omega
theorem layer_len {n : Nat} (hn : n ≤ 9) : ∀ i, (layer n i).length ≤ 27 ^ i
  | 0 => Nat.le_refl _
  | i + 1 => by
    have := flat_len (f := grow n) (b := 27) (layer n i) fun r _ => grow_len hn r
    have h := layer_len hn i
    show ((layer n i).flatMap (grow n)).length ≤ _
    rw [Nat.pow_succ]
    omega
theorem or_lt {n a b : Nat} (ha : a < 2 ^ n) (hb : b < 2 ^ n) : a ||| b < 2 ^ n := Nat.or_lt_two_pow ha hb
theorem grow_wf {n : Nat} {r q : Row} (hr : r.wf n) (h : q ∈ grow n r) : q.wf n ∧ q.m = false := by
  obtain ⟨k, hk, h⟩ := List.mem_flatMap.mp h
  have hk := (mem_wires.mp hk).2
  have p : 2 ^ k < 2 ^ n := Nat.pow_lt_pow_right (by decide) hk
  unfold grow1 at h
  rcases List.mem_cons.mp h with h | h
  · subst h; exact ⟨⟨or_lt hr.x p, hr.z⟩, rfl⟩
  · rcases List.mem_cons.mp h with h | h
    · subst h; exact ⟨⟨hr.x, or_lt hr.z p⟩, rfl⟩
    · rw [List.mem_singleton.mp h]; exact ⟨⟨or_lt hr.x p, or_lt hr.z p⟩, rfl⟩
theorem layer_wf {n : Nat} : ∀ i, ∀ q ∈ layer n i, q.wf n ∧ q.m = false
  | 0, q, h => by
    rw [List.mem_singleton.mp h]
    exact ⟨⟨Nat.two_pow_pos n, Nat.two_pow_pos n⟩, rfl⟩
  | i + 1, q, h => by
    obtain ⟨r, h1, h2⟩ := List.mem_flatMap.mp h
    exact grow_wf (layer_wf i r h1).1 h2
theorem wrs_wf {n m : Nat} : ∀ q ∈ wrs n m, q.wf n ∧ q.m = false := fun q h => by
  obtain ⟨i, _, h2⟩ := List.mem_flatMap.mp h
  exact layer_wf i q h2
end K92
end
section
set_option autoImplicit false
/-! Codes in plain Lean: leads, duals. -/
namespace K92
def dot (a b : Nat) : Bool := par (a &&& b)
theorem dot_xor_l (a b c : Nat) : dot (a ^^^ b) c = (dot a c ^^ dot b c) := by unfold dot; rw [xor_and_right, par_xor]
theorem dot_xor_r (a b c : Nat) : dot c (a ^^^ b) = (dot c a ^^ dot c b) := by unfold dot; rw [xor_and_left, par_xor]
theorem dot_two {k : Nat} (hk : k < 64) (a : Nat) : dot a (2 ^ k) = a.testBit k := by
  unfold dot
  rw [Nat.and_comm]
  exact par_two hk
theorem dot_zero (a : Nat) : dot 0 a = false := by unfold dot; rw [Nat.zero_and]; exact par_zero
/-- leads: each number has its lead, the later ones do not have it -/
def Tri : List (Nat × Nat) → Prop
  | [] => True
  | p :: ks => p.1 < 64 ∧ p.2.testBit p.1 = true ∧ (∀ q ∈ ks, q.2.testBit p.1 = false) ∧ Tri ks
theorem tri_dual {m b : Nat} (hb : b < 64) (hm : m.testBit b = true) : ∀ {ks : List (Nat × Nat)}, Tri ks → (∀ p ∈ ks, m.testBit p.1 = false) → ∃ y, (∀ p ∈ ks, dot p.2 y = false) ∧ dot m y = true
  | [], _, _ => ⟨2 ^ b, (fun _ h => nomatch h), by rw [dot_two hb]; exact hm⟩
  | p :: ks, ⟨h1, h2, h3, h4⟩, h0 => by
    obtain ⟨y, y1, y2⟩ := tri_dual hb hm h4 fun q hq => h0 q (List.mem_cons_of_mem _ hq)
    cases c : dot p.2 y with
    | false =>
      refine ⟨y, fun q hq => ?_, y2⟩
      rcases List.mem_cons.mp hq with e | e
      · rw [e]; exact c
      · exact y1 q e
    | true =>
      refine ⟨y ^^^ 2 ^ p.1, fun q hq => ?_, ?_⟩
      · rw [dot_xor_r, dot_two h1]
        rcases List.mem_cons.mp hq with e | e
        · rw [e, c, h2]; rfl
        · rw [y1 q e, h3 q e]; rfl
      · rw [dot_xor_r, dot_two h1, y2, h0 p (List.mem_cons_self ..)]; rfl
/-- what is left over has no leads -/
theorem lo_clear : ∀ {ks : List (Nat × Nat)} (m : Nat) (l : Nat), Tri ks → m.testBit l = false → (∀ q ∈ ks, q.2.testBit l = false) → (lo ks m).testBit l = false
  | [], m, l, _, h, _ => h
  | p :: ks, m, l, T, h, hq => by
    refine lo_clear (ks := ks) (lo1 m p) l T.2.2.2 ?_ fun q hq' => hq q (List.mem_cons_of_mem _ hq')
    unfold lo1
    split
    · rw [Nat.testBit_xor, h, hq p (List.mem_cons_self ..)]; rfl
    · exact h
theorem lo_leads : ∀ {ks : List (Nat × Nat)} (m : Nat), Tri ks → ∀ p ∈ ks, (lo ks m).testBit p.1 = false
  | [], _, _, _, h => by cases h
  | p :: ks, m, T, q, hq => by
    rcases List.mem_cons.mp hq with e | e
    · subst e
      refine lo_clear (ks := ks) (lo1 m q) q.1 T.2.2.2 ?_ T.2.2.1
      unfold lo1
      split
      · rename_i z
        rw [Nat.testBit_xor, z, T.2.1]; rfl
      · rename_i z
        simpa using z
    · exact lo_leads (ks := ks) (lo1 m p) T.2.2.2 q e
/-- it differs by leads' numbers alone -/
theorem lo_dot : ∀ {ks : List (Nat × Nat)} (m y : Nat), (∀ p ∈ ks, dot p.2 y = false) → dot (lo ks m) y = dot m y
  | [], _, _, _ => rfl
  | p :: ks, m, y, h => by
    have i := lo_dot (ks := ks) (lo1 m p) y fun q hq => h q (List.mem_cons_of_mem _ hq)
    show dot (lo ks (lo1 m p)) y = _
    rw [i]
    unfold lo1
    split
    · rw [dot_xor_l, h p (List.mem_cons_self ..)]; simp
    · rfl
theorem par_put {k : Nat} (hk : k < 64) (b : Bool) : par (put k b) = b := by
  unfold put
  cases b with
  | true =>
    have := par_two hk (a := 2 ^ k)
    rw [Nat.and_self] at this
    rw [if_pos rfl, this]
    exact Nat.testBit_two_pow_self
  | false => exact par_zero
theorem put_shl (k n : Nat) (b : Bool) : put k b <<< n = put (k + n) b := by
  unfold put
  cases b with
  | true => rw [if_pos rfl, if_pos rfl, Nat.shiftLeft_eq, ← Nat.pow_add]
  | false => exact Nat.zero_shiftLeft n
theorem xor_shl (a b n : Nat) : (a ^^^ b) <<< n = (a <<< n) ^^^ (b <<< n) := by
  apply Nat.eq_of_testBit_eq
  intro i
  rw [Nat.testBit_xor, Nat.testBit_shiftLeft, Nat.testBit_shiftLeft, Nat.testBit_shiftLeft, Nat.testBit_xor]
  cases decide (i ≥ n) <;> rfl
theorem par_shl (n : Nat) : ∀ (k c : Nat), k + n ≤ 64 → c < 2 ^ k → par (c <<< n) = par c
  | 0, c, _, h => by
    have : c = 0 := by simp at h; exact h
    subst this
    rw [Nat.zero_shiftLeft]
  | k + 1, c, hk, h => by
    have h2 : c ^^^ put k (c.testBit k) < 2 ^ k := by
      apply Nat.lt_pow_two_of_testBit
      intro i hi
      rw [Nat.testBit_xor, put_bit]
      by_cases e : i = k
      · subst e; simp
      · rw [Nat.testBit_lt_two_pow (Nat.lt_of_lt_of_le h (Nat.pow_le_pow_right (by decide) (by omega)))]
        simp [e]
    have e : c = (c ^^^ put k (c.testBit k)) ^^^ put k (c.testBit k) := by rw [Nat.xor_assoc, Nat.xor_self, Nat.xor_zero]
    rw [e, xor_shl, par_xor, par_xor, put_shl, par_put (by omega), par_put (by omega), par_shl n k _ (by omega) h2]
/-- letters as one number against mirrored letters -/
theorem ltn_mrn {n : Nat} (hn : n ≤ 32) {a b : Row} (ha : a.wf n) (hb : b.wf n) : dot (ltn n a) (mrn n b) = ac a b := by
  unfold dot ltn mrn ac
  have e : (a.x ||| a.z <<< n) &&& (b.z ||| b.x <<< n) = (a.x &&& b.z) ^^^ ((a.z &&& b.x) <<< n) := by
    apply Nat.eq_of_testBit_eq
    intro i
    simp only [Nat.testBit_and, Nat.testBit_or, Nat.testBit_xor, Nat.testBit_shiftLeft]
    by_cases h : i < n
    · have : decide (i ≥ n) = false := decide_eq_false (by omega)
      simp [this]
    · have h1 : a.x.testBit i = false := Nat.testBit_lt_two_pow (Nat.lt_of_lt_of_le ha.x (Nat.pow_le_pow_right (by decide) (by omega)))
      have h2 : b.z.testBit i = false := Nat.testBit_lt_two_pow (Nat.lt_of_lt_of_le hb.z (Nat.pow_le_pow_right (by decide) (by omega)))
      have : decide (i ≥ n) = true := decide_eq_true (by omega)
      simp [this, h1, h2]
  rw [e, par_xor, par_shl n n _ (by omega) (Nat.lt_of_le_of_lt Nat.and_le_left ha.z)]
theorem tri_snoc {p : Nat × Nat} (h1 : p.1 < 64) (h2 : p.2.testBit p.1 = true) : ∀ {ks : List (Nat × Nat)}, Tri ks → (∀ q ∈ ks, p.2.testBit q.1 = false) → Tri (ks ++ [p])
  | [], _, _ => ⟨h1, h2, (fun _ h => nomatch h), trivial⟩
  | q :: ks, ⟨a, b, c, d⟩, h => ⟨a, b, fun r hr => by
      rcases List.mem_append.mp hr with e | e
      · exact c r e
      · rw [List.mem_singleton.mp e]; exact h q (List.mem_cons_self ..), tri_snoc h1 h2 d fun r hr => h r (List.mem_cons_of_mem _ hr)⟩
theorem log2_bit {m : Nat} (h : m ≠ 0) : m.testBit m.log2 = true := by
  have h1 := Nat.log2_self_le h
  have h2 := @Nat.lt_log2_self m
  rw [Nat.testBit_eq_decide_div_mod_eq]
  refine decide_eq_true ?_
  have : m / 2 ^ m.log2 = 1 := by
    refine Nat.div_eq_of_lt_le (by omega) ?_
    rw [Nat.pow_succ] at h2
    omega
  rw [this]
theorem lo1_lt {p : Nat × Nat} {m : Nat} (h : m < 2 ^ 64) (k : p.2 < 2 ^ 64) : lo1 m p < 2 ^ 64 := by
  unfold lo1
  split
  · exact Nat.xor_lt_two_pow h k
  · exact h
theorem lo_lt : ∀ {ks : List (Nat × Nat)} (m : Nat), m < 2 ^ 64 → (∀ p ∈ ks, p.2 < 2 ^ 64) → lo ks m < 2 ^ 64
  | [], _, h, _ => h
  | p :: ks, m, h, k => lo_lt (ks := ks) (lo1 m p) (lo1_lt h (k p (List.mem_cons_self ..))) fun q hq => k q (List.mem_cons_of_mem _ hq)
/-- what stands of the leads of some rows -/
structure LI (n : Nat) (rs : List Row) (ls : List (Nat × Nat)) : Prop where
  tri : Tri ls
  lt : ∀ p ∈ ls, p.2 < 2 ^ 64
  dot1 : ∀ y, (∀ r ∈ rs, dot (ltn n r) y = false) → ∀ p ∈ ls, dot p.2 y = false
  dot2 : ∀ y, (∀ p ∈ ls, dot p.2 y = false) → ∀ r ∈ rs, dot (ltn n r) y = false
theorem li_step {n : Nat} {rs : List Row} {ls : List (Nat × Nat)} {r : Row} (L : LI n rs ls) (hr : ltn n r < 2 ^ 64) (h0 : lo ls (ltn n r) ≠ 0) : LI n (rs ++ [r]) (addl n ls r) := by
  have hl := lo_lt (ltn n r) hr L.lt
  unfold addl
  refine ⟨tri_snoc (log2_lt64 hl h0) (log2_bit h0) L.tri fun q hq => lo_leads _ L.tri q hq, fun p hp => ?_, fun y hy p hp => ?_, fun y hy q hq => ?_⟩
  · rcases List.mem_append.mp hp with e | e
    · exact L.lt p e
    · rw [List.mem_singleton.mp e]; exact hl
  · have d1 := L.dot1 y fun q hq => hy q (List.mem_append_left _ hq)
    rcases List.mem_append.mp hp with e | e
    · exact d1 p e
    · rw [List.mem_singleton.mp e, lo_dot _ _ d1]
      exact hy r (List.mem_append_right _ (List.mem_singleton.mpr rfl))
  · have d1 : ∀ p ∈ ls, dot p.2 y = false := fun p hp => hy p (List.mem_append_left _ hp)
    rcases List.mem_append.mp hq with e | e
    · exact L.dot2 y d1 q e
    · rw [List.mem_singleton.mp e, ← lo_dot (ks := ls) _ _ d1]
      exact hy ((lo ls (ltn n r)).log2, lo ls (ltn n r)) (List.mem_append_right _ (List.mem_singleton.mpr rfl))
def cutR (n : Nat) (e : Row) : Row := ⟨e.m, e.x % 2 ^ n, e.z % 2 ^ n⟩
theorem cutR_wf (n : Nat) (e : Row) : (cutR n e).wf n := ⟨Nat.mod_lt _ (Nat.two_pow_pos n), Nat.mod_lt _ (Nat.two_pow_pos n)⟩
theorem and_cut {n a b : Nat} (h : a < 2 ^ n) : a &&& (b % 2 ^ n) = a &&& b := by
  apply Nat.eq_of_testBit_eq
  intro i
  rw [Nat.testBit_and, Nat.testBit_and, Nat.testBit_mod_two_pow]
  by_cases c : i < n
  · simp [c]
  · rw [Nat.testBit_lt_two_pow (Nat.lt_of_lt_of_le h (Nat.pow_le_pow_right (by decide) (by omega)))]
    simp
theorem ac_cut {n : Nat} {a : Row} (h : a.wf n) (e : Row) : ac a (cutR n e) = ac a e := by
  unfold ac cutR
  dsimp only
  rw [and_cut h.x, and_cut h.z]
theorem ltn_lt {n : Nat} (hn : n ≤ 32) {r : Row} (hr : r.wf n) : ltn n r < 2 ^ 64 := by
  unfold ltn
  have h1 : r.x < 2 ^ (n + n) := Nat.lt_of_lt_of_le hr.x (Nat.pow_le_pow_right (by decide) (by omega))
  have h2 : r.z <<< n < 2 ^ (n + n) := by
    rw [Nat.shiftLeft_eq, Nat.pow_add]
    exact Nat.mul_lt_mul_of_pos_right hr.z (Nat.two_pow_pos n)
  exact Nat.lt_of_lt_of_le (Nat.or_lt_two_pow h1 h2) (Nat.pow_le_pow_right (by decide) (by omega))
/-- rows apart and beside: their leads -/
theorem li_all {n : Nat} {rs : List Row} (hn : n ≤ 32) (hw : ∀ r ∈ rs, r.wf n) (I : Ind rs) : ∀ i, i ≤ rs.length → LI n (rs.take i) (leadsOf n (rs.take i)) ∧ ∀ r, rs[i]? = some r → lo (leadsOf n (rs.take i)) (ltn n r) ≠ 0
  | i, hi => by
    have key : LI n (rs.take i) (leadsOf n (rs.take i)) → ∀ r, rs[i]? = some r → lo (leadsOf n (rs.take i)) (ltn n r) ≠ 0 := fun L r hr h0 => by
      obtain ⟨e, he⟩ := I fun j => decide (j = i)
      have wr := hw r (List.mem_of_getElem? hr)
      have d1 : ∀ q ∈ rs.take i, dot (ltn n q) (mrn n (cutR n e)) = false := fun q hq => by
        obtain ⟨j, hj⟩ := List.mem_iff_getElem?.mp hq
        rw [List.getElem?_take] at hj
        split at hj
        · rename_i hji
          have wq := hw q (List.mem_of_getElem? hj)
          rw [ltn_mrn hn wq (cutR_wf n e), ac_cut wq, he j q hj]
          exact decide_eq_false (by omega)
        · cases hj
      have d2 := lo_dot (ltn n r) (mrn n (cutR n e)) (L.dot1 _ d1)
      rw [h0, dot_zero, ltn_mrn hn wr (cutR_wf n e), ac_cut wr, he i r hr] at d2
      have d3 : false = decide (i = i) := d2
      rw [decide_eq_true rfl] at d3
      cases d3
    refine (fun L => ⟨L, key L⟩) ?_
    cases i with
    | zero => exact ⟨trivial, (fun _ h => nomatch h), (fun _ _ _ h => nomatch h), fun _ _ _ h => nomatch h⟩
    | succ i =>
      obtain ⟨L, h0⟩ := li_all hn hw I i (by omega)
      have hr : rs[i]? = some (rs[i]'(by omega)) := List.getElem?_eq_getElem (by omega)
      have e1 : leadsOf n (rs.take (i + 1)) = addl n (leadsOf n (rs.take i)) (rs[i]'(by omega)) := fold_take hr
      rw [e1, List.take_add_one, hr]
      exact li_step L (ltn_lt hn (hw _ (List.getElem_mem _))) (h0 _ hr)
theorem bit_of_ne {m : Nat} (h : m < 2 ^ 64) (h0 : m ≠ 0) : ∃ b, b < 64 ∧ m.testBit b = true := ⟨m.log2, log2_lt64 h h0, log2_bit h0⟩
theorem code_ok {n : Nat} {rs : List Row} (h1 : 1 ≤ n) (h9 : n ≤ 9) (hw : ∀ r ∈ rs, r.wf n) (B : Bes rs) (I : Ind rs) (hl : rs.length ≤ 60) : CodeOk n rs :=
  ⟨h1, h9, hw, B, hl, fun i r hr => (li_all (by omega) hw I i (Nat.le_of_lt (List.getElem?_eq_some_iff.mp hr).1)).2 r hr⟩
/-- a number with something left over has a dual -/
theorem left_dual {n : Nat} {rs : List Row} {ls : List (Nat × Nat)} (L : LI n rs ls) {m : Nat} (hm : m < 2 ^ 64) (h0 : lo ls m ≠ 0) : ∃ y, (∀ r ∈ rs, dot (ltn n r) y = false) ∧ dot m y = true := by
  obtain ⟨b, hb, hb2⟩ := bit_of_ne (lo_lt m hm L.lt) h0
  obtain ⟨y, y1, y2⟩ := tri_dual hb hb2 L.tri fun p hp => lo_leads m L.tri p hp
  exact ⟨y, L.dot2 y y1, by rw [← lo_dot m y y1]; exact y2⟩
/-- one without is beside all that the rows are beside -/
theorem left_none {n : Nat} {rs : List Row} {ls : List (Nat × Nat)} (L : LI n rs ls) {m : Nat} (h0 : lo ls m = 0) {y : Nat} (hy : ∀ r ∈ rs, dot (ltn n r) y = false) : dot m y = false := by
  rw [← lo_dot m y (L.dot1 y hy), h0, dot_zero]
end K92
end
section
set_option autoImplicit false
/-! Equations that are solved, in plain Lean. -/
namespace K92
/-- y keeps what is kept -/
def Kp (ks : List (Nat × Nat × Bool)) (y : Nat) : Prop := ∀ t ∈ ks, dot t.2.1 y = t.2.2
theorem redk_dot : ∀ {ks : List (Nat × Nat × Bool)} (s : Nat × Bool) (y : Nat), Kp ks y → (dot (redk ks s).1 y = (redk ks s).2 ↔ dot s.1 y = s.2)
  | [], s, y, _ => Iff.rfl
  | t :: ks, s, y, h => by
    have i := redk_dot (ks := ks) (red1 s t) y fun u hu => h u (List.mem_cons_of_mem _ hu)
    show dot (redk ks (red1 s t)).1 y = (redk ks (red1 s t)).2 ↔ _
    rw [i]
    unfold red1
    split
    · show dot (s.1 ^^^ t.2.1) y = (s.2 ^^ t.2.2) ↔ _
      rw [dot_xor_l, h t (List.mem_cons_self ..)]
      cases dot s.1 y <;> cases s.2 <;> cases t.2.2 <;> simp
    · exact Iff.rfl
theorem clr1_dot {l m : Nat} {d : Bool} {t : Nat × Nat × Bool} {y : Nat} (h : dot m y = d) : dot (clr1 l m d t).2.1 y = (clr1 l m d t).2.2 ↔ dot t.2.1 y = t.2.2 := by
  unfold clr1
  split
  · show dot (t.2.1 ^^^ m) y = (t.2.2 ^^ d) ↔ _
    rw [dot_xor_l, h]
    cases dot t.2.1 y <;> cases t.2.2 <;> cases d <;> simp
  · exact Iff.rfl
theorem slv1_kp {ks : List (Nat × Nat × Bool)} {e : Nat × Bool} (h0 : (redk ks e).1 ≠ 0) {y : Nat} (h : Kp (slv1 ks e) y) : Kp ks y ∧ dot e.1 y = e.2 := by
  unfold slv1 at h
  rw [if_neg h0] at h
  have hs : dot (redk ks e).1 y = (redk ks e).2 := h ((redk ks e).1.log2, (redk ks e).1, (redk ks e).2) (List.mem_append_right _ (List.mem_singleton.mpr rfl))
  have k : Kp ks y := fun t ht => (clr1_dot hs).mp (h _ (List.mem_append_left _ (List.mem_map.mpr ⟨t, ht, rfl⟩)))
  exact ⟨k, (redk_dot e y k).mp hs⟩
/-- each kept one has its lead alone -/
structure Red (ks : List (Nat × Nat × Bool)) : Prop where
  own : ∀ t ∈ ks, t.2.1.testBit t.1 = true
  pw : ks.Pairwise fun t u => t.2.1.testBit u.1 = false ∧ u.2.1.testBit t.1 = false
theorem redk_clear : ∀ {ks : List (Nat × Nat × Bool)} (s : Nat × Bool) (l : Nat), s.1.testBit l = false → (∀ t ∈ ks, t.2.1.testBit l = false) → (redk ks s).1.testBit l = false
  | [], _, _, h, _ => h
  | t :: ks, s, l, h, hq => by
    refine redk_clear (ks := ks) (red1 s t) l ?_ fun u hu => hq u (List.mem_cons_of_mem _ hu)
    unfold red1
    split
    · show (s.1 ^^^ t.2.1).testBit l = false
      rw [Nat.testBit_xor, h, hq t (List.mem_cons_self ..)]; rfl
    · exact h
theorem Red.tail {t : Nat × Nat × Bool} {ks : List (Nat × Nat × Bool)} (R : Red (t :: ks)) : Red ks := ⟨fun u hu => R.own u (List.mem_cons_of_mem _ hu), (List.pairwise_cons.mp R.pw).2⟩
theorem redk_leads : ∀ {ks : List (Nat × Nat × Bool)} (s : Nat × Bool), Red ks → ∀ t ∈ ks, (redk ks s).1.testBit t.1 = false
  | [], _, _, _, h => nomatch h
  | t :: ks, s, R, u, hu => by
    have P := List.pairwise_cons.mp R.pw
    rcases List.mem_cons.mp hu with e | e
    · subst e
      refine redk_clear (ks := ks) (red1 s u) u.1 ?_ fun q hq => (P.1 q hq).2
      unfold red1
      split
      · rename_i z
        show (s.1 ^^^ u.2.1).testBit u.1 = false
        rw [Nat.testBit_xor, z, R.own u (List.mem_cons_self ..)]; rfl
      · rename_i z
        simpa using z
    · exact redk_leads (ks := ks) (red1 s t) R.tail u e
theorem clr1_bit {l m : Nat} {d : Bool} {t : Nat × Nat × Bool} {j : Nat} (h : m.testBit j = false) : (clr1 l m d t).2.1.testBit j = t.2.1.testBit j := by
  unfold clr1
  split
  · show (t.2.1 ^^^ m).testBit j = _
    rw [Nat.testBit_xor, h]; simp
  · rfl
theorem clr1_lead {l m : Nat} {d : Bool} {t : Nat × Nat × Bool} (h : m.testBit l = true) : (clr1 l m d t).2.1.testBit l = false := by
  unfold clr1
  split
  · rename_i z
    show (t.2.1 ^^^ m).testBit l = _
    rw [Nat.testBit_xor, h, z]; rfl
  · rename_i z
    simpa using z
theorem clr1_fst {l m : Nat} {d : Bool} {t : Nat × Nat × Bool} : (clr1 l m d t).1 = t.1 := by
  unfold clr1; split <;> rfl
theorem slv1_red {ks : List (Nat × Nat × Bool)} {e : Nat × Bool} (R : Red ks) : Red (slv1 ks e) := by
  unfold slv1
  split
  · exact R
  · rename_i h0
    have hl := log2_bit h0
    have hk := redk_leads e R
    revert h0 hl hk
    generalize redk ks e = s
    intro h0 hl hk
    refine ⟨fun t ht => ?_, List.pairwise_append.mpr ⟨?_, List.pairwise_singleton _ _, fun t ht u hu => ?_⟩⟩
    · rcases List.mem_append.mp ht with h | h
      · obtain ⟨u, h1, rfl⟩ := List.mem_map.mp h
        rw [clr1_fst, clr1_bit (hk u h1)]
        exact R.own u h1
      · rw [List.mem_singleton.mp h]; exact hl
    · rw [List.pairwise_map]
      refine R.pw.imp_of_mem fun {t u} ht hu h => ?_
      rw [clr1_fst, clr1_fst, clr1_bit (hk u hu), clr1_bit (hk t ht)]
      exact h
    · obtain ⟨t', h1, rfl⟩ := List.mem_map.mp ht
      rw [List.mem_singleton.mp hu]
      exact ⟨clr1_lead hl, by rw [clr1_fst]; exact hk t' h1⟩
theorem or_put {f k : Nat} (h : f.testBit k = false) (b : Bool) : f ||| put k b = f ^^^ put k b := by
  apply Nat.eq_of_testBit_eq
  intro i
  rw [Nat.testBit_or, Nat.testBit_xor, put_bit]
  by_cases e : i = k
  · subst e; rw [h]; simp
  · simp [e]
theorem dot_put {k : Nat} (hk : k < 64) (m : Nat) (b : Bool) : dot m (put k b) = (b && m.testBit k) := by
  unfold put
  cases b with
  | true => rw [if_pos rfl, dot_two hk]; rfl
  | false => unfold dot; simp [par_zero]
def xr (m : Nat) : List (Nat × Nat × Bool) → Bool
  | [] => false
  | t :: ks => (t.2.2 && m.testBit t.1) ^^ xr m ks
theorem sol_dot : ∀ {ks : List (Nat × Nat × Bool)} (f m : Nat), (∀ t ∈ ks, t.1 < 64) → ks.Pairwise (fun t u => t.1 ≠ u.1) → (∀ t ∈ ks, f.testBit t.1 = false) → dot m (ks.foldl sol1 f) = (dot m f ^^ xr m ks)
  | [], f, m, _, _, _ => (Bool.xor_false _).symm
  | t :: ks, f, m, hb, hp, hf => by
    have P := List.pairwise_cons.mp hp
    have h0 := hf t (List.mem_cons_self ..)
    have e : sol1 f t = f ^^^ put t.1 t.2.2 := or_put h0 _
    have i := sol_dot (ks := ks) (sol1 f t) m (fun u hu => hb u (List.mem_cons_of_mem _ hu)) P.2 fun u hu => by
      rw [e, Nat.testBit_xor, hf u (List.mem_cons_of_mem _ hu), put_bit]
      have : decide (u.1 = t.1) = false := decide_eq_false (fun z => P.1 u hu z.symm)
      rw [this]; simp
    show dot m (ks.foldl sol1 (sol1 f t)) = _
    rw [i, e, dot_xor_r, dot_put (hb t (List.mem_cons_self ..)), Bool.xor_assoc]
    rfl
theorem xr_none {m : Nat} : ∀ {ks : List (Nat × Nat × Bool)}, (∀ t ∈ ks, m.testBit t.1 = false) → xr m ks = false
  | [], _ => rfl
  | t :: ks, h => by
    unfold xr
    rw [h t (List.mem_cons_self ..), xr_none fun u hu => h u (List.mem_cons_of_mem _ hu)]
    simp
theorem xr_own : ∀ {ks : List (Nat × Nat × Bool)}, Red ks → ∀ t ∈ ks, xr t.2.1 ks = t.2.2
  | [], _, _, h => nomatch h
  | u :: ks, R, t, ht => by
    have P := List.pairwise_cons.mp R.pw
    unfold xr
    rcases List.mem_cons.mp ht with e | e
    · subst e
      rw [R.own t (List.mem_cons_self ..), xr_none fun q hq => (P.1 q hq).1]
      simp
    · rw [(P.1 t e).2, xr_own R.tail t e]
      simp
/-- the number keeps what is kept -/
theorem sol_kp {ks : List (Nat × Nat × Bool)} (R : Red ks) (hb : Kb ks) : Kp ks (sol ks) := fun t ht => by
  unfold sol
  rw [sol_dot 0 t.2.1 (fun u hu => (hb u hu).1) (R.pw.imp_of_mem fun {a b} ha _ h z => by rw [← z, R.own a ha] at h; cases h.1) (fun u _ => Nat.zero_testBit _), xr_own R t ht]
  unfold dot
  simp [par_zero]
theorem redk_dot0 : ∀ {ks : List (Nat × Nat × Bool)} (s : Nat × Bool) (y : Nat), (∀ t ∈ ks, dot t.2.1 y = false) → dot (redk ks s).1 y = dot s.1 y
  | [], _, _, _ => rfl
  | t :: ks, s, y, h => by
    have i := redk_dot0 (ks := ks) (red1 s t) y fun u hu => h u (List.mem_cons_of_mem _ hu)
    show dot (redk ks (red1 s t)).1 y = _
    rw [i]
    unfold red1
    split
    · show dot (s.1 ^^^ t.2.1) y = _
      rw [dot_xor_l, h t (List.mem_cons_self ..)]; simp
    · rfl
structure SI (ps : List (Nat × Bool)) (ks : List (Nat × Nat × Bool)) : Prop where
  red : Red ks
  kb : Kb ks
  all : ∀ y, Kp ks y → ∀ e ∈ ps, dot e.1 y = e.2
  spn : ∀ y, (∀ e ∈ ps, dot e.1 y = false) → ∀ t ∈ ks, dot t.2.1 y = false
theorem si_step {ps : List (Nat × Bool)} {ks : List (Nat × Nat × Bool)} {e : Nat × Bool} (S : SI ps ks) (he : e.1 < 2 ^ 64) (hd : ∃ y, (∀ p ∈ ps, dot p.1 y = false) ∧ dot e.1 y = true) : SI (ps ++ [e]) (slv1 ks e) := by
  obtain ⟨y0, y1, y2⟩ := hd
  have h0 : (redk ks e).1 ≠ 0 := fun z => by
    have q := redk_dot0 e y0 (S.spn y0 y1)
    rw [z, dot_zero, y2] at q
    cases q
  refine ⟨slv1_red S.red, slv1_b S.kb he, fun y hy p hp => ?_, fun y hy t ht => ?_⟩
  · obtain ⟨k1, k2⟩ := slv1_kp h0 hy
    rcases List.mem_append.mp hp with h | h
    · exact S.all y k1 p h
    · rw [List.mem_singleton.mp h]; exact k2
  · have z := S.spn y fun p hp => hy p (List.mem_append_left _ hp)
    have ze : dot e.1 y = false := hy e (List.mem_append_right _ (List.mem_singleton.mpr rfl))
    have zr : dot (redk ks e).1 y = false := by rw [redk_dot0 e y z]; exact ze
    unfold slv1 at ht
    rw [if_neg h0] at ht
    rcases List.mem_append.mp ht with h | h
    · obtain ⟨u, h1, rfl⟩ := List.mem_map.mp h
      unfold clr1
      split
      · show dot (u.2.1 ^^^ _) y = false
        rw [dot_xor_l, z u h1, zr]; rfl
      · exact z u h1
    · rw [List.mem_singleton.mp h]; exact zr
/-- equations that are apart -/
def Apart : List (Nat × Bool) → List (Nat × Bool) → Prop
  | _, [] => True
  | ps, e :: es => (∃ y, (∀ p ∈ ps, dot p.1 y = false) ∧ dot e.1 y = true) ∧ Apart (ps ++ [e]) es
theorem si_all : ∀ {es ps : List (Nat × Bool)} {ks : List (Nat × Nat × Bool)}, SI ps ks → (∀ e ∈ es, e.1 < 2 ^ 64) → Apart ps es → SI (ps ++ es) (es.foldl slv1 ks)
  | [], ps, ks, S, _, _ => by rw [List.append_nil]; exact S
  | e :: es, ps, ks, S, hb, ⟨a, b⟩ => by
    have z := si_all (es := es) (si_step S (hb e (List.mem_cons_self ..)) a) (fun u hu => hb u (List.mem_cons_of_mem _ hu)) b
    rw [List.append_assoc] at z
    exact z
theorem slv_ok {es : List (Nat × Bool)} (hb : ∀ e ∈ es, e.1 < 2 ^ 64) (a : Apart [] es) : ∀ e ∈ es, dot e.1 (sol (slv es)) = e.2 := by
  have S := si_all (es := es) (ps := []) (ks := []) ⟨⟨(fun _ h => nomatch h), List.Pairwise.nil⟩, (fun _ h => nomatch h), (fun _ _ _ h => nomatch h), fun _ _ _ h => nomatch h⟩ hb a
  exact S.all _ (sol_kp S.red S.kb)
end K92
end
section
set_option autoImplicit false
/-! What the machine of rows keeps; wrongs done and undone. -/
namespace K92
/-! ### letters are linear -/
theorem lin_actW {n : Nat} (hn : n ≤ 64) : ∀ {ws : List Dd} {a b c : Row}, (∀ d ∈ ws, d.ok n) → c.x = a.x ^^^ b.x → c.z = a.z ^^^ b.z → (actW ws c).x = (actW ws a).x ^^^ (actW ws b).x ∧ (actW ws c).z = (actW ws a).z ^^^ (actW ws b).z
  | [], a, b, c, _, hx, hz => ⟨hx, hz⟩
  | d :: ws, a, b, c, ho, hx, hz => by
    obtain ⟨h1, h2⟩ := lin_act hn (ho d (List.mem_cons_self ..)) hx hz
    exact lin_actW (ws := ws) hn (fun e he => ho e (List.mem_cons_of_mem _ he)) h1 h2
theorem act_zero (d : Dd) (t : Bool) : act d ⟨t, 0, 0⟩ = ⟨t, 0, 0⟩ := by
  cases d <;> simp [act, put]
theorem actW_zero : ∀ (ws : List Dd) (t : Bool), actW ws ⟨t, 0, 0⟩ = ⟨t, 0, 0⟩
  | [], t => rfl
  | d :: ws, t => by
    show actW ws (act d ⟨t, 0, 0⟩) = _
    rw [act_zero, actW_zero ws t]
/-- letters do not hang on the minus -/
theorem actW_letters {n : Nat} (hn : n ≤ 64) {ws : List Dd} (ho : ∀ d ∈ ws, d.ok n) {a b : Row} (hx : a.x = b.x) (hz : a.z = b.z) : (actW ws a).x = (actW ws b).x ∧ (actW ws a).z = (actW ws b).z := by
  have h := lin_actW hn (ws := ws) (a := b) (b := ⟨false, 0, 0⟩) (c := a) ho (by rw [hx, Nat.xor_zero]) (by rw [hz, Nat.xor_zero])
  rw [actW_zero] at h
  simpa using h
theorem low_xor {m z : Nat} (h : z < 2 ^ (m + 1)) (b : z.testBit m = true) : z ^^^ 2 ^ m < 2 ^ m := by
  apply Nat.lt_pow_two_of_testBit
  intro i hi
  rw [Nat.testBit_xor, Nat.testBit_two_pow]
  by_cases e : i = m
  · subst e; rw [b]; simp
  · rw [Nat.testBit_lt_two_pow (Nat.lt_of_lt_of_le h (Nat.pow_le_pow_right (by decide) (by omega)))]
    simp; omega
theorem low_lt {m z : Nat} (h : z < 2 ^ (m + 1)) (b : z.testBit m = false) : z < 2 ^ m := by
  apply Nat.lt_pow_two_of_testBit
  intro i hi
  by_cases e : i = m
  · subst e; exact b
  · exact Nat.testBit_lt_two_pow (Nat.lt_of_lt_of_le h (Nat.pow_le_pow_right (by decide) (by omega)))
/-- a row of z alone is in the span of the z rows -/
theorem z_span {Q : Nat → Nat → Prop} (l : Lin Q) : ∀ m, (∀ k, k < m → Q 0 (2 ^ k)) → ∀ z, z < 2 ^ m → Q 0 z
  | 0, _, z, h => by
    have : z = 0 := by omega
    rw [this]; exact l.zero
  | m + 1, hk, z, h => by
    have ih := z_span l m fun k q => hk k (by omega)
    cases b : z.testBit m with
    | false => exact ih z (low_lt h b)
    | true =>
      have q := l.add _ _ _ _ (ih _ (low_xor h b)) (hk m (by omega))
      rw [Nat.xor_zero, Nat.xor_assoc, Nat.xor_self, Nat.xor_zero] at q
      exact q
/-! ### good rows -/
theorem bits_of : ∀ (n : Nat) (f : Nat → Bool), ∃ a, a < 2 ^ n ∧ ∀ i, i < n → a.testBit i = f i
  | 0, f => ⟨0, by decide, fun i h => by omega⟩
  | n + 1, f => by
    obtain ⟨a, h1, h2⟩ := bits_of n f
    have e : ∀ i, i ≤ n → (a ^^^ put n (f n)).testBit i = f i := fun i hi => by
      rw [Nat.testBit_xor, put_bit]
      by_cases c : i = n
      · subst c
        rw [Nat.testBit_lt_two_pow h1]; simp
      · rw [h2 i (by omega)]; simp [c]
    exact ⟨a ^^^ put n (f n), Nat.xor_lt_two_pow (Nat.lt_trans h1 (Nat.pow_lt_pow_right (by decide) (by omega))) (put_lt (by omega) _), fun i hi => e i (by omega)⟩
def zrows (n : Nat) : List Row := (List.range n).map zrow
theorem zrows_at {n i : Nat} {r : Row} (h : (zrows n)[i]? = some r) : i < n ∧ r = zrow i := by
  unfold zrows at h
  rw [List.getElem?_map] at h
  by_cases hz : i < n
  · rw [List.getElem?_range hz] at h
    exact ⟨hz, (Option.some.inj h).symm⟩
  · rw [List.getElem?_eq_none (by simpa using hz)] at h; cases h
theorem mem_zrows {n : Nat} {r : Row} (h : r ∈ zrows n) : ∃ k, k < n ∧ r = zrow k := by
  obtain ⟨k, hk, e⟩ := List.mem_map.mp h
  exact ⟨k, List.mem_range.mp hk, e.symm⟩
theorem good_z {n : Nat} (hn : n ≤ 64) : Good n (zrows n) := by
  refine ⟨fun r h => ?_, fun a ha b hb => ?_, fun f => ?_, by unfold zrows; rw [List.length_map, List.length_range]⟩
  · obtain ⟨k, hk, rfl⟩ := mem_zrows h
    exact zrow_wf hk
  · obtain ⟨j, _, rfl⟩ := mem_zrows ha
    obtain ⟨k, _, rfl⟩ := mem_zrows hb
    exact ac_zz j k
  · obtain ⟨a, _, h2⟩ := bits_of n f
    refine ⟨⟨false, a, 0⟩, fun i r hi => ?_⟩
    obtain ⟨hz, rfl⟩ := zrows_at hi
    rw [ac_z (by omega)]
    exact h2 i hz
theorem good_map {n : Nat} (hn : n ≤ 64) {rs : List Row} (G : Good n rs) {ws : List Dd} (ho : ∀ d ∈ ws, d.ok n) : Good n (rs.map (actW ws)) := by
  refine ⟨fun r h => ?_, fun a ha b hb => ?_, fun f => ?_, by rw [List.length_map]; exact G.len⟩
  · obtain ⟨q, hq, rfl⟩ := List.mem_map.mp h
    exact wf_actW ho (G.wf q hq)
  · obtain ⟨p, hp, rfl⟩ := List.mem_map.mp ha
    obtain ⟨q, hq, rfl⟩ := List.mem_map.mp hb
    rw [ac_actW hn ho]
    exact G.bes p hp q hq
  · obtain ⟨e, he⟩ := G.ind f
    refine ⟨actW ws e, fun i r hi => ?_⟩
    rw [List.getElem?_map] at hi
    cases c : rs[i]? with
    | none => rw [c] at hi; cases hi
    | some q =>
      rw [c] at hi
      cases hi
      show ac (actW ws q) (actW ws e) = f i
      rw [ac_actW hn ho]
      exact he i q c
theorem ind_take {rs : List Row} (I : Ind rs) (m : Nat) : Ind (rs.take m) := fun f => by
  obtain ⟨e, he⟩ := I f
  refine ⟨e, fun i r hi => ?_⟩
  rw [List.getElem?_take] at hi
  split at hi
  · exact he i r hi
  · cases hi
theorem ind_letter {rs : List Row} (I : Ind rs) {r : Row} (h : r ∈ rs) : ¬ (r.x = 0 ∧ r.z = 0) := fun z => by
  obtain ⟨e, he⟩ := I fun _ => true
  obtain ⟨i, hi⟩ := List.getElem?_of_mem h
  have q := he i r hi
  rw [ac_zero z] at q
  cases q
/-! ### what a wrong's deeds do -/
def xorL : List Nat → (Nat → Bool) → Bool
  | [], _ => false
  | k :: ks, f => f k ^^ xorL ks f
theorem xorL_app (f : Nat → Bool) : ∀ (A B : List Nat), xorL (A ++ B) f = (xorL A f ^^ xorL B f)
  | [], B => by simp [xorL]
  | a :: A, B => by
    show (f a ^^ xorL (A ++ B) f) = ((f a ^^ xorL A f) ^^ xorL B f)
    rw [xorL_app f A B, Bool.xor_assoc]
theorem xorL_range (p f : Nat → Bool) : ∀ n, xorL ((List.range n).filter p) f = xorN n fun k => p k && f k
  | 0 => rfl
  | n + 1 => by
    rw [List.range_succ, List.filter_append, xorL_app, xorL_range p f n]
    show _ = (xorN n (fun k => p k && f k) ^^ (p n && f n))
    cases e : p n
    · rw [List.filter_cons_of_neg (by rw [e]; decide)]; simp [xorL]
    · rw [List.filter_cons_of_pos e]; simp [xorL]
theorem xorN_pad {f : Nat → Bool} {n : Nat} : ∀ {m}, n ≤ m → (∀ k, n ≤ k → f k = false) → xorN m f = xorN n f
  | 0, h, _ => by rw [show n = 0 by omega]
  | m + 1, h, z => by
    by_cases e : n = m + 1
    · rw [e]
    · show (xorN m f ^^ f m) = _
      rw [z m (by omega), xorN_pad (by omega) z]; simp
theorem par_list {a z N : Nat} (hN : N ≤ 64) (ha : a < 2 ^ N) : xorL ((List.range N).filter a.testBit) z.testBit = par (a &&& z) := by
  rw [xorL_range]
  unfold par
  rw [xorN_pad hN fun k hk => by rw [Nat.testBit_and, Nat.testBit_lt_two_pow (Nat.lt_of_lt_of_le ha (Nat.pow_le_pow_right (by decide) hk))]; rfl]
  exact xorN_congr fun k _ => (Nat.testBit_and ..).symm
theorem act_ovs : ∀ (ks : List Nat) (r : Row), actW (ks.map Dd.ov) r = sgn (xorL ks r.z.testBit) r
  | [], r => by unfold sgn xorL; simp [actW]
  | k :: ks, r => by
    show actW (ks.map Dd.ov) (act (.ov k) r) = _
    rw [act_ovs ks]
    unfold sgn
    show Row.mk ((r.m ^^ r.z.testBit k) ^^ xorL ks r.z.testBit) r.x r.z = _
    rw [Bool.xor_assoc]
    rfl
theorem act_qq (k : Nat) (r : Row) : actW [.qu k, .qu k] r = sgn (r.x.testBit k) r := by
  show act (.qu k) (act (.qu k) r) = _
  unfold sgn act
  have e : (r.z ^^^ put k (r.x.testBit k)).testBit k = (r.z.testBit k ^^ r.x.testBit k) := by
    rw [Nat.testBit_xor, put_bit]; simp
  show Row.mk ((r.m ^^ (r.x.testBit k && r.z.testBit k)) ^^ (r.x.testBit k && (r.z ^^^ put k (r.x.testBit k)).testBit k)) r.x ((r.z ^^^ put k (r.x.testBit k)) ^^^ put k (r.x.testBit k)) = _
  rw [e, Nat.xor_assoc, Nat.xor_self, Nat.xor_zero]
  congr 1
  cases r.m <;> cases r.x.testBit k <;> cases r.z.testBit k <;> rfl
theorem act_qqs : ∀ (ks : List Nat) (r : Row), actW (ks.flatMap fun k => [Dd.qu k, Dd.qu k]) r = sgn (xorL ks r.x.testBit) r
  | [], r => by unfold sgn xorL; simp [actW]
  | k :: ks, r => by
    show actW ([Dd.qu k, Dd.qu k] ++ ks.flatMap fun k => [Dd.qu k, Dd.qu k]) r = _
    rw [actW_app, act_qq, act_qqs ks]
    unfold sgn
    show Row.mk ((r.m ^^ r.x.testBit k) ^^ xorL ks r.x.testBit) r.x r.z = _
    rw [Bool.xor_assoc]
    rfl
theorem wrong_act {N M : Nat} (hN : N ≤ 64) (hM : M ≤ 64) {e : Row} (hx : e.x < 2 ^ N) (hz : e.z < 2 ^ M) (r : Row) : actW (((List.range N).filter e.x.testBit).map Dd.ov ++ ((List.range M).filter e.z.testBit).flatMap fun k => [Dd.qu k, Dd.qu k]) r = sgn (ac e r) r := by
  rw [actW_app, act_ovs, act_qqs]
  show sgn (xorL _ r.x.testBit) (sgn (xorL _ r.z.testBit) r) = _
  rw [par_list hN hx, par_list hM hz]
  unfold sgn ac
  show Row.mk ((r.m ^^ _) ^^ _) r.x r.z = _
  rw [Bool.xor_assoc]
theorem ac_sgn (t : Bool) (a b : Row) : ac a (sgn t b) = ac a b := rfl
theorem ac_sgn2 (t : Bool) (a b : Row) : ac (sgn t a) b = ac a b := rfl
theorem sgn_sgn (s t : Bool) (r : Row) : sgn s (sgn t r) = sgn (t ^^ s) r := by unfold sgn; simp [Bool.xor_assoc]
theorem sgn_false (r : Row) : sgn false r = r := by unfold sgn; simp
theorem sgn_mul2 (t : Bool) (a b : Row) : mul a (sgn t b) = sgn t (mul a b) := by
  unfold sgn mul qd
  show Row.mk ((a.m ^^ (b.m ^^ t)) ^^ _) _ _ = Row.mk (((a.m ^^ b.m) ^^ _) ^^ t) _ _
  congr 1
  cases a.m <;> cases b.m <;> cases t <;> simp
end K92
end
section
set_option autoImplicit false
/-! The machine's whole; looks at the code's rows; weights. -/
namespace K92
/-- rows that leave the whole as it is that D brings back to all wires up -/
def P0 (D : List Dd) (r : Row) : Prop := (actW D r).m = false ∧ (actW D r).x = 0
theorem clo_P0 {n : Nat} (hn : n ≤ 64) {D : List Dd} (ho : ∀ d ∈ D, d.ok n) : Clo n (P0 D) := fun a b ha hb pa pb hc => by
  unfold P0
  rw [mul_actW (ws := D) hn ho hc]
  refine ⟨?_, ?_⟩
  · show (((actW D a).m ^^ (actW D b).m) ^^ two (qd (actW D a) (actW D b))) = false
    have q : qd (actW D a) (actW D b) = 0 := by
      unfold qd
      rw [pa.2, pb.2]
      simp [pop_zero]
    rw [pa.1, pb.1, q]; rfl
  · show (actW D a).x ^^^ (actW D b).x = 0
    rw [pa.2, pb.2]; rfl
theorem no_P0 (D : List Dd) : ¬ P0 D ⟨true, 0, 0⟩ := fun h => by
  have q := h.1
  rw [actW_zero] at q
  cases q
/-- the same, behind a wrong -/
def P1 (D : List Dd) (e r : Row) : Prop := P0 D (sgn (ac e r) r)
theorem clo_P1 {n : Nat} (hn : n ≤ 64) {D : List Dd} (ho : ∀ d ∈ D, d.ok n) (e : Row) : Clo n (P1 D e) := fun a b ha hb pa pb hc => by
  have q := clo_P0 hn ho (sgn (ac e a) a) (sgn (ac e b) b) ⟨ha.x, ha.z⟩ ⟨hb.x, hb.z⟩ pa pb hc
  rw [sgn_mul, sgn_mul2, sgn_sgn] at q
  unfold P1
  rw [ac_mul_r, Bool.xor_comm]
  exact q
theorem no_P1 (D : List Dd) (e : Row) : ¬ P1 D e ⟨true, 0, 0⟩ := fun h => by
  unfold P1 at h
  have z : ac e ⟨true, 0, 0⟩ = false := by rw [ac_comm]; exact ac_zero ⟨rfl, rfl⟩
  rw [z, sgn_false] at h
  exact no_P0 D h
/-- what is kept behind the work made -/
def keptOf (n : Nat) (D : List Dd) : List Row := (zrows n).map (actW (inv D))
theorem good_kept {n : Nat} (hn : n ≤ 64) {D : List Dd} (ho : ∀ d ∈ D, d.ok n) : Good n (keptOf n D) := good_map hn (good_z hn) (inv_ok ho)
section
variable {n : Nat} {D : List Dd} {c : Row}
theorem kept_beside (hn : n ≤ 64) (ho : ∀ d ∈ D, d.ok n) (hc : P0 D c) {r : Row} (h : r ∈ keptOf n D) : ac r c = false := by
  obtain ⟨q, hq, rfl⟩ := List.mem_map.mp h
  obtain ⟨k, hk, rfl⟩ := mem_zrows hq
  have e : ac (actW (inv D) (zrow k)) (actW (inv D) (actW D c)) = ac (zrow k) (actW D c) := ac_actW hn (inv_ok ho)
  rw [actW_inv ho] at e
  rw [e, ac_z (by omega), hc.2, Nat.zero_testBit]
theorem kept_P0 (ho : ∀ d ∈ D, d.ok n) {r : Row} (h : r ∈ keptOf n D) : P0 D r := by
  obtain ⟨q, hq, rfl⟩ := List.mem_map.mp h
  obtain ⟨k, hk, rfl⟩ := mem_zrows hq
  unfold P0
  rw [actW_inv' ho]
  exact ⟨rfl, rfl⟩
theorem kept_span (hn : n ≤ 64) (ho : ∀ d ∈ D, d.ok n) (hw : c.wf n) (hc : P0 D c) : Spn (keptOf n D) c.x c.z := fun Q l hq => by
  have io := inv_ok ho
  have L : Lin fun x z => Q (actW (inv D) ⟨false, x, z⟩).x (actW (inv D) ⟨false, x, z⟩).z := ⟨by
    show Q (actW (inv D) ⟨false, 0, 0⟩).x (actW (inv D) ⟨false, 0, 0⟩).z
    rw [actW_zero]; exact l.zero, fun x1 z1 x2 z2 h1 h2 => by
    obtain ⟨e1, e2⟩ := lin_actW hn (ws := inv D) (a := ⟨false, x1, z1⟩) (b := ⟨false, x2, z2⟩) (c := ⟨false, x1 ^^^ x2, z1 ^^^ z2⟩) io rfl rfl
    show Q (actW (inv D) ⟨false, x1 ^^^ x2, z1 ^^^ z2⟩).x (actW (inv D) ⟨false, x1 ^^^ x2, z1 ^^^ z2⟩).z
    rw [e1, e2]
    exact l.add _ _ _ _ h1 h2⟩
  have s := z_span L n (fun k hk => hq _ (List.mem_map.mpr ⟨zrow k, List.mem_map.mpr ⟨k, List.mem_range.mpr hk, rfl⟩, rfl⟩)) (actW D c).z (wf_actW ho hw).z
  obtain ⟨e1, e2⟩ := actW_letters hn io (a := ⟨false, 0, (actW D c).z⟩) (b := actW D c) hc.2.symm rfl
  have s2 : Q (actW (inv D) ⟨false, 0, (actW D c).z⟩).x (actW (inv D) ⟨false, 0, (actW D c).z⟩).z := s
  rw [e1, e2, actW_inv ho] at s2
  exact s2
/-- a wrong done -/
def wrongd (e : Row) (rs : List Row) : List Row := rs.map fun r => sgn (ac e r) r
theorem spn_sgn {rs : List Row} {e : Row} {x z : Nat} (h : Spn rs x z) : Spn (wrongd e rs) x z := fun Q l q => h Q l fun r hr => q (sgn (ac e r) r) (List.mem_map.mpr ⟨r, hr, rfl⟩)
/-- a look at a code's row behind a wrong -/
theorem look_wi (hn : n ≤ 64) (ho : ∀ d ∈ D, d.ok n) (hw : c.wf n) (hc : P0 D c) (e : Row) : WI n (P1 D e) (c.m ^^ ac e c) (fun _ => False) (wrongd e (keptOf n D), ⟨false, c.x, c.z⟩) := by
  have G := good_kept hn ho
  refine ⟨fun r h => ?_, ⟨hw.x, hw.z⟩, fun a ha b hb => ?_, fun r h => ?_, fun r h => ?_, ?_, spn_sgn (kept_span (c := c) hn ho hw hc), fun _ z => z.elim⟩
  · obtain ⟨q, hq, rfl⟩ := List.mem_map.mp h
    exact ⟨(G.wf q hq).x, (G.wf q hq).z⟩
  · obtain ⟨p, hp, rfl⟩ := List.mem_map.mp ha
    obtain ⟨q, hq, rfl⟩ := List.mem_map.mp hb
    exact G.bes p hp q hq
  · obtain ⟨q, hq, rfl⟩ := List.mem_map.mp h
    exact kept_beside (r := q) hn ho hc hq
  · obtain ⟨q, hq, rfl⟩ := List.mem_map.mp h
    show P0 D (sgn (ac e (sgn (ac e q) q)) (sgn (ac e q) q))
    rw [ac_sgn, sgn_sgn, Bool.xor_self, sgn_false]
    exact kept_P0 ho hq
  · show P0 D (sgn (ac e c) (sgn (c.m ^^ ac e c) ⟨false, c.x, c.z⟩))
    rw [sgn_sgn]
    have : sgn ((c.m ^^ ac e c) ^^ ac e c) ⟨false, c.x, c.z⟩ = c := by
      unfold sgn
      rw [Bool.xor_assoc, Bool.xor_self]
      simp
    rw [this]
    exact hc
theorem WI.mono {Pr Pr' : Row → Prop} {t t' : Bool} {done : Bool × Nat → Prop} {s : List Row × Row} (W : WI n Pr t done s) (h : ∀ r, Pr' r) : WI n Pr' t' done s := ⟨W.wf, W.wf2, W.bes, W.bes2, fun _ _ => h _, h _, W.spn, W.clr⟩
theorem look_value (hn : n ≤ 64) (ho : ∀ d ∈ D, d.ok n) (hw : c.wf n) (hc : P0 D c) (e : Row) : (wobs (lets n) (wrongd e (keptOf n D), ⟨false, c.x, c.z⟩)).2.m = (c.m ^^ ac e c) :=
  value_ok (clo_P1 hn ho e) (no_P1 D e) (look_wi hn ho hw hc e)
end
/-- wrong and guess together -/
theorem wrongd_twice {rs : List Row} {e g : Row} (h : ∀ r ∈ rs, ac e r = ac g r) : wrongd g (wrongd e rs) = rs := by
  unfold wrongd
  rw [List.map_map]
  conv => rhs; rw [← List.map_id rs]
  refine List.map_congr_left fun r hr => ?_
  show sgn (ac g (sgn (ac e r) r)) (sgn (ac e r) r) = r
  rw [ac_sgn, sgn_sgn, h r hr, Bool.xor_self, sgn_false]
/-! ### weights -/
def wt (r : Row) : Int := pop (r.x ||| r.z)
theorem pop_or_new {a k : Nat} (hk : k < 64) (h : a.testBit k = false) : pop (a ||| 2 ^ k) = pop a + 1 := by
  have q := sumN_at1 (n := 64) hk (f := fun i => b2i ((a ||| 2 ^ k).testBit i)) (g := fun i => b2i (a.testBit i)) (fun i hi => by
    rw [Nat.testBit_or, Nat.testBit_two_pow]; simp [Ne.symm hi])
  have e1 : b2i (a.testBit k) = 0 := by rw [h]; rfl
  have e2 : b2i ((a ||| 2 ^ k).testBit k) = 1 := by rw [Nat.testBit_or, Nat.testBit_two_pow]; simp [b2i]
  unfold pop
  omega
theorem nbits_bit {a k : Nat} (h : nbits a ≤ k) : a.testBit k = false := by
  unfold nbits at h
  split at h
  · rename_i e; rw [e]; exact Nat.zero_testBit k
  · rename_i e
    exact Nat.testBit_lt_two_pow (Nat.lt_of_lt_of_le Nat.lt_log2_self (Nat.pow_le_pow_right (by decide) h))
theorem grow_wt {n : Nat} (hn : n ≤ 64) {r q : Row} (h : q ∈ grow n r) : wt q = wt r + 1 := by
  obtain ⟨k, hk, h⟩ := List.mem_flatMap.mp h
  obtain ⟨h1, h2⟩ := mem_wires.mp hk
  have b := nbits_bit h1
  have p := pop_or_new (by omega) b
  unfold grow1 at h
  unfold wt
  rcases List.mem_cons.mp h with h | h
  · subst h
    show pop ((r.x ||| 2 ^ k) ||| r.z) = _
    rw [← p]; congr 1
    rw [Nat.or_assoc, Nat.or_comm (2 ^ k), ← Nat.or_assoc]
  · rcases List.mem_cons.mp h with h | h
    · subst h
      show pop (r.x ||| (r.z ||| 2 ^ k)) = _
      rw [← p, Nat.or_assoc]
    · rw [List.mem_singleton.mp h]
      show pop ((r.x ||| 2 ^ k) ||| (r.z ||| 2 ^ k)) = _
      rw [← p]; congr 1
      apply Nat.eq_of_testBit_eq
      intro i
      simp only [Nat.testBit_or]
      cases r.x.testBit i <;> cases r.z.testBit i <;> cases (2 ^ k).testBit i <;> rfl
theorem layer_wt {n : Nat} (hn : n ≤ 64) : ∀ i, ∀ q ∈ layer n i, wt q = i
  | 0, q, h => by
    rw [List.mem_singleton.mp h]
    show pop (0 ||| 0) = 0
    rw [Nat.or_zero, pop_zero]
  | i + 1, q, h => by
    obtain ⟨r, h1, h2⟩ := List.mem_flatMap.mp h
    rw [grow_wt hn h2, layer_wt hn i r h1]
    omega
theorem xor_bit {a k i : Nat} : (a ^^^ put k (a.testBit k)).testBit i = if i = k then false else a.testBit i := by
  rw [Nat.testBit_xor, put_bit]
  by_cases e : i = k
  · subst e; simp
  · simp [e]
theorem pop_pos {a : Nat} (h : a < 2 ^ 64) (h0 : a ≠ 0) : 1 ≤ pop a := by
  have h1 := (pop_kern a (by omega) h).1
  have h2 := pop_nonneg (a &&& (a - 1))
  omega
/-- every wrong is in the layer of its weight -/
theorem layer_mem {n : Nat} (hn : n ≤ 64) : ∀ (i : Nat) (e : Row), e.wf n → e.m = false → wt e = i → e ∈ layer n i
  | 0, e, hw, hm, h => by
    have z : e.x ||| e.z = 0 := by
      apply Decidable.byContradiction
      intro q
      have := pop_pos (Nat.lt_of_lt_of_le (or_lt hw.x hw.z) (Nat.pow_le_pow_right (by decide) hn)) q
      unfold wt at h
      omega
    have z1 := Nat.or_eq_zero_iff.mp z
    show e ∈ [⟨false, 0, 0⟩]
    rw [List.mem_singleton]
    obtain ⟨m, x, y⟩ := e
    cases hm; cases z1.1; cases z1.2; rfl
  | i + 1, e, hw, hm, h => by
    have lt := or_lt hw.x hw.z
    have lt64 : e.x ||| e.z < 2 ^ 64 := Nat.lt_of_lt_of_le lt (Nat.pow_le_pow_right (by decide) hn)
    have nz : e.x ||| e.z ≠ 0 := fun z => by
      unfold wt at h
      rw [z, pop_zero] at h
      omega
    generalize hk : (e.x ||| e.z).log2 = k
    have kb : (e.x ||| e.z).testBit k = true := by rw [← hk]; exact log2_bit nz
    have kn : k < n := by rw [← hk]; exact (Nat.log2_lt nz).mpr lt
    have hi : ∀ j, k < j → (e.x ||| e.z).testBit j = false := fun j hj => Nat.testBit_lt_two_pow (Nat.lt_of_lt_of_le Nat.lt_log2_self (Nat.pow_le_pow_right (by decide) (by omega)))
    have xb : ∀ j, (e.x ^^^ put k (e.x.testBit k)).testBit j = if j = k then false else e.x.testBit j := fun j => xor_bit
    have zb : ∀ j, (e.z ^^^ put k (e.z.testBit k)).testBit j = if j = k then false else e.z.testBit j := fun j => xor_bit
    have ob : ∀ j, ((e.x ^^^ put k (e.x.testBit k)) ||| (e.z ^^^ put k (e.z.testBit k))).testBit j = if j = k then false else (e.x ||| e.z).testBit j := fun j => by
      rw [Nat.testBit_or, xb, zb, Nat.testBit_or]
      split <;> rfl
    have wf2 : Row.wf n ⟨false, e.x ^^^ put k (e.x.testBit k), e.z ^^^ put k (e.z.testBit k)⟩ := ⟨Nat.xor_lt_two_pow hw.x (put_lt kn _), Nat.xor_lt_two_pow hw.z (put_lt kn _)⟩
    have back : ((e.x ^^^ put k (e.x.testBit k)) ||| (e.z ^^^ put k (e.z.testBit k))) ||| 2 ^ k = e.x ||| e.z := by
      apply Nat.eq_of_testBit_eq
      intro j
      rw [Nat.testBit_or, ob, Nat.testBit_two_pow]
      by_cases c : j = k
      · subst c; rw [kb]; simp
      · simp [c, Ne.symm c]
    have pw := pop_or_new (a := (e.x ^^^ put k (e.x.testBit k)) ||| (e.z ^^^ put k (e.z.testBit k))) (k := k) (by omega) (by rw [ob, if_pos rfl])
    rw [back] at pw
    have ih := layer_mem hn i ⟨false, e.x ^^^ put k (e.x.testBit k), e.z ^^^ put k (e.z.testBit k)⟩ wf2 rfl (by
      unfold wt at h ⊢
      show pop ((e.x ^^^ put k (e.x.testBit k)) ||| (e.z ^^^ put k (e.z.testBit k))) = i
      omega)
    refine List.mem_flatMap.mpr ⟨_, ih, List.mem_flatMap.mpr ⟨k, mem_wires.mpr ⟨?_, kn⟩, ?_⟩⟩
    · refine nbits_le (Nat.lt_pow_two_of_testBit _ fun j hj => ?_)
      show ((e.x ^^^ put k (e.x.testBit k)) ||| (e.z ^^^ put k (e.z.testBit k))).testBit j = false
      rw [ob]
      split
      · rfl
      · exact hi j (by omega)
    · have re : ∀ a : Nat, a.testBit k = true → (a ^^^ put k (a.testBit k)) ||| 2 ^ k = a := fun a ha => by
        apply Nat.eq_of_testBit_eq
        intro j
        rw [Nat.testBit_or, xor_bit, Nat.testBit_two_pow]
        by_cases c : j = k
        · subst c; rw [ha]; simp
        · simp [c, Ne.symm c]
      have rn : ∀ a : Nat, a.testBit k = false → (a ^^^ put k (a.testBit k)) = a := fun a ha => by
        rw [ha]; exact Nat.xor_zero a
      rw [Nat.testBit_or] at kb
      obtain ⟨m, x, z⟩ := e
      cases hm
      show (⟨false, x, z⟩ : Row) ∈ grow1 ⟨false, x ^^^ put k (x.testBit k), z ^^^ put k (z.testBit k)⟩ k
      unfold grow1
      show _ ∈ [(⟨false, (x ^^^ put k (x.testBit k)) ||| 2 ^ k, z ^^^ put k (z.testBit k)⟩ : Row), ⟨false, x ^^^ put k (x.testBit k), (z ^^^ put k (z.testBit k)) ||| 2 ^ k⟩, ⟨false, (x ^^^ put k (x.testBit k)) ||| 2 ^ k, (z ^^^ put k (z.testBit k)) ||| 2 ^ k⟩]
      have kb2 : (x.testBit k || z.testBit k) = true := kb
      cases cx : x.testBit k with
      | true =>
        cases cz : z.testBit k with
        | true =>
          have r1 := re x cx
          have r2 := re z cz
          rw [cx] at r1; rw [cz] at r2
          rw [r1, r2]; simp
        | false =>
          have r1 := re x cx
          have r2 := rn z cz
          rw [cx] at r1; rw [cz] at r2
          rw [r1, r2]; simp
      | false =>
        cases cz : z.testBit k with
        | true =>
          have r1 := rn x cx
          have r2 := re z cz
          rw [cx] at r1; rw [cz] at r2
          rw [r1, r2]; simp
        | false => rw [cx, cz] at kb2; cases kb2
theorem wrs_succ (n m : Nat) : wrs n (m + 1) = wrs n m ++ layer n (m + 1) := by
  unfold wrs
  rw [List.range_succ, List.flatMap_append]
  simp
theorem wrs_wt {n : Nat} (hn : n ≤ 64) {m : Nat} {q : Row} (h : q ∈ wrs n m) : wt q ≤ m := by
  obtain ⟨i, hi, h2⟩ := List.mem_flatMap.mp h
  have := List.mem_range.mp hi
  rw [layer_wt hn i q h2]
  omega
theorem wrs_mem {n : Nat} (hn : n ≤ 64) {m : Nat} {e : Row} (hw : e.wf n) (hm : e.m = false) (h : wt e ≤ m) : e ∈ wrs n m := by
  have p := pop_nonneg (e.x ||| e.z)
  have hz : wt e = ((wt e).toNat : Nat) := by unfold wt at *; omega
  exact List.mem_flatMap.mpr ⟨(wt e).toNat, List.mem_range.mpr (by omega), layer_mem hn _ e hw hm hz⟩
/-- the first one is a lightest one -/
theorem wrs_first {n : Nat} (hn : n ≤ 64) {p : Row → Bool} : ∀ {m : Nat} {g e : Row}, (wrs n m).find? p = some g → e ∈ wrs n m → p e = true → wt g ≤ wt e
  | 0, g, e, h, he, hp => by
    have a1 := wrs_wt hn (List.mem_of_find?_eq_some h)
    have := pop_nonneg (e.x ||| e.z)
    have e0 : (0 : Int) ≤ wt e := this
    omega
  | m + 1, g, e, h, he, hp => by
    rw [wrs_succ] at h he
    rw [List.find?_append] at h
    cases c : (wrs n m).find? p with
    | some g' =>
      rw [c] at h
      cases h
      rcases List.mem_append.mp he with h1 | h1
      · exact wrs_first hn c h1 hp
      · have a1 := wrs_wt hn (List.mem_of_find?_eq_some c)
        rw [layer_wt hn _ e h1]
        omega
    | none =>
      rw [c] at h
      have h2 : (layer n (m + 1)).find? p = some g := h
      have a1 := layer_wt hn _ g (List.mem_of_find?_eq_some h2)
      rcases List.mem_append.mp he with h1 | h1
      · have := List.find?_eq_none.mp c e h1
        exact absurd hp this
      · rw [a1, layer_wt hn _ e h1]
        exact Int.le_refl _
theorem wt_le_n {n : Nat} (hn : n ≤ 64) {e : Row} (hw : e.wf n) : wt e ≤ n := by
  have q : ∀ (m a : Nat), sumN m (fun k => b2i (a.testBit k)) ≤ m := fun m a => by
    induction m with
    | zero => simp [sumN]
    | succ m ih =>
      simp only [sumN]
      have : b2i (a.testBit m) ≤ 1 := by cases a.testBit m <;> decide
      omega
  have pad : ∀ (m a : Nat), n ≤ m → a < 2 ^ n → sumN m (fun k => b2i (a.testBit k)) = sumN n (fun k => b2i (a.testBit k)) := fun m a h1 h2 => by
    induction m with
    | zero => rw [show n = 0 by omega]
    | succ m ih =>
      by_cases c : n = m + 1
      · rw [c]
      · simp only [sumN]
        rw [ih (by omega), Nat.testBit_lt_two_pow (Nat.lt_of_lt_of_le h2 (Nat.pow_le_pow_right (by decide) (by omega)))]
        simp [b2i]
  unfold wt pop
  rw [pad 64 _ hn (or_lt hw.x hw.z)]
  exact q n _
end K92
end
section
set_option autoImplicit false
/-! The row that shows that two wrongs part; wrongs drawn; codes known. -/
namespace K92
theorem dot_comm (a b : Nat) : dot a b = dot b a := by unfold dot; rw [Nat.and_comm]
def KbN (N : Nat) (ks : List (Nat × Nat × Bool)) : Prop := ∀ t ∈ ks, t.1 < N ∧ t.2.1 < 2 ^ N
theorem redk_ltN {N : Nat} : ∀ {ks : List (Nat × Nat × Bool)} {s : Nat × Bool}, KbN N ks → s.1 < 2 ^ N → (redk ks s).1 < 2 ^ N
  | [], _, _, h => h
  | t :: ks, s, hk, h => redk_ltN (ks := ks) (s := red1 s t) (fun t ht => hk t (List.mem_cons_of_mem _ ht)) (by
    unfold red1
    split
    · exact Nat.xor_lt_two_pow h (hk t (List.mem_cons_self ..)).2
    · exact h)
theorem slv1_bN {N : Nat} {ks : List (Nat × Nat × Bool)} {e : Nat × Bool} (hk : KbN N ks) (he : e.1 < 2 ^ N) : KbN N (slv1 ks e) := by
  unfold slv1
  have hr := redk_ltN hk he
  split
  · exact hk
  · rename_i h0
    intro t ht
    rcases List.mem_append.mp ht with h | h
    · obtain ⟨u, h1, rfl⟩ := List.mem_map.mp h
      unfold clr1
      split
      · exact ⟨(hk u h1).1, Nat.xor_lt_two_pow (hk u h1).2 hr⟩
      · exact hk u h1
    · rw [List.mem_singleton.mp h]
      exact ⟨(Nat.log2_lt h0).mpr hr, hr⟩
theorem slv_bN {N : Nat} : ∀ {es : List (Nat × Bool)} {ks : List (Nat × Nat × Bool)}, (∀ e ∈ es, e.1 < 2 ^ N) → KbN N ks → KbN N (es.foldl slv1 ks)
  | [], ks, _, hk => hk
  | e :: es, ks, he, hk => slv_bN (es := es) (ks := slv1 ks e) (fun e h => he e (List.mem_cons_of_mem _ h)) (slv1_bN hk (he e (List.mem_cons_self ..)))
theorem sol_ltN {N : Nat} : ∀ {ks : List (Nat × Nat × Bool)} {f : Nat}, KbN N ks → f < 2 ^ N → ks.foldl sol1 f < 2 ^ N
  | [], f, _, h => h
  | t :: ks, f, hk, h => sol_ltN (ks := ks) (f := sol1 f t) (fun t ht => hk t (List.mem_cons_of_mem _ ht)) (Nat.or_lt_two_pow h (put_lt (hk t (List.mem_cons_self ..)).1 _))
theorem apart_of : ∀ {es ps : List (Nat × Bool)}, (∀ (i : Nat) (e : Nat × Bool), es[i]? = some e → ∃ y, (∀ p ∈ ps, dot p.1 y = false) ∧ (∀ (j : Nat) (p : Nat × Bool), j < i → es[j]? = some p → dot p.1 y = false) ∧ dot e.1 y = true) → Apart ps es
  | [], ps, _ => trivial
  | e :: es, ps, h => by
    refine ⟨?_, apart_of (es := es) fun i u hu => ?_⟩
    · obtain ⟨y, h1, _, h3⟩ := h 0 e rfl
      exact ⟨y, h1, h3⟩
    · obtain ⟨y, h1, h2, h3⟩ := h (i + 1) u hu
      refine ⟨y, fun p hp => ?_, fun j p hj hp => h2 (j + 1) p (by omega) hp, h3⟩
      rcases List.mem_append.mp hp with q | q
      · exact h1 p q
      · rw [List.mem_singleton.mp q]
        exact h2 0 e (by omega) rfl
theorem ltn_ltN {n : Nat} {r : Row} (hr : r.wf n) : ltn n r < 2 ^ (n + n) := by
  unfold ltn
  refine Nat.or_lt_two_pow (Nat.lt_of_lt_of_le hr.x (Nat.pow_le_pow_right (by decide) (by omega))) ?_
  rw [Nat.shiftLeft_eq, Nat.pow_add]
  exact Nat.mul_lt_mul_of_pos_right hr.z (Nat.two_pow_pos n)
theorem mrn_is (n : Nat) (r : Row) : mrn n r = ltn n ⟨r.m, r.z, r.x⟩ := rfl
theorem mrn_ltN {n : Nat} {r : Row} (hr : r.wf n) : mrn n r < 2 ^ (n + n) := by
  rw [mrn_is]
  exact ltn_ltN ⟨hr.z, hr.x⟩
theorem parts_is (n y : Nat) : (y % 2 ^ n) ||| ((y >>> n) % 2 ^ n) <<< n = y % 2 ^ (n + n) := by
  apply Nat.eq_of_testBit_eq
  intro i
  rw [Nat.testBit_or, Nat.testBit_mod_two_pow, Nat.testBit_shiftLeft, Nat.testBit_mod_two_pow, Nat.testBit_shiftRight, Nat.testBit_mod_two_pow]
  by_cases h : i < n
  · have h2 : ¬ n ≤ i := by omega
    simp [h, h2, show i < n + n by omega]
  · have e : n + (i - n) = i := by omega
    rw [e]
    simp [h, show n ≤ i by omega]
    by_cases h3 : i < n + n
    · simp [h3, show i - n < n by omega]
    · simp [h3, show ¬ (i - n < n) by omega]
/-- the row that shows it -/
theorem show_ok {n : Nat} {rs : List Row} {b : Row} (hn : n ≤ 9) (hw : ∀ r ∈ rs, r.wf n) (I : Ind rs) (hb : b.wf n) (h0 : lo (leadsOf n rs) (ltn n b) ≠ 0) :
    sol (slv (rs.map (fun r => (mrn n r, false)) ++ [(mrn n b, true)])) < 2 ^ (n + n) ∧
    (∀ r ∈ rs, ac ⟨false, sol (slv (rs.map (fun r => (mrn n r, false)) ++ [(mrn n b, true)])) % 2 ^ n, sol (slv (rs.map (fun r => (mrn n r, false)) ++ [(mrn n b, true)])) >>> n⟩ r = false) ∧
    ac ⟨false, sol (slv (rs.map (fun r => (mrn n r, false)) ++ [(mrn n b, true)])) % 2 ^ n, sol (slv (rs.map (fun r => (mrn n r, false)) ++ [(mrn n b, true)])) >>> n⟩ b = true := by
  have L : LI n rs (leadsOf n rs) := by
    have q := (li_all (by omega) hw I rs.length (Nat.le_refl _)).1
    rw [List.take_length] at q
    exact q
  have h64 : 2 ^ (n + n) ≤ 2 ^ 64 := Nat.pow_le_pow_right (by decide) (by omega)
  obtain ⟨y, y1, y2⟩ := left_dual L (ltn_lt (by omega) hb) h0
  -- the dual's halves exchanged
  let Y : Row := ⟨false, (y >>> n) % 2 ^ n, y % 2 ^ n⟩
  have Yw : Y.wf n := ⟨Nat.mod_lt _ (Nat.two_pow_pos n), Nat.mod_lt _ (Nat.two_pow_pos n)⟩
  have ym : mrn n Y = y % 2 ^ (n + n) := parts_is n y
  have yd : ∀ r : Row, r.wf n → dot (mrn n r) (ltn n Y) = dot (ltn n r) y := fun r hr => by
    rw [dot_comm, ltn_mrn (by omega) Yw hr, ac_comm, ← ltn_mrn (by omega) hr Yw, ym]
    unfold dot
    rw [and_cut (ltn_ltN hr)]
  generalize hes : rs.map (fun r => (mrn n r, false)) ++ [(mrn n b, true)] = es
  have at1 : ∀ (i : Nat) (e : Nat × Bool), es[i]? = some e → (∃ r, rs[i]? = some r ∧ e = (mrn n r, false)) ∨ (i = rs.length ∧ e = (mrn n b, true)) := fun i e h => by
    rw [← hes] at h
    by_cases c : i < rs.length
    · rw [List.getElem?_append_left (by rw [List.length_map]; exact c), List.getElem?_map] at h
      rw [List.getElem?_eq_getElem c] at h
      exact .inl ⟨rs[i], List.getElem?_eq_getElem c, (Option.some.inj h).symm⟩
    · rw [List.getElem?_append_right (by rw [List.length_map]; omega), List.length_map] at h
      have z : i - rs.length = 0 := by
        have := (List.getElem?_eq_some_iff.mp h).1
        simpa using this
      rw [z] at h
      exact .inr ⟨by omega, (Option.some.inj h).symm⟩
  have mb : ∀ e ∈ es, e.1 < 2 ^ (n + n) := fun e he => by
    obtain ⟨i, hi⟩ := List.getElem?_of_mem he
    rcases at1 i e hi with ⟨r, hr, rfl⟩ | ⟨_, rfl⟩
    · exact mrn_ltN (hw r (List.mem_of_getElem? hr))
    · exact mrn_ltN hb
  have ap : Apart [] es := apart_of fun i e he => by
    rcases at1 i e he with ⟨r, hr, rfl⟩ | ⟨hi, rfl⟩
    · obtain ⟨E, hE⟩ := I fun j => decide (j = i)
      have ed : ∀ (j : Nat) (q : Row), rs[j]? = some q → dot (mrn n q) (ltn n (cutR n E)) = decide (j = i) := fun j q hq => by
        have qw := hw q (List.mem_of_getElem? hq)
        rw [dot_comm, ltn_mrn (by omega) (cutR_wf n E) qw, ac_comm, ac_cut qw]
        exact hE j q hq
      refine ⟨ltn n (cutR n E), (fun p hp => nomatch hp), fun j p hj hp => ?_, ?_⟩
      · rcases at1 j p hp with ⟨q, hq, rfl⟩ | ⟨hi, rfl⟩
        · show dot (mrn n q) _ = false
          rw [ed j q hq]
          exact decide_eq_false (by omega)
        · have := (List.getElem?_eq_some_iff.mp hr).1
          omega
      · show dot (mrn n r) _ = true
        rw [ed i r hr]
        exact decide_eq_true rfl
    · refine ⟨ltn n Y, (fun p hp => nomatch hp), fun j p hj hp => ?_, ?_⟩
      · rcases at1 j p hp with ⟨q, hq, rfl⟩ | ⟨hi2, rfl⟩
        · have qm := List.mem_of_getElem? hq
          show dot (mrn n q) _ = false
          rw [yd q (hw q qm)]
          exact y1 q qm
        · omega
      · show dot (mrn n b) _ = true
        rw [yd b hb]
        exact y2
  have sv := slv_ok (fun e he => Nat.lt_of_lt_of_le (mb e he) h64) ap
  have sl : sol (slv es) < 2 ^ (n + n) := sol_ltN (f := 0) (slv_bN mb fun _ h => nomatch h) (Nat.two_pow_pos _)
  generalize sol (slv es) = s at sv sl
  have hi : s >>> n < 2 ^ n := by
    rw [Nat.shiftRight_eq_div_pow]
    refine Nat.div_lt_of_lt_mul ?_
    rw [← Nat.pow_add]; exact sl
  have sw : Row.wf n ⟨false, s % 2 ^ n, s >>> n⟩ := ⟨Nat.mod_lt _ (Nat.two_pow_pos n), hi⟩
  have ls : ltn n ⟨false, s % 2 ^ n, s >>> n⟩ = s := by
    have q := parts_is n s
    rw [Nat.mod_eq_of_lt hi, Nat.mod_eq_of_lt sl] at q
    exact q
  have fin : ∀ r : Row, r.wf n → ac ⟨false, s % 2 ^ n, s >>> n⟩ r = dot (mrn n r) s := fun r hr => by
    rw [← ltn_mrn (by omega) sw hr, ls, dot_comm]
  refine ⟨sl, fun r hr => ?_, ?_⟩
  · rw [fin r (hw r hr)]
    exact sv (mrn n r, false) (by rw [← hes]; exact List.mem_append_left _ (List.mem_map.mpr ⟨r, hr, rfl⟩))
  · rw [fin b hb]
    exact sv (mrn n b, true) (by rw [← hes]; exact List.mem_append_right _ (List.mem_singleton.mpr rfl))
/-! ### wrongs drawn -/
/-- the bit k made p -/
def setb (a k : Nat) (p : Bool) : Nat := (a ^^^ put k (a.testBit k)) ||| put k p
theorem setb_bit (a k i : Nat) (p : Bool) : (setb a k p).testBit i = if i = k then p else a.testBit i := by
  unfold setb
  rw [Nat.testBit_or, xor_bit, put_bit]
  by_cases c : i = k <;> simp [c]
theorem setb_lt {a k n : Nat} (h : a < 2 ^ n) (hk : k < n) (p : Bool) : setb a k p < 2 ^ n := Nat.or_lt_two_pow (Nat.xor_lt_two_pow h (put_lt hk _)) (put_lt hk _)
def drawn1 (s : Nat × Nat) (t : Nat × Bool × Bool) : Nat × Nat := (setb s.1 t.1 t.2.1, setb s.2 t.1 t.2.2)
theorem drawn_wt {a b k : Nat} (p q : Bool) : pop (setb a k p ||| setb b k q) ≤ pop (a ||| b) + 1 := by
  by_cases hk : k < 64
  · have h := sumN_at1 (n := 64) hk (f := fun i => b2i ((setb a k p ||| setb b k q).testBit i)) (g := fun i => b2i ((a ||| b).testBit i)) (fun i hi => by
      rw [Nat.testBit_or, setb_bit, setb_bit, if_neg hi, if_neg hi, Nat.testBit_or])
    have c1 : b2i ((setb a k p ||| setb b k q).testBit k) ≤ 1 := by cases (setb a k p ||| setb b k q).testBit k <;> decide
    have c2 : 0 ≤ b2i ((a ||| b).testBit k) := by cases (a ||| b).testBit k <;> decide
    unfold pop
    omega
  · have e : pop (setb a k p ||| setb b k q) = pop (a ||| b) := sumN_congr fun i hi => by
      rw [Nat.testBit_or, setb_bit, setb_bit, if_neg (by omega), if_neg (by omega), Nat.testBit_or]
    omega
def drawnW (ts : List (Nat × Bool × Bool)) : Row := ⟨false, (ts.foldl drawn1 (0, 0)).1, (ts.foldl drawn1 (0, 0)).2⟩
theorem drawn_fold {n : Nat} : ∀ (ts : List (Nat × Bool × Bool)) (s : Nat × Nat), (∀ t ∈ ts, t.1 < n) → s.1 < 2 ^ n ∧ s.2 < 2 ^ n → ((ts.foldl drawn1 s).1 < 2 ^ n ∧ (ts.foldl drawn1 s).2 < 2 ^ n) ∧ pop ((ts.foldl drawn1 s).1 ||| (ts.foldl drawn1 s).2) ≤ pop (s.1 ||| s.2) + ts.length
  | [], s, _, h => ⟨h, by simp⟩
  | t :: ts, s, ht, h => by
    have hk := ht t (List.mem_cons_self ..)
    obtain ⟨h1, h2⟩ := drawn_fold ts (drawn1 s t) (fun u hu => ht u (List.mem_cons_of_mem _ hu)) ⟨setb_lt h.1 hk _, setb_lt h.2 hk _⟩
    refine ⟨h1, ?_⟩
    have h3 : pop ((drawn1 s t).1 ||| (drawn1 s t).2) ≤ pop (s.1 ||| s.2) + 1 := drawn_wt _ _
    show pop ((ts.foldl drawn1 (drawn1 s t)).1 ||| (ts.foldl drawn1 (drawn1 s t)).2) ≤ _
    rw [List.length_cons]
    omega
theorem drawn_ok {n : Nat} {ts : List (Nat × Bool × Bool)} (h : ∀ t ∈ ts, t.1 < n) : (drawnW ts).wf n ∧ (drawnW ts).m = false ∧ wt (drawnW ts) ≤ ts.length := by
  obtain ⟨h1, h2⟩ := drawn_fold (n := n) ts (0, 0) h ⟨Nat.two_pow_pos n, Nat.two_pow_pos n⟩
  refine ⟨⟨h1.1, h1.2⟩, rfl, ?_⟩
  have e : pop (((0, 0) : Nat × Nat).1 ||| ((0, 0) : Nat × Nat).2) = 0 := by
    show pop (0 ||| 0) = 0
    rw [Nat.or_zero, pop_zero]
  rw [e] at h2
  show pop ((ts.foldl drawn1 (0, 0)).1 ||| (ts.foldl drawn1 (0, 0)).2) ≤ _
  omega
/-! ### rows apart by duals -/
def combR : List Row → List Bool → Row
  | e :: es, b :: bs => if b = true then mul e (combR es bs) else combR es bs
  | _, _ => ⟨false, 0, 0⟩
theorem comb_ac (r : Row) : ∀ (es : List Row) (f : Nat → Bool) (b : Nat), (ac r (combR es ((List.range es.length).map fun i => f (b + i)))) = xorN es.length fun i => f (b + i) && ((es[i]?).map (ac r)).getD false
  | [], f, b => by
    show ac r ⟨false, 0, 0⟩ = false
    rw [ac_comm]; exact ac_zero ⟨rfl, rfl⟩
  | e :: es, f, b => by
    have ih := comb_ac r es f (b + 1)
    rw [List.length_cons, List.range_succ_eq_map, List.map_cons, List.map_map]
    have e1 : (List.range es.length).map ((fun i => f (b + i)) ∘ Nat.succ) = (List.range es.length).map fun i => f (b + 1 + i) := List.map_congr_left fun i _ => by
      show f (b + (i + 1)) = _
      congr 1; omega
    rw [e1]
    have hd : ∀ (n : Nat) (g : Nat → Bool), xorN (n + 1) g = (g 0 ^^ xorN n fun k => g (k + 1)) := fun n g => by
      induction n with
      | zero => simp [xorN]
      | succ n ihn =>
        show (xorN (n + 1) g ^^ g (n + 1)) = (g 0 ^^ (xorN n (fun k => g (k + 1)) ^^ g (n + 1)))
        rw [ihn, Bool.xor_assoc]
    rw [hd]
    have e2 : (xorN es.length fun k => f (b + (k + 1)) && (((e :: es)[k + 1]?).map (ac r)).getD false) = xorN es.length fun i => f (b + 1 + i) && ((es[i]?).map (ac r)).getD false := xorN_congr fun k _ => by
      rw [List.getElem?_cons_succ]
      congr 2; omega
    rw [e2, ← ih]
    show ac r (if f (b + 0) = true then mul e _ else _) = ((f (b + 0) && ac r e) ^^ _)
    cases c : f (b + 0)
    · simp
    · simp [ac_mul_r]
theorem ind_duals {rs es : List Row} (hl : es.length = rs.length) (h : ∀ (i j : Nat) (r e : Row), rs[i]? = some r → es[j]? = some e → ac r e = decide (i = j)) : Ind rs := fun f => by
  refine ⟨combR es ((List.range es.length).map fun i => f (0 + i)), fun i r hi => ?_⟩
  have hz := (List.getElem?_eq_some_iff.mp hi).1
  rw [comb_ac r es f 0]
  have q := xorN_at1 (n := es.length) (k := i) (by omega) (f := fun j => f (0 + j) && ((es[j]?).map (ac r)).getD false) (g := fun _ => false) (fun j hj => by
    show (f (0 + j) && ((es[j]?).map (ac r)).getD false) = false
    cases c : es[j]? with
    | none => simp
    | some e =>
      show (f (0 + j) && ac r e) = false
      rw [h i j r e hi c, decide_eq_false (Ne.symm hj)]; simp)
  rw [xorN_false] at q
  have c : es[i]? = some (es[i]'(by omega)) := List.getElem?_eq_getElem (by omega)
  have d : (f (0 + i) && ((es[i]?).map (ac r)).getD false) = f i := by
    rw [c]
    show (f (0 + i) && ac r _) = f i
    rw [h i i r _ hi c, Nat.zero_add]
    simp
  have q2 := q
  rw [d] at q2
  simpa using q2
end K92
end
section
set_option autoImplicit false
/-! The codes known. -/
namespace K92
def chk (n : Nat) (rs es : List Row) : Bool := (rs.length == n) && ((es.length == n) && ((rs.all fun r => decide (r.x < 2 ^ n) && decide (r.z < 2 ^ n)) && ((rs.all fun a => rs.all fun b => !ac a b) && rs.zipIdx.all fun p => es.zipIdx.all fun q => ac p.1 q.1 == decide (p.2 = q.2))))
theorem good_chk {n : Nat} {rs es : List Row} (h : chk n rs es = true) : Good n rs := by
  unfold chk at h
  simp only [Bool.and_eq_true, List.all_eq_true, decide_eq_true_eq, beq_iff_eq, Bool.not_eq_true'] at h
  obtain ⟨h1, h2, h3, h4, h5⟩ := h
  refine ⟨fun r hr => ⟨(h3 r hr).1, (h3 r hr).2⟩, fun a ha b hb => h4 a ha b hb, ind_duals (es := es) (by rw [h1, h2]) fun i j r e hi hj => ?_, h1⟩
  have q := h5 (r, i) (List.mk_mem_zipIdx_iff_getElem?.mpr hi) (e, j) (List.mk_mem_zipIdx_iff_getElem?.mpr hj)
  exact q
def kn5 : List Row := [⟨false, 9, 6⟩, ⟨false, 18, 12⟩, ⟨false, 5, 24⟩, ⟨false, 10, 17⟩]
def kl5 : Row := ⟨false, 0, 31⟩
def kd5 : List Row := [⟨false, 0, 26⟩, ⟨false, 0, 16⟩, ⟨false, 0, 4⟩, ⟨false, 0, 18⟩, ⟨false, 16, 22⟩]
theorem kg5 : Good 5 (kn5 ++ [kl5]) := good_chk (es := kd5) (by decide +kernel)
def kn7 : List Row := [⟨false, 120, 0⟩, ⟨false, 102, 0⟩, ⟨false, 85, 0⟩, ⟨false, 0, 120⟩, ⟨false, 0, 102⟩, ⟨false, 0, 85⟩]
def kl7 : Row := ⟨false, 0, 127⟩
def kd7 : List Row := [⟨false, 0, 112⟩, ⟨false, 0, 80⟩, ⟨false, 0, 96⟩, ⟨false, 68, 0⟩, ⟨false, 80, 0⟩, ⟨false, 96, 0⟩, ⟨false, 52, 0⟩]
theorem kg7 : Good 7 (kn7 ++ [kl7]) := good_chk (es := kd7) (by decide +kernel)
def kn9 : List Row := [⟨false, 0, 3⟩, ⟨false, 0, 6⟩, ⟨false, 0, 24⟩, ⟨false, 0, 48⟩, ⟨false, 0, 192⟩, ⟨false, 0, 384⟩, ⟨false, 63, 0⟩, ⟨false, 504, 0⟩]
def kl9 : Row := ⟨false, 511, 0⟩
def kd9 : List Row := [⟨false, 6, 0⟩, ⟨false, 4, 0⟩, ⟨false, 48, 0⟩, ⟨false, 32, 0⟩, ⟨false, 384, 0⟩, ⟨false, 256, 0⟩, ⟨false, 0, 288⟩, ⟨false, 0, 36⟩, ⟨false, 0, 292⟩]
theorem kg9 : Good 9 (kn9 ++ [kl9]) := good_chk (es := kd9) (by decide +kernel)
end K92
end
section
set_option autoImplicit false
/-! What the law draws off the script. -/
namespace K92
def bigE : Int := 10 ^ 40
def bigO : Int := 10 ^ 40 + 121
/-- a number's own digits -/
def evR (r : Int) : Nat → Int
  | 0 => r
  | i + 1 => evR r i / 10 ^ 40
/-- a number mixed -/
def odN (r : Int) : Nat → Int
  | 0 => r
  | i + 1 => (odN r i * odN r i + 48271 * odN r i + (i : Nat)) % (10 ^ 40 + 121)
def evs (r : Int) (m : Nat) : List Int := (List.range m).map fun j => evR r j % 10 ^ 40
def ods (r : Int) (m : Nat) : List Int := (List.range m).map fun j => odN r (j + 1)
def strm (c : Int) (m : Nat) : List Int := if c % 2 = 0 then evs (c / 2) m else (ods (c % (10 ^ 40 + 121) + 48271) (m + 4)).drop 4
theorem evs_len (r : Int) (m : Nat) : (evs r m).length = m := by unfold evs; rw [List.length_map, List.length_range]
theorem ods_len (r : Int) (m : Nat) : (ods r m).length = m := by unfold ods; rw [List.length_map, List.length_range]
theorem evs_succ (r : Int) (m : Nat) : evs r (m + 1) = evs r m ++ [evR r m % 10 ^ 40] := by unfold evs; rw [List.range_succ, List.map_append]; rfl
theorem ods_succ (r : Int) (m : Nat) : ods r (m + 1) = ods r m ++ [odN r (m + 1)] := by unfold ods; rw [List.range_succ, List.map_append]; rfl
theorem strm_len (c : Int) (m : Nat) : (strm c m).length = m := by
  unfold strm
  split
  · exact evs_len _ _
  · rw [List.length_drop, ods_len]; omega
theorem od_bound (r : Int) (h0 : 0 ≤ r) (h : r < 2 ^ 134) : ∀ i, 0 ≤ odN r i ∧ odN r i < 2 ^ 134
  | 0 => ⟨h0, h⟩
  | i + 1 => by
    unfold odN
    have p : (0 : Int) < 10 ^ 40 + 121 := by decide
    have q : (10 : Int) ^ 40 + 121 ≤ 2 ^ 134 := by decide
    exact ⟨Int.emod_nonneg _ (by omega), Int.lt_of_lt_of_le (Int.emod_lt_of_pos _ p) q⟩
theorem od_start (c : Int) : 0 ≤ c % (10 ^ 40 + 121) + 48271 ∧ c % (10 ^ 40 + 121) + 48271 < 2 ^ 134 := by
  have p : (0 : Int) < 10 ^ 40 + 121 := by decide
  have q : (10 : Int) ^ 40 + 121 + 48271 ≤ 2 ^ 134 := by decide
  have h1 := Int.emod_nonneg c (show (10 : Int) ^ 40 + 121 ≠ 0 by omega)
  have h2 := Int.emod_lt_of_pos c p
  generalize c % (10 ^ 40 + 121) = z at *
  generalize (10 : Int) ^ 40 = y at *
  generalize (2 : Int) ^ 134 = w at *
  omega
theorem strm_nonneg {c : Int} {m : Nat} : ∀ x ∈ strm c m, 0 ≤ x := fun x h => by
  unfold strm at h
  split at h
  · obtain ⟨j, _, rfl⟩ := List.mem_map.mp h
    exact Int.emod_nonneg _ (by decide)
  · obtain ⟨j, _, rfl⟩ := List.mem_map.mp (List.mem_of_mem_drop h)
    exact (od_bound _ (od_start c).1 (od_start c).2 _).1
theorem strm_nat {c : Int} {m : Nat} : ∀ x ∈ strm c m, ∃ X : Nat, x = X := fun x h => ⟨x.toNat, by have := strm_nonneg x h; omega⟩
/-! deeds drawn -/
def dj (X n : Nat) : Nat := X / 8 % n
def dk (X n : Nat) : Nat := (dj X n + 1 + X / 512 % (max 1 (n - 1))) % n
def deedX (X n : Nat) : Dd := match X % 8 with
  | 0 => .ov (dj X n)
  | 1 => .qu (dj X n)
  | 2 => .ba (dj X n)
  | 3 => .bo (dj X n)
  | 4 => .bo (dj X n)
  | 5 => if n = 1 then .bo 0 else .wh (dj X n) (dk X n)
  | 6 => if n = 1 then .bo 0 else .wh (dj X n) (dk X n)
  | _ => if n = 1 then .bo 0 else .sw (dj X n) (dk X n)
theorem dk_ne {X n : Nat} (h : 2 ≤ n) : dk X n < n ∧ dj X n < n ∧ dj X n ≠ dk X n := by
  have hj : dj X n < n := Nat.mod_lt _ (by omega)
  have hm : X / 512 % (max 1 (n - 1)) < n - 1 := by
    have : max 1 (n - 1) = n - 1 := by omega
    rw [this]
    exact Nat.mod_lt _ (by omega)
  refine ⟨Nat.mod_lt _ (by omega), hj, ?_⟩
  unfold dk
  generalize dj X n = j at *
  generalize X / 512 % (max 1 (n - 1)) = t at *
  intro e
  by_cases c : j + 1 + t < n
  · rw [Nat.mod_eq_of_lt c] at e; omega
  · have : (j + 1 + t) % n = j + 1 + t - n := by
      rw [Nat.mod_eq_sub_mod (by omega), Nat.mod_eq_of_lt (by omega)]
    omega
theorem deed_ok {X n : Nat} (h : 1 ≤ n) : (deedX X n).ok n := by
  have hj : dj X n < n := Nat.mod_lt _ (by omega)
  unfold deedX
  split
  · exact hj
  · exact hj
  · exact hj
  · exact hj
  · exact hj
  all_goals
    split
    · rename_i e; show 0 < n; omega
    · have := dk_ne (X := X) (n := n) (by omega)
      exact ⟨this.2.1, this.1, this.2.2⟩
def deedOf (c : Int) (n : Nat) : Dd := deedX ((strm c 1).headD 0).toNat n
theorem deedOf_ok {c : Int} {n : Nat} (h : 1 ≤ n) : (deedOf c n).ok n := deed_ok h
def turnOf : Dd → Dd
  | .wh j _ => .qu j
  | d => d
theorem turn_ok {n : Nat} {d : Dd} (h : d.ok n) : (turnOf d).ok n := by
  cases d with
  | wh j k => exact h.1
  | _ => exact h
/-! letters -/
def letF (s : Nat × Nat) (p : Nat × Nat) : Nat × Nat := (if p.1 ∈ [120, 121] then s.1 + 2 ^ p.2 else s.1, if p.1 ∈ [122, 121] then s.2 + 2 ^ p.2 else s.2)
def letR (cs : List Nat) : Row := ⟨false, (cs.zipIdx.foldl letF (0, 0)).1, (cs.zipIdx.foldl letF (0, 0)).2⟩
/-! wrongs -/
def trip (n : Nat) (x : Int) : Nat × Bool × Bool := ((x % n).toNat, decide (x / 64 % 2 = 1), decide (x / 4096 % 2 = 1))
def wrongOf (c : Int) (n m : Nat) : Row := drawnW ((strm c m).map (trip n))
theorem wrong_ok {c : Int} {n m : Nat} (h : 1 ≤ n) : (wrongOf c n m).wf n ∧ (wrongOf c n m).m = false ∧ wt (wrongOf c n m) ≤ m := by
  have q := drawn_ok (n := n) (ts := (strm c m).map (trip n)) fun t ht => by
    obtain ⟨x, _, rfl⟩ := List.mem_map.mp ht
    show (x % n).toNat < n
    have := Int.emod_lt_of_pos x (show (0 : Int) < n by omega)
    have := Int.emod_nonneg x (show (n : Int) ≠ 0 by omega)
    omega
  rw [List.length_map, strm_len] at q
  exact q
/-! the code -/
def knN : Nat → Nat
  | 0 => 5
  | 1 => 7
  | _ => 9
def knR : Nat → List Row
  | 0 => kn5
  | 1 => kn7
  | _ => kn9
def knL : Nat → Row
  | 0 => kl5
  | 1 => kl7
  | _ => kl9
structure Cd where
  n : Nat
  full : List Row
  m : Nat
def workK (c : Int) (n : Nat) : List Dd := (strm c 9).map fun x => turnOf (deedOf x n)
def workD (c : Int) (n : Nat) : List Dd := (strm c 14).map fun x => deedOf x n
def codeN (c : Int) : Nat := 1 + (c / 5 % 6).toNat
def codeOf (c0 c1 : Int) : Cd := if c0 % 5 < 3 then ⟨knN (c0 % 5).toNat, (knR (c0 % 5).toNat ++ [knL (c0 % 5).toNat]).map (actW (workK c1 (knN (c0 % 5).toNat))), (knR (c0 % 5).toNat).length⟩
  else ⟨codeN c0, (zrows (codeN c0)).map (actW (workD c1 (codeN c0))), (c0 / 30 % ((codeN c0 : Nat) + 1 : Int)).toNat⟩
theorem kn_good (w : Nat) (h : w < 3) : Good (knN w) (knR w ++ [knL w]) ∧ (knR w).length ≤ knN w := by
  match w, h with
  | 0, _ => exact ⟨kg5, by decide⟩
  | 1, _ => exact ⟨kg7, by decide⟩
  | 2, _ => exact ⟨kg9, by decide⟩
theorem knN_bound (w : Nat) : 1 ≤ knN w ∧ knN w ≤ 9 := by
  unfold knN
  split <;> decide
theorem workK_ok {c : Int} {n : Nat} (h : 1 ≤ n) : ∀ d ∈ workK c n, d.ok n := fun d hd => by
  obtain ⟨x, _, rfl⟩ := List.mem_map.mp hd
  exact turn_ok (deedOf_ok h)
theorem workD_ok {c : Int} {n : Nat} (h : 1 ≤ n) : ∀ d ∈ workD c n, d.ok n := fun d hd => by
  obtain ⟨x, _, rfl⟩ := List.mem_map.mp hd
  exact deedOf_ok h
theorem codeN_bound (c : Int) : 1 ≤ codeN c ∧ codeN c ≤ 6 := by
  unfold codeN
  have := Int.emod_lt_of_pos (c / 5) (show (0 : Int) < 6 by decide)
  omega
theorem code_good (c0 c1 : Int) : 1 ≤ (codeOf c0 c1).n ∧ (codeOf c0 c1).n ≤ 9 ∧ Good (codeOf c0 c1).n (codeOf c0 c1).full ∧ (codeOf c0 c1).m ≤ (codeOf c0 c1).n := by
  unfold codeOf
  split
  · rename_i h
    have h0 := Int.emod_nonneg c0 (show (5 : Int) ≠ 0 by decide)
    have b := knN_bound (c0 % 5).toNat
    obtain ⟨g, l⟩ := kn_good (c0 % 5).toNat (by omega)
    exact ⟨b.1, b.2, good_map (by show knN _ ≤ 64; omega) g (workK_ok b.1), l⟩
  · have b := codeN_bound c0
    refine ⟨b.1, by show codeN c0 ≤ 9; omega, good_map (n := codeN c0) (by omega) (good_z (by omega)) (workD_ok b.1), ?_⟩
    show (c0 / 30 % ((codeN c0 : Nat) + 1 : Int)).toNat ≤ codeN c0
    have := Int.emod_lt_of_pos (c0 / 30) (show (0 : Int) < (codeN c0 : Nat) + 1 by omega)
    omega
end K92
end
section
set_option maxHeartbeats 4000000
/-! The data layer: what a value is, as data. -/
namespace K92
open PySem PySem.Spec PyProof.Rows L2
inductive Dat where
  | non | bl (b : Bool) | int (i : Int) | str (s : Str) | lst (ds : List Dat) | tup (ds : List Dat) | ins (C : Addr) (ns : List Str) (ds : List Dat) | sq (K : PySem.W.Frag) (ns : List Int)
/-- a list that is read alone (the script) -/
def SqO (o : HO) (xs : List V) : Prop := o = .lst xs ∨ ∃ ob, o = .frz ob (.lst xs)
def SqK (K : PySem.W.Frag) (a : Addr) (xs : List V) : Prop := ∃ (o : Obj) (its : Array Value) (n : Nat), K.lookup a = some o ∧ o.cls = .type "list" ∧ o.dict = none ∧ o.data = .seq its n ∧ its.size ≤ sizeLine ∧ Vals xs its.toList
mutual
/-- the value v holds the data in the heap H; its lists and instances stand where Pr holds -/
def Dq (Pr : Addr → Prop) (H : Hp) : Dat → V → Prop
  | .non, v => v = .non
  | .bl b, v => v = .bl b
  | .int i, v => v = .int i
  | .str s, v => v = .str s
  | .lst ds, v => ∃ a xs, v = .ref a ∧ Pr a ∧ H a = some (.lst xs) ∧ DqAll Pr H ds xs
  | .tup ds, v => ∃ a xs, v = .ref a ∧ H a = some (.tup xs) ∧ DqAll Pr H ds xs
  | .ins C ns ds, v => ∃ a xs dx, v = .ref a ∧ Pr a ∧ H a = some (.ins C dx (ns.zip xs)) ∧ ns.length = xs.length ∧ DqAll Pr H ds xs
  | .sq K ns, v => ∃ a, v = .ref a ∧ ((∃ o, Pr a ∧ H a = some o ∧ SqO o (ns.map V.int)) ∨ SqK K a (ns.map V.int))
def DqAll (Pr : Addr → Prop) (H : Hp) : List Dat → List V → Prop
  | [], xs => xs = []
  | d :: ds, xs => ∃ x r, xs = x :: r ∧ Dq Pr H d x ∧ DqAll Pr H ds r
end
mutual
/-- no list, no instance in it -/
def nl : Dat → Bool
  | .lst _ => false
  | .ins _ _ _ => false
  | .sq _ _ => false
  | .tup ds => nlAll ds
  | _ => true
def nlAll : List Dat → Bool
  | [] => true
  | d :: ds => nl d && nlAll ds
end
abbrev TP1 : Addr → Prop := fun _ => True
abbrev NP1 : Addr → Prop := fun _ => False
/-! THE transfer -/
mutual
theorem Dq.go {Pr Pr' : Addr → Prop} {H H' : Hp} (hl : ∀ a o, Pr a → H a = some o → Pr' a ∧ H' a = some o) (ht : ∀ a xs, H a = some (.tup xs) → H' a = some (.tup xs)) : ∀ (d : Dat) (v : V), Dq Pr H d v → Dq Pr' H' d v
  | .non, v, h => h
  | .bl _, v, h => h
  | .int _, v, h => h
  | .str _, v, h => h
  | .lst ds, v, ⟨a, xs, e, p, h, q⟩ => ⟨a, xs, e, (hl a _ p h).1, (hl a _ p h).2, DqAll.go hl ht ds xs q⟩
  | .tup ds, v, ⟨a, xs, e, h, q⟩ => ⟨a, xs, e, ht a _ h, DqAll.go hl ht ds xs q⟩
  | .ins C ns ds, v, ⟨a, xs, dx, e, p, h, l, q⟩ => ⟨a, xs, dx, e, (hl a _ p h).1, (hl a _ p h).2, l, DqAll.go hl ht ds xs q⟩
  | .sq K ns, v, ⟨a, e, .inl ⟨o, p, h, s⟩⟩ => ⟨a, e, .inl ⟨o, (hl a o p h).1, (hl a o p h).2, s⟩⟩
  | .sq K ns, v, ⟨a, e, .inr h⟩ => ⟨a, e, .inr h⟩
theorem DqAll.go {Pr Pr' : Addr → Prop} {H H' : Hp} (hl : ∀ a o, Pr a → H a = some o → Pr' a ∧ H' a = some o) (ht : ∀ a xs, H a = some (.tup xs) → H' a = some (.tup xs)) : ∀ (ds : List Dat) (xs : List V), DqAll Pr H ds xs → DqAll Pr' H' ds xs
  | [], xs, h => h
  | d :: ds, xs, ⟨x, r, e, p, q⟩ => ⟨x, r, e, Dq.go hl ht d x p, DqAll.go hl ht ds r q⟩
end
mutual
theorem Dq.flat {Pr Pr' : Addr → Prop} {H : Hp} : ∀ (d : Dat) (v : V), nl d = true → Dq Pr H d v → Dq Pr' H d v
  | .non, v, _, h => h
  | .bl _, v, _, h => h
  | .int _, v, _, h => h
  | .str _, v, _, h => h
  | .lst ds, v, n, _ => by cases n
  | .tup ds, v, n, ⟨a, xs, e, h, q⟩ => ⟨a, xs, e, h, DqAll.flat ds xs n q⟩
  | .ins C ns ds, v, n, _ => by cases n
  | .sq _ _, v, n, _ => by cases n
theorem DqAll.flat {Pr Pr' : Addr → Prop} {H : Hp} : ∀ (ds : List Dat) (xs : List V), nlAll ds = true → DqAll Pr H ds xs → DqAll Pr' H ds xs
  | [], xs, _, h => h
  | d :: ds, xs, n, ⟨x, r, e, p, q⟩ => by
    have n2 : (nl d && nlAll ds) = true := n
    rw [Bool.and_eq_true] at n2
    exact ⟨x, r, e, Dq.flat d x n2.1 p, DqAll.flat ds r n2.2 q⟩
end
section
variable {Pr Pr' : Addr → Prop} {H H' H1 H2 : Hp} {d : Dat} {ds : List Dat} {v : V} {xs : List V}
theorem Dq.same (e : Same H H') (h : Dq Pr H d v) : Dq Pr H' d v := Dq.go (fun a o p q => ⟨p, e a o q⟩) (fun a xs q => e a _ q) d v h
theorem DqAll.same (e : Same H H') (h : DqAll Pr H ds xs) : DqAll Pr H' ds xs := DqAll.go (fun a o p q => ⟨p, e a o q⟩) (fun a xs q => e a _ q) ds xs h
theorem Dq.weak (w : ∀ a, Pr a → Pr' a) (h : Dq Pr H d v) : Dq Pr' H d v := Dq.go (fun a o p q => ⟨w a p, q⟩) (fun a xs q => q) d v h
theorem DqAll.weak (w : ∀ a, Pr a → Pr' a) (h : DqAll Pr H ds xs) : DqAll Pr' H ds xs := DqAll.go (fun a o p q => ⟨w a p, q⟩) (fun a xs q => q) ds xs h
theorem Dq.top (h : Dq Pr H d v) : Dq TP1 H d v := h.weak fun _ _ => trivial
theorem DqAll.top (h : DqAll Pr H ds xs) : DqAll TP1 H ds xs := h.weak fun _ _ => trivial
/-- flat data live on where tuples do -/
theorem Dq.tups (n : nl d = true) (ht : ∀ a xs, H a = some (.tup xs) → H' a = some (.tup xs)) (h : Dq Pr H d v) : Dq Pr' H' d v :=
  Dq.go (Pr := NP1) (fun _ _ p => p.elim) ht d v (Dq.flat d v n h)
theorem DqAll.tups (n : nlAll ds = true) (ht : ∀ a xs, H a = some (.tup xs) → H' a = some (.tup xs)) (h : DqAll Pr H ds xs) : DqAll Pr' H' ds xs :=
  DqAll.go (Pr := NP1) (fun _ _ p => p.elim) ht ds xs (DqAll.flat ds xs n h)
theorem DqAll.length : ∀ {ds : List Dat} {xs : List V}, DqAll Pr H ds xs → xs.length = ds.length
  | [], xs, h => by rw [show xs = [] from h]; rfl
  | d :: ds, xs, ⟨x, r, e, _, q⟩ => by rw [e, List.length_cons, List.length_cons, DqAll.length q]
theorem DqAll.at : ∀ {ds : List Dat} {xs : List V} {i : Nat}, DqAll Pr H ds xs → ds[i]? = some d → ∃ v, xs[i]? = some v ∧ Dq Pr H d v
  | [], xs, i, _, e => by cases e
  | d' :: ds, xs, 0, ⟨x, r, ex, p, q⟩, e => by
    have e1 : d' = d := Option.some.inj e
    subst e1; subst ex
    exact ⟨x, rfl, p⟩
  | d' :: ds, xs, i + 1, ⟨x, r, ex, p, q⟩, e => by
    subst ex
    exact DqAll.at (i := i) q e
theorem DqAll.at' : ∀ {ds : List Dat} {xs : List V} {i : Nat}, DqAll Pr H ds xs → xs[i]? = some v → ∃ d, ds[i]? = some d ∧ Dq Pr H d v
  | [], xs, i, h, e => by
    rw [show xs = [] from h] at e; cases e
  | d' :: ds, xs, 0, ⟨x, r, ex, p, q⟩, e => by
    subst ex
    have e1 : x = v := Option.some.inj e
    subst e1
    exact ⟨d', rfl, p⟩
  | d' :: ds, xs, i + 1, ⟨x, r, ex, p, q⟩, e => by
    subst ex
    exact DqAll.at' (i := i) q e
theorem DqAll.append : ∀ {ds es : List Dat} {xs ys : List V}, DqAll Pr H ds xs → DqAll Pr H es ys → DqAll Pr H (ds ++ es) (xs ++ ys)
  | [], es, xs, ys, h, k => by
    rw [show xs = [] from h]; exact k
  | d :: ds, es, xs, ys, ⟨x, r, e, p, q⟩, k => by
    subst e
    exact ⟨x, r ++ ys, rfl, p, DqAll.append q k⟩
theorem DqAll.one (h : Dq Pr H d v) : DqAll Pr H [d] [v] := ⟨v, [], rfl, h, rfl⟩
theorem DqAll.drop : ∀ {ds : List Dat} {xs : List V} (n : Nat), DqAll Pr H ds xs → DqAll Pr H (ds.drop n) (xs.drop n)
  | [], xs, n, h => by rw [show xs = [] from h]; simp [DqAll]
  | d :: ds, xs, 0, h => h
  | d :: ds, xs, n + 1, ⟨x, r, e, _, q⟩ => by
    subst e
    exact DqAll.drop n q
theorem DqAll.take : ∀ {ds : List Dat} {xs : List V} (n : Nat), DqAll Pr H ds xs → DqAll Pr H (ds.take n) (xs.take n)
  | [], xs, n, h => by rw [show xs = [] from h]; simp [DqAll]
  | d :: ds, xs, 0, h => by simp [DqAll]
  | d :: ds, xs, n + 1, ⟨x, r, e, p, q⟩ => by
    subst e
    exact ⟨x, r.take n, rfl, p, DqAll.take n q⟩
theorem DqAll.eraseIdx : ∀ {ds : List Dat} {xs : List V} (n : Nat), DqAll Pr H ds xs → DqAll Pr H (ds.eraseIdx n) (xs.eraseIdx n)
  | [], xs, n, h => by rw [show xs = [] from h]; simp [DqAll]
  | d :: ds, xs, 0, ⟨x, r, e, p, q⟩ => by
    subst e
    exact q
  | d :: ds, xs, n + 1, ⟨x, r, e, p, q⟩ => by
    subst e
    exact ⟨x, r.eraseIdx n, rfl, p, DqAll.eraseIdx n q⟩
theorem DqAll.reverse : ∀ {ds : List Dat} {xs : List V}, DqAll Pr H ds xs → DqAll Pr H ds.reverse xs.reverse
  | [], xs, h => by rw [show xs = [] from h]; simp [DqAll]
  | d :: ds, xs, ⟨x, r, e, p, q⟩ => by
    subst e
    rw [List.reverse_cons, List.reverse_cons]
    exact DqAll.append (DqAll.reverse q) (DqAll.one p)
theorem nlAll_mem : ∀ {ds : List Dat}, nlAll ds = true → ∀ d ∈ ds, nl d = true
  | [], _, d, h => by cases h
  | e :: es, n, d, h => by
    have n2 : (nl e && nlAll es) = true := n
    rw [Bool.and_eq_true] at n2
    rcases List.mem_cons.mp h with q | q
    · rw [q]; exact n2.1
    · exact nlAll_mem n2.2 d q
theorem nlAll_of : ∀ {ds : List Dat}, (∀ d ∈ ds, nl d = true) → nlAll ds = true
  | [], _ => rfl
  | e :: es, h => by
    show (nl e && nlAll es) = true
    rw [h e (List.mem_cons_self ..), nlAll_of fun d q => h d (List.mem_cons_of_mem _ q)]
    rfl
theorem nlAll_append {ds es : List Dat} (h : nlAll ds = true) (k : nlAll es = true) : nlAll (ds ++ es) = true := nlAll_of fun d q => by
  rcases List.mem_append.mp q with q | q
  · exact nlAll_mem h d q
  · exact nlAll_mem k d q
end
theorem same_new {H : Hp} {p : Addr} {o : HO} (h : H p = none) : Same H (upd H p o) := fun a u e => by
  rw [upd_ne (ne_of_none e h)]; exact e
theorem fresh_back {H H' : Hp} {p : Addr} (e : Same H H') (h : H' p = none) : H p = none := e.free h
/-! ### what readings evaluate to -/
abbrev Vw := List (Option Dat)
/-- the slots hold the view -/
structure Sv (H : Hp) (σ : L2.St) (Δ : Vw) : Prop where
  len : σ.length = Δ.length
  at_ : ∀ (i : Nat) (d : Dat), Δ[i]? = some (some d) → ∃ v, σ[i]? = some (some v) ∧ Dq TP1 H d v
theorem Sv.same {H H' : Hp} {σ : L2.St} {Δ : Vw} (e : Same H H') (s : Sv H σ Δ) : Sv H' σ Δ := ⟨s.len, fun i d h => by
  obtain ⟨v, h1, h2⟩ := s.at_ i d h
  exact ⟨v, h1, h2.same e⟩⟩
abbrev Fr (H : Hp) : Addr → Prop := fun a => H a = none
/-- strong: what is new in it is fresh; weak: any -/
def Ev (te : TE) (Δ : Vw) (d : Dat) : Prop := ∀ σ H, Sv H σ Δ → ∀ Q : VK, (∀ v H1, Same H H1 → Dq (Fr H) H1 d v → Q v H1) → te σ H Q
def EvW (te : TE) (Δ : Vw) (d : Dat) : Prop := ∀ σ H, Sv H σ Δ → ∀ Q : VK, (∀ v H1, Same H H1 → Dq TP1 H1 d v → Q v H1) → te σ H Q
def EvA (ta : TA) (Δ : Vw) (ds : List Dat) : Prop := ∀ σ H, Sv H σ Δ → ∀ Q : List V → Hp → Prop, (∀ vs H1, Same H H1 → DqAll TP1 H1 ds vs → Q vs H1) → ta σ H Q
def EvS (ta : TA) (Δ : Vw) (ds : List Dat) : Prop := ∀ σ H, Sv H σ Δ → ∀ Q : List V → Hp → Prop, (∀ vs H1, Same H H1 → DqAll (Fr H) H1 ds vs → Q vs H1) → ta σ H Q
def EvT (tt : TT) (Δ : Vw) (b : Bool) : Prop := ∀ σ H, Sv H σ Δ → ∀ Q : Bool → Hp → Prop, (∀ H1, Same H H1 → Q b H1) → tt σ H Q
def EvO (to : TO) (Δ : Vw) (o : Option Int) : Prop := ∀ σ H, Sv H σ Δ → ∀ Q : Option Int → Hp → Prop, (∀ H1, Same H H1 → Q o H1) → to σ H Q
/-- operations on values -/
def RD (r : R2) (d1 d2 d : Dat) : Prop := ∀ H x y, Dq TP1 H d1 x → Dq TP1 H d2 y → ∀ Q : VK, (∀ v H1, Same H H1 → Dq (Fr H) H1 d v → Q v H1) → r x y H Q
def RU (r : V → Hp → VK → Prop) (d1 d : Dat) : Prop := ∀ H x, Dq TP1 H d1 x → ∀ Q : VK, (∀ v H1, Same H H1 → Dq (Fr H) H1 d v → Q v H1) → r x H Q
def RC (r : List V → Hp → VK → Prop) (ds : List Dat) (d : Dat) : Prop := ∀ H xs, DqAll TP1 H ds xs → ∀ Q : VK, (∀ v H1, Same H H1 → Dq (Fr H) H1 d v → Q v H1) → r xs H Q
theorem fr_same {H H1 : Hp} (e : Same H H1) : ∀ a, Fr H1 a → Fr H a := fun a h => e.free h
section
variable {Δ : Vw} {d d1 d2 d' : Dat} {ds : List Dat} {ta tb te : TE} {K : PySem.W.Frag}
theorem Ev.w (h : Ev te Δ d) : EvW te Δ d := fun σ H s Q k => h σ H s Q fun v H1 e q => k v H1 e q.top
theorem EvW.s (n : nl d = true) (h : EvW te Δ d) : Ev te Δ d := fun σ H s Q k => h σ H s Q fun v H1 e q => k v H1 e (Dq.flat d v n q)
theorem Ev.is (h : Ev te Δ d) (e : d = d') : Ev te Δ d' := e ▸ h
theorem EvW.is (h : EvW te Δ d) (e : d = d') : EvW te Δ d' := e ▸ h
theorem EvT.is {tt : TT} {b b' : Bool} (h : EvT tt Δ b) (e : b = b') : EvT tt Δ b' := e ▸ h
theorem ew_var {i : Nat} (h : Δ[i]? = some (some d)) : EvW (tVar i) Δ d := fun σ H s Q k => by
  obtain ⟨v, h1, h2⟩ := s.at_ i d h
  exact ⟨v, h1, k v H (Same.refl H) h2⟩
theorem ev_var {i : Nat} (h : Δ[i]? = some (some d)) (n : nl d = true) : Ev (tVar i) Δ d := (ew_var h).s n
theorem ev_int {i : Int} : Ev (tC (.int i)) Δ (.int i) := fun σ H s Q k => k _ H (Same.refl H) rfl
theorem ev_bl {b : Bool} : Ev (tC (.bl b)) Δ (.bl b) := fun σ H s Q k => k _ H (Same.refl H) rfl
theorem ev_str {x : Str} : Ev (tC (.str x)) Δ (.str x) := fun σ H s Q k => k _ H (Same.refl H) rfl
theorem ev_non : Ev (tC .non) Δ .non := fun σ H s Q k => k _ H (Same.refl H) rfl
theorem ev_op {r : R2} (ha : EvW ta Δ d1) (hb : EvW tb Δ d2) (hr : RD r d1 d2 d) : Ev (tOp r ta tb) Δ d := fun σ H s Q k =>
  ha σ H s _ fun x H1 e1 q1 => hb σ H1 (s.same e1) _ fun y H2 e2 q2 => hr H2 x y (q1.same e2) q2 Q fun v H3 e3 q3 => k v H3 ((e1.trans e2).trans e3) (q3.weak (fr_same (e1.trans e2)))
theorem ev_un {r : V → Hp → VK → Prop} (ha : EvW ta Δ d1) (hr : RU r d1 d) : Ev (tUn r ta) Δ d := fun σ H s Q k =>
  ha σ H s _ fun x H1 e1 q1 => hr H1 x q1 Q fun v H3 e3 q3 => k v H3 (e1.trans e3) (q3.weak (fr_same e1))
theorem rd_I0 {g : Int → Int → V} {i j : Int} (h : ∀ H, Dq NP1 H d (g i j)) : RD (rI0 g) (.int i) (.int j) d := fun H x y hx hy Q k => ⟨i, j, hx, hy, k _ H (Same.refl H) ((h H).weak fun _ z => z.elim)⟩
theorem rd_I {C : Int → Int → Prop} {g : Int → Int → V} {i j : Int} (hc : C i j) (h : ∀ H, Dq NP1 H d (g i j)) : RD (rI C g) (.int i) (.int j) d := fun H x y hx hy Q k => ⟨i, j, hx, hy, hc, k _ H (Same.refl H) ((h H).weak fun _ z => z.elim)⟩
/-- ints: the answer an int -/
theorem ev_I0 {f : Int → Int → Int} {i j : Int} (ha : EvW ta Δ (.int i)) (hb : EvW tb Δ (.int j)) : Ev (tOp (rI0 fun i j => .int (f i j)) ta tb) Δ (.int (f i j)) := ev_op ha hb (rd_I0 fun H => rfl)
theorem ev_B0 {f : Int → Int → Bool} {i j : Int} (ha : EvW ta Δ (.int i)) (hb : EvW tb Δ (.int j)) : Ev (tOp (rI0 fun i j => .bl (f i j)) ta tb) Δ (.bl (f i j)) := ev_op ha hb (rd_I0 fun H => rfl)
theorem ev_I {C : Int → Int → Prop} {f : Int → Int → Int} {i j : Int} (ha : EvW ta Δ (.int i)) (hb : EvW tb Δ (.int j)) (hc : C i j) : Ev (tOp (rI C fun i j => .int (f i j)) ta tb) Δ (.int (f i j)) := ev_op ha hb (rd_I hc fun H => rfl)
theorem ev_eqI {i j : Int} (ha : EvW ta Δ (.int i)) (hb : EvW tb Δ (.int j)) : Ev (tOp rEq ta tb) Δ (.bl (decide (i = j))) := ev_op ha hb fun H x y hx hy Q k => by
  obtain rfl := hx
  obtain rfl := hy
  refine ⟨rfl, ?_⟩
  rw [show decide (V.int i = V.int j) = decide (i = j) by rw [dec_int]; rfl]
  exact k _ H (Same.refl H) rfl
theorem ev_neI {i j : Int} (ha : EvW ta Δ (.int i)) (hb : EvW tb Δ (.int j)) : Ev (tOp rNe ta tb) Δ (.bl (!decide (i = j))) := ev_op ha hb fun H x y hx hy Q k => by
  obtain rfl := hx
  obtain rfl := hy
  refine ⟨rfl, ?_⟩
  rw [show decide (V.int i = V.int j) = decide (i = j) by rw [dec_int]; rfl]
  exact k _ H (Same.refl H) rfl
theorem ev_eqS {i j : Str} (ha : EvW ta Δ (.str i)) (hb : EvW tb Δ (.str j)) : Ev (tOp rEq ta tb) Δ (.bl (decide (i = j))) := ev_op ha hb fun H x y hx hy Q k => by
  obtain rfl := hx
  obtain rfl := hy
  refine ⟨rfl, ?_⟩
  rw [show decide (V.str i = V.str j) = decide (i = j) by
    by_cases e : i = j
    · rw [e]; simp
    · rw [decide_eq_false e, decide_eq_false (fun q => e (V.str.inj q))]]
  exact k _ H (Same.refl H) rfl
theorem ev_eqB {i j : Bool} (ha : EvW ta Δ (.bl i)) (hb : EvW tb Δ (.bl j)) : Ev (tOp rEq ta tb) Δ (.bl (decide (i = j))) := ev_op ha hb fun H x y hx hy Q k => by
  obtain rfl := hx
  obtain rfl := hy
  refine ⟨rfl, ?_⟩
  rw [show decide (V.bl i = V.bl j) = decide (i = j) by cases i <;> cases j <;> rfl]
  exact k _ H (Same.refl H) rfl
theorem ev_neB {i j : Bool} (ha : EvW ta Δ (.bl i)) (hb : EvW tb Δ (.bl j)) : Ev (tOp rNe ta tb) Δ (.bl (!decide (i = j))) := ev_op ha hb fun H x y hx hy Q k => by
  obtain rfl := hx
  obtain rfl := hy
  refine ⟨rfl, ?_⟩
  rw [show decide (V.bl i = V.bl j) = decide (i = j) by cases i <;> cases j <;> rfl]
  exact k _ H (Same.refl H) rfl
/-- an item -/
theorem atI_of {ds : List Dat} {xs : List V} {i : Int} {Pr : Addr → Prop} {H : Hp} (q : DqAll Pr H ds xs) (h : atI ds i = some d) : ∃ v, atI xs i = some v ∧ Dq Pr H d v := by
  unfold atI at h ⊢
  rw [q.length]
  cases e : ixN ds.length i with
  | none => rw [e] at h; cases h
  | some j =>
    rw [e] at h
    exact q.at h
theorem ev_ixL {i : Int} (ha : EvW ta Δ (.lst ds)) (hb : EvW tb Δ (.int i)) (h : atI ds i = some d) (n : nl d = true) : Ev (tOp (rIxL K) ta tb) Δ d := ev_op ha hb fun H x y ⟨a, xs, ex, _, hx, q⟩ hy Q k => by
  obtain ⟨v, e, qv⟩ := atI_of q h
  exact ⟨a, xs, i, v, ex, hy, SqL.of hx, e, k v H (Same.refl H) (Dq.flat d v n qv)⟩
theorem ev_ixT {i : Int} (ha : EvW ta Δ (.tup ds)) (hb : EvW tb Δ (.int i)) (h : atI ds i = some d) (n : nl d = true) : Ev (tOp (rIxT K) ta tb) Δ d := ev_op ha hb fun H x y ⟨a, xs, ex, hx, q⟩ hy Q k => by
  obtain ⟨v, e, qv⟩ := atI_of q h
  exact ⟨a, xs, i, v, ex, hy, SqT.of hx, e, k v H (Same.refl H) (Dq.flat d v n qv)⟩
theorem ev_cat {es : List Dat} (ha : EvW ta Δ (.lst ds)) (hb : EvW tb Δ (.lst es)) (n1 : nlAll ds = true) (n2 : nlAll es = true) (hz : ds.length + es.length ≤ 100000) : Ev (tOp rCat ta tb) Δ (.lst (ds ++ es)) := ev_op ha hb fun H x y ⟨a, xs, ex, _, hx, q⟩ ⟨b, ys, ey, _, hy, r⟩ Q k =>
  ⟨a, b, xs, ys, ex, ey, hx, hy, Nat.le_trans (by rw [q.length, r.length]; exact hz) (by decide), fun p hp => k _ _ (same_new hp) ⟨p, _, rfl, hp, upd_same, (DqAll.append (DqAll.flat ds xs n1 q) (DqAll.flat es ys n2 r)).same (same_new hp)⟩⟩
/-! #### arguments, displays -/
theorem ea_nil : EvA tNil Δ [] := fun σ H s Q k => k _ H (Same.refl H) rfl
theorem ea_cons {tr : TA} (ha : EvW ta Δ d) (hr : EvA tr Δ ds) : EvA (tCons ta tr) Δ (d :: ds) := fun σ H s Q k =>
  ha σ H s _ fun x H1 e1 q1 => hr σ H1 (s.same e1) _ fun xs H2 e2 q2 => k _ H2 (e1.trans e2) ⟨x, xs, rfl, q1.same e2, q2⟩
theorem es_nil : EvS tNil Δ [] := fun σ H s Q k => k _ H (Same.refl H) rfl
theorem es_cons {tr : TA} (ha : Ev ta Δ d) (hr : EvS tr Δ ds) : EvS (tCons ta tr) Δ (d :: ds) := fun σ H s Q k =>
  ha σ H s _ fun x H1 e1 q1 => hr σ H1 (s.same e1) _ fun xs H2 e2 q2 => k _ H2 (e1.trans e2) ⟨x, xs, rfl, q1.same e2, q2.weak (fr_same e1)⟩
theorem ev_tup {t : TA} (h : EvS t Δ ds) (hz : ds.length ≤ 1000 := by decide) : Ev (tTup t) Δ (.tup ds) := fun σ H s Q k =>
  h σ H s _ fun xs H1 e1 q1 => ⟨Nat.le_trans (by rw [q1.length]; exact hz) (by decide), fun p hp => k _ _ (e1.trans (same_new hp)) ⟨p, xs, rfl, upd_same, q1.same (same_new hp)⟩⟩
theorem ev_lst {t : TA} (h : EvS t Δ ds) (hz : ds.length ≤ 1000 := by decide) : Ev (tLst t) Δ (.lst ds) := fun σ H s Q k =>
  h σ H s _ fun xs H1 e1 q1 => ⟨Nat.le_trans (by rw [q1.length]; exact hz) (by decide), fun p hp => k _ _ (e1.trans (same_new hp)) ⟨p, xs, rfl, e1.free hp, upd_same, q1.same (same_new hp)⟩⟩
/-! #### tests -/
variable {t u : TT} {a b : Bool}
theorem et_test (h : EvW te Δ (.bl b)) : EvT (tTest te) Δ b := fun σ H s Q k => h σ H s _ fun x H1 e1 q => ⟨b, q, k H1 e1⟩
theorem et_B (h : EvW te Δ (.bl b)) : EvT (tB te) Δ b := fun σ H s Q k => h σ H s _ fun x H1 e1 q => ⟨b, q, k H1 e1⟩
theorem et_not (h : EvT t Δ a) : EvT (tNot t) Δ (!a) := fun σ H s Q k => h σ H s _ fun H1 e1 => k H1 e1
theorem et_and (h1 : EvT t Δ a) (h2 : a = true → EvT u Δ b) : EvT (tAnd t u) Δ (a && b) := fun σ H s Q k => h1 σ H s _ fun H1 e1 => by
  cases a with
  | true => exact h2 rfl σ H1 (s.same e1) _ fun H2 e2 => k H2 (e1.trans e2)
  | false => exact k H1 e1
theorem et_or (h1 : EvT t Δ a) (h2 : a = false → EvT u Δ b) : EvT (tOr t u) Δ (a || b) := fun σ H s Q k => h1 σ H s _ fun H1 e1 => by
  cases a with
  | false => exact h2 rfl σ H1 (s.same e1) _ fun H2 e2 => k H2 (e1.trans e2)
  | true => exact k H1 e1
theorem et_yes : EvT tYes Δ true := fun σ H s Q k => k H (Same.refl H)
theorem ev_andV (h1 : EvW ta Δ (.bl a)) (h2 : a = true → EvW tb Δ (.bl b)) : Ev (tAndV ta tb) Δ (.bl (a && b)) := fun σ H s Q k => h1 σ H s _ fun x H1 e1 q => ⟨a, q, by
  cases a with
  | true => exact h2 rfl σ H1 (s.same e1) _ fun v H2 e2 q2 => k v H2 (e1.trans e2) q2
  | false => exact k _ H1 e1 rfl⟩
theorem ev_orV (h1 : EvW ta Δ (.bl a)) (h2 : a = false → EvW tb Δ (.bl b)) : Ev (tOrV ta tb) Δ (.bl (a || b)) := fun σ H s Q k => h1 σ H s _ fun x H1 e1 q => ⟨a, q, by
  cases a with
  | false => exact h2 rfl σ H1 (s.same e1) _ fun v H2 e2 q2 => k v H2 (e1.trans e2) q2
  | true => exact k _ H1 e1 rfl⟩
theorem ev_notV (h : EvW ta Δ (.bl a)) : Ev (tNotV ta) Δ (.bl (!a)) := fun σ H s Q k => h σ H s _ fun x H1 e1 q => ⟨a, q, k _ H1 e1 rfl⟩
theorem ev_if (h : EvT t Δ b) (h1 : b = true → Ev ta Δ d) (h2 : b = false → Ev tb Δ d) : Ev (tIf t ta tb) Δ d := fun σ H s Q k => h σ H s _ fun H1 e1 => by
  cases b with
  | true => exact h1 rfl σ H1 (s.same e1) Q fun v H2 e2 q => k v H2 (e1.trans e2) (q.weak (fr_same e1))
  | false => exact h2 rfl σ H1 (s.same e1) Q fun v H2 e2 q => k v H2 (e1.trans e2) (q.weak (fr_same e1))
def isNon : Dat → Bool
  | .non => true
  | _ => false
theorem isNon_of {Pr : Addr → Prop} {H : Hp} {x : V} : ∀ {d : Dat}, Dq Pr H d x → decide (x = V.non) = isNon d
  | .non, q => by rw [show x = V.non from q]; rfl
  | .bl _, q => by rw [show x = V.bl _ from q]; rfl
  | .int _, q => by rw [show x = V.int _ from q]; rfl
  | .str _, q => by rw [show x = V.str _ from q]; rfl
  | .lst _, ⟨_, _, e, _⟩ => by rw [e]; rfl
  | .tup _, ⟨_, _, e, _⟩ => by rw [e]; rfl
  | .ins _ _ _, ⟨_, _, _, e, _⟩ => by rw [e]; rfl
  | .sq _ _, ⟨_, e, _⟩ => by rw [e]; rfl
theorem ev_isN (ha : EvW ta Δ d) : Ev (tOp (fun x y H Q => y = .non ∧ Q (.bl (decide (x = .non))) H) ta (tC .non)) Δ (.bl (isNon d)) := ev_op ha ev_non.w fun H x y q e Q k => ⟨e, k _ H (Same.refl H) (congrArg V.bl (isNon_of q))⟩
theorem ev_notN (ha : EvW ta Δ d) : Ev (tOp (fun x y H Q => y = .non ∧ Q (.bl (!decide (x = .non))) H) ta (tC .non)) Δ (.bl (!isNon d)) := ev_op ha ev_non.w fun H x y q e Q k => ⟨e, k _ H (Same.refl H) (congrArg (fun b => V.bl (!b)) (isNon_of q))⟩
/-- a op1 b op2 c, ints -/
theorem ev_chain {f g : Int → Int → Bool} {i j l : Int} {tc : TE} (ha : EvW ta Δ (.int i)) (hb : EvW tb Δ (.int j)) (hc : f i j = true → EvW tc Δ (.int l)) : Ev (tChain (rI0 fun i j => .bl (f i j)) (rI0 fun i j => .bl (g i j)) ta tb tc) Δ (.bl (f i j && g j l)) := fun σ H s Q k =>
  ha σ H s _ fun x H1 e1 q1 => hb σ H1 (s.same e1) _ fun y H2 e2 q2 => ⟨i, j, q1, q2, f i j, rfl, by
    cases e : f i j with
    | true =>
      refine iteT (hc e σ H2 (s.same (e1.trans e2)) _ fun z H3 e3 q3 => ⟨j, l, q2, q3, k _ H3 ((e1.trans e2).trans e3) ?_⟩)
      show V.bl (g j l) = V.bl (f i j && g j l)
      rw [e]; rfl
    | false =>
      refine iteF (k _ H2 (e1.trans e2) ?_)
      show V.bl false = V.bl (f i j && g j l)
      rw [e]; rfl⟩
/-! #### calls -/
/-- THE PROMISE of a def that changes nothing: R between the arguments' data and the answer's -/
def spF (R : List Dat → Dat → Prop) : Sp := fun vs H Q _ => ∃ ds d, DqAll TP1 H ds vs ∧ R ds d ∧ ∀ v H', Same H H' → Dq (Fr H) H' d v → Q v H'
theorem ev_call {R : List Dat → Dat → Prop} {t : TA} {E : XK} (ha : EvA t Δ ds) (hR : R ds d) : Ev (tCall (spF R) [] E t) Δ d := fun σ H s Q k =>
  ha σ H s _ fun vs H1 e1 q1 => ⟨ds, d, by rw [List.append_nil]; exact q1, hR, fun v H2 e2 q => k v H2 (e1.trans e2) (q.weak (fr_same e1))⟩
theorem lookup_zip_none : ∀ {ns : List Str} {xs : List V} {m : Str}, m ∉ ns → (ns.zip xs).lookup m = none
  | [], _, _, _ => by simp
  | n :: ns, [], _, _ => by simp
  | n :: ns, x :: xs, m, h => by
    rw [List.zip_cons_cons, List.lookup_cons]
    have e : (m == n) = false := beq_eq_false_iff_ne.mpr fun q => h (by rw [q]; exact List.mem_cons_self ..)
    rw [e]
    exact lookup_zip_none fun q => h (List.mem_cons_of_mem _ q)
theorem lookup_zip : ∀ {ns : List Str} {ds : List Dat} {xs : List V} {m : Str} {Pr : Addr → Prop} {H : Hp}, DqAll Pr H ds xs → (ns.zip ds).lookup m = some d → ∃ v, (ns.zip xs).lookup m = some v ∧ Dq Pr H d v
  | [], _, _, _, _, _, _, h => by simp at h
  | n :: ns, [], _, _, _, _, _, h => by simp at h
  | n :: ns, e :: ds, xs, m, Pr, H, ⟨x, r, ex, p, q⟩, h => by
    subst ex
    rw [List.zip_cons_cons, List.lookup_cons] at h ⊢
    cases c : (m == n) with
    | true =>
      rw [c] at h
      have e1 : e = d := Option.some.inj h
      subst e1
      exact ⟨x, rfl, p⟩
    | false =>
      rw [c] at h
      exact lookup_zip q h
theorem ev_meth {R : List Dat → Dat → Prop} {C : Addr} {m : Str} {ns : List Str} {fds dd : List Dat} {dvs : List V} {to : TE} {t : TA} {E : XK} (ho : EvW to Δ (.ins C ns fds)) (hm : m ∉ ns) (ha : EvA t Δ ds) (hd : ∀ H, DqAll TP1 H dd dvs)
    (hR : R (.ins C ns fds :: (ds ++ dd)) d) : Ev (tMeth C m (spF R) dvs E to t) Δ d := fun σ H s Q k =>
  ho σ H s _ fun x H1 e1 ⟨a, xs, dx, ex, p, hx, hl, q⟩ => ⟨a, dx, _, ex, hx, lookup_zip_none hm, ha σ H1 (s.same e1) _ fun vs H2 e2 q2 =>
    ⟨.ins C ns fds :: (ds ++ dd), d, ⟨x, _, rfl, ⟨a, xs, dx, ex, p, e2 _ _ hx, hl, q.same e2⟩, DqAll.append q2 (hd H2)⟩, hR, fun v H3 e3 q3 => k v H3 ((e1.trans e2).trans e3) (q3.weak (fr_same (e1.trans e2)))⟩⟩
theorem ew_fld {C : Addr} {f : Str} {ns : List Str} {fds : List Dat} (h : EvW ta Δ (.ins C ns fds)) (c : Cls K C) (n : NoAttr K C f) (hl : (ns.zip fds).lookup f = some d) : EvW (tFld K ta f) Δ d := fun σ H s Q k =>
  h σ H s _ fun x H1 e1 ⟨a, xs, dx, ex, p, hx, hz, q⟩ => by
    obtain ⟨v, e, qv⟩ := lookup_zip q hl
    exact ⟨a, C, dx, _, v, ex, hx, c, n, e, k v H1 e1 qv⟩
theorem ev_cb {r : List V → Hp → VK → Prop} {t : TA} (ha : EvA t Δ ds) (hr : RC r ds d) : Ev (tCB r t) Δ d := fun σ H s Q k =>
  ha σ H s _ fun vs H1 e1 q1 => hr H1 vs q1 Q fun v H2 e2 q => k v H2 (e1.trans e2) (q.weak (fr_same e1))
/-- one of several readings -/
def tAlt (t1 t2 : TE) : TE := fun σ H Q => t1 σ H Q ∨ t2 σ H Q
theorem pe_alt {X : Cx} {e : Expr} {t1 t2 : TE} (h1 : PE X e t1) (h2 : PE X e t2) : PE X e (tAlt t1 t2) := ⟨fun pins s σ H Q I h => h.elim (h1.run pins s σ H Q I) (h2.run pins s σ H Q I)⟩
theorem ev_alt1 {t1 t2 : TE} (h : Ev t1 Δ d) : Ev (tAlt t1 t2) Δ d := fun σ H s Q k => .inl (h σ H s Q k)
theorem ev_alt2 {t1 t2 : TE} (h : Ev t2 Δ d) : Ev (tAlt t1 t2) Δ d := fun σ H s Q k => .inr (h σ H s Q k)
/-- a dead expression -/
def tDead : TE := fun _ _ _ => False
theorem pe_dead {X : Cx} {e : Expr} : PE X e tDead := ⟨fun _ _ _ _ _ _ h => h.elim⟩
/-! #### built-ins -/
theorem rc_len : RC (fun xs H Q => ∃ p ys, xs = [.ref p] ∧ (SqL K H p ys ∨ SqT K H p ys) ∧ Q (.int ys.length) H) [.lst ds] (.int ds.length) := fun H xs ⟨x, r, ex, ⟨a, ys, ea, _, hx, q⟩, er⟩ Q k => by
  obtain rfl : r = [] := er
  subst ea
  refine ⟨a, ys, ex, .inl (SqL.of hx), ?_⟩
  rw [q.length]
  exact k _ H (Same.refl H) rfl
theorem rc_lenT : RC (fun xs H Q => ∃ p ys, xs = [.ref p] ∧ (SqL K H p ys ∨ SqT K H p ys) ∧ Q (.int ys.length) H) [.tup ds] (.int ds.length) := fun H xs ⟨x, r, ex, ⟨a, ys, ea, hx, q⟩, er⟩ Q k => by
  obtain rfl : r = [] := er
  subst ea
  refine ⟨a, ys, ex, .inr (SqT.of hx), ?_⟩
  rw [q.length]
  exact k _ H (Same.refl H) rfl
theorem rc_list (n : nlAll ds = true) : RC (fun xs H Q => ∃ p ys, xs = [.ref p] ∧ (SqL K H p ys ∨ SqT K H p ys) ∧ ∀ l, H l = none → Q (.ref l) (upd H l (.lst ys))) [.lst ds] (.lst ds) := fun H xs ⟨x, r, ex, ⟨a, ys, ea, _, hx, q⟩, er⟩ Q k => by
  obtain rfl : r = [] := er
  subst ea
  exact ⟨a, ys, ex, .inl (SqL.of hx), fun l hl => k _ _ (same_new hl) ⟨l, ys, rfl, hl, upd_same, (DqAll.flat ds ys n q).same (same_new hl)⟩⟩
theorem rc_tuple (n : nlAll ds = true) : RC (fun xs H Q => ∃ p ys, xs = [.ref p] ∧ ((SqL K H p ys ∧ ∀ l, H l = none → Q (.ref l) (upd H l (.tup ys))) ∨ (SqT K H p ys ∧ Q (.ref p) H))) [.lst ds] (.tup ds) := fun H xs ⟨x, r, ex, ⟨a, ys, ea, _, hx, q⟩, er⟩ Q k => by
  obtain rfl : r = [] := er
  subst ea
  exact ⟨a, ys, ex, .inl ⟨SqL.of hx, fun l hl => k _ _ (same_new hl) ⟨l, ys, rfl, upd_same, (DqAll.flat ds ys n q).same (same_new hl)⟩⟩⟩
theorem dq_bls {Pr : Addr → Prop} {H : Hp} : ∀ {bs : List Bool} {xs : List V}, DqAll Pr H (bs.map Dat.bl) xs → xs = bs.map V.bl
  | [], xs, h => h
  | b :: bs, xs, ⟨x, r, e, p, q⟩ => by
    obtain rfl : x = V.bl b := p
    rw [e, dq_bls q]; rfl
theorem rc_all {bs : List Bool} : RC (rAll K) [.lst (bs.map Dat.bl)] (.bl (bs.all id)) := fun H xs ⟨x, r, ex, ⟨a, ys, ea, _, hx, q⟩, er⟩ Q k => by
  obtain rfl : r = [] := er
  subst ea
  obtain rfl := dq_bls q
  exact ⟨a, bs, ex, SqL.of hx, k _ H (Same.refl H) rfl⟩
theorem rc_intB {b : Bool} : RC (fun xs H Q => (∃ i, xs = [.int i] ∧ Q (.int i) H) ∨ ∃ k, xs = [.bl k] ∧ Q (.int (if k then 1 else 0)) H) [.bl b] (.int (if b then 1 else 0)) := fun H xs ⟨x, r, ex, q, er⟩ Q k => by
  obtain rfl : r = [] := er
  obtain rfl : x = V.bl b := q
  exact .inr ⟨b, ex, k _ H (Same.refl H) rfl⟩
theorem rc_min2 {i j : Int} : RC (fun xs H Q => ∃ i j, xs = [.int i, .int j] ∧ Q (.int (if j < i then j else i)) H) [.int i, .int j] (.int (if j < i then j else i)) := fun H xs ⟨x, r, ex, q, y, r2, ey, q2, er⟩ Q k => by
  obtain rfl : r2 = [] := er
  obtain rfl : x = V.int i := q
  obtain rfl : y = V.int j := q2
  subst ey
  exact ⟨i, j, ex, k _ H (Same.refl H) rfl⟩
theorem rc_max2 {i j : Int} : RC (fun xs H Q => ∃ i j, xs = [.int i, .int j] ∧ Q (.int (if j > i then j else i)) H) [.int i, .int j] (.int (if j > i then j else i)) := fun H xs ⟨x, r, ex, q, y, r2, ey, q2, er⟩ Q k => by
  obtain rfl : r2 = [] := er
  obtain rfl : x = V.int i := q
  obtain rfl : y = V.int j := q2
  subst ey
  exact ⟨i, j, ex, k _ H (Same.refl H) rfl⟩
/-! #### slices -/
theorem eo_none : EvO tNoPart Δ none := fun σ H s Q k => k H (Same.refl H)
theorem eo_some {i : Int} (h : EvW te Δ (.int i)) : EvO (tPart te) Δ (some i) := fun σ H s Q k => h σ H s _ fun x H1 e1 q => ⟨i, q, k H1 e1⟩
def cutD (ds : List Dat) (lo hi : Option Int) : List Dat := (ds.drop (HT.sIx ds.length 0 lo)).take (HT.sIx ds.length ds.length hi - HT.sIx ds.length 0 lo)
theorem cutD_all {Pr : Addr → Prop} {H : Hp} {xs : List V} {lo hi : Option Int} (q : DqAll Pr H ds xs) : DqAll Pr H (cutD ds lo hi) (cutV xs lo hi) := by
  unfold cutD cutV
  rw [q.length]
  exact (q.drop _).take _
theorem nl_cutD {lo hi : Option Int} (n : nlAll ds = true) : nlAll (cutD ds lo hi) = true := nlAll_of fun d h => nlAll_mem n d (List.mem_of_mem_drop (List.mem_of_mem_take h))
theorem ev_slL {tl th : TO} {lo hi : Option Int} (h : EvW te Δ (.lst ds)) (h1 : EvO tl Δ lo) (h2 : EvO th Δ hi) (n : nlAll ds = true) : Ev (tSl (rSlL K) te tl th) Δ (.lst (cutD ds lo hi)) := fun σ H s Q k =>
  h σ H s _ fun x H1 e1 ⟨a, xs, ex, _, hx, q⟩ => h1 σ H1 (s.same e1) _ fun H2 e2 => h2 σ H2 (s.same (e1.trans e2)) _ fun H3 e3 =>
    ⟨a, xs, ex, SqL.of (e3 _ _ (e2 _ _ hx)), fun p hp => k _ _ (((e1.trans e2).trans e3).trans (same_new hp)) ⟨p, _, rfl, ((e1.trans e2).trans e3).free hp, upd_same, cutD_all ((DqAll.flat ds xs n q).same ((e2.trans e3).trans (same_new hp)))⟩⟩
theorem ev_slT {tl th : TO} {lo hi : Option Int} (h : EvW te Δ (.tup ds)) (h1 : EvO tl Δ lo) (h2 : EvO th Δ hi) (n : nlAll ds = true) (nw : ¬ (HT.sIx ds.length 0 lo = 0 ∧ HT.sIx ds.length ds.length hi = ds.length)) : Ev (tSl (rSlT K) te tl th) Δ (.tup (cutD ds lo hi)) := fun σ H s Q k =>
  h σ H s _ fun x H1 e1 ⟨a, xs, ex, hx, q⟩ => h1 σ H1 (s.same e1) _ fun H2 e2 => h2 σ H2 (s.same (e1.trans e2)) _ fun H3 e3 =>
    ⟨a, xs, ex, SqT.of (e3 _ _ (e2 _ _ hx)), by rw [q.length]; exact nw, fun p hp => k _ _ (((e1.trans e2).trans e3).trans (same_new hp)) ⟨p, _, rfl, upd_same, cutD_all ((DqAll.flat ds xs n q).same ((e2.trans e3).trans (same_new hp)))⟩⟩
end
end K92
end
section
set_option maxHeartbeats 4000000
/-! The data layer: statements. -/
namespace K92
open PySem PySem.Spec PyProof.Rows L2
/-- a slot: nothing known; data; a list or an instance of this body's own that it changes -/
inductive En where
  | no | dat (d : Dat) | own (l : Addr) (c : Dat)
def En.vw : En → Option Dat
  | .no => none
  | .dat d => some d
  | .own _ c => some c
abbrev view (Γ : List En) : Vw := Γ.map En.vw
/-- not an own one -/
def Ps (Γ : List En) (a : Addr) : Prop := ∀ (i : Nat) (c : Dat), Γ[i]? ≠ some (En.own a c)
/-- the own content at l -/
def Top (Pr : Addr → Prop) (H : Hp) (l : Addr) : Dat → Prop
  | .lst ds => ∃ xs, H l = some (.lst xs) ∧ DqAll Pr H ds xs
  | .ins C ns ds => ∃ dx xs, H l = some (.ins C dx (ns.zip xs)) ∧ ns.length = xs.length ∧ DqAll Pr H ds xs
  | _ => False
theorem Top.there {Pr : Addr → Prop} {H : Hp} {l : Addr} : ∀ {c : Dat}, Top Pr H l c → ∃ o, H l = some o ∧ ∀ xs, o ≠ .tup xs
  | .lst ds, ⟨xs, h, _⟩ => ⟨_, h, fun _ e => by cases e⟩
  | .ins C ns ds, ⟨dx, xs, h, _⟩ => ⟨_, h, fun _ e => by cases e⟩
theorem Top.go {Pr Pr' : Addr → Prop} {H H' : Hp} {l : Addr} (hl : ∀ a o, Pr a → H a = some o → Pr' a ∧ H' a = some o) (ht : ∀ a xs, H a = some (.tup xs) → H' a = some (.tup xs)) (h0 : ∀ o, H l = some o → H' l = some o) : ∀ {c : Dat}, Top Pr H l c → Top Pr' H' l c
  | .lst ds, ⟨xs, h, q⟩ => ⟨xs, h0 _ h, DqAll.go hl ht _ _ q⟩
  | .ins C ns ds, ⟨dx, xs, h, z, q⟩ => ⟨dx, xs, h0 _ h, z, DqAll.go hl ht _ _ q⟩
theorem Top.dq {Pr Pr' : Addr → Prop} {H : Hp} {l : Addr} (hl : Pr' l) (w : ∀ a, Pr a → Pr' a) : ∀ {c : Dat}, Top Pr H l c → Dq Pr' H c (.ref l)
  | .lst ds, ⟨xs, h, q⟩ => ⟨l, xs, rfl, hl, h, q.weak w⟩
  | .ins C ns ds, ⟨dx, xs, h, z, q⟩ => ⟨l, xs, dx, rfl, hl, h, z, q.weak w⟩
def SlotOk (Γ : List En) (H : Hp) (o : Option V) : En → Prop
  | .no => True
  | .dat d => ∃ v, o = some v ∧ Dq (Ps Γ) H d v
  | .own l c => o = some (.ref l) ∧ Top (Ps Γ) H l c
/-- the state of a body: H0 its entry's heap, gh data that are read on (what is walked) -/
structure At (H0 : Hp) (gh : List (V × Dat)) (H : Hp) (σ : L2.St) (Γ : List En) : Prop where
  same : Same H0 H
  new : ∀ (i : Nat) (l : Addr) (c : Dat), Γ[i]? = some (.own l c) → H0 l = none
  one : ∀ (i j : Nat) (l : Addr) (c c' : Dat), Γ[i]? = some (.own l c) → Γ[j]? = some (.own l c') → i = j
  gh : ∀ p ∈ gh, Dq (Ps Γ) H p.2 p.1
  len : σ.length = Γ.length
  sl : ∀ (i : Nat) (e : En), Γ[i]? = some e → ∃ o, σ[i]? = some o ∧ SlotOk Γ H o e
section
variable {H0 H H1 : Hp} {gh g : List (V × Dat)} {σ : L2.St} {Γ : List En}
theorem SlotOk.go {Γ Γ' : List En} {H H' : Hp} {o : Option V} {e : En} (hl : ∀ a o, Ps Γ a → H a = some o → Ps Γ' a ∧ H' a = some o) (ht : ∀ a xs, H a = some (.tup xs) → H' a = some (.tup xs)) (h0 : ∀ l c, e = .own l c → ∀ o, H l = some o → H' l = some o)
    (h : SlotOk Γ H o e) : SlotOk Γ' H' o e := by
  cases e with
  | no => trivial
  | dat d =>
    obtain ⟨v, e1, q⟩ := h
    exact ⟨v, e1, Dq.go hl ht d v q⟩
  | own l c => exact ⟨h.1, h.2.go hl ht (h0 l c rfl)⟩
theorem At.mono (A : At H0 gh H σ Γ) (e : Same H H1) : At H0 gh H1 σ Γ :=
  ⟨A.same.trans e, A.new, A.one, fun p hp => (A.gh p hp).same e, A.len, fun i en h => by
    obtain ⟨o, h1, h2⟩ := A.sl i en h
    exact ⟨o, h1, h2.go (fun a o p q => ⟨p, e a o q⟩) (fun a xs q => e a _ q) fun l c _ o q => e l o q⟩⟩
theorem At.sv (A : At H0 gh H σ Γ) : Sv H σ (view Γ) := ⟨by rw [A.len, List.length_map], fun i d h => by
  rw [List.getElem?_map] at h
  cases e : Γ[i]? with
  | none => rw [e] at h; cases h
  | some en =>
    rw [e] at h
    obtain ⟨o, h1, h2⟩ := A.sl i en e
    cases en with
    | no => cases h
    | dat d' =>
      have e1 : d' = d := Option.some.inj (Option.some.inj h)
      subst e1
      obtain ⟨v, e2, q⟩ := h2
      exact ⟨v, by rw [h1, e2], q.top⟩
    | own l c =>
      have e1 : c = d := Option.some.inj (Option.some.inj h)
      subst e1
      exact ⟨.ref l, by rw [h1, h2.1], h2.2.dq trivial fun _ _ => trivial⟩⟩
/-- weaker masks, slots forgotten or changed -/
theorem psm_set {i : Nat} {e : En} (he : ∀ l c, e ≠ .own l c) {a : Addr} (h : Ps Γ a) : Ps (Γ.set i e) a := fun j c q => by
  by_cases hj : i = j
  · subst hj
    by_cases hz : i < Γ.length
    · rw [List.getElem?_set_self hz] at q
      exact he a c (Option.some.inj q)
    · rw [List.getElem?_eq_none (by simpa using hz)] at q; cases q
  · rw [List.getElem?_set_ne hj] at q
    exact h j c q
theorem set_cases {i j : Nat} {e e' : En} (h : (Γ.set i e)[j]? = some e') : (i = j ∧ e' = e ∧ i < Γ.length) ∨ (i ≠ j ∧ Γ[j]? = some e') := by
  by_cases hj : i = j
  · subst hj
    by_cases hz : i < Γ.length
    · rw [List.getElem?_set_self hz] at h
      exact .inl ⟨rfl, (Option.some.inj h).symm, hz⟩
    · rw [List.getElem?_eq_none (by simpa using hz)] at h; cases h
  · rw [List.getElem?_set_ne hj] at h
    exact .inr ⟨hj, h⟩
/-- a slot gets data -/
theorem At.dat (A : At H0 gh H σ Γ) {i : Nat} {d : Dat} {v : V} (q : Dq (Ps Γ) H d v) : At H0 gh H (σ.set i (some v)) (Γ.set i (.dat d)) := by
  have w : ∀ a, Ps Γ a → Ps (Γ.set i (.dat d)) a := fun a h => psm_set (fun l c e => by cases e) h
  refine ⟨A.same, fun j l c h => ?_, fun j k l c c' h h' => ?_, fun p hp => (A.gh p hp).weak w, by rw [List.length_set, List.length_set, A.len], fun j e h => ?_⟩
  · rcases set_cases h with ⟨_, e, _⟩ | ⟨_, e⟩
    · cases e
    · exact A.new j l c e
  · rcases set_cases h with ⟨_, e, _⟩ | ⟨_, e⟩
    · cases e
    · rcases set_cases h' with ⟨_, e', _⟩ | ⟨_, e'⟩
      · cases e'
      · exact A.one j k l c c' e e'
  · rcases set_cases h with ⟨e1, e2, hz⟩ | ⟨e1, e2⟩
    · subst e1 e2
      exact ⟨some v, by rw [List.getElem?_set_self (by rw [A.len]; exact hz)], v, rfl, q.weak w⟩
    · obtain ⟨o, h1, h2⟩ := A.sl j e e2
      exact ⟨o, by rw [List.getElem?_set_ne e1]; exact h1, h2.go (fun a o p q => ⟨w a p, q⟩) (fun a xs q => q) fun l c _ o q => q⟩
/-- a slot is forgotten -/
theorem At.forget (A : At H0 gh H σ Γ) {i : Nat} {o : Option V} : At H0 gh H (σ.set i o) (Γ.set i .no) := by
  have w : ∀ a, Ps Γ a → Ps (Γ.set i .no) a := fun a h => psm_set (fun l c e => by cases e) h
  refine ⟨A.same, fun j l c h => ?_, fun j k l c c' h h' => ?_, fun p hp => (A.gh p hp).weak w, by rw [List.length_set, List.length_set, A.len], fun j e h => ?_⟩
  · rcases set_cases h with ⟨_, e, _⟩ | ⟨_, e⟩
    · cases e
    · exact A.new j l c e
  · rcases set_cases h with ⟨_, e, _⟩ | ⟨_, e⟩
    · cases e
    · rcases set_cases h' with ⟨_, e', _⟩ | ⟨_, e'⟩
      · cases e'
      · exact A.one j k l c c' e e'
  · rcases set_cases h with ⟨e1, e2, hz⟩ | ⟨e1, e2⟩
    · subst e1 e2
      exact ⟨o, by rw [List.getElem?_set_self (by rw [A.len]; exact hz)], trivial⟩
    · obtain ⟨o, h1, h2⟩ := A.sl j e e2
      exact ⟨o, by rw [List.getElem?_set_ne e1]; exact h1, h2.go (fun a o p q => ⟨w a p, q⟩) (fun a xs q => q) fun l c _ o q => q⟩
/-- the weak entry: something of the view is dropped without a store -/
theorem At.weaken (A : At H0 gh H σ Γ) {i : Nat} : At H0 gh H σ (Γ.set i .no) := by
  have w : ∀ a, Ps Γ a → Ps (Γ.set i .no) a := fun a h => psm_set (fun l c e => by cases e) h
  refine ⟨A.same, fun j l c h => ?_, fun j k l c c' h h' => ?_, fun p hp => (A.gh p hp).weak w, by rw [List.length_set, A.len], fun j e h => ?_⟩
  · rcases set_cases h with ⟨_, e, _⟩ | ⟨_, e⟩
    · cases e
    · exact A.new j l c e
  · rcases set_cases h with ⟨_, e, _⟩ | ⟨_, e⟩
    · cases e
    · rcases set_cases h' with ⟨_, e', _⟩ | ⟨_, e'⟩
      · cases e'
      · exact A.one j k l c c' e e'
  · rcases set_cases h with ⟨e1, e2, hz⟩ | ⟨e1, e2⟩
    · subst e1 e2
      obtain ⟨o, h1⟩ : ∃ o, σ[i]? = some o := ⟨σ[i]'(by rw [A.len]; exact hz), List.getElem?_eq_getElem _⟩
      exact ⟨o, h1, trivial⟩
    · obtain ⟨o, h1, h2⟩ := A.sl j e e2
      exact ⟨o, h1, h2.go (fun a o p q => ⟨w a p, q⟩) (fun a xs q => q) fun l c _ o q => q⟩
/-- fresh data are no own ones -/
theorem At.fresh (A : At H0 gh H σ Γ) {a : Addr} (h : H a = none) : Ps Γ a := fun i c e => by
  obtain ⟨o, h1, h2⟩ := A.sl i _ e
  obtain ⟨ob, h3, _⟩ := h2.2.there
  rw [h] at h3; cases h3
theorem At.dq (A : At H0 gh H σ Γ) {d : Dat} {v : V} (q : Dq (Fr H) H1 d v) : Dq (Ps Γ) H1 d v := q.weak fun _ h => A.fresh h
/-- a slot gets a new list (or instance) as an own one -/
theorem At.own (A : At H0 gh H σ Γ) (e : Same H H1) {i : Nat} {p : Addr} {c : Dat} (hp : H p = none) (q : Top NP1 H1 p c) (hz : i < Γ.length) : At H0 gh H1 (σ.set i (some (.ref p))) (Γ.set i (.own p c)) := by
  have tr : ∀ a o, Ps Γ a → H a = some o → Ps (Γ.set i (.own p c)) a ∧ H1 a = some o := fun a o h ha => ⟨fun j c' q => by
    rcases set_cases q with ⟨_, e1, _⟩ | ⟨_, e1⟩
    · cases e1
      rw [hp] at ha; cases ha
    · exact h j c' e1, e a o ha⟩
  have tt : ∀ a xs, H a = some (.tup xs) → H1 a = some (.tup xs) := fun a xs h => e a _ h
  refine ⟨A.same.trans e, fun j l c' h => ?_, fun j k l c1 c2 h h' => ?_, fun r hr => Dq.go tr tt _ _ (A.gh r hr), by rw [List.length_set, List.length_set, A.len], fun j en h => ?_⟩
  · rcases set_cases h with ⟨_, e1, _⟩ | ⟨_, e1⟩
    · cases e1
      exact A.same.free hp
    · exact A.new j l c' e1
  · have old : ∀ (j : Nat) (c1 : Dat), Γ[j]? = some (.own p c1) → False := fun j c1 h => A.fresh hp j c1 h
    rcases set_cases h with ⟨e0, e1, _⟩ | ⟨_, e1⟩
    · cases e1
      rcases set_cases h' with ⟨e0', e1', _⟩ | ⟨_, e1'⟩
      · rw [← e0, ← e0']
      · exact (old k c2 e1').elim
    · rcases set_cases h' with ⟨e0', e1', _⟩ | ⟨_, e1'⟩
      · cases e1'
        exact (old j c1 e1).elim
      · exact A.one j k l c1 c2 e1 e1'
  · rcases set_cases h with ⟨e1, e2, hz⟩ | ⟨e1, e2⟩
    · subst e1 e2
      refine ⟨some (.ref p), by rw [List.getElem?_set_self (by rw [A.len]; exact hz)], rfl, ?_⟩
      exact q.go (fun _ _ z => z.elim) (fun _ _ z => z) fun _ z => z
    · obtain ⟨o, h1, h2⟩ := A.sl j en e2
      exact ⟨o, by rw [List.getElem?_set_ne e1]; exact h1, h2.go tr tt fun l c' _ o q => e l o q⟩
/-- an own one is written -/
theorem At.put (A : At H0 gh H σ Γ) {i : Nat} {l : Addr} {c c' : Dat} (h : Γ[i]? = some (.own l c)) {o : HO} (q : Top (Ps Γ) (upd H l o) l c') : At H0 gh (upd H l o) σ (Γ.set i (.own l c')) := by
  obtain ⟨ov, hv, ev, qt⟩ := A.sl i _ h
  obtain ⟨ob, hob, nt⟩ := qt.there
  have hz : i < Γ.length := (List.getElem?_eq_some_iff.mp h).1
  have pe : ∀ a, Ps Γ a → Ps (Γ.set i (.own l c')) a := fun a ha j c2 q => by
    rcases set_cases q with ⟨_, e1, _⟩ | ⟨_, e1⟩
    · cases e1
      exact ha i c h
    · exact ha j c2 e1
  have tr : ∀ a u, Ps Γ a → H a = some u → Ps (Γ.set i (.own l c')) a ∧ upd H l o a = some u := fun a u ha hu => ⟨pe a ha, by
    rw [upd_ne fun z => ha i c (by rw [z]; exact h)]
    exact hu⟩
  have tt : ∀ a xs, H a = some (.tup xs) → upd H l o a = some (.tup xs) := fun a xs ha => by
    rw [upd_ne fun z => nt xs (by rw [z, hob] at ha; exact Option.some.inj ha)]
    exact ha
  have n0 := A.new i l c h
  refine ⟨fun a u ha => ?_, fun j k c2 hj => ?_, fun j k a c1 c2 hj hk => ?_, fun r hr => Dq.go tr tt _ _ (A.gh r hr), by rw [List.length_set, A.len], fun j en hj => ?_⟩
  · rw [upd_ne (ne_of_none ha n0)]
    exact A.same a u ha
  · rcases set_cases hj with ⟨_, e1, _⟩ | ⟨_, e1⟩
    · cases e1
      exact n0
    · exact A.new j k c2 e1
  · rcases set_cases hj with ⟨e0, e1, _⟩ | ⟨e0, e1⟩
    · cases e1
      rcases set_cases hk with ⟨e0', e1', _⟩ | ⟨e0', e1'⟩
      · rw [← e0, ← e0']
      · exact absurd (A.one i k l c c2 h e1') e0'
    · rcases set_cases hk with ⟨e0', e1', _⟩ | ⟨e0', e1'⟩
      · cases e1'
        exact absurd (A.one i j l c c1 h e1) e0
      · exact A.one j k a c1 c2 e1 e1'
  · rcases set_cases hj with ⟨e1, e2, _⟩ | ⟨e1, e2⟩
    · subst e1 e2
      exact ⟨ov, hv, ev, q.go (fun a u p z => ⟨pe a p, z⟩) (fun _ _ z => z) fun _ z => z⟩
    · obtain ⟨o2, h1, h2⟩ := A.sl j en e2
      refine ⟨o2, h1, h2.go tr tt fun l2 c2 e3 u hu => ?_⟩
      subst e3
      rw [upd_ne fun z => e1 (A.one i j l c c2 h (by rw [← z]; exact e2))]
      exact hu
/-- an own one is given up: plain data from now on -/
theorem At.freeze (A : At H0 gh H σ Γ) {i : Nat} {l : Addr} {c : Dat} (h : Γ[i]? = some (.own l c)) : At H0 gh H σ (Γ.set i (.dat c)) := by
  obtain ⟨ov, hv, ev, qt⟩ := A.sl i _ h
  have w : ∀ a, Ps Γ a → Ps (Γ.set i (.dat c)) a := fun a h => psm_set (fun l c e => by cases e) h
  have wl : Ps (Γ.set i (.dat c)) l := fun j c2 q => by
    rcases set_cases q with ⟨_, e1, _⟩ | ⟨e0, e1⟩
    · cases e1
    · exact e0 (A.one i j l c c2 h e1)
  refine ⟨A.same, fun j l c h => ?_, fun j k l c c' h h' => ?_, fun p hp => (A.gh p hp).weak w, by rw [List.length_set, A.len], fun j e hj => ?_⟩
  · rcases set_cases h with ⟨_, e, _⟩ | ⟨_, e⟩
    · cases e
    · exact A.new j l c e
  · rcases set_cases h with ⟨_, e, _⟩ | ⟨_, e⟩
    · cases e
    · rcases set_cases h' with ⟨_, e', _⟩ | ⟨_, e'⟩
      · cases e'
      · exact A.one j k l c c' e e'
  · rcases set_cases hj with ⟨e1, e2, hz⟩ | ⟨e1, e2⟩
    · subst e1 e2
      exact ⟨ov, hv, .ref l, ev, qt.dq wl w⟩
    · obtain ⟨o, h1, h2⟩ := A.sl j e e2
      exact ⟨o, h1, h2.go (fun a o p q => ⟨w a p, q⟩) (fun a xs q => q) fun l c _ o q => q⟩
/-- ghosts -/
theorem At.more (A : At H0 gh H σ Γ) (h : ∀ p ∈ g, Dq (Ps Γ) H p.2 p.1) : At H0 (g ++ gh) H σ Γ := ⟨A.same, A.new, A.one, fun p hp => (List.mem_append.mp hp).elim (h p) (A.gh p), A.len, A.sl⟩
theorem At.less (A : At H0 (g ++ gh) H σ Γ) : At H0 gh H σ Γ := ⟨A.same, A.new, A.one, fun p hp => A.gh p (List.mem_append_right _ hp), A.len, A.sl⟩
theorem At.look (A : At H0 (g ++ gh) H σ Γ) : ∀ p ∈ g, Dq TP1 H p.2 p.1 := fun p hp => (A.gh p (List.mem_append_left _ hp)).top
end
/-! ### statements -/
section
variable {H0 H H1 : Hp} {gh g : List (V × Dat)} {σ : L2.St} {Γ : List En} {te : TE} {t u : TS} {D : Ends} {d : Dat} {i : Nat} {K : PySem.W.Frag}
theorem sq (h : t { D with nx := u D } σ H) : tSeq t u D σ H := h
/-- an expression at a state: not own -/
def EvP (te : TE) (Γ : List En) (d : Dat) : Prop := ∀ H0 gh σ H, At H0 gh H σ Γ → ∀ Q : VK, (∀ v H1, Same H H1 → Dq (Ps Γ) H1 d v → Q v H1) → te σ H Q
theorem Ev.p (h : Ev te (view Γ) d) : EvP te Γ d := fun H0 gh σ H A Q k => h σ H A.sv Q fun v H1 e q => k v H1 e (A.dq q)
theorem EvP.is {d' : Dat} (h : EvP te Γ d) (e : d = d') : EvP te Γ d' := e ▸ h
theorem ep_var (h : Γ[i]? = some (.dat d)) : EvP (tVar i) Γ d := fun H0 gh σ H A Q k => by
  obtain ⟨o, h1, v, h2, q⟩ := A.sl i _ h
  exact ⟨v, by rw [h1, h2], k v H (Same.refl H) q⟩
theorem ep_fld {C : Addr} {f : Str} {ns : List Str} {fds : List Dat} {ta : TE} (h : EvP ta Γ (.ins C ns fds)) (c : Cls K C) (n : NoAttr K C f) (hl : (ns.zip fds).lookup f = some d) : EvP (tFld K ta f) Γ d := fun H0 gh σ H A Q k =>
  h H0 gh σ H A _ fun x H1 e1 ⟨a, xs, dx, ex, p, hx, hz, q⟩ => by
    obtain ⟨v, e, qv⟩ := lookup_zip q hl
    exact ⟨a, C, dx, _, v, ex, hx, c, n, e, k v H1 e1 qv⟩
/-- a field of an own instance -/
theorem ep_fldO {C l : Addr} {f : Str} {ns : List Str} {fds : List Dat} (h : Γ[i]? = some (.own l (.ins C ns fds))) (c : Cls K C) (n : NoAttr K C f) (hl : (ns.zip fds).lookup f = some d) : EvP (tFld K (tVar i) f) Γ d := fun H0 gh σ H A Q k => by
  obtain ⟨o, h1, e2, dx, xs, hx, hz, q⟩ := A.sl i _ h
  obtain ⟨v, e, qv⟩ := lookup_zip q hl
  exact ⟨.ref l, by rw [h1, e2], l, C, dx, _, v, rfl, hx, c, n, e, k v H (Same.refl H) qv⟩
/-- x = e -/
theorem st_asg (A : At H0 gh H σ Γ) (h : EvP te Γ d) (k : ∀ σ' H', At H0 gh H' σ' (Γ.set i (.dat d)) → D.nx σ' H') : tAsg te (gName i) D σ H :=
  h H0 gh σ H A _ fun v H1 e q => k _ H1 ((A.mono e).dat q)
/-- x = e, a new list, from now on an own one -/
theorem st_own {ds : List Dat} (A : At H0 gh H σ Γ) (h : Ev te (view Γ) (.lst ds)) (n : nlAll ds = true) (hz : i < Γ.length) (k : ∀ l σ' H', At H0 gh H' σ' (Γ.set i (.own l (.lst ds))) → D.nx σ' H') : tAsg te (gName i) D σ H :=
  h σ H A.sv _ fun v H1 e ⟨a, xs, ev, pa, hx, q⟩ => by
    subst ev
    exact k a _ H1 (A.own e pa ⟨xs, hx, DqAll.flat ds xs n q⟩ hz)
theorem st_if {tc : TT} {b : Bool} (A : At H0 gh H σ Γ) (h : EvT tc (view Γ) b) (h1 : b = true → ∀ H', At H0 gh H' σ Γ → t D σ H') (h2 : b = false → ∀ H', At H0 gh H' σ Γ → u D σ H') : tIfS tc t u D σ H :=
  h σ H A.sv _ fun H1 e => by
    cases b with
    | true => exact h1 rfl H1 (A.mono e)
    | false => exact h2 rfl H1 (A.mono e)
/-- an if whose test is known -/
theorem st_ifT {tc : TT} (A : At H0 gh H σ Γ) (h : EvT tc (view Γ) true) (h1 : ∀ H', At H0 gh H' σ Γ → t D σ H') : tIfS tc t u D σ H := st_if A h (fun _ => h1) fun z => by cases z
theorem st_ifF {tc : TT} (A : At H0 gh H σ Γ) (h : EvT tc (view Γ) false) (h2 : ∀ H', At H0 gh H' σ Γ → u D σ H') : tIfS tc t u D σ H := st_if A h (fun z => by cases z) fun _ => h2
theorem st_ret (A : At H0 gh H σ Γ) (h : Ev te (view Γ) d) (k : ∀ v H', Same H0 H' → Dq (Fr H0) H' d v → D.rt v H') : tRet te D σ H :=
  h σ H A.sv _ fun v H1 e q => k v H1 (A.same.trans e) (q.weak (fr_same A.same))
/-- return of an own one -/
theorem st_retO {l : Addr} {c : Dat} (A : At H0 gh H σ Γ) (h : Γ[i]? = some (.own l c)) (n : (match c with | .lst ds => nlAll ds | .ins _ _ ds => nlAll ds | _ => false) = true) (k : ∀ v H', Same H0 H' → Dq (Fr H0) H' c v → D.rt v H') : tRet (tVar i) D σ H := by
  obtain ⟨o, h1, e2, q⟩ := A.sl i _ h
  refine ⟨.ref l, by rw [h1, e2], k _ H A.same ?_⟩
  have n0 := A.new i l c h
  cases c with
  | lst ds =>
    obtain ⟨xs, hx, q⟩ := q
    exact ⟨l, xs, rfl, n0, hx, DqAll.flat ds xs n q⟩
  | ins C ns ds =>
    obtain ⟨dx, xs, hx, hz, q⟩ := q
    exact ⟨l, xs, dx, rfl, n0, hx, hz, DqAll.flat ds xs n q⟩
  | _ => exact q.elim
/-- return (own, own) and (own, flat) -/
theorem st_retOO {i j : Nat} {l m : Addr} {ds es : List Dat} (A : At H0 gh H σ Γ) (h : Γ[i]? = some (.own l (.lst ds))) (h' : Γ[j]? = some (.own m (.lst es))) (n : nlAll ds = true) (n' : nlAll es = true) (k : ∀ v H', Same H0 H' → Dq (Fr H0) H' (.tup [.lst ds, .lst es]) v → D.rt v H') : tRet (tTup (tCons (tVar i) (tCons (tVar j) tNil))) D σ H := by
  obtain ⟨o, h1, e2, xs, hx, q⟩ := A.sl i _ h
  obtain ⟨o', h1', e2', ys, hy, r⟩ := A.sl j _ h'
  refine ⟨.ref l, by rw [h1, e2], .ref m, by rw [h1', e2'], (by show 2 ≤ sizeLine; decide), fun p hp => k _ _ (A.same.trans (same_new hp)) ⟨p, _, rfl, upd_same, _, _, rfl, ⟨l, xs, rfl, A.new i l _ h, same_new hp _ _ hx, (DqAll.flat ds xs n q).same (same_new hp)⟩, _, _, rfl, ⟨m, ys, rfl, A.new j m _ h', same_new hp _ _ hy, (DqAll.flat es ys n' r).same (same_new hp)⟩, rfl⟩⟩
theorem st_retOD {i j : Nat} {l : Addr} {ds : List Dat} {d : Dat} (A : At H0 gh H σ Γ) (h : Γ[i]? = some (.own l (.lst ds))) (h' : Γ[j]? = some (.dat d)) (n : nlAll ds = true) (n' : nl d = true) (k : ∀ v H', Same H0 H' → Dq (Fr H0) H' (.tup [.lst ds, d]) v → D.rt v H') : tRet (tTup (tCons (tVar i) (tCons (tVar j) tNil))) D σ H := by
  obtain ⟨o, h1, e2, xs, hx, q⟩ := A.sl i _ h
  obtain ⟨o', h1', v, e2', r⟩ := A.sl j _ h'
  refine ⟨.ref l, by rw [h1, e2], v, by rw [h1', e2'], (by show 2 ≤ sizeLine; decide), fun p hp => k _ _ (A.same.trans (same_new hp)) ⟨p, _, rfl, upd_same, _, _, rfl, ⟨l, xs, rfl, A.new i l _ h, same_new hp _ _ hx, (DqAll.flat ds xs n q).same (same_new hp)⟩, _, _, rfl, (Dq.flat d v n' r).same (same_new hp), rfl⟩⟩
/-- x op= e -/
theorem st_aug {ti : TIp} {d1 d2 : Dat} (A : At H0 gh H σ Γ) (hx : (view Γ)[i]? = some (some d1)) (h : EvW te (view Γ) d2) (hr : RD ti d1 d2 d) (k : ∀ σ' H', At H0 gh H' σ' (Γ.set i (.dat d)) → D.nx σ' H') : tAug i te ti D σ H := by
  obtain ⟨x, h1, q1⟩ := A.sv.at_ i d1 hx
  refine ⟨x, h1, h σ H A.sv _ fun y H1 e q => hr H1 x y (q1.same e) q _ fun z H2 e2 q2 => k _ H2 ((A.mono (e.trans e2)).dat ((A.mono e).dq q2))⟩
theorem st_drop (A : At H0 gh H σ Γ) (h : Ev te (view Γ) d) (k : ∀ H', At H0 gh H' σ Γ → D.nx σ H') : tDrop te D σ H := h σ H A.sv _ fun v H1 e q => k H1 (A.mono e)
/-- an if without else that is not taken -/
theorem st_skip {tc : TT} (A : At H0 gh H σ Γ) (h : EvT tc (view Γ) false) (k : ∀ H', At H0 gh H' σ Γ → D.nx σ H') : tIfS tc t tNext D σ H := st_ifF A h k
/-- a statement, then the rest, with the slots told between them -/
theorem st_cut {Γ' : List En} (_A : At H0 gh H σ Γ) (h : t { D with nx := fun σ' H' => At H0 gh H' σ' Γ' } σ H) (k : ∀ σ' H', At H0 gh H' σ' Γ' → u D σ' H') : Evl.tCut t u D σ H := ⟨_, h, k⟩
theorem st_next (h : D.nx σ H) : tNext D σ H := h
/-- xs.append(e), xs.extend(es): an own list -/
theorem st_app {l : Addr} {ds : List Dat} (A : At H0 gh H σ Γ) (hx : Γ[i]? = some (.own l (.lst ds))) (h : Ev te (view Γ) d) (n : nl d = true) (hz : ds.length ≤ 100000) (k : ∀ H', At H0 gh H' σ (Γ.set i (.own l (.lst (ds ++ [d])))) → D.nx σ H') :
    tDrop (tBM K "list" rAppend (tVar i) (tCons te tNil)) D σ H := by
  obtain ⟨o, h1, e2, xs, hl, q⟩ := A.sl i _ hx
  refine ⟨.ref l, by rw [h1, e2], .inl ⟨rfl, xs, SqL.of hl⟩, h σ H A.sv _ fun v H1 e qv => ?_⟩
  have A1 := A.mono e
  refine ⟨l, xs, v, rfl, rfl, e _ _ hl, Nat.lt_of_le_of_lt (by rw [q.length]; exact hz) (by decide), k _ (A1.put hx ?_)⟩
  have tt : ∀ a ys, H1 a = some (.tup ys) → upd H1 l (.lst (xs ++ [v])) a = some (.tup ys) := fun a ys ha => by
    rw [upd_ne fun z => by rw [z, e _ _ hl] at ha; cases ha]
    exact ha
  refine ⟨_, upd_same, DqAll.append ?_ (DqAll.one (qv.tups n tt))⟩
  refine DqAll.go (fun a o p ho => ⟨p, ?_⟩) tt _ _ (q.same e)
  rw [upd_ne fun z => p i _ (by rw [z]; exact hx)]
  exact ho
theorem st_ext {l : Addr} {ds es : List Dat} (A : At H0 gh H σ Γ) (hx : Γ[i]? = some (.own l (.lst ds))) (h : EvW te (view Γ) (.lst es)) (n : nlAll es = true) (hz : ds.length + es.length ≤ 100000) (k : ∀ H', At H0 gh H' σ (Γ.set i (.own l (.lst (ds ++ es)))) → D.nx σ H') :
    tDrop (tBM K "list" rExtend (tVar i) (tCons te tNil)) D σ H := by
  obtain ⟨o, h1, e2, xs, hl, q⟩ := A.sl i _ hx
  refine ⟨.ref l, by rw [h1, e2], .inl ⟨rfl, xs, SqL.of hl⟩, h σ H A.sv _ fun v H1 e ⟨b, ys, eb, _, hb, qv⟩ => ?_⟩
  subst eb
  have A1 := A.mono e
  refine ⟨l, b, xs, ys, rfl, rfl, e _ _ hl, hb, Nat.le_trans (by rw [q.length, qv.length]; exact hz) (by decide), k _ (A1.put hx ?_)⟩
  have tt : ∀ a ys', H1 a = some (.tup ys') → upd H1 l (.lst (xs ++ ys)) a = some (.tup ys') := fun a ys' ha => by
    rw [upd_ne fun z => by rw [z, e _ _ hl] at ha; cases ha]
    exact ha
  refine ⟨_, upd_same, DqAll.append ?_ (qv.tups n tt)⟩
  refine DqAll.go (fun a o p ho => ⟨p, ?_⟩) tt _ _ (q.same e)
  rw [upd_ne fun z => p i _ (by rw [z]; exact hx)]
  exact ho
/-- a, b = t and a, b, c = t -/
theorem dq_tup2 {Pr : Addr → Prop} {d1 d2 : Dat} {v : V} (q : Dq Pr H (.tup [d1, d2]) v) : ∃ a v1 v2, v = .ref a ∧ H a = some (.tup [v1, v2]) ∧ Dq Pr H d1 v1 ∧ Dq Pr H d2 v2 := by
  obtain ⟨a, xs, e, h, x, r, e1, q1, y, r2, e2, q2, e3⟩ := q
  obtain rfl : r2 = [] := e3
  subst e2; subst e1
  exact ⟨a, x, y, e, h, q1, q2⟩
theorem dq_tup3 {Pr : Addr → Prop} {d1 d2 d3 : Dat} {v : V} (q : Dq Pr H (.tup [d1, d2, d3]) v) : ∃ a v1 v2 v3, v = .ref a ∧ H a = some (.tup [v1, v2, v3]) ∧ Dq Pr H d1 v1 ∧ Dq Pr H d2 v2 ∧ Dq Pr H d3 v3 := by
  obtain ⟨a, xs, e, h, x, r, e1, q1, y, r2, e2, q2, z, r3, e4, q3, e3⟩ := q
  obtain rfl : r3 = [] := e3
  subst e4; subst e2; subst e1
  exact ⟨a, x, y, z, e, h, q1, q2, q3⟩
theorem st_tup2 {d1 d2 : Dat} {i j : Nat} (A : At H0 gh H σ Γ) (h : EvP te Γ (.tup [d1, d2])) (k : ∀ σ' H', At H0 gh H' σ' ((Γ.set i (.dat d1)).set j (.dat d2)) → D.nx σ' H') : tAsg te (gTup K 2 (gCons (gName i) (gCons (gName j) gNil))) D σ H :=
  h H0 gh σ H A _ fun v H1 e q => by
    obtain ⟨a, v1, v2, ev, hx, q1, q2⟩ := dq_tup2 q
    have A1 := A.mono e
    refine ⟨a, _, ev, SqT.of hx, rfl, _, _, rfl, _, _, rfl, rfl, k _ H1 ((A1.dat q1).dat (q2.weak fun a h => psm_set (fun l c e => by cases e) h))⟩
theorem st_tup3 {d1 d2 d3 : Dat} {i j l : Nat} (A : At H0 gh H σ Γ) (h : EvP te Γ (.tup [d1, d2, d3])) (k : ∀ σ' H', At H0 gh H' σ' (((Γ.set i (.dat d1)).set j (.dat d2)).set l (.dat d3)) → D.nx σ' H') : tAsg te (gTup K 3 (gCons (gName i) (gCons (gName j) (gCons (gName l) gNil)))) D σ H :=
  h H0 gh σ H A _ fun v H1 e q => by
    obtain ⟨a, v1, v2, v3, ev, hx, q1, q2, q3⟩ := dq_tup3 q
    have A1 := A.mono e
    refine ⟨a, _, ev, SqT.of hx, rfl, _, _, rfl, _, _, rfl, _, _, rfl, rfl, k _ H1 (((A1.dat q1).dat (q2.weak fun a h => psm_set (fun l c e => by cases e) h)).dat (q3.weak fun a h => psm_set (fun l c e => by cases e) (psm_set (fun l c e => by cases e) h)))⟩
/-! #### what is walked -/
/-- J draws the data ds while g stands -/
def Drv (J : It) (g : List (V × Dat)) (ds : List Dat) : Prop := ∀ (i : Nat) (H : Hp), (∀ p ∈ g, Dq TP1 H p.2 p.1) → (ds.length ≤ i → J.stop i H) ∧ ∀ d, ds[i]? = some d → J.go i H ∧ ∀ x H', J.yld i H x H' → Same H H' ∧ Dq TP1 H' d x
def Src (wi : TI) (Δ : Vw) (ds : List Dat) : Prop := ∀ σ H, Sv H σ Δ → ∀ R : It → Hp → Prop, (∀ J H1 g, Same H H1 → (∀ p ∈ g, Dq TP1 H1 p.2 p.1) → Drv J g ds → R J H1) → wi σ H R
def SrcP (wi : TI) (Γ : List En) (ds : List Dat) : Prop := ∀ H0 gh σ H, At H0 gh H σ Γ → ∀ R : It → Hp → Prop, (∀ J H1 g, Same H H1 → (∀ p ∈ g, Dq (Ps Γ) H1 p.2 p.1) → Drv J g ds → R J H1) → wi σ H R
theorem drv_list {a : Addr} {ds : List Dat} : Drv (Itl K a) [(.ref a, .lst ds)] ds := fun i H hg => by
  obtain ⟨b, xs, eb, _, hx, q⟩ := hg _ (List.mem_cons_self ..)
  cases eb
  refine ⟨fun hz => ⟨xs, SqL.of hx, by rw [q.length]; exact hz⟩, fun d hd => ?_⟩
  obtain ⟨v, hv, qv⟩ := q.at hd
  refine ⟨⟨xs, v, SqL.of hx, hv⟩, fun x H' ⟨e, y⟩ => ?_⟩
  subst e
  have ev : v = x := Option.some.inj (hv.symm.trans (y xs (SqL.of hx)))
  rw [← ev]
  exact ⟨Same.refl _, qv⟩
theorem drv_tup {a : Addr} {ds : List Dat} : Drv (Itt K a) [(.ref a, .tup ds)] ds := fun i H hg => by
  obtain ⟨b, xs, eb, hx, q⟩ := hg _ (List.mem_cons_self ..)
  cases eb
  refine ⟨fun hz => ⟨xs, SqT.of hx, by rw [q.length]; exact hz⟩, fun d hd => ?_⟩
  obtain ⟨v, hv, qv⟩ := q.at hd
  refine ⟨⟨xs, v, SqT.of hx, hv⟩, fun x H' ⟨e, y⟩ => ?_⟩
  subst e
  have ev : v = x := Option.some.inj (hv.symm.trans (y xs (SqT.of hx)))
  rw [← ev]
  exact ⟨Same.refl _, qv⟩
theorem sr_list {tl : TE} {Δ : Vw} {ds : List Dat} (h : EvW tl Δ (.lst ds)) : Src (iList K tl) Δ ds := fun σ H s R k => h σ H s _ fun x H1 e q => by
  obtain ⟨a, xs, ex, _, hx, qx⟩ := id q
  subst ex
  exact ⟨a, rfl, ⟨xs, SqL.of hx⟩, k _ H1 [(.ref a, .lst ds)] e (fun p hp => by
    rcases List.mem_cons.mp hp with rfl | hp
    · exact q
    · cases hp) drv_list⟩
theorem sr_tup {tl : TE} {Δ : Vw} {ds : List Dat} (h : EvW tl Δ (.tup ds)) : Src (iTup K tl) Δ ds := fun σ H s R k => h σ H s _ fun x H1 e q => by
  obtain ⟨a, xs, ex, hx, qx⟩ := id q
  subst ex
  exact ⟨a, rfl, ⟨xs, SqT.of hx⟩, k _ H1 [(.ref a, .tup ds)] e (fun p hp => by
    rcases List.mem_cons.mp hp with rfl | hp
    · exact q
    · cases hp) drv_tup⟩
theorem sp_list {tl : TE} {ds : List Dat} (h : EvP tl Γ (.lst ds)) : SrcP (iList K tl) Γ ds := fun H0 gh σ H A R k => h H0 gh σ H A _ fun x H1 e q => by
  obtain ⟨a, xs, ex, _, hx, qx⟩ := id q
  subst ex
  exact ⟨a, rfl, ⟨xs, SqL.of hx⟩, k _ H1 [(.ref a, .lst ds)] e (fun p hp => by
    rcases List.mem_cons.mp hp with rfl | hp
    · exact q
    · cases hp) drv_list⟩
theorem sp_tup {tl : TE} {ds : List Dat} (h : EvP tl Γ (.tup ds)) : SrcP (iTup K tl) Γ ds := fun H0 gh σ H A R k => h H0 gh σ H A _ fun x H1 e q => by
  obtain ⟨a, xs, ex, hx, qx⟩ := id q
  subst ex
  exact ⟨a, rfl, ⟨xs, SqT.of hx⟩, k _ H1 [(.ref a, .tup ds)] e (fun p hp => by
    rcases List.mem_cons.mp hp with rfl | hp
    · exact q
    · cases hp) drv_tup⟩
/-- the ints from lo on, n of them -/
def rng (lo : Int) (n : Nat) : List Dat := (List.range n).map fun i => .int (lo + (i : Nat))
theorem rng_at {lo : Int} {n i : Nat} {d : Dat} (h : (rng lo n)[i]? = some d) : i < n ∧ d = .int (lo + (i : Nat)) := by
  unfold rng at h
  rw [List.getElem?_map] at h
  by_cases hz : i < n
  · rw [List.getElem?_range hz] at h
    exact ⟨hz, (Option.some.inj h).symm⟩
  · rw [List.getElem?_eq_none (by simpa using hz)] at h; cases h
theorem rng_len {lo : Int} {n : Nat} : (rng lo n).length = n := by unfold rng; rw [List.length_map, List.length_range]
theorem rng_nl {lo : Int} {n : Nat} : nlAll (rng lo n) = true := nlAll_of fun d h => by
  obtain ⟨i, _, e⟩ := List.mem_map.mp h
  rw [← e]; rfl
theorem drv_rng {lo : Int} {n : Nat} : Drv (Itr lo n) [] (rng lo n) := fun i H _ => ⟨fun hz => by rw [rng_len] at hz; exact hz, fun d hd => by
  obtain ⟨hz, e⟩ := rng_at hd
  subst e
  exact ⟨hz, fun x H' ⟨e1, e2⟩ => by subst e1 e2; exact ⟨Same.refl _, rfl⟩⟩⟩
theorem args1 {Pr : Addr → Prop} {i : Int} {vs : List V} (q : DqAll Pr H [.int i] vs) : vs = [.int i] := by
  obtain ⟨x, r, e, q1, e2⟩ := q
  obtain rfl : r = [] := e2
  rw [e, show x = V.int i from q1]
theorem args2 {Pr : Addr → Prop} {i j : Int} {vs : List V} (q : DqAll Pr H [.int i, .int j] vs) : vs = [.int i, .int j] := by
  obtain ⟨x, r, e, q1, q2⟩ := q
  rw [e, show x = V.int i from q1, args1 q2]
theorem sr_rng1 {ta : TA} {Δ : Vw} {n : Int} (h : EvA ta Δ [.int n]) (hn : n ≤ 100000 ∧ -100000 ≤ n) : Src (iRng1 ta) Δ (rng 0 n.toNat) := fun σ H s R k => h σ H s _ fun vs H1 e q => ⟨n, args1 q, by omega, by omega, k _ H1 [] e (fun p hp => by cases hp) drv_rng⟩
theorem sr_rng2 {ta : TA} {Δ : Vw} {m n : Int} (h : EvA ta Δ [.int m, .int n]) (hn : (m ≤ 100000 ∧ -100000 ≤ m) ∧ n ≤ 100000 ∧ -100000 ≤ n) : Src (iRng2 ta) Δ (rng m (n - m).toNat) := fun σ H s R k => h σ H s _ fun vs H1 e q => ⟨m, n, args2 q, by omega, k _ H1 [] e (fun p hp => by cases hp) drv_rng⟩
theorem sp_rng1 {ta : TA} {n : Int} (h : EvA ta (view Γ) [.int n]) (hn : n ≤ 100000 ∧ -100000 ≤ n) : SrcP (iRng1 ta) Γ (rng 0 n.toNat) := fun H0 gh σ H A R k => h σ H A.sv _ fun vs H1 e q => ⟨n, args1 q, by omega, by omega, k _ H1 [] e (fun p hp => by cases hp) drv_rng⟩
theorem sp_rng2 {ta : TA} {m n : Int} (h : EvA ta (view Γ) [.int m, .int n]) (hn : (m ≤ 100000 ∧ -100000 ≤ m) ∧ n ≤ 100000 ∧ -100000 ≤ n) : SrcP (iRng2 ta) Γ (rng m (n - m).toNat) := fun H0 gh σ H A R k => h σ H A.sv _ fun vs H1 e q => ⟨m, n, args2 q, by omega, k _ H1 [] e (fun p hp => by cases hp) drv_rng⟩
/-- for: the word is told of the turn and the slots -/
theorem st_for {wi : TI} {gt : TG} {tb : TS} {ds : List Dat} (Iv : Nat → List En → Prop) (A : At H0 gh H σ Γ) (hs : SrcP wi Γ ds) (n : nlAll ds = true) (h0 : Iv 0 Γ)
    (step : ∀ i d Γ' gh' σ' H' x, ds[i]? = some d → Iv i Γ' → At H0 gh' H' σ' Γ' → Dq NP1 H' d x →
      gt x σ' H' fun σ2 H2 => tb { D with nx := fun σ3 H3 => ∃ Γ3, Iv (i + 1) Γ3 ∧ At H0 gh' H3 σ3 Γ3, ct := fun σ3 H3 => ∃ Γ3, Iv (i + 1) Γ3 ∧ At H0 gh' H3 σ3 Γ3, bk := D.nx } σ2 H2)
    (done : ∀ Γ' σ' H', Iv ds.length Γ' → At H0 gh H' σ' Γ' → D.nx σ' H') : tFor wi gt tb D σ H := by
  refine hs H0 gh σ H A _ fun J H1 g e hg dv => ?_
  have A1 := (A.mono e).more hg
  refine ⟨fun i m σ' H' => m = ds.length - i ∧ i ≤ ds.length ∧ ∃ Γ', Iv i Γ' ∧ At H0 (g ++ gh) H' σ' Γ', ⟨_, rfl, Nat.zero_le _, Γ, h0, A1⟩, ?_⟩
  rintro i m σ' H' ⟨rfl, hi, Γ', iv, A'⟩
  obtain ⟨dst, dgo⟩ := dv i H' A'.look
  by_cases hlt : i < ds.length
  · obtain ⟨go, yl⟩ := dgo ds[i] (List.getElem?_eq_getElem hlt)
    refine .inr ⟨go, fun σ3 H3 => ∃ Γ3, Iv (i + 1) Γ3 ∧ At H0 (g ++ gh) H3 σ3 Γ3, fun σ3 H3 ⟨Γ3, iv3, A3⟩ => ⟨ds.length - (i + 1), by omega, rfl, hlt, Γ3, iv3, A3⟩, fun x H2 y => ?_⟩
    obtain ⟨s2, q2⟩ := yl x H2 y
    exact step i ds[i] Γ' (g ++ gh) σ' H2 x (List.getElem?_eq_getElem hlt) iv (A'.mono s2) (Dq.flat _ _ (nlAll_mem n _ (List.getElem_mem hlt)) q2)
  · have e : i = ds.length := by omega
    subst e
    exact .inl ⟨dst (Nat.le_refl _), done Γ' σ' H' iv A'.less⟩
/-- the target a name -/
theorem st_forN {wi : TI} {tb : TS} {ds : List Dat} {j : Nat} (Iv : Nat → List En → Prop) (A : At H0 gh H σ Γ) (hs : SrcP wi Γ ds) (n : nlAll ds = true) (h0 : Iv 0 Γ)
    (step : ∀ i d Γ' gh' σ' H', ds[i]? = some d → Iv i Γ' → At H0 gh' H' σ' (Γ'.set j (.dat d)) →
      tb { D with nx := fun σ3 H3 => ∃ Γ3, Iv (i + 1) Γ3 ∧ At H0 gh' H3 σ3 Γ3, ct := fun σ3 H3 => ∃ Γ3, Iv (i + 1) Γ3 ∧ At H0 gh' H3 σ3 Γ3, bk := D.nx } σ' H')
    (done : ∀ Γ' σ' H', Iv ds.length Γ' → At H0 gh H' σ' Γ' → D.nx σ' H') : tFor wi (gName j) tb D σ H :=
  st_for Iv A hs n h0 (fun i d Γ' gh' σ' H' x hd iv A' q => step i d Γ' gh' _ H' hd iv (A'.dat (q.weak fun _ z => z.elim))) done
theorem st_for2 {wi : TI} {tb : TS} {ds : List Dat} {j1 j2 : Nat} (Iv : Nat → List En → Prop) (A : At H0 gh H σ Γ) (hs : SrcP wi Γ ds) (n : nlAll ds = true) (h0 : Iv 0 Γ) (sh : ∀ (i : Nat) (d : Dat), ds[i]? = some d → ∃ d1 d2, d = .tup [d1, d2])
    (step : ∀ i d1 d2 Γ' gh' σ' H', ds[i]? = some (.tup [d1, d2]) → Iv i Γ' → At H0 gh' H' σ' ((Γ'.set j1 (.dat d1)).set j2 (.dat d2)) →
      tb { D with nx := fun σ3 H3 => ∃ Γ3, Iv (i + 1) Γ3 ∧ At H0 gh' H3 σ3 Γ3, ct := fun σ3 H3 => ∃ Γ3, Iv (i + 1) Γ3 ∧ At H0 gh' H3 σ3 Γ3, bk := D.nx } σ' H')
    (done : ∀ Γ' σ' H', Iv ds.length Γ' → At H0 gh H' σ' Γ' → D.nx σ' H') : tFor wi (gTup K 2 (gCons (gName j1) (gCons (gName j2) gNil))) tb D σ H :=
  st_for Iv A hs n h0 (fun i d Γ' gh' σ' H' x hd iv A' q => by
    obtain ⟨d1, d2, e⟩ := sh i d hd
    subst e
    obtain ⟨a, v1, v2, ev, hx, q1, q2⟩ := dq_tup2 q
    exact ⟨a, _, ev, SqT.of hx, rfl, _, _, rfl, _, _, rfl, rfl, step i d1 d2 Γ' gh' _ H' hd iv ((A'.dat (q1.weak fun _ z => z.elim)).dat (q2.weak fun _ z => z.elim))⟩) done
theorem st_for3 {wi : TI} {tb : TS} {ds : List Dat} {j1 j2 j3 : Nat} (Iv : Nat → List En → Prop) (A : At H0 gh H σ Γ) (hs : SrcP wi Γ ds) (n : nlAll ds = true) (h0 : Iv 0 Γ) (sh : ∀ (i : Nat) (d : Dat), ds[i]? = some d → ∃ d1 d2 d3, d = .tup [d1, d2, d3])
    (step : ∀ i d1 d2 d3 Γ' gh' σ' H', ds[i]? = some (.tup [d1, d2, d3]) → Iv i Γ' → At H0 gh' H' σ' (((Γ'.set j1 (.dat d1)).set j2 (.dat d2)).set j3 (.dat d3)) →
      tb { D with nx := fun σ3 H3 => ∃ Γ3, Iv (i + 1) Γ3 ∧ At H0 gh' H3 σ3 Γ3, ct := fun σ3 H3 => ∃ Γ3, Iv (i + 1) Γ3 ∧ At H0 gh' H3 σ3 Γ3, bk := D.nx } σ' H')
    (done : ∀ Γ' σ' H', Iv ds.length Γ' → At H0 gh H' σ' Γ' → D.nx σ' H') : tFor wi (gTup K 3 (gCons (gName j1) (gCons (gName j2) (gCons (gName j3) gNil)))) tb D σ H :=
  st_for Iv A hs n h0 (fun i d Γ' gh' σ' H' x hd iv A' q => by
    obtain ⟨d1, d2, d3, e⟩ := sh i d hd
    subst e
    obtain ⟨a, v1, v2, v3, ev, hx, q1, q2, q3⟩ := dq_tup3 q
    exact ⟨a, _, ev, SqT.of hx, rfl, _, _, rfl, _, _, rfl, _, _, rfl, rfl, step i d1 d2 d3 Γ' gh' _ H' hd iv (((A'.dat (q1.weak fun _ z => z.elim)).dat (q2.weak fun _ z => z.elim)).dat (q3.weak fun _ z => z.elim))⟩) done
/-- while -/
theorem st_while {tc : TT} {tb : TS} (Iv : Nat → List En → Prop) (A : At H0 gh H σ Γ) (m0 : Nat) (h0 : Iv m0 Γ)
    (step : ∀ m Γ', Iv m Γ' → ∃ b, EvT tc (view Γ') b ∧ (b = true → ∀ σ' H', At H0 gh H' σ' Γ' → tb { D with nx := fun σ3 H3 => ∃ m' Γ3, m' < m ∧ Iv m' Γ3 ∧ At H0 gh H3 σ3 Γ3, ct := fun σ3 H3 => ∃ m' Γ3, m' < m ∧ Iv m' Γ3 ∧ At H0 gh H3 σ3 Γ3, bk := D.nx } σ' H') ∧
      (b = false → ∀ σ' H', At H0 gh H' σ' Γ' → D.nx σ' H')) : tWhile tc tb D σ H := by
  refine ⟨fun m σ' H' => ∃ Γ', Iv m Γ' ∧ At H0 gh H' σ' Γ', ⟨m0, Γ, h0, A⟩, ?_⟩
  rintro m σ' H' ⟨Γ', iv, A'⟩
  obtain ⟨b, ht, hb, hf⟩ := step m Γ' iv
  refine ht σ' H' A'.sv _ fun H1 e => ?_
  cases b with
  | true => exact ⟨_, fun σ3 H3 ⟨m', Γ3, hm, iv3, A3⟩ => ⟨m', hm, Γ3, iv3, A3⟩, hb rfl σ' H1 (A'.mono e)⟩
  | false => exact hf rfl σ' H1 (A'.mono e)
/-! #### the same, something behind -/
theorem q_asg {uu : TS} (A : At H0 gh H σ Γ) (h : EvP te Γ d) (k : ∀ σ' H', At H0 gh H' σ' (Γ.set i (.dat d)) → uu D σ' H') : tSeq (tAsg te (gName i)) uu D σ H := st_asg (D := { D with nx := uu D }) A h k
theorem q_own {uu : TS} {ds : List Dat} (A : At H0 gh H σ Γ) (h : Ev te (view Γ) (.lst ds)) (n : nlAll ds = true) (hz : i < Γ.length) (k : ∀ l σ' H', At H0 gh H' σ' (Γ.set i (.own l (.lst ds))) → uu D σ' H') : tSeq (tAsg te (gName i)) uu D σ H := st_own (D := { D with nx := uu D }) A h n hz k
theorem q_if {uu : TS} {tc : TT} {b : Bool} (A : At H0 gh H σ Γ) (h : EvT tc (view Γ) b) (h1 : b = true → ∀ H', At H0 gh H' σ Γ → t { D with nx := uu D } σ H') (h2 : b = false → ∀ H', At H0 gh H' σ Γ → u { D with nx := uu D } σ H') : tSeq (tIfS tc t u) uu D σ H := st_if (D := { D with nx := uu D }) A h h1 h2
theorem q_skip {uu : TS} {tc : TT} (A : At H0 gh H σ Γ) (h : EvT tc (view Γ) false) (k : ∀ H', At H0 gh H' σ Γ → uu D σ H') : tSeq (tIfS tc t tNext) uu D σ H := st_skip (D := { D with nx := uu D }) A h k
theorem q_drop {uu : TS} (A : At H0 gh H σ Γ) (h : Ev te (view Γ) d) (k : ∀ H', At H0 gh H' σ Γ → uu D σ H') : tSeq (tDrop te) uu D σ H := st_drop (D := { D with nx := uu D }) A h k
theorem q_aug {uu : TS} {ti : TIp} {d1 d2 : Dat} (A : At H0 gh H σ Γ) (hx : (view Γ)[i]? = some (some d1)) (h : EvW te (view Γ) d2) (hr : RD ti d1 d2 d) (k : ∀ σ' H', At H0 gh H' σ' (Γ.set i (.dat d)) → uu D σ' H') : tSeq (tAug i te ti) uu D σ H := st_aug (D := { D with nx := uu D }) A hx h hr k
theorem q_app {uu : TS} {l : Addr} {ds : List Dat} (A : At H0 gh H σ Γ) (hx : Γ[i]? = some (.own l (.lst ds))) (h : Ev te (view Γ) d) (n : nl d = true) (hz : ds.length ≤ 100000) (k : ∀ H', At H0 gh H' σ (Γ.set i (.own l (.lst (ds ++ [d])))) → uu D σ H') : tSeq (tDrop (tBM K "list" rAppend (tVar i) (tCons te tNil))) uu D σ H := st_app (D := { D with nx := uu D }) A hx h n hz k
theorem q_ext {uu : TS} {l : Addr} {ds es : List Dat} (A : At H0 gh H σ Γ) (hx : Γ[i]? = some (.own l (.lst ds))) (h : EvW te (view Γ) (.lst es)) (n : nlAll es = true) (hz : ds.length + es.length ≤ 100000) (k : ∀ H', At H0 gh H' σ (Γ.set i (.own l (.lst (ds ++ es)))) → uu D σ H') : tSeq (tDrop (tBM K "list" rExtend (tVar i) (tCons te tNil))) uu D σ H := st_ext (D := { D with nx := uu D }) A hx h n hz k
theorem q_tup2 {uu : TS} {d1 d2 : Dat} {i j : Nat} (A : At H0 gh H σ Γ) (h : EvP te Γ (.tup [d1, d2])) (k : ∀ σ' H', At H0 gh H' σ' ((Γ.set i (.dat d1)).set j (.dat d2)) → uu D σ' H') : tSeq (tAsg te (gTup K 2 (gCons (gName i) (gCons (gName j) gNil)))) uu D σ H := st_tup2 (D := { D with nx := uu D }) A h k
theorem q_tup3 {uu : TS} {d1 d2 d3 : Dat} {i j l : Nat} (A : At H0 gh H σ Γ) (h : EvP te Γ (.tup [d1, d2, d3])) (k : ∀ σ' H', At H0 gh H' σ' (((Γ.set i (.dat d1)).set j (.dat d2)).set l (.dat d3)) → uu D σ' H') : tSeq (tAsg te (gTup K 3 (gCons (gName i) (gCons (gName j) (gCons (gName l) gNil))))) uu D σ H := st_tup3 (D := { D with nx := uu D }) A h k
theorem q_for {uu : TS} {wi : TI} {gt : TG} {tb : TS} {ds : List Dat} (Iv : Nat → List En → Prop) (A : At H0 gh H σ Γ) (hs : SrcP wi Γ ds) (n : nlAll ds = true) (h0 : Iv 0 Γ)
    (step : ∀ i d Γ' gh' σ' H' x, ds[i]? = some d → Iv i Γ' → At H0 gh' H' σ' Γ' → Dq NP1 H' d x →
      gt x σ' H' fun σ2 H2 => tb { D with nx := fun σ3 H3 => ∃ Γ3, Iv (i + 1) Γ3 ∧ At H0 gh' H3 σ3 Γ3, ct := fun σ3 H3 => ∃ Γ3, Iv (i + 1) Γ3 ∧ At H0 gh' H3 σ3 Γ3, bk := uu D } σ2 H2)
    (done : ∀ Γ' σ' H', Iv ds.length Γ' → At H0 gh H' σ' Γ' → uu D σ' H') : tSeq (tFor wi gt tb) uu D σ H := st_for (D := { D with nx := uu D }) Iv A hs n h0 step done
theorem q_forN {uu : TS} {wi : TI} {tb : TS} {ds : List Dat} {j : Nat} (Iv : Nat → List En → Prop) (A : At H0 gh H σ Γ) (hs : SrcP wi Γ ds) (n : nlAll ds = true) (h0 : Iv 0 Γ)
    (step : ∀ i d Γ' gh' σ' H', ds[i]? = some d → Iv i Γ' → At H0 gh' H' σ' (Γ'.set j (.dat d)) →
      tb { D with nx := fun σ3 H3 => ∃ Γ3, Iv (i + 1) Γ3 ∧ At H0 gh' H3 σ3 Γ3, ct := fun σ3 H3 => ∃ Γ3, Iv (i + 1) Γ3 ∧ At H0 gh' H3 σ3 Γ3, bk := uu D } σ' H')
    (done : ∀ Γ' σ' H', Iv ds.length Γ' → At H0 gh H' σ' Γ' → uu D σ' H') : tSeq (tFor wi (gName j) tb) uu D σ H := st_forN (D := { D with nx := uu D }) Iv A hs n h0 step done
theorem q_for2 {uu : TS} {wi : TI} {tb : TS} {ds : List Dat} {j1 j2 : Nat} (Iv : Nat → List En → Prop) (A : At H0 gh H σ Γ) (hs : SrcP wi Γ ds) (n : nlAll ds = true) (h0 : Iv 0 Γ) (sh : ∀ (i : Nat) (d : Dat), ds[i]? = some d → ∃ d1 d2, d = .tup [d1, d2])
    (step : ∀ i d1 d2 Γ' gh' σ' H', ds[i]? = some (.tup [d1, d2]) → Iv i Γ' → At H0 gh' H' σ' ((Γ'.set j1 (.dat d1)).set j2 (.dat d2)) →
      tb { D with nx := fun σ3 H3 => ∃ Γ3, Iv (i + 1) Γ3 ∧ At H0 gh' H3 σ3 Γ3, ct := fun σ3 H3 => ∃ Γ3, Iv (i + 1) Γ3 ∧ At H0 gh' H3 σ3 Γ3, bk := uu D } σ' H')
    (done : ∀ Γ' σ' H', Iv ds.length Γ' → At H0 gh H' σ' Γ' → uu D σ' H') : tSeq (tFor wi (gTup K 2 (gCons (gName j1) (gCons (gName j2) gNil))) tb) uu D σ H := st_for2 (D := { D with nx := uu D }) Iv A hs n h0 sh step done
theorem q_for3 {uu : TS} {wi : TI} {tb : TS} {ds : List Dat} {j1 j2 j3 : Nat} (Iv : Nat → List En → Prop) (A : At H0 gh H σ Γ) (hs : SrcP wi Γ ds) (n : nlAll ds = true) (h0 : Iv 0 Γ) (sh : ∀ (i : Nat) (d : Dat), ds[i]? = some d → ∃ d1 d2 d3, d = .tup [d1, d2, d3])
    (step : ∀ i d1 d2 d3 Γ' gh' σ' H', ds[i]? = some (.tup [d1, d2, d3]) → Iv i Γ' → At H0 gh' H' σ' (((Γ'.set j1 (.dat d1)).set j2 (.dat d2)).set j3 (.dat d3)) →
      tb { D with nx := fun σ3 H3 => ∃ Γ3, Iv (i + 1) Γ3 ∧ At H0 gh' H3 σ3 Γ3, ct := fun σ3 H3 => ∃ Γ3, Iv (i + 1) Γ3 ∧ At H0 gh' H3 σ3 Γ3, bk := uu D } σ' H')
    (done : ∀ Γ' σ' H', Iv ds.length Γ' → At H0 gh H' σ' Γ' → uu D σ' H') : tSeq (tFor wi (gTup K 3 (gCons (gName j1) (gCons (gName j2) (gCons (gName j3) gNil)))) tb) uu D σ H := st_for3 (D := { D with nx := uu D }) Iv A hs n h0 sh step done
theorem q_while {uu : TS} {tc : TT} {tb : TS} (Iv : Nat → List En → Prop) (A : At H0 gh H σ Γ) (m0 : Nat) (h0 : Iv m0 Γ)
    (step : ∀ m Γ', Iv m Γ' → ∃ b, EvT tc (view Γ') b ∧ (b = true → ∀ σ' H', At H0 gh H' σ' Γ' → tb { D with nx := fun σ3 H3 => ∃ m' Γ3, m' < m ∧ Iv m' Γ3 ∧ At H0 gh H3 σ3 Γ3, ct := fun σ3 H3 => ∃ m' Γ3, m' < m ∧ Iv m' Γ3 ∧ At H0 gh H3 σ3 Γ3, bk := uu D } σ' H') ∧
      (b = false → ∀ σ' H', At H0 gh H' σ' Γ' → uu D σ' H')) : tSeq (tWhile tc tb) uu D σ H := st_while (D := { D with nx := uu D }) Iv A m0 h0 step
/-- an if without else whose branch leaves -/
theorem q_ifR {uu : TS} {tc : TT} {b : Bool} (A : At H0 gh H σ Γ) (h : EvT tc (view Γ) b) (h1 : b = true → ∀ H', At H0 gh H' σ Γ → t { D with nx := uu D } σ H') (h2 : b = false → ∀ H', At H0 gh H' σ Γ → uu D σ H') : tSeq (tIfS tc t tNext) uu D σ H :=
  st_if (D := { D with nx := uu D }) A h h1 h2
end
/-! ### comprehensions -/
section
variable {Δ : Vw} {K : PySem.W.Frag}
theorem sv_set {H : Hp} {σ : L2.St} {j : Nat} {d : Dat} {x : V} (s : Sv H σ Δ) (q : Dq TP1 H d x) : Sv H ((wipe σ [j]).set j (some x)) (Δ.set j (some d)) := ⟨by
  rw [List.length_set, wipe_length, List.length_set, s.len], fun i e h => by
  by_cases hj : j = i
  · subst hj
    by_cases hz : j < Δ.length
    · rw [List.getElem?_set_self hz] at h
      have e1 : d = e := Option.some.inj (Option.some.inj h)
      subst e1
      exact ⟨x, by rw [List.getElem?_set_self (by rw [wipe_length, s.len]; exact hz)], q⟩
    · rw [List.getElem?_eq_none (by simpa using hz)] at h; cases h
  · rw [List.getElem?_set_ne hj] at h
    obtain ⟨v, h1, h2⟩ := s.at_ i e h
    refine ⟨v, ?_, h2⟩
    rw [List.getElem?_set_ne hj]
    show ((wipe σ []).set j none)[i]? = _
    rw [List.getElem?_set_ne hj]
    exact h1⟩
theorem wipe_set {σ : L2.St} {j : Nat} {x : Option V} : wipe ((wipe σ [j]).set j x) [j] = wipe σ [j] := by
  show (((σ.set j none).set j x).set j none) = σ.set j none
  rw [List.set_set, List.set_set]
theorem map_at {α : Type} {src : List α} {dt : α → Dat} {i : Nat} {d : Dat} (h : (src.map dt)[i]? = some d) : ∃ a, src[i]? = some a ∧ d = dt a := by
  rw [List.getElem?_map] at h
  cases e : src[i]? with
  | none => rw [e] at h; cases h
  | some a =>
    rw [e] at h
    exact ⟨a, rfl, (Option.some.inj h).symm⟩
theorem ev_lc {α : Type} {wi : TI} {tt : TT} {te : TE} {j : Nat} (src : List α) (dt : α → Dat) (f : α → Bool) (gd : α → Dat) (hs : Src wi Δ (src.map dt)) (hz : src.length ≤ 100000) (ht : ∀ a, a ∈ src → EvT tt (Δ.set j (some (dt a))) (f a)) (he : ∀ a, a ∈ src → f a = true → Ev te (Δ.set j (some (dt a))) (gd a))
    (hn : ∀ a, a ∈ src → f a = true → nl (gd a) = true) : Ev (tLc wi (gName j) tt te [j]) Δ (.lst ((src.filter f).map gd)) := fun σ H s Q k => by
  refine hs σ H s _ fun J H1 g e hg dv => ?_
  intro Dl hD
  have s1 := s.same e
  have all : ∀ n, nlAll (((src.take n).filter f).map gd) = true := fun n => nlAll_of fun d h => by
    obtain ⟨d0, h1, h2⟩ := List.mem_map.mp h
    obtain ⟨h3, h4⟩ := List.mem_filter.mp h1
    rw [← h2]
    exact hn d0 (List.mem_of_mem_take h3) h4
  refine ⟨fun i m H' => m = src.length - i ∧ i ≤ src.length ∧ Same H1 H' ∧ ∃ xs, H' Dl = some (.lst xs) ∧ DqAll NP1 H' (((src.take i).filter f).map gd) xs, ⟨_, rfl, Nat.zero_le _, same_new hD, [], upd_same, by simp [DqAll]⟩, ?_⟩
  rintro i m H' ⟨rfl, hi, e', xs, hx, q⟩
  obtain ⟨dst, dgo⟩ := dv i H' fun p hp => (hg p hp).same e'
  by_cases hlt : i < src.length
  · have hget : src[i]? = some src[i] := List.getElem?_eq_getElem hlt
    obtain ⟨go, yl⟩ := dgo (dt src[i]) (by rw [List.getElem?_map, hget]; rfl)
    have hm : src[i] ∈ src := List.getElem_mem hlt
    have tk : src.take (i + 1) = src.take i ++ [src[i]] := by
      rw [List.take_add_one, hget]; rfl
    refine .inr ⟨go, fun H3 => Same H1 H3 ∧ ∃ xs, H3 Dl = some (.lst xs) ∧ DqAll NP1 H3 (((src.take (i + 1)).filter f).map gd) xs, fun H3 h3 => ⟨src.length - (i + 1), by omega, rfl, hlt, h3⟩, fun x H2 y => ?_⟩
    obtain ⟨s2, q2⟩ := yl x H2 y
    have sv2 : Sv H2 ((wipe σ [j]).set j (some x)) (Δ.set j (some (dt src[i]))) := sv_set (s1.same (e'.trans s2)) q2
    refine ⟨wipe_set, ht src[i] hm _ H2 sv2 _ fun H3 e3 => ?_⟩
    cases hf : f src[i] with
    | true =>
      refine iteT (he src[i] hm hf _ H3 (sv2.same e3) _ fun y H4 e4 q4 => ?_)
      have e14 : Same H' H4 := (s2.trans e3).trans e4
      have hx4 : H4 Dl = some (.lst xs) := e14 _ _ hx
      have tt : ∀ a ys, H4 a = some (.tup ys) → upd H4 Dl (.lst (xs ++ [y])) a = some (.tup ys) := fun a ys ha => by
        rw [upd_ne fun z => by rw [z, hx4] at ha; cases ha]
        exact ha
      refine ⟨xs, hx4, ?_, fun a o ha => ?_, xs ++ [y], upd_same, ?_⟩
      · rw [q.length, List.length_map]
        refine Nat.lt_of_le_of_lt (Nat.le_trans (List.length_filter_le _ _) ?_) (by decide : 100000 < sizeLine)
        rw [List.length_take]
        omega
      · rw [upd_ne (ne_of_none ha hD)]
        exact (e'.trans e14) _ _ ha
      · rw [tk, List.filter_append, List.map_append, List.filter_cons, if_pos hf]
        exact DqAll.append ((q.same e14).tups (all i) tt) (DqAll.one (q4.tups (hn _ hm hf) tt))
    | false =>
      refine iteF ⟨(e'.trans s2).trans e3, xs, e3 _ _ (s2 _ _ hx), ?_⟩
      rw [tk, List.filter_append, List.map_append, List.filter_cons, if_neg (by rw [hf]; decide)]
      show DqAll NP1 H3 (List.map gd (List.filter f (src.take i)) ++ []) xs
      rw [List.append_nil]
      exact q.same (s2.trans e3)
  · have ei : i = src.length := by omega
    subst ei
    refine .inl ⟨dst (by rw [List.length_map]; exact Nat.le_refl _), k _ H' (e.trans e') ⟨Dl, xs, rfl, e.free hD, hx, ?_⟩⟩
    rw [List.take_of_length_le (Nat.le_refl _)] at q
    exact q.weak fun _ z => z.elim
/-- without an if -/
theorem ev_lc1 {α : Type} {wi : TI} {te : TE} {j : Nat} (src : List α) (dt : α → Dat) (gd : α → Dat) (hs : Src wi Δ (src.map dt)) (hz : src.length ≤ 100000) (he : ∀ a, a ∈ src → Ev te (Δ.set j (some (dt a))) (gd a)) (hn : ∀ a, a ∈ src → nl (gd a) = true) : Ev (tLc wi (gName j) tYes te [j]) Δ (.lst (src.map gd)) := by
  have h := ev_lc (j := j) src dt (fun _ => true) gd hs hz (fun _ _ => et_yes) (fun d hd _ => he d hd) (fun d hd _ => hn d hd)
  rw [List.filter_eq_self.mpr (fun _ _ => rfl)] at h
  exact h
theorem rng0 (n : Nat) : rng 0 n = (List.range n).map fun i => Dat.int (i : Nat) := by
  unfold rng
  exact List.map_congr_left fun i _ => by rw [Int.zero_add]
theorem src_is {wi : TI} {Δ : Vw} {ds es : List Dat} (h : Src wi Δ ds) (e : ds = es) : Src wi Δ es := e ▸ h
theorem srcp_is {wi : TI} {Γ : List En} {ds es : List Dat} (h : SrcP wi Γ ds) (e : ds = es) : SrcP wi Γ es := e ▸ h
end
/-! ### a def -/
section
variable {P : Program} {w : World} {K : PySem.W.Frag} {mg : Str → Option Value} {base : Heap}
def slotsOf (N : List Str) (ds : List Dat) : List En := ds.map En.dat ++ List.replicate (N.length - ds.length) .no
theorem at_start {N : List Str} {ds : List Dat} {vs : List V} {H : Hp} (q : DqAll TP1 H ds vs) (hz : ds.length ≤ N.length) : At H [] H (start N vs) (slotsOf N ds) := by
  have no : ∀ (i : Nat) (l : Addr) (c : Dat), (slotsOf N ds)[i]? = some (.own l c) → False := fun i l c h => by
    unfold slotsOf at h
    have hm := List.mem_of_getElem? h
    rcases List.mem_append.mp hm with h1 | h1
    · obtain ⟨d, _, e⟩ := List.mem_map.mp h1
      cases e
    · have := (List.mem_replicate.mp h1).2
      cases this
  have ps : ∀ a, TP1 a → Ps (slotsOf N ds) a := fun a _ i c h => no i a c h
  refine ⟨Same.refl H, fun i l c h => (no i l c h).elim, fun i j l c c' h _ => (no i l c h).elim, fun p hp => (by cases hp), ?_, fun i e h => ?_⟩
  · unfold L2.start slotsOf
    rw [List.length_append, List.length_append, List.length_map, List.length_map, List.length_replicate, List.length_replicate, q.length]
  · unfold slotsOf at h
    unfold L2.start
    by_cases hi : i < ds.length
    · rw [List.getElem?_append_left (by rw [List.length_map]; exact hi), List.getElem?_map] at h
      rw [List.getElem?_append_left (by rw [List.length_map, q.length]; exact hi), List.getElem?_map]
      rw [List.getElem?_eq_getElem hi] at h
      obtain ⟨v, h1, h2⟩ := q.at (List.getElem?_eq_getElem hi)
      have e1 : En.dat ds[i] = e := Option.some.inj h
      subst e1
      exact ⟨some v, by rw [h1]; rfl, v, rfl, h2.weak ps⟩
    · rw [List.getElem?_append_right (by rw [List.length_map]; omega), List.length_map] at h
      obtain ⟨h1, h2⟩ := List.getElem?_eq_some_iff.mp h
      rw [List.getElem_replicate] at h2
      subst h2
      rw [List.length_replicate] at h1
      rw [List.getElem?_append_right (by rw [List.length_map, q.length]; omega), List.length_map, q.length]
      exact ⟨none, by rw [List.getElem?_replicate, if_pos h1], trivial⟩
/-- THE RULE for a def by R: its body's derivation, its reading from the slots' data -/
theorem fn_pure {x qual : Str} {st : Stmt} {dvs : List V} {f : Addr} {fd : FuncData} {N ps : List Str} {k : Nat} {R : List Dat → Dat → Prop} (F : FunD K x qual (defArgs st) (defBody st) (defScope st) dvs [] f fd) (S : FnScope N ps (defScope st))
    (len : ∀ ds d, R ds d → ds.length = ps.length) (hN : ps.length ≤ N.length)
    (hb : ∀ (cdv : Value) (A : Around) (outer : List Env) (s : Shared) (H : Hp), Room k (A.deeper (envOfC qual (defScope st) s.heap.objs.size f cdv)) → ∃ t, PSs (cxOf CX0 P w K mg base N qual (defScope st) f cdv A outer s H E0).nox (defBody st) t ∧
      ∀ ds d, R ds d → ∀ (D : Ends) (σ : L2.St), At H [] H σ (slotsOf N ds) → (∀ v H', Same H H' → Dq (Fr H) H' d v → D.rt v H') → (∀ σ' H', d = .non → Same H H' → D.nx σ' H') → t D σ H) : FnOk P w K mg base CX0 (k + 1) f fd ps (spF R) := by
  refine F.ok S (fun vs H Q E h => ?_) (fun cdv A outer s H vs Q E hr h => ?_)
  · obtain ⟨ds, d, q, r, _⟩ := h
    rw [q.length]
    exact len ds d r
  · obtain ⟨t, ht, hp⟩ := hb cdv A outer s H hr
    obtain ⟨ds, d, q, r, k⟩ := h
    exact ⟨t, PSs.nox ht, hp ds d r _ _ (at_start q (by rw [len ds d r]; exact hN)) k fun σ' H' e s => k .non H' s (by rw [e]; rfl)⟩
/-- a callee, by name -/
structure Cal (P : Program) (w : World) (K : PySem.W.Frag) (mg : Str → Option Value) (base : Heap) (x : Str) (k : Nat) (ps : List Str) (sp : Sp) : Prop where
  ex : ∃ f fd, mg x = some (.ref f) ∧ FnOk P w K mg base CX0 k f fd ps sp ∧ PySem.W.keepIn K (.ref f) = true ∧ Binds K fd ps []
theorem Cal.mono {x : Str} {j k : Nat} {ps : List Str} {sp : Sp} (c : Cal P w K mg base x j ps sp) (h : j ≤ k) : Cal P w K mg base x k ps sp := by
  obtain ⟨f, fd, h1, h2, h3, h4⟩ := c.ex
  exact ⟨f, fd, h1, h2.mono h, h3, h4⟩
end
section
variable {X : Cx} {k : Nat} {x : Str} {ps : List Str} {sp : Sp} {p pos : Pos} {e : Expr} {es : List Expr} {t : TA}
theorem pe_f (c : Cal X.prog X.w X.K X.mg X.base x k ps sp) (hr : Room k X.A) (hg : Gl X x) (ha : PA X (e :: es) t)
    (hd : (x == ("__debug__" : Str)) = false := by decide) (hs : starEach (e :: es) X.env = (false, eval e X.env) :: starEach es X.env := by rfl) (hpl : (backTo pos (starEach es X.env)).any (·.1) = false := by rfl) : PE X (.Call (.Name x p) (e :: es) [] pos) (tCall sp [] E0 t) := by
  obtain ⟨f, fd, h1, h2, h3, h4⟩ := c.ex
  exact pe_call h2 hr hg h1 h3 h4 .nil pass0 ha hd hs hpl
end
end K92
end
section
set_option maxHeartbeats 4000000
/-! More rules; ints as bits; the tactic's steps. -/
namespace K92
open PySem PySem.Spec PyProof.Rows L2
theorem pip_of {X : Cx} {op : Operator} {r : R2} (ho : OpR X (inplaceOp op) r) : PIp X op r := fun pins s σ H x y v u Q I rx ry q => augR ho I rx ry q
/-! ### bits -/
theorem or_split (a b : Nat) : a ||| b = (a ^^^ b) + (a &&& b) := by
  induction a using Nat.strongRecOn generalizing b with
  | ind a ih =>
    by_cases h : a = 0
    · subst h; simp
    · have q := ih (a / 2) (by omega) (b / 2)
      have o1 : (a ||| b) / 2 = a / 2 ||| b / 2 := Nat.or_div_two
      have o2 : (a ^^^ b) / 2 = a / 2 ^^^ b / 2 := Nat.xor_div_two
      have o3 : (a &&& b) / 2 = a / 2 &&& b / 2 := Nat.and_div_two
      rw [← o1, ← o2, ← o3] at q
      have m1 := @Nat.or_mod_two_eq_one a b
      have m2 := @Nat.xor_mod_two_eq_one a b
      have m3 := @Nat.and_mod_two_eq_one a b
      omega
theorem nb_and (a b : Nat) : Builtin.bitAnd (a : Int) (b : Int) = ((a &&& b : Nat) : Int) := by
  unfold Builtin.bitAnd
  rw [decide_eq_true (Int.natCast_nonneg a), decide_eq_true (Int.natCast_nonneg b)]
  rfl
theorem nb_not (a : Nat) : decide ((0 : Int) ≤ Builtin.bitNot (a : Int)) = false := decide_eq_false (by unfold Builtin.bitNot; omega)
theorem nb_nn (a : Int) : Builtin.bitNot (Builtin.bitNot a) = a := by unfold Builtin.bitNot; omega
theorem nb_or (a b : Nat) : Builtin.bitOr (a : Int) (b : Int) = ((a ||| b : Nat) : Int) := by
  unfold Builtin.bitOr
  have e : Builtin.bitAnd (Builtin.bitNot (a : Int)) (Builtin.bitNot (b : Int)) = Builtin.bitNot ((a ||| b : Nat) : Int) := by
    unfold Builtin.bitAnd
    rw [nb_not, nb_not]
    show Builtin.bitNot (((Builtin.bitNot (Builtin.bitNot (a : Int))).toNat ||| (Builtin.bitNot (Builtin.bitNot (b : Int))).toNat : Nat) : Int) = _
    rw [nb_nn, nb_nn]
    rfl
  rw [e, nb_nn]
theorem nb_xor (a b : Nat) : Builtin.bitXor (a : Int) (b : Int) = ((a ^^^ b : Nat) : Int) := by
  unfold Builtin.bitXor
  rw [nb_or, nb_and, or_split]
  omega
theorem nb_shr (a k : Nat) : (a : Int) / 2 ^ ((k : Int)).toNat = ((a >>> k : Nat) : Int) := by
  rw [Int.toNat_natCast, Nat.shiftRight_eq_div_pow]
  simp
theorem nb_shl (a k : Nat) : (a : Int) * 2 ^ ((k : Int)).toNat = ((a <<< k : Nat) : Int) := by
  rw [Int.toNat_natCast, Nat.shiftLeft_eq]
  simp
theorem nb_one : ((1 : Nat) : Int) = 1 := rfl
theorem nb_bit (a k : Nat) : Builtin.bitAnd ((a : Int) / 2 ^ ((k : Int)).toNat) 1 = b2i (a.testBit k) := by
  rw [nb_shr, ← nb_one, nb_and]
  have e : a >>> k &&& 1 = (a.testBit k).toNat := by
    unfold Nat.testBit
    rw [Nat.and_comm]
    have := Nat.and_one_is_mod (a >>> k)
    rw [Nat.and_comm] at this
    rw [this]
    rcases Nat.mod_two_eq_zero_or_one (a >>> k) with h | h <;> rw [h] <;> rfl
  rw [e]
  cases a.testBit k <;> rfl
theorem nb_bitN (a k : Nat) : Builtin.bitAnd ((a >>> k : Nat) : Int) 1 = b2i (a.testBit k) := by rw [← nb_shr, nb_bit]
theorem nb_bxor (p q : Bool) : Builtin.bitXor (b2i p) (b2i q) = b2i (p ^^ q) := by cases p <;> cases q <;> rfl
theorem nb_band (p q : Bool) : Builtin.bitAnd (b2i p) (b2i q) = b2i (p && q) := by cases p <;> cases q <;> rfl
theorem nb_bor (p q : Bool) : Builtin.bitOr (b2i p) (b2i q) = b2i (p || q) := by cases p <;> cases q <;> rfl
theorem nb_put (p : Bool) (k : Nat) : b2i p * 2 ^ ((k : Int)).toNat = ((put k p : Nat) : Int) := by
  rw [Int.toNat_natCast]
  unfold put b2i
  cases p <;> simp
theorem nb_oneshl (k : Nat) : (1 : Int) * 2 ^ ((k : Int)).toNat = ((2 ^ k : Nat) : Int) := by
  rw [Int.toNat_natCast, Int.one_mul]
  simp
theorem b2i_eq1 (p : Bool) : decide (b2i p = 1) = p := by cases p <;> rfl
theorem b2i_inj {p q : Bool} : b2i p = b2i q ↔ p = q := by cases p <;> cases q <;> decide
theorem b2i_eqd (p q : Bool) : decide (b2i p = b2i q) = (p == q) := by cases p <;> cases q <;> rfl
theorem b2i_if (p : Bool) : (if p = true then (1 : Int) else 0) = b2i p := rfl
theorem lt9 {a : Nat} (h : a < 2 ^ 9) : a < 2 ^ 64 := Nat.lt_of_lt_of_le h (by decide)
theorem beside_pop (a b : Row) : decide ((pop (a.x &&& b.z) + pop (a.z &&& b.x)) % 2 = 0) = !ac a b := by
  have q1 := pop_par (a.x &&& b.z)
  have q2 := pop_par (a.z &&& b.x)
  unfold ac
  revert q1 q2
  cases par (a.x &&& b.z) <;> cases par (a.z &&& b.x) <;> simp only [b2i] <;> intro q1 q2 <;> simp at q1 q2 ⊢ <;> omega
/-! ### rows as data -/
abbrev rowD (r : Row) : Dat := .tup [.int (b2i r.m), .int r.x, .int r.z]
theorem nl_row (r : Row) : nl (rowD r) = true := rfl
theorem nl_rows (rs : List Row) : nlAll (rs.map rowD) = true := nlAll_of fun d h => by
  obtain ⟨r, _, e⟩ := List.mem_map.mp h
  rw [← e]; rfl
theorem nl_ints (ns : List Int) : nlAll (ns.map Dat.int) = true := nlAll_of fun d h => by
  obtain ⟨r, _, e⟩ := List.mem_map.mp h
  rw [← e]; rfl
/-! ### isinstance, bit_length, is -/
section
variable {Δ : Vw} {d d1 d2 : Dat} {te ta tb : TE} {K : PySem.W.Frag}
def tyn : Dat → String
  | .non => "NoneType" | .bl _ => "bool" | .int _ => "int" | .str _ => "str" | .lst _ => "list" | .tup _ => "tuple" | .ins _ _ _ => "?" | .sq _ _ => "?"
theorem ty_of {H : Hp} {v : V} {Pr : Addr → Prop} : ∀ {d : Dat}, (tyn d == "?") = false → Dq Pr H d v → TyX K H v (.type (tyn d))
  | .non, _, q => by rw [show v = V.non from q]; exact .base .non
  | .bl b, _, q => by rw [show v = V.bl b from q]; exact .base (.bl b)
  | .int i, _, q => by rw [show v = V.int i from q]; exact .base (.int i)
  | .str s, _, q => by rw [show v = V.str s from q]; exact .base (.str s)
  | .lst ds, _, ⟨a, xs, e, _, h, _⟩ => by rw [e]; exact .base (.lst h)
  | .tup ds, _, ⟨a, xs, e, h, _⟩ => by rw [e]; exact .base (.tup h)
  | .ins _ _ _, n, _ => by cases n
  | .sq _ _, n, _ => by cases n
theorem ev_isi {T : String} {b : Bool} (h : EvW te Δ d) (n : (tyn d == "?") = false) (hk : kitB (tyn d) T = some b) : Ev (tCB (rIsi K) (tCons te (tCons (tC (.ty T)) tNil))) Δ (.bl b) := fun σ H s Q k =>
  h σ H s _ fun x H1 e q => ⟨x, .ty T, _, _, b, rfl, .ty T, ty_of n q, kit_ty hk, k _ H1 e rfl⟩
theorem ev_bits {i : Int} (h : EvW te Δ (.int i)) : Ev (tBits te) Δ (.int (Builtin.Int.intBits i : Nat)) := fun σ H s Q k =>
  h σ H s _ fun x H1 e q => ⟨i, q, k _ H1 e rfl⟩
theorem ev_isnotB {a b : Bool} (ha : EvW ta Δ (.bl a)) (hb : EvW tb Δ (.bl b)) : Ev (tOp (fun x y H Q => ∃ a b, x = .bl a ∧ y = .bl b ∧ Q (.bl (!decide (a = b))) H) ta tb) Δ (.bl (!decide (a = b))) := ev_op ha hb fun H x y hx hy Q k => ⟨a, b, hx, hy, k _ H (Same.refl H) rfl⟩
/-- x in (a, b, ..) of flat things -/
def fv : Dat → Option V
  | .non => some .non | .bl b => some (.bl b) | .int i => some (.int i) | .str s => some (.str s) | _ => none
theorem fv_of {H : Hp} {v u : V} {Pr : Addr → Prop} : ∀ {d : Dat}, fv d = some u → Dq Pr H d v → v = u ∧ flatV u = true
  | .non, e, q => by cases e; exact ⟨q, rfl⟩
  | .bl b, e, q => by cases e; exact ⟨q, rfl⟩
  | .int i, e, q => by cases e; exact ⟨q, rfl⟩
  | .str s, e, q => by cases e; exact ⟨q, rfl⟩
  | .lst _, e, q => by cases e
  | .tup _, e, q => by cases e
  | .ins _ _ _, e, q => by cases e
  | .sq _ _, e, q => by cases e
theorem fvs_of {H : Hp} {Pr : Addr → Prop} : ∀ {ds : List Dat} {us xs : List V}, ds.mapM fv = some us → DqAll Pr H ds xs → xs = us ∧ us.all flatV = true
  | [], us, xs, e, q => by
    rw [List.mapM_nil] at e
    cases e
    exact ⟨q, rfl⟩
  | d :: ds, us, xs, e, ⟨x, r, ex, p, q⟩ => by
    rw [List.mapM_cons] at e
    cases e1 : fv d with
    | none => rw [e1] at e; cases e
    | some u =>
      cases e2 : ds.mapM fv with
      | none => rw [e1, e2] at e; cases e
      | some us' =>
        rw [e1, e2] at e
        cases e
        obtain ⟨h1, h2⟩ := fv_of e1 p
        obtain ⟨h3, h4⟩ := fvs_of e2 q
        exact ⟨by rw [ex, h1, h3], by rw [List.all_cons, h2, h4]; rfl⟩
theorem ev_inT {ds : List Dat} {u : V} {us : List V} (ha : EvW ta Δ d) (hb : EvW tb Δ (.tup ds)) (h1 : fv d = some u) (h2 : ds.mapM fv = some us) : Ev (tOp (rIn K false) ta tb) Δ (.bl (inV u us)) := ev_op ha hb fun H x y hx ⟨a, xs, ey, hy, q⟩ Q k => by
  obtain ⟨e1, f1⟩ := fv_of h1 hx
  obtain ⟨e2, f2⟩ := fvs_of h2 q
  subst e1 e2
  exact ⟨a, xs, ey, .inr (SqT.of hy), f1, f2, k _ H (Same.refl H) rfl⟩
end
section
variable {Δ : Vw} {d : Dat} {te : TE} {K : PySem.W.Frag}
def lenD : Dat → Option Int
  | .lst ds => some ds.length
  | .tup ds => some ds.length
  | _ => none
theorem ev_len {n : Int} (h : EvW te Δ d) (e : lenD d = some n) : Ev (tCB (fun xs H Q => ∃ p ys, xs = [V.ref p] ∧ (SqL K H p ys ∨ SqT K H p ys) ∧ Q (.int ys.length) H) (tCons te tNil)) Δ (.int n) := by
  cases d with
  | lst ds => cases e; exact ev_cb (ea_cons h ea_nil) rc_len
  | tup ds => cases e; exact ev_cb (ea_cons h ea_nil) rc_lenT
  | _ => cases e
end
section
variable {Δ : Vw} {d a : Dat} {r : List Dat} {te : TE} {K : PySem.W.Frag}
theorem cut_tail : cutD (a :: r) (some 1) none = r := by
  unfold cutD
  have e : HT.sIx (a :: r).length 0 (some 1) = 1 := by
    rw [show (some (1 : Int)) = some ((1 : Nat) : Int) from rfl, HT.sIx_nat, List.length_cons]
    omega
  rw [e, HT.sIx_none, List.length_cons]
  show List.take (r.length + 1 - 1) r = r
  exact List.take_of_length_le (by omega)
theorem ev_tailT (h : EvW te Δ (.tup (a :: r))) (n : nlAll (a :: r) = true) : Ev (tSl (rSlT K) te (tPart (tC (.int 1))) tNoPart) Δ (.tup r) := by
  have q := ev_slT (K := K) (tl := tPart (tC (.int 1))) (th := tNoPart) h (eo_some ev_int.w) eo_none n (fun z => by
    have e : HT.sIx (a :: r).length 0 (some 1) = 1 := by
      rw [show (some (1 : Int)) = some ((1 : Nat) : Int) from rfl, HT.sIx_nat, List.length_cons]
      omega
    rw [e] at z
    exact absurd z.1 (by decide))
  rw [cut_tail] at q
  exact q
theorem ev_tailL (h : EvW te Δ (.lst (a :: r))) (n : nlAll (a :: r) = true) : Ev (tSl (rSlL K) te (tPart (tC (.int 1))) tNoPart) Δ (.lst r) := by
  have q := ev_slL (K := K) (tl := tPart (tC (.int 1))) (th := tNoPart) h (eo_some ev_int.w) eo_none n
  rw [cut_tail] at q
  exact q
theorem ev_all {α : Type} {src : List α} {f : α → Bool} {b : Bool} (h : EvW te Δ (.lst (src.map fun a => Dat.bl (f a)))) (e : src.all f = b) : Ev (tCB (rAll K) (tCons te tNil)) Δ (.bl b) := by
  have q := ev_cb (ea_cons h ea_nil) (r := rAll K) (d := .bl ((src.map f).all id)) (ds := [.lst (src.map fun a => Dat.bl (f a))]) (by
    have z := rc_all (K := K) (bs := src.map f)
    rw [List.map_map] at z
    exact z)
  rw [List.all_map] at q
  rw [← e]
  exact q
end
theorem ev_fld {K : PySem.W.Frag} {Δ : Vw} {d : Dat} {ta : TE} {C : Addr} {f : Str} {ns : List Str} {fds : List Dat} (h : EvW ta Δ (.ins C ns fds)) (c : Cls K C) (n : NoAttr K C f) (hl : (ns.zip fds).lookup f = some d) (hf : nl d = true) : Ev (tFld K ta f) Δ d := (ew_fld h c n hl).s hf
/-! ### the evaluation step by step -/
theorem EvT_dummy : True := trivial
end K92
end
section
set_option maxHeartbeats 4000000
/-! Rules of our own: the greatest of a tuple, removal of a tuple, lists of a range; data compared. -/
namespace K92
open PySem PySem.Spec PyProof.Rows L2
/-! ### max of a tuple of ints -/
def rMaxT (K : PySem.W.Frag) : List V → Hp → VK → Prop := fun vs H Q => ∃ (t : Addr) (m : Int) (ms : List Int), vs = [V.ref t] ∧ SqT K H t ((m :: ms).map V.int) ∧ Q (.int (PySem.W.maxOf m ms)) H
theorem dp_ints {K : PySem.W.Frag} {H : Hp} : ∀ ns : List Int, DpAll K H (ns.map V.int) (ns.map PyData.int)
  | [] => .nil
  | n :: ns => .cons (.int n) (dp_ints ns)
theorem cr_maxT {X : Cx} {k : Nat} (hc : X.calm = true) (hr : Room k X.A) : CallR X (.builtin "max") (rMaxT X.K) := by
  intro pins s σ H vs us Q I rv ⟨t, m, ms, ev, ht, q⟩
  subst ev
  obtain ⟨its, r2, tp, _⟩ := I.tuple ht
  obtain ⟨as, rd⟩ := Dp.readsAll I _ _ its (dp_ints (m :: ms)) r2
  rw [Vals.ref1 rv]
  refine PySem.W.max_tuple_datum (α := Int) (x := m) (xs := ms) (I.ok.hd hc) tp ⟨as, rd⟩ (Nat.lt_of_le_of_lt (Nat.add_le_add_left (show 1 + PySem.W.Datum.depth Int ≤ 64 by decide) _) (by have := hr.units; omega)) fun i v h' tk _ hv hk => ?_
  obtain ⟨bs, rr⟩ := hv
  cases rr with
  | int _ tt => exact ⟨.int _, H, I.kept hk, ⟨tt, rfl⟩, q⟩
theorem dq_ints {Pr : Addr → Prop} {H : Hp} : ∀ {ns : List Int} {xs : List V}, DqAll Pr H (ns.map Dat.int) xs → xs = ns.map V.int
  | [], xs, h => h
  | n :: ns, xs, ⟨x, r, e, p, q⟩ => by
    rw [e, show x = V.int n from p, dq_ints q]; rfl
section
variable {Δ : Vw} {te tl : TE} {K : PySem.W.Frag} {Γ : List En}
theorem ev_maxT {m : Int} {ms : List Int} (h : EvW te Δ (.tup ((m :: ms).map Dat.int))) : Ev (tCB (rMaxT K) (tCons te tNil)) Δ (.int (PySem.W.maxOf m ms)) := fun σ H s Q k =>
  h σ H s _ fun v H1 e ⟨a, xs, ev, hx, q⟩ => ⟨a, m, ms, by rw [ev], by rw [← dq_ints q]; exact SqT.of hx, k _ H1 e rfl⟩
/-! ### for x in reversed(xs) -/
theorem drv_rev {a : Addr} {ds : List Dat} : Drv (Itv K a ds.length) [(.ref a, .lst ds)] ds.reverse := fun i H hg => by
  obtain ⟨b, xs, eb, _, hx, q⟩ := hg _ (List.mem_cons_self ..)
  cases eb
  refine ⟨fun hz => by rw [List.length_reverse] at hz; exact hz, fun d hd => ?_⟩
  have hi : i < ds.length := by
    have := (List.getElem?_eq_some_iff.mp hd).1
    rw [List.length_reverse] at this
    exact this
  rw [List.getElem?_reverse hi] at hd
  obtain ⟨v, hv, qv⟩ := q.at hd
  refine ⟨⟨hi, xs, v, SqL.of hx, hv⟩, fun x H' ⟨e, y⟩ => ?_⟩
  subst e
  have ev : v = x := Option.some.inj (hv.symm.trans (y xs (SqL.of hx)))
  rw [← ev]
  exact ⟨Same.refl _, qv⟩
theorem sp_rev {ds : List Dat} (h : EvP tl Γ (.lst ds)) : SrcP (iRev K (tCons tl tNil)) Γ ds.reverse := fun H0 gh σ H A R k => h H0 gh σ H A _ fun x H1 e q => by
  obtain ⟨a, xs, ex, _, hx, qx⟩ := id q
  subst ex
  refine ⟨a, xs, rfl, SqL.of hx, ?_⟩
  rw [qx.length]
  exact k _ H1 [(.ref a, .lst ds)] e (fun p hp => by
    rcases List.mem_cons.mp hp with rfl | hp
    · exact q
    · cases hp) drv_rev
/-! ### for i, x in enumerate(xs) -/
def enumD (i : Nat) : List Dat → List Dat
  | [] => []
  | d :: ds => .tup [.int (i : Nat), d] :: enumD (i + 1) ds
theorem enum_at : ∀ {ds : List Dat} {i j : Nat} {e : Dat}, (enumD i ds)[j]? = some e → ∃ d, ds[j]? = some d ∧ e = .tup [.int ((i + j : Nat)), d]
  | [], i, j, e, h => by cases h
  | d :: ds, i, 0, e, h => ⟨d, rfl, (Option.some.inj h).symm⟩
  | d :: ds, i, j + 1, e, h => by
    obtain ⟨d', h1, h2⟩ := enum_at (ds := ds) (i := i + 1) (j := j) h
    exact ⟨d', h1, by rw [h2, show i + 1 + j = i + (j + 1) by omega]⟩
theorem enum_len : ∀ {ds : List Dat} {i : Nat}, (enumD i ds).length = ds.length
  | [], _ => rfl
  | d :: ds, i => by
    show (enumD (i + 1) ds).length + 1 = ds.length + 1
    rw [enum_len]
theorem enum_nl : ∀ {ds : List Dat} {i : Nat}, nlAll ds = true → nlAll (enumD i ds) = true
  | [], _, _ => rfl
  | d :: ds, i, h => by
    have h2 : (nl d && nlAll ds) = true := h
    rw [Bool.and_eq_true] at h2
    show (nl (.tup [.int (i : Nat), d]) && nlAll (enumD (i + 1) ds)) = true
    rw [enum_nl h2.2, Bool.and_true]
    show (nl (.int (i : Nat)) && (nl d && true)) = true
    rw [h2.1]; rfl
theorem drv_enum {a : Addr} {ds : List Dat} : Drv (Ite K a) [(.ref a, .lst ds)] (enumD 0 ds) := fun i H hg => by
  obtain ⟨b, xs, eb, _, hx, q⟩ := hg _ (List.mem_cons_self ..)
  cases eb
  refine ⟨fun hz => ⟨xs, SqL.of hx, by rw [q.length]; rw [enum_len] at hz; exact hz⟩, fun e he => ?_⟩
  obtain ⟨d, hd, rfl⟩ := enum_at he
  obtain ⟨v, hv, qv⟩ := q.at hd
  refine ⟨⟨xs, v, SqL.of hx, hv⟩, fun x H' ⟨t, y, ex, ht, e1, hy⟩ => ?_⟩
  subst e1 ex
  have ev : v = y := Option.some.inj (hv.symm.trans (hy xs (SqL.of hx)))
  subst ev
  refine ⟨same_new ht, t, _, rfl, upd_same, V.int (i : Nat), _, rfl, ?_, v, [], rfl, qv.same (same_new ht), rfl⟩
  show V.int (i : Nat) = V.int ((0 + i : Nat))
  rw [Nat.zero_add]
theorem sp_enum {ds : List Dat} (h : EvP tl Γ (.lst ds)) : SrcP (iEnum K (tCons tl tNil)) Γ (enumD 0 ds) := fun H0 gh σ H A R k => h H0 gh σ H A _ fun x H1 e q => by
  obtain ⟨a, xs, ex, _, hx, qx⟩ := id q
  subst ex
  exact ⟨a, xs, rfl, SqL.of hx, k _ H1 [(.ref a, .lst ds)] e (fun p hp => by
    rcases List.mem_cons.mp hp with rfl | hp
    · exact q
    · cases hp) drv_enum⟩
end
/-! ### data compared at any depth -/
mutual
def toP : Dat → PyData
  | .non => .none
  | .bl b => .bool b
  | .int i => .int i
  | .str s => .str s
  | .lst ds => .list (toPs ds)
  | .tup ds => .tuple (toPs ds)
  | .ins _ _ _ => .none
  | .sq _ _ => .none
def toPs : List Dat → List PyData
  | [] => []
  | d :: ds => toP d :: toPs ds
end
mutual
/-- no instance in it -/
def ni : Dat → Bool
  | .ins _ _ _ => false
  | .sq _ _ => false
  | .lst ds => niAll ds
  | .tup ds => niAll ds
  | _ => true
def niAll : List Dat → Bool
  | [] => true
  | d :: ds => ni d && niAll ds
end
mutual
theorem dp_of {K : PySem.W.Frag} {Pr : Addr → Prop} {H : Hp} : ∀ (d : Dat) (v : V), ni d = true → Dq Pr H d v → Dp K H v (toP d)
  | .non, v, _, q => by rw [show v = V.non from q]; exact .non
  | .bl b, v, _, q => by rw [show v = V.bl b from q]; exact .bl b
  | .int i, v, _, q => by rw [show v = V.int i from q]; exact .int i
  | .str s, v, _, q => by rw [show v = V.str s from q]; exact .str s
  | .lst ds, v, n, ⟨a, xs, e, _, h, q⟩ => by rw [e]; exact .lst (SqL.of h) (dp_all ds xs n q)
  | .tup ds, v, n, ⟨a, xs, e, h, q⟩ => by rw [e]; exact .tup (SqT.of h) (dp_all ds xs n q)
  | .ins _ _ _, v, n, _ => by cases n
  | .sq _ _, v, n, _ => by cases n
theorem dp_all {K : PySem.W.Frag} {Pr : Addr → Prop} {H : Hp} : ∀ (ds : List Dat) (xs : List V), niAll ds = true → DqAll Pr H ds xs → DpAll K H xs (toPs ds)
  | [], xs, _, q => by rw [show xs = [] from q]; exact .nil
  | d :: ds, xs, n, ⟨x, r, e, p, q⟩ => by
    have n2 : (ni d && niAll ds) = true := n
    rw [Bool.and_eq_true] at n2
    rw [e]
    exact .cons (dp_of d x n2.1 p) (dp_all ds r n2.2 q)
end
section
variable {Δ : Vw} {d1 d2 : Dat} {ta tb : TE} {K : PySem.W.Frag}
theorem ev_eqD (ha : EvW ta Δ d1) (hb : EvW tb Δ d2) (n1 : ni d1 = true) (n2 : ni d2 = true) (s1 : SeqAt.shaped (toP d1) = true) (s2 : SeqAt.shaped (toP d2) = true) : Ev (tOp (rEqD K) ta tb) Δ (.bl (PyData.eqv (toP d1) (toP d2))) := ev_op ha hb fun H x y hx hy Q k =>
  ⟨_, _, dp_of d1 x n1 hx, dp_of d2 y n2 hy, s1, s2, k _ H (Same.refl H) rfl⟩
theorem ev_neD (ha : EvW ta Δ d1) (hb : EvW tb Δ d2) (n1 : ni d1 = true) (n2 : ni d2 = true) (s1 : SeqAt.shaped (toP d1) = true) (s2 : SeqAt.shaped (toP d2) = true) : Ev (tOp (rNeD K) ta tb) Δ (.bl (!PyData.eqv (toP d1) (toP d2))) := ev_op ha hb fun H x y hx hy Q k =>
  ⟨_, _, dp_of d1 x n1 hx, dp_of d2 y n2 hy, s1, s2, k _ H (Same.refl H) rfl⟩
end
/-! lists of ints, of rows -/
theorem toPs_map {α : Type} (f : α → Dat) : ∀ l : List α, toPs (l.map f) = l.map fun a => toP (f a)
  | [] => rfl
  | a :: l => by
    show toP (f a) :: toPs (l.map f) = _
    rw [toPs_map f l]; rfl
theorem ni_map {α : Type} (f : α → Dat) (h : ∀ a, ni (f a) = true) : ∀ l : List α, niAll (l.map f) = true
  | [] => rfl
  | a :: l => by
    show (ni (f a) && niAll (l.map f)) = true
    rw [h a, ni_map f h l]; rfl
theorem shp_lst {α : Type} (f : α → PyData) (n : Nat) (hn : n ≤ 60) (h1 : ∀ a, (f a).canLay0 = true) (h2 : ∀ a, (f a).depth ≤ n) (l : List α) : SeqAt.shaped (.list (l.map f)) = true := by
  have a1 : ∀ l : List α, PyData.canLayAll0 (l.map f) = true := fun l => by
    induction l with
    | nil => simp [PyData.canLayAll0]
    | cons a l ih => simp [PyData.canLayAll0, h1 a, ih]
  have a2 : ∀ l : List α, PyData.depthAll (l.map f) ≤ n := fun l => by
    induction l with
    | nil => simp [PyData.depthAll]
    | cons a l ih =>
      have := h2 a
      simp only [List.map_cons, PyData.depthAll]
      omega
  have d1 := a2 l
  have c1 := a1 l
  show (PyData.canLay0 (.list (l.map f)) && decide (PyData.depth (.list (l.map f)) ≤ 64)) = true
  rw [Bool.and_eq_true]
  refine ⟨by simp only [PyData.canLay0]; exact c1, decide_eq_true ?_⟩
  simp only [PyData.depth]
  omega
theorem eqv_lst {α : Type} [DecidableEq α] (f : α → PyData) (h : ∀ a b, PyData.eqv (f a) (f b) = decide (a = b)) : ∀ l m : List α, PyData.eqv (.list (l.map f)) (.list (m.map f)) = decide (l = m) := by
  have q : ∀ l m : List α, PyData.eqvAll (l.map f) (m.map f) = decide (l = m) := by
    intro l
    induction l with
    | nil => intro m; cases m <;> simp [PyData.eqvAll]
    | cons a l ih =>
      intro m
      cases m with
      | nil => simp [PyData.eqvAll]
      | cons b m =>
        simp only [List.map_cons, PyData.eqvAll, h, ih]
        by_cases e1 : a = b <;> by_cases e2 : l = m <;> simp [e1, e2]
  intro l m
  simp only [PyData.eqv]
  exact q l m
def rowP (r : Row) : PyData := .tuple [.int (b2i r.m), .int r.x, .int r.z]
theorem rowP_lay (r : Row) : (rowP r).canLay0 = true := by simp [rowP, PyData.canLay0, PyData.canLayAll0]
theorem rowP_depth (r : Row) : (rowP r).depth ≤ 1 := by simp [rowP, PyData.depth, PyData.depthAll]
theorem rowP_eqv (a b : Row) : PyData.eqv (rowP a) (rowP b) = decide (a = b) := by
  obtain ⟨m, x, z⟩ := a
  obtain ⟨m', x', z'⟩ := b
  have e : PyData.eqv (rowP ⟨m, x, z⟩) (rowP ⟨m', x', z'⟩) = ((b2i m == b2i m') && (((x : Int) == (x' : Int)) && (((z : Int) == (z' : Int)) && true))) := by simp only [rowP, PyData.eqv, PyData.eqvAll]
  rw [e, Bool.and_true]
  by_cases h1 : m = m'
  · by_cases h2 : x = x'
    · by_cases h3 : z = z'
      · subst h1 h2 h3; simp
      · have q : ((z : Int) == (z' : Int)) = false := beq_eq_false_iff_ne.mpr (by omega)
        rw [q, Bool.and_false, Bool.and_false]
        exact (decide_eq_false fun h => h3 (congrArg Row.z h)).symm
    · have q : ((x : Int) == (x' : Int)) = false := beq_eq_false_iff_ne.mpr (by omega)
      rw [q, Bool.false_and, Bool.and_false]
      exact (decide_eq_false fun h => h2 (congrArg Row.x h)).symm
  · have q : (b2i m == b2i m') = false := beq_eq_false_iff_ne.mpr fun h => h1 (b2i_inj.mp h)
    rw [q, Bool.false_and]
    exact (decide_eq_false fun h => h1 (congrArg Row.m h)).symm
theorem int_eqv (a b : Int) : PyData.eqv (.int a) (.int b) = decide (a = b) := by
  simp only [PyData.eqv]
  rfl
/-- lists of rows, lists of ints -/
theorem ev_eqRows {Δ : Vw} {ta tb : TE} {K : PySem.W.Frag} {rs ss : List Row} (ha : EvW ta Δ (.lst (rs.map rowD))) (hb : EvW tb Δ (.lst (ss.map rowD))) : Ev (tOp (rEqD K) ta tb) Δ (.bl (decide (rs = ss))) := by
  have q := ev_eqD (K := K) ha hb (ni_map _ (fun _ => rfl) _) (ni_map _ (fun _ => rfl) _) (by show SeqAt.shaped (.list (toPs _)) = true; rw [toPs_map]; exact shp_lst rowP 1 (by decide) rowP_lay rowP_depth _) (by show SeqAt.shaped (.list (toPs _)) = true; rw [toPs_map]; exact shp_lst rowP 1 (by decide) rowP_lay rowP_depth _)
  rw [show PyData.eqv (toP (.lst (rs.map rowD))) (toP (.lst (ss.map rowD))) = decide (rs = ss) by
    show PyData.eqv (.list (toPs _)) (.list (toPs _)) = _
    rw [toPs_map, toPs_map]
    exact eqv_lst rowP rowP_eqv rs ss] at q
  exact q
theorem ev_neRows {Δ : Vw} {ta tb : TE} {K : PySem.W.Frag} {rs ss : List Row} (ha : EvW ta Δ (.lst (rs.map rowD))) (hb : EvW tb Δ (.lst (ss.map rowD))) : Ev (tOp (rNeD K) ta tb) Δ (.bl (!decide (rs = ss))) := by
  have q := ev_neD (K := K) ha hb (ni_map _ (fun _ => rfl) _) (ni_map _ (fun _ => rfl) _) (by show SeqAt.shaped (.list (toPs _)) = true; rw [toPs_map]; exact shp_lst rowP 1 (by decide) rowP_lay rowP_depth _) (by show SeqAt.shaped (.list (toPs _)) = true; rw [toPs_map]; exact shp_lst rowP 1 (by decide) rowP_lay rowP_depth _)
  rw [show PyData.eqv (toP (.lst (rs.map rowD))) (toP (.lst (ss.map rowD))) = decide (rs = ss) by
    show PyData.eqv (.list (toPs _)) (.list (toPs _)) = _
    rw [toPs_map, toPs_map]
    exact eqv_lst rowP rowP_eqv rs ss] at q
  exact q
theorem ev_eqInts {Δ : Vw} {ta tb : TE} {K : PySem.W.Frag} {rs ss : List Int} (ha : EvW ta Δ (.lst (rs.map Dat.int))) (hb : EvW tb Δ (.lst (ss.map Dat.int))) : Ev (tOp (rEqD K) ta tb) Δ (.bl (decide (rs = ss))) := by
  have q := ev_eqD (K := K) ha hb (ni_map _ (fun _ => rfl) _) (ni_map _ (fun _ => rfl) _) (by show SeqAt.shaped (.list (toPs _)) = true; rw [toPs_map]; exact shp_lst PyData.int 0 (by decide) (fun _ => by simp [PyData.canLay0]) (fun _ => by simp [PyData.depth]) _) (by show SeqAt.shaped (.list (toPs _)) = true; rw [toPs_map]; exact shp_lst PyData.int 0 (by decide) (fun _ => by simp [PyData.canLay0]) (fun _ => by simp [PyData.depth]) _)
  rw [show PyData.eqv (toP (.lst (rs.map Dat.int))) (toP (.lst (ss.map Dat.int))) = decide (rs = ss) by
    show PyData.eqv (.list (toPs _)) (.list (toPs _)) = _
    rw [toPs_map, toPs_map]
    exact eqv_lst PyData.int int_eqv rs ss] at q
  exact q
theorem ev_neInts {Δ : Vw} {ta tb : TE} {K : PySem.W.Frag} {rs ss : List Int} (ha : EvW ta Δ (.lst (rs.map Dat.int))) (hb : EvW tb Δ (.lst (ss.map Dat.int))) : Ev (tOp (rNeD K) ta tb) Δ (.bl (!decide (rs = ss))) := by
  have q := ev_neD (K := K) ha hb (ni_map _ (fun _ => rfl) _) (ni_map _ (fun _ => rfl) _) (by show SeqAt.shaped (.list (toPs _)) = true; rw [toPs_map]; exact shp_lst PyData.int 0 (by decide) (fun _ => by simp [PyData.canLay0]) (fun _ => by simp [PyData.depth]) _) (by show SeqAt.shaped (.list (toPs _)) = true; rw [toPs_map]; exact shp_lst PyData.int 0 (by decide) (fun _ => by simp [PyData.canLay0]) (fun _ => by simp [PyData.depth]) _)
  rw [show PyData.eqv (toP (.lst (rs.map Dat.int))) (toP (.lst (ss.map Dat.int))) = decide (rs = ss) by
    show PyData.eqv (.list (toPs _)) (.list (toPs _)) = _
    rw [toPs_map, toPs_map]
    exact eqv_lst PyData.int int_eqv rs ss] at q
  exact q
end K92
end
section
set_option maxHeartbeats 4000000
/-! A list's first equal item taken out; lists of ranges. -/
namespace K92
open PySem PySem.Spec PyProof.Rows L2
theorem room65 {k : Nat} {A : Around} (r : Room k A) : A.units + 65 < cLine := by have := r.un; omega
def rRemD (K : PySem.W.Frag) : V → List V → Hp → VK → Prop := fun x vs H Q => ∃ (l : Addr) (y : V) (ys : List V) (e : PyData) (es : List PyData) (j : Nat), x = .ref l ∧ vs = [y] ∧ H l = some (.lst ys) ∧ DpAll K H ys es ∧ Dp K H y e ∧ SeqAt.shaped (.list es) = true ∧ SeqAt.shaped e = true ∧
  (∃ z, es[j]? = some z ∧ PyData.eqv z e = true) ∧ (∀ (i : Nat) (z : PyData), i < j → es[i]? = some z → PyData.eqv z e = false) ∧ Q .non (upd H l (.lst (ys.eraseIdx j)))
theorem mt_removeD {X : Cx} (hu : X.A.units + 65 < cLine) : MtR X "list.remove" (rRemD X.K) := by
  intro pins s σ H x vs v us Q I rx rv ⟨l, y, ys, e, es, j, ex, ev, hH, ha, hy, sl, sd, ⟨z0, hz0, he0⟩, hno, q⟩
  subst ex ev
  obtain rfl : v = Value.ref l := rx
  obtain ⟨uy, eu, ry⟩ := rv.one
  subst eu
  obtain ⟨bs, r1⟩ := Dp.reads I e y uy hy ry
  have cl : PyData.canLayAll0 es = true := SeqAt.canLay_of_shaped sl
  have room : X.A.units + 1 + min (PyData.depthAll es) e.depth < cLine := room_in_shaped sd hu
  obtain ⟨zl, its, n, rits, hlen, ho⟩ := I.lstM hH
  obtain ⟨as, ra⟩ := Dp.readsAll I es _ its ha rits
  have hn : its.length = es.length := SeqAt.ReadsAll.length es its as ra
  have hmap : its.map (SeqAt.readOf s.heap) = es := SeqAt.readsAll_map es its as cl ra
  have hje : j < es.length := (List.getElem?_eq_some_iff.mp hz0).1
  have hj : j < its.toArray.size := by rw [List.size_toArray]; omega
  have rd : ∀ (i : Nat) (hi : i < its.toArray.size) (z : PyData), es[i]? = some z → SeqAt.readOf s.heap its.toArray[i] = z := fun i hi z hz => by
    have hil : i < its.length := by rw [List.size_toArray] at hi; exact hi
    rw [← hmap, List.getElem?_map, List.getElem?_eq_getElem hil] at hz
    have := Option.some.inj hz
    simpa using this
  refine call_meets PySem.F.slot_list_remove ⟨_, ho, rfl⟩ PySem.F.entry_list_remove (PySem.F.args_list_remove_2 _ _)
    (SeqAt.list_removeAt l its.toArray n none #[] uy (fun u => PyData.eqv (SeqAt.readOf s.heap u) e) j hj ?_ ?_ (by rw [List.size_toArray]; omega))
    ⟨ho, SeqAt.items_eqAt (vs := its.toArray) ra r1 cl (SeqAt.canLay_of_shaped sd) room, ?_⟩
  · show PyData.eqv (SeqAt.readOf s.heap its.toArray[j]) e = true
    rw [rd j hj z0 hz0]
    exact he0
  · intro i hi hij
    show PyData.eqv (SeqAt.readOf s.heap its.toArray[i]) e = false
    have hie : i < es.length := by omega
    rw [rd i hi _ (List.getElem?_eq_getElem hie)]
    exact hno i _ hij (List.getElem?_eq_getElem hie)
  · refine ⟨.non, _, I.lset (its' := its.eraseIdx j) (t' := s.toks) hH ho ?_ (rits.eraseIdx j) (Nat.le_trans (len_erase ys j) zl), rfl, q⟩
    show its.toArray.eraseIdxIfInBounds j = (its.eraseIdx j).toArray
    rw [List.eraseIdxIfInBounds_toArray]
/-- a row is taken out of an own list of rows -/
theorem erase_ix : ∀ {rs : List Row} {r : Row}, r ∈ rs → ∃ j, rs[j]? = some r ∧ (∀ (i : Nat) (q : Row), i < j → rs[i]? = some q → q ≠ r) ∧ rs.erase r = rs.eraseIdx j
  | [], r, h => by cases h
  | a :: rs, r, h => by
    by_cases e : a = r
    · subst e
      exact ⟨0, rfl, fun i q hi _ => by omega, by simp⟩
    · obtain ⟨j, h1, h2, h3⟩ := erase_ix ((List.mem_cons.mp h).resolve_left fun z => e z.symm)
      refine ⟨j + 1, h1, fun i q hi hq => ?_, ?_⟩
      · cases i with
        | zero => rw [← Option.some.inj hq]; exact e
        | succ i => exact h2 i q (by omega) hq
      · rw [List.erase_cons, beq_eq_false_iff_ne.mpr e]
        simp [h3]
theorem erase_map {α β : Type} (f : α → β) : ∀ (l : List α) (j : Nat), (l.map f).eraseIdx j = (l.eraseIdx j).map f
  | [], _ => rfl
  | a :: l, 0 => rfl
  | a :: l, j + 1 => by
    show f a :: (l.map f).eraseIdx j = f a :: (l.eraseIdx j).map f
    rw [erase_map f l j]
section
variable {H0 H : Hp} {gh : List (V × Dat)} {σ : L2.St} {Γ : List En} {te : TE} {D : Ends} {uu : TS} {i : Nat} {K : PySem.W.Frag}
theorem q_rem {l : Addr} {rs : List Row} {r : Row} (A : At H0 gh H σ Γ) (hx : Γ[i]? = some (.own l (.lst (rs.map rowD)))) (h : EvW te (view Γ) (rowD r)) (hm : r ∈ rs) (k : ∀ H', At H0 gh H' σ (Γ.set i (.own l (.lst ((rs.erase r).map rowD)))) → uu D σ H') :
    tSeq (tDrop (tBM K "list" (rRemD K) (tVar i) (tCons te tNil))) uu D σ H := by
  obtain ⟨o, h1, e2, xs, hl, q⟩ := A.sl i _ hx
  refine ⟨.ref l, by rw [h1, e2], .inl ⟨rfl, xs, SqL.of hl⟩, h σ H A.sv _ fun v H1 e qv => ?_⟩
  have A1 := A.mono e
  obtain ⟨j, j1, j2, j3⟩ := erase_ix hm
  have q1 := q.same e
  refine ⟨l, v, xs, rowP r, rs.map rowP, j, rfl, rfl, e _ _ hl, ?_, dp_of (rowD r) v rfl qv, shp_lst rowP 1 (by decide) rowP_lay rowP_depth _, ?_, ⟨rowP r, by rw [List.getElem?_map, j1]; rfl, by rw [rowP_eqv]; simp⟩, fun m z hm hz => ?_, k _ (A1.put hx ?_)⟩
  · have := dp_all (K := K) (rs.map rowD) xs (ni_map _ (fun _ => rfl) _) q1
    rw [toPs_map] at this
    exact this
  · show ((rowP r).canLay0 && decide ((rowP r).depth ≤ 64)) = true
    rw [rowP_lay, decide_eq_true (Nat.le_trans (rowP_depth r) (by decide))]; rfl
  · rw [List.getElem?_map] at hz
    cases e3 : rs[m]? with
    | none => rw [e3] at hz; cases hz
    | some a =>
      rw [e3] at hz
      rw [← Option.some.inj hz, rowP_eqv]
      exact decide_eq_false (j2 m a hm e3)
  · have tt : ∀ a ys, H1 a = some (.tup ys) → upd H1 l (.lst (xs.eraseIdx j)) a = some (.tup ys) := fun a ys ha => by
      rw [upd_ne fun z => by rw [z, e _ _ hl] at ha; cases ha]
      exact ha
    refine ⟨_, upd_same, ?_⟩
    have := (q1.eraseIdx j).tups (Pr' := Ps Γ) (nlAll_of fun d hd => nlAll_mem (nl_rows rs) d (List.mem_of_mem_eraseIdx hd)) tt
    rw [j3, ← erase_map]
    exact this
/-- a, b = t, the first one's freshness told -/
theorem q_tup2F {d1 d2 : Dat} {i j : Nat} (hij : i ≠ j) (hi : i < Γ.length) (A : At H0 gh H σ Γ) (h : Ev te (view Γ) (.tup [d1, d2])) (k : ∀ v1 σ' H', At H0 gh H' σ' ((Γ.set i (.dat d1)).set j (.dat d2)) → σ'[i]? = some (some v1) → Dq (Fr H0) H' d1 v1 → uu D σ' H') : tSeq (tAsg te (gTup K 2 (gCons (gName i) (gCons (gName j) gNil)))) uu D σ H :=
  h σ H A.sv _ fun v H1 e q => by
    obtain ⟨a, v1, v2, ev, hx, q1, q2⟩ := dq_tup2 q
    have A1 := A.mono e
    refine ⟨a, _, ev, SqT.of hx, rfl, _, _, rfl, _, _, rfl, rfl, k v1 _ H1 ((A1.dat (A.dq q1)).dat ((A.dq q2).weak fun a h => psm_set (fun l c e => by cases e) h)) ?_ (q1.weak (fr_same A.same))⟩
    rw [List.getElem?_set_ne hij.symm, List.getElem?_set_self (by rw [A.len]; exact hi)]
theorem rgV_rng {lo hi : Int} {Pr : Addr → Prop} : DqAll Pr H (rng lo (hi - lo).toNat) (rgV lo hi) := by
  unfold rng rgV
  generalize (hi - lo).toNat = n
  have q : ∀ l : List Nat, DqAll Pr H (l.map fun i => Dat.int (lo + (i : Nat))) (l.map fun i => V.int (lo + (i : Nat))) := fun l => by
    induction l with
    | nil => rfl
    | cons a l ih => exact ⟨_, _, rfl, rfl, ih⟩
  exact q _
theorem ev_lrg1 {Δ : Vw} {n : Int} (h : EvW te Δ (.int n)) (hn : 0 ≤ n ∧ n ≤ 100000) : Ev (tLstRg (tRg1 te)) Δ (.lst (rng 0 n.toNat)) := fun σ H s Q k =>
  h σ H s _ fun v H1 e q => ⟨n, q, ⟨by omega, by omega, by omega, by omega, by show (n - 0).toNat ≤ sizeLine; exact Nat.le_trans (by omega : _ ≤ 100000) (by decide)⟩, fun p hp => k _ _ (e.trans (same_new hp)) ⟨p, _, rfl, e.free hp, upd_same, by have z := rgV_rng (lo := 0) (hi := n) (Pr := Fr H) (H := upd H1 p (.lst (rgV 0 n))); rw [Int.sub_zero] at z; exact z⟩⟩
theorem ev_lrg2 {Δ : Vw} {ta : TE} {m n : Int} (h1 : EvW ta Δ (.int m)) (h2 : EvW te Δ (.int n)) (hn : 0 ≤ m ∧ m ≤ 100000 ∧ 0 ≤ n ∧ n ≤ 100000) : Ev (tLstRg (tRg2 ta te)) Δ (.lst (rng m (n - m).toNat)) := fun σ H s Q k =>
  h1 σ H s _ fun v H1 e q => h2 σ H1 (s.same e) _ fun u H2 e2 q2 => ⟨m, n, q, q2, ⟨by omega, by omega, by omega, by omega, by show (n - m).toNat ≤ sizeLine; exact Nat.le_trans (by omega : _ ≤ 100000) (by decide)⟩, fun p hp => k _ _ ((e.trans e2).trans (same_new hp)) ⟨p, _, rfl, (e.trans e2).free hp, upd_same, rgV_rng⟩⟩
end
end K92
end
section
set_option maxHeartbeats 4000000
/-! Functions read off a class; attributes that are set; methods that change their instance. -/
namespace K92
open PySem PySem.Spec PyProof.Rows L2
/-- C.m(..), m a plain def of the class at C -/
def tClsFn (C : Addr) (sp : Sp) (E : XK) (ta : TE) (t : TA) : TE := fun σ H Q => ta σ H fun x H1 => x = .ref C ∧ t σ H1 fun vs H2 => sp vs H2 Q E
theorem pe_clsfn {X : Cx} {CX : CXT} {k : Nat} {C f : Addr} {mc : Value} {fd : FuncData} {ps : List Str} {sp : Sp} {E : XK} {o e : Expr} {es : List Expr} {m : Str} {pos apos : Pos} {ta : TE} {t : TA} {pl : Sem Bool}
    (he : PE X o ta) (r : ClX.CRead X.K C mc) (c : PySem.W.findCls X.K (.ref C) mc m = some (.val (.ref f))) (kp : PySem.W.keepIn X.K (.ref f) = true) (F : FnOk X.prog X.w X.K X.mg X.base CX k f fd ps sp) (hr : Room k X.A) (hb : Binds X.K fd ps []) (hx : Passes CX X E) (ha : PA X (e :: es) t)
    (hst : starEach (e :: es) X.env = (false, eval e X.env) :: starEach es X.env := by rfl) (hpl : (backTo pos (starEach es X.env)).any (·.1) = false := by rfl)
    (ht : eval (.Call (.Attribute o m apos) (e :: es) [] pos) X.env = (do
      let ov ← eval o X.env
      standAt apos.atName
      let (f, first) ← holding [ov] (getMethod ov m pl)
      callWith pos f first (backTo pos (starEach (e :: es) X.env)) (backToKw pos (keywordEach [] X.env))) := by rfl) :
    PE X (.Call (.Attribute o m apos) (e :: es) [] pos) (tClsFn C sp E ta t) := by
  refine ⟨fun pins s σ H Q I h => ?_⟩
  refine PySem.W.methodCall_KW (pl := pl) (thn (he.run pins s σ H _ I h) fun u s1 ⟨x, H1, I1, rx, ex, q⟩ => ?_) ht
  subst ex
  obtain rfl : u = Value.ref C := rx
  refine PySem.W.method_cls I1.kIn r.ga (PySem.W.cls_value I1.kIn r.rd c rfl ?_)
  refine PySem.W.callWith_K (first := []) (h₀ := X.base) I.ok.mod.kin kp (thn (ha.run pos pins _ σ H1 _ (I1.tok _) q) fun us s2 ⟨vs, H2, I3, rv, q2⟩ => ⟨I3.kIn, ?_⟩) hst hpl
  exact run_fn (dvs := []) F hr hb .nil hx I3 rv (by rw [List.append_nil]; exact q2)
theorem ix_tupK {X : Cx} {K : PySem.W.Frag} (e : X.K = K) : IxR X (rIxT K) := e ▸ ix_tup
theorem pe_fldK {X : Cx} {K : PySem.W.Frag} {e : Expr} {f : Str} {pos : Pos} {ta : TE} (h : X.K = K) (he : PE X e ta) (hb : attributeBase e f X.env (eval e X.env) = eval e X.env) : PE X (.Attribute e f pos) (tFld K ta f) := h ▸ pe_fld he hb
theorem ix_listK {X : Cx} {K : PySem.W.Frag} (e : X.K = K) : IxR X (rIxL K) := e ▸ ix_list
section
variable {H0 H H1 : Hp} {gh g : List (V × Dat)} {σ : L2.St} {Γ : List En} {K : PySem.W.Frag} {D : Ends} {te : TE} {d : Dat} {i : Nat}
/-- how an attribute is put among others -/
def PutF (f : Str) (d : Dat) (ns : List Str) (ds : List Dat) (ns' : List Str) (ds' : List Dat) : Prop :=
  ∀ (Pr : Addr → Prop) (H : Hp) (xs : List V) (y : V), ns.length = xs.length → DqAll Pr H ds xs → Dq Pr H d y → ∃ ys, putF f y (ns.zip xs) = ns'.zip ys ∧ ns'.length = ys.length ∧ DqAll Pr H ds' ys
theorem put_0 {f : Str} {d : Dat} : PutF f d [] [] [f] [d] := fun Pr H xs y hz q qd => by
  cases q
  exact ⟨[y], rfl, rfl, y, [], rfl, qd, rfl⟩
theorem put_1 {a f : Str} {d d1 : Dat} (ne : a ≠ f) : PutF f d [a] [d1] [a, f] [d1, d] := fun Pr H xs y hz ⟨v, r, ex, q, er⟩ qd => by
  subst ex; cases er
  exact ⟨[v, y], by show (if a = f then _ else _) = _; rw [if_neg ne]; rfl, rfl, v, [y], rfl, q, y, [], rfl, qd, rfl⟩
theorem put_2 {a b f : Str} {d d1 d2 : Dat} (ne : a ≠ f) (ne2 : b ≠ f) : PutF f d [a, b] [d1, d2] [a, b, f] [d1, d2, d] := fun Pr H xs y hz ⟨v, r, ex, q, v2, r2, er, q2, er2⟩ qd => by
  subst ex; subst er; cases er2
  exact ⟨[v, v2, y], by show (if a = f then _ else (a, v) :: (if b = f then _ else _)) = _; rw [if_neg ne, if_neg ne2]; rfl, rfl, v, _, rfl, q, v2, _, rfl, q2, y, [], rfl, qd, rfl⟩
theorem put_at {a f : Str} {d d1 d2 : Dat} (ne : a ≠ f) : PutF f d [a, f] [d1, d2] [a, f] [d1, d] := fun Pr H xs y hz ⟨v, r, ex, q, v2, r2, er, q2, er2⟩ qd => by
  subst ex; subst er; cases er2
  exact ⟨[v, y], by show (if a = f then _ else (a, v) :: (if f = f then _ else _)) = _; rw [if_neg ne, if_pos rfl]; rfl, rfl, v, _, rfl, q, y, [], rfl, qd, rfl⟩
/-- self.f = e, self an own instance -/
theorem st_fldO {C l : Addr} {f : Str} {ns ns' : List Str} {ds ds' : List Dat} (A : At H0 gh H σ Γ) (hx : Γ[i]? = some (.own l (.ins C ns ds))) (h : Ev te (view Γ) d) (c : Cls K C) (na : NoAttr K C f) (hz : ns.length < 1000) (hp : PutF f d ns ds ns' ds')
    (k : ∀ H', At H0 gh H' σ (Γ.set i (.own l (.ins C ns' ds'))) → D.nx σ H') : sFld K (tVar i) te f D σ H := h σ H A.sv _ fun y H1 e q => by
  have A1 := A.mono e
  obtain ⟨o, h1, e2, dx, xs, hl, hlen, qx⟩ := A1.sl i _ hx
  obtain ⟨ys, e3, hlen', qy⟩ := hp _ _ xs y hlen qx (A.dq q)
  have lz : (ns.zip xs).length < 1000 := by rw [List.length_zip]; omega
  refine ⟨.ref l, by rw [h1, e2], l, C, dx, _, rfl, hl, c, na, lz, k _ ?_⟩
  have ne : ∀ a, Ps Γ a → a ≠ l := fun a p e => p i _ (e ▸ hx)
  refine A1.put hx ⟨dx, ys, by rw [upd_same, e3], hlen', ?_⟩
  refine DqAll.go (fun a o p q => ⟨p, ?_⟩) (fun a xs q => ?_) _ _ qy
  · rw [upd_ne (ne a p)]; exact q
  · rw [upd_ne (fun z => by rw [z, hl] at q; cases q)]; exact q
theorem q_fldO {uu : TS} {C l : Addr} {f : Str} {ns ns' : List Str} {ds ds' : List Dat} (A : At H0 gh H σ Γ) (hx : Γ[i]? = some (.own l (.ins C ns ds))) (h : Ev te (view Γ) d) (c : Cls K C) (na : NoAttr K C f) (hz : ns.length < 1000) (hp : PutF f d ns ds ns' ds')
    (k : ∀ H', At H0 gh H' σ (Γ.set i (.own l (.ins C ns' ds'))) → uu D σ H') : tSeq (sFld K (tVar i) te f) uu D σ H := st_fldO (D := { D with nx := uu D }) A hx h c na hz hp k
/-- the heap without one address -/
def wo (p : Addr) (H : Hp) : Hp := fun a => if a = p then none else H a
theorem wo_same {p : Addr} : Same (wo p H) H := fun a o h => by
  unfold wo at h
  by_cases e : a = p
  · rw [if_pos e] at h; cases h
  · rw [if_neg e] at h; exact h
/-- what a method promises that changes its instance: fields before, arguments, fields behind -/
def spM (C : Addr) (R : List Str → List Dat → List Dat → List Str → List Dat → Prop) : Sp := fun vs H Q _ => ∃ (p dx : Addr) (us xs : List V) (ns : List Str) (ds as : List Dat) (ns' : List Str) (ds' : List Dat), vs = .ref p :: us ∧ R ns ds as ns' ds' ∧ nlAll as = true ∧
  H p = some (.ins C dx (ns.zip xs)) ∧ ns.length = xs.length ∧ DqAll (fun a => a ≠ p) H ds xs ∧ DqAll TP1 H as us ∧
  ∀ H', Same (wo p H) H' → (∃ dx ys, H' p = some (.ins C dx (ns'.zip ys)) ∧ ns'.length = ys.length ∧ DqAll (fun a => a ≠ p) H' ds' ys) → Q .non H'
/-- no own one -/
def NoOwn (Γ : List En) : Prop := ∀ (j : Nat) (l : Addr) (c : Dat), Γ[j]? ≠ some (.own l c)
theorem noOwn_dats {N : List Str} {ds : List Dat} : NoOwn (slotsOf N ds) := fun i l c h => by
  unfold slotsOf at h
  have hm := List.mem_of_getElem? h
  rcases List.mem_append.mp hm with h1 | h1
  · obtain ⟨d, _, e⟩ := List.mem_map.mp h1
    cases e
  · have := (List.mem_replicate.mp h1).2
    cases this
def noOwnB : List En → Bool
  | [] => true
  | .own _ _ :: _ => false
  | .no :: r => noOwnB r
  | .dat _ :: r => noOwnB r
theorem noOwn_of : ∀ {Γ : List En}, noOwnB Γ = true → NoOwn Γ
  | [], _, _, _, _, h => by cases h
  | .own _ _ :: _, h, _, _, _, _ => by cases h
  | .no :: r, h, j, l, c, e => by
    cases j with
    | zero => cases e
    | succ j => exact noOwn_of (Γ := r) h j l c e
  | .dat _ :: r, h, j, l, c, e => by
    cases j with
    | zero => cases e
    | succ j => exact noOwn_of (Γ := r) h j l c e
theorem At.ownW (A : At H0 gh H σ Γ) (no : NoOwn Γ) (e : Same H H1) {i : Nat} {p : Addr} {c : Dat} (hp : H p = none) (q : Top (fun a => a ≠ p) H1 p c) (hz : i < Γ.length) : At H0 gh H1 (σ.set i (some (.ref p))) (Γ.set i (.own p c)) := by
  have tr : ∀ a o, Ps Γ a → H a = some o → Ps (Γ.set i (.own p c)) a ∧ H1 a = some o := fun a o h ha => ⟨fun j c' q => by
    rcases set_cases q with ⟨_, e1, _⟩ | ⟨_, e1⟩
    · cases e1
      rw [hp] at ha; cases ha
    · exact h j c' e1, e a o ha⟩
  have tt : ∀ a xs, H a = some (.tup xs) → H1 a = some (.tup xs) := fun a xs h => e a _ h
  refine ⟨A.same.trans e, fun j l c' h => ?_, fun j k l c1 c2 h h' => ?_, fun r hr => Dq.go tr tt _ _ (A.gh r hr), by rw [List.length_set, List.length_set, A.len], fun j en h => ?_⟩
  · rcases set_cases h with ⟨_, e1, _⟩ | ⟨_, e1⟩
    · cases e1
      exact A.same.free hp
    · exact (no _ _ _ e1).elim
  · rcases set_cases h with ⟨e0, e1, _⟩ | ⟨_, e1⟩
    · rcases set_cases h' with ⟨e0', e1', _⟩ | ⟨_, e1'⟩
      · rw [← e0, ← e0']
      · exact (no _ _ _ e1').elim
    · exact (no _ _ _ e1).elim
  · rcases set_cases h with ⟨e1, e2, hz⟩ | ⟨e1, e2⟩
    · subst e1 e2
      refine ⟨some (.ref p), by rw [List.getElem?_set_self (by rw [A.len]; exact hz)], rfl, ?_⟩
      refine q.go (fun a o z ha => ⟨fun j c' q => ?_, ha⟩) (fun _ _ z => z) fun _ z => z
      rcases set_cases q with ⟨_, e1, _⟩ | ⟨_, e1⟩
      · cases e1; exact z rfl
      · exact no _ _ _ e1
    · obtain ⟨o, h1, h2⟩ := A.sl j en e2
      exact ⟨o, by rw [List.getElem?_set_ne e1]; exact h1, h2.go tr tt fun l c' _ o q => e l o q⟩
/-- the only own one is behind a call as the call says -/
theorem At.called (A : At H0 gh H σ Γ) {C l : Addr} {ns ns' : List Str} {ds ds' : List Dat} (hx : Γ[i]? = some (.own l (.ins C ns ds))) (only : NoOwn (Γ.set i .no)) {H' : Hp} (e : Same (wo l H) H') (h : ∃ dx ys, H' l = some (.ins C dx (ns'.zip ys)) ∧ ns'.length = ys.length ∧ DqAll (fun a => a ≠ l) H' ds' ys) :
    At H0 gh H' σ (Γ.set i (.own l (.ins C ns' ds'))) := by
  obtain ⟨dx, ys, h1, h2, q⟩ := h
  have s3 : Same H (fun a => if a = l then H l else H' a) := fun a o ha => by
    show (if a = l then H l else H' a) = _
    by_cases z : a = l
    · rw [if_pos z, ← z]; exact ha
    · rw [if_neg z]
      exact e a o (by unfold wo; rw [if_neg z]; exact ha)
  have A3 := A.mono s3
  have eq : H' = upd (fun a => if a = l then H l else H' a) l (.ins C dx (ns'.zip ys)) := by
    funext a
    by_cases z : a = l
    · rw [z, upd_same, h1]
    · rw [upd_ne z]
      show H' a = if a = l then H l else H' a
      rw [if_neg z]
  rw [eq]
  refine A3.put hx ?_
  rw [← eq]
  refine ⟨dx, ys, h1, h2, q.weak fun a z j c hj => ?_⟩
  by_cases ji : j = i
  · rw [ji, hx] at hj
    cases hj
    exact z rfl
  · exact only j a c (by rw [List.getElem?_set_ne (fun z => ji z.symm)]; exact hj)
/-- self.m(..), the instance changed -/
theorem st_meth {C l : Addr} {m : Str} {R : List Str → List Dat → List Dat → List Str → List Dat → Prop} {ns ns' : List Str} {ds ds' as : List Dat} {t : TA} {E : XK} (A : At H0 gh H σ Γ) (hx : Γ[i]? = some (.own l (.ins C ns ds))) (only : NoOwn (Γ.set i .no)) (hm : m ∉ ns) (ha : EvA t (view Γ) as) (n : nlAll as = true) (hR : R ns ds as ns' ds')
    (k : ∀ H', At H0 gh H' σ (Γ.set i (.own l (.ins C ns' ds'))) → D.nx σ H') : tDrop (tMeth C m (spM C R) [] E (tVar i) t) D σ H := by
  obtain ⟨o, h1, e2, dx, xs, hl, hlen, q⟩ := A.sl i _ hx
  refine ⟨.ref l, by rw [h1, e2], l, dx, _, rfl, hl, lookup_zip_none hm, ha σ H A.sv _ fun us H2 e qa => ?_⟩
  have A2 := A.mono e
  refine ⟨l, dx, us, xs, ns, ds, as, ns', ds', by rw [List.append_nil], hR, n, e _ _ hl, hlen, ?_, qa, fun H' s h' => k H' (A2.called hx only s h')⟩
  exact (q.same e).weak fun a z y => z i _ (y ▸ hx)
/-- C.m(self, ..) -/
theorem st_clsM {C0 C l : Addr} {R : List Str → List Dat → List Dat → List Str → List Dat → Prop} {ns ns' : List Str} {ds ds' as : List Dat} {t : TA} {E : XK} (A : At H0 gh H σ Γ) (hx : Γ[i]? = some (.own l (.ins C ns ds))) (only : NoOwn (Γ.set i .no)) (ha : EvA t (view Γ) as) (n : nlAll as = true) (hR : R ns ds as ns' ds')
    (k : ∀ H', At H0 gh H' σ (Γ.set i (.own l (.ins C ns' ds'))) → D.nx σ H') : tDrop (tClsFn C0 (spM C R) E (tC (.ref C0)) (tCons (tVar i) t)) D σ H := by
  obtain ⟨o, h1, e2, dx, xs, hl, hlen, q⟩ := A.sl i _ hx
  refine ⟨rfl, .ref l, by rw [h1, e2], ha σ H A.sv _ fun us H2 e qa => ?_⟩
  have A2 := A.mono e
  refine ⟨l, dx, us, xs, ns, ds, as, ns', ds', rfl, hR, n, e _ _ hl, hlen, ?_, qa, fun H' s h' => k H' (A2.called hx only s h')⟩
  exact (q.same e).weak fun a z y => z i _ (y ▸ hx)
theorem q_meth {uu : TS} {C l : Addr} {m : Str} {R : List Str → List Dat → List Dat → List Str → List Dat → Prop} {ns ns' : List Str} {ds ds' as : List Dat} {t : TA} {E : XK} (A : At H0 gh H σ Γ) (hx : Γ[i]? = some (.own l (.ins C ns ds))) (only : NoOwn (Γ.set i .no)) (hm : m ∉ ns) (ha : EvA t (view Γ) as) (n : nlAll as = true) (hR : R ns ds as ns' ds')
    (k : ∀ H', At H0 gh H' σ (Γ.set i (.own l (.ins C ns' ds'))) → uu D σ H') : tSeq (tDrop (tMeth C m (spM C R) [] E (tVar i) t)) uu D σ H := st_meth (D := { D with nx := uu D }) A hx only hm ha n hR k
theorem q_clsM {uu : TS} {C0 C l : Addr} {R : List Str → List Dat → List Dat → List Str → List Dat → Prop} {ns ns' : List Str} {ds ds' as : List Dat} {t : TA} {E : XK} (A : At H0 gh H σ Γ) (hx : Γ[i]? = some (.own l (.ins C ns ds))) (only : NoOwn (Γ.set i .no)) (ha : EvA t (view Γ) as) (n : nlAll as = true) (hR : R ns ds as ns' ds')
    (k : ∀ H', At H0 gh H' σ (Γ.set i (.own l (.ins C ns' ds'))) → uu D σ H') : tSeq (tDrop (tClsFn C0 (spM C R) E (tC (.ref C0)) (tCons (tVar i) t))) uu D σ H := st_clsM (D := { D with nx := uu D }) A hx only ha n hR k
/-- x = C(..) -/
theorem st_make {C : Addr} {R : List Str → List Dat → List Dat → List Str → List Dat → Prop} {ns' : List Str} {ds' as : List Dat} {t : TA} {E : XK} (A : At H0 gh H σ Γ) (no : NoOwn Γ) (hz : i < Γ.length) (ha : EvA t (view Γ) as) (n : nlAll as = true) (hR : R [] [] as ns' ds')
    (k : ∀ l σ' H', At H0 gh H' σ' (Γ.set i (.own l (.ins C ns' ds'))) → D.nx σ' H') : tAsg (tMake C (spM C R) [] E t) (gName i) D σ H := ha σ H A.sv _ fun us H1 e qa => fun x dx hx hdx ne => by
  have s2 : Same H1 (upd (upd H1 dx (.own x)) x (.ins C dx [])) := fun a o h => by
    rw [upd_ne (ne_of_none h hx), upd_ne (ne_of_none h hdx)]; exact h
  refine ⟨x, dx, us, [], [], [], as, ns', ds', by rw [List.append_nil], hR, n, upd_same, rfl, rfl, qa.same s2, fun H' s h' => ⟨rfl, ?_⟩⟩
  refine k x _ H' ((A.mono e).ownW no (fun a o h => ?_) hx ?_ hz)
  · exact s a o (by unfold wo; rw [if_neg (ne_of_none h hx)]; exact s2 a o h)
  · obtain ⟨dx', ys, h1, h2, q⟩ := h'
    exact ⟨dx', ys, h1, h2, q⟩
theorem q_make {uu : TS} {C : Addr} {R : List Str → List Dat → List Dat → List Str → List Dat → Prop} {ns' : List Str} {ds' as : List Dat} {t : TA} {E : XK} (A : At H0 gh H σ Γ) (no : NoOwn Γ) (hz : i < Γ.length) (ha : EvA t (view Γ) as) (n : nlAll as = true) (hR : R [] [] as ns' ds')
    (k : ∀ l σ' H', At H0 gh H' σ' (Γ.set i (.own l (.ins C ns' ds'))) → uu D σ' H') : tSeq (tAsg (tMake C (spM C R) [] E t) (gName i)) uu D σ H := st_make (D := { D with nx := uu D }) A no hz ha n hR k
end
section
variable {P : Program} {w : World} {K : PySem.W.Frag} {mg : Str → Option Value} {base : Heap}
def slotsM (C p : Addr) (N : List Str) (ns : List Str) (ds as : List Dat) : List En := (slotsOf N (.non :: as)).set 0 (.own p (.ins C ns ds))
/-- THE RULE for a method that changes its instance -/
theorem fn_meth {x qual : Str} {st : Stmt} {dvs : List V} {f : Addr} {fd : FuncData} {N ps : List Str} {k : Nat} {C : Addr} {R : List Str → List Dat → List Dat → List Str → List Dat → Prop} (F : FunD K x qual (defArgs st) (defBody st) (defScope st) dvs [] f fd) (S : FnScope N ps (defScope st))
    (len : ∀ ns ds as ns' ds', R ns ds as ns' ds' → as.length + 1 = ps.length) (hN : ps.length ≤ N.length)
    (hb : ∀ (cdv : Value) (A : Around) (outer : List Env) (s : Shared) (H : Hp), Room k (A.deeper (envOfC qual (defScope st) s.heap.objs.size f cdv)) → ∃ t, PSs (cxOf CX0 P w K mg base N qual (defScope st) f cdv A outer s H E0).nox (defBody st) t ∧
      ∀ ns ds as ns' ds', R ns ds as ns' ds' → nlAll as = true → ∀ (H0 : Hp) (p : Addr) (D : Ends) (σ : L2.St), At H0 [] H σ (slotsM C p N ns ds as) → (∀ σ' H' Γ', At H0 [] H' σ' Γ' → Γ'[0]? = some (.own p (.ins C ns' ds')) → D.nx σ' H') → t D σ H) : FnOk P w K mg base CX0 (k + 1) f fd ps (spM C R) := by
  refine F.ok S (fun vs H Q E h => ?_) (fun cdv A outer s H vs Q E hr h => ?_)
  · obtain ⟨p, dx, us, xs, ns, ds, as, ns', ds', rfl, r, _, _, _, _, qa, _⟩ := h
    rw [List.length_cons, qa.length]
    exact len _ _ _ _ _ r
  · obtain ⟨t, ht, hp⟩ := hb cdv A outer s H hr
    obtain ⟨p, dx, us, xs, ns, ds, as, ns', ds', rfl, r, n, ho, hl, q, qa, k⟩ := h
    have hlen := len _ _ _ _ _ r
    have n2 : nlAll (.non :: as) = true := n
    have q0 : DqAll TP1 (wo p H) as us := DqAll.go (Pr := NP1) (fun _ _ z => z.elim) (fun a xs z => by
      unfold wo
      rw [if_neg (fun e => by rw [e, ho] at z; cases z)]
      exact z) _ _ (DqAll.flat as us n qa)
    have A1 : At (wo p H) [] (wo p H) (start N (.non :: us)) (slotsOf N (.non :: as)) := at_start (ds := .non :: as) ⟨.non, us, rfl, rfl, q0⟩ (by rw [List.length_cons]; omega)
    have A2 := A1.ownW (i := 0) (c := .ins C ns ds) noOwn_dats wo_same (by unfold wo; rw [if_pos rfl]) ⟨dx, xs, ho, hl, q⟩ (by
      unfold slotsOf
      rw [List.length_append, List.length_map, List.length_cons]
      omega)
    refine ⟨t, PSs.nox ht, hp ns ds as ns' ds' r n (wo p H) p _ _ A2 fun σ' H' Γ' A3 h3 => ?_⟩
    obtain ⟨o, h1, e2, dx', ys, h4, h5, q5⟩ := A3.sl 0 _ h3
    exact k H' A3.same ⟨dx', ys, h4, h5, q5.weak fun a z e => z 0 _ (e ▸ h3)⟩
end
end K92
end
section
set_option maxHeartbeats 4000000
/-! Steps with the slots' values in sight. -/
namespace K92
open PySem PySem.Spec PyProof.Rows L2
section
variable {H : Hp} {σ : L2.St} {Δ : Vw} {D : Ends} {te : TE} {uu t : TS} {tc : TT} {d : Dat} {i : Nat}
theorem sv_put {x : V} (s : Sv H σ Δ) (q : Dq TP1 H d x) : Sv H (σ.set i (some x)) (Δ.set i (some d)) := ⟨by
  rw [List.length_set, List.length_set, s.len], fun j e h => by
  by_cases hj : i = j
  · subst hj
    by_cases hz : i < Δ.length
    · rw [List.getElem?_set_self hz] at h
      have e1 : d = e := Option.some.inj (Option.some.inj h)
      subst e1
      exact ⟨x, by rw [List.getElem?_set_self (by rw [s.len]; exact hz)], q⟩
    · rw [List.getElem?_eq_none (by simpa using hz)] at h; cases h
  · rw [List.getElem?_set_ne hj] at h
    obtain ⟨v, h1, h2⟩ := s.at_ j e h
    exact ⟨v, by rw [List.getElem?_set_ne hj]; exact h1, h2⟩⟩
theorem raw_drop (s : Sv H σ Δ) (h : Ev te Δ d) (k : ∀ H', Same H H' → uu D σ H') : tSeq (tDrop te) uu D σ H := h σ H s _ fun v H1 e q => k H1 e
theorem raw_skip (s : Sv H σ Δ) (h : EvT tc Δ false) (k : ∀ H', Same H H' → uu D σ H') : tSeq (tIfS tc t tNext) uu D σ H := h σ H s _ fun H1 e => k H1 e
theorem raw_asg (s : Sv H σ Δ) (h : Ev te Δ d) (k : ∀ v H', Same H H' → Sv H' (σ.set i (some v)) (Δ.set i (some d)) → uu D (σ.set i (some v)) H') : tSeq (tAsg te (gName i)) uu D σ H := h σ H s _ fun v H1 e q => k v H1 e (sv_put (s.same e) q.top)
theorem sv_nil : Sv H [] [] := ⟨rfl, fun _ _ h => by cases h⟩
theorem sv_cons {x : V} (q : Dq TP1 H d x) (s : Sv H σ Δ) : Sv H (some x :: σ) (some d :: Δ) := ⟨by rw [List.length_cons, List.length_cons, s.len], fun i e h => by
  cases i with
  | zero => cases h; exact ⟨x, rfl, q⟩
  | succ i => exact s.at_ i e h⟩
theorem sv_skip {x : Option V} (s : Sv H σ Δ) : Sv H (x :: σ) (none :: Δ) := ⟨by rw [List.length_cons, List.length_cons, s.len], fun i e h => by
  cases i with
  | zero => cases h
  | succ i => exact s.at_ i e h⟩
theorem cut_head {ds : List Dat} {i : Nat} (h : i ≤ ds.length) : cutD ds none (some (i : Int)) = ds.take i := by
  unfold cutD
  have e1 : HT.sIx ds.length 0 none = 0 := rfl
  have e2 : HT.sIx ds.length ds.length (some (i : Int)) = i := by
    rw [HT.sIx_nat]
    omega
  rw [e1, e2, List.drop_zero, Nat.sub_zero]
end
end K92
end
section
set_option maxHeartbeats 4000000
/-! A dict with tuple keys: setdefault; a walk with the heap in sight. -/
namespace K92
open PySem PySem.Spec PyProof.Rows L2
def tDSetT (td ty tx : TE) : TE := fun σ H Q => td σ H fun x H1 => ∃ a, x = .ref a ∧ IsD H1 a ∧ ty σ H1 fun y H2 => tx σ H2 fun z H3 => ∃ (kvs : List (List Key × V)) (k : List Key) (b : Addr), H3 a = some (.dT kvs) ∧ y = .ref b ∧ H3 b = some (.tup (k.map kV)) ∧ kvs.length < sizeLine ∧
  (∀ v, valV kvs k = some v → Q v H3) ∧ (valV kvs k = none → Q z (upd H3 a (.dT (putK kvs k z))))
theorem pe_dsetT {X : Cx} {o e f : Expr} {td ty tx : TE} {apos cpos : Pos} (hu : X.A.units + 64 < cLine) (ho : PE X o td) (he : PE X e ty) (hf : PE X f tx) (m : M2 X o "setdefault" apos e f cpos) : PE X (.Call (.Attribute o "setdefault" apos) [e, f] [] cpos) (tDSetT td ty tx) := by
  refine ⟨fun pins s σ H Q I h => ?_⟩
  refine wpAny_Call_method m.base m.few m.line PySem.F.plainAttrs_dict PySem.F.slot_dict_setdefault PySem.F.type_dict_setdefault (thn (ho.run pins s σ H _ I h) fun u s1 ⟨x, H1, I1, rx, a, ex, d, q1⟩ => ?_)
  subst ex
  obtain rfl : u = Value.ref a := rx
  obtain ⟨t1, t2, _⟩ := isD_at I1 d
  refine ⟨t1, t2, ?_⟩
  rw [m.trees]
  refine Calls.callWith_builtin rfl (Calls.evalArgs_plain (Calls.spliced_cons (thn (he.run pins s1 σ H1 _ I1 q1) fun iv s2 ⟨y, H2, I2, ry, q2⟩ =>
    Calls.spliced_cons (thn (hf.run pins s2 σ H2 _ I2 q2) fun fv s3 ⟨z, H3, I3, rz, kvs, k, b, ea, ey, eb, hl, q3, q4⟩ => Calls.spliced_nil ?_))))
  subst ey
  obtain rfl : iv = Value.ref b := ry
  obtain ⟨hz, hd, xs, rel, dd⟩ := dt_of I3.hok ea
  have hz2 : xs.length ≤ sizeLine := by rw [← Paired.length rel]; exact hz
  have hl2 : (putK kvs k z).length ≤ sizeLine := by have := length_putK kvs k z; omega
  refine call_setdefault_heap (hsz := hz2) (tupleKind_room_in1 (by omega)) (key_of I3.hok eb) hd dd (fun p hp => ?_) fun hn h' dd' hs => ?_
  · have q := rel.val k
    rw [hp] at q
    cases q0 : valV kvs k with
    | none => rw [q0] at q; exact (show False from q).elim
    | some v0 =>
      rw [q0] at q
      exact ⟨v0, _, I3.tok _, q, q3 v0 q0⟩
  · have q := rel.val k
    rw [hn] at q
    cases q0 : valV kvs k with
    | some v0 => rw [q0] at q; exact (show False from q).elim
    | none =>
      obtain ⟨ob, es, ep, hq, h2, h3, h4, _, h5⟩ := dd'
      refine ⟨z, _, d_write (ob := .dT (putK kvs k z)) (t' := s3.toks + (tupleKind (mixKind X.prog X.w)).draws k) I3 (by rw [ea]; exact True.intro) hs ⟨ob, hq⟩ ⟨hl2, hd, _, (rel.put k eb rz).keeps fun c ys ec => ?_, ob, es, ep, hq, h2, h3, h4, h5⟩, rz, q4 q0⟩
      rw [upd_ne (ne_of ec ea (fun z => nomatch z))]
      exact ec
/-- heaps that differ in dicts alone -/
def Sd (H H' : Hp) : Prop := ∀ a o, (∀ kvs, o ≠ .dT kvs) → H a = some o → H' a = some o
theorem Sd.of {H H' : Hp} (e : Same H H') : Sd H H' := fun a o _ h => e a o h
theorem Sd.trans {H H' H2 : Hp} (h : Sd H H') (k : Sd H' H2) : Sd H H2 := fun a o n q => k a o n (h a o n q)
theorem sd_put {H : Hp} {a : Addr} {kvs kvs' : List (List Key × V)} (h : H a = some (.dT kvs)) : Sd H (upd H a (.dT kvs')) := fun b o n q => by
  rw [upd_ne fun e => by rw [e, h] at q; exact n kvs (Option.some.inj q).symm]
  exact q
mutual
theorem Dq.sd {Pr : Addr → Prop} {H H' : Hp} (e : Sd H H') : ∀ (d : Dat) (v : V), Dq Pr H d v → Dq Pr H' d v
  | .non, v, h => h
  | .bl _, v, h => h
  | .int _, v, h => h
  | .str _, v, h => h
  | .lst ds, v, ⟨a, xs, ev, p, h, q⟩ => ⟨a, xs, ev, p, e _ _ (fun _ z => nomatch z) h, DqAll.sd e ds xs q⟩
  | .tup ds, v, ⟨a, xs, ev, h, q⟩ => ⟨a, xs, ev, e _ _ (fun _ z => nomatch z) h, DqAll.sd e ds xs q⟩
  | .ins C ns ds, v, ⟨a, xs, dx, ev, p, h, l, q⟩ => ⟨a, xs, dx, ev, p, e _ _ (fun _ z => nomatch z) h, l, DqAll.sd e ds xs q⟩
  | .sq K ns, v, ⟨a, ev, .inl ⟨o, p, h, s⟩⟩ => ⟨a, ev, .inl ⟨o, p, e _ _ (fun _ z => by rcases s with s | ⟨_, s⟩ <;> (rw [s] at z; cases z)) h, s⟩⟩
  | .sq K ns, v, ⟨a, ev, .inr h⟩ => ⟨a, ev, .inr h⟩
theorem DqAll.sd {Pr : Addr → Prop} {H H' : Hp} (e : Sd H H') : ∀ (ds : List Dat) (xs : List V), DqAll Pr H ds xs → DqAll Pr H' ds xs
  | [], xs, h => h
  | d :: ds, xs, ⟨x, r, ex, p, q⟩ => ⟨x, r, ex, Dq.sd e d x p, DqAll.sd e ds r q⟩
end
section
variable {H : Hp} {σ : L2.St} {Δ : Vw} {D : Ends} {te : TE} {uu t : TS} {tc : TT} {d : Dat} {i : Nat} {b : Bool}
theorem Sv.sd {H' : Hp} (e : Sd H H') (s : Sv H σ Δ) : Sv H' σ Δ := ⟨s.len, fun i d h => by
  obtain ⟨v, h1, h2⟩ := s.at_ i d h
  exact ⟨v, h1, h2.sd e d v⟩⟩
theorem Sv.no (s : Sv H σ Δ) : Sv H σ (Δ.set i none) := ⟨by rw [List.length_set]; exact s.len, fun j d h => by
  by_cases e : i = j
  · subst e
    by_cases hz : i < Δ.length
    · rw [List.getElem?_set_self hz] at h; cases h
    · rw [List.getElem?_eq_none (by simpa using hz)] at h; cases h
  · rw [List.getElem?_set_ne e] at h; exact s.at_ j d h⟩
theorem raw_if (s : Sv H σ Δ) (h : EvT tc Δ b) (h1 : b = true → ∀ H', Same H H' → t D σ H') (h2 : b = false → ∀ H', Same H H' → uu D σ H') : tIfS tc t uu D σ H := h σ H s _ fun H1 e => by
  cases b with
  | true => exact h1 rfl H1 e
  | false => exact h2 rfl H1 e
theorem raw_ret (s : Sv H σ Δ) (h : Ev te Δ d) (k : ∀ v H', Same H H' → Dq (Fr H) H' d v → D.rt v H') : tRet te D σ H := h σ H s _ fun v H1 e q => k v H1 e q
/-- a walk: what stands is told of the turn, the slots and the heap -/
theorem raw_for {wi : TI} {gt : TG} {tb : TS} {ds : List Dat} (Inv : Nat → L2.St → Hp → Prop) (s : Sv H σ Δ) (hs : Src wi Δ ds) (n : nlAll ds = true) (h0 : ∀ H', Same H H' → Inv 0 σ H') (ic : ∀ i σ' H' H'', Inv i σ' H' → Same H' H'' → Inv i σ' H'')
    (step : ∀ i d Hb σ' H' x, ds[i]? = some d → Inv i σ' H' → Sd Hb H' → Dq NP1 H' d x → gt x σ' H' fun σ2 H2 => tb { D with nx := fun σ3 H3 => Inv (i + 1) σ3 H3 ∧ Sd Hb H3, ct := fun σ3 H3 => Inv (i + 1) σ3 H3 ∧ Sd Hb H3, bk := uu D } σ2 H2)
    (done : ∀ σ' H', Inv ds.length σ' H' → uu D σ' H') : tSeq (tFor wi gt tb) uu D σ H := by
  refine hs σ H s _ fun J H1 g e hg dv => ?_
  refine ⟨fun i m σ' H' => m = ds.length - i ∧ i ≤ ds.length ∧ Inv i σ' H' ∧ ∀ p ∈ g, Dq TP1 H' p.2 p.1, ⟨_, rfl, Nat.zero_le _, h0 H1 e, hg⟩, ?_⟩
  rintro i m σ' H' ⟨rfl, hi, iv, hg'⟩
  obtain ⟨dst, dgo⟩ := dv i H' hg'
  by_cases hlt : i < ds.length
  · obtain ⟨go, yl⟩ := dgo ds[i] (List.getElem?_eq_getElem hlt)
    refine .inr ⟨go, fun σ3 H3 => Inv (i + 1) σ3 H3 ∧ Sd H' H3, fun σ3 H3 ⟨h1, h2⟩ => ⟨ds.length - (i + 1), by omega, rfl, hlt, h1, fun p hp => (hg' p hp).sd h2 _ _⟩, fun x H2 y => ?_⟩
    obtain ⟨s2, q2⟩ := yl x H2 y
    exact step i ds[i] H' σ' H2 x (List.getElem?_eq_getElem hlt) (ic _ _ _ _ iv s2) (Sd.of s2) (Dq.flat _ _ (nlAll_mem n _ (List.getElem_mem hlt)) q2)
  · have e : i = ds.length := by omega
    subst e
    exact .inl ⟨dst (Nat.le_refl _), done σ' H' iv⟩
end
end K92
end
section
set_option maxHeartbeats 4000000
/-! enumerate over a text. -/
namespace K92
open PySem PySem.Spec PyProof.Rows L2
def Itse (x : Str) : It :=
  ⟨fun i _ => i < x.cps.size, fun i H v H' => ∃ T c, v = .ref T ∧ H T = none ∧ H' = upd H T (.tup [.int (i : Nat), .str ⟨#[c]⟩]) ∧ x.cps[i]? = some c, fun i _ => x.cps.size ≤ i⟩
theorem turn_enumS {P : Program} {w : World} {K : PySem.W.Frag} {elts : List Expr} {kk : Nat} {tpos : Pos} (e it : Addr) (x : Str) (t : Tok) (ty : String) (hty : ty = "str_ascii_iterator" ∨ ty = "str_iterator") :
    Turn P w K (.Tuple elts kk tpos) (Itse x) [e, it] e (fun i h => (∃ old, IsEnum h e it ((i : Nat) : Int) old) ∧ h.IsStrIter it ty x t i ∧ e ≠ it ∧ i ≤ x.cps.size) where
  mem := by simp
  obj := fun i h st b hb => by
    obtain ⟨⟨old, he⟩, ⟨o, ho, hc, hd⟩, _⟩ := st
    have e' : b = e ∨ b = it := by simpa using hb
    rcases e' with z | z
    · rw [z]; exact ⟨_, he, fun v q => nomatch q⟩
    · rw [z]; exact ⟨o, ho, fun v q => by rw [hd] at q; cases q⟩
  keep := fun i h h' st k => let ⟨⟨old, he⟩, ⟨o, ho, r⟩, hne, hl⟩ := st; ⟨⟨old, k e (by simp) _ he⟩, ⟨o, k it (by simp) o ho, r⟩, hne, hl⟩
  item := by
    intro X hP hw hK hc i pins s σ H E I hf st hg
    subst hP hw hK
    obtain ⟨⟨old, he⟩, hit, hne, _⟩ := st
    have D : Draws X.prog X.w X.A.in1 it [it] x.cps.size (fun i v => ∃ c u, x.cps[i]? = some c ∧ v = .str ⟨#[c]⟩ u) (fun i h => h.IsStrIter it ty x t i) := by
      rcases hty with z | z
      · rw [z]; exact Draws.strAscii (A := X.A.in1) (show X.A.in1.handled = none from I.ok.hd hc) it x t
      · rw [z]; exact Draws.strWide (A := X.A.in1) (show X.A.in1.handled = none from I.ok.hd hc) it x t
    have hel : e < s.heap.objs.size := Heap.lt_size he
    have hil : it < s.heap.objs.size := by obtain ⟨_, q, _⟩ := hit; exact Heap.lt_size q
    refine wpAny_pyNext_enum_itemD D he hit hg hne (by simpa using hne) fun v h' tk hv ho hit' hT hsz hk => ?_
    obtain ⟨c, u, hcx, rfl⟩ := hv
    refine ⟨_, rfl, wpAny_letOwnedTupleGo_enum (s := { s with heap := h', toks := tk + 1 }) ho fun h'' he' sb => ?_⟩
    have hT2 : h''.get? s.heap.objs.size = some { cls := .type "tuple", data := .seq #[.int i tk, .str ⟨#[c]⟩ u] } := (sb.2 _ (Nat.ne_of_gt hel)).trans hT
    have new : ObjOk X.prog X.w (upd H s.heap.objs.size (.tup [.int (i : Nat), .str ⟨#[c]⟩])) h'' s.heap.objs.size (.tup [.int (i : Nat), .str ⟨#[c]⟩]) :=
      ⟨by show 2 ≤ sizeLine; decide, [.int i tk, .str ⟨#[c]⟩ u], .cons ⟨_, rfl⟩ (.cons ⟨_, rfl⟩ .nil), ⟨_, hT2, rfl, _, rfl⟩⟩
    have I1 : Inv X pins σ (upd H s.heap.objs.size (.tup [.int (i : Nat), .str ⟨#[c]⟩])) { s with heap := h'', toks := tk + 1 } :=
      I.turnedNew (ch := [e, it]) (fun b ob hb q => (sb.2 b (fun z => hb (by simp [z]))).trans (hk b ob (fun z => hb (by simp [z])) (fun z => hb (by simp [z])) q)) hf (Nat.le_refl _) new
    refine ⟨.ref s.heap.objs.size, _, I1, rfl, ⟨_, c, rfl, I.hok.fresh (Nat.le_refl _), rfl, hcx⟩, ⟨⟨.str ⟨#[c]⟩ u, ?_⟩, ?_, hne, hg⟩, fun b hb => ?_⟩
    · have e1 : ((i + 1 : Nat) : Int) = (i : Int) + 1 := by omega
      rw [e1]; exact he'
    · obtain ⟨o, ho2, r⟩ := hit'
      exact ⟨o, (sb.2 it (Ne.symm hne)).trans ho2, r⟩
    · have hb' : b < s.heap.objs.size := by
        have e' : b = e ∨ b = it := by simpa using hb
        rcases e' with z | z
        · rw [z]; exact hel
        · rw [z]; exact hil
      rw [upd_ne (Nat.ne_of_lt hb')]
      exact (hf b hb).1
  done := by
    intro X hP hw hK hc i pins s σ H E I hf st hg
    subst hP hw hK
    obtain ⟨⟨old, he⟩, hit, hne, hl⟩ := st
    have D : Draws X.prog X.w X.A.in1 it [it] x.cps.size (fun i v => ∃ c u, x.cps[i]? = some c ∧ v = .str ⟨#[c]⟩ u) (fun i h => h.IsStrIter it ty x t i) := by
      rcases hty with z | z
      · rw [z]; exact Draws.strAscii (A := X.A.in1) (show X.A.in1.handled = none from I.ok.hd hc) it x t
      · rw [z]; exact Draws.strWide (A := X.A.in1) (show X.A.in1.handled = none from I.ok.hd hc) it x t
    obtain ⟨f0, f1, f2, f3, f4, f5⟩ := hf it (by simp)
    have ei : i = x.cps.size := Nat.le_antisymm hl hg
    subst ei
    exact wpAny_pyNext_enum_endD D he hit fun h' eb => ⟨rfl, I.turned (t' := s.toks) (fun b o hb q => eb b o hb q) f0 f1 f3 f4 f5⟩
  self := fun A i s Q E st h => let ⟨⟨_, he⟩, _⟩ := st; wpAny_pyIter_enum he h
def iEnumS (ta : TA) : TI := fun σ H R => ta σ H fun vs H1 => ∃ x, vs = [.str x] ∧ R (Itse x) H1
theorem strIter_two (x : Str) : strIterType x = "str_ascii_iterator" ∨ strIterType x = "str_iterator" := by
  unfold strIterType
  split
  · exact .inl rfl
  · exact .inr rfl
theorem pi_enumS {X : Cx} {e : Expr} {ta : TA} {p pos tpos : Pos} {elts : List Expr} {kk : Nat} (hg : Gl X "enumerate") (hm : X.mg "enumerate" = none) (ha : PA X [e] ta) (hs : starEach [e] X.env = [(false, eval e X.env)] := by rfl) :
    PI X (.Tuple elts kk tpos) (.Call (.Name "enumerate" p) [e] [] pos) (iEnumS ta) := by
  refine ⟨fun pins s σ H R I h => ?_⟩
  refine Call_ (ld_blt I hg hm boot_enumerate (PyProof.Rows.callWith_type1 (thn (ha.run pos pins s σ H _ I h) fun us s1 ⟨vs, H1, I1, r1, q1⟩ => ?_) hs rfl))
  obtain ⟨x, ex, q⟩ := q1
  subst ex
  cases r1 with
  | cons r rr =>
    cases rr
    obtain ⟨t, rfl⟩ := r
    refine call_enumerate_str fun h' he hit hsz hk => wpAny_pyIter_enum he ?_
    have I2 : Inv X pins σ H1 { s1 with heap := h' } := I1.kept (t' := s1.toks) hk
    refine ⟨s1.heap.objs.size + 1, [s1.heap.objs.size + 1, s1.heap.objs.size], _, _, H1, rfl, I2, turn_enumS (s1.heap.objs.size + 1) s1.heap.objs.size x t _ (strIter_two x), ⟨⟨.none, he⟩, hit, Nat.succ_ne_self _, Nat.zero_le _⟩, fun b hb => ?_, q⟩
    have e' : b = s1.heap.objs.size + 1 ∨ b = s1.heap.objs.size := by simpa using hb
    have hle : s1.heap.objs.size ≤ b := by
      rcases e' with z | z
      · rw [z]; exact Nat.le_add_right _ _
      · rw [z]; exact Nat.le_refl _
    exact I1.fpOk hle (I1.hok.fresh hle)
/-! ### the layer -/
def enumSD (x : Str) : List Dat := x.cps.toList.zipIdx.map fun p => .tup [.int (p.2 : Nat), .str ⟨#[p.1]⟩]
theorem enumSD_len (x : Str) : (enumSD x).length = x.cps.size := by unfold enumSD; simp
theorem enumSD_nl (x : Str) : nlAll (enumSD x) = true := nlAll_of fun d h => by
  obtain ⟨p, _, e⟩ := List.mem_map.mp h
  rw [← e]; rfl
theorem enumSD_at {x : Str} {i : Nat} {d : Dat} (h : (enumSD x)[i]? = some d) : ∃ c, x.cps[i]? = some c ∧ d = .tup [.int (i : Nat), .str ⟨#[c]⟩] := by
  unfold enumSD at h
  rw [List.getElem?_map, List.getElem?_zipIdx] at h
  cases e : x.cps.toList[i]? with
  | none => rw [e] at h; cases h
  | some c =>
    rw [e] at h
    refine ⟨c, by simpa using e, ?_⟩
    have := Option.some.inj h
    rw [← this]
    simp
theorem drv_enumS {x : Str} : Drv (Itse x) [] (enumSD x) := fun i H _ => ⟨fun hz => by rw [enumSD_len] at hz; exact hz, fun d hd => by
  obtain ⟨c, hc, e⟩ := enumSD_at hd
  subst e
  refine ⟨(Array.getElem?_eq_some_iff.mp hc).1, fun v H' ⟨T, c', ev, hn, eh, hc'⟩ => ?_⟩
  subst ev eh
  have : c' = c := Option.some.inj (hc'.symm.trans hc)
  subst this
  exact ⟨same_new hn, T, _, rfl, upd_same, _, _, rfl, rfl, _, _, rfl, rfl, rfl⟩⟩
section
variable {Γ : List En} {ta : TA}
theorem argsS {Pr : Addr → Prop} {H : Hp} {x : Str} {vs : List V} (q : DqAll Pr H [.str x] vs) : vs = [.str x] := by
  obtain ⟨v, r, e, q1, e2⟩ := q
  obtain rfl : r = [] := e2
  rw [e, show v = V.str x from q1]
theorem sp_enumS {x : Str} (h : EvA ta (view Γ) [.str x]) : SrcP (iEnumS ta) Γ (enumSD x) := fun H0 gh σ H A R k => h σ H A.sv _ fun vs H1 e q => ⟨x, argsS q, k _ H1 [] e (fun p hp => by cases hp) drv_enumS⟩
theorem ev_inS {Δ : Vw} {tb te : TE} {c : Nat} {z : Str} (ha : EvW te Δ (.str ⟨#[c]⟩)) (hb : EvW tb Δ (.str z)) : Ev (tOp (fun x y H Q => ∃ (c : Nat) (z : Str), x = .str ⟨#[c]⟩ ∧ y = .str z ∧ Q (.bl (decide (c ∈ z.cps.toList))) H) te tb) Δ (.bl (decide (c ∈ z.cps.toList))) := ev_op ha hb fun H x y hx hy Q k => ⟨c, z, hx, hy, k _ H (Same.refl H) rfl⟩
end
/-! ### the script: a list that is read alone -/
section
variable {Δ : Vw} {K : PySem.W.Frag} {te ta tb : TE} {ns : List Int}
theorem seq_of {Pr : Addr → Prop} {H : Hp} {v : V} (q : Dq Pr H (.sq K ns) v) : ∃ a, v = .ref a ∧ SqL K H a (ns.map V.int) := by
  obtain ⟨a, e, q⟩ := q
  refine ⟨a, e, ?_⟩
  rcases q with ⟨o, _, h, s | ⟨ob, s⟩⟩ | q
  · rw [s] at h; exact .inl (.inl h)
  · rw [s] at h; exact .inl (.inr ⟨ob, h⟩)
  · exact .inr q
theorem dq_seq {H : Hp} {a : Addr} (h : SqL K H a (ns.map V.int)) : Dq TP1 H (.sq K ns) (.ref a) := by
  refine ⟨a, rfl, ?_⟩
  rcases h with (h | ⟨ob, h⟩) | h
  · exact .inl ⟨_, trivial, h, .inl rfl⟩
  · exact .inl ⟨_, trivial, h, .inr ⟨ob, rfl⟩⟩
  · exact .inr h
theorem dqs_ints {Pr : Addr → Prop} {H : Hp} : ∀ (ns : List Int), DqAll Pr H (ns.map Dat.int) (ns.map V.int)
  | [] => rfl
  | n :: ns => ⟨_, _, rfl, rfl, dqs_ints ns⟩
theorem ev_lenS (h : EvW te Δ (.sq K ns)) : Ev (tCB (fun xs H Q => ∃ p ys, xs = [V.ref p] ∧ (SqL K H p ys ∨ SqT K H p ys) ∧ Q (.int ys.length) H) (tCons te tNil)) Δ (.int ns.length) := ev_cb (ds := [.sq K ns]) (ea_cons h ea_nil) fun H xs ⟨x, r, ex, q, er⟩ Q k => by
  obtain rfl : r = [] := er
  obtain ⟨a, e, s⟩ := seq_of q
  subst e
  refine ⟨a, _, ex, .inl s, ?_⟩
  rw [List.length_map]
  exact k _ H (Same.refl H) rfl
theorem ev_ixS {i : Int} {n : Int} (ha : EvW ta Δ (.sq K ns)) (hb : EvW tb Δ (.int i)) (h : atI ns i = some n) : Ev (tOp (rIxL K) ta tb) Δ (.int n) := ev_op ha hb fun H x y hx hy Q k => by
  obtain ⟨a, e, s⟩ := seq_of hx
  obtain rfl : y = V.int i := hy
  refine ⟨a, _, i, .int n, e, rfl, s, ?_, k _ H (Same.refl H) rfl⟩
  unfold atI at h ⊢
  rw [List.length_map]
  cases e : ixN ns.length i with
  | none => rw [e] at h; cases h
  | some j =>
    rw [e] at h
    show (ns.map V.int)[j]? = _
    rw [List.getElem?_map, show ns[j]? = some n from h]
    rfl
theorem ev_slS {tl th : TO} {lo hi : Option Int} (h : EvW te Δ (.sq K ns)) (h1 : EvO tl Δ lo) (h2 : EvO th Δ hi) : Ev (tSl (rSlL K) te tl th) Δ (.lst (cutD (ns.map Dat.int) lo hi)) := fun σ H s Q k =>
  h σ H s _ fun x H1 e1 hx => by
    obtain ⟨a, e, sq⟩ := seq_of hx
    subst e
    refine h1 σ H1 (s.same e1) _ fun H2 e2 => h2 σ H2 (s.same (e1.trans e2)) _ fun H3 e3 => ?_
    exact ⟨a, _, rfl, (e2.trans e3).seq sq, fun p hp => k _ _ (((e1.trans e2).trans e3).trans (same_new hp)) ⟨p, _, rfl, ((e1.trans e2).trans e3).free hp, upd_same, cutD_all (dqs_ints ns)⟩⟩
end
end K92
end
local macro_rules | `(tactic| walk_at "ev1") => `(tactic| first
  | rfl
  | assumption
  | exact K92.ev_int | exact K92.ev_str | exact K92.ev_bl | exact K92.ev_non
  | (apply K92.ew_var; rfl)
  | (apply K92.ev_var <;> rfl)
  | apply K92.ev_I0 | apply K92.ev_B0 | apply K92.ev_I
  | apply K92.ev_eqI | apply K92.ev_neI
  | apply K92.ev_eqS
  | apply K92.ev_ixT
  | apply K92.ev_ixL
  | apply K92.et_or | apply K92.et_and
  | apply K92.ev_andV | apply K92.ev_orV | apply K92.ev_notV
  | apply K92.ew_fld
  | apply K92.ev_isi | apply K92.ev_chain
  | apply K92.ev_len | apply K92.ev_tailT | apply K92.ev_tailL
  | apply K92.et_test | apply K92.et_B | apply K92.et_not
  | apply K92.ea_cons | exact K92.ea_nil
  | apply K92.es_cons | exact K92.es_nil
  | apply K92.ev_tup | apply K92.ev_lst | apply K92.ev_fld
  | (show List.length _ ≤ 1000; exact Nat.le_of_ble_eq_true rfl)
  | apply K92.ev_bits
  | apply K92.ev_call
  | apply K92.Ev.w
  | refine fun (_ : _ = _) => ?_)
local macro_rules | `(tactic| walk_at "ev") => `(tactic| repeat' (walk_at "ev1"))
section
set_option maxHeartbeats 4000000

namespace K92
open PySem PySem.Spec PyProof.Rows L2
section
variable {P : Program} {w : World} {K : PySem.W.Frag} {mg : Str → Option Value} {base : Heap}
/-! ### ones -/
def R_ones (ds : List Dat) (d : Dat) : Prop := ∃ n : Nat, n < 2 ^ 64 ∧ ds = [.int n] ∧ d = .int (pop n)
theorem sc_ones : FnScope ["number", "found"] ["number"] (defScope s_ones) := ⟨rfl, rfl, rfl, by decide +kernel, rfl, by decide +kernel, by decide +kernel⟩
theorem c_ones (T : Wd K mg) : Cal P w K mg base "ones" 1 ["number"] (spF R_ones) := by
  obtain ⟨fd, F⟩ := F_ones T
  refine ⟨_, fd, G_ones T, fn_pure F sc_ones (fun ds d ⟨n, _, e, _⟩ => by rw [e]; rfl) (by decide) (fun cdv A outer s H hr => ⟨_, (pss_cons (ps_set (i := 1) sc_ones.nd rfl (Or.inl rfl) pe_int)
      (pss_cons (ps_while PassesOwn.never (pt_cmpR op_gt (pv 0) pe_int (nomark _))
        (pss_cons (ps_aug (i := 0) sc_ones.nd rfl (Or.inl rfl) (pe_op op_sub (pv 0) pe_int) (pip_of iop_and))
      (pss_one (ps_aug (i := 1) sc_ones.nd rfl (Or.inl rfl) pe_int (pip_of iop_add)))))
      (pss_one (ps_ret (pv 1))))), ?_⟩), F.kp, F.bindsN (fun _ _ _ _ _ _ us hl => match us, hl with | [_], _ => rfl)⟩
  rintro ds d ⟨n, hn, rfl, rfl⟩ D σ A kr kn
  have A : At H [] H σ [.dat (.int n), .no] := A
  refine (q_asg A (Ev.p (by walk_at "ev")) fun σ H1 A => ?_)
  refine (q_while (fun m Γ => m < 2 ^ 64 ∧ Γ = [.dat (.int m), .dat (.int (pop n - pop m))]) A n ⟨hn, by rw [Int.sub_self]; rfl⟩ ?_)
  rintro m Γ ⟨hm, rfl⟩
  refine ⟨_, by walk_at "ev", fun hb σ H A => ?_, fun hb σ H A => ?_⟩
  · have h0 : 0 < m := by have := of_decide_eq_true hb; omega
    obtain ⟨k1, k2⟩ := pop_kern m h0 hm
    have e1 : (m : Int) - 1 = ((m - 1 : Nat) : Int) := by omega
    refine (q_aug A rfl (d2 := .int ((m - 1 : Nat) : Int)) (Ev.w (Ev.is (by walk_at "ev") (by rw [← e1]))) (d := .int ((m &&& (m - 1) : Nat) : Int)) (rd_I0 fun H => congrArg V.int (nb_and _ _)) fun σ H A => ?_)
    refine st_aug A rfl (d2 := .int 1) (by walk_at "ev") (d := .int (pop n - pop (m &&& (m - 1)))) (rd_I0 fun H => congrArg V.int ?_) fun σ H A => ?_
    · rw [k1]; omega
    exact ⟨_, _, k2, ⟨Nat.lt_trans k2 hm, rfl⟩, A⟩
  · have h0 : m = 0 := by have := of_decide_eq_false hb; omega
    subst h0
    refine st_ret A (by walk_at "ev") fun v H' e q => kr v H' e ?_
    rw [pop_zero, Int.sub_zero] at q
    exact q
/-! ### bits at a place, rows beside one another, products -/
def R_bit_at (ds : List Dat) (d : Dat) : Prop := ∃ n k : Nat, ds = [.int n, .int k] ∧ d = .int (b2i (n.testBit k))
theorem sc_bit_at : FnScope ["number", "k"] ["number", "k"] (defScope s_bit_at) := ⟨rfl, rfl, rfl, by decide +kernel, rfl, by decide +kernel, by decide +kernel⟩
theorem c_bit_at (T : Wd K mg) : Cal P w K mg base "bit_at" 1 ["number", "k"] (spF R_bit_at) := by
  obtain ⟨fd, F⟩ := F_bit_at T
  refine ⟨_, fd, G_bit_at T, fn_pure F sc_bit_at (fun ds d ⟨n, k, e, _⟩ => by rw [e]; rfl) (by decide) (fun cdv A outer s H hr => ⟨_, (pss_one (ps_ret (pe_op op_and (pe_op op_shr (pv 0) (pv 1)) pe_int))), ?_⟩), F.kp, F.bindsN (fun _ _ _ _ _ _ us hl => match us, hl with | [_, _], _ => rfl)⟩
  rintro ds d ⟨n, k, rfl, rfl⟩ D σ A kr kn
  have A : At H [] H σ [.dat (.int n), .dat (.int k)] := A
  refine st_ret A (Ev.is (by walk_at "ev"; exact Int.natCast_nonneg k) (by rw [nb_bit])) kr
def R_beside (ds : List Dat) (d : Dat) : Prop := ∃ a b : Row, a.wf 9 ∧ b.wf 9 ∧ ds = [rowD a, rowD b] ∧ d = .bl (!ac a b)
theorem sc_goes_beside : FnScope ["one", "other"] ["one", "other"] (defScope s_goes_beside) := ⟨rfl, rfl, rfl, by decide +kernel, rfl, by decide +kernel, by decide +kernel⟩
theorem c_goes_beside (T : Wd K mg) : Cal P w K mg base "goes_beside" 2 ["one", "other"] (spF R_beside) := by
  obtain ⟨fd, F⟩ := F_goes_beside T
  have C_ones := c_ones (P := P) (w := w) (base := base) T
  refine ⟨_, fd, G_goes_beside T, fn_pure F sc_goes_beside (fun ds d ⟨a, b, _, _, e, _⟩ => by rw [e]; rfl) (by decide) (fun cdv A outer s H hr => ⟨_, (pss_one (ps_ret (pe_cmpR op_eq (pe_op op_mod (pe_op op_add (pe_f C_ones (hr.mono (by decide)) rfl (pa_cons (pe_op op_and (pe_ix ix_tup (pv 0) pe_int (fun _ _ => rfl)) (pe_ix ix_tup (pv 1) pe_int (fun _ _ => rfl))) pa_nil)) (pe_f C_ones (hr.mono (by decide)) rfl (pa_cons (pe_op op_and (pe_ix ix_tup (pv 0) pe_int (fun _ _ => rfl)) (pe_ix ix_tup (pv 1) pe_int (fun _ _ => rfl))) pa_nil))) pe_int) pe_int (nomark _)))), ?_⟩), F.kp, F.bindsN (fun _ _ _ _ _ _ us hl => match us, hl with | [_, _], _ => rfl)⟩
  rintro ds d ⟨a, b, ha, hb, rfl, rfl⟩ D σ A kr kn
  have A : At H [] H σ [.dat (rowD a), .dat (rowD b)] := A
  rw [← beside_pop] at kr
  refine st_ret A (by
    walk_at "ev"
    · exact ⟨a.x &&& b.z, and_lt64 (lt9 ha.x), by rw [nb_and], rfl⟩
    · exact ⟨a.z &&& b.x, and_lt64 (lt9 ha.z), by rw [nb_and], rfl⟩
    · decide) kr
def R_times (ds : List Dat) (d : Dat) : Prop := ∃ a b : Row, a.wf 9 ∧ b.wf 9 ∧ ac a b = false ∧ ds = [rowD a, rowD b] ∧ d = rowD (mul a b)
theorem sc_times : FnScope ["one", "other", "xs", "zs", "quarters", "minus"] ["one", "other"] (defScope s_times) := ⟨rfl, rfl, rfl, by decide +kernel, rfl, by decide +kernel, by decide +kernel⟩
theorem c_times (T : Wd K mg) : Cal P w K mg base "times" 3 ["one", "other"] (spF R_times) := by
  obtain ⟨fd, F⟩ := F_times T
  have C_ones := c_ones (P := P) (w := w) (base := base) T
  have C_goes_beside := c_goes_beside (P := P) (w := w) (base := base) T
  refine ⟨_, fd, G_times T, fn_pure F sc_times (fun ds d ⟨a, b, _, _, _, e, _⟩ => by rw [e]; rfl) (by decide) (fun cdv A outer s H hr => ⟨_, (pss_cons (ps_if (pt_not (pt_val (pe_f C_goes_beside (hr.mono (by decide)) rfl (pa_cons (pv 0) (pa_cons (pv 1) pa_nil))))) (pss_one ps_never) pss_nil)
      (pss_cons (ps_set (i := 2) sc_times.nd rfl (Or.inl rfl) (pe_op op_xor (pe_ix ix_tup (pv 0) pe_int (fun _ _ => rfl)) (pe_ix ix_tup (pv 1) pe_int (fun _ _ => rfl))))
      (pss_cons (ps_set (i := 3) sc_times.nd rfl (Or.inl rfl) (pe_op op_xor (pe_ix ix_tup (pv 0) pe_int (fun _ _ => rfl)) (pe_ix ix_tup (pv 1) pe_int (fun _ _ => rfl))))
      (pss_cons (ps_set (i := 4) sc_times.nd rfl (Or.inl rfl) (pe_op op_sub (pe_op op_add (pe_f C_ones (hr.mono (by decide)) rfl (pa_cons (pe_op op_and (pe_ix ix_tup (pv 0) pe_int (fun _ _ => rfl)) (pe_ix ix_tup (pv 0) pe_int (fun _ _ => rfl))) pa_nil)) (pe_f C_ones (hr.mono (by decide)) rfl (pa_cons (pe_op op_and (pe_ix ix_tup (pv 1) pe_int (fun _ _ => rfl)) (pe_ix ix_tup (pv 1) pe_int (fun _ _ => rfl))) pa_nil))) (pe_f C_ones (hr.mono (by decide)) rfl (pa_cons (pe_op op_and (pv 2) (pv 3)) pa_nil))))
      (pss_cons (ps_aug (i := 4) sc_times.nd rfl (Or.inl rfl) (pe_op op_mul pe_int (pe_f C_ones (hr.mono (by decide)) rfl (pa_cons (pe_op op_and (pe_ix ix_tup (pv 0) pe_int (fun _ _ => rfl)) (pe_ix ix_tup (pv 1) pe_int (fun _ _ => rfl))) pa_nil))) (pip_of iop_add))
      (pss_cons (ps_set (i := 5) sc_times.nd rfl (Or.inl rfl) (pe_op op_xor (pe_ix ix_tup (pv 0) pe_int (fun _ _ => rfl)) (pe_ix ix_tup (pv 1) pe_int (fun _ _ => rfl))))
      (Evl.pss_cut (ps_if (pt_cmpR op_eq (pe_op op_mod (pv 4) pe_int) pe_int (nomark _)) (pss_one (ps_aug (i := 5) sc_times.nd rfl (Or.inl rfl) pe_int (pip_of iop_xor))) pss_nil)
      (pss_one (ps_ret (pe_tup (pa_cons (pv 5) (pa_cons (pv 2) (pa_cons (pv 3) pa_nil))))))))))))), ?_⟩), F.kp, F.bindsN (fun _ _ _ _ _ _ us hl => match us, hl with | [_, _], _ => rfl)⟩
  rintro ds d ⟨a, b, ha, hb, hc, rfl, rfl⟩ D σ A kr kn
  have A : At H [] H σ [.dat (rowD a), .dat (rowD b), .no, .no, .no, .no] := A
  refine (q_skip A (EvT.is (b := !true) (by
    walk_at "ev"
    exact ⟨a, b, ha, hb, rfl, by rw [hc]; rfl⟩) rfl) fun H1 A => ?_)
  refine (q_asg A (d := .int ((a.x ^^^ b.x : Nat) : Int)) (Ev.p (Ev.is (by walk_at "ev") (by rw [nb_xor]))) fun σ H1 A => ?_)
  refine (q_asg A (d := .int ((a.z ^^^ b.z : Nat) : Int)) (Ev.p (Ev.is (by walk_at "ev") (by rw [nb_xor]))) fun σ H1 A => ?_)
  refine (q_asg A (d := .int (pop (a.x &&& a.z) + pop (b.x &&& b.z) - pop ((a.x ^^^ b.x) &&& (a.z ^^^ b.z)))) (Ev.p (by
    walk_at "ev"
    · exact ⟨a.x &&& a.z, and_lt64 (lt9 ha.x), by rw [nb_and], rfl⟩
    · exact ⟨b.x &&& b.z, and_lt64 (lt9 hb.x), by rw [nb_and], rfl⟩
    · exact ⟨(a.x ^^^ b.x) &&& (a.z ^^^ b.z), and_lt64 (lt9 (Nat.xor_lt_two_pow ha.x hb.x)), by rw [nb_and], rfl⟩)) fun σ H1 A => ?_)
  refine (q_aug A rfl (d2 := .int (2 * pop (a.z &&& b.x))) (Ev.w (by
    walk_at "ev"
    · exact ⟨a.z &&& b.x, and_lt64 (lt9 ha.z), by rw [nb_and], rfl⟩
    · exact .inl ⟨by decide, by decide⟩)) (d := .int (qd a b)) (rd_I0 fun H => rfl) fun σ H1 A => ?_)
  refine (q_asg A (d := .int (b2i (a.m ^^ b.m))) (Ev.p (Ev.is (by walk_at "ev") (by rw [nb_bxor]))) fun σ H1 A => ?_)
  refine st_cut (Γ' := [.dat (rowD a), .dat (rowD b), .dat (.int ((a.x ^^^ b.x : Nat) : Int)), .dat (.int ((a.z ^^^ b.z : Nat) : Int)), .dat (.int (qd a b)), .dat (.int (b2i ((a.m ^^ b.m) ^^ two (qd a b))))]) A
    (st_if A (b := two (qd a b)) (by walk_at "ev"; decide) (fun e H1 A => ?_) (fun e H1 A => ?_)) fun σ H1 A => ?_
  · refine st_aug A rfl (d2 := .int 1) (by walk_at "ev") (d := .int (b2i ((a.m ^^ b.m) ^^ two (qd a b)))) (rd_I0 fun H => congrArg V.int ?_) fun σ H1 A => A
    rw [e]
    exact nb_bxor _ true
  · refine st_next ?_
    rw [e, Bool.xor_false]
    exact A
  · exact st_ret A (by walk_at "ev") kr

end
end K92
end
section
set_option maxHeartbeats 4000000

namespace K92
open PySem PySem.Spec PyProof.Rows L2
section
variable {P : Program} {w : World} {K : PySem.W.Frag} {mg : Str → Option Value} {base : Heap}
def R_ln (ds : List Dat) (d : Dat) : Prop := ∃ (r : Row) (n : Nat), r.wf 9 ∧ n ≤ 9 ∧ ds = [rowD r, .int n] ∧ d = .int ((r.x ||| r.z <<< n : Nat) : Int)
theorem sc_letter_number : FnScope ["row", "n"] ["row", "n"] (defScope s_letter_number) := ⟨rfl, rfl, rfl, by decide +kernel, rfl, by decide +kernel, by decide +kernel⟩
theorem cpow_of {a k : Nat} (h : a < 2 ^ 9) (hk : k ≤ 1000) : CPow (a : Int) (k : Int) := ⟨Int.natCast_nonneg k, by omega, by
  rw [Int.natAbs_natCast]
  exact lt9 h⟩
theorem c_letter_number (T : Wd K mg) : Cal P w K mg base "letter_number" 1 ["row", "n"] (spF R_ln) := by
  obtain ⟨fd, F⟩ := F_letter_number T
  refine ⟨_, fd, G_letter_number T, fn_pure F sc_letter_number (fun ds d ⟨r, n, _, _, e, _⟩ => by rw [e]; rfl) (by decide) (fun cdv A outer s H hr => ⟨_, (pss_one (ps_ret (pe_op op_or (pe_ix ix_tup (pv 0) pe_int (fun _ _ => rfl)) (pe_op op_shl (pe_ix ix_tup (pv 0) pe_int (fun _ _ => rfl)) (pv 1))))), ?_⟩), F.kp, F.bindsN (fun _ _ _ _ _ _ us hl => match us, hl with | [_, _], _ => rfl)⟩
  rintro ds d ⟨r, n, hr, hn, rfl, rfl⟩ D σ A kr kn
  have A : At H [] H σ [.dat (rowD r), .dat (.int n)] := A
  refine st_ret A (Ev.is (by walk_at "ev"; exact cpow_of hr.z (by omega)) (by rw [nb_shl, nb_or])) kr
def R_mn (ds : List Dat) (d : Dat) : Prop := ∃ (r : Row) (n : Nat), r.wf 9 ∧ n ≤ 9 ∧ ds = [rowD r, .int n] ∧ d = .int ((r.z ||| r.x <<< n : Nat) : Int)
theorem sc_mirror_number : FnScope ["row", "n"] ["row", "n"] (defScope s_mirror_number) := ⟨rfl, rfl, rfl, by decide +kernel, rfl, by decide +kernel, by decide +kernel⟩
theorem c_mirror_number (T : Wd K mg) : Cal P w K mg base "mirror_number" 1 ["row", "n"] (spF R_mn) := by
  obtain ⟨fd, F⟩ := F_mirror_number T
  refine ⟨_, fd, G_mirror_number T, fn_pure F sc_mirror_number (fun ds d ⟨r, n, _, _, e, _⟩ => by rw [e]; rfl) (by decide) (fun cdv A outer s H hr => ⟨_, (pss_one (ps_ret (pe_op op_or (pe_ix ix_tup (pv 0) pe_int (fun _ _ => rfl)) (pe_op op_shl (pe_ix ix_tup (pv 0) pe_int (fun _ _ => rfl)) (pv 1))))), ?_⟩), F.kp, F.bindsN (fun _ _ _ _ _ _ us hl => match us, hl with | [_, _], _ => rfl)⟩
  rintro ds d ⟨r, n, hr, hn, rfl, rfl⟩ D σ A kr kn
  have A : At H [] H σ [.dat (rowD r), .dat (.int n)] := A
  refine st_ret A (Ev.is (by walk_at "ev"; exact cpow_of hr.x (by omega)) (by rw [nb_shl, nb_or])) kr
def cols (r : Row) : Nat := r.x ||| r.z <<< 64
def R_columns (ds : List Dat) (d : Dat) : Prop := ∃ r : Row, r.wf 9 ∧ ds = [rowD r] ∧ d = .int (cols r : Nat)
theorem sc_columns : FnScope ["row"] ["row"] (defScope s_columns) := ⟨rfl, rfl, rfl, by decide +kernel, rfl, by decide +kernel, by decide +kernel⟩
theorem c_columns (T : Wd K mg) : Cal P w K mg base "columns" 1 ["row"] (spF R_columns) := by
  obtain ⟨fd, F⟩ := F_columns T
  refine ⟨_, fd, G_columns T, fn_pure F sc_columns (fun ds d ⟨r, _, e, _⟩ => by rw [e]; rfl) (by decide) (fun cdv A outer s H hr => ⟨_, (pss_one (ps_ret (pe_op op_or (pe_ix ix_tup (pv 0) pe_int (fun _ _ => rfl)) (pe_op op_shl (pe_ix ix_tup (pv 0) pe_int (fun _ _ => rfl)) (pe_glob (v := .int 64) rfl (T_ABOVE T).choose_spec ⟨_, rfl⟩))))), ?_⟩), F.kp, F.bindsN (fun _ _ _ _ _ _ us hl => match us, hl with | [_], _ => rfl)⟩
  rintro ds d ⟨r, hr, rfl, rfl⟩ D σ A kr kn
  have A : At H [] H σ [.dat (rowD r)] := A
  refine st_ret A (Ev.is (by walk_at "ev"; exact cpow_of (k := 64) hr.z (by omega)) ?_) kr
  rw [show ((64 : Int)) = ((64 : Nat) : Int) from rfl, nb_shl, nb_or]
  rfl
def R_is_whole (ds : List Dat) (d : Dat) : Prop := ∃ i : Int, ds = [.int i] ∧ d = .bl true
theorem sc_is_whole : FnScope ["thing"] ["thing"] (defScope s_is_whole) := ⟨rfl, rfl, rfl, by decide +kernel, rfl, by decide +kernel, by decide +kernel⟩
theorem c_is_whole (T : Wd K mg) : Cal P w K mg base "is_whole" 1 ["thing"] (spF R_is_whole) := by
  obtain ⟨fd, F⟩ := F_is_whole T
  refine ⟨_, fd, G_is_whole T, fn_pure F sc_is_whole (fun ds d ⟨r, e, _⟩ => by rw [e]; rfl) (by decide) (fun cdv A outer s H hr => ⟨_, (pss_one (ps_ret (pe_and (pe_callB call_isi rfl (T_isinstance T) (by decide +kernel) (pa_cons (pv 0) (pa_cons (pe_bltn (v := .ty "int") rfl (T_int T) (by decide +kernel) rfl) pa_nil))) (pe_one (pe_not (pe_callB call_isi rfl (T_isinstance T) (by decide +kernel) (pa_cons (pv 0) (pa_cons (pe_bltn (v := .ty "bool") rfl (T_bool T) (by decide +kernel) rfl) pa_nil)))))))), ?_⟩), F.kp, F.bindsN (fun _ _ _ _ _ _ us hl => match us, hl with | [_], _ => rfl)⟩
  rintro ds d ⟨i, rfl, rfl⟩ D σ A kr kn
  have A : At H [] H σ [.dat (.int i)] := A
  refine st_ret A (Ev.is (d := .bl (true && (!false))) (by
    walk_at "ev"
    all_goals decide +kernel) rfl) kr
def R_whole_below (ds : List Dat) (d : Dat) : Prop := ∃ i b : Int, ds = [.int i, .int b] ∧ d = .bl (decide (0 ≤ i) && decide (i < b))
theorem sc_whole_below : FnScope ["thing", "bound"] ["thing", "bound"] (defScope s_whole_below) := ⟨rfl, rfl, rfl, by decide +kernel, rfl, by decide +kernel, by decide +kernel⟩
theorem c_whole_below (T : Wd K mg) : Cal P w K mg base "whole_below" 1 ["thing", "bound"] (spF R_whole_below) := by
  obtain ⟨fd, F⟩ := F_whole_below T
  refine ⟨_, fd, G_whole_below T, fn_pure F sc_whole_below (fun ds d ⟨r, b, e, _⟩ => by rw [e]; rfl) (by decide) (fun cdv A outer s H hr => ⟨_, (pss_one (ps_ret (pe_and (pe_callB call_isi rfl (T_isinstance T) (by decide +kernel) (pa_cons (pv 0) (pa_cons (pe_bltn (v := .ty "int") rfl (T_int T) (by decide +kernel) rfl) pa_nil))) (pe_and (pe_not (pe_callB call_isi rfl (T_isinstance T) (by decide +kernel) (pa_cons (pv 0) (pa_cons (pe_bltn (v := .ty "bool") rfl (T_bool T) (by decide +kernel) rfl) pa_nil)))) (pe_one (pe_chain op_le op_lt pe_int (pv 0) (pv 1))))))), ?_⟩), F.kp, F.bindsN (fun _ _ _ _ _ _ us hl => match us, hl with | [_, _], _ => rfl)⟩
  rintro ds d ⟨i, b, rfl, rfl⟩ D σ A kr kn
  have A : At H [] H σ [.dat (.int i), .dat (.int b)] := A
  refine st_ret A (Ev.is (d := .bl (true && ((!false) && (decide (0 ≤ i) && decide (i < b))))) (by
    walk_at "ev"
    all_goals first | decide +kernel | skip) rfl) kr
def R_checked_row (ds : List Dat) (d : Dat) : Prop := ∃ (r : Row) (n : Nat), r.wf n ∧ n ≤ 9 ∧ ds = [rowD r, .int n] ∧ d = rowD r
theorem sc_checked_row : FnScope ["thing", "n"] ["thing", "n"] (defScope s_checked_row) := ⟨rfl, rfl, rfl, by decide +kernel, rfl, by decide +kernel, by decide +kernel⟩
theorem b2i_01 (b : Bool) : (decide (0 ≤ b2i b) && decide (b2i b < 2)) = true := by cases b <;> rfl
theorem nat_below {a n : Nat} (h : a < 2 ^ n) : (decide ((0 : Int) ≤ (a : Int)) && decide ((a : Int) < 1 * 2 ^ ((n : Int)).toNat)) = true := by
  rw [nb_oneshl, decide_eq_true (Int.natCast_nonneg a), decide_eq_true (by omega)]
  rfl
theorem c_checked_row (T : Wd K mg) : Cal P w K mg base "checked_row" 2 ["thing", "n"] (spF R_checked_row) := by
  obtain ⟨fd, F⟩ := F_checked_row T
  have C_whole_below := c_whole_below (P := P) (w := w) (base := base) T
  refine ⟨_, fd, G_checked_row T, fn_pure F sc_checked_row (fun ds d ⟨r, n, _, _, e, _⟩ => by rw [e]; rfl) (by decide) (fun cdv A outer s H hr => ⟨_, (pss_cons (ps_if (PW.pt (pw_or (pt_not (pt_val (pe_callB call_isi rfl (T_isinstance T) (by decide +kernel) (pa_cons (pv 0) (pa_cons (pe_bltn (v := .ty "tuple") rfl (T_tuple T) (by decide +kernel) rfl) pa_nil))))) (pw_or (pt_cmpR op_ne (pe_callB call_len_seq rfl (T_len T) PySem.boot_len (pa_cons (pv 0) pa_nil)) pe_int (nomark _)) (pw_or1 (pt_not (pt_val (pe_f C_whole_below (hr.mono (by decide)) rfl (pa_cons (pe_ix ix_tup (pv 0) pe_int (fun _ _ => rfl)) (pa_cons pe_int pa_nil))))))))) (pss_one ps_never) pss_nil)
      (pss_cons (ps_if (PW.pt (pw_or (pt_not (pt_val (pe_f C_whole_below (hr.mono (by decide)) rfl (pa_cons (pe_ix ix_tup (pv 0) pe_int (fun _ _ => rfl)) (pa_cons (pe_op op_shl pe_int (pv 1)) pa_nil))))) (pw_or1 (pt_not (pt_val (pe_f C_whole_below (hr.mono (by decide)) rfl (pa_cons (pe_ix ix_tup (pv 0) pe_int (fun _ _ => rfl)) (pa_cons (pe_op op_shl pe_int (pv 1)) pa_nil)))))))) (pss_one ps_never) pss_nil)
      (pss_one (ps_ret (pv 0))))), ?_⟩), F.kp, F.bindsN (fun _ _ _ _ _ _ us hl => match us, hl with | [_, _], _ => rfl)⟩
  rintro ds d ⟨r, n, hw, hn, rfl, rfl⟩ D σ A kr kn
  have A : At H [] H σ [.dat (rowD r), .dat (.int n)] := A
  have cp : CPow 1 (n : Int) := ⟨Int.natCast_nonneg n, by omega, by decide⟩
  refine q_skip A (EvT.is (b := (!true || ((!decide ((3 : Int) = 3)) || !true))) (by
    walk_at "ev"
    · exact ⟨_, _, rfl, by rw [b2i_01]⟩) (by decide)) fun H1 A => ?_
  refine q_skip A (EvT.is (b := (!true || !true)) (by
    walk_at "ev"
    · exact ⟨_, _, rfl, by rw [nat_below hw.x]⟩
    · exact ⟨_, _, rfl, by rw [nat_below hw.z]⟩) rfl) fun H1 A => ?_
  exact st_ret A (by walk_at "ev") kr

end
end K92
end
section
set_option maxHeartbeats 4000000

namespace K92
open PySem PySem.Spec PyProof.Rows L2
section
variable {P : Program} {w : World} {K : PySem.W.Frag} {mg : Str → Option Value} {base : Heap}
/-! ### deeds -/
def w1 (s : Str) : Prop := s = "over" ∨ s = "quarter" ∨ s = "back" ∨ s = "both"
def w2 (s : Str) : Prop := s = "where" ∨ s = "swap"
def R_ww (ds : List Dat) (d : Dat) : Prop := ∃ s : Str, ds = [.str s] ∧ ((w1 s ∧ d = .int 1) ∨ (w2 s ∧ d = .int 2))
theorem sc_wires_wanted : FnScope ["word"] ["word"] (defScope s_wires_wanted) := ⟨rfl, rfl, rfl, by decide +kernel, rfl, by decide +kernel, by decide +kernel⟩
theorem inV_1 {s : Str} (h : w1 s) : inV (V.str s) [V.str "over", V.str "quarter", V.str "back", V.str "both"] = true := by
  rcases h with rfl | rfl | rfl | rfl <;> decide +kernel
theorem inV_2 {s : Str} (h : w2 s) : inV (V.str s) [V.str "over", V.str "quarter", V.str "back", V.str "both"] = false := by
  rcases h with rfl | rfl <;> decide +kernel
theorem inV_3 {s : Str} (h : w2 s) : inV (V.str s) [V.str "where", V.str "swap"] = true := by
  rcases h with rfl | rfl <;> decide +kernel
theorem c_wires_wanted (T : Wd K mg) : Cal P w K mg base "wires_wanted" 1 ["word"] (spF R_ww) := by
  obtain ⟨fd, F⟩ := F_wires_wanted T
  refine ⟨_, fd, G_wires_wanted T, fn_pure F sc_wires_wanted (fun ds d ⟨r, e, _⟩ => by rw [e]; rfl) (by decide) (fun cdv A outer s H hr => ⟨_, (pss_cons (ps_if (pt_cmpR op_in_seq (pv 0) (pe_tup (pa_cons pe_str (pa_cons pe_str (pa_cons pe_str (pa_cons pe_str pa_nil))))) (by rfl)) (pss_one (ps_ret pe_int)) pss_nil)
      (pss_cons (ps_if (pt_cmpR op_in_seq (pv 0) (pe_tup (pa_cons pe_str (pa_cons pe_str pa_nil))) (by rfl)) (pss_one (ps_ret pe_int)) pss_nil)
      (pss_one (ps_ret pe_int)))), ?_⟩), F.kp, F.bindsN (fun _ _ _ _ _ _ us hl => match us, hl with | [_], _ => rfl)⟩
  rintro ds d ⟨s, rfl, h⟩ D σ A kr kn
  have A : At H [] H σ [.dat (.str s)] := A
  rcases h with ⟨h, rfl⟩ | ⟨h, rfl⟩
  · refine q_ifR A (b := true) (EvT.is (et_test (Ev.w (ev_inT (d := .str s) (ds := [.str "over", .str "quarter", .str "back", .str "both"]) (by walk_at "ev") (by walk_at "ev") rfl rfl))) (inV_1 h)) (fun _ H1 A => ?_) (fun z => by cases z)
    exact st_ret A (by walk_at "ev") kr
  · refine q_skip A (EvT.is (et_test (Ev.w (ev_inT (d := .str s) (ds := [.str "over", .str "quarter", .str "back", .str "both"]) (by walk_at "ev") (by walk_at "ev") rfl rfl))) (inV_2 h)) fun H1 A => ?_
    refine q_ifR A (b := true) (EvT.is (et_test (Ev.w (ev_inT (d := .str s) (ds := [.str "where", .str "swap"]) (by walk_at "ev") (by walk_at "ev") rfl rfl))) (inV_3 h)) (fun _ H1 A => ?_) (fun z => by cases z)
    exact st_ret A (by walk_at "ev") kr
def R_cw (ds : List Dat) (d : Dat) : Prop := d = .non ∧ ((∃ (s : Str) (k n : Nat), w1 s ∧ k < n ∧ ds = [.tup [.str s, .int k], .int n]) ∨ (∃ (s : Str) (j k n : Nat), w2 s ∧ j ≠ k ∧ j < n ∧ k < n ∧ ds = [.tup [.str s, .int j, .int k], .int n]))
theorem sc_checked_words : FnScope ["words", "n", "k"] ["words", "n"] (defScope s_checked_words) := ⟨rfl, rfl, rfl, by decide +kernel, rfl, by decide +kernel, by decide +kernel⟩
theorem c_checked_words (T : Wd K mg) : Cal P w K mg base "checked_words" 2 ["words", "n"] (spF R_cw) := by
  obtain ⟨fd, F⟩ := F_checked_words T
  have C_wires_wanted := c_wires_wanted (P := P) (w := w) (base := base) T
  have C_is_whole := c_is_whole (P := P) (w := w) (base := base) T
  refine ⟨_, fd, G_checked_words T, fn_pure F sc_checked_words (fun ds d ⟨_, h⟩ => by rcases h with ⟨_, _, _, _, _, e⟩ | ⟨_, _, _, _, _, _, _, _, e⟩ <;> (rw [e]; rfl)) (by decide) (fun cdv A outer s H hr => ⟨_, (pss_cons (ps_if (PW.pt (pw_or (pt_not (pt_val (pe_callB call_isi rfl (T_isinstance T) (by decide +kernel) (pa_cons (pv 0) (pa_cons (pe_bltn (v := .ty "tuple") rfl (T_tuple T) (by decide +kernel) rfl) pa_nil))))) (pw_or (pt_cmpR op_lt (pe_callB call_len_seq rfl (T_len T) PySem.boot_len (pa_cons (pv 0) pa_nil)) pe_int (nomark _)) (pw_or1 (pt_not (pt_val (pe_callB call_isi rfl (T_isinstance T) (by decide +kernel) (pa_cons (pe_ix ix_tup (pv 0) pe_int (fun _ _ => rfl)) (pa_cons (pe_bltn (v := .ty "str") rfl (T_str T) (by decide +kernel) rfl) pa_nil))))))))) (pss_one ps_never) pss_nil)
      (pss_cons (ps_if (PW.pt (pw_or (pt_cmpR op_ne (pe_callB call_len_seq rfl (T_len T) PySem.boot_len (pa_cons (pv 0) pa_nil)) (pe_op op_add pe_int (pe_f C_wires_wanted (hr.mono (by decide)) rfl (pa_cons (pe_ix ix_tup (pv 0) pe_int (fun _ _ => rfl)) pa_nil))) (nomark _)) (pw_or1 (pt_not (pt_val (pe_callB (cr_all rfl) rfl (T_all T) (by decide +kernel) (pa_cons (pe_lc (own := [("k", 2)]) (g := gName 2) rfl sc_checked_words.nd (pi_tup (pe_slice sl_tup (pv 0) (po_some pe_int) po_none)) (blkOk_by (own := [("k", 2)]) (N := ["words", "n", "k"]) (sc := defScope s_checked_words) (by decide +kernel)) (fun _ _ _ _ _ => pg_name (i := 2) sc_checked_words.nd rfl (Or.inl rfl)) (fun _ _ _ _ _ => pts_nil) (fun _ _ _ _ _ => (pe_f C_is_whole (hr.mono (by decide)) rfl (pa_cons (pv 2) pa_nil)))) pa_nil))))))) (pss_one ps_never) pss_nil)
      (pss_cons (ps_if (PW.pt (pw_and (pt_cmpR op_eq (pe_callB call_len_seq rfl (T_len T) PySem.boot_len (pa_cons (pv 0) pa_nil)) pe_int (nomark _)) (pw_and1 (pt_cmpR op_eq (pe_ix ix_tup (pv 0) pe_int (fun _ _ => rfl)) (pe_ix ix_tup (pv 0) pe_int (fun _ _ => rfl)) (nomark _))))) (pss_one ps_never) pss_nil)
      (pss_one (ps_for PassesOwn.never rfl (pi_tup (pe_slice sl_tup (pv 0) (po_some pe_int) po_none)) (pg_name (i := 2) sc_checked_words.nd rfl (Or.inl rfl))
        (pss_one (ps_if (PW.pt (pw_or (pt_cmpR op_lt (pv 2) pe_int (nomark _)) (pw_or1 (pt_cmpR op_ge (pv 2) (pv 1) (nomark _))))) (pss_one ps_never) pss_nil))))))), ?_⟩), F.kp, F.bindsN (fun _ _ _ _ _ _ us hl => match us, hl with | [_, _], _ => rfl)⟩
  rintro ds d ⟨rfl, h⟩ D σ A kr kn
  rcases h with ⟨s, k, n, hs, hk, rfl⟩ | ⟨s, j, k, n, hs, hne, hj, hk, rfl⟩
  · have A : At H [] H σ [.dat (.tup [.str s, .int k]), .dat (.int n), .no] := A
    refine q_skip A (EvT.is (b := (!true || (decide ((2 : Int) < 2) || !true))) (by walk_at "ev") (by decide)) fun H1 A => ?_
    refine q_skip A (EvT.is (b := ((!decide ((2 : Int) = 1 + 1)) || !true)) (by
      walk_at "ev"
      · exact ⟨s, rfl, .inl ⟨hs, rfl⟩⟩
      · refine ev_all (src := [k]) (f := fun _ => true) (Ev.w (ev_lc1 [k] (fun k => .int (k : Nat)) _ (sr_tup (Ev.w (by walk_at "ev"))) (by show 1 ≤ 100000; decide) (fun a _ => ?_) (fun _ _ => rfl))) rfl
        walk_at "ev"
        exact ⟨_, rfl, rfl⟩) (by decide)) fun H1 A => ?_
    refine q_skip A (EvT.is (b := (decide ((2 : Int) = 3) && false)) (et_and (by walk_at "ev") (fun z => absurd z (by decide))) (by decide)) fun H1 A => ?_
    refine st_forN (ds := [k].map fun k => .int (k : Nat)) (fun i Γ => ∃ e, Γ = [.dat (.tup [.str s, .int k]), .dat (.int n), e]) A (sp_tup (Ev.p (by walk_at "ev"))) rfl ⟨_, rfl⟩ ?_ ?_
    · rintro i d Γ gh σ H hd ⟨e, rfl⟩ A
      obtain ⟨k', hk', rfl⟩ := map_at hd
      obtain rfl : k' = k := List.mem_singleton.mp (List.mem_of_getElem? hk')
      have A : At _ gh H σ [.dat (.tup [.str s, .int k']), .dat (.int n), .dat (.int k')] := A
      refine st_skip A (EvT.is (b := (decide ((k' : Int) < 0) || decide ((n : Int) ≤ k'))) (by walk_at "ev") (by
        rw [decide_eq_false (by omega), decide_eq_false (by omega)]; rfl)) fun H1 A => ⟨_, ⟨_, rfl⟩, A⟩
    · rintro Γ σ H ⟨e, rfl⟩ A
      exact kn _ _ rfl A.same
  · have A : At H [] H σ [.dat (.tup [.str s, .int j, .int k]), .dat (.int n), .no] := A
    refine q_skip A (EvT.is (b := (!true || (decide ((3 : Int) < 2) || !true))) (by walk_at "ev") (by decide)) fun H1 A => ?_
    refine q_skip A (EvT.is (b := ((!decide ((3 : Int) = 1 + 2)) || !true)) (by
      walk_at "ev"
      · exact ⟨s, rfl, .inr ⟨hs, rfl⟩⟩
      · refine ev_all (src := [j, k]) (f := fun _ => true) (Ev.w (ev_lc1 [j, k] (fun k => .int (k : Nat)) _ (sr_tup (Ev.w (by walk_at "ev"))) (by show 2 ≤ 100000; decide) (fun a _ => ?_) (fun _ _ => rfl))) rfl
        walk_at "ev"
        exact ⟨_, rfl, rfl⟩) (by decide)) fun H1 A => ?_
    refine q_skip A (EvT.is (b := (decide ((3 : Int) = 3) && decide ((j : Int) = k))) (by walk_at "ev") (by rw [decide_eq_false (p := (j : Int) = k) (by omega)]; rfl)) fun H1 A => ?_
    refine st_forN (ds := [j, k].map fun k => .int (k : Nat)) (fun i Γ => ∃ e, Γ = [.dat (.tup [.str s, .int j, .int k]), .dat (.int n), e]) A (sp_tup (Ev.p (by walk_at "ev"))) rfl ⟨_, rfl⟩ ?_ ?_
    · rintro i d Γ gh σ H hd ⟨e, rfl⟩ A
      obtain ⟨k', hk', rfl⟩ := map_at hd
      have hkn : k' < n := by
        rcases List.mem_cons.mp (List.mem_of_getElem? hk') with rfl | h
        · exact hj
        · rw [List.mem_singleton.mp h]; exact hk
      have A : At _ gh H σ [.dat (.tup [.str s, .int j, .int k]), .dat (.int n), .dat (.int k')] := A
      refine st_skip A (EvT.is (b := (decide ((k' : Int) < 0) || decide ((n : Int) ≤ k'))) (by walk_at "ev") (by
        rw [decide_eq_false (by omega), decide_eq_false (by omega)]; rfl)) fun H1 A => ⟨_, ⟨_, rfl⟩, A⟩
    · rintro Γ σ H ⟨e, rfl⟩ A
      exact kn _ _ rfl A.same

end
end K92
end
section
set_option maxHeartbeats 4000000

namespace K92
open PySem PySem.Spec PyProof.Rows L2
section
variable {P : Program} {w : World} {K : PySem.W.Frag} {mg : Str → Option Value} {base : Heap}
/-! ### the classes of deeds -/
def wordsD : Dd → Dat
  | .ov k => .tup [.str "over", .int (k : Nat)]
  | .qu k => .tup [.str "quarter", .int (k : Nat)]
  | .ba k => .tup [.str "back", .int (k : Nat)]
  | .bo k => .tup [.str "both", .int (k : Nat)]
  | .wh j k => .tup [.str "where", .int (j : Nat), .int (k : Nat)]
  | .sw j k => .tup [.str "swap", .int (j : Nat), .int (k : Nat)]
theorem nl_words (d : Dd) : nl (wordsD d) = true := by cases d <;> rfl
theorem nl_work (ws : List Dd) : nlAll (ws.map wordsD) = true := nlAll_of fun d h => by
  obtain ⟨r, _, e⟩ := List.mem_map.mp h
  rw [← e]; exact nl_words r
def insD (K : PySem.W.Frag) : Dd → Dat
  | .ov k => .ins (He.ga K "Over") ["told"] [wordsD (.ov k)]
  | .qu k => .ins (He.ga K "Quarter") ["told"] [wordsD (.qu k)]
  | .ba k => .ins (He.ga K "Back") ["told"] [wordsD (.ba k)]
  | .bo k => .ins (He.ga K "Both") ["told"] [wordsD (.bo k)]
  | .wh j k => .ins (He.ga K "Where") ["told"] [wordsD (.wh j k)]
  | .sw j k => .ins (He.ga K "Swap") ["told"] [wordsD (.sw j k)]
/-- what __init__ promises: the attribute -/
def spInit (C : Addr) : Sp := fun vs H Q _ => ∃ (p dx : Addr) (v : V), vs = [.ref p, v] ∧ H p = some (.ins C dx []) ∧ ∀ H', H' p = some (.ins C dx ((["told"] : List Str).zip [v])) → (∀ b o, H b = some o → b ≠ p → H' b = some o) → Q .non H'
theorem ev_make {C : Addr} {Δ : Vw} {d : Dat} {te : TE} {E : XK} (h : EvW te Δ d) (n : nl d = true) : Ev (tMake C (spInit C) [] E (tCons te tNil)) Δ (.ins C ["told"] [d]) := fun σ H s Q k =>
  h σ H s _ fun v H1 e q => fun x dx hx hdx ne => ⟨x, dx, v, rfl, upd_same, fun H2 h2 h3 => ⟨rfl, k _ H2 (fun b o hb => by
    have h1 := e b o hb
    exact h3 b o (by rw [upd_ne (ne_of_none h1 hx), upd_ne (ne_of_none h1 hdx)]; exact h1) (ne_of_none h1 hx)) ⟨x, [v], dx, rfl, e.free hx, h2, rfl, v, [], rfl, by
      have q0 : Dq NP1 H1 d v := Dq.flat d v n q
      refine Dq.go (Pr := NP1) (fun _ _ z => z.elim) (fun a xs ha => ?_) d v q0
      exact h3 a _ (by rw [upd_ne (ne_of_none ha hx), upd_ne (ne_of_none ha hdx)]; exact ha) (ne_of_none ha hx), rfl⟩⟩⟩
theorem cpow_b {p : Bool} {k : Nat} (hk : k ≤ 1000) : CPow (b2i p) (k : Int) := ⟨Int.natCast_nonneg k, by omega, by cases p <;> decide⟩
theorem nb_1x (p : Bool) : Builtin.bitXor 1 (b2i p) = b2i (!p) := by cases p <;> rfl
theorem sc_Over_init : FnScope ["self", "words"] ["self", "words"] (defScope s_Over_init) := ⟨rfl, rfl, rfl, by decide +kernel, rfl, by decide +kernel, by decide +kernel⟩
theorem i_Over (T : Wd K mg) : ∃ fd, FnOk P w K mg base CX0 1 (He.ma K (He.ga K "Over") "__init__") fd ["self", "words"] (spInit (He.ga K "Over")) ∧ Binds K fd ["self", "words"] [] := by
  obtain ⟨fd, F⟩ := F_Over_init T
  refine ⟨fd, F.ok sc_Over_init (fun vs H Q E ⟨p, dx, v, e, _⟩ => by rw [e]; rfl) (fun cdv A outer s H vs Q E hr h => ?_), F.bindsN (fun _ _ _ _ _ _ us hl => match us, hl with | [_, _], _ => rfl)⟩
  obtain ⟨p, dx, v, rfl, hp, k⟩ := h
  exact ⟨_, PSs.nox (pss_one (ps_fld (pv 0) (pv 1) rfl)), v, rfl, .ref p, rfl, p, _, dx, [], rfl, hp, L_Over T, N_Over_told T, (by show 0 < 1000; decide), k _ upd_same fun b o hb ne => by rw [upd_ne ne]; exact hb⟩
theorem sc_Quarter_init : FnScope ["self", "words"] ["self", "words"] (defScope s_Quarter_init) := ⟨rfl, rfl, rfl, by decide +kernel, rfl, by decide +kernel, by decide +kernel⟩
theorem i_Quarter (T : Wd K mg) : ∃ fd, FnOk P w K mg base CX0 1 (He.ma K (He.ga K "Quarter") "__init__") fd ["self", "words"] (spInit (He.ga K "Quarter")) ∧ Binds K fd ["self", "words"] [] := by
  obtain ⟨fd, F⟩ := F_Quarter_init T
  refine ⟨fd, F.ok sc_Quarter_init (fun vs H Q E ⟨p, dx, v, e, _⟩ => by rw [e]; rfl) (fun cdv A outer s H vs Q E hr h => ?_), F.bindsN (fun _ _ _ _ _ _ us hl => match us, hl with | [_, _], _ => rfl)⟩
  obtain ⟨p, dx, v, rfl, hp, k⟩ := h
  exact ⟨_, PSs.nox (pss_one (ps_fld (pv 0) (pv 1) rfl)), v, rfl, .ref p, rfl, p, _, dx, [], rfl, hp, L_Quarter T, N_Quarter_told T, (by show 0 < 1000; decide), k _ upd_same fun b o hb ne => by rw [upd_ne ne]; exact hb⟩
theorem sc_Back_init : FnScope ["self", "words"] ["self", "words"] (defScope s_Back_init) := ⟨rfl, rfl, rfl, by decide +kernel, rfl, by decide +kernel, by decide +kernel⟩
theorem i_Back (T : Wd K mg) : ∃ fd, FnOk P w K mg base CX0 1 (He.ma K (He.ga K "Back") "__init__") fd ["self", "words"] (spInit (He.ga K "Back")) ∧ Binds K fd ["self", "words"] [] := by
  obtain ⟨fd, F⟩ := F_Back_init T
  refine ⟨fd, F.ok sc_Back_init (fun vs H Q E ⟨p, dx, v, e, _⟩ => by rw [e]; rfl) (fun cdv A outer s H vs Q E hr h => ?_), F.bindsN (fun _ _ _ _ _ _ us hl => match us, hl with | [_, _], _ => rfl)⟩
  obtain ⟨p, dx, v, rfl, hp, k⟩ := h
  exact ⟨_, PSs.nox (pss_one (ps_fld (pv 0) (pv 1) rfl)), v, rfl, .ref p, rfl, p, _, dx, [], rfl, hp, L_Back T, N_Back_told T, (by show 0 < 1000; decide), k _ upd_same fun b o hb ne => by rw [upd_ne ne]; exact hb⟩
theorem sc_Both_init : FnScope ["self", "words"] ["self", "words"] (defScope s_Both_init) := ⟨rfl, rfl, rfl, by decide +kernel, rfl, by decide +kernel, by decide +kernel⟩
theorem i_Both (T : Wd K mg) : ∃ fd, FnOk P w K mg base CX0 1 (He.ma K (He.ga K "Both") "__init__") fd ["self", "words"] (spInit (He.ga K "Both")) ∧ Binds K fd ["self", "words"] [] := by
  obtain ⟨fd, F⟩ := F_Both_init T
  refine ⟨fd, F.ok sc_Both_init (fun vs H Q E ⟨p, dx, v, e, _⟩ => by rw [e]; rfl) (fun cdv A outer s H vs Q E hr h => ?_), F.bindsN (fun _ _ _ _ _ _ us hl => match us, hl with | [_, _], _ => rfl)⟩
  obtain ⟨p, dx, v, rfl, hp, k⟩ := h
  exact ⟨_, PSs.nox (pss_one (ps_fld (pv 0) (pv 1) rfl)), v, rfl, .ref p, rfl, p, _, dx, [], rfl, hp, L_Both T, N_Both_told T, (by show 0 < 1000; decide), k _ upd_same fun b o hb ne => by rw [upd_ne ne]; exact hb⟩
theorem sc_Where_init : FnScope ["self", "words"] ["self", "words"] (defScope s_Where_init) := ⟨rfl, rfl, rfl, by decide +kernel, rfl, by decide +kernel, by decide +kernel⟩
theorem i_Where (T : Wd K mg) : ∃ fd, FnOk P w K mg base CX0 1 (He.ma K (He.ga K "Where") "__init__") fd ["self", "words"] (spInit (He.ga K "Where")) ∧ Binds K fd ["self", "words"] [] := by
  obtain ⟨fd, F⟩ := F_Where_init T
  refine ⟨fd, F.ok sc_Where_init (fun vs H Q E ⟨p, dx, v, e, _⟩ => by rw [e]; rfl) (fun cdv A outer s H vs Q E hr h => ?_), F.bindsN (fun _ _ _ _ _ _ us hl => match us, hl with | [_, _], _ => rfl)⟩
  obtain ⟨p, dx, v, rfl, hp, k⟩ := h
  exact ⟨_, PSs.nox (pss_one (ps_fld (pv 0) (pv 1) rfl)), v, rfl, .ref p, rfl, p, _, dx, [], rfl, hp, L_Where T, N_Where_told T, (by show 0 < 1000; decide), k _ upd_same fun b o hb ne => by rw [upd_ne ne]; exact hb⟩
theorem sc_Swap_init : FnScope ["self", "words"] ["self", "words"] (defScope s_Swap_init) := ⟨rfl, rfl, rfl, by decide +kernel, rfl, by decide +kernel, by decide +kernel⟩
theorem i_Swap (T : Wd K mg) : ∃ fd, FnOk P w K mg base CX0 1 (He.ma K (He.ga K "Swap") "__init__") fd ["self", "words"] (spInit (He.ga K "Swap")) ∧ Binds K fd ["self", "words"] [] := by
  obtain ⟨fd, F⟩ := F_Swap_init T
  refine ⟨fd, F.ok sc_Swap_init (fun vs H Q E ⟨p, dx, v, e, _⟩ => by rw [e]; rfl) (fun cdv A outer s H vs Q E hr h => ?_), F.bindsN (fun _ _ _ _ _ _ us hl => match us, hl with | [_, _], _ => rfl)⟩
  obtain ⟨p, dx, v, rfl, hp, k⟩ := h
  exact ⟨_, PSs.nox (pss_one (ps_fld (pv 0) (pv 1) rfl)), v, rfl, .ref p, rfl, p, _, dx, [], rfl, hp, L_Swap T, N_Swap_told T, (by show 0 < 1000; decide), k _ upd_same fun b o hb ne => by rw [upd_ne ne]; exact hb⟩
def Ru_Over (K : PySem.W.Frag) (ds : List Dat) (d : Dat) : Prop := ∃ (k : Nat), ds = [insD K (.ov k)] ∧ d = .lst [wordsD (undo (.ov k))]
theorem sc_Over_undoing : FnScope ["self"] ["self"] (defScope s_Over_undoing) := ⟨rfl, rfl, rfl, by decide +kernel, rfl, by decide +kernel, by decide +kernel⟩
theorem u_Over (T : Wd K mg) : ∃ fd, FnOk P w K mg base CX0 1 (He.ma K (He.ga K "Over") "undoing") fd ["self"] (spF (Ru_Over K)) ∧ Binds K fd ["self"] [] := by
  obtain ⟨fd, F⟩ := F_Over_undoing T
  have hc := L_Over T
  have hn := N_Over_told T
  refine ⟨fd, fn_pure F sc_Over_undoing (fun ds d ⟨_, e, _⟩ => by rw [e]; rfl) (by decide) (fun cdv A outer s H hr => ⟨_, (pss_one (ps_ret (pe_lst (pa_cons (pe_fld (pv 0) rfl) pa_nil)))), ?_⟩), F.bindsN (fun _ _ _ _ _ _ us hl => match us, hl with | [_], _ => rfl)⟩
  rintro ds d ⟨k, rfl, rfl⟩ D σ A kr kn
  have A : At H [] H σ [.dat (insD K (.ov k))] := A
  exact st_ret A (by walk_at "ev") kr
def Ru_Quarter (K : PySem.W.Frag) (ds : List Dat) (d : Dat) : Prop := ∃ (k : Nat), ds = [insD K (.qu k)] ∧ d = .lst [wordsD (undo (.qu k))]
theorem sc_Quarter_undoing : FnScope ["self"] ["self"] (defScope s_Quarter_undoing) := ⟨rfl, rfl, rfl, by decide +kernel, rfl, by decide +kernel, by decide +kernel⟩
theorem u_Quarter (T : Wd K mg) : ∃ fd, FnOk P w K mg base CX0 1 (He.ma K (He.ga K "Quarter") "undoing") fd ["self"] (spF (Ru_Quarter K)) ∧ Binds K fd ["self"] [] := by
  obtain ⟨fd, F⟩ := F_Quarter_undoing T
  have hc := L_Quarter T
  have hn := N_Quarter_told T
  refine ⟨fd, fn_pure F sc_Quarter_undoing (fun ds d ⟨_, e, _⟩ => by rw [e]; rfl) (by decide) (fun cdv A outer s H hr => ⟨_, (pss_one (ps_ret (pe_lst (pa_cons (pe_tup (pa_cons pe_str (pa_cons (pe_ix ix_tup (pe_fld (pv 0) rfl) pe_int (fun _ _ => rfl)) pa_nil))) pa_nil)))), ?_⟩), F.bindsN (fun _ _ _ _ _ _ us hl => match us, hl with | [_], _ => rfl)⟩
  rintro ds d ⟨k, rfl, rfl⟩ D σ A kr kn
  have A : At H [] H σ [.dat (insD K (.qu k))] := A
  exact st_ret A (by walk_at "ev") kr
def Ru_Back (K : PySem.W.Frag) (ds : List Dat) (d : Dat) : Prop := ∃ (k : Nat), ds = [insD K (.ba k)] ∧ d = .lst [wordsD (undo (.ba k))]
theorem sc_Back_undoing : FnScope ["self"] ["self"] (defScope s_Back_undoing) := ⟨rfl, rfl, rfl, by decide +kernel, rfl, by decide +kernel, by decide +kernel⟩
theorem u_Back (T : Wd K mg) : ∃ fd, FnOk P w K mg base CX0 1 (He.ma K (He.ga K "Back") "undoing") fd ["self"] (spF (Ru_Back K)) ∧ Binds K fd ["self"] [] := by
  obtain ⟨fd, F⟩ := F_Back_undoing T
  have hc := L_Back T
  have hn := N_Back_told T
  refine ⟨fd, fn_pure F sc_Back_undoing (fun ds d ⟨_, e, _⟩ => by rw [e]; rfl) (by decide) (fun cdv A outer s H hr => ⟨_, (pss_one (ps_ret (pe_lst (pa_cons (pe_tup (pa_cons pe_str (pa_cons (pe_ix ix_tup (pe_fld (pv 0) rfl) pe_int (fun _ _ => rfl)) pa_nil))) pa_nil)))), ?_⟩), F.bindsN (fun _ _ _ _ _ _ us hl => match us, hl with | [_], _ => rfl)⟩
  rintro ds d ⟨k, rfl, rfl⟩ D σ A kr kn
  have A : At H [] H σ [.dat (insD K (.ba k))] := A
  exact st_ret A (by walk_at "ev") kr
def Ru_Both (K : PySem.W.Frag) (ds : List Dat) (d : Dat) : Prop := ∃ (k : Nat), ds = [insD K (.bo k)] ∧ d = .lst [wordsD (undo (.bo k))]
theorem sc_Both_undoing : FnScope ["self"] ["self"] (defScope s_Both_undoing) := ⟨rfl, rfl, rfl, by decide +kernel, rfl, by decide +kernel, by decide +kernel⟩
theorem u_Both (T : Wd K mg) : ∃ fd, FnOk P w K mg base CX0 1 (He.ma K (He.ga K "Both") "undoing") fd ["self"] (spF (Ru_Both K)) ∧ Binds K fd ["self"] [] := by
  obtain ⟨fd, F⟩ := F_Both_undoing T
  have hc := L_Both T
  have hn := N_Both_told T
  refine ⟨fd, fn_pure F sc_Both_undoing (fun ds d ⟨_, e, _⟩ => by rw [e]; rfl) (by decide) (fun cdv A outer s H hr => ⟨_, (pss_one (ps_ret (pe_lst (pa_cons (pe_fld (pv 0) rfl) pa_nil)))), ?_⟩), F.bindsN (fun _ _ _ _ _ _ us hl => match us, hl with | [_], _ => rfl)⟩
  rintro ds d ⟨k, rfl, rfl⟩ D σ A kr kn
  have A : At H [] H σ [.dat (insD K (.bo k))] := A
  exact st_ret A (by walk_at "ev") kr
def Ru_Where (K : PySem.W.Frag) (ds : List Dat) (d : Dat) : Prop := ∃ (j k : Nat), ds = [insD K (.wh j k)] ∧ d = .lst [wordsD (undo (.wh j k))]
theorem sc_Where_undoing : FnScope ["self"] ["self"] (defScope s_Where_undoing) := ⟨rfl, rfl, rfl, by decide +kernel, rfl, by decide +kernel, by decide +kernel⟩
theorem u_Where (T : Wd K mg) : ∃ fd, FnOk P w K mg base CX0 1 (He.ma K (He.ga K "Where") "undoing") fd ["self"] (spF (Ru_Where K)) ∧ Binds K fd ["self"] [] := by
  obtain ⟨fd, F⟩ := F_Where_undoing T
  have hc := L_Where T
  have hn := N_Where_told T
  refine ⟨fd, fn_pure F sc_Where_undoing (fun ds d ⟨_, _, e, _⟩ => by rw [e]; rfl) (by decide) (fun cdv A outer s H hr => ⟨_, (pss_one (ps_ret (pe_lst (pa_cons (pe_fld (pv 0) rfl) pa_nil)))), ?_⟩), F.bindsN (fun _ _ _ _ _ _ us hl => match us, hl with | [_], _ => rfl)⟩
  rintro ds d ⟨j, k, rfl, rfl⟩ D σ A kr kn
  have A : At H [] H σ [.dat (insD K (.wh j k))] := A
  exact st_ret A (by walk_at "ev") kr
def Ru_Swap (K : PySem.W.Frag) (ds : List Dat) (d : Dat) : Prop := ∃ (j k : Nat), ds = [insD K (.sw j k)] ∧ d = .lst [wordsD (undo (.sw j k))]
theorem sc_Swap_undoing : FnScope ["self"] ["self"] (defScope s_Swap_undoing) := ⟨rfl, rfl, rfl, by decide +kernel, rfl, by decide +kernel, by decide +kernel⟩
theorem u_Swap (T : Wd K mg) : ∃ fd, FnOk P w K mg base CX0 1 (He.ma K (He.ga K "Swap") "undoing") fd ["self"] (spF (Ru_Swap K)) ∧ Binds K fd ["self"] [] := by
  obtain ⟨fd, F⟩ := F_Swap_undoing T
  have hc := L_Swap T
  have hn := N_Swap_told T
  refine ⟨fd, fn_pure F sc_Swap_undoing (fun ds d ⟨_, _, e, _⟩ => by rw [e]; rfl) (by decide) (fun cdv A outer s H hr => ⟨_, (pss_one (ps_ret (pe_lst (pa_cons (pe_fld (pv 0) rfl) pa_nil)))), ?_⟩), F.bindsN (fun _ _ _ _ _ _ us hl => match us, hl with | [_], _ => rfl)⟩
  rintro ds d ⟨j, k, rfl, rfl⟩ D σ A kr kn
  have A : At H [] H σ [.dat (insD K (.sw j k))] := A
  exact st_ret A (by walk_at "ev") kr
def ex2 (n j k : Nat) : Nat := (n ^^^ put j (n.testBit j ^^ n.testBit k)) ^^^ put k (n.testBit j ^^ n.testBit k)
def R_ex (K : PySem.W.Frag) (ds : List Dat) (d : Dat) : Prop := ∃ n j k : Nat, j < 9 ∧ k < 9 ∧ ds = [insD K (.sw j k), .int (n : Nat)] ∧ d = .int (ex2 n j k : Nat)
theorem sc_Swap_exchanged : FnScope ["self", "number", "j", "k"] ["self", "number"] (defScope s_Swap_exchanged) := ⟨rfl, rfl, rfl, by decide +kernel, rfl, by decide +kernel, by decide +kernel⟩
theorem x_Swap (T : Wd K mg) : ∃ fd, FnOk P w K mg base CX0 2 (He.ma K (He.ga K "Swap") "exchanged") fd ["self", "number"] (spF (R_ex K)) ∧ Binds K fd ["self", "number"] [] := by
  obtain ⟨fd, F⟩ := F_Swap_exchanged T
  have C_bit_at := c_bit_at (P := P) (w := w) (base := base) T
  have hc := L_Swap T
  have hn := N_Swap_told T
  refine ⟨fd, fn_pure F sc_Swap_exchanged (fun ds d ⟨_, _, _, _, _, e, _⟩ => by rw [e]; rfl) (by decide) (fun cdv A outer s H hr => ⟨_, (pss_cons (ps_asg (pe_slice sl_tup (pe_fld (pv 0) rfl) (po_some pe_int) po_none) (pg_tup rfl (pgs_cons (pg_name (i := 2) sc_Swap_exchanged.nd rfl (Or.inl rfl)) (pgs_cons (pg_name (i := 3) sc_Swap_exchanged.nd rfl (Or.inl rfl)) pgs_nil))))
      (pss_cons (ps_if (pt_cmpR op_eq (pe_f C_bit_at (hr.mono (by decide)) rfl (pa_cons (pv 1) (pa_cons (pv 2) pa_nil))) (pe_f C_bit_at (hr.mono (by decide)) rfl (pa_cons (pv 1) (pa_cons (pv 3) pa_nil))) (nomark _)) (pss_one (ps_ret (pv 1))) pss_nil)
      (pss_one (ps_ret (pe_op op_xor (pe_op op_xor (pv 1) (pe_op op_shl pe_int (pv 2))) (pe_op op_shl pe_int (pv 3))))))), ?_⟩), F.bindsN (fun _ _ _ _ _ _ us hl => match us, hl with | [_, _], _ => rfl)⟩
  rintro ds d ⟨n, j, k, hj, hk, rfl, rfl⟩ D σ A kr kn
  have A : At H [] H σ [.dat (insD K (.sw j k)), .dat (.int (n : Nat)), .no, .no] := A
  refine q_tup2 (d1 := .int (j : Nat)) (d2 := .int (k : Nat)) A (Ev.p (by walk_at "ev")) fun σ H1 A => ?_
  have A : At H [] H1 σ [.dat (insD K (.sw j k)), .dat (.int (n : Nat)), .dat (.int (j : Nat)), .dat (.int (k : Nat))] := A
  have o1 : CPow 1 (j : Int) := ⟨Int.natCast_nonneg j, by omega, by decide⟩
  have o2 : CPow 1 (k : Int) := ⟨Int.natCast_nonneg k, by omega, by decide⟩
  refine q_ifR A (b := decide (b2i (n.testBit j) = b2i (n.testBit k))) (by
    walk_at "ev"
    · exact ⟨_, _, rfl, rfl⟩
    · exact ⟨_, _, rfl, rfl⟩) (fun e H2 A => ?_) (fun e H2 A => ?_)
  · have q : n.testBit j = n.testBit k := b2i_inj.mp (of_decide_eq_true e)
    refine st_ret A (Ev.is (d := .int (n : Nat)) (by walk_at "ev") ?_) kr
    unfold ex2
    rw [q, Bool.xor_self]
    show Dat.int (n : Nat) = Dat.int ((n ^^^ 0 ^^^ 0 : Nat))
    simp
  · have q : (n.testBit j ^^ n.testBit k) = true := by
      have := of_decide_eq_false e
      revert this
      cases n.testBit j <;> cases n.testBit k <;> decide
    refine st_ret A (Ev.is (by walk_at "ev") ?_) kr
    rw [nb_oneshl, nb_oneshl, nb_xor, nb_xor]
    unfold ex2
    rw [q]
    rfl
def Ro_Over (K : PySem.W.Frag) (ds : List Dat) (d : Dat) : Prop := ∃ (k : Nat) (r : Row), k < 9 ∧ r.wf 9 ∧ ds = [insD K (.ov k), rowD r] ∧ d = rowD (act (.ov k) r)
theorem sc_Over_on_row : FnScope ["self", "row", "minus", "xs", "zs"] ["self", "row"] (defScope s_Over_on_row) := ⟨rfl, rfl, rfl, by decide +kernel, rfl, by decide +kernel, by decide +kernel⟩
theorem o_Over (T : Wd K mg) : ∃ fd, FnOk P w K mg base CX0 2 (He.ma K (He.ga K "Over") "on_row") fd ["self", "row"] (spF (Ro_Over K)) ∧ Binds K fd ["self", "row"] [] := by
  obtain ⟨fd, F⟩ := F_Over_on_row T
  have C_bit_at := c_bit_at (P := P) (w := w) (base := base) T
  have hc := L_Over T
  have hn := N_Over_told T
  refine ⟨fd, fn_pure F sc_Over_on_row (fun ds d ⟨_, _, _, _, e, _⟩ => by rw [e]; rfl) (by decide) (fun cdv A outer s H hr => ⟨_, (pss_cons (ps_asg (pv 1) (pg_tup rfl (pgs_cons (pg_name (i := 2) sc_Over_on_row.nd rfl (Or.inl rfl)) (pgs_cons (pg_name (i := 3) sc_Over_on_row.nd rfl (Or.inl rfl)) (pgs_cons (pg_name (i := 4) sc_Over_on_row.nd rfl (Or.inl rfl)) pgs_nil)))))
      (pss_one (ps_ret (pe_tup (pa_cons (pe_op op_xor (pv 2) (pe_f C_bit_at (hr.mono (by decide)) rfl (pa_cons (pv 4) (pa_cons (pe_ix ix_tup (pe_fld (pv 0) rfl) pe_int (fun _ _ => rfl)) pa_nil)))) (pa_cons (pv 3) (pa_cons (pv 4) pa_nil))))))), ?_⟩), F.bindsN (fun _ _ _ _ _ _ us hl => match us, hl with | [_, _], _ => rfl)⟩
  rintro ds d ⟨k, r, hk, hw, rfl, rfl⟩ D σ A kr kn
  have A : At H [] H σ [.dat (insD K (.ov k)), .dat (rowD r), .no, .no, .no] := A
  refine q_tup3 A (ep_var rfl) fun σ H1 A => ?_
  exact st_ret A (Ev.is (by walk_at "ev"; exact ⟨_, _, rfl, rfl⟩) (by rw [nb_bxor]; rfl)) kr
def Ro_Quarter (K : PySem.W.Frag) (ds : List Dat) (d : Dat) : Prop := ∃ (k : Nat) (r : Row), k < 9 ∧ r.wf 9 ∧ ds = [insD K (.qu k), rowD r] ∧ d = rowD (act (.qu k) r)
theorem sc_Quarter_on_row : FnScope ["self", "row", "minus", "xs", "zs", "x", "z"] ["self", "row"] (defScope s_Quarter_on_row) := ⟨rfl, rfl, rfl, by decide +kernel, rfl, by decide +kernel, by decide +kernel⟩
theorem o_Quarter (T : Wd K mg) : ∃ fd, FnOk P w K mg base CX0 2 (He.ma K (He.ga K "Quarter") "on_row") fd ["self", "row"] (spF (Ro_Quarter K)) ∧ Binds K fd ["self", "row"] [] := by
  obtain ⟨fd, F⟩ := F_Quarter_on_row T
  have C_bit_at := c_bit_at (P := P) (w := w) (base := base) T
  have hc := L_Quarter T
  have hn := N_Quarter_told T
  refine ⟨fd, fn_pure F sc_Quarter_on_row (fun ds d ⟨_, _, _, _, e, _⟩ => by rw [e]; rfl) (by decide) (fun cdv A outer s H hr => ⟨_, (pss_cons (ps_asg (pv 1) (pg_tup rfl (pgs_cons (pg_name (i := 2) sc_Quarter_on_row.nd rfl (Or.inl rfl)) (pgs_cons (pg_name (i := 3) sc_Quarter_on_row.nd rfl (Or.inl rfl)) (pgs_cons (pg_name (i := 4) sc_Quarter_on_row.nd rfl (Or.inl rfl)) pgs_nil)))))
      (pss_cons (ps_set (i := 5) sc_Quarter_on_row.nd rfl (Or.inl rfl) (pe_f C_bit_at (hr.mono (by decide)) rfl (pa_cons (pv 3) (pa_cons (pe_ix ix_tup (pe_fld (pv 0) rfl) pe_int (fun _ _ => rfl)) pa_nil))))
      (pss_cons (ps_set (i := 6) sc_Quarter_on_row.nd rfl (Or.inl rfl) (pe_f C_bit_at (hr.mono (by decide)) rfl (pa_cons (pv 4) (pa_cons (pe_ix ix_tup (pe_fld (pv 0) rfl) pe_int (fun _ _ => rfl)) pa_nil))))
      (pss_one (ps_ret (pe_tup (pa_cons (pe_op op_xor (pv 2) (pe_op op_and (pv 5) (pv 6))) (pa_cons (pv 3) (pa_cons (pe_op op_xor (pv 4) (pe_op op_shl (pv 5) (pe_ix ix_tup (pe_fld (pv 0) rfl) pe_int (fun _ _ => rfl)))) pa_nil))))))))), ?_⟩), F.bindsN (fun _ _ _ _ _ _ us hl => match us, hl with | [_, _], _ => rfl)⟩
  rintro ds d ⟨k, r, hk, hw, rfl, rfl⟩ D σ A kr kn
  have A : At H [] H σ [.dat (insD K (.qu k)), .dat (rowD r), .no, .no, .no, .no, .no] := A
  refine q_tup3 A (ep_var rfl) fun σ H1 A => ?_
  refine q_asg A (d := .int (b2i (r.x.testBit k))) (Ev.p (by walk_at "ev"; exact ⟨_, _, rfl, rfl⟩)) fun σ H1 A => ?_
  refine q_asg A (d := .int (b2i (r.z.testBit k))) (Ev.p (by walk_at "ev"; exact ⟨_, _, rfl, rfl⟩)) fun σ H1 A => ?_
  exact st_ret A (Ev.is (by walk_at "ev"; exact cpow_b (by omega)) (by rw [nb_band, nb_bxor, nb_put, nb_xor]; rfl)) kr
def Ro_Back (K : PySem.W.Frag) (ds : List Dat) (d : Dat) : Prop := ∃ (k : Nat) (r : Row), k < 9 ∧ r.wf 9 ∧ ds = [insD K (.ba k), rowD r] ∧ d = rowD (act (.ba k) r)
theorem sc_Back_on_row : FnScope ["self", "row", "minus", "xs", "zs", "x", "z"] ["self", "row"] (defScope s_Back_on_row) := ⟨rfl, rfl, rfl, by decide +kernel, rfl, by decide +kernel, by decide +kernel⟩
theorem o_Back (T : Wd K mg) : ∃ fd, FnOk P w K mg base CX0 2 (He.ma K (He.ga K "Back") "on_row") fd ["self", "row"] (spF (Ro_Back K)) ∧ Binds K fd ["self", "row"] [] := by
  obtain ⟨fd, F⟩ := F_Back_on_row T
  have C_bit_at := c_bit_at (P := P) (w := w) (base := base) T
  have hc := L_Back T
  have hn := N_Back_told T
  refine ⟨fd, fn_pure F sc_Back_on_row (fun ds d ⟨_, _, _, _, e, _⟩ => by rw [e]; rfl) (by decide) (fun cdv A outer s H hr => ⟨_, (pss_cons (ps_asg (pv 1) (pg_tup rfl (pgs_cons (pg_name (i := 2) sc_Back_on_row.nd rfl (Or.inl rfl)) (pgs_cons (pg_name (i := 3) sc_Back_on_row.nd rfl (Or.inl rfl)) (pgs_cons (pg_name (i := 4) sc_Back_on_row.nd rfl (Or.inl rfl)) pgs_nil)))))
      (pss_cons (ps_set (i := 5) sc_Back_on_row.nd rfl (Or.inl rfl) (pe_f C_bit_at (hr.mono (by decide)) rfl (pa_cons (pv 3) (pa_cons (pe_ix ix_tup (pe_fld (pv 0) rfl) pe_int (fun _ _ => rfl)) pa_nil))))
      (pss_cons (ps_set (i := 6) sc_Back_on_row.nd rfl (Or.inl rfl) (pe_f C_bit_at (hr.mono (by decide)) rfl (pa_cons (pv 4) (pa_cons (pe_ix ix_tup (pe_fld (pv 0) rfl) pe_int (fun _ _ => rfl)) pa_nil))))
      (pss_one (ps_ret (pe_tup (pa_cons (pe_op op_xor (pv 2) (pe_op op_and (pv 5) (pe_op op_xor pe_int (pv 6)))) (pa_cons (pv 3) (pa_cons (pe_op op_xor (pv 4) (pe_op op_shl (pv 5) (pe_ix ix_tup (pe_fld (pv 0) rfl) pe_int (fun _ _ => rfl)))) pa_nil))))))))), ?_⟩), F.bindsN (fun _ _ _ _ _ _ us hl => match us, hl with | [_, _], _ => rfl)⟩
  rintro ds d ⟨k, r, hk, hw, rfl, rfl⟩ D σ A kr kn
  have A : At H [] H σ [.dat (insD K (.ba k)), .dat (rowD r), .no, .no, .no, .no, .no] := A
  refine q_tup3 A (ep_var rfl) fun σ H1 A => ?_
  refine q_asg A (d := .int (b2i (r.x.testBit k))) (Ev.p (by walk_at "ev"; exact ⟨_, _, rfl, rfl⟩)) fun σ H1 A => ?_
  refine q_asg A (d := .int (b2i (r.z.testBit k))) (Ev.p (by walk_at "ev"; exact ⟨_, _, rfl, rfl⟩)) fun σ H1 A => ?_
  exact st_ret A (Ev.is (by walk_at "ev"; exact cpow_b (by omega)) (by rw [nb_1x, nb_band, nb_bxor, nb_put, nb_xor]; rfl)) kr
def Ro_Both (K : PySem.W.Frag) (ds : List Dat) (d : Dat) : Prop := ∃ (k : Nat) (r : Row), k < 9 ∧ r.wf 9 ∧ ds = [insD K (.bo k), rowD r] ∧ d = rowD (act (.bo k) r)
theorem sc_Both_on_row : FnScope ["self", "row", "minus", "xs", "zs", "k", "x", "z", "turned"] ["self", "row"] (defScope s_Both_on_row) := ⟨rfl, rfl, rfl, by decide +kernel, rfl, by decide +kernel, by decide +kernel⟩
theorem o_Both (T : Wd K mg) : ∃ fd, FnOk P w K mg base CX0 2 (He.ma K (He.ga K "Both") "on_row") fd ["self", "row"] (spF (Ro_Both K)) ∧ Binds K fd ["self", "row"] [] := by
  obtain ⟨fd, F⟩ := F_Both_on_row T
  have C_bit_at := c_bit_at (P := P) (w := w) (base := base) T
  have hc := L_Both T
  have hn := N_Both_told T
  refine ⟨fd, fn_pure F sc_Both_on_row (fun ds d ⟨_, _, _, _, e, _⟩ => by rw [e]; rfl) (by decide) (fun cdv A outer s H hr => ⟨_, (pss_cons (ps_asg (pv 1) (pg_tup rfl (pgs_cons (pg_name (i := 2) sc_Both_on_row.nd rfl (Or.inl rfl)) (pgs_cons (pg_name (i := 3) sc_Both_on_row.nd rfl (Or.inl rfl)) (pgs_cons (pg_name (i := 4) sc_Both_on_row.nd rfl (Or.inl rfl)) pgs_nil)))))
      (pss_cons (ps_set (i := 5) sc_Both_on_row.nd rfl (Or.inl rfl) (pe_ix ix_tup (pe_fld (pv 0) rfl) pe_int (fun _ _ => rfl)))
      (pss_cons (ps_set (i := 6) sc_Both_on_row.nd rfl (Or.inl rfl) (pe_f C_bit_at (hr.mono (by decide)) rfl (pa_cons (pv 3) (pa_cons (pv 5) pa_nil))))
      (pss_cons (ps_set (i := 7) sc_Both_on_row.nd rfl (Or.inl rfl) (pe_f C_bit_at (hr.mono (by decide)) rfl (pa_cons (pv 4) (pa_cons (pv 5) pa_nil))))
      (pss_cons (ps_set (i := 8) sc_Both_on_row.nd rfl (Or.inl rfl) (pe_op op_shl (pe_op op_xor (pv 6) (pv 7)) (pv 5)))
      (pss_one (ps_ret (pe_tup (pa_cons (pe_op op_xor (pv 2) (pe_op op_and (pv 6) (pv 7))) (pa_cons (pe_op op_xor (pv 3) (pv 8)) (pa_cons (pe_op op_xor (pv 4) (pv 8)) pa_nil))))))))))), ?_⟩), F.bindsN (fun _ _ _ _ _ _ us hl => match us, hl with | [_, _], _ => rfl)⟩
  rintro ds d ⟨k, r, hk, hw, rfl, rfl⟩ D σ A kr kn
  have A : At H [] H σ [.dat (insD K (.bo k)), .dat (rowD r), .no, .no, .no, .no, .no, .no, .no] := A
  refine q_tup3 A (ep_var rfl) fun σ H1 A => ?_
  refine q_asg A (d := .int (k : Nat)) (Ev.p (by walk_at "ev")) fun σ H1 A => ?_
  refine q_asg A (d := .int (b2i (r.x.testBit k))) (Ev.p (by walk_at "ev"; exact ⟨_, _, rfl, rfl⟩)) fun σ H1 A => ?_
  refine q_asg A (d := .int (b2i (r.z.testBit k))) (Ev.p (by walk_at "ev"; exact ⟨_, _, rfl, rfl⟩)) fun σ H1 A => ?_
  refine q_asg A (d := .int (put k (r.x.testBit k ^^ r.z.testBit k) : Nat)) (Ev.p (Ev.is (by walk_at "ev"; rw [nb_bxor]; exact cpow_b (by omega)) (by rw [nb_bxor, nb_put]))) fun σ H1 A => ?_
  exact st_ret A (Ev.is (by walk_at "ev") (by rw [nb_band, nb_bxor, nb_xor, nb_xor]; rfl)) kr
def Ro_Where (K : PySem.W.Frag) (ds : List Dat) (d : Dat) : Prop := ∃ (j k : Nat) (r : Row), j < 9 ∧ k < 9 ∧ j ≠ k ∧ r.wf 9 ∧ ds = [insD K (.wh j k), rowD r] ∧ d = rowD (act (.wh j k) r)
theorem sc_Where_on_row : FnScope ["self", "row", "minus", "xs", "zs", "j", "k", "x", "z"] ["self", "row"] (defScope s_Where_on_row) := ⟨rfl, rfl, rfl, by decide +kernel, rfl, by decide +kernel, by decide +kernel⟩
theorem o_Where (T : Wd K mg) : ∃ fd, FnOk P w K mg base CX0 2 (He.ma K (He.ga K "Where") "on_row") fd ["self", "row"] (spF (Ro_Where K)) ∧ Binds K fd ["self", "row"] [] := by
  obtain ⟨fd, F⟩ := F_Where_on_row T
  have C_bit_at := c_bit_at (P := P) (w := w) (base := base) T
  have hc := L_Where T
  have hn := N_Where_told T
  refine ⟨fd, fn_pure F sc_Where_on_row (fun ds d ⟨_, _, _, _, _, _, _, e, _⟩ => by rw [e]; rfl) (by decide) (fun cdv A outer s H hr => ⟨_, (pss_cons (ps_asg (pv 1) (pg_tup rfl (pgs_cons (pg_name (i := 2) sc_Where_on_row.nd rfl (Or.inl rfl)) (pgs_cons (pg_name (i := 3) sc_Where_on_row.nd rfl (Or.inl rfl)) (pgs_cons (pg_name (i := 4) sc_Where_on_row.nd rfl (Or.inl rfl)) pgs_nil)))))
      (pss_cons (ps_asg (pe_slice sl_tup (pe_fld (pv 0) rfl) (po_some pe_int) po_none) (pg_tup rfl (pgs_cons (pg_name (i := 5) sc_Where_on_row.nd rfl (Or.inl rfl)) (pgs_cons (pg_name (i := 6) sc_Where_on_row.nd rfl (Or.inl rfl)) pgs_nil))))
      (pss_cons (ps_set (i := 7) sc_Where_on_row.nd rfl (Or.inl rfl) (pe_f C_bit_at (hr.mono (by decide)) rfl (pa_cons (pv 3) (pa_cons (pv 5) pa_nil))))
      (pss_cons (ps_set (i := 8) sc_Where_on_row.nd rfl (Or.inl rfl) (pe_f C_bit_at (hr.mono (by decide)) rfl (pa_cons (pv 4) (pa_cons (pv 6) pa_nil))))
      (Evl.pss_cut (ps_if (PW.pt (pw_and (pt_cmpR op_eq (pe_op op_and (pv 7) (pv 8)) pe_int (nomark _)) (pw_and1 (pt_cmpR op_eq (pe_f C_bit_at (hr.mono (by decide)) rfl (pa_cons (pv 3) (pa_cons (pv 6) pa_nil))) (pe_f C_bit_at (hr.mono (by decide)) rfl (pa_cons (pv 4) (pa_cons (pv 5) pa_nil))) (nomark _))))) (pss_one (ps_aug (i := 2) sc_Where_on_row.nd rfl (Or.inl rfl) pe_int (pip_of iop_xor))) pss_nil)
      (pss_one (ps_ret (pe_tup (pa_cons (pv 2) (pa_cons (pe_op op_xor (pv 3) (pe_op op_shl (pv 7) (pv 6))) (pa_cons (pe_op op_xor (pv 4) (pe_op op_shl (pv 8) (pv 5))) pa_nil))))))))))), ?_⟩), F.bindsN (fun _ _ _ _ _ _ us hl => match us, hl with | [_, _], _ => rfl)⟩
  rintro ds d ⟨j, k, r, hj, hk, ne, hw, rfl, rfl⟩ D σ A kr kn
  have A : At H [] H σ [.dat (insD K (.wh j k)), .dat (rowD r), .no, .no, .no, .no, .no, .no, .no] := A
  refine q_tup3 A (ep_var rfl) fun σ H1 A => ?_
  refine q_tup2 (d1 := .int (j : Nat)) (d2 := .int (k : Nat)) A (Ev.p (by walk_at "ev")) fun σ H1 A => ?_
  have A : At H [] H1 σ [.dat (insD K (.wh j k)), .dat (rowD r), .dat (.int (b2i r.m)), .dat (.int r.x), .dat (.int r.z), .dat (.int (j : Nat)), .dat (.int (k : Nat)), .no, .no] := A
  refine q_asg A (d := .int (b2i (r.x.testBit j))) (Ev.p (by walk_at "ev"; exact ⟨_, _, rfl, rfl⟩)) fun σ H1 A => ?_
  refine q_asg A (d := .int (b2i (r.z.testBit k))) (Ev.p (by walk_at "ev"; exact ⟨_, _, rfl, rfl⟩)) fun σ H1 A => ?_
  refine st_cut (Γ' := [.dat (insD K (.wh j k)), .dat (rowD r), .dat (.int (b2i (r.m ^^ ((r.x.testBit j && r.z.testBit k) && (r.x.testBit k == r.z.testBit j))))), .dat (.int r.x), .dat (.int r.z), .dat (.int (j : Nat)), .dat (.int (k : Nat)), .dat (.int (b2i (r.x.testBit j))), .dat (.int (b2i (r.z.testBit k)))]) A
    (st_if A (b := ((r.x.testBit j && r.z.testBit k) && (r.x.testBit k == r.z.testBit j))) (EvT.is (b := (decide (Builtin.bitAnd (b2i (r.x.testBit j)) (b2i (r.z.testBit k)) = 1) && decide (b2i (r.x.testBit k) = b2i (r.z.testBit j)))) (by
      walk_at "ev"
      · exact ⟨_, _, rfl, rfl⟩
      · exact ⟨_, _, rfl, rfl⟩) (by rw [nb_band, b2i_eq1, b2i_eqd])) (fun e H1 A => ?_) (fun e H1 A => ?_)) fun σ H1 A => ?_
  · refine st_aug A rfl (d2 := .int 1) (by walk_at "ev") (d := .int (b2i (r.m ^^ ((r.x.testBit j && r.z.testBit k) && (r.x.testBit k == r.z.testBit j))))) (rd_I0 fun H => congrArg V.int ?_) fun σ H1 A => A
    rw [e]
    exact nb_bxor _ true
  · refine st_next ?_
    rw [e, Bool.xor_false]
    exact A
  · exact st_ret A (Ev.is (by
      walk_at "ev"
      · exact cpow_b (by omega)
      · exact cpow_b (by omega)) (by rw [nb_put, nb_xor, nb_put, nb_xor]; rfl)) kr
def Ro_Swap (K : PySem.W.Frag) (ds : List Dat) (d : Dat) : Prop := ∃ (j k : Nat) (r : Row), j < 9 ∧ k < 9 ∧ j ≠ k ∧ r.wf 9 ∧ ds = [insD K (.sw j k), rowD r] ∧ d = rowD (act (.sw j k) r)
theorem sc_Swap_on_row : FnScope ["self", "row"] ["self", "row"] (defScope s_Swap_on_row) := ⟨rfl, rfl, rfl, by decide +kernel, rfl, by decide +kernel, by decide +kernel⟩
theorem o_Swap (T : Wd K mg) : ∃ fd, FnOk P w K mg base CX0 3 (He.ma K (He.ga K "Swap") "on_row") fd ["self", "row"] (spF (Ro_Swap K)) ∧ Binds K fd ["self", "row"] [] := by
  obtain ⟨fd, F⟩ := F_Swap_on_row T
  have C_bit_at := c_bit_at (P := P) (w := w) (base := base) T
  have hc := L_Swap T
  have hn := N_Swap_told T
  obtain ⟨fdx, OK_Swap_exchanged, B_Swap_exchanged⟩ := x_Swap (P := P) (w := w) (base := base) T
  refine ⟨fd, fn_pure F sc_Swap_on_row (fun ds d ⟨_, _, _, _, _, _, _, e, _⟩ => by rw [e]; rfl) (by decide) (fun cdv A outer s H hr => ⟨_, (pss_one (ps_ret (pe_tup (pa_cons (pe_ix ix_tup (pv 1) pe_int (fun _ _ => rfl)) (pa_cons (pe_meth (pv 0) (L_Swap T) (M_Swap_exchanged T) OK_Swap_exchanged (hr.mono (by decide)) B_Swap_exchanged .nil pass0 (pa_cons (pe_ix ix_tup (pv 1) pe_int (fun _ _ => rfl)) pa_nil)) (pa_cons (pe_meth (pv 0) (L_Swap T) (M_Swap_exchanged T) OK_Swap_exchanged (hr.mono (by decide)) B_Swap_exchanged .nil pass0 (pa_cons (pe_ix ix_tup (pv 1) pe_int (fun _ _ => rfl)) pa_nil)) pa_nil)))))), ?_⟩), F.bindsN (fun _ _ _ _ _ _ us hl => match us, hl with | [_, _], _ => rfl)⟩
  rintro ds d ⟨j, k, r, hj, hk, ne, hw, rfl, rfl⟩ D σ A kr kn
  have A : At H [] H σ [.dat (insD K (.sw j k)), .dat (rowD r)] := A
  refine st_ret A ?_ kr
  show Ev _ _ (.tup [.int (b2i r.m), .int (ex2 r.x j k : Nat), .int (ex2 r.z j k : Nat)])
  refine ev_tup (hz := by show 3 ≤ 1000; decide) (es_cons (by walk_at "ev") (es_cons (ev_meth (ew_var rfl) (by decide +kernel) (ea_cons (Ev.w (by walk_at "ev")) ea_nil) (dd := []) (fun _ => rfl) ⟨_, _, _, hj, hk, rfl, rfl⟩) (es_cons (ev_meth (ew_var rfl) (by decide +kernel) (ea_cons (Ev.w (by walk_at "ev")) ea_nil) (dd := []) (fun _ => rfl) ⟨_, _, _, hj, hk, rfl, rfl⟩) es_nil)))

end
end K92
end
section
set_option maxHeartbeats 4000000

namespace K92
open PySem PySem.Spec PyProof.Rows L2
section
variable {P : Program} {w : World} {K : PySem.W.Frag} {mg : Str → Option Value} {base : Heap}
/-! ### deed_of -/
def R_deed_of (K : PySem.W.Frag) (ds : List Dat) (d : Dat) : Prop := ∃ (e : Dd) (n : Nat), e.ok n ∧ ds = [wordsD e, .int n] ∧ d = insD K e
theorem sc_deed_of : FnScope ["words", "n"] ["words", "n"] (defScope s_deed_of) := ⟨rfl, rfl, rfl, by decide +kernel, rfl, by decide +kernel, by decide +kernel⟩
theorem c_deed_of (T : Wd K mg) : Cal P w K mg base "deed_of" 3 ["words", "n"] (spF (R_deed_of K)) := by
  obtain ⟨fd, F⟩ := F_deed_of T
  have C_checked_words := c_checked_words (P := P) (w := w) (base := base) T
  obtain ⟨_, OK_Over_init, B_Over_init⟩ := i_Over (P := P) (w := w) (base := base) T
  obtain ⟨_, OK_Quarter_init, B_Quarter_init⟩ := i_Quarter (P := P) (w := w) (base := base) T
  obtain ⟨_, OK_Back_init, B_Back_init⟩ := i_Back (P := P) (w := w) (base := base) T
  obtain ⟨_, OK_Both_init, B_Both_init⟩ := i_Both (P := P) (w := w) (base := base) T
  obtain ⟨_, OK_Where_init, B_Where_init⟩ := i_Where (P := P) (w := w) (base := base) T
  obtain ⟨_, OK_Swap_init, B_Swap_init⟩ := i_Swap (P := P) (w := w) (base := base) T
  refine ⟨_, fd, G_deed_of T, fn_pure F sc_deed_of (fun ds d ⟨r, n, _, e, _⟩ => by rw [e]; rfl) (by decide) (fun cdv A outer s H hr => ⟨_, (pss_cons (ps_expr (pe_f C_checked_words (hr.mono (by decide)) rfl (pa_cons (pv 0) (pa_cons (pv 1) pa_nil))))
      (pss_cons (ps_if (pt_cmpR op_eq (pe_ix ix_tup (pv 0) pe_int (fun _ _ => rfl)) pe_str (nomark _)) (pss_one (ps_ret (pe_make (K_Over T) OK_Over_init (hr.mono (by decide)) rfl (G_Over T) B_Over_init .nil pass0 (pa_cons (pv 0) pa_nil)))) pss_nil)
      (pss_cons (ps_if (pt_cmpR op_eq (pe_ix ix_tup (pv 0) pe_int (fun _ _ => rfl)) pe_str (nomark _)) (pss_one (ps_ret (pe_make (K_Quarter T) OK_Quarter_init (hr.mono (by decide)) rfl (G_Quarter T) B_Quarter_init .nil pass0 (pa_cons (pv 0) pa_nil)))) pss_nil)
      (pss_cons (ps_if (pt_cmpR op_eq (pe_ix ix_tup (pv 0) pe_int (fun _ _ => rfl)) pe_str (nomark _)) (pss_one (ps_ret (pe_make (K_Back T) OK_Back_init (hr.mono (by decide)) rfl (G_Back T) B_Back_init .nil pass0 (pa_cons (pv 0) pa_nil)))) pss_nil)
      (pss_cons (ps_if (pt_cmpR op_eq (pe_ix ix_tup (pv 0) pe_int (fun _ _ => rfl)) pe_str (nomark _)) (pss_one (ps_ret (pe_make (K_Both T) OK_Both_init (hr.mono (by decide)) rfl (G_Both T) B_Both_init .nil pass0 (pa_cons (pv 0) pa_nil)))) pss_nil)
      (pss_cons (ps_if (pt_cmpR op_eq (pe_ix ix_tup (pv 0) pe_int (fun _ _ => rfl)) pe_str (nomark _)) (pss_one (ps_ret (pe_make (K_Where T) OK_Where_init (hr.mono (by decide)) rfl (G_Where T) B_Where_init .nil pass0 (pa_cons (pv 0) pa_nil)))) pss_nil)
      (pss_one (ps_ret (pe_make (K_Swap T) OK_Swap_init (hr.mono (by decide)) rfl (G_Swap T) B_Swap_init .nil pass0 (pa_cons (pv 0) pa_nil)))))))))), ?_⟩), F.kp, F.bindsN (fun _ _ _ _ _ _ us hl => match us, hl with | [_, _], _ => rfl)⟩
  rintro ds d ⟨e, n, ho, rfl, rfl⟩ D σ A kr kn
  cases e with
  | ov k =>
    have A : At H [] H σ [.dat (wordsD (.ov k)), .dat (.int n)] := A
    refine q_drop A (d := .non) (by walk_at "ev"; exact ⟨rfl, .inl ⟨_, k, n, .inl rfl, ho, rfl⟩⟩) fun H1 A => ?_
    refine q_ifR A (b := true) (EvT.is (by walk_at "ev") (show decide (("over" : Str) = "over") = true by decide +kernel)) (fun _ H1 A => st_ret A (ev_make (ew_var rfl) rfl) kr) (fun z => by cases z)
  | qu k =>
    have A : At H [] H σ [.dat (wordsD (.qu k)), .dat (.int n)] := A
    refine q_drop A (d := .non) (by walk_at "ev"; exact ⟨rfl, .inl ⟨_, k, n, .inr (.inl rfl), ho, rfl⟩⟩) fun H1 A => ?_
    refine q_skip A (EvT.is (by walk_at "ev") (show decide (("quarter" : Str) = "over") = false by decide +kernel)) fun H1 A => ?_
    refine q_ifR A (b := true) (EvT.is (by walk_at "ev") (show decide (("quarter" : Str) = "quarter") = true by decide +kernel)) (fun _ H1 A => st_ret A (ev_make (ew_var rfl) rfl) kr) (fun z => by cases z)
  | ba k =>
    have A : At H [] H σ [.dat (wordsD (.ba k)), .dat (.int n)] := A
    refine q_drop A (d := .non) (by walk_at "ev"; exact ⟨rfl, .inl ⟨_, k, n, .inr (.inr (.inl rfl)), ho, rfl⟩⟩) fun H1 A => ?_
    refine q_skip A (EvT.is (by walk_at "ev") (show decide (("back" : Str) = "over") = false by decide +kernel)) fun H1 A => ?_
    refine q_skip A (EvT.is (by walk_at "ev") (show decide (("back" : Str) = "quarter") = false by decide +kernel)) fun H1 A => ?_
    refine q_ifR A (b := true) (EvT.is (by walk_at "ev") (show decide (("back" : Str) = "back") = true by decide +kernel)) (fun _ H1 A => st_ret A (ev_make (ew_var rfl) rfl) kr) (fun z => by cases z)
  | bo k =>
    have A : At H [] H σ [.dat (wordsD (.bo k)), .dat (.int n)] := A
    refine q_drop A (d := .non) (by walk_at "ev"; exact ⟨rfl, .inl ⟨_, k, n, .inr (.inr (.inr rfl)), ho, rfl⟩⟩) fun H1 A => ?_
    refine q_skip A (EvT.is (by walk_at "ev") (show decide (("both" : Str) = "over") = false by decide +kernel)) fun H1 A => ?_
    refine q_skip A (EvT.is (by walk_at "ev") (show decide (("both" : Str) = "quarter") = false by decide +kernel)) fun H1 A => ?_
    refine q_skip A (EvT.is (by walk_at "ev") (show decide (("both" : Str) = "back") = false by decide +kernel)) fun H1 A => ?_
    refine q_ifR A (b := true) (EvT.is (by walk_at "ev") (show decide (("both" : Str) = "both") = true by decide +kernel)) (fun _ H1 A => st_ret A (ev_make (ew_var rfl) rfl) kr) (fun z => by cases z)
  | wh j k =>
    have A : At H [] H σ [.dat (wordsD (.wh j k)), .dat (.int n)] := A
    refine q_drop A (d := .non) (by walk_at "ev"; exact ⟨rfl, .inr ⟨_, j, k, n, .inl rfl, ho.2.2, ho.1, ho.2.1, rfl⟩⟩) fun H1 A => ?_
    refine q_skip A (EvT.is (by walk_at "ev") (show decide (("where" : Str) = "over") = false by decide +kernel)) fun H1 A => ?_
    refine q_skip A (EvT.is (by walk_at "ev") (show decide (("where" : Str) = "quarter") = false by decide +kernel)) fun H1 A => ?_
    refine q_skip A (EvT.is (by walk_at "ev") (show decide (("where" : Str) = "back") = false by decide +kernel)) fun H1 A => ?_
    refine q_skip A (EvT.is (by walk_at "ev") (show decide (("where" : Str) = "both") = false by decide +kernel)) fun H1 A => ?_
    refine q_ifR A (b := true) (EvT.is (by walk_at "ev") (show decide (("where" : Str) = "where") = true by decide +kernel)) (fun _ H1 A => st_ret A (ev_make (ew_var rfl) rfl) kr) (fun z => by cases z)
  | sw j k =>
    have A : At H [] H σ [.dat (wordsD (.sw j k)), .dat (.int n)] := A
    refine q_drop A (d := .non) (by walk_at "ev"; exact ⟨rfl, .inr ⟨_, j, k, n, .inr rfl, ho.2.2, ho.1, ho.2.1, rfl⟩⟩) fun H1 A => ?_
    refine q_skip A (EvT.is (by walk_at "ev") (show decide (("swap" : Str) = "over") = false by decide +kernel)) fun H1 A => ?_
    refine q_skip A (EvT.is (by walk_at "ev") (show decide (("swap" : Str) = "quarter") = false by decide +kernel)) fun H1 A => ?_
    refine q_skip A (EvT.is (by walk_at "ev") (show decide (("swap" : Str) = "back") = false by decide +kernel)) fun H1 A => ?_
    refine q_skip A (EvT.is (by walk_at "ev") (show decide (("swap" : Str) = "both") = false by decide +kernel)) fun H1 A => ?_
    refine q_skip A (EvT.is (by walk_at "ev") (show decide (("swap" : Str) = "where") = false by decide +kernel)) fun H1 A => ?_
    exact st_ret A (ev_make (ew_var rfl) rfl) kr
/-! ### on_row, undoing: whichever class -/
theorem ev_onrow {Δ : Vw} {to ta : _} {E : XK} {e : Dd} {r : Row} (ho : EvW to Δ (insD K e)) (ha : EvA ta Δ [rowD r]) (he : e.ok 9) (hr : r.wf 9) :
    Ev (tAlt (tMeth (He.ga K "Over") "on_row" (spF (Ro_Over K)) [] E to ta) (tAlt (tMeth (He.ga K "Quarter") "on_row" (spF (Ro_Quarter K)) [] E to ta) (tAlt (tMeth (He.ga K "Back") "on_row" (spF (Ro_Back K)) [] E to ta) (tAlt (tMeth (He.ga K "Both") "on_row" (spF (Ro_Both K)) [] E to ta) (tAlt (tMeth (He.ga K "Where") "on_row" (spF (Ro_Where K)) [] E to ta) (tMeth (He.ga K "Swap") "on_row" (spF (Ro_Swap K)) [] E to ta)))))) Δ (rowD (act e r)) := by
  cases e with
  | ov k => exact ev_alt1 (ev_meth ho (by decide +kernel) ha (dd := []) (fun _ => rfl) ⟨k, r, he, hr, rfl, rfl⟩)
  | qu k => exact ev_alt2 (ev_alt1 (ev_meth ho (by decide +kernel) ha (dd := []) (fun _ => rfl) ⟨k, r, he, hr, rfl, rfl⟩))
  | ba k => exact ev_alt2 (ev_alt2 (ev_alt1 (ev_meth ho (by decide +kernel) ha (dd := []) (fun _ => rfl) ⟨k, r, he, hr, rfl, rfl⟩)))
  | bo k => exact ev_alt2 (ev_alt2 (ev_alt2 (ev_alt1 (ev_meth ho (by decide +kernel) ha (dd := []) (fun _ => rfl) ⟨k, r, he, hr, rfl, rfl⟩))))
  | wh j k => exact ev_alt2 (ev_alt2 (ev_alt2 (ev_alt2 (ev_alt1 (ev_meth ho (by decide +kernel) ha (dd := []) (fun _ => rfl) ⟨j, k, r, he.1, he.2.1, he.2.2, hr, rfl, rfl⟩)))))
  | sw j k => exact ev_alt2 (ev_alt2 (ev_alt2 (ev_alt2 (ev_alt2 ((ev_meth ho (by decide +kernel) ha (dd := []) (fun _ => rfl) ⟨j, k, r, he.1, he.2.1, he.2.2, hr, rfl, rfl⟩))))))
theorem ev_undoing {Δ : Vw} {to : TE} {E : XK} {e : Dd} (ho : EvW to Δ (insD K e)) :
    Ev (tAlt (tMeth (He.ga K "Over") "undoing" (spF (Ru_Over K)) [] E to tNil) (tAlt (tMeth (He.ga K "Quarter") "undoing" (spF (Ru_Quarter K)) [] E to tNil) (tAlt (tMeth (He.ga K "Back") "undoing" (spF (Ru_Back K)) [] E to tNil) (tAlt (tMeth (He.ga K "Both") "undoing" (spF (Ru_Both K)) [] E to tNil) (tAlt (tMeth (He.ga K "Where") "undoing" (spF (Ru_Where K)) [] E to tNil) (tMeth (He.ga K "Swap") "undoing" (spF (Ru_Swap K)) [] E to tNil)))))) Δ (.lst [wordsD (undo e)]) := by
  cases e with
  | ov k => exact ev_alt1 (ev_meth ho (by decide +kernel) ea_nil (dd := []) (fun _ => rfl) ⟨k, rfl, rfl⟩)
  | qu k => exact ev_alt2 (ev_alt1 (ev_meth ho (by decide +kernel) ea_nil (dd := []) (fun _ => rfl) ⟨k, rfl, rfl⟩))
  | ba k => exact ev_alt2 (ev_alt2 (ev_alt1 (ev_meth ho (by decide +kernel) ea_nil (dd := []) (fun _ => rfl) ⟨k, rfl, rfl⟩)))
  | bo k => exact ev_alt2 (ev_alt2 (ev_alt2 (ev_alt1 (ev_meth ho (by decide +kernel) ea_nil (dd := []) (fun _ => rfl) ⟨k, rfl, rfl⟩))))
  | wh j k => exact ev_alt2 (ev_alt2 (ev_alt2 (ev_alt2 (ev_alt1 (ev_meth ho (by decide +kernel) ea_nil (dd := []) (fun _ => rfl) ⟨j, k, rfl, rfl⟩)))))
  | sw j k => exact ev_alt2 (ev_alt2 (ev_alt2 (ev_alt2 (ev_alt2 ((ev_meth ho (by decide +kernel) ea_nil (dd := []) (fun _ => rfl) ⟨j, k, rfl, rfl⟩))))))
def R_row_behind (ds : List Dat) (d : Dat) : Prop := ∃ (ws : List Dd) (r : Row) (n : Nat), n ≤ 9 ∧ (∀ e ∈ ws, e.ok n) ∧ r.wf 9 ∧ ds = [.lst (ws.map wordsD), rowD r, .int n] ∧ d = rowD (actW ws r)
theorem sc_row_behind : FnScope ["work", "row", "n", "found", "words"] ["work", "row", "n"] (defScope s_row_behind) := ⟨rfl, rfl, rfl, by decide +kernel, rfl, by decide +kernel, by decide +kernel⟩
theorem c_row_behind (T : Wd K mg) : Cal P w K mg base "row_behind" 4 ["work", "row", "n"] (spF R_row_behind) := by
  obtain ⟨fd, F⟩ := F_row_behind T
  have C_deed_of := c_deed_of (P := P) (w := w) (base := base) T
  obtain ⟨_, OK_Over_on_row, B_Over_on_row⟩ := o_Over (P := P) (w := w) (base := base) T
  obtain ⟨_, OK_Quarter_on_row, B_Quarter_on_row⟩ := o_Quarter (P := P) (w := w) (base := base) T
  obtain ⟨_, OK_Back_on_row, B_Back_on_row⟩ := o_Back (P := P) (w := w) (base := base) T
  obtain ⟨_, OK_Both_on_row, B_Both_on_row⟩ := o_Both (P := P) (w := w) (base := base) T
  obtain ⟨_, OK_Where_on_row, B_Where_on_row⟩ := o_Where (P := P) (w := w) (base := base) T
  obtain ⟨_, OK_Swap_on_row, B_Swap_on_row⟩ := o_Swap (P := P) (w := w) (base := base) T
  refine ⟨_, fd, G_row_behind T, fn_pure F sc_row_behind (fun ds d ⟨ws, r, n, _, _, _, e, _⟩ => by rw [e]; rfl) (by decide) (fun cdv A outer s H hr => ⟨_, (pss_cons (ps_set (i := 3) sc_row_behind.nd rfl (Or.inl rfl) (pv 1))
      (pss_cons (ps_for PassesOwn.never rfl (pi_list (pv 0)) (pg_name (i := 4) sc_row_behind.nd rfl (Or.inl rfl))
        (pss_one (ps_set (i := 3) sc_row_behind.nd rfl (Or.inl rfl) (pe_alt (pe_meth (pe_f C_deed_of (hr.mono (by decide)) rfl (pa_cons (pv 4) (pa_cons (pv 2) pa_nil))) (L_Over T) (M_Over_on_row T) OK_Over_on_row (hr.mono (by decide)) B_Over_on_row .nil pass0 (pa_cons (pv 3) pa_nil))
          (pe_alt (pe_meth (pe_f C_deed_of (hr.mono (by decide)) rfl (pa_cons (pv 4) (pa_cons (pv 2) pa_nil))) (L_Quarter T) (M_Quarter_on_row T) OK_Quarter_on_row (hr.mono (by decide)) B_Quarter_on_row .nil pass0 (pa_cons (pv 3) pa_nil))
          (pe_alt (pe_meth (pe_f C_deed_of (hr.mono (by decide)) rfl (pa_cons (pv 4) (pa_cons (pv 2) pa_nil))) (L_Back T) (M_Back_on_row T) OK_Back_on_row (hr.mono (by decide)) B_Back_on_row .nil pass0 (pa_cons (pv 3) pa_nil))
          (pe_alt (pe_meth (pe_f C_deed_of (hr.mono (by decide)) rfl (pa_cons (pv 4) (pa_cons (pv 2) pa_nil))) (L_Both T) (M_Both_on_row T) OK_Both_on_row (hr.mono (by decide)) B_Both_on_row .nil pass0 (pa_cons (pv 3) pa_nil))
          (pe_alt (pe_meth (pe_f C_deed_of (hr.mono (by decide)) rfl (pa_cons (pv 4) (pa_cons (pv 2) pa_nil))) (L_Where T) (M_Where_on_row T) OK_Where_on_row (hr.mono (by decide)) B_Where_on_row .nil pass0 (pa_cons (pv 3) pa_nil))
          (pe_meth (pe_f C_deed_of (hr.mono (by decide)) rfl (pa_cons (pv 4) (pa_cons (pv 2) pa_nil))) (L_Swap T) (M_Swap_on_row T) OK_Swap_on_row (hr.mono (by decide)) B_Swap_on_row .nil pass0 (pa_cons (pv 3) pa_nil))))))))))
      (pss_one (ps_ret (pv 3))))), ?_⟩), F.kp, F.bindsN (fun _ _ _ _ _ _ us hl => match us, hl with | [_, _, _], _ => rfl)⟩
  rintro ds d ⟨ws, r, n, hn, ho, hw, rfl, rfl⟩ D σ A kr kn
  have A : At H [] H σ [.dat (.lst (ws.map wordsD)), .dat (rowD r), .dat (.int n), .no, .no] := A
  refine q_asg A (d := rowD r) (Ev.p (by walk_at "ev")) fun σ H1 A => ?_
  refine q_forN (ds := ws.map wordsD) (fun i Γ => ∃ e, Γ = [.dat (.lst (ws.map wordsD)), .dat (rowD r), .dat (.int n), .dat (rowD (actW (ws.take i) r)), e]) A (sp_list (ep_var rfl)) (nl_work ws) ⟨_, rfl⟩ ?_ ?_
  · rintro i d Γ gh σ H2 hd ⟨e, rfl⟩ A
    obtain ⟨x, hx, rfl⟩ := map_at hd
    have hxn := ho x (List.mem_of_getElem? hx)
    have A : At _ gh H2 σ [.dat (.lst (ws.map wordsD)), .dat (rowD r), .dat (.int n), .dat (rowD (actW (ws.take i) r)), .dat (wordsD x)] := A
    refine st_asg A (d := rowD (act x (actW (ws.take i) r))) (Ev.p (ev_onrow (Ev.w (ev_call (ea_cons (ew_var rfl) (ea_cons (ew_var rfl) ea_nil)) ⟨x, n, hxn, rfl, rfl⟩)) (ea_cons (ew_var rfl) ea_nil) (ok_le hxn hn) (wf_actW (fun y hy => ok_le (ho y (List.mem_of_mem_take hy)) hn) hw))) fun σ H3 A => ⟨_, ⟨.dat (wordsD x), ?_⟩, A⟩
    rw [actW_take hx]
    rfl
  · rintro Γ σ H2 ⟨e, rfl⟩ A
    rw [List.length_map, List.take_of_length_le (Nat.le_refl _)] at A
    exact st_ret A (by walk_at "ev") kr
def R_undone (ds : List Dat) (d : Dat) : Prop := ∃ ws : List Dd, ws.length ≤ 5000 ∧ (∀ e ∈ ws, e.ok 9) ∧ ds = [.lst (ws.map wordsD)] ∧ d = .lst ((ws.reverse.map undo).map wordsD)
theorem sc_undone : FnScope ["work", "found", "words"] ["work"] (defScope s_undone) := ⟨rfl, rfl, rfl, by decide +kernel, rfl, by decide +kernel, by decide +kernel⟩
theorem c_undone (T : Wd K mg) : Cal P w K mg base "undone" 4 ["work"] (spF R_undone) := by
  obtain ⟨fd, F⟩ := F_undone T
  have C_deed_of := c_deed_of (P := P) (w := w) (base := base) T
  obtain ⟨_, OK_Over_undoing, B_Over_undoing⟩ := u_Over (P := P) (w := w) (base := base) T
  obtain ⟨_, OK_Quarter_undoing, B_Quarter_undoing⟩ := u_Quarter (P := P) (w := w) (base := base) T
  obtain ⟨_, OK_Back_undoing, B_Back_undoing⟩ := u_Back (P := P) (w := w) (base := base) T
  obtain ⟨_, OK_Both_undoing, B_Both_undoing⟩ := u_Both (P := P) (w := w) (base := base) T
  obtain ⟨_, OK_Where_undoing, B_Where_undoing⟩ := u_Where (P := P) (w := w) (base := base) T
  obtain ⟨_, OK_Swap_undoing, B_Swap_undoing⟩ := u_Swap (P := P) (w := w) (base := base) T
  refine ⟨_, fd, G_undone T, fn_pure F sc_undone (fun ds d ⟨ws, _, _, e, _⟩ => by rw [e]; rfl) (by decide) (fun cdv A outer s H hr => ⟨_, (pss_cons (ps_set (i := 1) sc_undone.nd rfl (Or.inl rfl) (pe_lst pa_nil))
      (pss_cons (ps_for PassesOwn.never rfl (pi_reversed rfl (T_reversed T) (pa_cons (pv 0) pa_nil)) (pg_name (i := 2) sc_undone.nd rfl (Or.inl rfl))
        (pss_one (ps_expr (pe_bm PySem.F.plainAttrs_list PySem.F.slot_list_extend PySem.F.type_list_extend mt_extend (pv 1) (pa_cons (pe_alt (pe_meth0 (pe_f C_deed_of (hr.mono (by decide)) rfl (pa_cons (pv 2) (pa_cons (pe_op op_add pe_int (pe_callB (cr_maxT rfl hr) rfl (T_max T) (by decide +kernel) (pa_cons (pe_slice sl_tup (pv 2) (po_some pe_int) po_none) pa_nil))) pa_nil))) (L_Over T) (M_Over_undoing T) OK_Over_undoing (hr.mono (by decide)) B_Over_undoing .nil pass0)
          (pe_alt (pe_meth0 (pe_f C_deed_of (hr.mono (by decide)) rfl (pa_cons (pv 2) (pa_cons (pe_op op_add pe_int (pe_callB (cr_maxT rfl hr) rfl (T_max T) (by decide +kernel) (pa_cons (pe_slice sl_tup (pv 2) (po_some pe_int) po_none) pa_nil))) pa_nil))) (L_Quarter T) (M_Quarter_undoing T) OK_Quarter_undoing (hr.mono (by decide)) B_Quarter_undoing .nil pass0)
          (pe_alt (pe_meth0 (pe_f C_deed_of (hr.mono (by decide)) rfl (pa_cons (pv 2) (pa_cons (pe_op op_add pe_int (pe_callB (cr_maxT rfl hr) rfl (T_max T) (by decide +kernel) (pa_cons (pe_slice sl_tup (pv 2) (po_some pe_int) po_none) pa_nil))) pa_nil))) (L_Back T) (M_Back_undoing T) OK_Back_undoing (hr.mono (by decide)) B_Back_undoing .nil pass0)
          (pe_alt (pe_meth0 (pe_f C_deed_of (hr.mono (by decide)) rfl (pa_cons (pv 2) (pa_cons (pe_op op_add pe_int (pe_callB (cr_maxT rfl hr) rfl (T_max T) (by decide +kernel) (pa_cons (pe_slice sl_tup (pv 2) (po_some pe_int) po_none) pa_nil))) pa_nil))) (L_Both T) (M_Both_undoing T) OK_Both_undoing (hr.mono (by decide)) B_Both_undoing .nil pass0)
          (pe_alt (pe_meth0 (pe_f C_deed_of (hr.mono (by decide)) rfl (pa_cons (pv 2) (pa_cons (pe_op op_add pe_int (pe_callB (cr_maxT rfl hr) rfl (T_max T) (by decide +kernel) (pa_cons (pe_slice sl_tup (pv 2) (po_some pe_int) po_none) pa_nil))) pa_nil))) (L_Where T) (M_Where_undoing T) OK_Where_undoing (hr.mono (by decide)) B_Where_undoing .nil pass0)
          (pe_meth0 (pe_f C_deed_of (hr.mono (by decide)) rfl (pa_cons (pv 2) (pa_cons (pe_op op_add pe_int (pe_callB (cr_maxT rfl hr) rfl (T_max T) (by decide +kernel) (pa_cons (pe_slice sl_tup (pv 2) (po_some pe_int) po_none) pa_nil))) pa_nil))) (L_Swap T) (M_Swap_undoing T) OK_Swap_undoing (hr.mono (by decide)) B_Swap_undoing .nil pass0)))))) pa_nil)))))
      (pss_one (ps_ret (pv 1))))), ?_⟩), F.kp, F.bindsN (fun _ _ _ _ _ _ us hl => match us, hl with | [_], _ => rfl)⟩
  rintro ds d ⟨ws, hl, ho, rfl, rfl⟩ D σ A kr kn
  have A : At H [] H σ [.dat (.lst (ws.map wordsD)), .no, .no] := A
  refine q_own A (ds := []) (by walk_at "ev") rfl (by show 1 < 3; decide) fun l σ H1 A => ?_
  refine q_forN (ds := ws.reverse.map wordsD) (fun i Γ => ∃ e, (∀ l c, e ≠ .own l c) ∧ Γ = [.dat (.lst (ws.map wordsD)), .own l (.lst (((ws.reverse.take i).map undo).map wordsD)), e]) A (srcp_is (sp_rev (ep_var rfl)) List.map_reverse.symm) (nl_work _) ⟨_, fun l c z => (by cases z), rfl⟩ ?_ ?_
  · rintro i d Γ gh σ H2 hd ⟨e, ne, rfl⟩ A
    obtain ⟨x, hx, rfl⟩ := map_at hd
    have hxo := ho x (List.mem_reverse.mp (List.mem_of_getElem? hx))
    have A : At _ gh H2 σ [.dat (.lst (ws.map wordsD)), .own l (.lst (((ws.reverse.take i).map undo).map wordsD)), .dat (wordsD x)] := A
    have one : ∃ (m : Int) (ms : List Int) (n : Nat), (∃ a, wordsD x = .tup (a :: (m :: ms).map Dat.int) ∧ nl a = true) ∧ 1 + PySem.W.maxOf m ms = (n : Int) ∧ x.ok n := by
      cases x with
      | ov k => exact ⟨k, [], k + 1, ⟨_, rfl, rfl⟩, by show 1 + (k : Int) = _; omega, Nat.lt_succ_self k⟩
      | qu k => exact ⟨k, [], k + 1, ⟨_, rfl, rfl⟩, by show 1 + (k : Int) = _; omega, Nat.lt_succ_self k⟩
      | ba k => exact ⟨k, [], k + 1, ⟨_, rfl, rfl⟩, by show 1 + (k : Int) = _; omega, Nat.lt_succ_self k⟩
      | bo k => exact ⟨k, [], k + 1, ⟨_, rfl, rfl⟩, by show 1 + (k : Int) = _; omega, Nat.lt_succ_self k⟩
      | wh j k =>
        refine ⟨j, [(k : Int)], max j k + 1, ⟨_, rfl, rfl⟩, ?_, by have := hxo.2.2; show j < _ ∧ k < _ ∧ _; omega⟩
        show 1 + (if decide ((j : Int) < k) = true then (k : Int) else j) = _
        by_cases h : (j : Int) < k
        · rw [if_pos (decide_eq_true h)]; omega
        · rw [if_neg (by simpa using h)]; omega
      | sw j k =>
        refine ⟨j, [(k : Int)], max j k + 1, ⟨_, rfl, rfl⟩, ?_, by have := hxo.2.2; show j < _ ∧ k < _ ∧ _; omega⟩
        show 1 + (if decide ((j : Int) < k) = true then (k : Int) else j) = _
        by_cases h : (j : Int) < k
        · rw [if_pos (decide_eq_true h)]; omega
        · rw [if_neg (by simpa using h)]; omega
    obtain ⟨m, ms, n, ⟨a, ea, na⟩, em, hxn⟩ := one
    refine st_ext A rfl (es := [wordsD (undo x)]) (Ev.w (ev_undoing (e := x) (Ev.w (ev_call (ds := [wordsD x, .int n]) (ea_cons (ew_var rfl) (ea_cons ?_ ea_nil)) ⟨x, n, hxn, rfl, rfl⟩)))) (by show (nl (wordsD (undo x)) && true) = true; rw [nl_words]; rfl) ?_ fun H3 A => ⟨_, ⟨.dat (wordsD x), fun l c z => (by cases z), ?_⟩, A⟩
    · rw [← em]
      refine Ev.w (ev_I0 (Ev.w ev_int) (Ev.w (ev_maxT (Ev.w (ev_tailT (a := a) ?_ ?_)))))
      · rw [← ea]; exact ew_var rfl
      · show (nl a && nlAll ((m :: ms).map Dat.int)) = true
        rw [na, nl_ints]; rfl
    · rw [List.length_map, List.length_map, List.length_take, List.length_reverse]
      show _ + 1 ≤ _
      omega
    · rw [List.take_add_one, hx, List.map_append, List.map_append]
      rfl
  · rintro Γ σ H2 ⟨e, ne, rfl⟩ A
    rw [List.length_map, List.take_of_length_le (Nat.le_refl _)] at A
    exact st_retO A rfl (nl_work _) kr

end
end K92
end
section
set_option maxHeartbeats 4000000

namespace K92
open PySem PySem.Spec PyProof.Rows L2
section
variable {P : Program} {w : World} {K : PySem.W.Frag} {mg : Str → Option Value} {base : Heap}
/-! ### places, deeds_of -/
def plc (n : Nat) : List Nat := (List.range (Builtin.Int.intBits (n : Int))).filter fun k => n.testBit k
def R_places (ds : List Dat) (d : Dat) : Prop := ∃ n : Nat, n < 2 ^ 64 ∧ ds = [.int n] ∧ d = .lst ((plc n).map fun k => Dat.int (k : Nat))
theorem intBits_le {n k : Nat} (h : n < 2 ^ k) : Builtin.Int.intBits (n : Int) ≤ k := by
  unfold Builtin.Int.intBits
  by_cases h0 : (n : Int) = 0
  · rw [h0]; simp
  · have e : ((n : Int) == 0) = false := beq_eq_false_iff_ne.mpr h0
    rw [e]
    show (n : Int).natAbs.log2 + 1 ≤ k
    rw [Int.natAbs_natCast]
    have := (Nat.log2_lt (by omega)).mpr h
    omega
theorem sc_places : FnScope ["number", "k"] ["number"] (defScope s_places) := ⟨rfl, rfl, rfl, by decide +kernel, rfl, by decide +kernel, by decide +kernel⟩
theorem c_places (T : Wd K mg) : Cal P w K mg base "places" 1 ["number"] (spF R_places) := by
  obtain ⟨fd, F⟩ := F_places T
  refine ⟨_, fd, G_places T, fn_pure F sc_places (fun ds d ⟨r, _, e, _⟩ => by rw [e]; rfl) (by decide) (fun cdv A outer s H hr => ⟨_, (pss_one (ps_ret (pe_lc (own := [("k", 1)]) (g := gName 1) rfl sc_places.nd (pi_range1 rfl (T_range T) (pa_cons (pe_bits (pv 0)) pa_nil)) (blkOk_by (own := [("k", 1)]) (N := ["number", "k"]) (sc := defScope s_places) (by decide +kernel)) (fun _ _ _ _ _ => pg_name (i := 1) sc_places.nd rfl (Or.inl rfl)) (fun _ _ _ _ _ => (pts_one (pt_cmpR op_eq (pe_op op_and (pe_op op_shr (pv 0) (pv 1)) pe_int) pe_int (nomark _)))) (fun _ _ _ _ _ => (pv 1))))), ?_⟩), F.kp, F.bindsN (fun _ _ _ _ _ _ us hl => match us, hl with | [_], _ => rfl)⟩
  rintro ds d ⟨n, hn, rfl, rfl⟩ D σ A kr kn
  have A : At H [] H σ [.dat (.int n), .no] := A
  have hb : Builtin.Int.intBits (n : Int) ≤ 64 := intBits_le hn
  refine st_ret A (ev_lc (List.range (Builtin.Int.intBits (n : Int))) (fun k => Dat.int (k : Nat)) (fun k => n.testBit k) (fun k => Dat.int (k : Nat)) (src_is (sr_rng1 (ea_cons (Ev.w (by walk_at "ev")) ea_nil) ⟨by omega, by omega⟩) (by rw [Int.toNat_natCast]; exact rng0 _)) (by rw [List.length_range]; omega) (fun k _ => ?_) (fun k _ _ => by walk_at "ev") (fun _ _ _ => rfl)) kr
  refine EvT.is (b := decide (Builtin.bitAnd ((n : Int) / 2 ^ ((k : Int)).toNat) 1 = 1)) (by walk_at "ev"; exact Int.natCast_nonneg k) ?_
  rw [nb_bit, b2i_eq1]
def ddeeds (r : Row) : List Dd := (plc r.x).map Dd.ov ++ (plc r.z).flatMap fun k => [Dd.qu k, Dd.qu k]
def R_deeds_of (ds : List Dat) (d : Dat) : Prop := ∃ r : Row, r.wf 9 ∧ ds = [rowD r] ∧ d = .lst ((ddeeds r).map wordsD)
theorem sc_deeds_of : FnScope ["row", "k", "found"] ["row"] (defScope s_deeds_of) := ⟨rfl, rfl, rfl, by decide +kernel, rfl, by decide +kernel, by decide +kernel⟩
theorem plc_len {n : Nat} (h : n < 2 ^ 9) : (plc n).length ≤ 9 := by
  unfold plc
  refine Nat.le_trans (List.length_filter_le _ _) ?_
  rw [List.length_range]
  exact intBits_le h
theorem c_deeds_of (T : Wd K mg) : Cal P w K mg base "deeds_of" 2 ["row"] (spF R_deeds_of) := by
  obtain ⟨fd, F⟩ := F_deeds_of T
  have C_places := c_places (P := P) (w := w) (base := base) T
  refine ⟨_, fd, G_deeds_of T, fn_pure F sc_deeds_of (fun ds d ⟨r, _, e, _⟩ => by rw [e]; rfl) (by decide) (fun cdv A outer s H hr => ⟨_, (pss_cons (ps_setLc (i := 2) (own := [("k", 1)]) (g := gName 1) rfl sc_deeds_of.nd rfl rfl (sw_true rfl rfl rfl (by decide +kernel))  (pi_list (pe_f C_places (hr.mono (by decide)) rfl (pa_cons (pe_ix ix_tup (pv 0) pe_int (fun _ _ => rfl)) pa_nil))) (blkOk_by (own := [("k", 1)]) (N := ["row", "k", "found"]) (sc := defScope s_deeds_of) (by decide +kernel)) (fun _ _ _ _ _ => pg_name (i := 1) sc_deeds_of.nd rfl (Or.inl rfl)) (fun _ _ _ _ _ => pts_nil) (fun _ _ _ _ _ => (pe_tup (pa_cons pe_str (pa_cons (pv 1) pa_nil)))))
      (pss_cons (ps_for PassesOwn.never rfl (pi_list (pe_f C_places (hr.mono (by decide)) rfl (pa_cons (pe_ix ix_tup (pv 0) pe_int (fun _ _ => rfl)) pa_nil))) (pg_name (i := 1) sc_deeds_of.nd rfl (Or.inl rfl))
        (pss_one (ps_expr (pe_bm PySem.F.plainAttrs_list PySem.F.slot_list_extend PySem.F.type_list_extend mt_extend (pv 2) (pa_cons (pe_lst (pa_cons (pe_tup (pa_cons pe_str (pa_cons (pv 1) pa_nil))) (pa_cons (pe_tup (pa_cons pe_str (pa_cons (pv 1) pa_nil))) pa_nil))) pa_nil)))))
      (pss_one (ps_ret (pv 2))))), ?_⟩), F.kp, F.bindsN (fun _ _ _ _ _ _ us hl => match us, hl with | [_], _ => rfl)⟩
  rintro ds d ⟨r, hw, rfl, rfl⟩ D σ A kr kn
  have A : At H [] H σ [.dat (rowD r), .no, .no] := A
  have l1 := plc_len hw.x
  have l2 := plc_len hw.z
  refine q_own A (ds := ((plc r.x).map Dd.ov).map wordsD) ?_ (nl_work _) (by show 2 < 3; decide) fun l σ H1 A => ?_
  · rw [List.map_map]
    refine ev_lc1 (plc r.x) (fun k => Dat.int (k : Nat)) _ (sr_list (Ev.w (ev_call (ds := [.int r.x]) (by walk_at "ev") ⟨r.x, lt9 hw.x, rfl, rfl⟩))) (by omega) (fun k _ => ?_) (fun _ _ => rfl)
    show Ev _ _ (.tup [.str "over", .int (k : Nat)])
    walk_at "ev"
  refine q_forN (ds := (plc r.z).map fun k => Dat.int (k : Nat)) (fun i Γ => ∃ e, (∀ l c, e ≠ .own l c) ∧ Γ = [.dat (rowD r), e, .own l (.lst (((plc r.x).map Dd.ov ++ ((plc r.z).take i).flatMap fun k => [Dd.qu k, Dd.qu k]).map wordsD))]) A
    (sp_list (Ev.p (ev_call (ds := [.int r.z]) (by walk_at "ev") ⟨r.z, lt9 hw.z, rfl, rfl⟩))) (nlAll_of fun d h => by obtain ⟨k, _, e⟩ := List.mem_map.mp h; rw [← e]; rfl) ⟨.no, fun l c z => (by cases z), by rw [List.take_zero, List.flatMap_nil, List.append_nil]; rfl⟩ ?_ ?_
  · rintro i d Γ gh σ H2 hd ⟨e, ne, rfl⟩ A
    obtain ⟨k, hk, rfl⟩ := map_at hd
    have hi := (List.getElem?_eq_some_iff.mp hk).1
    refine st_ext A rfl (es := [wordsD (.qu k), wordsD (.qu k)]) (Ev.w ?_) rfl ?_ fun H3 A => ⟨_, ⟨.dat (.int (k : Nat)), fun l c z => (by cases z), ?_⟩, A⟩
    · show Ev _ _ (.lst [.tup [.str "quarter", .int (k : Nat)], .tup [.str "quarter", .int (k : Nat)]])
      walk_at "ev"
    · have : (((plc r.z).take i).flatMap fun k => [Dd.qu k, Dd.qu k]).length ≤ 18 := by
        have q : ∀ l : List Nat, (l.flatMap fun k => [Dd.qu k, Dd.qu k]).length = 2 * l.length := fun l => by
          induction l with
          | nil => rfl
          | cons a l ih => rw [List.flatMap_cons, List.length_append, ih]; show 2 + _ = 2 * (l.length + 1); omega
        rw [q, List.length_take]; omega
      rw [List.length_map, List.length_append, List.length_map]
      show _ + 2 ≤ _
      omega
    · have e3 : ((plc r.z).take (i + 1)).flatMap (fun k => [Dd.qu k, Dd.qu k]) = ((plc r.z).take i).flatMap (fun k => [Dd.qu k, Dd.qu k]) ++ [Dd.qu k, Dd.qu k] := by
        rw [List.take_add_one, hk, List.flatMap_append]
        rfl
      rw [e3, ← List.append_assoc, List.map_append (l₂ := [Dd.qu k, Dd.qu k])]
      rfl
  · rintro Γ σ H2 ⟨e, ne, rfl⟩ A
    rw [List.length_map, List.take_of_length_le (Nat.le_refl _)] at A
    exact st_retO A rfl (nl_work _) kr
/-! ### all_beside -/
def R_all_beside (ds : List Dat) (d : Dat) : Prop := ∃ rs : List Row, rs.length ≤ 100 ∧ (∀ r ∈ rs, r.wf 9) ∧ Bes rs ∧ ds = [.lst (rs.map rowD)] ∧ d = .bl true
theorem sc_all_beside : FnScope ["rows", "k", "row", "other"] ["rows"] (defScope s_all_beside) := ⟨rfl, rfl, rfl, by decide +kernel, rfl, by decide +kernel, by decide +kernel⟩
theorem c_all_beside (T : Wd K mg) : Cal P w K mg base "all_beside" 3 ["rows"] (spF R_all_beside) := by
  obtain ⟨fd, F⟩ := F_all_beside T
  have C_goes_beside := c_goes_beside (P := P) (w := w) (base := base) T
  refine ⟨_, fd, G_all_beside T, fn_pure F sc_all_beside (fun ds d ⟨r, _, _, _, e, _⟩ => by rw [e]; rfl) (by decide) (fun cdv A outer s H hr => ⟨_, (pss_cons (ps_for PassesOwn.never rfl (pi_enum rfl (T_enumerate T) (pa_cons (pv 0) pa_nil)) (pg_tup rfl (pgs_cons (pg_name (i := 1) sc_all_beside.nd rfl (Or.inl rfl)) (pgs_cons (pg_name (i := 2) sc_all_beside.nd rfl (Or.inl rfl)) pgs_nil)))
        (pss_one (ps_for PassesOwn.never rfl (pi_list (pe_slice sl_list (pv 0) po_none (po_some (pv 1)))) (pg_name (i := 3) sc_all_beside.nd rfl (Or.inl rfl))
        (pss_one (ps_if (pt_not (pt_val (pe_f C_goes_beside (hr.mono (by decide)) rfl (pa_cons (pv 2) (pa_cons (pv 3) pa_nil))))) (pss_one (ps_ret pe_bl)) pss_nil)))))
      (pss_one (ps_ret pe_bl))), ?_⟩), F.kp, F.bindsN (fun _ _ _ _ _ _ us hl => match us, hl with | [_], _ => rfl)⟩
  rintro ds d ⟨rs, hl, hw, hb, rfl, rfl⟩ D σ A kr kn
  have A : At H [] H σ [.dat (.lst (rs.map rowD)), .no, .no, .no] := A
  refine q_for2 (ds := enumD 0 (rs.map rowD)) (fun i Γ => ∃ e1 e2 e3, Γ = [.dat (.lst (rs.map rowD)), e1, e2, e3]) A (sp_enum (ep_var rfl)) (enum_nl (nl_rows rs)) ⟨_, _, _, rfl⟩ (fun i d h => by obtain ⟨d', _, e⟩ := enum_at h; exact ⟨_, _, e⟩) ?_ ?_
  · rintro i d1 d2 Γ gh σ H2 hd ⟨e1, e2, e3, rfl⟩ A
    obtain ⟨d', h1, h2⟩ := enum_at hd
    obtain ⟨r, hr', rfl⟩ := map_at h1
    obtain ⟨rfl, rfl⟩ : d1 = .int ((0 + i : Nat)) ∧ d2 = rowD r := by
      injection h2 with h3
      injection h3 with h4 h5
      injection h5 with h6
      exact ⟨h4, h6⟩
    have A : At _ gh H2 σ [.dat (.lst (rs.map rowD)), .dat (.int ((0 + i : Nat))), .dat (rowD r), e3] := A
    refine st_forN (ds := cutD (rs.map rowD) none (some ((0 + i : Nat) : Int))) (fun j Γ => ∃ e3, Γ = [.dat (.lst (rs.map rowD)), .dat (.int ((0 + i : Nat))), .dat (rowD r), e3]) A (sp_list (Ev.p (ev_slL (ew_var rfl) eo_none (eo_some (ew_var rfl)) (nl_rows rs)))) (nl_cutD (nl_rows rs)) ⟨_, rfl⟩ ?_ ?_
    · rintro j d Γ gh σ H3 hd ⟨e3, rfl⟩ A
      have hm : d ∈ rs.map rowD := by
        have := List.mem_of_getElem? hd
        exact List.mem_of_mem_drop (List.mem_of_mem_take this)
      obtain ⟨o, ho, rfl⟩ := List.mem_map.mp hm
      have hrm := List.mem_of_getElem? hr'
      have A : At _ gh H3 σ [.dat (.lst (rs.map rowD)), .dat (.int ((0 + i : Nat))), .dat (rowD r), .dat (rowD o)] := A
      refine st_skip A (EvT.is (b := !true) (by
        walk_at "ev"
        exact ⟨r, o, hw r hrm, hw o ho, rfl, by rw [hb r hrm o ho]; rfl⟩) rfl) fun H4 A => ⟨_, ⟨_, rfl⟩, A⟩
    · rintro Γ σ H3 ⟨e3, rfl⟩ A
      exact ⟨_, ⟨_, _, _, rfl⟩, A⟩
  · rintro Γ σ H2 ⟨e1, e2, e3, rfl⟩ A
    exact st_ret A (by walk_at "ev") kr

end
end K92
end
section
set_option maxHeartbeats 4000000

namespace K92
open PySem PySem.Spec PyProof.Rows L2
section
variable {P : Program} {w : World} {K : PySem.W.Frag} {mg : Str → Option Value} {base : Heap}
/-! ### brought_down, telling -/
theorem cols_bit {r : Row} (h : r.wf 9) (k : Nat) : (cols r).testBit k = cbit r k := by
  unfold cols cbit
  rw [Nat.testBit_or, Nat.testBit_shiftLeft]
  by_cases hk : k < 64
  · rw [if_pos hk, decide_eq_false (by omega)]; simp
  · rw [if_neg hk, decide_eq_true (by omega)]
    have : r.x.testBit k = false := Nat.testBit_lt_two_pow (Nat.lt_of_lt_of_le h.x (Nat.pow_le_pow_right (by decide) (by omega)))
    rw [this]; simp
theorem et_col {Δ : Vw} {te tk : TE} {r : Row} {k : Nat} {E : XK} (h : EvW te Δ (rowD r)) (hk : EvW tk Δ (.int (k : Nat))) (hw : r.wf 9) :
    EvT (tTest (tOp rEq (tOp (rI0 fun i j => .int (Builtin.bitAnd i j)) (tOp (rI (fun _ j => 0 ≤ j) fun i j => .int (i / 2 ^ j.toNat)) (tCall (spF R_columns) [] E (tCons te tNil)) tk) (tC (.int 1))) (tC (.int 1)))) Δ (cbit r k) := by
  refine EvT.is (et_test (Ev.w (ev_eqI (Ev.w (ev_I0 (Ev.w (ev_I (Ev.w (ev_call (ea_cons h ea_nil) ⟨r, hw, rfl, rfl⟩)) hk (Int.natCast_nonneg k))) ev_int.w)) ev_int.w))) ?_
  rw [nb_bit, b2i_eq1, cols_bit hw]
def R_brought_down (ds : List Dat) (d : Dat) : Prop := ∃ (n : Nat) (rs : List Row), n ≤ 9 ∧ Good n rs ∧ ds = [.lst (rs.map rowD), .int n] ∧ d = .tup [.lst ((tell n rs).map rowD), .lst []]
theorem sc_brought_down : FnScope ["rows", "n", "found", "rest", "k", "row", "here", "lead"] ["rows", "n"] (defScope s_brought_down) := ⟨rfl, rfl, rfl, by decide +kernel, rfl, by decide +kernel, by decide +kernel⟩
theorem bstep_nil {k : Nat} {s : List Row × List Row} (h : (s.2.filter fun r => cbit r k) = []) : bstep k s = s := by
  unfold bstep; rw [h]
theorem bstep_cons {k : Nat} {s : List Row × List Row} {l : Row} {t : List Row} (h : (s.2.filter fun r => cbit r k) = l :: t) : bstep k s = (s.1.map (adj k l) ++ [l], (s.2.erase l).map (adj k l)) := by
  unfold bstep; rw [h]
theorem bfold_take {ks : List Nat} {i k : Nat} {s : List Row × List Row} (h : ks[i]? = some k) : bfold (ks.take (i + 1)) s = bstep k (bfold (ks.take i) s) := by
  unfold bfold
  rw [List.take_add_one, h, List.foldl_append]
  rfl
theorem wf9 {n : Nat} (hn : n ≤ 9) {r : Row} (h : r.wf n) : r.wf 9 := ⟨Nat.lt_of_lt_of_le h.x (Nat.pow_le_pow_right (by decide) hn), Nat.lt_of_lt_of_le h.z (Nat.pow_le_pow_right (by decide) hn)⟩
theorem c_brought_down (T : Wd K mg) : Cal P w K mg base "brought_down" 4 ["rows", "n"] (spF R_brought_down) := by
  obtain ⟨fd, F⟩ := F_brought_down T
  have C_columns := c_columns (P := P) (w := w) (base := base) T
  have C_times := c_times (P := P) (w := w) (base := base) T
  refine ⟨_, fd, G_brought_down T, fn_pure F sc_brought_down (fun ds d ⟨n, rs, _, _, e, _⟩ => by rw [e]; rfl) (by decide) (fun cdv A outer s H hr => ⟨_, (pss_cons (ps_set (i := 2) sc_brought_down.nd rfl (Or.inl rfl) (pe_lst pa_nil))
      (pss_cons (ps_set (i := 3) sc_brought_down.nd rfl (Or.inl rfl) (pe_callTy call_list_of rfl (T_list T) (by decide +kernel) (pa_cons (pv 0) pa_nil)))
      (pss_cons (ps_for PassesOwn.never rfl (pi_list (pe_op op_cat (pe_listRg rfl rfl (T_list T) (prg_1 rfl (T_range T) (pv 1))) (pe_listRg rfl rfl (T_list T) (prg_2 rfl (T_range T) (pe_glob (v := .int 64) rfl (T_ABOVE T).choose_spec ⟨_, rfl⟩) (pe_op op_add (pe_glob (v := .int 64) rfl (T_ABOVE T).choose_spec ⟨_, rfl⟩) (pv 1)))))) (pg_name (i := 4) sc_brought_down.nd rfl (Or.inr rfl))
        (pss_cons (ps_setLc (i := 6) (own := [("row", 5)]) (g := gName 5) rfl sc_brought_down.nd rfl rfl (sw_true rfl rfl rfl (by decide +kernel))  (pi_list (pv 3)) (blkOk_by (own := [("row", 5)]) (N := ["rows", "n", "found", "rest", "k", "row", "here", "lead"]) (sc := defScope s_brought_down) (by decide +kernel)) (fun _ _ _ _ _ => pg_name (i := 5) sc_brought_down.nd rfl (Or.inl rfl)) (fun _ _ _ _ _ => (pts_one (pt_cmpR op_eq (pe_op op_and (pe_op op_shr (pe_f C_columns (hr.mono (by decide)) rfl (pa_cons (pv 5) pa_nil)) (pv 4)) pe_int) pe_int (nomark _)))) (fun _ _ _ _ _ => (pv 5)))
      (pss_cons (ps_if (pt_cmpR (op_eqD (hr.units)) (pv 6) (pe_lst pa_nil) (nomark _)) (pss_one ps_continue) pss_nil)
      (pss_cons (ps_set (i := 7) sc_brought_down.nd rfl (Or.inr rfl) (pe_ix ix_list (pv 6) pe_int (fun _ _ => rfl)))
      (pss_cons (ps_expr (pe_bm PySem.F.plainAttrs_list PySem.F.slot_list_remove PySem.F.type_list_remove (mt_removeD (room65 hr)) (pv 3) (pa_cons (pv 7) pa_nil)))
      (pss_cons (ps_setLc (i := 3) (own := [("row", 5)]) (g := gName 5) rfl sc_brought_down.nd rfl rfl (sw_true rfl rfl rfl (by decide +kernel))  (pi_list (pv 3)) (blkOk_by (own := [("row", 5)]) (N := ["rows", "n", "found", "rest", "k", "row", "here", "lead"]) (sc := defScope s_brought_down) (by decide +kernel)) (fun _ _ _ _ _ => pg_name (i := 5) sc_brought_down.nd rfl (Or.inl rfl)) (fun _ _ _ _ _ => pts_nil) (fun _ _ _ _ _ => (pe_ifExp (pt_cmpR op_eq (pe_op op_and (pe_op op_shr (pe_f C_columns (hr.mono (by decide)) rfl (pa_cons (pv 5) pa_nil)) (pv 4)) pe_int) pe_int (nomark _)) (pe_f C_times (hr.mono (by decide)) rfl (pa_cons (pv 5) (pa_cons (pv 7) pa_nil))) (pv 5))))
      (pss_cons (ps_setLc (i := 2) (own := [("row", 5)]) (g := gName 5) rfl sc_brought_down.nd rfl rfl (sw_true rfl rfl rfl (by decide +kernel))  (pi_list (pv 2)) (blkOk_by (own := [("row", 5)]) (N := ["rows", "n", "found", "rest", "k", "row", "here", "lead"]) (sc := defScope s_brought_down) (by decide +kernel)) (fun _ _ _ _ _ => pg_name (i := 5) sc_brought_down.nd rfl (Or.inl rfl)) (fun _ _ _ _ _ => pts_nil) (fun _ _ _ _ _ => (pe_ifExp (pt_cmpR op_eq (pe_op op_and (pe_op op_shr (pe_f C_columns (hr.mono (by decide)) rfl (pa_cons (pv 5) pa_nil)) (pv 4)) pe_int) pe_int (nomark _)) (pe_f C_times (hr.mono (by decide)) rfl (pa_cons (pv 5) (pa_cons (pv 7) pa_nil))) (pv 5))))
      (pss_one (ps_expr (pe_bm PySem.F.plainAttrs_list PySem.F.slot_list_append PySem.F.type_list_append mt_append (pv 2) (pa_cons (pv 7) pa_nil)))))))))))
      (pss_one (ps_ret (pe_tup (pa_cons (pv 2) (pa_cons (pv 3) pa_nil)))))))), ?_⟩), F.kp, F.bindsN (fun _ _ _ _ _ _ us hl => match us, hl with | [_, _], _ => rfl)⟩
  rintro ds d ⟨n, rs, hn, G, rfl, rfl⟩ D σ A kr kn
  have A : At H [] H σ [.dat (.lst (rs.map rowD)), .dat (.int n), .no, .no, .no, .no, .no, .no] := A
  refine q_own A (ds := []) (by walk_at "ev") rfl (by show 2 < 8; decide) fun l1 σ H1 A => ?_
  refine q_own A (ds := rs.map rowD) (ev_cb (ea_cons (ew_var rfl) ea_nil) (rc_list (nl_rows rs))) (nl_rows rs) (by show 3 < 8; decide) fun l2 σ H1 A => ?_
  refine q_forN (ds := (colsOf n).map fun k => Dat.int (k : Nat)) (fun i Γ => ∃ l1 l2 e4 e5 e6 e7, Γ = [.dat (.lst (rs.map rowD)), .dat (.int n), .own l1 (.lst ((bfold ((colsOf n).take i) ([], rs)).1.map rowD)), .own l2 (.lst ((bfold ((colsOf n).take i) ([], rs)).2.map rowD)), e4, e5, e6, e7]) A
    (sp_list (Ev.p (Ev.is (ev_cat (Ev.w (ev_lrg1 (ew_var rfl) (by omega))) (Ev.w (ev_lrg2 ev_int.w (Ev.w (ev_I0 ev_int.w (ew_var rfl))) (by omega))) rng_nl rng_nl (by rw [rng_len, rng_len]; omega)) ?_))) (nlAll_of fun d h => by obtain ⟨k, _, e⟩ := List.mem_map.mp h; rw [← e]; rfl) ⟨l1, l2, _, _, _, _, rfl⟩ ?_ ?_
  · congr 1
    unfold colsOf
    rw [List.map_append, Int.toNat_natCast, rng0, show ((64 : Int) + n - 64).toNat = n by omega]
    congr 1
    unfold rng
    rw [List.map_map]
    exact List.map_congr_left fun i _ => congrArg Dat.int (by show (64 : Int) + (i : Nat) = ((64 + i : Nat) : Int); omega)
  · rintro i d Γ gh σ H2 hd ⟨l1, l2, e4, e5, e6, e7, rfl⟩ A
    obtain ⟨k, hk, rfl⟩ := map_at hd
    have B := bi_fold (ks := (colsOf n).take i) (bi_start G.wf G.bes G.ind)
    revert A B
    rw [bfold_take hk]
    generalize bfold ((colsOf n).take i) ([], rs) = s
    obtain ⟨fo, re⟩ := s
    intro A B
    have A : At _ gh H2 σ [.dat (.lst (rs.map rowD)), .dat (.int n), .own l1 (.lst (fo.map rowD)), .own l2 (.lst (re.map rowD)), .dat (.int (k : Nat)), e5, e6, e7] := A
    have wfr : ∀ r ∈ re, r.wf 9 := fun r h => wf9 hn (B.wf r (List.mem_append_right _ h))
    have wff : ∀ r ∈ fo, r.wf 9 := fun r h => wf9 hn (B.wf r (List.mem_append_left _ h))
    have lenr : re.length ≤ 9 := by have := B.len; have := G.len; dsimp only at *; omega
    have lenf : fo.length ≤ 9 := by have := B.len; have := G.len; dsimp only at *; omega
    refine q_asg A (d := .lst ((re.filter fun r => cbit r k).map rowD)) (Ev.p (ev_lc re rowD (fun r => cbit r k) rowD (sr_list (ew_var rfl)) (by omega) (fun r h => et_col (ew_var rfl) (ew_var rfl) (wfr r h)) (fun r _ _ => ev_var rfl rfl) (fun _ _ _ => rfl))) fun σ H3 A => ?_
    refine q_ifR A (b := decide ((re.filter fun r => cbit r k) = [])) (et_test (Ev.w (ev_eqRows (rs := re.filter fun r => cbit r k) (ss := []) (ew_var rfl) (Ev.w (ev_lst es_nil (by decide)))))) (fun hb H4 A => ?_) (fun hb H4 A => ?_)
    · rw [bstep_nil (s := (fo, re)) (of_decide_eq_true hb)]
      exact ⟨_, ⟨l1, l2, _, _, _, _, rfl⟩, A⟩
    · cases hf : re.filter fun r => cbit r k with
      | nil => rw [hf] at hb; cases hb
      | cons lead tl =>
        rw [bstep_cons (s := (fo, re)) hf]
        rw [hf] at A
        have A : At _ gh H4 σ [.dat (.lst (rs.map rowD)), .dat (.int n), .own l1 (.lst (fo.map rowD)), .own l2 (.lst (re.map rowD)), .dat (.int (k : Nat)), e5, .dat (.lst (rowD lead :: tl.map rowD)), e7] := A
        have hm : lead ∈ re := by
          have : lead ∈ re.filter fun r => cbit r k := by rw [hf]; exact List.mem_cons_self ..
          exact (List.mem_filter.mp this).1
        have wl := wfr lead hm
        refine q_asg A (d := rowD lead) (Ev.p (ev_ixL (ew_var rfl) ev_int.w (atI_nat (j := 0) rfl) rfl)) fun σ H5 A => ?_
        refine q_rem A rfl (ew_var rfl) hm fun H6 A => ?_
        have mem : ∀ r, r ∈ re.erase lead → r ∈ re := fun r h => List.mem_of_mem_erase h
        have adjE : ∀ (Δ : Vw) (r : Row), Δ[5]? = some (some (rowD r)) → Δ[7]? = some (some (rowD lead)) → Δ[4]? = some (some (.int (k : Nat))) → r.wf 9 → ac r lead = false → Ev (tIf (tTest (tOp rEq (tOp (rI0 fun i j => .int (Builtin.bitAnd i j)) (tOp (rI (fun _ j => 0 ≤ j) fun i j => .int (i / 2 ^ j.toNat)) (tCall (spF R_columns) [] E0 (tCons (tVar 5) tNil)) (tVar 4)) (tC (.int 1))) (tC (.int 1)))) (tCall (spF R_times) [] E0 (tCons (tVar 5) (tCons (tVar 7) tNil))) (tVar 5)) Δ (rowD (adj k lead r)) := fun Δ r h5 h7 h4 hw hc => by
          refine ev_if (b := cbit r k) (et_col (ew_var h5) (ew_var h4) hw) (fun e => ?_) (fun e => ?_)
          · have e2 : adj k lead r = mul r lead := by unfold adj; rw [if_pos e]
            rw [e2]
            exact ev_call (ea_cons (ew_var h5) (ea_cons (ew_var h7) ea_nil)) ⟨r, lead, hw, wl, hc, rfl, rfl⟩
          · have e2 : adj k lead r = r := by unfold adj; rw [if_neg (by rw [e]; decide)]
            rw [e2]
            exact ev_var h5 rfl
        refine q_own A (ds := ((re.erase lead).map (adj k lead)).map rowD) ?_ (nl_rows _) (by show 3 < 8; decide) fun l3 σ H7 A => ?_
        · rw [List.map_map]
          exact ev_lc1 (re.erase lead) rowD _ (sr_list (ew_var rfl)) (Nat.le_trans (List.length_erase_le ..) (by omega)) (fun r h => by exact adjE _ r rfl rfl rfl (wfr r (mem r h)) (B.bes r (List.mem_append_right _ (mem r h)) lead (List.mem_append_right _ hm))) (fun _ _ => rfl)
        refine q_own A (ds := (fo.map (adj k lead)).map rowD) ?_ (nl_rows _) (by show 2 < 8; decide) fun l4 σ H7 A => ?_
        · refine Ev.is (d := .lst (fo.map fun r => rowD (adj k lead r))) (ev_lc1 fo rowD _ (sr_list (ew_var rfl)) (by omega) (fun r h => by exact adjE _ r rfl rfl rfl (wff r h) (B.bes r (List.mem_append_left _ h) lead (List.mem_append_right _ hm))) (fun _ _ => rfl)) ?_
          rw [List.map_map]; rfl
        refine st_app A rfl (d := rowD lead) (by walk_at "ev") rfl (by rw [List.length_map, List.length_map]; omega) fun H8 A => ⟨_, ⟨l4, l3, .dat (.int (k : Nat)), e5, .dat (.lst (rowD lead :: tl.map rowD)), .dat (rowD lead), ?_⟩, A⟩
        rw [List.map_append]
        rfl
  · rintro Γ σ H2 ⟨l1, l2, e4, e5, e6, e7, rfl⟩ A
    rw [List.length_map, List.take_of_length_le (Nat.le_refl _)] at A
    obtain ⟨t1, t2, t3⟩ := tell_ok (by omega) G
    rw [t1] at A
    exact st_retOO A rfl rfl (nl_rows _) rfl kr
def R_telling (ds : List Dat) (d : Dat) : Prop := ∃ (n : Nat) (rs : List Row), n ≤ 9 ∧ Good n rs ∧ ds = [.lst (rs.map rowD), .int n] ∧ d = .lst ((tell n rs).map rowD)
theorem sc_telling : FnScope ["rows", "n", "found", "rest"] ["rows", "n"] (defScope s_telling) := ⟨rfl, rfl, rfl, by decide +kernel, rfl, by decide +kernel, by decide +kernel⟩
theorem c_telling (T : Wd K mg) : Cal P w K mg base "telling" 5 ["rows", "n"] (spF R_telling) := by
  obtain ⟨fd, F⟩ := F_telling T
  have C_all_beside := c_all_beside (P := P) (w := w) (base := base) T
  have C_brought_down := c_brought_down (P := P) (w := w) (base := base) T
  refine ⟨_, fd, G_telling T, fn_pure F sc_telling (fun ds d ⟨n, rs, _, _, e, _⟩ => by rw [e]; rfl) (by decide) (fun cdv A outer s H hr => ⟨_, (pss_cons (ps_if (PW.pt (pw_or (pt_cmpR op_ne (pe_callB call_len_seq rfl (T_len T) PySem.boot_len (pa_cons (pv 0) pa_nil)) (pv 1) (nomark _)) (pw_or1 (pt_not (pt_val (pe_f C_all_beside (hr.mono (by decide)) rfl (pa_cons (pv 0) pa_nil))))))) (pss_one ps_never) pss_nil)
      (pss_cons (ps_asg (pe_f C_brought_down (hr.mono (by decide)) rfl (pa_cons (pv 0) (pa_cons (pv 1) pa_nil))) (pg_tup rfl (pgs_cons (pg_name (i := 2) sc_telling.nd rfl (Or.inl rfl)) (pgs_cons (pg_name (i := 3) sc_telling.nd rfl (Or.inl rfl)) pgs_nil))))
      (pss_cons (ps_if (pt_cmpR (op_neD (hr.units)) (pv 3) (pe_lst pa_nil) (nomark _)) (pss_one ps_never) pss_nil)
      (pss_one (ps_ret (pv 2)))))), ?_⟩), F.kp, F.bindsN (fun _ _ _ _ _ _ us hl => match us, hl with | [_, _], _ => rfl)⟩
  rintro ds d ⟨n, rs, hn, G, rfl, rfl⟩ D σ A kr kn
  have A : At H [] H σ [.dat (.lst (rs.map rowD)), .dat (.int n), .no, .no] := A
  refine q_skip A (EvT.is (b := (!decide (((rs.map rowD).length : Int) = n) || !true)) (by
    walk_at "ev"
    exact ⟨rs, by have := G.len; omega, fun r h => wf9 hn (G.wf r h), G.bes, rfl, rfl⟩) (by rw [List.length_map, G.len]; simp)) fun H1 A => ?_
  refine q_tup2F (by decide) (by show 2 < 4; decide) A (d1 := .lst ((tell n rs).map rowD)) (d2 := .lst []) (by walk_at "ev"; exact ⟨n, rs, hn, G, rfl, rfl⟩) fun v1 σ H2 A hv q1 => ?_
  refine EvT.is (b := !decide (([] : List Row) = [])) (et_test (Ev.w (ev_neRows (rs := []) (ss := []) (ew_var rfl) (Ev.w (ev_lst es_nil (by decide)))))) rfl σ H2 A.sv _ fun H3 e => iteF ?_
  exact ⟨v1, hv, kr v1 H3 (A.same.trans e) (q1.same e)⟩

end
end K92
end
section
set_option maxHeartbeats 4000000

namespace K92
open PySem PySem.Spec PyProof.Rows L2
section
variable {P : Program} {w : World} {K : PySem.W.Frag} {mg : Str → Option Value} {base : Heap}
/-! ### works made from rows -/
def R_wd (ds : List Dat) (d : Dat) : Prop := ∃ (r : Row) (k : Nat), r.wf 9 ∧ k ≤ 9 ∧ (∀ j, j < k → r.x.testBit j = false) ∧ ds = [rowD r, .int k] ∧ d = rowD (wd k r)
theorem sc_without_done : FnScope ["row", "k", "wire"] ["row", "k"] (defScope s_without_done) := ⟨rfl, rfl, rfl, by decide +kernel, rfl, by decide +kernel, by decide +kernel⟩
theorem et_bit {Δ : Vw} {te tk : TE} {a k : Nat} (h : EvW te Δ (.int (a : Nat))) (hk : EvW tk Δ (.int (k : Nat))) : Ev (tOp rEq (tOp (rI0 fun i j => .int (Builtin.bitAnd i j)) (tOp (rI (fun _ j => 0 ≤ j) fun i j => .int (i / 2 ^ j.toNat)) te tk) (tC (.int 1))) (tC (.int 1))) Δ (.bl (a.testBit k)) :=
  Ev.is (ev_eqI (Ev.w (ev_I0 (Ev.w (ev_I h hk (Int.natCast_nonneg k))) ev_int.w)) ev_int.w) (by rw [nb_bit, b2i_eq1])
theorem c_without_done (T : Wd K mg) : Cal P w K mg base "without_done" 4 ["row", "k"] (spF R_wd) := by
  obtain ⟨fd, F⟩ := F_without_done T
  have C_times := c_times (P := P) (w := w) (base := base) T
  refine ⟨_, fd, G_without_done T, fn_pure F sc_without_done (fun ds d ⟨r, k, _, _, _, e, _⟩ => by rw [e]; rfl) (by decide) (fun cdv A outer s H hr => ⟨_, (pss_cons (ps_for PassesOwn.never rfl (pi_range1 rfl (T_range T) (pa_cons (pv 1) pa_nil)) (pg_name (i := 2) sc_without_done.nd rfl (Or.inl rfl))
        (pss_one (ps_if (pt_cmpR op_eq (pe_op op_and (pe_op op_shr (pe_ix ix_tup (pv 0) pe_int (fun _ _ => rfl)) (pv 2)) pe_int) pe_int (nomark _)) (pss_one (ps_set (i := 0) sc_without_done.nd rfl (Or.inl rfl) (pe_f C_times (hr.mono (by decide)) rfl (pa_cons (pv 0) (pa_cons (pe_tup (pa_cons pe_int (pa_cons pe_int (pa_cons (pe_op op_shl pe_int (pv 2)) pa_nil)))) pa_nil))))) pss_nil)))
      (pss_one (ps_ret (pv 0)))), ?_⟩), F.kp, F.bindsN (fun _ _ _ _ _ _ us hl => match us, hl with | [_, _], _ => rfl)⟩
  rintro ds d ⟨r, k, hw, hk, hx, rfl, rfl⟩ D σ A kr kn
  have A : At H [] H σ [.dat (rowD r), .dat (.int k), .no] := A
  refine q_forN (ds := (List.range k).map fun i => Dat.int (i : Nat)) (fun i Γ => ∃ e, Γ = [.dat (rowD (wd i r)), .dat (.int k), e]) A (srcp_is (sp_rng1 (ea_cons (ew_var rfl) ea_nil) (by omega)) (by rw [Int.toNat_natCast]; exact rng0 k)) (nlAll_of fun d h => by obtain ⟨k, _, e⟩ := List.mem_map.mp h; rw [← e]; rfl) ⟨_, rfl⟩ ?_ ?_
  · rintro i d Γ gh σ H2 hd ⟨e, rfl⟩ A
    obtain ⟨j, hj, rfl⟩ := map_at hd
    have hik : i < k := by
      have := (List.getElem?_eq_some_iff.mp hj).1
      rw [List.length_range] at this; exact this
    rw [List.getElem?_range hik] at hj
    cases hj
    have A : At _ gh H2 σ [.dat (rowD (wd i r)), .dat (.int k), .dat (.int (i : Nat))] := A
    have wi : (wd i r).wf 9 := wd_wf (by omega) hw
    refine st_if A (b := (wd i r).z.testBit i) (et_test (Ev.w (et_bit (Ev.w (by walk_at "ev")) (ew_var rfl)))) (fun e H3 A => ?_) (fun e H3 A => ?_)
    · refine st_asg A (d := rowD (wd (i + 1) r)) (Ev.p ?_) fun σ H4 A => ⟨_, ⟨.dat (.int (i : Nat)), rfl⟩, A⟩
      rw [wd_succ]
      unfold wdstep
      rw [if_pos e]
      refine ev_call (ea_cons (ew_var rfl) (ea_cons (Ev.w (Ev.is (d := .tup [.int 0, .int 0, .int (1 * 2 ^ ((i : Nat) : Int).toNat)]) ?_ ?_)) ea_nil)) ⟨wd i r, zrow i, wi, zrow_wf (by omega), by rw [ac_comm, ac_z (by omega), wd_x, hx i hik], rfl, rfl⟩
      · walk_at "ev"
        exact ⟨Int.natCast_nonneg i, by omega, by decide⟩
      · rw [nb_oneshl]; rfl
    · refine st_next ⟨_, ⟨.dat (.int (i : Nat)), ?_⟩, A⟩
      rw [wd_succ]
      unfold wdstep
      rw [if_neg (by rw [e]; decide)]
  · rintro Γ σ H2 ⟨e, rfl⟩ A
    rw [List.length_map, List.length_range] at A
    exact st_ret A (by walk_at "ev") kr
def R_to_z (ds : List Dat) (d : Dat) : Prop := ∃ (k n : Nat) (r : Row), n ≤ 9 ∧ Up k n r ∧ ds = [rowD r, .int k, .int n] ∧ d = .lst ((toz k n r).map wordsD)
theorem sc_to_z : FnScope ["row", "k", "n", "found", "some", "wire", "has_x", "has_z"] ["row", "k", "n"] (defScope s_to_z) := ⟨rfl, rfl, rfl, by decide +kernel, rfl, by decide +kernel, by decide +kernel⟩
theorem partA_len (ws : List Nat) (r : Row) : (partA ws r).length ≤ ws.length := by
  unfold partA
  induction ws with
  | nil => exact Nat.le_refl _
  | cons a ws ih =>
    rw [List.flatMap_cons, List.length_append, List.length_cons]
    have : (deedA r a).length ≤ 1 := by unfold deedA; split <;> (try split) <;> simp
    omega
theorem wires_len {k n : Nat} : (wiresFrom k n).length = n - k := by unfold wiresFrom; rw [List.length_map, List.length_range]
theorem base_len {k n : Nat} {r : Row} (hn : n ≤ 9) : (K92.base k n r).length ≤ 25 := by
  unfold K92.base
  have a := partA_len (wiresFrom k n) r
  have b : (someOf k n r).length ≤ n - k := by
    unfold someOf
    exact Nat.le_trans (List.length_filter_le ..) (by rw [wires_len]; exact Nat.le_refl _)
  rw [wires_len] at a
  rw [List.length_append, List.length_append, List.length_append, List.length_map, List.length_tail]
  have c : (if (someOf k n r).headD 0 ≠ k then [Dd.sw k ((someOf k n r).headD 0)] else []).length ≤ 1 := by split <;> simp
  show _ + (_ + (_ + 1)) ≤ _
  omega
theorem toz_len {k n : Nat} {r : Row} (hn : n ≤ 9) : (toz k n r).length ≤ 26 := by
  unfold toz
  rw [List.length_append]
  have := base_len (k := k) (r := r) hn
  split
  · show _ + 1 ≤ _; omega
  · show _ + 0 ≤ _; omega
theorem c_to_z (T : Wd K mg) : Cal P w K mg base "to_z" 5 ["row", "k", "n"] (spF R_to_z) := by
  obtain ⟨fd, F⟩ := F_to_z T
  have C_row_behind := c_row_behind (P := P) (w := w) (base := base) T
  refine ⟨_, fd, G_to_z T, fn_pure F sc_to_z (fun ds d ⟨k, n, r, _, _, e, _⟩ => by rw [e]; rfl) (by decide) (fun cdv A outer s H hr => ⟨_, (pss_cons (ps_set (i := 3) sc_to_z.nd rfl (Or.inl rfl) (pe_lst pa_nil))
      (pss_cons (ps_set (i := 4) sc_to_z.nd rfl (Or.inl rfl) (pe_lst pa_nil))
      (pss_cons (ps_for PassesOwn.never rfl (pi_range2 rfl (T_range T) (pa_cons (pv 1) (pa_cons (pv 2) pa_nil))) (pg_name (i := 5) sc_to_z.nd rfl (Or.inl rfl))
        (pss_cons (ps_set (i := 6) sc_to_z.nd rfl (Or.inl rfl) (pe_cmpR op_eq (pe_op op_and (pe_op op_shr (pe_ix ix_tup (pv 0) pe_int (fun _ _ => rfl)) (pv 5)) pe_int) pe_int (nomark _)))
      (pss_cons (ps_set (i := 7) sc_to_z.nd rfl (Or.inl rfl) (pe_cmpR op_eq (pe_op op_and (pe_op op_shr (pe_ix ix_tup (pv 0) pe_int (fun _ _ => rfl)) (pv 5)) pe_int) pe_int (nomark _)))
      (Evl.pss_cut (ps_if (pt_val (pv 7)) (pss_one (ps_expr (pe_bm PySem.F.plainAttrs_list PySem.F.slot_list_append PySem.F.type_list_append mt_append (pv 3) (pa_cons (pe_ifExp (pt_val (pv 6)) (pe_tup (pa_cons pe_str (pa_cons (pv 5) pa_nil))) (pe_tup (pa_cons pe_str (pa_cons (pv 5) pa_nil)))) pa_nil)))) pss_nil)
      (pss_one (ps_if (PW.pt (pw_or (pt_val (pv 6)) (pw_or1 (pt_val (pv 7))))) (pss_one (ps_expr (pe_bm PySem.F.plainAttrs_list PySem.F.slot_list_append PySem.F.type_list_append mt_append (pv 4) (pa_cons (pv 5) pa_nil)))) pss_nil))))))
      (Evl.pss_cut (ps_if (pt_cmpR op_ne (pe_ix ix_list (pv 4) pe_int (fun _ _ => rfl)) (pv 1) (nomark _)) (pss_one (ps_expr (pe_bm PySem.F.plainAttrs_list PySem.F.slot_list_append PySem.F.type_list_append mt_append (pv 3) (pa_cons (pe_tup (pa_cons pe_str (pa_cons (pv 1) (pa_cons (pe_ix ix_list (pv 4) pe_int (fun _ _ => rfl)) pa_nil)))) pa_nil)))) pss_nil)
      (pss_cons (ps_for PassesOwn.never rfl (pi_list (pe_slice sl_list (pv 4) (po_some pe_int) po_none)) (pg_name (i := 5) sc_to_z.nd rfl (Or.inl rfl))
        (pss_one (ps_expr (pe_bm PySem.F.plainAttrs_list PySem.F.slot_list_append PySem.F.type_list_append mt_append (pv 3) (pa_cons (pe_tup (pa_cons pe_str (pa_cons (pv 1) (pa_cons (pv 5) pa_nil)))) pa_nil)))))
      (pss_cons (ps_expr (pe_bm PySem.F.plainAttrs_list PySem.F.slot_list_append PySem.F.type_list_append mt_append (pv 3) (pa_cons (pe_tup (pa_cons pe_str (pa_cons (pv 1) pa_nil))) pa_nil)))
      (Evl.pss_cut (ps_if (pt_cmpR op_eq (pe_ix ix_tup (pe_f C_row_behind (hr.mono (by decide)) rfl (pa_cons (pv 3) (pa_cons (pv 0) (pa_cons (pv 2) pa_nil)))) pe_int (fun _ _ => rfl)) pe_int (nomark _)) (pss_one (ps_expr (pe_bm PySem.F.plainAttrs_list PySem.F.slot_list_append PySem.F.type_list_append mt_append (pv 3) (pa_cons (pe_tup (pa_cons pe_str (pa_cons (pv 1) pa_nil))) pa_nil)))) pss_nil)
      (pss_one (ps_ret (pv 3)))))))))), ?_⟩), F.kp, F.bindsN (fun _ _ _ _ _ _ us hl => match us, hl with | [_, _, _], _ => rfl)⟩
  rintro ds d ⟨k, n, r, hn, U, rfl, rfl⟩ D σ A kr kn
  have A : At H [] H σ [.dat (rowD r), .dat (.int k), .dat (.int n), .no, .no, .no, .no, .no] := A
  have hkn := U.hk
  have w9 : r.wf 9 := wf9 hn U.wf
  refine q_own A (ds := []) (by walk_at "ev") rfl (by show 3 < 8; decide) fun l1 σ H1 A => ?_
  refine q_own A (ds := []) (by walk_at "ev") rfl (by show 4 < 8; decide) fun l2 σ H1 A => ?_
  refine q_forN (ds := (wiresFrom k n).map fun i => Dat.int (i : Nat)) (fun i Γ => ∃ l1 l2 e5 e6 e7, Γ = [.dat (rowD r), .dat (.int k), .dat (.int n), .own l1 (.lst ((partA ((wiresFrom k n).take i) r).map wordsD)), .own l2 (.lst ((((wiresFrom k n).take i).filter (hasL r)).map fun i => Dat.int (i : Nat))), e5, e6, e7]) A
    (srcp_is (sp_rng2 (ea_cons (ew_var rfl) (ea_cons (ew_var rfl) ea_nil)) (by omega)) ?_) (nlAll_of fun d h => by obtain ⟨k, _, e⟩ := List.mem_map.mp h; rw [← e]; rfl) ⟨l1, l2, _, _, _, rfl⟩ ?_ ?_
  · rw [show ((n : Int) - k).toNat = n - k by omega]
    unfold rng wiresFrom
    rw [List.map_map]
    exact List.map_congr_left fun i _ => congrArg Dat.int (by show (k : Int) + (i : Nat) = ((k + i : Nat) : Int); omega)
  · rintro i d Γ gh σ H2 hd ⟨l1, l2, e5, e6, e7, rfl⟩ A
    obtain ⟨j, hj, rfl⟩ := map_at hd
    have hjn := mem_wires.mp (List.mem_of_getElem? hj)
    have hil : i < 9 := by
      have := (List.getElem?_eq_some_iff.mp hj).1
      rw [wires_len] at this; omega
    have eA : partA ((wiresFrom k n).take (i + 1)) r = partA ((wiresFrom k n).take i) r ++ deedA r j := by
      rw [List.take_add_one, hj]
      unfold partA
      rw [List.flatMap_append]
      show _ ++ (deedA r j ++ []) = _
      rw [List.append_nil]
    have eS : ((wiresFrom k n).take (i + 1)).filter (hasL r) = ((wiresFrom k n).take i).filter (hasL r) ++ if hasL r j = true then [j] else [] := by
      rw [List.take_add_one, hj, List.filter_append]
      show _ ++ [j].filter (hasL r) = _
      rw [List.filter_cons, List.filter_nil]
    have lA := partA_len ((wiresFrom k n).take i) r
    rw [List.length_take] at lA
    refine q_asg A (d := .bl (r.x.testBit j)) (Ev.p (et_bit (Ev.w (by walk_at "ev")) (ew_var rfl))) fun σ H3 A => ?_
    refine q_asg A (d := .bl (r.z.testBit j)) (Ev.p (et_bit (Ev.w (by walk_at "ev")) (ew_var rfl))) fun σ H3 A => ?_
    have A : At _ gh H3 σ [.dat (rowD r), .dat (.int k), .dat (.int n), .own l1 (.lst ((partA ((wiresFrom k n).take i) r).map wordsD)), .own l2 (.lst ((((wiresFrom k n).take i).filter (hasL r)).map fun i => Dat.int (i : Nat))), .dat (.int (j : Nat)), .dat (.bl (r.x.testBit j)), .dat (.bl (r.z.testBit j))] := A
    refine st_cut (Γ' := [.dat (rowD r), .dat (.int k), .dat (.int n), .own l1 (.lst ((partA ((wiresFrom k n).take (i + 1)) r).map wordsD)), .own l2 (.lst ((((wiresFrom k n).take i).filter (hasL r)).map fun i => Dat.int (i : Nat))), .dat (.int (j : Nat)), .dat (.bl (r.x.testBit j)), .dat (.bl (r.z.testBit j))]) A
      (st_if A (b := r.z.testBit j) (by walk_at "ev") (fun hb H4 A => ?_) (fun hb H4 A => ?_)) fun σ H4 A => ?_
    · rw [eA, List.map_append]
      have eD : (deedA r j).map wordsD = [if r.x.testBit j = true then wordsD (.qu j) else wordsD (.bo j)] := by
        unfold deedA
        rw [if_pos hb]
        split <;> rfl
      rw [eD]
      refine st_app A rfl (d := if r.x.testBit j = true then wordsD (.qu j) else wordsD (.bo j)) (ev_if (b := r.x.testBit j) (by walk_at "ev") (fun e => ?_) (fun e => ?_)) (by split <;> rfl) (by rw [List.length_map]; omega) fun H5 A => A
      · rw [if_pos e]
        show Ev _ _ (.tup [.str "quarter", .int (j : Nat)])
        walk_at "ev"
      · rw [if_neg (by rw [e]; decide)]
        show Ev _ _ (.tup [.str "both", .int (j : Nat)])
        walk_at "ev"
    · refine st_next ?_
      have eD : deedA r j = [] := by
        unfold deedA
        rw [if_neg (by rw [hb]; decide)]
      rw [eA, eD, List.append_nil]
      exact A
    · have A : At _ gh H4 σ [.dat (rowD r), .dat (.int k), .dat (.int n), .own l1 (.lst ((partA ((wiresFrom k n).take (i + 1)) r).map wordsD)), .own l2 (.lst ((((wiresFrom k n).take i).filter (hasL r)).map fun i => Dat.int (i : Nat))), .dat (.int (j : Nat)), .dat (.bl (r.x.testBit j)), .dat (.bl (r.z.testBit j))] := A
      have lS : (((wiresFrom k n).take i).filter (hasL r)).length ≤ 9 := Nat.le_trans (List.length_filter_le ..) (by rw [List.length_take]; omega)
      refine st_if A (b := hasL r j) (by unfold hasL; walk_at "ev") (fun hb H5 A => ?_) (fun hb H5 A => ?_)
      · refine st_app A rfl (d := .int (j : Nat)) (by walk_at "ev") rfl (by rw [List.length_map]; omega) fun H5 A => ⟨_, ⟨l1, l2, .dat (.int (j : Nat)), .dat (.bl (r.x.testBit j)), .dat (.bl (r.z.testBit j)), ?_⟩, A⟩
        rw [eS, if_pos hb, List.map_append]
        rfl
      · refine st_next ⟨_, ⟨l1, l2, .dat (.int (j : Nat)), .dat (.bl (r.x.testBit j)), .dat (.bl (r.z.testBit j)), ?_⟩, A⟩
        rw [eS, if_neg (by rw [hb]; decide), List.append_nil]
  · rintro Γ σ H2 ⟨l1, l2, e5, e6, e7, rfl⟩ A
    rw [List.length_map, List.take_of_length_le (Nat.le_refl _)] at A
    obtain ⟨s, tl, eS, hks, hsn, htl, _⟩ := U.split
    have lA := partA_len (wiresFrom k n) r
    rw [wires_len] at lA
    have eS' : (wiresFrom k n).filter (hasL r) = s :: tl := eS
    rw [eS'] at A
    have lt : tl.length ≤ 8 := by
      have : (someOf k n r).length ≤ n - k := Nat.le_trans (List.length_filter_le ..) (by rw [wires_len]; exact Nat.le_refl _)
      rw [eS, List.length_cons] at this; omega
    have A : At _ [] H2 σ [.dat (rowD r), .dat (.int k), .dat (.int n), .own l1 (.lst ((partA (wiresFrom k n) r).map wordsD)), .own l2 (.lst (Dat.int (s : Nat) :: tl.map fun i => Dat.int (i : Nat))), e5, e6, e7] := A
    have hB : K92.base k n r = partA (wiresFrom k n) r ++ ((if s ≠ k then [Dd.sw k s] else []) ++ (tl.map (Dd.wh k) ++ [.bo k])) := by
      unfold K92.base
      rw [eS]
      rfl
    refine st_cut (Γ' := [.dat (rowD r), .dat (.int k), .dat (.int n), .own l1 (.lst ((partA (wiresFrom k n) r ++ if s ≠ k then [Dd.sw k s] else []).map wordsD)), .own l2 (.lst (Dat.int (s : Nat) :: tl.map fun i => Dat.int (i : Nat))), e5, e6, e7]) A
      (st_if A (b := !decide ((s : Int) = k)) (et_test (Ev.w (ev_neI (Ev.w (ev_ixL (ew_var rfl) ev_int.w (atI_nat (j := 0) rfl) rfl)) (ew_var rfl)))) (fun hb H4 A => ?_) (fun hb H4 A => ?_)) fun σ H4 A => ?_
    · have ne : s ≠ k := by
        intro e
        rw [e] at hb
        simp at hb
      rw [if_pos ne, List.map_append]
      refine st_app A rfl (d := wordsD (.sw k s)) ?_ rfl (by rw [List.length_map]; omega) fun H5 A => A
      show Ev _ _ (.tup [.str "swap", .int (k : Nat), .int (s : Nat)])
      refine ev_tup (hz := by show 3 ≤ 1000; decide) (es_cons ev_str (es_cons (ev_var rfl rfl) (es_cons (ev_ixL (ew_var rfl) ev_int.w (atI_nat (j := 0) rfl) rfl) es_nil)))
    · have e : s = k := by
        have : decide ((s : Int) = k) = true := by simpa using hb
        have := of_decide_eq_true this
        omega
      refine st_next ?_
      rw [if_neg (fun z => z e), List.append_nil]
      exact A
    refine q_forN (ds := tl.map fun i => Dat.int (i : Nat)) (fun i Γ => ∃ l1 e5, Γ = [.dat (rowD r), .dat (.int k), .dat (.int n), .own l1 (.lst (((partA (wiresFrom k n) r ++ if s ≠ k then [Dd.sw k s] else []) ++ (tl.take i).map (Dd.wh k)).map wordsD)), .own l2 (.lst (Dat.int (s : Nat) :: tl.map fun i => Dat.int (i : Nat))), e5, e6, e7]) A
      (sp_list (Ev.p (ev_tailL (ew_var rfl) ?_))) (nlAll_of fun d h => by obtain ⟨k, _, e⟩ := List.mem_map.mp h; rw [← e]; rfl) ⟨l1, e5, by rw [List.take_zero, List.map_nil, List.append_nil]⟩ ?_ ?_
    · exact nlAll_of fun d h => by
        rcases List.mem_cons.mp h with h | h
        · rw [h]; rfl
        · obtain ⟨k, _, e⟩ := List.mem_map.mp h; rw [← e]; rfl
    · rintro i d Γ gh σ H5 hd ⟨l1, e5, rfl⟩ A
      obtain ⟨t, ht, rfl⟩ := map_at hd
      have li := (List.getElem?_eq_some_iff.mp ht).1
      refine st_app A rfl (d := wordsD (.wh k t)) ?_ rfl ?_ fun H6 A => ⟨_, ⟨l1, .dat (.int (t : Nat)), ?_⟩, A⟩
      · show Ev _ _ (.tup [.str "where", .int (k : Nat), .int (t : Nat)])
        walk_at "ev"
      · rw [List.length_map, List.length_append, List.length_append, List.length_map, List.length_take]
        have : (if s ≠ k then [Dd.sw k s] else []).length ≤ 1 := by split <;> simp
        omega
      · have e3 : (tl.take (i + 1)).map (Dd.wh k) = (tl.take i).map (Dd.wh k) ++ [Dd.wh k t] := by
          rw [List.take_add_one, ht, List.map_append]; rfl
        rw [e3, ← List.append_assoc, List.map_append (l₂ := [Dd.wh k t])]
        rfl
    · rintro Γ σ H5 ⟨l1, e5, rfl⟩ A
      rw [List.length_map, List.take_of_length_le (Nat.le_refl _)] at A
      have lB := base_len (k := k) (r := r) hn
      refine q_app A rfl (d := wordsD (.bo k)) ?_ rfl ?_ fun H6 A => ?_
      · show Ev _ _ (.tup [.str "both", .int (k : Nat)])
        walk_at "ev"
      · rw [List.length_map]
        rw [hB, List.length_append, List.length_append, List.length_append] at lB
        rw [List.length_append, List.length_append]
        omega
      have A : At _ [] H6 σ [.dat (rowD r), .dat (.int k), .dat (.int n), .own l1 (.lst ((((partA (wiresFrom k n) r ++ if s ≠ k then [Dd.sw k s] else []) ++ tl.map (Dd.wh k)).map wordsD) ++ [wordsD (.bo k)])), .own l2 (.lst (Dat.int (s : Nat) :: tl.map fun i => Dat.int (i : Nat))), e5, e6, e7] := A
      have eB : (((partA (wiresFrom k n) r ++ if s ≠ k then [Dd.sw k s] else []) ++ tl.map (Dd.wh k)).map wordsD) ++ [wordsD (.bo k)] = (K92.base k n r).map wordsD := by
        rw [hB]
        simp only [List.map_append, List.append_assoc]
        rfl
      rw [eB] at A
      have allB := base_all U
      refine st_cut (Γ' := [.dat (rowD r), .dat (.int k), .dat (.int n), .own l1 (.lst ((toz k n r).map wordsD)), .own l2 (.lst (Dat.int (s : Nat) :: tl.map fun i => Dat.int (i : Nat))), e5, e6, e7]) A
        (st_if A (b := (actW (K92.base k n r) r).m) (EvT.is (et_test (Ev.w (ev_eqI (Ev.w (ev_ixT (Ev.w (ev_call (ea_cons (ew_var rfl) (ea_cons (ew_var rfl) (ea_cons (ew_var rfl) ea_nil))) ⟨K92.base k n r, r, n, hn, fun d h => (allB d h).1, w9, rfl, rfl⟩)) ev_int.w (atI_nat (j := 0) rfl) rfl)) ev_int.w))) (b2i_eq1 _)) (fun hb H7 A => ?_) (fun hb H7 A => ?_)) fun σ H7 A => ?_
      · have eT : toz k n r = K92.base k n r ++ [.ov k] := by unfold toz; rw [if_pos hb]
        rw [eT, List.map_append]
        refine st_app A rfl (d := wordsD (.ov k)) ?_ rfl (by rw [List.length_map]; omega) fun H8 A => A
        show Ev _ _ (.tup [.str "over", .int (k : Nat)])
        walk_at "ev"
      · have eT : toz k n r = K92.base k n r := by unfold toz; rw [if_neg (by rw [hb]; decide), List.append_nil]
        refine st_next ?_
        rw [eT]
        exact A
      · exact st_retO A rfl (nl_work _) kr

end
end K92
end
section
set_option maxHeartbeats 4000000

namespace K92
open PySem PySem.Spec PyProof.Rows L2
section
variable {P : Program} {w : World} {K : PySem.W.Frag} {mg : Str → Option Value} {base : Heap}
/-! ### made -/
def R_made (ds : List Dat) (d : Dat) : Prop := ∃ (n : Nat) (rs : List Row), n ≤ 9 ∧ Good n rs ∧ ds = [.lst (rs.map rowD), .int n] ∧ d = .lst ((inv (madeD n (tell n rs))).map wordsD)
theorem sc_made : FnScope ["rows", "n", "rest", "found", "k", "deeds", "row"] ["rows", "n"] (defScope s_made) := ⟨rfl, rfl, rfl, by decide +kernel, rfl, by decide +kernel, by decide +kernel⟩
theorem mstate_len {n : Nat} {ts : List Row} (hn : n ≤ 9) : ∀ k, (mstate n ts k).1.length ≤ 26 * k
  | 0 => Nat.zero_le _
  | k + 1 => by
    have i := mstate_len (ts := ts) hn k
    unfold mstate
    split
    · omega
    · rename_i r0 tl _
      have := toz_len (k := k) (r := wd k r0) hn
      show (_ ++ _ : List Dd).length ≤ _
      rw [List.length_append]
      omega
theorem c_made (T : Wd K mg) : Cal P w K mg base "made" 6 ["rows", "n"] (spF R_made) := by
  obtain ⟨fd, F⟩ := F_made T
  have C_telling := c_telling (P := P) (w := w) (base := base) T
  have C_without_done := c_without_done (P := P) (w := w) (base := base) T
  have C_to_z := c_to_z (P := P) (w := w) (base := base) T
  have C_row_behind := c_row_behind (P := P) (w := w) (base := base) T
  have C_undone := c_undone (P := P) (w := w) (base := base) T
  refine ⟨_, fd, G_made T, fn_pure F sc_made (fun ds d ⟨n, rs, _, _, e, _⟩ => by rw [e]; rfl) (by decide) (fun cdv A outer s H hr => ⟨_, (pss_cons (ps_set (i := 2) sc_made.nd rfl (Or.inl rfl) (pe_f C_telling (hr.mono (by decide)) rfl (pa_cons (pv 0) (pa_cons (pv 1) pa_nil))))
      (pss_cons (ps_set (i := 3) sc_made.nd rfl (Or.inl rfl) (pe_lst pa_nil))
      (pss_cons (ps_for PassesOwn.never rfl (pi_range1 rfl (T_range T) (pa_cons (pv 1) pa_nil)) (pg_name (i := 4) sc_made.nd rfl (Or.inr rfl))
        (pss_cons (ps_set (i := 5) sc_made.nd rfl (Or.inr rfl) (pe_f C_to_z (hr.mono (by decide)) rfl (pa_cons (pe_f C_without_done (hr.mono (by decide)) rfl (pa_cons (pe_ix ix_list (pv 2) pe_int (fun _ _ => rfl)) (pa_cons (pv 4) pa_nil))) (pa_cons (pv 4) (pa_cons (pv 1) pa_nil)))))
      (pss_cons (ps_expr (pe_bm PySem.F.plainAttrs_list PySem.F.slot_list_extend PySem.F.type_list_extend mt_extend (pv 3) (pa_cons (pv 5) pa_nil)))
      (pss_one (ps_setLc (i := 2) (own := [("row", 6)]) (g := gName 6) rfl sc_made.nd rfl rfl (sw_true rfl rfl rfl (by decide +kernel))  (pi_list (pe_slice sl_list (pv 2) (po_some pe_int) po_none)) (blkOk_by (own := [("row", 6)]) (N := ["rows", "n", "rest", "found", "k", "deeds", "row"]) (sc := defScope s_made) (by decide +kernel)) (fun _ _ _ _ _ => pg_name (i := 6) sc_made.nd rfl (Or.inl rfl)) (fun _ _ _ _ _ => pts_nil) (fun _ _ _ _ _ => (pe_f C_row_behind (hr.mono (by decide)) rfl (pa_cons (pv 5) (pa_cons (pe_f C_without_done (hr.mono (by decide)) rfl (pa_cons (pv 6) (pa_cons (pv 4) pa_nil))) (pa_cons (pv 1) pa_nil))))))))))
      (pss_one (ps_ret (pe_f C_undone (hr.mono (by decide)) rfl (pa_cons (pv 3) pa_nil))))))), ?_⟩), F.kp, F.bindsN (fun _ _ _ _ _ _ us hl => match us, hl with | [_, _], _ => rfl)⟩
  rintro ds d ⟨n, rs, hn, G, rfl, rfl⟩ D σ A kr kn
  have A : At H [] H σ [.dat (.lst (rs.map rowD)), .dat (.int n), .no, .no, .no, .no, .no] := A
  obtain ⟨_, G2, _⟩ := tell_ok (by omega) G
  have MA := mi_all (by omega) G2
  refine q_asg A (d := .lst ((tell n rs).map rowD)) (Ev.p (ev_call (ea_cons (ew_var rfl) (ea_cons (ew_var rfl) ea_nil)) ⟨n, rs, hn, G, rfl, rfl⟩)) fun σ H1 A => ?_
  refine q_own A (ds := []) (by walk_at "ev") rfl (by show 3 < 7; decide) fun l σ H1 A => ?_
  refine q_forN (ds := (List.range n).map fun i => Dat.int (i : Nat)) (fun i Γ => ∃ l e4 e5 e6, Γ = [.dat (.lst (rs.map rowD)), .dat (.int n), .dat (.lst ((mstate n (tell n rs) i).2.map rowD)), .own l (.lst ((mstate n (tell n rs) i).1.map wordsD)), e4, e5, e6]) A
    (srcp_is (sp_rng1 (ea_cons (ew_var rfl) ea_nil) (by omega)) (by rw [Int.toNat_natCast]; exact rng0 n)) (nlAll_of fun d h => by obtain ⟨k, _, e⟩ := List.mem_map.mp h; rw [← e]; rfl) ⟨l, _, _, _, rfl⟩ ?_ ?_
  · rintro k d Γ gh σ H2 hd ⟨l, e4, e5, e6, rfl⟩ A
    obtain ⟨j, hj, rfl⟩ := map_at hd
    have hk : k < n := by
      have := (List.getElem?_eq_some_iff.mp hj).1
      rw [List.length_range] at this; exact this
    rw [List.getElem?_range hk] at hj
    cases hj
    have M := MA k (by omega)
    have lk := mstate_len (ts := tell n rs) hn k
    have unf : mstate n (tell n rs) (k + 1) = match (mstate n (tell n rs) k).2 with
      | [] => mstate n (tell n rs) k
      | r0 :: tl => ((mstate n (tell n rs) k).1 ++ toz k n (wd k r0), tl.map fun r => actW (toz k n (wd k r0)) (wd k r)) := rfl
    rw [unf]
    revert A M lk
    generalize mstate n (tell n rs) k = s
    obtain ⟨Ds, re⟩ := s
    intro A M lk
    dsimp only at A M lk ⊢
    cases re with
    | nil => have := M.len; simp at this; omega
    | cons r0 tl =>
      have U := mi_up (by omega) hk M
      have wfr : ∀ r ∈ r0 :: tl, r.wf 9 := fun r h => wf9 hn (M.wf r h)
      have ltl : tl.length ≤ 9 := by have := M.len; rw [List.length_cons] at this; omega
      have okT : ∀ d ∈ toz k n (wd k r0), d.ok n := fun d h => (toz_all U d h).1
      have lT := toz_len (k := k) (r := wd k r0) hn
      have h0 : r0 ∈ r0 :: tl := List.mem_cons_self ..
      have A : At _ gh H2 σ [.dat (.lst (rs.map rowD)), .dat (.int n), .dat (.lst (rowD r0 :: tl.map rowD)), .own l (.lst (Ds.map wordsD)), .dat (.int (k : Nat)), e5, e6] := A
      refine q_asg A (d := .lst ((toz k n (wd k r0)).map wordsD)) (Ev.p (ev_call (ea_cons (Ev.w (ev_call (ea_cons (Ev.w (ev_ixL (ew_var rfl) ev_int.w (atI_nat (j := 0) rfl) rfl)) (ea_cons (ew_var rfl) ea_nil)) ⟨r0, k, wfr r0 h0, by omega, fun j hj => M.low r0 h0 j hj, rfl, rfl⟩)) (ea_cons (ew_var rfl) (ea_cons (ew_var rfl) ea_nil))) ⟨k, n, wd k r0, hn, U, rfl, rfl⟩)) fun σ H3 A => ?_
      refine q_ext A rfl (es := (toz k n (wd k r0)).map wordsD) (ew_var rfl) (nl_work _) (by rw [List.length_map, List.length_map]; omega) fun H4 A => ?_
      have A : At _ gh H4 σ [.dat (.lst (rs.map rowD)), .dat (.int n), .dat (.lst (rowD r0 :: tl.map rowD)), .own l (.lst (Ds.map wordsD ++ (toz k n (wd k r0)).map wordsD)), .dat (.int (k : Nat)), .dat (.lst ((toz k n (wd k r0)).map wordsD)), e6] := A
      refine st_asg A (d := .lst ((tl.map fun r => actW (toz k n (wd k r0)) (wd k r)).map rowD)) (Ev.p ?_) fun σ H5 A => ⟨_, ⟨l, .dat (.int (k : Nat)), .dat (.lst ((toz k n (wd k r0)).map wordsD)), e6, ?_⟩, A⟩
      · rw [List.map_map]
        refine ev_lc1 tl rowD _ (sr_list (Ev.w (ev_tailL (ew_var rfl) (nl_rows (r0 :: tl))))) (by omega) (fun r h => ?_) (fun _ _ => rfl)
        have hr' : r ∈ r0 :: tl := List.mem_cons_of_mem _ h
        exact ev_call (ea_cons (ew_var rfl) (ea_cons (Ev.w (ev_call (ea_cons (ew_var rfl) (ea_cons (ew_var rfl) ea_nil)) ⟨r, k, wfr r hr', by omega, fun j hj => M.low r hr' j hj, rfl, rfl⟩)) (ea_cons (ew_var rfl) ea_nil))) ⟨toz k n (wd k r0), wd k r, n, hn, okT, wd_wf (by omega) (wfr r hr'), rfl, rfl⟩
      · rw [← List.map_append]
        rfl
  · rintro Γ σ H2 ⟨l, e4, e5, e6, rfl⟩ A
    rw [List.length_map, List.length_range] at A
    have M := MA n (Nat.le_refl n)
    have lk := mstate_len (ts := tell n rs) hn n
    exact st_ret A (ev_call (ea_cons (ew_var rfl) ea_nil) ⟨(mstate n (tell n rs) n).1, by omega, fun e h => ok_le (M.ok e h) hn, rfl, rfl⟩) kr

end
end K92
end
section
set_option maxHeartbeats 4000000

namespace K92
open PySem PySem.Spec PyProof.Rows L2
section
variable {P : Program} {w : World} {K : PySem.W.Frag} {mg : Str → Option Value} {base : Heap}
/-! ### the machine: values of sure looks -/
theorem find_snoc {α : Type} (f : α → Bool) (l : List α) (a : α) : (l ++ [a]).find? f = (match l.find? f with | some c => some c | none => if f a = true then some a else none) := by
  rw [List.find?_append]
  cases l.find? f with
  | some c => rfl
  | none =>
    rw [List.find?_singleton]
    rfl
theorem erase_snoc {α : Type} (f : α → Bool) (l : List α) (a : α) : (l ++ [a]).eraseP f = (match l.find? f with | some c => l.eraseP f ++ [a] | none => if f a = true then l else l ++ [a]) := by
  cases e : l.find? f with
  | some c => exact List.eraseP_append_left (List.find?_some e) _ (List.mem_of_find?_eq_some e)
  | none =>
    rw [List.eraseP_append_right _ (List.find?_eq_none.mp e)]
    dsimp only
    cases h : f a with
    | true => rw [List.eraseP_cons_of_pos h, if_pos rfl, List.append_nil]
    | false => rw [List.eraseP_cons_of_neg (by rw [h]; decide), if_neg (by decide), List.eraseP_nil]
theorem erase_none {α : Type} {f : α → Bool} {l : List α} (h : l.find? f = none) : l.eraseP f = l := List.eraseP_of_forall_not (List.find?_eq_none.mp h)
def optD : Option Row → Dat
  | none => .non
  | some r => rowD r
theorem opt_nl (o : Option Row) : nl (optD o) = true := by cases o <;> rfl
def pI (q : Bool × Nat) : Int := if q.1 then 2 else 1
theorem two_and (a k : Nat) : decide (Builtin.bitAnd (a : Int) ((2 ^ k : Nat) : Int) > 0) = a.testBit k := by
  have e : a &&& 2 ^ k = put k (a.testBit k) := by
    apply Nat.eq_of_testBit_eq
    intro i
    rw [Nat.testBit_and, Nat.testBit_two_pow, put_bit]
    by_cases h : k = i
    · subst h; simp
    · rw [decide_eq_false h, decide_eq_false (fun z => h z.symm)]; simp
  rw [nb_and, e]
  unfold put
  have := Nat.two_pow_pos k
  cases a.testBit k with
  | true => exact decide_eq_true (by show (0 : Int) < ((2 ^ k : Nat) : Int); omega)
  | false => exact decide_eq_false (by show ¬ (0 : Int) < ((0 : Nat) : Int); decide)
theorem et_part {Δ : Vw} {te tp tb : TE} {q : Bool × Nat} {r : Row} {K : PySem.W.Frag} (h : EvW te Δ (rowD r)) (hp : EvW tp Δ (.int (pI q))) (hb : EvW tb Δ (.int ((2 ^ q.2 : Nat)))) :
    EvT (tTest (tOp (rI0 fun i j => .bl (decide (j < i))) (tOp (rI0 fun i j => .int (Builtin.bitAnd i j)) (tOp (rIxT K) te tp) tb) (tC (.int 0)))) Δ (rb q r) := by
  refine EvT.is (et_test (Ev.w (ev_B0 (f := fun i j => decide (j < i)) (Ev.w (ev_I0 (Ev.w (ev_ixT (d := .int ((if q.1 then r.z else r.x : Nat))) h hp ?_ rfl)) hb)) ev_int.w))) ?_
  · unfold pI
    cases q.1
    · exact atI_nat (j := 1) rfl
    · exact atI_nat (j := 2) rfl
  · show decide ((0 : Int) < Builtin.bitAnd _ _) = _
    exact two_and _ _
structure WF9 (rs : List Row) (row : Row) : Prop where
  wf : ∀ r ∈ rs, r.wf 9
  wf2 : row.wf 9
  bes : Bes rs
  bes2 : ∀ r ∈ rs, ac r row = false
  len : rs.length ≤ 60
def R_wb (ds : List Dat) (d : Dat) : Prop := ∃ (q : Bool × Nat) (rs : List Row) (row : Row), WF9 rs row ∧ ds = [.lst (rs.map rowD), rowD row, .int (pI q), .int ((2 ^ q.2 : Nat))] ∧ d = .tup [.lst ((wob q (rs, row)).1.map rowD), rowD (wob q (rs, row)).2]
theorem sc_without_bit : FnScope ["rows", "row", "part", "bit", "chosen", "left", "one"] ["rows", "row", "part", "bit"] (defScope s_without_bit) := ⟨rfl, rfl, rfl, by decide +kernel, rfl, by decide +kernel, by decide +kernel⟩
theorem c_without_bit (T : Wd K mg) : Cal P w K mg base "without_bit" 4 ["rows", "row", "part", "bit"] (spF R_wb) := by
  obtain ⟨fd, F⟩ := F_without_bit T
  have C_times := c_times (P := P) (w := w) (base := base) T
  refine ⟨_, fd, G_without_bit T, fn_pure F sc_without_bit (fun ds d ⟨_, _, _, _, e, _⟩ => by rw [e]; rfl) (by decide) (fun cdv A outer s H hr => ⟨_, (pss_cons (ps_set (i := 4) sc_without_bit.nd rfl (Or.inr rfl) pe_non)
      (pss_cons (ps_set (i := 5) sc_without_bit.nd rfl (Or.inl rfl) (pe_lst pa_nil))
      (pss_cons (ps_for PassesOwn.never rfl (pi_list (pv 0)) (pg_name (i := 6) sc_without_bit.nd rfl (Or.inl rfl))
        (pss_one (ps_if (PW.pt (pw_and (pt_cmpR op_isN (pv 4) pe_non (nomark _)) (pw_and1 (pt_cmpR op_gt (pe_op op_and (pe_ix ix_tup (pv 6) (pv 2) (fun _ _ => rfl)) (pv 3)) pe_int (nomark _))))) (pss_one (ps_set (i := 4) sc_without_bit.nd rfl (Or.inr rfl) (pv 6))) (pss_one (ps_expr (pe_bm PySem.F.plainAttrs_list PySem.F.slot_list_append PySem.F.type_list_append mt_append (pv 5) (pa_cons (pv 6) pa_nil)))))))
      (pss_cons (ps_if (pt_cmpR op_isN (pv 4) pe_non (nomark _)) (pss_one (ps_ret (pe_tup (pa_cons (pv 5) (pa_cons (pv 1) pa_nil))))) pss_nil)
      (pss_cons (ps_setLc (i := 5) (own := [("one", 6)]) (g := gName 6) rfl sc_without_bit.nd rfl rfl (sw_true rfl rfl rfl (by decide +kernel))  (pi_list (pv 5)) (blkOk_by (own := [("one", 6)]) (N := ["rows", "row", "part", "bit", "chosen", "left", "one"]) (sc := defScope s_without_bit) (by decide +kernel)) (fun _ _ _ _ _ => pg_name (i := 6) sc_without_bit.nd rfl (Or.inl rfl)) (fun _ _ _ _ _ => pts_nil) (fun _ _ _ _ _ => (pe_ifExp (pt_cmpR op_gt (pe_op op_and (pe_ix (ix_tupK (K := K) rfl) (pv 6) (pv 2) (fun _ _ => rfl)) (pv 3)) pe_int (nomark _)) (pe_f C_times (hr.mono (by decide)) rfl (pa_cons (pv 6) (pa_cons (pv 4) pa_nil))) (pv 6))))
      (Evl.pss_cut (ps_if (pt_cmpR op_gt (pe_op op_and (pe_ix ix_tup (pv 1) (pv 2) (fun _ _ => rfl)) (pv 3)) pe_int (nomark _)) (pss_one (ps_set (i := 1) sc_without_bit.nd rfl (Or.inl rfl) (pe_f C_times (hr.mono (by decide)) rfl (pa_cons (pv 1) (pa_cons (pv 4) pa_nil))))) pss_nil)
      (pss_one (ps_ret (pe_tup (pa_cons (pv 5) (pa_cons (pv 1) pa_nil))))))))))), ?_⟩), F.kp, F.bindsN (fun _ _ _ _ _ _ us hl => match us, hl with | [_, _, _, _], _ => rfl)⟩
  rintro ds d ⟨q, rs, row, W, rfl, rfl⟩ D σ A kr kn
  have A : At H [] H σ [.dat (.lst (rs.map rowD)), .dat (rowD row), .dat (.int (pI q)), .dat (.int ((2 ^ q.2 : Nat))), .no, .no, .no] := A
  refine q_asg A (d := .non) (Ev.p (by walk_at "ev")) fun σ H1 A => ?_
  refine q_own A (ds := []) (by walk_at "ev") rfl (by show 5 < 7; decide) fun l σ H1 A => ?_
  refine q_forN (ds := rs.map rowD) (fun i Γ => ∃ l e6, Γ = [.dat (.lst (rs.map rowD)), .dat (rowD row), .dat (.int (pI q)), .dat (.int ((2 ^ q.2 : Nat))), .dat (optD ((rs.take i).find? (rb q))), .own l (.lst (((rs.take i).eraseP (rb q)).map rowD)), e6]) A (sp_list (ep_var rfl)) (nl_rows rs) ⟨l, _, rfl⟩ ?_ ?_
  · rintro i d Γ gh σ H2 hd ⟨l, e6, rfl⟩ A
    obtain ⟨r, hr', rfl⟩ := map_at hd
    have hi := (List.getElem?_eq_some_iff.mp hr').1
    have hlen : ((rs.take i).eraseP (rb q)).length ≤ 60 := Nat.le_trans (List.length_eraseP_le ..) (by rw [List.length_take]; have := W.len; omega)
    have A : At _ gh H2 σ [.dat (.lst (rs.map rowD)), .dat (rowD row), .dat (.int (pI q)), .dat (.int ((2 ^ q.2 : Nat))), .dat (optD ((rs.take i).find? (rb q))), .own l (.lst (((rs.take i).eraseP (rb q)).map rowD)), .dat (rowD r)] := A
    rw [List.take_add_one, hr']
    show _
    rw [show (some r).toList = [r] from rfl, find_snoc, erase_snoc]
    cases hf : (rs.take i).find? (rb q) with
    | some c =>
      rw [hf] at A
      refine st_if A (b := false) (EvT.is (et_and (b := rb q r) (et_test (Ev.w (ev_isN (ew_var rfl)))) fun _ => et_part (ew_var rfl) (ew_var rfl) (ew_var rfl)) rfl) (fun z => by cases z) (fun _ H3 A => ?_)
      refine st_app A rfl (d := rowD r) (by walk_at "ev") rfl (by rw [List.length_map]; omega) fun H4 A => ⟨_, ⟨l, .dat (rowD r), ?_⟩, A⟩
      rw [List.map_append]; rfl
    | none =>
      rw [hf] at A
      refine st_if A (b := rb q r) (EvT.is (et_and (b := rb q r) (et_test (Ev.w (ev_isN (ew_var rfl)))) fun _ => et_part (ew_var rfl) (ew_var rfl) (ew_var rfl)) (Bool.true_and _)) (fun e H3 A => ?_) (fun e H3 A => ?_)
      · refine st_asg A (d := rowD r) (Ev.p (by walk_at "ev")) fun σ H4 A => ⟨_, ⟨l, .dat (rowD r), ?_⟩, A⟩
        rw [e, erase_none hf]; rfl
      · refine st_app A rfl (d := rowD r) (by walk_at "ev") rfl (by rw [List.length_map]; omega) fun H4 A => ⟨_, ⟨l, .dat (rowD r), ?_⟩, A⟩
        rw [e, erase_none hf]
        dsimp only
        rw [if_neg (by decide), if_neg (by decide), List.map_append]; rfl
  · rintro Γ σ H2 ⟨l, e6, rfl⟩ A
    rw [List.length_map, List.take_of_length_le (Nat.le_refl _)] at A
    have elen : (rs.eraseP (rb q)).length ≤ 60 := Nat.le_trans (List.length_eraseP_le ..) W.len
    unfold wob at kr
    dsimp only at kr
    cases hf : rs.find? (rb q) with
    | none =>
      rw [hf, erase_none hf] at A
      rw [hf] at kr
      refine q_ifR A (b := true) (et_test (Ev.w (ev_isN (d := optD none) (ew_var rfl)))) (fun e H3 A => ?_) (fun z => by cases z)
      exact st_retOD A rfl rfl (nl_rows rs) rfl kr
    | some c =>
      rw [hf] at A
      rw [hf] at kr
      have hc : c ∈ rs := List.mem_of_find?_eq_some hf
      have sub : ∀ r ∈ rs.eraseP (rb q), r ∈ rs := fun r h => List.mem_of_mem_eraseP h
      refine q_skip A (EvT.is (et_test (Ev.w (ev_isN (d := optD (some c)) (ew_var rfl)))) rfl) fun H3 A => ?_
      refine q_own A (ds := ((rs.eraseP (rb q)).map (wmul q c)).map rowD) ?_ (nl_rows _) (by show 5 < 7; decide) fun l2 σ H4 A => ?_
      · refine Ev.is (ev_lc1 (rs.eraseP (rb q)) rowD (fun r => rowD (wmul q c r)) (sr_list (ew_var rfl)) (by omega) (fun r h => ?_) (fun _ _ => rfl)) (by rw [List.map_map]; rfl)
        refine ev_if (b := rb q r) (et_part (ew_var rfl) (ew_var rfl) (ew_var rfl)) (fun e => ?_) (fun e => ?_)
        · have e2 : wmul q c r = mul r c := by unfold wmul; rw [if_pos e]
          rw [e2]
          exact ev_call (ea_cons (ew_var rfl) (ea_cons (ew_var (d := rowD c) rfl) ea_nil)) ⟨r, c, W.wf r (sub r h), W.wf c hc, W.bes r (sub r h) c hc, rfl, rfl⟩
        · have e2 : wmul q c r = r := by unfold wmul; rw [if_neg (by rw [e]; decide)]
          rw [e2]
          exact ev_var rfl rfl
      refine st_cut (Γ' := [.dat (.lst (rs.map rowD)), .dat (rowD (wmul q c row)), .dat (.int (pI q)), .dat (.int ((2 ^ q.2 : Nat))), .dat (rowD c), .own l2 (.lst (((rs.eraseP (rb q)).map (wmul q c)).map rowD)), e6]) A
        (st_if A (b := rb q row) (et_part (ew_var rfl) (ew_var rfl) (ew_var rfl)) (fun e H5 A => ?_) (fun e H5 A => ?_)) fun σ H5 A => ?_
      · have e2 : wmul q c row = mul row c := by unfold wmul; rw [if_pos e]
        rw [e2]
        exact st_asg A (d := rowD (mul row c)) (Ev.p (ev_call (ea_cons (ew_var rfl) (ea_cons (ew_var (d := rowD c) rfl) ea_nil)) ⟨row, c, W.wf2, W.wf c hc, by rw [ac_comm]; exact W.bes2 c hc, rfl, rfl⟩)) fun σ H6 A => A
      · have e2 : wmul q c row = row := by unfold wmul; rw [if_neg (by rw [e]; decide)]
        rw [e2]
        exact st_next A
      · exact st_retOD A rfl rfl (nl_rows _) rfl kr

end
end K92
end
section
set_option maxHeartbeats 4000000

namespace K92
open PySem PySem.Spec PyProof.Rows L2
section
variable {P : Program} {w : World} {K : PySem.W.Frag} {mg : Str → Option Value} {base : Heap}
theorem wobs_take {qs : List (Bool × Nat)} {i : Nat} {q : Bool × Nat} {s : List Row × Row} (h : qs[i]? = some q) : wobs (qs.take (i + 1)) s = wob q (wobs (qs.take i) s) := by
  unfold wobs
  rw [List.take_add_one, h, List.foldl_append]
  rfl
theorem wob_len (q : Bool × Nat) (s : List Row × Row) : (wob q s).1.length ≤ s.1.length := by
  unfold wob
  split
  · exact Nat.le_refl _
  · rw [List.length_map]; exact List.length_eraseP_le ..
theorem wobs_len : ∀ (qs : List (Bool × Nat)) (s : List Row × Row), (wobs qs s).1.length ≤ s.1.length
  | [], s => Nat.le_refl _
  | q :: qs, s => Nat.le_trans (wobs_len qs (wob q s)) (wob_len q s)
theorem wi_9 {n : Nat} (hn : n ≤ 9) {Pr : Row → Prop} {t : Bool} {done : Bool × Nat → Prop} {s : List Row × Row} (W : WI n Pr t done s) (hl : s.1.length ≤ 60) : WF9 s.1 s.2 :=
  ⟨fun r h => wf9 hn (W.wf r h), wf9 hn W.wf2, W.bes, W.bes2, hl⟩
theorem lets_at {n i k : Nat} (hi : i < 2) (hk : k < n) : (lets n)[i * n + k]? = some (decide (i = 1), k) := by
  unfold lets
  rcases (show i = 0 ∨ i = 1 by omega) with h | h
  · subst h
    rw [List.getElem?_append_left (by rw [List.length_map, List.length_range]; omega), Nat.zero_mul, Nat.zero_add, List.getElem?_map, List.getElem?_range hk]
    rfl
  · subst h
    rw [List.getElem?_append_right (by rw [List.length_map, List.length_range]; omega), List.length_map, List.length_range, Nat.one_mul, Nat.add_sub_cancel_left, List.getElem?_map, List.getElem?_range hk]
    rfl
def WV (n : Nat) (rs : List Row) (row : Row) : Prop := n ≤ 9 ∧ WI n (fun _ => True) false (fun _ => False) (rs, row) ∧ rs.length ≤ 60
def val (n : Nat) (rs : List Row) (row : Row) : Bool := (wobs (lets n) (rs, row)).2.m
def R_val (ds : List Dat) (d : Dat) : Prop := ∃ (n : Nat) (rs : List Row) (row : Row), WV n rs row ∧ ds = [.lst (rs.map rowD), rowD row, .int n] ∧ d = .int (b2i (val n rs row))
theorem sc_value_by : FnScope ["rows", "row", "n", "part", "k"] ["rows", "row", "n"] (defScope s_value_by) := ⟨rfl, rfl, rfl, by decide +kernel, rfl, by decide +kernel, by decide +kernel⟩
theorem c_value_by (T : Wd K mg) : Cal P w K mg base "value_by" 5 ["rows", "row", "n"] (spF R_val) := by
  obtain ⟨fd, F⟩ := F_value_by T
  have C_without_bit := c_without_bit (P := P) (w := w) (base := base) T
  refine ⟨_, fd, G_value_by T, fn_pure F sc_value_by (fun ds d ⟨_, _, _, _, e, _⟩ => by rw [e]; rfl) (by decide) (fun cdv A outer s H hr => ⟨_, (pss_cons (ps_for PassesOwn.never rfl (pi_tup (pe_tup (pa_cons pe_int (pa_cons pe_int pa_nil)))) (pg_name (i := 3) sc_value_by.nd rfl (Or.inl rfl))
        (pss_one (ps_for PassesOwn.never rfl (pi_range1 rfl (T_range T) (pa_cons (pv 2) pa_nil)) (pg_name (i := 4) sc_value_by.nd rfl (Or.inl rfl))
        (pss_one (ps_asg (pe_f C_without_bit (hr.mono (by decide)) rfl (pa_cons (pv 0) (pa_cons (pv 1) (pa_cons (pv 3) (pa_cons (pe_op op_shl pe_int (pv 4)) pa_nil))))) (pg_tup rfl (pgs_cons (pg_name (i := 0) sc_value_by.nd rfl (Or.inl rfl)) (pgs_cons (pg_name (i := 1) sc_value_by.nd rfl (Or.inl rfl)) pgs_nil))))))))
      (pss_one (ps_ret (pe_ix ix_tup (pv 1) pe_int (fun _ _ => rfl))))), ?_⟩), F.kp, F.bindsN (fun _ _ _ _ _ _ us hl => match us, hl with | [_, _, _], _ => rfl)⟩
  rintro ds d ⟨n, rs, row, ⟨hn, W, hl⟩, rfl, rfl⟩ D σ A kr kn
  have A : At H [] H σ [.dat (.lst (rs.map rowD)), .dat (rowD row), .dat (.int n), .no, .no] := A
  have Wf : ∀ m, WF9 (wobs ((lets n).take m) (rs, row)).1 (wobs ((lets n).take m) (rs, row)).2 := fun m => wi_9 hn (wobs_ok (fun _ _ _ _ _ _ _ => trivial) W) (Nat.le_trans (wobs_len _ _) hl)
  refine q_forN (ds := [.int 1, .int 2]) (fun i Γ => ∃ e3 e4, Γ = [.dat (.lst ((wobs ((lets n).take (i * n)) (rs, row)).1.map rowD)), .dat (rowD (wobs ((lets n).take (i * n)) (rs, row)).2), .dat (.int n), e3, e4]) A
    (sp_tup (Ev.p (by walk_at "ev"))) rfl ⟨_, _, by rw [Nat.zero_mul]; rfl⟩ ?_ ?_
  · rintro i d Γ gh σ H2 hd ⟨e3, e4, rfl⟩ A
    have hi : i < 2 := (List.getElem?_eq_some_iff.mp hd).1
    have ed : d = .int (pI (decide (i = 1), 0)) := by
      rcases (show i = 0 ∨ i = 1 by omega) with h | h <;> subst h <;> cases hd <;> rfl
    subst ed
    have A : At _ gh H2 σ [.dat (.lst ((wobs ((lets n).take (i * n)) (rs, row)).1.map rowD)), .dat (rowD (wobs ((lets n).take (i * n)) (rs, row)).2), .dat (.int n), .dat (.int (pI (decide (i = 1), 0))), e4] := A
    refine st_forN (ds := (List.range n).map fun k => Dat.int (k : Nat)) (fun k Γ => ∃ e4, Γ = [.dat (.lst ((wobs ((lets n).take (i * n + k)) (rs, row)).1.map rowD)), .dat (rowD (wobs ((lets n).take (i * n + k)) (rs, row)).2), .dat (.int n), .dat (.int (pI (decide (i = 1), 0))), e4]) A
      (srcp_is (sp_rng1 (ea_cons (ew_var rfl) ea_nil) (by omega)) (by rw [Int.toNat_natCast]; exact rng0 n)) (nlAll_of fun d h => by obtain ⟨k, _, e⟩ := List.mem_map.mp h; rw [← e]; rfl) ⟨_, rfl⟩ ?_ ?_
    · rintro k d Γ gh σ H3 hd ⟨e4, rfl⟩ A
      obtain ⟨j, hj, rfl⟩ := map_at hd
      have hk : k < n := by
        have := (List.getElem?_eq_some_iff.mp hj).1
        rw [List.length_range] at this; exact this
      rw [List.getElem?_range hk] at hj
      cases hj
      have A : At _ gh H3 σ [.dat (.lst ((wobs ((lets n).take (i * n + k)) (rs, row)).1.map rowD)), .dat (rowD (wobs ((lets n).take (i * n + k)) (rs, row)).2), .dat (.int n), .dat (.int (pI (decide (i = 1), 0))), .dat (.int (k : Nat))] := A
      have W3 := Wf (i * n + k)
      have e := wobs_take (s := (rs, row)) (lets_at hi hk)
      rw [← Nat.add_assoc, e]
      generalize wobs ((lets n).take (i * n + k)) (rs, row) = s at W3 A ⊢
      refine st_tup2 (d1 := .lst ((wob (decide (i = 1), k) s).1.map rowD)) (d2 := rowD (wob (decide (i = 1), k) s).2) A (Ev.p (ev_call (ea_cons (ew_var rfl) (ea_cons (ew_var rfl) (ea_cons (ew_var rfl) (ea_cons (Ev.w (Ev.is (d := .int (1 * 2 ^ ((k : Nat) : Int).toNat)) ?_ (by rw [nb_oneshl]))) ea_nil)))) ⟨(decide (i = 1), k), s.1, s.2, W3, rfl, rfl⟩)) fun σ H4 A => ⟨_, ⟨.dat (.int (k : Nat)), rfl⟩, A⟩
      walk_at "ev"
      exact ⟨Int.natCast_nonneg k, by omega, by decide⟩
    · rintro Γ σ H3 ⟨e4, rfl⟩ A
      rw [List.length_map, List.length_range] at A
      refine ⟨_, ⟨.dat (.int (pI (decide (i = 1), 0))), e4, ?_⟩, A⟩
      rw [Nat.add_mul, Nat.one_mul]
  · rintro Γ σ H2 ⟨e3, e4, rfl⟩ A
    have e : (lets n).take ([Dat.int 1, Dat.int 2].length * n) = lets n := List.take_of_length_le (by unfold lets; rw [List.length_append, List.length_map, List.length_map, List.length_range]; show _ ≤ 2 * n; omega)
    rw [e] at A
    exact st_ret A (by walk_at "ev") kr
def R_cl (ds : List Dat) (d : Dat) : Prop := ∃ (r : Row) (n : Nat), r.wf n ∧ n ≤ 9 ∧ r.m = false ∧ ¬ (r.x = 0 ∧ r.z = 0) ∧ ds = [rowD r, .int n] ∧ d = rowD r
theorem sc_checked_look : FnScope ["thing", "n", "row"] ["thing", "n"] (defScope s_checked_look) := ⟨rfl, rfl, rfl, by decide +kernel, rfl, by decide +kernel, by decide +kernel⟩
theorem c_checked_look (T : Wd K mg) : Cal P w K mg base "checked_look" 3 ["thing", "n"] (spF R_cl) := by
  obtain ⟨fd, F⟩ := F_checked_look T
  have C_checked_row := c_checked_row (P := P) (w := w) (base := base) T
  refine ⟨_, fd, G_checked_look T, fn_pure F sc_checked_look (fun ds d ⟨_, _, _, _, _, _, e, _⟩ => by rw [e]; rfl) (by decide) (fun cdv A outer s H hr => ⟨_, (pss_cons (ps_set (i := 2) sc_checked_look.nd rfl (Or.inl rfl) (pe_f C_checked_row (hr.mono (by decide)) rfl (pa_cons (pv 0) (pa_cons (pv 1) pa_nil))))
      (pss_cons (ps_if (PW.pt (pw_or (pt_cmpR op_eq (pe_ix ix_tup (pv 2) pe_int (fun _ _ => rfl)) pe_int (nomark _)) (pw_or1 (PW.pt (pw_and (pt_cmpR op_eq (pe_ix ix_tup (pv 2) pe_int (fun _ _ => rfl)) pe_int (nomark _)) (pw_and1 (pt_cmpR op_eq (pe_ix ix_tup (pv 2) pe_int (fun _ _ => rfl)) pe_int (nomark _)))))))) (pss_one ps_never) pss_nil)
      (pss_one (ps_ret (pv 2))))), ?_⟩), F.kp, F.bindsN (fun _ _ _ _ _ _ us hl => match us, hl with | [_, _], _ => rfl)⟩
  rintro ds d ⟨r, n, hw, hn, hm, hz, rfl, rfl⟩ D σ A kr kn
  have A : At H [] H σ [.dat (rowD r), .dat (.int n), .no] := A
  refine q_asg A (d := rowD r) (Ev.p (ev_call (ea_cons (ew_var rfl) (ea_cons (ew_var rfl) ea_nil)) ⟨r, n, hw, hn, rfl, rfl⟩)) fun σ H1 A => ?_
  refine q_skip A (EvT.is (b := decide (b2i r.m = 1) || (decide ((r.x : Int) = 0) && decide ((r.z : Int) = 0))) (by
    walk_at "ev"
    all_goals first | exact atI_nat (j := 0) rfl | exact atI_nat (j := 1) rfl | exact atI_nat (j := 2) rfl) ?_) fun H2 A => ?_
  · rw [hm]
    by_cases hx : r.x = 0
    · have : ¬ (r.z : Int) = 0 := fun z => hz ⟨hx, by omega⟩
      rw [decide_eq_false this]; simp [b2i]
    · have : ¬ (r.x : Int) = 0 := fun z => hx (by omega)
      rw [decide_eq_false this]; simp [b2i]
  · exact st_ret A (by walk_at "ev") kr
def sgD (K : PySem.W.Frag) (n : Nat) (rs : List Row) : Dat := .ins (He.ga K "Signs") ["many", "kept"] [.int n, .lst (rs.map rowD)]
/-! ### the machine -/
def Rm_Machine (ns : List Str) (ds as : List Dat) (ns' : List Str) (ds' : List Dat) : Prop := ∃ n m : Nat, 1 ≤ n ∧ n ≤ m ∧ ns = [] ∧ ds = [] ∧ as = [.int n, .int m] ∧ ns' = (["many"] : List Str) ∧ ds' = [.int n]
theorem sc_Machine_init : FnScope ["self", "n", "most"] ["self", "n", "most"] (defScope s_Machine_init) := ⟨rfl, rfl, rfl, by decide +kernel, rfl, by decide +kernel, by decide +kernel⟩
theorem i_Machine (T : Wd K mg) : ∃ fd, FnOk P w K mg base CX0 1 (He.ma K (He.ga K "Machine") "__init__") fd ["self", "n", "most"] (spM (He.ga K "Signs") Rm_Machine) ∧ Binds K fd ["self", "n", "most"] [] := by
  obtain ⟨fd, F⟩ := F_Machine_init T
  refine ⟨fd, fn_meth F sc_Machine_init (fun ns ds as ns' ds' ⟨_, _, _, _, _, _, e, _⟩ => by rw [e]; rfl) (by decide) (fun cdv A outer s H hr => ⟨_, (pss_cons (ps_if (PW.pt (pw_or (pt_not (pt_val (pe_callB call_isi rfl (T_isinstance T) (by decide +kernel) (pa_cons (pv 1) (pa_cons (pe_bltn (v := .ty "int") rfl (T_int T) (by decide +kernel) rfl) pa_nil))))) (pw_or (pt_val (pe_callB call_isi rfl (T_isinstance T) (by decide +kernel) (pa_cons (pv 1) (pa_cons (pe_bltn (v := .ty "bool") rfl (T_bool T) (by decide +kernel) rfl) pa_nil)))) (pw_or1 (pt_not (pt_chain op_le op_le pe_int (pv 1) (pv 2))))))) (pss_one ps_never) pss_nil)
      (pss_one (ps_fld (pv 0) (pv 1) rfl))), ?_⟩), F.bindsN (fun _ _ _ _ _ _ us hl => match us, hl with | [_, _, _], _ => rfl)⟩
  rintro ns ds as ns' ds' ⟨n, m, h1, h2, rfl, rfl, rfl, rfl, rfl⟩ nas H0 p D σ A k
  have A : At H0 [] H σ [.own p (.ins (He.ga K "Signs") [] []), .dat (.int n), .dat (.int m)] := A
  refine q_skip A (EvT.is (b := (!true) || (false || !(decide ((1 : Int) ≤ n) && decide ((n : Int) ≤ m)))) (by walk_at "ev") ?_) fun H1 A => ?_
  · rw [decide_eq_true (show (1 : Int) ≤ n by omega), decide_eq_true (show (n : Int) ≤ m by omega)]; rfl
  · exact st_fldO A rfl (d := .int n) (by walk_at "ev") (L_Signs T) (N_Signs_many T) (by decide) put_0 fun H2 A => k _ _ _ A rfl
def Rm_Signs (ns : List Str) (ds as : List Dat) (ns' : List Str) (ds' : List Dat) : Prop := ∃ n : Nat, 1 ≤ n ∧ n ≤ 9 ∧ ns = [] ∧ ds = [] ∧ as = [.int n] ∧ ns' = (["many", "kept"] : List Str) ∧ ds' = [.int n, .lst (((List.range n).map zrow).map rowD)]
theorem sc_Signs_init : FnScope ["self", "n", "k"] ["self", "n"] (defScope s_Signs_init) := ⟨rfl, rfl, rfl, by decide +kernel, rfl, by decide +kernel, by decide +kernel⟩
theorem i_Signs (T : Wd K mg) : ∃ fd, FnOk P w K mg base CX0 2 (He.ma K (He.ga K "Signs") "__init__") fd ["self", "n"] (spM (He.ga K "Signs") Rm_Signs) ∧ Binds K fd ["self", "n"] [] := by
  obtain ⟨fd, F⟩ := F_Signs_init T
  obtain ⟨_, OK_Machine_init, B_Machine_init⟩ := i_Machine (P := P) (w := w) (base := base) T
  refine ⟨fd, fn_meth F sc_Signs_init (fun ns ds as ns' ds' ⟨_, _, _, _, _, e, _⟩ => by rw [e]; rfl) (by decide) (fun cdv A outer s H hr => ⟨_, (pss_cons (ps_expr (pe_clsfn (pe_glob (v := .ref (He.ga K "Machine")) rfl (G_Machine T) rfl) (X_Machine T).1 (X_Machine T).2 (M_Machine_init T).kp OK_Machine_init (hr.mono (by decide)) B_Machine_init pass0 (pa_cons (pv 0) (pa_cons (pv 1) (pa_cons (pe_glob (v := .int 40) rfl (T_MOST_WIRES T).choose_spec ⟨_, rfl⟩) pa_nil)))))
      (pss_one (ps_fld (pv 0) (pe_lc (own := [("k", 2)]) (g := gName 2) rfl sc_Signs_init.nd (pi_range1 rfl (T_range T) (pa_cons (pv 1) pa_nil)) (blkOk_by (own := [("k", 2)]) (N := ["self", "n", "k"]) (sc := defScope s_Signs_init) (by decide +kernel)) (fun _ _ _ _ _ => pg_name (i := 2) sc_Signs_init.nd rfl (Or.inl rfl)) (fun _ _ _ _ _ => pts_nil) (fun _ _ _ _ _ => (pe_tup (pa_cons pe_int (pa_cons pe_int (pa_cons (pe_op op_shl pe_int (pv 2)) pa_nil)))))) rfl))), ?_⟩), F.bindsN (fun _ _ _ _ _ _ us hl => match us, hl with | [_, _], _ => rfl)⟩
  rintro ns ds as ns' ds' ⟨n, h1, h2, rfl, rfl, rfl, rfl, rfl⟩ nas H0 p D σ A k
  have A : At H0 [] H σ [.own p (.ins (He.ga K "Signs") [] []), .dat (.int n), .no] := A
  refine q_clsM (as := [.int n, .int (40 : Nat)]) A rfl (noOwn_of rfl) (ea_cons (ew_var rfl) (ea_cons ev_int.w ea_nil)) rfl ⟨n, 40, h1, by omega, rfl, rfl, rfl, rfl, rfl⟩ fun H1 A => ?_
  have A : At H0 [] H1 σ [.own p (.ins (He.ga K "Signs") ["many"] [.int n]), .dat (.int n), .no] := A
  refine st_fldO (i := 0) (l := p) (ns := ["many"]) (ds := [.int n]) A rfl (d := .lst (((List.range n).map zrow).map rowD)) ?_ (L_Signs T) (N_Signs_kept T) (by decide) (put_1 (by decide)) fun H2 A => k _ _ _ A rfl
  rw [List.map_map]
  refine ev_lc1 (List.range n) (fun i => Dat.int (i : Nat)) _ (src_is (sr_rng1 (ea_cons (ew_var rfl) ea_nil) (by omega)) (by rw [Int.toNat_natCast]; exact rng0 n)) (by rw [List.length_range]; omega) (fun i hi => ?_) (fun _ _ => rfl)
  have := List.mem_range.mp hi
  refine Ev.is (d := .tup [.int 0, .int 0, .int (1 * 2 ^ ((i : Nat) : Int).toNat)]) ?_ (by rw [nb_oneshl]; rfl)
  walk_at "ev"
  exact ⟨Int.natCast_nonneg i, by omega, by decide⟩
def Rm_do (ns : List Str) (ds as : List Dat) (ns' : List Str) (ds' : List Dat) : Prop := ∃ (n : Nat) (rs : List Row) (e : Dd), n ≤ 9 ∧ e.ok n ∧ (∀ r ∈ rs, r.wf 9) ∧ rs.length ≤ 60 ∧ ns = (["many", "kept"] : List Str) ∧ ds = [.int n, .lst (rs.map rowD)] ∧ as = [wordsD e] ∧ ns' = (["many", "kept"] : List Str) ∧ ds' = [.int n, .lst ((rs.map (act e)).map rowD)]
theorem sc_Signs_do : FnScope ["self", "words", "deed", "row"] ["self", "words"] (defScope s_Signs_do) := ⟨rfl, rfl, rfl, by decide +kernel, rfl, by decide +kernel, by decide +kernel⟩
theorem m_do (T : Wd K mg) : ∃ fd, FnOk P w K mg base CX0 4 (He.ma K (He.ga K "Signs") "do") fd ["self", "words"] (spM (He.ga K "Signs") Rm_do) ∧ Binds K fd ["self", "words"] [] := by
  obtain ⟨fd, F⟩ := F_Signs_do T
  have C_deed_of := c_deed_of (P := P) (w := w) (base := base) T
  obtain ⟨_, OK_Over_on_row, B_Over_on_row⟩ := o_Over (P := P) (w := w) (base := base) T
  obtain ⟨_, OK_Quarter_on_row, B_Quarter_on_row⟩ := o_Quarter (P := P) (w := w) (base := base) T
  obtain ⟨_, OK_Back_on_row, B_Back_on_row⟩ := o_Back (P := P) (w := w) (base := base) T
  obtain ⟨_, OK_Both_on_row, B_Both_on_row⟩ := o_Both (P := P) (w := w) (base := base) T
  obtain ⟨_, OK_Where_on_row, B_Where_on_row⟩ := o_Where (P := P) (w := w) (base := base) T
  obtain ⟨_, OK_Swap_on_row, B_Swap_on_row⟩ := o_Swap (P := P) (w := w) (base := base) T
  refine ⟨fd, fn_meth F sc_Signs_do (fun ns ds as ns' ds' ⟨_, _, _, _, _, _, _, _, _, e, _⟩ => by rw [e]; rfl) (by decide) (fun cdv A outer s H hr => ⟨_, (pss_cons (ps_set (i := 2) sc_Signs_do.nd rfl (Or.inr rfl) (pe_f C_deed_of (hr.mono (by decide)) rfl (pa_cons (pv 1) (pa_cons (pe_fld (pv 0) rfl) pa_nil))))
      (pss_one (ps_fld (pv 0) (pe_lc (own := [("row", 3)]) (g := gName 3) rfl sc_Signs_do.nd (pi_list (pe_fld (pv 0) rfl)) (blkOk_by (own := [("row", 3)]) (N := ["self", "words", "deed", "row"]) (sc := defScope s_Signs_do) (by decide +kernel)) (fun _ _ _ _ _ => pg_name (i := 3) sc_Signs_do.nd rfl (Or.inl rfl)) (fun _ _ _ _ _ => pts_nil) (fun _ _ _ _ _ => (pe_alt (pe_meth (pv 2) (L_Over T) (M_Over_on_row T) OK_Over_on_row (hr.mono (by decide)) B_Over_on_row .nil pass0 (pa_cons (pv 3) pa_nil))
          (pe_alt (pe_meth (pv 2) (L_Quarter T) (M_Quarter_on_row T) OK_Quarter_on_row (hr.mono (by decide)) B_Quarter_on_row .nil pass0 (pa_cons (pv 3) pa_nil))
          (pe_alt (pe_meth (pv 2) (L_Back T) (M_Back_on_row T) OK_Back_on_row (hr.mono (by decide)) B_Back_on_row .nil pass0 (pa_cons (pv 3) pa_nil))
          (pe_alt (pe_meth (pv 2) (L_Both T) (M_Both_on_row T) OK_Both_on_row (hr.mono (by decide)) B_Both_on_row .nil pass0 (pa_cons (pv 3) pa_nil))
          (pe_alt (pe_meth (pv 2) (L_Where T) (M_Where_on_row T) OK_Where_on_row (hr.mono (by decide)) B_Where_on_row .nil pass0 (pa_cons (pv 3) pa_nil))
          (pe_meth (pv 2) (L_Swap T) (M_Swap_on_row T) OK_Swap_on_row (hr.mono (by decide)) B_Swap_on_row .nil pass0 (pa_cons (pv 3) pa_nil))))))))) rfl))), ?_⟩), F.bindsN (fun _ _ _ _ _ _ us hl => match us, hl with | [_, _], _ => rfl)⟩
  rintro ns ds as ns' ds' ⟨n, rs, e, hn, he, hw, hl, rfl, rfl, rfl, rfl, rfl⟩ nas H0 p D σ A k
  have A : At H0 [] H σ [.own p (.ins (He.ga K "Signs") ["many", "kept"] [.int n, .lst (rs.map rowD)]), .dat (wordsD e), .no, .no] := A
  refine q_asg A (d := insD K e) (Ev.p (ev_call (ea_cons (ew_var rfl) (ea_cons (ew_fld (ew_var rfl) (L_Signs T) (N_Signs_many T) rfl) ea_nil)) ⟨e, n, he, rfl, rfl⟩)) fun σ H1 A => ?_
  refine st_fldO (i := 0) (l := p) (ns := ["many", "kept"]) (ds := [.int n, .lst (rs.map rowD)]) A rfl (d := .lst ((rs.map (act e)).map rowD)) ?_ (L_Signs T) (N_Signs_kept T) (by decide) (put_at (by decide)) fun H2 A => k _ _ _ A rfl
  rw [List.map_map]
  refine ev_lc1 rs rowD _ (sr_list (ew_fld (ew_var rfl) (L_Signs T) (N_Signs_kept T) rfl)) (by omega) (fun r h => ?_) (fun _ _ => rfl)
  exact ev_onrow (ew_var rfl) (ea_cons (ew_var rfl) ea_nil) (ok_le he hn) (hw r h)
/-! ### looks -/
def R_rows (K : PySem.W.Frag) (ds : List Dat) (d : Dat) : Prop := ∃ (n : Nat) (rs : List Row), ds = [sgD K n rs] ∧ d = .lst (rs.map rowD)
theorem sc_Signs_rows : FnScope ["self"] ["self"] (defScope s_Signs_rows) := ⟨rfl, rfl, rfl, by decide +kernel, rfl, by decide +kernel, by decide +kernel⟩
theorem m_rows (T : Wd K mg) : ∃ fd, FnOk P w K mg base CX0 1 (He.ma K (He.ga K "Signs") "rows") fd ["self"] (spF (R_rows K)) ∧ Binds K fd ["self"] [] := by
  obtain ⟨fd, F⟩ := F_Signs_rows T
  refine ⟨fd, fn_pure F sc_Signs_rows (fun ds d ⟨_, _, e, _⟩ => by rw [e]; rfl) (by decide) (fun cdv A outer s H hr => ⟨_, (pss_one (ps_ret (pe_callTy call_list_of rfl (T_list T) (by decide +kernel) (pa_cons (pe_fld (pv 0) rfl) pa_nil)))), ?_⟩), F.bindsN (fun _ _ _ _ _ _ us hl => match us, hl with | [_], _ => rfl)⟩
  rintro ds d ⟨n, rs, rfl, rfl⟩ D σ A kr kn
  have A : At H [] H σ [.dat (sgD K n rs)] := A
  exact st_ret A (ev_cb (ea_cons (ew_fld (ew_var rfl) (L_Signs T) (N_Signs_kept T) rfl) ea_nil) (rc_list (nl_rows rs))) kr
def R_surely (K : PySem.W.Frag) (ds : List Dat) (d : Dat) : Prop := ∃ (n : Nat) (rs : List Row) (row : Row), WV n rs row ∧ ds = [sgD K n rs, rowD row] ∧ d = .int (b2i (val n rs row))
theorem sc_Signs_surely : FnScope ["self", "row", "one"] ["self", "row"] (defScope s_Signs_surely) := ⟨rfl, rfl, rfl, by decide +kernel, rfl, by decide +kernel, by decide +kernel⟩
theorem m_surely (T : Wd K mg) : ∃ fd, FnOk P w K mg base CX0 6 (He.ma K (He.ga K "Signs") "surely") fd ["self", "row"] (spF (R_surely K)) ∧ Binds K fd ["self", "row"] [] := by
  obtain ⟨fd, F⟩ := F_Signs_surely T
  have C_goes_beside := c_goes_beside (P := P) (w := w) (base := base) T
  have C_value_by := c_value_by (P := P) (w := w) (base := base) T
  refine ⟨fd, fn_pure F sc_Signs_surely (fun ds d ⟨_, _, _, _, e, _⟩ => by rw [e]; rfl) (by decide) (fun cdv A outer s H hr => ⟨_, (pss_cons (ps_if (pt_not (pt_val (pe_callB (cr_all rfl) rfl (T_all T) (by decide +kernel) (pa_cons (pe_lc (own := [("one", 2)]) (g := gName 2) rfl sc_Signs_surely.nd (pi_list (pe_fld (pv 0) rfl)) (blkOk_by (own := [("one", 2)]) (N := ["self", "row", "one"]) (sc := defScope s_Signs_surely) (by decide +kernel)) (fun _ _ _ _ _ => pg_name (i := 2) sc_Signs_surely.nd rfl (Or.inl rfl)) (fun _ _ _ _ _ => pts_nil) (fun _ _ _ _ _ => (pe_f C_goes_beside (hr.mono (by decide)) rfl (pa_cons (pv 2) (pa_cons (pv 1) pa_nil))))) pa_nil)))) (pss_one (ps_ret pe_non)) pss_nil)
      (pss_one (ps_ret (pe_f C_value_by (hr.mono (by decide)) rfl (pa_cons (pe_callTy call_list_of rfl (T_list T) (by decide +kernel) (pa_cons (pe_fld (pv 0) rfl) pa_nil)) (pa_cons (pv 1) (pa_cons (pe_fld (pv 0) rfl) pa_nil))))))), ?_⟩), F.bindsN (fun _ _ _ _ _ _ us hl => match us, hl with | [_, _], _ => rfl)⟩
  rintro ds d ⟨n, rs, row, W, rfl, rfl⟩ D σ A kr kn
  have W9 := wi_9 W.1 W.2.1 W.2.2
  have A : At H [] H σ [.dat (sgD K n rs), .dat (rowD row), .no] := A
  refine q_skip A (EvT.is (et_not (et_test (Ev.w (ev_all (b := true) (Ev.w (ev_lc1 rs rowD (fun r => Dat.bl (!ac r row)) (sr_list (ew_fld (ew_var rfl) (L_Signs T) (N_Signs_kept T) rfl)) (by have := W.2.2; omega) (fun r h => ev_call (ea_cons (ew_var rfl) (ea_cons (ew_var rfl) ea_nil)) ⟨r, row, W9.wf r h, W9.wf2, rfl, rfl⟩) (fun _ _ => rfl))) ?_)))) rfl) fun H1 A => ?_
  · exact List.all_eq_true.mpr fun r h => by rw [W9.bes2 r h]; rfl
  · exact st_ret A (ev_call (ea_cons (Ev.w (ev_cb (ea_cons (ew_fld (ew_var rfl) (L_Signs T) (N_Signs_kept T) rfl) ea_nil) (rc_list (nl_rows rs)))) (ea_cons (ew_var rfl) (ea_cons (ew_fld (ew_var rfl) (L_Signs T) (N_Signs_many T) rfl) ea_nil))) ⟨n, rs, row, W, rfl, rfl⟩) kr
def R_look (K : PySem.W.Frag) (ds : List Dat) (d : Dat) : Prop := ∃ (n : Nat) (rs : List Row) (row : Row), WV n rs row ∧ row.m = false ∧ ¬ (row.x = 0 ∧ row.z = 0) ∧ ds = [sgD K n rs, rowD row, .non] ∧ d = .tup [.int (b2i (val n rs row)), .bl true]
theorem sc_Signs_looked_at : FnScope ["self", "row", "draw", "value"] ["self", "row", "draw"] (defScope s_Signs_looked_at) := ⟨rfl, rfl, rfl, by decide +kernel, rfl, by decide +kernel, by decide +kernel⟩
theorem m_looked_at (T : Wd K mg) : ∃ fd, FnOk P w K mg base CX0 7 (He.ma K (He.ga K "Signs") "looked_at") fd ["self", "row", "draw"] (spF (R_look K)) ∧ Binds K fd ["self", "row", "draw"] [] := by
  obtain ⟨fd, F⟩ := F_Signs_looked_at T
  have C_checked_look := c_checked_look (P := P) (w := w) (base := base) T
  obtain ⟨_, OK_Signs_surely, B_Signs_surely⟩ := m_surely (P := P) (w := w) (base := base) T
  refine ⟨fd, fn_pure F sc_Signs_looked_at (fun ds d ⟨_, _, _, _, _, _, e, _⟩ => by rw [e]; rfl) (by decide) (fun cdv A outer s H hr => ⟨_, (pss_cons (ps_set (i := 1) sc_Signs_looked_at.nd rfl (Or.inl rfl) (pe_f C_checked_look (hr.mono (by decide)) rfl (pa_cons (pv 1) (pa_cons (pe_fld (pv 0) rfl) pa_nil))))
      (pss_cons (ps_set (i := 3) sc_Signs_looked_at.nd rfl (Or.inl rfl) (pe_meth (pv 0) (L_Signs T) (M_Signs_surely T) OK_Signs_surely (hr.mono (by decide)) B_Signs_surely .nil pass0 (pa_cons (pv 1) pa_nil)))
      (pss_cons (ps_if (pt_cmpR op_notN (pv 3) pe_non (nomark _)) (pss_one (ps_ret (pe_tup (pa_cons (pv 3) (pa_cons pe_bl pa_nil))))) pss_nil)
      pss_never))), ?_⟩), F.bindsN (fun _ _ _ _ _ _ us hl => match us, hl with | [_, _, _], _ => rfl)⟩
  rintro ds d ⟨n, rs, row, W, hm, hz, rfl, rfl⟩ D σ A kr kn
  have A : At H [] H σ [.dat (sgD K n rs), .dat (rowD row), .dat .non, .no] := A
  refine q_asg A (d := rowD row) (Ev.p (ev_call (ea_cons (ew_var rfl) (ea_cons (ew_fld (ew_var rfl) (L_Signs T) (N_Signs_many T) rfl) ea_nil)) ⟨row, n, W.2.1.wf2, W.1, hm, hz, rfl, rfl⟩)) fun σ H1 A => ?_
  refine q_asg A (d := .int (b2i (val n rs row))) (Ev.p (ev_meth (dd := []) (ew_var rfl) (by decide) (ea_cons (ew_var rfl) ea_nil) (fun _ => rfl) ⟨n, rs, row, W, rfl, rfl⟩)) fun σ H2 A => ?_
  refine q_ifR A (b := true) (et_test (Ev.w (ev_notN (d := .int (b2i (val n rs row))) (ew_var rfl)))) (fun _ H3 A => ?_) (fun z => by cases z)
  exact st_ret A (by walk_at "ev") kr
theorem sc_Signs_look : FnScope ["self", "row", "draw"] ["self", "row", "draw"] (defScope s_Signs_look) := ⟨rfl, rfl, rfl, by decide +kernel, rfl, by decide +kernel, by decide +kernel⟩
theorem m_look (T : Wd K mg) : ∃ fd ds, FnOk P w K mg base CX0 8 (He.ma K (He.ga K "Signs") "look") fd ["self", "row", "draw"] (spF (R_look K)) ∧ Vals [.non] ds ∧ Binds K fd ["self", "row", "draw"] ds := by
  obtain ⟨fd, F⟩ := F_Signs_look T
  obtain ⟨_, OK_Signs_looked_at, B_Signs_looked_at⟩ := m_looked_at (P := P) (w := w) (base := base) T
  obtain ⟨ds, h1, h2⟩ := F.binds1 (ps := ["self", "row", "draw"]) 2 0 (by simp) rfl (fun _ _ _ _ _ _ _ us its hu hi => by
    match us, hu, its, hi with
    | [_, _], _, [_], _ => exact ⟨_, rfl, rfl⟩)
  refine ⟨fd, ds, fn_pure F sc_Signs_look (fun ds d ⟨_, _, _, _, _, _, e, _⟩ => by rw [e]; rfl) (by decide) (fun cdv A outer s H hr => ⟨_, (pss_one (ps_ret (pe_meth (pv 0) (L_Signs T) (M_Signs_looked_at T) OK_Signs_looked_at (hr.mono (by decide)) B_Signs_looked_at .nil pass0 (pa_cons (pv 1) (pa_cons (pv 2) pa_nil))))), ?_⟩), h1, h2⟩
  rintro ds d ⟨n, rs, row, W, hm, hz, rfl, rfl⟩ D σ A kr kn
  have A : At H [] H σ [.dat (sgD K n rs), .dat (rowD row), .dat .non] := A
  exact st_ret A (ev_meth (dd := []) (ew_var rfl) (by decide) (ea_cons (ew_var rfl) (ea_cons (ew_var rfl) ea_nil)) (fun _ => rfl) ⟨n, rs, row, W, hm, hz, rfl, rfl⟩) kr

end
end K92
end
section
set_option maxHeartbeats 4000000

namespace K92
open PySem PySem.Spec PyProof.Rows L2
section
variable {P : Program} {w : World} {K : PySem.W.Frag} {mg : Str → Option Value} {base : Heap}
/-! ### numbers and leads -/
def ldD (p : Nat × Nat) : Dat := .tup [.int (p.1 : Nat), .int (p.2 : Nat)]
def tkD (t : Nat × Nat × Bool) : Dat := .tup [.int (t.1 : Nat), .int (t.2.1 : Nat), .int (b2i t.2.2)]
def eqD (e : Nat × Bool) : Dat := .tup [.int (e.1 : Nat), .int (b2i e.2)]
theorem nl_map {α : Type} (f : α → Dat) (h : ∀ a, nl (f a) = true) (l : List α) : nlAll (l.map f) = true := nlAll_of fun d hd => by
  obtain ⟨a, _, e⟩ := List.mem_map.mp hd
  rw [← e]; exact h a
def R_lo (ds : List Dat) (d : Dat) : Prop := ∃ (m : Nat) (ks : List (Nat × Nat)), ds = [.int m, .lst (ks.map ldD)] ∧ d = .int (lo ks m)
theorem sc_left_over : FnScope ["number", "kept", "lead", "other"] ["number", "kept"] (defScope s_left_over) := ⟨rfl, rfl, rfl, by decide +kernel, rfl, by decide +kernel, by decide +kernel⟩
theorem c_left_over (T : Wd K mg) : Cal P w K mg base "left_over" 1 ["number", "kept"] (spF R_lo) := by
  obtain ⟨fd, F⟩ := F_left_over T
  refine ⟨_, fd, G_left_over T, fn_pure F sc_left_over (fun ds d ⟨_, _, e, _⟩ => by rw [e]; rfl) (by decide) (fun cdv A outer s H hr => ⟨_, (pss_cons (ps_for PassesOwn.never rfl (pi_list (pv 1)) (pg_tup rfl (pgs_cons (pg_name (i := 2) sc_left_over.nd rfl (Or.inl rfl)) (pgs_cons (pg_name (i := 3) sc_left_over.nd rfl (Or.inl rfl)) pgs_nil)))
        (pss_one (ps_if (pt_cmpR op_eq (pe_op op_and (pe_op op_shr (pv 0) (pv 2)) pe_int) pe_int (nomark _)) (pss_one (ps_aug (i := 0) sc_left_over.nd rfl (Or.inl rfl) (pv 3) (pip_of iop_xor))) pss_nil)))
      (pss_one (ps_ret (pv 0)))), ?_⟩), F.kp, F.bindsN (fun _ _ _ _ _ _ us hl => match us, hl with | [_, _], _ => rfl)⟩
  rintro ds d ⟨m, ks, rfl, rfl⟩ D σ A kr kn
  have A : At H [] H σ [.dat (.int m), .dat (.lst (ks.map ldD)), .no, .no] := A
  refine q_for2 (ds := ks.map ldD) (fun i Γ => ∃ e2 e3, Γ = [.dat (.int ((ks.take i).foldl lo1 m : Nat)), .dat (.lst (ks.map ldD)), e2, e3]) A (sp_list (ep_var rfl)) (nl_map _ (fun _ => rfl) ks) ⟨_, _, rfl⟩ (fun i d h => by obtain ⟨p, _, e⟩ := map_at h; exact ⟨_, _, e⟩) ?_ ?_
  · rintro i d1 d2 Γ gh σ H2 hd ⟨e2, e3, rfl⟩ A
    obtain ⟨p, hp, e⟩ := map_at hd
    injection e with e
    injection e with e1 e
    injection e with e2 _
    subst e1 e2
    have A : At _ gh H2 σ [.dat (.int ((ks.take i).foldl lo1 m : Nat)), .dat (.lst (ks.map ldD)), .dat (.int (p.1 : Nat)), .dat (.int (p.2 : Nat))] := A
    rw [fold_take hp]
    generalize (ks.take i).foldl lo1 m = a at A ⊢
    unfold lo1
    refine st_if A (b := a.testBit p.1) (et_test (Ev.w (et_bit (ew_var rfl) (ew_var rfl)))) (fun e H3 A => ?_) (fun e H3 A => ?_)
    · refine st_aug A rfl (d2 := .int (p.2 : Nat)) (by walk_at "ev") (d := .int ((a ^^^ p.2 : Nat))) (rd_I0 fun H => congrArg V.int (nb_xor _ _)) fun σ H4 A => ⟨_, ⟨.dat (.int (p.1 : Nat)), .dat (.int (p.2 : Nat)), ?_⟩, A⟩
      rw [if_pos e]; rfl
    · refine st_next ⟨_, ⟨.dat (.int (p.1 : Nat)), .dat (.int (p.2 : Nat)), ?_⟩, A⟩
      rw [if_neg (by rw [e]; decide)]
  · rintro Γ σ H2 ⟨e2, e3, rfl⟩ A
    rw [List.length_map, List.take_of_length_le (Nat.le_refl _)] at A
    exact st_ret A (by walk_at "ev") kr
def R_sol (ds : List Dat) (d : Dat) : Prop := ∃ es : List (Nat × Bool), (∀ e ∈ es, e.1 < 2 ^ 64) ∧ es.length ≤ 100 ∧ ds = [.lst (es.map eqD)] ∧ d = .int (sol (slv es) : Nat)
theorem sc_solved_by : FnScope ["equations", "kept", "mask", "due", "lead", "other", "value", "rest", "ahead", "found"] ["equations"] (defScope s_solved_by) := ⟨rfl, rfl, rfl, by decide +kernel, rfl, by decide +kernel, by decide +kernel⟩
theorem c_solved_by (T : Wd K mg) : Cal P w K mg base "solved_by" 1 ["equations"] (spF R_sol) := by
  obtain ⟨fd, F⟩ := F_solved_by T
  refine ⟨_, fd, G_solved_by T, fn_pure F sc_solved_by (fun ds d ⟨_, _, _, e, _⟩ => by rw [e]; rfl) (by decide) (fun cdv A outer s H hr => ⟨_, (pss_cons (ps_set (i := 1) sc_solved_by.nd rfl (Or.inl rfl) (pe_lst pa_nil))
      (pss_cons (ps_for PassesOwn.never rfl (pi_list (pv 0)) (pg_tup rfl (pgs_cons (pg_name (i := 2) sc_solved_by.nd rfl (Or.inl rfl)) (pgs_cons (pg_name (i := 3) sc_solved_by.nd rfl (Or.inl rfl)) pgs_nil)))
        (pss_cons (ps_for PassesOwn.never rfl (pi_list (pv 1)) (pg_tup rfl (pgs_cons (pg_name (i := 4) sc_solved_by.nd rfl (Or.inl rfl)) (pgs_cons (pg_name (i := 5) sc_solved_by.nd rfl (Or.inl rfl)) (pgs_cons (pg_name (i := 6) sc_solved_by.nd rfl (Or.inl rfl)) pgs_nil))))
        (pss_one (ps_if (pt_cmpR op_eq (pe_op op_and (pe_op op_shr (pv 2) (pv 4)) pe_int) pe_int (nomark _)) (pss_cons (ps_aug (i := 2) sc_solved_by.nd rfl (Or.inl rfl) (pv 5) (pip_of iop_xor))
      (pss_one (ps_aug (i := 3) sc_solved_by.nd rfl (Or.inl rfl) (pv 6) (pip_of iop_xor)))) pss_nil)))
      (pss_one (ps_if (pt_cmpR op_ne (pv 2) pe_int (nomark _)) (pss_cons (ps_set (i := 4) sc_solved_by.nd rfl (Or.inl rfl) (pe_op op_sub (pe_bits (pv 2)) pe_int))
      (pss_cons (ps_set (i := 7) sc_solved_by.nd rfl (Or.inl rfl) (pe_lst pa_nil))
      (pss_cons (ps_for PassesOwn.never rfl (pi_list (pv 1)) (pg_tup rfl (pgs_cons (pg_name (i := 8) sc_solved_by.nd rfl (Or.inl rfl)) (pgs_cons (pg_name (i := 5) sc_solved_by.nd rfl (Or.inl rfl)) (pgs_cons (pg_name (i := 6) sc_solved_by.nd rfl (Or.inl rfl)) pgs_nil))))
        (pss_one (ps_if (pt_cmpR op_eq (pe_op op_and (pe_op op_shr (pv 5) (pv 4)) pe_int) pe_int (nomark _)) (pss_one (ps_expr (pe_bm PySem.F.plainAttrs_list PySem.F.slot_list_append PySem.F.type_list_append mt_append (pv 7) (pa_cons (pe_tup (pa_cons (pv 8) (pa_cons (pe_op op_xor (pv 5) (pv 2)) (pa_cons (pe_op op_xor (pv 6) (pv 3)) pa_nil)))) pa_nil)))) (pss_one (ps_expr (pe_bm PySem.F.plainAttrs_list PySem.F.slot_list_append PySem.F.type_list_append mt_append (pv 7) (pa_cons (pe_tup (pa_cons (pv 8) (pa_cons (pv 5) (pa_cons (pv 6) pa_nil)))) pa_nil)))))))
      (pss_one (ps_set (i := 1) sc_solved_by.nd rfl (Or.inl rfl) (pe_op op_cat (pv 7) (pe_lst (pa_cons (pe_tup (pa_cons (pv 4) (pa_cons (pv 2) (pa_cons (pv 3) pa_nil)))) pa_nil)))))))) pss_nil))))
      (pss_cons (ps_set (i := 9) sc_solved_by.nd rfl (Or.inl rfl) pe_int)
      (pss_cons (ps_for PassesOwn.never rfl (pi_list (pv 1)) (pg_tup rfl (pgs_cons (pg_name (i := 4) sc_solved_by.nd rfl (Or.inl rfl)) (pgs_cons (pg_name (i := 2) sc_solved_by.nd rfl (Or.inl rfl)) (pgs_cons (pg_name (i := 6) sc_solved_by.nd rfl (Or.inl rfl)) pgs_nil))))
        (pss_one (ps_aug (i := 9) sc_solved_by.nd rfl (Or.inl rfl) (pe_op op_shl (pv 6) (pv 4)) (pip_of iop_or))))
      (pss_one (ps_ret (pv 9))))))), ?_⟩), F.kp, F.bindsN (fun _ _ _ _ _ _ us hl => match us, hl with | [_], _ => rfl)⟩
  rintro ds d ⟨es, he, hl, rfl, rfl⟩ D σ A kr kn
  have A : At H [] H σ [.dat (.lst (es.map eqD)), .no, .no, .no, .no, .no, .no, .no, .no, .no] := A
  refine q_asg A (d := .lst []) (Ev.p (by walk_at "ev")) fun σ H1 A => ?_
  refine q_for2 (ds := es.map eqD) (fun i Γ => ∃ e2 e3 e4 e5 e6 e7 e8, Γ = [.dat (.lst (es.map eqD)), .dat (.lst (((es.take i).foldl slv1 []).map tkD)), e2, e3, e4, e5, e6, e7, e8, .no]) A (sp_list (ep_var rfl)) (nl_map _ (fun _ => rfl) es) ⟨_, _, _, _, _, _, _, rfl⟩ (fun i d h => by obtain ⟨p, _, e⟩ := map_at h; exact ⟨_, _, e⟩) ?_ ?_
  · rintro i d1 d2 Γ gh σ H2 hd ⟨e2, e3, e4, e5, e6, e7, e8, rfl⟩ A
    obtain ⟨e, hp, q⟩ := map_at hd
    injection q with q
    injection q with q1 q
    injection q with q2 _
    subst q1 q2
    have hi := (List.getElem?_eq_some_iff.mp hp).1
    obtain ⟨kb, kl⟩ := slv_b (es := es.take i) (ks := []) (fun e h => he e (List.mem_of_mem_take h)) (fun _ h => by cases h)
    have kl : ((es.take i).foldl slv1 []).length ≤ 100 := by rw [List.length_take] at kl; simp at kl; omega
    have eb := he e (List.mem_of_getElem? hp)
    rw [fold_take hp]
    generalize (es.take i).foldl slv1 [] = ks at A kb kl ⊢
    have A : At _ gh H2 σ [.dat (.lst (es.map eqD)), .dat (.lst (ks.map tkD)), .dat (.int (e.1 : Nat)), .dat (.int (b2i e.2)), e4, e5, e6, e7, e8, .no] := A
    refine q_for3 (ds := ks.map tkD) (fun i Γ => ∃ e4 e5 e6, Γ = [.dat (.lst (es.map eqD)), .dat (.lst (ks.map tkD)), .dat (.int (((ks.take i).foldl red1 e).1 : Nat)), .dat (.int (b2i ((ks.take i).foldl red1 e).2)), e4, e5, e6, e7, e8, .no]) A (sp_list (ep_var rfl)) (nl_map _ (fun _ => rfl) ks) ⟨_, _, _, rfl⟩ (fun i d h => by obtain ⟨p, _, e⟩ := map_at h; exact ⟨_, _, _, e⟩) ?_ ?_
    · rintro j d1 d2 d3 Γ gh σ H3 hd ⟨e4, e5, e6, rfl⟩ A
      obtain ⟨t, ht, q⟩ := map_at hd
      injection q with q
      injection q with q1 q
      injection q with q2 q
      injection q with q3 _
      subst q1 q2 q3
      rw [fold_take ht]
      generalize (ks.take j).foldl red1 e = s at A ⊢
      have A : At _ gh H3 σ [.dat (.lst (es.map eqD)), .dat (.lst (ks.map tkD)), .dat (.int (s.1 : Nat)), .dat (.int (b2i s.2)), .dat (.int (t.1 : Nat)), .dat (.int (t.2.1 : Nat)), .dat (.int (b2i t.2.2)), e7, e8, .no] := A
      unfold red1
      refine st_if A (b := s.1.testBit t.1) (et_test (Ev.w (et_bit (ew_var rfl) (ew_var rfl)))) (fun b H4 A => ?_) (fun b H4 A => ?_)
      · refine q_aug A rfl (d2 := .int (t.2.1 : Nat)) (by walk_at "ev") (d := .int ((s.1 ^^^ t.2.1 : Nat))) (rd_I0 fun H => congrArg V.int (nb_xor _ _)) fun σ H5 A => ?_
        refine st_aug A rfl (d2 := .int (b2i t.2.2)) (by walk_at "ev") (d := .int (b2i (s.2 ^^ t.2.2))) (rd_I0 fun H => congrArg V.int (nb_bxor _ _)) fun σ H5 A => ⟨_, ⟨.dat (.int (t.1 : Nat)), .dat (.int (t.2.1 : Nat)), .dat (.int (b2i t.2.2)), ?_⟩, A⟩
        rw [if_pos b]; rfl
      · refine st_next ⟨_, ⟨.dat (.int (t.1 : Nat)), .dat (.int (t.2.1 : Nat)), .dat (.int (b2i t.2.2)), ?_⟩, A⟩
        rw [if_neg (by rw [b]; decide)]
    · rintro Γ σ H3 ⟨e4, e5, e6, rfl⟩ A
      rw [List.length_map, List.take_of_length_le (Nat.le_refl _)] at A
      have hr := redk_lt kb eb
      unfold slv1
      have A : At _ gh H3 σ [.dat (.lst (es.map eqD)), .dat (.lst (ks.map tkD)), .dat (.int ((redk ks e).1 : Nat)), .dat (.int (b2i (redk ks e).2)), e4, e5, e6, e7, e8, .no] := A
      generalize redk ks e = s at A hr ⊢
      refine st_if A (b := !decide ((s.1 : Int) = 0)) (by walk_at "ev") (fun b H4 A => ?_) (fun b H4 A => ?_)
      · have s0 : s.1 ≠ 0 := fun z => by rw [z] at b; simp at b
        rw [if_neg s0]
        refine q_asg A (d := .int (s.1.log2 : Nat)) (Ev.p (Ev.is (d := .int ((Builtin.Int.intBits (s.1 : Int) : Nat) - 1)) (by walk_at "ev") ?_)) fun σ H5 A => ?_
        · congr 1
          unfold Builtin.Int.intBits
          have e : ((s.1 : Int) == 0) = false := beq_eq_false_iff_ne.mpr (by omega)
          rw [e]
          show (((s.1 : Int).natAbs.log2 + 1 : Nat) : Int) - 1 = _
          rw [Int.natAbs_natCast]; omega
        refine q_own A (ds := []) (by walk_at "ev") rfl (by show 7 < 10; decide) fun l σ H5 A => ?_
        refine q_for3 (ds := ks.map tkD) (fun i Γ => ∃ l e5 e6 e8, Γ = [.dat (.lst (es.map eqD)), .dat (.lst (ks.map tkD)), .dat (.int (s.1 : Nat)), .dat (.int (b2i s.2)), .dat (.int (s.1.log2 : Nat)), e5, e6, .own l (.lst (((ks.take i).map (clr1 s.1.log2 s.1 s.2)).map tkD)), e8, .no]) A (sp_list (ep_var rfl)) (nl_map _ (fun _ => rfl) ks) ⟨l, _, _, _, rfl⟩ (fun i d h => by obtain ⟨p, _, e⟩ := map_at h; exact ⟨_, _, _, e⟩) ?_ ?_
        · rintro j d1 d2 d3 Γ gh σ H6 hd ⟨l, e5, e6, e8, rfl⟩ A
          obtain ⟨t, ht, q⟩ := map_at hd
          injection q with q
          injection q with q1 q
          injection q with q2 q
          injection q with q3 _
          subst q1 q2 q3
          have A : At _ gh H6 σ [.dat (.lst (es.map eqD)), .dat (.lst (ks.map tkD)), .dat (.int (s.1 : Nat)), .dat (.int (b2i s.2)), .dat (.int (s.1.log2 : Nat)), .dat (.int (t.2.1 : Nat)), .dat (.int (b2i t.2.2)), .own l (.lst (((ks.take j).map (clr1 s.1.log2 s.1 s.2)).map tkD)), .dat (.int (t.1 : Nat)), .no] := A
          have e3 : ((ks.take (j + 1)).map (clr1 s.1.log2 s.1 s.2)).map tkD = ((ks.take j).map (clr1 s.1.log2 s.1 s.2)).map tkD ++ [tkD (clr1 s.1.log2 s.1 s.2 t)] := by
            rw [List.take_add_one, ht, List.map_append, List.map_append]; rfl
          rw [e3]
          have zl : (((ks.take j).map (clr1 s.1.log2 s.1 s.2)).map tkD).length ≤ 100000 := by rw [List.length_map, List.length_map, List.length_take]; omega
          refine st_if A (b := t.2.1.testBit s.1.log2) (et_test (Ev.w (et_bit (ew_var rfl) (ew_var rfl)))) (fun b H7 A => ?_) (fun b H7 A => ?_)
          · refine st_app A rfl (d := tkD (clr1 s.1.log2 s.1 s.2 t)) ?_ rfl zl fun H8 A => ⟨_, ⟨l, .dat (.int (t.2.1 : Nat)), .dat (.int (b2i t.2.2)), .dat (.int (t.1 : Nat)), rfl⟩, A⟩
            have e4 : clr1 s.1.log2 s.1 s.2 t = (t.1, t.2.1 ^^^ s.1, t.2.2 ^^ s.2) := by unfold clr1; rw [if_pos b]
            rw [e4]
            refine Ev.is (d := .tup [.int (t.1 : Nat), .int (Builtin.bitXor (t.2.1 : Int) (s.1 : Int)), .int (Builtin.bitXor (b2i t.2.2) (b2i s.2))]) (by walk_at "ev") ?_
            rw [nb_xor, nb_bxor]; rfl
          · refine st_app A rfl (d := tkD (clr1 s.1.log2 s.1 s.2 t)) ?_ rfl zl fun H8 A => ⟨_, ⟨l, .dat (.int (t.2.1 : Nat)), .dat (.int (b2i t.2.2)), .dat (.int (t.1 : Nat)), rfl⟩, A⟩
            have e4 : clr1 s.1.log2 s.1 s.2 t = t := by unfold clr1; rw [if_neg (by rw [b]; decide)]
            rw [e4]
            show Ev _ _ (.tup [.int (t.1 : Nat), .int (t.2.1 : Nat), .int (b2i t.2.2)])
            walk_at "ev"
        · rintro Γ σ H6 ⟨l, e5, e6, e8, rfl⟩ A
          rw [List.length_map, List.take_of_length_le (Nat.le_refl _)] at A
          refine st_asg A (d := .lst ((ks.map (clr1 s.1.log2 s.1 s.2) ++ [(s.1.log2, s.1, s.2)]).map tkD)) (Ev.p ?_) fun σ H7 A => ⟨_, ⟨.dat (.int (s.1 : Nat)), .dat (.int (b2i s.2)), .dat (.int (s.1.log2 : Nat)), e5, e6, .own l (.lst ((ks.map (clr1 s.1.log2 s.1 s.2)).map tkD)), e8, rfl⟩, A⟩
          rw [List.map_append]
          refine ev_cat (ew_var rfl) (Ev.w ?_) (nl_map _ (fun _ => rfl) _) rfl (by rw [List.length_map, List.length_map]; show _ + 1 ≤ _; omega)
          show Ev _ _ (.lst [.tup [.int (s.1.log2 : Nat), .int (s.1 : Nat), .int (b2i s.2)]])
          walk_at "ev"
      · have s0 : s.1 = 0 := by
          have : decide ((s.1 : Int) = 0) = true := by simpa using b
          have := of_decide_eq_true this
          omega
        rw [if_pos s0]
        exact st_next ⟨_, ⟨.dat (.int (s.1 : Nat)), .dat (.int (b2i s.2)), e4, e5, e6, e7, e8, rfl⟩, A⟩
  · rintro Γ σ H2 ⟨e2, e3, e4, e5, e6, e7, e8, rfl⟩ A
    rw [List.length_map, List.take_of_length_le (Nat.le_refl _)] at A
    obtain ⟨kb, _⟩ := slv_b (es := es) (ks := []) he (fun _ h => by cases h)
    have A : At _ [] H2 σ [.dat (.lst (es.map eqD)), .dat (.lst ((slv es).map tkD)), e2, e3, e4, e5, e6, e7, e8, .no] := A
    refine q_asg A (d := .int (0 : Nat)) (Ev.p (by walk_at "ev")) fun σ H3 A => ?_
    refine q_for3 (ds := (slv es).map tkD) (fun i Γ => ∃ e2 e4 e6, Γ = [.dat (.lst (es.map eqD)), .dat (.lst ((slv es).map tkD)), e2, e3, e4, e5, e6, e7, e8, .dat (.int (((slv es).take i).foldl sol1 0 : Nat))]) A (sp_list (ep_var rfl)) (nl_map _ (fun _ => rfl) _) ⟨_, _, _, rfl⟩ (fun i d h => by obtain ⟨p, _, e⟩ := map_at h; exact ⟨_, _, _, e⟩) ?_ ?_
    · rintro j d1 d2 d3 Γ gh σ H4 hd ⟨e2, e4, e6, rfl⟩ A
      obtain ⟨t, ht, q⟩ := map_at hd
      injection q with q
      injection q with q1 q
      injection q with q2 q
      injection q with q3 _
      subst q1 q2 q3
      have tb : t.1 < 64 := (kb t (List.mem_of_getElem? ht)).1
      rw [fold_take ht]
      generalize ((slv es).take j).foldl sol1 0 = f at A ⊢
      have A : At _ gh H4 σ [.dat (.lst (es.map eqD)), .dat (.lst ((slv es).map tkD)), .dat (.int (t.2.1 : Nat)), e3, .dat (.int (t.1 : Nat)), e5, .dat (.int (b2i t.2.2)), e7, e8, .dat (.int (f : Nat))] := A
      refine st_aug A rfl (d2 := .int ((put t.1 t.2.2 : Nat))) (Ev.w (Ev.is (d := .int (b2i t.2.2 * 2 ^ ((t.1 : Nat) : Int).toNat)) (by walk_at "ev"; exact cpow_b (by omega)) (by rw [nb_put]))) (d := .int ((sol1 f t : Nat))) (rd_I0 fun H => congrArg V.int (nb_or _ _)) fun σ H5 A => ⟨_, ⟨.dat (.int (t.2.1 : Nat)), .dat (.int (t.1 : Nat)), .dat (.int (b2i t.2.2)), rfl⟩, A⟩
    · rintro Γ σ H4 ⟨e2, e4, e6, rfl⟩ A
      rw [List.length_map, List.take_of_length_le (Nat.le_refl _)] at A
      exact st_ret A (by walk_at "ev") kr

end
end K92
end
section
set_option maxHeartbeats 4000000

namespace K92
open PySem PySem.Spec PyProof.Rows L2
section
variable {P : Program} {w : World} {K : PySem.W.Frag} {mg : Str → Option Value} {base : Heap}
/-! ### codes: what is asked of them -/
def cdD (K : PySem.W.Frag) (n : Nat) (rs : List Row) (ls : List (Nat × Nat)) : Dat := .ins (He.ga K "Code") ["many", "kept", "leads"] [.int n, .lst (rs.map rowD), .lst (ls.map ldD)]
def sigs (rs : List Row) (e : Row) : List Int := rs.map fun r => b2i (ac e r)
def R_signs (K : PySem.W.Frag) (ds : List Dat) (d : Dat) : Prop := ∃ (n : Nat) (rs : List Row) (ls : List (Nat × Nat)) (e : Row), (∀ r ∈ rs, r.wf 9) ∧ e.wf 9 ∧ rs.length ≤ 60 ∧ ds = [cdD K n rs ls, rowD e] ∧ d = .lst ((sigs rs e).map Dat.int)
theorem sc_Code_signs : FnScope ["self", "wrong", "row"] ["self", "wrong"] (defScope s_Code_signs) := ⟨rfl, rfl, rfl, by decide +kernel, rfl, by decide +kernel, by decide +kernel⟩
theorem m_signs (T : Wd K mg) : ∃ fd, FnOk P w K mg base CX0 3 (He.ma K (He.ga K "Code") "signs") fd ["self", "wrong"] (spF (R_signs K)) ∧ Binds K fd ["self", "wrong"] [] := by
  obtain ⟨fd, F⟩ := F_Code_signs T
  have C_goes_beside := c_goes_beside (P := P) (w := w) (base := base) T
  refine ⟨fd, fn_pure F sc_Code_signs (fun ds d ⟨_, _, _, _, _, _, _, e, _⟩ => by rw [e]; rfl) (by decide) (fun cdv A outer s H hr => ⟨_, (pss_one (ps_ret (pe_lc (own := [("row", 2)]) (g := gName 2) rfl sc_Code_signs.nd (pi_list (pe_fld (pv 0) rfl)) (blkOk_by (own := [("row", 2)]) (N := ["self", "wrong", "row"]) (sc := defScope s_Code_signs) (by decide +kernel)) (fun _ _ _ _ _ => pg_name (i := 2) sc_Code_signs.nd rfl (Or.inl rfl)) (fun _ _ _ _ _ => pts_nil) (fun _ _ _ _ _ => (pe_callTy call_int1 rfl (T_int T) (by decide +kernel) (pa_cons (pe_not (pe_f C_goes_beside (hr.mono (by decide)) rfl (pa_cons (pv 1) (pa_cons (pv 2) pa_nil)))) pa_nil)))))), ?_⟩), F.bindsN (fun _ _ _ _ _ _ us hl => match us, hl with | [_, _], _ => rfl)⟩
  rintro ds d ⟨n, rs, ls, e, hw, he, hl, rfl, rfl⟩ D σ A kr kn
  have A : At H [] H σ [.dat (cdD K n rs ls), .dat (rowD e), .no] := A
  refine st_ret A ?_ kr
  unfold sigs
  rw [List.map_map]
  refine ev_lc1 rs rowD _ (sr_list (ew_fld (ew_var rfl) (L_Code T) (N_Code_kept T) rfl)) (by omega) (fun r h => ?_) (fun _ _ => rfl)
  refine Ev.is (ev_cb (ea_cons (Ev.w (ev_notV (Ev.w (ev_call (ea_cons (ew_var rfl) (ea_cons (ew_var rfl) ea_nil)) ⟨e, r, he, hw r h, rfl, rfl⟩)))) ea_nil) rc_intB) ?_
  show Dat.int (if (!(!ac e r)) = true then 1 else 0) = Dat.int (b2i (ac e r))
  rw [Bool.not_not]; rfl
def R_harmless (K : PySem.W.Frag) (ds : List Dat) (d : Dat) : Prop := ∃ (n : Nat) (rs : List Row) (ls : List (Nat × Nat)) (e : Row), n ≤ 9 ∧ e.wf 9 ∧ ds = [cdD K n rs ls, rowD e] ∧ d = .bl (decide (lo ls (ltn n e) = 0))
theorem sc_Code_harmless : FnScope ["self", "wrong"] ["self", "wrong"] (defScope s_Code_harmless) := ⟨rfl, rfl, rfl, by decide +kernel, rfl, by decide +kernel, by decide +kernel⟩
theorem m_harmless (T : Wd K mg) : ∃ fd, FnOk P w K mg base CX0 2 (He.ma K (He.ga K "Code") "harmless") fd ["self", "wrong"] (spF (R_harmless K)) ∧ Binds K fd ["self", "wrong"] [] := by
  obtain ⟨fd, F⟩ := F_Code_harmless T
  have C_letter_number := c_letter_number (P := P) (w := w) (base := base) T
  have C_left_over := c_left_over (P := P) (w := w) (base := base) T
  refine ⟨fd, fn_pure F sc_Code_harmless (fun ds d ⟨_, _, _, _, _, _, e, _⟩ => by rw [e]; rfl) (by decide) (fun cdv A outer s H hr => ⟨_, (pss_one (ps_ret (pe_cmpR op_eq (pe_f C_left_over (hr.mono (by decide)) rfl (pa_cons (pe_f C_letter_number (hr.mono (by decide)) rfl (pa_cons (pv 1) (pa_cons (pe_fld (pv 0) rfl) pa_nil))) (pa_cons (pe_fld (pv 0) rfl) pa_nil))) pe_int (nomark _)))), ?_⟩), F.bindsN (fun _ _ _ _ _ _ us hl => match us, hl with | [_, _], _ => rfl)⟩
  rintro ds d ⟨n, rs, ls, e, hn, he, rfl, rfl⟩ D σ A kr kn
  have A : At H [] H σ [.dat (cdD K n rs ls), .dat (rowD e)] := A
  refine st_ret A (Ev.is (ev_eqI (Ev.w (ev_call (ea_cons (Ev.w (ev_call (ea_cons (ew_var rfl) (ea_cons (ew_fld (ew_var rfl) (L_Code T) (N_Code_many T) rfl) ea_nil)) ⟨e, n, he, hn, rfl, rfl⟩)) (ea_cons (ew_fld (ew_var rfl) (L_Code T) (N_Code_leads T) rfl) ea_nil)) ⟨ltn n e, ls, rfl, rfl⟩)) ev_int.w) ?_) kr
  congr 1
  exact decide_eq_decide.mpr (by omega)
theorem int_nbits (m : Nat) : Builtin.Int.intBits (m : Int) = nbits m := by
  unfold Builtin.Int.intBits nbits
  by_cases h : m = 0
  · subst h; rfl
  · have e : ((m : Int) == 0) = false := beq_eq_false_iff_ne.mpr (by omega)
    rw [e, if_neg h]
    show (m : Int).natAbs.log2 + 1 = _
    rw [Int.natAbs_natCast]
theorem wires_rng {k n : Nat} (h : k ≤ n) : rng (k : Int) ((n : Int) - k).toNat = (wiresFrom k n).map fun i => Dat.int (i : Nat) := by
  rw [show ((n : Int) - k).toNat = n - k by omega]
  unfold rng wiresFrom
  rw [List.map_map]
  exact List.map_congr_left fun i _ => congrArg Dat.int (by show (k : Int) + (i : Nat) = ((k + i : Nat) : Int); omega)
theorem nl_nats (l : List Nat) : nlAll (l.map fun k => Dat.int (k : Nat)) = true := nl_map _ (fun _ => rfl) l
def R_wrongs (K : PySem.W.Frag) (ds : List Dat) (d : Dat) : Prop := ∃ (n m : Nat) (rs : List Row) (ls : List (Nat × Nat)), n ≤ 9 ∧ m ≤ 2 ∧ ds = [cdD K n rs ls, .int m] ∧ d = .lst ((wrs n (min m n)).map rowD)
theorem sc_Code_wrongs : FnScope ["self", "many", "found", "heavy", "turn", "more", "minus", "xs", "zs", "k", "bit"] ["self", "many"] (defScope s_Code_wrongs) := ⟨rfl, rfl, rfl, by decide +kernel, rfl, by decide +kernel, by decide +kernel⟩
theorem m_wrongs (T : Wd K mg) : ∃ fd, FnOk P w K mg base CX0 1 (He.ma K (He.ga K "Code") "wrongs") fd ["self", "many"] (spF (R_wrongs K)) ∧ Binds K fd ["self", "many"] [] := by
  obtain ⟨fd, F⟩ := F_Code_wrongs T
  refine ⟨fd, fn_pure F sc_Code_wrongs (fun ds d ⟨_, _, _, _, _, _, e, _⟩ => by rw [e]; rfl) (by decide) (fun cdv A outer s H hr => ⟨_, (pss_cons (ps_set (i := 2) sc_Code_wrongs.nd rfl (Or.inl rfl) (pe_lst (pa_cons (pe_tup (pa_cons pe_int (pa_cons pe_int (pa_cons pe_int pa_nil)))) pa_nil)))
      (pss_cons (ps_set (i := 3) sc_Code_wrongs.nd rfl (Or.inl rfl) (pe_lst (pa_cons (pe_tup (pa_cons pe_int (pa_cons pe_int (pa_cons pe_int pa_nil)))) pa_nil)))
      (pss_cons (ps_for PassesOwn.never rfl (pi_range1 rfl (T_range T) (pa_cons (pe_callB (call_min2 rfl) rfl (T_min T) (by decide +kernel) (pa_cons (pv 1) (pa_cons (pe_fld (pv 0) rfl) pa_nil))) pa_nil)) (pg_name (i := 4) sc_Code_wrongs.nd rfl (Or.inl rfl))
        (pss_cons (ps_set (i := 5) sc_Code_wrongs.nd rfl (Or.inl rfl) (pe_lst pa_nil))
      (pss_cons (ps_for PassesOwn.never rfl (pi_list (pv 3)) (pg_tup rfl (pgs_cons (pg_name (i := 6) sc_Code_wrongs.nd rfl (Or.inl rfl)) (pgs_cons (pg_name (i := 7) sc_Code_wrongs.nd rfl (Or.inl rfl)) (pgs_cons (pg_name (i := 8) sc_Code_wrongs.nd rfl (Or.inl rfl)) pgs_nil))))
        (pss_one (ps_for PassesOwn.never rfl (pi_range2 rfl (T_range T) (pa_cons (pe_bits (pe_op op_or (pv 7) (pv 8))) (pa_cons (pe_fld (pv 0) rfl) pa_nil))) (pg_name (i := 9) sc_Code_wrongs.nd rfl (Or.inl rfl))
        (pss_cons (ps_set (i := 10) sc_Code_wrongs.nd rfl (Or.inl rfl) (pe_op op_shl pe_int (pv 9)))
      (pss_one (ps_expr (pe_bm PySem.F.plainAttrs_list PySem.F.slot_list_extend PySem.F.type_list_extend mt_extend (pv 5) (pa_cons (pe_lst (pa_cons (pe_tup (pa_cons pe_int (pa_cons (pe_op op_or (pv 7) (pv 10)) (pa_cons (pv 8) pa_nil)))) (pa_cons (pe_tup (pa_cons pe_int (pa_cons (pv 7) (pa_cons (pe_op op_or (pv 8) (pv 10)) pa_nil)))) (pa_cons (pe_tup (pa_cons pe_int (pa_cons (pe_op op_or (pv 7) (pv 10)) (pa_cons (pe_op op_or (pv 8) (pv 10)) pa_nil)))) pa_nil)))) pa_nil))))))))
      (pss_cons (ps_expr (pe_bm PySem.F.plainAttrs_list PySem.F.slot_list_extend PySem.F.type_list_extend mt_extend (pv 2) (pa_cons (pv 5) pa_nil)))
      (pss_one (ps_set (i := 3) sc_Code_wrongs.nd rfl (Or.inl rfl) (pv 5)))))))
      (pss_one (ps_ret (pv 2)))))), ?_⟩), F.bindsN (fun _ _ _ _ _ _ us hl => match us, hl with | [_, _], _ => rfl)⟩
  rintro ds d ⟨n, m, rs, ls, hn, hm, rfl, rfl⟩ D σ A kr kn
  have A : At H [] H σ [.dat (cdD K n rs ls), .dat (.int m), .no, .no, .no, .no, .no, .no, .no, .no, .no] := A
  refine q_own A (ds := [rowD ⟨false, 0, 0⟩]) (by show Ev _ _ (.lst [.tup [.int 0, .int 0, .int 0]]); walk_at "ev") rfl (by show 2 < 11; decide) fun l σ H1 A => ?_
  refine q_asg A (d := .lst ((layer n 0).map rowD)) (Ev.p (by show Ev _ _ (.lst [.tup [.int 0, .int 0, .int 0]]); walk_at "ev")) fun σ H1 A => ?_
  have M2 : min m n ≤ 2 := by omega
  have pw : ∀ i, i ≤ 2 → (27 : Nat) ^ i ≤ 729 := fun i h => Nat.pow_le_pow_right (n := 27) (by decide) h
  refine q_forN (ds := (List.range (min m n)).map fun i => Dat.int (i : Nat)) (fun i Γ => ∃ l e4 e5 e6 e7 e8 e9 e10, Γ = [.dat (cdD K n rs ls), .dat (.int m), .own l (.lst ((wrs n i).map rowD)), .dat (.lst ((layer n i).map rowD)), e4, e5, e6, e7, e8, e9, e10]) A
    (srcp_is (sp_rng1 (n := ((min m n : Nat) : Int)) (ea_cons (Ev.w (Ev.is (ev_cb (ea_cons (ew_var rfl) (ea_cons (ew_fld (ew_var rfl) (L_Code T) (N_Code_many T) rfl) ea_nil)) rc_min2) ?_)) ea_nil) (by omega)) (by rw [Int.toNat_natCast]; exact rng0 _)) (nl_nats _) ⟨l, _, _, _, _, _, _, _, rfl⟩ ?_ ?_
  · congr 1
    by_cases h : (n : Int) < m
    · rw [if_pos h]; omega
    · rw [if_neg h]; omega
  · rintro i d Γ gh σ H2 hd ⟨l, e4, e5, e6, e7, e8, e9, e10, rfl⟩ A
    have hi : i < 2 := by
      have := (List.getElem?_eq_some_iff.mp hd).1
      rw [List.length_map, List.length_range] at this; omega
    have A : At _ gh H2 σ [.dat (cdD K n rs ls), .dat (.int m), .own l (.lst ((wrs n i).map rowD)), .dat (.lst ((layer n i).map rowD)), .dat d, e5, e6, e7, e8, e9, e10] := A
    have ll := layer_len hn i
    have ll2 := layer_len hn (i + 1)
    have p1 := pw i (by omega)
    have p2 := pw (i + 1) (by omega)
    have lw := layer_wf (n := n) i
    have lwr : (wrs n i).length ≤ 2187 := by
      unfold wrs
      have := flat_len (f := layer n) (b := 729) (List.range (i + 1)) fun j hj => by
        have := List.mem_range.mp hj
        exact Nat.le_trans (layer_len hn j) (pw j (by omega))
      rw [List.length_range] at this
      omega
    refine q_own A (ds := []) (by walk_at "ev") rfl (by show 5 < 11; decide) fun l5 σ H3 A => ?_
    refine q_for3 (ds := (layer n i).map rowD) (fun j Γ => ∃ l l5 e6 e7 e8 e9 e10, Γ = [.dat (cdD K n rs ls), .dat (.int m), .own l (.lst ((wrs n i).map rowD)), .dat (.lst ((layer n i).map rowD)), .dat d, .own l5 (.lst ((((layer n i).take j).flatMap (grow n)).map rowD)), e6, e7, e8, e9, e10]) A
      (sp_list (ep_var rfl)) (nl_rows _) ⟨l, l5, _, _, _, _, _, rfl⟩ (fun i d h => by obtain ⟨p, _, e⟩ := map_at h; exact ⟨_, _, _, e⟩) ?_ ?_
    · rintro j d1 d2 d3 Γ gh σ H4 hd ⟨l, l5, e6, e7, e8, e9, e10, rfl⟩ A
      obtain ⟨r, hr', q⟩ := map_at hd
      injection q with q
      injection q with q1 q
      injection q with q2 q
      injection q with q3 _
      subst q1 q2 q3
      have hj := (List.getElem?_eq_some_iff.mp hr').1
      have rw1 := (lw r (List.mem_of_getElem? hr')).1
      have A : At _ gh H4 σ [.dat (cdD K n rs ls), .dat (.int m), .own l (.lst ((wrs n i).map rowD)), .dat (.lst ((layer n i).map rowD)), .dat d, .own l5 (.lst ((((layer n i).take j).flatMap (grow n)).map rowD)), .dat (.int (b2i r.m)), .dat (.int (r.x : Nat)), .dat (.int (r.z : Nat)), e9, e10] := A
      have nb : nbits (r.x ||| r.z) ≤ n := nbits_le (or_lt rw1.x rw1.z)
      have lf : (((layer n i).take j).flatMap (grow n)).length ≤ 27 * 729 := by
        have := flat_len (f := grow n) (b := 27) ((layer n i).take j) fun r _ => grow_len hn r
        rw [List.length_take] at this
        omega
      refine st_forN (ds := (wiresFrom (nbits (r.x ||| r.z)) n).map fun i => Dat.int (i : Nat)) (fun k Γ => ∃ l l5 e9 e10, Γ = [.dat (cdD K n rs ls), .dat (.int m), .own l (.lst ((wrs n i).map rowD)), .dat (.lst ((layer n i).map rowD)), .dat d, .own l5 (.lst ((((layer n i).take j).flatMap (grow n) ++ ((wiresFrom (nbits (r.x ||| r.z)) n).take k).flatMap (grow1 r)).map rowD)), .dat (.int (b2i r.m)), .dat (.int (r.x : Nat)), .dat (.int (r.z : Nat)), e9, e10]) A
        (srcp_is (sp_rng2 (m := ((nbits (r.x ||| r.z) : Nat) : Int)) (n := (n : Int)) (ea_cons (Ev.w (Ev.is (d := .int ((Builtin.Int.intBits (Builtin.bitOr (r.x : Int) (r.z : Int)) : Nat) : Int)) (by walk_at "ev") (by rw [nb_or, int_nbits]))) (ea_cons (ew_fld (ew_var rfl) (L_Code T) (N_Code_many T) rfl) ea_nil)) (by omega)) (wires_rng nb)) (nl_nats _) ⟨l, l5, _, _, by rw [List.take_zero, List.flatMap_nil, List.append_nil]⟩ ?_ ?_
      · rintro k d5 Γ gh σ H5 hd ⟨l, l5, e9, e10, rfl⟩ A
        obtain ⟨v, hv, rfl⟩ := map_at hd
        have hvn := (mem_wires.mp (List.mem_of_getElem? hv)).2
        have hk := (List.getElem?_eq_some_iff.mp hv).1
        rw [wires_len] at hk
        have A : At _ gh H5 σ [.dat (cdD K n rs ls), .dat (.int m), .own l (.lst ((wrs n i).map rowD)), .dat (.lst ((layer n i).map rowD)), .dat d, .own l5 (.lst ((((layer n i).take j).flatMap (grow n) ++ ((wiresFrom (nbits (r.x ||| r.z)) n).take k).flatMap (grow1 r)).map rowD)), .dat (.int (b2i r.m)), .dat (.int (r.x : Nat)), .dat (.int (r.z : Nat)), .dat (.int (v : Nat)), e10] := A
        refine q_asg A (d := .int ((2 ^ v : Nat))) (Ev.p (Ev.is (d := .int (1 * 2 ^ ((v : Nat) : Int).toNat)) (by walk_at "ev"; exact ⟨Int.natCast_nonneg v, by omega, by decide⟩) (by rw [nb_oneshl]))) fun σ H6 A => ?_
        refine st_ext A rfl (es := (grow1 r v).map rowD) (Ev.w ?_) (nl_rows _) ?_ fun H7 A => ⟨_, ⟨l, l5, .dat (.int (v : Nat)), .dat (.int ((2 ^ v : Nat))), ?_⟩, A⟩
        · refine Ev.is (d := .lst [.tup [.int 0, .int (Builtin.bitOr (r.x : Int) ((2 ^ v : Nat) : Int)), .int (r.z : Nat)], .tup [.int 0, .int (r.x : Nat), .int (Builtin.bitOr (r.z : Int) ((2 ^ v : Nat) : Int))], .tup [.int 0, .int (Builtin.bitOr (r.x : Int) ((2 ^ v : Nat) : Int)), .int (Builtin.bitOr (r.z : Int) ((2 ^ v : Nat) : Int))]]) (by walk_at "ev") ?_
          rw [nb_or, nb_or]; rfl
        · rw [List.length_map, List.length_append]
          have := flat_len (f := grow1 r) (b := 3) ((wiresFrom (nbits (r.x ||| r.z)) n).take k) fun _ _ => Nat.le_refl _
          rw [List.length_take, wires_len] at this
          show _ + 3 ≤ _
          omega
        · have e3 : ((wiresFrom (nbits (r.x ||| r.z)) n).take (k + 1)).flatMap (grow1 r) = ((wiresFrom (nbits (r.x ||| r.z)) n).take k).flatMap (grow1 r) ++ grow1 r v := by
            rw [List.take_add_one, hv, List.flatMap_append]
            show _ ++ (grow1 r v ++ []) = _
            rw [List.append_nil]
          rw [e3, ← List.append_assoc, List.map_append (l₂ := grow1 r v)]
          rfl
      · rintro Γ σ H5 ⟨l, l5, e9, e10, rfl⟩ A
        rw [List.length_map, List.take_of_length_le (Nat.le_refl _)] at A
        refine ⟨_, ⟨l, l5, .dat (.int (b2i r.m)), .dat (.int (r.x : Nat)), .dat (.int (r.z : Nat)), e9, e10, ?_⟩, A⟩
        have e3 : ((layer n i).take (j + 1)).flatMap (grow n) = ((layer n i).take j).flatMap (grow n) ++ grow n r := by
          rw [List.take_add_one, hr', List.flatMap_append]
          show _ ++ (grow n r ++ []) = _
          rw [List.append_nil]
        rw [e3]
        rfl
    · rintro Γ σ H4 ⟨l, l5, e6, e7, e8, e9, e10, rfl⟩ A
      rw [List.length_map, List.take_of_length_le (Nat.le_refl _)] at A
      have A : At _ gh H4 σ [.dat (cdD K n rs ls), .dat (.int m), .own l (.lst ((wrs n i).map rowD)), .dat (.lst ((layer n i).map rowD)), .dat d, .own l5 (.lst ((layer n (i + 1)).map rowD)), e6, e7, e8, e9, e10] := A
      refine q_ext A rfl (es := (layer n (i + 1)).map rowD) (ew_var rfl) (nl_rows _) (by rw [List.length_map, List.length_map]; omega) fun H5 A => ?_
      have A := A.freeze (i := 5) (l := l5) (c := .lst ((layer n (i + 1)).map rowD)) rfl
      refine st_asg A (d := .lst ((layer n (i + 1)).map rowD)) (ep_var rfl) fun σ H6 A => ⟨_, ⟨l, .dat d, .dat (.lst ((layer n (i + 1)).map rowD)), e6, e7, e8, e9, e10, ?_⟩, A⟩
      have e3 : wrs n (i + 1) = wrs n i ++ layer n (i + 1) := by
        unfold wrs
        rw [List.range_succ (n := i + 1), List.flatMap_append]
        show _ ++ (layer n (i + 1) ++ []) = _
        rw [List.append_nil]
      rw [e3, List.map_append]
      rfl
  · rintro Γ σ H2 ⟨l, e4, e5, e6, e7, e8, e9, e10, rfl⟩ A
    rw [List.length_map, List.length_range] at A
    exact st_retO A rfl (nl_rows _) kr
theorem et_part0 : True := trivial
def shw (n : Nat) (rs : List Row) (b : Row) : Nat := sol (slv (rs.map (fun r => (mrn n r, false)) ++ [(mrn n b, true)]))
def R_shower (K : PySem.W.Frag) (ds : List Dat) (d : Dat) : Prop := ∃ (n : Nat) (rs : List Row) (ls : List (Nat × Nat)) (b : Row), n ≤ 9 ∧ (∀ r ∈ rs, r.wf 9) ∧ b.wf 9 ∧ rs.length ≤ 60 ∧ ds = [cdD K n rs ls, rowD b] ∧ d = rowD ⟨false, shw n rs b % 2 ^ n, shw n rs b >>> n⟩
theorem sc_Code_shower : FnScope ["self", "both", "row", "equations", "number"] ["self", "both"] (defScope s_Code_shower) := ⟨rfl, rfl, rfl, by decide +kernel, rfl, by decide +kernel, by decide +kernel⟩
theorem mrn_lt {n : Nat} {r : Row} (hn : n ≤ 9) (hr : r.wf 9) : mrn n r < 2 ^ 64 := by
  unfold mrn
  refine Nat.lt_of_lt_of_le (Nat.or_lt_two_pow (n := 18) (Nat.lt_of_lt_of_le hr.z (by decide)) ?_) (by decide)
  rw [Nat.shiftLeft_eq]
  have h1 : r.x * 2 ^ n < 2 ^ 9 * 2 ^ n := Nat.mul_lt_mul_of_pos_right hr.x (Nat.two_pow_pos n)
  have h2 : (2 : Nat) ^ 9 * 2 ^ n ≤ 2 ^ 18 := by rw [← Nat.pow_add]; exact Nat.pow_le_pow_right (by decide) (by omega)
  omega
theorem nb_low (a n : Nat) : Builtin.bitAnd (a : Int) ((2 ^ n : Nat) - 1 : Int) = ((a % 2 ^ n : Nat) : Int) := by
  have e : ((2 ^ n : Nat) : Int) - 1 = ((2 ^ n - 1 : Nat) : Int) := by have := Nat.two_pow_pos n; omega
  rw [e, nb_and, Nat.and_two_pow_sub_one_eq_mod]
theorem m_shower (T : Wd K mg) : ∃ fd, FnOk P w K mg base CX0 2 (He.ma K (He.ga K "Code") "shower") fd ["self", "both"] (spF (R_shower K)) ∧ Binds K fd ["self", "both"] [] := by
  obtain ⟨fd, F⟩ := F_Code_shower T
  have C_mirror_number := c_mirror_number (P := P) (w := w) (base := base) T
  have C_solved_by := c_solved_by (P := P) (w := w) (base := base) T
  refine ⟨fd, fn_pure F sc_Code_shower (fun ds d ⟨_, _, _, _, _, _, _, _, e, _⟩ => by rw [e]; rfl) (by decide) (fun cdv A outer s H hr => ⟨_, (pss_cons (ps_setLc (i := 3) (own := [("row", 2)]) (g := gName 2) rfl sc_Code_shower.nd rfl rfl (sw_true rfl rfl rfl (by decide +kernel))  (pi_list (pe_fld (pv 0) rfl)) (blkOk_by (own := [("row", 2)]) (N := ["self", "both", "row", "equations", "number"]) (sc := defScope s_Code_shower) (by decide +kernel)) (fun _ _ _ _ _ => pg_name (i := 2) sc_Code_shower.nd rfl (Or.inl rfl)) (fun _ _ _ _ _ => pts_nil) (fun _ _ _ _ _ => (pe_tup (pa_cons (pe_f C_mirror_number (hr.mono (by decide)) rfl (pa_cons (pv 2) (pa_cons (pe_fldK (K := K) rfl (pv 0) rfl) pa_nil))) (pa_cons pe_int pa_nil)))))
      (pss_cons (ps_set (i := 4) sc_Code_shower.nd rfl (Or.inl rfl) (pe_f C_solved_by (hr.mono (by decide)) rfl (pa_cons (pe_op op_cat (pv 3) (pe_lst (pa_cons (pe_tup (pa_cons (pe_f C_mirror_number (hr.mono (by decide)) rfl (pa_cons (pv 1) (pa_cons (pe_fld (pv 0) rfl) pa_nil))) (pa_cons pe_int pa_nil))) pa_nil))) pa_nil)))
      (pss_one (ps_ret (pe_tup (pa_cons pe_int (pa_cons (pe_op op_and (pv 4) (pe_op op_sub (pe_op op_shl pe_int (pe_fld (pv 0) rfl)) pe_int)) (pa_cons (pe_op op_shr (pv 4) (pe_fld (pv 0) rfl)) pa_nil)))))))), ?_⟩), F.bindsN (fun _ _ _ _ _ _ us hl => match us, hl with | [_, _], _ => rfl)⟩
  rintro ds d ⟨n, rs, ls, b, hn, hw, hb, hl, rfl, rfl⟩ D σ A kr kn
  have A : At H [] H σ [.dat (cdD K n rs ls), .dat (rowD b), .no, .no, .no] := A
  have me : ∀ r, Dat.tup [.int ((r.z ||| r.x <<< n : Nat) : Int), .int 0] = eqD (mrn n r, false) := fun r => rfl
  refine q_asg A (d := .lst ((rs.map fun r => (mrn n r, false)).map eqD)) (Ev.p ?_) fun σ H1 A => ?_
  · rw [List.map_map]
    refine ev_lc1 rs rowD _ (sr_list (ew_fld (ew_var rfl) (L_Code T) (N_Code_kept T) rfl)) (by omega) (fun r h => ?_) (fun _ _ => rfl)
    show Ev _ _ (.tup [.int ((r.z ||| r.x <<< n : Nat) : Int), .int 0])
    exact ev_tup (es_cons (ev_call (ea_cons (ew_var rfl) (ea_cons (ew_fld (ew_var rfl) (L_Code T) (N_Code_many T) rfl) ea_nil)) ⟨r, n, hw r h, hn, rfl, rfl⟩) (es_cons ev_int es_nil)) (by show 2 ≤ 1000; decide)
  refine q_asg A (d := .int (shw n rs b : Nat)) (Ev.p (ev_call (ea_cons (Ev.w (ev_cat (ew_var rfl) (Ev.w (ev_lst (ds := [eqD (mrn n b, true)]) (es_cons ?_ es_nil) (by show 1 ≤ 1000; decide))) (nl_map _ (fun _ => rfl) _) rfl (by rw [List.length_map, List.length_map]; show _ + 1 ≤ _; omega))) ea_nil) ⟨rs.map (fun r => (mrn n r, false)) ++ [(mrn n b, true)], ?_, ?_, ?_, rfl⟩)) fun σ H2 A => ?_
  · show Ev _ _ (.tup [.int ((b.z ||| b.x <<< n : Nat) : Int), .int 1])
    exact ev_tup (es_cons (ev_call (ea_cons (ew_var rfl) (ea_cons (ew_fld (ew_var rfl) (L_Code T) (N_Code_many T) rfl) ea_nil)) ⟨b, n, hb, hn, rfl, rfl⟩) (es_cons ev_int es_nil)) (by show 2 ≤ 1000; decide)
  · intro e he
    rcases List.mem_append.mp he with h | h
    · obtain ⟨r, h1, rfl⟩ := List.mem_map.mp h
      exact mrn_lt hn (hw r h1)
    · rw [List.mem_singleton.mp h]
      exact mrn_lt hn hb
  · rw [List.length_append, List.length_map]; show _ + 1 ≤ _; omega
  · rw [List.map_append]; rfl
  · have ef := fun (Δ : Vw) (h : Δ[0]? = some (some (cdD K n rs ls))) => ew_fld (K := K) (f := "many") (d := .int n) (ew_var h) (L_Code T) (N_Code_many T) rfl
    refine st_ret A (Ev.is (d := .tup [.int 0, .int (Builtin.bitAnd (shw n rs b : Int) ((1 * 2 ^ ((n : Nat) : Int).toNat) - 1)), .int ((shw n rs b : Int) / 2 ^ ((n : Nat) : Int).toNat)]) (ev_tup (es_cons ev_int (es_cons (ev_I0 (ew_var rfl) (Ev.w (ev_I0 (Ev.w (ev_I ev_int.w (ef _ rfl) ⟨Int.natCast_nonneg n, by omega, by decide⟩)) ev_int.w))) (es_cons (ev_I (ew_var rfl) (ef _ rfl) (Int.natCast_nonneg n)) es_nil))) (by show 3 ≤ 1000; decide)) ?_) kr
    rw [nb_oneshl, nb_low, nb_shr]
    rfl
def R_guess (K : PySem.W.Frag) (ds : List Dat) (d : Dat) : Prop := ∃ (n m : Nat) (rs : List Row) (ls : List (Nat × Nat)) (ss : List Int) (g : Row), n ≤ 9 ∧ m ≤ 2 ∧ (∀ r ∈ rs, r.wf 9) ∧ rs.length ≤ 60 ∧ (wrs n (min m n)).find? (fun e => decide (sigs rs e = ss)) = some g ∧ ds = [cdD K n rs ls, .lst (ss.map Dat.int), .int m] ∧ d = rowD g
theorem sc_Code_guess : FnScope ["self", "signs", "many", "wrong"] ["self", "signs", "many"] (defScope s_Code_guess) := ⟨rfl, rfl, rfl, by decide +kernel, rfl, by decide +kernel, by decide +kernel⟩
theorem wrs_len {n m : Nat} (hn : n ≤ 9) (hm : m ≤ 2) : (wrs n m).length ≤ 2187 := by
  unfold wrs
  have := flat_len (f := layer n) (b := 729) (List.range (m + 1)) fun j hj => by
    have := List.mem_range.mp hj
    exact Nat.le_trans (layer_len hn j) (Nat.pow_le_pow_right (n := 27) (by decide) (show j ≤ 2 by omega))
  rw [List.length_range] at this
  omega
theorem m_guess (T : Wd K mg) : ∃ fd, FnOk P w K mg base CX0 4 (He.ma K (He.ga K "Code") "guess") fd ["self", "signs", "many"] (spF (R_guess K)) ∧ Binds K fd ["self", "signs", "many"] [] := by
  obtain ⟨fd, F⟩ := F_Code_guess T
  obtain ⟨_, OK_Code_wrongs, B_Code_wrongs⟩ := m_wrongs (P := P) (w := w) (base := base) T
  obtain ⟨_, OK_Code_signs, B_Code_signs⟩ := m_signs (P := P) (w := w) (base := base) T
  refine ⟨fd, fn_pure F sc_Code_guess (fun ds d ⟨_, _, _, _, _, _, _, _, _, _, _, e, _⟩ => by rw [e]; rfl) (by decide) (fun cdv A outer s H hr => ⟨_, (pss_cons (ps_for PassesOwn.never rfl (pi_list (pe_meth (pv 0) (L_Code T) (M_Code_wrongs T) OK_Code_wrongs (hr.mono (by decide)) B_Code_wrongs .nil pass0 (pa_cons (pv 2) pa_nil))) (pg_name (i := 3) sc_Code_guess.nd rfl (Or.inl rfl))
        (pss_one (ps_if (pt_cmpR (op_eqD (hr.units)) (pe_meth (pv 0) (L_Code T) (M_Code_signs T) OK_Code_signs (hr.mono (by decide)) B_Code_signs .nil pass0 (pa_cons (pv 3) pa_nil)) (pe_callTy call_list_of rfl (T_list T) (by decide +kernel) (pa_cons (pv 1) pa_nil)) (nomark _)) (pss_one (ps_ret (pv 3))) pss_nil)))
      (pss_one ps_never)), ?_⟩), F.bindsN (fun _ _ _ _ _ _ us hl => match us, hl with | [_, _, _], _ => rfl)⟩
  rintro ds d ⟨n, m, rs, ls, ss, g, hn, hm, hw, hl, hf, rfl, rfl⟩ D σ A kr kn
  have A : At H [] H σ [.dat (cdD K n rs ls), .dat (.lst (ss.map Dat.int)), .dat (.int m), .no] := A
  refine q_forN (ds := (wrs n (min m n)).map rowD) (fun i Γ => ((wrs n (min m n)).take i).find? (fun e => decide (sigs rs e = ss)) = none ∧ ∃ e3, Γ = [.dat (cdD K n rs ls), .dat (.lst (ss.map Dat.int)), .dat (.int m), e3]) A
    (sp_list (Ev.p (ev_meth (dd := []) (ew_var rfl) (by decide) (ea_cons (ew_var rfl) ea_nil) (fun _ => rfl) ⟨n, m, rs, ls, hn, hm, rfl, rfl⟩))) (nl_rows _) ⟨rfl, _, rfl⟩ ?_ ?_
  · rintro i d Γ gh σ H2 hd ⟨no, e3, rfl⟩ A
    obtain ⟨e, he, rfl⟩ := map_at hd
    have A : At _ gh H2 σ [.dat (cdD K n rs ls), .dat (.lst (ss.map Dat.int)), .dat (.int m), .dat (rowD e)] := A
    have we := wf9 hn (wrs_wf e (List.mem_of_getElem? he)).1
    have stp : ((wrs n (min m n)).take (i + 1)).find? (fun e => decide (sigs rs e = ss)) = if decide (sigs rs e = ss) = true then some e else none := by
      rw [List.take_add_one, he, show (some e).toList = [e] from rfl, find_snoc, no]
    refine st_if A (b := decide (sigs rs e = ss)) (et_test (Ev.w (ev_eqInts (Ev.w (ev_meth (dd := []) (ew_var rfl) (by decide) (ea_cons (ew_var rfl) ea_nil) (fun _ => rfl) ⟨n, rs, ls, e, hw, we, hl, rfl, rfl⟩)) (Ev.w (ev_cb (ea_cons (ew_var rfl) ea_nil) (rc_list (nl_ints ss))))))) (fun b H3 A => ?_) (fun b H3 A => ?_)
    · have ge : g = e := by
        rw [if_pos b] at stp
        have h1 : (wrs n (min m n)).find? (fun e => decide (sigs rs e = ss)) = some e := by
          rw [← List.take_append_drop (i + 1) (wrs n (min m n)), List.find?_append, stp]; rfl
        rw [hf] at h1
        exact Option.some.inj h1
      subst ge
      exact st_ret A (by walk_at "ev") kr
    · refine st_next ⟨_, ⟨?_, .dat (rowD e), rfl⟩, A⟩
      rw [stp, if_neg (by rw [b]; decide)]
  · rintro Γ σ H2 ⟨no, e3, rfl⟩ A
    rw [List.length_map, List.take_of_length_le (Nat.le_refl _), hf] at no
    cases no

end
end K92
end
section
set_option maxHeartbeats 4000000

namespace K92
open PySem PySem.Spec PyProof.Rows L2
section
variable {P : Program} {w : World} {K : PySem.W.Frag} {mg : Str → Option Value} {base : Heap}
/-! ### codes: made -/
def spTake (K : PySem.W.Frag) : Sp := fun vs H Q _ => ∃ (p L : Addr) (vr va vk : V) (xs : List V) (n : Nat) (r : Row) (rs ahead : List Row) (ls : List (Nat × Nat)), vs = [.ref p, vr, va] ∧ Dq TP1 H (cdD K n rs ls) (.ref p) ∧ Dq TP1 H (rowD r) vr ∧ Dq TP1 H (.lst (ahead.map rowD)) va ∧
  (∃ dx, H p = some (.ins (He.ga K "Code") dx ((["many", "kept", "leads"] : List Str).zip [.int n, vk, .ref L]))) ∧ H L = some (.lst xs) ∧ DqAll NP1 H (ls.map ldD) xs ∧
  n ≤ 9 ∧ r.wf n ∧ (∀ a ∈ ahead, a.wf 9 ∧ ac r a = false) ∧ ahead.length ≤ 60 ∧ ls.length ≤ 60 ∧ lo ls (ltn n r) ≠ 0 ∧
  ∀ H', (∀ a o, a ≠ L → H a = some o → H' a = some o) → (∃ ys, H' L = some (.lst ys) ∧ DqAll NP1 H' ((addl n ls r).map ldD) ys) → Q .non H'
theorem sc_Code_take : FnScope ["self", "row", "ahead", "other", "rest"] ["self", "row", "ahead"] (defScope s_Code_take) := ⟨rfl, rfl, rfl, by decide +kernel, rfl, by decide +kernel, by decide +kernel⟩
theorem nbits_log {m : Nat} (h : m ≠ 0) : ((nbits m : Nat) : Int) - 1 = (m.log2 : Nat) := by
  unfold nbits
  rw [if_neg h]
  omega
theorem m_take (T : Wd K mg) : ∃ fd, FnOk P w K mg base CX0 3 (He.ma K (He.ga K "Code") "take") fd ["self", "row", "ahead"] (spTake K) ∧ Binds K fd ["self", "row", "ahead"] [] := by
  obtain ⟨fd, F⟩ := F_Code_take T
  have C_checked_row := c_checked_row (P := P) (w := w) (base := base) T
  have C_goes_beside := c_goes_beside (P := P) (w := w) (base := base) T
  have C_letter_number := c_letter_number (P := P) (w := w) (base := base) T
  have C_left_over := c_left_over (P := P) (w := w) (base := base) T
  refine ⟨fd, F.ok sc_Code_take (fun vs H Q E h => ?_) (fun cdv A outer s H vs Q E hr h => ?_), F.bindsN (fun _ _ _ _ _ _ us hl => match us, hl with | [_, _, _], _ => rfl)⟩
  · obtain ⟨p, L, vr, va, vk, xs, n, r, rs, ahead, ls, rfl, _⟩ := h
    rfl
  · refine ⟨_, PSs.nox (pss_cons (ps_try_thru0 (pss_one (ps_expr (pe_f C_checked_row (hr.mono (by decide)) rfl (pa_cons (pv 1) (pa_cons (pe_fld (pv 0) rfl) pa_nil))))))
      (pss_cons (ps_if (pt_not (pt_val (pe_callB (cr_all rfl) rfl (T_all T) (by decide +kernel) (pa_cons (pe_lc (own := [("other", 3)]) (g := gName 3) rfl sc_Code_take.nd (pi_list (pv 2)) (blkOk_by (own := [("other", 3)]) (N := ["self", "row", "ahead", "other", "rest"]) (sc := defScope s_Code_take) (by decide +kernel)) (fun _ _ _ _ _ => pg_name (i := 3) sc_Code_take.nd rfl (Or.inl rfl)) (fun _ _ _ _ _ => pts_nil) (fun _ _ _ _ _ => (pe_f C_goes_beside (hr.mono (by decide)) rfl (pa_cons (pv 1) (pa_cons (pv 3) pa_nil))))) pa_nil)))) (pss_one ps_never) pss_nil)
      (pss_cons (ps_set (i := 4) sc_Code_take.nd rfl (Or.inl rfl) (pe_f C_left_over (hr.mono (by decide)) rfl (pa_cons (pe_f C_letter_number (hr.mono (by decide)) rfl (pa_cons (pv 1) (pa_cons (pe_fld (pv 0) rfl) pa_nil))) (pa_cons (pe_fld (pv 0) rfl) pa_nil))))
      (pss_cons (ps_if (pt_cmpR op_eq (pv 4) pe_int (nomark _)) (pss_one ps_never) pss_nil)
      (pss_one (ps_expr (pe_bm PySem.F.plainAttrs_list PySem.F.slot_list_append PySem.F.type_list_append mt_append (pe_fld (pv 0) rfl) (pa_cons (pe_tup (pa_cons (pe_op op_sub (pe_bits (pv 4)) pe_int) (pa_cons (pv 4) pa_nil))) pa_nil)))))))), ?_⟩
    obtain ⟨p, L, vr, va, vk, xs, n, r, rs, ahead, ls, rfl, dp, dr, da, ⟨dx, hp⟩, hL, dl, hn, hw, hb, ha, hls, h0, k⟩ := h
    have w9 := wf9 hn hw
    have S0 : Sv H (start ["self", "row", "ahead", "other", "rest"] [.ref p, vr, va]) [some (cdD K n rs ls), some (rowD r), some (.lst (ahead.map rowD)), none, none] := sv_cons dp (sv_cons dr (sv_cons da (sv_skip (sv_skip sv_nil))))
    refine raw_drop (d := rowD r) S0 (ev_call (ea_cons (ew_var rfl) (ea_cons (ew_fld (ew_var rfl) (L_Code T) (N_Code_many T) rfl) ea_nil)) ⟨r, n, hw, hn, rfl, rfl⟩) fun H1 s1 => ?_
    refine raw_skip (S0.same s1) (EvT.is (et_not (et_test (Ev.w (ev_all (b := true) (Ev.w (ev_lc1 ahead rowD (fun a => Dat.bl (!ac r a)) (sr_list (ew_var rfl)) (by omega) (fun a h => ev_call (ea_cons (ew_var rfl) (ea_cons (ew_var rfl) ea_nil)) ⟨r, a, w9, (hb a h).1, rfl, rfl⟩) (fun _ _ => rfl))) ?_)))) rfl) fun H2 s2 => ?_
    · exact List.all_eq_true.mpr fun a h => by rw [(hb a h).2]; rfl
    refine raw_asg (S0.same (s1.trans s2)) (d := .int (lo ls (ltn n r) : Nat)) (ev_call (ea_cons (Ev.w (ev_call (ea_cons (ew_var rfl) (ea_cons (ew_fld (ew_var rfl) (L_Code T) (N_Code_many T) rfl) ea_nil)) ⟨r, n, w9, hn, rfl, rfl⟩)) (ea_cons (ew_fld (ew_var rfl) (L_Code T) (N_Code_leads T) rfl) ea_nil)) ⟨ltn n r, ls, rfl, rfl⟩) fun v H3 s3 S3 => ?_
    refine raw_skip S3 (EvT.is (b := decide (((lo ls (ltn n r) : Nat) : Int) = 0)) (by walk_at "ev") (decide_eq_false (by omega))) fun H4 s4 => ?_
    have S4 : Sv H4 ((start ["self", "row", "ahead", "other", "rest"] [.ref p, vr, va]).set 4 (some v)) [some (cdD K n rs ls), some (rowD r), some (.lst (ahead.map rowD)), none, some (.int (lo ls (ltn n r) : Nat))] := S3.same s4
    have s14 := ((s1.trans s2).trans s3).trans s4
    have te : Ev (tTup (tCons (tOp (rI0 fun i j => .int (i - j)) (tBits (tVar 4)) (tC (.int 1))) (tCons (tVar 4) tNil))) [some (cdD K n rs ls), some (rowD r), some (.lst (ahead.map rowD)), none, some (.int (lo ls (ltn n r) : Nat))] (ldD ((lo ls (ltn n r)).log2, lo ls (ltn n r))) := by
      refine Ev.is (d := .tup [.int ((Builtin.Int.intBits ((lo ls (ltn n r) : Nat) : Int) : Nat) - 1), .int (lo ls (ltn n r) : Nat)]) (by walk_at "ev") ?_
      rw [int_nbits, nbits_log h0]; rfl
    refine ⟨.ref p, rfl, p, _, dx, _, _, rfl, s14 _ _ hp, L_Code T, N_Code_leads T, rfl, .inl ⟨rfl, xs, SqL.of (s14 _ _ hL)⟩, te _ H4 S4 _ fun u H5 s5 q5 => ?_⟩
    have s15 := s14.trans s5
    have tt : ∀ a ys, H5 a = some (.tup ys) → upd H5 L (.lst (xs ++ [u])) a = some (.tup ys) := fun a ys ha => by
      rw [upd_ne fun z => by rw [z, s15 _ _ hL] at ha; cases ha]
      exact ha
    refine ⟨L, xs, u, rfl, rfl, s15 _ _ hL, Nat.lt_of_le_of_lt (by rw [dl.length, List.length_map]; omega) (by decide : 60 < sizeLine), k _ (fun a o ne ha => ?_) ⟨_, upd_same, ?_⟩⟩
    · rw [upd_ne ne]; exact s15 _ _ ha
    · unfold addl
      rw [List.map_append]
      exact DqAll.append ((dl.same s15).tups (nl_map _ (fun _ => rfl) ls) tt) (DqAll.one (q5.tups rfl tt))
/-- what Code(..) promises -/
def spCode (K : PySem.W.Frag) : Sp := fun vs H Q _ => ∃ (p dx : Addr) (vr : V) (n : Nat) (rs : List Row), vs = [.ref p, .int n, vr] ∧ CodeOk n rs ∧ H p = some (.ins (He.ga K "Code") dx []) ∧ Dq (fun a => a ≠ p) H (.lst (rs.map rowD)) vr ∧
  ∀ H', Same (wo p H) H' → (∃ dx ys, H' p = some (.ins (He.ga K "Code") dx ((["many", "kept", "leads"] : List Str).zip ys)) ∧ ys.length = 3 ∧ DqAll (fun a => a ≠ p) H' [.int n, .lst (rs.map rowD), .lst ((leadsOf n rs).map ldD)] ys) → Q .non H'
/-- what stands while the rows are taken -/
structure CJ (K : PySem.W.Frag) (H0 : Hp) (p dx Kp L : Addr) (n : Nat) (rs : List Row) (ks : List V) (i : Nat) (H : Hp) : Prop where
  same : Same H0 H
  hp : H p = some (.ins (He.ga K "Code") dx ((["many", "kept", "leads"] : List Str).zip [.int n, .ref Kp, .ref L]))
  hk : H Kp = some (.lst ks)
  dk : DqAll NP1 H (rs.map rowD) ks
  hl : ∃ xs, H L = some (.lst xs) ∧ DqAll NP1 H ((leadsOf n (rs.take i)).map ldD) xs
theorem CJ.go {K : PySem.W.Frag} {H0 : Hp} {p dx Kp L : Addr} {n : Nat} {rs : List Row} {ks : List V} {i : Nat} {H H' : Hp} (J : CJ K H0 p dx Kp L n rs ks i H) (e : Same H H') : CJ K H0 p dx Kp L n rs ks i H' := by
  obtain ⟨xs, h1, h2⟩ := J.hl
  exact ⟨J.same.trans e, e _ _ J.hp, e _ _ J.hk, J.dk.same e, xs, e _ _ h1, h2.same e⟩
theorem CJ.dat {K : PySem.W.Frag} {H0 : Hp} {p dx Kp L : Addr} {n : Nat} {rs : List Row} {ks : List V} {i : Nat} {H : Hp} (J : CJ K H0 p dx Kp L n rs ks i H) : Dq TP1 H (cdD K n rs (leadsOf n (rs.take i))) (.ref p) := by
  obtain ⟨xs, h1, h2⟩ := J.hl
  exact ⟨p, _, dx, rfl, trivial, J.hp, rfl, _, _, rfl, rfl, _, _, rfl, ⟨Kp, ks, rfl, trivial, J.hk, J.dk.weak fun _ z => z.elim⟩, _, _, rfl, ⟨L, xs, rfl, trivial, h1, h2.weak fun _ z => z.elim⟩, rfl⟩
theorem sc_Code_init : FnScope ["self", "n", "rows", "at", "row"] ["self", "n", "rows"] (defScope s_Code_init) := ⟨rfl, rfl, rfl, by decide +kernel, rfl, by decide +kernel, by decide +kernel⟩
theorem i_Code (T : Wd K mg) : ∃ fd, FnOk P w K mg base CX0 4 (He.ma K (He.ga K "Code") "__init__") fd ["self", "n", "rows"] (spCode K) ∧ Binds K fd ["self", "n", "rows"] [] := by
  obtain ⟨fd, F⟩ := F_Code_init T
  obtain ⟨_, OK_Code_take, B_Code_take⟩ := m_take (P := P) (w := w) (base := base) T
  refine ⟨fd, F.ok sc_Code_init (fun vs H Q E h => ?_) (fun cdv A outer s H vs Q E hr h => ?_), F.bindsN (fun _ _ _ _ _ _ us hl => match us, hl with | [_, _, _], _ => rfl)⟩
  · obtain ⟨p, dx, vr, n, rs, rfl, _⟩ := h
    rfl
  · refine ⟨_, PSs.nox (pss_cons (ps_if (PW.pt (pw_or (pt_not (pt_val (pe_callB call_isi rfl (T_isinstance T) (by decide +kernel) (pa_cons (pv 1) (pa_cons (pe_bltn (v := .ty "int") rfl (T_int T) (by decide +kernel) rfl) pa_nil))))) (pw_or (pt_val (pe_callB call_isi rfl (T_isinstance T) (by decide +kernel) (pa_cons (pv 1) (pa_cons (pe_bltn (v := .ty "bool") rfl (T_bool T) (by decide +kernel) rfl) pa_nil)))) (pw_or (pt_not (pt_chain op_le op_le pe_int (pv 1) (pe_glob (v := .int 9) rfl (T_MOST_OF_CODE T).choose_spec ⟨_, rfl⟩))) (pw_or1 (pt_not (pt_val (pe_callB call_isi rfl (T_isinstance T) (by decide +kernel) (pa_cons (pv 2) (pa_cons (pe_bltn (v := .ty "list") rfl (T_list T) (by decide +kernel) rfl) pa_nil)))))))))) (pss_one ps_never) pss_nil)
      (pss_cons (ps_fld (pv 0) (pv 1) rfl)
      (pss_cons (ps_fld (pv 0) (pe_callTy call_list_of rfl (T_list T) (by decide +kernel) (pa_cons (pv 2) pa_nil)) rfl)
      (pss_cons (ps_fld (pv 0) (pe_lst pa_nil) rfl)
      (pss_one (ps_for PassesOwn.never rfl (pi_enum rfl (T_enumerate T) (pa_cons (pe_fld (pv 0) rfl) pa_nil)) (pg_tup rfl (pgs_cons (pg_name (i := 3) sc_Code_init.nd rfl (Or.inl rfl)) (pgs_cons (pg_name (i := 4) sc_Code_init.nd rfl (Or.inl rfl)) pgs_nil)))
        (pss_one (ps_expr (pe_meth (pv 0) (L_Code T) (M_Code_take T) OK_Code_take (hr.mono (by decide)) B_Code_take .nil pass0 (pa_cons (pv 4) (pa_cons (pe_slice sl_list (pe_fld (pv 0) rfl) po_none (po_some (pv 3))) pa_nil))))))))))), ?_⟩
    obtain ⟨p, dx, vr, n, rs, rfl, C, hp, dr, k⟩ := h
    have n1 := C.n1
    have n9 := C.n9
    have wn : ∀ a o, a ≠ p → H a = some o → (wo p H) a = some o := fun a o ne h => by unfold wo; rw [if_neg ne]; exact h
    have A1 : At (wo p H) [] (wo p H) (start ["self", "n", "rows", "at", "row"] [.non, .int n, vr]) (slotsOf ["self", "n", "rows", "at", "row"] [.non, .int n, .lst (rs.map rowD)]) := at_start ⟨_, _, rfl, rfl, _, _, rfl, rfl, _, _, rfl, dr.go (fun a o z h => ⟨trivial, wn a o z h⟩) (fun a xs h => wn a _ (fun e => by rw [e, hp] at h; cases h) h), rfl⟩ (by show 3 ≤ 5; decide)
    have A2 := A1.ownW (i := 0) (p := p) (c := .ins (He.ga K "Code") [] []) noOwn_dats wo_same (by unfold wo; rw [if_pos rfl]) ⟨dx, [], hp, rfl, rfl⟩ (by show 0 < 5; decide)
    have A : At (wo p H) [] H (start ["self", "n", "rows", "at", "row"] [.ref p, .int n, vr]) [.own p (.ins (He.ga K "Code") [] []), .dat (.int n), .dat (.lst (rs.map rowD)), .no, .no] := A2
    refine q_skip A (EvT.is (b := (!true) || (false || ((!(decide ((1 : Int) ≤ n) && decide ((n : Int) ≤ 9))) || (!true)))) (by walk_at "ev") ?_) fun H1 A => ?_
    · rw [decide_eq_true (show (1 : Int) ≤ n by omega), decide_eq_true (show (n : Int) ≤ 9 by omega)]; rfl
    refine q_fldO A rfl (d := .int n) (by walk_at "ev") (L_Code T) (N_Code_many T) (by decide) put_0 fun H2 A => ?_
    have A : At (wo p H) [] H2 (start ["self", "n", "rows", "at", "row"] [.ref p, .int n, vr]) [.own p (.ins (He.ga K "Code") ["many"] [.int n]), .dat (.int n), .dat (.lst (rs.map rowD)), .no, .no] := A
    refine q_fldO (i := 0) (l := p) (ns := ["many"]) (ds := [.int n]) A rfl (d := .lst (rs.map rowD)) (ev_cb (ea_cons (ew_var rfl) ea_nil) (rc_list (nl_rows rs))) (L_Code T) (N_Code_kept T) (by decide) (put_1 (by decide)) fun H3 A => ?_
    obtain ⟨_, _, _, dx3, xs3, hp3, hl3, q3⟩ := A.sl 0 (.own p (.ins (He.ga K "Code") ["many", "kept"] [.int n, .lst (rs.map rowD)])) rfl
    obtain ⟨v1, _, rfl, e1, v2, _, rfl, ⟨Kp, ks, rfl, pk, hk, dk⟩, rfl⟩ := q3
    obtain rfl : v1 = V.int n := e1
    have nk : Kp ≠ p := fun e => by subst e; exact pk 0 _ rfl
    have dk : DqAll NP1 H3 (rs.map rowD) ks := DqAll.flat _ _ (nl_rows rs) dk
    refine ⟨(by show 0 ≤ sizeLine; decide), fun L hL => ?_⟩
    have lp : L ≠ p := fun e => by rw [e, hp3] at hL; cases hL
    have lk : L ≠ Kp := fun e => by rw [e, hk] at hL; cases hL
    refine ⟨.ref p, rfl, p, _, dx3, _, rfl, by rw [upd_ne (fun e => lp e.symm)]; exact hp3, L_Code T, N_Code_leads T, (by show 2 < 1000; decide), ?_⟩
    have epf : putF "leads" (V.ref L) ((["many", "kept"] : List Str).zip [.int n, .ref Kp]) = (["many", "kept", "leads"] : List Str).zip [.int n, .ref Kp, .ref L] := by
      show (if ("many" : Str) = "leads" then _ else (("many" : Str), V.int n) :: (if ("kept" : Str) = "leads" then _ else _)) = _
      rw [if_neg (by decide), if_neg (by decide)]
      rfl
    have hL0 : (wo p H) L = none := A.same.free hL
    have J0 : CJ K (wo p H) p dx3 Kp L n rs ks 0 (upd (upd H3 L (.lst [])) p (.ins (He.ga K "Code") dx3 (putF "leads" (V.ref L) ((["many", "kept"] : List Str).zip [.int n, .ref Kp])))) := by
      have tr : ∀ a o, a ≠ p → a ≠ L → H3 a = some o → (upd (upd H3 L (.lst [])) p (.ins (He.ga K "Code") dx3 (putF "leads" (V.ref L) ((["many", "kept"] : List Str).zip [.int n, .ref Kp])))) a = some o := fun a o h1 h2 h => by
        rw [upd_ne h1, upd_ne h2]; exact h
      refine ⟨fun a o h => ?_, by rw [upd_same, epf], tr _ _ nk (fun e => lk e.symm) hk, DqAll.go (fun _ _ z => z.elim) (fun a xs z => tr _ _ (fun e => by rw [e, hp3] at z; cases z) (fun e => by rw [e, hL] at z; cases z) z) _ _ dk, [], ?_, rfl⟩
      · refine tr a o (fun e => ?_) (fun e => ?_) (A.same a o h)
        · rw [e] at h; unfold wo at h; rw [if_pos rfl] at h; cases h
        · rw [e, hL0] at h; cases h
      · rw [upd_ne lp, upd_same]
    have lks : ks.length = rs.length := by rw [dk.length, List.length_map]
    refine ⟨.ref p, rfl, p, _, dx3, _, .ref Kp, rfl, J0.hp, L_Code T, N_Code_kept T, rfl, Kp, ks, rfl, SqL.of J0.hk, ?_⟩
    refine ⟨fun i m σ' H' => m = rs.length - i ∧ i ≤ rs.length ∧ (∃ e3 e4, σ' = [some (.ref p), some (.int n), some vr, e3, e4]) ∧ CJ K (wo p H) p dx3 Kp L n rs ks i H', ⟨_, rfl, Nat.zero_le _, ⟨_, _, rfl⟩, J0⟩, ?_⟩
    rintro i m σ' H' ⟨rfl, hi, ⟨e3, e4, rfl⟩, J⟩
    by_cases hlt : i < rs.length
    · have hx : ks[i]? = some (ks[i]'(by omega)) := List.getElem?_eq_getElem (by omega)
      refine .inr ⟨⟨ks, _, SqL.of J.hk, hx⟩, fun σ3 H3 => (∃ e3 e4, σ3 = [some (.ref p), some (.int n), some vr, e3, e4]) ∧ CJ K (wo p H) p dx3 Kp L n rs ks (i + 1) H3, fun σ3 H3 ⟨h1, h2⟩ => ⟨rs.length - (i + 1), by omega, rfl, hlt, h1, h2⟩, ?_⟩
      rintro x' H2 ⟨T', y, rfl, hT, rfl, hy⟩
      have hy := hy ks (SqL.of J.hk)
      have J2 := J.go (same_new (o := .tup [.int (i : Nat), y]) hT)
      obtain ⟨d', hd', qy⟩ := J2.dk.at' hy
      obtain ⟨r, hr', rfl⟩ := map_at hd'
      refine ⟨T', _, rfl, SqT.of upd_same, rfl, _, _, rfl, _, _, rfl, rfl, ?_⟩
      have S : Sv (upd H' T' (.tup [.int (i : Nat), y])) [some (.ref p), some (.int n), some vr, some (.int (i : Nat)), some y] [some (cdD K n rs (leadsOf n (rs.take i))), none, none, some (.int (i : Nat)), some (rowD r)] := sv_cons J2.dat (sv_skip (sv_skip (sv_cons rfl (sv_cons qy.top sv_nil))))
      refine ⟨.ref p, rfl, p, dx3, _, rfl, J2.hp, rfl, ?_⟩
      refine (ea_cons (ew_var (i := 4) rfl) (ea_cons (Ev.w (ev_slL (ew_fld (ew_var (i := 0) rfl) (L_Code T) (N_Code_kept T) rfl) eo_none (eo_some (ew_var (i := 3) rfl)) (nl_rows rs))) ea_nil) : EvA _ _ [rowD r, .lst (cutD (rs.map rowD) none (some (i : Int)))]) _ _ S _ fun us H6 s6 ⟨u1, _, eu1, q1, u2, _, eu2, q2, eu3⟩ => ?_
      subst eu1 eu2 eu3
      rw [cut_head (by rw [List.length_map]; omega), ← List.map_take] at q2
      have J6 := J2.go s6
      obtain ⟨xs, h1, h2⟩ := J6.hl
      have hrm := List.mem_of_getElem? hr'
      have ll : (leadsOf n (rs.take i)).length ≤ 60 := by
        unfold leadsOf
        rw [leads_len, List.length_take]
        have := C.len
        show 0 + _ ≤ 60
        omega
      refine ⟨p, L, u1, u2, .ref Kp, xs, n, r, rs, rs.take i, leadsOf n (rs.take i), rfl, J6.dat, q1, q2, ⟨dx3, J6.hp⟩, h1, h2, n9, C.wf r hrm, fun a ha => ⟨wf9 n9 (C.wf a (List.mem_of_mem_take ha)), C.bes r hrm a (List.mem_of_mem_take ha)⟩, by rw [List.length_take]; have := C.len; omega, ll, C.ind i r hr', fun H7 h7 ⟨ys, hy7, dy7⟩ => ⟨⟨_, _, rfl⟩, ?_⟩⟩
      refine ⟨fun a o h => h7 a o (fun e => by rw [e, hL0] at h; cases h) (J6.same a o h), h7 _ _ (fun e => lp e.symm) J6.hp, h7 _ _ (fun e => lk e.symm) J6.hk, DqAll.go (fun _ _ z => z.elim) (fun a xs z => h7 _ _ (fun e => by rw [e, h1] at z; cases z) z) _ _ J6.dk, ys, hy7, ?_⟩
      have e5 : leadsOf n (rs.take (i + 1)) = addl n (leadsOf n (rs.take i)) r := fold_take hr'
      rw [e5]
      exact dy7
    · have e : i = rs.length := by omega
      subst e
      refine .inl ⟨⟨ks, SqL.of J.hk, by omega⟩, k H' J.same ⟨dx3, _, J.hp, rfl, ?_⟩⟩
      obtain ⟨xs, h1, h2⟩ := J.hl
      rw [List.take_of_length_le (Nat.le_refl _)] at h2
      exact ⟨_, _, rfl, rfl, _, _, rfl, ⟨Kp, ks, rfl, nk, J.hk, J.dk.weak fun _ z => z.elim⟩, _, _, rfl, ⟨L, xs, rfl, lp, h1, h2.weak fun _ z => z.elim⟩, rfl⟩

end
end K92
end
section
set_option maxHeartbeats 4000000

namespace K92
open PySem PySem.Spec PyProof.Rows L2
section
variable {P : Program} {w : World} {K : PySem.W.Frag} {mg : Str → Option Value} {base : Heap}
/-! ### two wrongs that look alike and part -/
def firstW (rs ws : List Row) (e : Row) : Option Row := ws.find? fun f => decide (sigs rs f = sigs rs e)
def bothW (f e : Row) : Row := ⟨false, f.x ^^^ e.x, f.z ^^^ e.z⟩
def badW (n : Nat) (rs : List Row) (ls : List (Nat × Nat)) (ws : List Row) (e : Row) : Bool := match firstW rs ws e with
  | some f => !decide (lo ls (ltn n (bothW f e)) = 0)
  | none => false
def showR (n : Nat) (rs : List Row) (b : Row) : Row := ⟨false, shw n rs b % 2 ^ n, shw n rs b >>> n⟩
def partD (n : Nat) (rs : List Row) (ls : List (Nat × Nat)) (ws : List Row) : Dat := match ws.find? (badW n rs ls ws) with
  | none => .non
  | some e => match firstW rs ws e with
    | some f => .tup [rowD f, rowD e, rowD (showR n rs (bothW f e))]
    | none => .non
def DOk (H : Hp) (kvs : List (List Key × V)) (k : List Int) : Option Row → Prop
  | some f => ∃ v, valV kvs (k.map Sum.inl) = some v ∧ Dq NP1 H (rowD f) v
  | none => valV kvs (k.map Sum.inl) = none
theorem DOk.go {H H' : Hp} (e : Sd H H') {kvs : List (List Key × V)} {k : List Int} : ∀ {o : Option Row}, DOk H kvs k o → DOk H' kvs k o
  | some f, ⟨v, h, q⟩ => ⟨v, h, q.sd e _ _⟩
  | none, h => h
theorem inl_inj : ∀ {a b : List Int}, a.map (Sum.inl : Int → Key) = b.map Sum.inl → a = b
  | [], [], _ => rfl
  | [], _ :: _, h => by cases h
  | _ :: _, [], h => by cases h
  | x :: a, y :: b, h => by
    injection h with h1 h2
    injection h1 with h1
    rw [h1, inl_inj h2]
theorem kv_ints (l : List Int) : (l.map Sum.inl : List Key).map kV = l.map V.int := by rw [List.map_map]; rfl
theorem find_pre {f : Row → Bool} {ws : List Row} {i : Nat} {c : Row} (h : (ws.take i).find? f = some c) : ws.find? f = some c := by
  rw [← List.take_append_drop i ws, List.find?_append, h]; rfl
theorem dset {σ : L2.St} {H : Hp} {Δ : Vw} {ws rs : List Row} {i : Nat} {e f : Row} {x : V} {dd : Addr} {kvs : List (List Key × V)} {ty : TE} (S : Sv H σ Δ) (h2 : σ[2]? = some (some (.ref dd))) (h3 : σ[3]? = some (some x)) (qx : Dq NP1 H (rowD e) x) (hd : H dd = some (.dT kvs)) (hl : kvs.length ≤ i) (hi : i ≤ 5000)
    (ok : ∀ k, DOk H kvs k ((ws.take i).find? fun f => decide (sigs rs f = k))) (he : ws[i]? = some e) (hf : firstW rs ws e = some f) (hty : EvW ty Δ (.tup ((sigs rs e).map Dat.int))) {Q : VK}
    (k : ∀ u Hn, (∀ a o, a ≠ dd → H a = some o → Hn a = some o) → Sd H Hn → Dq NP1 Hn (rowD f) u → (∃ kvs', Hn dd = some (.dT kvs') ∧ kvs'.length ≤ i + 1 ∧ ∀ k, DOk Hn kvs' k ((ws.take (i + 1)).find? fun f => decide (sigs rs f = k))) → Q u Hn) : tDSetT (tVar 2) ty (tVar 3) σ H Q := by
  refine ⟨.ref dd, h2, dd, rfl, .inr ⟨kvs, .inl hd⟩, hty σ H S _ fun y H3 s3 ⟨b, xs, ey, hb, q⟩ => ⟨x, h3, kvs, (sigs rs e).map Sum.inl, b, s3 _ _ hd, ey, ?_, Nat.lt_of_le_of_lt (Nat.le_trans hl hi) (by decide), fun v hv => ?_, fun hn => ?_⟩⟩
  · rw [hb, dq_ints q, kv_ints]
  · have o1 := ok (sigs rs e)
    cases c : (ws.take i).find? fun f => decide (sigs rs f = sigs rs e) with
    | none =>
      rw [c] at o1
      have o1 : valV kvs ((sigs rs e).map Sum.inl) = none := o1
      rw [o1] at hv; cases hv
    | some g =>
      rw [c] at o1
      obtain ⟨v', hv', qv⟩ := o1
      rw [hv'] at hv
      cases hv
      have gf : g = f := by
        have z := find_pre c
        unfold firstW at hf
        rw [z] at hf
        exact Option.some.inj hf
      subst gf
      refine k v H3 (fun a o _ h => s3 a o h) (Sd.of s3) (qv.sd (Sd.of s3) _ _) ⟨kvs, s3 _ _ hd, by omega, fun kk => ?_⟩
      rw [List.take_add_one, he, show (some e).toList = [e] from rfl, find_snoc]
      have o2 := (ok kk).go (Sd.of s3)
      cases c2 : (ws.take i).find? fun f => decide (sigs rs f = kk) with
      | some g2 => rw [c2] at o2; exact o2
      | none =>
        rw [c2] at o2
        dsimp only
        split
        · rename_i z
          have z := of_decide_eq_true z
          subst z
          rw [c] at c2; cases c2
        · exact o2
  · have o1 := ok (sigs rs e)
    cases c : (ws.take i).find? fun f => decide (sigs rs f = sigs rs e) with
    | some g =>
      rw [c] at o1
      obtain ⟨v', hv', qv⟩ := o1
      rw [hv'] at hn; cases hn
    | none =>
      have gf : f = e := by
        have z : (ws.take (i + 1)).find? (fun f => decide (sigs rs f = sigs rs e)) = some e := by
          rw [List.take_add_one, he, show (some e).toList = [e] from rfl, find_snoc, c]
          dsimp only
          rw [if_pos (decide_eq_true rfl)]
        have z := find_pre z
        unfold firstW at hf
        rw [z] at hf
        exact (Option.some.inj hf).symm
      subst gf
      have sp := sd_put (kvs' := putK kvs ((sigs rs f).map Sum.inl) x) (s3 _ _ hd)
      have s4 := (Sd.of s3).trans sp
      have q4 := qx.sd s4
      refine k x _ (fun a o ne h => by rw [upd_ne ne]; exact s3 a o h) s4 q4 ⟨_, upd_same, Nat.le_trans (length_putK ..) (by omega), fun kk => ?_⟩
      rw [List.take_add_one, he, show (some f).toList = [f] from rfl, find_snoc]
      have o2 := (ok kk).go s4
      have vp := valV_put kvs ((sigs rs f).map Sum.inl) (kk.map Sum.inl) x
      cases c2 : (ws.take i).find? fun f => decide (sigs rs f = kk) with
      | some g2 =>
        rw [c2] at o2
        obtain ⟨v2, hv2, qv2⟩ := o2
        refine ⟨v2, ?_, qv2⟩
        rw [vp, if_neg (fun z => ?_), hv2]
        rw [inl_inj z, c] at c2; cases c2
      | none =>
        rw [c2] at o2
        have o2 : valV kvs (kk.map Sum.inl) = none := o2
        dsimp only
        split
        · rename_i z
          have z := of_decide_eq_true z
          subst z
          exact ⟨x, by rw [vp, if_pos rfl], q4⟩
        · rename_i z
          show valV _ _ = none
          rw [vp, if_neg (fun y => z (decide_eq_true (inl_inj y).symm)), o2]
theorem q_dset {uu : TS} {D : Ends} {σ : L2.St} {H : Hp} {Δ : Vw} {ws rs : List Row} {i : Nat} {e f : Row} {x : V} {dd : Addr} {kvs : List (List Key × V)} {ty : TE} (S : Sv H σ Δ) (h2 : σ[2]? = some (some (.ref dd))) (h3 : σ[3]? = some (some x)) (qx : Dq NP1 H (rowD e) x) (hd : H dd = some (.dT kvs)) (hl : kvs.length ≤ i) (hi : i ≤ 5000)
    (ok : ∀ k, DOk H kvs k ((ws.take i).find? fun f => decide (sigs rs f = k))) (he : ws[i]? = some e) (hf : firstW rs ws e = some f) (hty : EvW ty Δ (.tup ((sigs rs e).map Dat.int)))
    (k : ∀ u Hn, (∀ a o, a ≠ dd → H a = some o → Hn a = some o) → Sd H Hn → Dq NP1 Hn (rowD f) u → (∃ kvs', Hn dd = some (.dT kvs') ∧ kvs'.length ≤ i + 1 ∧ ∀ k, DOk Hn kvs' k ((ws.take (i + 1)).find? fun f => decide (sigs rs f = k))) → uu D (σ.set 4 (some u)) Hn) : tSeq (tAsg (tDSetT (tVar 2) ty (tVar 3)) (gName 4)) uu D σ H := dset S h2 h3 qx hd hl hi ok he hf hty k
def R_parting (K : PySem.W.Frag) (ds : List Dat) (d : Dat) : Prop := ∃ (n m : Nat) (rs : List Row) (ls : List (Nat × Nat)), n ≤ 9 ∧ m ≤ 2 ∧ (∀ r ∈ rs, r.wf 9) ∧ rs.length ≤ 60 ∧ ds = [cdD K n rs ls, .int m] ∧ d = partD n rs ls (wrs n (min m n))
theorem sc_Code_parting_wrongs : FnScope ["self", "many", "firsts", "wrong", "first", "both"] ["self", "many"] (defScope s_Code_parting_wrongs) := ⟨rfl, rfl, rfl, by decide +kernel, rfl, by decide +kernel, by decide +kernel⟩
theorem m_parting (T : Wd K mg) : ∃ fd, FnOk P w K mg base CX0 4 (He.ma K (He.ga K "Code") "parting_wrongs") fd ["self", "many"] (spF (R_parting K)) ∧ Binds K fd ["self", "many"] [] := by
  obtain ⟨fd, F⟩ := F_Code_parting_wrongs T
  obtain ⟨_, OK_Code_wrongs, B_Code_wrongs⟩ := m_wrongs (P := P) (w := w) (base := base) T
  obtain ⟨_, OK_Code_signs, B_Code_signs⟩ := m_signs (P := P) (w := w) (base := base) T
  obtain ⟨_, OK_Code_harmless, B_Code_harmless⟩ := m_harmless (P := P) (w := w) (base := base) T
  obtain ⟨_, OK_Code_shower, B_Code_shower⟩ := m_shower (P := P) (w := w) (base := base) T
  refine ⟨fd, fn_pure F sc_Code_parting_wrongs (fun ds d ⟨_, _, _, _, _, _, _, _, e, _⟩ => by rw [e]; rfl) (by decide) (fun cdv A outer s H hr => ⟨_, (pss_cons (ps_set (i := 2) sc_Code_parting_wrongs.nd rfl (Or.inl rfl) pe_dnewT)
      (pss_cons (ps_for PassesOwn.never rfl (pi_list (pe_meth (pv 0) (L_Code T) (M_Code_wrongs T) OK_Code_wrongs (hr.mono (by decide)) B_Code_wrongs .nil pass0 (pa_cons (pv 1) pa_nil))) (pg_name (i := 3) sc_Code_parting_wrongs.nd rfl (Or.inl rfl))
        (pss_cons (ps_set (i := 4) sc_Code_parting_wrongs.nd rfl (Or.inl rfl) (pe_dsetT hr.units (pv 2) (pe_callTy call_tuple_of rfl (T_tuple T) (by decide +kernel) (pa_cons (pe_meth (pv 0) (L_Code T) (M_Code_signs T) OK_Code_signs (hr.mono (by decide)) B_Code_signs .nil pass0 (pa_cons (pv 3) pa_nil)) pa_nil)) (pv 3) ⟨rfl, rfl, rfl, rfl⟩))
      (pss_cons (ps_set (i := 5) sc_Code_parting_wrongs.nd rfl (Or.inl rfl) (pe_tup (pa_cons pe_int (pa_cons (pe_op op_xor (pe_ix ix_tup (pv 4) pe_int (fun _ _ => rfl)) (pe_ix ix_tup (pv 3) pe_int (fun _ _ => rfl))) (pa_cons (pe_op op_xor (pe_ix ix_tup (pv 4) pe_int (fun _ _ => rfl)) (pe_ix ix_tup (pv 3) pe_int (fun _ _ => rfl))) pa_nil)))))
      (pss_one (ps_if (pt_not (pt_val (pe_meth (pv 0) (L_Code T) (M_Code_harmless T) OK_Code_harmless (hr.mono (by decide)) B_Code_harmless .nil pass0 (pa_cons (pv 5) pa_nil)))) (pss_one (ps_ret (pe_tup (pa_cons (pv 4) (pa_cons (pv 3) (pa_cons (pe_meth (pv 0) (L_Code T) (M_Code_shower T) OK_Code_shower (hr.mono (by decide)) B_Code_shower .nil pass0 (pa_cons (pv 5) pa_nil)) pa_nil)))))) pss_nil)))))
      (pss_one (ps_ret pe_non)))), ?_⟩), F.bindsN (fun _ _ _ _ _ _ us hl => match us, hl with | [_, _], _ => rfl)⟩
  rintro ds d ⟨n, m, rs, ls, hn, hm, hw, hl, rfl, rfl⟩ D σ A kr kn
  have S : Sv H σ [some (cdD K n rs ls), some (.int m), none, none, none, none] := A.sv
  have lw := wrs_len (n := n) (m := min m n) hn (by omega)
  have hww : ∀ e ∈ wrs n (min m n), e.wf 9 := fun e h => wf9 hn (wrs_wf e h).1
  refine fun dd hdd => ?_
  have s0 : Same H (upd H dd (.dT [])) := same_new hdd
  have S1 : Sv (upd H dd (.dT [])) (σ.set 2 (some (.ref dd))) [some (cdD K n rs ls), some (.int m), none, none, none, none] := by
    have z := (sv_put (i := 2) (d := .int 0) (x := .int 0) (S.same s0) rfl).no (i := 2)
    refine ⟨by rw [List.length_set]; exact S.len, fun j d h => ?_⟩
    obtain ⟨v, h1, h2⟩ := (S.same s0).at_ j d h
    refine ⟨v, ?_, h2⟩
    by_cases hj : 2 = j
    · subst hj; cases h
    · rw [List.getElem?_set_ne hj]; exact h1
  refine raw_for (fun i σ' H' => ((wrs n (min m n)).take i).find? (badW n rs ls (wrs n (min m n))) = none ∧ Sv H' σ' [some (cdD K n rs ls), some (.int m), none, none, none, none] ∧ σ'[2]? = some (some (.ref dd)) ∧ Same H H' ∧
      ∃ kvs, H' dd = some (.dT kvs) ∧ kvs.length ≤ i ∧ ∀ k, DOk H' kvs k (((wrs n (min m n)).take i).find? fun f => decide (sigs rs f = k))) (ds := (wrs n (min m n)).map rowD) S1
    (sr_list (Ev.w (ev_meth (dd := []) (ew_var rfl) (by decide) (ea_cons (ew_var rfl) ea_nil) (fun _ => rfl) ⟨n, m, rs, ls, hn, hm, rfl, rfl⟩))) (nl_rows _)
    (fun H' e => ⟨rfl, S1.same e, by rw [List.getElem?_set_self]; rw [S.len]; show 2 < 6; decide, s0.trans e, [], e _ _ upd_same, Nat.le_refl _, fun k => rfl⟩)
    (fun i σ' H' H'' ⟨h1, h2, h3, h4, kvs, h5, h6, h7⟩ e => ⟨h1, h2.same e, h3, h4.trans e, kvs, e _ _ h5, h6, fun k => (h7 k).go (Sd.of e)⟩) ?_ ?_
  · rintro i d Hb σ' H' x hd ⟨h1, h2, h3, h4, kvs, h5, h6, h7⟩ sb qx
    obtain ⟨e, he, rfl⟩ := map_at hd
    have hi := (List.getElem?_eq_some_iff.mp he).1
    have we := hww e (List.mem_of_getElem? he)
    have S2 : Sv H' (σ'.set 3 (some x)) [some (cdD K n rs ls), some (.int m), none, some (rowD e), none, none] := sv_put h2 qx.top
    have l6 : σ'.length = 6 := h2.len
    have hf : ∃ f, firstW rs (wrs n (min m n)) e = some f := by
      unfold firstW
      cases c : (wrs n (min m n)).find? (fun f => decide (sigs rs f = sigs rs e)) with
      | some f => exact ⟨f, rfl⟩
      | none => exact absurd (decide_eq_true rfl) (List.find?_eq_none.mp c e (List.mem_of_getElem? he))
    obtain ⟨f, hf⟩ := hf
    have wf := hww f (List.mem_of_find?_eq_some hf)
    refine q_dset S2 (by rw [List.getElem?_set_ne (by decide)]; exact h3) (by rw [List.getElem?_set_self (by omega)]) qx h5 h6 (by omega) h7 he hf
      (Ev.w (ev_cb (ea_cons (Ev.w (ev_meth (dd := []) (ew_var rfl) (by decide) (ea_cons (ew_var rfl) ea_nil) (fun _ => rfl) ⟨n, rs, ls, e, hw, we, hl, rfl, rfl⟩)) ea_nil) (rc_tuple (nl_ints _)))) fun u Hn g1 g2 g3 ⟨kvs', g4, g5, g6⟩ => ?_
    have hd0 : H dd = none := hdd
    have sH : Same H Hn := fun a o h => g1 a o (fun z => by rw [z, hd0] at h; cases h) (h4 a o h)
    have S3 : Sv Hn ((σ'.set 3 (some x)).set 4 (some u)) [some (cdD K n rs ls), some (.int m), none, some (rowD e), some (rowD f), none] := sv_put (S2.sd g2) g3.top
    have wb : (bothW f e).wf 9 := ⟨Nat.xor_lt_two_pow wf.x we.x, Nat.xor_lt_two_pow wf.z we.z⟩
    refine raw_asg S3 (d := rowD (bothW f e)) (Ev.is (d := .tup [.int 0, .int (Builtin.bitXor (f.x : Int) (e.x : Int)), .int (Builtin.bitXor (f.z : Int) (e.z : Int))]) (by
      walk_at "ev"
      all_goals first | exact atI_nat (j := 1) rfl | exact atI_nat (j := 2) rfl) (by rw [nb_xor, nb_xor]; rfl)) fun v H4 s4 S4 => ?_
    have S4 : Sv H4 (((σ'.set 3 (some x)).set 4 (some u)).set 5 (some v)) [some (cdD K n rs ls), some (.int m), none, some (rowD e), some (rowD f), some (rowD (bothW f e))] := S4
    have bw : badW n rs ls (wrs n (min m n)) e = !decide (lo ls (ltn n (bothW f e)) = 0) := by unfold badW; rw [hf]
    have fs := find_snoc (badW n rs ls (wrs n (min m n))) ((wrs n (min m n)).take i) e
    rw [h1] at fs
    have tk : (wrs n (min m n)).take (i + 1) = (wrs n (min m n)).take i ++ [e] := by rw [List.take_add_one, he]; rfl
    refine raw_if S4 (b := !decide (lo ls (ltn n (bothW f e)) = 0)) (et_not (et_test (Ev.w (ev_meth (dd := []) (ew_var rfl) (by decide) (ea_cons (ew_var rfl) ea_nil) (fun _ => rfl) ⟨n, rs, ls, bothW f e, hn, wb, rfl, rfl⟩)))) (fun b H5 s5 => ?_) (fun b H5 s5 => ?_)
    · rw [← tk, bw, b, if_pos rfl] at fs
      have pd : partD n rs ls (wrs n (min m n)) = .tup [rowD f, rowD e, rowD (showR n rs (bothW f e))] := by
        unfold partD
        rw [find_pre fs]
        dsimp only
        rw [hf]
      refine raw_ret (S4.same s5) (d := .tup [rowD f, rowD e, rowD (showR n rs (bothW f e))]) (ev_tup (es_cons (ev_var rfl rfl) (es_cons (ev_var rfl rfl) (es_cons (ev_meth (dd := []) (ew_var rfl) (by decide) (ea_cons (ew_var rfl) ea_nil) (fun _ => rfl) ⟨n, rs, ls, bothW f e, hn, hw, wb, hl, rfl, rfl⟩) es_nil))) (by show 3 ≤ 1000; decide)) fun v6 H6 s6 q6 => ?_
      have s46 := (sH.trans s4).trans s5
      exact kr v6 H6 (s46.trans s6) (by rw [pd]; exact q6.weak (fr_same s46))
    · rw [← tk, bw, b, if_neg (by decide)] at fs
      have s45 := s4.trans s5
      refine ⟨⟨fs, (((S4.same s5).no (i := 3)).no (i := 4)).no (i := 5), ?_, (sH.trans s4).trans s5, kvs', s45 _ _ g4, g5, fun k => (g6 k).go (Sd.of s45)⟩, (sb.trans g2).trans (Sd.of s45)⟩
      rw [List.getElem?_set_ne (by decide), List.getElem?_set_ne (by decide), List.getElem?_set_ne (by decide)]
      exact h3
  · rintro σ' H' ⟨h1, h2, h3, h4, kvs, h5, h6, h7⟩
    rw [List.length_map, List.take_of_length_le (Nat.le_refl _)] at h1
    have pd : partD n rs ls (wrs n (min m n)) = .non := by unfold partD; rw [h1]
    refine raw_ret h2 (d := .non) (by walk_at "ev") fun v6 H6 s6 q6 => kr v6 H6 (h4.trans s6) (by rw [pd]; exact q6.weak (fr_same h4))

end
end K92
end
section
set_option maxHeartbeats 4000000

namespace K92
open PySem PySem.Spec PyProof.Rows L2
section
variable {P : Program} {w : World} {K : PySem.W.Frag} {mg : Str → Option Value} {base : Heap}
/-! ### the law's own: counts, rows beside -/
theorem sc_law_ones : FnScope ["_law_number", "_law_many"] ["_law_number"] (defScope s_law_ones) := ⟨rfl, rfl, rfl, by decide +kernel, rfl, by decide +kernel, by decide +kernel⟩
theorem c_law_ones (T : Wd K mg) : Cal P w K mg base "_law_ones" 1 ["_law_number"] (spF R_ones) := by
  obtain ⟨fd, F⟩ := F_law_ones T
  refine ⟨_, fd, G_law_ones T, fn_pure F sc_law_ones (fun ds d ⟨n, _, e, _⟩ => by rw [e]; rfl) (by decide) (fun cdv A outer s H hr => ⟨_, (pss_cons (ps_set (i := 1) sc_law_ones.nd rfl (Or.inl rfl) pe_int)
      (pss_cons (ps_while PassesOwn.never (pt_cmpR op_gt (pv 0) pe_int (nomark _))
        (pss_cons (ps_set (i := 1) sc_law_ones.nd rfl (Or.inl rfl) (pe_op op_add (pv 1) (pe_op op_mod (pv 0) pe_int)))
      (pss_one (ps_set (i := 0) sc_law_ones.nd rfl (Or.inl rfl) (pe_op op_fdiv (pv 0) pe_int)))))
      (pss_one (ps_ret (pv 1))))), ?_⟩), F.kp, F.bindsN (fun _ _ _ _ _ _ us hl => match us, hl with | [_], _ => rfl)⟩
  rintro ds d ⟨n, hn, rfl, rfl⟩ D σ A kr kn
  have A : At H [] H σ [.dat (.int n), .no] := A
  refine (q_asg A (Ev.p (by walk_at "ev")) fun σ H1 A => ?_)
  refine (q_while (fun m Γ => m < 2 ^ 64 ∧ Γ = [.dat (.int m), .dat (.int (pop n - pop m))]) A n ⟨hn, by rw [Int.sub_self]; rfl⟩ ?_)
  rintro m Γ ⟨hm, rfl⟩
  refine ⟨_, by walk_at "ev", fun hb σ H A => ?_, fun hb σ H A => ?_⟩
  · have h0 : 0 < m := by have := of_decide_eq_true hb; omega
    refine q_asg A (d := .int (pop n - pop (m / 2))) (Ev.p (Ev.is (d := .int (pop n - pop m + (m : Int) % 2)) (by walk_at "ev"; show (0 : Int) < 2; decide) ?_)) fun σ H1 A => ?_
    · congr 1
      rw [pop_half hm]; omega
    refine st_asg A (d := .int ((m / 2 : Nat) : Int)) (Ev.p (Ev.is (d := .int ((m : Int) / 2)) (by walk_at "ev"; exact ⟨by decide, by omega⟩) (by congr 1))) fun σ H2 A => ⟨m / 2, _, by omega, ⟨by omega, rfl⟩, A⟩
  · have h0 : m = 0 := by have := of_decide_eq_false hb; omega
    subst h0
    refine st_ret A (by walk_at "ev") fun v H' e q => kr v H' e ?_
    rw [pop_zero, Int.sub_zero] at q
    exact q
theorem sc_law_beside : FnScope ["_law_one", "_law_other"] ["_law_one", "_law_other"] (defScope s_law_beside) := ⟨rfl, rfl, rfl, by decide +kernel, rfl, by decide +kernel, by decide +kernel⟩
theorem c_law_beside (T : Wd K mg) : Cal P w K mg base "_law_beside" 2 ["_law_one", "_law_other"] (spF R_beside) := by
  obtain ⟨fd, F⟩ := F_law_beside T
  have C_law_ones := c_law_ones (P := P) (w := w) (base := base) T
  refine ⟨_, fd, G_law_beside T, fn_pure F sc_law_beside (fun ds d ⟨a, b, _, _, e, _⟩ => by rw [e]; rfl) (by decide) (fun cdv A outer s H hr => ⟨_, (pss_one (ps_ret (pe_cmpR op_eq (pe_op op_mod (pe_op op_add (pe_f C_law_ones (hr.mono (by decide)) rfl (pa_cons (pe_op op_and (pe_ix ix_tup (pv 0) pe_int (fun _ _ => rfl)) (pe_ix ix_tup (pv 1) pe_int (fun _ _ => rfl))) pa_nil)) (pe_f C_law_ones (hr.mono (by decide)) rfl (pa_cons (pe_op op_and (pe_ix ix_tup (pv 0) pe_int (fun _ _ => rfl)) (pe_ix ix_tup (pv 1) pe_int (fun _ _ => rfl))) pa_nil))) pe_int) pe_int (nomark _)))), ?_⟩), F.kp, F.bindsN (fun _ _ _ _ _ _ us hl => match us, hl with | [_, _], _ => rfl)⟩
  rintro ds d ⟨a, b, ha, hb, rfl, rfl⟩ D σ A kr kn
  have A : At H [] H σ [.dat (rowD a), .dat (rowD b)] := A
  rw [← beside_pop] at kr
  refine st_ret A (by
    walk_at "ev"
    · exact ⟨a.x &&& b.z, and_lt64 (lt9 ha.x), by rw [nb_and], rfl⟩
    · exact ⟨a.z &&& b.x, and_lt64 (lt9 ha.z), by rw [nb_and], rfl⟩
    · decide) kr
def R_weight (ds : List Dat) (d : Dat) : Prop := ∃ r : Row, r.wf 9 ∧ ds = [rowD r] ∧ d = .int (pop (r.x ||| r.z))
theorem sc_law_weight : FnScope ["_law_row_here"] ["_law_row_here"] (defScope s_law_weight) := ⟨rfl, rfl, rfl, by decide +kernel, rfl, by decide +kernel, by decide +kernel⟩
theorem c_law_weight (T : Wd K mg) : Cal P w K mg base "_law_weight" 2 ["_law_row_here"] (spF R_weight) := by
  obtain ⟨fd, F⟩ := F_law_weight T
  have C_law_ones := c_law_ones (P := P) (w := w) (base := base) T
  refine ⟨_, fd, G_law_weight T, fn_pure F sc_law_weight (fun ds d ⟨a, _, e, _⟩ => by rw [e]; rfl) (by decide) (fun cdv A outer s H hr => ⟨_, (pss_one (ps_ret (pe_f C_law_ones (hr.mono (by decide)) rfl (pa_cons (pe_op op_or (pe_ix ix_tup (pv 0) pe_int (fun _ _ => rfl)) (pe_ix ix_tup (pv 0) pe_int (fun _ _ => rfl))) pa_nil)))), ?_⟩), F.kp, F.bindsN (fun _ _ _ _ _ _ us hl => match us, hl with | [_], _ => rfl)⟩
  rintro ds d ⟨r, hw, rfl, rfl⟩ D σ A kr kn
  have A : At H [] H σ [.dat (rowD r)] := A
  refine st_ret A (ev_call (ds := [.int (Builtin.bitOr (r.x : Int) (r.z : Int))]) (ea_cons (Ev.w (by walk_at "ev")) ea_nil) ⟨r.x ||| r.z, lt9 (or_lt hw.x hw.z), by rw [nb_or], rfl⟩) kr
def R_lsigns (ds : List Dat) (d : Dat) : Prop := ∃ (rs : List Row) (e : Row), (∀ r ∈ rs, r.wf 9) ∧ e.wf 9 ∧ rs.length ≤ 60 ∧ ds = [.lst (rs.map rowD), rowD e] ∧ d = .lst ((sigs rs e).map Dat.int)
theorem sc_law_signs : FnScope ["_law_rows", "_law_wrong_here", "_law_row_here"] ["_law_rows", "_law_wrong_here"] (defScope s_law_signs) := ⟨rfl, rfl, rfl, by decide +kernel, rfl, by decide +kernel, by decide +kernel⟩
theorem c_law_signs (T : Wd K mg) : Cal P w K mg base "_law_signs" 3 ["_law_rows", "_law_wrong_here"] (spF R_lsigns) := by
  obtain ⟨fd, F⟩ := F_law_signs T
  have C_law_beside := c_law_beside (P := P) (w := w) (base := base) T
  refine ⟨_, fd, G_law_signs T, fn_pure F sc_law_signs (fun ds d ⟨_, _, _, _, _, e, _⟩ => by rw [e]; rfl) (by decide) (fun cdv A outer s H hr => ⟨_, (pss_one (ps_ret (pe_lc (own := [("_law_row_here", 2)]) (g := gName 2) rfl sc_law_signs.nd (pi_list (pv 0)) (blkOk_by (own := [("_law_row_here", 2)]) (N := ["_law_rows", "_law_wrong_here", "_law_row_here"]) (sc := defScope s_law_signs) (by decide +kernel)) (fun _ _ _ _ _ => pg_name (i := 2) sc_law_signs.nd rfl (Or.inl rfl)) (fun _ _ _ _ _ => pts_nil) (fun _ _ _ _ _ => (pe_op op_sub pe_int (pe_callTy call_int1 rfl (T_int T) (by decide +kernel) (pa_cons (pe_f C_law_beside (hr.mono (by decide)) rfl (pa_cons (pv 2) (pa_cons (pv 1) pa_nil))) pa_nil))))))), ?_⟩), F.kp, F.bindsN (fun _ _ _ _ _ _ us hl => match us, hl with | [_, _], _ => rfl)⟩
  rintro ds d ⟨rs, e, hw, he, hl, rfl, rfl⟩ D σ A kr kn
  have A : At H [] H σ [.dat (.lst (rs.map rowD)), .dat (rowD e), .no] := A
  refine st_ret A ?_ kr
  unfold sigs
  rw [List.map_map]
  refine ev_lc1 rs rowD _ (sr_list (ew_var rfl)) (by omega) (fun r h => ?_) (fun _ _ => rfl)
  refine Ev.is (ev_I0 ev_int.w (Ev.w (ev_cb (ea_cons (Ev.w (ev_call (ea_cons (ew_var rfl) (ea_cons (ew_var rfl) ea_nil)) ⟨r, e, hw r h, he, rfl, rfl⟩)) ea_nil) rc_intB))) ?_
  show Dat.int (1 - (if (!ac r e) = true then 1 else 0)) = Dat.int (b2i (ac e r))
  rw [ac_comm]
  cases ac e r <;> rfl

end
end K92
end
section
set_option maxHeartbeats 4000000

namespace K92
open PySem PySem.Spec PyProof.Rows L2
section
variable {P : Program} {w : World} {K : PySem.W.Frag} {mg : Str → Option Value} {base : Heap}
/-! ### the law's own: deeds on rows -/
theorem ev_bitV {Δ : Vw} {te tk : TE} {a k : Nat} (h : EvW te Δ (.int (a : Nat))) (hk : EvW tk Δ (.int (k : Nat))) : Ev (tOp (rI0 fun i j => .int (Builtin.bitAnd i j)) (tOp (rI (fun _ j => 0 ≤ j) fun i j => .int (i / 2 ^ j.toNat)) te tk) (tC (.int 1))) Δ (.int (b2i (a.testBit k))) :=
  Ev.is (ev_I0 (Ev.w (ev_I h hk (Int.natCast_nonneg k))) ev_int.w) (by rw [nb_bit])
theorem ev_neg {Δ : Vw} {i : Int} : Ev (tUn (rU fun i => .int (-i)) (tC (.int i))) Δ (.int (-i)) := ev_un ev_int.w fun H x hx Q k => ⟨i, hx, k _ H (Same.refl H) rfl⟩
def nm : Dd → Str
  | .ov _ => "over"
  | .qu _ => "quarter"
  | .ba _ => "back"
  | .bo _ => "both"
  | .wh _ _ => "where"
  | .sw _ _ => "swap"
def lw : Dd → Nat
  | .ov k => k
  | .qu k => k
  | .ba k => k
  | .bo k => k
  | .wh _ k => k
  | .sw _ k => k
theorem words_last (e : Dd) : ∃ ds, wordsD e = .tup ds ∧ atI ds (-1) = some (.int (lw e : Nat)) ∧ atI ds 0 = some (.str (nm e)) := by
  cases e <;> exact ⟨_, rfl, rfl, rfl⟩
def R_on (ds : List Dat) (d : Dat) : Prop := ∃ (e : Dd) (r : Row), e.ok 9 ∧ r.wf 9 ∧ ds = [wordsD e, rowD r] ∧ d = rowD (act e r)
theorem sc_law_on : FnScope ["_law_words", "_law_row_here", "_law_minus", "_law_xs", "_law_zs", "_law_j", "_law_x", "_law_z", "_law_k", "_law_a", "_law_b"] ["_law_words", "_law_row_here"] (defScope s_law_on) := ⟨rfl, rfl, rfl, by decide +kernel, rfl, by decide +kernel, by decide +kernel⟩
theorem c_law_on (T : Wd K mg) : Cal P w K mg base "_law_on" 1 ["_law_words", "_law_row_here"] (spF R_on) := by
  obtain ⟨fd, F⟩ := F_law_on T
  refine ⟨_, fd, G_law_on T, fn_pure F sc_law_on (fun ds d ⟨_, _, _, _, e, _⟩ => by rw [e]; rfl) (by decide) (fun cdv A outer s H hr => ⟨_, (pss_cons (ps_asg (pv 1) (pg_tup rfl (pgs_cons (pg_name (i := 2) sc_law_on.nd rfl (Or.inl rfl)) (pgs_cons (pg_name (i := 3) sc_law_on.nd rfl (Or.inl rfl)) (pgs_cons (pg_name (i := 4) sc_law_on.nd rfl (Or.inl rfl)) pgs_nil)))))
      (pss_cons (ps_set (i := 5) sc_law_on.nd rfl (Or.inl rfl) (pe_ix ix_tup (pv 0) (pe_un un_neg pe_int) (fun _ _ => rfl)))
      (pss_cons (ps_set (i := 6) sc_law_on.nd rfl (Or.inl rfl) (pe_op op_and (pe_op op_shr (pv 3) (pv 5)) pe_int))
      (pss_cons (ps_set (i := 7) sc_law_on.nd rfl (Or.inl rfl) (pe_op op_and (pe_op op_shr (pv 4) (pv 5)) pe_int))
      (pss_cons (ps_if (pt_cmpR op_eq (pe_ix ix_tup (pv 0) pe_int (fun _ _ => rfl)) pe_str (nomark _)) (pss_one (ps_ret (pe_tup (pa_cons (pe_op op_xor (pv 2) (pv 7)) (pa_cons (pv 3) (pa_cons (pv 4) pa_nil)))))) pss_nil)
      (pss_cons (ps_if (pt_cmpR op_eq (pe_ix ix_tup (pv 0) pe_int (fun _ _ => rfl)) pe_str (nomark _)) (pss_one (ps_ret (pe_tup (pa_cons (pe_op op_xor (pv 2) (pe_op op_and (pv 6) (pv 7))) (pa_cons (pv 3) (pa_cons (pe_op op_xor (pv 4) (pe_op op_shl (pv 6) (pv 5))) pa_nil)))))) pss_nil)
      (pss_cons (ps_if (pt_cmpR op_eq (pe_ix ix_tup (pv 0) pe_int (fun _ _ => rfl)) pe_str (nomark _)) (pss_one (ps_ret (pe_tup (pa_cons (pe_op op_xor (pv 2) (pe_op op_and (pv 6) (pe_op op_sub pe_int (pv 7)))) (pa_cons (pv 3) (pa_cons (pe_op op_xor (pv 4) (pe_op op_shl (pv 6) (pv 5))) pa_nil)))))) pss_nil)
      (pss_cons (ps_if (pt_cmpR op_eq (pe_ix ix_tup (pv 0) pe_int (fun _ _ => rfl)) pe_str (nomark _)) (pss_one (ps_ret (pe_tup (pa_cons (pe_op op_xor (pv 2) (pe_op op_and (pv 6) (pv 7))) (pa_cons (pe_op op_xor (pv 3) (pe_op op_shl (pe_op op_xor (pv 6) (pv 7)) (pv 5))) (pa_cons (pe_op op_xor (pv 4) (pe_op op_shl (pe_op op_xor (pv 6) (pv 7)) (pv 5))) pa_nil)))))) pss_nil)
      (pss_cons (ps_set (i := 8) sc_law_on.nd rfl (Or.inl rfl) (pe_ix ix_tup (pv 0) pe_int (fun _ _ => rfl)))
      (pss_cons (ps_set (i := 9) sc_law_on.nd rfl (Or.inl rfl) (pe_op op_and (pe_op op_shr (pv 3) (pv 8)) pe_int))
      (pss_cons (ps_set (i := 10) sc_law_on.nd rfl (Or.inl rfl) (pe_op op_and (pe_op op_shr (pv 4) (pv 8)) pe_int))
      (pss_cons (ps_if (pt_cmpR op_eq (pe_ix ix_tup (pv 0) pe_int (fun _ _ => rfl)) pe_str (nomark _)) (pss_one (ps_ret (pe_tup (pa_cons (pe_op op_xor (pv 2) (pe_op op_and (pe_op op_and (pv 9) (pv 7)) (pe_op op_xor (pe_op op_xor pe_int (pv 6)) (pv 10)))) (pa_cons (pe_op op_xor (pv 3) (pe_op op_shl (pv 9) (pv 5))) (pa_cons (pe_op op_xor (pv 4) (pe_op op_shl (pv 7) (pv 8))) pa_nil)))))) pss_nil)
      (pss_cons (ps_set (i := 3) sc_law_on.nd rfl (Or.inl rfl) (pe_op op_xor (pe_op op_xor (pv 3) (pe_op op_shl (pe_op op_xor (pv 6) (pv 9)) (pv 5))) (pe_op op_shl (pe_op op_xor (pv 6) (pv 9)) (pv 8))))
      (pss_one (ps_ret (pe_tup (pa_cons (pv 2) (pa_cons (pv 3) (pa_cons (pe_op op_xor (pe_op op_xor (pv 4) (pe_op op_shl (pe_op op_xor (pv 7) (pv 10)) (pv 5))) (pe_op op_shl (pe_op op_xor (pv 7) (pv 10)) (pv 8))) pa_nil))))))))))))))))))), ?_⟩), F.kp, F.bindsN (fun _ _ _ _ _ _ us hl => match us, hl with | [_, _], _ => rfl)⟩
  rintro ds d ⟨e, r, ho, hw, rfl, rfl⟩ D σ A kr kn
  have A : At H [] H σ [.dat (wordsD e), .dat (rowD r), .no, .no, .no, .no, .no, .no, .no, .no, .no] := A
  obtain ⟨ws, ew, el, e0⟩ := words_last e
  have l9 : lw e < 9 := by cases e <;> first | exact ho | exact ho.2.1
  have tw : ∀ (x : Str) (Δ : Vw), Δ[0]? = some (some (wordsD e)) → EvT (tTest (tOp rEq (tOp (rIxT K) (tVar 0) (tC (.int 0))) (tC (.str x)))) Δ (decide (nm e = x)) := fun x Δ h => et_test (Ev.w (ev_eqS (Ev.w (ev_ixT (ds := ws) (by rw [← ew]; exact ew_var h) ev_int.w e0 rfl)) ev_str.w))
  refine q_tup3 A (ep_var rfl) fun σ H1 A => ?_
  refine q_asg A (d := .int (lw e : Nat)) (Ev.p (ev_ixT (ds := ws) (by rw [← ew]; exact ew_var rfl) (Ev.w ev_neg) el rfl)) fun σ H1 A => ?_
  refine q_asg A (d := .int (b2i (r.x.testBit (lw e)))) (Ev.p (ev_bitV (ew_var rfl) (ew_var rfl))) fun σ H1 A => ?_
  refine q_asg A (d := .int (b2i (r.z.testBit (lw e)))) (Ev.p (ev_bitV (ew_var rfl) (ew_var rfl))) fun σ H1 A => ?_
  have A : At H [] H1 σ [.dat (wordsD e), .dat (rowD r), .dat (.int (b2i r.m)), .dat (.int r.x), .dat (.int r.z), .dat (.int (lw e : Nat)), .dat (.int (b2i (r.x.testBit (lw e)))), .dat (.int (b2i (r.z.testBit (lw e)))), .no, .no, .no] := A
  cases e with
  | ov k =>
    have en : nm (.ov k) = "over" := rfl
    refine q_ifR A (b := true) (EvT.is (tw "over" _ rfl) (by rw [en]; decide)) (fun _ H2 A => ?_) (fun z => by cases z)
    exact st_ret A (Ev.is (by walk_at "ev") (by rw [nb_bxor]; rfl)) kr
  | qu k =>
    have en : nm (.qu k) = "quarter" := rfl
    refine q_skip A (EvT.is (tw "over" _ rfl) (by rw [en]; decide)) fun H2 A => ?_
    refine q_ifR A (b := true) (EvT.is (tw "quarter" _ rfl) (by rw [en]; decide)) (fun _ H2 A => ?_) (fun z => by cases z)
    exact st_ret A (Ev.is (by walk_at "ev"; exact cpow_b (by omega)) (by rw [nb_band, nb_bxor, nb_put, nb_xor]; rfl)) kr
  | ba k =>
    have en : nm (.ba k) = "back" := rfl
    refine q_skip A (EvT.is (tw "over" _ rfl) (by rw [en]; decide)) fun H2 A => ?_
    refine q_skip A (EvT.is (tw "quarter" _ rfl) (by rw [en]; decide)) fun H2 A => ?_
    refine q_ifR A (b := true) (EvT.is (tw "back" _ rfl) (by rw [en]; decide)) (fun _ H2 A => ?_) (fun z => by cases z)
    have s1 : ∀ p : Bool, (1 : Int) - b2i p = b2i (!p) := fun p => by cases p <;> rfl
    exact st_ret A (Ev.is (by walk_at "ev"; exact cpow_b (by omega)) (by rw [s1, nb_band, nb_bxor, nb_put, nb_xor]; rfl)) kr
  | bo k =>
    have en : nm (.bo k) = "both" := rfl
    refine q_skip A (EvT.is (tw "over" _ rfl) (by rw [en]; decide)) fun H2 A => ?_
    refine q_skip A (EvT.is (tw "quarter" _ rfl) (by rw [en]; decide)) fun H2 A => ?_
    refine q_skip A (EvT.is (tw "back" _ rfl) (by rw [en]; decide)) fun H2 A => ?_
    refine q_ifR A (b := true) (EvT.is (tw "both" _ rfl) (by rw [en]; decide)) (fun _ H2 A => ?_) (fun z => by cases z)
    have c1 : CPow (Builtin.bitXor (b2i (r.x.testBit k)) (b2i (r.z.testBit k))) (k : Int) := by rw [nb_bxor]; exact cpow_b (by have : k < 9 := l9; omega)
    exact st_ret A (Ev.is (by walk_at "ev"; all_goals exact c1) (by rw [nb_band, nb_bxor, nb_bxor, nb_put, nb_xor, nb_xor]; rfl)) kr
  | wh j k =>
    have en : nm (.wh j k) = "where" := rfl
    refine q_skip A (EvT.is (tw "over" _ rfl) (by rw [en]; decide)) fun H2 A => ?_
    refine q_skip A (EvT.is (tw "quarter" _ rfl) (by rw [en]; decide)) fun H2 A => ?_
    refine q_skip A (EvT.is (tw "back" _ rfl) (by rw [en]; decide)) fun H2 A => ?_
    refine q_skip A (EvT.is (tw "both" _ rfl) (by rw [en]; decide)) fun H2 A => ?_
    have hj : j < 9 := ho.1
    have hk : k < 9 := ho.2.1
    refine q_asg A (d := .int (j : Nat)) (Ev.p (by walk_at "ev")) fun σ H3 A => ?_
    refine q_asg A (d := .int (b2i (r.x.testBit j))) (Ev.p (ev_bitV (ew_var rfl) (ew_var rfl))) fun σ H3 A => ?_
    refine q_asg A (d := .int (b2i (r.z.testBit j))) (Ev.p (ev_bitV (ew_var rfl) (ew_var rfl))) fun σ H3 A => ?_
    refine q_ifR A (b := true) (EvT.is (tw "where" _ rfl) (by rw [en]; decide)) (fun _ H2 A => ?_) (fun z => by cases z)
    refine st_ret A (Ev.is (by walk_at "ev"; all_goals exact cpow_b (by omega)) (by
      rw [nb_band, nb_1x, nb_bxor, nb_band, nb_bxor, nb_put, nb_put, nb_xor, nb_xor]
      show Dat.tup [.int (b2i (r.m ^^ (r.x.testBit j && r.z.testBit k && (!r.x.testBit k ^^ r.z.testBit j)))), .int ((r.x ^^^ put k (r.x.testBit j) : Nat)), .int ((r.z ^^^ put j (r.z.testBit k) : Nat))] = Dat.tup [.int (b2i (r.m ^^ ((r.x.testBit j && r.z.testBit k) && (r.x.testBit k == r.z.testBit j)))), .int ((r.x ^^^ put k (r.x.testBit j) : Nat)), .int ((r.z ^^^ put j (r.z.testBit k) : Nat))]
      have : (!r.x.testBit k ^^ r.z.testBit j) = (r.x.testBit k == r.z.testBit j) := by cases r.x.testBit k <;> cases r.z.testBit j <;> rfl
      rw [this])) kr
  | sw j k =>
    have en : nm (.sw j k) = "swap" := rfl
    refine q_skip A (EvT.is (tw "over" _ rfl) (by rw [en]; decide)) fun H2 A => ?_
    refine q_skip A (EvT.is (tw "quarter" _ rfl) (by rw [en]; decide)) fun H2 A => ?_
    refine q_skip A (EvT.is (tw "back" _ rfl) (by rw [en]; decide)) fun H2 A => ?_
    refine q_skip A (EvT.is (tw "both" _ rfl) (by rw [en]; decide)) fun H2 A => ?_
    have hj : j < 9 := ho.1
    have hk : k < 9 := ho.2.1
    refine q_asg A (d := .int (j : Nat)) (Ev.p (by walk_at "ev")) fun σ H3 A => ?_
    refine q_asg A (d := .int (b2i (r.x.testBit j))) (Ev.p (ev_bitV (ew_var rfl) (ew_var rfl))) fun σ H3 A => ?_
    refine q_asg A (d := .int (b2i (r.z.testBit j))) (Ev.p (ev_bitV (ew_var rfl) (ew_var rfl))) fun σ H3 A => ?_
    refine q_skip A (EvT.is (tw "where" _ rfl) (by rw [en]; decide)) fun H2 A => ?_
    have xc : ∀ a b c d : Bool, CPow (Builtin.bitXor (b2i a) (b2i b)) (k : Int) := fun a b _ _ => by rw [nb_bxor]; exact cpow_b (by omega)
    have xc2 : ∀ a b c d : Bool, CPow (Builtin.bitXor (b2i a) (b2i b)) (j : Int) := fun a b _ _ => by rw [nb_bxor]; exact cpow_b (by omega)
    have ex : ∀ (n : Nat) (p q : Bool), (n ^^^ put k (p ^^ q)) ^^^ put j (p ^^ q) = (n ^^^ put j (q ^^ p)) ^^^ put k (q ^^ p) := fun n p q => by
      rw [Bool.xor_comm p q, Nat.xor_assoc, Nat.xor_comm (put k _), ← Nat.xor_assoc]
    refine q_asg A (d := .int (((r.x ^^^ put j (r.x.testBit j ^^ r.x.testBit k)) ^^^ put k (r.x.testBit j ^^ r.x.testBit k) : Nat))) (Ev.p (Ev.is (by walk_at "ev"; all_goals first | exact xc _ _ true true | exact xc2 _ _ true true) (by rw [nb_bxor, nb_put, nb_put, nb_xor, nb_xor]; exact congrArg (fun n : Nat => Dat.int (n : Nat)) (ex _ _ _)))) fun σ H4 A => ?_
    refine st_ret A (Ev.is (by walk_at "ev"; all_goals first | exact xc _ _ true true | exact xc2 _ _ true true) (by rw [nb_bxor, nb_put, nb_put, nb_xor, nb_xor]; exact congrArg (fun n : Nat => Dat.tup [.int (b2i r.m), .int (((r.x ^^^ put j (r.x.testBit j ^^ r.x.testBit k)) ^^^ put k (r.x.testBit j ^^ r.x.testBit k) : Nat)), .int (n : Nat)]) (ex _ _ _))) kr

end
end K92
end
section
set_option maxHeartbeats 4000000

namespace K92
open PySem PySem.Spec PyProof.Rows L2
section
variable {P : Program} {w : World} {K : PySem.W.Frag} {mg : Str → Option Value} {base : Heap}
/-! ### the law's own: works on rows, what is a row -/
def R_lbeh (ds : List Dat) (d : Dat) : Prop := ∃ (ws : List Dd) (r : Row), (∀ e ∈ ws, e.ok 9) ∧ r.wf 9 ∧ ds = [.lst (ws.map wordsD), rowD r] ∧ d = rowD (actW ws r)
theorem sc_law_behind : FnScope ["_law_work", "_law_row_here", "_law_words"] ["_law_work", "_law_row_here"] (defScope s_law_behind) := ⟨rfl, rfl, rfl, by decide +kernel, rfl, by decide +kernel, by decide +kernel⟩
theorem c_law_behind (T : Wd K mg) : Cal P w K mg base "_law_behind" 2 ["_law_work", "_law_row_here"] (spF R_lbeh) := by
  obtain ⟨fd, F⟩ := F_law_behind T
  have C_law_on := c_law_on (P := P) (w := w) (base := base) T
  refine ⟨_, fd, G_law_behind T, fn_pure F sc_law_behind (fun ds d ⟨_, _, _, _, e, _⟩ => by rw [e]; rfl) (by decide) (fun cdv A outer s H hr => ⟨_, (pss_cons (ps_for PassesOwn.never rfl (pi_list (pv 0)) (pg_name (i := 2) sc_law_behind.nd rfl (Or.inl rfl))
        (pss_one (ps_set (i := 1) sc_law_behind.nd rfl (Or.inl rfl) (pe_f C_law_on (hr.mono (by decide)) rfl (pa_cons (pv 2) (pa_cons (pv 1) pa_nil))))))
      (pss_one (ps_ret (pv 1)))), ?_⟩), F.kp, F.bindsN (fun _ _ _ _ _ _ us hl => match us, hl with | [_, _], _ => rfl)⟩
  rintro ds d ⟨ws, r, ho, hw, rfl, rfl⟩ D σ A kr kn
  have A : At H [] H σ [.dat (.lst (ws.map wordsD)), .dat (rowD r), .no] := A
  refine q_forN (ds := ws.map wordsD) (fun i Γ => ∃ e, Γ = [.dat (.lst (ws.map wordsD)), .dat (rowD (actW (ws.take i) r)), e]) A (sp_list (ep_var rfl)) (nl_work _) ⟨_, rfl⟩ ?_ ?_
  · rintro i d Γ gh σ H2 hd ⟨e, rfl⟩ A
    obtain ⟨x, hx, rfl⟩ := map_at hd
    have hxn := ho x (List.mem_of_getElem? hx)
    have A : At _ gh H2 σ [.dat (.lst (ws.map wordsD)), .dat (rowD (actW (ws.take i) r)), .dat (wordsD x)] := A
    refine st_asg A (d := rowD (act x (actW (ws.take i) r))) (Ev.p (ev_call (ea_cons (ew_var rfl) (ea_cons (ew_var rfl) ea_nil)) ⟨x, _, hxn, wf_actW (fun y hy => ho y (List.mem_of_mem_take hy)) hw, rfl, rfl⟩)) fun σ H3 A => ⟨_, ⟨.dat (wordsD x), ?_⟩, A⟩
    rw [actW_take hx]
    rfl
  · rintro Γ σ H2 ⟨e, rfl⟩ A
    rw [List.length_map, List.take_of_length_le (Nat.le_refl _)] at A
    exact st_ret A (by walk_at "ev") kr
theorem sc_law_whole : FnScope ["_law_found"] ["_law_found"] (defScope s_law_whole) := ⟨rfl, rfl, rfl, by decide +kernel, rfl, by decide +kernel, by decide +kernel⟩
theorem c_law_whole (T : Wd K mg) : Cal P w K mg base "_law_whole" 1 ["_law_found"] (spF R_is_whole) := by
  obtain ⟨fd, F⟩ := F_law_whole T
  refine ⟨_, fd, G_law_whole T, fn_pure F sc_law_whole (fun ds d ⟨r, e, _⟩ => by rw [e]; rfl) (by decide) (fun cdv A outer s H hr => ⟨_, (pss_one (ps_ret (pe_and (pe_callB call_isi rfl (T_isinstance T) (by decide +kernel) (pa_cons (pv 0) (pa_cons (pe_bltn (v := .ty "int") rfl (T_int T) (by decide +kernel) rfl) pa_nil))) (pe_one (pe_not (pe_callB call_isi rfl (T_isinstance T) (by decide +kernel) (pa_cons (pv 0) (pa_cons (pe_bltn (v := .ty "bool") rfl (T_bool T) (by decide +kernel) rfl) pa_nil)))))))), ?_⟩), F.kp, F.bindsN (fun _ _ _ _ _ _ us hl => match us, hl with | [_], _ => rfl)⟩
  rintro ds d ⟨i, rfl, rfl⟩ D σ A kr kn
  have A : At H [] H σ [.dat (.int i)] := A
  refine st_ret A (Ev.is (d := .bl (true && (!false))) (by
    walk_at "ev"
    all_goals decide +kernel) rfl) kr
def R_lrow (ds : List Dat) (d : Dat) : Prop := ∃ (r : Row) (n : Nat), n ≤ 9 ∧ r.wf n ∧ ds = [rowD r, .int n] ∧ d = .bl true
theorem sc_law_row : FnScope ["_law_found", "_law_n", "_law_part"] ["_law_found", "_law_n"] (defScope s_law_row) := ⟨rfl, rfl, rfl, by decide +kernel, rfl, by decide +kernel, by decide +kernel⟩
theorem c_law_row (T : Wd K mg) : Cal P w K mg base "_law_row" 2 ["_law_found", "_law_n"] (spF R_lrow) := by
  obtain ⟨fd, F⟩ := F_law_row T
  have C_law_whole := c_law_whole (P := P) (w := w) (base := base) T
  refine ⟨_, fd, G_law_row T, fn_pure F sc_law_row (fun ds d ⟨_, _, _, _, e, _⟩ => by rw [e]; rfl) (by decide) (fun cdv A outer s H hr => ⟨_, (pss_cons (ps_if (PW.pt (pw_or (pt_not (pt_val (pe_callB call_isi rfl (T_isinstance T) (by decide +kernel) (pa_cons (pv 0) (pa_cons (pe_bltn (v := .ty "tuple") rfl (T_tuple T) (by decide +kernel) rfl) pa_nil))))) (pw_or (pt_cmpR op_ne (pe_callB call_len_seq rfl (T_len T) PySem.boot_len (pa_cons (pv 0) pa_nil)) pe_int (nomark _)) (pw_or1 (pt_not (pt_val (pe_callB (cr_all rfl) rfl (T_all T) (by decide +kernel) (pa_cons (pe_lc (own := [("_law_part", 2)]) (g := gName 2) rfl sc_law_row.nd (pi_tup (pv 0)) (blkOk_by (own := [("_law_part", 2)]) (N := ["_law_found", "_law_n", "_law_part"]) (sc := defScope s_law_row) (by decide +kernel)) (fun _ _ _ _ _ => pg_name (i := 2) sc_law_row.nd rfl (Or.inl rfl)) (fun _ _ _ _ _ => pts_nil) (fun _ _ _ _ _ => (pe_f C_law_whole (hr.mono (by decide)) rfl (pa_cons (pv 2) pa_nil)))) pa_nil)))))))) (pss_one (ps_ret pe_bl)) pss_nil)
      (pss_one (ps_ret (pe_and (pe_cmpR op_in_seq (pe_ix ix_tup (pv 0) pe_int (fun _ _ => rfl)) (pe_tup (pa_cons pe_int (pa_cons pe_int pa_nil))) (by rfl)) (pe_and (pe_chain op_le op_lt pe_int (pe_ix ix_tup (pv 0) pe_int (fun _ _ => rfl)) (pe_op op_shl pe_int (pv 1))) (pe_one (pe_chain op_le op_lt pe_int (pe_ix ix_tup (pv 0) pe_int (fun _ _ => rfl)) (pe_op op_shl pe_int (pv 1))))))))), ?_⟩), F.kp, F.bindsN (fun _ _ _ _ _ _ us hl => match us, hl with | [_, _], _ => rfl)⟩
  rintro ds d ⟨r, n, hn, hw, rfl, rfl⟩ D σ A kr kn
  have A : At H [] H σ [.dat (rowD r), .dat (.int n), .no] := A
  refine q_skip A (EvT.is (et_or (a := !true) (et_not (et_test (Ev.w (ev_isi (ew_var rfl) rfl (by show kitB "tuple" "tuple" = some true; decide +kernel))))) fun _ => et_or (a := !decide ((3 : Int) = 3)) (et_test (Ev.w (ev_neI (Ev.w (ev_len (ew_var rfl) rfl)) ev_int.w))) fun _ => et_not (et_test (Ev.w (ev_all (src := [b2i r.m, (r.x : Int), (r.z : Int)]) (f := fun _ => true) (b := true) (Ev.w (ev_lc1 [b2i r.m, (r.x : Int), (r.z : Int)] Dat.int (fun _ => Dat.bl true) (sr_tup (ew_var rfl)) (by show 3 ≤ 100000; decide) (fun i _ => ev_call (ea_cons (ew_var rfl) ea_nil) ⟨i, rfl, rfl⟩) (fun _ _ => rfl))) rfl)))) rfl) fun H1 A => ?_
  have cp : CPow 1 (n : Int) := ⟨Int.natCast_nonneg n, by omega, by decide⟩
  have ch : ∀ (a : Nat) (j : Int), a < 2 ^ n → atI [Dat.int (b2i r.m), Dat.int (r.x : Nat), Dat.int (r.z : Nat)] j = some (Dat.int (a : Nat)) → Ev (tChain (rI0 fun i j => .bl (decide (i ≤ j))) (rI0 fun i j => .bl (decide (i < j))) (tC (.int 0)) (tOp (rIxT K) (tVar 0) (tC (.int j))) (tOp (rI CPow fun i j => .int (i * 2 ^ j.toNat)) (tC (.int 1)) (tVar 1))) [some (rowD r), some (.int n), none] (.bl true) := fun a j ha hj => by
    refine Ev.is (ev_chain (f := fun i j => decide (i ≤ j)) (g := fun i j => decide (i < j)) ev_int.w (Ev.w (ev_ixT (ew_var rfl) ev_int.w hj rfl)) fun _ => Ev.w (ev_I ev_int.w (ew_var rfl) cp)) ?_
    rw [nat_below ha]
  refine st_ret A (Ev.is (d := .bl (true && (true && true))) (ev_andV (Ev.w (Ev.is (ev_inT (us := [.int 0, .int 1]) (u := .int (b2i r.m)) (Ev.w (ev_ixT (ew_var rfl) ev_int.w (atI_nat (j := 0) rfl) rfl)) (Ev.w (by show Ev _ _ (.tup [.int 0, .int 1]); walk_at "ev")) rfl rfl) ?_)) fun _ => Ev.w (ev_andV (Ev.w (ch r.x 1 hw.x rfl)) fun _ => Ev.w (ch r.z 2 hw.z rfl))) rfl) kr
  cases r.m <;> rfl

end
end K92
end
section
set_option maxHeartbeats 4000000

namespace K92
open PySem PySem.Spec PyProof.Rows L2
section
variable {P : Program} {w : World} {K : PySem.W.Frag} {mg : Str → Option Value} {base : Heap}
/-! ### the law's own: the script's cells, what is drawn -/
def R_cell (K : PySem.W.Frag) (ds : List Dat) (d : Dat) : Prop := ∃ (ns : List Int) (k : Nat), ds = [.sq K ns, .int k] ∧ d = .int (ns.getD k 0)
theorem sc_law_cell_at : FnScope ["_law_script", "_law_k"] ["_law_script", "_law_k"] (defScope s_law_cell_at) := ⟨rfl, rfl, rfl, by decide +kernel, rfl, by decide +kernel, by decide +kernel⟩
theorem c_law_cell_at (T : Wd K mg) : Cal P w K mg base "_law_cell_at" 1 ["_law_script", "_law_k"] (spF (R_cell K)) := by
  obtain ⟨fd, F⟩ := F_law_cell_at T
  refine ⟨_, fd, G_law_cell_at T, fn_pure F sc_law_cell_at (fun ds d ⟨_, _, e, _⟩ => by rw [e]; rfl) (by decide) (fun cdv A outer s H hr => ⟨_, (pss_cons (ps_if (pt_cmpR op_lt (pv 1) (pe_callB call_len_seq rfl (T_len T) PySem.boot_len (pa_cons (pv 0) pa_nil)) (nomark _)) (pss_one (ps_ret (pe_ix ix_list (pv 0) (pv 1) (fun _ _ => rfl)))) pss_nil)
      (pss_one (ps_ret pe_int))), ?_⟩), F.kp, F.bindsN (fun _ _ _ _ _ _ us hl => match us, hl with | [_, _], _ => rfl)⟩
  rintro ds d ⟨ns, k, rfl, rfl⟩ D σ A kr kn
  have A : At H [] H σ [.dat (.sq K ns), .dat (.int k)] := A
  refine q_ifR A (b := decide ((k : Int) < (ns.length : Nat))) (et_test (Ev.w (ev_B0 (f := fun i j => decide (i < j)) (ew_var rfl) (Ev.w (ev_lenS (ew_var rfl)))))) (fun hb H1 A => ?_) (fun hb H1 A => ?_)
  · have hk : k < ns.length := by have := of_decide_eq_true hb; omega
    have e : ns.getD k 0 = ns[k] := by rw [List.getD_eq_getElem?_getD, List.getElem?_eq_getElem hk]; rfl
    rw [e] at kr
    exact st_ret A (ev_ixS (ew_var rfl) (ew_var rfl) (atI_nat (j := k) (List.getElem?_eq_getElem hk))) kr
  · have hk : ns.length ≤ k := by have := of_decide_eq_false hb; omega
    have e : ns.getD k 0 = 0 := by rw [List.getD_eq_getElem?_getD, List.getElem?_eq_none hk]; rfl
    rw [e] at kr
    exact st_ret A ev_int kr
theorem cdw {j : Int} (h0 : 0 < j) (h : j.natAbs < 2 ^ 9000) : CDivW 0 j := wide_div h0 h (by decide) (by decide)
theorem cut_drop {ds : List Dat} {i : Nat} : cutD ds (some (i : Int)) none = ds.drop i := by
  unfold cutD
  rw [HT.sIx_nat, HT.sIx_none]
  by_cases h : i ≤ ds.length
  · rw [Nat.min_eq_left h]
    exact List.take_of_length_le (by rw [List.length_drop]; exact Nat.le_refl _)
  · rw [Nat.min_eq_right (by omega), List.drop_of_length_le (Nat.le_refl _), List.drop_of_length_le (by omega), List.take_nil]
def R_strm (ds : List Dat) (d : Dat) : Prop := ∃ (c : Int) (m : Nat), m ≤ 60 ∧ ds = [.int c, .int m] ∧ d = .lst ((strm c m).map Dat.int)
theorem ev_tens {Δ : Vw} : Ev (tOp (rI CPow fun i j => .int (i ^ j.toNat)) (tC (.int 10)) (tC (.int 40))) Δ (.int (10 ^ 40)) := ev_I (f := fun i j => i ^ j.toNat) ev_int.w ev_int.w ⟨by decide, by decide, by decide⟩
theorem ev_tensO {Δ : Vw} : Ev (tOp (rI0 fun i j => .int (i + j)) (tOp (rI CPow fun i j => .int (i ^ j.toNat)) (tC (.int 10)) (tC (.int 40))) (tC (.int 121))) Δ (.int (10 ^ 40 + 121)) := ev_I0 (f := fun i j => i + j) (Ev.w ev_tens) ev_int.w
theorem sc_law_stream : FnScope ["_law_cell", "_law_many", "_law_found", "_law_rest", "_law_k", "_law_number"] ["_law_cell", "_law_many"] (defScope s_law_stream) := ⟨rfl, rfl, rfl, by decide +kernel, rfl, by decide +kernel, by decide +kernel⟩
theorem c_law_stream (T : Wd K mg) : Cal P w K mg base "_law_stream" 1 ["_law_cell", "_law_many"] (spF R_strm) := by
  obtain ⟨fd, F⟩ := F_law_stream T
  refine ⟨_, fd, G_law_stream T, fn_pure F sc_law_stream (fun ds d ⟨_, _, _, e, _⟩ => by rw [e]; rfl) (by decide) (fun cdv A outer s H hr => ⟨_, (pss_cons (ps_set (i := 2) sc_law_stream.nd rfl (Or.inl rfl) (pe_lst pa_nil))
      (pss_cons (ps_if (pt_cmpR op_eq (pe_op op_mod (pv 0) pe_int) pe_int (nomark _)) (pss_cons (ps_set (i := 3) sc_law_stream.nd rfl (Or.inl rfl) (pe_op op_fdivW (pv 0) pe_int))
      (pss_cons (ps_for PassesOwn.never rfl (pi_range1 rfl (T_range T) (pa_cons (pv 1) pa_nil)) (pg_name (i := 4) sc_law_stream.nd rfl (Or.inl rfl))
        (pss_cons (ps_expr (pe_bm PySem.F.plainAttrs_list PySem.F.slot_list_append PySem.F.type_list_append mt_append (pv 2) (pa_cons (pe_op op_mod (pv 3) (pe_op op_pow pe_int pe_int)) pa_nil)))
      (pss_one (ps_set (i := 3) sc_law_stream.nd rfl (Or.inl rfl) (pe_op op_fdivW (pv 3) (pe_op op_pow pe_int pe_int))))))
      (pss_one (ps_ret (pv 2))))) pss_nil)
      (pss_cons (ps_set (i := 5) sc_law_stream.nd rfl (Or.inl rfl) (pe_op op_add (pe_op op_mod (pv 0) (pe_op op_add (pe_op op_pow pe_int pe_int) pe_int)) pe_int))
      (pss_cons (ps_for PassesOwn.never rfl (pi_range1 rfl (T_range T) (pa_cons (pe_op op_add (pv 1) pe_int) pa_nil)) (pg_name (i := 4) sc_law_stream.nd rfl (Or.inl rfl))
        (pss_cons (ps_set (i := 5) sc_law_stream.nd rfl (Or.inl rfl) (pe_op op_mod (pe_op op_add (pe_op op_add (pe_op op_mulW (pv 5) (pv 5)) (pe_op op_mulW pe_int (pv 5))) (pv 4)) (pe_op op_add (pe_op op_pow pe_int pe_int) pe_int)))
      (pss_one (ps_expr (pe_bm PySem.F.plainAttrs_list PySem.F.slot_list_append PySem.F.type_list_append mt_append (pv 2) (pa_cons (pv 5) pa_nil))))))
      (pss_one (ps_ret (pe_slice sl_list (pv 2) (po_some pe_int) po_none))))))), ?_⟩), F.kp, F.bindsN (fun _ _ _ _ _ _ us hl => match us, hl with | [_, _], _ => rfl)⟩
  rintro ds d ⟨c, m, hm, rfl, rfl⟩ D σ A kr kn
  have A : At H [] H σ [.dat (.int c), .dat (.int m), .no, .no, .no, .no] := A
  refine q_own A (ds := []) (ev_lst es_nil) rfl (by show 2 < 6; decide) fun l σ H1 A => ?_
  have A : At H [] H1 σ [.dat (.int c), .dat (.int m), .own l (.lst []), .no, .no, .no] := A
  have p40 : (0 : Int) < 10 ^ 40 := by decide
  have pO : (0 : Int) < 10 ^ 40 + 121 := by decide
  refine q_ifR A (b := decide (c % 2 = 0)) (et_test (Ev.w (ev_eqI (Ev.w (ev_I (f := fun i j => i % j) (ew_var rfl) ev_int.w (by show (0 : Int) < 2; decide))) ev_int.w))) (fun hb H2 A => ?_) (fun hb H2 A => ?_)
  · have hc : c % 2 = 0 := of_decide_eq_true hb
    have e : strm c m = evs (c / 2) m := by unfold strm; rw [if_pos hc]
    rw [e] at kr
    refine q_asg A (d := .int (c / 2)) (Ev.p (ev_I (C := CDivW) (f := fun i j => i / j) (ew_var rfl) ev_int.w (cdw (by decide) (by decide +kernel)))) fun σ H3 A => ?_
    refine q_forN (ds := (List.range m).map fun i => Dat.int (i : Nat)) (fun i Γ => ∃ e4, Γ = [.dat (.int c), .dat (.int m), .own l (.lst ((evs (c / 2) i).map Dat.int)), .dat (.int (evR (c / 2) i)), e4, .no]) A (srcp_is (sp_rng1 (ea_cons (ew_var rfl) ea_nil) (by omega)) (by rw [Int.toNat_natCast]; exact rng0 m)) (nl_map _ (fun _ => rfl) _) ⟨_, rfl⟩ ?_ ?_
    · rintro i d Γ gh σ H4 hd ⟨e4, rfl⟩ A
      obtain ⟨j, hj, rfl⟩ := map_at hd
      have hi := (List.getElem?_eq_some_iff.mp hj).1
      rw [List.length_range] at hi
      have A : At _ gh H4 σ [.dat (.int c), .dat (.int m), .own l (.lst ((evs (c / 2) i).map Dat.int)), .dat (.int (evR (c / 2) i)), .dat (.int (j : Nat)), .no] := A
      refine q_app A rfl (d := .int (evR (c / 2) i % 10 ^ 40)) (ev_I (C := fun _ j => 0 < j) (f := fun i j => i % j) (ew_var rfl) (Ev.w ev_tens) p40) rfl (by rw [List.length_map, evs_len]; omega) fun H5 A => ?_
      refine st_asg A (d := .int (evR (c / 2) i / 10 ^ 40)) (Ev.p (ev_I (C := CDivW) (f := fun i j => i / j) (ew_var rfl) (Ev.w ev_tens) (cdw p40 (by decide +kernel)))) fun σ H6 A => ⟨_, ⟨.dat (.int (j : Nat)), ?_⟩, A⟩
      rw [evs_succ, List.map_append]
      rfl
    · rintro Γ σ H4 ⟨e4, rfl⟩ A
      rw [List.length_map, List.length_range] at A
      exact st_retO A rfl (nl_ints _) kr
  · have hc : ¬ c % 2 = 0 := of_decide_eq_false hb
    have e : strm c m = (ods (c % (10 ^ 40 + 121) + 48271) (m + 4)).drop 4 := by unfold strm; rw [if_neg hc]
    rw [e] at kr
    have st := od_start c
    refine q_asg A (d := .int (c % (10 ^ 40 + 121) + 48271)) (Ev.p (ev_I0 (f := fun i j => i + j) (Ev.w (ev_I (C := fun _ j => 0 < j) (f := fun i j => i % j) (ew_var rfl) (Ev.w ev_tensO) pO)) ev_int.w)) fun σ H3 A => ?_
    generalize c % (10 ^ 40 + 121) + 48271 = r at *
    refine q_forN (ds := (List.range (m + 4)).map fun i => Dat.int (i : Nat)) (fun i Γ => ∃ e4, Γ = [.dat (.int c), .dat (.int m), .own l (.lst ((ods r i).map Dat.int)), .no, e4, .dat (.int (odN r i))]) A (srcp_is (sp_rng1 (ea_cons (Ev.w (ev_I0 (f := fun i j => i + j) (i := (m : Int)) (j := 4) (ew_var rfl) ev_int.w)) ea_nil) (by omega)) (by rw [show ((m : Int) + 4).toNat = m + 4 by omega]; exact rng0 _)) (nl_map _ (fun _ => rfl) _) ⟨_, rfl⟩ ?_ ?_
    · rintro i d Γ gh σ H4 hd ⟨e4, rfl⟩ A
      obtain ⟨j, hj, rfl⟩ := map_at hd
      have hi := (List.getElem?_eq_some_iff.mp hj).1
      rw [List.length_range] at hi
      rw [List.getElem?_range hi] at hj
      cases hj
      have A : At _ gh H4 σ [.dat (.int c), .dat (.int m), .own l (.lst ((ods r i).map Dat.int)), .no, .dat (.int (i : Nat)), .dat (.int (odN r i))] := A
      obtain ⟨b0, b1⟩ := od_bound r st.1 st.2 i
      have bn : (odN r i).natAbs < 2 ^ 134 := by
        have : (2 : Int) ^ 134 = ((2 ^ 134 : Nat) : Int) := by decide
        rw [this] at b1
        generalize (2 : Nat) ^ 134 = z at *
        omega
      refine q_asg A (d := .int (odN r (i + 1))) (Ev.p (ev_I (C := fun _ j => 0 < j) (f := fun i j => i % j) (Ev.w (ev_I0 (f := fun i j => i + j) (Ev.w (ev_I0 (f := fun i j => i + j) (Ev.w (ev_I (C := CMulW) (f := fun i j => i * j) (ew_var rfl) (ew_var rfl) (wide_mul bn bn (by decide) (by decide) (by decide)))) (Ev.w (ev_I (C := CMulW) (f := fun i j => i * j) ev_int.w (ew_var rfl) (wide_mul (a := 20) (by decide) bn (by decide) (by decide) (by decide)))))) (ew_var rfl))) (Ev.w ev_tensO) pO)) fun σ H5 A => ?_
      refine st_app A rfl (d := .int (odN r (i + 1))) (ev_var rfl rfl) rfl (by rw [List.length_map, ods_len]; omega) fun H6 A => ⟨_, ⟨.dat (.int (i : Nat)), ?_⟩, A⟩
      rw [ods_succ, List.map_append]
      rfl
    · rintro Γ σ H4 ⟨e4, rfl⟩ A
      rw [List.length_map, List.length_range] at A
      refine st_ret A (Ev.is (ev_slL (ds := (ods r (m + 4)).map Dat.int) (lo := some ((4 : Nat) : Int)) (hi := none) (ew_var rfl) (eo_some ev_int.w) eo_none (nl_ints _)) ?_) kr
      rw [cut_drop, List.map_drop]

end
end K92
end
section
set_option maxHeartbeats 4000000

namespace K92
open PySem PySem.Spec PyProof.Rows L2
section
variable {P : Program} {w : World} {K : PySem.W.Frag} {mg : Str → Option Value} {base : Heap}
/-! ### the law's own: deeds drawn, turns -/
theorem strm_one (c : Int) : ∃ X : Nat, strm c 1 = [(X : Int)] := by
  have l := strm_len c 1
  match e : strm c 1, l with
  | [x], _ =>
    obtain ⟨X, hX⟩ := strm_nat (c := c) (m := 1) x (by rw [e]; exact List.mem_cons_self ..)
    exact ⟨X, by rw [hX]⟩
def kndS : List Dat := [.str "over", .str "quarter", .str "back", .str "both", .str "both", .str "where", .str "where", .str "swap"]
theorem et_two {Δ : Vw} {s : Str} (h : Δ[5]? = some (some (.str s))) : EvT (tTest (tOp (rIn K false) (tVar 5) (tTup (tCons (tC (.str "where")) (tCons (tC (.str "swap")) tNil))))) Δ (inV (.str s) [.str "where", .str "swap"]) :=
  et_test (Ev.w (ev_inT (d := .str s) (ds := [.str "where", .str "swap"]) (ew_var h) (Ev.w (ev_tup (es_cons ev_str (es_cons ev_str es_nil)))) rfl rfl))
def R_deed (ds : List Dat) (d : Dat) : Prop := ∃ (c : Int) (n : Nat), 1 ≤ n ∧ n ≤ 9 ∧ ds = [.int c, .int n] ∧ d = wordsD (deedOf c n)
theorem sc_law_deed : FnScope ["_law_cell", "_law_n", "_law_x", "_law_j", "_law_k", "_law_kind"] ["_law_cell", "_law_n"] (defScope s_law_deed) := ⟨rfl, rfl, rfl, by decide +kernel, rfl, by decide +kernel, by decide +kernel⟩
theorem c_law_deed (T : Wd K mg) : Cal P w K mg base "_law_deed" 2 ["_law_cell", "_law_n"] (spF R_deed) := by
  obtain ⟨fd, F⟩ := F_law_deed T
  have C_law_stream := c_law_stream (P := P) (w := w) (base := base) T
  refine ⟨_, fd, G_law_deed T, fn_pure F sc_law_deed (fun ds d ⟨_, _, _, _, e, _⟩ => by rw [e]; rfl) (by decide) (fun cdv A outer s H hr => ⟨_, (pss_cons (ps_set (i := 2) sc_law_deed.nd rfl (Or.inl rfl) (pe_ix ix_list (pe_f C_law_stream (hr.mono (by decide)) rfl (pa_cons (pv 0) (pa_cons pe_int pa_nil))) pe_int (fun _ _ => rfl)))
      (pss_cons (ps_set (i := 3) sc_law_deed.nd rfl (Or.inl rfl) (pe_op op_mod (pe_op op_fdivW (pv 2) pe_int) (pv 1)))
      (pss_cons (ps_set (i := 4) sc_law_deed.nd rfl (Or.inl rfl) (pe_op op_mod (pe_op op_add (pe_op op_add (pv 3) pe_int) (pe_op op_mod (pe_op op_fdivW (pv 2) pe_int) (pe_callB (call_max2 rfl) rfl (T_max T) (by decide +kernel) (pa_cons pe_int (pa_cons (pe_op op_sub (pv 1) pe_int) pa_nil))))) (pv 1)))
      (pss_cons (ps_set (i := 5) sc_law_deed.nd rfl (Or.inl rfl) (pe_ix ix_list (pe_lst (pa_cons pe_str (pa_cons pe_str (pa_cons pe_str (pa_cons pe_str (pa_cons pe_str (pa_cons pe_str (pa_cons pe_str (pa_cons pe_str pa_nil))))))))) (pe_op op_mod (pv 2) pe_int) (fun _ _ => rfl)))
      (pss_cons (ps_if (pt_cmpR op_in_seq (pv 5) (pe_tup (pa_cons pe_str (pa_cons pe_str pa_nil))) (by rfl)) (pss_cons (ps_if (pt_cmpR op_eq (pv 1) pe_int (nomark _)) (pss_one (ps_ret (pe_tup (pa_cons pe_str (pa_cons pe_int pa_nil))))) pss_nil)
      (pss_one (ps_ret (pe_tup (pa_cons (pv 5) (pa_cons (pv 3) (pa_cons (pv 4) pa_nil))))))) pss_nil)
      (pss_one (ps_ret (pe_tup (pa_cons (pv 5) (pa_cons (pv 3) pa_nil)))))))))), ?_⟩), F.kp, F.bindsN (fun _ _ _ _ _ _ us hl => match us, hl with | [_, _], _ => rfl)⟩
  rintro ds d ⟨c, n, h1, h9, rfl, rfl⟩ D σ A kr kn
  have A : At H [] H σ [.dat (.int c), .dat (.int n), .no, .no, .no, .no] := A
  obtain ⟨X, hX⟩ := strm_one c
  have ed : deedOf c n = deedX X n := by unfold deedOf; rw [hX]; rfl
  rw [ed] at kr
  refine q_asg A (d := .int (X : Nat)) (Ev.p (ev_ixL (ds := [.int (X : Nat)]) (Ev.w (Ev.is (ev_call (R := R_strm) (ea_cons (ew_var rfl) (ea_cons ev_int.w ea_nil)) ⟨c, 1, by decide, rfl, rfl⟩) (by rw [hX]; rfl))) ev_int.w (atI_nat (j := 0) rfl) rfl)) fun σ H1 A => ?_
  refine q_asg A (d := .int (dj X n : Nat)) (Ev.p (Ev.is (ev_I (C := fun _ j => 0 < j) (f := fun i j => i % j) (Ev.w (ev_I (C := CDivW) (f := fun i j => i / j) (ew_var rfl) ev_int.w (cdw (by decide) (by decide +kernel)))) (ew_var rfl) (by show (0 : Int) < n; omega)) rfl)) fun σ H1 A => ?_
  have hmax : (if (n : Int) - 1 > 1 then (n : Int) - 1 else 1) = ((max 1 (n - 1) : Nat) : Int) := by split <;> omega
  refine q_asg A (d := .int (dk X n : Nat)) (Ev.p (Ev.is (ev_I (C := fun _ j => 0 < j) (f := fun i j => i % j) (Ev.w (ev_I0 (f := fun i j => i + j) (Ev.w (ev_I0 (f := fun i j => i + j) (ew_var rfl) ev_int.w)) (Ev.w (ev_I (C := fun _ j => 0 < j) (f := fun i j => i % j) (Ev.w (ev_I (C := CDivW) (f := fun i j => i / j) (ew_var rfl) ev_int.w (cdw (by decide) (by decide +kernel)))) (Ev.w (Ev.is (ev_cb (ea_cons ev_int.w (ea_cons (Ev.w (ev_I0 (f := fun i j => i - j) (ew_var rfl) ev_int.w)) ea_nil)) rc_max2) (congrArg Dat.int hmax))) (by show (0 : Int) < ((max 1 (n - 1) : Nat) : Int); omega))))) (ew_var rfl) (by show (0 : Int) < n; omega)) rfl)) fun σ H1 A => ?_
  have hA : ∀ s : Str, kndS[X % 8]? = some (.str s) → (∀ σ H2, At H [] H2 σ [.dat (.int c), .dat (.int n), .dat (.int (X : Nat)), .dat (.int (dj X n : Nat)), .dat (.int (dk X n : Nat)), .dat (.str s)] → tSeq (tIfS (tTest (tOp (rIn K false) (tVar 5) (tTup (tCons (tC (.str "where")) (tCons (tC (.str "swap")) tNil))))) (tSeq (tIfS (tTest (tOp rEq (tVar 1) (tC (.int 1)))) (tRet (tTup (tCons (tC (.str "both")) (tCons (tC (.int 0)) tNil)))) tNext) (tRet (tTup (tCons (tVar 5) (tCons (tVar 3) (tCons (tVar 4) tNil)))))) tNext) (tRet (tTup (tCons (tVar 5) (tCons (tVar 3) tNil)))) D σ H2) → tSeq (tAsg (tOp (rIxL K) (tLst (tCons (tC (.str "over")) (tCons (tC (.str "quarter")) (tCons (tC (.str "back")) (tCons (tC (.str "both")) (tCons (tC (.str "both")) (tCons (tC (.str "where")) (tCons (tC (.str "where")) (tCons (tC (.str "swap")) tNil))))))))) (tOp (rI (fun _ j => 0 < j) fun i j => .int (i % j)) (tVar 2) (tC (.int 8)))) (gName 5)) (tSeq (tIfS (tTest (tOp (rIn K false) (tVar 5) (tTup (tCons (tC (.str "where")) (tCons (tC (.str "swap")) tNil))))) (tSeq (tIfS (tTest (tOp rEq (tVar 1) (tC (.int 1)))) (tRet (tTup (tCons (tC (.str "both")) (tCons (tC (.int 0)) tNil)))) tNext) (tRet (tTup (tCons (tVar 5) (tCons (tVar 3) (tCons (tVar 4) tNil)))))) tNext) (tRet (tTup (tCons (tVar 5) (tCons (tVar 3) tNil))))) D σ H1 := fun s hs k =>
    q_asg A (d := .str s) (Ev.p (ev_ixL (ds := kndS) (i := ((X % 8 : Nat) : Int)) (Ev.w (ev_lst (es_cons ev_str (es_cons ev_str (es_cons ev_str (es_cons ev_str (es_cons ev_str (es_cons ev_str (es_cons ev_str (es_cons ev_str es_nil)))))))))) (Ev.w (Ev.is (ev_I (C := fun _ j => 0 < j) (f := fun i j => i % j) (ew_var rfl) ev_int.w (by show (0 : Int) < 8; decide)) rfl)) (atI_nat hs) rfl)) fun σ H2 A => k σ H2 A
  have one : ∀ (s : Str) (e : Dd), inV (.str s) [.str "where", .str "swap"] = false → wordsD e = .tup [.str s, .int (dj X n : Nat)] → deedX X n = e → kndS[X % 8]? = some (.str s) → _ := fun s e hv hw he hs => hA s hs fun σ H2 A => by
    refine q_skip A (EvT.is (et_two rfl) hv) fun H3 A => ?_
    rw [he, hw] at kr
    exact st_ret A (ev_tup (es_cons (ev_var rfl rfl) (es_cons (ev_var rfl rfl) es_nil)) (Nat.le_of_ble_eq_true rfl)) kr
  have two : ∀ (s : Str) (e : Dd), inV (.str s) [.str "where", .str "swap"] = true → wordsD e = .tup [.str s, .int (dj X n : Nat), .int (dk X n : Nat)] → deedX X n = (if n = 1 then .bo 0 else e) → kndS[X % 8]? = some (.str s) → _ := fun s e hv hw he hs => hA s hs fun σ H2 A => by
    refine q_ifR A (EvT.is (et_two rfl) hv) (fun _ H3 A => ?_) (fun z => by cases z)
    refine q_ifR A (b := decide ((n : Int) = 1)) (et_test (Ev.w (ev_eqI (ew_var rfl) ev_int.w))) (fun hb H4 A => ?_) (fun hb H4 A => ?_)
    · have h : n = 1 := by have := of_decide_eq_true hb; omega
      rw [he, if_pos h] at kr
      exact st_ret A (ev_tup (es_cons ev_str (es_cons ev_int es_nil))) kr
    · have h : ¬ n = 1 := by have := of_decide_eq_false hb; omega
      rw [he, if_neg h, hw] at kr
      exact st_ret A (ev_tup (es_cons (ev_var rfl rfl) (es_cons (ev_var rfl rfl) (es_cons (ev_var rfl rfl) es_nil))) (Nat.le_of_ble_eq_true rfl)) kr
  have h8 : X % 8 = 0 ∨ X % 8 = 1 ∨ X % 8 = 2 ∨ X % 8 = 3 ∨ X % 8 = 4 ∨ X % 8 = 5 ∨ X % 8 = 6 ∨ X % 8 = 7 := by omega
  rcases h8 with h | h | h | h | h | h | h | h
  · exact one "over" (.ov (dj X n)) (by decide +kernel) rfl (by unfold deedX; rw [h]; rfl) (by rw [h]; rfl)
  · exact one "quarter" (.qu (dj X n)) (by decide +kernel) rfl (by unfold deedX; rw [h]; rfl) (by rw [h]; rfl)
  · exact one "back" (.ba (dj X n)) (by decide +kernel) rfl (by unfold deedX; rw [h]; rfl) (by rw [h]; rfl)
  · exact one "both" (.bo (dj X n)) (by decide +kernel) rfl (by unfold deedX; rw [h]; rfl) (by rw [h]; rfl)
  · exact one "both" (.bo (dj X n)) (by decide +kernel) rfl (by unfold deedX; rw [h]; rfl) (by rw [h]; rfl)
  · exact two "where" (.wh (dj X n) (dk X n)) (by decide +kernel) rfl (by unfold deedX; rw [h]; rfl) (by rw [h]; rfl)
  · exact two "where" (.wh (dj X n) (dk X n)) (by decide +kernel) rfl (by unfold deedX; rw [h]; rfl) (by rw [h]; rfl)
  · exact two "swap" (.sw (dj X n) (dk X n)) (by decide +kernel) rfl (by unfold deedX; rw [h]; rfl) (by rw [h]; rfl)
def R_turns (ds : List Dat) (d : Dat) : Prop := ∃ (cs : List Int) (n : Nat), 1 ≤ n ∧ n ≤ 9 ∧ cs.length ≤ 60 ∧ ds = [.lst (cs.map Dat.int), .int n] ∧ d = .lst ((cs.map fun c => turnOf (deedOf c n)).map wordsD)
theorem sc_law_turns : FnScope ["_law_cells", "_law_n", "_law_found", "_law_cell", "_law_words"] ["_law_cells", "_law_n"] (defScope s_law_turns) := ⟨rfl, rfl, rfl, by decide +kernel, rfl, by decide +kernel, by decide +kernel⟩
theorem c_law_turns (T : Wd K mg) : Cal P w K mg base "_law_turns" 3 ["_law_cells", "_law_n"] (spF R_turns) := by
  obtain ⟨fd, F⟩ := F_law_turns T
  have C_law_deed := c_law_deed (P := P) (w := w) (base := base) T
  refine ⟨_, fd, G_law_turns T, fn_pure F sc_law_turns (fun ds d ⟨_, _, _, _, _, e, _⟩ => by rw [e]; rfl) (by decide) (fun cdv A outer s H hr => ⟨_, (pss_cons (ps_set (i := 2) sc_law_turns.nd rfl (Or.inl rfl) (pe_lst pa_nil))
      (pss_cons (ps_for PassesOwn.never rfl (pi_list (pv 0)) (pg_name (i := 3) sc_law_turns.nd rfl (Or.inl rfl))
        (pss_cons (ps_set (i := 4) sc_law_turns.nd rfl (Or.inl rfl) (pe_f C_law_deed (hr.mono (by decide)) rfl (pa_cons (pv 3) (pa_cons (pv 1) pa_nil))))
      (Evl.pss_cut (ps_if (pt_cmpR op_eq (pe_ix ix_tup (pv 4) pe_int (fun _ _ => rfl)) pe_str (nomark _)) (pss_one (ps_set (i := 4) sc_law_turns.nd rfl (Or.inl rfl) (pe_tup (pa_cons pe_str (pa_cons (pe_ix ix_tup (pv 4) pe_int (fun _ _ => rfl)) pa_nil))))) pss_nil)
      (pss_one (ps_expr (pe_bm PySem.F.plainAttrs_list PySem.F.slot_list_append PySem.F.type_list_append mt_append (pv 2) (pa_cons (pv 4) pa_nil)))))))
      (pss_one (ps_ret (pv 2))))), ?_⟩), F.kp, F.bindsN (fun _ _ _ _ _ _ us hl => match us, hl with | [_, _], _ => rfl)⟩
  rintro ds d ⟨cs, n, h1, h9, hl, rfl, rfl⟩ D σ A kr kn
  have A : At H [] H σ [.dat (.lst (cs.map Dat.int)), .dat (.int n), .no, .no, .no] := A
  refine q_own A (ds := []) (ev_lst es_nil) rfl (by show 2 < 5; decide) fun l σ H1 A => ?_
  refine q_forN (ds := cs.map Dat.int) (fun i Γ => ∃ e3 e4, Γ = [.dat (.lst (cs.map Dat.int)), .dat (.int n), .own l (.lst (((cs.take i).map fun c => turnOf (deedOf c n)).map wordsD)), e3, e4]) A (sp_list (ep_var rfl)) (nl_ints _) ⟨_, _, rfl⟩ ?_ ?_
  · rintro i d Γ gh σ H2 hd ⟨e3, e4, rfl⟩ A
    obtain ⟨c, hc, rfl⟩ := map_at hd
    have hi := (List.getElem?_eq_some_iff.mp hc).1
    have A : At _ gh H2 σ [.dat (.lst (cs.map Dat.int)), .dat (.int n), .own l (.lst (((cs.take i).map fun c => turnOf (deedOf c n)).map wordsD)), .dat (.int c), e4] := A
    refine q_asg A (d := wordsD (deedOf c n)) (Ev.p (ev_call (R := R_deed) (ea_cons (ew_var rfl) (ea_cons (ew_var rfl) ea_nil)) ⟨c, n, h1, h9, rfl, rfl⟩)) fun σ H3 A => ?_
    have A : At _ gh H3 σ [.dat (.lst (cs.map Dat.int)), .dat (.int n), .own l (.lst (((cs.take i).map fun c => turnOf (deedOf c n)).map wordsD)), .dat (.int c), .dat (wordsD (deedOf c n))] := A
    refine st_cut (Γ' := [.dat (.lst (cs.map Dat.int)), .dat (.int n), .own l (.lst (((cs.take i).map fun c => turnOf (deedOf c n)).map wordsD)), .dat (.int c), .dat (wordsD (turnOf (deedOf c n)))]) A ?_ fun σ H4 A => ?_
    · obtain ⟨ws, ew, _, e0⟩ := words_last (deedOf c n)
      have tw : EvT (tTest (tOp rEq (tOp (rIxT K) (tVar 4) (tC (.int 0))) (tC (.str "where")))) [some (.lst (cs.map Dat.int)), some (.int n), some (.lst (((cs.take i).map fun c => turnOf (deedOf c n)).map wordsD)), some (.int c), some (wordsD (deedOf c n))] (decide (nm (deedOf c n) = "where")) := et_test (Ev.w (ev_eqS (Ev.w (ev_ixT (ds := ws) (by rw [← ew]; exact ew_var rfl) ev_int.w e0 rfl)) ev_str.w))
      generalize deedOf c n = e at *
      cases e with
      | wh j k =>
        have en : nm (.wh j k) = "where" := rfl
        refine st_ifT A (EvT.is tw (by rw [en]; decide +kernel)) fun H4 A => ?_
        exact st_asg A (d := .tup [.str "quarter", .int (j : Nat)]) (Ev.p (ev_tup (es_cons ev_str (es_cons (ev_ixT (ds := [.str "where", .int (j : Nat), .int (k : Nat)]) (ew_var rfl) ev_int.w (atI_nat (j := 1) rfl) rfl) es_nil)) (Nat.le_of_ble_eq_true rfl))) fun σ H5 A => A
      | ov k =>
        have en : nm (.ov k) = "over" := rfl
        exact st_skip A (EvT.is tw (by rw [en]; decide +kernel)) fun H4 A => A
      | qu k =>
        have en : nm (.qu k) = "quarter" := rfl
        exact st_skip A (EvT.is tw (by rw [en]; decide +kernel)) fun H4 A => A
      | ba k =>
        have en : nm (.ba k) = "back" := rfl
        exact st_skip A (EvT.is tw (by rw [en]; decide +kernel)) fun H4 A => A
      | bo k =>
        have en : nm (.bo k) = "both" := rfl
        exact st_skip A (EvT.is tw (by rw [en]; decide +kernel)) fun H4 A => A
      | sw j k =>
        have en : nm (.sw j k) = "swap" := rfl
        exact st_skip A (EvT.is tw (by rw [en]; decide +kernel)) fun H4 A => A
    · refine st_app A rfl (d := wordsD (turnOf (deedOf c n))) (ev_var rfl (by generalize turnOf (deedOf c n) = e; cases e <;> rfl)) (by generalize turnOf (deedOf c n) = e; cases e <;> rfl) (by rw [List.length_map, List.length_map, List.length_take]; omega) fun H5 A => ⟨_, ⟨.dat (.int c), .dat (wordsD (turnOf (deedOf c n))), ?_⟩, A⟩
      rw [List.take_add_one, hc, List.map_append, List.map_append]
      rfl
  · rintro Γ σ H2 ⟨e3, e4, rfl⟩ A
    rw [List.length_map, List.take_of_length_le (Nat.le_refl _)] at A
    exact st_retO A rfl (nl_work _) kr

end
end K92
end
section
set_option maxHeartbeats 4000000

namespace K92
open PySem PySem.Spec PyProof.Rows L2
section
variable {P : Program} {w : World} {K : PySem.W.Frag} {mg : Str → Option Value} {base : Heap}
/-! ### the law's own: letters, codes known, wrongs drawn -/
theorem xy_is : ("xy" : Str).cps.toList = [120, 121] := by decide +kernel
theorem zy_is : ("zy" : Str).cps.toList = [122, 121] := by decide +kernel
def ltF (s : Str) (i : Nat) : Nat × Nat := (s.cps.toList.zipIdx.take i).foldl letF (0, 0)
theorem ltF_succ {s : Str} {i c : Nat} (h : s.cps[i]? = some c) : ltF s (i + 1) = letF (ltF s i) (c, i) := by
  unfold ltF
  refine fold_take (f := letF) ?_
  rw [List.getElem?_zipIdx]
  have : s.cps.toList[i]? = some c := by simpa using h
  rw [this]
  simp
theorem ltF_all (s : Str) : letR s.cps.toList = ⟨false, (ltF s s.cps.size).1, (ltF s s.cps.size).2⟩ := by
  unfold letR ltF
  rw [List.take_of_length_le (by simp)]
def R_letters (ds : List Dat) (d : Dat) : Prop := ∃ s : Str, s.cps.size ≤ 9 ∧ ds = [.str s] ∧ d = rowD (letR s.cps.toList)
theorem sc_law_letters : FnScope ["_law_text", "_law_xs", "_law_zs", "_law_k", "_law_sign"] ["_law_text"] (defScope s_law_letters) := ⟨rfl, rfl, rfl, by decide +kernel, rfl, by decide +kernel, by decide +kernel⟩
theorem c_law_letters (T : Wd K mg) : Cal P w K mg base "_law_letters" 1 ["_law_text"] (spF R_letters) := by
  obtain ⟨fd, F⟩ := F_law_letters T
  refine ⟨_, fd, G_law_letters T, fn_pure F sc_law_letters (fun ds d ⟨_, _, e, _⟩ => by rw [e]; rfl) (by decide) (fun cdv A outer s H hr => ⟨_, (pss_cons (ps_set (i := 1) sc_law_letters.nd rfl (Or.inl rfl) pe_int)
      (pss_cons (ps_set (i := 2) sc_law_letters.nd rfl (Or.inl rfl) pe_int)
      (pss_cons (ps_for PassesOwn.never rfl (pi_enumS rfl (T_enumerate T) (pa_cons (pv 0) pa_nil)) (pg_tup rfl (pgs_cons (pg_name (i := 3) sc_law_letters.nd rfl (Or.inl rfl)) (pgs_cons (pg_name (i := 4) sc_law_letters.nd rfl (Or.inl rfl)) pgs_nil)))
        (Evl.pss_cut (ps_if (pt_cmpR op_in_sign (pv 4) pe_str (by rfl)) (pss_one (ps_set (i := 1) sc_law_letters.nd rfl (Or.inl rfl) (pe_op op_add (pv 1) (pe_op op_shl pe_int (pv 3))))) pss_nil)
      (pss_one (ps_if (pt_cmpR op_in_sign (pv 4) pe_str (by rfl)) (pss_one (ps_set (i := 2) sc_law_letters.nd rfl (Or.inl rfl) (pe_op op_add (pv 2) (pe_op op_shl pe_int (pv 3))))) pss_nil))))
      (pss_one (ps_ret (pe_tup (pa_cons pe_int (pa_cons (pv 1) (pa_cons (pv 2) pa_nil))))))))), ?_⟩), F.kp, F.bindsN (fun _ _ _ _ _ _ us hl => match us, hl with | [_], _ => rfl)⟩
  rintro ds d ⟨s, hs, rfl, rfl⟩ D σ A kr kn
  have A : At H [] H σ [.dat (.str s), .no, .no, .no, .no] := A
  refine q_asg A (d := .int 0) (Ev.p ev_int) fun σ H1 A => ?_
  refine q_asg A (d := .int 0) (Ev.p ev_int) fun σ H1 A => ?_
  refine q_for2 (ds := enumSD s) (fun i Γ => ∃ e3 e4, Γ = [.dat (.str s), .dat (.int ((ltF s i).1 : Nat)), .dat (.int ((ltF s i).2 : Nat)), e3, e4]) A (sp_enumS (ea_cons (ew_var rfl) ea_nil)) (enumSD_nl s) ⟨_, _, rfl⟩ (fun i d h => by obtain ⟨c, _, e⟩ := enumSD_at h; exact ⟨_, _, e⟩) ?_ ?_
  · rintro i d1 d2 Γ gh σ H2 hd ⟨e3, e4, rfl⟩ A
    obtain ⟨c, hc, e⟩ := enumSD_at hd
    injection e with e
    injection e with e1 e
    injection e with e2 _
    subst e1 e2
    have hi := (Array.getElem?_eq_some_iff.mp hc).1
    have A : At _ gh H2 σ [.dat (.str s), .dat (.int ((ltF s i).1 : Nat)), .dat (.int ((ltF s i).2 : Nat)), .dat (.int (i : Nat)), .dat (.str ⟨#[c]⟩)] := A
    rw [ltF_succ hc]
    generalize ltF s i = z at A ⊢
    obtain ⟨a, b⟩ := z
    have add : ∀ (Δ : Vw) (j : Nat) (v : Nat), Δ[j]? = some (some (.int (v : Nat))) → Δ[3]? = some (some (.int (i : Nat))) → Ev (tOp (rI0 fun i j => .int (i + j)) (tVar j) (tOp (rI CPow fun i j => .int (i * 2 ^ j.toNat)) (tC (.int 1)) (tVar 3))) Δ (.int ((v + 2 ^ i : Nat) : Int)) := fun Δ j v h1 h2 =>
      Ev.is (ev_I0 (f := fun i j => i + j) (ew_var h1) (Ev.w (ev_I (C := CPow) (f := fun i j => i * 2 ^ j.toNat) ev_int.w (ew_var h2) ⟨Int.natCast_nonneg i, by omega, by decide⟩))) (by rw [nb_oneshl]; rfl)
    refine st_cut (Γ' := [.dat (.str s), .dat (.int ((letF (a, b) (c, i)).1 : Nat)), .dat (.int (b : Nat)), .dat (.int (i : Nat)), .dat (.str ⟨#[c]⟩)]) A ?_ fun σ H3 A => ?_
    · refine st_if A (b := decide (c ∈ [120, 121])) (EvT.is (et_test (Ev.w (ev_inS (ew_var rfl) ev_str.w))) (by rw [xy_is])) (fun hb H4 A => ?_) (fun hb H4 A => ?_)
      · have e : (letF (a, b) (c, i)).1 = a + 2 ^ i := by unfold letF; rw [if_pos (of_decide_eq_true hb)]
        rw [e]
        exact st_asg A (d := .int ((a + 2 ^ i : Nat) : Int)) (Ev.p (add _ 1 a rfl rfl)) fun σ H5 A => A
      · have e : (letF (a, b) (c, i)).1 = a := by unfold letF; rw [if_neg (of_decide_eq_false hb)]
        rw [e]
        exact st_next A
    · refine st_if A (b := decide (c ∈ [122, 121])) (EvT.is (et_test (Ev.w (ev_inS (ew_var rfl) ev_str.w))) (by rw [zy_is])) (fun hb H4 A => ?_) (fun hb H4 A => ?_)
      · have e : (letF (a, b) (c, i)).2 = b + 2 ^ i := by unfold letF; rw [if_pos (of_decide_eq_true hb)]
        rw [e]
        exact st_asg A (d := .int ((b + 2 ^ i : Nat) : Int)) (Ev.p (add _ 2 b rfl rfl)) fun σ H5 A => ⟨_, ⟨_, _, rfl⟩, A⟩
      · have e : (letF (a, b) (c, i)).2 = b := by unfold letF; rw [if_neg (of_decide_eq_false hb)]
        rw [e]
        exact st_next ⟨_, ⟨_, _, rfl⟩, A⟩
  · rintro Γ σ H2 ⟨e3, e4, rfl⟩ A
    rw [enumSD_len] at A
    rw [ltF_all] at kr
    exact st_ret A (ev_tup (es_cons ev_int (es_cons (ev_var rfl rfl) (es_cons (ev_var rfl rfl) es_nil))) (Nat.le_of_ble_eq_true rfl)) kr
def knT : Nat → List Str
  | 0 => ["xzzx.", ".xzzx", "x.xzz", "zx.xz"]
  | 1 => ["...xxxx", ".xx..xx", "x.x.x.x", "...zzzz", ".zz..zz", "z.z.z.z"]
  | _ => ["zz.......", ".zz......", "...zz....", "....zz...", "......zz.", ".......zz", "xxxxxx...", "...xxxxxx"]
def knU : Nat → Str
  | 0 => "zzzzz"
  | 1 => "zzzzzzz"
  | _ => "xxxxxxxxx"
theorem kn_is (w : Nat) (h : w < 3) : (knT w).map (fun s => letR s.cps.toList) = knR w ∧ letR (knU w).cps.toList = knL w ∧ (knT w).all (fun s => decide (s.cps.size ≤ 9)) = true ∧ (knU w).cps.size ≤ 9 := by
  match w, h with
  | 0, _ => exact ⟨by decide +kernel, by decide +kernel, by decide +kernel, by decide +kernel⟩
  | 1, _ => exact ⟨by decide +kernel, by decide +kernel, by decide +kernel, by decide +kernel⟩
  | 2, _ => exact ⟨by decide +kernel, by decide +kernel, by decide +kernel, by decide +kernel⟩
def R_known (ds : List Dat) (d : Dat) : Prop := ∃ w : Nat, w < 3 ∧ ds = [.int w] ∧ d = .tup [.int (knN w : Nat), .lst ((knT w).map Dat.str)]
theorem sc_law_known : FnScope ["_law_way"] ["_law_way"] (defScope s_law_known) := ⟨rfl, rfl, rfl, by decide +kernel, rfl, by decide +kernel, by decide +kernel⟩
theorem c_law_known (T : Wd K mg) : Cal P w K mg base "_law_known" 1 ["_law_way"] (spF R_known) := by
  obtain ⟨fd, F⟩ := F_law_known T
  refine ⟨_, fd, G_law_known T, fn_pure F sc_law_known (fun ds d ⟨_, _, e, _⟩ => by rw [e]; rfl) (by decide) (fun cdv A outer s H hr => ⟨_, (pss_cons (ps_if (pt_cmpR op_eq (pv 0) pe_int (nomark _)) (pss_one (ps_ret (pe_tup (pa_cons pe_int (pa_cons (pe_lst (pa_cons pe_str (pa_cons pe_str (pa_cons pe_str (pa_cons pe_str pa_nil))))) pa_nil))))) pss_nil)
      (pss_cons (ps_if (pt_cmpR op_eq (pv 0) pe_int (nomark _)) (pss_one (ps_ret (pe_tup (pa_cons pe_int (pa_cons (pe_lst (pa_cons pe_str (pa_cons pe_str (pa_cons pe_str (pa_cons pe_str (pa_cons pe_str (pa_cons pe_str pa_nil))))))) pa_nil))))) pss_nil)
      (pss_one (ps_ret (pe_tup (pa_cons pe_int (pa_cons (pe_lst (pa_cons pe_str (pa_cons pe_str (pa_cons pe_str (pa_cons pe_str (pa_cons pe_str (pa_cons pe_str (pa_cons pe_str (pa_cons pe_str pa_nil))))))))) pa_nil))))))), ?_⟩), F.kp, F.bindsN (fun _ _ _ _ _ _ us hl => match us, hl with | [_], _ => rfl)⟩
  rintro ds d ⟨w, hw, rfl, rfl⟩ D σ A kr kn
  have A : At H [] H σ [.dat (.int w)] := A
  have ts : ∀ j : Int, EvT (tTest (tOp rEq (tVar 0) (tC (.int j)))) [some (.int (w : Nat))] (decide ((w : Int) = j)) := fun j => et_test (Ev.w (ev_eqI (ew_var rfl) ev_int.w))
  match w, hw with
  | 0, _ =>
    refine q_ifR A (b := true) (ts 0) (fun _ H1 A => ?_) (fun z => by cases z)
    exact st_ret A (ev_tup (es_cons ev_int (es_cons (ev_lst (es_cons ev_str (es_cons ev_str (es_cons ev_str (es_cons ev_str es_nil))))) es_nil)) (Nat.le_of_ble_eq_true rfl)) kr
  | 1, _ =>
    refine q_skip A (ts 0) fun H1 A => ?_
    refine q_ifR A (b := true) (ts 1) (fun _ H1 A => ?_) (fun z => by cases z)
    exact st_ret A (ev_tup (es_cons ev_int (es_cons (ev_lst (es_cons ev_str (es_cons ev_str (es_cons ev_str (es_cons ev_str (es_cons ev_str (es_cons ev_str es_nil))))))) es_nil)) (Nat.le_of_ble_eq_true rfl)) kr
  | 2, _ =>
    refine q_skip A (ts 0) fun H1 A => ?_
    refine q_skip A (ts 1) fun H1 A => ?_
    exact st_ret A (ev_tup (es_cons ev_int (es_cons (ev_lst (es_cons ev_str (es_cons ev_str (es_cons ev_str (es_cons ev_str (es_cons ev_str (es_cons ev_str (es_cons ev_str (es_cons ev_str es_nil))))))))) es_nil)) (Nat.le_of_ble_eq_true rfl)) kr
theorem nb_clear (a k : Nat) : Builtin.bitAnd (a : Int) (0 - 1 - 1 * 2 ^ ((k : Nat) : Int).toNat) = ((a ^^^ put k (a.testBit k) : Nat) : Int) := by
  have e0 : (0 : Int) - 1 - 1 * 2 ^ ((k : Nat) : Int).toNat = Builtin.bitNot ((2 ^ k : Nat) : Int) := by
    rw [nb_oneshl]; unfold Builtin.bitNot; omega
  rw [e0]
  unfold Builtin.bitAnd
  rw [decide_eq_true (Int.natCast_nonneg a), nb_not, nb_nn]
  show (a : Int) - ((a &&& 2 ^ k : Nat) : Int) = _
  have e1 : a &&& 2 ^ k = put k (a.testBit k) := by
    apply Nat.eq_of_testBit_eq
    intro i
    rw [Nat.testBit_and, Nat.testBit_two_pow, put_bit]
    by_cases c : k = i
    · subst c; simp
    · simp [c, Ne.symm c]
  rw [e1]
  have s := or_split a (put k (a.testBit k))
  have o : a ||| put k (a.testBit k) = a := by
    apply Nat.eq_of_testBit_eq
    intro i
    rw [Nat.testBit_or, put_bit]
    by_cases c : i = k
    · subst c; simp
    · simp [c]
  have n : a &&& put k (a.testBit k) = put k (a.testBit k) := by
    apply Nat.eq_of_testBit_eq
    intro i
    rw [Nat.testBit_and, put_bit]
    by_cases c : i = k
    · subst c; simp
    · simp [c]
  rw [o, n] at s
  omega
theorem nb_lowi {a : Int} (h : 0 ≤ a) : Builtin.bitAnd a 1 = b2i (decide (a % 2 = 1)) := by
  obtain ⟨n, rfl⟩ : ∃ n : Nat, a = n := ⟨a.toNat, by omega⟩
  have e : Builtin.bitAnd (n : Int) 1 = ((n &&& 1 : Nat) : Int) := nb_and n 1
  rw [e, Nat.and_one_is_mod]
  unfold b2i
  by_cases c : ((n : Int) % 2 = 1)
  · rw [decide_eq_true c]; simp; omega
  · rw [decide_eq_false c]; simp; omega
def R_wrong (ds : List Dat) (d : Dat) : Prop := ∃ (c : Int) (n m : Nat), 1 ≤ n ∧ n ≤ 9 ∧ m ≤ 60 ∧ ds = [.int c, .int n, .int m] ∧ d = rowD (wrongOf c n m)
theorem sc_law_wrong : FnScope ["_law_cell", "_law_n", "_law_many", "_law_xs", "_law_zs", "_law_x", "_law_k"] ["_law_cell", "_law_n", "_law_many"] (defScope s_law_wrong) := ⟨rfl, rfl, rfl, by decide +kernel, rfl, by decide +kernel, by decide +kernel⟩
theorem c_law_wrong (T : Wd K mg) : Cal P w K mg base "_law_wrong" 2 ["_law_cell", "_law_n", "_law_many"] (spF R_wrong) := by
  obtain ⟨fd, F⟩ := F_law_wrong T
  have C_law_stream := c_law_stream (P := P) (w := w) (base := base) T
  refine ⟨_, fd, G_law_wrong T, fn_pure F sc_law_wrong (fun ds d ⟨_, _, _, _, _, _, e, _⟩ => by rw [e]; rfl) (by decide) (fun cdv A outer s H hr => ⟨_, (pss_cons (ps_set (i := 3) sc_law_wrong.nd rfl (Or.inl rfl) pe_int)
      (pss_cons (ps_set (i := 4) sc_law_wrong.nd rfl (Or.inl rfl) pe_int)
      (pss_cons (ps_for PassesOwn.never rfl (pi_list (pe_f C_law_stream (hr.mono (by decide)) rfl (pa_cons (pv 0) (pa_cons (pv 2) pa_nil)))) (pg_name (i := 5) sc_law_wrong.nd rfl (Or.inl rfl))
        (pss_cons (ps_set (i := 6) sc_law_wrong.nd rfl (Or.inl rfl) (pe_op op_mod (pv 5) (pv 1)))
      (pss_cons (ps_set (i := 3) sc_law_wrong.nd rfl (Or.inl rfl) (pe_op op_or (pe_op op_and (pv 3) (pe_op op_sub (pe_op op_sub pe_int pe_int) (pe_op op_shl pe_int (pv 6)))) (pe_op op_shl (pe_op op_and (pe_op op_fdivW (pv 5) pe_int) pe_int) (pv 6))))
      (pss_one (ps_set (i := 4) sc_law_wrong.nd rfl (Or.inl rfl) (pe_op op_or (pe_op op_and (pv 4) (pe_op op_sub (pe_op op_sub pe_int pe_int) (pe_op op_shl pe_int (pv 6)))) (pe_op op_shl (pe_op op_and (pe_op op_fdivW (pv 5) pe_int) pe_int) (pv 6))))))))
      (pss_one (ps_ret (pe_tup (pa_cons pe_int (pa_cons (pv 3) (pa_cons (pv 4) pa_nil))))))))), ?_⟩), F.kp, F.bindsN (fun _ _ _ _ _ _ us hl => match us, hl with | [_, _, _], _ => rfl)⟩
  rintro ds d ⟨c, n, m, h1, h9, hm, rfl, rfl⟩ D σ A kr kn
  have A : At H [] H σ [.dat (.int c), .dat (.int n), .dat (.int m), .no, .no, .no, .no] := A
  refine q_asg A (d := .int 0) (Ev.p ev_int) fun σ H1 A => ?_
  refine q_asg A (d := .int 0) (Ev.p ev_int) fun σ H1 A => ?_
  refine q_forN (ds := (strm c m).map Dat.int) (fun i Γ => ∃ e5 e6, Γ = [.dat (.int c), .dat (.int n), .dat (.int m), .dat (.int (((((strm c m).map (trip n)).take i).foldl drawn1 (0, 0)).1 : Nat)), .dat (.int (((((strm c m).map (trip n)).take i).foldl drawn1 (0, 0)).2 : Nat)), e5, e6]) A (sp_list (Ev.p (ev_call (R := R_strm) (ea_cons (ew_var rfl) (ea_cons (ew_var rfl) ea_nil)) ⟨c, m, hm, rfl, rfl⟩))) (nl_ints _) ⟨_, _, rfl⟩ ?_ ?_
  · rintro i d Γ gh σ H2 hd ⟨e5, e6, rfl⟩ A
    obtain ⟨x, hx, rfl⟩ := map_at hd
    have x0 := strm_nonneg x (List.mem_of_getElem? hx)
    rw [fold_take (i := i) (a := trip n x) (by rw [List.getElem?_map, hx]; rfl)]
    generalize (((strm c m).map (trip n)).take i).foldl drawn1 (0, 0) = z at A ⊢
    obtain ⟨a, b⟩ := z
    have A : At _ gh H2 σ [.dat (.int c), .dat (.int n), .dat (.int m), .dat (.int (a : Nat)), .dat (.int (b : Nat)), .dat (.int x), e6] := A
    have hk : x % n = ((x % n).toNat : Int) := by
      have := Int.emod_nonneg x (show (n : Int) ≠ 0 by omega)
      omega
    have kl : (x % n).toNat < 9 := by
      have := Int.emod_lt_of_pos x (show (0 : Int) < n by omega)
      omega
    refine q_asg A (d := .int ((x % n).toNat : Nat)) (Ev.p (Ev.is (ev_I (C := fun _ j => 0 < j) (f := fun i j => i % j) (ew_var rfl) (ew_var rfl) (by show (0 : Int) < n; omega)) (by rw [← hk]))) fun σ H3 A => ?_
    have A : At _ gh H3 σ [.dat (.int c), .dat (.int n), .dat (.int m), .dat (.int (a : Nat)), .dat (.int (b : Nat)), .dat (.int x), .dat (.int ((x % n).toNat : Nat))] := A
    have tr : trip n x = ((x % n).toNat, decide (x / 64 % 2 = 1), decide (x / 4096 % 2 = 1)) := rfl
    rw [tr]
    generalize (x % n).toNat = k at A kl ⊢
    have upd1 : ∀ (Δ : Vw) (j : Nat) (v : Nat) (q : Int), Δ[j]? = some (some (.int (v : Nat))) → Δ[5]? = some (some (.int x)) → Δ[6]? = some (some (.int (k : Nat))) → 0 < q → q < 2 ^ 20 → Ev (tOp (rI0 fun i j => .int (Builtin.bitOr i j)) (tOp (rI0 fun i j => .int (Builtin.bitAnd i j)) (tVar j) (tOp (rI0 fun i j => .int (i - j)) (tOp (rI0 fun i j => .int (i - j)) (tC (.int 0)) (tC (.int 1))) (tOp (rI CPow fun i j => .int (i * 2 ^ j.toNat)) (tC (.int 1)) (tVar 6)))) (tOp (rI CPow fun i j => .int (i * 2 ^ j.toNat)) (tOp (rI0 fun i j => .int (Builtin.bitAnd i j)) (tOp (rI CDivW fun i j => .int (i / j)) (tVar 5) (tC (.int q))) (tC (.int 1))) (tVar 6))) Δ (.int (setb v k (decide (x / q % 2 = 1)) : Nat)) := fun Δ j v q h1 h2 h3 q0 q1 => by
      have d0 : 0 ≤ x / q := Int.ediv_nonneg x0 (by omega)
      have qn : q.natAbs < 2 ^ 9000 := Nat.lt_of_lt_of_le (show q.natAbs < 2 ^ 20 by omega) (Nat.pow_le_pow_right (by decide) (by decide))
      have c2 : CPow (Builtin.bitAnd (x / q) 1) ((k : Nat) : Int) := by
        rw [nb_lowi d0]
        exact cpow_b (by omega)
      refine Ev.is (ev_I0 (f := Builtin.bitOr) (Ev.w (ev_I0 (f := Builtin.bitAnd) (ew_var h1) (Ev.w (ev_I0 (f := fun i j => i - j) (Ev.w (ev_I0 (f := fun i j => i - j) ev_int.w ev_int.w)) (Ev.w (ev_I (C := CPow) (f := fun i j => i * 2 ^ j.toNat) ev_int.w (ew_var h3) ⟨Int.natCast_nonneg k, by omega, by decide⟩)))))) (Ev.w (ev_I (C := CPow) (f := fun i j => i * 2 ^ j.toNat) (Ev.w (ev_I0 (f := Builtin.bitAnd) (Ev.w (ev_I (C := CDivW) (f := fun i j => i / j) (ew_var h2) ev_int.w (cdw q0 qn))) ev_int.w)) (ew_var h3) c2))) ?_
      show Dat.int (Builtin.bitOr (Builtin.bitAnd (v : Int) (0 - 1 - 1 * 2 ^ ((k : Nat) : Int).toNat)) (Builtin.bitAnd (x / q) 1 * 2 ^ ((k : Nat) : Int).toNat)) = _
      rw [nb_clear, nb_lowi d0, nb_put, nb_or]
      rfl
    refine q_asg A (d := .int (setb a k (decide (x / 64 % 2 = 1)) : Nat)) (Ev.p (upd1 _ 3 a 64 rfl rfl rfl (by decide) (by decide))) fun σ H4 A => ?_
    refine st_asg A (d := .int (setb b k (decide (x / 4096 % 2 = 1)) : Nat)) (Ev.p (upd1 _ 4 b 4096 rfl rfl rfl (by decide) (by decide))) fun σ H5 A => ⟨_, ⟨_, _, rfl⟩, A⟩
  · rintro Γ σ H2 ⟨e5, e6, rfl⟩ A
    rw [List.length_map, List.take_of_length_le (by rw [List.length_map]; exact Nat.le_refl _)] at A
    exact st_ret A (ev_tup (es_cons ev_int (es_cons (ev_var rfl rfl) (es_cons (ev_var rfl rfl) es_nil))) (Nat.le_of_ble_eq_true rfl)) kr

end
end K92
end
section
set_option maxHeartbeats 4000000

namespace K92
open PySem PySem.Spec PyProof.Rows L2
section
variable {P : Program} {w : World} {K : PySem.W.Frag} {mg : Str → Option Value} {base : Heap}
/-! ### the law's own: the code drawn -/
theorem nl_wordsD (e : Dd) : nl (wordsD e) = true := by cases e <;> rfl
def cdDat (c : Cd) : Dat := .tup [.int (c.n : Nat), .lst (c.full.map rowD), .int (c.m : Nat)]
def R_code (K : PySem.W.Frag) (ds : List Dat) (d : Dat) : Prop := ∃ ns : List Int, ds = [.sq K ns] ∧ d = cdDat (codeOf (ns.getD 0 0) (ns.getD 1 0))
theorem ev_mod5 {Δ : Vw} {te : TE} {c : Int} (h : EvW te Δ (.int c)) : Ev (tOp (rI (fun _ j => 0 < j) fun i j => .int (i % j)) te (tC (.int 5))) Δ (.int ((c % 5).toNat : Nat)) := Ev.is (ev_I (C := fun _ j => 0 < j) (f := fun i j => i % j) h ev_int.w (by show (0 : Int) < 5; decide)) (by
  have := Int.emod_nonneg c (show (5 : Int) ≠ 0 by decide)
  congr 1; omega)
theorem sc_law_code : FnScope ["_law_script", "_law_cell", "_law_n", "_law_texts", "_law_text", "_law_rows", "_law_work", "_law_full", "_law_row_here", "_law_x", "_law_k"] ["_law_script"] (defScope s_law_code) := ⟨rfl, rfl, rfl, by decide +kernel, rfl, by decide +kernel, by decide +kernel⟩
theorem c_law_code (T : Wd K mg) : Cal P w K mg base "_law_code" 4 ["_law_script"] (spF (R_code K)) := by
  obtain ⟨fd, F⟩ := F_law_code T
  have C_law_cell_at := c_law_cell_at (P := P) (w := w) (base := base) T
  have C_law_known := c_law_known (P := P) (w := w) (base := base) T
  have C_law_letters := c_law_letters (P := P) (w := w) (base := base) T
  have C_law_turns := c_law_turns (P := P) (w := w) (base := base) T
  have C_law_stream := c_law_stream (P := P) (w := w) (base := base) T
  have C_law_behind := c_law_behind (P := P) (w := w) (base := base) T
  have C_law_deed := c_law_deed (P := P) (w := w) (base := base) T
  refine ⟨_, fd, G_law_code T, fn_pure F sc_law_code (fun ds d ⟨_, e, _⟩ => by rw [e]; rfl) (by decide) (fun cdv A outer s H hr => ⟨_, (pss_cons (ps_set (i := 1) sc_law_code.nd rfl (Or.inl rfl) (pe_f C_law_cell_at (hr.mono (by decide)) rfl (pa_cons (pv 0) (pa_cons pe_int pa_nil))))
      (pss_cons (ps_if (pt_cmpR op_lt (pe_op op_mod (pv 1) pe_int) pe_int (nomark _)) (pss_cons (ps_asg (pe_f C_law_known (hr.mono (by decide)) rfl (pa_cons (pe_op op_mod (pv 1) pe_int) pa_nil)) (pg_tup rfl (pgs_cons (pg_name (i := 2) sc_law_code.nd rfl (Or.inr rfl)) (pgs_cons (pg_name (i := 3) sc_law_code.nd rfl (Or.inl rfl)) pgs_nil))))
      (pss_cons (ps_setLc (i := 5) (own := [("_law_text", 4)]) (g := gName 4) rfl sc_law_code.nd rfl rfl (sw_true rfl rfl rfl (by decide +kernel))  (pi_list (pv 3)) (blkOk_by (own := [("_law_text", 4)]) (N := ["_law_script", "_law_cell", "_law_n", "_law_texts", "_law_text", "_law_rows", "_law_work", "_law_full", "_law_row_here", "_law_x", "_law_k"]) (sc := defScope s_law_code) (by decide +kernel)) (fun _ _ _ _ _ => pg_name (i := 4) sc_law_code.nd rfl (Or.inl rfl)) (fun _ _ _ _ _ => pts_nil) (fun _ _ _ _ _ => (pe_f C_law_letters (hr.mono (by decide)) rfl (pa_cons (pv 4) pa_nil))))
      (pss_cons (ps_set (i := 6) sc_law_code.nd rfl (Or.inr rfl) (pe_f C_law_turns (hr.mono (by decide)) rfl (pa_cons (pe_f C_law_stream (hr.mono (by decide)) rfl (pa_cons (pe_f C_law_cell_at (hr.mono (by decide)) rfl (pa_cons (pv 0) (pa_cons pe_int pa_nil))) (pa_cons pe_int pa_nil))) (pa_cons (pv 2) pa_nil))))
      (pss_cons (ps_set (i := 7) sc_law_code.nd rfl (Or.inl rfl) (pe_op op_cat (pv 5) (pe_lst (pa_cons (pe_f C_law_letters (hr.mono (by decide)) rfl (pa_cons (pe_ix ix_list (pe_lst (pa_cons pe_str (pa_cons pe_str (pa_cons pe_str pa_nil)))) (pe_op op_mod (pv 1) pe_int) (fun _ _ => rfl)) pa_nil)) pa_nil))))
      (pss_one (ps_ret (pe_tup (pa_cons (pv 2) (pa_cons (pe_lc (own := [("_law_row_here", 8)]) (g := gName 8) rfl sc_law_code.nd (pi_list (pv 7)) (blkOk_by (own := [("_law_row_here", 8)]) (N := ["_law_script", "_law_cell", "_law_n", "_law_texts", "_law_text", "_law_rows", "_law_work", "_law_full", "_law_row_here", "_law_x", "_law_k"]) (sc := defScope s_law_code) (by decide +kernel)) (fun _ _ _ _ _ => pg_name (i := 8) sc_law_code.nd rfl (Or.inl rfl)) (fun _ _ _ _ _ => pts_nil) (fun _ _ _ _ _ => (pe_f C_law_behind (hr.mono (by decide)) rfl (pa_cons (pv 6) (pa_cons (pv 8) pa_nil))))) (pa_cons (pe_callB call_len_seq rfl (T_len T) PySem.boot_len (pa_cons (pv 5) pa_nil)) pa_nil)))))))))) pss_nil)
      (pss_cons (ps_set (i := 2) sc_law_code.nd rfl (Or.inr rfl) (pe_op op_add pe_int (pe_op op_mod (pe_op op_fdivW (pv 1) pe_int) pe_int)))
      (pss_cons (ps_set (i := 6) sc_law_code.nd rfl (Or.inr rfl) (pe_lc (own := [("_law_x", 9)]) (g := gName 9) rfl sc_law_code.nd (pi_list (pe_f C_law_stream (hr.mono (by decide)) rfl (pa_cons (pe_f C_law_cell_at (hr.mono (by decide)) rfl (pa_cons (pv 0) (pa_cons pe_int pa_nil))) (pa_cons pe_int pa_nil)))) (blkOk_by (own := [("_law_x", 9)]) (N := ["_law_script", "_law_cell", "_law_n", "_law_texts", "_law_text", "_law_rows", "_law_work", "_law_full", "_law_row_here", "_law_x", "_law_k"]) (sc := defScope s_law_code) (by decide +kernel)) (fun _ _ _ _ _ => pg_name (i := 9) sc_law_code.nd rfl (Or.inl rfl)) (fun _ _ _ _ _ => pts_nil) (fun _ _ _ _ _ => (pe_f C_law_deed (hr.mono (by decide)) rfl (pa_cons (pv 9) (pa_cons (pv 2) pa_nil))))))
      (pss_one (ps_ret (pe_tup (pa_cons (pv 2) (pa_cons (pe_lc (own := [("_law_k", 10)]) (g := gName 10) rfl sc_law_code.nd (pi_range1 rfl (T_range T) (pa_cons (pv 2) pa_nil)) (blkOk_by (own := [("_law_k", 10)]) (N := ["_law_script", "_law_cell", "_law_n", "_law_texts", "_law_text", "_law_rows", "_law_work", "_law_full", "_law_row_here", "_law_x", "_law_k"]) (sc := defScope s_law_code) (by decide +kernel)) (fun _ _ _ _ _ => pg_name (i := 10) sc_law_code.nd rfl (Or.inl rfl)) (fun _ _ _ _ _ => pts_nil) (fun _ _ _ _ _ => (pe_f C_law_behind (hr.mono (by decide)) rfl (pa_cons (pv 6) (pa_cons (pe_tup (pa_cons pe_int (pa_cons pe_int (pa_cons (pe_op op_shl pe_int (pv 10)) pa_nil)))) pa_nil))))) (pa_cons (pe_op op_mod (pe_op op_fdivW (pv 1) pe_int) (pe_op op_add (pv 2) pe_int)) pa_nil)))))))))), ?_⟩), F.kp, F.bindsN (fun _ _ _ _ _ _ us hl => match us, hl with | [_], _ => rfl)⟩
  rintro ds d ⟨ns, rfl, rfl⟩ D σ A kr kn
  have A : At H [] H σ [.dat (.sq K ns), .no, .no, .no, .no, .no, .no, .no, .no, .no, .no] := A
  generalize hc0 : ns.getD 0 0 = c0 at kr
  generalize hc1 : ns.getD 1 0 = c1 at kr
  have cell1 : ∀ (Δ : Vw), Δ[0]? = some (some (.sq K ns)) → Ev (tCall (spF (R_cell K)) [] E0 (tCons (tVar 0) (tCons (tC (.int 1)) tNil))) Δ (.int c1) := fun Δ h => ev_call (R := R_cell K) (ea_cons (ew_var h) (ea_cons ev_int.w ea_nil)) ⟨ns, 1, rfl, by rw [hc1]⟩
  refine q_asg A (d := .int c0) (Ev.p (ev_call (R := R_cell K) (ea_cons (ew_var rfl) (ea_cons ev_int.w ea_nil)) ⟨ns, 0, rfl, by rw [hc0]⟩)) fun σ H1 A => ?_
  refine q_ifR A (b := decide (c0 % 5 < 3)) (et_test (Ev.w (ev_B0 (f := fun i j => decide (i < j)) (Ev.w (ev_I (C := fun _ j => 0 < j) (f := fun i j => i % j) (ew_var rfl) ev_int.w (by show (0 : Int) < 5; decide))) ev_int.w))) (fun hb H2 A => ?_) (fun hb H2 A => ?_)
  · have h3 : c0 % 5 < 3 := of_decide_eq_true hb
    have hw : (c0 % 5).toNat < 3 := by have := Int.emod_nonneg c0 (show (5 : Int) ≠ 0 by decide); omega
    have ec : codeOf c0 c1 = ⟨knN (c0 % 5).toNat, (knR (c0 % 5).toNat ++ [knL (c0 % 5).toNat]).map (actW (workK c1 (knN (c0 % 5).toNat))), (knR (c0 % 5).toNat).length⟩ := by unfold codeOf; rw [if_pos h3]
    rw [ec] at kr
    obtain ⟨k1, k2, k3, k4⟩ := kn_is _ hw
    have kb := knN_bound (c0 % 5).toNat
    refine q_tup2 A (d1 := .int (knN (c0 % 5).toNat : Nat)) (d2 := .lst ((knT (c0 % 5).toNat).map Dat.str)) (Ev.p (ev_call (R := R_known) (ea_cons (Ev.w (ev_mod5 (ew_var rfl))) ea_nil) ⟨_, hw, rfl, rfl⟩)) fun σ H3 A => ?_
    have mod5 : ∀ Δ : Vw, Δ[1]? = some (some (.int c0)) → Ev (tOp (rI (fun _ j => 0 < j) fun i j => .int (i % j)) (tVar 1) (tC (.int 5))) Δ (.int ((c0 % 5).toNat : Nat)) := fun Δ h => ev_mod5 (ew_var h)
    generalize (c0 % 5).toNat = v at *
    have kl : (knR v).length ≤ 8 := by
      match v, hw with
      | 0, _ => decide
      | 1, _ => decide
      | 2, _ => decide
    refine q_asg A (d := .lst ((knR v).map rowD)) (Ev.p (Ev.is (ev_lc1 (knT v) Dat.str (fun s => rowD (letR s.cps.toList)) (sr_list (ew_var rfl)) (by rw [← List.length_map (f := fun s : Str => letR s.cps.toList), k1]; omega) (fun s hs => ev_call (R := R_letters) (ea_cons (ew_var rfl) ea_nil) ⟨s, of_decide_eq_true (List.all_eq_true.mp k3 s hs), rfl, rfl⟩) (fun _ _ => rfl)) (by rw [← k1, List.map_map]; rfl))) fun σ H4 A => ?_
    refine q_asg A (d := .lst ((workK c1 (knN v)).map wordsD)) (Ev.p (ev_call (R := R_turns) (ea_cons (Ev.w (ev_call (R := R_strm) (ea_cons (Ev.w (cell1 _ rfl)) (ea_cons ev_int.w ea_nil)) ⟨c1, 9, by decide, rfl, rfl⟩)) (ea_cons (ew_var rfl) ea_nil)) ⟨strm c1 9, knN v, kb.1, kb.2, by rw [strm_len]; decide, rfl, rfl⟩)) fun σ H5 A => ?_
    have last : ∀ Δ : Vw, Δ[1]? = some (some (.int c0)) → Ev (tLst (tCons (tCall (spF R_letters) [] E0 (tCons (tOp (rIxL K) (tLst (tCons (tC (.str "zzzzz")) (tCons (tC (.str "zzzzzzz")) (tCons (tC (.str "xxxxxxxxx")) tNil)))) (tOp (rI (fun _ j => 0 < j) fun i j => .int (i % j)) (tVar 1) (tC (.int 5)))) tNil)) tNil)) Δ (.lst [rowD (knL v)]) := fun Δ h => by
      refine ev_lst (es_cons (ev_call (R := R_letters) (ds := [.str (knU v)]) (ea_cons (Ev.w (ev_ixL (ds := [.str "zzzzz", .str "zzzzzzz", .str "xxxxxxxxx"]) (i := ((v : Nat) : Int)) (Ev.w (ev_lst (es_cons ev_str (es_cons ev_str (es_cons ev_str es_nil))))) (Ev.w (mod5 Δ h)) (atI_nat (j := v) ?_) rfl)) ea_nil) ⟨knU v, k4, rfl, by rw [k2]⟩) es_nil) (Nat.le_of_ble_eq_true rfl)
      match v, hw with
      | 0, _ => rfl
      | 1, _ => rfl
      | 2, _ => rfl
    refine q_asg A (d := .lst ((knR v ++ [knL v]).map rowD)) (Ev.p (Ev.is (ev_cat (ds := (knR v).map rowD) (es := [rowD (knL v)]) (ew_var rfl) (Ev.w (last _ rfl)) (nl_rows _) rfl (by rw [List.length_map]; show _ + 1 ≤ _; omega)) (by rw [List.map_append]; rfl))) fun σ H6 A => ?_
    refine st_ret A (ev_tup (es_cons (ev_var rfl rfl) (es_cons (Ev.is (ev_lc1 (knR v ++ [knL v]) rowD (fun r => rowD (actW (workK c1 (knN v)) r)) (sr_list (ew_var rfl)) (by rw [List.length_append]; show _ + 1 ≤ _; omega) (fun r hr => ev_call (R := R_lbeh) (ea_cons (ew_var rfl) (ea_cons (ew_var rfl) ea_nil)) ⟨workK c1 (knN v), r, fun e he => ok_le (workK_ok kb.1 e he) kb.2, wf9 kb.2 ((kn_good v hw).1.wf r hr), rfl, rfl⟩) (fun _ _ => rfl)) (d' := .lst (((knR v ++ [knL v]).map (actW (workK c1 (knN v)))).map rowD)) (by rw [List.map_map]; rfl)) (es_cons (ev_len (d := .lst ((knR v).map rowD)) (n := ((knR v).length : Nat)) (ew_var rfl) (by show some (((List.map rowD (knR v)).length : Nat) : Int) = _; rw [List.length_map])) es_nil))) (Nat.le_of_ble_eq_true rfl)) kr
  · have h3 : ¬ c0 % 5 < 3 := of_decide_eq_false hb
    have ec : codeOf c0 c1 = ⟨codeN c0, (zrows (codeN c0)).map (actW (workD c1 (codeN c0))), (c0 / 30 % ((codeN c0 : Nat) + 1 : Int)).toNat⟩ := by unfold codeOf; rw [if_neg h3]
    rw [ec] at kr
    have kb := codeN_bound c0
    refine q_asg A (d := .int (codeN c0 : Nat)) (Ev.p (Ev.is (ev_I0 (f := fun i j => i + j) ev_int.w (Ev.w (ev_I (C := fun _ j => 0 < j) (f := fun i j => i % j) (Ev.w (ev_I (C := CDivW) (f := fun i j => i / j) (ew_var rfl) ev_int.w (cdw (by decide) (by decide +kernel)))) ev_int.w (by show (0 : Int) < 6; decide)))) (by
      unfold codeN
      have := Int.emod_nonneg (c0 / 5) (show (6 : Int) ≠ 0 by decide)
      congr 1; omega))) fun σ H3 A => ?_
    generalize codeN c0 = n at *
    refine q_asg A (d := .lst ((workD c1 n).map wordsD)) (Ev.p (Ev.is (ev_lc1 (strm c1 14) Dat.int (fun x => wordsD (deedOf x n)) (sr_list (Ev.w (ev_call (R := R_strm) (ea_cons (Ev.w (cell1 _ rfl)) (ea_cons ev_int.w ea_nil)) ⟨c1, 14, by decide, rfl, rfl⟩))) (by rw [strm_len]; decide) (fun x _ => ev_call (R := R_deed) (ea_cons (ew_var rfl) (ea_cons (ew_var rfl) ea_nil)) ⟨x, n, kb.1, by omega, rfl, rfl⟩) (fun _ _ => nl_wordsD _)) (by unfold workD; rw [List.map_map]; rfl))) fun σ H4 A => ?_
    refine st_ret A (ev_tup (es_cons (ev_var rfl rfl) (es_cons (Ev.is (ev_lc1 (List.range n) (fun i => Dat.int (i : Nat)) (fun i => rowD (actW (workD c1 n) (zrow i))) (src_is (sr_rng1 (ea_cons (ew_var rfl) ea_nil) (by omega)) (by rw [Int.toNat_natCast]; exact rng0 n)) (by rw [List.length_range]; omega) (fun i hi => ev_call (R := R_lbeh) (ea_cons (ew_var rfl) (ea_cons (Ev.w (Ev.is (d' := rowD (zrow i)) (ev_tup (es_cons ev_int (es_cons ev_int (es_cons (ev_I (C := CPow) (f := fun i j => i * 2 ^ j.toNat) (i := 1) (j := ((i : Nat) : Int)) ev_int.w (ew_var rfl) ⟨Int.natCast_nonneg i, by have := List.mem_range.mp hi; omega, by decide⟩) es_nil))) (Nat.le_of_ble_eq_true rfl)) (by rw [nb_oneshl]; rfl))) ea_nil)) ⟨workD c1 n, zrow i, fun e he => ok_le (workD_ok kb.1 e he) (by omega), wf9 (n := n) (by omega) (zrow_wf (List.mem_range.mp hi)), rfl, rfl⟩) (fun _ _ => rfl)) (d' := .lst (((zrows n).map (actW (workD c1 n))).map rowD)) (by unfold zrows; rw [List.map_map, List.map_map]; rfl)) (es_cons (Ev.is (ev_I (C := fun _ j => 0 < j) (f := fun i j => i % j) (Ev.w (ev_I (C := CDivW) (f := fun i j => i / j) (ew_var rfl) ev_int.w (cdw (by decide) (by decide +kernel)))) (Ev.w (ev_I0 (f := fun i j => i + j) (ew_var rfl) ev_int.w)) (by show (0 : Int) < (n : Nat) + 1; omega)) (d' := .int ((c0 / 30 % ((n : Nat) + 1 : Int)).toNat : Nat)) (by
      have := Int.emod_nonneg (c0 / 30) (show ((n : Nat) + 1 : Int) ≠ 0 by omega)
      congr 1; omega)) es_nil))) (Nat.le_of_ble_eq_true rfl)) kr

end
end K92
end
section
set_option maxHeartbeats 4000000

namespace K92
open PySem PySem.Spec PyProof.Rows L2
section
variable {P : Program} {w : World} {K : PySem.W.Frag} {mg : Str → Option Value} {base : Heap}
/-! ### what the code tells -/
theorem sig_ac {rs : List Row} {f e : Row} (h : sigs rs f = sigs rs e) : ∀ r ∈ rs, ac f r = ac e r := fun r hr => by
  unfold sigs at h
  have q := (List.map_inj_left (f := fun r => b2i (ac f r)) (g := fun r => b2i (ac e r))).mp h r hr
  exact b2i_inj.mp q
theorem first_some {rs ws : List Row} {e : Row} (he : e ∈ ws) : ∃ g, firstW rs ws e = some g ∧ g ∈ ws ∧ sigs rs g = sigs rs e := by
  unfold firstW
  cases c : ws.find? fun f => decide (sigs rs f = sigs rs e) with
  | none => exact absurd (decide_eq_true rfl) (List.find?_eq_none.mp c e he)
  | some g => exact ⟨g, rfl, List.mem_of_find?_eq_some c, of_decide_eq_true (List.find?_some (p := fun f => decide (sigs rs f = sigs rs e)) c)⟩
theorem both_wf {n : Nat} {f e : Row} (hf : f.wf n) (he : e.wf n) : (bothW f e).wf n := ⟨Nat.xor_lt_two_pow hf.x he.x, Nat.xor_lt_two_pow hf.z he.z⟩
theorem both_ac (f e r : Row) : ac (bothW f e) r = (ac f r ^^ ac e r) := ac_letters rfl rfl
/-- the leads of a code's rows -/
theorem li_of {n : Nat} {rs : List Row} (hn : n ≤ 9) (hw : ∀ r ∈ rs, r.wf n) (I : Ind rs) : LI n rs (leadsOf n rs) := by
  have q := (li_all (by omega) hw I rs.length (Nat.le_refl _)).1
  rw [List.take_length] at q
  exact q
/-- where None is told: the guess undoes -/
theorem none_ok {n M : Nat} {rs : List Row} {D : List Dd} (hn : n ≤ 9) (hw : ∀ r ∈ rs, r.wf n) (I : Ind rs) (ho : ∀ d ∈ D, d.ok n) (hP : ∀ r ∈ rs, P0 D r) (hp : (wrs n M).find? (badW n rs (leadsOf n rs) (wrs n M)) = none) {e : Row} (he : e ∈ wrs n M) :
    ∃ g, firstW rs (wrs n M) e = some g ∧ g ∈ wrs n M ∧ sigs rs g = sigs rs e ∧ ∀ r ∈ keptOf n D, ac e r = ac g r := by
  obtain ⟨g, h1, h2, h3⟩ := first_some (rs := rs) he
  refine ⟨g, h1, h2, h3, fun r hr => ?_⟩
  have b := List.find?_eq_none.mp hp e he
  unfold badW at b
  rw [h1] at b
  have z : lo (leadsOf n rs) (ltn n (bothW g e)) = 0 := by
    cases c : decide (lo (leadsOf n rs) (ltn n (bothW g e)) = 0) with
    | true => exact of_decide_eq_true c
    | false => exact absurd (by show (!decide (lo (leadsOf n rs) (ltn n (bothW g e)) = 0)) = true; rw [c]; rfl) b
  have rw_ := (good_kept (n := n) (by omega) ho).wf r hr
  have q := left_none (li_of hn hw I) z (y := mrn n r) fun c hc => by
    rw [ltn_mrn (by omega) (hw c hc) rw_, ac_comm]
    exact kept_beside (by omega) ho (hP c hc) hr
  rw [ltn_mrn (by omega) (both_wf (wrs_wf g h2).1 (wrs_wf e he).1) rw_, both_ac] at q
  cases c1 : ac g r <;> cases c2 : ac e r <;> rw [c1, c2] at q <;> first | rfl | cases q
/-- what is told -/
theorem part_ok {n m : Nat} {rs : List Row} (hn : n ≤ 9) (hw : ∀ r ∈ rs, r.wf n) (I : Ind rs) :
    (partD n rs (leadsOf n rs) (wrs n m) = .non ∧ (wrs n m).find? (badW n rs (leadsOf n rs) (wrs n m)) = none) ∨
    ∃ f e s : Row, partD n rs (leadsOf n rs) (wrs n m) = .tup [rowD f, rowD e, rowD s] ∧ (f.wf n ∧ f.m = false ∧ wt f ≤ m) ∧ (e.wf n ∧ e.m = false ∧ wt e ≤ m) ∧ s.wf n ∧ sigs rs f = sigs rs e ∧ (∀ r ∈ rs, ac s r = false) ∧ ac s f ≠ ac s e := by
  unfold partD
  cases c : (wrs n m).find? (badW n rs (leadsOf n rs) (wrs n m)) with
  | none => exact .inl ⟨rfl, rfl⟩
  | some e =>
    refine .inr ?_
    have he := List.mem_of_find?_eq_some c
    have hb := List.find?_some c
    obtain ⟨f, h1, h2, h3⟩ := first_some (rs := rs) he
    unfold badW at hb
    rw [h1] at hb
    have z : lo (leadsOf n rs) (ltn n (bothW f e)) ≠ 0 := fun z => by
      have hb2 : (!decide (lo (leadsOf n rs) (ltn n (bothW f e)) = 0)) = true := hb
      rw [decide_eq_true z] at hb2
      cases hb2
    obtain ⟨s1, s2, s3⟩ := show_ok hn hw I (both_wf (wrs_wf f h2).1 (wrs_wf e he).1) z
    refine ⟨f, e, showR n rs (bothW f e), ?_, ⟨(wrs_wf f h2).1, (wrs_wf f h2).2, wrs_wt (by omega) h2⟩, ⟨(wrs_wf e he).1, (wrs_wf e he).2, wrs_wt (by omega) he⟩, ⟨Nat.mod_lt _ (Nat.two_pow_pos n), ?_⟩, h3, s2, ?_⟩
    · show (match firstW rs (wrs n m) e with | some f => _ | none => _) = _
      rw [h1]
    · show shw n rs (bothW f e) >>> n < 2 ^ n
      rw [Nat.shiftRight_eq_div_pow]
      refine Nat.div_lt_of_lt_mul ?_
      rw [← Nat.pow_add]; exact s1
    · have s3' : ac (showR n rs (bothW f e)) (bothW f e) = true := s3
      rw [ac_comm, both_ac, ac_comm f, ac_comm e] at s3'
      intro eq
      rw [eq] at s3'
      cases h : ac (showR n rs (bothW f e)) e <;> rw [h] at s3' <;> cases s3'
def R_lpart (ds : List Dat) (d : Dat) : Prop := ∃ (n m : Nat) (rs : List Row) (f e s : Row), n ≤ 9 ∧ (∀ r ∈ rs, r.wf 9) ∧ rs.length ≤ 60 ∧ (f.wf n ∧ f.m = false ∧ wt f ≤ m) ∧ (e.wf n ∧ e.m = false ∧ wt e ≤ m) ∧ s.wf n ∧ sigs rs f = sigs rs e ∧ (∀ r ∈ rs, ac s r = false) ∧ ac s f ≠ ac s e ∧
  ds = [.lst (rs.map rowD), .tup [rowD f, rowD e, rowD s], .int n, .int m] ∧ d = .bl true
theorem sc_law_parting : FnScope ["_law_rows", "_law_found", "_law_n", "_law_many", "_law_row_here", "_law_one", "_law_other", "_law_mine"] ["_law_rows", "_law_found", "_law_n", "_law_many"] (defScope s_law_parting) := ⟨rfl, rfl, rfl, by decide +kernel, rfl, by decide +kernel, by decide +kernel⟩
theorem c_law_parting (T : Wd K mg) : Cal P w K mg base "_law_parting" 4 ["_law_rows", "_law_found", "_law_n", "_law_many"] (spF R_lpart) := by
  obtain ⟨fd, F⟩ := F_law_parting T
  have C_law_row := c_law_row (P := P) (w := w) (base := base) T
  have C_law_weight := c_law_weight (P := P) (w := w) (base := base) T
  have C_law_signs := c_law_signs (P := P) (w := w) (base := base) T
  have C_law_beside := c_law_beside (P := P) (w := w) (base := base) T
  refine ⟨_, fd, G_law_parting T, fn_pure F sc_law_parting (fun ds d ⟨_, _, _, _, _, _, _, _, _, _, _, _, _, _, _, e, _⟩ => by rw [e]; rfl) (by decide) (fun cdv A outer s H hr => ⟨_, (pss_cons (ps_if (PW.pt (pw_or (pt_not (pt_val (pe_callB call_isi rfl (T_isinstance T) (by decide +kernel) (pa_cons (pv 1) (pa_cons (pe_bltn (v := .ty "tuple") rfl (T_tuple T) (by decide +kernel) rfl) pa_nil))))) (pw_or (pt_cmpR op_ne (pe_callB call_len_seq rfl (T_len T) PySem.boot_len (pa_cons (pv 1) pa_nil)) pe_int (nomark _)) (pw_or1 (pt_not (pt_val (pe_callB (cr_all rfl) rfl (T_all T) (by decide +kernel) (pa_cons (pe_lc (own := [("_law_row_here", 4)]) (g := gName 4) rfl sc_law_parting.nd (pi_tup (pv 1)) (blkOk_by (own := [("_law_row_here", 4)]) (N := ["_law_rows", "_law_found", "_law_n", "_law_many", "_law_row_here", "_law_one", "_law_other", "_law_mine"]) (sc := defScope s_law_parting) (by decide +kernel)) (fun _ _ _ _ _ => pg_name (i := 4) sc_law_parting.nd rfl (Or.inl rfl)) (fun _ _ _ _ _ => pts_nil) (fun _ _ _ _ _ => (pe_f C_law_row (hr.mono (by decide)) rfl (pa_cons (pv 4) (pa_cons (pv 2) pa_nil))))) pa_nil)))))))) (pss_one (ps_ret pe_bl)) pss_nil)
      (pss_cons (ps_asg (pv 1) (pg_tup rfl (pgs_cons (pg_name (i := 5) sc_law_parting.nd rfl (Or.inl rfl)) (pgs_cons (pg_name (i := 6) sc_law_parting.nd rfl (Or.inl rfl)) (pgs_cons (pg_name (i := 4) sc_law_parting.nd rfl (Or.inr rfl)) pgs_nil)))))
      (pss_cons (ps_if (PW.pt (pw_or (pt_cmpR op_gt (pe_f C_law_weight (hr.mono (by decide)) rfl (pa_cons (pv 5) pa_nil)) (pv 3) (nomark _)) (pw_or (pt_cmpR op_gt (pe_f C_law_weight (hr.mono (by decide)) rfl (pa_cons (pv 6) pa_nil)) (pv 3) (nomark _)) (pw_or (pt_cmpR op_ne (pe_ix ix_tup (pv 5) pe_int (fun _ _ => rfl)) pe_int (nomark _)) (pw_or1 (pt_cmpR op_ne (pe_ix ix_tup (pv 6) pe_int (fun _ _ => rfl)) pe_int (nomark _))))))) (pss_one (ps_ret pe_bl)) pss_nil)
      (pss_cons (ps_if (PW.pt (pw_or (pt_cmpR (op_neD (hr.units)) (pe_f C_law_signs (hr.mono (by decide)) rfl (pa_cons (pv 0) (pa_cons (pv 5) pa_nil))) (pe_f C_law_signs (hr.mono (by decide)) rfl (pa_cons (pv 0) (pa_cons (pv 6) pa_nil))) (nomark _)) (pw_or1 (pt_not (pt_val (pe_callB (cr_all rfl) rfl (T_all T) (by decide +kernel) (pa_cons (pe_lc (own := [("_law_mine", 7)]) (g := gName 7) rfl sc_law_parting.nd (pi_list (pv 0)) (blkOk_by (own := [("_law_mine", 7)]) (N := ["_law_rows", "_law_found", "_law_n", "_law_many", "_law_row_here", "_law_one", "_law_other", "_law_mine"]) (sc := defScope s_law_parting) (by decide +kernel)) (fun _ _ _ _ _ => pg_name (i := 7) sc_law_parting.nd rfl (Or.inl rfl)) (fun _ _ _ _ _ => pts_nil) (fun _ _ _ _ _ => (pe_f C_law_beside (hr.mono (by decide)) rfl (pa_cons (pv 4) (pa_cons (pv 7) pa_nil))))) pa_nil))))))) (pss_one (ps_ret pe_bl)) pss_nil)
      (pss_one (ps_ret (pe_cmpR op_ne (pe_f C_law_beside (hr.mono (by decide)) rfl (pa_cons (pv 4) (pa_cons (pv 5) pa_nil))) (pe_f C_law_beside (hr.mono (by decide)) rfl (pa_cons (pv 4) (pa_cons (pv 6) pa_nil))) (nomark _)))))))), ?_⟩), F.kp, F.bindsN (fun _ _ _ _ _ _ us hl => match us, hl with | [_, _, _, _], _ => rfl)⟩
  rintro ds d ⟨n, m, rs, f, e, s, hn, hw, hl, hf, he, hs, hsg, hbs, hne, rfl, rfl⟩ D σ A kr kn
  have A : At H [] H σ [.dat (.lst (rs.map rowD)), .dat (.tup [rowD f, rowD e, rowD s]), .dat (.int n), .dat (.int m), .no, .no, .no, .no] := A
  have f9 := wf9 hn hf.1
  have e9 := wf9 hn he.1
  have s9 := wf9 hn hs
  refine q_skip A (EvT.is (et_or (a := !true) (et_not (et_test (Ev.w (ev_isi (ew_var rfl) rfl (by show kitB "tuple" "tuple" = some true; decide +kernel))))) fun _ => et_or (a := !decide ((3 : Int) = 3)) (et_test (Ev.w (ev_neI (Ev.w (ev_len (ew_var rfl) rfl)) ev_int.w))) fun _ => et_not (et_test (Ev.w (ev_all (src := [f, e, s]) (f := fun _ => true) (b := true) (Ev.w (ev_lc1 [f, e, s] rowD (fun _ => Dat.bl true) (sr_tup (ew_var rfl)) (by show 3 ≤ 100000; decide) (fun r hr => ev_call (R := R_lrow) (ea_cons (ew_var rfl) (ea_cons (ew_var rfl) ea_nil)) ⟨r, n, hn, by
    rcases List.mem_cons.mp hr with q | hr
    · rw [q]; exact hf.1
    · rcases List.mem_cons.mp hr with q | hr
      · rw [q]; exact he.1
      · rw [List.mem_singleton.mp hr]; exact hs, rfl, rfl⟩) (fun _ _ => rfl))) rfl)))) rfl) fun H1 A => ?_
  refine q_tup3 A (d1 := rowD f) (d2 := rowD e) (d3 := rowD s) (ep_var rfl) fun σ H1 A => ?_
  have wv : ∀ (Δ : Vw) (j : Nat) (r : Row), Δ[j]? = some (some (rowD r)) → r.wf 9 → Ev (tCall (spF R_weight) [] E0 (tCons (tVar j) tNil)) Δ (.int (wt r)) := fun Δ j r h hr => ev_call (R := R_weight) (ea_cons (ew_var h) ea_nil) ⟨r, hr, rfl, rfl⟩
  refine q_skip A (EvT.is (et_or (a := decide (wt f > (m : Int))) (et_test (Ev.w (ev_B0 (f := fun i j => decide (i > j)) (Ev.w (wv _ 5 f rfl f9)) (ew_var rfl)))) fun _ => et_or (a := decide (wt e > (m : Int))) (et_test (Ev.w (ev_B0 (f := fun i j => decide (i > j)) (Ev.w (wv _ 6 e rfl e9)) (ew_var rfl)))) fun _ => et_or (a := !decide (b2i f.m = 0)) (et_test (Ev.w (ev_neI (Ev.w (ev_ixT (ew_var rfl) ev_int.w (atI_nat (j := 0) rfl) rfl)) ev_int.w))) fun _ => (et_test (Ev.w (ev_neI (i := b2i e.m) (Ev.w (ev_ixT (ew_var rfl) ev_int.w (atI_nat (j := 0) rfl) rfl)) ev_int.w)))) (by
    have a1 : decide (wt f > (m : Int)) = false := decide_eq_false (by have := hf.2.2; omega)
    have a2 : decide (wt e > (m : Int)) = false := decide_eq_false (by have := he.2.2; omega)
    rw [a1, a2, hf.2.1, he.2.1]; rfl)) fun H1 A => ?_
  have sv : ∀ (Δ : Vw) (j : Nat) (r : Row), Δ[0]? = some (some (.lst (rs.map rowD))) → Δ[j]? = some (some (rowD r)) → r.wf 9 → Ev (tCall (spF R_lsigns) [] E0 (tCons (tVar 0) (tCons (tVar j) tNil))) Δ (.lst ((sigs rs r).map Dat.int)) := fun Δ j r h0 h hr => ev_call (R := R_lsigns) (ea_cons (ew_var h0) (ea_cons (ew_var h) ea_nil)) ⟨rs, r, hw, hr, hl, rfl, rfl⟩
  refine q_skip A (EvT.is (et_or (a := !decide (sigs rs f = sigs rs e)) (et_test (Ev.w (ev_neInts (Ev.w (sv _ 5 f rfl rfl f9)) (Ev.w (sv _ 6 e rfl rfl e9))))) fun _ => et_not (et_test (Ev.w (ev_all (b := true) (Ev.w (ev_lc1 rs rowD (fun r => Dat.bl (!ac s r)) (sr_list (ew_var rfl)) (by omega) (fun r hr => ev_call (R := R_beside) (ea_cons (ew_var rfl) (ea_cons (ew_var rfl) ea_nil)) ⟨s, r, s9, hw r hr, rfl, rfl⟩) (fun _ _ => rfl))) (List.all_eq_true.mpr fun r hr => by rw [hbs r hr]; rfl))))) (by rw [decide_eq_true hsg]; rfl)) fun H1 A => ?_
  have bv : ∀ (Δ : Vw) (j : Nat) (r : Row), Δ[4]? = some (some (rowD s)) → Δ[j]? = some (some (rowD r)) → r.wf 9 → Ev (tCall (spF R_beside) [] E0 (tCons (tVar 4) (tCons (tVar j) tNil))) Δ (.bl (!ac s r)) := fun Δ j r h0 h hr => ev_call (R := R_beside) (ea_cons (ew_var h0) (ea_cons (ew_var h) ea_nil)) ⟨s, r, s9, hr, rfl, rfl⟩
  refine st_ret A (Ev.is (ev_neB (Ev.w (bv _ 5 f rfl rfl f9)) (Ev.w (bv _ 6 e rfl rfl e9))) ?_) kr
  cases h1 : ac s f <;> cases h2 : ac s e <;> first | rfl | exact absurd (h1.trans h2.symm) hne

end
end K92
end
section
set_option maxHeartbeats 4000000

namespace K92
open PySem PySem.Spec PyProof.Rows L2
section
variable {P : Program} {w : World} {K : PySem.W.Frag} {mg : Str → Option Value} {base : Heap}
/-! ### what went wrong is put right -/
theorem lt_intBits (n : Nat) : n < 2 ^ Builtin.Int.intBits (n : Int) := by
  unfold Builtin.Int.intBits
  by_cases h0 : (n : Int) = 0
  · have : n = 0 := by omega
    subst this; decide
  · have e : ((n : Int) == 0) = false := beq_eq_false_iff_ne.mpr h0
    rw [e]
    show n < 2 ^ ((n : Int).natAbs.log2 + 1)
    rw [Int.natAbs_natCast]
    exact Nat.lt_log2_self
theorem ddeeds_act {e : Row} (h : e.wf 9) (r : Row) : actW (ddeeds e) r = sgn (ac e r) r :=
  wrong_act (Nat.le_trans (intBits_le h.x) (by decide)) (Nat.le_trans (intBits_le h.z) (by decide)) (lt_intBits _) (lt_intBits _) r
theorem plc_mem {n k m : Nat} (h : n < 2 ^ m) (hk : k ∈ plc n) : k < m := by
  have b := (List.mem_filter.mp hk).2
  apply Decidable.byContradiction
  intro c
  rw [Nat.testBit_lt_two_pow (Nat.lt_of_lt_of_le h (Nat.pow_le_pow_right (by decide) (by omega)))] at b
  cases b
theorem ddeeds_ok {n : Nat} {e : Row} (h : e.wf n) : ∀ d ∈ ddeeds e, d.ok n := fun d hd => by
  rcases List.mem_append.mp hd with q | q
  · obtain ⟨k, hk, rfl⟩ := List.mem_map.mp q
    exact plc_mem h.x hk
  · obtain ⟨k, hk, hd⟩ := List.mem_flatMap.mp q
    have kl := plc_mem h.z hk
    rcases List.mem_cons.mp hd with z | z
    · rw [z]; exact kl
    · rw [List.mem_singleton.mp z]; exact kl
theorem map_step {ws : List Dd} {i : Nat} {x : Dd} (h : ws[i]? = some x) (rs : List Row) : (rs.map (actW (ws.take i))).map (act x) = rs.map (actW (ws.take (i + 1))) := by
  rw [List.map_map]
  exact List.map_congr_left fun r _ => (actW_take h r).symm
theorem map_all {ws : List Dd} (rs : List Row) : rs.map (actW (ws.take ws.length)) = rs.map (actW ws) := by rw [List.take_of_length_le (Nat.le_refl _)]
theorem map_none (rs : List Row) {ws : List Dd} : rs.map (actW (ws.take 0)) = rs := by
  rw [List.take_zero]
  conv => rhs; rw [← List.map_id rs]
  rfl
theorem map_wf {rs : List Row} {ws : List Dd} {i : Nat} (hr : ∀ r ∈ rs, r.wf 9) (ho : ∀ d ∈ ws, d.ok 9) : ∀ r ∈ rs.map (actW (ws.take i)), r.wf 9 := fun r h => by
  obtain ⟨q, hq, rfl⟩ := List.mem_map.mp h
  exact wf_actW (fun d hd => ho d (List.mem_of_mem_take hd)) (hr q hq)
def R_right (K : PySem.W.Frag) (ds : List Dat) (d : Dat) : Prop := ∃ (n m k : Nat) (full rows : List Row) (e : Row), 1 ≤ n ∧ n ≤ 9 ∧ m ≤ 2 ∧ Good n full ∧ rows = full.take k ∧ e.wf n ∧ e.m = false ∧ wt e ≤ m ∧ (wrs n (min m n)).find? (badW n rows (leadsOf n rows) (wrs n (min m n))) = none ∧
  ds = [cdD K n rows (leadsOf n rows), .lst (full.map rowD), .lst (rows.map rowD), .int n, rowD e, .int m] ∧ d = .bl true
theorem sc_law_put_right : FnScope ["_law_code_here", "_law_full", "_law_rows", "_law_n", "_law_wrong_here", "_law_many", "_law_machine", "_law_words", "_law_due", "_law_signs_here", "_law_minus", "_law_xs", "_law_zs", "_law_value", "_law_sure", "_law_guess"] ["_law_code_here", "_law_full", "_law_rows", "_law_n", "_law_wrong_here", "_law_many"] (defScope s_law_put_right) := ⟨rfl, rfl, rfl, by decide +kernel, rfl, by decide +kernel, by decide +kernel⟩
theorem c_law_put_right (T : Wd K mg) : Cal P w K mg base "_law_put_right" 9 ["_law_code_here", "_law_full", "_law_rows", "_law_n", "_law_wrong_here", "_law_many"] (spF (R_right K)) := by
  obtain ⟨fd, F⟩ := F_law_put_right T
  have C_made := c_made (P := P) (w := w) (base := base) T
  have C_telling := c_telling (P := P) (w := w) (base := base) T
  have C_deeds_of := c_deeds_of (P := P) (w := w) (base := base) T
  have C_law_row := c_law_row (P := P) (w := w) (base := base) T
  have C_law_weight := c_law_weight (P := P) (w := w) (base := base) T
  have C_law_signs := c_law_signs (P := P) (w := w) (base := base) T
  obtain ⟨_, OK_Signs_init, B_Signs_init⟩ := i_Signs (P := P) (w := w) (base := base) T
  obtain ⟨_, OK_Signs_do, B_Signs_do⟩ := m_do (P := P) (w := w) (base := base) T
  obtain ⟨_, OK_Signs_rows, B_Signs_rows⟩ := m_rows (P := P) (w := w) (base := base) T
  obtain ⟨_, _, OK_Signs_look, V_look, B_Signs_look⟩ := m_look (P := P) (w := w) (base := base) T
  obtain ⟨_, OK_Code_signs, B_Code_signs⟩ := m_signs (P := P) (w := w) (base := base) T
  obtain ⟨_, OK_Code_guess, B_Code_guess⟩ := m_guess (P := P) (w := w) (base := base) T
  refine ⟨_, fd, G_law_put_right T, fn_pure F sc_law_put_right (fun ds d ⟨_, _, _, _, _, _, _, _, _, _, _, _, _, _, _, e, _⟩ => by rw [e]; rfl) (by decide) (fun cdv A outer s H hr => ⟨_, (pss_cons (ps_set (i := 6) sc_law_put_right.nd rfl (Or.inl rfl) (pe_make (K_Signs T) OK_Signs_init (hr.mono (by decide)) rfl (G_Signs T) B_Signs_init .nil pass0 (pa_cons (pv 3) pa_nil)))
      (pss_cons (ps_for PassesOwn.never rfl (pi_list (pe_f C_made (hr.mono (by decide)) rfl (pa_cons (pe_callTy call_list_of rfl (T_list T) (by decide +kernel) (pa_cons (pv 1) pa_nil)) (pa_cons (pv 3) pa_nil)))) (pg_name (i := 7) sc_law_put_right.nd rfl (Or.inl rfl))
        (pss_one (ps_expr (pe_meth (pv 6) (L_Signs T) (M_Signs_do T) OK_Signs_do (hr.mono (by decide)) B_Signs_do .nil pass0 (pa_cons (pv 7) pa_nil)))))
      (pss_cons (ps_set (i := 8) sc_law_put_right.nd rfl (Or.inl rfl) (pe_f C_telling (hr.mono (by decide)) rfl (pa_cons (pe_meth0 (pv 6) (L_Signs T) (M_Signs_rows T) OK_Signs_rows (hr.mono (by decide)) B_Signs_rows .nil pass0) (pa_cons (pv 3) pa_nil))))
      (pss_cons (ps_for PassesOwn.never rfl (pi_list (pe_f C_deeds_of (hr.mono (by decide)) rfl (pa_cons (pv 4) pa_nil))) (pg_name (i := 7) sc_law_put_right.nd rfl (Or.inl rfl))
        (pss_one (ps_expr (pe_meth (pv 6) (L_Signs T) (M_Signs_do T) OK_Signs_do (hr.mono (by decide)) B_Signs_do .nil pass0 (pa_cons (pv 7) pa_nil)))))
      (pss_cons (ps_set (i := 9) sc_law_put_right.nd rfl (Or.inl rfl) (pe_lst pa_nil))
      (pss_cons (ps_for PassesOwn.never rfl (pi_list (pv 2)) (pg_tup rfl (pgs_cons (pg_name (i := 10) sc_law_put_right.nd rfl (Or.inl rfl)) (pgs_cons (pg_name (i := 11) sc_law_put_right.nd rfl (Or.inl rfl)) (pgs_cons (pg_name (i := 12) sc_law_put_right.nd rfl (Or.inl rfl)) pgs_nil))))
        (pss_cons (ps_asg (pe_meth (pv 6) (L_Signs T) (M_Signs_look T) OK_Signs_look (hr.mono (by decide)) B_Signs_look V_look pass0 (pa_cons (pe_tup (pa_cons pe_int (pa_cons (pv 11) (pa_cons (pv 12) pa_nil)))) pa_nil)) (pg_tup rfl (pgs_cons (pg_name (i := 13) sc_law_put_right.nd rfl (Or.inl rfl)) (pgs_cons (pg_name (i := 14) sc_law_put_right.nd rfl (Or.inl rfl)) pgs_nil))))
      (pss_cons (ps_if (pt_cmpR op_isnot_bl (pv 14) pe_bl (nomark _)) (pss_one (ps_ret pe_bl)) pss_nil)
      (pss_one (ps_expr (pe_bm PySem.F.plainAttrs_list PySem.F.slot_list_append PySem.F.type_list_append mt_append (pv 9) (pa_cons (pe_op op_xor (pv 13) (pv 10)) pa_nil)))))))
      (pss_cons (ps_if (PW.pt (pw_or (pt_cmpR (op_neD (hr.units)) (pv 9) (pe_f C_law_signs (hr.mono (by decide)) rfl (pa_cons (pv 2) (pa_cons (pv 4) pa_nil))) (nomark _)) (pw_or1 (pt_cmpR (op_neD (hr.units)) (pe_meth (pv 0) (L_Code T) (M_Code_signs T) OK_Code_signs (hr.mono (by decide)) B_Code_signs .nil pass0 (pa_cons (pv 4) pa_nil)) (pv 9) (nomark _))))) (pss_one (ps_ret pe_bl)) pss_nil)
      (pss_cons (ps_set (i := 15) sc_law_put_right.nd rfl (Or.inl rfl) (pe_meth (pv 0) (L_Code T) (M_Code_guess T) OK_Code_guess (hr.mono (by decide)) B_Code_guess .nil pass0 (pa_cons (pv 9) (pa_cons (pv 5) pa_nil))))
      (pss_cons (ps_if (PW.pt (pw_or (pt_not (pt_val (pe_f C_law_row (hr.mono (by decide)) rfl (pa_cons (pv 15) (pa_cons (pv 3) pa_nil))))) (pw_or (pt_cmpR op_gt (pe_f C_law_weight (hr.mono (by decide)) rfl (pa_cons (pv 15) pa_nil)) (pe_f C_law_weight (hr.mono (by decide)) rfl (pa_cons (pv 4) pa_nil)) (nomark _)) (pw_or1 (pt_cmpR (op_neD (hr.units)) (pe_f C_law_signs (hr.mono (by decide)) rfl (pa_cons (pv 2) (pa_cons (pv 15) pa_nil))) (pv 9) (nomark _)))))) (pss_one (ps_ret pe_bl)) pss_nil)
      (pss_cons (ps_for PassesOwn.never rfl (pi_list (pe_f C_deeds_of (hr.mono (by decide)) rfl (pa_cons (pv 15) pa_nil))) (pg_name (i := 7) sc_law_put_right.nd rfl (Or.inl rfl))
        (pss_one (ps_expr (pe_meth (pv 6) (L_Signs T) (M_Signs_do T) OK_Signs_do (hr.mono (by decide)) B_Signs_do .nil pass0 (pa_cons (pv 7) pa_nil)))))
      (pss_one (ps_ret (pe_cmpR (op_eqD (hr.units)) (pe_f C_telling (hr.mono (by decide)) rfl (pa_cons (pe_meth0 (pv 6) (L_Signs T) (M_Signs_rows T) OK_Signs_rows (hr.mono (by decide)) B_Signs_rows .nil pass0) (pa_cons (pv 3) pa_nil))) (pv 8) (nomark _)))))))))))))), ?_⟩), F.kp, F.bindsN (fun _ _ _ _ _ _ us hl => match us, hl with | [_, _, _, _, _, _], _ => rfl)⟩
  rintro ds d ⟨n, m, k, full, rows, e, h1, h9, hm, G, hrows, hw, hem, hwt, hp, rfl, rfl⟩ D σ A kr kn
  have h64 : n ≤ 64 := by omega
  -- mathematics
  obtain ⟨Dok, DP⟩ := made_ok h64 G
  generalize hD : madeD n (tell n full) = DD at Dok DP
  have rmem : ∀ r ∈ rows, r ∈ full := fun r hr => by rw [hrows] at hr; exact List.mem_of_mem_take hr
  have rwf : ∀ r ∈ rows, r.wf n := fun r hr => G.wf r (rmem r hr)
  have rI : Ind rows := by rw [hrows]; exact ind_take G.ind k
  have rP : ∀ r ∈ rows, P0 DD r := fun r hr => DP r (rmem r hr)
  have rlen : rows.length ≤ 9 := by rw [hrows, List.length_take, G.len]; omega
  have GK := good_kept h64 Dok
  have Kw9 : ∀ r ∈ keptOf n DD, r.wf 9 := fun r h => wf9 h9 (GK.wf r h)
  have Klen : (keptOf n DD).length ≤ 9 := by rw [GK.len]; omega
  have emem : e ∈ wrs n (min m n) := wrs_mem h64 hw hem (by have := wt_le_n h64 hw; omega)
  obtain ⟨g, gf, gmem, gsig, gK⟩ := none_ok h9 rwf rI Dok rP hp emem
  have gw := wrs_wf g gmem
  have gwt : wt g ≤ wt e := wrs_first h64 (p := fun f => decide (sigs rows f = sigs rows e)) gf emem (decide_eq_true rfl)
  have e9 := wf9 h9 hw
  have g9 := wf9 h9 gw.1
  have r9 : ∀ r ∈ rows, r.wf 9 := fun r hr => wf9 h9 (rwf r hr)
  have full9 : ∀ r ∈ full, r.wf 9 := fun r hr => wf9 h9 (G.wf r hr)
  have W1 : (keptOf n DD).map (actW (ddeeds e)) = wrongd e (keptOf n DD) := List.map_congr_left fun r _ => ddeeds_act e9 r
  have W2 : (wrongd e (keptOf n DD)).map (actW (ddeeds g)) = keptOf n DD := by
    have q : (wrongd e (keptOf n DD)).map (actW (ddeeds g)) = wrongd g (wrongd e (keptOf n DD)) := List.map_congr_left fun r _ => ddeeds_act g9 r
    rw [q]
    exact wrongd_twice gK
  have W1w : ∀ r ∈ wrongd e (keptOf n DD), r.wf 9 := fun r h => by
    obtain ⟨q, hq, rfl⟩ := List.mem_map.mp h
    exact ⟨(Kw9 q hq).x, (Kw9 q hq).z⟩
  have W1l : (wrongd e (keptOf n DD)).length ≤ 9 := by unfold wrongd; rw [List.length_map]; exact Klen
  have invok : ∀ d ∈ inv DD, d.ok n := inv_ok Dok
  have ztok : ∀ r ∈ zrows n, r.wf 9 := fun r h => wf9 h9 ((good_z h64).wf r h)
  have zlen : (zrows n).length ≤ 9 := by rw [(good_z h64).len]; omega
  -- the walk
  have A : At H [] H σ [.dat (cdD K n rows (leadsOf n rows)), .dat (.lst (full.map rowD)), .dat (.lst (rows.map rowD)), .dat (.int n), .dat (rowD e), .dat (.int m), .no, .no, .no, .no, .no, .no, .no, .no, .no, .no] := A
  refine q_make A (noOwn_of rfl) (by show 6 < 16; decide) (ea_cons (ew_var rfl) ea_nil) rfl ⟨n, h1, h9, rfl, rfl, rfl, rfl, rfl⟩ fun l σ H1 A => ?_
  refine q_forN (ds := (inv DD).map wordsD) (fun i Γ => ∃ e7, Γ = [.dat (cdD K n rows (leadsOf n rows)), .dat (.lst (full.map rowD)), .dat (.lst (rows.map rowD)), .dat (.int n), .dat (rowD e), .dat (.int m), .own l (sgD K n ((zrows n).map (actW ((inv DD).take i)))), e7, .no, .no, .no, .no, .no, .no, .no, .no]) A
    (sp_list (Ev.p (Ev.is (ev_call (R := R_made) (ea_cons (Ev.w (ev_cb (ea_cons (ew_var rfl) ea_nil) (rc_list (nl_rows full)))) (ea_cons (ew_var rfl) ea_nil)) ⟨n, full, h9, G, rfl, rfl⟩) (by rw [hD])))) (nl_work _) ⟨_, by rw [map_none]; rfl⟩ ?_ ?_
  · rintro i d Γ gh σ H2 hd ⟨e7, rfl⟩ A
    obtain ⟨x, hx, rfl⟩ := map_at hd
    have A : At _ gh H2 σ [.dat (cdD K n rows (leadsOf n rows)), .dat (.lst (full.map rowD)), .dat (.lst (rows.map rowD)), .dat (.int n), .dat (rowD e), .dat (.int m), .own l (sgD K n ((zrows n).map (actW ((inv DD).take i)))), .dat (wordsD x), .no, .no, .no, .no, .no, .no, .no, .no] := A
    refine st_meth A rfl (noOwn_of rfl) (by decide) (ea_cons (ew_var rfl) ea_nil) (by show (nl (wordsD x) && true) = true; rw [nl_wordsD]; rfl) ⟨n, (zrows n).map (actW ((inv DD).take i)), x, h9, invok x (List.mem_of_getElem? hx), map_wf ztok fun d hd => ok_le (invok d hd) h9, by rw [List.length_map]; omega, rfl, rfl, rfl, rfl, rfl⟩ fun H3 A => ⟨_, ⟨.dat (wordsD x), ?_⟩, A⟩
    rw [map_step hx]
    rfl
  rintro Γ σ H2 ⟨e7, rfl⟩ A
  rw [List.length_map, map_all] at A
  have A : At _ _ H2 σ [.dat (cdD K n rows (leadsOf n rows)), .dat (.lst (full.map rowD)), .dat (.lst (rows.map rowD)), .dat (.int n), .dat (rowD e), .dat (.int m), .own l (sgD K n (keptOf n DD)), e7, .no, .no, .no, .no, .no, .no, .no, .no] := A
  have tl : ∀ (Δ : Vw), Δ[6]? = some (some (sgD K n (keptOf n DD))) → Δ[3]? = some (some (.int (n : Nat))) → Ev (tCall (spF R_telling) [] E0 (tCons (tMeth (He.ga K "Signs") "rows" (spF (R_rows K)) [] E0 (tVar 6) tNil) (tCons (tVar 3) tNil))) Δ (.lst ((tell n (keptOf n DD)).map rowD)) := fun Δ h6 h3 => ev_call (R := R_telling) (ea_cons (Ev.w (ev_meth (dd := []) (ew_var h6) (by decide) ea_nil (fun _ => rfl) ⟨n, keptOf n DD, rfl, rfl⟩)) (ea_cons (ew_var h3) ea_nil)) ⟨n, keptOf n DD, h9, GK, rfl, rfl⟩
  refine q_asg A (d := .lst ((tell n (keptOf n DD)).map rowD)) (Ev.p (tl _ rfl rfl)) fun σ H3 A => ?_
  refine q_forN (ds := (ddeeds e).map wordsD) (fun i Γ => ∃ e7, Γ = [.dat (cdD K n rows (leadsOf n rows)), .dat (.lst (full.map rowD)), .dat (.lst (rows.map rowD)), .dat (.int n), .dat (rowD e), .dat (.int m), .own l (sgD K n ((keptOf n DD).map (actW ((ddeeds e).take i)))), e7, .dat (.lst ((tell n (keptOf n DD)).map rowD)), .no, .no, .no, .no, .no, .no, .no]) A
    (sp_list (Ev.p (ev_call (R := R_deeds_of) (ea_cons (ew_var rfl) ea_nil) ⟨e, e9, rfl, rfl⟩))) (nl_work _) ⟨_, by rw [map_none]; rfl⟩ ?_ ?_
  · rintro i d Γ gh σ H2 hd ⟨e7, rfl⟩ A
    obtain ⟨x, hx, rfl⟩ := map_at hd
    have A : At _ gh H2 σ [.dat (cdD K n rows (leadsOf n rows)), .dat (.lst (full.map rowD)), .dat (.lst (rows.map rowD)), .dat (.int n), .dat (rowD e), .dat (.int m), .own l (sgD K n ((keptOf n DD).map (actW ((ddeeds e).take i)))), .dat (wordsD x), .dat (.lst ((tell n (keptOf n DD)).map rowD)), .no, .no, .no, .no, .no, .no, .no] := A
    refine st_meth A rfl (noOwn_of rfl) (by decide) (ea_cons (ew_var rfl) ea_nil) (by show (nl (wordsD x) && true) = true; rw [nl_wordsD]; rfl) ⟨n, (keptOf n DD).map (actW ((ddeeds e).take i)), x, h9, ddeeds_ok hw x (List.mem_of_getElem? hx), map_wf Kw9 fun d hd => ok_le (ddeeds_ok hw d hd) h9, by rw [List.length_map]; omega, rfl, rfl, rfl, rfl, rfl⟩ fun H3 A => ⟨_, ⟨.dat (wordsD x), ?_⟩, A⟩
    rw [map_step hx]
    rfl
  rintro Γ σ H4 ⟨e7', rfl⟩ A
  rw [List.length_map, map_all, W1] at A
  refine q_own A (ds := []) (ev_lst es_nil) rfl (by show 9 < 16; decide) fun l2 σ H5 A => ?_
  refine q_for3 (ds := rows.map rowD) (fun i Γ => ∃ e10 e11 e12 e13 e14, Γ = [.dat (cdD K n rows (leadsOf n rows)), .dat (.lst (full.map rowD)), .dat (.lst (rows.map rowD)), .dat (.int n), .dat (rowD e), .dat (.int m), .own l (sgD K n (wrongd e (keptOf n DD))), e7', .dat (.lst ((tell n (keptOf n DD)).map rowD)), .own l2 (.lst ((sigs (rows.take i) e).map Dat.int)), e10, e11, e12, e13, e14, .no]) A
    (sp_list (ep_var rfl)) (nl_rows _) ⟨_, _, _, _, _, rfl⟩ (fun i d h => by obtain ⟨p, _, e⟩ := map_at h; exact ⟨_, _, _, e⟩) ?_ ?_
  · rintro i d1 d2 d3 Γ gh σ H6 hd ⟨e10, e11, e12, e13, e14, rfl⟩ A
    obtain ⟨c, hc, q⟩ := map_at hd
    injection q with q
    injection q with q1 q
    injection q with q2 q
    injection q with q3 _
    subst q1 q2 q3
    have cm := List.mem_of_getElem? hc
    have ci := (List.getElem?_eq_some_iff.mp hc).1
    have A : At _ gh H6 σ [.dat (cdD K n rows (leadsOf n rows)), .dat (.lst (full.map rowD)), .dat (.lst (rows.map rowD)), .dat (.int n), .dat (rowD e), .dat (.int m), .own l (sgD K n (wrongd e (keptOf n DD))), e7', .dat (.lst ((tell n (keptOf n DD)).map rowD)), .own l2 (.lst ((sigs (rows.take i) e).map Dat.int)), .dat (.int (b2i c.m)), .dat (.int (c.x : Nat)), .dat (.int (c.z : Nat)), e13, e14, .no] := A
    have lk := look_wi h64 Dok (rwf c cm) (rP c cm) e
    have lv : val n (wrongd e (keptOf n DD)) ⟨false, c.x, c.z⟩ = (c.m ^^ ac e c) := look_value h64 Dok (rwf c cm) (rP c cm) e
    refine q_tup2 A (d1 := .int (b2i (c.m ^^ ac e c))) (d2 := .bl true) (Ev.p (ev_meth (R := R_look K) (ns := ["many", "kept"]) (fds := [.int n, .lst ((wrongd e (keptOf n DD)).map rowD)]) (ds := [rowD ⟨false, c.x, c.z⟩]) (dd := [.non]) (ew_var rfl) (by decide) (ea_cons (Ev.w (ev_tup (es_cons ev_int (es_cons (ev_var rfl rfl) (es_cons (ev_var rfl rfl) es_nil))) (Nat.le_of_ble_eq_true rfl))) ea_nil) (fun _ => ⟨_, _, rfl, rfl, rfl⟩) ⟨n, wrongd e (keptOf n DD), ⟨false, c.x, c.z⟩, ⟨h9, lk.mono fun _ => trivial, by omega⟩, rfl, ind_letter (r := c) rI cm, rfl, by rw [lv]⟩)) fun σ H7 A => ?_
    refine q_skip A (EvT.is (et_test (Ev.w (ev_isnotB (a := true) (b := true) (ew_var rfl) ev_bl.w))) rfl) fun H8 A => ?_
    refine st_app A rfl (d := .int (b2i (ac e c))) (Ev.is (ev_I0 (f := Builtin.bitXor) (ew_var rfl) (ew_var rfl)) (by
      rw [nb_bxor]
      congr 2
      cases c.m <;> cases ac e c <;> rfl)) rfl (by unfold sigs; rw [List.length_map, List.length_map, List.length_take]; omega) fun H9 A => ⟨_, ⟨.dat (.int (b2i c.m)), .dat (.int (c.x : Nat)), .dat (.int (c.z : Nat)), .dat (.int (b2i (c.m ^^ ac e c))), .dat (.bl true), ?_⟩, A⟩
    have es : sigs (rows.take (i + 1)) e = sigs (rows.take i) e ++ [b2i (ac e c)] := by
      unfold sigs
      rw [List.take_add_one, hc, List.map_append]
      rfl
    rw [es, List.map_append]
    rfl
  rintro Γ σ H6 ⟨e10, e11, e12, e13, e14, rfl⟩ A
  rw [List.length_map, List.take_of_length_le (Nat.le_refl _)] at A
  have A := ((((((A.freeze (i := 9) rfl).weaken (i := 7)).weaken (i := 10)).weaken (i := 11)).weaken (i := 12)).weaken (i := 13)).weaken (i := 14)
  have A : At _ _ H6 σ [.dat (cdD K n rows (leadsOf n rows)), .dat (.lst (full.map rowD)), .dat (.lst (rows.map rowD)), .dat (.int n), .dat (rowD e), .dat (.int m), .own l (sgD K n (wrongd e (keptOf n DD))), .no, .dat (.lst ((tell n (keptOf n DD)).map rowD)), .dat (.lst ((sigs rows e).map Dat.int)), .no, .no, .no, .no, .no, .no] := A
  have sv : ∀ (Δ : Vw) (j : Nat) (r : Row), Δ[2]? = some (some (.lst (rows.map rowD))) → Δ[j]? = some (some (rowD r)) → r.wf 9 → Ev (tCall (spF R_lsigns) [] E0 (tCons (tVar 2) (tCons (tVar j) tNil))) Δ (.lst ((sigs rows r).map Dat.int)) := fun Δ j r h0 h hr => ev_call (R := R_lsigns) (ea_cons (ew_var h0) (ea_cons (ew_var h) ea_nil)) ⟨rows, r, r9, hr, by omega, rfl, rfl⟩
  refine q_skip A (EvT.is (et_or (a := !decide (sigs rows e = sigs rows e)) (et_test (Ev.w (ev_neInts (ew_var rfl) (Ev.w (sv _ 4 e rfl rfl e9))))) fun _ => (et_test (Ev.w (ev_neInts (rs := sigs rows e) (ss := sigs rows e) (Ev.w (ev_meth (R := R_signs K) (dd := []) (ew_var rfl) (by decide) (ea_cons (ew_var rfl) ea_nil) (fun _ => rfl) ⟨n, rows, leadsOf n rows, e, r9, e9, by omega, rfl, rfl⟩)) (ew_var rfl))))) (by rw [decide_eq_true rfl]; rfl)) fun H7 A => ?_
  refine q_asg A (d := rowD g) (Ev.p (ev_meth (R := R_guess K) (dd := []) (ew_var rfl) (by decide) (ea_cons (ew_var rfl) (ea_cons (ew_var rfl) ea_nil)) (fun _ => rfl) ⟨n, m, rows, leadsOf n rows, sigs rows e, g, h9, hm, r9, by omega, gf, rfl, rfl⟩)) fun σ H8 A => ?_
  have wv : ∀ (Δ : Vw) (j : Nat) (r : Row), Δ[j]? = some (some (rowD r)) → r.wf 9 → Ev (tCall (spF R_weight) [] E0 (tCons (tVar j) tNil)) Δ (.int (wt r)) := fun Δ j r h hr => ev_call (R := R_weight) (ea_cons (ew_var h) ea_nil) ⟨r, hr, rfl, rfl⟩
  refine q_skip A (EvT.is (et_or (a := !true) (et_not (et_test (Ev.w (ev_call (R := R_lrow) (ea_cons (ew_var rfl) (ea_cons (ew_var rfl) ea_nil)) ⟨g, n, h9, gw.1, rfl, rfl⟩)))) fun _ => et_or (a := decide (wt g > wt e)) (et_test (Ev.w (ev_B0 (f := fun i j => decide (i > j)) (Ev.w (wv _ 15 g rfl g9)) (Ev.w (wv _ 4 e rfl e9))))) fun _ => (et_test (Ev.w (ev_neInts (Ev.w (sv _ 15 g rfl rfl g9)) (ew_var rfl))))) (by rw [decide_eq_true gsig, decide_eq_false (show ¬ wt g > wt e by omega)]; rfl)) fun H9 A => ?_
  refine q_forN (ds := (ddeeds g).map wordsD) (fun i Γ => ∃ e7, Γ = [.dat (cdD K n rows (leadsOf n rows)), .dat (.lst (full.map rowD)), .dat (.lst (rows.map rowD)), .dat (.int n), .dat (rowD e), .dat (.int m), .own l (sgD K n ((wrongd e (keptOf n DD)).map (actW ((ddeeds g).take i)))), e7, .dat (.lst ((tell n (keptOf n DD)).map rowD)), .dat (.lst ((sigs rows e).map Dat.int)), .no, .no, .no, .no, .no, .dat (rowD g)]) A
    (sp_list (Ev.p (ev_call (R := R_deeds_of) (ea_cons (ew_var rfl) ea_nil) ⟨g, g9, rfl, rfl⟩))) (nl_work _) ⟨_, by rw [map_none]; rfl⟩ ?_ ?_
  · rintro i d Γ gh σ H2 hd ⟨e7, rfl⟩ A
    obtain ⟨x, hx, rfl⟩ := map_at hd
    have A : At _ gh H2 σ [.dat (cdD K n rows (leadsOf n rows)), .dat (.lst (full.map rowD)), .dat (.lst (rows.map rowD)), .dat (.int n), .dat (rowD e), .dat (.int m), .own l (sgD K n ((wrongd e (keptOf n DD)).map (actW ((ddeeds g).take i)))), .dat (wordsD x), .dat (.lst ((tell n (keptOf n DD)).map rowD)), .dat (.lst ((sigs rows e).map Dat.int)), .no, .no, .no, .no, .no, .dat (rowD g)] := A
    refine st_meth A rfl (noOwn_of rfl) (by decide) (ea_cons (ew_var rfl) ea_nil) (by show (nl (wordsD x) && true) = true; rw [nl_wordsD]; rfl) ⟨n, (wrongd e (keptOf n DD)).map (actW ((ddeeds g).take i)), x, h9, ddeeds_ok gw.1 x (List.mem_of_getElem? hx), map_wf W1w fun d hd => ok_le (ddeeds_ok gw.1 d hd) h9, by rw [List.length_map]; omega, rfl, rfl, rfl, rfl, rfl⟩ fun H3 A => ⟨_, ⟨.dat (wordsD x), ?_⟩, A⟩
    rw [map_step hx]
    rfl
  rintro Γ σ H10 ⟨e7, rfl⟩ A
  rw [List.length_map, map_all, W2] at A
  exact st_ret A (Ev.is (ev_eqRows (rs := tell n (keptOf n DD)) (ss := tell n (keptOf n DD)) (Ev.w (tl _ rfl rfl)) (ew_var rfl)) (by rw [decide_eq_true rfl])) kr

end
end K92
end
section
set_option maxHeartbeats 4000000

namespace K92
open PySem PySem.Spec PyProof.Rows L2
section
variable {P : Program} {w : World} {K : PySem.W.Frag} {mg : Str → Option Value} {base : Heap}
/-! ### the law -/
section
variable {H0 H H1 : Hp} {gh g : List (V × Dat)} {σ : L2.St} {Γ : List En} {D : Ends} {i : Nat}
theorem q_makeC {uu : TS} {n : Nat} {rs : List Row} {t : TA} {E : XK} (A : At H0 gh H σ Γ) (no : NoOwn Γ) (hz : i < Γ.length) (ha : EvA t (view Γ) [.int n, .lst (rs.map rowD)]) (C : CodeOk n rs) (k : ∀ l σ' H', At H0 gh H' σ' (Γ.set i (.own l (cdD K n rs (leadsOf n rs)))) → uu D σ' H') :
    tSeq (tAsg (tMake (He.ga K "Code") (spCode K) [] E t) (gName i)) uu D σ H := ha σ H A.sv _ fun us H1 e qa => fun x dx hx hdx ne => by
  have s2 : Same H1 (upd (upd H1 dx (.own x)) x (.ins (He.ga K "Code") dx [])) := fun a o h => by
    rw [upd_ne (ne_of_none h hx), upd_ne (ne_of_none h hdx)]; exact h
  obtain ⟨v1, r, rfl, q1, v2, r2, rfl, q2, e2⟩ := qa
  obtain rfl : r2 = [] := e2
  obtain rfl : v1 = V.int n := q1
  refine ⟨x, dx, v2, n, rs, rfl, C, upd_same, q2.go (fun a o _ h => ⟨ne_of_none h hx, s2 a o h⟩) (fun a xs h => s2 a _ h), fun H' s h' => ⟨rfl, ?_⟩⟩
  refine k x _ H' ((A.mono e).ownW no (fun a o h => ?_) hx ?_ hz)
  · exact s a o (by unfold wo; rw [if_neg (ne_of_none h hx)]; exact s2 a o h)
  · obtain ⟨dx', ys, h1, h2, q⟩ := h'
    exact ⟨dx', ys, h1, h2.symm, q⟩
end
def R_law (K : PySem.W.Frag) (ds : List Dat) (d : Dat) : Prop := ∃ ns : List Int, ns.length ≤ 63 ∧ ds = [.sq K ns] ∧ d = .bl true
theorem cut_ints {ns : List Int} {lo hi : Option Int} : ∃ xs : List Int, cutD (ns.map Dat.int) lo hi = xs.map Dat.int ∧ xs.length ≤ ns.length := by
  unfold cutD
  rw [← List.map_drop, ← List.map_take]
  exact ⟨_, rfl, by rw [List.length_take, List.length_drop]; omega⟩
theorem sc_law : FnScope ["_law_script", "_law_n", "_law_full", "_law_many_rows", "_law_rows", "_law_many", "_law_code_here", "_law_found", "_law_cell", "_law_wrong_here"] ["_law_script"] (defScope s_law) := ⟨rfl, rfl, rfl, by decide +kernel, rfl, by decide +kernel, by decide +kernel⟩
theorem ok_law (T : Wd K mg) {fd : FuncData} (F : FunD K "law" "law" (defArgs s_law) (defBody s_law) (defScope s_law) [] [] (He.ga K "law") fd) : FnOk P w K mg base CX0 10 (He.ga K "law") fd ["_law_script"] (spF (R_law K)) := by
  have C_law_code := c_law_code (P := P) (w := w) (base := base) T
  have C_law_cell_at := c_law_cell_at (P := P) (w := w) (base := base) T
  have C_law_parting := c_law_parting (P := P) (w := w) (base := base) T
  have C_law_wrong := c_law_wrong (P := P) (w := w) (base := base) T
  have C_law_put_right := c_law_put_right (P := P) (w := w) (base := base) T
  obtain ⟨_, OK_Code_init, B_Code_init⟩ := i_Code (P := P) (w := w) (base := base) T
  obtain ⟨_, OK_Code_parting_wrongs, B_Code_parting_wrongs⟩ := m_parting (P := P) (w := w) (base := base) T
  refine fn_pure F sc_law (fun ds d ⟨_, _, e, _⟩ => by rw [e]; rfl) (by decide) (fun cdv A outer s H hr => ⟨_, (pss_cons (ps_asg (pe_f C_law_code (hr.mono (by decide)) rfl (pa_cons (pv 0) pa_nil)) (pg_tup rfl (pgs_cons (pg_name (i := 1) sc_law.nd rfl (Or.inl rfl)) (pgs_cons (pg_name (i := 2) sc_law.nd rfl (Or.inl rfl)) (pgs_cons (pg_name (i := 3) sc_law.nd rfl (Or.inl rfl)) pgs_nil)))))
      (pss_cons (ps_set (i := 4) sc_law.nd rfl (Or.inl rfl) (pe_slice sl_list (pv 2) po_none (po_some (pv 3))))
      (pss_cons (ps_set (i := 5) sc_law.nd rfl (Or.inl rfl) (pe_op op_mod (pe_f C_law_cell_at (hr.mono (by decide)) rfl (pa_cons (pv 0) (pa_cons pe_int pa_nil))) pe_int))
      (Evl.pss_cut (ps_if (pt_cmpR op_eq (pv 1) pe_int (nomark _)) (pss_one (ps_set (i := 5) sc_law.nd rfl (Or.inl rfl) (pe_op op_mod (pv 5) pe_int))) pss_nil)
      (pss_cons (ps_set (i := 6) sc_law.nd rfl (Or.inl rfl) (pe_make (K_Code T) OK_Code_init (hr.mono (by decide)) rfl (G_Code T) B_Code_init .nil pass0 (pa_cons (pv 1) (pa_cons (pe_callTy call_list_of rfl (T_list T) (by decide +kernel) (pa_cons (pv 4) pa_nil)) pa_nil))))
      (pss_cons (ps_set (i := 7) sc_law.nd rfl (Or.inl rfl) (pe_meth (pv 6) (L_Code T) (M_Code_parting_wrongs T) OK_Code_parting_wrongs (hr.mono (by decide)) B_Code_parting_wrongs .nil pass0 (pa_cons (pv 5) pa_nil)))
      (pss_cons (ps_if (pt_cmpR op_notN (pv 7) pe_non (nomark _)) (pss_one (ps_ret (pe_f C_law_parting (hr.mono (by decide)) rfl (pa_cons (pv 4) (pa_cons (pv 7) (pa_cons (pv 1) (pa_cons (pv 5) pa_nil))))))) pss_nil)
      (pss_cons (ps_for PassesOwn.never rfl (pi_list (pe_op op_cat (pe_slice sl_list (pv 0) (po_some pe_int) (po_some pe_int)) (pe_lst (pa_cons pe_int pa_nil)))) (pg_name (i := 8) sc_law.nd rfl (Or.inl rfl))
        (pss_cons (ps_set (i := 9) sc_law.nd rfl (Or.inl rfl) (pe_f C_law_wrong (hr.mono (by decide)) rfl (pa_cons (pv 8) (pa_cons (pv 1) (pa_cons (pv 5) pa_nil)))))
      (pss_one (ps_if (pt_not (pt_val (pe_f C_law_put_right (hr.mono (by decide)) rfl (pa_cons (pv 6) (pa_cons (pv 2) (pa_cons (pv 4) (pa_cons (pv 1) (pa_cons (pv 9) (pa_cons (pv 5) pa_nil))))))))) (pss_one (ps_ret pe_bl)) pss_nil))))
      (pss_one (ps_ret pe_bl)))))))))), ?_⟩)
  rintro ds d ⟨ns, hns, rfl, rfl⟩ D σ A kr kn
  have A : At H [] H σ [.dat (.sq K ns), .no, .no, .no, .no, .no, .no, .no, .no, .no] := A
  obtain ⟨h1, h9, G, hm⟩ := code_good (ns.getD 0 0) (ns.getD 1 0)
  refine q_tup3 A (d1 := .int ((codeOf (ns.getD 0 0) (ns.getD 1 0)).n : Nat)) (d2 := .lst ((codeOf (ns.getD 0 0) (ns.getD 1 0)).full.map rowD)) (d3 := .int ((codeOf (ns.getD 0 0) (ns.getD 1 0)).m : Nat)) (Ev.p (ev_call (R := R_code K) (ea_cons (ew_var rfl) ea_nil) ⟨ns, rfl, rfl⟩)) fun σ H1 A => ?_
  generalize codeOf (ns.getD 0 0) (ns.getD 1 0) = cc at *
  obtain ⟨n, full, k⟩ := cc
  dsimp only at h1 h9 G hm A
  have A : At H [] H1 σ [.dat (.sq K ns), .dat (.int (n : Nat)), .dat (.lst (full.map rowD)), .dat (.int (k : Nat)), .no, .no, .no, .no, .no, .no] := A
  -- mathematics
  generalize hrows : full.take k = rows
  have rmem : ∀ r ∈ rows, r ∈ full := fun r hr => by rw [← hrows] at hr; exact List.mem_of_mem_take hr
  have rwf : ∀ r ∈ rows, r.wf n := fun r hr => G.wf r (rmem r hr)
  have r9 : ∀ r ∈ rows, r.wf 9 := fun r hr => wf9 h9 (rwf r hr)
  have rI : Ind rows := by rw [← hrows]; exact ind_take G.ind k
  have rB : Bes rows := fun a ha b hb => G.bes a (rmem a ha) b (rmem b hb)
  have rlen : rows.length ≤ 9 := by rw [← hrows, List.length_take, G.len]; omega
  have CO : CodeOk n rows := code_ok h1 h9 rwf rB rI (by omega)
  -- the walk
  refine q_asg A (d := .lst (rows.map rowD)) (Ev.p (Ev.is (ev_slL (ds := full.map rowD) (lo := none) (hi := some ((k : Nat) : Int)) (ew_var rfl) eo_none (eo_some (ew_var rfl)) (nl_rows full)) (by rw [cut_head (by rw [List.length_map, G.len]; exact hm), ← List.map_take, hrows]))) fun σ H2 A => ?_
  obtain ⟨m0, hm0⟩ : ∃ m0 : Nat, (ns.getD 2 0) % 3 = (m0 : Int) ∧ m0 ≤ 2 := by
    have p1 := Int.emod_nonneg (ns.getD 2 0) (show (3 : Int) ≠ 0 by decide)
    have p2 := Int.emod_lt_of_pos (ns.getD 2 0) (show (0 : Int) < 3 by decide)
    exact ⟨((ns.getD 2 0) % 3).toNat, by omega, by omega⟩
  refine q_asg A (d := .int (m0 : Nat)) (Ev.p (Ev.is (ev_I (C := fun _ j => 0 < j) (f := fun i j => i % j) (Ev.w (ev_call (R := R_cell K) (ea_cons (ew_var rfl) (ea_cons ev_int.w ea_nil)) ⟨ns, 2, rfl, rfl⟩)) ev_int.w (by show (0 : Int) < 3; decide)) (by rw [hm0.1]))) fun σ H3 A => ?_
  have A : At H [] H3 σ [.dat (.sq K ns), .dat (.int (n : Nat)), .dat (.lst (full.map rowD)), .dat (.int (k : Nat)), .dat (.lst (rows.map rowD)), .dat (.int (m0 : Nat)), .no, .no, .no, .no] := A
  obtain ⟨m, m2, cutm⟩ : ∃ m : Nat, m ≤ 2 ∧ (if n = 9 then m0 % 2 else m0) = m := ⟨_, by split <;> omega, rfl⟩
  refine st_cut (Γ' := [.dat (.sq K ns), .dat (.int (n : Nat)), .dat (.lst (full.map rowD)), .dat (.int (k : Nat)), .dat (.lst (rows.map rowD)), .dat (.int (m : Nat)), .no, .no, .no, .no]) A ?_ fun σ H4 A => ?_
  · refine st_if A (b := decide ((n : Int) = 9)) (et_test (Ev.w (ev_eqI (ew_var rfl) ev_int.w))) (fun hb H4 A => ?_) (fun hb H4 A => ?_)
    · have h : n = 9 := by have := of_decide_eq_true hb; omega
      rw [if_pos h] at cutm
      exact st_asg A (d := .int (m : Nat)) (Ev.p (Ev.is (ev_I (C := fun _ j => 0 < j) (f := fun i j => i % j) (ew_var rfl) ev_int.w (by show (0 : Int) < 2; decide)) (by rw [← cutm]; rfl))) fun σ H5 A => A
    · have h : ¬ n = 9 := by have := of_decide_eq_false hb; omega
      rw [if_neg h] at cutm
      rw [← cutm]
      exact st_next A
  refine q_makeC A (noOwn_of rfl) (by show 6 < 10; decide) (ea_cons (ew_var rfl) (ea_cons (Ev.w (ev_cb (ea_cons (ew_var rfl) ea_nil) (rc_list (nl_rows rows)))) ea_nil)) CO fun l σ H5 A => ?_
  have A := A.freeze (i := 6) rfl
  have A : At H [] H5 σ [.dat (.sq K ns), .dat (.int (n : Nat)), .dat (.lst (full.map rowD)), .dat (.int (k : Nat)), .dat (.lst (rows.map rowD)), .dat (.int (m : Nat)), .dat (cdD K n rows (leadsOf n rows)), .no, .no, .no] := A
  refine q_asg A (d := partD n rows (leadsOf n rows) (wrs n (min m n))) (Ev.p (ev_meth (R := R_parting K) (dd := []) (ew_var rfl) (by decide) (ea_cons (ew_var rfl) ea_nil) (fun _ => rfl) ⟨n, m, rows, leadsOf n rows, h9, m2, r9, by omega, rfl, rfl⟩)) fun σ H6 A => ?_
  have A : At H [] H6 σ [.dat (.sq K ns), .dat (.int (n : Nat)), .dat (.lst (full.map rowD)), .dat (.int (k : Nat)), .dat (.lst (rows.map rowD)), .dat (.int (m : Nat)), .dat (cdD K n rows (leadsOf n rows)), .dat (partD n rows (leadsOf n rows) (wrs n (min m n))), .no, .no] := A
  rcases part_ok (m := min m n) h9 rwf rI with ⟨ep, hp⟩ | ⟨f, e, s, ep, hf, he, hs, hsg, hbs, hne⟩
  · rw [ep] at A
    refine q_skip A (EvT.is (et_test (Ev.w (ev_notN (d := .non) (ew_var rfl)))) rfl) fun H7 A => ?_
    obtain ⟨xs, ex, lx⟩ := cut_ints (ns := ns) (lo := some 3) (hi := some 9)
    refine q_forN (ds := (xs ++ [0]).map Dat.int) (fun i Γ => ∃ e8 e9, Γ = [.dat (.sq K ns), .dat (.int (n : Nat)), .dat (.lst (full.map rowD)), .dat (.int (k : Nat)), .dat (.lst (rows.map rowD)), .dat (.int (m : Nat)), .dat (cdD K n rows (leadsOf n rows)), .dat .non, e8, e9]) A
      (sp_list (Ev.p (Ev.is (ev_cat (ds := xs.map Dat.int) (es := [.int 0]) (Ev.w (Ev.is (ev_slS (lo := some 3) (hi := some 9) (ew_var rfl) (eo_some ev_int.w) (eo_some ev_int.w)) (by rw [ex]))) (Ev.w (ev_lst (es_cons ev_int es_nil))) (nl_ints _) rfl (by rw [List.length_map]; show _ + 1 ≤ _; omega)) (by rw [List.map_append]; rfl)))) (nl_ints _) ⟨_, _, rfl⟩ ?_ ?_
    · rintro i d Γ gh σ H8 hd ⟨e8, e9, rfl⟩ A
      obtain ⟨c, hc, rfl⟩ := map_at hd
      have A : At _ gh H8 σ [.dat (.sq K ns), .dat (.int (n : Nat)), .dat (.lst (full.map rowD)), .dat (.int (k : Nat)), .dat (.lst (rows.map rowD)), .dat (.int (m : Nat)), .dat (cdD K n rows (leadsOf n rows)), .dat .non, .dat (.int c), e9] := A
      refine q_asg A (d := rowD (wrongOf c n m)) (Ev.p (ev_call (R := R_wrong) (ea_cons (ew_var rfl) (ea_cons (ew_var rfl) (ea_cons (ew_var rfl) ea_nil))) ⟨c, n, m, h1, h9, by omega, rfl, rfl⟩)) fun σ H9 A => ?_
      obtain ⟨w1, w2, w3⟩ := wrong_ok (c := c) (m := m) h1
      refine st_skip A (EvT.is (et_not (et_test (Ev.w (ev_call (R := R_right K) (ea_cons (ew_var rfl) (ea_cons (ew_var rfl) (ea_cons (ew_var rfl) (ea_cons (ew_var rfl) (ea_cons (ew_var rfl) (ea_cons (ew_var rfl) ea_nil)))))) ⟨n, m, k, full, rows, wrongOf c n m, h1, h9, m2, G, hrows.symm, w1, w2, w3, hp, rfl, rfl⟩)))) rfl) fun H10 A => ⟨_, ⟨_, _, rfl⟩, A⟩
    · rintro Γ σ H8 ⟨e8, e9, rfl⟩ A
      exact st_ret A ev_bl kr
  · rw [ep] at A
    refine q_ifR A (b := true) (et_test (Ev.w (ev_notN (d := .tup [rowD f, rowD e, rowD s]) (ew_var rfl)))) (fun _ H7 A => ?_) (fun z => by cases z)
    exact st_ret A (ev_call (R := R_lpart) (ea_cons (ew_var rfl) (ea_cons (ew_var rfl) (ea_cons (ew_var rfl) (ea_cons (ew_var rfl) ea_nil)))) ⟨n, m, rows, f, e, s, h9, r9, by omega, ⟨hf.1, hf.2.1, by have := hf.2.2; omega⟩, ⟨he.1, he.2.1, by have := he.2.2; omega⟩, hs, hsg, hbs, hne, rfl, rfl⟩) kr

end
end K92
end
open PySem PySem.W PySem.Calls PyProof.Rows
set_option maxRecDepth 100000 in
set_option maxHeartbeats 0 in
theorem PySem.Challenge.cw_twinwires_k92_whole_what_went_wrong_is_p_holds : PySem.Challenge.rw_twinwires_k92_whole_what_went_wrong_is_p.Holds := by
  w_on; o_law
  refine HandSHeadRun.head_any (r := OpenLaw.row PySem.Challenge.rw_twinwires_k92_whole_what_went_wrong_is_p) (q := view (OpenLaw.row PySem.Challenge.rw_twinwires_k92_whole_what_went_wrong_is_p).prog [84]) (H := K92.hk) (ob := K92.ob) (M := 20000) (loose := K92.loose) (d := HandSHeadRun.topDef (OpenLaw.row PySem.Challenge.rw_twinwires_k92_whole_what_went_wrong_is_p).prog 84) (kwd := []) K92.ob_eq
    (by kernel_rfl) (fun s => by kernel_rfl) K92.run (by kernel_rfl) (by kernel_rfl) (by kernel_rfl) (by rfl) (by first | assumption | decide +kernel) (by decide +kernel) ⟨rfl, rfl, rfl, rfl, rfl, by decide +kernel⟩ ?hw ?hc
  case hw => w_witness2
  case hc =>
    refine L2.walk_ofE (l := PySem.Challenge.rw_twinwires_k92_whole_what_went_wrong_is_p) (n := 63) (k := 10) (x := "_law_script") (CX := L2.CX0) rfl (by decide) (by kernel_rfl) ⟨rfl, by decide, by decide⟩ ?F (fun _ _ _ _ z => z)
    intro w mg fa h Y G hmg0
    obtain ⟨K, KX, c, ex⟩ := Y
    have hmg : mg ("law" : PySem.Str) = some (.ref fa) := by
      have e : (HandSHeadRun.topDef (OpenLaw.row PySem.Challenge.rw_twinwires_k92_whole_what_went_wrong_is_p).prog 84).name = ("law" : PySem.Str) := by kernel_rfl
      rw [← e]
      exact hmg0
    have T : K92.Wd K mg := ⟨⟨h, KX, G, c, ex⟩⟩
    obtain ⟨fd, F⟩ := K92.F_law T
    have e := hmg.symm.trans (K92.G_law T)
    cases e
    have b := L2.FunD.bindsA (ps := ["_law_script"]) F fun _ _ _ _ _ _ us hl => match us, hl with | [_], _ => rfl
    exact ⟨K, fd, K92.spF (K92.R_law K), KX, fun s v => b s [v] rfl, fun H a ns hl _ hS => ⟨[.sq K ns], .bl true, ⟨_, [], rfl, K92.dq_seq hS, rfl⟩, ⟨ns, hl, rfl, rfl⟩, fun v H' _ q => q⟩, fun base _ _ => K92.ok_law T F⟩
