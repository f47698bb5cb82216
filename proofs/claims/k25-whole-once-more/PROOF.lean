import PyProof.Rows.All
import Wide.All
import OpenK.AllK
import Wide.FinOn
import KE.KStateDown
import Lean
import HandS.ForMost
import HandS.Codes
import HandS.Defaults
import HandS.Nested
import HandS.IsInst
import HandS.TupAny
import HandS.Deep
import HandS.Zip
import HandS.Strs
import HandS.Style
import HandS.More
import HandS.Replace
import HandS.Conv
import HandS.Head0
import HandS.Head1
import HandS.Head2
import HandS.HeadHook1
import HandS.HeadHook2
import HandS.HeadHook3
import HandS.HeadHook4
import HandS.HeadWalk
import PySem.Challenge.RW_runrows_k25_whole_once_more
set_option Elab.async false
set_option linter.all false
set_option maxRecDepth 100000
set_option maxHeartbeats 0

namespace G
open PySem PySem.Spec PyProof.Rows L2
def top (i : Nat) : Stmt := PySem.Challenge.pw_runrows_k25_whole_once_more.main.body.getD i (.Pass ⟨0, 0, 0, 0⟩)
abbrev s_is_lettered : Stmt := top 21
abbrev s_is_word : Stmt := top 22
abbrev s_is_name : Stmt := top 23
abbrev s_is_number : Stmt := top 24
abbrev s_is_value : Stmt := top 25
abbrev s_need_names : Stmt := top 32
abbrev s_is_stretch : Stmt := top 33
abbrev s_need_single : Stmt := top 38
abbrev s_need_on : Stmt := top 39
abbrev s_need_use : Stmt := top 41
abbrev s_joined : Stmt := top 49
abbrev s_need_first : Stmt := top 57
abbrev s_need_name : Stmt := top 58
abbrev s_part_of : Stmt := top 65
abbrev s_renamed : Stmt := top 69
abbrev s_with_ahead : Stmt := top 70
abbrev s_kind_of : Stmt := top 71
abbrev s_kind_in : Stmt := top 72
abbrev s_counts : Stmt := top 73
abbrev s_rows_of : Stmt := top 74
abbrev s_rows_for : Stmt := top 75
abbrev s_placed : Stmt := top 76
abbrev s_law_cell_at : Stmt := top 78
abbrev s_law_mixed : Stmt := top 79
abbrev s_law_seeds : Stmt := top 80
abbrev s_law_word : Stmt := top 81
abbrev s_law_name : Stmt := top 82
abbrev s_law_told : Stmt := top 83
abbrev s_law_spec : Stmt := top 84
abbrev s_law_filled : Stmt := top 85
abbrev s_law_on : Stmt := top 86
abbrev s_law_sheet : Stmt := top 87
abbrev s_law_ahead : Stmt := top 88
abbrev s_law_kind : Stmt := top 89
abbrev s_law_rows : Stmt := top 90
abbrev s_law_put : Stmt := top 91
abbrev s_law_due : Stmt := top 92
abbrev s_law_known : Stmt := top 95
abbrev s_law_shown : Stmt := top 96
abbrev s_law : Stmt := top 97
abbrev s_Given_init : Stmt := inClass (top 51) 0
abbrev s_Part_measured : Stmt := inClass (top 50) 0
abbrev s_Part_inner : Stmt := inClass (top 50) 3
abbrev s_Part_own_names : Stmt := inClass (top 50) 4
abbrev s_Part_names : Stmt := inClass (top 50) 5
abbrev s_Given_told : Stmt := inClass (top 51) 2
abbrev s_Named_init : Stmt := inClass (top 52) 0
abbrev s_Named_own_names : Stmt := inClass (top 52) 1
abbrev s_Named_told : Stmt := inClass (top 52) 4
abbrev s_Turned_init : Stmt := inClass (top 53) 0
abbrev s_Turned_inner : Stmt := inClass (top 53) 1
abbrev s_Turned_told : Stmt := inClass (top 53) 3
abbrev s_Pair_init : Stmt := inClass (top 54) 0
abbrev s_Pair_inner : Stmt := inClass (top 54) 1
abbrev s_Pair_told : Stmt := inClass (top 54) 3
abbrev s_Choice_init : Stmt := inClass (top 55) 0
abbrev s_Choice_inner : Stmt := inClass (top 55) 1
abbrev s_Choice_told : Stmt := inClass (top 55) 3
abbrev s_Before_init : Stmt := inClass (top 60) 0
abbrev s_Before_inner : Stmt := inClass (top 60) 1
abbrev s_Before_told : Stmt := inClass (top 60) 4
abbrev s_Led_init : Stmt := inClass (top 61) 0
abbrev s_Led_inner : Stmt := inClass (top 61) 1
abbrev s_Led_told : Stmt := inClass (top 61) 3
abbrev s_When_init : Stmt := inClass (top 62) 0
abbrev s_When_inner : Stmt := inClass (top 62) 1
abbrev s_When_own_names : Stmt := inClass (top 62) 2
abbrev s_When_told : Stmt := inClass (top 62) 5
abbrev s_Held_init : Stmt := inClass (top 63) 0
abbrev s_Held_inner : Stmt := inClass (top 63) 1
abbrev s_Held_own_names : Stmt := inClass (top 63) 2
abbrev s_Held_told : Stmt := inClass (top 63) 5
abbrev s_Input_init : Stmt := inClass (top 35) 0
abbrev s_Line_borne : Stmt := inClass (top 34) 0
abbrev s_Line_equations : Stmt := inClass (top 34) 1
abbrev s_Line_is_truth : Stmt := inClass (top 34) 2
abbrev s_Row_init : Stmt := inClass (top 36) 0
abbrev s_Row_equations : Stmt := inClass (top 36) 1
abbrev s_Use_init : Stmt := inClass (top 37) 0
abbrev s_Use_borne : Stmt := inClass (top 37) 1
abbrev s_Use_equations : Stmt := inClass (top 37) 2
abbrev s_Use_is_truth : Stmt := inClass (top 37) 3
abbrev s_Sheet_init : Stmt := inClass (top 40) 0
abbrev s_Sheet_all_lines : Stmt := inClass (top 40) 1
abbrev s_Sheet_need_known : Stmt := inClass (top 40) 2
abbrev s_Sheet_names : Stmt := inClass (top 40) 3
abbrev s_Sheet_line : Stmt := inClass (top 40) 4
abbrev s_Book_init : Stmt := inClass (top 42) 0
abbrev s_Book_main : Stmt := inClass (top 42) 1
abbrev s_Book_sheet_of : Stmt := inClass (top 42) 2
def d_is_lettered : He.DefD := ⟨("is_lettered", none), "is_lettered", "is_lettered", defArgs s_is_lettered, defBody s_is_lettered, defScope s_is_lettered, [], []⟩
def d_is_word : He.DefD := ⟨("is_word", none), "is_word", "is_word", defArgs s_is_word, defBody s_is_word, defScope s_is_word, [], []⟩
def d_is_name : He.DefD := ⟨("is_name", none), "is_name", "is_name", defArgs s_is_name, defBody s_is_name, defScope s_is_name, [], []⟩
def d_is_number : He.DefD := ⟨("is_number", none), "is_number", "is_number", defArgs s_is_number, defBody s_is_number, defScope s_is_number, [], []⟩
def d_is_value : He.DefD := ⟨("is_value", none), "is_value", "is_value", defArgs s_is_value, defBody s_is_value, defScope s_is_value, [], []⟩
def d_need_names : He.DefD := ⟨("need_names", none), "need_names", "need_names", defArgs s_need_names, defBody s_need_names, defScope s_need_names, [], []⟩
def d_is_stretch : He.DefD := ⟨("is_stretch", none), "is_stretch", "is_stretch", defArgs s_is_stretch, defBody s_is_stretch, defScope s_is_stretch, [], []⟩
def d_need_single : He.DefD := ⟨("need_single", none), "need_single", "need_single", defArgs s_need_single, defBody s_need_single, defScope s_need_single, [], []⟩
def d_need_on : He.DefD := ⟨("need_on", none), "need_on", "need_on", defArgs s_need_on, defBody s_need_on, defScope s_need_on, [], []⟩
def d_need_use : He.DefD := ⟨("need_use", none), "need_use", "need_use", defArgs s_need_use, defBody s_need_use, defScope s_need_use, [], []⟩
def d_joined : He.DefD := ⟨("joined", none), "joined", "joined", defArgs s_joined, defBody s_joined, defScope s_joined, [], []⟩
def d_need_first : He.DefD := ⟨("need_first", none), "need_first", "need_first", defArgs s_need_first, defBody s_need_first, defScope s_need_first, [], []⟩
def d_need_name : He.DefD := ⟨("need_name", none), "need_name", "need_name", defArgs s_need_name, defBody s_need_name, defScope s_need_name, [], []⟩
def d_part_of : He.DefD := ⟨("part_of", none), "part_of", "part_of", defArgs s_part_of, defBody s_part_of, defScope s_part_of, [], []⟩
def d_renamed : He.DefD := ⟨("renamed", none), "renamed", "renamed", defArgs s_renamed, defBody s_renamed, defScope s_renamed, [], []⟩
def d_with_ahead : He.DefD := ⟨("with_ahead", none), "with_ahead", "with_ahead", defArgs s_with_ahead, defBody s_with_ahead, defScope s_with_ahead, [], []⟩
def d_kind_of : He.DefD := ⟨("kind_of", none), "kind_of", "kind_of", defArgs s_kind_of, defBody s_kind_of, defScope s_kind_of, [], []⟩
def d_kind_in : He.DefD := ⟨("kind_in", none), "kind_in", "kind_in", defArgs s_kind_in, defBody s_kind_in, defScope s_kind_in, [], []⟩
def d_counts : He.DefD := ⟨("counts", none), "counts", "counts", defArgs s_counts, defBody s_counts, defScope s_counts, [], []⟩
def d_rows_of : He.DefD := ⟨("rows_of", none), "rows_of", "rows_of", defArgs s_rows_of, defBody s_rows_of, defScope s_rows_of, [], []⟩
def d_rows_for : He.DefD := ⟨("rows_for", none), "rows_for", "rows_for", defArgs s_rows_for, defBody s_rows_for, defScope s_rows_for, [], []⟩
def d_placed : He.DefD := ⟨("placed", none), "placed", "placed", defArgs s_placed, defBody s_placed, defScope s_placed, [], []⟩
def d_law_cell_at : He.DefD := ⟨("_law_cell_at", none), "_law_cell_at", "_law_cell_at", defArgs s_law_cell_at, defBody s_law_cell_at, defScope s_law_cell_at, [], []⟩
def d_law_mixed : He.DefD := ⟨("_law_mixed", none), "_law_mixed", "_law_mixed", defArgs s_law_mixed, defBody s_law_mixed, defScope s_law_mixed, [], []⟩
def d_law_seeds : He.DefD := ⟨("_law_seeds", none), "_law_seeds", "_law_seeds", defArgs s_law_seeds, defBody s_law_seeds, defScope s_law_seeds, [], []⟩
def d_law_word : He.DefD := ⟨("_law_word", none), "_law_word", "_law_word", defArgs s_law_word, defBody s_law_word, defScope s_law_word, [], []⟩
def d_law_name : He.DefD := ⟨("_law_name", none), "_law_name", "_law_name", defArgs s_law_name, defBody s_law_name, defScope s_law_name, [], []⟩
def d_law_told : He.DefD := ⟨("_law_told", none), "_law_told", "_law_told", defArgs s_law_told, defBody s_law_told, defScope s_law_told, [], []⟩
def d_law_spec : He.DefD := ⟨("_law_spec", none), "_law_spec", "_law_spec", defArgs s_law_spec, defBody s_law_spec, defScope s_law_spec, [], []⟩
def d_law_filled : He.DefD := ⟨("_law_filled", none), "_law_filled", "_law_filled", defArgs s_law_filled, defBody s_law_filled, defScope s_law_filled, [], []⟩
def d_law_on : He.DefD := ⟨("_law_on", none), "_law_on", "_law_on", defArgs s_law_on, defBody s_law_on, defScope s_law_on, [], []⟩
def d_law_sheet : He.DefD := ⟨("_law_sheet", none), "_law_sheet", "_law_sheet", defArgs s_law_sheet, defBody s_law_sheet, defScope s_law_sheet, [], []⟩
def d_law_ahead : He.DefD := ⟨("_law_ahead", none), "_law_ahead", "_law_ahead", defArgs s_law_ahead, defBody s_law_ahead, defScope s_law_ahead, [], []⟩
def d_law_kind : He.DefD := ⟨("_law_kind", none), "_law_kind", "_law_kind", defArgs s_law_kind, defBody s_law_kind, defScope s_law_kind, [], []⟩
def d_law_rows : He.DefD := ⟨("_law_rows", none), "_law_rows", "_law_rows", defArgs s_law_rows, defBody s_law_rows, defScope s_law_rows, [], []⟩
def d_law_put : He.DefD := ⟨("_law_put", none), "_law_put", "_law_put", defArgs s_law_put, defBody s_law_put, defScope s_law_put, [], []⟩
def d_law_due : He.DefD := ⟨("_law_due", none), "_law_due", "_law_due", defArgs s_law_due, defBody s_law_due, defScope s_law_due, [], []⟩
def d_law_known : He.DefD := ⟨("_law_known", none), "_law_known", "_law_known", defArgs s_law_known, defBody s_law_known, defScope s_law_known, [], []⟩
def d_law_shown : He.DefD := ⟨("_law_shown", none), "_law_shown", "_law_shown", defArgs s_law_shown, defBody s_law_shown, defScope s_law_shown, [], []⟩
def d_law : He.DefD := ⟨("law", none), "law", "law", defArgs s_law, defBody s_law, defScope s_law, [], []⟩
def d_Given_init : He.DefD := ⟨("Given", some "__init__"), "__init__", "Given.__init__", defArgs s_Given_init, defBody s_Given_init, defScope s_Given_init, [], []⟩
def d_Given_measured : He.DefD := ⟨("Given", some "measured"), "measured", "Part.measured", defArgs s_Part_measured, defBody s_Part_measured, defScope s_Part_measured, [], []⟩
def d_Given_inner : He.DefD := ⟨("Given", some "inner"), "inner", "Part.inner", defArgs s_Part_inner, defBody s_Part_inner, defScope s_Part_inner, [], []⟩
def d_Given_own_names : He.DefD := ⟨("Given", some "own_names"), "own_names", "Part.own_names", defArgs s_Part_own_names, defBody s_Part_own_names, defScope s_Part_own_names, [], []⟩
def d_Given_names : He.DefD := ⟨("Given", some "names"), "names", "Part.names", defArgs s_Part_names, defBody s_Part_names, defScope s_Part_names, [], []⟩
def d_Given_told : He.DefD := ⟨("Given", some "told"), "told", "Given.told", defArgs s_Given_told, defBody s_Given_told, defScope s_Given_told, [], []⟩
def d_Named_init : He.DefD := ⟨("Named", some "__init__"), "__init__", "Named.__init__", defArgs s_Named_init, defBody s_Named_init, defScope s_Named_init, [], []⟩
def d_Named_measured : He.DefD := ⟨("Named", some "measured"), "measured", "Part.measured", defArgs s_Part_measured, defBody s_Part_measured, defScope s_Part_measured, [], []⟩
def d_Named_inner : He.DefD := ⟨("Named", some "inner"), "inner", "Part.inner", defArgs s_Part_inner, defBody s_Part_inner, defScope s_Part_inner, [], []⟩
def d_Named_own_names : He.DefD := ⟨("Named", some "own_names"), "own_names", "Named.own_names", defArgs s_Named_own_names, defBody s_Named_own_names, defScope s_Named_own_names, [], []⟩
def d_Named_names : He.DefD := ⟨("Named", some "names"), "names", "Part.names", defArgs s_Part_names, defBody s_Part_names, defScope s_Part_names, [], []⟩
def d_Named_told : He.DefD := ⟨("Named", some "told"), "told", "Named.told", defArgs s_Named_told, defBody s_Named_told, defScope s_Named_told, [], []⟩
def d_Turned_init : He.DefD := ⟨("Turned", some "__init__"), "__init__", "Turned.__init__", defArgs s_Turned_init, defBody s_Turned_init, defScope s_Turned_init, [], []⟩
def d_Turned_measured : He.DefD := ⟨("Turned", some "measured"), "measured", "Part.measured", defArgs s_Part_measured, defBody s_Part_measured, defScope s_Part_measured, [], []⟩
def d_Turned_inner : He.DefD := ⟨("Turned", some "inner"), "inner", "Turned.inner", defArgs s_Turned_inner, defBody s_Turned_inner, defScope s_Turned_inner, [], []⟩
def d_Turned_own_names : He.DefD := ⟨("Turned", some "own_names"), "own_names", "Part.own_names", defArgs s_Part_own_names, defBody s_Part_own_names, defScope s_Part_own_names, [], []⟩
def d_Turned_names : He.DefD := ⟨("Turned", some "names"), "names", "Part.names", defArgs s_Part_names, defBody s_Part_names, defScope s_Part_names, [], []⟩
def d_Turned_told : He.DefD := ⟨("Turned", some "told"), "told", "Turned.told", defArgs s_Turned_told, defBody s_Turned_told, defScope s_Turned_told, [], []⟩
def d_Pair_init : He.DefD := ⟨("Pair", some "__init__"), "__init__", "Pair.__init__", defArgs s_Pair_init, defBody s_Pair_init, defScope s_Pair_init, [], []⟩
def d_Pair_measured : He.DefD := ⟨("Pair", some "measured"), "measured", "Part.measured", defArgs s_Part_measured, defBody s_Part_measured, defScope s_Part_measured, [], []⟩
def d_Pair_inner : He.DefD := ⟨("Pair", some "inner"), "inner", "Pair.inner", defArgs s_Pair_inner, defBody s_Pair_inner, defScope s_Pair_inner, [], []⟩
def d_Pair_own_names : He.DefD := ⟨("Pair", some "own_names"), "own_names", "Part.own_names", defArgs s_Part_own_names, defBody s_Part_own_names, defScope s_Part_own_names, [], []⟩
def d_Pair_names : He.DefD := ⟨("Pair", some "names"), "names", "Part.names", defArgs s_Part_names, defBody s_Part_names, defScope s_Part_names, [], []⟩
def d_Pair_told : He.DefD := ⟨("Pair", some "told"), "told", "Pair.told", defArgs s_Pair_told, defBody s_Pair_told, defScope s_Pair_told, [], []⟩
def d_Choice_init : He.DefD := ⟨("Choice", some "__init__"), "__init__", "Choice.__init__", defArgs s_Choice_init, defBody s_Choice_init, defScope s_Choice_init, [], []⟩
def d_Choice_measured : He.DefD := ⟨("Choice", some "measured"), "measured", "Part.measured", defArgs s_Part_measured, defBody s_Part_measured, defScope s_Part_measured, [], []⟩
def d_Choice_inner : He.DefD := ⟨("Choice", some "inner"), "inner", "Choice.inner", defArgs s_Choice_inner, defBody s_Choice_inner, defScope s_Choice_inner, [], []⟩
def d_Choice_own_names : He.DefD := ⟨("Choice", some "own_names"), "own_names", "Part.own_names", defArgs s_Part_own_names, defBody s_Part_own_names, defScope s_Part_own_names, [], []⟩
def d_Choice_names : He.DefD := ⟨("Choice", some "names"), "names", "Part.names", defArgs s_Part_names, defBody s_Part_names, defScope s_Part_names, [], []⟩
def d_Choice_told : He.DefD := ⟨("Choice", some "told"), "told", "Choice.told", defArgs s_Choice_told, defBody s_Choice_told, defScope s_Choice_told, [], []⟩
def d_Before_init : He.DefD := ⟨("Before", some "__init__"), "__init__", "Before.__init__", defArgs s_Before_init, defBody s_Before_init, defScope s_Before_init, [.non], []⟩
def d_Before_measured : He.DefD := ⟨("Before", some "measured"), "measured", "Part.measured", defArgs s_Part_measured, defBody s_Part_measured, defScope s_Part_measured, [], []⟩
def d_Before_inner : He.DefD := ⟨("Before", some "inner"), "inner", "Before.inner", defArgs s_Before_inner, defBody s_Before_inner, defScope s_Before_inner, [], []⟩
def d_Before_own_names : He.DefD := ⟨("Before", some "own_names"), "own_names", "Part.own_names", defArgs s_Part_own_names, defBody s_Part_own_names, defScope s_Part_own_names, [], []⟩
def d_Before_names : He.DefD := ⟨("Before", some "names"), "names", "Part.names", defArgs s_Part_names, defBody s_Part_names, defScope s_Part_names, [], []⟩
def d_Before_told : He.DefD := ⟨("Before", some "told"), "told", "Before.told", defArgs s_Before_told, defBody s_Before_told, defScope s_Before_told, [], []⟩
def d_Led_init : He.DefD := ⟨("Led", some "__init__"), "__init__", "Led.__init__", defArgs s_Led_init, defBody s_Led_init, defScope s_Led_init, [], []⟩
def d_Led_measured : He.DefD := ⟨("Led", some "measured"), "measured", "Part.measured", defArgs s_Part_measured, defBody s_Part_measured, defScope s_Part_measured, [], []⟩
def d_Led_inner : He.DefD := ⟨("Led", some "inner"), "inner", "Led.inner", defArgs s_Led_inner, defBody s_Led_inner, defScope s_Led_inner, [], []⟩
def d_Led_own_names : He.DefD := ⟨("Led", some "own_names"), "own_names", "Part.own_names", defArgs s_Part_own_names, defBody s_Part_own_names, defScope s_Part_own_names, [], []⟩
def d_Led_names : He.DefD := ⟨("Led", some "names"), "names", "Part.names", defArgs s_Part_names, defBody s_Part_names, defScope s_Part_names, [], []⟩
def d_Led_told : He.DefD := ⟨("Led", some "told"), "told", "Led.told", defArgs s_Led_told, defBody s_Led_told, defScope s_Led_told, [], []⟩
def d_When_init : He.DefD := ⟨("When", some "__init__"), "__init__", "When.__init__", defArgs s_When_init, defBody s_When_init, defScope s_When_init, [], []⟩
def d_When_measured : He.DefD := ⟨("When", some "measured"), "measured", "Part.measured", defArgs s_Part_measured, defBody s_Part_measured, defScope s_Part_measured, [], []⟩
def d_When_inner : He.DefD := ⟨("When", some "inner"), "inner", "When.inner", defArgs s_When_inner, defBody s_When_inner, defScope s_When_inner, [], []⟩
def d_When_own_names : He.DefD := ⟨("When", some "own_names"), "own_names", "When.own_names", defArgs s_When_own_names, defBody s_When_own_names, defScope s_When_own_names, [], []⟩
def d_When_names : He.DefD := ⟨("When", some "names"), "names", "Part.names", defArgs s_Part_names, defBody s_Part_names, defScope s_Part_names, [], []⟩
def d_When_told : He.DefD := ⟨("When", some "told"), "told", "When.told", defArgs s_When_told, defBody s_When_told, defScope s_When_told, [], []⟩
def d_Held_init : He.DefD := ⟨("Held", some "__init__"), "__init__", "Held.__init__", defArgs s_Held_init, defBody s_Held_init, defScope s_Held_init, [.non], []⟩
def d_Held_measured : He.DefD := ⟨("Held", some "measured"), "measured", "Part.measured", defArgs s_Part_measured, defBody s_Part_measured, defScope s_Part_measured, [], []⟩
def d_Held_inner : He.DefD := ⟨("Held", some "inner"), "inner", "Held.inner", defArgs s_Held_inner, defBody s_Held_inner, defScope s_Held_inner, [], []⟩
def d_Held_own_names : He.DefD := ⟨("Held", some "own_names"), "own_names", "Held.own_names", defArgs s_Held_own_names, defBody s_Held_own_names, defScope s_Held_own_names, [], []⟩
def d_Held_names : He.DefD := ⟨("Held", some "names"), "names", "Part.names", defArgs s_Part_names, defBody s_Part_names, defScope s_Part_names, [], []⟩
def d_Held_told : He.DefD := ⟨("Held", some "told"), "told", "Held.told", defArgs s_Held_told, defBody s_Held_told, defScope s_Held_told, [], []⟩
def d_Input_init : He.DefD := ⟨("Input", some "__init__"), "__init__", "Input.__init__", defArgs s_Input_init, defBody s_Input_init, defScope s_Input_init, [.non], []⟩
def d_Input_borne : He.DefD := ⟨("Input", some "borne"), "borne", "Line.borne", defArgs s_Line_borne, defBody s_Line_borne, defScope s_Line_borne, [], []⟩
def d_Input_equations : He.DefD := ⟨("Input", some "equations"), "equations", "Line.equations", defArgs s_Line_equations, defBody s_Line_equations, defScope s_Line_equations, [], []⟩
def d_Input_is_truth : He.DefD := ⟨("Input", some "is_truth"), "is_truth", "Line.is_truth", defArgs s_Line_is_truth, defBody s_Line_is_truth, defScope s_Line_is_truth, [], []⟩
def d_Row_init : He.DefD := ⟨("Row", some "__init__"), "__init__", "Row.__init__", defArgs s_Row_init, defBody s_Row_init, defScope s_Row_init, [.non], []⟩
def d_Row_borne : He.DefD := ⟨("Row", some "borne"), "borne", "Line.borne", defArgs s_Line_borne, defBody s_Line_borne, defScope s_Line_borne, [], []⟩
def d_Row_equations : He.DefD := ⟨("Row", some "equations"), "equations", "Row.equations", defArgs s_Row_equations, defBody s_Row_equations, defScope s_Row_equations, [], []⟩
def d_Row_is_truth : He.DefD := ⟨("Row", some "is_truth"), "is_truth", "Line.is_truth", defArgs s_Line_is_truth, defBody s_Line_is_truth, defScope s_Line_is_truth, [], []⟩
def d_Use_init : He.DefD := ⟨("Use", some "__init__"), "__init__", "Use.__init__", defArgs s_Use_init, defBody s_Use_init, defScope s_Use_init, [.non], []⟩
def d_Use_borne : He.DefD := ⟨("Use", some "borne"), "borne", "Use.borne", defArgs s_Use_borne, defBody s_Use_borne, defScope s_Use_borne, [], []⟩
def d_Use_equations : He.DefD := ⟨("Use", some "equations"), "equations", "Use.equations", defArgs s_Use_equations, defBody s_Use_equations, defScope s_Use_equations, [], []⟩
def d_Use_is_truth : He.DefD := ⟨("Use", some "is_truth"), "is_truth", "Use.is_truth", defArgs s_Use_is_truth, defBody s_Use_is_truth, defScope s_Use_is_truth, [], []⟩
def d_Sheet_init : He.DefD := ⟨("Sheet", some "__init__"), "__init__", "Sheet.__init__", defArgs s_Sheet_init, defBody s_Sheet_init, defScope s_Sheet_init, [], []⟩
def d_Sheet_all_lines : He.DefD := ⟨("Sheet", some "all_lines"), "all_lines", "Sheet.all_lines", defArgs s_Sheet_all_lines, defBody s_Sheet_all_lines, defScope s_Sheet_all_lines, [], []⟩
def d_Sheet_need_known : He.DefD := ⟨("Sheet", some "need_known"), "need_known", "Sheet.need_known", defArgs s_Sheet_need_known, defBody s_Sheet_need_known, defScope s_Sheet_need_known, [], []⟩
def d_Sheet_names : He.DefD := ⟨("Sheet", some "names"), "names", "Sheet.names", defArgs s_Sheet_names, defBody s_Sheet_names, defScope s_Sheet_names, [], []⟩
def d_Sheet_line : He.DefD := ⟨("Sheet", some "line"), "line", "Sheet.line", defArgs s_Sheet_line, defBody s_Sheet_line, defScope s_Sheet_line, [], []⟩
def d_Book_init : He.DefD := ⟨("Book", some "__init__"), "__init__", "Book.__init__", defArgs s_Book_init, defBody s_Book_init, defScope s_Book_init, [], []⟩
def d_Book_main : He.DefD := ⟨("Book", some "main"), "main", "Book.main", defArgs s_Book_main, defBody s_Book_main, defScope s_Book_main, [], []⟩
def d_Book_sheet_of : He.DefD := ⟨("Book", some "sheet_of"), "sheet_of", "Book.sheet_of", defArgs s_Book_sheet_of, defBody s_Book_sheet_of, defScope s_Book_sheet_of, [], []⟩
def fn0 : List He.DefD := [d_is_lettered, d_is_word, d_is_name, d_is_number, d_is_value, d_need_names, d_is_stretch, d_need_single, d_need_on, d_need_use, d_joined, d_need_first]
def fn1 : List He.DefD := [d_need_name, d_part_of, d_renamed, d_with_ahead, d_kind_of, d_kind_in, d_counts, d_rows_of, d_rows_for, d_placed, d_law_cell_at, d_law_mixed]
def fn2 : List He.DefD := [d_law_seeds, d_law_word, d_law_name, d_law_told, d_law_spec, d_law_filled, d_law_on, d_law_sheet, d_law_ahead, d_law_kind, d_law_rows, d_law_put]
def fn3 : List He.DefD := [d_law_due, d_law_known, d_law_shown, d_law, d_Given_init, d_Given_measured, d_Given_inner, d_Given_own_names, d_Given_names, d_Given_told, d_Named_init, d_Named_measured]
def fn4 : List He.DefD := [d_Named_inner, d_Named_own_names, d_Named_names, d_Named_told, d_Turned_init, d_Turned_measured, d_Turned_inner, d_Turned_own_names, d_Turned_names, d_Turned_told, d_Pair_init, d_Pair_measured]
def fn5 : List He.DefD := [d_Pair_inner, d_Pair_own_names, d_Pair_names, d_Pair_told, d_Choice_init, d_Choice_measured, d_Choice_inner, d_Choice_own_names, d_Choice_names, d_Choice_told, d_Before_init, d_Before_measured]
def fn6 : List He.DefD := [d_Before_inner, d_Before_own_names, d_Before_names, d_Before_told, d_Led_init, d_Led_measured, d_Led_inner, d_Led_own_names, d_Led_names, d_Led_told, d_When_init, d_When_measured]
def fn7 : List He.DefD := [d_When_inner, d_When_own_names, d_When_names, d_When_told, d_Held_init, d_Held_measured, d_Held_inner, d_Held_own_names, d_Held_names, d_Held_told, d_Input_init, d_Input_borne]
def fn8 : List He.DefD := [d_Input_equations, d_Input_is_truth, d_Row_init, d_Row_borne, d_Row_equations, d_Row_is_truth, d_Use_init, d_Use_borne, d_Use_equations, d_Use_is_truth, d_Sheet_init, d_Sheet_all_lines]
def fn9 : List He.DefD := [d_Sheet_need_known, d_Sheet_names, d_Sheet_line, d_Book_init, d_Book_main, d_Book_sheet_of]
def fn : List He.DefD := fn0 ++ fn1 ++ fn2 ++ fn3 ++ fn4 ++ fn5 ++ fn6 ++ fn7 ++ fn8 ++ fn9
def fa0 : List He.Fa := [.glo "is_lettered", .glo "is_word", .glo "is_name", .glo "is_number", .glo "is_value", .glo "need_names", .glo "is_stretch", .glo "need_single", .glo "need_on", .glo "need_use", .glo "joined", .glo "need_first"]
def fa1 : List He.Fa := [.glo "need_name", .glo "part_of", .glo "renamed", .glo "with_ahead", .glo "kind_of", .glo "kind_in", .glo "counts", .glo "rows_of", .glo "rows_for", .glo "placed", .glo "_law_cell_at", .glo "_law_mixed"]
def fa2 : List He.Fa := [.glo "_law_seeds", .glo "_law_word", .glo "_law_name", .glo "_law_told", .glo "_law_spec", .glo "_law_filled", .glo "_law_on", .glo "_law_sheet", .glo "_law_ahead", .glo "_law_kind", .glo "_law_rows", .glo "_law_put"]
def fa3 : List He.Fa := [.glo "_law_due", .glo "_law_known", .glo "_law_shown", .glo "law", .glo "Given", .glo "Named", .glo "Turned", .glo "Pair", .glo "Choice", .glo "Before", .glo "Led", .glo "When"]
def fa4 : List He.Fa := [.glo "Held", .glo "Input", .glo "Row", .glo "Use", .glo "Sheet", .glo "Book", .free "len", .free "all", .free "isinstance", .free "int", .free "bool", .free "tuple"]
def fa5 : List He.Fa := [.free "str", .free "set", .free "sum", .free "max", .free "zip", .free "list", .free "range", .free "enumerate", .int "LONGEST" (8), .int "MOST_WORDS_names" (4), .int "LEAST" (-128), .int "GREATEST" (127)]
def fa6 : List He.Fa := [.int "MOST_IN" (8), .int "MOST_OUT" (8), .int "MOST_LINES_sheets" (80), .int "MOST_SHEETS" (6), .int "DEEPEST" (10), .int "LARGEST" (40), .int "MOST_LINES_placing" (80), .int "MOST_WORDS_placing" (4), .str "LETTERS" "abcdefghijklmnopqrstuvwxyz", .glo "KEPT", .glo "NUMBERS", .glo "BETWEEN"]
def fa7 : List He.Fa := [.glo "TRUTHS", .cls "Given", .mkr "Given", .noat "Given" "value", .noat "Given" "large", .noat "Given" "deep", .cls "Named", .mkr "Named", .noat "Named" "name", .noat "Named" "large", .noat "Named" "deep", .cls "Turned"]
def fa8 : List He.Fa := [.mkr "Turned", .noat "Turned" "part", .noat "Turned" "large", .noat "Turned" "deep", .cls "Pair", .mkr "Pair", .noat "Pair" "sign", .noat "Pair" "one", .noat "Pair" "other", .noat "Pair" "large", .noat "Pair" "deep", .cls "Choice"]
def fa9 : List He.Fa := [.mkr "Choice", .noat "Choice" "truth", .noat "Choice" "one", .noat "Choice" "other", .noat "Choice" "large", .noat "Choice" "deep", .cls "Before", .mkr "Before", .noat "Before" "part", .noat "Before" "first", .noat "Before" "large", .noat "Before" "deep"]
def fa10 : List He.Fa := [.cls "Led", .mkr "Led", .noat "Led" "head", .noat "Led" "rest", .noat "Led" "large", .noat "Led" "deep", .cls "When", .mkr "When", .noat "When" "part", .noat "When" "name", .noat "When" "large", .noat "When" "deep"]
def fa11 : List He.Fa := [.cls "Held", .mkr "Held", .noat "Held" "part", .noat "Held" "name", .noat "Held" "first", .noat "Held" "large", .noat "Held" "deep", .cls "Input", .mkr "Input", .noat "Input" "name", .noat "Input" "kind", .noat "Input" "on"]
def fa12 : List He.Fa := [.cls "Row", .mkr "Row", .noat "Row" "name", .noat "Row" "kind", .noat "Row" "part", .noat "Row" "on", .cls "Use", .mkr "Use", .noat "Use" "binds", .noat "Use" "module", .noat "Use" "parts", .noat "Use" "on"]
def fa13 : List He.Fa := [.cls "Sheet", .mkr "Sheet", .noat "Sheet" "name", .noat "Sheet" "inputs", .noat "Sheet" "outputs", .noat "Sheet" "lines", .cls "Book", .mkr "Book", .noat "Book" "sheets", .meth "Given" "measured", .meth "Given" "inner", .meth "Given" "own_names"]
def fa14 : List He.Fa := [.meth "Given" "names", .meth "Given" "told", .meth "Named" "measured", .meth "Named" "inner", .meth "Named" "own_names", .meth "Named" "names", .meth "Named" "told", .meth "Turned" "measured", .meth "Turned" "inner", .meth "Turned" "own_names", .meth "Turned" "names", .meth "Turned" "told"]
def fa15 : List He.Fa := [.meth "Pair" "measured", .meth "Pair" "inner", .meth "Pair" "own_names", .meth "Pair" "names", .meth "Pair" "told", .meth "Choice" "measured", .meth "Choice" "inner", .meth "Choice" "own_names", .meth "Choice" "names", .meth "Choice" "told", .meth "Before" "measured", .meth "Before" "inner"]
def fa16 : List He.Fa := [.meth "Before" "own_names", .meth "Before" "names", .meth "Before" "told", .meth "Led" "measured", .meth "Led" "inner", .meth "Led" "own_names", .meth "Led" "names", .meth "Led" "told", .meth "When" "measured", .meth "When" "inner", .meth "When" "own_names", .meth "When" "names"]
def fa17 : List He.Fa := [.meth "When" "told", .meth "Held" "measured", .meth "Held" "inner", .meth "Held" "own_names", .meth "Held" "names", .meth "Held" "told", .meth "Input" "borne", .meth "Input" "equations", .meth "Input" "is_truth", .meth "Row" "borne", .meth "Row" "equations", .meth "Row" "is_truth"]
def fa18 : List He.Fa := [.meth "Use" "borne", .meth "Use" "equations", .meth "Use" "is_truth", .meth "Sheet" "all_lines", .meth "Sheet" "need_known", .meth "Sheet" "names", .meth "Sheet" "line", .meth "Book" "main", .meth "Book" "sheet_of"]
def fa : List He.Fa := fa0 ++ fa1 ++ fa2 ++ fa3 ++ fa4 ++ fa5 ++ fa6 ++ fa7 ++ fa8 ++ fa9 ++ fa10 ++ fa11 ++ fa12 ++ fa13 ++ fa14 ++ fa15 ++ fa16 ++ fa17 ++ fa18
def tf : List He.Defn := [("with_ahead", none)]
def tup_KEPT : List He.Dv := [.str "module", .str "in", .str "out", .str "row", .str "use", .str "end", .str "number", .str "truth", .str "on", .str "yes", .str "no", .str "not", .str "and", .str "or", .str "if", .str "before", .str "then", .str "when", .str "held"]
def tup_NUMBERS : List He.Dv := [.str "+", .str "-", .str "*"]
def tup_BETWEEN : List He.Dv := [.str "<", .str "<="]
def tup_TRUTHS : List He.Dv := [.str "and", .str "or"]
def ex0 (K : PySem.W.Frag) : List Bool := [He.tupB K "KEPT" tup_KEPT, He.tupB K "NUMBERS" tup_NUMBERS, He.tupB K "BETWEEN" tup_BETWEEN, He.tupB K "TRUTHS" tup_TRUTHS, He.eqO (PySem.W.findIn K (.ref (He.ga K "Input")) "__class__") (some (some (.builtin "object.__class__")))]
def ex1 (K : PySem.W.Frag) : List Bool := [decide (PySem.W.mroIn K (He.ga K "Input") (.type "object") = some true), He.eqO (PySem.W.findIn K (.ref (He.ga K "Row")) "__class__") (some (some (.builtin "object.__class__"))), decide (PySem.W.mroIn K (He.ga K "Row") (.type "object") = some true), He.eqO (PySem.W.findIn K (.ref (He.ga K "Use")) "__class__") (some (some (.builtin "object.__class__"))), decide (PySem.W.mroIn K (He.ga K "Use") (.type "object") = some true)]
def ex2 (K : PySem.W.Frag) : List Bool := [He.eqO (PySem.W.specialIn K (.builtin "object.__class__") "__get__") (some (some (.builtin "getset_descriptor.__get__"))), decide (PySem.W.takesIn K (.builtin "object.__class__") = some true), decide (PySem.W.kitOne K (.ref (He.ga K "Input")) (.ref (He.ga K "Input")) = some true), decide (PySem.W.kitOne K (.ref (He.ga K "Input")) (.ref (He.ga K "Row")) = some false), decide (PySem.W.kitOne K (.ref (He.ga K "Input")) (.ref (He.ga K "Use")) = some false)]
def ex3 (K : PySem.W.Frag) : List Bool := [decide (PySem.W.kitOne K (.ref (He.ga K "Row")) (.ref (He.ga K "Input")) = some false), decide (PySem.W.kitOne K (.ref (He.ga K "Row")) (.ref (He.ga K "Row")) = some true), decide (PySem.W.kitOne K (.ref (He.ga K "Row")) (.ref (He.ga K "Use")) = some false), decide (PySem.W.kitOne K (.ref (He.ga K "Use")) (.ref (He.ga K "Input")) = some false), decide (PySem.W.kitOne K (.ref (He.ga K "Use")) (.ref (He.ga K "Row")) = some false)]
def ex4 (K : PySem.W.Frag) : List Bool := [decide (PySem.W.kitOne K (.ref (He.ga K "Use")) (.ref (He.ga K "Use")) = some true)]
def exs (K : PySem.W.Frag) : List Bool := ex0 K ++ ex1 K ++ ex2 K ++ ex3 K ++ ex4 K
def ex (K : PySem.W.Frag) : Bool := (exs K).all id
def loose0 : List Str := ["_wall", "RowError", "NoName", "NoPart", "NoText", "NoSheet", "NoKind", "NoBeat", "Ring", "NoInput", "NoState", "NoClaim"]
def loose1 : List Str := ["TooMany", "KEPT", "LETTERS", "LONGEST", "MOST_WORDS_names", "LEAST", "GREATEST", "is_lettered", "is_word", "is_name", "is_number", "is_value"]
def loose2 : List Str := ["shown_value", "MOST_IN", "MOST_OUT", "MOST_LINES_sheets", "MOST_SHEETS", "need_names", "is_stretch", "Line", "Input", "Row", "Use", "need_single"]
def loose3 : List Str := ["need_on", "Sheet", "need_use", "Book", "DEEPEST", "LARGEST", "NUMBERS", "BETWEEN", "TRUTHS", "joined", "Part", "Given"]
def loose4 : List Str := ["Named", "Turned", "Pair", "Choice", "need_first", "need_name", "first_text", "Before", "Led", "When", "Held", "part_of"]
def loose5 : List Str := ["MOST_LINES_placing", "MOST_WORDS_placing", "renamed", "with_ahead", "kind_of", "kind_in", "counts", "rows_of", "rows_for", "placed", "_law_cell_at", "_law_mixed"]
def loose6 : List Str := ["_law_seeds", "_law_word", "_law_name", "_law_told", "_law_spec", "_law_filled", "_law_on", "_law_sheet", "_law_ahead", "_law_kind", "_law_rows", "_law_put"]
def loose7 : List Str := ["_law_due", "_law_alike", "_law_right", "_law_known", "_law_shown"]
def loose : List Str := loose0 ++ loose1 ++ loose2 ++ loose3 ++ loose4 ++ loose5 ++ loose6 ++ loose7
/-! ### the part of the heap that the facts are read off: the module's names, the classes' names, the code objects -/
def valsOf (o : Obj) : List Addr := match o.data with
  | .dict es _ => es.toList.flatMap fun e => He.refV e.val
  | _ => []
def fnRefs (o : Obj) : List Addr := match o.data with
  | .func fd => He.refV fd.code ++ He.refV fd.defaults
  | .cls cd => [cd.ns]
  | _ => []
def clsVals (g : Addr → Option Obj) (o : Obj) : List Addr := match o.data with
  | .cls cd => (match g cd.ns with
    | some n => valsOf n
    | none => [])
  | _ => []
def viaG (g : Addr → Option Obj) (f : Obj → List Addr) (as : List Addr) : List Addr := as.flatMap fun a => match g a with
  | some o => f o
  | none => []
def onlyF (g : Addr → Option Obj) (as : List Addr) : List Addr := as.filter fun a => match g a with
  | some o => (match o.data with
    | .func _ => true
    | .cls _ => true
    | .seq _ _ => true
    | _ => false)
  | none => false
def as1 (g : Addr → Option Obj) : List Addr := onlyF g (viaG g valsOf [mainGlobals])
def as2 (g : Addr → Option Obj) : List Addr := onlyF g (viaG g (clsVals g) (as1 g))
def asY (g : Addr → Option Obj) : List Addr := mainGlobals :: (as1 g ++ (as2 g ++ (viaG g fnRefs (as1 g) ++ viaG g fnRefs (as2 g))))
/-- the facts, looked up in a part of the heap -/
def seeY (g : Addr → Option Obj) : He.AlX := (He.obsT fa fn [] (He.frT g (asY g)), ex (He.frT g (asY g)) && He.tabsB g tf (He.frT g (asY g)))
theorem says_of {w : World} {h : Heap} (e : seeY h.get? = He.valX fn [] w) : He.SaysX fa fn [] tf ex w h (He.frT h.get? (asY h.get?)) := by
  have hp := Prod.mk.inj (show (He.obsT fa fn [] (He.frT h.get? (asY h.get?)), ex (He.frT h.get? (asY h.get?)) && He.tabsB h.get? tf (He.frT h.get? (asY h.get?))) = (He.valT fn [] w, true) from e)
  have hb := Bool.and_eq_true_iff.mp hp.2
  have each : ∀ p ∈ tf, PySem.W.codeHdIn (He.frT h.get? (asY h.get?)) (He.cT (He.frT h.get? (asY h.get?)) p).1 (He.cT (He.frT h.get? (asY h.get?)) p).2 = true ∧
      ∃ o, h.get? (He.cT (He.frT h.get? (asY h.get?)) p).2 = some o ∧ He.emptyTab o = true := by
    intro p hpm
    have z := Bool.and_eq_true_iff.mp (List.all_eq_true.mp hb.2 p hpm)
    refine ⟨z.1, ?_⟩
    have z2 := z.2
    cases q : h.get? (He.cT (He.frT h.get? (asY h.get?)) p).2 with
    | none => rw [q] at z2; exact absurd z2 (by decide)
    | some o => rw [q] at z2; exact ⟨o, rfl, z2⟩
  refine { t := hp.1, more := hb.1, hd := fun p m => (each p m).1, out := fun p m => ?_, empty := fun p m => ?_ }
  · obtain ⟨_, o, e1, e2⟩ := each p m
    exact He.frT_none e1 e2
  · obtain ⟨_, o, e1, e2⟩ := each p m
    rw [e1, He.emptyTab_eq e2]
def hk : PySem.W.Hook where
  α := He.AlX
  obs := fun s => seeY s.heap.get?
  val := fun w => He.valX fn [] w
  says := fun w h => ∃ K : PySem.W.Frag, K.In h ∧ He.SaysX fa fn [] tf ex w h K
  of := fun _ _ e => ⟨_, He.frT_in, says_of e⟩
  keeps := fun _ _ _ ⟨K, hK, c⟩ k => ⟨K, PySem.W.Frag.In.keeps hK k, ⟨c.t, c.more, c.hd, c.out, fun p hp => k _ _ (c.empty p hp)⟩⟩
def ob (s : PySem.W.SharedT) : He.AlX := seeY (HandSHeadRun.getT s)
theorem ob_eq (s : PySem.W.SharedT) : ob s = hk.obs s.abs := congrArg seeY (funext (HandSHeadRun.getT_eq s))
abbrev R : PySem.W.OpenRow := PySem.W.OpenLaw.row PySem.Challenge.rw_runrows_k25_whole_once_more
/-! ### the head's run, in two looks (each takes less memory than both at once) -/
section
open HandSHeadRun PySem.W
/-- the part of the heap that the facts are read off, behind the top -/
def Ks (s : SharedT) : PySem.W.Frag := He.frT (getT s) (asY (getT s))
noncomputable def endS (w : World) (os : OsState) : Option SharedT := endF (stepQ (denQ tabQ) R.prog w) 20000 R.prog w os
noncomputable def seenS (s : SharedT) := seenQ (PySem.W.view R.prog [97]) loose (importedModules R.prog.main.body) (fun s => xlAt (PySem.W.view R.prog [97]) [] s && recOk R.toRowW.records s) s.abs
theorem run1 (w : World) : ∀ os : OsState, (endS w os).map (fun s => (looksF R.prog (boot_heap w.params) s.abs, seenS s, fa.all fun f => f.ok (Ks s))) = some (true, openGood (PySem.W.view R.prog [97]) loose, true) := by
  intro os
  kernel_rfl
theorem run2 (w : World) : ∀ os : OsState, (endS w os).map (fun s => (fn.all (fun d => d.ok (Ks s)), fn.map (fun d => He.fnW (Ks s) d.at_), ex (Ks s) && He.tabsB (getT s) tf (Ks s))) = some (true, fn.map He.DefD.val, true) := by
  intro os
  kernel_rfl
theorem ob_is {w : World} {s : SharedT} (h1 : fa.all (fun f => f.ok (Ks s)) = true) (h2 : (ex (Ks s) && He.tabsB (getT s) tf (Ks s)) = true) (h3 : (fn.all fun d => d.ok (Ks s)) = true) (h4 : (fn.map fun d => He.fnW (Ks s) d.at_) = fn.map He.DefD.val) : ob s = hk.val w := by
  show (((fa.all (fun f => f.ok (Ks s)) && fn.all (fun d => d.ok (Ks s)), fn.map fun d => He.fnW (Ks s) d.at_), []), ex (Ks s) && He.tabsB (getT s) tf (Ks s)) = (((true, fn.map He.DefD.val), []), true)
  rw [h1, h2, h3, h4]
  rfl
theorem run (w : World) : HandSHeadRun.RunEq R (PySem.W.view R.prog [97]) hk ob 20000 loose w := by
  intro os
  obtain ⟨s, hs, h1⟩ := Option.map_eq_some_iff.mp (run1 w os)
  have h2 := run2 w os
  rw [hs] at h2
  have h2 := Prod.mk.inj (Option.some.inj h2)
  have h3 := Prod.mk.inj h2.2
  have h1 := Prod.mk.inj h1
  have h4 := Prod.mk.inj h1.2
  have e : endF (stepQ (denQ tabQ) R.prog w) 20000 R.prog w os = some s := hs
  rw [e]
  exact congrArg some (Prod.ext h1.1 (Prod.ext h4.1 (ob_is h4.2 h3.2 h2.1 h3.1)))
end
/-- the program's top: a part of the heap that holds, and the facts looked up in it -/
structure Top (K : PySem.W.Frag) (mg : Str → Option Value) : Prop where
  says : He.SaysD fa fn K
  more : ex K = true
  held : ∃ h : Heap, K.In h ∧ h.Ns mainGlobals mg
namespace Top
variable {K : PySem.W.Frag} {mg : Str → Option Value}
theorem glo (T : Top K mg) {x : Str} (i : Nat) (h : fa[i]? = some (.glo x)) : mg x = some (.ref (He.ga K x)) := by
  obtain ⟨_, X, G⟩ := T.held
  exact He.glo_ok X G (T.says.fact i h)
theorem fre (T : Top K mg) {x : Str} (i : Nat) (h : fa[i]? = some (.free x)) : mg x = none := by
  obtain ⟨_, X, G⟩ := T.held
  exact He.free_ok X G (T.says.fact i h)
theorem num (T : Top K mg) {x : Str} {n : Int} (i : Nat) (h : fa[i]? = some (.int x n)) : ∃ u, mg x = some u ∧ RelV (.int n) u := by
  obtain ⟨_, X, G⟩ := T.held
  obtain ⟨t, e⟩ := He.int_ok X G (T.says.fact i h)
  exact ⟨_, e, t, rfl⟩
theorem txt (T : Top K mg) {x z : Str} (i : Nat) (h : fa[i]? = some (.str x z)) : ∃ u, mg x = some u ∧ RelV (.str z) u := by
  obtain ⟨_, X, G⟩ := T.held
  obtain ⟨t, e⟩ := He.str_ok X G (T.says.fact i h)
  exact ⟨_, e, t, rfl⟩
theorem exi (T : Top K mg) {b : Bool} (i : Nat) (h : (exs K)[i]? = some b) : b = true :=
  List.all_eq_true.mp (show (exs K).all id = true from T.more) b (List.mem_of_getElem? h)
theorem g_is_lettered (T : Top K mg) : mg "is_lettered" = some (.ref (He.ga K "is_lettered")) := T.glo 0 rfl
theorem g_is_word (T : Top K mg) : mg "is_word" = some (.ref (He.ga K "is_word")) := T.glo 1 rfl
theorem g_is_name (T : Top K mg) : mg "is_name" = some (.ref (He.ga K "is_name")) := T.glo 2 rfl
theorem g_is_number (T : Top K mg) : mg "is_number" = some (.ref (He.ga K "is_number")) := T.glo 3 rfl
theorem g_is_value (T : Top K mg) : mg "is_value" = some (.ref (He.ga K "is_value")) := T.glo 4 rfl
theorem g_need_names (T : Top K mg) : mg "need_names" = some (.ref (He.ga K "need_names")) := T.glo 5 rfl
theorem g_is_stretch (T : Top K mg) : mg "is_stretch" = some (.ref (He.ga K "is_stretch")) := T.glo 6 rfl
theorem g_need_single (T : Top K mg) : mg "need_single" = some (.ref (He.ga K "need_single")) := T.glo 7 rfl
theorem g_need_on (T : Top K mg) : mg "need_on" = some (.ref (He.ga K "need_on")) := T.glo 8 rfl
theorem g_need_use (T : Top K mg) : mg "need_use" = some (.ref (He.ga K "need_use")) := T.glo 9 rfl
theorem g_joined (T : Top K mg) : mg "joined" = some (.ref (He.ga K "joined")) := T.glo 10 rfl
theorem g_need_first (T : Top K mg) : mg "need_first" = some (.ref (He.ga K "need_first")) := T.glo 11 rfl
theorem g_need_name (T : Top K mg) : mg "need_name" = some (.ref (He.ga K "need_name")) := T.glo 12 rfl
theorem g_part_of (T : Top K mg) : mg "part_of" = some (.ref (He.ga K "part_of")) := T.glo 13 rfl
theorem g_renamed (T : Top K mg) : mg "renamed" = some (.ref (He.ga K "renamed")) := T.glo 14 rfl
theorem g_with_ahead (T : Top K mg) : mg "with_ahead" = some (.ref (He.ga K "with_ahead")) := T.glo 15 rfl
theorem g_kind_of (T : Top K mg) : mg "kind_of" = some (.ref (He.ga K "kind_of")) := T.glo 16 rfl
theorem g_kind_in (T : Top K mg) : mg "kind_in" = some (.ref (He.ga K "kind_in")) := T.glo 17 rfl
theorem g_counts (T : Top K mg) : mg "counts" = some (.ref (He.ga K "counts")) := T.glo 18 rfl
theorem g_rows_of (T : Top K mg) : mg "rows_of" = some (.ref (He.ga K "rows_of")) := T.glo 19 rfl
theorem g_rows_for (T : Top K mg) : mg "rows_for" = some (.ref (He.ga K "rows_for")) := T.glo 20 rfl
theorem g_placed (T : Top K mg) : mg "placed" = some (.ref (He.ga K "placed")) := T.glo 21 rfl
theorem g_law_cell_at (T : Top K mg) : mg "_law_cell_at" = some (.ref (He.ga K "_law_cell_at")) := T.glo 22 rfl
theorem g_law_mixed (T : Top K mg) : mg "_law_mixed" = some (.ref (He.ga K "_law_mixed")) := T.glo 23 rfl
theorem g_law_seeds (T : Top K mg) : mg "_law_seeds" = some (.ref (He.ga K "_law_seeds")) := T.glo 24 rfl
theorem g_law_word (T : Top K mg) : mg "_law_word" = some (.ref (He.ga K "_law_word")) := T.glo 25 rfl
theorem g_law_name (T : Top K mg) : mg "_law_name" = some (.ref (He.ga K "_law_name")) := T.glo 26 rfl
theorem g_law_told (T : Top K mg) : mg "_law_told" = some (.ref (He.ga K "_law_told")) := T.glo 27 rfl
theorem g_law_spec (T : Top K mg) : mg "_law_spec" = some (.ref (He.ga K "_law_spec")) := T.glo 28 rfl
theorem g_law_filled (T : Top K mg) : mg "_law_filled" = some (.ref (He.ga K "_law_filled")) := T.glo 29 rfl
theorem g_law_on (T : Top K mg) : mg "_law_on" = some (.ref (He.ga K "_law_on")) := T.glo 30 rfl
theorem g_law_sheet (T : Top K mg) : mg "_law_sheet" = some (.ref (He.ga K "_law_sheet")) := T.glo 31 rfl
theorem g_law_ahead (T : Top K mg) : mg "_law_ahead" = some (.ref (He.ga K "_law_ahead")) := T.glo 32 rfl
theorem g_law_kind (T : Top K mg) : mg "_law_kind" = some (.ref (He.ga K "_law_kind")) := T.glo 33 rfl
theorem g_law_rows (T : Top K mg) : mg "_law_rows" = some (.ref (He.ga K "_law_rows")) := T.glo 34 rfl
theorem g_law_put (T : Top K mg) : mg "_law_put" = some (.ref (He.ga K "_law_put")) := T.glo 35 rfl
theorem g_law_due (T : Top K mg) : mg "_law_due" = some (.ref (He.ga K "_law_due")) := T.glo 36 rfl
theorem g_law_known (T : Top K mg) : mg "_law_known" = some (.ref (He.ga K "_law_known")) := T.glo 37 rfl
theorem g_law_shown (T : Top K mg) : mg "_law_shown" = some (.ref (He.ga K "_law_shown")) := T.glo 38 rfl
theorem g_law (T : Top K mg) : mg "law" = some (.ref (He.ga K "law")) := T.glo 39 rfl
theorem g_Given (T : Top K mg) : mg "Given" = some (.ref (He.ga K "Given")) := T.glo 40 rfl
theorem cl_Given (T : Top K mg) : Cls K (He.ga K "Given") := He.cls_ok (T.says.fact 85 rfl)
theorem mk_Given (T : Top K mg) : Mk K (He.ga K "Given") (He.ma K (He.ga K "Given") "__init__") := He.mkr_ok (T.says.fact 86 rfl)
theorem na_Given_value (T : Top K mg) : NoAttr K (He.ga K "Given") "value" := He.noat_ok (T.says.fact 87 rfl)
theorem na_Given_large (T : Top K mg) : NoAttr K (He.ga K "Given") "large" := He.noat_ok (T.says.fact 88 rfl)
theorem na_Given_deep (T : Top K mg) : NoAttr K (He.ga K "Given") "deep" := He.noat_ok (T.says.fact 89 rfl)
theorem g_Named (T : Top K mg) : mg "Named" = some (.ref (He.ga K "Named")) := T.glo 41 rfl
theorem cl_Named (T : Top K mg) : Cls K (He.ga K "Named") := He.cls_ok (T.says.fact 90 rfl)
theorem mk_Named (T : Top K mg) : Mk K (He.ga K "Named") (He.ma K (He.ga K "Named") "__init__") := He.mkr_ok (T.says.fact 91 rfl)
theorem na_Named_name (T : Top K mg) : NoAttr K (He.ga K "Named") "name" := He.noat_ok (T.says.fact 92 rfl)
theorem na_Named_large (T : Top K mg) : NoAttr K (He.ga K "Named") "large" := He.noat_ok (T.says.fact 93 rfl)
theorem na_Named_deep (T : Top K mg) : NoAttr K (He.ga K "Named") "deep" := He.noat_ok (T.says.fact 94 rfl)
theorem g_Turned (T : Top K mg) : mg "Turned" = some (.ref (He.ga K "Turned")) := T.glo 42 rfl
theorem cl_Turned (T : Top K mg) : Cls K (He.ga K "Turned") := He.cls_ok (T.says.fact 95 rfl)
theorem mk_Turned (T : Top K mg) : Mk K (He.ga K "Turned") (He.ma K (He.ga K "Turned") "__init__") := He.mkr_ok (T.says.fact 96 rfl)
theorem na_Turned_part (T : Top K mg) : NoAttr K (He.ga K "Turned") "part" := He.noat_ok (T.says.fact 97 rfl)
theorem na_Turned_large (T : Top K mg) : NoAttr K (He.ga K "Turned") "large" := He.noat_ok (T.says.fact 98 rfl)
theorem na_Turned_deep (T : Top K mg) : NoAttr K (He.ga K "Turned") "deep" := He.noat_ok (T.says.fact 99 rfl)
theorem g_Pair (T : Top K mg) : mg "Pair" = some (.ref (He.ga K "Pair")) := T.glo 43 rfl
theorem cl_Pair (T : Top K mg) : Cls K (He.ga K "Pair") := He.cls_ok (T.says.fact 100 rfl)
theorem mk_Pair (T : Top K mg) : Mk K (He.ga K "Pair") (He.ma K (He.ga K "Pair") "__init__") := He.mkr_ok (T.says.fact 101 rfl)
theorem na_Pair_sign (T : Top K mg) : NoAttr K (He.ga K "Pair") "sign" := He.noat_ok (T.says.fact 102 rfl)
theorem na_Pair_one (T : Top K mg) : NoAttr K (He.ga K "Pair") "one" := He.noat_ok (T.says.fact 103 rfl)
theorem na_Pair_other (T : Top K mg) : NoAttr K (He.ga K "Pair") "other" := He.noat_ok (T.says.fact 104 rfl)
theorem na_Pair_large (T : Top K mg) : NoAttr K (He.ga K "Pair") "large" := He.noat_ok (T.says.fact 105 rfl)
theorem na_Pair_deep (T : Top K mg) : NoAttr K (He.ga K "Pair") "deep" := He.noat_ok (T.says.fact 106 rfl)
theorem g_Choice (T : Top K mg) : mg "Choice" = some (.ref (He.ga K "Choice")) := T.glo 44 rfl
theorem cl_Choice (T : Top K mg) : Cls K (He.ga K "Choice") := He.cls_ok (T.says.fact 107 rfl)
theorem mk_Choice (T : Top K mg) : Mk K (He.ga K "Choice") (He.ma K (He.ga K "Choice") "__init__") := He.mkr_ok (T.says.fact 108 rfl)
theorem na_Choice_truth (T : Top K mg) : NoAttr K (He.ga K "Choice") "truth" := He.noat_ok (T.says.fact 109 rfl)
theorem na_Choice_one (T : Top K mg) : NoAttr K (He.ga K "Choice") "one" := He.noat_ok (T.says.fact 110 rfl)
theorem na_Choice_other (T : Top K mg) : NoAttr K (He.ga K "Choice") "other" := He.noat_ok (T.says.fact 111 rfl)
theorem na_Choice_large (T : Top K mg) : NoAttr K (He.ga K "Choice") "large" := He.noat_ok (T.says.fact 112 rfl)
theorem na_Choice_deep (T : Top K mg) : NoAttr K (He.ga K "Choice") "deep" := He.noat_ok (T.says.fact 113 rfl)
theorem g_Before (T : Top K mg) : mg "Before" = some (.ref (He.ga K "Before")) := T.glo 45 rfl
theorem cl_Before (T : Top K mg) : Cls K (He.ga K "Before") := He.cls_ok (T.says.fact 114 rfl)
theorem mk_Before (T : Top K mg) : Mk K (He.ga K "Before") (He.ma K (He.ga K "Before") "__init__") := He.mkr_ok (T.says.fact 115 rfl)
theorem na_Before_part (T : Top K mg) : NoAttr K (He.ga K "Before") "part" := He.noat_ok (T.says.fact 116 rfl)
theorem na_Before_first (T : Top K mg) : NoAttr K (He.ga K "Before") "first" := He.noat_ok (T.says.fact 117 rfl)
theorem na_Before_large (T : Top K mg) : NoAttr K (He.ga K "Before") "large" := He.noat_ok (T.says.fact 118 rfl)
theorem na_Before_deep (T : Top K mg) : NoAttr K (He.ga K "Before") "deep" := He.noat_ok (T.says.fact 119 rfl)
theorem g_Led (T : Top K mg) : mg "Led" = some (.ref (He.ga K "Led")) := T.glo 46 rfl
theorem cl_Led (T : Top K mg) : Cls K (He.ga K "Led") := He.cls_ok (T.says.fact 120 rfl)
theorem mk_Led (T : Top K mg) : Mk K (He.ga K "Led") (He.ma K (He.ga K "Led") "__init__") := He.mkr_ok (T.says.fact 121 rfl)
theorem na_Led_head (T : Top K mg) : NoAttr K (He.ga K "Led") "head" := He.noat_ok (T.says.fact 122 rfl)
theorem na_Led_rest (T : Top K mg) : NoAttr K (He.ga K "Led") "rest" := He.noat_ok (T.says.fact 123 rfl)
theorem na_Led_large (T : Top K mg) : NoAttr K (He.ga K "Led") "large" := He.noat_ok (T.says.fact 124 rfl)
theorem na_Led_deep (T : Top K mg) : NoAttr K (He.ga K "Led") "deep" := He.noat_ok (T.says.fact 125 rfl)
theorem g_When (T : Top K mg) : mg "When" = some (.ref (He.ga K "When")) := T.glo 47 rfl
theorem cl_When (T : Top K mg) : Cls K (He.ga K "When") := He.cls_ok (T.says.fact 126 rfl)
theorem mk_When (T : Top K mg) : Mk K (He.ga K "When") (He.ma K (He.ga K "When") "__init__") := He.mkr_ok (T.says.fact 127 rfl)
theorem na_When_part (T : Top K mg) : NoAttr K (He.ga K "When") "part" := He.noat_ok (T.says.fact 128 rfl)
theorem na_When_name (T : Top K mg) : NoAttr K (He.ga K "When") "name" := He.noat_ok (T.says.fact 129 rfl)
theorem na_When_large (T : Top K mg) : NoAttr K (He.ga K "When") "large" := He.noat_ok (T.says.fact 130 rfl)
theorem na_When_deep (T : Top K mg) : NoAttr K (He.ga K "When") "deep" := He.noat_ok (T.says.fact 131 rfl)
theorem g_Held (T : Top K mg) : mg "Held" = some (.ref (He.ga K "Held")) := T.glo 48 rfl
theorem cl_Held (T : Top K mg) : Cls K (He.ga K "Held") := He.cls_ok (T.says.fact 132 rfl)
theorem mk_Held (T : Top K mg) : Mk K (He.ga K "Held") (He.ma K (He.ga K "Held") "__init__") := He.mkr_ok (T.says.fact 133 rfl)
theorem na_Held_part (T : Top K mg) : NoAttr K (He.ga K "Held") "part" := He.noat_ok (T.says.fact 134 rfl)
theorem na_Held_name (T : Top K mg) : NoAttr K (He.ga K "Held") "name" := He.noat_ok (T.says.fact 135 rfl)
theorem na_Held_first (T : Top K mg) : NoAttr K (He.ga K "Held") "first" := He.noat_ok (T.says.fact 136 rfl)
theorem na_Held_large (T : Top K mg) : NoAttr K (He.ga K "Held") "large" := He.noat_ok (T.says.fact 137 rfl)
theorem na_Held_deep (T : Top K mg) : NoAttr K (He.ga K "Held") "deep" := He.noat_ok (T.says.fact 138 rfl)
theorem g_Input (T : Top K mg) : mg "Input" = some (.ref (He.ga K "Input")) := T.glo 49 rfl
theorem cl_Input (T : Top K mg) : Cls K (He.ga K "Input") := He.cls_ok (T.says.fact 139 rfl)
theorem mk_Input (T : Top K mg) : Mk K (He.ga K "Input") (He.ma K (He.ga K "Input") "__init__") := He.mkr_ok (T.says.fact 140 rfl)
theorem na_Input_name (T : Top K mg) : NoAttr K (He.ga K "Input") "name" := He.noat_ok (T.says.fact 141 rfl)
theorem na_Input_kind (T : Top K mg) : NoAttr K (He.ga K "Input") "kind" := He.noat_ok (T.says.fact 142 rfl)
theorem na_Input_on (T : Top K mg) : NoAttr K (He.ga K "Input") "on" := He.noat_ok (T.says.fact 143 rfl)
theorem g_Row (T : Top K mg) : mg "Row" = some (.ref (He.ga K "Row")) := T.glo 50 rfl
theorem cl_Row (T : Top K mg) : Cls K (He.ga K "Row") := He.cls_ok (T.says.fact 144 rfl)
theorem mk_Row (T : Top K mg) : Mk K (He.ga K "Row") (He.ma K (He.ga K "Row") "__init__") := He.mkr_ok (T.says.fact 145 rfl)
theorem na_Row_name (T : Top K mg) : NoAttr K (He.ga K "Row") "name" := He.noat_ok (T.says.fact 146 rfl)
theorem na_Row_kind (T : Top K mg) : NoAttr K (He.ga K "Row") "kind" := He.noat_ok (T.says.fact 147 rfl)
theorem na_Row_part (T : Top K mg) : NoAttr K (He.ga K "Row") "part" := He.noat_ok (T.says.fact 148 rfl)
theorem na_Row_on (T : Top K mg) : NoAttr K (He.ga K "Row") "on" := He.noat_ok (T.says.fact 149 rfl)
theorem g_Use (T : Top K mg) : mg "Use" = some (.ref (He.ga K "Use")) := T.glo 51 rfl
theorem cl_Use (T : Top K mg) : Cls K (He.ga K "Use") := He.cls_ok (T.says.fact 150 rfl)
theorem mk_Use (T : Top K mg) : Mk K (He.ga K "Use") (He.ma K (He.ga K "Use") "__init__") := He.mkr_ok (T.says.fact 151 rfl)
theorem na_Use_binds (T : Top K mg) : NoAttr K (He.ga K "Use") "binds" := He.noat_ok (T.says.fact 152 rfl)
theorem na_Use_module (T : Top K mg) : NoAttr K (He.ga K "Use") "module" := He.noat_ok (T.says.fact 153 rfl)
theorem na_Use_parts (T : Top K mg) : NoAttr K (He.ga K "Use") "parts" := He.noat_ok (T.says.fact 154 rfl)
theorem na_Use_on (T : Top K mg) : NoAttr K (He.ga K "Use") "on" := He.noat_ok (T.says.fact 155 rfl)
theorem g_Sheet (T : Top K mg) : mg "Sheet" = some (.ref (He.ga K "Sheet")) := T.glo 52 rfl
theorem cl_Sheet (T : Top K mg) : Cls K (He.ga K "Sheet") := He.cls_ok (T.says.fact 156 rfl)
theorem mk_Sheet (T : Top K mg) : Mk K (He.ga K "Sheet") (He.ma K (He.ga K "Sheet") "__init__") := He.mkr_ok (T.says.fact 157 rfl)
theorem na_Sheet_name (T : Top K mg) : NoAttr K (He.ga K "Sheet") "name" := He.noat_ok (T.says.fact 158 rfl)
theorem na_Sheet_inputs (T : Top K mg) : NoAttr K (He.ga K "Sheet") "inputs" := He.noat_ok (T.says.fact 159 rfl)
theorem na_Sheet_outputs (T : Top K mg) : NoAttr K (He.ga K "Sheet") "outputs" := He.noat_ok (T.says.fact 160 rfl)
theorem na_Sheet_lines (T : Top K mg) : NoAttr K (He.ga K "Sheet") "lines" := He.noat_ok (T.says.fact 161 rfl)
theorem g_Book (T : Top K mg) : mg "Book" = some (.ref (He.ga K "Book")) := T.glo 53 rfl
theorem cl_Book (T : Top K mg) : Cls K (He.ga K "Book") := He.cls_ok (T.says.fact 162 rfl)
theorem mk_Book (T : Top K mg) : Mk K (He.ga K "Book") (He.ma K (He.ga K "Book") "__init__") := He.mkr_ok (T.says.fact 163 rfl)
theorem na_Book_sheets (T : Top K mg) : NoAttr K (He.ga K "Book") "sheets" := He.noat_ok (T.says.fact 164 rfl)
theorem me_Given_measured (T : Top K mg) : Meth K (He.ga K "Given") "measured" (He.ma K (He.ga K "Given") "measured") := He.meth_ok (T.says.fact 165 rfl)
theorem me_Given_inner (T : Top K mg) : Meth K (He.ga K "Given") "inner" (He.ma K (He.ga K "Given") "inner") := He.meth_ok (T.says.fact 166 rfl)
theorem me_Given_own_names (T : Top K mg) : Meth K (He.ga K "Given") "own_names" (He.ma K (He.ga K "Given") "own_names") := He.meth_ok (T.says.fact 167 rfl)
theorem me_Given_names (T : Top K mg) : Meth K (He.ga K "Given") "names" (He.ma K (He.ga K "Given") "names") := He.meth_ok (T.says.fact 168 rfl)
theorem me_Given_told (T : Top K mg) : Meth K (He.ga K "Given") "told" (He.ma K (He.ga K "Given") "told") := He.meth_ok (T.says.fact 169 rfl)
theorem me_Named_measured (T : Top K mg) : Meth K (He.ga K "Named") "measured" (He.ma K (He.ga K "Named") "measured") := He.meth_ok (T.says.fact 170 rfl)
theorem me_Named_inner (T : Top K mg) : Meth K (He.ga K "Named") "inner" (He.ma K (He.ga K "Named") "inner") := He.meth_ok (T.says.fact 171 rfl)
theorem me_Named_own_names (T : Top K mg) : Meth K (He.ga K "Named") "own_names" (He.ma K (He.ga K "Named") "own_names") := He.meth_ok (T.says.fact 172 rfl)
theorem me_Named_names (T : Top K mg) : Meth K (He.ga K "Named") "names" (He.ma K (He.ga K "Named") "names") := He.meth_ok (T.says.fact 173 rfl)
theorem me_Named_told (T : Top K mg) : Meth K (He.ga K "Named") "told" (He.ma K (He.ga K "Named") "told") := He.meth_ok (T.says.fact 174 rfl)
theorem me_Turned_measured (T : Top K mg) : Meth K (He.ga K "Turned") "measured" (He.ma K (He.ga K "Turned") "measured") := He.meth_ok (T.says.fact 175 rfl)
theorem me_Turned_inner (T : Top K mg) : Meth K (He.ga K "Turned") "inner" (He.ma K (He.ga K "Turned") "inner") := He.meth_ok (T.says.fact 176 rfl)
theorem me_Turned_own_names (T : Top K mg) : Meth K (He.ga K "Turned") "own_names" (He.ma K (He.ga K "Turned") "own_names") := He.meth_ok (T.says.fact 177 rfl)
theorem me_Turned_names (T : Top K mg) : Meth K (He.ga K "Turned") "names" (He.ma K (He.ga K "Turned") "names") := He.meth_ok (T.says.fact 178 rfl)
theorem me_Turned_told (T : Top K mg) : Meth K (He.ga K "Turned") "told" (He.ma K (He.ga K "Turned") "told") := He.meth_ok (T.says.fact 179 rfl)
theorem me_Pair_measured (T : Top K mg) : Meth K (He.ga K "Pair") "measured" (He.ma K (He.ga K "Pair") "measured") := He.meth_ok (T.says.fact 180 rfl)
theorem me_Pair_inner (T : Top K mg) : Meth K (He.ga K "Pair") "inner" (He.ma K (He.ga K "Pair") "inner") := He.meth_ok (T.says.fact 181 rfl)
theorem me_Pair_own_names (T : Top K mg) : Meth K (He.ga K "Pair") "own_names" (He.ma K (He.ga K "Pair") "own_names") := He.meth_ok (T.says.fact 182 rfl)
theorem me_Pair_names (T : Top K mg) : Meth K (He.ga K "Pair") "names" (He.ma K (He.ga K "Pair") "names") := He.meth_ok (T.says.fact 183 rfl)
theorem me_Pair_told (T : Top K mg) : Meth K (He.ga K "Pair") "told" (He.ma K (He.ga K "Pair") "told") := He.meth_ok (T.says.fact 184 rfl)
theorem me_Choice_measured (T : Top K mg) : Meth K (He.ga K "Choice") "measured" (He.ma K (He.ga K "Choice") "measured") := He.meth_ok (T.says.fact 185 rfl)
theorem me_Choice_inner (T : Top K mg) : Meth K (He.ga K "Choice") "inner" (He.ma K (He.ga K "Choice") "inner") := He.meth_ok (T.says.fact 186 rfl)
theorem me_Choice_own_names (T : Top K mg) : Meth K (He.ga K "Choice") "own_names" (He.ma K (He.ga K "Choice") "own_names") := He.meth_ok (T.says.fact 187 rfl)
theorem me_Choice_names (T : Top K mg) : Meth K (He.ga K "Choice") "names" (He.ma K (He.ga K "Choice") "names") := He.meth_ok (T.says.fact 188 rfl)
theorem me_Choice_told (T : Top K mg) : Meth K (He.ga K "Choice") "told" (He.ma K (He.ga K "Choice") "told") := He.meth_ok (T.says.fact 189 rfl)
theorem me_Before_measured (T : Top K mg) : Meth K (He.ga K "Before") "measured" (He.ma K (He.ga K "Before") "measured") := He.meth_ok (T.says.fact 190 rfl)
theorem me_Before_inner (T : Top K mg) : Meth K (He.ga K "Before") "inner" (He.ma K (He.ga K "Before") "inner") := He.meth_ok (T.says.fact 191 rfl)
theorem me_Before_own_names (T : Top K mg) : Meth K (He.ga K "Before") "own_names" (He.ma K (He.ga K "Before") "own_names") := He.meth_ok (T.says.fact 192 rfl)
theorem me_Before_names (T : Top K mg) : Meth K (He.ga K "Before") "names" (He.ma K (He.ga K "Before") "names") := He.meth_ok (T.says.fact 193 rfl)
theorem me_Before_told (T : Top K mg) : Meth K (He.ga K "Before") "told" (He.ma K (He.ga K "Before") "told") := He.meth_ok (T.says.fact 194 rfl)
theorem me_Led_measured (T : Top K mg) : Meth K (He.ga K "Led") "measured" (He.ma K (He.ga K "Led") "measured") := He.meth_ok (T.says.fact 195 rfl)
theorem me_Led_inner (T : Top K mg) : Meth K (He.ga K "Led") "inner" (He.ma K (He.ga K "Led") "inner") := He.meth_ok (T.says.fact 196 rfl)
theorem me_Led_own_names (T : Top K mg) : Meth K (He.ga K "Led") "own_names" (He.ma K (He.ga K "Led") "own_names") := He.meth_ok (T.says.fact 197 rfl)
theorem me_Led_names (T : Top K mg) : Meth K (He.ga K "Led") "names" (He.ma K (He.ga K "Led") "names") := He.meth_ok (T.says.fact 198 rfl)
theorem me_Led_told (T : Top K mg) : Meth K (He.ga K "Led") "told" (He.ma K (He.ga K "Led") "told") := He.meth_ok (T.says.fact 199 rfl)
theorem me_When_measured (T : Top K mg) : Meth K (He.ga K "When") "measured" (He.ma K (He.ga K "When") "measured") := He.meth_ok (T.says.fact 200 rfl)
theorem me_When_inner (T : Top K mg) : Meth K (He.ga K "When") "inner" (He.ma K (He.ga K "When") "inner") := He.meth_ok (T.says.fact 201 rfl)
theorem me_When_own_names (T : Top K mg) : Meth K (He.ga K "When") "own_names" (He.ma K (He.ga K "When") "own_names") := He.meth_ok (T.says.fact 202 rfl)
theorem me_When_names (T : Top K mg) : Meth K (He.ga K "When") "names" (He.ma K (He.ga K "When") "names") := He.meth_ok (T.says.fact 203 rfl)
theorem me_When_told (T : Top K mg) : Meth K (He.ga K "When") "told" (He.ma K (He.ga K "When") "told") := He.meth_ok (T.says.fact 204 rfl)
theorem me_Held_measured (T : Top K mg) : Meth K (He.ga K "Held") "measured" (He.ma K (He.ga K "Held") "measured") := He.meth_ok (T.says.fact 205 rfl)
theorem me_Held_inner (T : Top K mg) : Meth K (He.ga K "Held") "inner" (He.ma K (He.ga K "Held") "inner") := He.meth_ok (T.says.fact 206 rfl)
theorem me_Held_own_names (T : Top K mg) : Meth K (He.ga K "Held") "own_names" (He.ma K (He.ga K "Held") "own_names") := He.meth_ok (T.says.fact 207 rfl)
theorem me_Held_names (T : Top K mg) : Meth K (He.ga K "Held") "names" (He.ma K (He.ga K "Held") "names") := He.meth_ok (T.says.fact 208 rfl)
theorem me_Held_told (T : Top K mg) : Meth K (He.ga K "Held") "told" (He.ma K (He.ga K "Held") "told") := He.meth_ok (T.says.fact 209 rfl)
theorem me_Input_borne (T : Top K mg) : Meth K (He.ga K "Input") "borne" (He.ma K (He.ga K "Input") "borne") := He.meth_ok (T.says.fact 210 rfl)
theorem me_Input_equations (T : Top K mg) : Meth K (He.ga K "Input") "equations" (He.ma K (He.ga K "Input") "equations") := He.meth_ok (T.says.fact 211 rfl)
theorem me_Input_is_truth (T : Top K mg) : Meth K (He.ga K "Input") "is_truth" (He.ma K (He.ga K "Input") "is_truth") := He.meth_ok (T.says.fact 212 rfl)
theorem me_Row_borne (T : Top K mg) : Meth K (He.ga K "Row") "borne" (He.ma K (He.ga K "Row") "borne") := He.meth_ok (T.says.fact 213 rfl)
theorem me_Row_equations (T : Top K mg) : Meth K (He.ga K "Row") "equations" (He.ma K (He.ga K "Row") "equations") := He.meth_ok (T.says.fact 214 rfl)
theorem me_Row_is_truth (T : Top K mg) : Meth K (He.ga K "Row") "is_truth" (He.ma K (He.ga K "Row") "is_truth") := He.meth_ok (T.says.fact 215 rfl)
theorem me_Use_borne (T : Top K mg) : Meth K (He.ga K "Use") "borne" (He.ma K (He.ga K "Use") "borne") := He.meth_ok (T.says.fact 216 rfl)
theorem me_Use_equations (T : Top K mg) : Meth K (He.ga K "Use") "equations" (He.ma K (He.ga K "Use") "equations") := He.meth_ok (T.says.fact 217 rfl)
theorem me_Use_is_truth (T : Top K mg) : Meth K (He.ga K "Use") "is_truth" (He.ma K (He.ga K "Use") "is_truth") := He.meth_ok (T.says.fact 218 rfl)
theorem me_Sheet_all_lines (T : Top K mg) : Meth K (He.ga K "Sheet") "all_lines" (He.ma K (He.ga K "Sheet") "all_lines") := He.meth_ok (T.says.fact 219 rfl)
theorem me_Sheet_need_known (T : Top K mg) : Meth K (He.ga K "Sheet") "need_known" (He.ma K (He.ga K "Sheet") "need_known") := He.meth_ok (T.says.fact 220 rfl)
theorem me_Sheet_names (T : Top K mg) : Meth K (He.ga K "Sheet") "names" (He.ma K (He.ga K "Sheet") "names") := He.meth_ok (T.says.fact 221 rfl)
theorem me_Sheet_line (T : Top K mg) : Meth K (He.ga K "Sheet") "line" (He.ma K (He.ga K "Sheet") "line") := He.meth_ok (T.says.fact 222 rfl)
theorem me_Book_main (T : Top K mg) : Meth K (He.ga K "Book") "main" (He.ma K (He.ga K "Book") "main") := He.meth_ok (T.says.fact 223 rfl)
theorem me_Book_sheet_of (T : Top K mg) : Meth K (He.ga K "Book") "sheet_of" (He.ma K (He.ga K "Book") "sheet_of") := He.meth_ok (T.says.fact 224 rfl)
theorem n_len (T : Top K mg) : mg "len" = none := T.fre 54 rfl
theorem n_all (T : Top K mg) : mg "all" = none := T.fre 55 rfl
theorem n_isinstance (T : Top K mg) : mg "isinstance" = none := T.fre 56 rfl
theorem n_int (T : Top K mg) : mg "int" = none := T.fre 57 rfl
theorem n_bool (T : Top K mg) : mg "bool" = none := T.fre 58 rfl
theorem n_tuple (T : Top K mg) : mg "tuple" = none := T.fre 59 rfl
theorem n_str (T : Top K mg) : mg "str" = none := T.fre 60 rfl
theorem n_set (T : Top K mg) : mg "set" = none := T.fre 61 rfl
theorem n_sum (T : Top K mg) : mg "sum" = none := T.fre 62 rfl
theorem n_max (T : Top K mg) : mg "max" = none := T.fre 63 rfl
theorem n_zip (T : Top K mg) : mg "zip" = none := T.fre 64 rfl
theorem n_list (T : Top K mg) : mg "list" = none := T.fre 65 rfl
theorem n_range (T : Top K mg) : mg "range" = none := T.fre 66 rfl
theorem n_enumerate (T : Top K mg) : mg "enumerate" = none := T.fre 67 rfl
theorem i_LONGEST (T : Top K mg) : ∃ u, mg "LONGEST" = some u ∧ RelV (.int (8)) u := T.num 68 rfl
theorem i_MOST_WORDS_names (T : Top K mg) : ∃ u, mg "MOST_WORDS_names" = some u ∧ RelV (.int (4)) u := T.num 69 rfl
theorem i_LEAST (T : Top K mg) : ∃ u, mg "LEAST" = some u ∧ RelV (.int (-128)) u := T.num 70 rfl
theorem i_GREATEST (T : Top K mg) : ∃ u, mg "GREATEST" = some u ∧ RelV (.int (127)) u := T.num 71 rfl
theorem i_MOST_IN (T : Top K mg) : ∃ u, mg "MOST_IN" = some u ∧ RelV (.int (8)) u := T.num 72 rfl
theorem i_MOST_OUT (T : Top K mg) : ∃ u, mg "MOST_OUT" = some u ∧ RelV (.int (8)) u := T.num 73 rfl
theorem i_MOST_LINES_sheets (T : Top K mg) : ∃ u, mg "MOST_LINES_sheets" = some u ∧ RelV (.int (80)) u := T.num 74 rfl
theorem i_MOST_SHEETS (T : Top K mg) : ∃ u, mg "MOST_SHEETS" = some u ∧ RelV (.int (6)) u := T.num 75 rfl
theorem i_DEEPEST (T : Top K mg) : ∃ u, mg "DEEPEST" = some u ∧ RelV (.int (10)) u := T.num 76 rfl
theorem i_LARGEST (T : Top K mg) : ∃ u, mg "LARGEST" = some u ∧ RelV (.int (40)) u := T.num 77 rfl
theorem i_MOST_LINES_placing (T : Top K mg) : ∃ u, mg "MOST_LINES_placing" = some u ∧ RelV (.int (80)) u := T.num 78 rfl
theorem i_MOST_WORDS_placing (T : Top K mg) : ∃ u, mg "MOST_WORDS_placing" = some u ∧ RelV (.int (4)) u := T.num 79 rfl
theorem z_LETTERS (T : Top K mg) : ∃ u, mg "LETTERS" = some u ∧ RelV (.str "abcdefghijklmnopqrstuvwxyz") u := T.txt 80 rfl
theorem g_KEPT (T : Top K mg) : ∃ u, mg "KEPT" = some u ∧ RelV (.ref (He.ga K "KEPT")) u := ⟨_, T.glo 81 rfl, rfl⟩
theorem t_KEPT (T : Top K mg) (H : Hp) : SqT K H (He.ga K "KEPT") (tup_KEPT.map (He.Dv.v K)) := He.tupB_ok (T.exi 0 rfl) H
theorem g_NUMBERS (T : Top K mg) : ∃ u, mg "NUMBERS" = some u ∧ RelV (.ref (He.ga K "NUMBERS")) u := ⟨_, T.glo 82 rfl, rfl⟩
theorem t_NUMBERS (T : Top K mg) (H : Hp) : SqT K H (He.ga K "NUMBERS") (tup_NUMBERS.map (He.Dv.v K)) := He.tupB_ok (T.exi 1 rfl) H
theorem g_BETWEEN (T : Top K mg) : ∃ u, mg "BETWEEN" = some u ∧ RelV (.ref (He.ga K "BETWEEN")) u := ⟨_, T.glo 83 rfl, rfl⟩
theorem t_BETWEEN (T : Top K mg) (H : Hp) : SqT K H (He.ga K "BETWEEN") (tup_BETWEEN.map (He.Dv.v K)) := He.tupB_ok (T.exi 2 rfl) H
theorem g_TRUTHS (T : Top K mg) : ∃ u, mg "TRUTHS" = some u ∧ RelV (.ref (He.ga K "TRUTHS")) u := ⟨_, T.glo 84 rfl, rfl⟩
theorem t_TRUTHS (T : Top K mg) (H : Hp) : SqT K H (He.ga K "TRUTHS") (tup_TRUTHS.map (He.Dv.v K)) := He.tupB_ok (T.exi 3 rfl) H
theorem ia_Input (T : Top K mg) : PySem.W.findIn K (.ref (He.ga K "Input")) "__class__" = some (some (.builtin "object.__class__")) := He.eqO_ok (T.exi 4 rfl)
theorem im_Input (T : Top K mg) : PySem.W.mroIn K (He.ga K "Input") (.type "object") = some true := of_decide_eq_true (T.exi 5 rfl)
theorem ia_Row (T : Top K mg) : PySem.W.findIn K (.ref (He.ga K "Row")) "__class__" = some (some (.builtin "object.__class__")) := He.eqO_ok (T.exi 6 rfl)
theorem im_Row (T : Top K mg) : PySem.W.mroIn K (He.ga K "Row") (.type "object") = some true := of_decide_eq_true (T.exi 7 rfl)
theorem ia_Use (T : Top K mg) : PySem.W.findIn K (.ref (He.ga K "Use")) "__class__" = some (some (.builtin "object.__class__")) := He.eqO_ok (T.exi 8 rfl)
theorem im_Use (T : Top K mg) : PySem.W.mroIn K (He.ga K "Use") (.type "object") = some true := of_decide_eq_true (T.exi 9 rfl)
theorem in_ (T : Top K mg) : PySem.W.specialIn K (.builtin "object.__class__") "__get__" = some (some (.builtin "getset_descriptor.__get__")) := He.eqO_ok (T.exi 10 rfl)
theorem it_ (T : Top K mg) : PySem.W.takesIn K (.builtin "object.__class__") = some true := of_decide_eq_true (T.exi 11 rfl)
theorem ik_Input_Input (T : Top K mg) : PySem.W.kitOne K (.ref (He.ga K "Input")) (.ref (He.ga K "Input")) = some true := of_decide_eq_true (T.exi 12 rfl)
theorem ik_Input_Row (T : Top K mg) : PySem.W.kitOne K (.ref (He.ga K "Input")) (.ref (He.ga K "Row")) = some false := of_decide_eq_true (T.exi 13 rfl)
theorem ik_Input_Use (T : Top K mg) : PySem.W.kitOne K (.ref (He.ga K "Input")) (.ref (He.ga K "Use")) = some false := of_decide_eq_true (T.exi 14 rfl)
theorem ik_Row_Input (T : Top K mg) : PySem.W.kitOne K (.ref (He.ga K "Row")) (.ref (He.ga K "Input")) = some false := of_decide_eq_true (T.exi 15 rfl)
theorem ik_Row_Row (T : Top K mg) : PySem.W.kitOne K (.ref (He.ga K "Row")) (.ref (He.ga K "Row")) = some true := of_decide_eq_true (T.exi 16 rfl)
theorem ik_Row_Use (T : Top K mg) : PySem.W.kitOne K (.ref (He.ga K "Row")) (.ref (He.ga K "Use")) = some false := of_decide_eq_true (T.exi 17 rfl)
theorem ik_Use_Input (T : Top K mg) : PySem.W.kitOne K (.ref (He.ga K "Use")) (.ref (He.ga K "Input")) = some false := of_decide_eq_true (T.exi 18 rfl)
theorem ik_Use_Row (T : Top K mg) : PySem.W.kitOne K (.ref (He.ga K "Use")) (.ref (He.ga K "Row")) = some false := of_decide_eq_true (T.exi 19 rfl)
theorem ik_Use_Use (T : Top K mg) : PySem.W.kitOne K (.ref (He.ga K "Use")) (.ref (He.ga K "Use")) = some true := of_decide_eq_true (T.exi 20 rfl)
theorem ty_Input (T : Top K mg) {H : Hp} {a dx : Addr} {fs : List (Str × V)} (e : H a = some (.ins (He.ga K "Input") dx fs)) : TyX K H (.ref a) (.ref (He.ga K "Input")) := .base (.ins e T.cl_Input T.ia_Input T.in_ T.it_ T.im_Input)
theorem ty_Row (T : Top K mg) {H : Hp} {a dx : Addr} {fs : List (Str × V)} (e : H a = some (.ins (He.ga K "Row") dx fs)) : TyX K H (.ref a) (.ref (He.ga K "Row")) := .base (.ins e T.cl_Row T.ia_Row T.in_ T.it_ T.im_Row)
theorem ty_Use (T : Top K mg) {H : Hp} {a dx : Addr} {fs : List (Str × V)} (e : H a = some (.ins (He.ga K "Use") dx fs)) : TyX K H (.ref a) (.ref (He.ga K "Use")) := .base (.ins e T.cl_Use T.ia_Use T.in_ T.it_ T.im_Use)
end Top
section
variable {P : Program} {w : World} {K : PySem.W.Frag} {mg : Str → Option Value} {base : Heap}
/-- the shape of a def's proof: its body as a term of rules, and what that term asks -/
abbrev Body (P : Program) (w : World) (K : PySem.W.Frag) (mg : Str → Option Value) (base : Heap) (qual : Str) (st : Stmt) (f : Addr) (N : List Str) (k : Nat) (sp : Sp) : Prop :=
  ∀ (cdv : Value) (A : Around) (outer : List Env) (s : Shared) (H : Hp) (vs : List V) (Q : VK) (E : XK), Room k (A.deeper (envOfC qual (defScope st) s.heap.objs.size f cdv)) → sp vs H Q E →
    ∃ t, PSs (cxOf C8.CX0 P w K mg base N qual (defScope st) f cdv A outer s H E).nox (defBody st) t ∧ t { nx := fun _ H' => Q .non H', rt := Q } (start N vs) H
theorem fnok (T : Top K mg) (i : Nat) (d : He.DefD) (st : Stmt) (hi : fn[i]? = some d) (e1 : d.scope = defScope st) (e2 : d.body = defBody st) {N ps : List Str} {k : Nat} {sp : Sp} (S : FnScope N ps (defScope st)) (len : ∀ vs H Q E, sp vs H Q E → vs.length = ps.length)
    (hb : Body P w K mg base d.qual st (He.fAd K d.at_) N k sp) : ∃ fd, FunD K d.name d.qual d.params d.body d.scope (d.dvs K) (d.kws K) (He.fAd K d.at_) fd ∧ FnOk P w K mg base C8.CX0 (k + 1) (He.fAd K d.at_) fd ps sp := by
  obtain ⟨fd, F⟩ := T.says.def_ i hi
  refine ⟨fd, F, F.ok (by rw [e1]; exact S) len fun cdv A outer s H vs Q E hr hsp => ?_⟩
  rw [e1] at hr ⊢
  rw [e2]
  obtain ⟨t, h, q⟩ := hb cdv A outer s H vs Q E hr hsp
  exact ⟨t, h.nox, q⟩
/-- how a def without defaults takes its arguments -/
abbrev Plain (d : He.DefD) (ps : List Str) : Prop := ∀ (kV doc pm : Value) (an : Option Addr) (cdv ct : Value) (us : List Value), us.length = ps.length → bindArgs (PySem.W.fnOf d.name d.qual d.params d.body d.scope .none kV doc pm an cdv ct) ⟨us, []⟩ = pure (ps.zip us)
/-- .. one whose defaults are not needed -/
abbrev Given1 (d : He.DefD) (ps : List Str) : Prop := ∀ (D : Addr) (kV doc pm : Value) (an : Option Addr) (cdv ct : Value) (us its : List Value), us.length = ps.length → its.length = 1 →
  ∃ k, bindArgs (PySem.W.fnOf d.name d.qual d.params d.body d.scope (.ref D) kV doc pm an cdv ct) ⟨us, []⟩ = seqItems? (.ref D) >>= k ∧ k (some its.toArray) = pure (ps.zip (us ++ its.drop 1))
theorem binds0 {d : He.DefD} {f : Addr} {fd : FuncData} {ps : List Str} (h1 : d.dfl = []) (h2 : d.kwd = []) (F : FunD K d.name d.qual d.params d.body d.scope (d.dvs K) (d.kws K) f fd) (h : Plain d ps) : Binds K fd ps [] := by
  have F' : FunD K d.name d.qual d.params d.body d.scope [] (d.kws K) f fd := by
    have e : d.dvs K = [] := by unfold He.DefD.dvs; rw [h1]; rfl
    rw [← e]
    exact F
  exact F'.bindsN h
theorem binds1 {d : He.DefD} {f : Addr} {fd : FuncData} {ps : List Str} (h1 : d.dfl = [.non]) (F : FunD K d.name d.qual d.params d.body d.scope (d.dvs K) (d.kws K) f fd) (h : Given1 d ps) : Binds K fd ps [] := by
  have F' : FunD K d.name d.qual d.params d.body d.scope [.non] (d.kws K) f fd := by
    have e : d.dvs K = [.non] := by unfold He.DefD.dvs; rw [h1]; rfl
    rw [← e]
    exact F
  obtain ⟨ds, r, b⟩ := F'.binds1 ps.length 1 (by simp) (by simp) h
  cases r
  exact b
theorem cal_of (T : Top K mg) (i : Nat) (d : He.DefD) (st : Stmt) (x : Str) (hi : fn[i]? = some d) (ha : He.fAd K d.at_ = He.ga K x) (h1 : d.dfl = []) (h2 : d.kwd = []) (hx : mg x = some (.ref (He.ga K x))) {N ps : List Str} {k : Nat} {sp : Sp}
    (S : FnScope N ps (defScope st)) (hp : Plain d ps) (len : ∀ vs H Q E, sp vs H Q E → vs.length = ps.length) (hb : Body P w K mg base d.qual st (He.fAd K d.at_) N k sp) (e1 : d.scope = defScope st := by rfl) (e2 : d.body = defBody st := by rfl) : C8.Cal P w K mg base (k + 1) x sp [] := by
  obtain ⟨fd, F, G⟩ := fnok T i d st hi e1 e2 S len hb
  exact ⟨He.fAd K d.at_, fd, ps, [], G, by rw [ha]; exact hx, F.kp, binds0 h1 h2 F hp, .nil⟩
theorem met_of (T : Top K mg) (i : Nat) (d : He.DefD) (st : Stmt) (C : Addr) (m : Str) (hi : fn[i]? = some d) (ha : He.fAd K d.at_ = He.ma K C m) (h1 : d.dfl = []) (h2 : d.kwd = []) (hc : Cls K C) (hm : Meth K C m (He.ma K C m)) {N ps : List Str} {k : Nat} {sp : Sp}
    (S : FnScope N ps (defScope st)) (hp : Plain d ps) (len : ∀ vs H Q E, sp vs H Q E → vs.length = ps.length) (hb : Body P w K mg base d.qual st (He.fAd K d.at_) N k sp) (e1 : d.scope = defScope st := by rfl) (e2 : d.body = defBody st := by rfl) : C8.Met P w K mg base (k + 1) C m sp [] := by
  obtain ⟨fd, F, G⟩ := fnok T i d st hi e1 e2 S len hb
  exact ⟨He.fAd K d.at_, fd, ps, [], hc, by rw [ha]; exact hm, G, binds0 h1 h2 F hp, .nil⟩
theorem mak_of (T : Top K mg) (i : Nat) (d : He.DefD) (st : Stmt) (x : Str) (hi : fn[i]? = some d) (ha : He.fAd K d.at_ = He.ma K (He.ga K x) "__init__") (hx : mg x = some (.ref (He.ga K x))) (M : Mk K (He.ga K x) (He.ma K (He.ga K x) "__init__")) {N ps : List Str} {k : Nat} {sp : Sp}
    (S : FnScope N ps (defScope st)) (hp : (d.dfl = [] ∧ d.kwd = [] ∧ Plain d ps) ∨ (d.dfl = [.non] ∧ Given1 d ps)) (len : ∀ vs H Q E, sp vs H Q E → vs.length = ps.length) (hb : Body P w K mg base d.qual st (He.fAd K d.at_) N k sp) (e1 : d.scope = defScope st := by rfl) (e2 : d.body = defBody st := by rfl) : C8.Mak P w K mg base (k + 1) x (He.ga K x) sp [] := by
  obtain ⟨fd, F, G⟩ := fnok T i d st hi e1 e2 S len hb
  refine ⟨He.fAd K d.at_, fd, ps, [], by rw [ha]; exact M, G, hx, ?_, .nil⟩
  rcases hp with ⟨a, b, c⟩ | ⟨a, c⟩
  · exact binds0 a b F c
  · exact binds1 a F c
end

/-! ### rules of our own -/
section
variable {X : Cx}
/-- one reading out of several -/
def tPoly {ι : Type} (t : ι → TE) : TE := fun σ H Q => ∃ c, t c σ H Q
theorem pe_poly {ι : Type} {e : Expr} {t : ι → TE} (h : ∀ c, PE X e (t c)) : PE X e (tPoly t) := ⟨fun pins s σ H Q I ⟨c, q⟩ => (h c).run pins s σ H Q I q⟩
/-- xs != ys of two lists of different lengths, or both empty -/
def rNeL (K : PySem.W.Frag) : R2 := fun x y H Q => ∃ a b xs ys, x = .ref a ∧ y = .ref b ∧ SqL K H a xs ∧ SqL K H b ys ∧ ((xs.length ≠ ys.length ∧ Q (.bl true) H) ∨ (xs = [] ∧ ys = [] ∧ Q (.bl false) H))
theorem op_neL (hu : X.A.units < cLine) : OpR X (compareOp .NotEq) (rNeL X.K) := by
  intro pins s σ H x y v u Q I rx ry h
  obtain ⟨a, b, xs, ys, rfl, rfl, hx, hy, hq⟩ := h
  cases rx
  cases ry
  obtain ⟨its, r1, p1, _⟩ := I.list hx
  obtain ⟨its2, r2, p2, _⟩ := I.list hy
  have l1 := r1.length
  have l2 := r2.length
  rcases hq with ⟨ne, q⟩ | ⟨rfl, rfl, q⟩
  · refine (SeqAt.RcNeAt.lists_lengths p1.isList p2.isList ?_ hu) _ _ _ _ ⟨.bl true, H, I, rfl, q⟩
    rw [List.size_toArray, List.size_toArray, ← l1, ← l2]
    exact bne_iff_ne.mpr ne
  · cases r1
    cases r2
    have z := SeqAt.RcNeAt.lists (e := fun _ => true) p1.isList p2.isList rfl hu (fun j h1 _ => absurd h1 (by simp))
    exact z _ _ _ _ ⟨.bl false, H, I, rfl, q⟩
theorem u65 {A : Around} {k : Nat} (hr : Room k A) : A.units + 65 < cLine := by have := hr.un; omega
/-- x not in a tuple: data of any depth -/
def rNotInT (K : PySem.W.Frag) : R2 := fun x y H Q => ∃ d ds, Dp K H x d ∧ Dp K H y (.tuple ds) ∧ SeqAt.shaped d = true ∧ SeqAt.shaped (.tuple ds) = true ∧ Q (.bl (!ds.any fun z => PyData.eqv z d)) H
theorem op_notInT (hu : X.A.units + 65 < cLine) : OpR X (compareOp .NotIn) (rNotInT X.K) := by
  intro pins s σ H x y v u Q I rx ry h
  obtain ⟨d, ds, hd, he, sd, se, q⟩ := h
  have g1 := Dp.reads I d x v hd rx
  have g2 := Dp.reads I (.tuple ds) y u he ry
  refine SeqAt.notIn_tuple_reads g2.choose_spec g1.choose_spec (SeqAt.canLay_of_shaped se) (SeqAt.canLay_of_shaped sd) ?_ ⟨.bl _, H, I, rfl, q⟩
  have m1 := SeqAt.depth_of_shaped sd
  omega
/-- xs += t, t a tuple -/
theorem iadd_tup (l : Addr) (items : Array Value) (n : Nat) (b : Addr) (items2 : Array Value) (n2 : Nat) (dd2 : Option Addr) (sl2 : Array (Option Value)) (hs0 : ¬(!items.isEmpty && Builtin.List.listTooLong (items.size + items2.size)) = true) (hs1 : items.size ≤ sizeLine) (hs2 : items.size + items2.size ≤ sizeLine + 1) :
    Meets (Builtin.«list.__iadd__» ⟨[.ref l, .ref b], []⟩) (fun _ R s => s.heap.get? l = some { cls := .type "list", dict := none, data := .seq items n, slots := #[] } ∧ s.heap.get? b = some { cls := .type "tuple", dict := dd2, data := .seq items2 n2, slots := sl2 } ∧ R (.ok (.ret (Value.ref l))) { s with heap := s.heap.update l (Obj.mapSeq fun x => x ++ items2), toks := s.toks }) :=
  .of_wp fun prog w A R s h => by
    obtain ⟨hp, g, d, tk, os⟩ := s
    obtain ⟨hl, hb, h⟩ := h
    have q1 := AutoSeq1.idx_int
    have q2 := AutoSeq1.sub_tuple_tuple
    have q3 := AutoSeq1.sub_list_list
    have q4 := AutoSeq1.sub_tuple_list
    have q5 := AutoSeq1.sub_list_tuple
    have hz' : (items ++ items2).size ≤ sizeLine + 1 := by rw [Array.size_append]; exact hs2
    wp_walk using (wpAny_updateSeq hl rfl (hz := hs1) (_hz' := hz')), AutoSeq1.wpAny_loadPart' hl, AutoSeq1.wpAny_loadPart' hb
    exact ⟨_, rfl, h⟩
end

section
/-- neither side has a number's slot: the sequence's own is asked -/
theorem no_slot {M : Model} {A : Around} {E : Value → Shared → Prop} {s : Shared} {a b : Value} {T U nm : String} {Q : Option Value → Shared → Prop} (hTU : (Value.type T == Value.type U) = false) (ha : s.TypeIs a T) (hb : s.TypeIs b U)
    (h1 : fillsNumberSlot (.type T) nm = pure false) (h2 : fillsNumberSlot (.type U) nm = pure false) (h : Q none s) : wpAny M A (binaryOp1 nm a b) Q E s := by
  simp only [binaryOp1]
  refine wpAny_bind (wpAny_typeOf ha ?_)
  refine wpAny_bind (wpAny_typeOf hb ?_)
  refine wpAny_bind (wpAny_of_eq h1 ?_)
  rw [hTU]
  refine wpAny_bind ?_
  simp only [Bool.false_eq_true, if_false]
  refine wpAny_of_eq h2 ?_
  simp only [Bool.false_and, Bool.and_false, Bool.false_eq_true, if_false, pure_bind]
  exact wpAny_pure h
theorem iadd_any {M : Model} {A : Around} {E : Value → Shared → Prop} {s : Shared} {a b : Value} {Q : Value → Shared → Prop} (ha : s.TypeIs a "list") (hb : s.TypeIs b "tuple") (hc : wpAny M A (call (.builtin "list.__iadd__") [a, b]) Q E s) :
    wpAny M A (inplaceOp .Add a b) Q E s := by
  have k1 : typeLookup (.type "list") (dunderI "add") = pure (some (.builtin "list.__iadd__")) := PySem.F.slot_list_iadd.lookup
  have k2 : isSeqSlot (some (.builtin "list.__iadd__")) = true := by decide +kernel
  have k3 : fillsInplaceSlot (.type "list") "add" (Operator.Add == .Add) = pure false := by
    unfold fillsInplaceSlot
    show (typeLookup (.type "list") (dunderI "add") >>= fun z => pure (z.isSome && !isSeqSlot z)) = pure false
    rw [k1]
    show (pure (true && !isSeqSlot (some (.builtin "list.__iadd__"))) : Sem Bool) = pure false
    rw [k2]
    rfl
  unfold inplaceOp
  refine wpAny_holding (wpAny_bind (wpAny_typeOf ha (wpAny_bind (wpAny_of_eq k3 ?_))))
  show wpAny M A (if false = true then _ else _) Q E s
  rw [if_neg Bool.false_ne_true]
  refine wpAny_bind (no_slot (nm := "add") (by decide) ha hb noFill_list_add noFill_tuple_add ?_)
  exact wpAny_bind (wpAny_of_eq (PySem.seqSlot_of k1 k2) (wpAny_bind (wpAny_rule hc)))
variable {X : Cx}
def rExtT (K : PySem.W.Frag) : R2 := fun x y H Q => ∃ l b xs zs, x = .ref l ∧ y = .ref b ∧ H l = some (.lst xs) ∧ SqT K H b zs ∧ xs.length + zs.length ≤ sizeLine ∧ Q (.ref l) (upd H l (.lst (xs ++ zs)))
theorem iop_extT : OpR X (inplaceOp .Add) (rExtT X.K) := by
  intro pins s σ H x y v u Q I rx ry h
  obtain ⟨l, b, xs, zs, rfl, rfl, hH, hB, hz, q⟩ := h
  cases rx
  cases ry
  obtain ⟨z, its, n, r, hl, e⟩ := I.lstM hH
  obtain ⟨its2, r2, p2, _⟩ := I.tuple hB
  obtain ⟨⟨cls, dd, dt, sl⟩, ho, hc, n2, hd⟩ := p2
  simp only at hc hd
  subst hc hd
  have hl2 := r2.length
  have hsz : its.toArray.size + its2.toArray.size ≤ sizeLine := by rw [List.size_toArray, List.size_toArray]; omega
  have ok : ¬ (!its.toArray.isEmpty && Builtin.List.listTooLong (its.toArray.size + its2.toArray.size)) = true := by
    rw [notLongL hsz, Bool.and_false]
    exact Bool.false_ne_true
  refine iadd_any ⟨_, e, rfl⟩ ⟨_, ho, rfl⟩ (call_meets PySem.F.slot_list_iadd ⟨_, e, rfl⟩ PySem.F.entry_list_iadd (PySem.F.args_list_iadd_2 _ _)
    (iadd_tup l its.toArray n b its2.toArray n2 dd sl ok (by rw [List.size_toArray]; omega) (by omega)) ⟨e, ho, ?_⟩)
  refine ⟨.ref l, _, I.lset (its' := its ++ its2) (t' := s.toks) hH e (by simp) (r.append r2) ?_, rfl, q⟩
  rw [List.length_append]
  omega
/-- tuple(xs) of a list: the new tuple's object is told -/
theorem call_tuple_frz : CallR X (.type "tuple") (fun xs H Q => ∃ p ys, xs = [.ref p] ∧ SqL X.K H p ys ∧ ∀ (l : Addr) (o : Obj), o.dict = none → H l = none → Q (.ref l) (upd H l (.frz o (.tup ys)))) := by
  intro pins s σ H xs us Q I r h
  obtain ⟨p, ys, rfl, hq, q⟩ := h
  obtain ⟨u, rfl, rx⟩ := vals1 r
  cases rx
  obtain ⟨its, r', pl, hz⟩ := I.list hq
  have hlen := r'.length
  refine call_tuple_list pl.isList (fun h' kp => ?_) (by simp only [List.size_toArray] <;> omega)
  have I1 : Inv X pins σ H { s with heap := h' } := I.kept (t' := s.toks) kp
  have I2 : Inv X pins σ (upd H h'.objs.size (.frz { cls := .type "tuple", data := .seq its.toArray } (.tup ys))) { s with heap := h'.push { cls := .type "tuple", data := .seq its.toArray } } :=
    I1.laid (t' := s.toks) (fun b o e => Heap.get?_push_of_some _ e) (Nat.le_refl _) ⟨Heap.get?_push_size (ho := rfl) .., (show ObjOk X.prog X.w _ _ _ (.tup ys) from ⟨hz, its, r', IsTup.new _ _⟩)⟩
  exact ⟨.ref h'.objs.size, _, I2, rfl, q _ _ rfl (I1.hok.fresh (Nat.le_refl _))⟩
/-- t.index(x), t a tuple whose object is told, of texts -/
def tTix (K : PySem.W.Frag) (to : TE) (t : TA) : TE := fun σ H Q => to σ H fun x H1 => (∃ p u xs, x = .ref p ∧ H1 p = some (.frz u (.tup xs)) ∧ u.dict = none) ∧ t σ H1 fun vs H2 => ∃ p, ∃ ys : List Str, ∃ z j, x = .ref p ∧ vs = [.str z] ∧ SqT K H2 p (ys.map V.str) ∧ ys[j]? = some z ∧ (∀ m, m < j → ys[m]? ≠ some z) ∧ Q (.int (j : Nat)) H2
theorem pe_tix {o e : Expr} {es : List Expr} {to : TE} {t : TA} {apos cpos : Pos} (ho : PE X o to) (ha : PA X (e :: es) t)
    (hbase : attributeBase o "index" X.env (eval o X.env) = eval o X.env := by rfl)
    (hfew : ((backTo cpos (starEach (e :: es) X.env)).all (fun x => !x.1) && (backToKw cpos (keywordEach [] X.env)).all (fun x => x.1.isSome)
      && decide ((e :: es).length + ([] : List Keyword).length + (if ([] : List Keyword).isEmpty then 0 else 1) < 30)) = true := by rfl)
    (hline : (apos.endLine == cpos.line) = true := by rfl) (hs : starEach (e :: es) X.env = (false, eval e X.env) :: starEach es X.env := by rfl) (hplain : (backTo cpos (starEach es X.env)).any (·.1) = false := by rfl) :
    PE X (.Call (.Attribute o "index" apos) (e :: es) [] cpos) (tTix X.K to t) := by
  refine ⟨fun pins s σ H Q I h => ?_⟩
  refine wpAny_Call_method_late hbase hfew hline rfl (thn (ho.run pins s σ H _ I h) fun v s1 ⟨x, H1, I1, r1, ⟨p, u, xs, ex, hp, hu⟩, q1⟩ => ?_)
  have r1' := r1
  rw [ex] at r1'
  cases r1'
  obtain ⟨hg, _, its, _, o1, ho1, hc1, _⟩ := I1.hok p _ hp
  have eo : o1 = u := Option.some.inj (ho1.symm.trans hg)
  subst eo
  refine ⟨"tuple", "tuple.index", PySem.F.plainAttrs_tuple, PySem.F.slot_tuple_index, PySem.F.type_tuple_index, ⟨_, hg, hc1⟩, fun a e => by cases e; exact ⟨_, hg, hu⟩, ?_⟩
  have hA := ha.run cpos pins s1 σ H1 _ I1 q1
  rw [hs] at hA ⊢
  refine Calls.callWith_builtin (by show (false || (backTo cpos (starEach es X.env)).any (·.1)) = false; rw [hplain] <;> rfl) (Calls.evalArgs_plain ?_)
  exact thn hA fun us s2 ⟨vs, H2, I2, r2, q2⟩ => mt_tup_index pins s2 σ H2 x vs (.ref p) us Q I2 r1 r2 q2
end

/-! ### the set of some texts: how many are in it -/
/-- the texts as they are met, each once -/
def ded : List Str → List Str → List Str
  | acc, [] => acc
  | acc, x :: r => ded (if acc.any (· == x) then acc else acc ++ [x]) r
theorem ded_snoc (x : Str) : ∀ (l acc : List Str), ded acc (l ++ [x]) = if (ded acc l).any (· == x) then ded acc l else ded acc l ++ [x]
  | [], acc => rfl
  | y :: r, acc => ded_snoc x r _
theorem ded_le : ∀ (l acc : List Str), (ded acc l).length ≤ acc.length + l.length
  | [], acc => Nat.le_refl _
  | y :: r, acc => by
    show (ded (if acc.any (· == y) then acc else acc ++ [y]) r).length ≤ _
    rw [List.length_cons]
    by_cases c : acc.any (· == y) = true
    · rw [if_pos c]
      have h := ded_le r acc
      omega
    · rw [if_neg c]
      have h := ded_le r (acc ++ [y])
      rw [List.length_append] at h
      simp only [List.length_cons, List.length_nil] at h
      omega
def setO (led : Bool) : Obj := { cls := .type "set", dict := none, data := .set #[] 0 (.fresh 0 0 led) }
theorem str_at : ∀ {us : List Value} {xs : List Str}, PyProof.Rows.StrsAre us xs → ∀ (i : Nat) (u : Value), us[i]? = some u → ∃ t, u = .str (xs.getD i Str.empty) t
  | _, _, .nil, _, _, h => by simp at h
  | _, _, .cons _ t _, 0, _, h => ⟨t, (Option.some.inj (by simpa using h)).symm⟩
  | _, _, .cons _ _ r, i + 1, u, h => str_at r i u (by simpa using h)
section
variable {prog : Program} {w : World} {A : Around} {R : Result → Shared → Prop} {I : Addr} {fp wr : List Addr} {G1 : Array GenState → Array GenState → Prop} {n : Nat} {P : Nat → Value → Prop} {Stt : Nat → Shared → Prop}
theorem ded_loop (W : WalksS prog w A.in1 I fp wr G1 n P Stt) (S : Addr) (out : S ∉ fp) (xs : List Str) (len : xs.length = n) (few : xs.length + 1 < scanBound) (turned : ∀ i v, P i v → ∃ t, v = .str (xs.getD i Str.empty) t) :
    ∀ (k i : Nat) (s : Shared), n - i = k → i ≤ n → Stt i s → s.heap.SetOf (PySem.strKind prog w) S (fun z => (ded [] (xs.take i)).any (· == z)) (ded [] (xs.take i)).length →
      (∀ s', Moved (S :: wr) G1 s s' → s'.heap.SetOf (PySem.strKind prog w) S (fun z => (ded [] (xs.take n)).any (· == z)) (ded [] (xs.take n)).length → R (.ok (.ret .none)) s') →
      codeAny (model prog w) A (.builtin "set.update.loop" ⟨[.ref S, .ref I], []⟩) R s := by
  have outw : S ∉ wr := fun z => out (W.sub _ z)
  have still : ∀ {s s' : Shared} {f : Str → Bool} {m : Nat}, Moved wr G1 s s' → s.heap.SetOf (PySem.strKind prog w) S f m → s'.heap.SetOf (PySem.strKind prog w) S f m := fun {s s' f m} hm ⟨o, es, ep, t, ho, more⟩ => ⟨o, es, ep, t, hm.heap S _ outw ho, more⟩
  intro k
  induction k with
  | zero =>
    intro i s hk hi st hS hR
    obtain rfl : i = n := by omega
    refine codeAny_builtin PyProof.Rows.F.entry_set_update_loop ?_
    rw [Around.under_plainId PyProof.Rows.F.plain_set_update_loop _]
    show wpAny _ A.in1 (pyNext (.ref I) >>= _) _ _ s
    refine wpAny_bind (W.done s _ _ st fun s' hm => ?_)
    show wpAny _ A.in1 (ret Value.none) _ _ s'
    exact wpAny_pure (hR s' (hm.mono fun b hb => List.mem_cons_of_mem _ hb) (still hm hS))
  | succ k ih =>
    intro i s hk hi st hS hR
    have lt : i < n := by omega
    refine codeAny_builtin PyProof.Rows.F.entry_set_update_loop ?_
    rw [Around.under_plainId PyProof.Rows.F.plain_set_update_loop _]
    show wpAny _ A.in1 (pyNext (.ref I) >>= _) _ _ s
    refine wpAny_bind (W.item i s _ _ lt st fun v s' hP st' hm => ?_)
    obtain ⟨t, rfl⟩ := turned i v hP
    have hS' := still hm hS
    show wpAny _ A.in1 (holding [Value.str (xs.getD i Str.empty) t] (setAdd S (.str (xs.getD i Str.empty) t)) >>= _) _ _ s'
    refine wpAny_bind (wpAny_holding ?_)
    unfold setAdd
    refine wpAny_holding (wpAny_bind ((PySem.strKind prog w).pyHash (k := xs.getD i Str.empty) (strKind_is _ _ _ _) ?_))
    have room : (ded [] (xs.take i)).length + 1 < scanBound := by
      have z := ded_le (xs.take i) []
      rw [List.length_take] at z
      simp only [List.length_nil] at z
      omega
    refine wpAny_setAddHashed_of (knd := PySem.strKind prog w) (s := { s' with toks := s'.toks + 1 }) (strKind_is _ _ _ _) rfl hS' room fun h' hsb hS2 => ?_
    have more : xs.take (i + 1) = xs.take i ++ [xs.getD i Str.empty] := by
      have hlt : i < xs.length := by omega
      rw [List.take_add_one, List.getElem?_eq_getElem hlt, List.getD_eq_getElem?_getD, List.getElem?_eq_getElem hlt]
      rfl
    have hS3 : h'.SetOf (PySem.strKind prog w) S (fun z => (ded [] (xs.take (i + 1))).any (· == z)) (ded [] (xs.take (i + 1))).length := by
      refine PyProof.Rows.SetOf_congr hS2 (fun z => ?_) ?_
      · rw [more, ded_snoc]
        by_cases c : (ded [] (xs.take i)).any (· == xs.getD i Str.empty) = true
        · rw [if_pos c]
          by_cases e : z = xs.getD i Str.empty
          · rw [e, c]; simp
          · rw [decide_eq_false e, Bool.or_false]
        · rw [if_neg c, List.any_append]
          by_cases e : z = xs.getD i Str.empty
          · rw [e]; simp
          · have e2 : (xs.getD i Str.empty == z) = false := beq_eq_false_iff_ne.mpr fun q => e q.symm
            simp only [List.any_cons, List.any_nil, Bool.or_false, e2, decide_eq_false e]
      · rw [more, ded_snoc]
        split
        · rfl
        · rw [List.length_append]; rfl
    refine wpAny_pure ⟨plainId_quiet PyProof.Rows.F.plain_set_update_loop _, ih (i + 1) _ (by omega) lt (W.frame _ s' _ _ st' (Nat.le_succ _) fun b hb o e => ?_) hS3 fun s2 hm2 hS4 => ?_⟩
    · rw [hsb.2 b (fun z : b = S => out (z ▸ hb))]
      exact e
    · refine hR s2 (Moved.trans W.gtrans ((hm.mono fun b hb => List.mem_cons_of_mem _ hb).then_heap (Nat.le_succ _) fun b o hb e => ?_) hm2) hS4
      rw [hsb.2 b (fun z : b = S => hb (by rw [z]; exact List.mem_cons_self))]
      exact e
end
theorem set_of_list {prog : Program} {w : World} {A : Around} {E : Value → Shared → Prop} {s : Shared} {l : Addr} {items : Array Value} {xs : List Str} {Q : Value → Shared → Prop} (ah : A.handled = none) (hl : s.heap.IsList l items)
    (hi : PyProof.Rows.StrsAre items.toList xs) (few : xs.length + 1 < scanBound)
    (fin : ∀ (h' : Heap) (tk : Nat), h'.SetOf (PySem.strKind prog w) s.heap.objs.size (fun z => (ded [] xs).any (· == z)) (ded [] xs).length → (∀ b o, b < s.heap.objs.size → s.heap.get? b = some o → h'.get? b = some o) → Q (.ref s.heap.objs.size) { s with heap := h', toks := tk }) :
    wpAny (model prog w) A (call (.type "set") [.ref l]) Q E s := by
  obtain ⟨c, tl, hmro⟩ := PySem.F.called_set.mro
  have k1 := PySem.F.called_set.made
  have k2 := PySem.F.called_set.sub
  refine wpAny_call (codeAny_of_tree ?_)
  show wpAny _ _ (callAny (.type "set") _) _ _ _
  refine wpAny_pure ⟨Code.quiet_builtin _ (by decide +kernel), codeAny_builtin PySem.F.entry_type_call ?_⟩
  rw [Around.under_plain (weight_type_call_type "set" [.ref l] []) rfl]
  have k3 := PySem.F.called_set.notType
  have k4 := PySem.F.called_set.canCreate
  have k5 := PySem.F.typeCall_set_1 (.ref l)
  repeat (any_goals (first | assumption | wp_step))
  refine codeAny_mono (code_set_new_1 (.ref l) (E := E) (Q₁ := fun z s1 => ∃ led : Bool, z = .ref s.heap.objs.size ∧ s1 = { s with heap := s.heap.push (setO led) }) fun led => ⟨led, rfl, rfl⟩) fun r s1 hr => ?_
  cases r with
  | error e => exact hr
  | ok fl =>
    cases fl with
    | ret z =>
      obtain ⟨led, rfl, rfl⟩ := hr
      have at0 : (s.heap.push (setO led)).get? s.heap.objs.size = some (setO led) := Heap.get?_push_size _ rfl
      have ty0 : Shared.TypeIs { s with heap := s.heap.push (setO led) } (.ref s.heap.objs.size) "set" := ⟨_, at0, rfl⟩
      have k6 := PySem.F.called_set.init.lookup
      have k7 := PySem.F.called_set.init.bind (.ref s.heap.objs.size)
      repeat (any_goals (first | assumption | wp_step))
      refine codeAny_mono (codeAny_call_builtin (R := wants (fun v s2 => v = .none ∧ ∃ h' tk, s2 = { s with heap := h', toks := tk } ∧ h'.SetOf (PySem.strKind prog w) s.heap.objs.size (fun z => (ded [] xs).any (· == z)) (ded [] xs).length ∧
          ∀ b o, b < s.heap.objs.size → s.heap.get? b = some o → h'.get? b = some o) E) PySem.F.called_set.init.plain PySem.F.entry_set_init (check_set_init_1 ty0 ?_)) fun v s2 hv => ?_
      · obtain ⟨⟨oc, od, dt, sl⟩, ol, ec, nl, ed⟩ := hl
        simp only at ec ed
        subst ec ed
        have ol' := Heap.get?_push_of_some (setO led) ol
        have k8 := PySem.F.sub_list_set
        have k9 := PySem.F.sub_list_frozenset
        have k10 : (Value.type "list" == Value.type "dict") = false := by decide
        have isl : (s.heap.push (setO led)).IsList l items := ⟨_, ol', rfl, nl, rfl⟩
        unfold Builtin.«set.__init__» noKeywords Builtin.Frozenset.updateFrom
        generalize hPI : pyIter = PI
        wp_walk
        subst hPI
        refine wpAny_pyIter_list isl (wpAny_bind (wpAny_runValue ?_))
        have lt := Heap.lt_size ol
        have ne1 : l ≠ (s.heap.push (setO led)).objs.size := by rw [Heap.size_push]; exact Nat.ne_of_lt (Nat.lt_succ_of_lt lt)
        have ne2 : s.heap.objs.size ∉ [(s.heap.push (setO led)).objs.size, l] := by
          rw [Heap.size_push]
          simp only [List.mem_cons, List.not_mem_nil, or_false, not_or]
          exact ⟨Nat.ne_of_lt (Nat.lt_succ_self _), Nat.ne_of_gt lt⟩
        have len : xs.length = items.size := by rw [← PyProof.Rows.StrsAre.len_eq hi, Array.length_toList]
        have turned : ∀ (i : Nat) (u : Value), items[i]? = some u → ∃ t, u = .str (xs.getD i Str.empty) t := fun i u hu => str_at hi i u (by rw [Array.getElem?_toList]; exact hu)
        refine ded_loop ((Walks.list (show A.in1.in1.in1.handled = none by simp [ah]) _ l ne1 items).toS) s.heap.objs.size ne2 xs len few turned (items.size - 0) 0 _ (by omega) (Nat.zero_le _) ⟨⟨_, Heap.get?_push_size _ rfl, rfl, rfl⟩, isl.push _⟩ ?begin ?done
        case begin =>
          exact PyProof.Rows.SetOf_congr ((PyProof.Rows.setObjOf_fresh (knd := PySem.strKind prog w) led).setOf (Heap.get?_push_of_some _ at0) (by unfold scanBound; omega)) (fun _ => rfl) rfl
        case done =>
          intro s3 hm hS
          rw [← len, List.take_length] at hS
          obtain ⟨h3, g3, d3, tk3, os3⟩ := s3
          obtain rfl : g3 = s.gens := hm.gens
          obtain rfl : d3 = s.drawn := hm.drawn
          obtain rfl : os3 = s.os := hm.os
          show wpAny _ _ _ _ _ _
          refine wpAny_pure ?_
          show wpAny _ _ (ret Value.none) _ _ _
          refine wpAny_pure ⟨rfl, h3, tk3, rfl, hS, fun b o hb e => ?_⟩
          refine hm.heap b o ?_ (Heap.get?_push_of_some _ (Heap.get?_push_of_some _ e))
          simp only [List.mem_cons, List.not_mem_nil, or_false, not_or]
          exact ⟨Nat.ne_of_lt hb, Nat.ne_of_lt (by rw [Heap.size_push]; exact Nat.lt_succ_of_lt hb)⟩
      · cases v with
        | error e => exact hv
        | ok fl =>
          cases fl with
          | ret v =>
            obtain ⟨rfl, h', tk, rfl, hS, kept⟩ := hv
            repeat (any_goals (first | assumption | wp_step))
            exact fin _ _ hS kept
          | _ => exact hv.elim
    | _ => exact hr.elim
theorem set_of_tuple {prog : Program} {w : World} {A : Around} {E : Value → Shared → Prop} {s : Shared} {l : Addr} {items : Array Value} {xs : List Str} {Q : Value → Shared → Prop} (ah : A.handled = none) (hl : s.heap.IsTuple l items)
    (hi : PyProof.Rows.StrsAre items.toList xs) (few : xs.length + 1 < scanBound)
    (fin : ∀ (h' : Heap) (tk : Nat), h'.SetOf (PySem.strKind prog w) s.heap.objs.size (fun z => (ded [] xs).any (· == z)) (ded [] xs).length → (∀ b o, b < s.heap.objs.size → s.heap.get? b = some o → h'.get? b = some o) → Q (.ref s.heap.objs.size) { s with heap := h', toks := tk }) :
    wpAny (model prog w) A (call (.type "set") [.ref l]) Q E s := by
  obtain ⟨c, tl, hmro⟩ := PySem.F.called_set.mro
  have k1 := PySem.F.called_set.made
  have k2 := PySem.F.called_set.sub
  refine wpAny_call (codeAny_of_tree ?_)
  show wpAny _ _ (callAny (.type "set") _) _ _ _
  refine wpAny_pure ⟨Code.quiet_builtin _ (by decide +kernel), codeAny_builtin PySem.F.entry_type_call ?_⟩
  rw [Around.under_plain (weight_type_call_type "set" [.ref l] []) rfl]
  have k3 := PySem.F.called_set.notType
  have k4 := PySem.F.called_set.canCreate
  have k5 := PySem.F.typeCall_set_1 (.ref l)
  repeat (any_goals (first | assumption | wp_step))
  refine codeAny_mono (code_set_new_1 (.ref l) (E := E) (Q₁ := fun z s1 => ∃ led : Bool, z = .ref s.heap.objs.size ∧ s1 = { s with heap := s.heap.push (setO led) }) fun led => ⟨led, rfl, rfl⟩) fun r s1 hr => ?_
  cases r with
  | error e => exact hr
  | ok fl =>
    cases fl with
    | ret z =>
      obtain ⟨led, rfl, rfl⟩ := hr
      have at0 : (s.heap.push (setO led)).get? s.heap.objs.size = some (setO led) := Heap.get?_push_size _ rfl
      have ty0 : Shared.TypeIs { s with heap := s.heap.push (setO led) } (.ref s.heap.objs.size) "set" := ⟨_, at0, rfl⟩
      have k6 := PySem.F.called_set.init.lookup
      have k7 := PySem.F.called_set.init.bind (.ref s.heap.objs.size)
      repeat (any_goals (first | assumption | wp_step))
      refine codeAny_mono (codeAny_call_builtin (R := wants (fun v s2 => v = .none ∧ ∃ h' tk, s2 = { s with heap := h', toks := tk } ∧ h'.SetOf (PySem.strKind prog w) s.heap.objs.size (fun z => (ded [] xs).any (· == z)) (ded [] xs).length ∧
          ∀ b o, b < s.heap.objs.size → s.heap.get? b = some o → h'.get? b = some o) E) PySem.F.called_set.init.plain PySem.F.entry_set_init (check_set_init_1 ty0 ?_)) fun v s2 hv => ?_
      · obtain ⟨⟨oc, od, dt, sl⟩, ol, ec, nl, ed⟩ := hl
        simp only at ec ed
        subst ec ed
        have ol' := Heap.get?_push_of_some (setO led) ol
        have k8 := PySem.F.sub_tuple_set
        have k9 := PySem.F.sub_tuple_frozenset
        have k10 : (Value.type "tuple" == Value.type "dict") = false := by decide
        have isl : (s.heap.push (setO led)).IsTuple l items := ⟨_, ol', rfl, nl, rfl⟩
        unfold Builtin.«set.__init__» noKeywords Builtin.Frozenset.updateFrom
        generalize hPI : pyIter = PI
        wp_walk
        subst hPI
        refine wpAny_pyIter_tuple isl (wpAny_bind (wpAny_runValue ?_))
        have lt := Heap.lt_size ol
        have ne1 : l ≠ (s.heap.push (setO led)).objs.size := by rw [Heap.size_push]; exact Nat.ne_of_lt (Nat.lt_succ_of_lt lt)
        have ne2 : s.heap.objs.size ∉ [(s.heap.push (setO led)).objs.size, l] := by
          rw [Heap.size_push]
          simp only [List.mem_cons, List.not_mem_nil, or_false, not_or]
          exact ⟨Nat.ne_of_lt (Nat.lt_succ_self _), Nat.ne_of_gt lt⟩
        have len : xs.length = items.size := by rw [← PyProof.Rows.StrsAre.len_eq hi, Array.length_toList]
        have turned : ∀ (i : Nat) (u : Value), items[i]? = some u → ∃ t, u = .str (xs.getD i Str.empty) t := fun i u hu => str_at hi i u (by rw [Array.getElem?_toList]; exact hu)
        refine ded_loop ((Walks.tuple (show A.in1.in1.in1.handled = none by simp [ah]) _ l ne1 items).toS) s.heap.objs.size ne2 xs len few turned (items.size - 0) 0 _ (by omega) (Nat.zero_le _) ⟨⟨_, Heap.get?_push_size _ rfl, rfl, rfl⟩, isl.push _⟩ ?begin ?done
        case begin =>
          exact PyProof.Rows.SetOf_congr ((PyProof.Rows.setObjOf_fresh (knd := PySem.strKind prog w) led).setOf (Heap.get?_push_of_some _ at0) (by unfold scanBound; omega)) (fun _ => rfl) rfl
        case done =>
          intro s3 hm hS
          rw [← len, List.take_length] at hS
          obtain ⟨h3, g3, d3, tk3, os3⟩ := s3
          obtain rfl : g3 = s.gens := hm.gens
          obtain rfl : d3 = s.drawn := hm.drawn
          obtain rfl : os3 = s.os := hm.os
          show wpAny _ _ _ _ _ _
          refine wpAny_pure ?_
          show wpAny _ _ (ret Value.none) _ _ _
          refine wpAny_pure ⟨rfl, h3, tk3, rfl, hS, fun b o hb e => ?_⟩
          refine hm.heap b o ?_ (Heap.get?_push_of_some _ (Heap.get?_push_of_some _ e))
          simp only [List.mem_cons, List.not_mem_nil, or_false, not_or]
          exact ⟨Nat.ne_of_lt hb, Nat.ne_of_lt (by rw [Heap.size_push]; exact Nat.lt_succ_of_lt hb)⟩
      · cases v with
        | error e => exact hv
        | ok fl =>
          cases fl with
          | ret v =>
            obtain ⟨rfl, h', tk, rfl, hS, kept⟩ := hv
            repeat (any_goals (first | assumption | wp_step))
            exact fin _ _ hS kept
          | _ => exact hv.elim
    | _ => exact hr.elim
/-- len(set(xs)) of texts -/
def tLenSetS (K : PySem.W.Frag) (ta : TE) : TE := fun σ H Q => ta σ H fun x H1 => ∃ l, ∃ xs : List Str, x = .ref l ∧ (SqL K H1 l (xs.map V.str) ∨ SqT K H1 l (xs.map V.str)) ∧ xs.length ≤ 1000 ∧ Q (.int ((ded [] xs).length : Nat)) H1
theorem pe_lenSetS {X : Cx} {a : Expr} {ta : TE} {p p2 q pos : Pos} (hg : Gl X "len") (hm : X.mg "len" = none) (hg2 : Gl X "set") (hm2 : X.mg "set" = none) (ha : PE X a ta) (hc : X.calm = true := by rfl)
    (na : starEach [a] X.env = (false, eval a X.env) :: starEach [] X.env := by rfl) : PE X (.Call (.Name "len" p) [.Call (.Name "set" p2) [a] [] q] [] pos) (tLenSetS X.K ta) := by
  refine ⟨fun pins s σ H Q I h => ?_⟩
  refine Call_ (ld_blt I hg hm boot_len (PyProof.Rows.callWith_builtin1 (PyProof.Rows.args_cons ?_ rfl) rfl rfl))
  refine Call_ (ld_blt I hg2 hm2 boot_set (PyProof.Rows.callWith_type1 (PyProof.Rows.args_cons (thn (ha.run pins s σ H _ I h) fun v s1 ⟨x, H1, I1, r1, q1⟩ => PyProof.Rows.args_nil ?_) na) na rfl))
  obtain ⟨l, xs, rfl, hq, few, q1⟩ := q1
  cases r1
  have ends : ∀ (h' : Heap) (tk : Nat), h'.SetOf (PySem.strKind X.prog X.w) s1.heap.objs.size (fun z => (ded [] xs).any (· == z)) (ded [] xs).length → (∀ b o, b < s1.heap.objs.size → s1.heap.get? b = some o → h'.get? b = some o) →
      wpAny (model X.prog X.w) X.A (spliced (backTo pos (starEach [] X.env))) (fun vs s₂ => wpAny (model X.prog X.w) X.A (call (.builtin "len") (Value.ref s1.heap.objs.size :: vs)) (EP X pins σ Q) X.xe s₂) X.xe { s1 with heap := h', toks := tk } := fun h' tk hS hk => by
    refine PyProof.Rows.args_nil ?_
    obtain ⟨o, es, ep, t, ho, hex, hd, _, _, _, hf, hn⟩ := hS
    have I2 : Inv X pins σ H1 { s1 with heap := h', toks := tk } := I1.kept fun b o e => hk b o (Heap.lt_size e) e
    have le := ded_le xs []
    simp only [List.length_nil] at le
    exact call_len_set ho hex hd hf (by rw [hn]; omega) ⟨.int _, H1, I2.tok _, ⟨_, by rw [hn]⟩, q1⟩
  have few2 : xs.length + 1 < scanBound := by unfold scanBound; omega
  rcases hq with hq | hq
  · obtain ⟨its, r, pl, hz⟩ := I1.list hq
    exact set_of_list (I1.ok.hd hc) pl.isList (by simpa using strsAre_of r) few2 ends
  · obtain ⟨its, r, pl, hz⟩ := I1.tuple hq
    exact set_of_tuple (I1.ok.hd hc) pl (by simpa using strsAre_of r) few2 ends
/-- how many: all of them, just where none stands twice -/
theorem ded_nodup : ∀ {l acc : List Str}, (acc ++ l).Nodup → ded acc l = acc ++ l
  | [], acc, _ => by rw [List.append_nil]; rfl
  | x :: r, acc, h => by
    have hx : acc.any (· == x) = false := by
      rw [Bool.eq_false_iff]
      intro z
      obtain ⟨y, hy, e⟩ := List.any_eq_true.mp z
      rw [eq_of_beq e] at hy
      exact (List.nodup_append.mp h).2.2 x hy x List.mem_cons_self rfl
    show ded (if acc.any (· == x) then acc else acc ++ [x]) r = _
    rw [hx]
    show ded (acc ++ [x]) r = _
    rw [ded_nodup (by simpa using h)]
    simp
theorem ded_acc : ∀ (l acc : List Str), acc.Nodup → (ded acc l).Nodup
  | [], _, h => h
  | x :: r, acc, h => by
    refine ded_acc r _ ?_
    split
    · exact h
    · rename_i z
      refine List.nodup_append.mpr ⟨h, by simp, fun a ha b hb e => z ?_⟩
      rw [List.mem_singleton] at hb
      exact List.any_eq_true.mpr ⟨a, ha, by rw [e, hb]; exact beq_self_eq_true x⟩
theorem ded_len {l : List Str} (h : l.length ≤ (ded [] l).length) : l.Nodup := by
  have key : ∀ (l acc : List Str), acc.length + l.length ≤ (ded acc l).length → (ded acc l) = acc ++ l := by
    intro l
    induction l with
    | nil => intro acc _; rw [List.append_nil]; rfl
    | cons x r ih =>
      intro acc h
      have h' : acc.length + (r.length + 1) ≤ (ded (if acc.any (· == x) then acc else acc ++ [x]) r).length := h
      show ded (if acc.any (· == x) then acc else acc ++ [x]) r = _
      by_cases c : acc.any (· == x) = true
      · rw [if_pos c] at h'
        have z := ded_le r acc
        omega
      · rw [if_neg c] at h' ⊢
        rw [ih _ (by rw [List.length_append]; simp only [List.length_cons, List.length_nil]; omega)]
        simp
  have e := key l [] (by simpa using h)
  have n := ded_acc l [] List.nodup_nil
  rw [e] at n
  simpa using n

/-! ### a closure: with_ahead gives back a def of its own -/
abbrev s_named : Stmt := (defBody s_with_ahead).getD 0 (.Pass ⟨0, 0, 0, 0⟩)
def qNamed : Str := "with_ahead.<locals>.named"
/-- the made function: the cell that it holds, its code object -/
def clo (c c' : Addr) : NdefX.NF := NdefX.NF.of s_named "named" qNamed [("ahead", c)] c'
/-- the cell at c holds the text a -/
def CellO (c : Addr) (a : Str) : HO := .ext fun h => ∃ t, h.IsCell c (some (.str a t))
/-- at f: the function that puts the text a ahead -/
def CloAt (H : Hp) (f : Addr) (a : Str) : Prop := ∃ c c', H f = some (NdefX.FnO f (clo c c')) ∧ H c' = some (LamX.CodeO c' qNamed) ∧ H c = some (CellO c a)
abbrev cod (K : PySem.W.Frag) : Addr := (He.cT K ("with_ahead", none)).1
abbrev tab (K : PySem.W.Frag) : Addr := (He.cT K ("with_ahead", none)).2
abbrev TT (K : PySem.W.Frag) : List NdefX.NTab := [(tab K, fun _ _ => qNamed)]
/-- all that was known is known still, but for the table of code objects, which may grow -/
def Ext (K : PySem.W.Frag) (H H' : Hp) : Prop := LamX.ExtN H H' ∧ (NdefX.TabsN (TT K) H → NdefX.TabsN (TT K) H') ∧ ∀ b, H' b = none → H b = none
section
variable {P : Program} {w : World} {K : PySem.W.Frag} {mg : Str → Option Value} {base : Heap}
theorem cell_ne {c : Addr} {a : Str} {ps : Array Value} : CellO c a ≠ .tbl ps := fun z => by
  unfold CellO at z
  cases z
/-- an object is known that was not -/
theorem hok_more {H : Hp} {h : Heap} {c : Addr} {a : Str} (hok : HOk P w H h) (n : H c = none) (z : ∃ t, h.IsCell c (some (.str a t))) : HOk P w (upd H c (CellO c a)) h := fun b o e => by
  by_cases q : b = c
  · subst q
    rw [upd_same] at e
    cases e
    obtain ⟨t, ob, h1, h2⟩ := z
    exact ⟨⟨t, ob, h1, h2⟩, ⟨ob, h1⟩, fun g1 g2 ⟨t', o1, k1, k2⟩ st => ⟨t', o1, st _ k1, k2⟩⟩
  · rw [upd_ne q] at e
    exact (hok b o e).stay (fun _ _ _ r => r) (fun d r => by rw [upd_ne (ne_of_none r n)]; exact r) fun d xs r => by rw [upd_ne (ne_of_none r n)]; exact r
def forget (H : Hp) (c : Addr) : Hp := fun b => if b = c then none else H b
theorem forget_at {H : Hp} {c : Addr} : forget H c c = none := if_pos rfl
theorem forget_ne {H : Hp} {c b : Addr} (h : b ≠ c) : forget H c b = H b := if_neg h
theorem hok_less {H : Hp} {h : Heap} {c : Addr} {a : Str} (hok : HOk P w H h) (e : H c = some (CellO c a)) : HOk P w (forget H c) h := fun b o q => by
  have n : b ≠ c := fun z => by rw [z, forget_at] at q; cases q
  rw [forget_ne n] at q
  refine (hok b o q).stay (fun _ _ _ r => r) (fun d r => ?_) fun d xs r => ?_
  · rw [forget_ne fun z => by rw [z, e] at r; exact absurd (Option.some.inj r) (by unfold CellO; intro y; cases y)]
    exact r
  · rw [forget_ne fun z => by rw [z, e] at r; exact absurd (Option.some.inj r) (by unfold CellO; intro y; cases y)]
    exact r
theorem sc_named : NdefX.NScope ["name", "ahead"] ["name"] ["ahead"] (C8.fnScope s_named) := NdefX.nscope_by (by decide +kernel)
/-- what a call of it asks -/
def spNamed : List (Option V) → Sp := fun ws vs H Q _ => ∃ a n : Str, ws = [some (.str a)] ∧ vs = [.str n] ∧ a.length + n.length ≤ sizeLine ∧ Q (.str (a ++ n)) H
theorem named_ok {c c' f : Addr} {k : Nat} : NdefX.NOk P w K mg base C8.CX0 (k + 1) f (clo c c') ["name"] ["ahead"] spNamed := by
  refine NdefX.nok_of (N := ["name", "ahead"]) sc_named (fun doc pm ctv us hl => match us, hl with | [_], _ => rfl) (fun ws vs H Q E h => ?_) (fun A outer s H vs ws Q E hr hf hc hl h => ?_)
  · obtain ⟨a, n, _, rfl, _⟩ := h
    rfl
  · obtain ⟨a, n, rfl, rfl, hz, q⟩ := h
    refine ⟨_, pss_one (ps_ret (pe_op op_add_str (pv 1) (pv 0))), ?_⟩
    exact ⟨_, rfl, _, rfl, a, n, rfl, rfl, hz, q⟩
variable {X : Cx} {e : Expr} {te : TE} {p pos : Pos}
/-- g(e), the name's slot holding such a function -/
def tClo (i : Nat) (te : TE) : TE := fun σ H Q => ∃ f a, σ[i]? = some (some (.ref f)) ∧ CloAt H f a ∧ te σ H fun x H1 => ∃ n, x = .str n ∧ CloAt H1 f a ∧ a.length + n.length ≤ sizeLine ∧ Q (.str (a ++ n)) H1
theorem pe_clo (i : Nat) {x : Str} {j : Nat} (hr : Room (j + 1) X.A) (ha : PA X [e] (tCons te tNil)) (hN : X.N[i]? = some x := by rfl) (hv : Vis X.env.scope x := by first | exact Or.inl rfl | exact Or.inr (Or.inl rfl) | exact Or.inr (Or.inr rfl))
    (hd : (x == ("__debug__" : Str)) = false := by decide) (hcd : (x == ("__classdict__" : Str)) = false := by decide)
    (he : starEach [e] X.env = (false, eval e X.env) :: starEach [] X.env := by rfl) (hpl : (backTo pos (starEach [] X.env)).any (·.1) = false := by rfl) (hx : Passes C8.CX0 X C8.E0 := C8.pass0) :
    PE X (.Call (.Name x p) [e] [] pos) (tClo i te) := by
  refine ⟨fun pins s σ H Q I h => ?_⟩
  obtain ⟨f, a, hs, hf, ht⟩ := h
  refine wpAny_Call_Name_kw (thn ((pe_var (pos := p) hN hv hd hcd).run pins s σ H (fun v H1 => v = .ref f ∧ H1 = H) I ⟨.ref f, hs, rfl, rfl⟩) fun u s1 ⟨v, H1, I1, r1, q1⟩ => ?_)
  obtain ⟨ev, eH⟩ := q1
  subst ev
  rw [eH] at I1
  obtain rfl : u = Value.ref f := r1
  obtain ⟨c0, c0', g1, _, _⟩ := hf
  have ht2 : tCons te tNil σ H fun vs H1 => ∃ n, vs = [.str n] ∧ CloAt H1 f a ∧ a.length + n.length ≤ sizeLine ∧ Q (.str (a ++ n)) H1 := by
    refine (?_ : te σ H fun x H1 => ∃ n, [x] = [.str n] ∧ CloAt H1 f a ∧ a.length + n.length ≤ sizeLine ∧ Q (.str (a ++ n)) H1)
    have eq : (fun (x : V) (H1 : Hp) => ∃ n, x = .str n ∧ CloAt H1 f a ∧ a.length + n.length ≤ sizeLine ∧ Q (.str (a ++ n)) H1) = fun x H1 => ∃ n, [x] = [.str n] ∧ CloAt H1 f a ∧ a.length + n.length ≤ sizeLine ∧ Q (.str (a ++ n)) H1 := by
      funext x H1
      exact propext ⟨fun ⟨n, e, r⟩ => ⟨n, by rw [e], r⟩, fun ⟨n, e, r⟩ => ⟨n, (List.cons.inj e).1, r⟩⟩
    rw [← eq]
    exact ht
  refine PySem.W.callWith_F (first := []) (NdefX.fnAt_of I1 g1) (thn (ha.run pos pins s1 σ H _ I1 ht2) fun us s2 ⟨vs, H2, I2, r, n, ev, ⟨c, c', f1, f2, f3⟩, hz, q⟩ => ⟨NdefX.fnAt_of I2 f1, ?_⟩) he hpl
  subst ev
  show wpAny _ _ (call (.ref f) us) _ _ _
  obtain ⟨od, sl, doc, pm, ctv, ho⟩ := NdefX.fnO_at I2.hok f1
  obtain ⟨t, oc, hoc, hdc⟩ := (I2.hok c _ f3).1
  obtain ⟨z1, vs1, z2, z3, z4, z5⟩ := (I2.hok c' _ f2).1
  have fc : f ≠ c := fun z => by
    rw [z, hoc] at ho
    cases ho
    cases hdc
  have cc : c' ≠ c := fun z => by
    rw [z, hoc] at z3
    cases z3
    rw [hdc] at z4
    cases z4
  have e0 := I2.env0
  have none_ : ∀ {b : Addr}, H2 b = none → forget H2 c b = none := fun {b} h => by
    unfold forget
    split
    · rfl
    · exact h
  have e1 : Env0 X.prog X.w X.K X.mg X.base X.A X.stack s2 (forget H2 c) := ⟨e0.frames, e0.mod, fun b o e => ⟨(e0.bs b o e).1, none_ (e0.bs b o e).2⟩, e0.bsz, e0.funs, fun b hb => none_ (e0.frf b hb), hok_less e0.hok f3, e0.bare⟩
  have only : ∀ {y : Str} {d : Addr}, (clo c c').cl.lookup y = some d → y = "ahead" ∧ d = c := fun {y d} h => by
    have h : List.lookup y [(("ahead" : Str), c)] = some d := h
    rw [List.lookup_cons] at h
    split at h
    · rename_i q
      exact ⟨eq_of_beq q, (Option.some.inj h).symm⟩
    · cases h
  have cells : NdefX.CellsAt (clo c c').cl ["ahead"] [some (.str a)] s2.heap (forget H2 c) := by
    refine ⟨rfl, fun y d h => ?_, fun y z d h1 h2 => ?_, fun i y h => ?_⟩
    · obtain ⟨rfl, rfl⟩ := only h
      exact ⟨forget_at, _, oc, hoc, hdc⟩
    · exact (only h1).1.trans (only h2).1.symm
    · match i, h with
      | 0, h =>
        have e : ("ahead" : Str) = y := Option.some.inj h
        subst e
        refine ⟨c, rfl, fun v hv => ?_⟩
        have e : V.str a = v := Option.some.inj (Option.some.inj hv)
        subst e
        exact ⟨_, ⟨t, rfl⟩, oc, hoc, hdc⟩
      | i + 1, h => simp at h
  have g1' : forget H2 c f = some (NdefX.FnO f (clo c c')) := by rw [forget_ne fc]; exact f1
  have g2' : forget H2 c c' = some (LamX.CodeO c' qNamed) := by rw [forget_ne cc]; exact f2
  refine wpAny_call (codeAny_mono ((named_ok (P := X.prog) (w := X.w) (K := X.K) (mg := X.mg) (base := X.base) (k := j)).run X.A X.stack s2 (forget H2 c) us [.str n] [some (.str a)] (fun v H' => v = .str (a ++ n) ∧ H' = forget H2 c) C8.E0 hr e1 g1' g2' cells r
    ⟨a, n, rfl, rfl, hz, rfl, rfl⟩) fun res s' hq => ?_)
  cases res with
  | error e => exact hq.elim
  | ok fl =>
    cases fl with
    | ret u =>
      obtain ⟨v, H', os, bare, un, hok, rv, ev, eH2⟩ := hq
      subst ev
      rw [eH2] at un hok
      have nf : c ∉ frs X.stack := fun z => by
        have y := e0.frf c z
        rw [f3] at y
        cases y
      have back : upd (forget H2 c) c (CellO c a) = H2 := by
        funext b
        by_cases q : b = c
        · rw [q, upd_same, f3]
        · rw [upd_ne q, forget_ne q]
      have hok2 := hok_more hok (a := a) forget_at ⟨t, oc, un.keep c oc hoc forget_at nf (by simp), hdc⟩
      rw [back] at hok2
      exact I2.after ⟨_, H2, os, bare, ⟨fun b o e n hb hx => un.keep b o e (none_ n) hb hx, fun b o e n hb hx => un.slot b o e (none_ n) hb hx, fun _ _ _ n _ => n, un.there, fun _ _ q => q, fun _ _ _ q => q, fun b ps q => ⟨#[], by rw [q]; simp⟩⟩, hok2, rv, q⟩
    | next => exact False.elim hq
    | brk => exact False.elim hq
    | cont => exact False.elim hq
end

section
variable {P : Program} {w : World} {K : PySem.W.Frag} {mg : Str → Option Value} {base : Heap}
theorem sc_with_ahead : FnScope ["ahead", "named"] ["ahead"] (defScope s_with_ahead) := ⟨rfl, rfl, rfl, by decide +kernel, rfl, by decide +kernel, by decide +kernel⟩
def spWith (K : PySem.W.Frag) : Sp := fun vs H Q _ => ∃ a : Str, vs = [.str a] ∧ NdefX.TabsN (TT K) H ∧ ∀ f H', Ext K H H' → CloAt H' f a → Q (.ref f) H'
theorem ok_with_ahead (T : Top K mg) (TB : LamX.TabB base mg (cod K) (tab K)) : C8.Cal P w K mg base 1 "with_ahead" (spWith K) [] := by
  obtain ⟨fd, F⟩ := T.says.def_ 15 (d := d_with_ahead) rfl
  have bnd : Binds K fd ["ahead"] [] := binds0 rfl rfl F (fun _ _ _ _ _ _ us hl => match us, hl with | [_], _ => rfl)
  have kp := F.kp
  obtain ⟨oc, od, dV, kV, doc, pm, an, cdv, ct, osl, rfl, lk, hcd, _, _⟩ := F.ex
  obtain ⟨cd, rfl⟩ := He.codeIn_ref hcd
  have ec : cod K = cd := He.codeOf_eq lk rfl
  have len : ∀ vs H Q E, spWith K vs H Q E → vs.length = (["ahead"] : List Str).length := fun vs H Q E h => by
    obtain ⟨a, rfl, _⟩ := h
    rfl
  refine ⟨_, _, ["ahead"], [], ⟨len, fun A outer s H args us vs Q E hr e0 hb r hsp => ?_⟩, T.g_with_ahead, kp, bnd, .nil⟩
  have hl := len _ _ _ _ hsp
  have KX : K.In s.heap := e0.mod.kin.keeps fun b o e => (e0.bs b o e).1
  have lim : s.heap.NoLimit := e0.mod.nolimit.keeps fun b o e => (e0.bs b o e).1
  refine codeAny_call_function hr.depth (KX _ _ lk) rfl sc_with_ahead.co sc_with_ahead.gen rfl (PySem.W.codeRec_of KX hcd) (hb _ _ _ _ ?_)
  refine wpAny_newFunctionEnv_cells sc_with_ahead.kind (fun ⟨n, v⟩ hy => ?_) fun env he s1 x => ?_
  · rcases sc_with_ahead.par n (List.of_mem_zip hy).1 with q | q
    · exact .inl q
    · exact .inr ⟨q, PySem.W.cellsFrom_some _ _ _ (.inl q)⟩
  subst he
  refine ⟨lim.keeps x.toInCall.keep, codeAny_func ?_⟩
  have I : Inv (cxOf C8.CX0 P w K mg base ["ahead", "named"] "with_ahead" (defScope s_with_ahead) (He.fAd K ("with_ahead", none)) (.ref cd) A outer s H E) [] (start ["ahead", "named"] vs) H s1 := inv_start sc_with_ahead hr.hd e0 hl r x
  obtain ⟨a, rfl, hT, hQ⟩ := hsp
  obtain ⟨p1, p2, hbody⟩ : ∃ p1 p2, defBody s_with_ahead = [s_named, .Return (some (.Name "named" p1)) p2] := ⟨_, _, rfl⟩
  show wpAny _ _ (execs (defBody s_with_ahead) _) _ _ _
  rw [hbody]
  have TB2 : LamX.TabB base mg cd (tab K) := by rw [← ec]; exact TB
  have h1 := NdefX.ps_ndefMS (X := cxOf C8.CX0 P w K mg base ["ahead", "named"] "with_ahead" (defScope s_with_ahead) (He.fAd K ("with_ahead", none)) (.ref cd) A outer s H E) (st := s_named) (T := TT K) (nm := fun _ _ => qNamed) (c := cd) (P := tab K) (name := "named") (i := 1)
    rfl TB2 rfl List.mem_cons_self (show qNamed = (("with_ahead" : Str) ++ ".<locals>.") ++ "named" by decide +kernel) (fun q hq _ => by rw [List.mem_singleton.mp hq]) (NdefX.ndef_free (sc := defScope s_with_ahead) (fr := ["ahead"]) (by decide +kernel)) rfl rfl rfl sc_with_ahead.nd rfl (.inl rfl) (.inl rfl)
  let mk : Addr → NdefX.NF := NdefX.NF.of s_named "named" ((envOfC "with_ahead" (defScope s_with_ahead) s.heap.objs.size (He.fAd K ("with_ahead", none)) (.ref cd)).qual ++ "named") (cloFrom (envOfC "with_ahead" (defScope s_with_ahead) s.heap.objs.size (He.fAd K ("with_ahead", none)) (.ref cd)).cells (C8.fnScope s_named).names [])
  let W : L2.St → Hp → Prop := fun σ' H1 => ∃ f c', σ' = [some (V.str a), some (.ref f)] ∧ LamX.ExtN H H1 ∧ (∀ b, H1 b = none → H b = none) ∧ NdefX.TabsN (TT K) H1 ∧ H1 f = some (NdefX.FnO f (mk c')) ∧ H1 c' = some (LamX.CodeO c' qNamed)
  refine wpAny_execs_cons (wpAny_mono (h1.run [] s1 _ H { nx := W, rt := fun _ _ => False } I
    ⟨hT, fun f c' H1 e1 n1 t1 _ f1 f2 => ⟨f, c', rfl, e1, n1, t1, f1, f2⟩⟩) (fun fl s2 h2 => ?_) fun e s' hs => hs)
  cases fl with
  | next =>
    obtain ⟨σ', H1, I1, f, c', rfl, e1, n1, t1, f1, f2⟩ := h2
    refine wpAny_execs_cons (wpAny_Return_some (wpAny_mono ((pe_var (X := cxOf C8.CX0 P w K mg base ["ahead", "named"] "with_ahead" (defScope s_with_ahead) (He.fAd K ("with_ahead", none)) (.ref cd) A outer s H E) (i := 1) (x := "named") (pos := p1) rfl (.inl rfl)).run [] s2 _ H1 (fun v H2 => v = .ref f ∧ H2 = H1) I1 ⟨_, rfl, rfl, rfl⟩)
      (fun u s3 ⟨v, H2, J, rv, ev, eH⟩ => ?_) fun e s' hs => hs))
    subst ev
    rw [eH] at J
    obtain rfl : u = Value.ref f := rv
    obtain ⟨m, hn, hlk⟩ := J.loc
    obtain ⟨u2, r2, look⟩ := hlk 0 "ahead" (.str a) rfl rfl (.inr (.inl rfl))
    obtain ⟨t, rfl⟩ := r2
    rcases look with ⟨k, _⟩ | ⟨_, c, hc, hcell⟩
    · exact absurd (show (defScope s_with_ahead).names.lookup ("ahead" : Str) = some .local from k) (by decide +kernel)
    · have nc : H1 c = none := J.freeC _ _ hc
      have old : s.heap.objs.size ≤ c := J.ok.cab "ahead" c rfl hc
      have ecl : cloFrom (envOfC "with_ahead" (defScope s_with_ahead) s.heap.objs.size (He.fAd K ("with_ahead", none)) (.ref cd)).cells (C8.fnScope s_named).names [] = [(("ahead" : Str), c)] := by
        show [(("ahead" : Str), ((envOfC "with_ahead" (defScope s_with_ahead) s.heap.objs.size (He.fAd K ("with_ahead", none)) (.ref cd)).cells.lookup ("ahead" : Str)).getD 0)] = _
        rw [show (envOfC "with_ahead" (defScope s_with_ahead) s.heap.objs.size (He.fAd K ("with_ahead", none)) (.ref cd)).cells.lookup ("ahead" : Str) = some c from hc]
        rfl
      have f1 : H1 f = some (NdefX.FnO f (clo c c')) := by
        have z : H1 f = some (NdefX.FnO f (NdefX.NF.of s_named "named" qNamed (cloFrom (envOfC "with_ahead" (defScope s_with_ahead) s.heap.objs.size (He.fAd K ("with_ahead", none)) (.ref cd)).cells (C8.fnScope s_named).names []) c')) := by
          rw [show qNamed = (("with_ahead" : Str) ++ ".<locals>.") ++ "named" by decide +kernel]
          exact f1
        rw [ecl] at z
        exact z
      have keep : ∀ b o, H1 b = some o → upd H1 c (CellO c a) b = some o := fun b o q => by rw [upd_ne (ne_of_none q nc)]; exact q
      have un := J.base
      refine ⟨.ref f, upd H1 c (CellO c a), J.os, J.bare, ⟨un.keep, un.slot, fun b o e n hx => ?_, un.there, fun b xs q => keep _ _ (un.tups b xs q), fun b o xs q => keep _ _ (un.frzs b o xs q), fun b ps q => ?_⟩, hok_more J.hok nc ⟨t, hcell⟩, rfl, ?_⟩
      · rw [upd_ne (Nat.ne_of_lt (Nat.lt_of_lt_of_le (Heap.lt_size e) old))]
        exact un.free b o e n hx
      · obtain ⟨more, z⟩ := un.tbls b ps q
        exact ⟨more, keep _ _ z⟩
      · refine hQ f _ ⟨fun b o h n => keep _ _ (e1 b o h n), fun _ => t1.ext keep, fun b h => n1 b (NdefX.upd_none h)⟩ ⟨c, c', keep _ _ f1, keep _ _ f2, upd_same⟩
  | ret u =>
    obtain ⟨v, σ', H', J, rv, q⟩ := h2
    exact q.elim
  | brk =>
    obtain ⟨_, _, _, q⟩ := h2
    exact q.elim
  | cont =>
    obtain ⟨_, _, _, q⟩ := h2
    exact q.elim
end

/-! ### words and names -/
abbrev dotS : Str := "."
def Let (w : List Nat) : Prop := 1 ≤ w.length ∧ w.length ≤ 8 ∧ ∀ c ∈ w, 97 ≤ c ∧ c ≤ 122
/-- the text of some words with points between -/
def nameS (ws : List (List Nat)) : Str := SX.S (TL.joinL [46] ws)
def Wds (s : Str) (ws : List (List Nat)) : Prop := s = nameS ws ∧ ws ≠ [] ∧ ∀ w ∈ ws, Let w
def keptL : List Str := ["module", "in", "out", "row", "use", "end", "number", "truth", "on", "yes", "no", "not", "and", "or", "if", "before", "then", "when", "held"]
/-- a word that is not kept; a name -/
def Wd (s : Str) : Prop := (∃ w, Let w ∧ s = SX.S w) ∧ s ∉ keptL
def Nm (s : Str) : Prop := ∃ ws, Wds s ws ∧ ws.length ≤ 4 ∧ (ws.length = 1 → s ∉ keptL)
theorem join_app : ∀ {a b : List (List Nat)}, a ≠ [] → b ≠ [] → TL.joinL [46] (a ++ b) = TL.joinL [46] a ++ ([46] ++ TL.joinL [46] b)
  | [], _, h, _ => absurd rfl h
  | [p], q :: r, _, _ => rfl
  | [p], [], _, h => absurd rfl h
  | p :: p2 :: r, b, _, hb => by
    show p ++ ([46] ++ TL.joinL [46] (p2 :: r ++ b)) = p ++ ([46] ++ TL.joinL [46] (p2 :: r)) ++ ([46] ++ TL.joinL [46] b)
    rw [join_app (List.cons_ne_nil _ _) hb]
    simp
theorem dot_eq : dotS = SX.S [46] := rfl
theorem name_app {a b : List (List Nat)} (ha : a ≠ []) (hb : b ≠ []) : nameS (a ++ b) = nameS a ++ dotS ++ nameS b := by
  unfold nameS
  rw [join_app ha hb, dot_eq, SX.S_cat, SX.S_cat]
  simp
theorem str_nil_app (s : Str) : ("" : Str) ++ s = s := by
  have e : ("" : Str) = SX.S [] := rfl
  rw [e, ← SX.S_tl s, SX.S_cat]
  rfl
theorem str_app_assoc (a b c : Str) : a ++ b ++ c = a ++ (b ++ c) := by
  rw [← SX.S_tl a, ← SX.S_tl b, ← SX.S_tl c, SX.S_cat, SX.S_cat, SX.S_cat, SX.S_cat, List.append_assoc]
theorem str_len_app (a b : Str) : (a ++ b).length = a.length + b.length := by
  rw [← SX.S_tl a, ← SX.S_tl b, SX.S_cat, SX.S_len, SX.S_len, SX.S_len, List.length_append]
/-- what is put ahead: nothing, or some words and a point behind each -/
def Ahd (s : Str) (aw : List (List Nat)) : Prop := (∀ w ∈ aw, Let w) ∧ s = if aw = [] then ("" : Str) else nameS aw ++ dotS
theorem ahd_nil : Ahd "" [] := ⟨fun _ h => absurd h List.not_mem_nil, rfl⟩
theorem ahd_name {s n : Str} {aw ws : List (List Nat)} (a : Ahd s aw) (h : Wds n ws) : Wds (s ++ n) (aw ++ ws) := by
  obtain ⟨a1, a2⟩ := a
  obtain ⟨h1, h2, h3⟩ := h
  refine ⟨?_, by simp [h2], fun w hw => (List.mem_append.mp hw).elim (a1 w) (h3 w)⟩
  by_cases e : aw = []
  · subst e
    rw [a2, if_pos rfl, str_nil_app, h1]
    rfl
  · rw [a2, if_neg e, name_app e h2, h1]
theorem ahd_deeper {s n : Str} {aw ws : List (List Nat)} (a : Ahd s aw) (h : Wds n ws) : Ahd (s ++ n ++ dotS) (aw ++ ws) := by
  have z := ahd_name a h
  refine ⟨z.2.2, ?_⟩
  rw [if_neg z.2.1, z.1]
theorem join_len : ∀ (ws : List (List Nat)), (∀ w ∈ ws, Let w) → (TL.joinL [46] ws).length ≤ 9 * ws.length
  | [], _ => Nat.le_refl _
  | [p], h => by
    have z := (h p List.mem_cons_self).2.1
    show p.length ≤ 9
    omega
  | p :: q :: r, h => by
    have z := (h p List.mem_cons_self).2.1
    have ih := join_len (q :: r) fun w hw => h w (List.mem_cons_of_mem _ hw)
    show (p ++ ([46] ++ TL.joinL [46] (q :: r))).length ≤ _
    rw [List.length_append, List.length_append]
    simp only [List.length_cons, List.length_nil] at ih ⊢
    omega
theorem name_len {s : Str} {ws : List (List Nat)} (h : Wds s ws) : s.length ≤ 9 * ws.length := by
  rw [h.1]
  show (SX.S _).length ≤ _
  rw [SX.S_len]
  exact join_len ws h.2.2
theorem ahd_len {s : Str} {aw : List (List Nat)} (h : Ahd s aw) : s.length ≤ 9 * aw.length + 1 := by
  obtain ⟨h1, h2⟩ := h
  by_cases e : aw = []
  · rw [h2, if_pos e]
    exact Nat.zero_le _
  · rw [h2, if_neg e, str_len_app]
    have z := name_len (s := nameS aw) ⟨rfl, e, h1⟩
    have y : dotS.length = 1 := rfl
    omega
theorem let_nodot {w : List Nat} (h : Let w) : 46 ∉ w := fun z => by have := h.2.2 46 z; omega
theorem name_split {s : Str} {ws : List (List Nat)} (h : Wds s ws) : Txt.split s dotS = ws.map SX.S := by
  rw [h.1, dot_eq]
  unfold nameS
  rw [SX.split_S (by simp) (by decide), SX.spl_join h.2.1 fun p hp => let_nodot (h.2.2 p hp)]
theorem join_cnt : ∀ {ws : List (List Nat)}, ws ≠ [] → (∀ w ∈ ws, Let w) → PyProof.Rows.cnt 46 (TL.joinL [46] ws) + 1 = (ws.length : Int)
  | [], h, _ => absurd rfl h
  | [p], _, h => by
    show PyProof.Rows.cnt 46 p + 1 = _
    rw [PyProof.Rows.cnt_none 46 p (let_nodot (h p List.mem_cons_self))]
    rfl
  | p :: q :: r, _, h => by
    have ih := join_cnt (ws := q :: r) (List.cons_ne_nil _ _) fun w hw => h w (List.mem_cons_of_mem _ hw)
    show PyProof.Rows.cnt 46 (p ++ ([46] ++ TL.joinL [46] (q :: r))) + 1 = _
    rw [PyProof.Rows.cnt_append, PyProof.Rows.cnt_append, PyProof.Rows.cnt_none 46 p (let_nodot (h p List.mem_cons_self)), show PyProof.Rows.cnt 46 [46] = 1 by rw [PyProof.Rows.cnt_cons, PyProof.Rows.cnt_nil]; rfl]
    simp only [List.length_cons] at ih ⊢
    omega
theorem name_count {s : Str} {ws : List (List Nat)} (h : Wds s ws) : Txt.count s dotS = (ws.length : Int) - 1 := by
  have z := join_cnt h.2.1 h.2.2
  have e : Txt.count s dotS = PyProof.Rows.cnt 46 s.cps.toList := PyProof.Rows.count_cnt s 46
  have e2 : s.cps.toList = TL.joinL [46] ws := by rw [h.1]; rfl
  rw [e, e2]
  omega
theorem wds_inj {s : Str} {ws vs : List (List Nat)} (h : Wds s ws) (h' : Wds s vs) : ws = vs := by
  have e := (name_split h).symm.trans (name_split h')
  have f : ∀ {a b : List (List Nat)}, a.map SX.S = b.map SX.S → a = b := by
    intro a
    induction a with
    | nil => intro b h; cases b with
      | nil => rfl
      | cons _ _ => cases h
    | cons x r ih => intro b h; cases b with
      | nil => cases h
      | cons y q =>
        rw [List.map_cons, List.map_cons] at h
        injection h with h1 h2
        rw [SX.S_inj h1, ih h2]
  exact f e
theorem wd_wds {s : Str} (h : Wd s) : ∃ w, Let w ∧ Wds s [w] ∧ s = SX.S w := by
  obtain ⟨⟨w, hw, e⟩, _⟩ := h
  exact ⟨w, hw, ⟨e, by simp, fun v hv => by rw [List.mem_singleton.mp hv]; exact hw⟩, e⟩
theorem nm_len {s : Str} (h : Nm s) : s.length ≤ 36 := by
  obtain ⟨ws, h1, h2, _⟩ := h
  have z := name_len h1
  omega
/-- a name of few words behind what stands ahead -/
theorem ahd_nm {s n : Str} {aw ws : List (List Nat)} (a : Ahd s aw) (hw : Wds n ws) (hn : Nm n) (few : (aw ++ ws).length ≤ 4) : Nm (s ++ n) := by
  refine ⟨aw ++ ws, ahd_name a hw, few, fun e => ?_⟩
  have h2 := hw.2.1
  have l : 1 ≤ ws.length := by cases ws with
    | nil => exact absurd rfl h2
    | cons _ _ => simp
  rw [List.length_append] at e
  have ea : aw = [] := List.eq_nil_of_length_eq_zero (by omega)
  obtain ⟨vs, v1, _, v3⟩ := hn
  have ev := wds_inj hw v1
  have es : s = "" := by rw [a.2, if_pos ea]
  rw [es, str_nil_app]
  exact v3 (by rw [← ev]; omega)

/-! ### data -/
inductive Val0 where
  | bl (b : Bool)
  | int (i : Int)
def Val0.v : Val0 → V
  | .bl b => .bl b
  | .int i => .int i
def Val0.d : Val0 → PyData
  | .bl b => .bool b
  | .int i => .int i
def Val0.ok : Val0 → Prop
  | .bl _ => True
  | .int i => -128 ≤ i ∧ i ≤ 127
def fvV : Option Val0 → V
  | none => .non
  | some x => x.v
def fvD : Option Val0 → PyData
  | none => .none
  | some x => x.d
def fvOk : Option Val0 → Prop
  | none => True
  | some x => x.ok
def onV : Option Str → V
  | none => .non
  | some s => .str s
def onD : Option Str → PyData
  | none => .none
  | some s => .str s
/-- a part of an equation -/
inductive Tl where
  | given (x : Val0)
  | named (n : Str)
  | turned (p : Tl)
  | pair (s : Str) (p q : Tl)
  | choice (c p q : Tl)
  | before (p : Tl) (f : Option Val0)
  | led (p q : Tl)
  | when (p : Tl) (n : Str)
  | held (p : Tl) (n : Str) (f : Option Val0)
/-- its class -/
inductive PK where
  | given | named | turned | pair | choice | before | led | when | held
def PK.nm : PK → Str
  | .given => "Given"
  | .named => "Named"
  | .turned => "Turned"
  | .pair => "Pair"
  | .choice => "Choice"
  | .before => "Before"
  | .led => "Led"
  | .when => "When"
  | .held => "Held"
abbrev cK (K : PySem.W.Frag) (c : PK) : Addr := He.ga K c.nm
def Tl.k : Tl → PK
  | .given _ => .given
  | .named _ => .named
  | .turned _ => .turned
  | .pair _ _ _ => .pair
  | .choice _ _ _ => .choice
  | .before _ _ => .before
  | .led _ _ => .led
  | .when _ _ => .when
  | .held _ _ _ => .held
def Tl.told : Tl → PyData
  | .given x => .tuple [.str "given", x.d]
  | .named n => .tuple [.str "named", .str n]
  | .turned p => .tuple [.str "not", p.told]
  | .pair s p q => .tuple [.str s, p.told, q.told]
  | .choice c p q => .tuple [.str "if", c.told, p.told, q.told]
  | .before p f => .tuple [.str "before", p.told, fvD f]
  | .led p q => .tuple [.str "then", p.told, q.told]
  | .when p n => .tuple [.str "when", p.told, .str n]
  | .held p n f => .tuple [.str "held", p.told, .str n, fvD f]
/-- the parts in it -/
def Tl.kids : Tl → List Tl
  | .given _ => []
  | .named _ => []
  | .turned p => [p]
  | .pair _ p q => [p, q]
  | .choice c p q => [c, p, q]
  | .before p _ => [p]
  | .led p q => [p, q]
  | .when p _ => [p]
  | .held p _ _ => [p]
/-- the names that it bears itself -/
def Tl.own : Tl → List Str
  | .named n => [n]
  | .when _ n => [n]
  | .held _ n _ => [n]
  | _ => []
def Tl.sz : Tl → Nat
  | .given _ => 1
  | .named _ => 1
  | .turned p => 1 + p.sz
  | .pair _ p q => 1 + (p.sz + q.sz)
  | .choice c p q => 1 + (c.sz + (p.sz + q.sz))
  | .before p _ => 1 + p.sz
  | .led p q => 1 + (p.sz + q.sz)
  | .when p _ => 1 + p.sz
  | .held p _ _ => 1 + p.sz
def Tl.dep : Tl → Nat
  | .given _ => 1
  | .named _ => 1
  | .turned p => 1 + p.dep
  | .pair _ p q => 1 + max p.dep q.dep
  | .choice c p q => 1 + max c.dep (max p.dep q.dep)
  | .before p _ => 1 + p.dep
  | .led p q => 1 + max p.dep q.dep
  | .when p _ => 1 + p.dep
  | .held p _ _ => 1 + p.dep
/-- all names that stand in it -/
def Tl.names : Tl → List Str
  | .given _ => []
  | .named n => [n]
  | .turned p => p.names
  | .pair _ p q => p.names ++ q.names
  | .choice c p q => c.names ++ (p.names ++ q.names)
  | .before p _ => p.names
  | .led p q => p.names ++ q.names
  | .when p n => p.names ++ [n]
  | .held p n _ => p.names ++ [n]
def signsL : List Str := ["+", "-", "*", "<", "<=", "and", "or", "="]
/-- what its making asks of it, but its size -/
def Tl.ok : Tl → Prop
  | .given x => x.ok
  | .named n => Nm n
  | .turned p => p.ok
  | .pair s p q => s ∈ signsL ∧ p.ok ∧ q.ok
  | .choice c p q => c.ok ∧ p.ok ∧ q.ok
  | .before p f => p.ok ∧ fvOk f
  | .led p q => p.ok ∧ q.ok
  | .when p n => p.ok ∧ Nm n
  | .held p n f => p.ok ∧ Nm n ∧ fvOk f
def Tl.ren (f : Str → Str) : Tl → Tl
  | .given x => .given x
  | .named n => .named (f n)
  | .turned p => .turned (p.ren f)
  | .pair s p q => .pair s (p.ren f) (q.ren f)
  | .choice c p q => .choice (c.ren f) (p.ren f) (q.ren f)
  | .before p x => .before (p.ren f) x
  | .led p q => .led (p.ren f) (q.ren f)
  | .when p n => .when (p.ren f) (f n)
  | .held p n x => .held (p.ren f) (f n) x
theorem ren_dep (f : Str → Str) (t : Tl) : (t.ren f).dep = t.dep := by
  induction t <;> simp only [Tl.ren, Tl.dep, *]
theorem ren_names (f : Str → Str) (t : Tl) : (t.ren f).names = t.names.map f := by
  induction t <;> simp only [Tl.ren, Tl.names, List.map_nil, List.map_cons, List.map_append, *]
theorem ren_ok (f : Str → Str) : ∀ t : Tl, t.ok → (∀ n ∈ t.names, Nm (f n)) → (t.ren f).ok
  | .given _, h, _ => h
  | .named n, _, g => g n (List.mem_singleton.mpr rfl)
  | .turned p, h, g => ren_ok f p h g
  | .pair _ p q, h, g => ⟨h.1, ren_ok f p h.2.1 fun n m => g n (List.mem_append_left _ m), ren_ok f q h.2.2 fun n m => g n (List.mem_append_right _ m)⟩
  | .choice c p q, h, g => ⟨ren_ok f c h.1 fun n m => g n (List.mem_append_left _ m), ren_ok f p h.2.1 fun n m => g n (List.mem_append_right _ (List.mem_append_left _ m)), ren_ok f q h.2.2 fun n m => g n (List.mem_append_right _ (List.mem_append_right _ m))⟩
  | .before p _, h, g => ⟨ren_ok f p h.1 g, h.2⟩
  | .led p q, h, g => ⟨ren_ok f p h.1 fun n m => g n (List.mem_append_left _ m), ren_ok f q h.2 fun n m => g n (List.mem_append_right _ m)⟩
  | .when p n, h, g => ⟨ren_ok f p h.1 fun n m => g n (List.mem_append_left _ m), g n (List.mem_append_right _ (List.mem_singleton.mpr rfl))⟩
  | .held p n _, h, g => ⟨ren_ok f p h.1 fun n m => g n (List.mem_append_left _ m), g n (List.mem_append_right _ (List.mem_singleton.mpr rfl)), h.2.2⟩
theorem ren_same (t : Tl) : t.ren (fun n => n) = t := by
  induction t <;> simp only [Tl.ren, *]
theorem ren_id (t : Tl) : t.ren (fun n => ("" : Str) ++ n) = t := by
  have e : (fun n : Str => ("" : Str) ++ n) = fun n => n := funext fun n => str_nil_app n
  rw [e]
  exact ren_same t
/-- three deep: at most thirteen parts -/
theorem sz_dep : ∀ t : Tl, 2 * t.sz + 1 ≤ 3 ^ t.dep := by
  have up : ∀ {a b : Nat}, a ≤ b → 3 ^ a ≤ 3 ^ b := fun h => Nat.pow_le_pow_right (by decide) h
  have one : ∀ n : Nat, 3 ^ (1 + n) = 3 * 3 ^ n := fun n => by rw [Nat.add_comm, Nat.pow_succ, Nat.mul_comm]
  intro t
  induction t with
  | given _ => show 2 * 1 + 1 ≤ 3 ^ 1; decide
  | named _ => show 2 * 1 + 1 ≤ 3 ^ 1; decide
  | turned p ih => simp only [Tl.sz, Tl.dep, one]; omega
  | before p _ ih => simp only [Tl.sz, Tl.dep, one]; omega
  | when p _ ih => simp only [Tl.sz, Tl.dep, one]; omega
  | held p _ _ ih => simp only [Tl.sz, Tl.dep, one]; omega
  | pair _ p q ih1 ih2 =>
    simp only [Tl.sz, Tl.dep, one]
    have h1 := up (Nat.le_max_left p.dep q.dep)
    have h2 := up (Nat.le_max_right p.dep q.dep)
    omega
  | led p q ih1 ih2 =>
    simp only [Tl.sz, Tl.dep, one]
    have h1 := up (Nat.le_max_left p.dep q.dep)
    have h2 := up (Nat.le_max_right p.dep q.dep)
    omega
  | choice c p q ih0 ih1 ih2 =>
    simp only [Tl.sz, Tl.dep, one]
    have h0 := up (Nat.le_max_left c.dep (max p.dep q.dep))
    have h1 := up (Nat.le_trans (Nat.le_max_left p.dep q.dep) (Nat.le_max_right c.dep (max p.dep q.dep)))
    have h2 := up (Nat.le_trans (Nat.le_max_right p.dep q.dep) (Nat.le_max_right c.dep (max p.dep q.dep)))
    omega
theorem sz_few {t : Tl} (h : t.dep ≤ 3) : t.sz ≤ 13 := by
  have z := sz_dep t
  have y : 3 ^ t.dep ≤ 3 ^ 3 := Nat.pow_le_pow_right (by decide) h
  omega
/-! ### what stays -/
/-- an object that may be written without harm to the tables -/
def Plo : HO → Prop
  | .lst _ => True
  | .ins _ _ _ => True
  | .dK _ => True
  | _ => False
theorem Plo.ne {o : HO} (h : Plo o) (ps : Array Value) : o ≠ .tbl ps := fun z => by rw [z] at h; exact h
section
variable {K : PySem.W.Frag} {H H1 H2 : Hp} {a b p : Addr} {o u : HO}
theorem Ext.refl (K : PySem.W.Frag) (H : Hp) : Ext K H H := ⟨LamX.ExtN.refl H, fun t => t, fun _ h => h⟩
theorem Ext.trans (x : Ext K H H1) (y : Ext K H1 H2) : Ext K H H2 := ⟨x.1.trans y.1, fun t => y.2.1 (x.2.1 t), fun b h => x.2.2 b (y.2.2 b h)⟩
theorem Ext.new (h : H p = none) (o : HO) : Ext K H (upd H p o) := by
  have s : ∀ b u, H b = some u → upd H p o b = some u := fun b u e => by rw [upd_ne (ne_of_none e h)]; exact e
  exact ⟨fun b u e _ => s b u e, fun t => t.ext s, fun b e => NdefX.upd_none e⟩
theorem Ext.at (e : Ext K H H1) (h : H b = some o) (n : ∀ ps, o ≠ .tbl ps := by intro ps z; cases z) : H1 b = some o := e.1 b o h n
theorem Ext.free (e : Ext K H H1) (h : H1 p = none) : H p = none := e.2.2 p h
theorem Ext.put (e : Ext K H H1) (h : H p = none) (q : H1 p = some u) (pl : Plo u) (o : HO) : Ext K H (upd H1 p o) := by
  refine ⟨fun b v hb n => by rw [upd_ne (ne_of_none hb h)]; exact e.1 b v hb n, fun t x hx => ?_, fun b hb => e.2.2 b (NdefX.upd_none hb)⟩
  obtain ⟨ps, t1, t2, t3⟩ := e.2.1 t x hx
  have n1 : x.1 ≠ p := fun z => by
    rw [z, q] at t1
    exact pl.ne ps (Option.some.inj t1)
  refine ⟨ps, by rw [upd_ne n1]; exact t1, t2, fun pos cv hc => ?_⟩
  obtain ⟨c, c1, c2⟩ := t3 pos cv hc
  have n2 : c ≠ p := fun z => by
    rw [z, q] at c2
    rw [Option.some.inj c2] at pl
    unfold LamX.CodeO at pl
    exact pl
  exact ⟨c, c1, by rw [upd_ne n2]; exact c2⟩
theorem Ext.l {xs : List V} (e : Ext K H H1) (h : SqL K H a xs) : SqL K H1 a xs := by
  rcases h with (h | ⟨o, h⟩) | h
  · exact .inl (.inl (e.at h))
  · exact .inl (.inr ⟨o, e.at h⟩)
  · exact .inr h
theorem Ext.t {xs : List V} (e : Ext K H H1) (h : SqT K H a xs) : SqT K H1 a xs := by
  rcases h with (h | ⟨o, h⟩) | h
  · exact .inl (.inl (e.at h))
  · exact .inl (.inr ⟨o, e.at h⟩)
  · exact .inr h
mutual
theorem Ext.dp (e : Ext K H H1) : ∀ {v : V} {d : PyData}, Dp K H v d → Dp K H1 v d
  | _, _, .non => .non
  | _, _, .bl b => .bl b
  | _, _, .int i => .int i
  | _, _, .str x => .str x
  | _, _, .lst h g => .lst (e.l h) (Ext.dpa e g)
  | _, _, .tup h g => .tup (e.t h) (Ext.dpa e g)
theorem Ext.dpa (e : Ext K H H1) : ∀ {vs : List V} {ds : List PyData}, DpAll K H vs ds → DpAll K H1 vs ds
  | _, _, .nil => .nil
  | _, _, .cons h g => .cons (Ext.dp e h) (Ext.dpa e g)
end
end
/-- at v stands the object of a part -/
def PartAt (K : PySem.W.Frag) (H : Hp) : V → Tl → Prop
  | v, .given x => ∃ a dx, v = .ref a ∧ H a = some (.ins (cK K .given) dx [("value", x.v), ("large", .int 1), ("deep", .int 1)])
  | v, .named n => ∃ a dx, v = .ref a ∧ H a = some (.ins (cK K .named) dx [("name", .str n), ("large", .int 1), ("deep", .int 1)])
  | v, .turned p => ∃ a dx k, v = .ref a ∧ H a = some (.ins (cK K .turned) dx [("part", k), ("large", .int (Tl.turned p).sz), ("deep", .int (Tl.turned p).dep)]) ∧ PartAt K H k p
  | v, .pair s p q => ∃ a dx k1 k2, v = .ref a ∧ H a = some (.ins (cK K .pair) dx [("sign", .str s), ("one", k1), ("other", k2), ("large", .int (Tl.pair s p q).sz), ("deep", .int (Tl.pair s p q).dep)]) ∧ PartAt K H k1 p ∧ PartAt K H k2 q
  | v, .choice c p q => ∃ a dx k0 k1 k2, v = .ref a ∧ H a = some (.ins (cK K .choice) dx [("truth", k0), ("one", k1), ("other", k2), ("large", .int (Tl.choice c p q).sz), ("deep", .int (Tl.choice c p q).dep)]) ∧ PartAt K H k0 c ∧ PartAt K H k1 p ∧ PartAt K H k2 q
  | v, .before p f => ∃ a dx k, v = .ref a ∧ H a = some (.ins (cK K .before) dx [("part", k), ("first", fvV f), ("large", .int (Tl.before p f).sz), ("deep", .int (Tl.before p f).dep)]) ∧ PartAt K H k p
  | v, .led p q => ∃ a dx k1 k2, v = .ref a ∧ H a = some (.ins (cK K .led) dx [("head", k1), ("rest", k2), ("large", .int (Tl.led p q).sz), ("deep", .int (Tl.led p q).dep)]) ∧ PartAt K H k1 p ∧ PartAt K H k2 q
  | v, .when p n => ∃ a dx k, v = .ref a ∧ H a = some (.ins (cK K .when) dx [("part", k), ("name", .str n), ("large", .int (Tl.when p n).sz), ("deep", .int (Tl.when p n).dep)]) ∧ PartAt K H k p
  | v, .held p n f => ∃ a dx k, v = .ref a ∧ H a = some (.ins (cK K .held) dx [("part", k), ("name", .str n), ("first", fvV f), ("large", .int (Tl.held p n f).sz), ("deep", .int (Tl.held p n f).dep)]) ∧ PartAt K H k p
theorem Ext.part {K : PySem.W.Frag} {H H1 : Hp} (e : Ext K H H1) : ∀ {v : V} {t : Tl}, PartAt K H v t → PartAt K H1 v t
  | _, .given _, ⟨a, dx, h1, h2⟩ => ⟨a, dx, h1, e.at h2⟩
  | _, .named _, ⟨a, dx, h1, h2⟩ => ⟨a, dx, h1, e.at h2⟩
  | _, .turned _, ⟨a, dx, k, h1, h2, h3⟩ => ⟨a, dx, k, h1, e.at h2, Ext.part e h3⟩
  | _, .pair _ _ _, ⟨a, dx, k1, k2, h1, h2, h3, h4⟩ => ⟨a, dx, k1, k2, h1, e.at h2, Ext.part e h3, Ext.part e h4⟩
  | _, .choice _ _ _, ⟨a, dx, k0, k1, k2, h1, h2, h3, h4, h5⟩ => ⟨a, dx, k0, k1, k2, h1, e.at h2, Ext.part e h3, Ext.part e h4, Ext.part e h5⟩
  | _, .before _ _, ⟨a, dx, k, h1, h2, h3⟩ => ⟨a, dx, k, h1, e.at h2, Ext.part e h3⟩
  | _, .led _ _, ⟨a, dx, k1, k2, h1, h2, h3, h4⟩ => ⟨a, dx, k1, k2, h1, e.at h2, Ext.part e h3, Ext.part e h4⟩
  | _, .when _ _, ⟨a, dx, k, h1, h2, h3⟩ => ⟨a, dx, k, h1, e.at h2, Ext.part e h3⟩
  | _, .held _ _ _, ⟨a, dx, k, h1, h2, h3⟩ => ⟨a, dx, k, h1, e.at h2, Ext.part e h3⟩
/-- what each part's object shows -/
theorem PartAt.head {K : PySem.W.Frag} {H : Hp} : ∀ {v : V} {t : Tl}, PartAt K H v t → ∃ a dx fs, v = .ref a ∧ H a = some (.ins (cK K t.k) dx fs) ∧ fs.lookup ("large" : Str) = some (V.int (t.sz : Nat)) ∧ fs.lookup ("deep" : Str) = some (V.int (t.dep : Nat)) ∧
    fs.lookup ("inner" : Str) = none ∧ fs.lookup ("told" : Str) = none ∧ fs.lookup ("names" : Str) = none ∧ fs.lookup ("own_names" : Str) = none
  | _, .given _, ⟨a, dx, h1, h2⟩ => ⟨a, dx, _, h1, h2, rfl, rfl, rfl, rfl, rfl, rfl⟩
  | _, .named _, ⟨a, dx, h1, h2⟩ => ⟨a, dx, _, h1, h2, rfl, rfl, rfl, rfl, rfl, rfl⟩
  | _, .turned _, ⟨a, dx, k, h1, h2, _⟩ => ⟨a, dx, _, h1, h2, rfl, rfl, rfl, rfl, rfl, rfl⟩
  | _, .pair _ _ _, ⟨a, dx, k1, k2, h1, h2, _⟩ => ⟨a, dx, _, h1, h2, rfl, rfl, rfl, rfl, rfl, rfl⟩
  | _, .choice _ _ _, ⟨a, dx, k0, k1, k2, h1, h2, _⟩ => ⟨a, dx, _, h1, h2, rfl, rfl, rfl, rfl, rfl, rfl⟩
  | _, .before _ _, ⟨a, dx, k, h1, h2, _⟩ => ⟨a, dx, _, h1, h2, rfl, rfl, rfl, rfl, rfl, rfl⟩
  | _, .led _ _, ⟨a, dx, k1, k2, h1, h2, _⟩ => ⟨a, dx, _, h1, h2, rfl, rfl, rfl, rfl, rfl, rfl⟩
  | _, .when _ _, ⟨a, dx, k, h1, h2, _⟩ => ⟨a, dx, _, h1, h2, rfl, rfl, rfl, rfl, rfl, rfl⟩
  | _, .held _ _ _, ⟨a, dx, k, h1, h2, _⟩ => ⟨a, dx, _, h1, h2, rfl, rfl, rfl, rfl, rfl, rfl⟩

/-! ### what is never written again -/
def froz : HO → Bool
  | .lst _ => false
  | .dK _ => false
  | .dT _ => false
  | .tbl _ => false
  | _ => true
/-- whatever is done with being made stands yet -/
def Fr (H H' : Hp) : Prop := ∀ b o, H b = some o → froz o = true → H' b = some o
section
variable {K : PySem.W.Frag} {H H1 H2 : Hp} {a b p : Addr} {o u : HO} {xs : List V}
theorem Fr.refl (H : Hp) : Fr H H := fun _ _ h _ => h
theorem Fr.trans (x : Fr H H1) (y : Fr H1 H2) : Fr H H2 := fun b o h f => y b o (x b o h f) f
theorem Ext.fr (x : Ext K H H1) : Fr H H1 := fun b o h f => x.1 b o h fun ps z => by rw [z] at f; cases f
theorem Fr.put (h : H p = some u) (f : froz u = false) (o : HO) : Fr H (upd H p o) := fun b v e g => by
  rw [upd_ne fun z => ?_]
  · exact e
  · rw [z, h] at e
    cases e
    rw [f] at g
    cases g
theorem Fr.new (h : H p = none) (o : HO) : Fr H (upd H p o) := fun b v e g => by rw [upd_ne (ne_of_none e h)]; exact e
theorem Fr.t (e : Fr H H1) (h : SqT K H a xs) : SqT K H1 a xs := by
  rcases h with (h | ⟨o, h⟩) | h
  · exact .inl (.inl (e _ _ h rfl))
  · exact .inl (.inr ⟨o, e _ _ h rfl⟩)
  · exact .inr h
theorem Ext.lst (e : Ext K H H1) (h : H a = some (.lst xs)) : H1 a = some (.lst xs) := e.at h
/-- a list that is grown, or anything new that is written -/
theorem Ext.push {ys zs : List V} (e : Ext K H H1) (h : H p = none) (q : H1 p = some (.lst ys)) : Ext K H (upd H1 p (.lst zs)) := e.put h q trivial _
end
mutual
/-- no list, no dict stands in it -/
def noL : PyData → Bool
  | .list _ => false
  | .dict _ => false
  | .tuple ds => noLs ds
  | _ => true
def noLs : List PyData → Bool
  | [] => true
  | d :: ds => noL d && noLs ds
end
section
variable {K : PySem.W.Frag} {H H1 : Hp}
mutual
theorem Fr.dp (e : Fr H H1) : ∀ {v : V} {d : PyData}, Dp K H v d → noL d = true → Dp K H1 v d
  | _, _, .non, _ => .non
  | _, _, .bl b, _ => .bl b
  | _, _, .int i, _ => .int i
  | _, _, .str x, _ => .str x
  | _, _, .lst h g, n => by cases n
  | _, _, .tup h g, n => .tup (e.t h) (Fr.dpa e g n)
theorem Fr.dpa (e : Fr H H1) : ∀ {vs : List V} {ds : List PyData}, DpAll K H vs ds → noLs ds = true → DpAll K H1 vs ds
  | _, _, .nil, _ => .nil
  | _, _, .cons h g, n => .cons (Fr.dp e h (Bool.and_eq_true_iff.mp n).1) (Fr.dpa e g (Bool.and_eq_true_iff.mp n).2)
end
end
theorem Fr.part {K : PySem.W.Frag} {H H1 : Hp} (e : Fr H H1) : ∀ {v : V} {t : Tl}, PartAt K H v t → PartAt K H1 v t
  | _, .given _, ⟨a, dx, h1, h2⟩ => ⟨a, dx, h1, e _ _ h2 rfl⟩
  | _, .named _, ⟨a, dx, h1, h2⟩ => ⟨a, dx, h1, e _ _ h2 rfl⟩
  | _, .turned _, ⟨a, dx, k, h1, h2, h3⟩ => ⟨a, dx, k, h1, e _ _ h2 rfl, Fr.part e h3⟩
  | _, .pair _ _ _, ⟨a, dx, k1, k2, h1, h2, h3, h4⟩ => ⟨a, dx, k1, k2, h1, e _ _ h2 rfl, Fr.part e h3, Fr.part e h4⟩
  | _, .choice _ _ _, ⟨a, dx, k0, k1, k2, h1, h2, h3, h4, h5⟩ => ⟨a, dx, k0, k1, k2, h1, e _ _ h2 rfl, Fr.part e h3, Fr.part e h4, Fr.part e h5⟩
  | _, .before _ _, ⟨a, dx, k, h1, h2, h3⟩ => ⟨a, dx, k, h1, e _ _ h2 rfl, Fr.part e h3⟩
  | _, .led _ _, ⟨a, dx, k1, k2, h1, h2, h3, h4⟩ => ⟨a, dx, k1, k2, h1, e _ _ h2 rfl, Fr.part e h3, Fr.part e h4⟩
  | _, .when _ _, ⟨a, dx, k, h1, h2, h3⟩ => ⟨a, dx, k, h1, e _ _ h2 rfl, Fr.part e h3⟩
  | _, .held _ _ _, ⟨a, dx, k, h1, h2, h3⟩ => ⟨a, dx, k, h1, e _ _ h2 rfl, Fr.part e h3⟩
theorem Val0.noL (x : Val0) : G.noL x.d = true := by cases x <;> rfl
theorem fvD_noL (f : Option Val0) : noL (fvD f) = true := by
  cases f with
  | none => rfl
  | some x => exact x.noL
theorem told_noL : ∀ t : Tl, noL t.told = true := by
  intro t
  induction t <;> simp only [Tl.told, noL, noLs, Val0.noL, fvD_noL, Bool.and_self, Bool.and_true, Bool.true_and, *]
/-! ### comprehensions: what is built is not seen within -/
section
variable {K : PySem.W.Frag} {g : TG} {tt : L2.TT} {te : TE} {vs : List Nat} {σ : L2.St} {H1 : Hp} {Q : VK} {a : Addr} {xs : List V}
/-- what a turn of a comprehension may do -/
def Turn1 (K : PySem.W.Frag) (g : TG) (tt : L2.TT) (te : TE) (vs : List Nat) (σ : L2.St) (H1 : Hp) (P : Nat → List V → Hp → Prop) (i : Nat) (x : V) : Prop :=
  ∀ (acc : List V) (H : Hp) (N : VK) (S : Hp → Prop), Ext K H1 H → P i acc H → (∀ y H4, Ext K H H4 → P (i + 1) (acc ++ [y]) H4 → N y H4) → (∀ H3, Ext K H H3 → P (i + 1) acc H3 → S H3) →
    g x (wipe σ vs) H fun σ2 H2 => wipe σ2 vs = wipe σ vs ∧ tt σ2 H2 fun b H3 => if b = true then te σ2 H3 N else S H3
def LcI (K : PySem.W.Frag) (H1 : Hp) (D : Addr) (P : Nat → List V → Hp → Prop) (i : Nat) (H : Hp) : Prop := ∃ acc, Ext K H1 H ∧ H D = some (.lst acc) ∧ acc.length ≤ i ∧ P i acc H
theorem LcI.start {D : Addr} {P : Nat → List V → Hp → Prop} (hD : H1 D = none) (mono : ∀ {i acc H H'}, Fr H H' → P i acc H → P i acc H') (h0 : P 0 [] H1) : LcI K H1 D P 0 (upd H1 D (.lst [])) :=
  ⟨[], Ext.new hD _, upd_same, Nat.le_refl _, mono (Fr.new hD _) h0⟩
theorem LcI.turn {D : Addr} {P : Nat → List V → Hp → Prop} {i : Nat} {x : V} {H : Hp} (hD : H1 D = none) (mono : ∀ {i acc H H'}, Fr H H' → P i acc H → P i acc H') (hz : i < sizeLine) (h : LcI K H1 D P i H) (t : Turn1 K g tt te vs σ H1 P i x) :
    g x (wipe σ vs) H fun σ2 H2 => wipe σ2 vs = wipe σ vs ∧ tt σ2 H2 fun b H3 =>
      if b = true then te σ2 H3 fun y H4 => ∃ acc, H4 D = some (.lst acc) ∧ acc.length < sizeLine ∧ LcI K H1 D P (i + 1) (upd H4 D (.lst (acc ++ [y]))) else LcI K H1 D P (i + 1) H3 := by
  obtain ⟨acc, e, hl, hn, p⟩ := h
  refine t acc H _ _ e p (fun y H4 e4 p4 => ⟨acc, e4.at hl, by omega, acc ++ [y], (e.trans e4).push hD (e4.at hl), upd_same, ?_, mono (Fr.put (e4.at hl) rfl _) p4⟩) fun H3 e3 p3 => ⟨acc, e.trans e3, e3.at hl, by omega, p3⟩
  rw [List.length_append]
  exact Nat.succ_le_succ hn
theorem lcL {Qd : Addr → Hp → Prop} (P : Nat → List V → Hp → Prop) (mono : ∀ {i acc H H'}, Fr H H' → P i acc H → P i acc H') (hl : SqL K H1 a xs) (hz : xs.length ≤ sizeLine) (h0 : P 0 [] H1) (hs : ∀ i x, xs[i]? = some x → Turn1 K g tt te vs σ H1 P i x)
    (hd : ∀ D ys H, H1 D = none → Ext K H1 H → H D = some (.lst ys) → ys.length ≤ xs.length → P xs.length ys H → Qd D H) :
    ∀ D, H1 D = none → ∃ W : Nat → Nat → Hp → Prop, (∃ m, W 0 m (upd H1 D (.lst []))) ∧ ∀ i m H, W i m H →
      ((Itl K a).stop i H ∧ Qd D H) ∨ ((Itl K a).go i H ∧ ∃ Nx : Hp → Prop, (∀ H', Nx H' → ∃ m', m' < m ∧ W (i + 1) m' H') ∧ ∀ x H', (Itl K a).yld i H x H' → g x (wipe σ vs) H' fun σ2 H2 => wipe σ2 vs = wipe σ vs ∧ tt σ2 H2 fun b H3 =>
        if b = true then te σ2 H3 fun y H4 => ∃ acc, H4 D = some (.lst acc) ∧ acc.length < sizeLine ∧ Nx (upd H4 D (.lst (acc ++ [y]))) else Nx H3) := fun D hD =>
  lc_list (xs := xs) (LcI K H1 D P) (LcI.start hD mono h0) (fun i H _ ⟨_, e, _⟩ => e.l hl) (fun i x H hx h => h.turn hD mono (Nat.lt_of_lt_of_le (List.getElem?_eq_some_iff.mp hx).1 hz) (hs i x hx)) fun H ⟨ys, e, h1, h2, p⟩ => hd D ys H hD e h1 h2 p
theorem lcT {Qd : Addr → Hp → Prop} (P : Nat → List V → Hp → Prop) (mono : ∀ {i acc H H'}, Fr H H' → P i acc H → P i acc H') (hl : SqT K H1 a xs) (hz : xs.length ≤ sizeLine) (h0 : P 0 [] H1) (hs : ∀ i x, xs[i]? = some x → Turn1 K g tt te vs σ H1 P i x)
    (hd : ∀ D ys H, H1 D = none → Ext K H1 H → H D = some (.lst ys) → ys.length ≤ xs.length → P xs.length ys H → Qd D H) :
    ∀ D, H1 D = none → ∃ W : Nat → Nat → Hp → Prop, (∃ m, W 0 m (upd H1 D (.lst []))) ∧ ∀ i m H, W i m H →
      ((Itt K a).stop i H ∧ Qd D H) ∨ ((Itt K a).go i H ∧ ∃ Nx : Hp → Prop, (∀ H', Nx H' → ∃ m', m' < m ∧ W (i + 1) m' H') ∧ ∀ x H', (Itt K a).yld i H x H' → g x (wipe σ vs) H' fun σ2 H2 => wipe σ2 vs = wipe σ vs ∧ tt σ2 H2 fun b H3 =>
        if b = true then te σ2 H3 fun y H4 => ∃ acc, H4 D = some (.lst acc) ∧ acc.length < sizeLine ∧ Nx (upd H4 D (.lst (acc ++ [y]))) else Nx H3) := fun D hD =>
  lc_tup (xs := xs) (LcI K H1 D P) (LcI.start hD mono h0) (fun i H _ ⟨_, e, _⟩ => e.t hl) (fun i x H hx h => h.turn hD mono (Nat.lt_of_lt_of_le (List.getElem?_eq_some_iff.mp hx).1 hz) (hs i x hx)) fun H ⟨ys, e, h1, h2, p⟩ => hd D ys H hD e h1 h2 p
theorem lcR {Qd : Addr → Hp → Prop} {lo : Int} {n : Nat} (P : Nat → List V → Hp → Prop) (mono : ∀ {i acc H H'}, Fr H H' → P i acc H → P i acc H') (hz : n ≤ sizeLine) (h0 : P 0 [] H1) (hs : ∀ i, i < n → Turn1 K g tt te vs σ H1 P i (.int (lo + i)))
    (hd : ∀ D ys H, H1 D = none → Ext K H1 H → H D = some (.lst ys) → ys.length ≤ n → P n ys H → Qd D H) :
    ∀ D, H1 D = none → ∃ W : Nat → Nat → Hp → Prop, (∃ m, W 0 m (upd H1 D (.lst []))) ∧ ∀ i m H, W i m H →
      ((Itr lo n).stop i H ∧ Qd D H) ∨ ((Itr lo n).go i H ∧ ∃ Nx : Hp → Prop, (∀ H', Nx H' → ∃ m', m' < m ∧ W (i + 1) m' H') ∧ ∀ x H', (Itr lo n).yld i H x H' → g x (wipe σ vs) H' fun σ2 H2 => wipe σ2 vs = wipe σ vs ∧ tt σ2 H2 fun b H3 =>
        if b = true then te σ2 H3 fun y H4 => ∃ acc, H4 D = some (.lst acc) ∧ acc.length < sizeLine ∧ Nx (upd H4 D (.lst (acc ++ [y]))) else Nx H3) := fun D hD =>
  lc_range (n := n) (LcI K H1 D P) (LcI.start hD mono h0) (fun i H hi h => h.turn hD mono (Nat.lt_of_lt_of_le hi hz) (hs i hi)) fun H ⟨ys, e, h1, h2, p⟩ => hd D ys H hD e h1 h2 p
theorem lcS {Qd : Addr → Hp → Prop} {x : Str} (P : Nat → List V → Hp → Prop) (mono : ∀ {i acc H H'}, Fr H H' → P i acc H → P i acc H') (hz : x.cps.size ≤ sizeLine) (h0 : P 0 [] H1) (hs : ∀ i c, x.cps[i]? = some c → Turn1 K g tt te vs σ H1 P i (.str ⟨#[c]⟩))
    (hd : ∀ D ys H, H1 D = none → Ext K H1 H → H D = some (.lst ys) → ys.length ≤ x.cps.size → P x.cps.size ys H → Qd D H) :
    ∀ D, H1 D = none → ∃ W : Nat → Nat → Hp → Prop, (∃ m, W 0 m (upd H1 D (.lst []))) ∧ ∀ i m H, W i m H →
      ((Its x).stop i H ∧ Qd D H) ∨ ((Its x).go i H ∧ ∃ Nx : Hp → Prop, (∀ H', Nx H' → ∃ m', m' < m ∧ W (i + 1) m' H') ∧ ∀ v H', (Its x).yld i H v H' → g v (wipe σ vs) H' fun σ2 H2 => wipe σ2 vs = wipe σ vs ∧ tt σ2 H2 fun b H3 =>
        if b = true then te σ2 H3 fun y H4 => ∃ acc, H4 D = some (.lst acc) ∧ acc.length < sizeLine ∧ Nx (upd H4 D (.lst (acc ++ [y]))) else Nx H3) := fun D hD => by
  refine ⟨fun i m H => m = x.cps.size - i ∧ i ≤ x.cps.size ∧ LcI K H1 D P i H, ⟨x.cps.size, by simp, Nat.zero_le _, LcI.start hD mono h0⟩, ?_⟩
  rintro i m H ⟨rfl, hi, p⟩
  by_cases hlt : i < x.cps.size
  · refine .inr ⟨hlt, LcI K H1 D P (i + 1), fun H' p' => ⟨x.cps.size - (i + 1), by omega, rfl, hlt, p'⟩, fun v H' y => ?_⟩
    obtain ⟨e, c, hc, rfl⟩ := y
    subst e
    exact p.turn hD mono (Nat.lt_of_lt_of_le hlt hz) (hs i c hc)
  · have e : i = x.cps.size := by omega
    subst e
    obtain ⟨ys, e, h1, h2, q⟩ := p
    exact .inl ⟨Nat.le_refl _, hd D ys H hD e h1 h2 q⟩
end

/-! ### small help -/
theorem ite_t {b : Bool} {A B : Prop} (h : b = true) (a : A) : if b = true then A else B := by rw [if_pos h]; exact a
theorem ite_f {b : Bool} {A B : Prop} (h : b = false) (a : B) : if b = true then A else B := by rw [if_neg (by rw [h]; exact Bool.false_ne_true)]; exact a
theorem dt {p : Prop} [Decidable p] (h : p) : decide p = true := decide_eq_true h
theorem df {p : Prop} [Decidable p] (h : ¬ p) : decide p = false := decide_eq_false h
theorem nt {b : Bool} (h : b = false) : (!b) = true := by rw [h]; rfl
theorem nf {b : Bool} (h : b = true) : (!b) = false := by rw [h]; rfl
theorem letter_in {c : Nat} (h1 : 97 ≤ c) (h2 : c ≤ 122) : c ∈ ("abcdefghijklmnopqrstuvwxyz" : Str).cps.toList := by
  have e : ("abcdefghijklmnopqrstuvwxyz" : Str).cps.toList = (List.range 26).map (· + 97) := by decide +kernel
  rw [e]
  exact List.mem_map.mpr ⟨c - 97, List.mem_range.mpr (by omega), by omega⟩
theorem inV_cons (x y : V) (l : List V) : inV x (y :: l) = (eqV y x || inV x l) := rfl
theorem inV_str (s : Str) : ∀ l : List Str, inV (.str s) (l.map V.str) = decide (s ∈ l)
  | [] => rfl
  | y :: l => by
    show (y == s || inV (.str s) (l.map V.str)) = _
    rw [inV_str s l]
    by_cases h : y = s
    · subst h
      simp
    · have h' : ¬ s = y := fun z => h z.symm
      simp [h, h']
theorem flat_strs : ∀ l : List Str, (l.map V.str).all flatV = true
  | [] => rfl
  | _ :: l => flat_strs l
theorem ty_tup {K : PySem.W.Frag} {H : Hp} {a : Addr} {xs : List V} (h : SqT K H a xs) : TyX K H (.ref a) (.type "tuple") := by
  rcases h with (h | ⟨o, h⟩) | ⟨o, its, n, h1, h2, _⟩
  · exact .base (.tup h)
  · exact .fTuple h
  · exact .kTuple h1 h2
theorem snoc_inj {α : Type} {n : Nat} {x : α} : List.replicate n x ++ [x] = List.replicate (n + 1) x := (List.replicate_succ' ..).symm
theorem all_rep : ∀ n : Nat, (List.replicate n true).all id = true
  | 0 => rfl
  | n + 1 => all_rep n
theorem szk (n : Nat) (h : n ≤ 2 ^ 24 := by decide) : n ≤ sizeLine := h
/-! ### rules within a block: the part of the heap by its own name -/
section
variable {X : Cx} {K : PySem.W.Frag}
theorem pe_fldB {e : Expr} {f : Str} {pos : Pos} {ta : TE} (he : PE X e ta) (hb : attributeBase e f X.env (eval e X.env) = eval e X.env) (hK : X.K = K := by rfl) : PE X (.Attribute e f pos) (tFld K ta f) := by
  subst hK
  exact pe_fld he hb
theorem ix_tupB (hK : X.K = K) : IxR X (rIxT K) := by subst hK; exact ix_tup
theorem ix_listB (hK : X.K = K) : IxR X (rIxL K) := by subst hK; exact ix_list
theorem op_in_seqB (hK : X.K = K) : OpR X (compareOp .In) (rIn K false) := by subst hK; exact op_in_seq
theorem op_notIn_seqB (hK : X.K = K) : OpR X (compareOp .NotIn) (rIn K true) := by subst hK; exact op_notIn_seq
theorem op_eqDB (hK : X.K = K) (hu : X.A.units + 64 < cLine) : OpR X (compareOp .Eq) (rEqD K) := by subst hK; exact op_eqD hu
theorem call_len_seqB (hK : X.K = K) : CallR X (.builtin "len") (fun xs H Q => ∃ p ys, xs = [.ref p] ∧ (SqL K H p ys ∨ SqT K H p ys) ∧ Q (.int ys.length) H) := by subst hK; exact call_len_seq
theorem call_isiB (hK : X.K = K) : CallR X (.builtin "isinstance") (rIsi K) := by subst hK; exact call_isi
end

section
variable {P : Program} {w : World} {K : PySem.W.Frag} {mg : Str → Option Value} {base : Heap} {q : Str} {f : Addr}
theorem sc_is_lettered : FnScope ["text", "sign"] ["text"] (defScope s_is_lettered) := ⟨rfl, rfl, rfl, by decide +kernel, rfl, by decide +kernel, by decide +kernel⟩
def sp_is_lettered (K : PySem.W.Frag) : Sp := fun vs H Q _ => ∃ w, vs = [.str (SX.S w)] ∧ Let w ∧ ∀ H', Ext K H H' → Q (.bl true) H'
theorem ln_is_lettered {K : PySem.W.Frag} : ∀ vs H Q E, (sp_is_lettered K) vs H Q E → vs.length = (["text"] : List Str).length := fun vs H Q E h => by
  obtain ⟨_, rfl, _⟩ := h
  rfl
theorem bd_is_lettered (T : Top K mg)  : Body P w K mg base q s_is_lettered f ["text", "sign"] (0) (sp_is_lettered K) := fun cdv A outer s H vs Q E hr h => by
  have hu := hu_of hr
  obtain ⟨w, rfl, hw, q⟩ := h
  refine ⟨_, (pss_one (ps_ret (pe_and (pe_chain op_le op_le pe_int (pe_callB call_len_str (by rfl) T.n_len PySem.boot_len (pa_cons (pv 0) pa_nil)) (C8.pe_gc rfl T.i_LONGEST)) (pe_one (pe_callB (cr_all rfl) (by rfl) T.n_all (by decide +kernel) (pa_cons (pe_lc (own := [("sign", 1)]) rfl sc_is_lettered.nd (pi_str (pv 0)) (blkOk_by (own := [("sign", 1)]) (N := ["text", "sign"]) (sc := defScope s_is_lettered) (by decide +kernel)) (fun _ _ _ _ _ => (pg_name (i := 1) sc_is_lettered.nd rfl (by first | exact Or.inl rfl | exact Or.inr rfl))) (fun _ _ _ _ _ => pts_nil) (fun _ _ _ _ _ => (pe_cmpR op_in_sign (pv 1) (C8.pe_gc rfl T.z_LETTERS) (by rfl)))) pa_nil)))))), ?_⟩
  have hz : (SX.S w).length = w.length := SX.S_len w
  have h1 := hw.1
  have h2 := hw.2.1
  refine ⟨_, rfl, SX.S w, rfl, by show _ ≤ 2 ^ 24; omega, ?_⟩
  refine ⟨1, _, rfl, rfl, true, congrArg V.bl (dt (by rw [hz]; omega)), ite_t rfl ?_⟩
  refine ⟨_, _, rfl, rfl, true, congrArg V.bl (dt (by rw [hz]; omega)), ite_t rfl ?_⟩
  refine ⟨_, rfl, SX.S w, rfl, lcS (K := K) (fun i acc _ => acc = List.replicate i (V.bl true)) (fun _ h => h) ?_ rfl (fun i c hc acc H1 N S e p hN hS => ?_) fun D ys H1 hD e hl hn p => ?_⟩
  · show (SX.S w).length ≤ 2 ^ 24
    omega
  · have hm : c ∈ w := by
      have z : w.toArray[i]? = some c := hc
      rw [List.getElem?_toArray] at z
      exact List.mem_of_getElem? z
    obtain ⟨c1, c2⟩ := hw.2.2 c hm
    refine ⟨rfl, ?_⟩
    refine ⟨_, rfl, c, _, rfl, rfl, hN _ _ (Ext.refl K _) ?_⟩
    show acc ++ _ = _
    rw [show acc = List.replicate i (V.bl true) from p, dt (letter_in c1 c2)]
    exact snoc_inj
  · refine ⟨D, List.replicate (SX.S w).cps.size true, rfl, .of ?_, ?_⟩
    · rw [hl, show ys = _ from p, List.map_replicate]
    · rw [all_rep]
      exact q H1 e
theorem ok_is_lettered (T : Top K mg) : C8.Cal P w K mg base 1 "is_lettered" (sp_is_lettered K) [] :=
  cal_of T 0 d_is_lettered s_is_lettered "is_lettered" rfl rfl rfl rfl T.g_is_lettered sc_is_lettered (fun _ _ _ _ _ _ us hl => match us, hl with | [_], _ => rfl) ln_is_lettered (bd_is_lettered T )
theorem sc_is_word : FnScope ["text"] ["text"] (defScope s_is_word) := ⟨rfl, rfl, rfl, by decide +kernel, rfl, by decide +kernel, by decide +kernel⟩
def sp_is_word (K : PySem.W.Frag) : Sp := fun vs H Q _ => ∃ s, vs = [.str s] ∧ Wd s ∧ ∀ H', Ext K H H' → Q (.bl true) H'
theorem ln_is_word {K : PySem.W.Frag} : ∀ vs H Q E, (sp_is_word K) vs H Q E → vs.length = (["text"] : List Str).length := fun vs H Q E h => by
  obtain ⟨_, rfl, _⟩ := h
  rfl
theorem bd_is_word (T : Top K mg) (c_is_lettered : C8.Cal P w K mg base 1 "is_lettered" (sp_is_lettered K) []) : Body P w K mg base q s_is_word f ["text"] (1) (sp_is_word K) := fun cdv A outer s H vs Q E hr h => by
  have hu := hu_of hr
  obtain ⟨_, rfl, ⟨⟨w, hw, rfl⟩, hk⟩, q⟩ := h
  refine ⟨_, (pss_one (ps_ret (pe_and (C8.pe_c c_is_lettered hr (by omega) rfl (pa_cons (pv 0) pa_nil)) (pe_one (pe_cmpR op_notIn_seq (pv 0) (C8.pe_gc rfl T.g_KEPT) (by rfl)))))), ?_⟩
  refine ⟨_, rfl, w, rfl, hw, fun H1 e => ⟨true, rfl, ite_t rfl ?_⟩⟩
  refine ⟨_, rfl, _, tup_KEPT.map (He.Dv.v K), rfl, .inr (T.t_KEPT H1), rfl, rfl, ?_⟩
  have z : inV (.str (SX.S w)) (tup_KEPT.map (He.Dv.v K)) = false := by
    rw [show tup_KEPT.map (He.Dv.v K) = keptL.map V.str from rfl, inV_str]
    exact df hk
  rw [if_pos rfl, z]
  exact q H1 e
theorem ok_is_word (T : Top K mg) : C8.Cal P w K mg base 2 "is_word" (sp_is_word K) [] :=
  cal_of T 1 d_is_word s_is_word "is_word" rfl rfl rfl rfl T.g_is_word sc_is_word (fun _ _ _ _ _ _ us hl => match us, hl with | [_], _ => rfl) ln_is_word (bd_is_word T (ok_is_lettered T))
theorem sc_is_name : FnScope ["text", "words", "word"] ["text"] (defScope s_is_name) := ⟨rfl, rfl, rfl, by decide +kernel, rfl, by decide +kernel, by decide +kernel⟩
def sp_is_name (K : PySem.W.Frag) : Sp := fun vs H Q _ => ∃ s, vs = [.str s] ∧ Nm s ∧ ∀ H', Ext K H H' → Q (.bl true) H'
theorem ln_is_name {K : PySem.W.Frag} : ∀ vs H Q E, (sp_is_name K) vs H Q E → vs.length = (["text"] : List Str).length := fun vs H Q E h => by
  obtain ⟨_, rfl, _⟩ := h
  rfl
theorem bd_is_name (T : Top K mg) (c_is_word : C8.Cal P w K mg base 2 "is_word" (sp_is_word K) []) (c_is_lettered : C8.Cal P w K mg base 1 "is_lettered" (sp_is_lettered K) []) : Body P w K mg base q s_is_name f ["text", "words", "word"] (2) (sp_is_name K) := fun cdv A outer s H vs Q E hr h => by
  have hu := hu_of hr
  obtain ⟨s0, rfl, ⟨ws, hw, h4, hk⟩, q⟩ := h
  refine ⟨_, (pss_cons (ps_set (i := 1) sc_is_name.nd rfl (by first | exact Or.inl rfl | exact Or.inr rfl) (pe_split (pv 0) pe_str))
        (pss_cons (ps_if (pt_cmpR op_eq (pe_callB call_len_seq (by rfl) T.n_len PySem.boot_len (pa_cons (pv 1) pa_nil)) pe_int (nomark _)) (pss_one (ps_ret (C8.pe_c c_is_word hr (by omega) rfl (pa_cons (pv 0) pa_nil)))) pss_nil)
        (pss_one (ps_ret (pe_and (pe_cmpR op_le (pe_callB call_len_seq (by rfl) T.n_len PySem.boot_len (pa_cons (pv 1) pa_nil)) (C8.pe_gc rfl T.i_MOST_WORDS_names) (nomark _)) (pe_one (pe_callB (cr_all rfl) (by rfl) T.n_all (by decide +kernel) (pa_cons (pe_lc (own := [("word", 2)]) rfl sc_is_name.nd (pi_list (pv 1)) (blkOk_by (own := [("word", 2)]) (N := ["text", "words", "word"]) (sc := defScope s_is_name) (by decide +kernel)) (fun _ _ _ _ _ => (pg_name (i := 2) sc_is_name.nd rfl (by first | exact Or.inl rfl | exact Or.inr rfl))) (fun _ _ _ _ _ => pts_nil) (fun _ _ _ _ _ => (C8.pe_c c_is_lettered hr (by omega) rfl (pa_cons (pv 2) pa_nil)))) pa_nil)))))))), ?_⟩
  have hlen := name_len hw
  refine ⟨_, rfl, ⟨s0, rfl⟩, s0, dotS, rfl, rfl, rfl, by show _ ≤ 2 ^ 24; omega, fun p hp => ?_⟩
  rw [name_split hw]
  have hsq : SqL K (upd H p (.lst ((ws.map SX.S).map V.str))) p ((ws.map SX.S).map V.str) := .of upd_same
  have hlw : ((ws.map SX.S).map V.str).length = ws.length := by rw [List.length_map, List.length_map]
  refine ⟨_, rfl, p, _, rfl, .inl hsq, rfl, _, rfl, ?_⟩
  by_cases h1 : ws.length = 1
  · refine ite_t (dt (by rw [hlw, h1]; rfl)) ?_
    refine ⟨_, rfl, s0, rfl, ?_, fun H1 e => q _ ((Ext.new hp _).trans e)⟩
    match ws, h1, hw with
    | [w], _, hw => exact ⟨⟨w, hw.2.2 w List.mem_cons_self, hw.1⟩, hk rfl⟩
  refine ite_f (df (fun z => h1 (by have := V.int.inj z; omega))) ?_
  refine ⟨_, rfl, p, _, rfl, .inl hsq, _, _, rfl, rfl, true, congrArg V.bl (dt (by omega)), ite_t rfl ?_⟩
  refine ⟨_, rfl, p, rfl, ⟨_, hsq⟩, lcL (fun i acc _ => acc = List.replicate i (V.bl true)) (fun _ h => h) hsq (by show _ ≤ 2 ^ 24; omega) rfl (fun i x hx acc H1 N S e p hN hS => ?_) fun D ys H1 hD e hl hn p => ?_⟩
  · rw [List.map_map] at hx
    obtain ⟨w, hm, rfl⟩ := List.mem_map.mp (List.mem_of_getElem? hx)
    refine ⟨rfl, ?_⟩
    refine ⟨_, rfl, w, rfl, hw.2.2 w hm, fun H2 e2 => hN _ _ e2 ?_⟩
    show acc ++ _ = _
    rw [show acc = List.replicate i (V.bl true) from p]
    exact snoc_inj
  · refine ⟨D, List.replicate ((ws.map SX.S).map V.str).length true, rfl, .of ?_, ?_⟩
    · rw [hl, show ys = _ from p, List.map_replicate]
    · rw [all_rep]
      exact q H1 ((Ext.new hp _).trans e)
theorem ok_is_name (T : Top K mg) : C8.Cal P w K mg base 3 "is_name" (sp_is_name K) [] :=
  cal_of T 2 d_is_name s_is_name "is_name" rfl rfl rfl rfl T.g_is_name sc_is_name (fun _ _ _ _ _ _ us hl => match us, hl with | [_], _ => rfl) ln_is_name (bd_is_name T (ok_is_word T) (ok_is_lettered T))
theorem sc_is_number : FnScope ["thing"] ["thing"] (defScope s_is_number) := ⟨rfl, rfl, rfl, by decide +kernel, rfl, by decide +kernel, by decide +kernel⟩
def sp_is_number (K : PySem.W.Frag) : Sp := fun vs H Q _ => (∃ i : Int, vs = [.int i] ∧ -128 ≤ i ∧ i ≤ 127 ∧ Q (.bl true) H)
theorem ln_is_number {K : PySem.W.Frag} : ∀ vs H Q E, (sp_is_number K) vs H Q E → vs.length = (["thing"] : List Str).length := fun vs H Q E h => by
  obtain ⟨_, rfl, _⟩ := h
  rfl
theorem bd_is_number (T : Top K mg)  : Body P w K mg base q s_is_number f ["thing"] (0) (sp_is_number K) := fun cdv A outer s H vs Q E hr h => by
  have hu := hu_of hr
  obtain ⟨i, rfl, h1, h2, q⟩ := h
  refine ⟨_, (pss_one (ps_ret (pe_and (pe_callB call_isi (by rfl) T.n_isinstance (by decide +kernel) (pa_cons (pv 0) (pa_cons (pe_bltn (v := .ty "int") rfl T.n_int (by decide +kernel) rfl) pa_nil))) (pe_and (pe_not (pe_callB call_isi (by rfl) T.n_isinstance (by decide +kernel) (pa_cons (pv 0) (pa_cons (pe_bltn (v := .ty "bool") rfl T.n_bool (by decide +kernel) rfl) pa_nil)))) (pe_one (pe_chain op_le op_le (C8.pe_gc rfl T.i_LEAST) (pv 0) (C8.pe_gc rfl T.i_GREATEST))))))), ?_⟩
  refine ⟨_, rfl, ⟨_, _, _, _, true, rfl, .ty _, .base (.int i), kit_ty (by decide +kernel), true, rfl, ite_t rfl ?_⟩⟩
  refine ⟨_, rfl, ⟨_, _, _, _, false, rfl, .ty _, .base (.int i), kit_ty (by decide +kernel), false, rfl, true, rfl, ite_t rfl ?_⟩⟩
  refine ⟨_, rfl, -128, i, rfl, rfl, true, congrArg V.bl (dt h1), ite_t rfl ⟨i, 127, rfl, rfl, ?_⟩⟩
  show Q (.bl (decide _)) H
  rw [dt h2]
  exact q
theorem ok_is_number (T : Top K mg) : C8.Cal P w K mg base 1 "is_number" (sp_is_number K) [] :=
  cal_of T 3 d_is_number s_is_number "is_number" rfl rfl rfl rfl T.g_is_number sc_is_number (fun _ _ _ _ _ _ us hl => match us, hl with | [_], _ => rfl) ln_is_number (bd_is_number T )
theorem sc_is_value : FnScope ["thing"] ["thing"] (defScope s_is_value) := ⟨rfl, rfl, rfl, by decide +kernel, rfl, by decide +kernel, by decide +kernel⟩
def sp_is_value (K : PySem.W.Frag) : Sp := fun vs H Q _ => ∃ x : Val0, vs = [x.v] ∧ x.ok ∧ Q (.bl true) H
theorem ln_is_value {K : PySem.W.Frag} : ∀ vs H Q E, (sp_is_value K) vs H Q E → vs.length = (["thing"] : List Str).length := fun vs H Q E h => by
  obtain ⟨_, rfl, _⟩ := h
  rfl
theorem bd_is_value (T : Top K mg) (c_is_number : C8.Cal P w K mg base 1 "is_number" (sp_is_number K) []) : Body P w K mg base q s_is_value f ["thing"] (1) (sp_is_value K) := fun cdv A outer s H vs Q E hr h => by
  have hu := hu_of hr
  obtain ⟨x, rfl, hx, q⟩ := h
  refine ⟨_, (pss_one (ps_ret (pe_or (pe_callB call_isi (by rfl) T.n_isinstance (by decide +kernel) (pa_cons (pv 0) (pa_cons (pe_bltn (v := .ty "bool") rfl T.n_bool (by decide +kernel) rfl) pa_nil))) (pe_one (C8.pe_c c_is_number hr (by omega) rfl (pa_cons (pv 0) pa_nil)))))), ?_⟩
  cases x with
  | bl b =>
    exact ⟨_, rfl, ⟨_, _, _, _, true, rfl, .ty _, .base (.bl b), kit_ty (by decide +kernel), true, rfl, ite_t rfl q⟩⟩
  | int i =>
    refine ⟨_, rfl, ⟨_, _, _, _, false, rfl, .ty _, .base (.int i), kit_ty (by decide +kernel), false, rfl, ite_f rfl ?_⟩⟩
    exact ⟨_, rfl, i, rfl, hx.1, hx.2, q⟩
theorem ok_is_value (T : Top K mg) : C8.Cal P w K mg base 2 "is_value" (sp_is_value K) [] :=
  cal_of T 4 d_is_value s_is_value "is_value" rfl rfl rfl rfl T.g_is_value sc_is_value (fun _ _ _ _ _ _ us hl => match us, hl with | [_], _ => rfl) ln_is_value (bd_is_value T (ok_is_number T))
theorem sc_need_first : FnScope ["first"] ["first"] (defScope s_need_first) := ⟨rfl, rfl, rfl, by decide +kernel, rfl, by decide +kernel, by decide +kernel⟩
def sp_need_first (K : PySem.W.Frag) : Sp := fun vs H Q _ => ∃ x : Option Val0, vs = [fvV x] ∧ fvOk x ∧ Q .non H
theorem ln_need_first {K : PySem.W.Frag} : ∀ vs H Q E, (sp_need_first K) vs H Q E → vs.length = (["first"] : List Str).length := fun vs H Q E h => by
  obtain ⟨_, rfl, _⟩ := h
  rfl
theorem bd_need_first (T : Top K mg) (c_is_value : C8.Cal P w K mg base 2 "is_value" (sp_is_value K) []) : Body P w K mg base q s_need_first f ["first"] (2) (sp_need_first K) := fun cdv A outer s H vs Q E hr h => by
  have hu := hu_of hr
  obtain ⟨x, rfl, hx, q⟩ := h
  refine ⟨_, (pss_one (ps_if (PW.pt (pw_and (pt_cmp (pc_notN (pv 0))) (pw_and1 (pt_not (pt_val (C8.pe_c c_is_value hr (by omega) rfl (pa_cons (pv 0) pa_nil))))))) pss_never pss_nil)), ?_⟩
  cases x with
  | none => exact ⟨_, rfl, _, rfl, ite_f rfl (ite_f rfl q)⟩
  | some x =>
    refine ⟨_, rfl, true, ?_, ite_t rfl ⟨_, rfl, x, rfl, hx, true, rfl, ite_f rfl q⟩⟩
    cases x <;> rfl
theorem ok_need_first (T : Top K mg) : C8.Cal P w K mg base 3 "need_first" (sp_need_first K) [] :=
  cal_of T 11 d_need_first s_need_first "need_first" rfl rfl rfl rfl T.g_need_first sc_need_first (fun _ _ _ _ _ _ us hl => match us, hl with | [_], _ => rfl) ln_need_first (bd_need_first T (ok_is_value T))
theorem sc_need_name : FnScope ["name"] ["name"] (defScope s_need_name) := ⟨rfl, rfl, rfl, by decide +kernel, rfl, by decide +kernel, by decide +kernel⟩
def sp_need_name (K : PySem.W.Frag) : Sp := fun vs H Q _ => ∃ s, vs = [.str s] ∧ Nm s ∧ ∀ H', Ext K H H' → Q .non H'
theorem ln_need_name {K : PySem.W.Frag} : ∀ vs H Q E, (sp_need_name K) vs H Q E → vs.length = (["name"] : List Str).length := fun vs H Q E h => by
  obtain ⟨_, rfl, _⟩ := h
  rfl
theorem bd_need_name (T : Top K mg) (c_is_name : C8.Cal P w K mg base 3 "is_name" (sp_is_name K) []) : Body P w K mg base q s_need_name f ["name"] (3) (sp_need_name K) := fun cdv A outer s H vs Q E hr h => by
  have hu := hu_of hr
  obtain ⟨x, rfl, hx, q⟩ := h
  refine ⟨_, (pss_one (ps_if (pt_not (pt_val (C8.pe_c c_is_name hr (by omega) rfl (pa_cons (pv 0) pa_nil)))) pss_never pss_nil)), ?_⟩
  exact ⟨_, rfl, x, rfl, hx, fun H1 e => ⟨true, rfl, ite_f rfl (q H1 e)⟩⟩
theorem ok_need_name (T : Top K mg) : C8.Cal P w K mg base 4 "need_name" (sp_need_name K) [] :=
  cal_of T 12 d_need_name s_need_name "need_name" rfl rfl rfl rfl T.g_need_name sc_need_name (fun _ _ _ _ _ _ us hl => match us, hl with | [_], _ => rfl) ln_need_name (bd_need_name T (ok_is_name T))
theorem sc_need_names : FnScope ["names", "on", "name"] ["names", "on"] (defScope s_need_names) := ⟨rfl, rfl, rfl, by decide +kernel, rfl, by decide +kernel, by decide +kernel⟩
def sp_need_names (K : PySem.W.Frag) : Sp := fun vs H Q _ => ∃ (l : Addr) (ns : List Str) (o : Option Str), vs = [.ref l, onV o] ∧ SqL K H l (ns.map V.str) ∧ (∀ n ∈ ns, Nm n) ∧ (∀ n, o = some n → Nm n) ∧ ∀ H', Ext K H H' → Q .non H'
theorem ln_need_names {K : PySem.W.Frag} : ∀ vs H Q E, (sp_need_names K) vs H Q E → vs.length = (["names", "on"] : List Str).length := fun vs H Q E h => by
  obtain ⟨_, _, _, rfl, _⟩ := h
  rfl
theorem bd_need_names (T : Top K mg) (c_is_name : C8.Cal P w K mg base 3 "is_name" (sp_is_name K) []) : Body P w K mg base q s_need_names f ["names", "on", "name"] (3) (sp_need_names K) := fun cdv A outer s H vs Q E hr h => by
  have hu := hu_of hr
  obtain ⟨l, ns, o, rfl, hl, hn, ho, q⟩ := h
  refine ⟨_, (pss_cons (ps_for PassesOwn.never rfl (pi_list (pv 0)) (pg_name (i := 2) sc_need_names.nd rfl (by first | exact Or.inl rfl | exact Or.inr rfl))
          (pss_one (ps_if (pt_not (pt_val (C8.pe_c c_is_name hr (by omega) rfl (pa_cons (pv 2) pa_nil)))) pss_never pss_nil)))
        (pss_one (ps_if (PW.pt (pw_and (pt_cmp (pc_notN (pv 1))) (pw_and1 (pt_not (pt_val (C8.pe_c c_is_name hr (by omega) rfl (pa_cons (pv 1) pa_nil))))))) pss_never pss_nil))), ?_⟩
  refine ⟨_, rfl, l, rfl, ⟨_, hl⟩, for_list (xs := ns.map V.str) (fun _ σ H1 => Ext K H H1 ∧ ∃ x, σ = [some (.ref l), some (onV o), x]) ⟨Ext.refl K H, none, rfl⟩ (fun _ _ _ _ p => p.1.l hl) (fun i x σ H1 hx p => ?_) (fun σ H1 p => ?_)⟩
  · obtain ⟨e, z, rfl⟩ := p
    obtain ⟨n, hm, rfl⟩ := List.mem_map.mp (List.mem_of_getElem? hx)
    exact ⟨_, rfl, n, rfl, hn n hm, fun H2 e2 => ⟨true, rfl, ite_f rfl ⟨e.trans e2, _, rfl⟩⟩⟩
  · obtain ⟨e, z, rfl⟩ := p
    cases o with
    | none => exact ⟨_, rfl, _, rfl, ite_f rfl (ite_f rfl (q H1 e))⟩
    | some n => exact ⟨_, rfl, true, rfl, ite_t rfl ⟨_, rfl, n, rfl, ho n rfl, fun H2 e2 => ⟨true, rfl, ite_f rfl (q H2 (e.trans e2))⟩⟩⟩
theorem ok_need_names (T : Top K mg) : C8.Cal P w K mg base 4 "need_names" (sp_need_names K) [] :=
  cal_of T 5 d_need_names s_need_names "need_names" rfl rfl rfl rfl T.g_need_names sc_need_names (fun _ _ _ _ _ _ us hl => match us, hl with | [_, _], _ => rfl) ln_need_names (bd_need_names T (ok_is_name T))
theorem sc_is_stretch : FnScope ["kind"] ["kind"] (defScope s_is_stretch) := ⟨rfl, rfl, rfl, by decide +kernel, rfl, by decide +kernel, by decide +kernel⟩
def sp_is_stretch (K : PySem.W.Frag) : Sp := fun vs H Q _ => ∃ (a : Addr) (i j : Int), vs = [.ref a] ∧ SqT K H a [.int i, .int j] ∧ -128 ≤ i ∧ i ≤ j ∧ j ≤ 127 ∧ Q (.bl true) H
theorem ln_is_stretch {K : PySem.W.Frag} : ∀ vs H Q E, (sp_is_stretch K) vs H Q E → vs.length = (["kind"] : List Str).length := fun vs H Q E h => by
  obtain ⟨_, _, _, rfl, _⟩ := h
  rfl
theorem bd_is_stretch (T : Top K mg) (c_is_number : C8.Cal P w K mg base 1 "is_number" (sp_is_number K) []) : Body P w K mg base q s_is_stretch f ["kind"] (1) (sp_is_stretch K) := fun cdv A outer s H vs Q E hr h => by
  have hu := hu_of hr
  obtain ⟨a, i, j, rfl, ha, h1, h2, h3, q⟩ := h
  refine ⟨_, (pss_cons (ps_if (PW.pt (pw_or (pt_not (pt_val (pe_callB call_isi (by rfl) T.n_isinstance (by decide +kernel) (pa_cons (pv 0) (pa_cons (pe_bltn (v := .ty "tuple") rfl T.n_tuple (by decide +kernel) rfl) pa_nil))))) (pw_or1 (pt_cmpR op_ne (pe_callB call_len_seq (by rfl) T.n_len PySem.boot_len (pa_cons (pv 0) pa_nil)) pe_int (nomark _))))) (pss_one (ps_ret pe_bl)) pss_nil)
        (pss_one (ps_ret (pe_and (C8.pe_c c_is_number hr (by omega) rfl (pa_cons (pe_ix ix_tup (pv 0) pe_int (fun _ _ => rfl)) pa_nil)) (pe_and (C8.pe_c c_is_number hr (by omega) rfl (pa_cons (pe_ix ix_tup (pv 0) pe_int (fun _ _ => rfl)) pa_nil)) (pe_one (pe_cmpR op_le (pe_ix ix_tup (pv 0) pe_int (fun _ _ => rfl)) (pe_ix ix_tup (pv 0) pe_int (fun _ _ => rfl)) (nomark _)))))))), ?_⟩
  refine ⟨_, rfl, ⟨_, _, _, _, true, rfl, .ty _, ty_tup ha, kit_ty (by decide +kernel), true, rfl, ite_f rfl ?_⟩⟩
  refine ⟨_, rfl, a, _, rfl, .inr ha, rfl, _, rfl, ite_f rfl ?_⟩
  refine ⟨_, rfl, a, _, 0, _, rfl, rfl, ha, rfl, i, rfl, h1, by omega, true, rfl, ite_t rfl ?_⟩
  refine ⟨_, rfl, a, _, 1, _, rfl, rfl, ha, rfl, j, rfl, by omega, h3, true, rfl, ite_t rfl ?_⟩
  refine ⟨_, rfl, a, _, 0, _, rfl, rfl, ha, rfl, _, rfl, a, _, 1, _, rfl, rfl, ha, rfl, i, j, rfl, rfl, ?_⟩
  show Q (.bl (decide _)) H
  rw [dt h2]
  exact q
theorem ok_is_stretch (T : Top K mg) : C8.Cal P w K mg base 2 "is_stretch" (sp_is_stretch K) [] :=
  cal_of T 6 d_is_stretch s_is_stretch "is_stretch" rfl rfl rfl rfl T.g_is_stretch sc_is_stretch (fun _ _ _ _ _ _ us hl => match us, hl with | [_], _ => rfl) ln_is_stretch (bd_is_stretch T (ok_is_number T))
end

theorem paired_step {α β : Type} {R : α → β → Prop} {acc : List α} {bs : List β} {i : Nat} {y : α} {b : β} (p : Paired R acc (bs.take i)) (hb : bs[i]? = some b) (r : R y b) : Paired R (acc ++ [y]) (bs.take (i + 1)) := by
  rw [List.take_add_one, hb]
  exact p.snoc r
theorem paired_all {α β : Type} {R : α → β → Prop} {acc : List α} {bs : List β} {n : Nat} (p : Paired R acc (bs.take n)) (h : n = bs.length) : Paired R acc bs := by
  rw [h, List.take_length] at p
  exact p
theorem Ext.made {K : PySem.W.Frag} {H : Hp} {x dx : Addr} (hx : H x = none) (hd : H dx = none) (o u : HO) (n : dx ≠ x) : Ext K H (upd (upd H dx o) x u) :=
  (Ext.new hd o).trans (Ext.new (by rw [upd_ne (fun z => n z.symm)]; exact hx) u)
/-- where a part keeps the parts in it -/
def kidFs : PK → List Str
  | .given => []
  | .named => []
  | .turned => ["part"]
  | .pair => ["one", "other"]
  | .choice => ["truth", "one", "other"]
  | .before => ["part"]
  | .led => ["head", "rest"]
  | .when => ["part"]
  | .held => ["part"]
def Kids (c : PK) (fs : List (Str × V)) (ks : List V) : Prop := (kidFs c).map (fun x => fs.lookup x) = ks.map some
def sp_inner (K : PySem.W.Frag) (c : PK) : Sp := fun vs H Q _ => ∃ a dx fs ks, vs = [.ref a] ∧ H a = some (.ins (cK K c) dx fs) ∧ Kids c fs ks ∧ ∀ p, H p = none → Q (.ref p) (upd H p (.tup ks))
def sp_own (K : PySem.W.Frag) (c : PK) : Sp := fun vs H Q _ => ∃ v t, vs = [v] ∧ t.k = c ∧ PartAt K H v t ∧ ∀ p, H p = none → Q (.ref p) (upd H p (.lst (t.own.map V.str)))
theorem kids1 {x : Str} {fs : List (Str × V)} {ks : List V} (h : [x].map (fun x => fs.lookup x) = ks.map some) : ∃ v, fs.lookup x = some v ∧ ks = [v] := by
  have hl := congrArg List.length h
  rw [List.length_map, List.length_map] at hl
  match ks, hl, h with
  | [v], _, h => exact ⟨v, (List.cons.inj h).1, rfl⟩
theorem kids2 {x y : Str} {fs : List (Str × V)} {ks : List V} (h : [x, y].map (fun x => fs.lookup x) = ks.map some) : ∃ v u, fs.lookup x = some v ∧ fs.lookup y = some u ∧ ks = [v, u] := by
  have hl := congrArg List.length h
  rw [List.length_map, List.length_map] at hl
  match ks, hl, h with
  | [v, u], _, h => exact ⟨v, u, (List.cons.inj h).1, (List.cons.inj (List.cons.inj h).2).1, rfl⟩
theorem kids3 {x y z : Str} {fs : List (Str × V)} {ks : List V} (h : [x, y, z].map (fun x => fs.lookup x) = ks.map some) : ∃ v u t, fs.lookup x = some v ∧ fs.lookup y = some u ∧ fs.lookup z = some t ∧ ks = [v, u, t] := by
  have hl := congrArg List.length h
  rw [List.length_map, List.length_map] at hl
  match ks, hl, h with
  | [v, u, t], _, h => exact ⟨v, u, t, (List.cons.inj h).1, (List.cons.inj (List.cons.inj h).2).1, (List.cons.inj (List.cons.inj (List.cons.inj h).2).2).1, rfl⟩
section
variable {K : PySem.W.Frag} {mg : Str → Option Value}
theorem Top.clP (T : Top K mg) (c : PK) : Cls K (cK K c) := match c with
  | .given => T.cl_Given | .named => T.cl_Named | .turned => T.cl_Turned | .pair => T.cl_Pair | .choice => T.cl_Choice | .before => T.cl_Before | .led => T.cl_Led | .when => T.cl_When | .held => T.cl_Held
theorem Top.naL (T : Top K mg) (c : PK) : NoAttr K (cK K c) "large" := match c with
  | .given => T.na_Given_large | .named => T.na_Named_large | .turned => T.na_Turned_large | .pair => T.na_Pair_large | .choice => T.na_Choice_large | .before => T.na_Before_large | .led => T.na_Led_large | .when => T.na_When_large | .held => T.na_Held_large
theorem Top.naD (T : Top K mg) (c : PK) : NoAttr K (cK K c) "deep" := match c with
  | .given => T.na_Given_deep | .named => T.na_Named_deep | .turned => T.na_Turned_deep | .pair => T.na_Pair_deep | .choice => T.na_Choice_deep | .before => T.na_Before_deep | .led => T.na_Led_deep | .when => T.na_When_deep | .held => T.na_Held_deep
end
def mxN : List Nat → Nat
  | [] => 0
  | n :: l => max n (mxN l)
theorem mxN_le : ∀ {l : List Nat} {n : Nat}, n ∈ l → n ≤ mxN l
  | _ :: l, n, h => by
    rcases List.mem_cons.mp h with h | h
    · subst h
      exact Nat.le_max_left _ _
    · exact Nat.le_trans (mxN_le h) (Nat.le_max_right _ _)
theorem mxN_mem : ∀ (l : List Nat), mxN l ∈ 0 :: l
  | [] => List.mem_cons_self
  | n :: l => by
    have ih := mxN_mem l
    show max n (mxN l) ∈ _
    by_cases h : mxN l ≤ n
    · rw [Nat.max_eq_left h]
      exact List.mem_cons_of_mem _ List.mem_cons_self
    · rw [Nat.max_eq_right (by omega)]
      rcases List.mem_cons.mp ih with e | e
      · rw [e]
        exact List.mem_cons_self
      · exact List.mem_cons_of_mem _ (List.mem_cons_of_mem _ e)
theorem sum_cast : ∀ l : List Nat, (l.map (fun n : Nat => (n : Int))).sum = ((l.sum : Nat) : Int)
  | [] => rfl
  | n :: l => by
    have ih := sum_cast l
    simp only [List.map_cons, List.sum_cons]
    omega
/-- the object measured -/
def sp_measured (K : PySem.W.Frag) (c : PK) : Sp := fun vs H Q _ => ∃ (a dx : Addr) (fs : List (Str × V)) (ks : List V) (ts : List Tl) (Hb : Hp), vs = [.ref a] ∧ H a = some (.ins (cK K c) dx fs) ∧ Kids c fs ks ∧ fs.lookup ("inner" : Str) = none ∧ fs.lookup ("large" : Str) = none ∧ fs.lookup ("deep" : Str) = none ∧ fs.length < 10 ∧
  Paired (PartAt K Hb) ks ts ∧ ts.length ≤ 3 ∧ (ts.map Tl.sz).sum ≤ 39 ∧ (∀ t ∈ ts, t.dep ≤ 9) ∧ Hb a = none ∧ Ext K Hb H ∧
  ∀ H', Ext K Hb H' → H' a = some (.ins (cK K c) dx (putF "deep" (.int ((1 + mxN (ts.map Tl.dep) : Nat) : Int)) (putF "large" (.int ((1 + (ts.map Tl.sz).sum : Nat) : Int)) fs))) → Q .non H'
theorem putF_len (f : Str) (v : V) : ∀ fs : List (Str × V), (putF f v fs).length ≤ fs.length + 1
  | [] => Nat.le_refl _
  | (g, x) :: r => by
    have ih := putF_len f v r
    unfold putF
    split
    · exact Nat.le_succ _
    · exact Nat.succ_le_succ ih
theorem Kids.put {c : PK} {fs : List (Str × V)} {ks : List V} (h : Kids c fs ks) {f : Str} (n : f ∉ kidFs c) (v : V) : Kids c (putF f v fs) ks := by
  unfold Kids at *
  rw [← h]
  refine List.map_congr_left fun x hx => ?_
  rw [lookup_putF, if_neg fun z => n (by rw [← z]; exact hx)]
theorem large_nk (c : PK) : ("large" : Str) ∉ kidFs c := by cases c <;> decide +kernel
theorem k_given {t : Tl} (h : t.k = .given) : ∃ x, t = .given x := by cases t <;> first | exact ⟨_, rfl⟩ | cases h
theorem k_named {t : Tl} (h : t.k = .named) : ∃ n, t = .named n := by cases t <;> first | exact ⟨_, rfl⟩ | cases h
theorem k_turned {t : Tl} (h : t.k = .turned) : ∃ p, t = .turned p := by cases t <;> first | exact ⟨_, rfl⟩ | cases h
theorem k_pair {t : Tl} (h : t.k = .pair) : ∃ s p q, t = .pair s p q := by cases t <;> first | exact ⟨_, _, _, rfl⟩ | cases h
theorem k_choice {t : Tl} (h : t.k = .choice) : ∃ c p q, t = .choice c p q := by cases t <;> first | exact ⟨_, _, _, rfl⟩ | cases h
theorem k_before {t : Tl} (h : t.k = .before) : ∃ p f, t = .before p f := by cases t <;> first | exact ⟨_, _, rfl⟩ | cases h
theorem k_led {t : Tl} (h : t.k = .led) : ∃ p q, t = .led p q := by cases t <;> first | exact ⟨_, _, rfl⟩ | cases h
theorem k_when {t : Tl} (h : t.k = .when) : ∃ p n, t = .when p n := by cases t <;> first | exact ⟨_, _, rfl⟩ | cases h
theorem k_held {t : Tl} (h : t.k = .held) : ∃ p n f, t = .held p n f := by cases t <;> first | exact ⟨_, _, _, rfl⟩ | cases h
theorem meas_sz (t : Tl) : 1 + (t.kids.map Tl.sz).sum = t.sz := by cases t <;> simp [Tl.kids, Tl.sz]
theorem meas_dep (t : Tl) : 1 + mxN (t.kids.map Tl.dep) = t.dep := by cases t <;> simp [Tl.kids, Tl.dep, mxN]
theorem kid_len (t : Tl) : t.kids.length ≤ 3 := by cases t <;> simp [Tl.kids]
theorem kid_dep (t : Tl) {p : Tl} (h : p ∈ t.kids) : p.dep + 1 ≤ t.dep := by
  have h2 := meas_dep t
  have h3 : p.dep ≤ mxN (t.kids.map Tl.dep) := mxN_le (List.mem_map_of_mem h)
  omega
/-- what a part's maker is asked: the new object's place, what was known ahead of it -/
def MadeP (K : PySem.W.Frag) (H : Hp) (Q : VK) (a : Addr) (t : Tl) : Prop := ∃ dx Hb, H a = some (.ins (cK K t.k) dx []) ∧ t.dep ≤ 10 ∧ t.sz ≤ 40 ∧ Hb a = none ∧ Ext K Hb H ∧ ∀ H', Ext K Hb H' → PartAt K H' (.ref a) t → Q .non H'

section
variable {P : Program} {w : World} {K : PySem.W.Frag} {mg : Str → Option Value} {base : Heap} {q : Str} {f : Addr}
theorem sc_Part_inner : FnScope ["self"] ["self"] (defScope s_Part_inner) := ⟨rfl, rfl, rfl, by decide +kernel, rfl, by decide +kernel, by decide +kernel⟩
def sp_Part_inner (K : PySem.W.Frag) (c : PK) : Sp := fun vs H Q E => kidFs c = [] ∧ sp_inner K c vs H Q E
theorem ln_Part_inner {K : PySem.W.Frag} {c : PK} : ∀ vs H Q E, (sp_Part_inner K c) vs H Q E → vs.length = (["self"] : List Str).length := fun vs H Q E h => by
  obtain ⟨_, _, _, _, _, rfl, _⟩ := h
  rfl
theorem bd_Part_inner (T : Top K mg) (c : PK)  : Body P w K mg base q s_Part_inner f ["self"] (0) (sp_Part_inner K c) := fun cdv A outer s H vs Q E hr h => by
  have hu := hu_of hr
  obtain ⟨hc, a, dx, fs, ks, rfl, ha, hk, q⟩ := h
  refine ⟨_, (pss_one (ps_ret (pe_tup pa_nil))), ?_⟩
  unfold Kids at hk
  rw [hc] at hk
  have e : ks = [] := (List.map_eq_nil_iff.mp hk.symm)
  subst e
  exact ⟨Nat.zero_le _, q⟩
theorem sc_Turned_inner : FnScope ["self"] ["self"] (defScope s_Turned_inner) := ⟨rfl, rfl, rfl, by decide +kernel, rfl, by decide +kernel, by decide +kernel⟩
def sp_Turned_inner (K : PySem.W.Frag) : Sp := sp_inner K .turned
theorem ln_Turned_inner {K : PySem.W.Frag} : ∀ vs H Q E, (sp_Turned_inner K) vs H Q E → vs.length = (["self"] : List Str).length := fun vs H Q E h => by
  obtain ⟨_, _, _, _, rfl, _⟩ := h
  rfl
theorem bd_Turned_inner (T : Top K mg)  : Body P w K mg base q s_Turned_inner f ["self"] (0) (sp_Turned_inner K) := fun cdv A outer s H vs Q E hr h => by
  have hu := hu_of hr
  obtain ⟨a, dx, fs, ks, rfl, ha, hk, q⟩ := h
  refine ⟨_, (pss_one (ps_ret (pe_tup (pa_cons (pe_fld (pv 0) rfl) pa_nil)))), ?_⟩
  obtain ⟨k1, e1, rfl⟩ := kids1 hk
  exact ⟨_, rfl, a, _, dx, fs, k1, rfl, ha, T.cl_Turned, T.na_Turned_part, e1, szk 1, q⟩
theorem ok_Turned_inner (T : Top K mg) : C8.Met P w K mg base 1 (He.ga K "Turned") "inner" (sp_Turned_inner K) [] :=
  met_of T 54 d_Turned_inner s_Turned_inner (He.ga K "Turned") "inner" rfl rfl rfl rfl T.cl_Turned T.me_Turned_inner sc_Turned_inner (fun _ _ _ _ _ _ us hl => match us, hl with | [_], _ => rfl) ln_Turned_inner (bd_Turned_inner T )
theorem sc_Pair_inner : FnScope ["self"] ["self"] (defScope s_Pair_inner) := ⟨rfl, rfl, rfl, by decide +kernel, rfl, by decide +kernel, by decide +kernel⟩
def sp_Pair_inner (K : PySem.W.Frag) : Sp := sp_inner K .pair
theorem ln_Pair_inner {K : PySem.W.Frag} : ∀ vs H Q E, (sp_Pair_inner K) vs H Q E → vs.length = (["self"] : List Str).length := fun vs H Q E h => by
  obtain ⟨_, _, _, _, rfl, _⟩ := h
  rfl
theorem bd_Pair_inner (T : Top K mg)  : Body P w K mg base q s_Pair_inner f ["self"] (0) (sp_Pair_inner K) := fun cdv A outer s H vs Q E hr h => by
  have hu := hu_of hr
  obtain ⟨a, dx, fs, ks, rfl, ha, hk, q⟩ := h
  refine ⟨_, (pss_one (ps_ret (pe_tup (pa_cons (pe_fld (pv 0) rfl) (pa_cons (pe_fld (pv 0) rfl) pa_nil))))), ?_⟩
  obtain ⟨k1, k2, e1, e2, rfl⟩ := kids2 hk
  exact ⟨_, rfl, a, _, dx, fs, k1, rfl, ha, T.cl_Pair, T.na_Pair_one, e1, _, rfl, a, _, dx, fs, k2, rfl, ha, T.cl_Pair, T.na_Pair_other, e2, szk 2, q⟩
theorem ok_Pair_inner (T : Top K mg) : C8.Met P w K mg base 1 (He.ga K "Pair") "inner" (sp_Pair_inner K) [] :=
  met_of T 60 d_Pair_inner s_Pair_inner (He.ga K "Pair") "inner" rfl rfl rfl rfl T.cl_Pair T.me_Pair_inner sc_Pair_inner (fun _ _ _ _ _ _ us hl => match us, hl with | [_], _ => rfl) ln_Pair_inner (bd_Pair_inner T )
theorem sc_Choice_inner : FnScope ["self"] ["self"] (defScope s_Choice_inner) := ⟨rfl, rfl, rfl, by decide +kernel, rfl, by decide +kernel, by decide +kernel⟩
def sp_Choice_inner (K : PySem.W.Frag) : Sp := sp_inner K .choice
theorem ln_Choice_inner {K : PySem.W.Frag} : ∀ vs H Q E, (sp_Choice_inner K) vs H Q E → vs.length = (["self"] : List Str).length := fun vs H Q E h => by
  obtain ⟨_, _, _, _, rfl, _⟩ := h
  rfl
theorem bd_Choice_inner (T : Top K mg)  : Body P w K mg base q s_Choice_inner f ["self"] (0) (sp_Choice_inner K) := fun cdv A outer s H vs Q E hr h => by
  have hu := hu_of hr
  obtain ⟨a, dx, fs, ks, rfl, ha, hk, q⟩ := h
  refine ⟨_, (pss_one (ps_ret (pe_tup (pa_cons (pe_fld (pv 0) rfl) (pa_cons (pe_fld (pv 0) rfl) (pa_cons (pe_fld (pv 0) rfl) pa_nil)))))), ?_⟩
  obtain ⟨k1, k2, k3, e1, e2, e3, rfl⟩ := kids3 hk
  exact ⟨_, rfl, a, _, dx, fs, k1, rfl, ha, T.cl_Choice, T.na_Choice_truth, e1, _, rfl, a, _, dx, fs, k2, rfl, ha, T.cl_Choice, T.na_Choice_one, e2, _, rfl, a, _, dx, fs, k3, rfl, ha, T.cl_Choice, T.na_Choice_other, e3, szk 3, q⟩
theorem ok_Choice_inner (T : Top K mg) : C8.Met P w K mg base 1 (He.ga K "Choice") "inner" (sp_Choice_inner K) [] :=
  met_of T 66 d_Choice_inner s_Choice_inner (He.ga K "Choice") "inner" rfl rfl rfl rfl T.cl_Choice T.me_Choice_inner sc_Choice_inner (fun _ _ _ _ _ _ us hl => match us, hl with | [_], _ => rfl) ln_Choice_inner (bd_Choice_inner T )
theorem sc_Before_inner : FnScope ["self"] ["self"] (defScope s_Before_inner) := ⟨rfl, rfl, rfl, by decide +kernel, rfl, by decide +kernel, by decide +kernel⟩
def sp_Before_inner (K : PySem.W.Frag) : Sp := sp_inner K .before
theorem ln_Before_inner {K : PySem.W.Frag} : ∀ vs H Q E, (sp_Before_inner K) vs H Q E → vs.length = (["self"] : List Str).length := fun vs H Q E h => by
  obtain ⟨_, _, _, _, rfl, _⟩ := h
  rfl
theorem bd_Before_inner (T : Top K mg)  : Body P w K mg base q s_Before_inner f ["self"] (0) (sp_Before_inner K) := fun cdv A outer s H vs Q E hr h => by
  have hu := hu_of hr
  obtain ⟨a, dx, fs, ks, rfl, ha, hk, q⟩ := h
  refine ⟨_, (pss_one (ps_ret (pe_tup (pa_cons (pe_fld (pv 0) rfl) pa_nil)))), ?_⟩
  obtain ⟨k1, e1, rfl⟩ := kids1 hk
  exact ⟨_, rfl, a, _, dx, fs, k1, rfl, ha, T.cl_Before, T.na_Before_part, e1, szk 1, q⟩
theorem ok_Before_inner (T : Top K mg) : C8.Met P w K mg base 1 (He.ga K "Before") "inner" (sp_Before_inner K) [] :=
  met_of T 72 d_Before_inner s_Before_inner (He.ga K "Before") "inner" rfl rfl rfl rfl T.cl_Before T.me_Before_inner sc_Before_inner (fun _ _ _ _ _ _ us hl => match us, hl with | [_], _ => rfl) ln_Before_inner (bd_Before_inner T )
theorem sc_Led_inner : FnScope ["self"] ["self"] (defScope s_Led_inner) := ⟨rfl, rfl, rfl, by decide +kernel, rfl, by decide +kernel, by decide +kernel⟩
def sp_Led_inner (K : PySem.W.Frag) : Sp := sp_inner K .led
theorem ln_Led_inner {K : PySem.W.Frag} : ∀ vs H Q E, (sp_Led_inner K) vs H Q E → vs.length = (["self"] : List Str).length := fun vs H Q E h => by
  obtain ⟨_, _, _, _, rfl, _⟩ := h
  rfl
theorem bd_Led_inner (T : Top K mg)  : Body P w K mg base q s_Led_inner f ["self"] (0) (sp_Led_inner K) := fun cdv A outer s H vs Q E hr h => by
  have hu := hu_of hr
  obtain ⟨a, dx, fs, ks, rfl, ha, hk, q⟩ := h
  refine ⟨_, (pss_one (ps_ret (pe_tup (pa_cons (pe_fld (pv 0) rfl) (pa_cons (pe_fld (pv 0) rfl) pa_nil))))), ?_⟩
  obtain ⟨k1, k2, e1, e2, rfl⟩ := kids2 hk
  exact ⟨_, rfl, a, _, dx, fs, k1, rfl, ha, T.cl_Led, T.na_Led_head, e1, _, rfl, a, _, dx, fs, k2, rfl, ha, T.cl_Led, T.na_Led_rest, e2, szk 2, q⟩
theorem ok_Led_inner (T : Top K mg) : C8.Met P w K mg base 1 (He.ga K "Led") "inner" (sp_Led_inner K) [] :=
  met_of T 78 d_Led_inner s_Led_inner (He.ga K "Led") "inner" rfl rfl rfl rfl T.cl_Led T.me_Led_inner sc_Led_inner (fun _ _ _ _ _ _ us hl => match us, hl with | [_], _ => rfl) ln_Led_inner (bd_Led_inner T )
theorem sc_When_inner : FnScope ["self"] ["self"] (defScope s_When_inner) := ⟨rfl, rfl, rfl, by decide +kernel, rfl, by decide +kernel, by decide +kernel⟩
def sp_When_inner (K : PySem.W.Frag) : Sp := sp_inner K .when
theorem ln_When_inner {K : PySem.W.Frag} : ∀ vs H Q E, (sp_When_inner K) vs H Q E → vs.length = (["self"] : List Str).length := fun vs H Q E h => by
  obtain ⟨_, _, _, _, rfl, _⟩ := h
  rfl
theorem bd_When_inner (T : Top K mg)  : Body P w K mg base q s_When_inner f ["self"] (0) (sp_When_inner K) := fun cdv A outer s H vs Q E hr h => by
  have hu := hu_of hr
  obtain ⟨a, dx, fs, ks, rfl, ha, hk, q⟩ := h
  refine ⟨_, (pss_one (ps_ret (pe_tup (pa_cons (pe_fld (pv 0) rfl) pa_nil)))), ?_⟩
  obtain ⟨k1, e1, rfl⟩ := kids1 hk
  exact ⟨_, rfl, a, _, dx, fs, k1, rfl, ha, T.cl_When, T.na_When_part, e1, szk 1, q⟩
theorem ok_When_inner (T : Top K mg) : C8.Met P w K mg base 1 (He.ga K "When") "inner" (sp_When_inner K) [] :=
  met_of T 84 d_When_inner s_When_inner (He.ga K "When") "inner" rfl rfl rfl rfl T.cl_When T.me_When_inner sc_When_inner (fun _ _ _ _ _ _ us hl => match us, hl with | [_], _ => rfl) ln_When_inner (bd_When_inner T )
theorem sc_Held_inner : FnScope ["self"] ["self"] (defScope s_Held_inner) := ⟨rfl, rfl, rfl, by decide +kernel, rfl, by decide +kernel, by decide +kernel⟩
def sp_Held_inner (K : PySem.W.Frag) : Sp := sp_inner K .held
theorem ln_Held_inner {K : PySem.W.Frag} : ∀ vs H Q E, (sp_Held_inner K) vs H Q E → vs.length = (["self"] : List Str).length := fun vs H Q E h => by
  obtain ⟨_, _, _, _, rfl, _⟩ := h
  rfl
theorem bd_Held_inner (T : Top K mg)  : Body P w K mg base q s_Held_inner f ["self"] (0) (sp_Held_inner K) := fun cdv A outer s H vs Q E hr h => by
  have hu := hu_of hr
  obtain ⟨a, dx, fs, ks, rfl, ha, hk, q⟩ := h
  refine ⟨_, (pss_one (ps_ret (pe_tup (pa_cons (pe_fld (pv 0) rfl) pa_nil)))), ?_⟩
  obtain ⟨k1, e1, rfl⟩ := kids1 hk
  exact ⟨_, rfl, a, _, dx, fs, k1, rfl, ha, T.cl_Held, T.na_Held_part, e1, szk 1, q⟩
theorem ok_Held_inner (T : Top K mg) : C8.Met P w K mg base 1 (He.ga K "Held") "inner" (sp_Held_inner K) [] :=
  met_of T 90 d_Held_inner s_Held_inner (He.ga K "Held") "inner" rfl rfl rfl rfl T.cl_Held T.me_Held_inner sc_Held_inner (fun _ _ _ _ _ _ us hl => match us, hl with | [_], _ => rfl) ln_Held_inner (bd_Held_inner T )
def spN (K : PySem.W.Frag) : Sp := fun _ _ _ _ => False
theorem ok_inner (T : Top K mg) : ∀ c : PK, C8.Met P w K mg base 1 (cK K c) "inner" (sp_inner K c) []
  | .given => met_of T 42 d_Given_inner s_Part_inner (He.ga K "Given") "inner" rfl rfl rfl rfl T.cl_Given T.me_Given_inner sc_Part_inner (fun _ _ _ _ _ _ us hl => match us, hl with | [_], _ => rfl) (fun vs H Q E h => by obtain ⟨_, _, _, _, rfl, _⟩ := h; rfl) (fun a b c d e f g h i j => bd_Part_inner (c := .given) T a b c d e f g h i ⟨rfl, j⟩)
  | .named => met_of T 48 d_Named_inner s_Part_inner (He.ga K "Named") "inner" rfl rfl rfl rfl T.cl_Named T.me_Named_inner sc_Part_inner (fun _ _ _ _ _ _ us hl => match us, hl with | [_], _ => rfl) (fun vs H Q E h => by obtain ⟨_, _, _, _, rfl, _⟩ := h; rfl) (fun a b c d e f g h i j => bd_Part_inner (c := .named) T a b c d e f g h i ⟨rfl, j⟩)
  | .turned => ok_Turned_inner T
  | .pair => ok_Pair_inner T
  | .choice => ok_Choice_inner T
  | .before => ok_Before_inner T
  | .led => ok_Led_inner T
  | .when => ok_When_inner T
  | .held => ok_Held_inner T
theorem sc_Part_own_names : FnScope ["self"] ["self"] (defScope s_Part_own_names) := ⟨rfl, rfl, rfl, by decide +kernel, rfl, by decide +kernel, by decide +kernel⟩
def sp_Part_own_names (K : PySem.W.Frag) (c : PK) : Sp := fun vs H Q E => c ≠ .named ∧ c ≠ .when ∧ c ≠ .held ∧ sp_own K c vs H Q E
theorem ln_Part_own_names {K : PySem.W.Frag} {c : PK} : ∀ vs H Q E, (sp_Part_own_names K c) vs H Q E → vs.length = (["self"] : List Str).length := fun vs H Q E h => by
  obtain ⟨_, _, _, _, _, rfl, _⟩ := h
  rfl
theorem bd_Part_own_names (T : Top K mg) (c : PK)  : Body P w K mg base q s_Part_own_names f ["self"] (0) (sp_Part_own_names K c) := fun cdv A outer s H vs Q E hr h => by
  have hu := hu_of hr
  obtain ⟨h1, h2, h3, v, t, rfl, rfl, ht, q⟩ := h
  refine ⟨_, (pss_one (ps_ret (pe_lst pa_nil))), ?_⟩
  have e : t.own = [] := by cases t <;> first | rfl | exact absurd rfl h1 | exact absurd rfl h2 | exact absurd rfl h3
  rw [e] at q
  exact ⟨Nat.zero_le _, q⟩
theorem sc_Named_own_names : FnScope ["self"] ["self"] (defScope s_Named_own_names) := ⟨rfl, rfl, rfl, by decide +kernel, rfl, by decide +kernel, by decide +kernel⟩
def sp_Named_own_names (K : PySem.W.Frag) : Sp := sp_own K .named
theorem ln_Named_own_names {K : PySem.W.Frag} : ∀ vs H Q E, (sp_Named_own_names K) vs H Q E → vs.length = (["self"] : List Str).length := fun vs H Q E h => by
  obtain ⟨_, _, rfl, _⟩ := h
  rfl
theorem bd_Named_own_names (T : Top K mg)  : Body P w K mg base q s_Named_own_names f ["self"] (0) (sp_Named_own_names K) := fun cdv A outer s H vs Q E hr h => by
  have hu := hu_of hr
  obtain ⟨v, t, rfl, hk, ht, q⟩ := h
  refine ⟨_, (pss_one (ps_ret (pe_lst (pa_cons (pe_fld (pv 0) rfl) pa_nil)))), ?_⟩
  obtain ⟨n, rfl⟩ := k_named hk
  obtain ⟨a, dx, rfl, ha⟩ := ht
  exact ⟨_, rfl, a, _, dx, _, .str n, rfl, ha, T.cl_Named, T.na_Named_name, rfl, szk 1, q⟩
theorem ok_Named_own_names (T : Top K mg) : C8.Met P w K mg base 1 (He.ga K "Named") "own_names" (sp_Named_own_names K) [] :=
  met_of T 49 d_Named_own_names s_Named_own_names (He.ga K "Named") "own_names" rfl rfl rfl rfl T.cl_Named T.me_Named_own_names sc_Named_own_names (fun _ _ _ _ _ _ us hl => match us, hl with | [_], _ => rfl) ln_Named_own_names (bd_Named_own_names T )
theorem sc_When_own_names : FnScope ["self"] ["self"] (defScope s_When_own_names) := ⟨rfl, rfl, rfl, by decide +kernel, rfl, by decide +kernel, by decide +kernel⟩
def sp_When_own_names (K : PySem.W.Frag) : Sp := sp_own K .when
theorem ln_When_own_names {K : PySem.W.Frag} : ∀ vs H Q E, (sp_When_own_names K) vs H Q E → vs.length = (["self"] : List Str).length := fun vs H Q E h => by
  obtain ⟨_, _, rfl, _⟩ := h
  rfl
theorem bd_When_own_names (T : Top K mg)  : Body P w K mg base q s_When_own_names f ["self"] (0) (sp_When_own_names K) := fun cdv A outer s H vs Q E hr h => by
  have hu := hu_of hr
  obtain ⟨v, t, rfl, hk, ht, q⟩ := h
  refine ⟨_, (pss_one (ps_ret (pe_lst (pa_cons (pe_fld (pv 0) rfl) pa_nil)))), ?_⟩
  obtain ⟨p, n, rfl⟩ := k_when hk
  obtain ⟨a, dx, k, rfl, ha, _⟩ := ht
  exact ⟨_, rfl, a, _, dx, _, .str n, rfl, ha, T.cl_When, T.na_When_name, rfl, szk 1, q⟩
theorem ok_When_own_names (T : Top K mg) : C8.Met P w K mg base 1 (He.ga K "When") "own_names" (sp_When_own_names K) [] :=
  met_of T 85 d_When_own_names s_When_own_names (He.ga K "When") "own_names" rfl rfl rfl rfl T.cl_When T.me_When_own_names sc_When_own_names (fun _ _ _ _ _ _ us hl => match us, hl with | [_], _ => rfl) ln_When_own_names (bd_When_own_names T )
theorem sc_Held_own_names : FnScope ["self"] ["self"] (defScope s_Held_own_names) := ⟨rfl, rfl, rfl, by decide +kernel, rfl, by decide +kernel, by decide +kernel⟩
def sp_Held_own_names (K : PySem.W.Frag) : Sp := sp_own K .held
theorem ln_Held_own_names {K : PySem.W.Frag} : ∀ vs H Q E, (sp_Held_own_names K) vs H Q E → vs.length = (["self"] : List Str).length := fun vs H Q E h => by
  obtain ⟨_, _, rfl, _⟩ := h
  rfl
theorem bd_Held_own_names (T : Top K mg)  : Body P w K mg base q s_Held_own_names f ["self"] (0) (sp_Held_own_names K) := fun cdv A outer s H vs Q E hr h => by
  have hu := hu_of hr
  obtain ⟨v, t, rfl, hk, ht, q⟩ := h
  refine ⟨_, (pss_one (ps_ret (pe_lst (pa_cons (pe_fld (pv 0) rfl) pa_nil)))), ?_⟩
  obtain ⟨p, n, z, rfl⟩ := k_held hk
  obtain ⟨a, dx, k, rfl, ha, _⟩ := ht
  exact ⟨_, rfl, a, _, dx, _, .str n, rfl, ha, T.cl_Held, T.na_Held_name, rfl, szk 1, q⟩
theorem ok_Held_own_names (T : Top K mg) : C8.Met P w K mg base 1 (He.ga K "Held") "own_names" (sp_Held_own_names K) [] :=
  met_of T 91 d_Held_own_names s_Held_own_names (He.ga K "Held") "own_names" rfl rfl rfl rfl T.cl_Held T.me_Held_own_names sc_Held_own_names (fun _ _ _ _ _ _ us hl => match us, hl with | [_], _ => rfl) ln_Held_own_names (bd_Held_own_names T )
theorem ok_own_names (T : Top K mg) : ∀ c : PK, C8.Met P w K mg base 1 (cK K c) "own_names" (sp_own K c) []
  | .given => met_of T 43 d_Given_own_names s_Part_own_names (He.ga K "Given") "own_names" rfl rfl rfl rfl T.cl_Given T.me_Given_own_names sc_Part_own_names (fun _ _ _ _ _ _ us hl => match us, hl with | [_], _ => rfl) (fun vs H Q E h => by obtain ⟨_, _, rfl, _⟩ := h; rfl) (fun a b c d e f g h i j => bd_Part_own_names (c := .given) T a b c d e f g h i ⟨nofun, nofun, nofun, j⟩)
  | .named => ok_Named_own_names T
  | .turned => met_of T 55 d_Turned_own_names s_Part_own_names (He.ga K "Turned") "own_names" rfl rfl rfl rfl T.cl_Turned T.me_Turned_own_names sc_Part_own_names (fun _ _ _ _ _ _ us hl => match us, hl with | [_], _ => rfl) (fun vs H Q E h => by obtain ⟨_, _, rfl, _⟩ := h; rfl) (fun a b c d e f g h i j => bd_Part_own_names (c := .turned) T a b c d e f g h i ⟨nofun, nofun, nofun, j⟩)
  | .pair => met_of T 61 d_Pair_own_names s_Part_own_names (He.ga K "Pair") "own_names" rfl rfl rfl rfl T.cl_Pair T.me_Pair_own_names sc_Part_own_names (fun _ _ _ _ _ _ us hl => match us, hl with | [_], _ => rfl) (fun vs H Q E h => by obtain ⟨_, _, rfl, _⟩ := h; rfl) (fun a b c d e f g h i j => bd_Part_own_names (c := .pair) T a b c d e f g h i ⟨nofun, nofun, nofun, j⟩)
  | .choice => met_of T 67 d_Choice_own_names s_Part_own_names (He.ga K "Choice") "own_names" rfl rfl rfl rfl T.cl_Choice T.me_Choice_own_names sc_Part_own_names (fun _ _ _ _ _ _ us hl => match us, hl with | [_], _ => rfl) (fun vs H Q E h => by obtain ⟨_, _, rfl, _⟩ := h; rfl) (fun a b c d e f g h i j => bd_Part_own_names (c := .choice) T a b c d e f g h i ⟨nofun, nofun, nofun, j⟩)
  | .before => met_of T 73 d_Before_own_names s_Part_own_names (He.ga K "Before") "own_names" rfl rfl rfl rfl T.cl_Before T.me_Before_own_names sc_Part_own_names (fun _ _ _ _ _ _ us hl => match us, hl with | [_], _ => rfl) (fun vs H Q E h => by obtain ⟨_, _, rfl, _⟩ := h; rfl) (fun a b c d e f g h i j => bd_Part_own_names (c := .before) T a b c d e f g h i ⟨nofun, nofun, nofun, j⟩)
  | .led => met_of T 79 d_Led_own_names s_Part_own_names (He.ga K "Led") "own_names" rfl rfl rfl rfl T.cl_Led T.me_Led_own_names sc_Part_own_names (fun _ _ _ _ _ _ us hl => match us, hl with | [_], _ => rfl) (fun vs H Q E h => by obtain ⟨_, _, rfl, _⟩ := h; rfl) (fun a b c d e f g h i j => bd_Part_own_names (c := .led) T a b c d e f g h i ⟨nofun, nofun, nofun, j⟩)
  | .when => ok_When_own_names T
  | .held => ok_Held_own_names T
end

section
variable {P : Program} {w : World} {K : PySem.W.Frag} {mg : Str → Option Value} {base : Heap} {q : Str} {f : Addr}
theorem sc_Part_measured : FnScope ["self", "part"] ["self"] (defScope s_Part_measured) := ⟨rfl, rfl, rfl, by decide +kernel, rfl, by decide +kernel, by decide +kernel⟩
def sp_Part_measured (K : PySem.W.Frag) (c : PK) : Sp := fun vs H Q E => sp_measured K c vs H Q E
theorem ln_Part_measured {K : PySem.W.Frag} {c : PK} : ∀ vs H Q E, (sp_Part_measured K c) vs H Q E → vs.length = (["self"] : List Str).length := fun vs H Q E h => by
  obtain ⟨_, _, _, _, _, _, rfl, _⟩ := h
  rfl
theorem bd_Part_measured (T : Top K mg) (c : PK) (me_inner : ∀ c : PK, C8.Met P w K mg base 1 (cK K c) "inner" (sp_inner K c) []) : Body P w K mg base q s_Part_measured f ["self", "part"] (1) (sp_Part_measured K c) := fun cdv A outer s H vs Q E hr h => by
  have hu := hu_of hr
  obtain ⟨a, dx, fs, ks, ts, Hb, rfl, ha, hk, n1, n2, n3, hfs, hts, h3, hsz, hdp, hb, he, q⟩ := h
  refine ⟨_, (pss_cons (ps_fld (pv 0) (pe_op op_add pe_int (pe_callB (cr_sum rfl) (by rfl) T.n_sum (by decide +kernel) (pa_cons (pe_lc (own := [("part", 1)]) rfl sc_Part_measured.nd (pi_tup (pe_poly fun c => C8.pe_mt0 (me_inner c) hr (by omega) (pv 0))) (blkOk_by (own := [("part", 1)]) (N := ["self", "part"]) (sc := defScope s_Part_measured) (by decide +kernel)) (fun _ _ _ _ _ => (pg_name (i := 1) sc_Part_measured.nd rfl (by first | exact Or.inl rfl | exact Or.inr rfl))) (fun _ _ _ _ _ => pts_nil) (fun _ _ _ _ _ => (pe_fldB (K := K) (pv 1) rfl))) pa_nil))) rfl)
        (pss_cons (ps_fld (pv 0) (pe_op op_add pe_int (pe_callB (cr_max rfl) (by rfl) T.n_max (by decide +kernel) (pa_cons (pe_op op_cat (pe_lst (pa_cons pe_int pa_nil)) (pe_lc (own := [("part", 1)]) rfl sc_Part_measured.nd (pi_tup (pe_poly fun c => C8.pe_mt0 (me_inner c) hr (by omega) (pv 0))) (blkOk_by (own := [("part", 1)]) (N := ["self", "part"]) (sc := defScope s_Part_measured) (by decide +kernel)) (fun _ _ _ _ _ => (pg_name (i := 1) sc_Part_measured.nd rfl (by first | exact Or.inl rfl | exact Or.inr rfl))) (fun _ _ _ _ _ => pts_nil) (fun _ _ _ _ _ => (pe_fldB (K := K) (pv 1) rfl)))) pa_nil))) rfl)
        (pss_one (ps_if (PW.pt (pw_or (pt_cmpR op_gt (pe_fld (pv 0) rfl) (C8.pe_gc rfl T.i_DEEPEST) (nomark _)) (pw_or1 (pt_cmpR op_gt (pe_fld (pv 0) rfl) (C8.pe_gc rfl T.i_LARGEST) (nomark _))))) pss_never pss_nil)))), ?_⟩
  have hkl := hts.length
  have hkz : ks.length ≤ sizeLine := by show _ ≤ 2 ^ 24; omega
  
  refine ⟨c, _, rfl, a, dx, _, rfl, ha, n1, a, dx, _, ks, rfl, ha, hk, fun p hp => ⟨p, rfl, ⟨ks, .of upd_same⟩, lcT (xs := ks) (fun i acc _ => acc = (ts.take i).map fun t => V.int ((t.sz : Nat) : Int)) (fun _ h => h) (.of upd_same) hkz rfl (fun i x hx acc H1 N S e p hN hS => ?_) fun D ys H1 hD e hl hn p => ?_⟩⟩
  · obtain ⟨t, ht, hP⟩ := paired_get hts hx
    obtain ⟨a', dx', fs', rfl, g1, g2, g3, _⟩ := (he.trans ((Ext.new hp _).trans e)).fr.part hP |>.head
    refine ⟨rfl, ?_⟩
    refine ⟨_, rfl, a', _, dx', fs', _, rfl, g1, T.clP _, T.naL _, g2, hN _ _ (Ext.refl K _) ?_⟩
    show _ ++ _ = _
    rw [show acc = _ from p, List.take_add_one, ht, List.map_append]
    rfl
  
  have p : ys = ts.map fun t => V.int ((t.sz : Nat) : Int) := by rw [show ys = _ from p, hkl, List.take_length]
  have e1 : Ext K H H1 := (Ext.new hp _).trans e
  have n4 : ("inner" : Str) ≠ "large" := by decide
  refine ⟨D, ts.map fun t => ((t.sz : Nat) : Int), rfl, .of ?_, ?_⟩
  · rw [hl, p, List.map_map]
    rfl
  have hsum : (ts.map fun t => ((t.sz : Nat) : Int)).sum = (((ts.map Tl.sz).sum : Nat) : Int) := by
    rw [← sum_cast, List.map_map]
    rfl
  refine ⟨1, _, rfl, rfl, _, rfl, a, _, dx, fs, rfl, e1.at ha, T.clP c, T.naL c, by omega, ?_⟩
  have hv : (1 : Int) + (ts.map fun t => ((t.sz : Nat) : Int)).sum = (((1 + (ts.map Tl.sz).sum : Nat)) : Int) := by rw [hsum]; omega
  dsimp only
  rw [hv]
  generalize hH2 : upd H1 a _ = H2
  have ha2 : H2 a = some (.ins (cK K c) dx (putF "large" (.int ((1 + (ts.map Tl.sz).sum : Nat) : Int)) fs)) := by rw [← hH2]; exact upd_same
  have he2 : Ext K Hb H2 := by rw [← hH2]; exact (he.trans e1).put hb (e1.at ha) trivial _
  have hk2 : Kids c (putF "large" (.int ((1 + (ts.map Tl.sz).sum : Nat) : Int)) fs) ks := hk.put (large_nk c) _
  have hn2 : (putF "large" (.int ((1 + (ts.map Tl.sz).sum : Nat) : Int)) fs).lookup ("inner" : Str) = none := by rw [lookup_putF, if_neg n4]; exact n1
  refine ⟨szk 1, fun l hl0 => ?_⟩
  have ha3 := (Ext.new (K := K) hl0 (.lst [.int 0])).at ha2
  have he3 := he2.trans (Ext.new hl0 (.lst [.int 0]))
  
  refine ⟨c, _, rfl, a, dx, _, rfl, ha3, hn2, a, dx, _, ks, rfl, ha3, hk2, fun p hp => ⟨p, rfl, ⟨ks, .of upd_same⟩, lcT (xs := ks) (fun i acc _ => acc = (ts.take i).map fun t => V.int ((t.dep : Nat) : Int)) (fun _ h => h) (.of upd_same) hkz rfl (fun i x hx acc H1 N S e p hN hS => ?_) fun D ys H1 hD e hl hn p => ?_⟩⟩
  · obtain ⟨t, ht, hP⟩ := paired_get hts hx
    obtain ⟨a', dx', fs', rfl, g1, g2, g3, _⟩ := (he3.trans ((Ext.new hp _).trans e)).fr.part hP |>.head
    refine ⟨rfl, ?_⟩
    refine ⟨_, rfl, a', _, dx', fs', _, rfl, g1, T.clP _, T.naD _, g3, hN _ _ (Ext.refl K _) ?_⟩
    show _ ++ _ = _
    rw [show acc = _ from p, List.take_add_one, ht, List.map_append]
    rfl
  
  have p : ys = ts.map fun t => V.int ((t.dep : Nat) : Int) := by rw [show ys = _ from p, hkl, List.take_length]
  have hl1 : H1 l = some (.lst [.int 0]) := ((Ext.new hp _).trans e).at upd_same
  have e5 : Ext K H2 H1 := (Ext.new hl0 _).trans ((Ext.new hp _).trans e)
  refine ⟨l, D, [.int 0], ys, rfl, rfl, hl1, hl, by rw [p, List.length_map]; show 1 + _ ≤ 2 ^ 24; omega, fun z hz => ?_⟩
  refine ⟨z, (0 :: ts.map Tl.dep).map (fun n : Nat => (n : Int)), rfl, .of ?_, by simp, fun m hm hall => ?_⟩
  · rw [upd_same, p, List.map_map, List.map_cons, List.map_map]
    rfl
  have hmx : m = ((mxN (ts.map Tl.dep) : Nat) : Int) := by
    obtain ⟨k, hk, rfl⟩ := List.mem_map.mp hm
    have h1 := hall _ (List.mem_map_of_mem (mxN_mem (ts.map Tl.dep)))
    rcases List.mem_cons.mp hk with h | h
    · rw [h] at h1 ⊢
      omega
    · have h2 := mxN_le h
      omega
  subst hmx
  have e6 : Ext K H2 (upd H1 z (.lst ([.int 0] ++ ys))) := e5.trans (Ext.new hz _)
  refine ⟨1, _, rfl, rfl, _, rfl, a, _, dx, _, rfl, e6.at ha2, T.clP c, T.naD c, ?_, ?_⟩
  · have := putF_len "large" (.int ((1 + (ts.map Tl.sz).sum : Nat) : Int)) fs
    omega
  have hv : (1 : Int) + ((mxN (ts.map Tl.dep) : Nat) : Int) = ((1 + mxN (ts.map Tl.dep) : Nat) : Int) := by omega
  dsimp only
  rw [hv]
  have he7 := (he2.trans e6).put hb (e6.at ha2) trivial (.ins (cK K c) dx (putF "deep" (.int ((1 + mxN (ts.map Tl.dep) : Nat) : Int)) (putF "large" (.int ((1 + (ts.map Tl.sz).sum : Nat) : Int)) fs)))
  have hm9 : mxN (ts.map Tl.dep) ≤ 9 := by
    rcases List.mem_cons.mp (mxN_mem (ts.map Tl.dep)) with h | h
    · omega
    · obtain ⟨t, ht, h⟩ := List.mem_map.mp h
      have := hdp t ht
      omega
  have n5 : ("large" : Str) ≠ "deep" := by decide
  refine ⟨_, rfl, a, _, dx, _, .int ((1 + mxN (ts.map Tl.dep) : Nat) : Int), rfl, upd_same, T.clP c, T.naD c, by rw [lookup_putF, if_pos rfl], _, _, rfl, rfl, false, congrArg V.bl (df (by omega)), ite_f rfl ?_⟩
  refine ⟨_, rfl, a, _, dx, _, .int ((1 + (ts.map Tl.sz).sum : Nat) : Int), rfl, upd_same, T.clP c, T.naL c, by rw [lookup_putF, if_neg n5, lookup_putF, if_pos rfl], _, _, rfl, rfl, false, congrArg V.bl (df (by omega)), ite_f rfl (q _ he7 upd_same)⟩
theorem ok_measured (T : Top K mg) : ∀ c : PK, C8.Met P w K mg base 2 (cK K c) "measured" (sp_measured K c) []
  | .given => met_of T 41 d_Given_measured s_Part_measured (He.ga K "Given") "measured" rfl rfl rfl rfl T.cl_Given T.me_Given_measured sc_Part_measured (fun _ _ _ _ _ _ us hl => match us, hl with | [_], _ => rfl) (ln_Part_measured (c := .given)) (bd_Part_measured T .given (ok_inner T))
  | .named => met_of T 47 d_Named_measured s_Part_measured (He.ga K "Named") "measured" rfl rfl rfl rfl T.cl_Named T.me_Named_measured sc_Part_measured (fun _ _ _ _ _ _ us hl => match us, hl with | [_], _ => rfl) (ln_Part_measured (c := .named)) (bd_Part_measured T .named (ok_inner T))
  | .turned => met_of T 53 d_Turned_measured s_Part_measured (He.ga K "Turned") "measured" rfl rfl rfl rfl T.cl_Turned T.me_Turned_measured sc_Part_measured (fun _ _ _ _ _ _ us hl => match us, hl with | [_], _ => rfl) (ln_Part_measured (c := .turned)) (bd_Part_measured T .turned (ok_inner T))
  | .pair => met_of T 59 d_Pair_measured s_Part_measured (He.ga K "Pair") "measured" rfl rfl rfl rfl T.cl_Pair T.me_Pair_measured sc_Part_measured (fun _ _ _ _ _ _ us hl => match us, hl with | [_], _ => rfl) (ln_Part_measured (c := .pair)) (bd_Part_measured T .pair (ok_inner T))
  | .choice => met_of T 65 d_Choice_measured s_Part_measured (He.ga K "Choice") "measured" rfl rfl rfl rfl T.cl_Choice T.me_Choice_measured sc_Part_measured (fun _ _ _ _ _ _ us hl => match us, hl with | [_], _ => rfl) (ln_Part_measured (c := .choice)) (bd_Part_measured T .choice (ok_inner T))
  | .before => met_of T 71 d_Before_measured s_Part_measured (He.ga K "Before") "measured" rfl rfl rfl rfl T.cl_Before T.me_Before_measured sc_Part_measured (fun _ _ _ _ _ _ us hl => match us, hl with | [_], _ => rfl) (ln_Part_measured (c := .before)) (bd_Part_measured T .before (ok_inner T))
  | .led => met_of T 77 d_Led_measured s_Part_measured (He.ga K "Led") "measured" rfl rfl rfl rfl T.cl_Led T.me_Led_measured sc_Part_measured (fun _ _ _ _ _ _ us hl => match us, hl with | [_], _ => rfl) (ln_Part_measured (c := .led)) (bd_Part_measured T .led (ok_inner T))
  | .when => met_of T 83 d_When_measured s_Part_measured (He.ga K "When") "measured" rfl rfl rfl rfl T.cl_When T.me_When_measured sc_Part_measured (fun _ _ _ _ _ _ us hl => match us, hl with | [_], _ => rfl) (ln_Part_measured (c := .when)) (bd_Part_measured T .when (ok_inner T))
  | .held => met_of T 89 d_Held_measured s_Part_measured (He.ga K "Held") "measured" rfl rfl rfl rfl T.cl_Held T.me_Held_measured sc_Part_measured (fun _ _ _ _ _ _ us hl => match us, hl with | [_], _ => rfl) (ln_Part_measured (c := .held)) (bd_Part_measured T .held (ok_inner T))
end

section
variable {P : Program} {w : World} {K : PySem.W.Frag} {mg : Str → Option Value} {base : Heap} {q : Str} {f : Addr}
theorem sc_Given_init : FnScope ["self", "value"] ["self", "value"] (defScope s_Given_init) := ⟨rfl, rfl, rfl, by decide +kernel, rfl, by decide +kernel, by decide +kernel⟩
def sp_Given_init (K : PySem.W.Frag) : Sp := fun vs H Q _ => ∃ (a : Addr) (x : Val0), vs = [.ref a, x.v] ∧ x.ok ∧ ∃ (dx : Addr) (Hb : Hp), H a = some (.ins (cK K .given) dx []) ∧ (Tl.given x).dep ≤ 10 ∧ (Tl.given x).sz ≤ 40 ∧ Hb a = none ∧ Ext K Hb H ∧ (True) ∧ ∀ H', Ext K Hb H' → PartAt K H' (.ref a) (.given x) → Q .non H'
theorem ln_Given_init {K : PySem.W.Frag} : ∀ vs H Q E, (sp_Given_init K) vs H Q E → vs.length = (["self", "value"] : List Str).length := fun vs H Q E h => by
  obtain ⟨_, _, rfl, _⟩ := h
  rfl
theorem bd_Given_init (T : Top K mg) (c_is_value : C8.Cal P w K mg base 2 "is_value" (sp_is_value K) []) (me_measured : ∀ c : PK, C8.Met P w K mg base 2 (cK K c) "measured" (sp_measured K c) []) : Body P w K mg base q s_Given_init f ["self", "value"] (2) (sp_Given_init K) := fun cdv A outer s H vs Q E hr h => by
  have hu := hu_of hr
  obtain ⟨a, x, rfl, hx, dx, Hb, ha, hdep, hsz, hb, he, _, q⟩ := h
  refine ⟨_, (pss_cons (ps_if (pt_not (pt_val (C8.pe_c c_is_value hr (by omega) rfl (pa_cons (pv 1) pa_nil)))) pss_never pss_nil)
        (pss_cons (ps_fld (pv 0) (pv 1) rfl)
        (pss_one (ps_expr (C8.pe_mt0 (me_measured .given) hr (by omega) (pv 0)))))), ?_⟩
  refine ⟨_, rfl, x, rfl, hx, true, rfl, ite_f rfl ?_⟩
  have ha0 := ha
  have he0 := he
  refine ⟨_, rfl, _, rfl, a, _, dx, _, rfl, ha0, T.cl_Given, T.na_Given_value, by decide, ?_⟩
  generalize hG0 : upd _ a _ = G0
  have ha1 : G0 a = some (.ins (cK K .given) dx [("value", x.v)]) := by rw [← hG0]; exact upd_same
  have he1 : Ext K Hb G0 := by rw [← hG0]; exact he0.put hb ha0 trivial _
  have hs := meas_sz (Tl.given x)
  have hd := meas_dep (Tl.given x)
  refine ⟨_, rfl, a, dx, _, rfl, ha1, rfl, a, dx, _, [], Tl.kids (.given x), Hb, rfl, ha1, rfl, rfl, rfl, rfl, (by show (1 : Nat) < 10; decide), .nil, kid_len _, by omega, fun t ht => by have := kid_dep _ ht; omega, hb, he1, fun H' e' ha' => ?_⟩
  rw [hs, hd] at ha'
  exact q H' e' ⟨a, dx, rfl, ha'⟩
theorem ok_Given_init (T : Top K mg) : C8.Mak P w K mg base 3 "Given" (He.ga K "Given") (sp_Given_init K) [] :=
  mak_of T 40 d_Given_init s_Given_init "Given" rfl rfl T.g_Given T.mk_Given sc_Given_init (.inl ⟨rfl, rfl, (fun _ _ _ _ _ _ us hl => match us, hl with | [_, _], _ => rfl)⟩) ln_Given_init (bd_Given_init T (ok_is_value T) (ok_measured T))
theorem sc_Named_init : FnScope ["self", "name"] ["self", "name"] (defScope s_Named_init) := ⟨rfl, rfl, rfl, by decide +kernel, rfl, by decide +kernel, by decide +kernel⟩
def sp_Named_init (K : PySem.W.Frag) : Sp := fun vs H Q _ => ∃ (a : Addr) (n : Str), vs = [.ref a, .str n] ∧ Nm n ∧ ∃ (dx : Addr) (Hb : Hp), H a = some (.ins (cK K .named) dx []) ∧ (Tl.named n).dep ≤ 10 ∧ (Tl.named n).sz ≤ 40 ∧ Hb a = none ∧ Ext K Hb H ∧ (True) ∧ ∀ H', Ext K Hb H' → PartAt K H' (.ref a) (.named n) → Q .non H'
theorem ln_Named_init {K : PySem.W.Frag} : ∀ vs H Q E, (sp_Named_init K) vs H Q E → vs.length = (["self", "name"] : List Str).length := fun vs H Q E h => by
  obtain ⟨_, _, rfl, _⟩ := h
  rfl
theorem bd_Named_init (T : Top K mg) (c_is_name : C8.Cal P w K mg base 3 "is_name" (sp_is_name K) []) (me_measured : ∀ c : PK, C8.Met P w K mg base 2 (cK K c) "measured" (sp_measured K c) []) : Body P w K mg base q s_Named_init f ["self", "name"] (3) (sp_Named_init K) := fun cdv A outer s H vs Q E hr h => by
  have hu := hu_of hr
  obtain ⟨a, n, rfl, hn, dx, Hb, ha, hdep, hsz, hb, he, _, q⟩ := h
  refine ⟨_, (pss_cons (ps_if (pt_not (pt_val (C8.pe_c c_is_name hr (by omega) rfl (pa_cons (pv 1) pa_nil)))) pss_never pss_nil)
        (pss_cons (ps_fld (pv 0) (pv 1) rfl)
        (pss_one (ps_expr (C8.pe_mt0 (me_measured .named) hr (by omega) (pv 0)))))), ?_⟩
  refine ⟨_, rfl, n, rfl, hn, fun H1 e1 => ⟨true, rfl, ite_f rfl ?_⟩⟩
  have ha0 := e1.at ha
  have he0 := he.trans e1
  refine ⟨_, rfl, _, rfl, a, _, dx, _, rfl, ha0, T.cl_Named, T.na_Named_name, by decide, ?_⟩
  generalize hG0 : upd _ a _ = G0
  have ha1 : G0 a = some (.ins (cK K .named) dx [("name", .str n)]) := by rw [← hG0]; exact upd_same
  have he1 : Ext K Hb G0 := by rw [← hG0]; exact he0.put hb ha0 trivial _
  have hs := meas_sz (Tl.named n)
  have hd := meas_dep (Tl.named n)
  refine ⟨_, rfl, a, dx, _, rfl, ha1, rfl, a, dx, _, [], Tl.kids (.named n), Hb, rfl, ha1, rfl, rfl, rfl, rfl, (by show (1 : Nat) < 10; decide), .nil, kid_len _, by omega, fun t ht => by have := kid_dep _ ht; omega, hb, he1, fun H' e' ha' => ?_⟩
  rw [hs, hd] at ha'
  exact q H' e' ⟨a, dx, rfl, ha'⟩
theorem ok_Named_init (T : Top K mg) : C8.Mak P w K mg base 4 "Named" (He.ga K "Named") (sp_Named_init K) [] :=
  mak_of T 46 d_Named_init s_Named_init "Named" rfl rfl T.g_Named T.mk_Named sc_Named_init (.inl ⟨rfl, rfl, (fun _ _ _ _ _ _ us hl => match us, hl with | [_, _], _ => rfl)⟩) ln_Named_init (bd_Named_init T (ok_is_name T) (ok_measured T))
theorem sc_Turned_init : FnScope ["self", "part"] ["self", "part"] (defScope s_Turned_init) := ⟨rfl, rfl, rfl, by decide +kernel, rfl, by decide +kernel, by decide +kernel⟩
def sp_Turned_init (K : PySem.W.Frag) : Sp := fun vs H Q _ => ∃ (a : Addr) (p : Tl) (k1 : V), vs = [.ref a, k1] ∧ True ∧ ∃ (dx : Addr) (Hb : Hp), H a = some (.ins (cK K .turned) dx []) ∧ (Tl.turned p).dep ≤ 10 ∧ (Tl.turned p).sz ≤ 40 ∧ Hb a = none ∧ Ext K Hb H ∧ (PartAt K Hb k1 p) ∧ ∀ H', Ext K Hb H' → PartAt K H' (.ref a) (.turned p) → Q .non H'
theorem ln_Turned_init {K : PySem.W.Frag} : ∀ vs H Q E, (sp_Turned_init K) vs H Q E → vs.length = (["self", "part"] : List Str).length := fun vs H Q E h => by
  obtain ⟨_, _, _, rfl, _⟩ := h
  rfl
theorem bd_Turned_init (T : Top K mg) (me_measured : ∀ c : PK, C8.Met P w K mg base 2 (cK K c) "measured" (sp_measured K c) []) : Body P w K mg base q s_Turned_init f ["self", "part"] (2) (sp_Turned_init K) := fun cdv A outer s H vs Q E hr h => by
  have hu := hu_of hr
  obtain ⟨a, p, k1, rfl, _, dx, Hb, ha, hdep, hsz, hb, he, h1, q⟩ := h
  refine ⟨_, (pss_cons (ps_fld (pv 0) (pv 1) rfl)
        (pss_one (ps_expr (C8.pe_mt0 (me_measured .turned) hr (by omega) (pv 0))))), ?_⟩
  have ha0 := ha
  have he0 := he
  refine ⟨_, rfl, _, rfl, a, _, dx, _, rfl, ha0, T.cl_Turned, T.na_Turned_part, by decide, ?_⟩
  generalize hG0 : upd _ a _ = G0
  have ha1 : G0 a = some (.ins (cK K .turned) dx [("part", k1)]) := by rw [← hG0]; exact upd_same
  have he1 : Ext K Hb G0 := by rw [← hG0]; exact he0.put hb ha0 trivial _
  have hs := meas_sz (Tl.turned p)
  have hd := meas_dep (Tl.turned p)
  refine ⟨_, rfl, a, dx, _, rfl, ha1, rfl, a, dx, _, [k1], Tl.kids (.turned p), Hb, rfl, ha1, rfl, rfl, rfl, rfl, (by show (1 : Nat) < 10; decide), .cons h1 (.nil), kid_len _, by omega, fun t ht => by have := kid_dep _ ht; omega, hb, he1, fun H' e' ha' => ?_⟩
  rw [hs, hd] at ha'
  exact q H' e' ⟨a, dx, k1, rfl, ha', e'.fr.part h1⟩
theorem ok_Turned_init (T : Top K mg) : C8.Mak P w K mg base 3 "Turned" (He.ga K "Turned") (sp_Turned_init K) [] :=
  mak_of T 52 d_Turned_init s_Turned_init "Turned" rfl rfl T.g_Turned T.mk_Turned sc_Turned_init (.inl ⟨rfl, rfl, (fun _ _ _ _ _ _ us hl => match us, hl with | [_, _], _ => rfl)⟩) ln_Turned_init (bd_Turned_init T (ok_measured T))
theorem sc_Pair_init : FnScope ["self", "sign", "one", "other"] ["self", "sign", "one", "other"] (defScope s_Pair_init) := ⟨rfl, rfl, rfl, by decide +kernel, rfl, by decide +kernel, by decide +kernel⟩
def sp_Pair_init (K : PySem.W.Frag) : Sp := fun vs H Q _ => ∃ (a : Addr) (g : Str) (p r : Tl) (k1 k2 : V), vs = [.ref a, .str g, k1, k2] ∧ g ∈ signsL ∧ ∃ (dx : Addr) (Hb : Hp), H a = some (.ins (cK K .pair) dx []) ∧ (Tl.pair g p r).dep ≤ 10 ∧ (Tl.pair g p r).sz ≤ 40 ∧ Hb a = none ∧ Ext K Hb H ∧ (PartAt K Hb k1 p ∧ PartAt K Hb k2 r) ∧ ∀ H', Ext K Hb H' → PartAt K H' (.ref a) (.pair g p r) → Q .non H'
theorem ln_Pair_init {K : PySem.W.Frag} : ∀ vs H Q E, (sp_Pair_init K) vs H Q E → vs.length = (["self", "sign", "one", "other"] : List Str).length := fun vs H Q E h => by
  obtain ⟨_, _, _, _, _, _, rfl, _⟩ := h
  rfl
theorem bd_Pair_init (T : Top K mg) (me_measured : ∀ c : PK, C8.Met P w K mg base 2 (cK K c) "measured" (sp_measured K c) []) : Body P w K mg base q s_Pair_init f ["self", "sign", "one", "other"] (2) (sp_Pair_init K) := fun cdv A outer s H vs Q E hr h => by
  have hu := hu_of hr
  obtain ⟨a, g, p, r, k1, k2, rfl, hg, dx, Hb, ha, hdep, hsz, hb, he, ⟨h1, h2⟩, q⟩ := h
  refine ⟨_, (pss_cons (ps_if (pt_cmpR op_notIn_seq (pv 1) (pe_op op_catA (pe_op op_catA (pe_op op_catA (C8.pe_gc rfl T.g_NUMBERS) (C8.pe_gc rfl T.g_BETWEEN)) (C8.pe_gc rfl T.g_TRUTHS)) (pe_tup (pa_cons pe_str pa_nil))) (by rfl)) pss_never pss_nil)
        (pss_cons (ps_fld (pv 0) (pv 1) rfl)
        (pss_cons (ps_fld (pv 0) (pv 2) rfl)
        (pss_cons (ps_fld (pv 0) (pv 3) rfl)
        (pss_one (ps_expr (C8.pe_mt0 (me_measured .pair) hr (by omega) (pv 0)))))))), ?_⟩
  refine ⟨_, rfl, _, _, _, _, rfl, rfl, T.t_NUMBERS H, T.t_BETWEEN H, szk 5, (fun z => absurd z (by simp [tup_NUMBERS])), (fun _ z => absurd z (by simp [tup_BETWEEN])), fun _ _ p1 hp1 => ?_⟩
  refine ⟨p1, _, _, _, rfl, rfl, .of upd_same, T.t_TRUTHS _, szk 7, (fun z => absurd z (by simp [tup_NUMBERS])), (fun _ z => absurd z (by simp [tup_TRUTHS])), fun _ _ p2 hp2 => ?_⟩
  refine ⟨szk 1, fun p3 hp3 => ?_⟩
  refine ⟨p2, p3, _, _, rfl, rfl, .of ((Ext.new (K := K) hp3 _).at upd_same), .of upd_same, szk 8, (fun z => absurd z (by simp [tup_NUMBERS])), (fun _ z => absurd z (by simp)), fun _ _ p4 hp4 => ?_⟩
  refine ⟨p4, signsL.map V.str, rfl, .inr (.of ?_), rfl, flat_strs _, ?_⟩
  · exact upd_same
  rw [if_pos rfl, inV_str, dt hg]
  refine ⟨_, rfl, ite_f rfl ?_⟩
  generalize hH1 : upd (upd _ p3 _) p4 _ = H1
  have e1 : Ext K H H1 := by rw [← hH1]; exact (((Ext.new hp1 _).trans (Ext.new hp2 _)).trans (Ext.new hp3 _)).trans (Ext.new hp4 _)
  have ha0 := e1.at ha
  have he0 := he.trans e1
  refine ⟨_, rfl, _, rfl, a, _, dx, _, rfl, ha0, T.cl_Pair, T.na_Pair_sign, by decide, ?_⟩
  generalize hG0 : upd _ a _ = G0
  have ha1 : G0 a = some (.ins (cK K .pair) dx [("sign", .str g)]) := by rw [← hG0]; exact upd_same
  have he1 : Ext K Hb G0 := by rw [← hG0]; exact he0.put hb ha0 trivial _
  refine ⟨_, rfl, _, rfl, a, _, dx, _, rfl, ha1, T.cl_Pair, T.na_Pair_one, by show (1 : Nat) < 1000; decide, ?_⟩
  generalize hG1 : upd _ a _ = G1
  have ha2 : G1 a = some (.ins (cK K .pair) dx [("sign", .str g), ("one", k1)]) := by rw [← hG1]; exact upd_same
  have he2 : Ext K Hb G1 := by rw [← hG1]; exact he1.put hb ha1 trivial _
  refine ⟨_, rfl, _, rfl, a, _, dx, _, rfl, ha2, T.cl_Pair, T.na_Pair_other, by show (2 : Nat) < 1000; decide, ?_⟩
  generalize hG2 : upd _ a _ = G2
  have ha3 : G2 a = some (.ins (cK K .pair) dx [("sign", .str g), ("one", k1), ("other", k2)]) := by rw [← hG2]; exact upd_same
  have he3 : Ext K Hb G2 := by rw [← hG2]; exact he2.put hb ha2 trivial _
  have hs := meas_sz (Tl.pair g p r)
  have hd := meas_dep (Tl.pair g p r)
  refine ⟨_, rfl, a, dx, _, rfl, ha3, rfl, a, dx, _, [k1, k2], Tl.kids (.pair g p r), Hb, rfl, ha3, rfl, rfl, rfl, rfl, (by show (3 : Nat) < 10; decide), .cons h1 (.cons h2 (.nil)), kid_len _, by omega, fun t ht => by have := kid_dep _ ht; omega, hb, he3, fun H' e' ha' => ?_⟩
  rw [hs, hd] at ha'
  exact q H' e' ⟨a, dx, k1, k2, rfl, ha', e'.fr.part h1, e'.fr.part h2⟩
theorem ok_Pair_init (T : Top K mg) : C8.Mak P w K mg base 3 "Pair" (He.ga K "Pair") (sp_Pair_init K) [] :=
  mak_of T 58 d_Pair_init s_Pair_init "Pair" rfl rfl T.g_Pair T.mk_Pair sc_Pair_init (.inl ⟨rfl, rfl, (fun _ _ _ _ _ _ us hl => match us, hl with | [_, _, _, _], _ => rfl)⟩) ln_Pair_init (bd_Pair_init T (ok_measured T))
theorem sc_Choice_init : FnScope ["self", "truth", "one", "other"] ["self", "truth", "one", "other"] (defScope s_Choice_init) := ⟨rfl, rfl, rfl, by decide +kernel, rfl, by decide +kernel, by decide +kernel⟩
def sp_Choice_init (K : PySem.W.Frag) : Sp := fun vs H Q _ => ∃ (a : Addr) (o p r : Tl) (k1 k2 k3 : V), vs = [.ref a, k1, k2, k3] ∧ True ∧ ∃ (dx : Addr) (Hb : Hp), H a = some (.ins (cK K .choice) dx []) ∧ (Tl.choice o p r).dep ≤ 10 ∧ (Tl.choice o p r).sz ≤ 40 ∧ Hb a = none ∧ Ext K Hb H ∧ (PartAt K Hb k1 o ∧ PartAt K Hb k2 p ∧ PartAt K Hb k3 r) ∧ ∀ H', Ext K Hb H' → PartAt K H' (.ref a) (.choice o p r) → Q .non H'
theorem ln_Choice_init {K : PySem.W.Frag} : ∀ vs H Q E, (sp_Choice_init K) vs H Q E → vs.length = (["self", "truth", "one", "other"] : List Str).length := fun vs H Q E h => by
  obtain ⟨_, _, _, _, _, _, _, rfl, _⟩ := h
  rfl
theorem bd_Choice_init (T : Top K mg) (me_measured : ∀ c : PK, C8.Met P w K mg base 2 (cK K c) "measured" (sp_measured K c) []) : Body P w K mg base q s_Choice_init f ["self", "truth", "one", "other"] (2) (sp_Choice_init K) := fun cdv A outer s H vs Q E hr h => by
  have hu := hu_of hr
  obtain ⟨a, o, p, r, k1, k2, k3, rfl, _, dx, Hb, ha, hdep, hsz, hb, he, ⟨h1, h2, h3⟩, q⟩ := h
  refine ⟨_, (pss_cons (ps_fld (pv 0) (pv 1) rfl)
        (pss_cons (ps_fld (pv 0) (pv 2) rfl)
        (pss_cons (ps_fld (pv 0) (pv 3) rfl)
        (pss_one (ps_expr (C8.pe_mt0 (me_measured .choice) hr (by omega) (pv 0))))))), ?_⟩
  have ha0 := ha
  have he0 := he
  refine ⟨_, rfl, _, rfl, a, _, dx, _, rfl, ha0, T.cl_Choice, T.na_Choice_truth, by decide, ?_⟩
  generalize hG0 : upd _ a _ = G0
  have ha1 : G0 a = some (.ins (cK K .choice) dx [("truth", k1)]) := by rw [← hG0]; exact upd_same
  have he1 : Ext K Hb G0 := by rw [← hG0]; exact he0.put hb ha0 trivial _
  refine ⟨_, rfl, _, rfl, a, _, dx, _, rfl, ha1, T.cl_Choice, T.na_Choice_one, by show (1 : Nat) < 1000; decide, ?_⟩
  generalize hG1 : upd _ a _ = G1
  have ha2 : G1 a = some (.ins (cK K .choice) dx [("truth", k1), ("one", k2)]) := by rw [← hG1]; exact upd_same
  have he2 : Ext K Hb G1 := by rw [← hG1]; exact he1.put hb ha1 trivial _
  refine ⟨_, rfl, _, rfl, a, _, dx, _, rfl, ha2, T.cl_Choice, T.na_Choice_other, by show (2 : Nat) < 1000; decide, ?_⟩
  generalize hG2 : upd _ a _ = G2
  have ha3 : G2 a = some (.ins (cK K .choice) dx [("truth", k1), ("one", k2), ("other", k3)]) := by rw [← hG2]; exact upd_same
  have he3 : Ext K Hb G2 := by rw [← hG2]; exact he2.put hb ha2 trivial _
  have hs := meas_sz (Tl.choice o p r)
  have hd := meas_dep (Tl.choice o p r)
  refine ⟨_, rfl, a, dx, _, rfl, ha3, rfl, a, dx, _, [k1, k2, k3], Tl.kids (.choice o p r), Hb, rfl, ha3, rfl, rfl, rfl, rfl, (by show (3 : Nat) < 10; decide), .cons h1 (.cons h2 (.cons h3 (.nil))), kid_len _, by omega, fun t ht => by have := kid_dep _ ht; omega, hb, he3, fun H' e' ha' => ?_⟩
  rw [hs, hd] at ha'
  exact q H' e' ⟨a, dx, k1, k2, k3, rfl, ha', e'.fr.part h1, e'.fr.part h2, e'.fr.part h3⟩
theorem ok_Choice_init (T : Top K mg) : C8.Mak P w K mg base 3 "Choice" (He.ga K "Choice") (sp_Choice_init K) [] :=
  mak_of T 64 d_Choice_init s_Choice_init "Choice" rfl rfl T.g_Choice T.mk_Choice sc_Choice_init (.inl ⟨rfl, rfl, (fun _ _ _ _ _ _ us hl => match us, hl with | [_, _, _, _], _ => rfl)⟩) ln_Choice_init (bd_Choice_init T (ok_measured T))
theorem sc_Before_init : FnScope ["self", "part", "first"] ["self", "part", "first"] (defScope s_Before_init) := ⟨rfl, rfl, rfl, by decide +kernel, rfl, by decide +kernel, by decide +kernel⟩
def sp_Before_init (K : PySem.W.Frag) : Sp := fun vs H Q _ => ∃ (a : Addr) (p : Tl) (x : Option Val0) (k1 : V), vs = [.ref a, k1, fvV x] ∧ fvOk x ∧ ∃ (dx : Addr) (Hb : Hp), H a = some (.ins (cK K .before) dx []) ∧ (Tl.before p x).dep ≤ 10 ∧ (Tl.before p x).sz ≤ 40 ∧ Hb a = none ∧ Ext K Hb H ∧ (PartAt K Hb k1 p) ∧ ∀ H', Ext K Hb H' → PartAt K H' (.ref a) (.before p x) → Q .non H'
theorem ln_Before_init {K : PySem.W.Frag} : ∀ vs H Q E, (sp_Before_init K) vs H Q E → vs.length = (["self", "part", "first"] : List Str).length := fun vs H Q E h => by
  obtain ⟨_, _, _, _, rfl, _⟩ := h
  rfl
theorem bd_Before_init (T : Top K mg) (c_need_first : C8.Cal P w K mg base 3 "need_first" (sp_need_first K) []) (me_measured : ∀ c : PK, C8.Met P w K mg base 2 (cK K c) "measured" (sp_measured K c) []) : Body P w K mg base q s_Before_init f ["self", "part", "first"] (3) (sp_Before_init K) := fun cdv A outer s H vs Q E hr h => by
  have hu := hu_of hr
  obtain ⟨a, p, x, k1, rfl, hx, dx, Hb, ha, hdep, hsz, hb, he, h1, q⟩ := h
  refine ⟨_, (pss_cons (ps_expr (C8.pe_c c_need_first hr (by omega) rfl (pa_cons (pv 2) pa_nil)))
        (pss_cons (ps_fld (pv 0) (pv 1) rfl)
        (pss_cons (ps_fld (pv 0) (pv 2) rfl)
        (pss_one (ps_expr (C8.pe_mt0 (me_measured .before) hr (by omega) (pv 0))))))), ?_⟩
  refine ⟨_, rfl, x, rfl, hx, ?_⟩
  have ha0 := ha
  have he0 := he
  refine ⟨_, rfl, _, rfl, a, _, dx, _, rfl, ha0, T.cl_Before, T.na_Before_part, by decide, ?_⟩
  generalize hG0 : upd _ a _ = G0
  have ha1 : G0 a = some (.ins (cK K .before) dx [("part", k1)]) := by rw [← hG0]; exact upd_same
  have he1 : Ext K Hb G0 := by rw [← hG0]; exact he0.put hb ha0 trivial _
  refine ⟨_, rfl, _, rfl, a, _, dx, _, rfl, ha1, T.cl_Before, T.na_Before_first, by show (1 : Nat) < 1000; decide, ?_⟩
  generalize hG1 : upd _ a _ = G1
  have ha2 : G1 a = some (.ins (cK K .before) dx [("part", k1), ("first", fvV x)]) := by rw [← hG1]; exact upd_same
  have he2 : Ext K Hb G1 := by rw [← hG1]; exact he1.put hb ha1 trivial _
  have hs := meas_sz (Tl.before p x)
  have hd := meas_dep (Tl.before p x)
  refine ⟨_, rfl, a, dx, _, rfl, ha2, rfl, a, dx, _, [k1], Tl.kids (.before p x), Hb, rfl, ha2, rfl, rfl, rfl, rfl, (by show (2 : Nat) < 10; decide), .cons h1 (.nil), kid_len _, by omega, fun t ht => by have := kid_dep _ ht; omega, hb, he2, fun H' e' ha' => ?_⟩
  rw [hs, hd] at ha'
  exact q H' e' ⟨a, dx, k1, rfl, ha', e'.fr.part h1⟩
theorem ok_Before_init (T : Top K mg) : C8.Mak P w K mg base 4 "Before" (He.ga K "Before") (sp_Before_init K) [] :=
  mak_of T 70 d_Before_init s_Before_init "Before" rfl rfl T.g_Before T.mk_Before sc_Before_init (.inr ⟨rfl, fun _ _ _ _ _ _ _ us its hl hi => match us, its, hl, hi with | [_, _, _], [_], _, _ => ⟨_, rfl, rfl⟩⟩) ln_Before_init (bd_Before_init T (ok_need_first T) (ok_measured T))
theorem sc_Led_init : FnScope ["self", "head", "rest"] ["self", "head", "rest"] (defScope s_Led_init) := ⟨rfl, rfl, rfl, by decide +kernel, rfl, by decide +kernel, by decide +kernel⟩
def sp_Led_init (K : PySem.W.Frag) : Sp := fun vs H Q _ => ∃ (a : Addr) (p r : Tl) (k1 k2 : V), vs = [.ref a, k1, k2] ∧ True ∧ ∃ (dx : Addr) (Hb : Hp), H a = some (.ins (cK K .led) dx []) ∧ (Tl.led p r).dep ≤ 10 ∧ (Tl.led p r).sz ≤ 40 ∧ Hb a = none ∧ Ext K Hb H ∧ (PartAt K Hb k1 p ∧ PartAt K Hb k2 r) ∧ ∀ H', Ext K Hb H' → PartAt K H' (.ref a) (.led p r) → Q .non H'
theorem ln_Led_init {K : PySem.W.Frag} : ∀ vs H Q E, (sp_Led_init K) vs H Q E → vs.length = (["self", "head", "rest"] : List Str).length := fun vs H Q E h => by
  obtain ⟨_, _, _, _, _, rfl, _⟩ := h
  rfl
theorem bd_Led_init (T : Top K mg) (me_measured : ∀ c : PK, C8.Met P w K mg base 2 (cK K c) "measured" (sp_measured K c) []) : Body P w K mg base q s_Led_init f ["self", "head", "rest"] (2) (sp_Led_init K) := fun cdv A outer s H vs Q E hr h => by
  have hu := hu_of hr
  obtain ⟨a, p, r, k1, k2, rfl, _, dx, Hb, ha, hdep, hsz, hb, he, ⟨h1, h2⟩, q⟩ := h
  refine ⟨_, (pss_cons (ps_fld (pv 0) (pv 1) rfl)
        (pss_cons (ps_fld (pv 0) (pv 2) rfl)
        (pss_one (ps_expr (C8.pe_mt0 (me_measured .led) hr (by omega) (pv 0)))))), ?_⟩
  have ha0 := ha
  have he0 := he
  refine ⟨_, rfl, _, rfl, a, _, dx, _, rfl, ha0, T.cl_Led, T.na_Led_head, by decide, ?_⟩
  generalize hG0 : upd _ a _ = G0
  have ha1 : G0 a = some (.ins (cK K .led) dx [("head", k1)]) := by rw [← hG0]; exact upd_same
  have he1 : Ext K Hb G0 := by rw [← hG0]; exact he0.put hb ha0 trivial _
  refine ⟨_, rfl, _, rfl, a, _, dx, _, rfl, ha1, T.cl_Led, T.na_Led_rest, by show (1 : Nat) < 1000; decide, ?_⟩
  generalize hG1 : upd _ a _ = G1
  have ha2 : G1 a = some (.ins (cK K .led) dx [("head", k1), ("rest", k2)]) := by rw [← hG1]; exact upd_same
  have he2 : Ext K Hb G1 := by rw [← hG1]; exact he1.put hb ha1 trivial _
  have hs := meas_sz (Tl.led p r)
  have hd := meas_dep (Tl.led p r)
  refine ⟨_, rfl, a, dx, _, rfl, ha2, rfl, a, dx, _, [k1, k2], Tl.kids (.led p r), Hb, rfl, ha2, rfl, rfl, rfl, rfl, (by show (2 : Nat) < 10; decide), .cons h1 (.cons h2 (.nil)), kid_len _, by omega, fun t ht => by have := kid_dep _ ht; omega, hb, he2, fun H' e' ha' => ?_⟩
  rw [hs, hd] at ha'
  exact q H' e' ⟨a, dx, k1, k2, rfl, ha', e'.fr.part h1, e'.fr.part h2⟩
theorem ok_Led_init (T : Top K mg) : C8.Mak P w K mg base 3 "Led" (He.ga K "Led") (sp_Led_init K) [] :=
  mak_of T 76 d_Led_init s_Led_init "Led" rfl rfl T.g_Led T.mk_Led sc_Led_init (.inl ⟨rfl, rfl, (fun _ _ _ _ _ _ us hl => match us, hl with | [_, _, _], _ => rfl)⟩) ln_Led_init (bd_Led_init T (ok_measured T))
theorem sc_When_init : FnScope ["self", "part", "name"] ["self", "part", "name"] (defScope s_When_init) := ⟨rfl, rfl, rfl, by decide +kernel, rfl, by decide +kernel, by decide +kernel⟩
def sp_When_init (K : PySem.W.Frag) : Sp := fun vs H Q _ => ∃ (a : Addr) (p : Tl) (n : Str) (k1 : V), vs = [.ref a, k1, .str n] ∧ Nm n ∧ ∃ (dx : Addr) (Hb : Hp), H a = some (.ins (cK K .when) dx []) ∧ (Tl.when p n).dep ≤ 10 ∧ (Tl.when p n).sz ≤ 40 ∧ Hb a = none ∧ Ext K Hb H ∧ (PartAt K Hb k1 p) ∧ ∀ H', Ext K Hb H' → PartAt K H' (.ref a) (.when p n) → Q .non H'
theorem ln_When_init {K : PySem.W.Frag} : ∀ vs H Q E, (sp_When_init K) vs H Q E → vs.length = (["self", "part", "name"] : List Str).length := fun vs H Q E h => by
  obtain ⟨_, _, _, _, rfl, _⟩ := h
  rfl
theorem bd_When_init (T : Top K mg) (c_need_name : C8.Cal P w K mg base 4 "need_name" (sp_need_name K) []) (me_measured : ∀ c : PK, C8.Met P w K mg base 2 (cK K c) "measured" (sp_measured K c) []) : Body P w K mg base q s_When_init f ["self", "part", "name"] (4) (sp_When_init K) := fun cdv A outer s H vs Q E hr h => by
  have hu := hu_of hr
  obtain ⟨a, p, n, k1, rfl, hn, dx, Hb, ha, hdep, hsz, hb, he, h1, q⟩ := h
  refine ⟨_, (pss_cons (ps_expr (C8.pe_c c_need_name hr (by omega) rfl (pa_cons (pv 2) pa_nil)))
        (pss_cons (ps_fld (pv 0) (pv 1) rfl)
        (pss_cons (ps_fld (pv 0) (pv 2) rfl)
        (pss_one (ps_expr (C8.pe_mt0 (me_measured .when) hr (by omega) (pv 0))))))), ?_⟩
  refine ⟨_, rfl, n, rfl, hn, fun H1 e1 => ?_⟩
  have ha0 := e1.at ha
  have he0 := he.trans e1
  refine ⟨_, rfl, _, rfl, a, _, dx, _, rfl, ha0, T.cl_When, T.na_When_part, by decide, ?_⟩
  generalize hG0 : upd _ a _ = G0
  have ha1 : G0 a = some (.ins (cK K .when) dx [("part", k1)]) := by rw [← hG0]; exact upd_same
  have he1 : Ext K Hb G0 := by rw [← hG0]; exact he0.put hb ha0 trivial _
  refine ⟨_, rfl, _, rfl, a, _, dx, _, rfl, ha1, T.cl_When, T.na_When_name, by show (1 : Nat) < 1000; decide, ?_⟩
  generalize hG1 : upd _ a _ = G1
  have ha2 : G1 a = some (.ins (cK K .when) dx [("part", k1), ("name", .str n)]) := by rw [← hG1]; exact upd_same
  have he2 : Ext K Hb G1 := by rw [← hG1]; exact he1.put hb ha1 trivial _
  have hs := meas_sz (Tl.when p n)
  have hd := meas_dep (Tl.when p n)
  refine ⟨_, rfl, a, dx, _, rfl, ha2, rfl, a, dx, _, [k1], Tl.kids (.when p n), Hb, rfl, ha2, rfl, rfl, rfl, rfl, (by show (2 : Nat) < 10; decide), .cons h1 (.nil), kid_len _, by omega, fun t ht => by have := kid_dep _ ht; omega, hb, he2, fun H' e' ha' => ?_⟩
  rw [hs, hd] at ha'
  exact q H' e' ⟨a, dx, k1, rfl, ha', e'.fr.part h1⟩
theorem ok_When_init (T : Top K mg) : C8.Mak P w K mg base 5 "When" (He.ga K "When") (sp_When_init K) [] :=
  mak_of T 82 d_When_init s_When_init "When" rfl rfl T.g_When T.mk_When sc_When_init (.inl ⟨rfl, rfl, (fun _ _ _ _ _ _ us hl => match us, hl with | [_, _, _], _ => rfl)⟩) ln_When_init (bd_When_init T (ok_need_name T) (ok_measured T))
theorem sc_Held_init : FnScope ["self", "part", "name", "first"] ["self", "part", "name", "first"] (defScope s_Held_init) := ⟨rfl, rfl, rfl, by decide +kernel, rfl, by decide +kernel, by decide +kernel⟩
def sp_Held_init (K : PySem.W.Frag) : Sp := fun vs H Q _ => ∃ (a : Addr) (p : Tl) (n : Str) (x : Option Val0) (k1 : V), vs = [.ref a, k1, .str n, fvV x] ∧ (Nm n ∧ fvOk x) ∧ ∃ (dx : Addr) (Hb : Hp), H a = some (.ins (cK K .held) dx []) ∧ (Tl.held p n x).dep ≤ 10 ∧ (Tl.held p n x).sz ≤ 40 ∧ Hb a = none ∧ Ext K Hb H ∧ (PartAt K Hb k1 p) ∧ ∀ H', Ext K Hb H' → PartAt K H' (.ref a) (.held p n x) → Q .non H'
theorem ln_Held_init {K : PySem.W.Frag} : ∀ vs H Q E, (sp_Held_init K) vs H Q E → vs.length = (["self", "part", "name", "first"] : List Str).length := fun vs H Q E h => by
  obtain ⟨_, _, _, _, _, rfl, _⟩ := h
  rfl
theorem bd_Held_init (T : Top K mg) (c_need_name : C8.Cal P w K mg base 4 "need_name" (sp_need_name K) []) (c_need_first : C8.Cal P w K mg base 3 "need_first" (sp_need_first K) []) (me_measured : ∀ c : PK, C8.Met P w K mg base 2 (cK K c) "measured" (sp_measured K c) []) : Body P w K mg base q s_Held_init f ["self", "part", "name", "first"] (4) (sp_Held_init K) := fun cdv A outer s H vs Q E hr h => by
  have hu := hu_of hr
  obtain ⟨a, p, n, x, k1, rfl, hn, dx, Hb, ha, hdep, hsz, hb, he, h1, q⟩ := h
  refine ⟨_, (pss_cons (ps_expr (C8.pe_c c_need_name hr (by omega) rfl (pa_cons (pv 2) pa_nil)))
        (pss_cons (ps_expr (C8.pe_c c_need_first hr (by omega) rfl (pa_cons (pv 3) pa_nil)))
        (pss_cons (ps_fld (pv 0) (pv 1) rfl)
        (pss_cons (ps_fld (pv 0) (pv 2) rfl)
        (pss_cons (ps_fld (pv 0) (pv 3) rfl)
        (pss_one (ps_expr (C8.pe_mt0 (me_measured .held) hr (by omega) (pv 0))))))))), ?_⟩
  refine ⟨_, rfl, n, rfl, hn.1, fun H1 e1 => ⟨_, rfl, x, rfl, hn.2, ?_⟩⟩
  have ha0 := e1.at ha
  have he0 := he.trans e1
  refine ⟨_, rfl, _, rfl, a, _, dx, _, rfl, ha0, T.cl_Held, T.na_Held_part, by decide, ?_⟩
  generalize hG0 : upd _ a _ = G0
  have ha1 : G0 a = some (.ins (cK K .held) dx [("part", k1)]) := by rw [← hG0]; exact upd_same
  have he1 : Ext K Hb G0 := by rw [← hG0]; exact he0.put hb ha0 trivial _
  refine ⟨_, rfl, _, rfl, a, _, dx, _, rfl, ha1, T.cl_Held, T.na_Held_name, by show (1 : Nat) < 1000; decide, ?_⟩
  generalize hG1 : upd _ a _ = G1
  have ha2 : G1 a = some (.ins (cK K .held) dx [("part", k1), ("name", .str n)]) := by rw [← hG1]; exact upd_same
  have he2 : Ext K Hb G1 := by rw [← hG1]; exact he1.put hb ha1 trivial _
  refine ⟨_, rfl, _, rfl, a, _, dx, _, rfl, ha2, T.cl_Held, T.na_Held_first, by show (2 : Nat) < 1000; decide, ?_⟩
  generalize hG2 : upd _ a _ = G2
  have ha3 : G2 a = some (.ins (cK K .held) dx [("part", k1), ("name", .str n), ("first", fvV x)]) := by rw [← hG2]; exact upd_same
  have he3 : Ext K Hb G2 := by rw [← hG2]; exact he2.put hb ha2 trivial _
  have hs := meas_sz (Tl.held p n x)
  have hd := meas_dep (Tl.held p n x)
  refine ⟨_, rfl, a, dx, _, rfl, ha3, rfl, a, dx, _, [k1], Tl.kids (.held p n x), Hb, rfl, ha3, rfl, rfl, rfl, rfl, (by show (3 : Nat) < 10; decide), .cons h1 (.nil), kid_len _, by omega, fun t ht => by have := kid_dep _ ht; omega, hb, he3, fun H' e' ha' => ?_⟩
  rw [hs, hd] at ha'
  exact q H' e' ⟨a, dx, k1, rfl, ha', e'.fr.part h1⟩
theorem ok_Held_init (T : Top K mg) : C8.Mak P w K mg base 5 "Held" (He.ga K "Held") (sp_Held_init K) [] :=
  mak_of T 88 d_Held_init s_Held_init "Held" rfl rfl T.g_Held T.mk_Held sc_Held_init (.inr ⟨rfl, fun _ _ _ _ _ _ _ us its hl hi => match us, its, hl, hi with | [_, _, _, _], [_], _, _ => ⟨_, rfl, rfl⟩⟩) ln_Held_init (bd_Held_init T (ok_need_name T) (ok_need_first T) (ok_measured T))
end

section
variable {P : Program} {w : World} {K : PySem.W.Frag} {mg : Str → Option Value} {base : Heap} {q : Str} {f : Addr}
section
variable {K : PySem.W.Frag} {H : Hp}
theorem dp_v (x : Val0) : Dp K H x.v x.d := by
  cases x with
  | bl b => exact .bl b
  | int i => exact .int i
theorem dp_fv (f : Option Val0) : Dp K H (fvV f) (fvD f) := by
  cases f with
  | none => exact .non
  | some x => exact dp_v x
theorem dp_on (o : Option Str) : Dp K H (onV o) (onD o) := by
  cases o with
  | none => exact .non
  | some x => exact .str x
theorem dp_str {v : V} {s : Str} (h : Dp K H v (.str s)) : v = .str s := by cases h; rfl
theorem dp_val {v : V} {x : Val0} (h : Dp K H v x.d) : v = x.v := by
  cases x with
  | bl b => cases h; rfl
  | int i => cases h; rfl
theorem dp_fval {v : V} {f : Option Val0} (h : Dp K H v (fvD f)) : v = fvV f := by
  cases f with
  | none => cases h; rfl
  | some x => exact dp_val h
theorem dp_oval {v : V} {o : Option Str} (h : Dp K H v (onD o)) : v = onV o := by
  cases o with
  | none => cases h; rfl
  | some x => exact dp_str h
theorem dp_tup {v : V} {ds : List PyData} (h : Dp K H v (.tuple ds)) : ∃ a xs, v = .ref a ∧ SqT K H a xs ∧ DpAll K H xs ds := by
  cases h with
  | tup h g => exact ⟨_, _, rfl, h, g⟩
theorem dp_lst {v : V} {ds : List PyData} (h : Dp K H v (.list ds)) : ∃ a xs, v = .ref a ∧ SqL K H a xs ∧ DpAll K H xs ds := by
  cases h with
  | lst h g => exact ⟨_, _, rfl, h, g⟩
theorem dp_tup2 {v : V} {d1 d2 : PyData} (h : Dp K H v (.tuple [d1, d2])) : ∃ a x1 x2, v = .ref a ∧ SqT K H a [x1, x2] ∧ Dp K H x1 d1 ∧ Dp K H x2 d2 := by
  obtain ⟨a, xs, e, h, g⟩ := dp_tup h
  cases g with
  | cons g1 g => cases g with
    | cons g2 g => cases g with
      | nil => exact ⟨_, _, _, e, h, g1, g2⟩
theorem dp_tup3 {v : V} {d1 d2 d3 : PyData} (h : Dp K H v (.tuple [d1, d2, d3])) : ∃ a x1 x2 x3, v = .ref a ∧ SqT K H a [x1, x2, x3] ∧ Dp K H x1 d1 ∧ Dp K H x2 d2 ∧ Dp K H x3 d3 := by
  obtain ⟨a, xs, e, h, g⟩ := dp_tup h
  cases g with
  | cons g1 g => cases g with
    | cons g2 g => cases g with
      | cons g3 g => cases g with
        | nil => exact ⟨_, _, _, _, e, h, g1, g2, g3⟩
theorem dp_tup4 {v : V} {d1 d2 d3 d4 : PyData} (h : Dp K H v (.tuple [d1, d2, d3, d4])) : ∃ a x1 x2 x3 x4, v = .ref a ∧ SqT K H a [x1, x2, x3, x4] ∧ Dp K H x1 d1 ∧ Dp K H x2 d2 ∧ Dp K H x3 d3 ∧ Dp K H x4 d4 := by
  obtain ⟨a, xs, e, h, g⟩ := dp_tup h
  cases g with
  | cons g1 g => cases g with
    | cons g2 g => cases g with
      | cons g3 g => cases g with
        | cons g4 g => cases g with
          | nil => exact ⟨_, _, _, _, _, e, h, g1, g2, g3, g4⟩
end
theorem dep_pos (t : Tl) : 1 ≤ t.dep := by cases t <;> simp [Tl.dep] <;> omega
theorem names_sz (t : Tl) : t.names.length ≤ t.sz := by
  induction t <;> simp only [Tl.names, Tl.sz, List.length_append, List.length_nil, List.length_cons] <;> omega
theorem names_kids (t : Tl) (n : Str) : n ∈ t.names ↔ (∃ p ∈ t.kids, n ∈ p.names) ∨ n ∈ t.own := by
  cases t <;> simp [Tl.names, Tl.kids, Tl.own]
/-- v.told() of a part n deep at most -/
def sp_told (K : PySem.W.Frag) (n : Nat) (c : PK) : Sp := fun vs H Q _ => ∃ v t, vs = [v] ∧ t.k = c ∧ t.dep ≤ n ∧ PartAt K H v t ∧ ∀ r H', Ext K H H' → Dp K H' r t.told → Q r H'
/-- v.names() -/
def sp_names (K : PySem.W.Frag) (n : Nat) (c : PK) : Sp := fun vs H Q _ => ∃ v t, vs = [v] ∧ t.k = c ∧ t.dep ≤ n ∧ t.dep ≤ 3 ∧ PartAt K H v t ∧ ∀ (p : Addr) (xs : List Str) (H' : Hp), Ext K H H' → H p = none → H' p = some (.lst (xs.map V.str)) → (∀ m, m ∈ xs ↔ m ∈ t.names) → xs.length ≤ t.names.length → Q (.ref p) H'

theorem sc_Given_told : FnScope ["self"] ["self"] (defScope s_Given_told) := ⟨rfl, rfl, rfl, by decide +kernel, rfl, by decide +kernel, by decide +kernel⟩
def sp_Given_told (K : PySem.W.Frag) (n : Nat) : Sp := sp_told K (n + 1) .given
theorem ln_Given_told {K : PySem.W.Frag} {n : Nat} : ∀ vs H Q E, (sp_Given_told K n) vs H Q E → vs.length = (["self"] : List Str).length := fun vs H Q E h => by
  obtain ⟨_, _, rfl, _⟩ := h
  rfl
theorem bd_Given_told (T : Top K mg) (n : Nat)  (me_told : ∀ c : PK, C8.Met P w K mg base (n + 1) (cK K c) "told" (sp_told K n c) []) : Body P w K mg base q s_Given_told f ["self"] (n + 1) (sp_Given_told K n) := fun cdv A outer s H vs Q E hr h => by
  have hu := hu_of hr
  obtain ⟨v, t, rfl, hk, hd, ht, q⟩ := h
  refine ⟨_, (pss_one (ps_ret (pe_tup (pa_cons pe_str (pa_cons (pe_fld (pv 0) rfl) pa_nil))))), ?_⟩
  obtain ⟨x, rfl⟩ := k_given hk
  obtain ⟨a, dx, rfl, ha⟩ := ht
  refine ⟨_, rfl, a, _, dx, _, _, rfl, (Ext.refl K H).at ha, T.cl_Given, T.na_Given_value, rfl, ?_⟩
  refine ⟨szk 2, fun z hz => q _ _ ((Ext.refl K H).trans (Ext.new hz _)) (.tup (.of upd_same) ?_)⟩
  exact .cons (.str _) (.cons (dp_v x) (.nil))
theorem sc_Named_told : FnScope ["self"] ["self"] (defScope s_Named_told) := ⟨rfl, rfl, rfl, by decide +kernel, rfl, by decide +kernel, by decide +kernel⟩
def sp_Named_told (K : PySem.W.Frag) (n : Nat) : Sp := sp_told K (n + 1) .named
theorem ln_Named_told {K : PySem.W.Frag} {n : Nat} : ∀ vs H Q E, (sp_Named_told K n) vs H Q E → vs.length = (["self"] : List Str).length := fun vs H Q E h => by
  obtain ⟨_, _, rfl, _⟩ := h
  rfl
theorem bd_Named_told (T : Top K mg) (n : Nat)  (me_told : ∀ c : PK, C8.Met P w K mg base (n + 1) (cK K c) "told" (sp_told K n c) []) : Body P w K mg base q s_Named_told f ["self"] (n + 1) (sp_Named_told K n) := fun cdv A outer s H vs Q E hr h => by
  have hu := hu_of hr
  obtain ⟨v, t, rfl, hk, hd, ht, q⟩ := h
  refine ⟨_, (pss_one (ps_ret (pe_tup (pa_cons pe_str (pa_cons (pe_fld (pv 0) rfl) pa_nil))))), ?_⟩
  obtain ⟨m, rfl⟩ := k_named hk
  obtain ⟨a, dx, rfl, ha⟩ := ht
  refine ⟨_, rfl, a, _, dx, _, _, rfl, (Ext.refl K H).at ha, T.cl_Named, T.na_Named_name, rfl, ?_⟩
  refine ⟨szk 2, fun z hz => q _ _ ((Ext.refl K H).trans (Ext.new hz _)) (.tup (.of upd_same) ?_)⟩
  exact .cons (.str _) (.cons (.str m) (.nil))
theorem sc_Turned_told : FnScope ["self"] ["self"] (defScope s_Turned_told) := ⟨rfl, rfl, rfl, by decide +kernel, rfl, by decide +kernel, by decide +kernel⟩
def sp_Turned_told (K : PySem.W.Frag) (n : Nat) : Sp := sp_told K (n + 1) .turned
theorem ln_Turned_told {K : PySem.W.Frag} {n : Nat} : ∀ vs H Q E, (sp_Turned_told K n) vs H Q E → vs.length = (["self"] : List Str).length := fun vs H Q E h => by
  obtain ⟨_, _, rfl, _⟩ := h
  rfl
theorem bd_Turned_told (T : Top K mg) (n : Nat)  (me_told : ∀ c : PK, C8.Met P w K mg base (n + 1) (cK K c) "told" (sp_told K n c) []) : Body P w K mg base q s_Turned_told f ["self"] (n + 1) (sp_Turned_told K n) := fun cdv A outer s H vs Q E hr h => by
  have hu := hu_of hr
  obtain ⟨v, t, rfl, hk, hd, ht, q⟩ := h
  refine ⟨_, (pss_one (ps_ret (pe_tup (pa_cons pe_str (pa_cons (pe_poly fun c => C8.pe_mt0 (me_told c) hr (by omega) (pe_fld (pv 0) rfl)) pa_nil))))), ?_⟩
  obtain ⟨p1, rfl⟩ := k_turned hk
  obtain ⟨a, dx, k1, rfl, ha, h1⟩ := ht
  have d1 := kid_dep _ (show p1 ∈ (Tl.turned p1).kids by simp [Tl.kids])
  obtain ⟨a1, dx1, fs1, rfl, g1, _, _, _, t1, _⟩ := (Ext.refl K H).fr.part h1 |>.head
  refine ⟨p1.k, _, rfl, a, _, dx, _, .ref a1, rfl, (Ext.refl K H).at ha, T.cl_Turned, T.na_Turned_part, rfl, a1, dx1, fs1, rfl, g1, t1, _, p1, rfl, rfl, by omega, (Ext.refl K H).fr.part h1, fun r1 H1 e1 z1 => ?_⟩
  have E1 := (Ext.refl K H).trans e1
  refine ⟨szk 2, fun z hz => q _ _ ((E1).trans (Ext.new hz _)) (.tup (.of upd_same) ?_)⟩
  exact .cons (.str _) (.cons (Fr.dp (Fr.new hz _) z1 (told_noL p1)) (.nil))
theorem sc_Pair_told : FnScope ["self"] ["self"] (defScope s_Pair_told) := ⟨rfl, rfl, rfl, by decide +kernel, rfl, by decide +kernel, by decide +kernel⟩
def sp_Pair_told (K : PySem.W.Frag) (n : Nat) : Sp := sp_told K (n + 1) .pair
theorem ln_Pair_told {K : PySem.W.Frag} {n : Nat} : ∀ vs H Q E, (sp_Pair_told K n) vs H Q E → vs.length = (["self"] : List Str).length := fun vs H Q E h => by
  obtain ⟨_, _, rfl, _⟩ := h
  rfl
theorem bd_Pair_told (T : Top K mg) (n : Nat)  (me_told : ∀ c : PK, C8.Met P w K mg base (n + 1) (cK K c) "told" (sp_told K n c) []) : Body P w K mg base q s_Pair_told f ["self"] (n + 1) (sp_Pair_told K n) := fun cdv A outer s H vs Q E hr h => by
  have hu := hu_of hr
  obtain ⟨v, t, rfl, hk, hd, ht, q⟩ := h
  refine ⟨_, (pss_one (ps_ret (pe_tup (pa_cons (pe_fld (pv 0) rfl) (pa_cons (pe_poly fun c => C8.pe_mt0 (me_told c) hr (by omega) (pe_fld (pv 0) rfl)) (pa_cons (pe_poly fun c => C8.pe_mt0 (me_told c) hr (by omega) (pe_fld (pv 0) rfl)) pa_nil)))))), ?_⟩
  obtain ⟨g, p1, p2, rfl⟩ := k_pair hk
  obtain ⟨a, dx, k1, k2, rfl, ha, h1, h2⟩ := ht
  have d1 := kid_dep _ (show p1 ∈ (Tl.pair g p1 p2).kids by simp [Tl.kids])
  have d2 := kid_dep _ (show p2 ∈ (Tl.pair g p1 p2).kids by simp [Tl.kids])
  refine ⟨_, rfl, a, _, dx, _, .str g, rfl, ha, T.cl_Pair, T.na_Pair_sign, rfl, ?_⟩
  obtain ⟨a1, dx1, fs1, rfl, g1, _, _, _, t1, _⟩ := (Ext.refl K H).fr.part h1 |>.head
  refine ⟨p1.k, _, rfl, a, _, dx, _, .ref a1, rfl, (Ext.refl K H).at ha, T.cl_Pair, T.na_Pair_one, rfl, a1, dx1, fs1, rfl, g1, t1, _, p1, rfl, rfl, by omega, (Ext.refl K H).fr.part h1, fun r1 H1 e1 z1 => ?_⟩
  have E1 := (Ext.refl K H).trans e1
  obtain ⟨a2, dx2, fs2, rfl, g2, _, _, _, t2, _⟩ := (E1).fr.part h2 |>.head
  refine ⟨p2.k, _, rfl, a, _, dx, _, .ref a2, rfl, (E1).at ha, T.cl_Pair, T.na_Pair_other, rfl, a2, dx2, fs2, rfl, g2, t2, _, p2, rfl, rfl, by omega, (E1).fr.part h2, fun r2 H2 e2 z2 => ?_⟩
  have E2 := (E1).trans e2
  refine ⟨szk 3, fun z hz => q _ _ ((E2).trans (Ext.new hz _)) (.tup (.of upd_same) ?_)⟩
  exact .cons (.str _) (.cons (Fr.dp (e2.fr.trans (Fr.new hz _)) z1 (told_noL p1)) (.cons (Fr.dp (Fr.new hz _) z2 (told_noL p2)) (.nil)))
theorem sc_Choice_told : FnScope ["self"] ["self"] (defScope s_Choice_told) := ⟨rfl, rfl, rfl, by decide +kernel, rfl, by decide +kernel, by decide +kernel⟩
def sp_Choice_told (K : PySem.W.Frag) (n : Nat) : Sp := sp_told K (n + 1) .choice
theorem ln_Choice_told {K : PySem.W.Frag} {n : Nat} : ∀ vs H Q E, (sp_Choice_told K n) vs H Q E → vs.length = (["self"] : List Str).length := fun vs H Q E h => by
  obtain ⟨_, _, rfl, _⟩ := h
  rfl
theorem bd_Choice_told (T : Top K mg) (n : Nat)  (me_told : ∀ c : PK, C8.Met P w K mg base (n + 1) (cK K c) "told" (sp_told K n c) []) : Body P w K mg base q s_Choice_told f ["self"] (n + 1) (sp_Choice_told K n) := fun cdv A outer s H vs Q E hr h => by
  have hu := hu_of hr
  obtain ⟨v, t, rfl, hk, hd, ht, q⟩ := h
  refine ⟨_, (pss_one (ps_ret (pe_tup (pa_cons pe_str (pa_cons (pe_poly fun c => C8.pe_mt0 (me_told c) hr (by omega) (pe_fld (pv 0) rfl)) (pa_cons (pe_poly fun c => C8.pe_mt0 (me_told c) hr (by omega) (pe_fld (pv 0) rfl)) (pa_cons (pe_poly fun c => C8.pe_mt0 (me_told c) hr (by omega) (pe_fld (pv 0) rfl)) pa_nil))))))), ?_⟩
  obtain ⟨p1, p2, p3, rfl⟩ := k_choice hk
  obtain ⟨a, dx, k1, k2, k3, rfl, ha, h1, h2, h3⟩ := ht
  have d1 := kid_dep _ (show p1 ∈ (Tl.choice p1 p2 p3).kids by simp [Tl.kids])
  have d2 := kid_dep _ (show p2 ∈ (Tl.choice p1 p2 p3).kids by simp [Tl.kids])
  have d3 := kid_dep _ (show p3 ∈ (Tl.choice p1 p2 p3).kids by simp [Tl.kids])
  obtain ⟨a1, dx1, fs1, rfl, g1, _, _, _, t1, _⟩ := (Ext.refl K H).fr.part h1 |>.head
  refine ⟨p1.k, _, rfl, a, _, dx, _, .ref a1, rfl, (Ext.refl K H).at ha, T.cl_Choice, T.na_Choice_truth, rfl, a1, dx1, fs1, rfl, g1, t1, _, p1, rfl, rfl, by omega, (Ext.refl K H).fr.part h1, fun r1 H1 e1 z1 => ?_⟩
  have E1 := (Ext.refl K H).trans e1
  obtain ⟨a2, dx2, fs2, rfl, g2, _, _, _, t2, _⟩ := (E1).fr.part h2 |>.head
  refine ⟨p2.k, _, rfl, a, _, dx, _, .ref a2, rfl, (E1).at ha, T.cl_Choice, T.na_Choice_one, rfl, a2, dx2, fs2, rfl, g2, t2, _, p2, rfl, rfl, by omega, (E1).fr.part h2, fun r2 H2 e2 z2 => ?_⟩
  have E2 := (E1).trans e2
  obtain ⟨a3, dx3, fs3, rfl, g3, _, _, _, t3, _⟩ := (E2).fr.part h3 |>.head
  refine ⟨p3.k, _, rfl, a, _, dx, _, .ref a3, rfl, (E2).at ha, T.cl_Choice, T.na_Choice_other, rfl, a3, dx3, fs3, rfl, g3, t3, _, p3, rfl, rfl, by omega, (E2).fr.part h3, fun r3 H3 e3 z3 => ?_⟩
  have E3 := (E2).trans e3
  refine ⟨szk 4, fun z hz => q _ _ ((E3).trans (Ext.new hz _)) (.tup (.of upd_same) ?_)⟩
  exact .cons (.str _) (.cons (Fr.dp (e2.fr.trans (e3.fr.trans (Fr.new hz _))) z1 (told_noL p1)) (.cons (Fr.dp (e3.fr.trans (Fr.new hz _)) z2 (told_noL p2)) (.cons (Fr.dp (Fr.new hz _) z3 (told_noL p3)) (.nil))))
theorem sc_Before_told : FnScope ["self"] ["self"] (defScope s_Before_told) := ⟨rfl, rfl, rfl, by decide +kernel, rfl, by decide +kernel, by decide +kernel⟩
def sp_Before_told (K : PySem.W.Frag) (n : Nat) : Sp := sp_told K (n + 1) .before
theorem ln_Before_told {K : PySem.W.Frag} {n : Nat} : ∀ vs H Q E, (sp_Before_told K n) vs H Q E → vs.length = (["self"] : List Str).length := fun vs H Q E h => by
  obtain ⟨_, _, rfl, _⟩ := h
  rfl
theorem bd_Before_told (T : Top K mg) (n : Nat)  (me_told : ∀ c : PK, C8.Met P w K mg base (n + 1) (cK K c) "told" (sp_told K n c) []) : Body P w K mg base q s_Before_told f ["self"] (n + 1) (sp_Before_told K n) := fun cdv A outer s H vs Q E hr h => by
  have hu := hu_of hr
  obtain ⟨v, t, rfl, hk, hd, ht, q⟩ := h
  refine ⟨_, (pss_one (ps_ret (pe_tup (pa_cons pe_str (pa_cons (pe_poly fun c => C8.pe_mt0 (me_told c) hr (by omega) (pe_fld (pv 0) rfl)) (pa_cons (pe_fld (pv 0) rfl) pa_nil)))))), ?_⟩
  obtain ⟨p1, x, rfl⟩ := k_before hk
  obtain ⟨a, dx, k1, rfl, ha, h1⟩ := ht
  have d1 := kid_dep _ (show p1 ∈ (Tl.before p1 x).kids by simp [Tl.kids])
  obtain ⟨a1, dx1, fs1, rfl, g1, _, _, _, t1, _⟩ := (Ext.refl K H).fr.part h1 |>.head
  refine ⟨p1.k, _, rfl, a, _, dx, _, .ref a1, rfl, (Ext.refl K H).at ha, T.cl_Before, T.na_Before_part, rfl, a1, dx1, fs1, rfl, g1, t1, _, p1, rfl, rfl, by omega, (Ext.refl K H).fr.part h1, fun r1 H1 e1 z1 => ?_⟩
  have E1 := (Ext.refl K H).trans e1
  refine ⟨_, rfl, a, _, dx, _, _, rfl, (E1).at ha, T.cl_Before, T.na_Before_first, rfl, ?_⟩
  refine ⟨szk 3, fun z hz => q _ _ ((E1).trans (Ext.new hz _)) (.tup (.of upd_same) ?_)⟩
  exact .cons (.str _) (.cons (Fr.dp (Fr.new hz _) z1 (told_noL p1)) (.cons (dp_fv x) (.nil)))
theorem sc_Led_told : FnScope ["self"] ["self"] (defScope s_Led_told) := ⟨rfl, rfl, rfl, by decide +kernel, rfl, by decide +kernel, by decide +kernel⟩
def sp_Led_told (K : PySem.W.Frag) (n : Nat) : Sp := sp_told K (n + 1) .led
theorem ln_Led_told {K : PySem.W.Frag} {n : Nat} : ∀ vs H Q E, (sp_Led_told K n) vs H Q E → vs.length = (["self"] : List Str).length := fun vs H Q E h => by
  obtain ⟨_, _, rfl, _⟩ := h
  rfl
theorem bd_Led_told (T : Top K mg) (n : Nat)  (me_told : ∀ c : PK, C8.Met P w K mg base (n + 1) (cK K c) "told" (sp_told K n c) []) : Body P w K mg base q s_Led_told f ["self"] (n + 1) (sp_Led_told K n) := fun cdv A outer s H vs Q E hr h => by
  have hu := hu_of hr
  obtain ⟨v, t, rfl, hk, hd, ht, q⟩ := h
  refine ⟨_, (pss_one (ps_ret (pe_tup (pa_cons pe_str (pa_cons (pe_poly fun c => C8.pe_mt0 (me_told c) hr (by omega) (pe_fld (pv 0) rfl)) (pa_cons (pe_poly fun c => C8.pe_mt0 (me_told c) hr (by omega) (pe_fld (pv 0) rfl)) pa_nil)))))), ?_⟩
  obtain ⟨p1, p2, rfl⟩ := k_led hk
  obtain ⟨a, dx, k1, k2, rfl, ha, h1, h2⟩ := ht
  have d1 := kid_dep _ (show p1 ∈ (Tl.led p1 p2).kids by simp [Tl.kids])
  have d2 := kid_dep _ (show p2 ∈ (Tl.led p1 p2).kids by simp [Tl.kids])
  obtain ⟨a1, dx1, fs1, rfl, g1, _, _, _, t1, _⟩ := (Ext.refl K H).fr.part h1 |>.head
  refine ⟨p1.k, _, rfl, a, _, dx, _, .ref a1, rfl, (Ext.refl K H).at ha, T.cl_Led, T.na_Led_head, rfl, a1, dx1, fs1, rfl, g1, t1, _, p1, rfl, rfl, by omega, (Ext.refl K H).fr.part h1, fun r1 H1 e1 z1 => ?_⟩
  have E1 := (Ext.refl K H).trans e1
  obtain ⟨a2, dx2, fs2, rfl, g2, _, _, _, t2, _⟩ := (E1).fr.part h2 |>.head
  refine ⟨p2.k, _, rfl, a, _, dx, _, .ref a2, rfl, (E1).at ha, T.cl_Led, T.na_Led_rest, rfl, a2, dx2, fs2, rfl, g2, t2, _, p2, rfl, rfl, by omega, (E1).fr.part h2, fun r2 H2 e2 z2 => ?_⟩
  have E2 := (E1).trans e2
  refine ⟨szk 3, fun z hz => q _ _ ((E2).trans (Ext.new hz _)) (.tup (.of upd_same) ?_)⟩
  exact .cons (.str _) (.cons (Fr.dp (e2.fr.trans (Fr.new hz _)) z1 (told_noL p1)) (.cons (Fr.dp (Fr.new hz _) z2 (told_noL p2)) (.nil)))
theorem sc_When_told : FnScope ["self"] ["self"] (defScope s_When_told) := ⟨rfl, rfl, rfl, by decide +kernel, rfl, by decide +kernel, by decide +kernel⟩
def sp_When_told (K : PySem.W.Frag) (n : Nat) : Sp := sp_told K (n + 1) .when
theorem ln_When_told {K : PySem.W.Frag} {n : Nat} : ∀ vs H Q E, (sp_When_told K n) vs H Q E → vs.length = (["self"] : List Str).length := fun vs H Q E h => by
  obtain ⟨_, _, rfl, _⟩ := h
  rfl
theorem bd_When_told (T : Top K mg) (n : Nat)  (me_told : ∀ c : PK, C8.Met P w K mg base (n + 1) (cK K c) "told" (sp_told K n c) []) : Body P w K mg base q s_When_told f ["self"] (n + 1) (sp_When_told K n) := fun cdv A outer s H vs Q E hr h => by
  have hu := hu_of hr
  obtain ⟨v, t, rfl, hk, hd, ht, q⟩ := h
  refine ⟨_, (pss_one (ps_ret (pe_tup (pa_cons pe_str (pa_cons (pe_poly fun c => C8.pe_mt0 (me_told c) hr (by omega) (pe_fld (pv 0) rfl)) (pa_cons (pe_fld (pv 0) rfl) pa_nil)))))), ?_⟩
  obtain ⟨p1, m, rfl⟩ := k_when hk
  obtain ⟨a, dx, k1, rfl, ha, h1⟩ := ht
  have d1 := kid_dep _ (show p1 ∈ (Tl.when p1 m).kids by simp [Tl.kids])
  obtain ⟨a1, dx1, fs1, rfl, g1, _, _, _, t1, _⟩ := (Ext.refl K H).fr.part h1 |>.head
  refine ⟨p1.k, _, rfl, a, _, dx, _, .ref a1, rfl, (Ext.refl K H).at ha, T.cl_When, T.na_When_part, rfl, a1, dx1, fs1, rfl, g1, t1, _, p1, rfl, rfl, by omega, (Ext.refl K H).fr.part h1, fun r1 H1 e1 z1 => ?_⟩
  have E1 := (Ext.refl K H).trans e1
  refine ⟨_, rfl, a, _, dx, _, _, rfl, (E1).at ha, T.cl_When, T.na_When_name, rfl, ?_⟩
  refine ⟨szk 3, fun z hz => q _ _ ((E1).trans (Ext.new hz _)) (.tup (.of upd_same) ?_)⟩
  exact .cons (.str _) (.cons (Fr.dp (Fr.new hz _) z1 (told_noL p1)) (.cons (.str m) (.nil)))
theorem sc_Held_told : FnScope ["self"] ["self"] (defScope s_Held_told) := ⟨rfl, rfl, rfl, by decide +kernel, rfl, by decide +kernel, by decide +kernel⟩
def sp_Held_told (K : PySem.W.Frag) (n : Nat) : Sp := sp_told K (n + 1) .held
theorem ln_Held_told {K : PySem.W.Frag} {n : Nat} : ∀ vs H Q E, (sp_Held_told K n) vs H Q E → vs.length = (["self"] : List Str).length := fun vs H Q E h => by
  obtain ⟨_, _, rfl, _⟩ := h
  rfl
theorem bd_Held_told (T : Top K mg) (n : Nat)  (me_told : ∀ c : PK, C8.Met P w K mg base (n + 1) (cK K c) "told" (sp_told K n c) []) : Body P w K mg base q s_Held_told f ["self"] (n + 1) (sp_Held_told K n) := fun cdv A outer s H vs Q E hr h => by
  have hu := hu_of hr
  obtain ⟨v, t, rfl, hk, hd, ht, q⟩ := h
  refine ⟨_, (pss_one (ps_ret (pe_tup (pa_cons pe_str (pa_cons (pe_poly fun c => C8.pe_mt0 (me_told c) hr (by omega) (pe_fld (pv 0) rfl)) (pa_cons (pe_fld (pv 0) rfl) (pa_cons (pe_fld (pv 0) rfl) pa_nil))))))), ?_⟩
  obtain ⟨p1, m, x, rfl⟩ := k_held hk
  obtain ⟨a, dx, k1, rfl, ha, h1⟩ := ht
  have d1 := kid_dep _ (show p1 ∈ (Tl.held p1 m x).kids by simp [Tl.kids])
  obtain ⟨a1, dx1, fs1, rfl, g1, _, _, _, t1, _⟩ := (Ext.refl K H).fr.part h1 |>.head
  refine ⟨p1.k, _, rfl, a, _, dx, _, .ref a1, rfl, (Ext.refl K H).at ha, T.cl_Held, T.na_Held_part, rfl, a1, dx1, fs1, rfl, g1, t1, _, p1, rfl, rfl, by omega, (Ext.refl K H).fr.part h1, fun r1 H1 e1 z1 => ?_⟩
  have E1 := (Ext.refl K H).trans e1
  refine ⟨_, rfl, a, _, dx, _, _, rfl, (E1).at ha, T.cl_Held, T.na_Held_name, rfl, ?_⟩
  refine ⟨_, rfl, a, _, dx, _, _, rfl, (E1).at ha, T.cl_Held, T.na_Held_first, rfl, ?_⟩
  refine ⟨szk 4, fun z hz => q _ _ ((E1).trans (Ext.new hz _)) (.tup (.of upd_same) ?_)⟩
  exact .cons (.str _) (.cons (Fr.dp (Fr.new hz _) z1 (told_noL p1)) (.cons (.str m) (.cons (dp_fv x) (.nil))))
theorem fam_told (T : Top K mg) : ∀ (n : Nat) (c : PK), C8.Met P w K mg base (n + 1) (cK K c) "told" (sp_told K n c) []
  | 0, .given => met_of T 45 d_Given_told s_Given_told (He.ga K "Given") "told" rfl rfl rfl rfl T.cl_Given T.me_Given_told sc_Given_told (fun _ _ _ _ _ _ us hl => match us, hl with | [_], _ => rfl) (fun vs H Q E h => by obtain ⟨_, _, rfl, _⟩ := h; rfl) (fun _ _ _ _ _ _ _ _ _ h => by obtain ⟨_, t, _, _, z, _⟩ := h; exact absurd (dep_pos t) (by omega))
  | 0, .named => met_of T 51 d_Named_told s_Named_told (He.ga K "Named") "told" rfl rfl rfl rfl T.cl_Named T.me_Named_told sc_Named_told (fun _ _ _ _ _ _ us hl => match us, hl with | [_], _ => rfl) (fun vs H Q E h => by obtain ⟨_, _, rfl, _⟩ := h; rfl) (fun _ _ _ _ _ _ _ _ _ h => by obtain ⟨_, t, _, _, z, _⟩ := h; exact absurd (dep_pos t) (by omega))
  | 0, .turned => met_of T 57 d_Turned_told s_Turned_told (He.ga K "Turned") "told" rfl rfl rfl rfl T.cl_Turned T.me_Turned_told sc_Turned_told (fun _ _ _ _ _ _ us hl => match us, hl with | [_], _ => rfl) (fun vs H Q E h => by obtain ⟨_, _, rfl, _⟩ := h; rfl) (fun _ _ _ _ _ _ _ _ _ h => by obtain ⟨_, t, _, _, z, _⟩ := h; exact absurd (dep_pos t) (by omega))
  | 0, .pair => met_of T 63 d_Pair_told s_Pair_told (He.ga K "Pair") "told" rfl rfl rfl rfl T.cl_Pair T.me_Pair_told sc_Pair_told (fun _ _ _ _ _ _ us hl => match us, hl with | [_], _ => rfl) (fun vs H Q E h => by obtain ⟨_, _, rfl, _⟩ := h; rfl) (fun _ _ _ _ _ _ _ _ _ h => by obtain ⟨_, t, _, _, z, _⟩ := h; exact absurd (dep_pos t) (by omega))
  | 0, .choice => met_of T 69 d_Choice_told s_Choice_told (He.ga K "Choice") "told" rfl rfl rfl rfl T.cl_Choice T.me_Choice_told sc_Choice_told (fun _ _ _ _ _ _ us hl => match us, hl with | [_], _ => rfl) (fun vs H Q E h => by obtain ⟨_, _, rfl, _⟩ := h; rfl) (fun _ _ _ _ _ _ _ _ _ h => by obtain ⟨_, t, _, _, z, _⟩ := h; exact absurd (dep_pos t) (by omega))
  | 0, .before => met_of T 75 d_Before_told s_Before_told (He.ga K "Before") "told" rfl rfl rfl rfl T.cl_Before T.me_Before_told sc_Before_told (fun _ _ _ _ _ _ us hl => match us, hl with | [_], _ => rfl) (fun vs H Q E h => by obtain ⟨_, _, rfl, _⟩ := h; rfl) (fun _ _ _ _ _ _ _ _ _ h => by obtain ⟨_, t, _, _, z, _⟩ := h; exact absurd (dep_pos t) (by omega))
  | 0, .led => met_of T 81 d_Led_told s_Led_told (He.ga K "Led") "told" rfl rfl rfl rfl T.cl_Led T.me_Led_told sc_Led_told (fun _ _ _ _ _ _ us hl => match us, hl with | [_], _ => rfl) (fun vs H Q E h => by obtain ⟨_, _, rfl, _⟩ := h; rfl) (fun _ _ _ _ _ _ _ _ _ h => by obtain ⟨_, t, _, _, z, _⟩ := h; exact absurd (dep_pos t) (by omega))
  | 0, .when => met_of T 87 d_When_told s_When_told (He.ga K "When") "told" rfl rfl rfl rfl T.cl_When T.me_When_told sc_When_told (fun _ _ _ _ _ _ us hl => match us, hl with | [_], _ => rfl) (fun vs H Q E h => by obtain ⟨_, _, rfl, _⟩ := h; rfl) (fun _ _ _ _ _ _ _ _ _ h => by obtain ⟨_, t, _, _, z, _⟩ := h; exact absurd (dep_pos t) (by omega))
  | 0, .held => met_of T 93 d_Held_told s_Held_told (He.ga K "Held") "told" rfl rfl rfl rfl T.cl_Held T.me_Held_told sc_Held_told (fun _ _ _ _ _ _ us hl => match us, hl with | [_], _ => rfl) (fun vs H Q E h => by obtain ⟨_, _, rfl, _⟩ := h; rfl) (fun _ _ _ _ _ _ _ _ _ h => by obtain ⟨_, t, _, _, z, _⟩ := h; exact absurd (dep_pos t) (by omega))
  | n + 1, .given => met_of T 45 d_Given_told s_Given_told (He.ga K "Given") "told" rfl rfl rfl rfl T.cl_Given T.me_Given_told sc_Given_told (fun _ _ _ _ _ _ us hl => match us, hl with | [_], _ => rfl) (ln_Given_told (n := n)) (bd_Given_told T n (fam_told T n))
  | n + 1, .named => met_of T 51 d_Named_told s_Named_told (He.ga K "Named") "told" rfl rfl rfl rfl T.cl_Named T.me_Named_told sc_Named_told (fun _ _ _ _ _ _ us hl => match us, hl with | [_], _ => rfl) (ln_Named_told (n := n)) (bd_Named_told T n (fam_told T n))
  | n + 1, .turned => met_of T 57 d_Turned_told s_Turned_told (He.ga K "Turned") "told" rfl rfl rfl rfl T.cl_Turned T.me_Turned_told sc_Turned_told (fun _ _ _ _ _ _ us hl => match us, hl with | [_], _ => rfl) (ln_Turned_told (n := n)) (bd_Turned_told T n (fam_told T n))
  | n + 1, .pair => met_of T 63 d_Pair_told s_Pair_told (He.ga K "Pair") "told" rfl rfl rfl rfl T.cl_Pair T.me_Pair_told sc_Pair_told (fun _ _ _ _ _ _ us hl => match us, hl with | [_], _ => rfl) (ln_Pair_told (n := n)) (bd_Pair_told T n (fam_told T n))
  | n + 1, .choice => met_of T 69 d_Choice_told s_Choice_told (He.ga K "Choice") "told" rfl rfl rfl rfl T.cl_Choice T.me_Choice_told sc_Choice_told (fun _ _ _ _ _ _ us hl => match us, hl with | [_], _ => rfl) (ln_Choice_told (n := n)) (bd_Choice_told T n (fam_told T n))
  | n + 1, .before => met_of T 75 d_Before_told s_Before_told (He.ga K "Before") "told" rfl rfl rfl rfl T.cl_Before T.me_Before_told sc_Before_told (fun _ _ _ _ _ _ us hl => match us, hl with | [_], _ => rfl) (ln_Before_told (n := n)) (bd_Before_told T n (fam_told T n))
  | n + 1, .led => met_of T 81 d_Led_told s_Led_told (He.ga K "Led") "told" rfl rfl rfl rfl T.cl_Led T.me_Led_told sc_Led_told (fun _ _ _ _ _ _ us hl => match us, hl with | [_], _ => rfl) (ln_Led_told (n := n)) (bd_Led_told T n (fam_told T n))
  | n + 1, .when => met_of T 87 d_When_told s_When_told (He.ga K "When") "told" rfl rfl rfl rfl T.cl_When T.me_When_told sc_When_told (fun _ _ _ _ _ _ us hl => match us, hl with | [_], _ => rfl) (ln_When_told (n := n)) (bd_When_told T n (fam_told T n))
  | n + 1, .held => met_of T 93 d_Held_told s_Held_told (He.ga K "Held") "told" rfl rfl rfl rfl T.cl_Held T.me_Held_told sc_Held_told (fun _ _ _ _ _ _ us hl => match us, hl with | [_], _ => rfl) (ln_Held_told (n := n)) (bd_Held_told T n (fam_told T n))
end

section
variable {P : Program} {w : World} {K : PySem.W.Frag} {mg : Str → Option Value} {base : Heap} {q : Str} {f : Addr}
section
variable {K : PySem.W.Frag} {g : TG} {tt : L2.TT} {te : TE} {vs : List Nat} {σ : L2.St} {H1 : Hp} {a : Addr} {xs : List V}
/-- a turn, the list that is built being known -/
def Turn2 (K : PySem.W.Frag) (g : TG) (tt : L2.TT) (te : TE) (vs : List Nat) (σ : L2.St) (H1 : Hp) (D : Addr) (P : Nat → List V → Hp → Prop) (i : Nat) (x : V) : Prop :=
  ∀ (acc : List V) (H : Hp) (N : VK) (S : Hp → Prop), Ext K H1 H → H D = some (.lst acc) → P i acc H → (∀ y H4, Ext K H H4 → P (i + 1) (acc ++ [y]) H4 → N y H4) → (∀ H3, Ext K H H3 → P (i + 1) acc H3 → S H3) →
    g x (wipe σ vs) H fun σ2 H2 => wipe σ2 vs = wipe σ vs ∧ tt σ2 H2 fun b H3 => if b = true then te σ2 H3 N else S H3
theorem LcI.turn2 {D : Addr} {P : Nat → List V → Hp → Prop} {i : Nat} {x : V} {H : Hp} (hD : H1 D = none) (mono : ∀ {i acc H o o'}, H D = some (.lst o) → P i acc H → P i acc (upd H D (.lst o'))) (hz : i < sizeLine) (h : LcI K H1 D P i H) (t : Turn2 K g tt te vs σ H1 D P i x) :
    g x (wipe σ vs) H fun σ2 H2 => wipe σ2 vs = wipe σ vs ∧ tt σ2 H2 fun b H3 =>
      if b = true then te σ2 H3 fun y H4 => ∃ acc, H4 D = some (.lst acc) ∧ acc.length < sizeLine ∧ LcI K H1 D P (i + 1) (upd H4 D (.lst (acc ++ [y]))) else LcI K H1 D P (i + 1) H3 := by
  obtain ⟨acc, e, hl, hn, p⟩ := h
  refine t acc H _ _ e hl p (fun y H4 e4 p4 => ⟨acc, e4.at hl, by omega, acc ++ [y], (e.trans e4).push hD (e4.at hl), upd_same, ?_, mono (e4.at hl) p4⟩) fun H3 e3 p3 => ⟨acc, e.trans e3, e3.at hl, by omega, p3⟩
  rw [List.length_append]
  exact Nat.succ_le_succ hn
theorem lcTD {Qd : Addr → Hp → Prop} (P : Addr → Nat → List V → Hp → Prop) (mono : ∀ {D i acc H o o'}, H1 D = none → H D = some (.lst o) → P D i acc H → P D i acc (upd H D (.lst o'))) (hl : SqT K H1 a xs) (hz : xs.length ≤ sizeLine)
    (h0 : ∀ D, H1 D = none → P D 0 [] (upd H1 D (.lst []))) (hs : ∀ D i x, H1 D = none → xs[i]? = some x → Turn2 K g tt te vs σ H1 D (P D) i x)
    (hd : ∀ D ys H, H1 D = none → Ext K H1 H → H D = some (.lst ys) → ys.length ≤ xs.length → P D xs.length ys H → Qd D H) :
    ∀ D, H1 D = none → ∃ W : Nat → Nat → Hp → Prop, (∃ m, W 0 m (upd H1 D (.lst []))) ∧ ∀ i m H, W i m H →
      ((Itt K a).stop i H ∧ Qd D H) ∨ ((Itt K a).go i H ∧ ∃ Nx : Hp → Prop, (∀ H', Nx H' → ∃ m', m' < m ∧ W (i + 1) m' H') ∧ ∀ x H', (Itt K a).yld i H x H' → g x (wipe σ vs) H' fun σ2 H2 => wipe σ2 vs = wipe σ vs ∧ tt σ2 H2 fun b H3 =>
        if b = true then te σ2 H3 fun y H4 => ∃ acc, H4 D = some (.lst acc) ∧ acc.length < sizeLine ∧ Nx (upd H4 D (.lst (acc ++ [y]))) else Nx H3) := fun D hD =>
  lc_tup (xs := xs) (LcI K H1 D (P D)) ⟨[], Ext.new hD _, upd_same, Nat.le_refl _, h0 D hD⟩ (fun i H _ ⟨_, e, _⟩ => e.t hl) (fun i x H hx h => h.turn2 hD (mono hD) (Nat.lt_of_lt_of_le (List.getElem?_eq_some_iff.mp hx).1 hz) (hs D i x hD hx)) fun H ⟨ys, e, h1, h2, p⟩ => hd D ys H hD e h1 h2 p
end
/-- a finished part: its object, the parts in it -/
theorem PartAt.full {K : PySem.W.Frag} {H : Hp} : ∀ {v : V} {t : Tl}, PartAt K H v t → ∃ a dx fs ks, v = .ref a ∧ H a = some (.ins (cK K t.k) dx fs) ∧ Kids t.k fs ks ∧ Paired (PartAt K H) ks t.kids ∧ fs.lookup ("inner" : Str) = none ∧ fs.lookup ("names" : Str) = none ∧ fs.lookup ("own_names" : Str) = none
  | _, .given _, ⟨a, dx, h1, h2⟩ => ⟨a, dx, _, [], h1, h2, rfl, .nil, rfl, rfl, rfl⟩
  | _, .named _, ⟨a, dx, h1, h2⟩ => ⟨a, dx, _, [], h1, h2, rfl, .nil, rfl, rfl, rfl⟩
  | _, .turned _, ⟨a, dx, k, h1, h2, h⟩ => ⟨a, dx, _, [k], h1, h2, rfl, .cons h .nil, rfl, rfl, rfl⟩
  | _, .pair _ _ _, ⟨a, dx, k1, k2, h1, h2, g1, g2⟩ => ⟨a, dx, _, [k1, k2], h1, h2, rfl, .cons g1 (.cons g2 .nil), rfl, rfl, rfl⟩
  | _, .choice _ _ _, ⟨a, dx, k0, k1, k2, h1, h2, g0, g1, g2⟩ => ⟨a, dx, _, [k0, k1, k2], h1, h2, rfl, .cons g0 (.cons g1 (.cons g2 .nil)), rfl, rfl, rfl⟩
  | _, .before _ _, ⟨a, dx, k, h1, h2, h⟩ => ⟨a, dx, _, [k], h1, h2, rfl, .cons h .nil, rfl, rfl, rfl⟩
  | _, .led _ _, ⟨a, dx, k1, k2, h1, h2, g1, g2⟩ => ⟨a, dx, _, [k1, k2], h1, h2, rfl, .cons g1 (.cons g2 .nil), rfl, rfl, rfl⟩
  | _, .when _ _, ⟨a, dx, k, h1, h2, h⟩ => ⟨a, dx, _, [k], h1, h2, rfl, .cons h .nil, rfl, rfl, rfl⟩
  | _, .held _ _ _, ⟨a, dx, k, h1, h2, h⟩ => ⟨a, dx, _, [k], h1, h2, rfl, .cons h .nil, rfl, rfl, rfl⟩
/-- a list of texts stands at v -/
def StrsAt (H : Hp) (v : V) (ns : List Str) : Prop := ∃ l, v = .ref l ∧ H l = some (.lst (ns.map V.str))
theorem names_len (t : Tl) : (t.kids.map fun p => p.names.length).sum + t.own.length = t.names.length := by
  cases t <;> simp [Tl.names, Tl.kids, Tl.own]

theorem sc_joined : FnScope ["rows", "found", "names", "name"] ["rows"] (defScope s_joined) := ⟨rfl, rfl, rfl, by decide +kernel, rfl, by decide +kernel, by decide +kernel⟩
def sp_joined (K : PySem.W.Frag) : Sp := fun vs H Q _ => ∃ (a : Addr) (ls : List V) (nss : List (List Str)), vs = [.ref a] ∧ H a = some (.lst ls) ∧ Paired (StrsAt H) ls nss ∧ (nss.map List.length).sum ≤ 1000 ∧ ∀ (p : Addr) (xs : List Str) (H' : Hp), Ext K H H' → H p = none → H' p = some (.lst (xs.map V.str)) → (∀ m, m ∈ xs ↔ ∃ ns ∈ nss, m ∈ ns) → xs.length ≤ (nss.map List.length).sum → Q (.ref p) H'
theorem ln_joined {K : PySem.W.Frag} : ∀ vs H Q E, (sp_joined K) vs H Q E → vs.length = (["rows"] : List Str).length := fun vs H Q E h => by
  obtain ⟨_, _, _, rfl, _⟩ := h
  rfl
theorem bd_joined (T : Top K mg)  : Body P w K mg base q s_joined f ["rows", "found", "names", "name"] (0) (sp_joined K) := fun cdv A outer s H vs Q E hr h => by
  have hu := hu_of hr
  obtain ⟨a, ls, nss, rfl, ha, hp, hz, q⟩ := h
  refine ⟨_, (pss_cons (ps_set (i := 1) sc_joined.nd rfl (by first | exact Or.inl rfl | exact Or.inr rfl) (pe_lst pa_nil))
        (pss_cons (ps_for PassesOwn.never rfl (pi_list (pv 0)) (pg_name (i := 2) sc_joined.nd rfl (by first | exact Or.inl rfl | exact Or.inr rfl))
          (pss_one (ps_aug (i := 1) sc_joined.nd rfl (by first | exact Or.inl rfl | exact Or.inr rfl) (pe_lc (own := [("name", 3)]) rfl sc_joined.nd (pi_list (pv 2)) (blkOk_by (own := [("name", 3)]) (N := ["rows", "found", "names", "name"]) (sc := defScope s_joined) (by decide +kernel)) (fun _ _ _ _ _ => (pg_name (i := 3) sc_joined.nd rfl (by first | exact Or.inl rfl | exact Or.inr rfl))) (fun _ _ _ _ _ => (pts_one (pt_cmpR (op_notIn_seqB (K := K) (by rfl)) (pv 3) (pv 1) (by rfl)))) (fun _ _ _ _ _ => (pv 3))) iop_ext)))
        (pss_one (ps_ret (pv 1))))), ?_⟩
  refine ⟨szk 0, fun p hp0 => ?_⟩
  have hlen := hp.length
  refine ⟨_, rfl, a, rfl, ⟨ls, .of ((Ext.new (K := K) hp0 _).at ha)⟩, for_list (xs := ls) (fun i σ H1 => ∃ xs z1 z2, σ = [some (.ref a), some (.ref p), z1, z2] ∧ Ext K H H1 ∧ H1 p = some (.lst (xs.map V.str)) ∧ (∀ m, m ∈ xs ↔ ∃ ns ∈ nss.take i, m ∈ ns) ∧ xs.length ≤ ((nss.take i).map List.length).sum) ⟨[], none, none, rfl, Ext.new hp0 _, upd_same, by simp, Nat.le_refl _⟩ (fun i σ H1 _ h => ?_) (fun i x σ H1 hx h => ?_) (fun σ H1 h => ?_)⟩
  · obtain ⟨_, _, _, _, e, _⟩ := h
    exact .of (e.at ha)
  · obtain ⟨xs, z1, z2, rfl, e, hx1, hmem, hle⟩ := h
    obtain ⟨ns, hns, l, rfl, hl⟩ := paired_get hp hx
    have hl1 := e.at hl
    have hsum : ((nss.take (i + 1)).map List.length).sum = ((nss.take i).map List.length).sum + ns.length := by rw [List.take_add_one, hns]; simp
    have hall : ((nss.take (i + 1)).map List.length).sum ≤ (nss.map List.length).sum := by
      conv => rhs; rw [← List.take_append_drop (i + 1) nss, List.map_append, List.sum_append]
      omega
    refine ⟨_, rfl, _, rfl, l, rfl, ⟨_, .of hl1⟩, lcL (xs := ns.map V.str) (fun j acc _ => acc = ((ns.take j).filter fun m => !decide (m ∈ xs)).map V.str) (fun _ h => h) (.of hl1) (by show _ ≤ 2 ^ 24; rw [List.length_map]; omega) rfl (fun j x hx acc H2 N S e2 pj hN hS => ?_) fun D ys H2 hD e2 hl2 hn2 pj => ?_⟩
    · rw [List.getElem?_map] at hx
      obtain ⟨m, hm, rfl⟩ := Option.map_eq_some_iff.mp hx
      refine ⟨rfl, ?_⟩
      refine ⟨_, rfl, _, rfl, p, xs.map V.str, rfl, .inl (.of (e2.at hx1)), rfl, flat_strs _, _, rfl, ?_⟩
      rw [if_pos rfl, inV_str]
      have hf : (ns.take (j + 1)).filter (fun m => !decide (m ∈ xs)) = (ns.take j).filter (fun m => !decide (m ∈ xs)) ++ if (!decide (m ∈ xs)) = true then [m] else [] := by
        rw [List.take_add_one, hm, List.filter_append]
        cases hd : (!decide (m ∈ xs)) <;> simp [hd]
      by_cases hc : m ∈ xs
      · refine ite_f (nf (dt hc)) (hS _ (Ext.refl K _) ?_)
        show acc = _
        rw [show acc = _ from pj, hf, if_neg (by rw [dt hc]; exact Bool.false_ne_true), List.append_nil]
      · refine ite_t (nt (df hc)) ⟨_, rfl, hN _ _ (Ext.refl K _) ?_⟩
        show _ ++ _ = _
        rw [show acc = _ from pj, hf, if_pos (nt (df hc)), List.map_append]
        rfl
    · have hlm : (ns.map V.str).length = ns.length := List.length_map ..
      have pj : ys = (ns.filter fun m => !decide (m ∈ xs)).map V.str := by
        rw [show ys = _ from pj, hlm, List.take_length]
      have hfl : (ns.filter fun m => !decide (m ∈ xs)).length ≤ ns.length := List.length_filter_le ..
      refine ⟨p, D, xs.map V.str, ys, rfl, rfl, e2.at hx1, hl2, ?_, xs ++ ns.filter (fun m => !decide (m ∈ xs)), _, _, rfl, (e.trans e2).push hp0 (e2.at hx1), ?_, fun m => ?_, ?_⟩
      · rw [pj, List.length_map, List.length_map]
        show _ ≤ 2 ^ 24
        omega
      · rw [upd_same, pj, List.map_append]
      · rw [List.mem_append, hmem m, List.take_add_one, hns]
        constructor
        · rintro (⟨k, h1, h2⟩ | h)
          · exact ⟨k, List.mem_append_left _ h1, h2⟩
          · exact ⟨ns, List.mem_append_right _ (by simp), (List.mem_filter.mp h).1⟩
        · rintro ⟨k, h1, h2⟩
          rcases List.mem_append.mp h1 with h1 | h1
          · exact .inl ⟨k, h1, h2⟩
          · have ek : k = ns := by simpa using h1
            subst ek
            by_cases hc : m ∈ xs
            · exact .inl ((hmem m).mp hc)
            · exact .inr (List.mem_filter.mpr ⟨h2, nt (df hc)⟩)
      · rw [List.length_append, hsum]
        omega
  · obtain ⟨xs, z1, z2, rfl, e, hx1, hmem, hle⟩ := h
    rw [hlen, List.take_length] at hmem hle
    exact ⟨_, rfl, q p xs H1 e hp0 hx1 hmem hle⟩
theorem ok_joined (T : Top K mg) : C8.Cal P w K mg base 1 "joined" (sp_joined K) [] :=
  cal_of T 10 d_joined s_joined "joined" rfl rfl rfl rfl T.g_joined sc_joined (fun _ _ _ _ _ _ us hl => match us, hl with | [_], _ => rfl) ln_joined (bd_joined T )
theorem sc_Part_names : FnScope ["self", "part"] ["self"] (defScope s_Part_names) := ⟨rfl, rfl, rfl, by decide +kernel, rfl, by decide +kernel, by decide +kernel⟩
def sp_Part_names (K : PySem.W.Frag) (n : Nat) (c : PK) : Sp := sp_names K (n + 1) c
theorem ln_Part_names {K : PySem.W.Frag} {n : Nat} {c : PK} : ∀ vs H Q E, (sp_Part_names K n c) vs H Q E → vs.length = (["self"] : List Str).length := fun vs H Q E h => by
  obtain ⟨_, _, rfl, _⟩ := h
  rfl
theorem bd_Part_names (T : Top K mg) (n : Nat) (c : PK) (c_joined : C8.Cal P w K mg base 1 "joined" (sp_joined K) []) (me_inner : ∀ c : PK, C8.Met P w K mg base 1 (cK K c) "inner" (sp_inner K c) []) (me_own_names : ∀ c : PK, C8.Met P w K mg base 1 (cK K c) "own_names" (sp_own K c) []) (me_names : ∀ c : PK, C8.Met P w K mg base (n + 2) (cK K c) "names" (sp_names K n c) []) : Body P w K mg base q s_Part_names f ["self", "part"] (n + 2) (sp_Part_names K n c) := fun cdv A outer s H vs Q E hr h => by
  have hu := hu_of hr
  obtain ⟨v, t, rfl, rfl, hd, h3, ht, q⟩ := h
  refine ⟨_, (pss_one (ps_ret (C8.pe_c c_joined hr (by omega) rfl (pa_cons (pe_op op_cat (pe_lc (own := [("part", 1)]) rfl sc_Part_names.nd (pi_tup (pe_poly fun c => C8.pe_mt0 (me_inner c) hr (by omega) (pv 0))) (blkOk_by (own := [("part", 1)]) (N := ["self", "part"]) (sc := defScope s_Part_names) (by decide +kernel)) (fun _ _ _ _ _ => (pg_name (i := 1) sc_Part_names.nd rfl (by first | exact Or.inl rfl | exact Or.inr rfl))) (fun _ _ _ _ _ => pts_nil) (fun _ _ _ _ _ => (pe_poly fun c => C8.pe_mt0 (me_names c) hr (by omega) (pv 1)))) (pe_lst (pa_cons (pe_poly fun c => C8.pe_mt0 (me_own_names c) hr (by omega) (pv 0)) pa_nil))) pa_nil)))), ?_⟩
  obtain ⟨a, dx, fs, ks, rfl, ha, hk, hks, n1, n2, n3⟩ := ht.full
  have hkl := hks.length
  have h3k := kid_len t
  refine ⟨t.k, _, rfl, a, dx, fs, rfl, ha, n1, a, dx, fs, ks, rfl, ha, hk, fun p hp => ⟨p, rfl, ⟨ks, .of upd_same⟩, lcTD (K := K) (H1 := upd H p (.tup ks)) (a := p) (xs := ks) (fun D i acc H1 => ∃ nss, Paired (fun v ns => ∃ l, v = .ref l ∧ l ≠ D ∧ H1 l = some (.lst (ns.map V.str))) acc nss ∧ Paired (fun (ns : List Str) (t : Tl) => (∀ m, m ∈ ns ↔ m ∈ t.names) ∧ ns.length ≤ t.names.length) nss (t.kids.take i)) ?_ (.of upd_same) (by show _ ≤ 2 ^ 24; omega) (fun D hD => ⟨[], .nil, .nil⟩) (fun D i x hD hx acc H1 N S e hDl pj hN hS => ?_) fun D ys H1 hD e hl hn pj => ?_⟩⟩
  · rintro D i acc H1 o o' _ hDl ⟨nss, h1, h2⟩
    exact ⟨nss, Paired.mapP h1 fun v ns ⟨l, e1, e2, e3⟩ => ⟨l, e1, e2, by rw [upd_ne e2]; exact e3⟩, h2⟩
  · obtain ⟨t1, ht1, hP⟩ := paired_get hks hx
    have hP1 := ((Ext.new (K := K) hp _).trans e).fr.part hP
    obtain ⟨a', dx', fs', rfl, g1, g2, g3, g4, g5, g6, g7⟩ := hP1.head
    have hd1 := kid_dep t (List.mem_of_getElem? ht1)
    obtain ⟨nss, p1, p2⟩ := pj
    refine ⟨rfl, ?_⟩
    refine ⟨t1.k, _, rfl, a', dx', fs', rfl, g1, g6, _, t1, rfl, rfl, by omega, by omega, hP1, fun l xs H2 e2 hl0 hl1 hm hle => hN _ _ e2 ⟨nss ++ [xs], ?_, paired_step p2 ht1 ⟨hm, hle⟩⟩⟩
    refine Paired.snoc (Paired.mapP p1 fun v ns ⟨l, e1, n1, e3⟩ => ⟨l, e1, n1, e2.at e3⟩) ⟨l, rfl, ?_, hl1⟩
    intro z
    rw [z, hDl] at hl0
    cases hl0
  · obtain ⟨nss, p1, p2⟩ := pj
    have p2 := paired_all p2 hkl
    have e0 : Ext K H H1 := (Ext.new hp _).trans e
    refine ⟨t.k, _, rfl, a, dx, fs, rfl, e0.at ha, n3, _, t, rfl, rfl, e0.fr.part ht, fun o ho => ⟨szk 1, fun u hu0 => ?_⟩⟩
    have e3 : Ext K H1 (upd (upd H1 o (.lst (t.own.map V.str))) u (.lst [.ref o])) := (Ext.new ho _).trans (Ext.new hu0 _)
    refine ⟨D, u, ys, [.ref o], rfl, rfl, e3.at hl, upd_same, ?_, fun z hz => ?_⟩
    · show ys.length + 1 ≤ 2 ^ 24
      omega
    have e4 := e3.trans (Ext.new hz (.lst (ys ++ [.ref o])))
    have tot : ((nss ++ [t.own]).map List.length).sum ≤ t.names.length := by
      have h1 := names_len t
      have h2 : ∀ {nss : List (List Str)} {ts : List Tl}, Paired (fun (ns : List Str) (t : Tl) => (∀ m, m ∈ ns ↔ m ∈ t.names) ∧ ns.length ≤ t.names.length) nss ts → (nss.map List.length).sum ≤ (ts.map fun p => p.names.length).sum := by
        intro nss ts h
        induction h with
        | nil => exact Nat.le_refl _
        | cons h _ ih =>
          simp only [List.map_cons, List.sum_cons]
          have := h.2
          omega
      have h3 := h2 p2
      simp only [List.map_append, List.sum_append, List.map_cons, List.map_nil, List.sum_cons, List.sum_nil]
      omega
    have h13 := sz_few h3
    have hns := names_sz t
    refine ⟨z, ys ++ [.ref o], nss ++ [t.own], rfl, upd_same, Paired.snoc (Paired.mapP p1 fun v ns ⟨l, e1, _, e5⟩ => ⟨l, e1, e4.at e5⟩) ⟨o, rfl, ?_⟩, by omega, fun r xs H2 e5 hr0 hr1 hm hle => q r xs H2 (e0.trans (e4.trans e5)) ?_ hr1 (fun m => ?_) (Nat.le_trans hle tot)⟩
    · rw [upd_ne (ne_of_none (o := .lst (t.own.map V.str)) ?_ hz), upd_ne (ne_of_none (o := .lst (t.own.map V.str)) upd_same hu0)]
      · exact upd_same
      · rw [upd_ne (ne_of_none (o := .lst (t.own.map V.str)) upd_same hu0)]
        exact upd_same
    · exact (e0.trans e4).free hr0
    · rw [hm m, names_kids]
      have h2 : ∀ {nss : List (List Str)} {ts : List Tl}, Paired (fun (ns : List Str) (t : Tl) => (∀ m, m ∈ ns ↔ m ∈ t.names) ∧ ns.length ≤ t.names.length) nss ts → ((∃ ns ∈ nss, m ∈ ns) ↔ ∃ t ∈ ts, m ∈ t.names) := by
        intro nss ts h
        induction h with
        | nil => simp
        | cons h _ ih => simp only [List.mem_cons, exists_eq_or_imp, h.1 m, ih]
      rw [← h2 p2]
      simp only [List.mem_append, List.mem_singleton, or_and_right, exists_or, exists_eq_left]
theorem fam_names (T : Top K mg) : ∀ (n : Nat) (c : PK), C8.Met P w K mg base (n + 2) (cK K c) "names" (sp_names K n c) []
  | 0, .given => met_of T 44 d_Given_names s_Part_names (He.ga K "Given") "names" rfl rfl rfl rfl T.cl_Given T.me_Given_names sc_Part_names (fun _ _ _ _ _ _ us hl => match us, hl with | [_], _ => rfl) (fun vs H Q E h => by obtain ⟨_, _, rfl, _⟩ := h; rfl) (fun _ _ _ _ _ _ _ _ _ h => by obtain ⟨_, t, _, _, z, _⟩ := h; exact absurd (dep_pos t) (by omega))
  | 0, .named => met_of T 50 d_Named_names s_Part_names (He.ga K "Named") "names" rfl rfl rfl rfl T.cl_Named T.me_Named_names sc_Part_names (fun _ _ _ _ _ _ us hl => match us, hl with | [_], _ => rfl) (fun vs H Q E h => by obtain ⟨_, _, rfl, _⟩ := h; rfl) (fun _ _ _ _ _ _ _ _ _ h => by obtain ⟨_, t, _, _, z, _⟩ := h; exact absurd (dep_pos t) (by omega))
  | 0, .turned => met_of T 56 d_Turned_names s_Part_names (He.ga K "Turned") "names" rfl rfl rfl rfl T.cl_Turned T.me_Turned_names sc_Part_names (fun _ _ _ _ _ _ us hl => match us, hl with | [_], _ => rfl) (fun vs H Q E h => by obtain ⟨_, _, rfl, _⟩ := h; rfl) (fun _ _ _ _ _ _ _ _ _ h => by obtain ⟨_, t, _, _, z, _⟩ := h; exact absurd (dep_pos t) (by omega))
  | 0, .pair => met_of T 62 d_Pair_names s_Part_names (He.ga K "Pair") "names" rfl rfl rfl rfl T.cl_Pair T.me_Pair_names sc_Part_names (fun _ _ _ _ _ _ us hl => match us, hl with | [_], _ => rfl) (fun vs H Q E h => by obtain ⟨_, _, rfl, _⟩ := h; rfl) (fun _ _ _ _ _ _ _ _ _ h => by obtain ⟨_, t, _, _, z, _⟩ := h; exact absurd (dep_pos t) (by omega))
  | 0, .choice => met_of T 68 d_Choice_names s_Part_names (He.ga K "Choice") "names" rfl rfl rfl rfl T.cl_Choice T.me_Choice_names sc_Part_names (fun _ _ _ _ _ _ us hl => match us, hl with | [_], _ => rfl) (fun vs H Q E h => by obtain ⟨_, _, rfl, _⟩ := h; rfl) (fun _ _ _ _ _ _ _ _ _ h => by obtain ⟨_, t, _, _, z, _⟩ := h; exact absurd (dep_pos t) (by omega))
  | 0, .before => met_of T 74 d_Before_names s_Part_names (He.ga K "Before") "names" rfl rfl rfl rfl T.cl_Before T.me_Before_names sc_Part_names (fun _ _ _ _ _ _ us hl => match us, hl with | [_], _ => rfl) (fun vs H Q E h => by obtain ⟨_, _, rfl, _⟩ := h; rfl) (fun _ _ _ _ _ _ _ _ _ h => by obtain ⟨_, t, _, _, z, _⟩ := h; exact absurd (dep_pos t) (by omega))
  | 0, .led => met_of T 80 d_Led_names s_Part_names (He.ga K "Led") "names" rfl rfl rfl rfl T.cl_Led T.me_Led_names sc_Part_names (fun _ _ _ _ _ _ us hl => match us, hl with | [_], _ => rfl) (fun vs H Q E h => by obtain ⟨_, _, rfl, _⟩ := h; rfl) (fun _ _ _ _ _ _ _ _ _ h => by obtain ⟨_, t, _, _, z, _⟩ := h; exact absurd (dep_pos t) (by omega))
  | 0, .when => met_of T 86 d_When_names s_Part_names (He.ga K "When") "names" rfl rfl rfl rfl T.cl_When T.me_When_names sc_Part_names (fun _ _ _ _ _ _ us hl => match us, hl with | [_], _ => rfl) (fun vs H Q E h => by obtain ⟨_, _, rfl, _⟩ := h; rfl) (fun _ _ _ _ _ _ _ _ _ h => by obtain ⟨_, t, _, _, z, _⟩ := h; exact absurd (dep_pos t) (by omega))
  | 0, .held => met_of T 92 d_Held_names s_Part_names (He.ga K "Held") "names" rfl rfl rfl rfl T.cl_Held T.me_Held_names sc_Part_names (fun _ _ _ _ _ _ us hl => match us, hl with | [_], _ => rfl) (fun vs H Q E h => by obtain ⟨_, _, rfl, _⟩ := h; rfl) (fun _ _ _ _ _ _ _ _ _ h => by obtain ⟨_, t, _, _, z, _⟩ := h; exact absurd (dep_pos t) (by omega))
  | n + 1, .given => met_of T 44 d_Given_names s_Part_names (He.ga K "Given") "names" rfl rfl rfl rfl T.cl_Given T.me_Given_names sc_Part_names (fun _ _ _ _ _ _ us hl => match us, hl with | [_], _ => rfl) (ln_Part_names (n := n)) (bd_Part_names T n .given (ok_joined T) (ok_inner T) (ok_own_names T) (fam_names T n))
  | n + 1, .named => met_of T 50 d_Named_names s_Part_names (He.ga K "Named") "names" rfl rfl rfl rfl T.cl_Named T.me_Named_names sc_Part_names (fun _ _ _ _ _ _ us hl => match us, hl with | [_], _ => rfl) (ln_Part_names (n := n)) (bd_Part_names T n .named (ok_joined T) (ok_inner T) (ok_own_names T) (fam_names T n))
  | n + 1, .turned => met_of T 56 d_Turned_names s_Part_names (He.ga K "Turned") "names" rfl rfl rfl rfl T.cl_Turned T.me_Turned_names sc_Part_names (fun _ _ _ _ _ _ us hl => match us, hl with | [_], _ => rfl) (ln_Part_names (n := n)) (bd_Part_names T n .turned (ok_joined T) (ok_inner T) (ok_own_names T) (fam_names T n))
  | n + 1, .pair => met_of T 62 d_Pair_names s_Part_names (He.ga K "Pair") "names" rfl rfl rfl rfl T.cl_Pair T.me_Pair_names sc_Part_names (fun _ _ _ _ _ _ us hl => match us, hl with | [_], _ => rfl) (ln_Part_names (n := n)) (bd_Part_names T n .pair (ok_joined T) (ok_inner T) (ok_own_names T) (fam_names T n))
  | n + 1, .choice => met_of T 68 d_Choice_names s_Part_names (He.ga K "Choice") "names" rfl rfl rfl rfl T.cl_Choice T.me_Choice_names sc_Part_names (fun _ _ _ _ _ _ us hl => match us, hl with | [_], _ => rfl) (ln_Part_names (n := n)) (bd_Part_names T n .choice (ok_joined T) (ok_inner T) (ok_own_names T) (fam_names T n))
  | n + 1, .before => met_of T 74 d_Before_names s_Part_names (He.ga K "Before") "names" rfl rfl rfl rfl T.cl_Before T.me_Before_names sc_Part_names (fun _ _ _ _ _ _ us hl => match us, hl with | [_], _ => rfl) (ln_Part_names (n := n)) (bd_Part_names T n .before (ok_joined T) (ok_inner T) (ok_own_names T) (fam_names T n))
  | n + 1, .led => met_of T 80 d_Led_names s_Part_names (He.ga K "Led") "names" rfl rfl rfl rfl T.cl_Led T.me_Led_names sc_Part_names (fun _ _ _ _ _ _ us hl => match us, hl with | [_], _ => rfl) (ln_Part_names (n := n)) (bd_Part_names T n .led (ok_joined T) (ok_inner T) (ok_own_names T) (fam_names T n))
  | n + 1, .when => met_of T 86 d_When_names s_Part_names (He.ga K "When") "names" rfl rfl rfl rfl T.cl_When T.me_When_names sc_Part_names (fun _ _ _ _ _ _ us hl => match us, hl with | [_], _ => rfl) (ln_Part_names (n := n)) (bd_Part_names T n .when (ok_joined T) (ok_inner T) (ok_own_names T) (fam_names T n))
  | n + 1, .held => met_of T 92 d_Held_names s_Part_names (He.ga K "Held") "names" rfl rfl rfl rfl T.cl_Held T.me_Held_names sc_Part_names (fun _ _ _ _ _ _ us hl => match us, hl with | [_], _ => rfl) (ln_Part_names (n := n)) (bd_Part_names T n .held (ok_joined T) (ok_inner T) (ok_own_names T) (fam_names T n))
end

section
variable {P : Program} {w : World} {K : PySem.W.Frag} {mg : Str → Option Value} {base : Heap} {q : Str} {f : Addr}

theorem sign_ne {g w : Str} (h : g ∈ signsL) (hw : w ∉ signsL) : g ≠ w := fun z => hw (z ▸ h)
theorem str_ne {a b : Str} (h : a ≠ b) : decide (V.str a = V.str b) = false := df fun z => h (V.str.inj z)
/-- part_of(told) -/
def sp_part_ofN (K : PySem.W.Frag) (n : Nat) : Sp := fun vs H Q _ => ∃ v t, vs = [v] ∧ t.ok ∧ t.dep ≤ n ∧ t.dep ≤ 3 ∧ Dp K H v t.told ∧ ∀ r H', Ext K H H' → PartAt K H' r t → Q r H'

theorem sc_part_of : FnScope ["told", "word", "one", "other"] ["told"] (defScope s_part_of) := ⟨rfl, rfl, rfl, by decide +kernel, rfl, by decide +kernel, by decide +kernel⟩
def sp_part_of (K : PySem.W.Frag) (n : Nat) : Sp := sp_part_ofN K (n + 1)
theorem ln_part_of {K : PySem.W.Frag} {n : Nat} : ∀ vs H Q E, (sp_part_of K n) vs H Q E → vs.length = (["told"] : List Str).length := fun vs H Q E h => by
  obtain ⟨_, _, rfl, _⟩ := h
  rfl
theorem bd_part_of (T : Top K mg) (n : Nat) (mk_Given : C8.Mak P w K mg base 3 "Given" (He.ga K "Given") (sp_Given_init K) []) (mk_Named : C8.Mak P w K mg base 4 "Named" (He.ga K "Named") (sp_Named_init K) []) (mk_Turned : C8.Mak P w K mg base 3 "Turned" (He.ga K "Turned") (sp_Turned_init K) []) (mk_Before : C8.Mak P w K mg base 4 "Before" (He.ga K "Before") (sp_Before_init K) []) (mk_When : C8.Mak P w K mg base 5 "When" (He.ga K "When") (sp_When_init K) []) (mk_Held : C8.Mak P w K mg base 5 "Held" (He.ga K "Held") (sp_Held_init K) []) (mk_Choice : C8.Mak P w K mg base 3 "Choice" (He.ga K "Choice") (sp_Choice_init K) []) (mk_Led : C8.Mak P w K mg base 3 "Led" (He.ga K "Led") (sp_Led_init K) []) (mk_Pair : C8.Mak P w K mg base 3 "Pair" (He.ga K "Pair") (sp_Pair_init K) []) (c_part_of : C8.Cal P w K mg base (n + 7) "part_of" (sp_part_ofN K n) []) : Body P w K mg base q s_part_of f ["told", "word", "one", "other"] (n + 7) (sp_part_of K n) := fun cdv A outer s H vs Q E hr h => by
  have hu := hu_of hr
  obtain ⟨v, t, rfl, hok, hd, h3, hv, q⟩ := h
  refine ⟨_, (pss_cons (ps_set (i := 1) sc_part_of.nd rfl (by first | exact Or.inl rfl | exact Or.inr rfl) (pe_ix ix_tup (pv 0) pe_int (fun _ _ => rfl)))
        (pss_cons (ps_if (pt_cmpR op_eq (pv 1) pe_str (nomark _)) (pss_one (ps_ret (C8.pe_mk mk_Given hr (by omega) rfl (pa_cons (pe_ix ix_tup (pv 0) pe_int (fun _ _ => rfl)) pa_nil)))) pss_nil)
        (pss_cons (ps_if (pt_cmpR op_eq (pv 1) pe_str (nomark _)) (pss_one (ps_ret (C8.pe_mk mk_Named hr (by omega) rfl (pa_cons (pe_ix ix_tup (pv 0) pe_int (fun _ _ => rfl)) pa_nil)))) pss_nil)
        (pss_cons (ps_set (i := 2) sc_part_of.nd rfl (by first | exact Or.inl rfl | exact Or.inr rfl) (C8.pe_c c_part_of hr (by omega) rfl (pa_cons (pe_ix ix_tup (pv 0) pe_int (fun _ _ => rfl)) pa_nil)))
        (pss_cons (ps_if (pt_cmpR op_eq (pv 1) pe_str (nomark _)) (pss_one (ps_ret (C8.pe_mk mk_Turned hr (by omega) rfl (pa_cons (pv 2) pa_nil)))) pss_nil)
        (pss_cons (ps_if (pt_cmpR op_eq (pv 1) pe_str (nomark _)) (pss_one (ps_ret (C8.pe_mk mk_Before hr (by omega) rfl (pa_cons (pv 2) (pa_cons (pe_ix ix_tup (pv 0) pe_int (fun _ _ => rfl)) pa_nil))))) pss_nil)
        (pss_cons (ps_if (pt_cmpR op_eq (pv 1) pe_str (nomark _)) (pss_one (ps_ret (C8.pe_mk mk_When hr (by omega) rfl (pa_cons (pv 2) (pa_cons (pe_ix ix_tup (pv 0) pe_int (fun _ _ => rfl)) pa_nil))))) pss_nil)
        (pss_cons (ps_if (pt_cmpR op_eq (pv 1) pe_str (nomark _)) (pss_one (ps_ret (C8.pe_mk mk_Held hr (by omega) rfl (pa_cons (pv 2) (pa_cons (pe_ix ix_tup (pv 0) pe_int (fun _ _ => rfl)) (pa_cons (pe_ix ix_tup (pv 0) pe_int (fun _ _ => rfl)) pa_nil)))))) pss_nil)
        (pss_cons (ps_set (i := 3) sc_part_of.nd rfl (by first | exact Or.inl rfl | exact Or.inr rfl) (C8.pe_c c_part_of hr (by omega) rfl (pa_cons (pe_ix ix_tup (pv 0) pe_int (fun _ _ => rfl)) pa_nil)))
        (pss_cons (ps_if (pt_cmpR op_eq (pv 1) pe_str (nomark _)) (pss_one (ps_ret (C8.pe_mk mk_Choice hr (by omega) rfl (pa_cons (pv 2) (pa_cons (pv 3) (pa_cons (C8.pe_c c_part_of hr (by omega) rfl (pa_cons (pe_ix ix_tup (pv 0) pe_int (fun _ _ => rfl)) pa_nil)) pa_nil)))))) pss_nil)
        (pss_cons (ps_if (pt_cmpR op_eq (pv 1) pe_str (nomark _)) (pss_one (ps_ret (C8.pe_mk mk_Led hr (by omega) rfl (pa_cons (pv 2) (pa_cons (pv 3) pa_nil))))) pss_nil)
        (pss_one (ps_ret (C8.pe_mk mk_Pair hr (by omega) rfl (pa_cons (pv 1) (pa_cons (pv 2) (pa_cons (pv 3) pa_nil))))))))))))))))), ?_⟩
  have h13 := sz_few h3
  cases t with
  | given x =>
    obtain ⟨a, x1, x2, rfl, hT, g1, g2⟩ := dp_tup2 hv
    obtain rfl := dp_str g1
    obtain rfl := dp_val g2
    refine ⟨_, rfl, a, _, 0, _, rfl, rfl, hT, rfl, ?_⟩
    refine ⟨_, rfl, rfl, _, rfl, ite_t (dt rfl) ?_⟩
    refine ⟨_, rfl, a, _, 1, _, rfl, rfl, (Ext.refl K H).fr.t hT, rfl, ?_⟩
    exact fun y0 dx hx hdx ne => ⟨y0, x, rfl, hok, dx, H, upd_same, by omega, by omega, hx, Ext.made hx hdx _ _ ne, trivial, fun H9 e9 p9 => ⟨rfl, q _ _ ((Ext.refl K H).trans e9) p9⟩⟩
  | named m =>
    obtain ⟨a, x1, x2, rfl, hT, g1, g2⟩ := dp_tup2 hv
    obtain rfl := dp_str g1
    obtain rfl := dp_str g2
    refine ⟨_, rfl, a, _, 0, _, rfl, rfl, hT, rfl, ?_⟩
    refine ⟨_, rfl, rfl, _, rfl, ite_f (str_ne (by decide +kernel)) ?_⟩
    refine ⟨_, rfl, rfl, _, rfl, ite_t (dt rfl) ?_⟩
    refine ⟨_, rfl, a, _, 1, _, rfl, rfl, (Ext.refl K H).fr.t hT, rfl, ?_⟩
    exact fun y0 dx hx hdx ne => ⟨y0, m, rfl, hok, dx, H, upd_same, by omega, by omega, hx, Ext.made hx hdx _ _ ne, trivial, fun H9 e9 p9 => ⟨rfl, q _ _ ((Ext.refl K H).trans e9) p9⟩⟩
  | turned p =>
    obtain ⟨a, x1, x2, rfl, hT, g1, g2⟩ := dp_tup2 hv
    obtain rfl := dp_str g1
    have d_p := kid_dep _ (show p ∈ (Tl.turned p).kids by simp [Tl.kids])
    refine ⟨_, rfl, a, _, 0, _, rfl, rfl, hT, rfl, ?_⟩
    refine ⟨_, rfl, rfl, _, rfl, ite_f (str_ne (by decide +kernel)) ?_⟩
    refine ⟨_, rfl, rfl, _, rfl, ite_f (str_ne (by decide +kernel)) ?_⟩
    refine ⟨_, rfl, a, _, 1, _, rfl, rfl, (Ext.refl K H).fr.t hT, rfl, _, p, rfl, hok, by omega, by omega, (Ext.refl K H).fr.dp g2 (told_noL p), fun r1 H1 e1 P1 => ?_⟩
    have E1 := (Ext.refl K H).trans e1
    refine ⟨_, rfl, rfl, _, rfl, ite_t (dt rfl) ?_⟩
    refine ⟨_, rfl, ?_⟩
    exact fun y0 dx hx hdx ne => ⟨y0, p, r1, rfl, trivial, dx, H1, upd_same, by omega, by omega, hx, Ext.made hx hdx _ _ ne, (Fr.refl _).part P1, fun H9 e9 p9 => ⟨rfl, q _ _ ((E1).trans e9) p9⟩⟩
  | pair g p r =>
    obtain ⟨a, x1, x2, x3, rfl, hT, g1, g2, g3⟩ := dp_tup3 hv
    obtain rfl := dp_str g1
    have d_p := kid_dep _ (show p ∈ (Tl.pair g p r).kids by simp [Tl.kids])
    have d_r := kid_dep _ (show r ∈ (Tl.pair g p r).kids by simp [Tl.kids])
    refine ⟨_, rfl, a, _, 0, _, rfl, rfl, hT, rfl, ?_⟩
    refine ⟨_, rfl, rfl, _, rfl, ite_f (str_ne (sign_ne hok.1 (by decide +kernel))) ?_⟩
    refine ⟨_, rfl, rfl, _, rfl, ite_f (str_ne (sign_ne hok.1 (by decide +kernel))) ?_⟩
    refine ⟨_, rfl, a, _, 1, _, rfl, rfl, (Ext.refl K H).fr.t hT, rfl, _, p, rfl, hok.2.1, by omega, by omega, (Ext.refl K H).fr.dp g2 (told_noL p), fun r1 H1 e1 P1 => ?_⟩
    have E1 := (Ext.refl K H).trans e1
    refine ⟨_, rfl, rfl, _, rfl, ite_f (str_ne (sign_ne hok.1 (by decide +kernel))) ?_⟩
    refine ⟨_, rfl, rfl, _, rfl, ite_f (str_ne (sign_ne hok.1 (by decide +kernel))) ?_⟩
    refine ⟨_, rfl, rfl, _, rfl, ite_f (str_ne (sign_ne hok.1 (by decide +kernel))) ?_⟩
    refine ⟨_, rfl, rfl, _, rfl, ite_f (str_ne (sign_ne hok.1 (by decide +kernel))) ?_⟩
    refine ⟨_, rfl, a, _, 2, _, rfl, rfl, (E1).fr.t hT, rfl, _, r, rfl, hok.2.2, by omega, by omega, (E1).fr.dp g3 (told_noL r), fun r2 H2 e2 P2 => ?_⟩
    have E2 := (E1).trans e2
    refine ⟨_, rfl, rfl, _, rfl, ite_f (str_ne (sign_ne hok.1 (by decide +kernel))) ?_⟩
    refine ⟨_, rfl, rfl, _, rfl, ite_f (str_ne (sign_ne hok.1 (by decide +kernel))) ?_⟩
    refine ⟨_, rfl, _, rfl, _, rfl, ?_⟩
    exact fun y0 dx hx hdx ne => ⟨y0, g, p, r, r1, r2, rfl, hok.1, dx, H2, upd_same, by omega, by omega, hx, Ext.made hx hdx _ _ ne, ⟨(e2.fr.trans (Fr.refl _)).part P1, (Fr.refl _).part P2⟩, fun H9 e9 p9 => ⟨rfl, q _ _ ((E2).trans e9) p9⟩⟩
  | choice o p r =>
    obtain ⟨a, x1, x2, x3, x4, rfl, hT, g1, g2, g3, g4⟩ := dp_tup4 hv
    obtain rfl := dp_str g1
    have d_o := kid_dep _ (show o ∈ (Tl.choice o p r).kids by simp [Tl.kids])
    have d_p := kid_dep _ (show p ∈ (Tl.choice o p r).kids by simp [Tl.kids])
    have d_r := kid_dep _ (show r ∈ (Tl.choice o p r).kids by simp [Tl.kids])
    refine ⟨_, rfl, a, _, 0, _, rfl, rfl, hT, rfl, ?_⟩
    refine ⟨_, rfl, rfl, _, rfl, ite_f (str_ne (by decide +kernel)) ?_⟩
    refine ⟨_, rfl, rfl, _, rfl, ite_f (str_ne (by decide +kernel)) ?_⟩
    refine ⟨_, rfl, a, _, 1, _, rfl, rfl, (Ext.refl K H).fr.t hT, rfl, _, o, rfl, hok.1, by omega, by omega, (Ext.refl K H).fr.dp g2 (told_noL o), fun r1 H1 e1 P1 => ?_⟩
    have E1 := (Ext.refl K H).trans e1
    refine ⟨_, rfl, rfl, _, rfl, ite_f (str_ne (by decide +kernel)) ?_⟩
    refine ⟨_, rfl, rfl, _, rfl, ite_f (str_ne (by decide +kernel)) ?_⟩
    refine ⟨_, rfl, rfl, _, rfl, ite_f (str_ne (by decide +kernel)) ?_⟩
    refine ⟨_, rfl, rfl, _, rfl, ite_f (str_ne (by decide +kernel)) ?_⟩
    refine ⟨_, rfl, a, _, 2, _, rfl, rfl, (E1).fr.t hT, rfl, _, p, rfl, hok.2.1, by omega, by omega, (E1).fr.dp g3 (told_noL p), fun r2 H2 e2 P2 => ?_⟩
    have E2 := (E1).trans e2
    refine ⟨_, rfl, rfl, _, rfl, ite_t (dt rfl) ?_⟩
    refine ⟨_, rfl, _, rfl, ?_⟩
    refine ⟨_, rfl, a, _, 3, _, rfl, rfl, (E2).fr.t hT, rfl, _, r, rfl, hok.2.2, by omega, by omega, (E2).fr.dp g4 (told_noL r), fun r3 H3 e3 P3 => ?_⟩
    have E3 := (E2).trans e3
    exact fun y0 dx hx hdx ne => ⟨y0, o, p, r, r1, r2, r3, rfl, trivial, dx, H3, upd_same, by omega, by omega, hx, Ext.made hx hdx _ _ ne, ⟨(e2.fr.trans (e3.fr.trans (Fr.refl _))).part P1, (e3.fr.trans (Fr.refl _)).part P2, (Fr.refl _).part P3⟩, fun H9 e9 p9 => ⟨rfl, q _ _ ((E3).trans e9) p9⟩⟩
  | before p x =>
    obtain ⟨a, x1, x2, x3, rfl, hT, g1, g2, g3⟩ := dp_tup3 hv
    obtain rfl := dp_str g1
    obtain rfl := dp_fval g3
    have d_p := kid_dep _ (show p ∈ (Tl.before p x).kids by simp [Tl.kids])
    refine ⟨_, rfl, a, _, 0, _, rfl, rfl, hT, rfl, ?_⟩
    refine ⟨_, rfl, rfl, _, rfl, ite_f (str_ne (by decide +kernel)) ?_⟩
    refine ⟨_, rfl, rfl, _, rfl, ite_f (str_ne (by decide +kernel)) ?_⟩
    refine ⟨_, rfl, a, _, 1, _, rfl, rfl, (Ext.refl K H).fr.t hT, rfl, _, p, rfl, hok.1, by omega, by omega, (Ext.refl K H).fr.dp g2 (told_noL p), fun r1 H1 e1 P1 => ?_⟩
    have E1 := (Ext.refl K H).trans e1
    refine ⟨_, rfl, rfl, _, rfl, ite_f (str_ne (by decide +kernel)) ?_⟩
    refine ⟨_, rfl, rfl, _, rfl, ite_t (dt rfl) ?_⟩
    refine ⟨_, rfl, _, rfl, a, _, 2, _, rfl, rfl, (E1).fr.t hT, rfl, ?_⟩
    exact fun y0 dx hx hdx ne => ⟨y0, p, x, r1, rfl, hok.2, dx, H1, upd_same, by omega, by omega, hx, Ext.made hx hdx _ _ ne, (Fr.refl _).part P1, fun H9 e9 p9 => ⟨rfl, q _ _ ((E1).trans e9) p9⟩⟩
  | led p r =>
    obtain ⟨a, x1, x2, x3, rfl, hT, g1, g2, g3⟩ := dp_tup3 hv
    obtain rfl := dp_str g1
    have d_p := kid_dep _ (show p ∈ (Tl.led p r).kids by simp [Tl.kids])
    have d_r := kid_dep _ (show r ∈ (Tl.led p r).kids by simp [Tl.kids])
    refine ⟨_, rfl, a, _, 0, _, rfl, rfl, hT, rfl, ?_⟩
    refine ⟨_, rfl, rfl, _, rfl, ite_f (str_ne (by decide +kernel)) ?_⟩
    refine ⟨_, rfl, rfl, _, rfl, ite_f (str_ne (by decide +kernel)) ?_⟩
    refine ⟨_, rfl, a, _, 1, _, rfl, rfl, (Ext.refl K H).fr.t hT, rfl, _, p, rfl, hok.1, by omega, by omega, (Ext.refl K H).fr.dp g2 (told_noL p), fun r1 H1 e1 P1 => ?_⟩
    have E1 := (Ext.refl K H).trans e1
    refine ⟨_, rfl, rfl, _, rfl, ite_f (str_ne (by decide +kernel)) ?_⟩
    refine ⟨_, rfl, rfl, _, rfl, ite_f (str_ne (by decide +kernel)) ?_⟩
    refine ⟨_, rfl, rfl, _, rfl, ite_f (str_ne (by decide +kernel)) ?_⟩
    refine ⟨_, rfl, rfl, _, rfl, ite_f (str_ne (by decide +kernel)) ?_⟩
    refine ⟨_, rfl, a, _, 2, _, rfl, rfl, (E1).fr.t hT, rfl, _, r, rfl, hok.2, by omega, by omega, (E1).fr.dp g3 (told_noL r), fun r2 H2 e2 P2 => ?_⟩
    have E2 := (E1).trans e2
    refine ⟨_, rfl, rfl, _, rfl, ite_f (str_ne (by decide +kernel)) ?_⟩
    refine ⟨_, rfl, rfl, _, rfl, ite_t (dt rfl) ?_⟩
    refine ⟨_, rfl, _, rfl, ?_⟩
    exact fun y0 dx hx hdx ne => ⟨y0, p, r, r1, r2, rfl, trivial, dx, H2, upd_same, by omega, by omega, hx, Ext.made hx hdx _ _ ne, ⟨(e2.fr.trans (Fr.refl _)).part P1, (Fr.refl _).part P2⟩, fun H9 e9 p9 => ⟨rfl, q _ _ ((E2).trans e9) p9⟩⟩
  | when p m =>
    obtain ⟨a, x1, x2, x3, rfl, hT, g1, g2, g3⟩ := dp_tup3 hv
    obtain rfl := dp_str g1
    obtain rfl := dp_str g3
    have d_p := kid_dep _ (show p ∈ (Tl.when p m).kids by simp [Tl.kids])
    refine ⟨_, rfl, a, _, 0, _, rfl, rfl, hT, rfl, ?_⟩
    refine ⟨_, rfl, rfl, _, rfl, ite_f (str_ne (by decide +kernel)) ?_⟩
    refine ⟨_, rfl, rfl, _, rfl, ite_f (str_ne (by decide +kernel)) ?_⟩
    refine ⟨_, rfl, a, _, 1, _, rfl, rfl, (Ext.refl K H).fr.t hT, rfl, _, p, rfl, hok.1, by omega, by omega, (Ext.refl K H).fr.dp g2 (told_noL p), fun r1 H1 e1 P1 => ?_⟩
    have E1 := (Ext.refl K H).trans e1
    refine ⟨_, rfl, rfl, _, rfl, ite_f (str_ne (by decide +kernel)) ?_⟩
    refine ⟨_, rfl, rfl, _, rfl, ite_f (str_ne (by decide +kernel)) ?_⟩
    refine ⟨_, rfl, rfl, _, rfl, ite_t (dt rfl) ?_⟩
    refine ⟨_, rfl, _, rfl, a, _, 2, _, rfl, rfl, (E1).fr.t hT, rfl, ?_⟩
    exact fun y0 dx hx hdx ne => ⟨y0, p, m, r1, rfl, hok.2, dx, H1, upd_same, by omega, by omega, hx, Ext.made hx hdx _ _ ne, (Fr.refl _).part P1, fun H9 e9 p9 => ⟨rfl, q _ _ ((E1).trans e9) p9⟩⟩
  | held p m x =>
    obtain ⟨a, x1, x2, x3, x4, rfl, hT, g1, g2, g3, g4⟩ := dp_tup4 hv
    obtain rfl := dp_str g1
    obtain rfl := dp_str g3
    obtain rfl := dp_fval g4
    have d_p := kid_dep _ (show p ∈ (Tl.held p m x).kids by simp [Tl.kids])
    refine ⟨_, rfl, a, _, 0, _, rfl, rfl, hT, rfl, ?_⟩
    refine ⟨_, rfl, rfl, _, rfl, ite_f (str_ne (by decide +kernel)) ?_⟩
    refine ⟨_, rfl, rfl, _, rfl, ite_f (str_ne (by decide +kernel)) ?_⟩
    refine ⟨_, rfl, a, _, 1, _, rfl, rfl, (Ext.refl K H).fr.t hT, rfl, _, p, rfl, hok.1, by omega, by omega, (Ext.refl K H).fr.dp g2 (told_noL p), fun r1 H1 e1 P1 => ?_⟩
    have E1 := (Ext.refl K H).trans e1
    refine ⟨_, rfl, rfl, _, rfl, ite_f (str_ne (by decide +kernel)) ?_⟩
    refine ⟨_, rfl, rfl, _, rfl, ite_f (str_ne (by decide +kernel)) ?_⟩
    refine ⟨_, rfl, rfl, _, rfl, ite_f (str_ne (by decide +kernel)) ?_⟩
    refine ⟨_, rfl, rfl, _, rfl, ite_t (dt rfl) ?_⟩
    refine ⟨_, rfl, _, rfl, a, _, 2, _, rfl, rfl, (E1).fr.t hT, rfl, _, rfl, a, _, 3, _, rfl, rfl, (E1).fr.t hT, rfl, ?_⟩
    exact fun y0 dx hx hdx ne => ⟨y0, p, m, x, r1, rfl, hok.2, dx, H1, upd_same, by omega, by omega, hx, Ext.made hx hdx _ _ ne, (Fr.refl _).part P1, fun H9 e9 p9 => ⟨rfl, q _ _ ((E1).trans e9) p9⟩⟩
theorem fam_part_of (T : Top K mg) : ∀ n : Nat, C8.Cal P w K mg base (n + 7) "part_of" (sp_part_ofN K n) []
  | 0 => cal_of T 13 d_part_of s_part_of "part_of" rfl rfl rfl rfl T.g_part_of sc_part_of (fun _ _ _ _ _ _ us hl => match us, hl with | [_], _ => rfl) (fun vs H Q E h => by obtain ⟨_, _, rfl, _⟩ := h; rfl) (fun _ _ _ _ _ _ _ _ _ h => by obtain ⟨_, t, _, _, z, _⟩ := h; exact absurd (dep_pos t) (by omega))
  | n + 1 => cal_of T 13 d_part_of s_part_of "part_of" rfl rfl rfl rfl T.g_part_of sc_part_of (fun _ _ _ _ _ _ us hl => match us, hl with | [_], _ => rfl) (ln_part_of (n := n)) (bd_part_of T n (ok_Given_init T) (ok_Named_init T) (ok_Turned_init T) (ok_Before_init T) (ok_When_init T) (ok_Held_init T) (ok_Choice_init T) (ok_Led_init T) (ok_Pair_init T) (fam_part_of T n))
end

section
variable {P : Program} {w : World} {K : PySem.W.Frag} {mg : Str → Option Value} {base : Heap} {q : Str} {f : Addr}

theorem CloAt.ext {K : PySem.W.Frag} {H H1 : Hp} {f : Addr} {a : Str} (e : Ext K H H1) (h : CloAt H f a) : CloAt H1 f a := by
  obtain ⟨c, c', h1, h2, h3⟩ := h
  exact ⟨c, c', e.at h1 (fun ps z => by unfold NdefX.FnO at z; cases z), e.at h2 (fun ps z => by unfold LamX.CodeO at z; cases z), e.at h3 (fun ps => cell_ne)⟩
theorem told_kinds {t : Tl} (hok : t.ok) : (∃ x, t = .given x) ∨ (∃ m, t = .named m) ∨ (∃ p x, t = .before p x) ∨ (∃ p m, t = .when p m) ∨ (∃ p m x, t = .held p m x) ∨
    ∃ w : Str, (w ≠ "given" ∧ w ≠ "named" ∧ w ≠ "before" ∧ w ≠ "when" ∧ w ≠ "held") ∧ 0 < t.kids.length ∧ t.told = .tuple (.str w :: t.kids.map Tl.told) ∧ (∀ f, (t.ren f).told = .tuple (.str w :: t.kids.map fun p => (p.ren f).told)) ∧ ∀ p ∈ t.kids, p.ok ∧ ∀ m ∈ p.names, m ∈ t.names := by
  cases t with
  | given x => exact .inl ⟨_, rfl⟩
  | named m => exact .inr (.inl ⟨_, rfl⟩)
  | before p x => exact .inr (.inr (.inl ⟨_, _, rfl⟩))
  | «when» p m => exact .inr (.inr (.inr (.inl ⟨_, _, rfl⟩)))
  | held p m x => exact .inr (.inr (.inr (.inr (.inl ⟨_, _, _, rfl⟩))))
  | turned p =>
    refine .inr (.inr (.inr (.inr (.inr ⟨"not", by decide +kernel, by simp [Tl.kids], rfl, fun _ => rfl, fun q hq => ?_⟩))))
    obtain rfl : q = p := by simpa [Tl.kids] using hq
    exact ⟨hok, fun m h => h⟩
  | pair g p r =>
    refine .inr (.inr (.inr (.inr (.inr ⟨g, ⟨sign_ne hok.1 (by decide +kernel), sign_ne hok.1 (by decide +kernel), sign_ne hok.1 (by decide +kernel), sign_ne hok.1 (by decide +kernel), sign_ne hok.1 (by decide +kernel)⟩, by simp [Tl.kids], rfl, fun _ => rfl, fun q hq => ?_⟩))))
    have hq : q = p ∨ q = r := by simpa [Tl.kids] using hq
    rcases hq with rfl | rfl
    · exact ⟨hok.2.1, fun m h => List.mem_append_left _ h⟩
    · exact ⟨hok.2.2, fun m h => List.mem_append_right _ h⟩
  | choice o p r =>
    refine .inr (.inr (.inr (.inr (.inr ⟨"if", by decide +kernel, by simp [Tl.kids], rfl, fun _ => rfl, fun q hq => ?_⟩))))
    have hq : q = o ∨ q = p ∨ q = r := by simpa [Tl.kids] using hq
    rcases hq with rfl | rfl | rfl
    · exact ⟨hok.1, fun m h => List.mem_append_left _ h⟩
    · exact ⟨hok.2.1, fun m h => List.mem_append_right _ (List.mem_append_left _ h)⟩
    · exact ⟨hok.2.2, fun m h => List.mem_append_right _ (List.mem_append_right _ h)⟩
  | led p r =>
    refine .inr (.inr (.inr (.inr (.inr ⟨"then", by decide +kernel, by simp [Tl.kids], rfl, fun _ => rfl, fun q hq => ?_⟩))))
    have hq : q = p ∨ q = r := by simpa [Tl.kids] using hq
    rcases hq with rfl | rfl
    · exact ⟨hok.1, fun m h => List.mem_append_left _ h⟩
    · exact ⟨hok.2, fun m h => List.mem_append_right _ h⟩
theorem dpa_get {K : PySem.W.Frag} {H : Hp} : ∀ {xs : List V} {ds : List PyData}, DpAll K H xs ds → ∀ {i : Nat} {x : V}, xs[i]? = some x → ∃ d, ds[i]? = some d ∧ Dp K H x d
  | _, _, .nil, i, x, h => by cases i <;> cases h
  | _, _, .cons h g, 0, x, e => by cases e; exact ⟨_, rfl, h⟩
  | _, _, .cons h g, i + 1, x, e => dpa_get g (i := i) e
theorem dpa_len {K : PySem.W.Frag} {H : Hp} : ∀ {xs : List V} {ds : List PyData}, DpAll K H xs ds → xs.length = ds.length
  | _, _, .nil => rfl
  | _, _, .cons _ g => congrArg Nat.succ (dpa_len g)
theorem dpa_snoc {K : PySem.W.Frag} {H : Hp} {x : V} {d : PyData} : ∀ {xs : List V} {ds : List PyData}, DpAll K H xs ds → Dp K H x d → DpAll K H (xs ++ [x]) (ds ++ [d])
  | _, _, .nil, h => .cons h .nil
  | _, _, .cons h g, q => .cons h (dpa_snoc g q)
theorem dpa_step {K : PySem.W.Frag} {H : Hp} {acc : List V} {ds : List PyData} {i : Nat} {y : V} {d : PyData} (p : DpAll K H acc (ds.take i)) (hd : ds[i]? = some d) (r : Dp K H y d) : DpAll K H (acc ++ [y]) (ds.take (i + 1)) := by
  rw [List.take_add_one, hd]
  exact dpa_snoc p r
theorem noLs_all : ∀ {ds : List PyData}, (∀ d ∈ ds, noL d = true) → noLs ds = true
  | [], _ => rfl
  | d :: ds, h => by
    show (noL d && noLs ds) = true
    rw [h d List.mem_cons_self, noLs_all fun x hx => h x (List.mem_cons_of_mem _ hx)]
    rfl
theorem sIx1 (n : Nat) : HT.sIx (n + 1) 0 (some 1) = 1 := by
  rw [show (1 : Int) = ((1 : Nat) : Int) from rfl, HT.sIx_nat]
  omega
theorem cut1 (x : V) (xs : List V) : cutV (x :: xs) (some 1) none = xs := by
  show ((x :: xs).drop (HT.sIx (xs.length + 1) 0 (some 1))).take (HT.sIx (xs.length + 1) (xs.length + 1) none - HT.sIx (xs.length + 1) 0 (some 1)) = xs
  rw [sIx1, HT.sIx_none]
  show xs.take (xs.length + 1 - 1) = xs
  rw [Nat.add_sub_cancel, List.take_length]
theorem at0 (x : V) (xs : List V) : atI (x :: xs) 0 = some x := atI_nat (j := 0) rfl
def renT (a : Str) (p : Tl) : PyData := (p.ren fun m => a ++ m).told
def sp_renamedN (K : PySem.W.Frag) (n : Nat) : Sp := fun vs H Q _ => ∃ (v : V) (t : Tl) (f : Addr) (a : Str), vs = [v, .ref f] ∧ CloAt H f a ∧ t.ok ∧ t.dep ≤ n ∧ Dp K H v t.told ∧ (∀ m ∈ t.names, a.length + m.length ≤ sizeLine) ∧ ∀ r H', Ext K H H' → Dp K H' r (t.ren fun m => a ++ m).told → Q r H'

theorem sc_renamed : FnScope ["told", "named", "word", "one"] ["told", "named"] (defScope s_renamed) := ⟨rfl, rfl, rfl, by decide +kernel, rfl, by decide +kernel, by decide +kernel⟩
def sp_renamed (K : PySem.W.Frag) (n : Nat) : Sp := sp_renamedN K (n + 1)
theorem ln_renamed {K : PySem.W.Frag} {n : Nat} : ∀ vs H Q E, (sp_renamed K n) vs H Q E → vs.length = (["told", "named"] : List Str).length := fun vs H Q E h => by
  obtain ⟨_, _, _, _, rfl, _⟩ := h
  rfl
theorem bd_renamed (T : Top K mg) (n : Nat)  (c_renamed : C8.Cal P w K mg base (n + 1) "renamed" (sp_renamedN K n) []) : Body P w K mg base q s_renamed f ["told", "named", "word", "one"] (n + 1) (sp_renamed K n) := fun cdv A outer s H vs Q E hr h => by
  have hu := hu_of hr
  obtain ⟨v, t, f, a, rfl, hc, hok, hd, hv, hle, q⟩ := h
  refine ⟨_, (pss_cons (ps_set (i := 2) sc_renamed.nd rfl (by first | exact Or.inl rfl | exact Or.inr rfl) (pe_ix ix_tup (pv 0) pe_int (fun _ _ => rfl)))
        (pss_cons (ps_if (pt_cmpR op_eq (pv 2) pe_str (nomark _)) (pss_one (ps_ret (pv 0))) pss_nil)
        (pss_cons (ps_if (pt_cmpR op_eq (pv 2) pe_str (nomark _)) (pss_one (ps_ret (pe_tup (pa_cons (pv 2) (pa_cons (pe_clo 1 hr (pa_cons (pe_ix ix_tup (pv 0) pe_int (fun _ _ => rfl)) pa_nil)) pa_nil))))) pss_nil)
        (pss_cons (ps_if (pt_cmpR op_eq (pv 2) pe_str (nomark _)) (pss_one (ps_ret (pe_tup (pa_cons (pv 2) (pa_cons (C8.pe_c c_renamed hr (by omega) rfl (pa_cons (pe_ix ix_tup (pv 0) pe_int (fun _ _ => rfl)) (pa_cons (pv 1) pa_nil))) (pa_cons (pe_ix ix_tup (pv 0) pe_int (fun _ _ => rfl)) pa_nil)))))) pss_nil)
        (pss_cons (ps_if (pt_cmpR op_in_seq (pv 2) (pe_tup (pa_cons pe_str (pa_cons pe_str pa_nil))) (by rfl)) (pss_one (ps_ret (pe_op op_catA (pe_tup (pa_cons (pv 2) (pa_cons (C8.pe_c c_renamed hr (by omega) rfl (pa_cons (pe_ix ix_tup (pv 0) pe_int (fun _ _ => rfl)) (pa_cons (pv 1) pa_nil))) (pa_cons (pe_clo 1 hr (pa_cons (pe_ix ix_tup (pv 0) pe_int (fun _ _ => rfl)) pa_nil)) pa_nil)))) (pe_slice sl_tupA (pv 0) (po_some pe_int) po_none)))) pss_nil)
        (pss_one (ps_ret (pe_op op_catA (pe_tup (pa_cons (pv 2) pa_nil)) (pe_callTy call_tuple_of (by rfl) T.n_tuple (by decide +kernel) (pa_cons (pe_lc (own := [("one", 3)]) rfl sc_renamed.nd (pi_tup (pe_slice sl_tupA (pv 0) (po_some pe_int) po_none)) (blkOk_by (own := [("one", 3)]) (N := ["told", "named", "word", "one"]) (sc := defScope s_renamed) (by decide +kernel)) (fun _ _ _ _ _ => (pg_name (i := 3) sc_renamed.nd rfl (by first | exact Or.inl rfl | exact Or.inr rfl))) (fun _ _ _ _ _ => pts_nil) (fun _ _ _ _ _ => (C8.pe_c c_renamed hr (by omega) rfl (pa_cons (pv 3) (pa_cons (pv 1) pa_nil))))) pa_nil)))))))))), ?_⟩
  rcases told_kinds hok with ⟨x, rfl⟩ | ⟨m, rfl⟩ | ⟨p, x, rfl⟩ | ⟨p, m, rfl⟩ | ⟨p, m, x, rfl⟩ | ⟨w0, hw, hk0, e1, e2, hsub⟩
  · obtain ⟨a0, x1, x2, rfl, hT, g1, g2⟩ := dp_tup2 hv
    obtain rfl := dp_str g1
    refine ⟨_, rfl, a0, _, 0, _, rfl, rfl, hT, rfl, ?_⟩
    refine ⟨_, rfl, rfl, _, rfl, ite_t (dt rfl) ?_⟩
    exact ⟨_, rfl, q _ _ (Ext.refl K H) hv⟩
  · obtain ⟨a0, x1, x2, rfl, hT, g1, g2⟩ := dp_tup2 hv
    obtain rfl := dp_str g1
    obtain rfl := dp_str g2
    refine ⟨_, rfl, a0, _, 0, _, rfl, rfl, hT, rfl, ?_⟩
    refine ⟨_, rfl, rfl, _, rfl, ite_f (str_ne (by decide +kernel)) ?_⟩
    refine ⟨_, rfl, rfl, _, rfl, ite_t (dt rfl) ?_⟩
    refine ⟨_, rfl, f, a, rfl, hc, _, rfl, a0, _, 1, _, rfl, rfl, hT, rfl, m, rfl, hc, hle m (List.mem_singleton.mpr rfl), szk 2, fun z hz => ?_⟩
    exact q _ _ (Ext.new hz _) (.tup (.of upd_same) (.cons (.str _) (.cons (.str _) .nil)))
  · obtain ⟨a0, x1, x2, x3, rfl, hT, g1, g2, g3⟩ := dp_tup3 hv
    obtain rfl := dp_str g1
    obtain rfl := dp_fval g3
    have d_p := kid_dep _ (show p ∈ (Tl.before p x).kids by simp [Tl.kids])
    have hsub : ∀ m ∈ p.names, m ∈ (Tl.before p x).names := fun m h => h
    refine ⟨_, rfl, a0, _, 0, _, rfl, rfl, hT, rfl, ?_⟩
    refine ⟨_, rfl, rfl, _, rfl, ite_f (str_ne (by decide +kernel)) ?_⟩
    refine ⟨_, rfl, rfl, _, rfl, ite_f (str_ne (by decide +kernel)) ?_⟩
    refine ⟨_, rfl, rfl, _, rfl, ite_t (dt rfl) ?_⟩
    refine ⟨_, rfl, ?_⟩
    refine ⟨_, rfl, a0, _, 1, _, rfl, rfl, (Ext.refl K H).fr.t hT, rfl, _, rfl, _, p, f, a, rfl, hc.ext (K := K) ((Ext.refl K H)), hok.1, by omega, (Ext.refl K H).fr.dp g2 (told_noL p), fun m hm => hle m (hsub m hm), fun r1 H1 e1 d1 => ?_⟩
    refine ⟨_, rfl, a0, _, 2, _, rfl, rfl, e1.fr.t hT, rfl, szk 3, fun z hz => ?_⟩
    exact q _ _ (e1.trans (Ext.new hz _)) (.tup (.of upd_same) (.cons (.str _) (.cons ((Fr.new hz _).dp d1 (told_noL _)) (.cons (dp_fv x) .nil))))
  · obtain ⟨a0, x1, x2, x3, rfl, hT, g1, g2, g3⟩ := dp_tup3 hv
    obtain rfl := dp_str g1
    obtain rfl := dp_str g3
    have d_p := kid_dep _ (show p ∈ (Tl.when p m).kids by simp [Tl.kids])
    have hsub : ∀ k ∈ p.names, k ∈ (Tl.when p m).names := fun m h => List.mem_append_left _ h
    refine ⟨_, rfl, a0, _, 0, _, rfl, rfl, hT, rfl, ?_⟩
    refine ⟨_, rfl, rfl, _, rfl, ite_f (str_ne (by decide +kernel)) ?_⟩
    refine ⟨_, rfl, rfl, _, rfl, ite_f (str_ne (by decide +kernel)) ?_⟩
    refine ⟨_, rfl, rfl, _, rfl, ite_f (str_ne (by decide +kernel)) ?_⟩
    refine ⟨_, rfl, szk 2, fun o1 ho1 => ⟨o1, [("when" : Str), "held"].map V.str, rfl, .inr (.of upd_same), rfl, rfl, _, rfl, ?_⟩⟩
    rw [if_neg Bool.false_ne_true, inV_str]
    refine ite_t (dt (by decide +kernel)) ?_
    have E0 : Ext K H (upd H o1 _) := Ext.new ho1 (.tup ([("when" : Str), "held"].map V.str))
    refine ⟨_, rfl, ?_⟩
    refine ⟨_, rfl, a0, _, 1, _, rfl, rfl, E0.fr.t hT, rfl, _, rfl, _, p, f, a, rfl, hc.ext (K := K) (E0), hok.1, by omega, E0.fr.dp g2 (told_noL p), fun m hm => hle m (hsub m hm), fun r1 H1 e1 d1 => ?_⟩
    have E1 := E0.trans e1
    refine ⟨f, a, rfl, hc.ext E1, _, rfl, a0, _, 2, _, rfl, rfl, E1.fr.t hT, rfl, m, rfl, hc.ext E1, hle m (List.mem_append_right _ (List.mem_singleton.mpr rfl)), szk 3, fun z hz => ?_⟩
    have E2 := E1.trans (Ext.new hz (.tup [V.str "when", r1, .str (a ++ m)]))
    refine ⟨_, rfl, 3, rfl, a0, _, rfl, E2.fr.t hT, (fun h => absurd h.1 (by show ¬ HT.sIx 3 0 (some 3) = 0; decide)), fun _ y hy => ?_⟩
    have E3 := E2.trans (Ext.new hy (.tup (cutV [V.str "when", x2, .str m] (some 3) none)))
    refine ⟨z, y, _, [], rfl, rfl, .of ((Ext.new (K := K) hy _).at upd_same), .of upd_same, szk 3, (fun h => absurd h (by simp)), (fun _ _ => q _ _ E3 (.tup (.of ((Ext.new (K := K) hy _).at upd_same)) (.cons (.str _) (.cons (((Fr.new hz _).trans (Fr.new hy _)).dp d1 (told_noL _)) (.cons (.str _) .nil))))), fun _ h => absurd rfl h⟩
  · obtain ⟨a0, x1, x2, x3, x4, rfl, hT, g1, g2, g3, g4⟩ := dp_tup4 hv
    obtain rfl := dp_str g1
    obtain rfl := dp_str g3
    obtain rfl := dp_fval g4
    have d_p := kid_dep _ (show p ∈ (Tl.held p m x).kids by simp [Tl.kids])
    have hsub : ∀ k ∈ p.names, k ∈ (Tl.held p m x).names := fun m h => List.mem_append_left _ h
    refine ⟨_, rfl, a0, _, 0, _, rfl, rfl, hT, rfl, ?_⟩
    refine ⟨_, rfl, rfl, _, rfl, ite_f (str_ne (by decide +kernel)) ?_⟩
    refine ⟨_, rfl, rfl, _, rfl, ite_f (str_ne (by decide +kernel)) ?_⟩
    refine ⟨_, rfl, rfl, _, rfl, ite_f (str_ne (by decide +kernel)) ?_⟩
    refine ⟨_, rfl, szk 2, fun o1 ho1 => ⟨o1, [("when" : Str), "held"].map V.str, rfl, .inr (.of upd_same), rfl, rfl, _, rfl, ?_⟩⟩
    rw [if_neg Bool.false_ne_true, inV_str]
    refine ite_t (dt (by decide +kernel)) ?_
    have E0 : Ext K H (upd H o1 _) := Ext.new ho1 (.tup ([("when" : Str), "held"].map V.str))
    refine ⟨_, rfl, ?_⟩
    refine ⟨_, rfl, a0, _, 1, _, rfl, rfl, E0.fr.t hT, rfl, _, rfl, _, p, f, a, rfl, hc.ext (K := K) (E0), hok.1, by omega, E0.fr.dp g2 (told_noL p), fun m hm => hle m (hsub m hm), fun r1 H1 e1 d1 => ?_⟩
    have E1 := E0.trans e1
    refine ⟨f, a, rfl, hc.ext E1, _, rfl, a0, _, 2, _, rfl, rfl, E1.fr.t hT, rfl, m, rfl, hc.ext E1, hle m (List.mem_append_right _ (List.mem_singleton.mpr rfl)), szk 3, fun z hz => ?_⟩
    have E2 := E1.trans (Ext.new hz (.tup [V.str "held", r1, .str (a ++ m)]))
    refine ⟨_, rfl, 3, rfl, a0, _, rfl, E2.fr.t hT, (fun h => absurd h.1 (by show ¬ HT.sIx 4 0 (some 3) = 0; decide)), fun _ y hy => ?_⟩
    have E3 := E2.trans (Ext.new hy (.tup (cutV [V.str "held", x2, .str m, fvV x] (some 3) none)))
    refine ⟨z, y, _, [fvV x], rfl, rfl, .of ((Ext.new (K := K) hy _).at upd_same), .of upd_same, szk 4, (fun h => absurd h (by simp)), (fun _ h => absurd h (by simp)), fun _ _ u hu => ?_⟩
    exact q _ _ (E3.trans (Ext.new hu _)) (.tup (.of upd_same) (.cons (.str _) (.cons ((((Fr.new hz _).trans (Fr.new hy _)).trans (Fr.new hu _)).dp d1 (told_noL _)) (.cons (.str _) (.cons (dp_fv x) .nil)))))
  · rw [e1] at hv
    obtain ⟨a0, xs, rfl, hT, gs⟩ := dp_tup hv
    cases gs with
    | @cons x1 xs _ _ g1 gs =>
    obtain rfl := dp_str g1
    have hlx := dpa_len gs
    rw [List.length_map] at hlx
    have hk3 := kid_len t
    refine ⟨_, rfl, a0, _, 0, _, rfl, rfl, hT, at0 _ _, ?_⟩
    refine ⟨_, rfl, rfl, _, rfl, ite_f (str_ne (hw.1)) ?_⟩
    refine ⟨_, rfl, rfl, _, rfl, ite_f (str_ne (hw.2.1)) ?_⟩
    refine ⟨_, rfl, rfl, _, rfl, ite_f (str_ne (hw.2.2.1)) ?_⟩
    refine ⟨_, rfl, szk 2, fun o1 ho1 => ⟨o1, [("when" : Str), "held"].map V.str, rfl, .inr (.of upd_same), rfl, rfl, _, rfl, ?_⟩⟩
    rw [if_neg Bool.false_ne_true, inV_str]
    refine ite_f (df (by simp [hw.2.2.2.1, hw.2.2.2.2])) ?_
    have E0 : Ext K H (upd H o1 _) := Ext.new ho1 (.tup ([("when" : Str), "held"].map V.str))
    refine ⟨_, rfl, szk 1, fun z hz => ?_⟩
    have E1 := E0.trans (Ext.new hz (.tup [V.str w0]))
    refine ⟨_, rfl, 1, rfl, a0, _, rfl, E1.fr.t hT, (fun h => absurd h.1 ?_), fun _ y hy => ?_⟩
    · show ¬ HT.sIx (xs.length + 1) 0 (some 1) = 0
      rw [sIx1]
      decide
    rw [cut1]
    have E2 := E1.trans (Ext.new hy (.tup xs))
    have gs2 := E2.fr.dpa gs (noLs_all fun d hd => by obtain ⟨p, _, rfl⟩ := List.mem_map.mp hd; exact told_noL p)
    have hno : ∀ i, noLs ((t.kids.map (renT a)).take i) = true := fun i => noLs_all fun d hd => by obtain ⟨p, _, rfl⟩ := List.mem_map.mp (List.mem_of_mem_take hd); exact told_noL _
    refine ⟨y, rfl, ⟨xs, .of upd_same⟩, lcT (K := K) (a := y) (xs := xs) (fun i acc H1 => DpAll K H1 acc ((t.kids.map (renT a)).take i)) (fun e h => Fr.dpa e h (hno _)) (.of upd_same) (by show _ ≤ 2 ^ 24; omega) .nil (fun i x hx acc H1 N S e pj hN hS => ?_) fun D ys H1 hD e hl hn pj => ?_⟩
    · obtain ⟨d, hd1, hd2⟩ := dpa_get gs2 hx
      rw [List.getElem?_map] at hd1
      obtain ⟨p, hp, rfl⟩ := Option.map_eq_some_iff.mp hd1
      have hpm := List.mem_of_getElem? hp
      have hpd := kid_dep t hpm
      refine ⟨rfl, ?_⟩
      refine ⟨_, rfl, _, rfl, x, p, f, a, rfl, hc.ext (E2.trans e), (hsub p hpm).1, by omega, e.fr.dp hd2 (told_noL p), fun m hm => hle m ((hsub p hpm).2 m hm), fun r1 H2 e2 d2 => hN _ _ e2 (dpa_step (e2.fr.dpa pj (hno _)) (by rw [List.getElem?_map, hp]; rfl) d2)⟩
    · rw [hlx, List.take_of_length_le (by rw [List.length_map]; exact Nat.le_refl _)] at pj
      have hly := dpa_len pj
      rw [List.length_map] at hly
      refine ⟨D, ys, rfl, .inl ⟨.of hl, fun b hb => ?_⟩⟩
      refine ⟨z, b, _, ys, rfl, rfl, .of ((((Ext.new (K := K) hy _).trans e).trans (Ext.new hb _)).at upd_same), .of upd_same, ?_, (fun h => absurd h (by simp)), (fun _ h => ?_), fun _ _ u hu => ?_⟩
      · show 1 + ys.length ≤ 2 ^ 24
        omega
      · rw [h] at hly
        have : 0 = t.kids.length := hly
        omega
      · refine q _ _ (((E2.trans e).trans (Ext.new hb _)).trans (Ext.new hu _)) ?_
        rw [e2]
        exact .tup (.of upd_same) (.cons (.str _) (((Fr.new hb _).trans (Fr.new hu _)).dpa pj (noLs_all fun d hd => by obtain ⟨p, _, rfl⟩ := List.mem_map.mp hd; exact told_noL _)))
theorem fam_renamed (T : Top K mg) : ∀ n : Nat, C8.Cal P w K mg base (n + 1) "renamed" (sp_renamedN K n) []
  | 0 => cal_of T 14 d_renamed s_renamed "renamed" rfl rfl rfl rfl T.g_renamed sc_renamed (fun _ _ _ _ _ _ us hl => match us, hl with | [_, _], _ => rfl) (fun vs H Q E h => by obtain ⟨_, _, _, _, rfl, _⟩ := h; rfl) (fun _ _ _ _ _ _ _ _ _ h => by obtain ⟨_, t, _, _, _, _, _, z, _⟩ := h; exact absurd (dep_pos t) (by omega))
  | n + 1 => cal_of T 14 d_renamed s_renamed "renamed" rfl rfl rfl rfl T.g_renamed sc_renamed (fun _ _ _ _ _ _ us hl => match us, hl with | [_, _], _ => rfl) (ln_renamed (n := n)) (bd_renamed T n (fam_renamed T n))
end

section
variable {P : Program} {w : World} {K : PySem.W.Frag} {mg : Str → Option Value} {base : Heap} {q : Str} {f : Addr}
/-! ### sheets -/
inductive IK where
  | truth | number | stretch (i j : Int)
structure Inp where
  nm : Str
  kind : IK
inductive Ln where
  | row (nm : Str) (tr : Bool) (p : Tl) (on : Option Str)
  | use (bs : List Str) (k : Nat) (ps : List Tl) (on : Option Str)
structure Sh where
  nm : Str
  ins : List Inp
  outs : List Str
  lns : List Ln
/-- an input or a line -/
inductive Al where
  | inp (i : Inp)
  | ln (l : Ln)
def trS (b : Bool) : Str := if b then "truth" else "number"
def IK.isT : IK → Bool
  | .truth => true
  | _ => false
def IK.okk : IK → Prop
  | .stretch i j => -128 ≤ i ∧ i ≤ j ∧ j ≤ 127
  | _ => True
def Ln.on : Ln → Option Str
  | .row _ _ _ o => o
  | .use _ _ _ o => o
def Ln.borne : Ln → List Str
  | .row n _ _ _ => [n]
  | .use bs _ _ _ => bs
def Ln.isT : Ln → Bool
  | .row _ t _ _ => t
  | .use _ _ _ _ => false
def Ln.eqs : Ln → List Tl
  | .row _ _ p _ => [p]
  | .use _ _ ps _ => ps
def Al.on : Al → Option Str
  | .inp _ => none
  | .ln l => l.on
def Al.borne : Al → List Str
  | .inp i => [i.nm]
  | .ln l => l.borne
def Al.isT : Al → Bool
  | .inp i => i.kind.isT
  | .ln l => l.isT
def Sh.all (s : Sh) : List Al := s.ins.map .inp ++ s.lns.map .ln
def Sh.names (s : Sh) : List Str := s.all.flatMap Al.borne
def KindAt (K : PySem.W.Frag) (H : Hp) : V → IK → Prop
  | v, .truth => v = .str "truth"
  | v, .number => v = .str "number"
  | v, .stretch i j => ∃ a, v = .ref a ∧ SqT K H a [.int i, .int j]
def InputAt (K : PySem.W.Frag) (H : Hp) (v : V) (i : Inp) : Prop := ∃ a dx kv, v = .ref a ∧ H a = some (.ins (He.ga K "Input") dx [("name", .str i.nm), ("kind", kv), ("on", .non)]) ∧ KindAt K H kv i.kind
/-- the names that a use binds: a tuple, its object known -/
def BndAt (H : Hp) (bt : Addr) (bs : List Str) : Prop := ∃ o : Obj, o.dict = none ∧ H bt = some (.frz o (.tup (bs.map V.str)))
theorem BndAt.t {K : PySem.W.Frag} {H : Hp} {bt : Addr} {bs : List Str} (h : BndAt H bt bs) : SqT K H bt (bs.map V.str) := by
  obtain ⟨o, _, h⟩ := h
  exact .inl (.inr ⟨o, h⟩)
theorem Fr.bnd {H H1 : Hp} {bt : Addr} {bs : List Str} (e : Fr H H1) (h : BndAt H bt bs) : BndAt H1 bt bs := by
  obtain ⟨o, h1, h2⟩ := h
  exact ⟨o, h1, e _ _ h2 rfl⟩
theorem frz_ne {H : Hp} {a r C dx : Addr} {fs : List (Str × V)} {o : Obj} {u : HO} (ha : H a = some (.ins C dx fs)) (hr : H r = some (.frz o u)) : r ≠ a := fun z => by
  rw [z, ha] at hr
  cases hr
def LineAt (K : PySem.W.Frag) (ns : List Str) (H : Hp) : V → Ln → Prop
  | v, .row nm tr p on => ∃ a dx pv, v = .ref a ∧ H a = some (.ins (He.ga K "Row") dx [("name", .str nm), ("kind", .str (trS tr)), ("part", pv), ("on", onV on)]) ∧ PartAt K H pv p
  | v, .use bs k ps on => ∃ (a dx bt pt : Addr) (pvs : List V) (m : Str), v = .ref a ∧ H a = some (.ins (He.ga K "Use") dx [("binds", .ref bt), ("module", .str m), ("parts", .ref pt), ("on", onV on)]) ∧ ns[k]? = some m ∧ BndAt H bt bs ∧ H pt = some (.tup pvs) ∧ Paired (PartAt K H) pvs ps
def AlAt (K : PySem.W.Frag) (ns : List Str) (H : Hp) : V → Al → Prop
  | v, .inp i => InputAt K H v i
  | v, .ln l => LineAt K ns H v l
def SheetAt (K : PySem.W.Frag) (ns : List Str) (H : Hp) (v : V) (s : Sh) : Prop := ∃ (a dx it ot lt : Addr) (ivs lvs : List V), v = .ref a ∧ H a = some (.ins (He.ga K "Sheet") dx [("name", .str s.nm), ("inputs", .ref it), ("outputs", .ref ot), ("lines", .ref lt)]) ∧
  H it = some (.tup ivs) ∧ Paired (InputAt K H) ivs s.ins ∧ H ot = some (.tup (s.outs.map V.str)) ∧ H lt = some (.tup lvs) ∧ Paired (LineAt K ns H) lvs s.lns
def BookAt (K : PySem.W.Frag) (H : Hp) (v : V) (S : List Sh) : Prop := ∃ (a dx st : Addr) (svs : List V), v = .ref a ∧ H a = some (.ins (He.ga K "Book") dx [("sheets", .ref st)]) ∧ H st = some (.tup svs) ∧ Paired (SheetAt K (S.map Sh.nm) H) svs S
section
variable {K : PySem.W.Frag} {ns : List Str} {H H1 : Hp} {v : V}
theorem Fr.kind (e : Fr H H1) : ∀ {k : IK}, KindAt K H v k → KindAt K H1 v k
  | .truth, h => h
  | .number, h => h
  | .stretch _ _, ⟨a, h1, h2⟩ => ⟨a, h1, e.t h2⟩
theorem Fr.input (e : Fr H H1) {i : Inp} (h : InputAt K H v i) : InputAt K H1 v i := by
  obtain ⟨a, dx, kv, h1, h2, h3⟩ := h
  exact ⟨a, dx, kv, h1, e _ _ h2 rfl, e.kind h3⟩
theorem Fr.line (e : Fr H H1) : ∀ {l : Ln}, LineAt K ns H v l → LineAt K ns H1 v l
  | .row _ _ _ _, ⟨a, dx, pv, h1, h2, h3⟩ => ⟨a, dx, pv, h1, e _ _ h2 rfl, e.part h3⟩
  | .use _ _ _ _, ⟨a, dx, bt, pt, pvs, m, h1, h2, h3, h4, h5, h6⟩ => ⟨a, dx, bt, pt, pvs, m, h1, e _ _ h2 rfl, h3, e.bnd h4, e _ _ h5 rfl, Paired.mapP h6 fun _ _ z => e.part z⟩
theorem Fr.al (e : Fr H H1) : ∀ {l : Al}, AlAt K ns H v l → AlAt K ns H1 v l
  | .inp _, h => e.input h
  | .ln _, h => e.line h
theorem Fr.sheet (e : Fr H H1) {s : Sh} (h : SheetAt K ns H v s) : SheetAt K ns H1 v s := by
  obtain ⟨a, dx, it, ot, lt, ivs, lvs, h1, h2, h3, h4, h5, h6, h7⟩ := h
  exact ⟨a, dx, it, ot, lt, ivs, lvs, h1, e _ _ h2 rfl, e _ _ h3 rfl, Paired.mapP h4 fun _ _ z => e.input z, e _ _ h5 rfl, e _ _ h6 rfl, Paired.mapP h7 fun _ _ z => e.line z⟩
theorem Fr.book (e : Fr H H1) {S : List Sh} (h : BookAt K H v S) : BookAt K H1 v S := by
  obtain ⟨a, dx, st, svs, h1, h2, h3, h4⟩ := h
  exact ⟨a, dx, st, svs, h1, e _ _ h2 rfl, e _ _ h3 rfl, Paired.mapP h4 fun _ _ z => e.sheet z⟩
end
/-! ### chains of ons -/
/-- by L: what names a truth bears, under which on -/
inductive ChainE (L : List (Str × Bool × Option Str)) : Nat → Option Str → Prop
  | nil : ChainE L 0 none
  | cons {n : Nat} {o : Str} {o' : Option Str} : (o, true, o') ∈ L → ChainE L n o' → ChainE L (n + 1) (some o)
def Sh.tri (s : Sh) : List (Str × Bool × Option Str) := s.all.flatMap fun a => a.borne.map fun n => (n, a.isT, a.on)
theorem tri_names (s : Sh) : s.tri.map (·.1) = s.names := by
  unfold Sh.tri Sh.names
  induction s.all with
  | nil => rfl
  | cons a l ih => simp only [List.flatMap_cons, List.map_append, ih, List.map_map]; congr 1; exact (List.map_congr_left fun _ _ => rfl).trans (List.map_id _)
theorem nodup_fun {β : Type} {L : List (Str × β)} : (L.map (·.1)).Nodup → ∀ {o : Str} {x y : β}, (o, x) ∈ L → (o, y) ∈ L → x = y := by
  induction L with
  | nil => intro _ o x y h; cases h
  | cons p L ih =>
    intro hn o x y h1 h2
    rw [List.map_cons, List.nodup_cons] at hn
    rcases List.mem_cons.mp h1 with e1 | h1
    · rcases List.mem_cons.mp h2 with e2 | h2
      · rw [← e1] at e2
        exact ((Prod.mk.inj e2).2).symm
      · exact absurd (List.mem_map.mpr ⟨_, h2, by rw [← e1]⟩) hn.1
    · rcases List.mem_cons.mp h2 with e2 | h2
      · exact absurd (List.mem_map.mpr ⟨_, h1, by rw [← e2]⟩) hn.1
      · exact ih hn.2 h1 h2
theorem ChainE.uniq {L : List (Str × Bool × Option Str)} (hn : (L.map (·.1)).Nodup) : ∀ {n m : Nat} {o : Option Str}, ChainE L n o → ChainE L m o → n = m
  | _, _, _, .nil, .nil => rfl
  | _, _, _, .cons h1 c1, .cons h2 c2 => by
    have e := nodup_fun hn h1 h2
    rw [(Prod.mk.inj e).2] at c1
    exact congrArg Nat.succ (c1.uniq hn c2)
theorem mem_tri {s : Sh} {a : Al} {n : Str} (ha : a ∈ s.all) (hn : n ∈ a.borne) : (n, a.isT, a.on) ∈ s.tri := List.mem_flatMap.mpr ⟨a, ha, List.mem_map.mpr ⟨n, hn, rfl⟩⟩
/-- its class -/
inductive LK where
  | inp | row | use
def LK.nm : LK → Str
  | .inp => "Input"
  | .row => "Row"
  | .use => "Use"
abbrev lK (K : PySem.W.Frag) (c : LK) : Addr := He.ga K c.nm
def Al.c : Al → LK
  | .inp _ => .inp
  | .ln (.row _ _ _ _) => .row
  | .ln (.use _ _ _ _) => .use
theorem AlAt.head {K : PySem.W.Frag} {ns : List Str} {H : Hp} : ∀ {v : V} {a : Al}, AlAt K ns H v a → ∃ x dx fs, v = .ref x ∧ H x = some (.ins (lK K a.c) dx fs) ∧ fs.lookup ("on" : Str) = some (onV a.on) ∧ fs.lookup ("borne" : Str) = none ∧ fs.lookup ("equations" : Str) = none ∧ fs.lookup ("is_truth" : Str) = none
  | _, .inp _, ⟨a, dx, kv, h1, h2, _⟩ => ⟨a, dx, _, h1, h2, rfl, rfl, rfl, rfl⟩
  | _, .ln (.row _ _ _ _), ⟨a, dx, pv, h1, h2, _⟩ => ⟨a, dx, _, h1, h2, rfl, rfl, rfl, rfl⟩
  | _, .ln (.use _ _ _ _), ⟨a, dx, bt, pt, pvs, m, h1, h2, _⟩ => ⟨a, dx, _, h1, h2, rfl, rfl, rfl, rfl⟩
def sp_borne (K : PySem.W.Frag) (c : LK) : Sp := fun vs H Q _ => ∃ v al ns, vs = [v] ∧ al.c = c ∧ AlAt K ns H v al ∧ ∀ p H', Ext K H H' → SqT K H' p (al.borne.map V.str) → Q (.ref p) H'
def sp_eqs (K : PySem.W.Frag) (c : LK) : Sp := fun vs H Q _ => ∃ v l ns, vs = [v] ∧ (Al.ln l).c = c ∧ LineAt K ns H v l ∧ ∀ p xs H', Ext K H H' → SqT K H' p xs → Paired (PartAt K H') xs l.eqs → Q (.ref p) H'
def sp_isT (K : PySem.W.Frag) (c : LK) : Sp := fun vs H Q _ => ∃ v al ns, vs = [v] ∧ al.c = c ∧ AlAt K ns H v al ∧ al.isT = true ∧ Q (.bl true) H
theorem c_inp {a : Al} (h : a.c = .inp) : ∃ i, a = .inp i := by
  cases a with
  | inp i => exact ⟨_, rfl⟩
  | ln l => cases l <;> cases h
theorem c_row {a : Al} (h : a.c = .row) : ∃ n t p o, a = .ln (.row n t p o) := by
  cases a with
  | inp i => cases h
  | ln l => cases l with
    | row n t p o => exact ⟨_, _, _, _, rfl⟩
    | use => cases h
theorem c_use {a : Al} (h : a.c = .use) : ∃ b k p o, a = .ln (.use b k p o) := by
  cases a with
  | inp i => cases h
  | ln l => cases l with
    | row n t p o => cases h
    | use => exact ⟨_, _, _, _, rfl⟩
section
variable {K : PySem.W.Frag} {mg : Str → Option Value}
theorem Top.clL (T : Top K mg) (c : LK) : Cls K (lK K c) := match c with
  | .inp => T.cl_Input | .row => T.cl_Row | .use => T.cl_Use
theorem Top.naO (T : Top K mg) (c : LK) : NoAttr K (lK K c) "on" := match c with
  | .inp => T.na_Input_on | .row => T.na_Row_on | .use => T.na_Use_on
end
theorem tuple_any {K : PySem.W.Frag} {H : Hp} {p : Addr} {ys : List V} {Qd : Addr → Hp → Prop} (h : H p = some (.lst ys) ∨ H p = some (.tup ys)) (q : ∀ r H', Ext K H H' → H' r = some (.tup ys) → Qd r H') :
    ∃ p' ys', [V.ref p] = [.ref p'] ∧ ((SqL K H p' ys' ∧ ∀ l, H l = none → Qd l (upd H l (.tup ys'))) ∨ (SqT K H p' ys' ∧ Qd p' H)) := by
  rcases h with h | h
  · exact ⟨p, ys, rfl, .inl ⟨.of h, fun l hl => q l _ (Ext.new hl _) upd_same⟩⟩
  · exact ⟨p, ys, rfl, .inr ⟨.of h, q p H (Ext.refl K H) h⟩⟩
theorem tup_ne {H : Hp} {a r C dx : Addr} {fs : List (Str × V)} {xs : List V} (ha : H a = some (.ins C dx fs)) (hr : H r = some (.tup xs)) : r ≠ a := fun z => by
  rw [z, ha] at hr
  cases hr
/-- tuple(xs), a list's or a tuple's: a tuple of the same things -/
def rTupA (K : PySem.W.Frag) : List V → Hp → VK → Prop := fun xs H Q => ∃ p ys, xs = [V.ref p] ∧ (H p = some (.lst ys) ∨ H p = some (.tup ys)) ∧ ∀ r H', Ext K H H' → H' r = some (.tup ys) → Q (.ref r) H'
theorem call_tuple_any {X : Cx} : CallR X (.type "tuple") (rTupA X.K) := by
  intro pins s σ H xs us Q I r h
  obtain ⟨p, ys, e, h1, q⟩ := h
  refine call_tuple_of pins s σ H xs us Q I r ?_
  rw [e]
  exact tuple_any (Qd := fun r H' => Q (.ref r) H') h1 q
def rTupF (K : PySem.W.Frag) : List V → Hp → VK → Prop := fun xs H Q => ∃ p ys, xs = [V.ref p] ∧ SqL K H p ys ∧ ∀ r (H' : Hp) (o : Obj), Ext K H H' → H r = none → o.dict = none → H' r = some (.frz o (.tup ys)) → Q (.ref r) H'
theorem call_tuple_frzE {X : Cx} : CallR X (.type "tuple") (rTupF X.K) := by
  intro pins s σ H xs us Q I r h
  obtain ⟨p, ys, e, h1, q⟩ := h
  refine call_tuple_frz pins s σ H xs us Q I r ?_
  exact ⟨p, ys, e, h1, fun l o ho hl => q l _ o (Ext.new hl _) hl ho upd_same⟩

theorem sc_Line_borne : FnScope ["self"] ["self"] (defScope s_Line_borne) := ⟨rfl, rfl, rfl, by decide +kernel, rfl, by decide +kernel, by decide +kernel⟩
def sp_Line_borne (K : PySem.W.Frag) (c : LK) : Sp := fun vs H Q E => sp_borne K c vs H Q E ∧ c ≠ .use
theorem ln_Line_borne {K : PySem.W.Frag} {c : LK} : ∀ vs H Q E, (sp_Line_borne K c) vs H Q E → vs.length = (["self"] : List Str).length := fun vs H Q E h => by
  obtain ⟨⟨_, _, _, rfl, _⟩, _⟩ := h
  rfl
theorem bd_Line_borne (T : Top K mg) (c : LK)  : Body P w K mg base q s_Line_borne f ["self"] (0) (sp_Line_borne K c) := fun cdv A outer s H vs Q E hr h => by
  have hu := hu_of hr
  obtain ⟨⟨v, al, ns, rfl, rfl, hv, q⟩, hc⟩ := h
  refine ⟨_, (pss_one (ps_ret (pe_tup (pa_cons (pe_fld (pv 0) rfl) pa_nil)))), ?_⟩
  cases hh : al.c with
  | inp =>
    obtain ⟨i, rfl⟩ := c_inp hh
    obtain ⟨a, dx, kv, rfl, ha, _⟩ := hv
    exact ⟨_, rfl, a, _, dx, _, _, rfl, ha, T.cl_Input, T.na_Input_name, rfl, szk 1, fun p hp => q p _ (Ext.new hp _) (.of upd_same)⟩
  | row =>
    obtain ⟨n, t, p, o, rfl⟩ := c_row hh
    obtain ⟨a, dx, kv, rfl, ha, _⟩ := hv
    exact ⟨_, rfl, a, _, dx, _, _, rfl, ha, T.cl_Row, T.na_Row_name, rfl, szk 1, fun p hp => q p _ (Ext.new hp _) (.of upd_same)⟩
  | use => exact absurd hh hc
theorem sc_Use_borne : FnScope ["self"] ["self"] (defScope s_Use_borne) := ⟨rfl, rfl, rfl, by decide +kernel, rfl, by decide +kernel, by decide +kernel⟩
def sp_Use_borne (K : PySem.W.Frag) : Sp := sp_borne K .use
theorem ln_Use_borne {K : PySem.W.Frag} : ∀ vs H Q E, (sp_Use_borne K) vs H Q E → vs.length = (["self"] : List Str).length := fun vs H Q E h => by
  obtain ⟨_, _, _, rfl, _⟩ := h
  rfl
theorem bd_Use_borne (T : Top K mg)  : Body P w K mg base q s_Use_borne f ["self"] (0) (sp_Use_borne K) := fun cdv A outer s H vs Q E hr h => by
  have hu := hu_of hr
  obtain ⟨v, al, ns, rfl, hh, hv, q⟩ := h
  refine ⟨_, (pss_one (ps_ret (pe_fld (pv 0) rfl))), ?_⟩
  obtain ⟨b, k, p, o, rfl⟩ := c_use hh
  obtain ⟨a, dx, bt, pt, pvs, m, rfl, ha, hm, hb, hp, hps⟩ := hv
  exact ⟨_, rfl, a, _, dx, _, _, rfl, ha, T.cl_Use, T.na_Use_binds, rfl, q bt _ (Ext.refl K H) hb.t⟩
theorem ok_Use_borne (T : Top K mg) : C8.Met P w K mg base 1 (He.ga K "Use") "borne" (sp_Use_borne K) [] :=
  met_of T 103 d_Use_borne s_Use_borne (He.ga K "Use") "borne" rfl rfl rfl rfl T.cl_Use T.me_Use_borne sc_Use_borne (fun _ _ _ _ _ _ us hl => match us, hl with | [_], _ => rfl) ln_Use_borne (bd_Use_borne T )
theorem ok_borne (T : Top K mg) : ∀ c : LK, C8.Met P w K mg base 1 (lK K c) "borne" (sp_borne K c) []
  | .inp => met_of T 95 d_Input_borne s_Line_borne (He.ga K "Input") "borne" rfl rfl rfl rfl T.cl_Input T.me_Input_borne sc_Line_borne (fun _ _ _ _ _ _ us hl => match us, hl with | [_], _ => rfl) (fun vs H Q E h => by obtain ⟨_, _, _, rfl, _⟩ := h; rfl) (fun a b c d e f g h i j => bd_Line_borne T .inp a b c d e f g h i ⟨j, nofun⟩)
  | .row => met_of T 99 d_Row_borne s_Line_borne (He.ga K "Row") "borne" rfl rfl rfl rfl T.cl_Row T.me_Row_borne sc_Line_borne (fun _ _ _ _ _ _ us hl => match us, hl with | [_], _ => rfl) (fun vs H Q E h => by obtain ⟨_, _, _, rfl, _⟩ := h; rfl) (fun a b c d e f g h i j => bd_Line_borne T .row a b c d e f g h i ⟨j, nofun⟩)
  | .use => ok_Use_borne T
theorem sc_Row_equations : FnScope ["self"] ["self"] (defScope s_Row_equations) := ⟨rfl, rfl, rfl, by decide +kernel, rfl, by decide +kernel, by decide +kernel⟩
def sp_Row_equations (K : PySem.W.Frag) : Sp := sp_eqs K .row
theorem ln_Row_equations {K : PySem.W.Frag} : ∀ vs H Q E, (sp_Row_equations K) vs H Q E → vs.length = (["self"] : List Str).length := fun vs H Q E h => by
  obtain ⟨_, _, _, rfl, _⟩ := h
  rfl
theorem bd_Row_equations (T : Top K mg)  : Body P w K mg base q s_Row_equations f ["self"] (0) (sp_Row_equations K) := fun cdv A outer s H vs Q E hr h => by
  have hu := hu_of hr
  obtain ⟨v, l, ns, rfl, hh, hv, q⟩ := h
  refine ⟨_, (pss_one (ps_ret (pe_tup (pa_cons (pe_fld (pv 0) rfl) pa_nil)))), ?_⟩
  obtain ⟨n, t, p, o, e⟩ := c_row hh
  cases e
  obtain ⟨a, dx, pv, rfl, ha, hp⟩ := hv
  exact ⟨_, rfl, a, _, dx, _, _, rfl, ha, T.cl_Row, T.na_Row_part, rfl, szk 1, fun p hp0 => q p _ _ (Ext.new hp0 _) (.of upd_same) (.cons ((Fr.new hp0 _).part hp) .nil)⟩
theorem ok_Row_equations (T : Top K mg) : C8.Met P w K mg base 1 (He.ga K "Row") "equations" (sp_Row_equations K) [] :=
  met_of T 100 d_Row_equations s_Row_equations (He.ga K "Row") "equations" rfl rfl rfl rfl T.cl_Row T.me_Row_equations sc_Row_equations (fun _ _ _ _ _ _ us hl => match us, hl with | [_], _ => rfl) ln_Row_equations (bd_Row_equations T )
theorem sc_Use_equations : FnScope ["self"] ["self"] (defScope s_Use_equations) := ⟨rfl, rfl, rfl, by decide +kernel, rfl, by decide +kernel, by decide +kernel⟩
def sp_Use_equations (K : PySem.W.Frag) : Sp := sp_eqs K .use
theorem ln_Use_equations {K : PySem.W.Frag} : ∀ vs H Q E, (sp_Use_equations K) vs H Q E → vs.length = (["self"] : List Str).length := fun vs H Q E h => by
  obtain ⟨_, _, _, rfl, _⟩ := h
  rfl
theorem bd_Use_equations (T : Top K mg)  : Body P w K mg base q s_Use_equations f ["self"] (0) (sp_Use_equations K) := fun cdv A outer s H vs Q E hr h => by
  have hu := hu_of hr
  obtain ⟨v, l, ns, rfl, hh, hv, q⟩ := h
  refine ⟨_, (pss_one (ps_ret (pe_fld (pv 0) rfl))), ?_⟩
  obtain ⟨b, k, p, o, e⟩ := c_use hh
  cases e
  obtain ⟨a, dx, bt, pt, pvs, m, rfl, ha, hm, hb, hp, hps⟩ := hv
  exact ⟨_, rfl, a, _, dx, _, _, rfl, ha, T.cl_Use, T.na_Use_parts, rfl, q pt _ _ (Ext.refl K H) (.of hp) hps⟩
theorem ok_Use_equations (T : Top K mg) : C8.Met P w K mg base 1 (He.ga K "Use") "equations" (sp_Use_equations K) [] :=
  met_of T 104 d_Use_equations s_Use_equations (He.ga K "Use") "equations" rfl rfl rfl rfl T.cl_Use T.me_Use_equations sc_Use_equations (fun _ _ _ _ _ _ us hl => match us, hl with | [_], _ => rfl) ln_Use_equations (bd_Use_equations T )
theorem sc_Line_equations : FnScope ["self"] ["self"] (defScope s_Line_equations) := ⟨rfl, rfl, rfl, by decide +kernel, rfl, by decide +kernel, by decide +kernel⟩
theorem ok_equations (T : Top K mg) : ∀ c : LK, C8.Met P w K mg base 1 (lK K c) "equations" (sp_eqs K c) []
  | .inp => met_of T 96 d_Input_equations s_Line_equations (He.ga K "Input") "equations" rfl rfl rfl rfl T.cl_Input T.me_Input_equations (N := ["self"]) sc_Line_equations (fun _ _ _ _ _ _ us hl => match us, hl with | [_], _ => rfl) (fun vs H Q E h => by obtain ⟨_, _, _, rfl, _⟩ := h; rfl) (fun _ _ _ _ _ _ _ _ _ h => by obtain ⟨_, l, _, _, z, _⟩ := h; cases l <;> cases z)
  | .row => ok_Row_equations T
  | .use => ok_Use_equations T
theorem sc_Line_is_truth : FnScope ["self"] ["self"] (defScope s_Line_is_truth) := ⟨rfl, rfl, rfl, by decide +kernel, rfl, by decide +kernel, by decide +kernel⟩
def sp_Line_is_truth (K : PySem.W.Frag) (c : LK) : Sp := fun vs H Q E => sp_isT K c vs H Q E
theorem ln_Line_is_truth {K : PySem.W.Frag} {c : LK} : ∀ vs H Q E, (sp_Line_is_truth K c) vs H Q E → vs.length = (["self"] : List Str).length := fun vs H Q E h => by
  obtain ⟨_, _, _, rfl, _⟩ := h
  rfl
theorem bd_Line_is_truth (T : Top K mg) (c : LK)  : Body P w K mg base q s_Line_is_truth f ["self"] (0) (sp_Line_is_truth K c) := fun cdv A outer s H vs Q E hr h => by
  have hu := hu_of hr
  obtain ⟨v, al, ns, rfl, rfl, hv, ht, q⟩ := h
  refine ⟨_, (pss_one (ps_ret (pe_cmpR (op_eqD hr.units) (pe_fld (pv 0) rfl) pe_str (nomark _)))), ?_⟩
  have hs : SeqAt.shaped (.str "truth") = true := by decide +kernel
  have he : PyData.eqv (.str "truth") (.str "truth") = true := by decide +kernel
  cases hh : al.c with
  | inp =>
    obtain ⟨i, rfl⟩ := c_inp hh
    obtain ⟨a, dx, kv, rfl, ha, hk⟩ := hv
    have ek : i.kind = .truth := by
      have ht : i.kind.isT = true := ht
      cases hik : i.kind with
      | truth => rfl
      | number => rw [hik] at ht; cases ht
      | stretch => rw [hik] at ht; cases ht
    rw [ek] at hk
    obtain rfl : kv = .str "truth" := hk
    refine ⟨_, rfl, a, _, dx, _, _, rfl, ha, T.cl_Input, T.na_Input_kind, rfl, _, _, .str _, .str _, hs, hs, ?_⟩
    rw [he]
    exact q
  | row =>
    obtain ⟨n, t, p, o, rfl⟩ := c_row hh
    obtain ⟨a, dx, pv, rfl, ha, _⟩ := hv
    obtain rfl : t = true := ht
    refine ⟨_, rfl, a, _, dx, _, _, rfl, ha, T.cl_Row, T.na_Row_kind, rfl, _, _, .str _, .str _, hs, hs, ?_⟩
    show Q (.bl (PyData.eqv (.str "truth") (.str "truth"))) H
    rw [he]
    exact q
  | use =>
    obtain ⟨b, k, p, o, rfl⟩ := c_use hh
    cases ht
theorem sc_Use_is_truth : FnScope ["self"] ["self"] (defScope s_Use_is_truth) := ⟨rfl, rfl, rfl, by decide +kernel, rfl, by decide +kernel, by decide +kernel⟩
theorem ok_is_truth (T : Top K mg) : ∀ c : LK, C8.Met P w K mg base 1 (lK K c) "is_truth" (sp_isT K c) []
  | .inp => met_of T 97 d_Input_is_truth s_Line_is_truth (He.ga K "Input") "is_truth" rfl rfl rfl rfl T.cl_Input T.me_Input_is_truth sc_Line_is_truth (fun _ _ _ _ _ _ us hl => match us, hl with | [_], _ => rfl) (fun vs H Q E h => by obtain ⟨_, _, _, rfl, _⟩ := h; rfl) (bd_Line_is_truth T .inp)
  | .row => met_of T 101 d_Row_is_truth s_Line_is_truth (He.ga K "Row") "is_truth" rfl rfl rfl rfl T.cl_Row T.me_Row_is_truth sc_Line_is_truth (fun _ _ _ _ _ _ us hl => match us, hl with | [_], _ => rfl) (fun vs H Q E h => by obtain ⟨_, _, _, rfl, _⟩ := h; rfl) (bd_Line_is_truth T .row)
  | .use => met_of T 105 d_Use_is_truth s_Use_is_truth (He.ga K "Use") "is_truth" rfl rfl rfl rfl T.cl_Use T.me_Use_is_truth (N := ["self"]) sc_Use_is_truth (fun _ _ _ _ _ _ us hl => match us, hl with | [_], _ => rfl) (fun vs H Q E h => by obtain ⟨_, _, _, rfl, _⟩ := h; rfl) (fun _ _ _ _ _ _ _ _ _ h => by obtain ⟨_, al, _, _, z, _, t, _⟩ := h; obtain ⟨_, _, _, _, rfl⟩ := c_use z; cases t)
theorem sc_Input_init : FnScope ["self", "name", "kind", "on"] ["self", "name", "kind", "on"] (defScope s_Input_init) := ⟨rfl, rfl, rfl, by decide +kernel, rfl, by decide +kernel, by decide +kernel⟩
def sp_Input_init (K : PySem.W.Frag) : Sp := fun vs H Q _ => ∃ (a : Addr) (i : Inp) (kv : V), vs = [.ref a, .str i.nm, kv, .non] ∧ Nm i.nm ∧ i.kind.okk ∧ ∃ (dx : Addr) (Hb : Hp), H a = some (.ins (He.ga K "Input") dx []) ∧ Hb a = none ∧ Ext K Hb H ∧ KindAt K Hb kv i.kind ∧ ∀ H', Ext K Hb H' → InputAt K H' (.ref a) i → Q .non H'
theorem ln_Input_init {K : PySem.W.Frag} : ∀ vs H Q E, (sp_Input_init K) vs H Q E → vs.length = (["self", "name", "kind", "on"] : List Str).length := fun vs H Q E h => by
  obtain ⟨_, _, _, rfl, _⟩ := h
  rfl
theorem bd_Input_init (T : Top K mg) (c_need_names : C8.Cal P w K mg base 4 "need_names" (sp_need_names K) []) (c_is_stretch : C8.Cal P w K mg base 2 "is_stretch" (sp_is_stretch K) []) : Body P w K mg base q s_Input_init f ["self", "name", "kind", "on"] (4) (sp_Input_init K) := fun cdv A outer s H vs Q E hr h => by
  have hu := hu_of hr
  obtain ⟨a, ⟨nm, kind⟩, kv, rfl, hn, hok, dx, Hb, ha, hb, he, hk, q⟩ := h
  refine ⟨_, (pss_cons (ps_expr (C8.pe_c c_need_names hr (by omega) rfl (pa_cons (pe_lst (pa_cons (pv 1) pa_nil)) (pa_cons (pv 3) pa_nil))))
        (pss_cons (ps_if (PW.pt (pw_and (pt_cmpR (op_notInT (u65 hr)) (pv 2) (pe_tup (pa_cons pe_str (pa_cons pe_str pa_nil))) (by rfl)) (pw_and1 (pt_not (pt_val (C8.pe_c c_is_stretch hr (by omega) rfl (pa_cons (pv 2) pa_nil))))))) pss_never pss_nil)
        (pss_cons (ps_fld (pv 0) (pv 1) rfl)
        (pss_cons (ps_fld (pv 0) (pv 2) rfl)
        (pss_one (ps_fld (pv 0) (pv 3) rfl)))))), ?_⟩
  refine ⟨_, rfl, szk 1, fun l hl => ⟨_, rfl, l, [nm], none, rfl, .of upd_same, (fun n h => by rw [List.mem_singleton.mp h]; exact hn), nofun, fun H1 e1 => ?_⟩⟩
  have E1 : Ext K H H1 := (Ext.new hl _).trans e1
  have hk1 := (he.trans E1).fr.kind hk
  refine ⟨_, rfl, szk 2, fun t ht => ?_⟩
  have E2 := E1.trans (Ext.new ht (.tup [.str "truth", .str "number"]))
  have hds : Dp K (upd H1 t (.tup [.str "truth", .str "number"])) (.ref t) (.tuple [.str "truth", .str "number"]) := .tup (.of upd_same) (.cons (.str _) (.cons (.str _) .nil))
  have hs2 : SeqAt.shaped (.tuple [.str "truth", .str "number"]) = true := by decide +kernel
  cases kind with
  | truth =>
    obtain rfl : kv = .str "truth" := hk
    refine ⟨.str "truth", _, .str _, hds, by decide +kernel, hs2, _, rfl, ite_f (by decide +kernel) (ite_f rfl ?_)⟩
    have ha0 := E2.at ha
    have he0 := he.trans E2
    refine ⟨_, rfl, _, rfl, a, _, dx, _, rfl, ha0, T.cl_Input, T.na_Input_name, by show (0 : Nat) < 1000; decide, ?_⟩
    generalize hG0 : upd _ a _ = G0
    have ha1 : G0 a = some (.ins (He.ga K "Input") dx [("name", .str nm)]) := by rw [← hG0]; exact upd_same
    have he1 : Ext K Hb G0 := by rw [← hG0]; exact he0.put hb ha0 trivial _
    refine ⟨_, rfl, _, rfl, a, _, dx, _, rfl, ha1, T.cl_Input, T.na_Input_kind, by show (1 : Nat) < 1000; decide, ?_⟩
    generalize hG1 : upd _ a _ = G1
    have ha2 : G1 a = some (.ins (He.ga K "Input") dx [("name", .str nm), ("kind", .str "truth")]) := by rw [← hG1]; exact upd_same
    have he2 : Ext K Hb G1 := by rw [← hG1]; exact he1.put hb ha1 trivial _
    refine ⟨_, rfl, _, rfl, a, _, dx, _, rfl, ha2, T.cl_Input, T.na_Input_on, by show (2 : Nat) < 1000; decide, ?_⟩
    generalize hG2 : upd _ a _ = G2
    have ha3 : G2 a = some (.ins (He.ga K "Input") dx [("name", .str nm), ("kind", .str "truth"), ("on", .non)]) := by rw [← hG2]; exact upd_same
    have he3 : Ext K Hb G2 := by rw [← hG2]; exact he2.put hb ha2 trivial _
    exact q _ he3 ⟨a, dx, _, rfl, ha3, rfl⟩
  | number =>
    obtain rfl : kv = .str "number" := hk
    refine ⟨.str "number", _, .str _, hds, by decide +kernel, hs2, _, rfl, ite_f (by decide +kernel) (ite_f rfl ?_)⟩
    have ha0 := E2.at ha
    have he0 := he.trans E2
    refine ⟨_, rfl, _, rfl, a, _, dx, _, rfl, ha0, T.cl_Input, T.na_Input_name, by show (0 : Nat) < 1000; decide, ?_⟩
    generalize hG0 : upd _ a _ = G0
    have ha1 : G0 a = some (.ins (He.ga K "Input") dx [("name", .str nm)]) := by rw [← hG0]; exact upd_same
    have he1 : Ext K Hb G0 := by rw [← hG0]; exact he0.put hb ha0 trivial _
    refine ⟨_, rfl, _, rfl, a, _, dx, _, rfl, ha1, T.cl_Input, T.na_Input_kind, by show (1 : Nat) < 1000; decide, ?_⟩
    generalize hG1 : upd _ a _ = G1
    have ha2 : G1 a = some (.ins (He.ga K "Input") dx [("name", .str nm), ("kind", .str "number")]) := by rw [← hG1]; exact upd_same
    have he2 : Ext K Hb G1 := by rw [← hG1]; exact he1.put hb ha1 trivial _
    refine ⟨_, rfl, _, rfl, a, _, dx, _, rfl, ha2, T.cl_Input, T.na_Input_on, by show (2 : Nat) < 1000; decide, ?_⟩
    generalize hG2 : upd _ a _ = G2
    have ha3 : G2 a = some (.ins (He.ga K "Input") dx [("name", .str nm), ("kind", .str "number"), ("on", .non)]) := by rw [← hG2]; exact upd_same
    have he3 : Ext K Hb G2 := by rw [← hG2]; exact he2.put hb ha2 trivial _
    exact q _ he3 ⟨a, dx, _, rfl, ha3, rfl⟩
  | stretch i j =>
    obtain ⟨ka, rfl, hka⟩ := hk
    have hka2 := (he.trans E2).fr.t hka
    refine ⟨.tuple [.int i, .int j], _, .tup hka2 (.cons (.int i) (.cons (.int j) .nil)), hds, ?_, hs2, _, rfl, ite_t ?_ ⟨_, rfl, ka, i, j, rfl, hka2, hok.1, hok.2.1, hok.2.2, true, rfl, ite_f rfl ?_⟩⟩
    · rfl
    · rfl
    have ha0 := E2.at ha
    have he0 := he.trans E2
    refine ⟨_, rfl, _, rfl, a, _, dx, _, rfl, ha0, T.cl_Input, T.na_Input_name, by show (0 : Nat) < 1000; decide, ?_⟩
    generalize hG0 : upd _ a _ = G0
    have ha1 : G0 a = some (.ins (He.ga K "Input") dx [("name", .str nm)]) := by rw [← hG0]; exact upd_same
    have he1 : Ext K Hb G0 := by rw [← hG0]; exact he0.put hb ha0 trivial _
    refine ⟨_, rfl, _, rfl, a, _, dx, _, rfl, ha1, T.cl_Input, T.na_Input_kind, by show (1 : Nat) < 1000; decide, ?_⟩
    generalize hG1 : upd _ a _ = G1
    have ha2 : G1 a = some (.ins (He.ga K "Input") dx [("name", .str nm), ("kind", .ref ka)]) := by rw [← hG1]; exact upd_same
    have he2 : Ext K Hb G1 := by rw [← hG1]; exact he1.put hb ha1 trivial _
    refine ⟨_, rfl, _, rfl, a, _, dx, _, rfl, ha2, T.cl_Input, T.na_Input_on, by show (2 : Nat) < 1000; decide, ?_⟩
    generalize hG2 : upd _ a _ = G2
    have ha3 : G2 a = some (.ins (He.ga K "Input") dx [("name", .str nm), ("kind", .ref ka), ("on", .non)]) := by rw [← hG2]; exact upd_same
    have he3 : Ext K Hb G2 := by rw [← hG2]; exact he2.put hb ha2 trivial _
    exact q _ he3 ⟨a, dx, _, rfl, ha3, ka, rfl, he3.fr.t hka⟩
theorem ok_Input_init (T : Top K mg) : C8.Mak P w K mg base 5 "Input" (He.ga K "Input") (sp_Input_init K) [] :=
  mak_of T 94 d_Input_init s_Input_init "Input" rfl rfl T.g_Input T.mk_Input sc_Input_init (.inr ⟨rfl, fun _ _ _ _ _ _ _ us its hl hi => match us, its, hl, hi with | [_, _, _, _], [_], _, _ => ⟨_, rfl, rfl⟩⟩) ln_Input_init (bd_Input_init T (ok_need_names T) (ok_is_stretch T))
theorem sc_Row_init : FnScope ["self", "name", "kind", "part", "on"] ["self", "name", "kind", "part", "on"] (defScope s_Row_init) := ⟨rfl, rfl, rfl, by decide +kernel, rfl, by decide +kernel, by decide +kernel⟩
def sp_Row_init (K : PySem.W.Frag) : Sp := fun vs H Q _ => ∃ (a : Addr) (nm : Str) (tr : Bool) (kp : V) (p : Tl) (on : Option Str), vs = [.ref a, .str nm, .str (trS tr), kp, onV on] ∧ Nm nm ∧ (∀ o, on = some o → Nm o) ∧ ∃ (dx : Addr) (Hb : Hp), H a = some (.ins (He.ga K "Row") dx []) ∧ Hb a = none ∧ Ext K Hb H ∧ PartAt K Hb kp p ∧ ∀ H', Ext K Hb H' → (∀ ns, LineAt K ns H' (.ref a) (.row nm tr p on)) → Q .non H'
theorem ln_Row_init {K : PySem.W.Frag} : ∀ vs H Q E, (sp_Row_init K) vs H Q E → vs.length = (["self", "name", "kind", "part", "on"] : List Str).length := fun vs H Q E h => by
  obtain ⟨_, _, _, _, _, _, rfl, _⟩ := h
  rfl
theorem bd_Row_init (T : Top K mg) (c_need_names : C8.Cal P w K mg base 4 "need_names" (sp_need_names K) []) : Body P w K mg base q s_Row_init f ["self", "name", "kind", "part", "on"] (4) (sp_Row_init K) := fun cdv A outer s H vs Q E hr h => by
  have hu := hu_of hr
  obtain ⟨a, nm, tr, kp, p, on, rfl, hn, ho, dx, Hb, ha, hb, he, hp, q⟩ := h
  refine ⟨_, (pss_cons (ps_expr (C8.pe_c c_need_names hr (by omega) rfl (pa_cons (pe_lst (pa_cons (pv 1) pa_nil)) (pa_cons (pv 4) pa_nil))))
        (pss_cons (ps_if (pt_cmpR op_notIn_seq (pv 2) (pe_tup (pa_cons pe_str (pa_cons pe_str pa_nil))) (by rfl)) pss_never pss_nil)
        (pss_cons (ps_fld (pv 0) (pv 1) rfl)
        (pss_cons (ps_fld (pv 0) (pv 2) rfl)
        (pss_cons (ps_fld (pv 0) (pv 3) rfl)
        (pss_one (ps_fld (pv 0) (pv 4) rfl))))))), ?_⟩
  refine ⟨_, rfl, szk 1, fun l hl => ⟨_, rfl, l, [nm], on, rfl, .of upd_same, (fun n h => by rw [List.mem_singleton.mp h]; exact hn), ho, fun H1 e1 => ?_⟩⟩
  have E1 : Ext K H H1 := (Ext.new hl _).trans e1
  refine ⟨_, rfl, szk 2, fun t ht => ⟨t, [("truth" : Str), "number"].map V.str, rfl, .inr (.of upd_same), rfl, rfl, _, rfl, ?_⟩⟩
  rw [if_pos rfl, inV_str]
  have E2 := E1.trans (Ext.new ht (.tup [.str "truth", .str "number"]))
  refine ite_f (nf (dt ?_)) ?_
  · cases tr <;> decide +kernel
  have ha0 := E2.at ha
  have he0 := he.trans E2
  refine ⟨_, rfl, _, rfl, a, _, dx, _, rfl, ha0, T.cl_Row, T.na_Row_name, by show (0 : Nat) < 1000; decide, ?_⟩
  generalize hG0 : upd _ a _ = G0
  have ha1 : G0 a = some (.ins (He.ga K "Row") dx [("name", .str nm)]) := by rw [← hG0]; exact upd_same
  have he1 : Ext K Hb G0 := by rw [← hG0]; exact he0.put hb ha0 trivial _
  refine ⟨_, rfl, _, rfl, a, _, dx, _, rfl, ha1, T.cl_Row, T.na_Row_kind, by show (1 : Nat) < 1000; decide, ?_⟩
  generalize hG1 : upd _ a _ = G1
  have ha2 : G1 a = some (.ins (He.ga K "Row") dx [("name", .str nm), ("kind", .str (trS tr))]) := by rw [← hG1]; exact upd_same
  have he2 : Ext K Hb G1 := by rw [← hG1]; exact he1.put hb ha1 trivial _
  refine ⟨_, rfl, _, rfl, a, _, dx, _, rfl, ha2, T.cl_Row, T.na_Row_part, by show (2 : Nat) < 1000; decide, ?_⟩
  generalize hG2 : upd _ a _ = G2
  have ha3 : G2 a = some (.ins (He.ga K "Row") dx [("name", .str nm), ("kind", .str (trS tr)), ("part", kp)]) := by rw [← hG2]; exact upd_same
  have he3 : Ext K Hb G2 := by rw [← hG2]; exact he2.put hb ha2 trivial _
  refine ⟨_, rfl, _, rfl, a, _, dx, _, rfl, ha3, T.cl_Row, T.na_Row_on, by show (3 : Nat) < 1000; decide, ?_⟩
  generalize hG3 : upd _ a _ = G3
  have ha4 : G3 a = some (.ins (He.ga K "Row") dx [("name", .str nm), ("kind", .str (trS tr)), ("part", kp), ("on", onV on)]) := by rw [← hG3]; exact upd_same
  have he4 : Ext K Hb G3 := by rw [← hG3]; exact he3.put hb ha3 trivial _
  
  exact q _ he4 fun ns => ⟨a, dx, _, rfl, ha4, he4.fr.part hp⟩
theorem ok_Row_init (T : Top K mg) : C8.Mak P w K mg base 5 "Row" (He.ga K "Row") (sp_Row_init K) [] :=
  mak_of T 98 d_Row_init s_Row_init "Row" rfl rfl T.g_Row T.mk_Row sc_Row_init (.inr ⟨rfl, fun _ _ _ _ _ _ _ us its hl hi => match us, its, hl, hi with | [_, _, _, _, _], [_], _, _ => ⟨_, rfl, rfl⟩⟩) ln_Row_init (bd_Row_init T (ok_need_names T))
theorem sc_Use_init : FnScope ["self", "binds", "module", "parts", "on"] ["self", "binds", "module", "parts", "on"] (defScope s_Use_init) := ⟨rfl, rfl, rfl, by decide +kernel, rfl, by decide +kernel, by decide +kernel⟩
def sp_Use_init (K : PySem.W.Frag) : Sp := fun vs H Q _ => ∃ (a bl pl : Addr) (bs : List Str) (m : Str) (pvs : List V) (ps : List Tl) (on : Option Str), vs = [.ref a, .ref bl, .str m, .ref pl, onV on] ∧ (∀ n ∈ bs, Nm n) ∧ 1 ≤ bs.length ∧ bs.length ≤ 8 ∧ Wd m ∧ (∀ o, on = some o → Nm o) ∧ ∃ (dx : Addr) (Hb : Hp), H a = some (.ins (He.ga K "Use") dx []) ∧ Hb a = none ∧ Ext K Hb H ∧ Hb bl = some (.lst (bs.map V.str)) ∧ Hb pl = some (.lst pvs) ∧ Paired (PartAt K Hb) pvs ps ∧ ∀ H', Ext K Hb H' → (∀ ns k, ns[k]? = some m → LineAt K ns H' (.ref a) (.use bs k ps on)) → Q .non H'
theorem ln_Use_init {K : PySem.W.Frag} : ∀ vs H Q E, (sp_Use_init K) vs H Q E → vs.length = (["self", "binds", "module", "parts", "on"] : List Str).length := fun vs H Q E h => by
  obtain ⟨_, _, _, _, _, _, _, _, rfl, _⟩ := h
  rfl
theorem bd_Use_init (T : Top K mg) (c_need_names : C8.Cal P w K mg base 4 "need_names" (sp_need_names K) []) (c_is_word : C8.Cal P w K mg base 2 "is_word" (sp_is_word K) []) : Body P w K mg base q s_Use_init f ["self", "binds", "module", "parts", "on"] (4) (sp_Use_init K) := fun cdv A outer s H vs Q E hr h => by
  have hu := hu_of hr
  obtain ⟨a, bl, pl, bs, m, pvs, ps, on, rfl, hbs, h1, h8, hm, ho, dx, Hb, ha, hb, he, hbl, hpl, hps, q⟩ := h
  refine ⟨_, (pss_cons (ps_expr (C8.pe_c c_need_names hr (by omega) rfl (pa_cons (pv 1) (pa_cons (pv 4) pa_nil))))
        (pss_cons (ps_if (pt_not (pt_val (C8.pe_c c_is_word hr (by omega) rfl (pa_cons (pv 2) pa_nil)))) pss_never pss_nil)
        (pss_cons (ps_if (pt_not (pt_chain op_le op_le pe_int (pe_callB call_len_seq (by rfl) T.n_len PySem.boot_len (pa_cons (pv 1) pa_nil)) (C8.pe_gc rfl T.i_MOST_OUT))) pss_never pss_nil)
        (pss_cons (ps_fld (pv 0) (pe_callTy call_tuple_frzE (by rfl) T.n_tuple (by decide +kernel) (pa_cons (pv 1) pa_nil)) rfl)
        (pss_cons (ps_fld (pv 0) (pv 2) rfl)
        (pss_cons (ps_fld (pv 0) (pe_callTy call_tuple_any (by rfl) T.n_tuple (by decide +kernel) (pa_cons (pv 3) pa_nil)) rfl)
        (pss_one (ps_fld (pv 0) (pv 4) rfl)))))))), ?_⟩
  refine ⟨_, rfl, _, rfl, bl, bs, on, rfl, .of (he.at hbl), hbs, ho, fun H1 e1 => ?_⟩
  refine ⟨_, rfl, m, rfl, hm, fun H2 e2 => ⟨true, rfl, ite_f rfl ?_⟩⟩
  have E2 := e1.trans e2
  have F2 := he.trans E2
  refine ⟨_, rfl, bl, _, rfl, .inl (.of (F2.at hbl)), 1, _, rfl, rfl, true, congrArg V.bl (dt (by rw [List.length_map]; omega)), ite_t rfl ⟨_, 8, rfl, rfl, true, congrArg V.bl (dt (by rw [List.length_map]; omega)), ite_f rfl ?_⟩⟩
  have ha0 := E2.at ha
  have he0 := F2
  refine ⟨_, rfl, _, bs.map V.str, rfl, .of (he0.at hbl), fun bt X0 ubt ex0 hnbt hubt kbt_0 => ⟨_, rfl, a, _, dx, _, rfl, ex0.at ha0, T.cl_Use, T.na_Use_binds, by show (0 : Nat) < 1000; decide, ?_⟩⟩
  have hb0 := ex0.at ha0
  have hc0 := he0.trans ex0
  generalize hG0 : upd _ a _ = G0
  have ha1 : G0 a = some (.ins (He.ga K "Use") dx [("binds", .ref bt)]) := by rw [← hG0]; exact upd_same
  have he1 : Ext K Hb G0 := by rw [← hG0]; exact hc0.put hb hb0 trivial _
  have hbt_1 : G0 bt = some (.frz ubt (.tup (bs.map V.str))) := by rw [← hG0, upd_ne (frz_ne hb0 kbt_0)]; exact kbt_0
  refine ⟨_, rfl, _, rfl, a, _, dx, _, rfl, ha1, T.cl_Use, T.na_Use_module, by show (1 : Nat) < 1000; decide, ?_⟩
  have hb1 := ha1
  have hc1 := he1
  have kbt_1 := hbt_1
  generalize hG1 : upd _ a _ = G1
  have ha2 : G1 a = some (.ins (He.ga K "Use") dx [("binds", .ref bt), ("module", .str m)]) := by rw [← hG1]; exact upd_same
  have he2 : Ext K Hb G1 := by rw [← hG1]; exact hc1.put hb hb1 trivial _
  have hbt_2 : G1 bt = some (.frz ubt (.tup (bs.map V.str))) := by rw [← hG1, upd_ne (frz_ne hb1 kbt_1)]; exact kbt_1
  refine ⟨_, rfl, _, pvs, rfl, .inl (he2.at hpl), fun pt X2 ex2 kpt_2 => ⟨_, rfl, a, _, dx, _, rfl, ex2.at ha2, T.cl_Use, T.na_Use_parts, by show (2 : Nat) < 1000; decide, ?_⟩⟩
  have hb2 := ex2.at ha2
  have hc2 := he2.trans ex2
  have kbt_2 := ex2.at hbt_2
  generalize hG2 : upd _ a _ = G2
  have ha3 : G2 a = some (.ins (He.ga K "Use") dx [("binds", .ref bt), ("module", .str m), ("parts", .ref pt)]) := by rw [← hG2]; exact upd_same
  have he3 : Ext K Hb G2 := by rw [← hG2]; exact hc2.put hb hb2 trivial _
  have hbt_3 : G2 bt = some (.frz ubt (.tup (bs.map V.str))) := by rw [← hG2, upd_ne (frz_ne hb2 kbt_2)]; exact kbt_2
  have hpt_3 : G2 pt = some (.tup (pvs)) := by rw [← hG2, upd_ne (tup_ne hb2 kpt_2)]; exact kpt_2
  refine ⟨_, rfl, _, rfl, a, _, dx, _, rfl, ha3, T.cl_Use, T.na_Use_on, by show (3 : Nat) < 1000; decide, ?_⟩
  have hb3 := ha3
  have hc3 := he3
  have kbt_3 := hbt_3
  have kpt_3 := hpt_3
  generalize hG3 : upd _ a _ = G3
  have ha4 : G3 a = some (.ins (He.ga K "Use") dx [("binds", .ref bt), ("module", .str m), ("parts", .ref pt), ("on", onV on)]) := by rw [← hG3]; exact upd_same
  have he4 : Ext K Hb G3 := by rw [← hG3]; exact hc3.put hb hb3 trivial _
  have hbt_4 : G3 bt = some (.frz ubt (.tup (bs.map V.str))) := by rw [← hG3, upd_ne (frz_ne hb3 kbt_3)]; exact kbt_3
  have hpt_4 : G3 pt = some (.tup (pvs)) := by rw [← hG3, upd_ne (tup_ne hb3 kpt_3)]; exact kpt_3
  
  exact q _ he4 fun ns k hk => ⟨a, dx, bt, pt, pvs, m, rfl, ha4, hk, ⟨ubt, hubt, hbt_4⟩, hpt_4, Paired.mapP hps fun _ _ z => he4.fr.part z⟩
theorem ok_Use_init (T : Top K mg) : C8.Mak P w K mg base 5 "Use" (He.ga K "Use") (sp_Use_init K) [] :=
  mak_of T 102 d_Use_init s_Use_init "Use" rfl rfl T.g_Use T.mk_Use sc_Use_init (.inr ⟨rfl, fun _ _ _ _ _ _ _ us its hl hi => match us, its, hl, hi with | [_, _, _, _, _], [_], _, _ => ⟨_, rfl, rfl⟩⟩) ln_Use_init (bd_Use_init T (ok_need_names T) (ok_is_word T))
end

section
variable {P : Program} {w : World} {K : PySem.W.Frag} {mg : Str → Option Value} {base : Heap} {q : Str} {f : Addr}
/-! ### sheets that may be made -/
structure Few (s : Sh) : Prop where
  ins : s.ins.length ≤ 8
  lns : s.lns.length ≤ 80
  each : ∀ l ∈ s.lns, l.borne.length ≤ 8 ∧ l.eqs.length ≤ 8
structure SheetOk (s : Sh) : Prop where
  few : Few s
  nm : Wd s.nm
  o1 : 1 ≤ s.outs.length
  o8 : s.outs.length ≤ 8
  l1 : 1 ≤ s.lns.length
  outs : s.outs.Nodup
  names : s.names.Nodup
  outIn : ∀ o ∈ s.outs, o ∈ s.names
  eqIn : ∀ l ∈ s.lns, ∀ p ∈ l.eqs, p.dep ≤ 3 ∧ ∀ n ∈ p.names, n ∈ s.names
  chain : ∀ a ∈ s.all, ∃ m, m ≤ 1000 ∧ ChainE s.tri m a.on
theorem len_flatMap_le {α β : Type} {f : α → List β} {k : Nat} : ∀ {l : List α}, (∀ a ∈ l, (f a).length ≤ k) → (l.flatMap f).length ≤ l.length * k
  | [], _ => Nat.zero_le _
  | a :: l, h => by
    have h1 := h a List.mem_cons_self
    have ih := len_flatMap_le (f := f) (l := l) fun b hb => h b (List.mem_cons_of_mem _ hb)
    rw [List.flatMap_cons, List.length_append, List.length_cons, Nat.succ_mul]
    omega
theorem Few.all {s : Sh} (h : Few s) : s.all.length ≤ 88 := by
  have h1 := h.ins
  have h2 := h.lns
  unfold Sh.all
  rw [List.length_append, List.length_map, List.length_map]
  omega
theorem Few.borne {s : Sh} (h : Few s) : ∀ a ∈ s.all, a.borne.length ≤ 8 := fun a ha => by
  rcases List.mem_append.mp ha with ha | ha
  · obtain ⟨i, _, rfl⟩ := List.mem_map.mp ha
    exact (by decide : 1 ≤ 8)
  · obtain ⟨l, hl, rfl⟩ := List.mem_map.mp ha
    exact (h.each l hl).1
theorem Few.names {s : Sh} (h : Few s) : s.names.length ≤ 704 := by
  have h1 := len_flatMap_le h.borne
  have h2 := h.all
  unfold Sh.names
  omega
theorem paired_app {α β : Type} {R : α → β → Prop} : ∀ {l₁ l₂ : List α} {m₁ m₂ : List β}, Paired R l₁ m₁ → Paired R l₂ m₂ → Paired R (l₁ ++ l₂) (m₁ ++ m₂)
  | _, _, _, _, .nil, h => h
  | _, _, _, _, .cons h t, g => .cons h (paired_app t g)
theorem paired_map {α β γ : Type} {R : α → γ → Prop} {S : α → β → Prop} (f : β → γ) (hf : ∀ a b, S a b → R a (f b)) : ∀ {l : List α} {m : List β}, Paired S l m → Paired R l (m.map f)
  | _, _, .nil => .nil
  | _, _, .cons h t => .cons (hf _ _ h) (paired_map f hf t)
theorem sheet_all {K : PySem.W.Frag} {ns : List Str} {H : Hp} {s : Sh} {ivs lvs : List V} (h1 : Paired (InputAt K H) ivs s.ins) (h2 : Paired (LineAt K ns H) lvs s.lns) : Paired (AlAt K ns H) (ivs ++ lvs) s.all :=
  paired_app (paired_map Al.inp (fun _ _ h => h) h1) (paired_map Al.ln (fun _ _ h => h) h2)
def sp_all_lines (K : PySem.W.Frag) : Sp := fun vs H Q _ => ∃ (v : V) (s : Sh) (ns : List Str), vs = [v] ∧ SheetAt K ns H v s ∧ Few s ∧ ∀ p avs H', Ext K H H' → SqT K H' p avs → Paired (AlAt K ns H') avs s.all → Q (.ref p) H'
/-- the dict of the lines by their names -/
def LinesD (K : PySem.W.Frag) (ns : List Str) (H : Hp) (d : Addr) (s : Sh) : Prop := ∃ kvs, H d = some (.dK kvs) ∧ (∀ n v, valV kvs (.inr n) = some v → ∃ al ∈ s.all, AlAt K ns H v al ∧ n ∈ al.borne) ∧ ∀ n ∈ s.names, (valV kvs (.inr n)).isSome = true
theorem Ext.linesD {K : PySem.W.Frag} {ns : List Str} {H H1 : Hp} {d : Addr} {s : Sh} (e : Ext K H H1) (h : LinesD K ns H d s) : LinesD K ns H1 d s := by
  obtain ⟨kvs, h1, h2, h3⟩ := h
  exact ⟨kvs, e.at h1, fun n v hv => by obtain ⟨al, g1, g2, g3⟩ := h2 n v hv; exact ⟨al, g1, e.fr.al g2, g3⟩, h3⟩
theorem mem_names {s : Sh} {a : Al} {n : Str} (ha : a ∈ s.all) (hn : n ∈ a.borne) : n ∈ s.names := List.mem_flatMap.mpr ⟨a, ha, hn⟩
theorem tri_in {s : Sh} {n : Str} {b : Bool} {o : Option Str} (h : (n, b, o) ∈ s.tri) : n ∈ s.names := by
  rw [← tri_names]
  exact List.mem_map.mpr ⟨_, h, rfl⟩
theorem flatMap_take {α β : Type} {f : α → List β} {l : List α} {i : Nat} {a : α} (h : l[i]? = some a) : (l.take (i + 1)).flatMap f = (l.take i).flatMap f ++ f a := by
  rw [List.take_add_one, h, List.flatMap_append]
  simp
theorem flatMap_take_le {α β : Type} {f : α → List β} {k : Nat} {l : List α} (h : ∀ a ∈ l, (f a).length ≤ k) (i : Nat) : ((l.take i).flatMap f).length ≤ l.length * k := by
  refine Nat.le_trans (len_flatMap_le fun a ha => h a (List.mem_of_mem_take ha)) ?_
  exact Nat.mul_le_mul_right k (by rw [List.length_take]; exact Nat.min_le_right _ _)

theorem sc_Sheet_all_lines : FnScope ["self"] ["self"] (defScope s_Sheet_all_lines) := ⟨rfl, rfl, rfl, by decide +kernel, rfl, by decide +kernel, by decide +kernel⟩
def sp_Sheet_all_lines (K : PySem.W.Frag) : Sp := fun vs H Q E => sp_all_lines K vs H Q E
theorem ln_Sheet_all_lines {K : PySem.W.Frag} : ∀ vs H Q E, (sp_Sheet_all_lines K) vs H Q E → vs.length = (["self"] : List Str).length := fun vs H Q E h => by
  obtain ⟨_, _, _, rfl, _⟩ := h
  rfl
theorem bd_Sheet_all_lines (T : Top K mg)  : Body P w K mg base q s_Sheet_all_lines f ["self"] (0) (sp_Sheet_all_lines K) := fun cdv A outer s H vs Q E hr h => by
  have hu := hu_of hr
  obtain ⟨v, s0, ns, rfl, hv, hf, q⟩ := h
  refine ⟨_, (pss_one (ps_ret (pe_op op_catA (pe_fld (pv 0) rfl) (pe_fld (pv 0) rfl)))), ?_⟩
  obtain ⟨a, dx, it, ot, lt, ivs, lvs, rfl, ha, hi, his, ho, hl, hls⟩ := hv
  have h1 := his.length
  have h2 := hls.length
  have h3 := hf.ins
  have h4 := hf.lns
  refine ⟨_, rfl, a, _, dx, _, _, rfl, ha, T.cl_Sheet, T.na_Sheet_inputs, rfl, _, rfl, a, _, dx, _, _, rfl, ha, T.cl_Sheet, T.na_Sheet_lines, rfl, ?_⟩
  refine ⟨it, lt, ivs, lvs, rfl, rfl, .of hi, .of hl, by show _ ≤ 2 ^ 24; omega, fun e => ?_, fun _ e => ?_, fun _ _ p hp => ?_⟩
  · have z := sheet_all his hls
    rw [e, List.nil_append] at z
    exact q lt lvs H (Ext.refl K H) (.of hl) z
  · have z := sheet_all his hls
    rw [e, List.append_nil] at z
    exact q it ivs H (Ext.refl K H) (.of hi) z
  · exact q p _ _ (Ext.new hp _) (.of upd_same) (Paired.mapP (sheet_all his hls) fun _ _ z => (Fr.new hp _).al z)
theorem ok_Sheet_all_lines (T : Top K mg) : C8.Met P w K mg base 1 (He.ga K "Sheet") "all_lines" (sp_Sheet_all_lines K) [] :=
  met_of T 107 d_Sheet_all_lines s_Sheet_all_lines (He.ga K "Sheet") "all_lines" rfl rfl rfl rfl T.cl_Sheet T.me_Sheet_all_lines sc_Sheet_all_lines (fun _ _ _ _ _ _ us hl => match us, hl with | [_], _ => rfl) ln_Sheet_all_lines (bd_Sheet_all_lines T )
theorem sc_Sheet_names : FnScope ["self", "found", "line"] ["self"] (defScope s_Sheet_names) := ⟨rfl, rfl, rfl, by decide +kernel, rfl, by decide +kernel, by decide +kernel⟩
def sp_Sheet_names (K : PySem.W.Frag) : Sp := fun vs H Q _ => ∃ (v : V) (s : Sh) (ns : List Str), vs = [v] ∧ SheetAt K ns H v s ∧ Few s ∧ ∀ p H', Ext K H H' → H' p = some (.lst (s.names.map V.str)) → Q (.ref p) H'
theorem ln_Sheet_names {K : PySem.W.Frag} : ∀ vs H Q E, (sp_Sheet_names K) vs H Q E → vs.length = (["self"] : List Str).length := fun vs H Q E h => by
  obtain ⟨_, _, _, rfl, _⟩ := h
  rfl
theorem bd_Sheet_names (T : Top K mg) (me_all_lines : C8.Met P w K mg base 1 (He.ga K "Sheet") "all_lines" (sp_Sheet_all_lines K) []) (me_borne : ∀ c : LK, C8.Met P w K mg base 1 (lK K c) "borne" (sp_borne K c) []) : Body P w K mg base q s_Sheet_names f ["self", "found", "line"] (1) (sp_Sheet_names K) := fun cdv A outer s H vs Q E hr h => by
  have hu := hu_of hr
  obtain ⟨v, s0, ns, rfl, hv, hf, q⟩ := h
  refine ⟨_, (pss_cons (ps_set (i := 1) sc_Sheet_names.nd rfl (by first | exact Or.inl rfl | exact Or.inr rfl) (pe_lst pa_nil))
        (pss_cons (ps_for PassesOwn.never rfl (pi_tup (C8.pe_mt0 me_all_lines hr (by omega) (pv 0))) (pg_name (i := 2) sc_Sheet_names.nd rfl (by first | exact Or.inl rfl | exact Or.inr rfl))
          (pss_one (ps_aug (i := 1) sc_Sheet_names.nd rfl (by first | exact Or.inl rfl | exact Or.inr rfl) (pe_poly fun c => C8.pe_mt0 (me_borne c) hr (by omega) (pv 2)) iop_extT)))
        (pss_one (ps_ret (pv 1))))), ?_⟩
  have hv0 := hv
  obtain ⟨a, dx, it, ot, lt, ivs, lvs, rfl, ha, hi, his, ho, hl, hls⟩ := hv
  refine ⟨szk 0, fun p hp => ?_⟩
  have e0 : Ext K H (upd H p (.lst [])) := Ext.new hp _
  refine ⟨_, rfl, a, dx, _, rfl, e0.at ha, rfl, _, s0, ns, rfl, e0.fr.sheet hv0, hf, fun t avs H1 e1 ht havs => ?_⟩
  have hlen := havs.length
  refine ⟨t, rfl, ⟨_, ht⟩, for_tup (xs := avs) (fun i σ H2 => ∃ z, σ = [some (.ref a), some (.ref p), z] ∧ Ext K H H2 ∧ Fr H1 H2 ∧ H2 p = some (.lst (((s0.all.take i).flatMap Al.borne).map V.str))) ⟨none, rfl, e0.trans e1, Fr.refl _, e1.at upd_same⟩ (fun i σ H2 _ h => ?_) (fun i x σ H2 hx h => ?_) (fun σ H2 h => ?_)⟩
  · obtain ⟨_, _, _, f2, _⟩ := h
    exact f2.t ht
  · obtain ⟨z, rfl, e2, f2, hp2⟩ := h
    obtain ⟨al, hal, hat⟩ := paired_get havs hx
    have hat2 := f2.al hat
    obtain ⟨a', dx', fs', rfl, g1, g2, g3, g4, g5⟩ := hat2.head
    refine ⟨_, rfl, al.c, _, rfl, a', dx', fs', rfl, g1, g3, _, al, ns, rfl, rfl, hat2, fun b H3 e3 hb => ?_⟩
    have hle : ((s0.all.take i).flatMap Al.borne).length ≤ 704 := Nat.le_trans (flatMap_take_le hf.borne i) (by have := hf.all; omega)
    have hlb := hf.borne al (List.mem_of_getElem? hal)
    refine ⟨p, b, _, _, rfl, rfl, e3.at hp2, hb, by rw [List.length_map, List.length_map]; show _ ≤ 2 ^ 24; omega, _, rfl, (e2.trans e3).push hp (e3.at hp2), (f2.trans e3.fr).trans (Fr.put (e3.at hp2) rfl _), ?_⟩
    rw [upd_same, flatMap_take hal, List.map_append]
  · obtain ⟨z, rfl, e2, f2, hp2⟩ := h
    rw [hlen, List.take_length] at hp2
    exact ⟨_, rfl, q p H2 e2 hp2⟩
theorem ok_Sheet_names (T : Top K mg) : C8.Met P w K mg base 2 (He.ga K "Sheet") "names" (sp_Sheet_names K) [] :=
  met_of T 109 d_Sheet_names s_Sheet_names (He.ga K "Sheet") "names" rfl rfl rfl rfl T.cl_Sheet T.me_Sheet_names sc_Sheet_names (fun _ _ _ _ _ _ us hl => match us, hl with | [_], _ => rfl) ln_Sheet_names (bd_Sheet_names T (ok_Sheet_all_lines T) (ok_borne T))
theorem sc_Sheet_line : FnScope ["self", "name", "line"] ["self", "name"] (defScope s_Sheet_line) := ⟨rfl, rfl, rfl, by decide +kernel, rfl, by decide +kernel, by decide +kernel⟩
def sp_Sheet_line (K : PySem.W.Frag) : Sp := fun vs H Q _ => ∃ (v : V) (s : Sh) (ns : List Str) (nm : Str), vs = [v, .str nm] ∧ SheetAt K ns H v s ∧ Few s ∧ nm ∈ s.names ∧ ∀ r al H', Ext K H H' → AlAt K ns H' r al → al ∈ s.all → nm ∈ al.borne → Q r H'
theorem ln_Sheet_line {K : PySem.W.Frag} : ∀ vs H Q E, (sp_Sheet_line K) vs H Q E → vs.length = (["self", "name"] : List Str).length := fun vs H Q E h => by
  obtain ⟨_, _, _, _, rfl, _⟩ := h
  rfl
theorem bd_Sheet_line (T : Top K mg) (me_all_lines : C8.Met P w K mg base 1 (He.ga K "Sheet") "all_lines" (sp_Sheet_all_lines K) []) (me_borne : ∀ c : LK, C8.Met P w K mg base 1 (lK K c) "borne" (sp_borne K c) []) : Body P w K mg base q s_Sheet_line f ["self", "name", "line"] (1) (sp_Sheet_line K) := fun cdv A outer s H vs Q E hr h => by
  have hu := hu_of hr
  obtain ⟨v, s0, ns, nm, rfl, hv, hf, hnm, q⟩ := h
  refine ⟨_, (pss_one (ps_ret (pe_ix ix_list (pe_lc (own := [("line", 2)]) rfl sc_Sheet_line.nd (pi_tup (C8.pe_mt0 me_all_lines hr (by omega) (pv 0))) (blkOk_by (own := [("line", 2)]) (N := ["self", "name", "line"]) (sc := defScope s_Sheet_line) (by decide +kernel)) (fun _ _ _ _ _ => (pg_name (i := 2) sc_Sheet_line.nd rfl (by first | exact Or.inl rfl | exact Or.inr rfl))) (fun _ _ _ _ _ => (pts_one (pt_cmpR (op_in_seqB (K := K) (by rfl)) (pv 1) (pe_poly fun c => C8.pe_mt0 (me_borne c) hr (by omega) (pv 2)) (by rfl)))) (fun _ _ _ _ _ => (pv 2))) pe_int (fun _ _ => rfl)))), ?_⟩
  have hv0 := hv
  obtain ⟨a, dx, it, ot, lt, ivs, lvs, rfl, ha, hi, his, ho, hl, hls⟩ := hv
  have hall := hf.all
  refine ⟨_, rfl, a, dx, _, rfl, ha, rfl, _, s0, ns, rfl, hv0, hf, fun t avs H1 e1 ht havs => ?_⟩
  have hlen := havs.length
  refine ⟨t, rfl, ⟨_, ht⟩, lcT (K := K) (H1 := H1) (a := t) (xs := avs) (fun i acc H2 => ∃ als, Paired (AlAt K ns H2) acc als ∧ (∀ x ∈ als, x ∈ s0.all ∧ nm ∈ x.borne) ∧ ∀ x ∈ s0.all.take i, nm ∈ x.borne → x ∈ als)
    (fun e h => by obtain ⟨als, h1, h2, h3⟩ := h; exact ⟨als, Paired.mapP h1 fun _ _ z => e.al z, h2, h3⟩) ht (by show _ ≤ 2 ^ 24; omega) ⟨[], .nil, by simp, by simp⟩ (fun i x hx acc H2 N S e2 pj hN hS => ?_) fun D ys H2 hD e2 hl2 hn pj => ?_⟩
  · obtain ⟨al, hal, hat⟩ := paired_get havs hx
    have hat2 := e2.fr.al hat
    obtain ⟨a', dx', fs', rfl, g1, g2, g3, g4, g5⟩ := hat2.head
    obtain ⟨als, p1, p2, p3⟩ := pj
    refine ⟨rfl, ?_⟩
    refine ⟨_, rfl, al.c, _, rfl, a', dx', fs', rfl, g1, g3, _, al, ns, rfl, rfl, hat2, fun b H3 e3 hb => ?_⟩
    refine ⟨b, _, rfl, .inr hb, rfl, flat_strs _, _, rfl, ?_⟩
    rw [if_neg Bool.false_ne_true, inV_str]
    by_cases hc : nm ∈ al.borne
    · refine ite_t (dt hc) ⟨_, rfl, hN _ _ e3 ⟨als ++ [al], Paired.snoc (Paired.mapP p1 fun _ _ z => e3.fr.al z) (e3.fr.al hat2), fun x hx => ?_, fun x hx hb => ?_⟩⟩
      · rcases List.mem_append.mp hx with h | h
        · exact p2 x h
        · rw [List.mem_singleton.mp h]
          exact ⟨List.mem_of_getElem? hal, hc⟩
      · rw [List.take_add_one, hal] at hx
        rcases List.mem_append.mp hx with h | h
        · exact List.mem_append_left _ (p3 x h hb)
        · exact List.mem_append_right _ h
    · refine ite_f (df hc) (hS _ e3 ⟨als, Paired.mapP p1 fun _ _ z => e3.fr.al z, p2, fun x hx hb => ?_⟩)
      rw [List.take_add_one, hal] at hx
      rcases List.mem_append.mp hx with h | h
      · exact p3 x h hb
      · have ex : x = al := by simpa using h
        rw [ex] at hb
        exact absurd hb hc
  · obtain ⟨als, p1, p2, p3⟩ := pj
    rw [hlen, List.take_length] at p3
    obtain ⟨al, hal, hb⟩ := List.mem_flatMap.mp hnm
    have hmem := p3 al hal hb
    cases p1 with
    | nil => cases hmem
    | @cons y0 al0 ys als h0 h1 =>
      have h2 := p2 al0 List.mem_cons_self
      exact ⟨D, _, 0, y0, rfl, rfl, .of hl2, at0 _ _, q y0 al0 H2 (e1.trans e2) h0 h2.1 h2.2⟩
theorem ok_Sheet_line (T : Top K mg) : C8.Met P w K mg base 2 (He.ga K "Sheet") "line" (sp_Sheet_line K) [] :=
  met_of T 110 d_Sheet_line s_Sheet_line (He.ga K "Sheet") "line" rfl rfl rfl rfl T.cl_Sheet T.me_Sheet_line sc_Sheet_line (fun _ _ _ _ _ _ us hl => match us, hl with | [_, _], _ => rfl) ln_Sheet_line (bd_Sheet_line T (ok_Sheet_all_lines T) (ok_borne T))
theorem sc_need_single : FnScope ["names"] ["names"] (defScope s_need_single) := ⟨rfl, rfl, rfl, by decide +kernel, rfl, by decide +kernel, by decide +kernel⟩
def sp_need_single (K : PySem.W.Frag) : Sp := fun vs H Q _ => ∃ (l : Addr) (xs : List Str), vs = [.ref l] ∧ (SqL K H l (xs.map V.str) ∨ SqT K H l (xs.map V.str)) ∧ xs.length ≤ 1000 ∧ xs.Nodup ∧ Q .non H
theorem ln_need_single {K : PySem.W.Frag} : ∀ vs H Q E, (sp_need_single K) vs H Q E → vs.length = (["names"] : List Str).length := fun vs H Q E h => by
  obtain ⟨_, _, rfl, _⟩ := h
  rfl
theorem bd_need_single (T : Top K mg)  : Body P w K mg base q s_need_single f ["names"] (0) (sp_need_single K) := fun cdv A outer s H vs Q E hr h => by
  have hu := hu_of hr
  obtain ⟨l, xs, rfl, hl, hz, hn, q⟩ := h
  refine ⟨_, (pss_one (ps_if (pt_cmpR op_ne (pe_lenSetS rfl T.n_len rfl T.n_set (pv 0)) (pe_callB call_len_seq (by rfl) T.n_len PySem.boot_len (pa_cons (pv 0) pa_nil)) (nomark _)) pss_never pss_nil)), ?_⟩
  have e : ded [] xs = xs := (ded_nodup (acc := []) (by rw [List.nil_append]; exact hn)).trans (List.nil_append _)
  refine ⟨_, rfl, l, xs, rfl, hl, hz, _, rfl, l, _, rfl, hl, rfl, _, rfl, ite_f ?_ q⟩
  rw [e, List.length_map]
  exact nf (dt rfl)
theorem ok_need_single (T : Top K mg) : C8.Cal P w K mg base 1 "need_single" (sp_need_single K) [] :=
  cal_of T 7 d_need_single s_need_single "need_single" rfl rfl rfl rfl T.g_need_single sc_need_single (fun _ _ _ _ _ _ us hl => match us, hl with | [_], _ => rfl) ln_need_single (bd_need_single T )
theorem sc_need_on : FnScope ["lines", "line", "seen", "on"] ["lines", "line"] (defScope s_need_on) := ⟨rfl, rfl, rfl, by decide +kernel, rfl, by decide +kernel, by decide +kernel⟩
def sp_need_on (K : PySem.W.Frag) : Sp := fun vs H Q _ => ∃ (d : Addr) (v : V) (al : Al) (s : Sh) (ns : List Str), vs = [.ref d, v] ∧ AlAt K ns H v al ∧ LinesD K ns H d s ∧ s.names.Nodup ∧ (∃ m, m ≤ 1000 ∧ ChainE s.tri m al.on) ∧ ∀ H', Ext K H H' → Q .non H'
theorem ln_need_on {K : PySem.W.Frag} : ∀ vs H Q E, (sp_need_on K) vs H Q E → vs.length = (["lines", "line"] : List Str).length := fun vs H Q E h => by
  obtain ⟨_, _, _, _, _, rfl, _⟩ := h
  rfl
theorem bd_need_on (T : Top K mg) (me_is_truth : ∀ c : LK, C8.Met P w K mg base 1 (lK K c) "is_truth" (sp_isT K c) []) : Body P w K mg base q s_need_on f ["lines", "line", "seen", "on"] (1) (sp_need_on K) := fun cdv A outer s H vs Q E hr h => by
  have hu := hu_of hr
  obtain ⟨d, v, al, s0, ns, rfl, hal, hD, hn, ⟨m, hm, hch⟩, q⟩ := h
  refine ⟨_, (pss_cons (ps_set (i := 2) sc_need_on.nd rfl (by first | exact Or.inl rfl | exact Or.inr rfl) (pe_lst pa_nil))
        (pss_cons (ps_set (i := 3) sc_need_on.nd rfl (by first | exact Or.inl rfl | exact Or.inr rfl) (pe_fld (pv 1) rfl))
        (pss_one (ps_while PassesOwn.never (pt_cmp (pc_notN (pv 3)))
          (pss_cons (ps_if (PW.pt (pw_or (pt_cmp (pc_dnotin hu (pv 3) (pv 0)) rfl) (pw_or1 (pt_not (pt_val (pe_poly fun c => C8.pe_mt0 (me_is_truth c) hr (by omega) (pe_dget hu (pv 0) (pv 3) (fun _ _ => rfl)))))))) pss_never pss_nil)
          (pss_cons (ps_if (pt_cmpR op_in_seq (pv 3) (pv 2) (by rfl)) pss_never pss_nil)
          (pss_cons (ps_expr (pe_bm PySem.F.plainAttrs_list PySem.F.slot_list_append PySem.F.type_list_append mt_append (pv 2) (pa_cons (pv 3) pa_nil)))
          (pss_one (ps_set (i := 3) sc_need_on.nd rfl (by first | exact Or.inl rfl | exact Or.inr rfl) (pe_fld (pe_dget hu (pv 0) (pv 3) (fun _ _ => rfl)) rfl)))))))))), ?_⟩
  have hnt : (s0.tri.map (·.1)).Nodup := by rw [tri_names]; exact hn
  refine ⟨szk 0, fun p hp => ?_⟩
  have e0 : Ext K H (upd H p (.lst [])) := Ext.new hp _
  obtain ⟨a, dx, fs, rfl, g1, g2, g3, g4, g5⟩ := hal.head
  refine ⟨_, rfl, a, _, dx, fs, _, rfl, e0.at g1, T.clL _, T.naO _, g2, ?_⟩
  refine ⟨fun k σ H1 => ∃ (xs : List Str) (o : Option Str), σ = [some (.ref d), some (.ref a), some (.ref p), some (onV o)] ∧ Ext K H H1 ∧ H1 p = some (.lst (xs.map V.str)) ∧ ChainE s0.tri k o ∧ (∀ x ∈ xs, ∃ j, k < j ∧ ChainE s0.tri j (some x)) ∧ xs.length + k ≤ 1000,
    ⟨m, [], al.on, rfl, e0, upd_same, hch, by simp, by simpa using hm⟩, fun k σ H1 h => ?_⟩
  obtain ⟨xs, o, rfl, e1, hp1, hc, hx, hle⟩ := h
  cases hc with
  | nil => exact ⟨_, rfl, _, rfl, ite_f rfl (q H1 e1)⟩
  | @cons k o o' hmem hc' =>
    refine ⟨_, rfl, true, rfl, ite_t rfl ?_⟩
    obtain ⟨kvs, hd1, hd2, hd3⟩ := e1.linesD hD
    have hon := tri_in hmem
    cases hval : valV kvs (.inr o) with
    | none => have z := hd3 o hon; rw [hval] at z; cases z
    | some v1 =>
      obtain ⟨al1, m1, at1, b1⟩ := hd2 o v1 hval
      have euq := nodup_fun hnt (mem_tri m1 b1) hmem
      have ht1 : al1.isT = true := (Prod.mk.inj euq).1
      have ho1 : al1.on = o' := (Prod.mk.inj euq).2
      have hg : DGet H1 d (.str o) (some v1) := by rw [← hval]; exact DGet.k (k := .inr o) hd1
      obtain ⟨a1, dx1, fs1, rfl, k1, k2, k3, k4, k5⟩ := at1.head
      rw [ho1] at k2
      refine ⟨fun σ' H' => ∃ (xs : List Str) (o : Option Str), σ' = [some (.ref d), some (.ref a), some (.ref p), some (onV o)] ∧ Ext K H H' ∧ H' p = some (.lst (xs.map V.str)) ∧ ChainE s0.tri k o ∧ (∀ x ∈ xs, ∃ j, k < j ∧ ChainE s0.tri j (some x)) ∧ xs.length + k ≤ 1000, fun σ' H' h => ⟨k, Nat.lt_succ_self k, h⟩, ?_⟩
      refine ⟨_, rfl, _, rfl, d, some (.ref a1), rfl, hg, _, rfl, ite_f rfl ?_⟩
      refine ⟨al1.c, _, rfl, _, rfl, d, .ref a1, rfl, hg, a1, dx1, fs1, rfl, k1, k5, _, al1, ns, rfl, rfl, at1, ht1, true, rfl, ite_f rfl ?_⟩
      refine ⟨_, rfl, _, rfl, p, _, rfl, .inl (.of hp1), rfl, flat_strs _, _, rfl, ?_⟩
      have hnot : o ∉ xs := fun hin => by
        obtain ⟨j, hj, hcj⟩ := hx o hin
        have := hcj.uniq hnt (.cons hmem hc')
        omega
      have hiv : inV (onV (some o)) (xs.map V.str) = false := (inV_str o xs).trans (df hnot)
      rw [if_neg Bool.false_ne_true, hiv]
      refine ite_f rfl ?_
      refine ⟨_, rfl, .inl ⟨rfl, _, .of hp1⟩, _, rfl, p, xs.map V.str, _, rfl, rfl, hp1, by rw [List.length_map]; show _ < 2 ^ 24; omega, ?_⟩
      have e2 := e1.push hp hp1 (zs := xs.map V.str ++ [.str o])
      have hdp : d ≠ p := fun z => by rw [z, hp1] at hd1; cases hd1
      have hg2 : DGet (upd H1 p (.lst (xs.map V.str ++ [.str o]))) d (.str o) (some (.ref a1)) := by
        rw [← hval]
        exact DGet.k (k := .inr o) (by rw [upd_ne hdp]; exact hd1)
      have hap : a1 ≠ p := fun z => by rw [z, hp1] at k1; cases k1
      refine ⟨_, rfl, _, rfl, d, .ref a1, rfl, hg2, a1, _, dx1, fs1, _, rfl, by rw [upd_ne hap]; exact k1, T.clL _, T.naO _, k2, ?_⟩
      refine ⟨xs ++ [o], o', rfl, e2, by rw [upd_same, List.map_append]; rfl, hc', fun x hx2 => ?_, by rw [List.length_append]; show _ + 1 + _ ≤ _; omega⟩
      rcases List.mem_append.mp hx2 with h | h
      · obtain ⟨j, hj, hcj⟩ := hx x h
        exact ⟨j, by omega, hcj⟩
      · rw [List.mem_singleton.mp h]
        exact ⟨k + 1, Nat.lt_succ_self k, .cons hmem hc'⟩
theorem ok_need_on (T : Top K mg) : C8.Cal P w K mg base 2 "need_on" (sp_need_on K) [] :=
  cal_of T 8 d_need_on s_need_on "need_on" rfl rfl rfl rfl T.g_need_on sc_need_on (fun _ _ _ _ _ _ us hl => match us, hl with | [_, _], _ => rfl) ln_need_on (bd_need_on T (ok_is_truth T))
end

section
variable {P : Program} {w : World} {K : PySem.W.Frag} {mg : Str → Option Value} {base : Heap} {q : Str} {f : Addr}
theorem putK_len (kvs : List (Key × V)) (k : Key) (v : V) : (putK kvs k v).length ≤ kvs.length + 1 := by
  unfold putK
  split
  · rw [List.length_map]
    exact Nat.le_succ _
  · rw [List.length_append]
    exact Nat.le_refl _
/-- the dict while it is filled: the lines' names that it holds so far, among them those of seen -/
def Filled (K : PySem.W.Frag) (ns : List Str) (H : Hp) (d : Addr) (s : Sh) (cnt : Nat) (seen : Str → Prop) : Prop := ∃ kvs, H d = some (.dK kvs) ∧ kvs.length ≤ cnt ∧ (∀ n v, valV kvs (.inr n) = some v → ∃ al ∈ s.all, AlAt K ns H v al ∧ n ∈ al.borne) ∧ ∀ n, seen n → (valV kvs (.inr n)).isSome = true
theorem Filled.ext {K : PySem.W.Frag} {ns : List Str} {H H1 : Hp} {d : Addr} {s : Sh} {cnt : Nat} {seen : Str → Prop} (h : Filled K ns H d s cnt seen) (e : Ext K H H1) : Filled K ns H1 d s cnt seen := by
  obtain ⟨kvs, h1, h2, h3, h4⟩ := h
  exact ⟨kvs, e.at h1, h2, fun n v hv => by obtain ⟨al, g1, g2, g3⟩ := h3 n v hv; exact ⟨al, g1, e.fr.al g2, g3⟩, h4⟩
theorem Filled.more {K : PySem.W.Frag} {ns : List Str} {H : Hp} {d : Addr} {s : Sh} {cnt : Nat} {seen seen' : Str → Prop} (h : Filled K ns H d s cnt seen) (g : ∀ n, seen' n → seen n) {c : Nat} (hc : cnt ≤ c) : Filled K ns H d s c seen' := by
  obtain ⟨kvs, h1, h2, h3, h4⟩ := h
  exact ⟨kvs, h1, Nat.le_trans h2 hc, h3, fun n hn => h4 n (g n hn)⟩
theorem Filled.put {K : PySem.W.Frag} {ns : List Str} {H : Hp} {d : Addr} {s : Sh} {cnt : Nat} {seen : Str → Prop} {v : V} {al : Al} {n : Str} (h : Filled K ns H d s cnt seen) (hc : cnt < sizeLine) (ha : al ∈ s.all) (hv : AlAt K ns H v al) (hn : n ∈ al.borne) :
    ∃ kvs, H d = some (.dK kvs) ∧ kvs.length < sizeLine ∧ Filled K ns (upd H d (.dK (putK kvs (.inr n) v))) d s (cnt + 1) fun m => seen m ∨ m = n := by
  obtain ⟨kvs, h1, h2, h3, h4⟩ := h
  have fr : Fr H (upd H d (.dK (putK kvs (.inr n) v))) := Fr.put h1 rfl _
  refine ⟨kvs, h1, Nat.lt_of_le_of_lt h2 hc, _, upd_same, Nat.le_trans (putK_len _ _ _) (Nat.succ_le_succ h2), fun m u hm => ?_, fun m hm => ?_⟩
  · rw [valV_put] at hm
    split at hm
    · rename_i e
      have e : m = n := Sum.inr.inj e
      cases hm
      exact ⟨al, ha, fr.al hv, e ▸ hn⟩
    · obtain ⟨al1, g1, g2, g3⟩ := h3 m u hm
      exact ⟨al1, g1, fr.al g2, g3⟩
  · rw [valV_put]
    split
    · rfl
    · rename_i e
      rcases hm with hm | hm
      · exact h4 m hm
      · exact absurd (congrArg Sum.inr hm) e

theorem sc_Sheet_need_known : FnScope ["self", "lines", "line", "name", "asked", "part"] ["self"] (defScope s_Sheet_need_known) := ⟨rfl, rfl, rfl, by decide +kernel, rfl, by decide +kernel, by decide +kernel⟩
def sp_Sheet_need_known (K : PySem.W.Frag) : Sp := fun vs H Q _ => ∃ (v : V) (s : Sh) (ns : List Str), vs = [v] ∧ SheetAt K ns H v s ∧ SheetOk s ∧ ∀ H', Ext K H H' → Q .non H'
theorem ln_Sheet_need_known {K : PySem.W.Frag} : ∀ vs H Q E, (sp_Sheet_need_known K) vs H Q E → vs.length = (["self"] : List Str).length := fun vs H Q E h => by
  obtain ⟨_, _, _, rfl, _⟩ := h
  rfl
theorem bd_Sheet_need_known (T : Top K mg) (me_all_lines : C8.Met P w K mg base 1 (He.ga K "Sheet") "all_lines" (sp_Sheet_all_lines K) []) (me_borne : ∀ c : LK, C8.Met P w K mg base 1 (lK K c) "borne" (sp_borne K c) []) (me_equations : ∀ c : LK, C8.Met P w K mg base 1 (lK K c) "equations" (sp_eqs K c) []) (me_names : ∀ c : PK, C8.Met P w K mg base 5 (cK K c) "names" (sp_names K 3 c) []) (c_need_on : C8.Cal P w K mg base 2 "need_on" (sp_need_on K) []) : Body P w K mg base q s_Sheet_need_known f ["self", "lines", "line", "name", "asked", "part"] (5) (sp_Sheet_need_known K) := fun cdv A outer s H vs Q E hr h => by
  have hu := hu_of hr
  obtain ⟨v, s0, ns, rfl, hv, hok, q⟩ := h
  refine ⟨_, (pss_cons (ps_set (i := 1) sc_Sheet_need_known.nd rfl (by first | exact Or.inl rfl | exact Or.inr rfl) (pe_dnewK))
        (pss_cons (ps_for PassesOwn.never rfl (pi_tup (C8.pe_mt0 me_all_lines hr (by omega) (pv 0))) (pg_name (i := 2) sc_Sheet_need_known.nd rfl (by first | exact Or.inl rfl | exact Or.inr rfl))
          (pss_one (ps_for PassesOwn.never rfl (pi_tup (pe_poly fun c => C8.pe_mt0 (me_borne c) hr (by omega) (pv 2))) (pg_name (i := 3) sc_Sheet_need_known.nd rfl (by first | exact Or.inl rfl | exact Or.inr rfl))
            (pss_one (ps_dput hu (pv 1) (pv 3) (pv 2) rfl)))))
        (pss_cons (ps_set (i := 4) sc_Sheet_need_known.nd rfl (by first | exact Or.inl rfl | exact Or.inr rfl) (pe_callTy call_list_of (by rfl) T.n_list (by decide +kernel) (pa_cons (pe_fld (pv 0) rfl) pa_nil)))
        (pss_cons (ps_for PassesOwn.never rfl (pi_tup (pe_fld (pv 0) rfl)) (pg_name (i := 2) sc_Sheet_need_known.nd rfl (by first | exact Or.inl rfl | exact Or.inr rfl))
          (pss_one (ps_for PassesOwn.never rfl (pi_tup (pe_poly fun c => C8.pe_mt0 (me_equations c) hr (by omega) (pv 2))) (pg_name (i := 5) sc_Sheet_need_known.nd rfl (by first | exact Or.inl rfl | exact Or.inr rfl))
            (pss_one (ps_aug (i := 4) sc_Sheet_need_known.nd rfl (by first | exact Or.inl rfl | exact Or.inr rfl) (pe_poly fun c => C8.pe_mt0 (me_names c) hr (by omega) (pv 5)) iop_ext)))))
        (pss_cons (ps_for PassesOwn.never rfl (pi_list (pv 4)) (pg_name (i := 3) sc_Sheet_need_known.nd rfl (by first | exact Or.inl rfl | exact Or.inr rfl))
          (pss_one (ps_if (pt_cmp (pc_dnotin hu (pv 3) (pv 1)) rfl) pss_never pss_nil)))
        (pss_one (ps_for PassesOwn.never rfl (pi_tup (C8.pe_mt0 me_all_lines hr (by omega) (pv 0))) (pg_name (i := 2) sc_Sheet_need_known.nd rfl (by first | exact Or.inl rfl | exact Or.inr rfl))
          (pss_one (ps_expr (C8.pe_c c_need_on hr (by omega) rfl (pa_cons (pv 1) (pa_cons (pv 2) pa_nil)))))))))))), ?_⟩
  have hv0 := hv
  have hf := hok.few
  obtain ⟨a, dx, it, ot, lt, ivs, lvs, rfl, ha, hi, his, ho, hl, hls⟩ := hv
  intro d hd
  have e0 : Ext K H (upd H d (.dK [])) := Ext.new hd _
  have z0 : (upd H d (.dK [])) d = some (.dK []) := upd_same
  generalize hG0 : upd H d (.dK []) = H0 at e0 z0
  refine ⟨_, rfl, a, dx, _, rfl, e0.at ha, rfl, _, s0, ns, rfl, e0.fr.sheet hv0, hf, fun t avs H1 e1 ht havs => ?_⟩
  have hlen := havs.length
  have hal88 := hf.all
  refine ⟨t, rfl, ⟨_, ht⟩, for_tup (xs := avs) (fun i σ H2 => ∃ z2 z3, σ = [some (.ref a), some (.ref d), z2, z3, none, none] ∧ Ext K H H2 ∧ Fr H1 H2 ∧ Filled K ns H2 d s0 (i * 8) fun n => ∃ al ∈ s0.all.take i, n ∈ al.borne) ⟨none, none, rfl, e0.trans e1, Fr.refl _, [], e1.at z0, Nat.le_refl _, nofun, by simp⟩ (fun i σ H2 _ h => ?_) (fun i x σ H2 hx h => ?_) (fun σ H2 h => ?_)⟩
  · obtain ⟨_, _, _, _, f2, _⟩ := h
    exact f2.t ht
  · obtain ⟨z2, z3, rfl, e2, f2, hfil⟩ := h
    obtain ⟨al, hal, hat⟩ := paired_get havs hx
    have hmal := List.mem_of_getElem? hal
    have hat2 := f2.al hat
    obtain ⟨a', dx', fs', rfl, g1, g2, g3, g4, g5⟩ := hat2.head
    have hi88 : i < s0.all.length := (List.getElem?_eq_some_iff.mp hal).1
    have hlb := hf.borne al hmal
    refine ⟨al.c, _, rfl, a', dx', fs', rfl, g1, g3, _, al, ns, rfl, rfl, hat2, fun b H3 e3 hb => ?_⟩
    refine ⟨b, rfl, ⟨_, hb⟩, for_tup (xs := al.borne.map V.str) (fun j σ H4 => ∃ z3, σ = [some (.ref a), some (.ref d), some (.ref a'), z3, none, none] ∧ Ext K H H4 ∧ Fr H3 H4 ∧ Filled K ns H4 d s0 (i * 8 + j) fun n => (∃ al ∈ s0.all.take i, n ∈ al.borne) ∨ n ∈ al.borne.take j) ⟨z3, rfl, e2.trans e3, Fr.refl _, (hfil.ext e3).more (fun n h => h.resolve_right (by simp)) (Nat.le_refl _)⟩ (fun j σ H4 _ h => ?_) (fun j x σ H4 hx h => ?_) (fun σ H4 h => ?_)⟩
    · obtain ⟨_, _, _, f4, _⟩ := h
      exact f4.t hb
    · obtain ⟨z3, rfl, e4, f4, hfil4⟩ := h
      rw [List.getElem?_map] at hx
      obtain ⟨n, hn, rfl⟩ := Option.map_eq_some_iff.mp hx
      have hj : j < al.borne.length := (List.getElem?_eq_some_iff.mp hn).1
      have hnb := List.mem_of_getElem? hn
      obtain ⟨kvs, k1, k2, k3⟩ := hfil4.put (by show _ < 2 ^ 24; omega) hmal ((e3.fr.trans f4).al hat2) hnb
      refine ⟨_, rfl, _, rfl, _, rfl, d, _, rfl, DPut.k (k := .inr n) k1 k2, _, rfl, e4.put hd k1 trivial _, f4.trans (Fr.put k1 rfl _), k3.more (fun m hm => ?_) (Nat.le_refl _)⟩
      rw [List.take_add_one, hn] at hm
      rcases hm with hm | hm
      · exact .inl (.inl hm)
      · rcases List.mem_append.mp hm with hm | hm
        · exact .inl (.inr hm)
        · exact .inr (by simpa using hm)
    · obtain ⟨z3, rfl, e4, f4, hfil4⟩ := h
      refine ⟨_, _, rfl, e4, f2.trans (e3.fr.trans f4), hfil4.more (fun m hm => ?_) (by rw [List.length_map]; omega)⟩
      obtain ⟨al2, h1, h2⟩ := hm
      rw [List.take_add_one, hal] at h1
      rcases List.mem_append.mp h1 with h1 | h1
      · exact .inl ⟨al2, h1, h2⟩
      · have ex : al2 = al := by simpa using h1
        rw [ex] at h2
        exact .inr (by rw [List.length_map, List.take_length]; exact h2)
  obtain ⟨z2, z3, rfl, e2, f2, kvs, hfd, hfl, hfa, hfb⟩ := h
  rw [hlen, List.take_length] at hfb
  have hLD : LinesD K ns H2 d s0 := ⟨kvs, hfd, hfa, fun n hn => by obtain ⟨al, h1, h2⟩ := List.mem_flatMap.mp hn; exact hfb n ⟨al, h1, h2⟩⟩
  have hl8 := hok.o8
  refine ⟨_, rfl, a, _, dx, _, _, rfl, e2.at ha, T.cl_Sheet, T.na_Sheet_outputs, rfl, ot, _, rfl, .inr (.of (e2.at ho)), fun k hk => ?_⟩
  have e3 : Ext K H2 (upd H2 k (.lst (s0.outs.map V.str))) := Ext.new hk _
  have z3' : (upd H2 k (.lst (s0.outs.map V.str))) k = some (.lst (s0.outs.map V.str)) := upd_same
  generalize hG3 : upd H2 k (.lst (s0.outs.map V.str)) = H3 at e3 z3'
  have hls3 : Paired (LineAt K ns H3) lvs s0.lns := Paired.mapP hls fun _ _ z => (e2.trans e3).fr.line z
  have hlsl := hls.length
  refine ⟨_, rfl, a, _, dx, _, _, rfl, (e2.trans e3).at ha, T.cl_Sheet, T.na_Sheet_lines, rfl, lt, rfl, ⟨lvs, .of ((e2.trans e3).at hl)⟩, for_tup (xs := lvs) (fun i σ H4 => ∃ z2 z3 z5 xs, σ = [some (.ref a), some (.ref d), z2, z3, some (.ref k), z5] ∧ Ext K H2 H4 ∧ Fr H3 H4 ∧ H4 k = some (.lst (List.map V.str xs)) ∧ (∀ x ∈ xs, x ∈ s0.names) ∧ xs.length ≤ 8 + i * 104) ⟨_, _, none, s0.outs, rfl, e3, Fr.refl _, z3', hok.outIn, by omega⟩ (fun i σ H4 _ h => ?_) (fun i x σ H4 hx h => ?_) (fun σ H4 h => ?_)⟩
  · obtain ⟨_, _, _, _, _, e4, _⟩ := h
    exact .of ((e2.trans e4).at hl)
  · obtain ⟨y2, y3, y5, xs, rfl, e4, f4, hk4, hxs, hxl⟩ := h
    obtain ⟨ln, hln, hat⟩ := paired_get hls3 hx
    have hmln := List.mem_of_getElem? hln
    have hi80 : i < s0.lns.length := (List.getElem?_eq_some_iff.mp hln).1
    have h80 := hf.lns
    have hat4 := f4.line hat
    obtain ⟨a', dx', fs', rfl, g1, g2, g3, g4, g5⟩ := AlAt.head (a := .ln ln) hat4
    have he8 := (hf.each ln hmln).2
    refine ⟨(Al.ln ln).c, _, rfl, a', dx', fs', rfl, g1, g4, _, ln, ns, rfl, rfl, hat4, fun b pvs H5 e5 hb hps => ?_⟩
    have hpl := hps.length
    refine ⟨b, rfl, ⟨_, hb⟩, for_tup (xs := pvs) (fun j σ H6 => ∃ z5 xs, σ = [some (.ref a), some (.ref d), some (.ref a'), y3, some (.ref k), z5] ∧ Ext K H2 H6 ∧ Fr H5 H6 ∧ H6 k = some (.lst (List.map V.str xs)) ∧ (∀ x ∈ xs, x ∈ s0.names) ∧ xs.length ≤ 8 + i * 104 + j * 13) ⟨y5, xs, rfl, e4.trans e5, Fr.refl _, e5.at hk4, hxs, by omega⟩ (fun j σ H6 _ h => ?_) (fun j x σ H6 hx h => ?_) (fun σ H6 h => ?_)⟩
    · obtain ⟨_, _, _, _, f6, _⟩ := h
      exact f6.t hb
    · obtain ⟨w5, ys, rfl, e6, f6, hk6, hys, hyl⟩ := h
      obtain ⟨p, hp, hP⟩ := paired_get hps hx
      have hj : j < ln.eqs.length := (List.getElem?_eq_some_iff.mp hp).1
      obtain ⟨hdp, hnm⟩ := hok.eqIn ln hmln p (List.mem_of_getElem? hp)
      have hP6 := f6.part hP
      obtain ⟨a1, dx1, fs1, rfl, k1, k2, k3, k4, k5, k6, k7⟩ := hP6.head
      have hz13 := sz_few hdp
      have hns := names_sz p
      refine ⟨_, rfl, p.k, _, rfl, a1, dx1, fs1, rfl, k1, k6, _, p, rfl, rfl, hdp, hdp, hP6, fun r zs H7 e7 hr0 hr1 hm hle => ?_⟩
      refine ⟨k, r, _, _, rfl, rfl, e7.at hk6, hr1, by rw [List.length_map, List.length_map]; show _ ≤ 2 ^ 24; omega, _, ys ++ zs, rfl, (e6.trans e7).push hk (e7.at hk6), (f6.trans e7.fr).trans (Fr.put (e7.at hk6) rfl _), by rw [upd_same, List.map_append], fun x hx => ?_, by rw [List.length_append]; omega⟩
      rcases List.mem_append.mp hx with h | h
      · exact hys x h
      · exact hnm x ((hm x).mp h)
    · obtain ⟨w5, ys, rfl, e6, f6, hk6, hys, hyl⟩ := h
      exact ⟨_, _, _, ys, rfl, e6, f4.trans (e5.fr.trans f6), hk6, hys, by omega⟩
  obtain ⟨y2, y3, y5, xs, rfl, e4, f4, hk4, hxs, hxl⟩ := h
  have h80 := hf.lns
  refine ⟨_, rfl, k, rfl, ⟨_, .of hk4⟩, for_list (xs := xs.map V.str) (fun i σ H5 => H5 = H4 ∧ ∃ z3, σ = [some (.ref a), some (.ref d), y2, z3, some (.ref k), y5]) ⟨rfl, _, rfl⟩ (fun i σ H5 _ h => by rw [h.1]; exact .of hk4) (fun i x σ H5 hx h => ?_) (fun σ H5 h => ?_)⟩
  · obtain ⟨rfl, z3, rfl⟩ := h
    rw [List.getElem?_map] at hx
    obtain ⟨n, hn, rfl⟩ := Option.map_eq_some_iff.mp hx
    obtain ⟨kvs4, m1, m2, m3⟩ := e4.linesD hLD
    have hsome := m3 n (hxs n (List.mem_of_getElem? hn))
    refine ⟨_, rfl, _, rfl, d, _, rfl, DGet.k (k := .inr n) m1, _, rfl, ite_f (nf hsome) ⟨rfl, _, rfl⟩⟩
  obtain ⟨rfl, z3, rfl⟩ := h
  have E4 := e2.trans e4
  refine ⟨_, rfl, a, dx, _, rfl, E4.at ha, rfl, _, s0, ns, rfl, E4.fr.sheet hv0, hf, fun t2 avs2 H6 e6 ht2 havs2 => ?_⟩
  refine ⟨t2, rfl, ⟨_, ht2⟩, for_tup (xs := avs2) (fun i σ H7 => ∃ z2, σ = [some (.ref a), some (.ref d), z2, z3, some (.ref k), y5] ∧ Ext K H6 H7) ⟨_, rfl, Ext.refl K _⟩ (fun i σ H7 _ h => ?_) (fun i x σ H7 hx h => ?_) (fun σ H7 h => ?_)⟩
  · obtain ⟨_, _, e7⟩ := h
    exact e7.t ht2
  · obtain ⟨w2, rfl, e7⟩ := h
    obtain ⟨al, hal, hat⟩ := paired_get havs2 hx
    exact ⟨_, rfl, _, rfl, d, x, al, s0, ns, rfl, e7.fr.al hat, ((e4.trans e6).trans e7).linesD hLD, hok.names, hok.chain al (List.mem_of_getElem? hal), fun H8 e8 => ⟨_, rfl, e7.trans e8⟩⟩
  · obtain ⟨w2, rfl, e7⟩ := h
    exact q _ ((E4.trans e6).trans e7)
theorem ok_Sheet_need_known (T : Top K mg) : C8.Met P w K mg base 6 (He.ga K "Sheet") "need_known" (sp_Sheet_need_known K) [] :=
  met_of T 108 d_Sheet_need_known s_Sheet_need_known (He.ga K "Sheet") "need_known" rfl rfl rfl rfl T.cl_Sheet T.me_Sheet_need_known sc_Sheet_need_known (fun _ _ _ _ _ _ us hl => match us, hl with | [_], _ => rfl) ln_Sheet_need_known (bd_Sheet_need_known T (ok_Sheet_all_lines T) (ok_borne T) (ok_equations T) (fam_names T 3) (ok_need_on T))
end

section
variable {P : Program} {w : World} {K : PySem.W.Frag} {mg : Str → Option Value} {base : Heap} {q : Str} {f : Addr}

theorem Ext.seq {K : PySem.W.Frag} {H H1 : Hp} {p : Addr} {xs : List V} (e : Ext K H H1) (h : H p = some (.lst xs) ∨ H p = some (.tup xs)) : H1 p = some (.lst xs) ∨ H1 p = some (.tup xs) := h.imp (fun z => e.at z) fun z => e.at z

theorem sc_Sheet_init : FnScope ["self", "name", "inputs", "outputs", "lines"] ["self", "name", "inputs", "outputs", "lines"] (defScope s_Sheet_init) := ⟨rfl, rfl, rfl, by decide +kernel, rfl, by decide +kernel, by decide +kernel⟩
def sp_Sheet_init (K : PySem.W.Frag) : Sp := fun vs H Q _ => ∃ (a ia oa la : Addr) (s : Sh) (ns : List Str) (ivs lvs : List V), vs = [.ref a, .str s.nm, .ref ia, .ref oa, .ref la] ∧ SheetOk s ∧ ∃ (dx : Addr) (Hb : Hp), H a = some (.ins (He.ga K "Sheet") dx []) ∧ Hb a = none ∧ Ext K Hb H ∧ (Hb ia = some (.lst ivs) ∨ Hb ia = some (.tup ivs)) ∧ Paired (InputAt K Hb) ivs s.ins ∧ (Hb oa = some (.lst (s.outs.map V.str)) ∨ Hb oa = some (.tup (s.outs.map V.str))) ∧ (Hb la = some (.lst lvs) ∨ Hb la = some (.tup lvs)) ∧ Paired (LineAt K ns Hb) lvs s.lns ∧ ∀ H', Ext K Hb H' → SheetAt K ns H' (.ref a) s → Q .non H'
theorem ln_Sheet_init {K : PySem.W.Frag} : ∀ vs H Q E, (sp_Sheet_init K) vs H Q E → vs.length = (["self", "name", "inputs", "outputs", "lines"] : List Str).length := fun vs H Q E h => by
  obtain ⟨_, _, _, _, _, _, _, _, rfl, _⟩ := h
  rfl
theorem bd_Sheet_init (T : Top K mg) (c_is_word : C8.Cal P w K mg base 2 "is_word" (sp_is_word K) []) (c_need_single : C8.Cal P w K mg base 1 "need_single" (sp_need_single K) []) (me_Sheet_names : C8.Met P w K mg base 2 (He.ga K "Sheet") "names" (sp_Sheet_names K) []) (me_need_known : C8.Met P w K mg base 6 (He.ga K "Sheet") "need_known" (sp_Sheet_need_known K) []) : Body P w K mg base q s_Sheet_init f ["self", "name", "inputs", "outputs", "lines"] (6) (sp_Sheet_init K) := fun cdv A outer s H vs Q E hr h => by
  have hu := hu_of hr
  obtain ⟨a, ia, oa, la, s0, ns, ivs, lvs, rfl, hok, dx, Hb, ha, hb, he, hia, his, hoa, hla, hls, q⟩ := h
  refine ⟨_, (pss_cons (ps_if (pt_not (pt_val (C8.pe_c c_is_word hr (by omega) rfl (pa_cons (pv 1) pa_nil)))) pss_never pss_nil)
        (pss_cons (ps_fld (pv 0) (pv 1) rfl)
        (pss_cons (ps_fld (pv 0) (pe_callTy call_tuple_any (by rfl) T.n_tuple (by decide +kernel) (pa_cons (pv 2) pa_nil)) rfl)
        (pss_cons (ps_fld (pv 0) (pe_callTy call_tuple_any (by rfl) T.n_tuple (by decide +kernel) (pa_cons (pv 3) pa_nil)) rfl)
        (pss_cons (ps_fld (pv 0) (pe_callTy call_tuple_any (by rfl) T.n_tuple (by decide +kernel) (pa_cons (pv 4) pa_nil)) rfl)
        (pss_cons (ps_if (PW.pt (pw_or (pt_cmpR op_gt (pe_callB call_len_seq (by rfl) T.n_len PySem.boot_len (pa_cons (pe_fld (pv 0) rfl) pa_nil)) (C8.pe_gc rfl T.i_MOST_IN) (nomark _)) (pw_or1 (pt_not (pt_chain op_le op_le pe_int (pe_callB call_len_seq (by rfl) T.n_len PySem.boot_len (pa_cons (pe_fld (pv 0) rfl) pa_nil)) (C8.pe_gc rfl T.i_MOST_OUT)))))) pss_never pss_nil)
        (pss_cons (ps_if (pt_not (pt_chain op_le op_le pe_int (pe_callB call_len_seq (by rfl) T.n_len PySem.boot_len (pa_cons (pe_fld (pv 0) rfl) pa_nil)) (C8.pe_gc rfl T.i_MOST_LINES_sheets))) pss_never pss_nil)
        (pss_cons (ps_expr (C8.pe_c c_need_single hr (by omega) rfl (pa_cons (pe_fld (pv 0) rfl) pa_nil)))
        (pss_cons (ps_expr (C8.pe_c c_need_single hr (by omega) rfl (pa_cons (C8.pe_mt0 me_Sheet_names hr (by omega) (pv 0)) pa_nil)))
        (pss_one (ps_expr (C8.pe_mt0 me_need_known hr (by omega) (pv 0))))))))))))), ?_⟩
  refine ⟨_, rfl, s0.nm, rfl, hok.nm, fun H1 e1 => ⟨true, rfl, ite_f rfl ?_⟩⟩
  have ha0 := e1.at ha
  have he0 := he.trans e1
  refine ⟨_, rfl, _, rfl, a, _, dx, _, rfl, ha0, T.cl_Sheet, T.na_Sheet_name, by show (0 : Nat) < 1000; decide, ?_⟩
  have hb0 := ha0
  have hc0 := he0
  generalize hG0 : upd _ a _ = G0
  have ha1 : G0 a = some (.ins (He.ga K "Sheet") dx [("name", .str s0.nm)]) := by rw [← hG0]; exact upd_same
  have he1 : Ext K Hb G0 := by rw [← hG0]; exact hc0.put hb hb0 trivial _
  refine ⟨_, rfl, _, ivs, rfl, he1.seq hia, fun it X1 ex1 kit_1 => ⟨_, rfl, a, _, dx, _, rfl, ex1.at ha1, T.cl_Sheet, T.na_Sheet_inputs, by show (1 : Nat) < 1000; decide, ?_⟩⟩
  have hb1 := ex1.at ha1
  have hc1 := he1.trans ex1
  generalize hG1 : upd _ a _ = G1
  have ha2 : G1 a = some (.ins (He.ga K "Sheet") dx [("name", .str s0.nm), ("inputs", .ref it)]) := by rw [← hG1]; exact upd_same
  have he2 : Ext K Hb G1 := by rw [← hG1]; exact hc1.put hb hb1 trivial _
  have hit_2 : G1 it = some (.tup (ivs)) := by rw [← hG1, upd_ne (tup_ne hb1 kit_1)]; exact kit_1
  refine ⟨_, rfl, _, s0.outs.map V.str, rfl, he2.seq hoa, fun ot X2 ex2 kot_2 => ⟨_, rfl, a, _, dx, _, rfl, ex2.at ha2, T.cl_Sheet, T.na_Sheet_outputs, by show (2 : Nat) < 1000; decide, ?_⟩⟩
  have hb2 := ex2.at ha2
  have hc2 := he2.trans ex2
  have kit_2 := ex2.at hit_2
  generalize hG2 : upd _ a _ = G2
  have ha3 : G2 a = some (.ins (He.ga K "Sheet") dx [("name", .str s0.nm), ("inputs", .ref it), ("outputs", .ref ot)]) := by rw [← hG2]; exact upd_same
  have he3 : Ext K Hb G2 := by rw [← hG2]; exact hc2.put hb hb2 trivial _
  have hit_3 : G2 it = some (.tup (ivs)) := by rw [← hG2, upd_ne (tup_ne hb2 kit_2)]; exact kit_2
  have hot_3 : G2 ot = some (.tup (s0.outs.map V.str)) := by rw [← hG2, upd_ne (tup_ne hb2 kot_2)]; exact kot_2
  refine ⟨_, rfl, _, lvs, rfl, he3.seq hla, fun lt X3 ex3 klt_3 => ⟨_, rfl, a, _, dx, _, rfl, ex3.at ha3, T.cl_Sheet, T.na_Sheet_lines, by show (3 : Nat) < 1000; decide, ?_⟩⟩
  have hb3 := ex3.at ha3
  have hc3 := he3.trans ex3
  have kit_3 := ex3.at hit_3
  have kot_3 := ex3.at hot_3
  generalize hG3 : upd _ a _ = G3
  have ha4 : G3 a = some (.ins (He.ga K "Sheet") dx [("name", .str s0.nm), ("inputs", .ref it), ("outputs", .ref ot), ("lines", .ref lt)]) := by rw [← hG3]; exact upd_same
  have he4 : Ext K Hb G3 := by rw [← hG3]; exact hc3.put hb hb3 trivial _
  have hit_4 : G3 it = some (.tup (ivs)) := by rw [← hG3, upd_ne (tup_ne hb3 kit_3)]; exact kit_3
  have hot_4 : G3 ot = some (.tup (s0.outs.map V.str)) := by rw [← hG3, upd_ne (tup_ne hb3 kot_3)]; exact kot_3
  have hlt_4 : G3 lt = some (.tup (lvs)) := by rw [← hG3, upd_ne (tup_ne hb3 klt_3)]; exact klt_3
  
  have h1 := his.length
  have h2 := hls.length
  have h3 := hok.few.ins
  have h4 := hok.few.lns
  have h5 := hok.o1
  have h6 := hok.o8
  have h7 := hok.l1
  have h8 := hok.few.names
  have hol : (s0.outs.map V.str).length = s0.outs.length := List.length_map ..
  have hS : SheetAt K ns G3 (.ref a) s0 := ⟨a, dx, it, ot, lt, ivs, lvs, rfl, ha4, hit_4, Paired.mapP his fun _ _ z => he4.fr.input z, hot_4, hlt_4, Paired.mapP hls fun _ _ z => he4.fr.line z⟩
  refine ⟨_, rfl, a, _, dx, _, _, rfl, ha4, T.cl_Sheet, T.na_Sheet_inputs, rfl, it, _, rfl, .inr (.of hit_4), _, 8, rfl, rfl, false, congrArg V.bl (df (by omega)), ite_f rfl ?_⟩
  refine ⟨_, rfl, a, _, dx, _, _, rfl, ha4, T.cl_Sheet, T.na_Sheet_outputs, rfl, ot, _, rfl, .inr (.of hot_4), 1, _, rfl, rfl, true, congrArg V.bl (dt (by omega)), ite_t rfl ⟨_, 8, rfl, rfl, true, congrArg V.bl (dt (by omega)), ite_f rfl ?_⟩⟩
  refine ⟨_, rfl, a, _, dx, _, _, rfl, ha4, T.cl_Sheet, T.na_Sheet_lines, rfl, lt, _, rfl, .inr (.of hlt_4), 1, _, rfl, rfl, true, congrArg V.bl (dt (by omega)), ite_t rfl ⟨_, 80, rfl, rfl, true, congrArg V.bl (dt (by omega)), ite_f rfl ?_⟩⟩
  refine ⟨_, rfl, a, _, dx, _, _, rfl, ha4, T.cl_Sheet, T.na_Sheet_outputs, rfl, ot, s0.outs, rfl, .inr (.of hot_4), by omega, hok.outs, ?_⟩
  refine ⟨_, rfl, a, dx, _, rfl, ha4, rfl, _, s0, ns, rfl, hS, hok.few, fun p H2 e2 hp => ⟨p, s0.names, rfl, .inl (.of hp), by omega, hok.names, ?_⟩⟩
  exact ⟨_, rfl, a, dx, _, rfl, e2.at ha4, rfl, _, s0, ns, rfl, e2.fr.sheet hS, hok, fun H3 e3 => q H3 (he4.trans (e2.trans e3)) (e3.fr.sheet (e2.fr.sheet hS))⟩
theorem ok_Sheet_init (T : Top K mg) : C8.Mak P w K mg base 7 "Sheet" (He.ga K "Sheet") (sp_Sheet_init K) [] :=
  mak_of T 106 d_Sheet_init s_Sheet_init "Sheet" rfl rfl T.g_Sheet T.mk_Sheet sc_Sheet_init (.inl ⟨rfl, rfl, (fun _ _ _ _ _ _ us hl => match us, hl with | [_, _, _, _, _], _ => rfl)⟩) ln_Sheet_init (bd_Sheet_init T (ok_is_word T) (ok_need_single T) (ok_Sheet_names T) (ok_Sheet_need_known T))
end

section
variable {P : Program} {w : World} {K : PySem.W.Frag} {mg : Str → Option Value} {base : Heap} {q : Str} {f : Addr}
structure BookOk (S : List Sh) : Prop where
  l1 : 1 ≤ S.length
  l6 : S.length ≤ 6
  names : (S.map Sh.nm).Nodup
  sheets : ∀ s ∈ S, SheetOk s
  uses : ∀ (j : Nat) (s : Sh), S[j]? = some s → ∀ bs k ps on, Ln.use bs k ps on ∈ s.lns → k < j ∧ ∃ s', S[k]? = some s' ∧ ps.length = s'.ins.length ∧ bs.length = s'.outs.length ∧ ∀ o ∈ s'.outs, ∀ al ∈ s'.all, o ∈ al.borne → al.on = none
theorem nm_inj {S : List Sh} (hn : (S.map Sh.nm).Nodup) {x y : Sh} (hx : x ∈ S) (hy : y ∈ S) (e : x.nm = y.nm) : x = y := by
  have h : ((S.map fun s => (s.nm, s)).map (·.1)).Nodup := by rw [List.map_map]; exact hn
  refine nodup_fun h (o := x.nm) (List.mem_map.mpr ⟨x, hx, rfl⟩) (List.mem_map.mpr ⟨y, hy, ?_⟩)
  rw [e]
theorem nm_ix {S : List Sh} (hn : (S.map Sh.nm).Nodup) {i j : Nat} {x y : Sh} (hx : S[i]? = some x) (hy : S[j]? = some y) (e : x.nm = y.nm) : i = j := by
  have h1 : (S.map Sh.nm)[i]? = some x.nm := by rw [List.getElem?_map, hx]; rfl
  have h2 : (S.map Sh.nm)[j]? = some x.nm := by rw [List.getElem?_map, hy, e]; rfl
  obtain ⟨hi, e1⟩ := List.getElem?_eq_some_iff.mp h1
  obtain ⟨hj, e2⟩ := List.getElem?_eq_some_iff.mp h2
  exact (List.getElem_inj hn).mp (e1.trans e2.symm)
/-- the dict of the first m sheets by their names -/
def KnownD (K : PySem.W.Frag) (S : List Sh) (H : Hp) (d : Addr) (m : Nat) : Prop := ∃ kvs, H d = some (.dK kvs) ∧ kvs.length ≤ m ∧ (∀ n v, valV kvs (.inr n) = some v → ∃ j s, j < m ∧ S[j]? = some s ∧ s.nm = n ∧ SheetAt K (S.map Sh.nm) H v s) ∧ ∀ j s, j < m → S[j]? = some s → (valV kvs (.inr s.nm)).isSome = true
theorem Ext.knownD {K : PySem.W.Frag} {S : List Sh} {H H1 : Hp} {d : Addr} {m : Nat} (e : Ext K H H1) (h : KnownD K S H d m) : KnownD K S H1 d m := by
  obtain ⟨kvs, h1, h2, h3, h4⟩ := h
  exact ⟨kvs, e.at h1, h2, fun n v hv => by obtain ⟨j, s, g1, g2, g3, g4⟩ := h3 n v hv; exact ⟨j, s, g1, g2, g3, e.fr.sheet g4⟩, h4⟩

theorem sc_need_use : FnScope ["known", "use", "sheet", "line", "name"] ["known", "use"] (defScope s_need_use) := ⟨rfl, rfl, rfl, by decide +kernel, rfl, by decide +kernel, by decide +kernel⟩
def sp_need_use (K : PySem.W.Frag) : Sp := fun vs H Q _ => ∃ (d : Addr) (v : V) (S : List Sh) (bs : List Str) (k : Nat) (ps : List Tl) (on : Option Str) (m : Nat) (s : Sh), vs = [.ref d, v] ∧ LineAt K (S.map Sh.nm) H v (.use bs k ps on) ∧ KnownD K S H d m ∧ k < m ∧ S[k]? = some s ∧ (S.map Sh.nm).Nodup ∧ SheetOk s ∧ ps.length = s.ins.length ∧ bs.length = s.outs.length ∧ (∀ o ∈ s.outs, ∀ al ∈ s.all, o ∈ al.borne → al.on = none) ∧ ∀ H', Ext K H H' → Q .non H'
theorem ln_need_use {K : PySem.W.Frag} : ∀ vs H Q E, (sp_need_use K) vs H Q E → vs.length = (["known", "use"] : List Str).length := fun vs H Q E h => by
  obtain ⟨_, _, _, _, _, _, _, _, _, rfl, _⟩ := h
  rfl
theorem bd_need_use (T : Top K mg) (me_line : C8.Met P w K mg base 2 (He.ga K "Sheet") "line" (sp_Sheet_line K) []) : Body P w K mg base q s_need_use f ["known", "use", "sheet", "line", "name"] (2) (sp_need_use K) := fun cdv A outer s H vs Q E hr h => by
  have hu := hu_of hr
  obtain ⟨d, v, S, bs, k, ps, on, m, s0, rfl, hv, hD, hkm, hSk, hnd, hok, hps, hbs, hon, q⟩ := h
  refine ⟨_, (pss_cons (ps_if (pt_cmp (pc_dnotin hu (pe_fld (pv 1) rfl) (pv 0)) rfl) pss_never pss_nil)
        (pss_cons (ps_set (i := 2) sc_need_use.nd rfl (by first | exact Or.inl rfl | exact Or.inr rfl) (pe_dget hu (pv 0) (pe_fld (pv 1) rfl) (fun _ _ => rfl)))
        (pss_cons (ps_if (PW.pt (pw_or (pt_cmpR op_ne (pe_callB call_len_seq (by rfl) T.n_len PySem.boot_len (pa_cons (pe_fld (pv 1) rfl) pa_nil)) (pe_callB call_len_seq (by rfl) T.n_len PySem.boot_len (pa_cons (pe_fld (pv 2) rfl) pa_nil)) (nomark _)) (pw_or1 (pt_cmpR op_ne (pe_callB call_len_seq (by rfl) T.n_len PySem.boot_len (pa_cons (pe_fld (pv 1) rfl) pa_nil)) (pe_callB call_len_seq (by rfl) T.n_len PySem.boot_len (pa_cons (pe_fld (pv 2) rfl) pa_nil)) (nomark _))))) pss_never pss_nil)
        (pss_one (ps_for PassesOwn.never rfl (pi_tup (pe_op op_catA (pe_fld (pv 2) rfl) (pe_callTy call_tuple_of (by rfl) T.n_tuple (by decide +kernel) (pa_cons (pe_lc (own := [("name", 4)]) rfl sc_need_use.nd (pi_tup (pe_fld (pv 2) rfl)) (blkOk_by (own := [("name", 4)]) (N := ["known", "use", "sheet", "line", "name"]) (sc := defScope s_need_use) (by decide +kernel)) (fun _ _ _ _ _ => (pg_name (i := 4) sc_need_use.nd rfl (by first | exact Or.inl rfl | exact Or.inr rfl))) (fun _ _ _ _ _ => pts_nil) (fun _ _ _ _ _ => (C8.pe_mt me_line hr (by omega) (pv 2) (pa_cons (pv 4) pa_nil)))) pa_nil)))) (pg_name (i := 3) sc_need_use.nd rfl (by first | exact Or.inl rfl | exact Or.inr rfl))
          (pss_one (ps_if (pt_cmp (pc_notN (pe_fld (pv 3) rfl))) pss_never pss_nil))))))), ?_⟩
  obtain ⟨a, dx, bt, pt, pvs, m0, rfl, ha, hm, hb, hp, hpp⟩ := hv
  obtain ⟨kvs, hd1, hd2, hd3, hd4⟩ := hD
  have em : m0 = s0.nm := by
    rw [List.getElem?_map, hSk] at hm
    exact (Option.some.inj hm).symm
  subst em
  cases hval : valV kvs (.inr s0.nm) with
  | none => have z := hd4 k s0 hkm hSk; rw [hval] at z; cases z
  | some v1 =>
    obtain ⟨j, s1, hj, hSj, e1, hs1⟩ := hd3 _ v1 hval
    have ej := nm_ix hnd hSj hSk e1
    subst ej
    rw [hSk] at hSj
    obtain rfl := Option.some.inj hSj
    have hg : DGet H d (.str s0.nm) (some v1) := by rw [← hval]; exact DGet.k (k := .inr s0.nm) hd1
    have hs0 := hs1
    obtain ⟨a1, dx1, it, ot, lt, ivs, lvs, rfl, g1, g2, g3, g4, g5, g6⟩ := hs1
    refine ⟨_, rfl, a, _, dx, _, _, rfl, ha, T.cl_Use, T.na_Use_module, rfl, _, rfl, d, _, rfl, hg, _, rfl, ite_f rfl ?_⟩
    refine ⟨_, rfl, _, rfl, a, _, dx, _, _, rfl, ha, T.cl_Use, T.na_Use_module, rfl, d, _, rfl, hg, ?_⟩
    have hpl := hpp.length
    have hil := g3.length
    refine ⟨_, rfl, a, _, dx, _, _, rfl, ha, T.cl_Use, T.na_Use_parts, rfl, pt, _, rfl, .inr (.of hp), _, rfl, a1, _, dx1, _, _, rfl, g1, T.cl_Sheet, T.na_Sheet_inputs, rfl, it, _, rfl, .inr (.of g2), rfl, _, rfl, ite_f (nf (dt (by rw [hpl, hps, hil]))) ?_⟩
    refine ⟨_, rfl, a, _, dx, _, _, rfl, ha, T.cl_Use, T.na_Use_binds, rfl, bt, _, rfl, .inr hb.t, _, rfl, a1, _, dx1, _, _, rfl, g1, T.cl_Sheet, T.na_Sheet_outputs, rfl, ot, _, rfl, .inr (.of g4), rfl, _, rfl, ite_f (nf (dt (by rw [List.length_map, List.length_map, hbs]))) ?_⟩
    have ho8 := hok.o8
    have ho1 := hok.o1
    have hi8 := hok.few.ins
    have hol : (s0.outs.map V.str).length = s0.outs.length := List.length_map ..
    refine ⟨_, rfl, a1, _, dx1, _, _, rfl, g1, T.cl_Sheet, T.na_Sheet_inputs, rfl, _, rfl, a1, _, dx1, _, _, rfl, g1, T.cl_Sheet, T.na_Sheet_outputs, rfl, ot, rfl, ⟨_, .of g4⟩, lcT (K := K) (H1 := H) (a := ot) (xs := s0.outs.map V.str) (fun i acc H2 => acc.length = i ∧ ∃ als, Paired (AlAt K (S.map Sh.nm) H2) acc als ∧ ∀ x ∈ als, x.on = none)
      (fun e h => by obtain ⟨h0, als, h1, h2⟩ := h; exact ⟨h0, als, Paired.mapP h1 fun _ _ z => e.al z, h2⟩) (.of g4) (by show _ ≤ 2 ^ 24; omega) ⟨rfl, [], .nil, by simp⟩ (fun i x hx acc H2 N S2 e2 pj hN hS => ?_) fun D ys H2 hD2 e2 hl2 hn pj => ?_⟩
    · rw [List.getElem?_map] at hx
      obtain ⟨o, ho, rfl⟩ := Option.map_eq_some_iff.mp hx
      have hmo := List.mem_of_getElem? ho
      obtain ⟨p0, als, p1, p2⟩ := pj
      refine ⟨rfl, ?_⟩
      refine ⟨_, rfl, a1, dx1, _, rfl, e2.at g1, rfl, _, rfl, _, s0, _, o, rfl, e2.fr.sheet hs0, hok.few, hok.outIn o hmo, fun r al H3 e3 hr hal hb => hN _ _ e3 ⟨by rw [List.length_append, p0]; rfl, als ++ [al], Paired.snoc (Paired.mapP p1 fun _ _ z => e3.fr.al z) hr, fun x hx => ?_⟩⟩
      rcases List.mem_append.mp hx with h | h
      · exact p2 x h
      · rw [List.mem_singleton.mp h]
        exact hon o hmo al hal hb
    · obtain ⟨p0, als, p1, p2⟩ := pj
      rw [hol] at p0
      refine ⟨D, ys, rfl, .inl ⟨.of hl2, fun b hbn => ?_⟩⟩
      have e3 : Ext K H (upd H2 b (.tup ys)) := e2.trans (Ext.new hbn _)
      have hp3 : Paired (AlAt K (S.map Sh.nm) (upd H2 b (.tup ys))) (ivs ++ ys) (s0.ins.map Al.inp ++ als) := paired_app (paired_map Al.inp (fun _ _ h => h) (Paired.mapP g3 fun _ _ z => e3.fr.input z)) (Paired.mapP p1 fun _ _ z => (Fr.new hbn _).al z)
      have hno : ∀ x ∈ s0.ins.map Al.inp ++ als, x.on = none := fun x hx => by
        rcases List.mem_append.mp hx with h | h
        · obtain ⟨i, _, rfl⟩ := List.mem_map.mp h
          rfl
        · exact p2 x h
      have fin : ∀ (t : Addr) (avs : List V) (als : List Al) (H4 : Hp), Ext K H H4 → SqT K H4 t avs → Paired (AlAt K (S.map Sh.nm) H4) avs als → (∀ x ∈ als, x.on = none) → ∃ W : Nat → Nat → L2.St → Hp → Prop, (∃ m, W 0 m [some (.ref d), some (.ref a), some (.ref a1), none, none] H4) ∧ ∀ i m σ H, W i m σ H →
          ((Itt K t).stop i H ∧ Q .non H) ∨ ((Itt K t).go i H ∧ ∃ N : L2.St → Hp → Prop, (∀ σ' H', N σ' H' → ∃ m', m' < m ∧ W (i + 1) m' σ' H') ∧ ∀ x H', (Itt K t).yld i H x H' → gName 3 x σ H' fun σ2 H2 => tIfS (tB (tNotN (tFld K (tVar 3) "on"))) tNever tNext { nx := N, rt := Q, bk := fun _ H => Q .non H, ct := N } σ2 H2) := by
        intro t avs als H4 e4 ht hpa hna
        refine for_tup (D := { nx := fun _ H => Q .non H, rt := Q, bk := fun _ H => Q .non H, ct := fun _ H => Q .non H }) (tb := tIfS (tB (tNotN (tFld K (tVar 3) "on"))) tNever tNext) (xs := avs) (fun i σ H5 => H5 = H4 ∧ ∃ z, σ = [some (.ref d), some (.ref a), some (.ref a1), z, none]) ⟨rfl, _, rfl⟩ (fun i σ H5 _ h => by rw [h.1]; exact ht) (fun i x σ H5 hx h => ?_) (fun σ H5 h => ?_)
        · obtain ⟨rfl, z, rfl⟩ := h
          obtain ⟨al, hal, hat⟩ := paired_get hpa hx
          obtain ⟨a2, dx2, fs2, rfl, k1, k2, k3, k4, k5⟩ := hat.head
          rw [hna al (List.mem_of_getElem? hal)] at k2
          exact ⟨_, rfl, a2, _, dx2, fs2, _, rfl, k1, T.clL _, T.naO _, k2, _, rfl, ite_f rfl ⟨rfl, _, rfl⟩⟩
        · rw [h.1]
          exact q H4 e4
      refine ⟨it, b, ivs, ys, rfl, rfl, .of (e3.at g2), .of upd_same, by show _ ≤ 2 ^ 24; omega, fun e => ?_, fun _ e => ?_, fun _ _ t ht => ?_⟩
      · rw [e] at hp3
        exact ⟨b, rfl, ⟨ys, .of upd_same⟩, fin b ys _ _ e3 (.of upd_same) hp3 hno⟩
      · rw [e] at p0
        have : 0 = s0.outs.length := p0
        omega
      · exact ⟨t, rfl, ⟨_, .of upd_same⟩, fin t _ _ _ (e3.trans (Ext.new ht _)) (.of upd_same) (Paired.mapP hp3 fun _ _ z => (Fr.new ht _).al z) hno⟩
theorem ok_need_use (T : Top K mg) : C8.Cal P w K mg base 3 "need_use" (sp_need_use K) [] :=
  cal_of T 9 d_need_use s_need_use "need_use" rfl rfl rfl rfl T.g_need_use sc_need_use (fun _ _ _ _ _ _ us hl => match us, hl with | [_, _], _ => rfl) ln_need_use (bd_need_use T (ok_Sheet_line T))
end

section
variable {P : Program} {w : World} {K : PySem.W.Frag} {mg : Str → Option Value} {base : Heap} {q : Str} {f : Addr}
theorem sc_Book_init : FnScope ["self", "sheets", "known", "sheet", "line"] ["self", "sheets"] (defScope s_Book_init) := ⟨rfl, rfl, rfl, by decide +kernel, rfl, by decide +kernel, by decide +kernel⟩
def sp_Book_init (K : PySem.W.Frag) : Sp := fun vs H Q _ => ∃ (a sa : Addr) (S : List Sh) (svs : List V), vs = [.ref a, .ref sa] ∧ BookOk S ∧ ∃ (dx : Addr) (Hb : Hp), H a = some (.ins (He.ga K "Book") dx []) ∧ Hb a = none ∧ Ext K Hb H ∧ Hb sa = some (.lst svs) ∧ Paired (SheetAt K (S.map Sh.nm) Hb) svs S ∧ ∀ H', Ext K Hb H' → BookAt K H' (.ref a) S → Q .non H'
theorem ln_Book_init {K : PySem.W.Frag} : ∀ vs H Q E, (sp_Book_init K) vs H Q E → vs.length = (["self", "sheets"] : List Str).length := fun vs H Q E h => by
  obtain ⟨_, _, _, _, rfl, _⟩ := h
  rfl
theorem bd_Book_init (T : Top K mg) (c_need_use : C8.Cal P w K mg base 3 "need_use" (sp_need_use K) []) : Body P w K mg base q s_Book_init f ["self", "sheets", "known", "sheet", "line"] (3) (sp_Book_init K) := fun cdv A outer s H vs Q E hr h => by
  have hu := hu_of hr
  obtain ⟨a, sa, S, svs, rfl, hok, dx, Hb, ha, hb, he, hsa, hsv, q⟩ := h
  refine ⟨_, (pss_cons (ps_fld (pv 0) (pe_callTy call_tuple_any (by rfl) T.n_tuple (by decide +kernel) (pa_cons (pv 1) pa_nil)) rfl)
        (pss_cons (ps_if (pt_not (pt_chain op_le op_le pe_int (pe_callB call_len_seq (by rfl) T.n_len PySem.boot_len (pa_cons (pe_fld (pv 0) rfl) pa_nil)) (C8.pe_gc rfl T.i_MOST_SHEETS))) pss_never pss_nil)
        (pss_cons (ps_set (i := 2) sc_Book_init.nd rfl (by first | exact Or.inl rfl | exact Or.inr rfl) (pe_dnewK))
        (pss_one (ps_for PassesOwn.never rfl (pi_tup (pe_fld (pv 0) rfl)) (pg_name (i := 3) sc_Book_init.nd rfl (by first | exact Or.inl rfl | exact Or.inr rfl))
          (pss_cons (ps_if (pt_cmp (pc_din hu (pe_fld (pv 3) rfl) (pv 2)) rfl) pss_never pss_nil)
          (pss_cons (ps_for PassesOwn.never rfl (pi_tup (pe_fld (pv 3) rfl)) (pg_name (i := 4) sc_Book_init.nd rfl (by first | exact Or.inl rfl | exact Or.inr rfl))
            (pss_one (ps_if (pt_val (pe_callB call_isi (by rfl) T.n_isinstance (by decide +kernel) (pa_cons (pv 4) (pa_cons (pe_glob (v := .ref (He.ga K "Use")) rfl T.g_Use rfl) pa_nil)))) (pss_one (ps_expr (C8.pe_c c_need_use hr (by omega) rfl (pa_cons (pv 2) (pa_cons (pv 4) pa_nil))))) pss_nil)))
          (pss_one (ps_dput hu (pv 2) (pe_fld (pv 3) rfl) (pv 3) rfl))))))))), ?_⟩
  have ha0 := ha
  have he0 := he
  refine ⟨_, rfl, _, svs, rfl, .inl (he0.at hsa), fun st X0 ex0 kst_0 => ⟨_, rfl, a, _, dx, _, rfl, ex0.at ha0, T.cl_Book, T.na_Book_sheets, by show (0 : Nat) < 1000; decide, ?_⟩⟩
  have hb0 := ex0.at ha0
  have hc0 := he0.trans ex0
  generalize hG0 : upd _ a _ = G0
  have ha1 : G0 a = some (.ins (He.ga K "Book") dx [("sheets", .ref st)]) := by rw [← hG0]; exact upd_same
  have he1 : Ext K Hb G0 := by rw [← hG0]; exact hc0.put hb hb0 trivial _
  have hst_1 : G0 st = some (.tup (svs)) := by rw [← hG0, upd_ne (tup_ne hb0 kst_0)]; exact kst_0
  
  have hl := hsv.length
  have h1 := hok.l1
  have h6 := hok.l6
  refine ⟨_, rfl, a, _, dx, _, _, rfl, ha1, T.cl_Book, T.na_Book_sheets, rfl, st, _, rfl, .inr (.of hst_1), 1, _, rfl, rfl, true, congrArg V.bl (dt (by omega)), ite_t rfl ⟨_, 6, rfl, rfl, true, congrArg V.bl (dt (by omega)), ite_f rfl ?_⟩⟩
  intro kn hkn
  have e2 : Ext K G0 (upd G0 kn (.dK [])) := Ext.new hkn _
  have z2 : (upd G0 kn (.dK [])) kn = some (.dK []) := upd_same
  generalize hG2 : upd G0 kn (.dK []) = G2 at e2 z2
  have hs2 : Paired (SheetAt K (S.map Sh.nm) G2) svs S := Paired.mapP hsv fun _ _ z => (he1.trans e2).fr.sheet z
  refine ⟨_, rfl, a, _, dx, _, _, rfl, e2.at ha1, T.cl_Book, T.na_Book_sheets, rfl, st, rfl, ⟨_, .of (e2.at hst_1)⟩, for_tup (xs := svs) (fun i σ H2 => ∃ z3 z4, σ = [some (.ref a), some (.ref sa), some (.ref kn), z3, z4] ∧ Ext K G0 H2 ∧ Fr G2 H2 ∧ KnownD K S H2 kn i) ⟨none, none, rfl, e2, Fr.refl _, [], z2, Nat.le_refl _, nofun, fun j _ h => absurd h (Nat.not_lt_zero j)⟩ (fun i σ H2 _ h => ?_) (fun i x σ H2 hx h => ?_) (fun σ H2 h => ?_)⟩
  · obtain ⟨_, _, _, e, _⟩ := h
    exact .of (e.at hst_1)
  · obtain ⟨z3, z4, rfl, e3, f3, hD⟩ := h
    obtain ⟨s0, hs0, hat⟩ := paired_get hs2 hx
    have hat3 := f3.sheet hat
    have hi6 : i < S.length := (List.getElem?_eq_some_iff.mp hs0).1
    have hsok := hok.sheets s0 (List.mem_of_getElem? hs0)
    have hat30 := hat3
    obtain ⟨a1, dx1, it, ot, lt, ivs, lvs, rfl, g1, g2, g3, g4, g5, g6⟩ := hat3
    have hD0 := hD
    obtain ⟨kvs, hd1, hd2, hd3, hd4⟩ := hD
    have hnone : valV kvs (.inr s0.nm) = none := by
      cases hval : valV kvs (.inr s0.nm) with
      | none => rfl
      | some v1 =>
        obtain ⟨j, s1, hj, hSj, e1, _⟩ := hd3 _ v1 hval
        have := nm_ix hok.names hSj hs0 e1
        omega
    have hg : DGet H2 kn (.str s0.nm) none := by rw [← hnone]; exact DGet.k (k := .inr s0.nm) hd1
    refine ⟨_, rfl, a1, _, dx1, _, _, rfl, g1, T.cl_Sheet, T.na_Sheet_name, rfl, _, rfl, kn, none, rfl, hg, _, rfl, ite_f rfl ?_⟩
    refine ⟨_, rfl, a1, _, dx1, _, _, rfl, g1, T.cl_Sheet, T.na_Sheet_lines, rfl, lt, rfl, ⟨_, .of g5⟩, for_tup (xs := lvs) (fun j σ H4 => ∃ z4, σ = [some (.ref a), some (.ref sa), some (.ref kn), some (.ref a1), z4] ∧ Ext K H2 H4) ⟨_, rfl, Ext.refl K _⟩ (fun j σ H4 _ h => ?_) (fun j x σ H4 hx h => ?_) (fun σ H4 h => ?_)⟩
    · obtain ⟨_, _, e⟩ := h
      exact .of (e.at g5)
    · obtain ⟨w4, rfl, e4⟩ := h
      obtain ⟨l, hl0, hat4⟩ := paired_get g6 hx
      have hml := List.mem_of_getElem? hl0
      have hat5 := e4.fr.line hat4
      have hat50 := hat5
      cases l with
      | row nm tr p on =>
        obtain ⟨a2, dx2, kp, rfl, k1, _⟩ := hat5
        exact ⟨_, rfl, _, _, _, _, false, rfl, .own _, T.ty_Row k1, T.ik_Row_Use, false, rfl, ite_f rfl ⟨_, rfl, e4⟩⟩
      | use bs k ps on =>
        obtain ⟨a2, dx2, bt, pt, pvs, m, rfl, k1, _⟩ := hat5
        obtain ⟨hki, s1, hsk, q1, q2, q3⟩ := hok.uses i s0 hs0 bs k ps on hml
        exact ⟨_, rfl, _, _, _, _, true, rfl, .own _, T.ty_Use k1, T.ik_Use_Use, true, rfl, ite_t rfl ⟨_, rfl, _, rfl, kn, _, S, bs, k, ps, on, i, s1, rfl, hat50, e4.knownD hD0, hki, hsk, hok.names, hok.sheets s1 (List.mem_of_getElem? hsk), q1, q2, q3, fun H5 e5 => ⟨_, rfl, e4.trans e5⟩⟩⟩
    · obtain ⟨w4, rfl, e4⟩ := h
      have hput : DPut H4 kn (.str s0.nm) (.ref a1) (upd H4 kn (.dK (putK kvs (.inr s0.nm) (.ref a1)))) := DPut.k (k := .inr s0.nm) (e4.at hd1) (by show _ < 2 ^ 24; omega)
      have fr5 : Fr H4 (upd H4 kn (.dK (putK kvs (.inr s0.nm) (.ref a1)))) := Fr.put (e4.at hd1) rfl _
      refine ⟨_, rfl, _, rfl, _, rfl, a1, _, dx1, _, _, rfl, e4.at g1, T.cl_Sheet, T.na_Sheet_name, rfl, kn, _, rfl, hput, _, w4, rfl, (e3.trans e4).put hkn (e4.at hd1) trivial _, (f3.trans e4.fr).trans fr5, _, upd_same, Nat.le_trans (putK_len _ _ _) (Nat.succ_le_succ hd2), fun n v hv => ?_, fun j s hj hs => ?_⟩
      · rw [valV_put] at hv
        split at hv
        · rename_i e
          cases hv
          exact ⟨i, s0, Nat.lt_succ_self i, hs0, (Sum.inr.inj e).symm, fr5.sheet (e4.fr.sheet hat30)⟩
        · obtain ⟨j, s, h1, h2, h3, h4⟩ := hd3 n v hv
          exact ⟨j, s, Nat.lt_succ_of_lt h1, h2, h3, fr5.sheet (e4.fr.sheet h4)⟩
      · rw [valV_put]
        split
        · rfl
        · rename_i e
          rcases Nat.lt_succ_iff_lt_or_eq.mp hj with hj | hj
          · exact hd4 j s hj hs
          · subst hj
            rw [hs0] at hs
            cases hs
            exact absurd rfl e
  · obtain ⟨z3, z4, rfl, e3, f3, hD⟩ := h
    exact q H2 (he1.trans e3) ⟨a, dx, st, svs, rfl, e3.at ha1, e3.at hst_1, Paired.mapP hs2 fun _ _ z => f3.sheet z⟩
theorem ok_Book_init (T : Top K mg) : C8.Mak P w K mg base 4 "Book" (He.ga K "Book") (sp_Book_init K) [] :=
  mak_of T 111 d_Book_init s_Book_init "Book" rfl rfl T.g_Book T.mk_Book sc_Book_init (.inl ⟨rfl, rfl, (fun _ _ _ _ _ _ us hl => match us, hl with | [_, _], _ => rfl)⟩) ln_Book_init (bd_Book_init T (ok_need_use T))
theorem sc_Book_main : FnScope ["self"] ["self"] (defScope s_Book_main) := ⟨rfl, rfl, rfl, by decide +kernel, rfl, by decide +kernel, by decide +kernel⟩
def sp_Book_main (K : PySem.W.Frag) : Sp := fun vs H Q _ => ∃ (v : V) (S : List Sh) (s : Sh), vs = [v] ∧ BookAt K H v (S ++ [s]) ∧ ∀ r, SheetAt K ((S ++ [s]).map Sh.nm) H r s → Q r H
theorem ln_Book_main {K : PySem.W.Frag} : ∀ vs H Q E, (sp_Book_main K) vs H Q E → vs.length = (["self"] : List Str).length := fun vs H Q E h => by
  obtain ⟨_, _, _, rfl, _⟩ := h
  rfl
theorem bd_Book_main (T : Top K mg)  : Body P w K mg base q s_Book_main f ["self"] (0) (sp_Book_main K) := fun cdv A outer s H vs Q E hr h => by
  have hu := hu_of hr
  obtain ⟨v, S, s0, rfl, hv, q⟩ := h
  refine ⟨_, (pss_one (ps_ret (pe_ix ix_tup (pe_fld (pv 0) rfl) (pe_un un_neg pe_int) (fun _ _ => rfl)))), ?_⟩
  obtain ⟨a, dx, st, svs, rfl, ha, hst, hsv⟩ := hv
  obtain ⟨xs, x, rfl, hx⟩ : ∃ xs x, svs = xs ++ [x] ∧ SheetAt K ((S ++ [s0]).map Sh.nm) H x s0 := by
    have hl := hsv.length
    rw [List.length_append] at hl
    have hne : svs ≠ [] := fun z => by rw [z] at hl; simp at hl
    refine ⟨svs.dropLast, svs.getLast hne, (List.dropLast_concat_getLast hne).symm, ?_⟩
    have h1 : svs[S.length]? = some (svs.getLast hne) := by
      rw [List.getLast_eq_getElem, List.getElem?_eq_some_iff]
      have e : svs.length - 1 = S.length := by
        have : ([s0] : List Sh).length = 1 := rfl
        omega
      exact ⟨by have : ([s0] : List Sh).length = 1 := rfl; omega, by simp only [e]⟩
    obtain ⟨s1, h2, h3⟩ := paired_get hsv h1
    rw [List.getElem?_append_right (Nat.le_refl _), Nat.sub_self] at h2
    cases h2
    exact h3
  exact ⟨_, rfl, a, _, dx, _, _, rfl, ha, T.cl_Book, T.na_Book_sheets, rfl, 1, rfl, st, _, -1, x, rfl, rfl, .of hst, atI_last _ _, q x hx⟩
theorem ok_Book_main (T : Top K mg) : C8.Met P w K mg base 1 (He.ga K "Book") "main" (sp_Book_main K) [] :=
  met_of T 112 d_Book_main s_Book_main (He.ga K "Book") "main" rfl rfl rfl rfl T.cl_Book T.me_Book_main sc_Book_main (fun _ _ _ _ _ _ us hl => match us, hl with | [_], _ => rfl) ln_Book_main (bd_Book_main T )
theorem sc_Book_sheet_of : FnScope ["self", "name", "sheet"] ["self", "name"] (defScope s_Book_sheet_of) := ⟨rfl, rfl, rfl, by decide +kernel, rfl, by decide +kernel, by decide +kernel⟩
def sp_Book_sheet_of (K : PySem.W.Frag) : Sp := fun vs H Q _ => ∃ (v : V) (S : List Sh) (s : Sh), vs = [v, .str s.nm] ∧ BookAt K H v S ∧ s ∈ S ∧ (S.map Sh.nm).Nodup ∧ S.length ≤ 6 ∧ ∀ r H', Ext K H H' → SheetAt K (S.map Sh.nm) H' r s → Q r H'
theorem ln_Book_sheet_of {K : PySem.W.Frag} : ∀ vs H Q E, (sp_Book_sheet_of K) vs H Q E → vs.length = (["self", "name"] : List Str).length := fun vs H Q E h => by
  obtain ⟨_, _, _, rfl, _⟩ := h
  rfl
theorem bd_Book_sheet_of (T : Top K mg)  : Body P w K mg base q s_Book_sheet_of f ["self", "name", "sheet"] (0) (sp_Book_sheet_of K) := fun cdv A outer s H vs Q E hr h => by
  have hu := hu_of hr
  obtain ⟨v, S, s0, rfl, hv, hs, hnd, h6, q⟩ := h
  refine ⟨_, (pss_one (ps_ret (pe_ix ix_list (pe_lc (own := [("sheet", 2)]) rfl sc_Book_sheet_of.nd (pi_tup (pe_fld (pv 0) rfl)) (blkOk_by (own := [("sheet", 2)]) (N := ["self", "name", "sheet"]) (sc := defScope s_Book_sheet_of) (by decide +kernel)) (fun _ _ _ _ _ => (pg_name (i := 2) sc_Book_sheet_of.nd rfl (by first | exact Or.inl rfl | exact Or.inr rfl))) (fun _ _ _ _ _ => (pts_one (pt_cmpR op_eq (pe_fldB (K := K) (pv 2) rfl) (pv 1) (nomark _)))) (fun _ _ _ _ _ => (pv 2))) pe_int (fun _ _ => rfl)))), ?_⟩
  obtain ⟨a, dx, st, svs, rfl, ha, hst, hsv⟩ := hv
  have hlen := hsv.length
  refine ⟨_, rfl, a, _, dx, _, _, rfl, ha, T.cl_Book, T.na_Book_sheets, rfl, st, rfl, ⟨_, .of hst⟩, lcT (K := K) (H1 := H) (a := st) (xs := svs) (fun i acc H2 => ∃ ss, Paired (SheetAt K (S.map Sh.nm) H2) acc ss ∧ (∀ x ∈ ss, x ∈ S ∧ x.nm = s0.nm) ∧ ∀ x ∈ S.take i, x.nm = s0.nm → x ∈ ss)
    (fun e h => by obtain ⟨ss, h1, h2, h3⟩ := h; exact ⟨ss, Paired.mapP h1 fun _ _ z => e.sheet z, h2, h3⟩) (.of hst) (by show _ ≤ 2 ^ 24; omega) ⟨[], .nil, by simp, by simp⟩ (fun i x hx acc H2 N S2 e2 pj hN hS => ?_) fun D ys H2 hD e2 hl2 hn pj => ?_⟩
  · obtain ⟨s1, hs1, hat⟩ := paired_get hsv hx
    have hat2 := e2.fr.sheet hat
    have hat20 := hat2
    obtain ⟨a1, dx1, it, ot, lt, ivs, lvs, rfl, g1, _⟩ := hat2
    obtain ⟨ss, p1, p2, p3⟩ := pj
    refine ⟨rfl, ?_⟩
    refine ⟨_, rfl, a1, _, dx1, _, _, rfl, g1, T.cl_Sheet, T.na_Sheet_name, rfl, _, rfl, rfl, _, rfl, ?_⟩
    by_cases hc : s1.nm = s0.nm
    · refine ite_t (dt (congrArg V.str hc)) ⟨_, rfl, hN _ _ (Ext.refl K _) ⟨ss ++ [s1], Paired.snoc p1 hat20, fun x hx => ?_, fun x hx hb => ?_⟩⟩
      · rcases List.mem_append.mp hx with h | h
        · exact p2 x h
        · rw [List.mem_singleton.mp h]
          exact ⟨List.mem_of_getElem? hs1, hc⟩
      · rw [List.take_add_one, hs1] at hx
        rcases List.mem_append.mp hx with h | h
        · exact List.mem_append_left _ (p3 x h hb)
        · exact List.mem_append_right _ h
    · refine ite_f (df fun z => hc (V.str.inj z)) (hS _ (Ext.refl K _) ⟨ss, p1, p2, fun x hx hb => ?_⟩)
      rw [List.take_add_one, hs1] at hx
      rcases List.mem_append.mp hx with h | h
      · exact p3 x h hb
      · have ex : x = s1 := by simpa using h
        rw [ex] at hb
        exact absurd hb hc
  · obtain ⟨ss, p1, p2, p3⟩ := pj
    rw [hlen, List.take_length] at p3
    have hmem := p3 s0 hs rfl
    cases p1 with
    | nil => cases hmem
    | @cons y0 s1 ys ss h0 h1 =>
      have h2 := p2 s1 List.mem_cons_self
      have e := nm_inj hnd h2.1 hs h2.2
      subst e
      exact ⟨D, _, 0, y0, rfl, rfl, .of hl2, at0 _ _, q y0 H2 e2 h0⟩
theorem ok_Book_sheet_of (T : Top K mg) : C8.Met P w K mg base 1 (He.ga K "Book") "sheet_of" (sp_Book_sheet_of K) [] :=
  met_of T 113 d_Book_sheet_of s_Book_sheet_of (He.ga K "Book") "sheet_of" rfl rfl rfl rfl T.cl_Book T.me_Book_sheet_of sc_Book_sheet_of (fun _ _ _ _ _ _ us hl => match us, hl with | [_, _], _ => rfl) ln_Book_sheet_of (bd_Book_sheet_of T )
end

section
variable {P : Program} {w : World} {K : PySem.W.Frag} {mg : Str → Option Value} {base : Heap} {q : Str} {f : Addr}
/-! ### what placing gives -/
def ixOf (n : Str) : List Str → Nat
  | [] => 0
  | x :: l => if x = n then 0 else ixOf n l + 1
theorem ixOf_get {n : Str} : ∀ {l : List Str}, n ∈ l → l[ixOf n l]? = some n ∧ ∀ m, m < ixOf n l → l[m]? ≠ some n
  | [], h => by cases h
  | x :: l, h => by
    unfold ixOf
    by_cases e : x = n
    · rw [if_pos e]
      exact ⟨by rw [e]; rfl, fun m hm => absurd hm (Nat.not_lt_zero m)⟩
    · rw [if_neg e]
      have hl : n ∈ l := by
        rcases List.mem_cons.mp h with h | h
        · exact absurd h.symm e
        · exact h
      have ih := ixOf_get hl
      refine ⟨ih.1, fun m hm => ?_⟩
      cases m with
      | zero => exact fun z => e (Option.some.inj z)
      | succ m => exact ih.2 m (by omega)
theorem flat_uniq {α β : Type} {f : α → List β} : ∀ {l : List α}, (l.flatMap f).Nodup → ∀ {a b : α} {n : β}, a ∈ l → b ∈ l → n ∈ f a → n ∈ f b → a = b
  | [], _, _, _, _, h, _, _, _ => by cases h
  | x :: l, hn, a, b, n, ha, hb, h1, h2 => by
    rw [List.flatMap_cons, List.nodup_append] at hn
    rcases List.mem_cons.mp ha with ea | ma
    · rcases List.mem_cons.mp hb with eb | mb
      · rw [ea, eb]
      · rw [ea] at h1
        exact absurd rfl (hn.2.2 n h1 n (List.mem_flatMap.mpr ⟨b, mb, h2⟩))
    · rcases List.mem_cons.mp hb with eb | mb
      · rw [eb] at h2
        exact absurd rfl (hn.2.2 n h2 n (List.mem_flatMap.mpr ⟨a, ma, h1⟩))
      · exact flat_uniq hn.2.1 ma mb h1 h2
theorem find_al {s : Sh} (hn : s.names.Nodup) {a : Al} {n : Str} (ha : a ∈ s.all) (hb : n ∈ a.borne) : s.all.find? (fun a => decide (n ∈ a.borne)) = some a := by
  cases h : s.all.find? (fun a => decide (n ∈ a.borne)) with
  | none =>
    have z := List.find?_eq_none.mp h a ha
    simp [hb] at z
  | some b =>
    have h1 := List.find?_some h
    have h2 := List.mem_of_find?_eq_some h
    rw [flat_uniq hn h2 ha (of_decide_eq_true h1) hb]
/-- the kind of a name in a sheet: a truth or none -/
def kindF (S : List Sh) : Nat → Sh → Str → Bool
  | 0, _, _ => false
  | f + 1, s, n => match s.all.find? (fun a => decide (n ∈ a.borne)) with
    | some (.inp i) => i.kind.isT
    | some (.ln (.row _ t _ _)) => t
    | some (.ln (.use bs k _ _)) => match S[k]? with
      | some s' => match s'.outs[ixOf n bs]? with
        | some o => kindF S f s' o
        | none => false
      | none => false
    | none => false
structure Rw where
  nm : Str
  tr : Bool
  p : Tl
  on : Option Str
def Rw.d (r : Rw) : PyData := .tuple [.str r.nm, .str (trS r.tr), r.p.told, onD r.on]
def Rw.ln (r : Rw) : Ln := .row r.nm r.tr r.p r.on
def beat (ahead : Str) (on : Option Str) : Option Str → Option Str
  | none => on
  | some o => some (ahead ++ o)
def insRows (deeper ahead : Str) (b : Option Str) : List Inp → List Tl → List Rw
  | i :: is, p :: ps => ⟨deeper ++ i.nm, i.kind.isT, p.ren (fun m => ahead ++ m), b⟩ :: insRows deeper ahead b is ps
  | _, _ => []
def outRows (S : List Sh) (s : Sh) (deeper ahead : Str) (b : Option Str) : List Str → List Str → List Rw
  | n :: ns, o :: os => ⟨ahead ++ n, kindF S 6 s o, .named (deeper ++ o), b⟩ :: outRows S s deeper ahead b ns os
  | _, _ => []
def useRows (S : List Sh) (rec : Sh → Str → Option Str → List Rw) (ahead : Str) (b : Option Str) (bs : List Str) (k : Nat) (ps : List Tl) : List Rw :=
  match S[k]? with
  | none => []
  | some s => insRows (ahead ++ bs.headD "" ++ dotS) ahead b s.ins ps ++ rec s (ahead ++ bs.headD "" ++ dotS) b ++ outRows S s (ahead ++ bs.headD "" ++ dotS) ahead b bs s.outs
def lineRows (S : List Sh) (rec : Sh → Str → Option Str → List Rw) (ahead : Str) (on : Option Str) : Ln → List Rw
  | .row nm tr p o => [⟨ahead ++ nm, tr, p.ren (fun m => ahead ++ m), beat ahead on o⟩]
  | .use bs k ps o => useRows S rec ahead (beat ahead on o) bs k ps
def rowsF (S : List Sh) : Nat → Sh → Str → Option Str → List Rw
  | 0, _, _, _ => []
  | f + 1, s, ahead, on => s.lns.flatMap (lineRows S (rowsF S f) ahead on)
/-- what placing asks of a book's sheets -/
structure PlaceOk (S : List Sh) : Prop where
  ok : BookOk S
  eqs : ∀ s ∈ S, ∀ l ∈ s.lns, ∀ p ∈ l.eqs, p.ok
  small : ∀ s ∈ S, ∀ n ∈ s.names, n.length ≤ 40
  kinds : ∀ s ∈ S, ∀ i ∈ s.ins, i.kind.okk
theorem chain_in {s : Sh} {m : Nat} {o : Str} (h : ChainE s.tri m (some o)) : o ∈ s.names := by
  cases h with
  | cons h _ => exact tri_in h
theorem rw_noL (r : Rw) : noL r.d = true := by
  have h : noL (onD r.on) = true := by cases r.on <;> rfl
  simp [Rw.d, noL, noLs, told_noL, h]
def sp_kind_inN (K : PySem.W.Frag) (f : Nat) : Sp := fun vs H Q _ => ∃ (bv sv : V) (S : List Sh) (s : Sh) (nm : Str) (j : Nat), vs = [bv, sv, .str nm] ∧ BookAt K H bv S ∧ BookOk S ∧ S[j]? = some s ∧ j < f ∧ SheetAt K (S.map Sh.nm) H sv s ∧ nm ∈ s.names ∧ ∀ H', Ext K H H' → Q (.str (trS (kindF S f s nm))) H'


def ikT : Bool → IK
  | true => .truth
  | false => .number
theorem ikT_at {K : PySem.W.Frag} {H : Hp} (t : Bool) : KindAt K H (.str (trS t)) (ikT t) := by cases t <;> rfl
theorem ikT_is (t : Bool) : (ikT t).isT = t := by cases t <;> rfl

theorem sc_kind_of : FnScope ["kind"] ["kind"] (defScope s_kind_of) := ⟨rfl, rfl, rfl, by decide +kernel, rfl, by decide +kernel, by decide +kernel⟩
def sp_kind_of (K : PySem.W.Frag) : Sp := fun vs H Q _ => ∃ (v : V) (ik : IK), vs = [v] ∧ KindAt K H v ik ∧ Q (.str (trS ik.isT)) H
theorem ln_kind_of {K : PySem.W.Frag} : ∀ vs H Q E, (sp_kind_of K) vs H Q E → vs.length = (["kind"] : List Str).length := fun vs H Q E h => by
  obtain ⟨_, _, rfl, _⟩ := h
  rfl
theorem bd_kind_of (T : Top K mg)  : Body P w K mg base q s_kind_of f ["kind"] (0) (sp_kind_of K) := fun cdv A outer s H vs Q E hr h => by
  have hu := hu_of hr
  obtain ⟨v, ik, rfl, hk, q⟩ := h
  refine ⟨_, (pss_cons (ps_if (pt_val (pe_callB call_isi (by rfl) T.n_isinstance (by decide +kernel) (pa_cons (pv 0) (pa_cons (pe_bltn (v := .ty "tuple") rfl T.n_tuple (by decide +kernel) rfl) pa_nil)))) (pss_one (ps_ret pe_str)) pss_nil)
        (pss_one (ps_ret (pv 0)))), ?_⟩
  cases ik with
  | truth =>
    obtain rfl : v = .str "truth" := hk
    exact ⟨_, rfl, ⟨_, _, _, _, false, rfl, .ty _, .base (.str _), kit_ty (by decide +kernel), false, rfl, ite_f rfl ⟨_, rfl, q⟩⟩⟩
  | number =>
    obtain rfl : v = .str "number" := hk
    exact ⟨_, rfl, ⟨_, _, _, _, false, rfl, .ty _, .base (.str _), kit_ty (by decide +kernel), false, rfl, ite_f rfl ⟨_, rfl, q⟩⟩⟩
  | stretch i j =>
    obtain ⟨a, rfl, ha⟩ := hk
    exact ⟨_, rfl, ⟨_, _, _, _, true, rfl, .ty _, ty_tup ha, kit_ty (by decide +kernel), true, rfl, ite_t rfl q⟩⟩
theorem ok_kind_of (T : Top K mg) : C8.Cal P w K mg base 1 "kind_of" (sp_kind_of K) [] :=
  cal_of T 16 d_kind_of s_kind_of "kind_of" rfl rfl rfl rfl T.g_kind_of sc_kind_of (fun _ _ _ _ _ _ us hl => match us, hl with | [_], _ => rfl) ln_kind_of (bd_kind_of T )
theorem sc_kind_in : FnScope ["book", "sheet", "name", "line", "inner"] ["book", "sheet", "name"] (defScope s_kind_in) := ⟨rfl, rfl, rfl, by decide +kernel, rfl, by decide +kernel, by decide +kernel⟩
def sp_kind_in (K : PySem.W.Frag) (n : Nat) : Sp := sp_kind_inN K (n + 1)
theorem ln_kind_in {K : PySem.W.Frag} {n : Nat} : ∀ vs H Q E, (sp_kind_in K n) vs H Q E → vs.length = (["book", "sheet", "name"] : List Str).length := fun vs H Q E h => by
  obtain ⟨_, _, _, _, _, _, rfl, _⟩ := h
  rfl
theorem bd_kind_in (T : Top K mg) (n : Nat) (me_line : C8.Met P w K mg base 2 (He.ga K "Sheet") "line" (sp_Sheet_line K) []) (c_kind_of : C8.Cal P w K mg base 1 "kind_of" (sp_kind_of K) []) (me_sheet_of : C8.Met P w K mg base 1 (He.ga K "Book") "sheet_of" (sp_Book_sheet_of K) []) (c_kind_in : C8.Cal P w K mg base (n + 3) "kind_in" (sp_kind_inN K n) []) : Body P w K mg base q s_kind_in f ["book", "sheet", "name", "line", "inner"] (n + 3) (sp_kind_in K n) := fun cdv A outer s H vs Q E hr h => by
  have hu := hu_of hr
  obtain ⟨bv, sv, S, s0, nm, j, rfl, hB, hok, hj, hjn, hs, hnm, q⟩ := h
  refine ⟨_, (pss_cons (ps_set (i := 3) sc_kind_in.nd rfl (by first | exact Or.inl rfl | exact Or.inr rfl) (C8.pe_mt me_line hr (by omega) (pv 1) (pa_cons (pv 2) pa_nil)))
        (pss_cons (ps_if (pt_val (pe_callB call_isiT (by rfl) T.n_isinstance (by decide +kernel) (pa_cons (pv 3) (pa_cons (pe_tup (pa_cons (pe_glob (v := .ref (He.ga K "Input")) rfl T.g_Input rfl) (pa_cons (pe_glob (v := .ref (He.ga K "Row")) rfl T.g_Row rfl) pa_nil))) pa_nil)))) (pss_one (ps_ret (C8.pe_c c_kind_of hr (by omega) rfl (pa_cons (pe_fld (pv 3) rfl) pa_nil)))) pss_nil)
        (pss_cons (ps_set (i := 4) sc_kind_in.nd rfl (by first | exact Or.inl rfl | exact Or.inr rfl) (C8.pe_mt me_sheet_of hr (by omega) (pv 0) (pa_cons (pe_fld (pv 3) rfl) pa_nil)))
        (pss_one (ps_ret (C8.pe_c c_kind_in hr (by omega) rfl (pa_cons (pv 0) (pa_cons (pv 4) (pa_cons (pe_ix ix_tup (pe_fld (pv 4) rfl) (pe_tix (pe_fld (pv 3) rfl) (pa_cons (pv 2) pa_nil)) (fun _ _ => rfl)) pa_nil))))))))), ?_⟩
  have hB0 := hB
  have hs00 := hs
  have hsok := hok.sheets s0 (List.mem_of_getElem? hj)
  obtain ⟨a, dx, it, ot, lt, ivs, lvs, rfl, ha, _⟩ := hs
  refine ⟨_, rfl, a, dx, _, rfl, ha, rfl, _, rfl, _, s0, _, nm, rfl, hs00, hsok.few, hnm, fun r al H1 e1 hr hal hb => ?_⟩
  have hfind := find_al hsok.names hal hb
  cases al with
  | inp i =>
    have hkf : kindF S (n + 1) s0 nm = i.kind.isT := by show (match s0.all.find? _ with | some (.inp i) => _ | some (.ln (.row _ t _ _)) => _ | some (.ln (.use bs k _ _)) => _ | none => _) = _; rw [hfind]
    rw [hkf] at q
    obtain ⟨a1, dx1, kv, rfl, k1, hk⟩ := hr
    refine ⟨_, rfl, szk 2, fun tp htp => ⟨_, tp, [.ref (He.ga K "Input"), .ref (He.ga K "Row")], _, [.ref (He.ga K "Input"), .ref (He.ga K "Row")], true, rfl, upd_same, .cons (.own _) (.cons (.own _) .nil), T.ty_Input ((Ext.new (K := K) htp _).at k1), L2.kitAny_cons T.ik_Input_Input nofun (fun _ => rfl), true, rfl, ?_⟩⟩
  
    refine ite_t rfl ?_
    have e2 : Ext K H1 (upd H1 _ (.tup [.ref (He.ga K "Input"), .ref (He.ga K "Row")])) := Ext.new htp _
    exact ⟨_, rfl, a1, _, dx1, _, kv, rfl, e2.at k1, T.cl_Input, T.na_Input_kind, rfl, kv, i.kind, rfl, e2.fr.kind hk, q _ (e1.trans e2)⟩
  | ln l =>
    cases l with
    | row n1 t p o =>
      have hkf : kindF S (n + 1) s0 nm = t := by show (match s0.all.find? _ with | some (.inp i) => _ | some (.ln (.row _ t _ _)) => _ | some (.ln (.use bs k _ _)) => _ | none => _) = _; rw [hfind]
      rw [hkf] at q
      obtain ⟨a1, dx1, kp, rfl, k1, hk⟩ := hr
      refine ⟨_, rfl, szk 2, fun tp htp => ⟨_, tp, [.ref (He.ga K "Input"), .ref (He.ga K "Row")], _, [.ref (He.ga K "Input"), .ref (He.ga K "Row")], true, rfl, upd_same, .cons (.own _) (.cons (.own _) .nil), T.ty_Row ((Ext.new (K := K) htp _).at k1), L2.kitAny_cons T.ik_Row_Input (fun _ => L2.kitAny_cons T.ik_Row_Row nofun (fun _ => rfl)) nofun, true, rfl, ?_⟩⟩
  
      refine ite_t rfl ?_
      have e2 : Ext K H1 (upd H1 _ (.tup [.ref (He.ga K "Input"), .ref (He.ga K "Row")])) := Ext.new htp _
      exact ⟨_, rfl, a1, _, dx1, _, .str (trS t), rfl, e2.at k1, T.cl_Row, T.na_Row_kind, rfl, _, ikT t, rfl, ikT_at t, by rw [ikT_is]; exact q _ (e1.trans e2)⟩
    | use bs k ps on =>
      obtain ⟨hkj, s1, hsk, h1, h2, h3⟩ := hok.uses j s0 hj bs k ps on (by
        rcases List.mem_append.mp hal with h | h
        · obtain ⟨_, _, z⟩ := List.mem_map.mp h; cases z
        · obtain ⟨_, h, z⟩ := List.mem_map.mp h; cases z; exact h)
      have hnb : nm ∈ bs := hb
      obtain ⟨x1, x2⟩ := ixOf_get hnb
      have hlt : ixOf nm bs < s1.outs.length := by rw [← h2]; exact (List.getElem?_eq_some_iff.mp x1).1
      have ho : s1.outs[ixOf nm bs]? = some s1.outs[ixOf nm bs] := List.getElem?_eq_getElem hlt
      generalize s1.outs[ixOf nm bs] = o at ho
      have hkf : kindF S (n + 1) s0 nm = kindF S n s1 o := by
        show (match s0.all.find? _ with | some (.inp i) => _ | some (.ln (.row _ t _ _)) => _ | some (.ln (.use bs k _ _)) => _ | none => _) = _
        rw [hfind]
        show (match S[k]? with | some s' => _ | none => _) = _
        rw [hsk]
        show (match s1.outs[ixOf nm bs]? with | some o => _ | none => _) = _
        rw [ho]
      rw [hkf] at q
      obtain ⟨a1, dx1, bt, pt, pvs, m, rfl, k1, k2, k3, k4, k5⟩ := hr
      have em : m = s1.nm := by
        rw [List.getElem?_map, hsk] at k2
        exact (Option.some.inj k2).symm
      subst em
      refine ⟨_, rfl, szk 2, fun tp htp => ⟨_, tp, [.ref (He.ga K "Input"), .ref (He.ga K "Row")], _, [.ref (He.ga K "Input"), .ref (He.ga K "Row")], false, rfl, upd_same, .cons (.own _) (.cons (.own _) .nil), T.ty_Use ((Ext.new (K := K) htp _).at k1), L2.kitAny_cons T.ik_Use_Input (fun _ => L2.kitAny_cons T.ik_Use_Row (fun _ => rfl) nofun) nofun, false, rfl, ?_⟩⟩
  
      refine ite_f rfl ?_
      have e2 : Ext K H1 (upd H1 _ (.tup [.ref (He.ga K "Input"), .ref (He.ga K "Row")])) := Ext.new htp _
      have E2 := e1.trans e2
      obtain ⟨ab, db, stb, svs, rfl, hb1, hb2, hb3⟩ := hB
      refine ⟨_, rfl, ab, db, _, rfl, E2.at hb1, rfl, _, rfl, a1, _, dx1, _, _, rfl, e2.at k1, T.cl_Use, T.na_Use_module, rfl, _, S, s1, rfl, E2.fr.book hB0, List.mem_of_getElem? hsk, hok.names, hok.l6, fun r H3 e3 hr3 => ?_⟩
      have E3 := E2.trans e3
      have hr30 := hr3
      obtain ⟨a3, dx3, it3, ot3, lt3, ivs3, lvs3, rfl, g1, g2, g3, g4, _⟩ := hr3
      obtain ⟨ob, hob1, hob2⟩ := (e2.trans e3).fr.bnd k3
      refine ⟨_, rfl, _, rfl, _, rfl, a3, _, dx3, _, _, rfl, g1, T.cl_Sheet, T.na_Sheet_outputs, rfl, _, rfl, a1, _, dx1, _, _, rfl, (e2.trans e3).at k1, T.cl_Use, T.na_Use_binds, rfl, ⟨bt, ob, _, rfl, hob2, hob1⟩, _, rfl, bt, bs, nm, ixOf nm bs, rfl, rfl, .inl (.inr ⟨ob, hob2⟩), x1, x2, ot3, _, _, .str o, rfl, rfl, .of g4, atI_nat (by rw [List.getElem?_map, ho]; rfl), ?_⟩
      exact ⟨_, _, S, s1, o, k, rfl, E3.fr.book hB0, hok, hsk, by omega, hr30, (hok.sheets s1 (List.mem_of_getElem? hsk)).outIn o (List.mem_of_getElem? ho), fun H4 e4 => q H4 (E3.trans e4)⟩
theorem fam_kind_in (T : Top K mg) : ∀ n : Nat, C8.Cal P w K mg base (n + 3) "kind_in" (sp_kind_inN K n) []
  | 0 => cal_of T 17 d_kind_in s_kind_in "kind_in" rfl rfl rfl rfl T.g_kind_in sc_kind_in (fun _ _ _ _ _ _ us hl => match us, hl with | [_, _, _], _ => rfl) (fun vs H Q E h => by obtain ⟨_, _, _, _, _, _, rfl, _⟩ := h; rfl) (fun _ _ _ _ _ _ _ _ _ h => by obtain ⟨_, _, _, _, _, _, _, _, _, _, z, _⟩ := h; exact absurd z (Nat.not_lt_zero _))
  | n + 1 => cal_of T 17 d_kind_in s_kind_in "kind_in" rfl rfl rfl rfl T.g_kind_in sc_kind_in (fun _ _ _ _ _ _ us hl => match us, hl with | [_, _, _], _ => rfl) (ln_kind_in (n := n)) (bd_kind_in T n (ok_Sheet_line T) (ok_kind_of T) (ok_Book_sheet_of T) (fam_kind_in T n))
end

section
variable {P : Program} {w : World} {K : PySem.W.Frag} {mg : Str → Option Value} {base : Heap} {q : Str} {f : Addr}
/-! ### how many rows placing gives -/
def lineCnt (S : List Sh) (rec : Sh → Nat) : Ln → Nat
  | .row _ _ _ _ => 1
  | .use bs k ps _ => ps.length + (match S[k]? with
    | some s => rec s
    | none => 0) + bs.length
def countF (S : List Sh) : Nat → Sh → Nat
  | 0, _ => 0
  | f + 1, s => (s.lns.map (lineCnt S (countF S f))).sum
theorem cnt_fuel {S : List Sh} (hok : BookOk S) : ∀ {f g j : Nat} {s : Sh}, S[j]? = some s → j < f → j < g → countF S f s = countF S g s
  | 0, _, _, _, _, h, _ => absurd h (Nat.not_lt_zero _)
  | _ + 1, 0, _, _, _, _, h => absurd h (Nat.not_lt_zero _)
  | f + 1, g + 1, j, s, hs, hf, hg => by
    have key : ∀ l ∈ s.lns, lineCnt S (countF S f) l = lineCnt S (countF S g) l := fun l hl => by
      cases l with
      | row => rfl
      | use bs k ps on =>
        obtain ⟨hk, s1, hs1, _⟩ := hok.uses j s hs bs k ps on hl
        show ps.length + (match S[k]? with | some s => _ | none => 0) + bs.length = ps.length + (match S[k]? with | some s => _ | none => 0) + bs.length
        rw [hs1]
        show ps.length + countF S f s1 + bs.length = ps.length + countF S g s1 + bs.length
        rw [cnt_fuel hok (f := f) (g := g) hs1 (by omega) (by omega)]
    show (s.lns.map _).sum = (s.lns.map _).sum
    rw [List.map_congr_left key]
theorem insRows_len {deeper ahead : Str} {b : Option Str} : ∀ {is : List Inp} {ps : List Tl}, ps.length = is.length → (insRows deeper ahead b is ps).length = ps.length
  | [], [], _ => rfl
  | i :: is, p :: ps, h => congrArg Nat.succ (insRows_len (is := is) (ps := ps) (Nat.succ.inj h))
theorem outRows_len {S : List Sh} {s : Sh} {deeper ahead : Str} {b : Option Str} : ∀ {ns os : List Str}, ns.length = os.length → (outRows S s deeper ahead b ns os).length = ns.length
  | [], [], _ => rfl
  | n :: ns, o :: os, h => congrArg Nat.succ (outRows_len (ns := ns) (os := os) (Nat.succ.inj h))
theorem rows_len {S : List Sh} (hok : BookOk S) : ∀ {f j : Nat} {s : Sh} (ahead : Str) (on : Option Str), S[j]? = some s → j < f → (rowsF S f s ahead on).length = countF S f s
  | 0, _, _, _, _, _, h => absurd h (Nat.not_lt_zero _)
  | f + 1, j, s, ahead, on, hs, hf => by
    have key : ∀ l ∈ s.lns, (lineRows S (rowsF S f) ahead on l).length = lineCnt S (countF S f) l := fun l hl => by
      cases l with
      | row => rfl
      | use bs k ps o =>
        obtain ⟨hk, s1, hs1, h1, h2, _⟩ := hok.uses j s hs bs k ps o hl
        show (useRows S (rowsF S f) ahead (beat ahead on o) bs k ps).length = ps.length + (match S[k]? with | some s => _ | none => 0) + bs.length
        unfold useRows
        rw [hs1]
        show (insRows _ _ _ _ _ ++ _ ++ outRows _ _ _ _ _ _ _).length = ps.length + countF S f s1 + bs.length
        rw [List.length_append, List.length_append, insRows_len h1, outRows_len h2, rows_len hok _ _ hs1 (by omega)]
    show (s.lns.flatMap _).length = (s.lns.map _).sum
    rw [List.length_flatMap, List.map_congr_left key]
def CntD (S : List Sh) (H : Hp) (d : Addr) (m : Nat) : Prop := ∃ kvs, H d = some (.dK kvs) ∧ kvs.length ≤ m ∧ ∀ j s, j < m → S[j]? = some s → valV kvs (.inr s.nm) = some (.int ((countF S 6 s : Nat) : Int))

theorem sc_counts : FnScope ["book", "found", "sheet", "many", "line"] ["book"] (defScope s_counts) := ⟨rfl, rfl, rfl, by decide +kernel, rfl, by decide +kernel, by decide +kernel⟩
def sp_counts (K : PySem.W.Frag) : Sp := fun vs H Q _ => ∃ (v : V) (S : List Sh), vs = [v] ∧ BookAt K H v S ∧ BookOk S ∧ ∀ d H', Ext K H H' → (∀ (j : Nat) (s : Sh), S[j]? = some s → DGet H' d (.str s.nm) (some (.int ((countF S 6 s : Nat) : Int)))) → Q (.ref d) H'
theorem ln_counts {K : PySem.W.Frag} : ∀ vs H Q E, (sp_counts K) vs H Q E → vs.length = (["book"] : List Str).length := fun vs H Q E h => by
  obtain ⟨_, _, rfl, _⟩ := h
  rfl
theorem bd_counts (T : Top K mg)  : Body P w K mg base q s_counts f ["book", "found", "sheet", "many", "line"] (0) (sp_counts K) := fun cdv A outer s H vs Q E hr h => by
  have hu := hu_of hr
  obtain ⟨v, S, rfl, hv, hok, q⟩ := h
  refine ⟨_, (pss_cons (ps_set (i := 1) sc_counts.nd rfl (by first | exact Or.inl rfl | exact Or.inr rfl) (pe_dnewK))
        (pss_cons (ps_for PassesOwn.never rfl (pi_tup (pe_fld (pv 0) rfl)) (pg_name (i := 2) sc_counts.nd rfl (by first | exact Or.inl rfl | exact Or.inr rfl))
          (pss_cons (ps_set (i := 3) sc_counts.nd rfl (by first | exact Or.inl rfl | exact Or.inr rfl) pe_int)
          (pss_cons (ps_for PassesOwn.never rfl (pi_tup (pe_fld (pv 2) rfl)) (pg_name (i := 4) sc_counts.nd rfl (by first | exact Or.inl rfl | exact Or.inr rfl))
            (pss_one (ps_if (pt_val (pe_callB call_isi (by rfl) T.n_isinstance (by decide +kernel) (pa_cons (pv 4) (pa_cons (pe_glob (v := .ref (He.ga K "Row")) rfl T.g_Row rfl) pa_nil)))) (pss_one (ps_aug (i := 3) sc_counts.nd rfl (by first | exact Or.inl rfl | exact Or.inr rfl) pe_int ip_add)) (pss_one (ps_aug (i := 3) sc_counts.nd rfl (by first | exact Or.inl rfl | exact Or.inr rfl) (pe_op op_add (pe_op op_add (pe_callB call_len_seq (by rfl) T.n_len PySem.boot_len (pa_cons (pe_fld (pv 4) rfl) pa_nil)) (pe_dget hu (pv 1) (pe_fld (pv 4) rfl) (fun _ _ => rfl))) (pe_callB call_len_seq (by rfl) T.n_len PySem.boot_len (pa_cons (pe_fld (pv 4) rfl) pa_nil))) ip_add)))))
          (pss_one (ps_dput hu (pv 1) (pe_fld (pv 2) rfl) (pv 3) rfl)))))
        (pss_one (ps_ret (pv 1))))), ?_⟩
  obtain ⟨a, dx, st, svs, rfl, ha, hst, hsv⟩ := hv
  have hl := hsv.length
  have h6 := hok.l6
  intro d hd
  have e2 : Ext K H (upd H d (.dK [])) := Ext.new hd _
  have z2 : (upd H d (.dK [])) d = some (.dK []) := upd_same
  generalize hG2 : upd H d (.dK []) = G2 at e2 z2
  have hs2 : Paired (SheetAt K (S.map Sh.nm) G2) svs S := Paired.mapP hsv fun _ _ z => e2.fr.sheet z
  refine ⟨_, rfl, a, _, dx, _, _, rfl, e2.at ha, T.cl_Book, T.na_Book_sheets, rfl, st, rfl, ⟨_, .of (e2.at hst)⟩, for_tup (xs := svs) (fun i σ H2 => ∃ z2 z3 z4, σ = [some (.ref a), some (.ref d), z2, z3, z4] ∧ Ext K H H2 ∧ Fr G2 H2 ∧ CntD S H2 d i) ⟨none, none, none, rfl, e2, Fr.refl _, [], z2, Nat.le_refl _, fun j _ h => absurd h (Nat.not_lt_zero j)⟩ (fun i σ H2 _ h => ?_) (fun i x σ H2 hx h => ?_) (fun σ H2 h => ?_)⟩
  · obtain ⟨_, _, _, _, e, _⟩ := h
    exact .of (e.at hst)
  · obtain ⟨w2, w3, w4, rfl, e3, f3, kvs, hd1, hd2, hd3⟩ := h
    obtain ⟨s0, hs0, hat⟩ := paired_get hs2 hx
    have hat3 := f3.sheet hat
    have hi6 : i < S.length := (List.getElem?_eq_some_iff.mp hs0).1
    obtain ⟨a1, dx1, it, ot, lt, ivs, lvs, rfl, g1, g2, g3, g4, g5, g6⟩ := hat3
    refine ⟨_, rfl, a1, _, dx1, _, _, rfl, g1, T.cl_Sheet, T.na_Sheet_lines, rfl, lt, rfl, ⟨_, .of g5⟩, for_tup (xs := lvs) (fun j σ H4 => H4 = H2 ∧ ∃ z4, σ = [some (.ref a), some (.ref d), some (.ref a1), some (.int ((((s0.lns.take j).map (lineCnt S (countF S 6))).sum : Nat) : Int)), z4]) ⟨rfl, _, rfl⟩ (fun j σ H4 _ h => by rw [h.1]; exact .of g5) (fun j x σ H4 hx h => ?_) (fun σ H4 h => ?_)⟩
    · obtain ⟨rfl, y4, rfl⟩ := h
      obtain ⟨l, hl0, hat4⟩ := paired_get g6 hx
      have hml := List.mem_of_getElem? hl0
      have hsum : ((s0.lns.take (j + 1)).map (lineCnt S (countF S 6))).sum = ((s0.lns.take j).map (lineCnt S (countF S 6))).sum + lineCnt S (countF S 6) l := by
        rw [List.take_add_one, hl0, List.map_append, List.sum_append]
        simp
      cases l with
      | row nm tr p on =>
        obtain ⟨a2, dx2, kp, rfl, k1, _⟩ := hat4
        refine ⟨_, rfl, _, _, _, _, true, rfl, .own _, T.ty_Row k1, T.ik_Row_Row, true, rfl, ite_t rfl ⟨_, rfl, _, _, rfl, rfl, rfl, some (.ref a2), ?_⟩⟩
        rw [hsum]
        rfl
      | use bs k ps on =>
        obtain ⟨a2, dx2, bt, pt, pvs, m, rfl, k1, k2, k3, k4, k5⟩ := hat4
        obtain ⟨hki, s1, hsk, q1, q2, q3⟩ := hok.uses i s0 hs0 bs k ps on hml
        have em : m = s1.nm := by
          rw [List.getElem?_map, hsk] at k2
          exact (Option.some.inj k2).symm
        subst em
        have hg : DGet H4 d (.str s1.nm) (some (.int ((countF S 6 s1 : Nat) : Int))) := by
          rw [← hd3 k s1 hki hsk]
          exact DGet.k (k := .inr s1.nm) hd1
        have hcl : lineCnt S (countF S 6) (.use bs k ps on) = ps.length + countF S 6 s1 + bs.length := by
          show ps.length + (match S[k]? with | some s => _ | none => 0) + bs.length = _
          rw [hsk]
        refine ⟨_, rfl, _, _, _, _, false, rfl, .own _, T.ty_Use k1, T.ik_Use_Row, false, rfl, ite_f rfl ⟨_, rfl, ?_⟩⟩
        refine ⟨_, rfl, a2, _, dx2, _, _, rfl, k1, T.cl_Use, T.na_Use_parts, rfl, pt, _, rfl, .inr (.of k4), _, rfl, _, rfl, a2, _, dx2, _, _, rfl, k1, T.cl_Use, T.na_Use_module, rfl, d, _, rfl, hg, _, _, rfl, rfl, ?_⟩
        refine ⟨_, rfl, a2, _, dx2, _, _, rfl, k1, T.cl_Use, T.na_Use_binds, rfl, bt, _, rfl, .inr k3.t, _, _, rfl, rfl, _, _, rfl, rfl, rfl, some (.ref a2), ?_⟩
        rw [hsum, hcl, k5.length, List.length_map]
        have e : ∀ (x y z u : Nat), ((x : Int) + ((y : Int) + (z : Int) + (u : Int))) = ((x + (y + z + u) : Nat) : Int) := fun x y z u => by omega
        exact congrArg (fun n : Int => [some (V.ref a), some (.ref d), some (.ref a1), some (.int n), some (.ref a2)]) (e _ _ _ _)
    · obtain ⟨rfl, y4, rfl⟩ := h
      have hput : DPut H4 d (.str s0.nm) (.int ((((s0.lns.take lvs.length).map (lineCnt S (countF S 6))).sum : Nat) : Int)) (upd H4 d (.dK (putK kvs (.inr s0.nm) (.int ((((s0.lns.take lvs.length).map (lineCnt S (countF S 6))).sum : Nat) : Int))))) := DPut.k (k := .inr s0.nm) hd1 (by show _ < 2 ^ 24; omega)
      have hval : ((s0.lns.take lvs.length).map (lineCnt S (countF S 6))).sum = countF S 6 s0 := by
        rw [g6.length, List.take_length]
        exact cnt_fuel hok (f := 7) (g := 6) hs0 (by omega) (by omega)
      refine ⟨_, rfl, _, rfl, _, rfl, a1, _, dx1, _, _, rfl, g1, T.cl_Sheet, T.na_Sheet_name, rfl, d, _, rfl, hput, _, _, _, rfl, e3.put hd hd1 trivial _, f3.trans (Fr.put hd1 rfl _), _, upd_same, Nat.le_trans (putK_len _ _ _) (Nat.succ_le_succ hd2), fun j s hj hs => ?_⟩
      rw [valV_put]
      split
      · rename_i e
        have e1 := nm_ix hok.names hs hs0 (Sum.inr.inj e)
        subst e1
        rw [hs0] at hs
        cases hs
        rw [hval]
      · rename_i e
        rcases Nat.lt_succ_iff_lt_or_eq.mp hj with hj | hj
        · exact hd3 j s hj hs
        · subst hj
          rw [hs0] at hs
          cases hs
          exact absurd rfl e
  · obtain ⟨w2, w3, w4, rfl, e3, f3, kvs, hd1, hd2, hd3⟩ := h
    refine ⟨_, rfl, q d H2 e3 fun j s hj => ?_⟩
    rw [← hd3 j s (by rw [hl]; exact (List.getElem?_eq_some_iff.mp hj).1) hj]
    exact DGet.k (k := .inr s.nm) hd1
theorem ok_counts (T : Top K mg) : C8.Cal P w K mg base 1 "counts" (sp_counts K) [] :=
  cal_of T 18 d_counts s_counts "counts" rfl rfl rfl rfl T.g_counts sc_counts (fun _ _ _ _ _ _ us hl => match us, hl with | [_], _ => rfl) ln_counts (bd_counts T )
end

section
variable {P : Program} {w : World} {K : PySem.W.Frag} {mg : Str → Option Value} {base : Heap} {q : Str} {f : Addr}
/-! ### rows as data -/
abbrev RwAt (K : PySem.W.Frag) (H : Hp) (v : V) (r : Rw) : Prop := Dp K H v r.d
theorem Fr.rw {K : PySem.W.Frag} {H H1 : Hp} {v : V} {r : Rw} (e : Fr H H1) (h : RwAt K H v r) : RwAt K H1 v r := e.dp h (rw_noL r)
theorem Fr.rws {K : PySem.W.Frag} {H H1 : Hp} {xs : List V} {rs : List Rw} (e : Fr H H1) (h : Paired (RwAt K H) xs rs) : Paired (RwAt K H1) xs rs := Paired.mapP h fun _ _ z => e.rw z
theorem flat_take_le {α β : Type} {f : α → List β} {l : List α} (i : Nat) : ((l.take i).flatMap f).length ≤ (l.flatMap f).length := by
  conv => rhs; rw [← List.take_append_drop i l, List.flatMap_append, List.length_append]
  omega
theorem insRows_get {deeper ahead : Str} {b : Option Str} : ∀ {is : List Inp} {ps : List Tl} {i : Nat} {a : Inp} {p : Tl}, is[i]? = some a → ps[i]? = some p → (insRows deeper ahead b is ps)[i]? = some ⟨deeper ++ a.nm, a.kind.isT, p.ren (fun m => ahead ++ m), b⟩
  | [], _, i, _, _, h, _ => by cases i <;> cases h
  | _ :: _, [], i, _, _, _, h => by cases i <;> cases h
  | _ :: _, _ :: _, 0, _, _, h, g => by cases h; cases g; rfl
  | _ :: is, _ :: ps, i + 1, _, _, h, g => insRows_get (is := is) (ps := ps) (i := i) h g
theorem outRows_get {S : List Sh} {s : Sh} {deeper ahead : Str} {b : Option Str} : ∀ {ns os : List Str} {i : Nat} {n o : Str}, ns[i]? = some n → os[i]? = some o → (outRows S s deeper ahead b ns os)[i]? = some ⟨ahead ++ n, kindF S 6 s o, .named (deeper ++ o), b⟩
  | [], _, i, _, _, h, _ => by cases i <;> cases h
  | _ :: _, [], i, _, _, _, h => by cases i <;> cases h
  | _ :: _, _ :: _, 0, _, _, h, g => by cases h; cases g; rfl
  | _ :: ns, _ :: os, i + 1, _, _, h, g => outRows_get (ns := ns) (os := os) (i := i) h g
theorem use_eq {S : List Sh} {rec : Sh → Str → Option Str → List Rw} {ahead : Str} {b : Option Str} {bs : List Str} {k : Nat} {ps : List Tl} {s : Sh} (h : S[k]? = some s) :
    useRows S rec ahead b bs k ps = insRows (ahead ++ bs.headD "" ++ dotS) ahead b s.ins ps ++ rec s (ahead ++ bs.headD "" ++ dotS) b ++ outRows S s (ahead ++ bs.headD "" ++ dotS) ahead b bs s.outs := by
  unfold useRows
  rw [h]
def sp_rows_ofN (K : PySem.W.Frag) (f : Nat) : Sp := fun vs H Q _ => ∃ (bv sv : V) (S : List Sh) (s : Sh) (j : Nat) (ahead : Str) (on : Option Str), vs = [bv, sv, .str ahead, onV on] ∧ BookAt K H bv S ∧ PlaceOk S ∧ S[j]? = some s ∧ j < f ∧ f ≤ 6 ∧ SheetAt K (S.map Sh.nm) H sv s ∧ ahead.length + 100 * f ≤ 1000 ∧ NdefX.TabsN (TT K) H ∧ (rowsF S f s ahead on).length ≤ 1000 ∧
  ∀ (p : Addr) (xs : List V) (H' : Hp), Ext K H H' → H p = none → H' p = some (.lst xs) → Paired (RwAt K H') xs (rowsF S f s ahead on) → Q (.ref p) H'
def sp_rows_forN (K : PySem.W.Frag) (f : Nat) : Sp := fun vs H Q _ => ∃ (bv uv : V) (S : List Sh) (bs : List Str) (k : Nat) (ps : List Tl) (o : Option Str) (s1 : Sh) (ahead : Str) (b : Option Str), vs = [bv, uv, .str ahead, onV b] ∧ BookAt K H bv S ∧ PlaceOk S ∧ LineAt K (S.map Sh.nm) H uv (.use bs k ps o) ∧ S[k]? = some s1 ∧ k < f ∧ f ≤ 6 ∧ ps.length = s1.ins.length ∧ bs.length = s1.outs.length ∧
  (∀ p ∈ ps, p.ok ∧ p.dep ≤ 3 ∧ ∀ n ∈ p.names, n.length ≤ 40) ∧ (∀ n ∈ bs, n.length ≤ 40) ∧ ahead.length + 100 * (f + 1) ≤ 1000 ∧ NdefX.TabsN (TT K) H ∧ (useRows S (rowsF S f) ahead b bs k ps).length ≤ 1000 ∧
  ∀ (p : Addr) (xs : List V) (H' : Hp), Ext K H H' → H p = none → H' p = some (.lst xs) → Paired (RwAt K H') xs (useRows S (rowsF S f) ahead b bs k ps) → Q (.ref p) H'

theorem sc_rows_for : FnScope ["book", "use", "ahead", "beat", "inner", "deeper", "found", "one", "part", "name", "output"] ["book", "use", "ahead", "beat"] (defScope s_rows_for) := ⟨rfl, rfl, rfl, by decide +kernel, rfl, by decide +kernel, by decide +kernel⟩
def sp_rows_for (K : PySem.W.Frag) (n : Nat) : Sp := sp_rows_forN K n
theorem ln_rows_for {K : PySem.W.Frag} {n : Nat} : ∀ vs H Q E, (sp_rows_for K n) vs H Q E → vs.length = (["book", "use", "ahead", "beat"] : List Str).length := fun vs H Q E h => by
  obtain ⟨_, _, _, _, _, _, _, _, _, _, rfl, _⟩ := h
  rfl
theorem bd_rows_for (T : Top K mg) (n : Nat) (me_sheet_of : C8.Met P w K mg base 1 (He.ga K "Book") "sheet_of" (sp_Book_sheet_of K) []) (c_kind_of : C8.Cal P w K mg base 1 "kind_of" (sp_kind_of K) []) (c_renamed : C8.Cal P w K mg base 4 "renamed" (sp_renamedN K 3) []) (me_told : ∀ c : PK, C8.Met P w K mg base 4 (cK K c) "told" (sp_told K 3 c) []) (c_with_ahead : C8.Cal P w K mg base 1 "with_ahead" (spWith K) []) (c_kind_in : C8.Cal P w K mg base 9 "kind_in" (sp_kind_inN K 6) []) (c_rows_of : C8.Cal P w K mg base (20 + 2 * n) "rows_of" (sp_rows_ofN K n) []) : Body P w K mg base q s_rows_for f ["book", "use", "ahead", "beat", "inner", "deeper", "found", "one", "part", "name", "output"] (20 + 2 * n) (sp_rows_for K n) := fun cdv A outer s H vs Q E hr h => by
  have hu := hu_of hr
  obtain ⟨bv, uv, S, bs, k, ps, o, s1, ahead, b, rfl, hB, hpo, hu0, hk, hkn, hn6, hpl, hbl, hps, hbs, hal, hT, hlen, q⟩ := h
  refine ⟨_, (pss_cons (ps_set (i := 4) sc_rows_for.nd rfl (by first | exact Or.inl rfl | exact Or.inr rfl) (C8.pe_mt me_sheet_of hr (by omega) (pv 0) (pa_cons (pe_fld (pv 1) rfl) pa_nil)))
        (pss_cons (ps_set (i := 5) sc_rows_for.nd rfl (by first | exact Or.inl rfl | exact Or.inr rfl) (pe_op op_add_str (pe_op op_add_str (pv 2) (pe_ix ix_tup (pe_fld (pv 1) rfl) pe_int (fun _ _ => rfl))) pe_str))
        (pss_cons (ps_set (i := 6) sc_rows_for.nd rfl (by first | exact Or.inl rfl | exact Or.inr rfl) (pe_lst pa_nil))
        (pss_cons (ps_for PassesOwn.never rfl (RZ.pi_zipA rfl T.n_zip (pa_cons (pe_fld (pv 4) rfl) (pa_cons (pe_fld (pv 1) rfl) pa_nil))) (pg_tup rfl (pgs_cons (pg_name (i := 7) sc_rows_for.nd rfl (by first | exact Or.inl rfl | exact Or.inr rfl)) (pgs_cons (pg_name (i := 8) sc_rows_for.nd rfl (by first | exact Or.inl rfl | exact Or.inr rfl)) pgs_nil)))
          (pss_one (ps_expr (pe_bm PySem.F.plainAttrs_list PySem.F.slot_list_append PySem.F.type_list_append mt_append (pv 6) (pa_cons (pe_tup (pa_cons (pe_op op_add_str (pv 5) (pe_fld (pv 7) rfl)) (pa_cons (C8.pe_c c_kind_of hr (by omega) rfl (pa_cons (pe_fld (pv 7) rfl) pa_nil)) (pa_cons (C8.pe_c c_renamed hr (by omega) rfl (pa_cons (pe_poly fun c => C8.pe_mt0 (me_told c) hr (by omega) (pv 8)) (pa_cons (C8.pe_c c_with_ahead hr (by omega) rfl (pa_cons (pv 2) pa_nil)) pa_nil))) (pa_cons (pv 3) pa_nil))))) pa_nil)))))
        (pss_cons (ps_aug (i := 6) sc_rows_for.nd rfl (by first | exact Or.inl rfl | exact Or.inr rfl) (C8.pe_c c_rows_of hr (by omega) rfl (pa_cons (pv 0) (pa_cons (pv 4) (pa_cons (pv 5) (pa_cons (pv 3) pa_nil))))) iop_ext)
        (pss_cons (ps_for PassesOwn.never rfl (RZ.pi_zipA rfl T.n_zip (pa_cons (pe_fld (pv 1) rfl) (pa_cons (pe_fld (pv 4) rfl) pa_nil))) (pg_tup rfl (pgs_cons (pg_name (i := 9) sc_rows_for.nd rfl (by first | exact Or.inl rfl | exact Or.inr rfl)) (pgs_cons (pg_name (i := 10) sc_rows_for.nd rfl (by first | exact Or.inl rfl | exact Or.inr rfl)) pgs_nil)))
          (pss_one (ps_expr (pe_bm PySem.F.plainAttrs_list PySem.F.slot_list_append PySem.F.type_list_append mt_append (pv 6) (pa_cons (pe_tup (pa_cons (pe_op op_add_str (pv 2) (pv 9)) (pa_cons (C8.pe_c c_kind_in hr (by omega) rfl (pa_cons (pv 0) (pa_cons (pv 4) (pa_cons (pv 10) pa_nil)))) (pa_cons (pe_tup (pa_cons pe_str (pa_cons (pe_op op_add_str (pv 5) (pv 10)) pa_nil))) (pa_cons (pv 3) pa_nil))))) pa_nil)))))
        (pss_one (ps_ret (pv 6))))))))), ?_⟩
  have hok := hpo.ok
  have hs1ok := hok.sheets s1 (List.mem_of_getElem? hk)
  have hB0 := hB
  have hu00 := hu0
  rw [use_eq hk] at hlen q
  rw [List.length_append, List.length_append] at hlen
  have hin := insRows_len (deeper := ahead ++ bs.headD "" ++ dotS) (ahead := ahead) (b := b) hpl
  have hout := outRows_len (S := S) (s := s1) (deeper := ahead ++ bs.headD "" ++ dotS) (ahead := ahead) (b := b) hbl
  obtain ⟨ab, db, stb, svs, rfl, hb1, hb2, hb3⟩ := hB
  obtain ⟨a1, dx1, bt, pt, pvs, m, rfl, k1, k2, k3, k4, k5⟩ := hu0
  have em : m = s1.nm := by
    rw [List.getElem?_map, hk] at k2
    exact (Option.some.inj k2).symm
  subst em
  refine ⟨_, rfl, ab, db, _, rfl, hb1, rfl, _, rfl, a1, _, dx1, _, _, rfl, k1, T.cl_Use, T.na_Use_module, rfl, _, S, s1, rfl, hB0, List.mem_of_getElem? hk, hok.names, hok.l6, fun sv H1 e1 hs1 => ?_⟩
  have hs10 := hs1
  obtain ⟨a3, dx3, it3, ot3, lt3, ivs3, lvs3, rfl, g1, g2, g3, g4, g5, g6⟩ := hs1
  obtain ⟨b0, bs', rfl⟩ : ∃ b0 bs', bs = b0 :: bs' := by
    have h1 := hs1ok.o1
    cases bs with
    | nil => rw [← hbl] at h1; cases h1
    | cons b0 bs' => exact ⟨_, _, rfl⟩
  have hb40 := hbs b0 List.mem_cons_self
  have hdl : (ahead ++ b0 ++ dotS).length = ahead.length + b0.length + 1 := by rw [str_len_app, str_len_app]; rfl
  refine ⟨_, rfl, _, rfl, a1, _, dx1, _, _, rfl, e1.at k1, T.cl_Use, T.na_Use_binds, rfl, bt, _, 0, _, rfl, rfl, (e1.fr.bnd k3).t, at0 _ _, ahead, b0, rfl, rfl, by show _ ≤ 2 ^ 24; omega, _, dotS, rfl, rfl, by rw [str_len_app]; show _ + 1 ≤ 2 ^ 24; omega, ?_⟩
  generalize hdp : ahead ++ b0 ++ dotS = deeper at hdl
  have hdp' : ahead ++ (b0 :: bs').headD "" ++ dotS = deeper := hdp
  rw [hdp'] at hlen q hin hout
  refine ⟨szk 0, fun p hp => ?_⟩
  have e2 : Ext K H1 (upd H1 p (.lst [])) := Ext.new hp _
  have z2 : (upd H1 p (.lst [])) p = some (.lst []) := upd_same
  generalize hG2 : upd H1 p (.lst []) = G2 at e2 z2
  have E2 := e1.trans e2
  have hil := g3.length
  have hkl := k5.length
  refine ⟨_, rfl, a3, _, dx3, _, _, rfl, e2.at g1, T.cl_Sheet, T.na_Sheet_inputs, rfl, _, rfl, a1, _, dx1, _, _, rfl, E2.at k1, T.cl_Use, T.na_Use_parts, rfl, it3, pt, ivs3, pvs, rfl, .inr ⟨.of (e2.at g2), .of (E2.at k4), RZ.for_zipT (xs := ivs3) (ys := pvs) (show ivs3.length = pvs.length by omega) (fun i σ H3 => ∃ z7 z8 xs, σ = [some (.ref ab), some (.ref a1), some (.str ahead), some (onV b), some (.ref a3), some (.str deeper), some (.ref p), z7, z8, none, none] ∧ Ext K H1 H3 ∧ H3 p = some (.lst xs) ∧ xs.length = i ∧ i ≤ ps.length ∧ Paired (RwAt K H3) xs ((insRows deeper ahead b s1.ins ps).take i))
    ⟨none, none, [], rfl, e2, z2, rfl, Nat.zero_le _, .nil⟩ (fun i σ H3 h => ?_) (fun i x y t σ H3 hx hy h ht => ?_) (fun σ H3 h => ?_)⟩⟩
  · obtain ⟨_, _, _, _, e3, _⟩ := h
    exact ⟨.of (e3.at g2), .of ((e1.trans e3).at k4)⟩
  · obtain ⟨z7, z8, xs, rfl, e3, hp3, hxl, hil3, hpr⟩ := h
    obtain ⟨inp, hinp, hia⟩ := paired_get g3 hx
    obtain ⟨tl, htl, hpa⟩ := paired_get k5 hy
    have e4 : Ext K H3 (upd H3 t (.tup [x, y])) := Ext.new ht _
    have hp4 := e4.at hp3
    refine ⟨t, [x, y], rfl, .of upd_same, rfl, x, [y], rfl, y, [], rfl, rfl, ?_⟩
    generalize upd H3 t (.tup [x, y]) = H4 at e4 hp4
    have E4 := e3.trans e4
    obtain ⟨ai, dxi, kv, rfl, j1, j2⟩ := E4.fr.input hia
    have hpa4 := (e1.trans E4).fr.part hpa
    obtain ⟨a2, dx2, fs2, rfl, m1, m2, m3, m4, m5, m6, m7⟩ := hpa4.head
    obtain ⟨hok1, hd1, hn1⟩ := hps tl (List.mem_of_getElem? htl)
    have hin40 := hpo.small s1 (List.mem_of_getElem? hk) inp.nm (mem_names (a := .inp inp) (List.mem_append_left _ (List.mem_map_of_mem (List.mem_of_getElem? hinp))) List.mem_cons_self)
    refine ⟨_, rfl, .inl ⟨rfl, _, .of hp4⟩, ?_⟩
    refine ⟨_, rfl, _, rfl, ai, _, dxi, _, _, rfl, j1, T.cl_Input, T.na_Input_name, rfl, deeper, inp.nm, rfl, rfl, by show _ ≤ 2 ^ 24; omega, ?_⟩
    refine ⟨_, rfl, ai, _, dxi, _, kv, rfl, j1, T.cl_Input, T.na_Input_kind, rfl, kv, inp.kind, rfl, j2, ?_⟩
    refine ⟨tl.k, _, rfl, a2, dx2, fs2, rfl, m1, m5, _, tl, rfl, rfl, hd1, hpa4, fun r1 H5 e5 d1 => ?_⟩
    refine ⟨_, rfl, ahead, rfl, ((e1.trans E4).trans e5).2.1 hT, fun f6 H6 e6 c6 => ?_⟩
    refine ⟨_, tl, f6, ahead, rfl, c6, hok1, hd1, e6.fr.dp d1 (told_noL _), fun n hn => by have := hn1 n hn; show _ ≤ 2 ^ 24; omega, fun r7 H7 e7 d7 => ?_⟩
    have E7 := ((e4.trans e5).trans e6).trans e7
    refine ⟨_, rfl, szk 4, fun u hu => ⟨p, xs, _, rfl, rfl, (E7.trans (Ext.new hu _)).at hp3, by show _ < 2 ^ 24; omega, ?_⟩⟩
    have e8 := E7.trans (Ext.new hu (.tup [.str (deeper ++ inp.nm), .str (trS inp.kind.isT), r7, onV b]))
    refine ⟨_, _, xs ++ [.ref u], rfl, (e3.trans e8).push hp (e8.at hp3), upd_same, by rw [List.length_append, hxl]; rfl, by have := (List.getElem?_eq_some_iff.mp htl).1; omega, ?_⟩
    have fr9 := Fr.put (e8.at hp3) (rfl : froz (.lst xs) = false) (.lst (xs ++ [.ref u]))
    refine paired_step ((e8.fr.trans fr9).rws hpr) (insRows_get hinp htl) ?_
    exact .tup (fr9.t (.of upd_same)) (.cons (.str _) (.cons (.str _) (.cons (((Fr.new hu _).trans fr9).dp d7 (told_noL _)) (.cons (dp_on b) .nil))))
  obtain ⟨z7, z8, xs, rfl, e3, hp3, hxl, hil3, hpr⟩ := h
  rw [hil, ← hpl, ← hin, List.take_length] at hpr
  have E3 := e1.trans e3
  refine ⟨_, rfl, _, rfl, _, rfl, _, rfl, _, rfl, _, _, S, s1, k, deeper, b, rfl, E3.fr.book hB0, hpo, hk, hkn, hn6, e3.fr.sheet hs10, by omega, E3.2.1 hT, by omega, fun r ys H4 e4 hr0 hr1 hpr2 => ?_⟩
  have hyl := hpr2.length
  refine ⟨p, r, xs, ys, rfl, rfl, e4.at hp3, hr1, by show _ ≤ 2 ^ 24; omega, ?_⟩
  have e5 := (e3.trans e4).push hp (e4.at hp3) (zs := xs ++ ys)
  have fr5 := Fr.put (e4.at hp3) (rfl : froz (.lst xs) = false) (.lst (xs ++ ys))
  have hp5 : (upd H4 p (.lst (xs ++ ys))) p = some (.lst (xs ++ ys)) := upd_same
  have hpr5 : Paired (RwAt K (upd H4 p (.lst (xs ++ ys)))) (xs ++ ys) (insRows deeper ahead b s1.ins ps ++ rowsF S n s1 deeper b) := paired_app ((e4.fr.trans fr5).rws hpr) (fr5.rws hpr2)
  generalize hG5 : upd H4 p (.lst (xs ++ ys)) = G5 at e5 hp5 hpr5
  have E5 := e1.trans e5
  have hol : (s1.outs.map V.str).length = s1.outs.length := List.length_map ..
  have hbsl : ((b0 :: bs').map V.str).length = (b0 :: bs').length := List.length_map ..
  refine ⟨_, rfl, a1, _, dx1, _, _, rfl, E5.at k1, T.cl_Use, T.na_Use_binds, rfl, _, rfl, a3, _, dx3, _, _, rfl, e5.at g1, T.cl_Sheet, T.na_Sheet_outputs, rfl, bt, ot3, _, _, rfl, .inr ⟨(E5.fr.bnd k3).t, .of (e5.at g4), RZ.for_zipT (xs := (b0 :: bs').map V.str) (ys := s1.outs.map V.str) (by rw [hol, hbsl]; exact hbl) (fun i σ H6 => ∃ z9 z10 zs, σ = [some (.ref ab), some (.ref a1), some (.str ahead), some (onV b), some (.ref a3), some (.str deeper), some (.ref p), z7, z8, z9, z10] ∧ Ext K H1 H6 ∧ H6 p = some (.lst zs) ∧ zs.length = xs.length + ys.length + i ∧ i ≤ (b0 :: bs').length ∧ Paired (RwAt K H6) zs (insRows deeper ahead b s1.ins ps ++ rowsF S n s1 deeper b ++ (outRows S s1 deeper ahead b (b0 :: bs') s1.outs).take i))
    ⟨none, none, xs ++ ys, rfl, e5, hp5, by rw [List.length_append]; rfl, Nat.zero_le _, by rw [List.take_zero, List.append_nil]; exact hpr5⟩ (fun i σ H6 h => ?_) (fun i x y t σ H6 hx hy h ht => ?_) (fun σ H6 h => ?_)⟩⟩
  · obtain ⟨_, _, _, _, e6, _⟩ := h
    exact ⟨((e1.trans e6).fr.bnd k3).t, .of (e6.at g4)⟩
  · obtain ⟨z9, z10, zs, rfl, e6, hp6, hzl, hi6, hpr6⟩ := h
    rw [List.getElem?_map] at hx hy
    obtain ⟨nm, hnm, rfl⟩ := Option.map_eq_some_iff.mp hx
    obtain ⟨ou, hou, rfl⟩ := Option.map_eq_some_iff.mp hy
    have e7 : Ext K H6 (upd H6 t (.tup [.str nm, .str ou])) := Ext.new ht _
    have hp7 := e7.at hp6
    refine ⟨t, [.str nm, .str ou], rfl, .of upd_same, rfl, .str nm, [.str ou], rfl, .str ou, [], rfl, rfl, ?_⟩
    generalize upd H6 t (.tup [.str nm, .str ou]) = H7 at e7 hp7
    have E7 := e6.trans e7
    have hnm40 := hbs nm (List.mem_of_getElem? hnm)
    have hoin := hs1ok.outIn ou (List.mem_of_getElem? hou)
    have hou40 := hpo.small s1 (List.mem_of_getElem? hk) ou hoin
    refine ⟨_, rfl, .inl ⟨rfl, _, .of hp7⟩, ?_⟩
    refine ⟨_, rfl, _, rfl, ahead, nm, rfl, rfl, by show _ ≤ 2 ^ 24; omega, ?_⟩
    refine ⟨_, rfl, _, rfl, _, rfl, _, _, S, s1, ou, k, rfl, (e1.trans E7).fr.book hB0, hok, hk, by omega, E7.fr.sheet hs10, hoin, fun H8 e8 => ?_⟩
    refine ⟨_, rfl, _, rfl, deeper, ou, rfl, rfl, by show _ ≤ 2 ^ 24; omega, szk 2, fun w1 hw1 => ⟨_, rfl, szk 4, fun u hu => ⟨p, zs, _, rfl, rfl, (((e8.trans (Ext.new hw1 _)).trans (Ext.new hu _))).at hp7, by show _ < 2 ^ 24; simp only [List.length_cons] at *; omega, ?_⟩⟩⟩
    have e9 := e7.trans ((e8.trans (Ext.new hw1 (.tup [.str "named", .str (deeper ++ ou)]))).trans (Ext.new hu (.tup [.str (ahead ++ nm), .str (trS (kindF S 6 s1 ou)), .ref w1, onV b])))
    refine ⟨_, _, zs ++ [.ref u], rfl, (e6.trans e9).push hp (e9.at hp6), upd_same, by rw [List.length_append, hzl]; rfl, by have := (List.getElem?_eq_some_iff.mp hnm).1; omega, ?_⟩
    have fr9 := Fr.put (e9.at hp6) (rfl : froz (.lst zs) = false) (.lst (zs ++ [.ref u]))
    rw [List.take_add_one, outRows_get hnm hou, ← List.append_assoc]
    refine Paired.snoc ((e9.fr.trans fr9).rws hpr6) ?_
    exact .tup (fr9.t (.of upd_same)) (.cons (.str _) (.cons (.str _) (.cons (.tup (((Fr.new hu _).trans fr9).t (.of upd_same)) (.cons (.str _) (.cons (.str _) .nil))) (.cons (dp_on b) .nil))))
  obtain ⟨z9, z10, zs, rfl, e6, hp6, hzl, hi6, hpr6⟩ := h
  rw [hbsl, ← hout, List.take_length] at hpr6
  exact ⟨_, rfl, q p zs H6 (e1.trans e6) (e1.free hp) hp6 hpr6⟩
end

section
variable {P : Program} {w : World} {K : PySem.W.Frag} {mg : Str → Option Value} {base : Heap} {q : Str} {f : Addr}
theorem sc_rows_of : FnScope ["book", "sheet", "ahead", "on", "found", "line", "beat"] ["book", "sheet", "ahead", "on"] (defScope s_rows_of) := ⟨rfl, rfl, rfl, by decide +kernel, rfl, by decide +kernel, by decide +kernel⟩
def sp_rows_of (K : PySem.W.Frag) (n : Nat) : Sp := sp_rows_ofN K (n + 1)
theorem ln_rows_of {K : PySem.W.Frag} {n : Nat} : ∀ vs H Q E, (sp_rows_of K n) vs H Q E → vs.length = (["book", "sheet", "ahead", "on"] : List Str).length := fun vs H Q E h => by
  obtain ⟨_, _, _, _, _, _, _, rfl, _⟩ := h
  rfl
theorem bd_rows_of (T : Top K mg) (n : Nat) (c_renamed : C8.Cal P w K mg base 4 "renamed" (sp_renamedN K 3) []) (me_told : ∀ c : PK, C8.Met P w K mg base 4 (cK K c) "told" (sp_told K 3 c) []) (c_with_ahead : C8.Cal P w K mg base 1 "with_ahead" (spWith K) []) (c_rows_for : C8.Cal P w K mg base (21 + 2 * n) "rows_for" (sp_rows_forN K n) []) : Body P w K mg base q s_rows_of f ["book", "sheet", "ahead", "on", "found", "line", "beat"] (21 + 2 * n) (sp_rows_of K n) := fun cdv A outer s H vs Q E hr h => by
  have hu := hu_of hr
  obtain ⟨bv, sv, S, s0, j, ahead, on, rfl, hB, hpo, hj, hjn, hn6, hs, hal, hT, hlen, q⟩ := h
  refine ⟨_, (pss_cons (ps_set (i := 4) sc_rows_of.nd rfl (by first | exact Or.inl rfl | exact Or.inr rfl) (pe_lst pa_nil))
        (pss_cons (ps_for PassesOwn.never rfl (pi_tup (pe_fld (pv 1) rfl)) (pg_name (i := 5) sc_rows_of.nd rfl (by first | exact Or.inl rfl | exact Or.inr rfl))
          (pss_cons (ps_set (i := 6) sc_rows_of.nd rfl (by first | exact Or.inl rfl | exact Or.inr rfl) (pv 3))
          (pss_cons (ps_if (pt_cmp (pc_notN (pe_fld (pv 5) rfl))) (pss_one (ps_set (i := 6) sc_rows_of.nd rfl (by first | exact Or.inl rfl | exact Or.inr rfl) (pe_op op_add_str (pv 2) (pe_fld (pv 5) rfl)))) pss_nil)
          (pss_one (ps_if (pt_val (pe_callB call_isi (by rfl) T.n_isinstance (by decide +kernel) (pa_cons (pv 5) (pa_cons (pe_glob (v := .ref (He.ga K "Row")) rfl T.g_Row rfl) pa_nil)))) (pss_one (ps_expr (pe_bm PySem.F.plainAttrs_list PySem.F.slot_list_append PySem.F.type_list_append mt_append (pv 4) (pa_cons (pe_tup (pa_cons (pe_op op_add_str (pv 2) (pe_fld (pv 5) rfl)) (pa_cons (pe_fld (pv 5) rfl) (pa_cons (C8.pe_c c_renamed hr (by omega) rfl (pa_cons (pe_poly fun c => C8.pe_mt0 (me_told c) hr (by omega) (pe_fld (pv 5) rfl)) (pa_cons (C8.pe_c c_with_ahead hr (by omega) rfl (pa_cons (pv 2) pa_nil)) pa_nil))) (pa_cons (pv 6) pa_nil))))) pa_nil)))) (pss_one (ps_aug (i := 4) sc_rows_of.nd rfl (by first | exact Or.inl rfl | exact Or.inr rfl) (C8.pe_c c_rows_for hr (by omega) rfl (pa_cons (pv 0) (pa_cons (pv 5) (pa_cons (pv 2) (pa_cons (pv 6) pa_nil))))) iop_ext)))))))
        (pss_one (ps_ret (pv 4))))), ?_⟩
  have hok := hpo.ok
  have hmem := List.mem_of_getElem? hj
  have hsok := hok.sheets s0 hmem
  obtain ⟨a3, dx3, it3, ot3, lt3, ivs3, lvs3, rfl, g1, g2, g3, g4, g5, g6⟩ := hs
  refine ⟨szk 0, fun p hp => ?_⟩
  have e2 : Ext K H (upd H p (.lst [])) := Ext.new hp _
  have z2 : (upd H p (.lst [])) p = some (.lst []) := upd_same
  generalize hG2 : upd H p (.lst []) = G2 at e2 z2
  have hll := g6.length
  refine ⟨_, rfl, a3, _, dx3, _, _, rfl, e2.at g1, T.cl_Sheet, T.na_Sheet_lines, rfl, lt3, rfl, ⟨_, .of (e2.at g5)⟩, for_tup (xs := lvs3) (fun i σ H3 => ∃ z5 z6 xs, σ = [some bv, some (.ref a3), some (.str ahead), some (onV on), some (.ref p), z5, z6] ∧ Ext K H H3 ∧ H3 p = some (.lst xs) ∧ Paired (RwAt K H3) xs ((s0.lns.take i).flatMap (lineRows S (rowsF S n) ahead on)))
    ⟨none, none, [], rfl, e2, z2, .nil⟩ (fun i σ H3 _ h => ?_) (fun i x σ H3 hx h => ?_) (fun σ H3 h => ?_)⟩
  · obtain ⟨_, _, _, _, e3, _⟩ := h
    exact .of (e3.at g5)
  · obtain ⟨z5, z6, xs, rfl, e3, hp3, hpr⟩ := h
    obtain ⟨l, hl0, hat⟩ := paired_get g6 hx
    have hml := List.mem_of_getElem? hl0
    have hat3 := e3.fr.line hat
    have hat30 := hat3
    have hxl := hpr.length
    have htot : ((s0.lns.take (i + 1)).flatMap (lineRows S (rowsF S n) ahead on)).length ≤ 1000 := Nat.le_trans (flat_take_le _) hlen
    rw [flatMap_take hl0, List.length_append] at htot
    have hnames : ∀ n ∈ l.borne, n.length ≤ 40 := fun n hn => hpo.small s0 hmem n (mem_names (a := .ln l) (List.mem_append_right _ (List.mem_map_of_mem hml)) hn)
    have hps : ∀ p ∈ l.eqs, p.ok ∧ p.dep ≤ 3 ∧ ∀ n ∈ p.names, n.length ≤ 40 := fun p hp => ⟨hpo.eqs s0 hmem l hml p hp, (hsok.eqIn l hml p hp).1, fun n hn => hpo.small s0 hmem n ((hsok.eqIn l hml p hp).2 n hn)⟩
    have hon40 : ∀ o, l.on = some o → o.length ≤ 40 := fun o ho => by
      obtain ⟨m, _, hc⟩ := hsok.chain (.ln l) (List.mem_append_right _ (List.mem_map_of_mem hml))
      have hc : ChainE s0.tri m l.on := hc
      rw [ho] at hc
      exact hpo.small s0 hmem o (chain_in hc)
    cases l with
    | row nm tr pp o =>
      obtain ⟨a1, dx1, kp, rfl, k1, hP⟩ := hat3
      obtain ⟨a2, dx2, fs2, rfl, m1, m2, m3, m4, m5, m6, m7⟩ := hP.head
      obtain ⟨hok1, hd1, hn1⟩ := hps pp List.mem_cons_self
      have hnm40 := hnames nm List.mem_cons_self
      cases o with
      | none =>
        refine ⟨_, rfl, _, rfl, a1, _, dx1, _, _, rfl, k1, T.cl_Row, T.na_Row_on, rfl, _, rfl, ite_f rfl ?_⟩
        refine ⟨_, rfl, _, _, _, _, true, rfl, .own _, T.ty_Row k1, T.ik_Row_Row, true, rfl, ite_t rfl ?_⟩
        refine ⟨_, rfl, .inl ⟨rfl, _, .of hp3⟩, ?_⟩
        refine ⟨_, rfl, _, rfl, a1, _, dx1, _, _, rfl, k1, T.cl_Row, T.na_Row_name, rfl, ahead, nm, rfl, rfl, by show _ ≤ 2 ^ 24; omega, ?_⟩
        refine ⟨_, rfl, a1, _, dx1, _, _, rfl, k1, T.cl_Row, T.na_Row_kind, rfl, ?_⟩
        refine ⟨pp.k, _, rfl, a1, _, dx1, _, _, rfl, k1, T.cl_Row, T.na_Row_part, rfl, a2, dx2, fs2, rfl, m1, m5, _, pp, rfl, rfl, hd1, hP, fun r1 H5 e5 d1 => ?_⟩
        refine ⟨_, rfl, ahead, rfl, (e3.trans e5).2.1 hT, fun f6 H6 e6 c6 => ?_⟩
        refine ⟨_, pp, f6, ahead, rfl, c6, hok1, hd1, e6.fr.dp d1 (told_noL _), fun n hn => by have := hn1 n hn; show _ ≤ 2 ^ 24; omega, fun r7 H7 e7 d7 => ?_⟩
        have E7 := (e5.trans e6).trans e7
        refine ⟨_, rfl, szk 4, fun u hu => ⟨p, xs, _, rfl, rfl, (E7.trans (Ext.new hu _)).at hp3, by show _ < 2 ^ 24; omega, ?_⟩⟩
        have fr8 : Fr H3 (upd H7 u _) := E7.fr.trans (Fr.new hu (.tup [.str (ahead ++ nm), .str (trS tr), r7, onV on]))
        have e8 := E7.trans (Ext.new hu (.tup [.str (ahead ++ nm), .str (trS tr), r7, onV on]))
        refine ⟨_, _, xs ++ [.ref u], rfl, (e3.trans e8).push hp (e8.at hp3), upd_same, ?_⟩
        have fr9 := Fr.put (e8.at hp3) (rfl : froz (.lst xs) = false) (.lst (xs ++ [.ref u]))
        rw [flatMap_take hl0]
        refine paired_app ((e8.fr.trans fr9).rws hpr) (.cons ?_ .nil)
        exact .tup (fr9.t (.of upd_same)) (.cons (.str _) (.cons (.str _) (.cons (((Fr.new hu _).trans fr9).dp d7 (told_noL _)) (.cons (dp_on on) .nil))))
      | some o =>
        have ho40 := hon40 o rfl
        refine ⟨_, rfl, _, rfl, a1, _, dx1, _, _, rfl, k1, T.cl_Row, T.na_Row_on, rfl, _, rfl, ite_t rfl ?_⟩
        refine ⟨_, rfl, _, rfl, a1, _, dx1, _, _, rfl, k1, T.cl_Row, T.na_Row_on, rfl, ahead, o, rfl, rfl, by show _ ≤ 2 ^ 24; omega, ?_⟩
        refine ⟨_, rfl, _, _, _, _, true, rfl, .own _, T.ty_Row k1, T.ik_Row_Row, true, rfl, ite_t rfl ?_⟩
        refine ⟨_, rfl, .inl ⟨rfl, _, .of hp3⟩, ?_⟩
        refine ⟨_, rfl, _, rfl, a1, _, dx1, _, _, rfl, k1, T.cl_Row, T.na_Row_name, rfl, ahead, nm, rfl, rfl, by show _ ≤ 2 ^ 24; omega, ?_⟩
        refine ⟨_, rfl, a1, _, dx1, _, _, rfl, k1, T.cl_Row, T.na_Row_kind, rfl, ?_⟩
        refine ⟨pp.k, _, rfl, a1, _, dx1, _, _, rfl, k1, T.cl_Row, T.na_Row_part, rfl, a2, dx2, fs2, rfl, m1, m5, _, pp, rfl, rfl, hd1, hP, fun r1 H5 e5 d1 => ?_⟩
        refine ⟨_, rfl, ahead, rfl, (e3.trans e5).2.1 hT, fun f6 H6 e6 c6 => ?_⟩
        refine ⟨_, pp, f6, ahead, rfl, c6, hok1, hd1, e6.fr.dp d1 (told_noL _), fun n hn => by have := hn1 n hn; show _ ≤ 2 ^ 24; omega, fun r7 H7 e7 d7 => ?_⟩
        have E7 := (e5.trans e6).trans e7
        refine ⟨_, rfl, szk 4, fun u hu => ⟨p, xs, _, rfl, rfl, (E7.trans (Ext.new hu _)).at hp3, by show _ < 2 ^ 24; omega, ?_⟩⟩
        have fr8 : Fr H3 (upd H7 u _) := E7.fr.trans (Fr.new hu (.tup [.str (ahead ++ nm), .str (trS tr), r7, .str (ahead ++ o)]))
        have e8 := E7.trans (Ext.new hu (.tup [.str (ahead ++ nm), .str (trS tr), r7, .str (ahead ++ o)]))
        refine ⟨_, _, xs ++ [.ref u], rfl, (e3.trans e8).push hp (e8.at hp3), upd_same, ?_⟩
        have fr9 := Fr.put (e8.at hp3) (rfl : froz (.lst xs) = false) (.lst (xs ++ [.ref u]))
        rw [flatMap_take hl0]
        refine paired_app ((e8.fr.trans fr9).rws hpr) (.cons ?_ .nil)
        exact .tup (fr9.t (.of upd_same)) (.cons (.str _) (.cons (.str _) (.cons (((Fr.new hu _).trans fr9).dp d7 (told_noL _)) (.cons (.str _) .nil))))
    | use bs k ps o =>
      obtain ⟨a1, dx1, bt, pt, pvs, m, rfl, k1, _⟩ := hat3
      obtain ⟨hkj, s1, hsk, q1, q2, q3⟩ := hok.uses j s0 hj bs k ps o hml
      cases o with
      | none =>
        refine ⟨_, rfl, _, rfl, a1, _, dx1, _, _, rfl, k1, T.cl_Use, T.na_Use_on, rfl, _, rfl, ite_f rfl ?_⟩
        refine ⟨_, rfl, _, _, _, _, false, rfl, .own _, T.ty_Use k1, T.ik_Use_Row, false, rfl, ite_f rfl ?_⟩
        have hlr : (lineRows S (rowsF S n) ahead on (Ln.use bs k ps none)).length ≤ 1000 := by omega
        refine ⟨_, rfl, _, rfl, _, rfl, _, rfl, _, rfl, _, _, S, bs, k, ps, none, s1, ahead, on, rfl, e3.fr.book hB, hpo, hat30, hsk, by omega, by omega, q1, q2, hps, hnames, by omega, e3.2.1 hT, hlr, fun r ys H4 e4 hr0 hr1 hpr2 => ?_⟩
        have hyl := hpr2.length
        have hyl2 : ys.length ≤ 1000 := Nat.le_trans (Nat.le_of_eq hyl) hlr
        refine ⟨p, r, xs, ys, rfl, rfl, e4.at hp3, hr1, by show _ ≤ 2 ^ 24; omega, ?_⟩
        have fr9 := Fr.put (e4.at hp3) (rfl : froz (.lst xs) = false) (.lst (xs ++ ys))
        refine ⟨_, _, xs ++ ys, rfl, (e3.trans e4).push hp (e4.at hp3), upd_same, ?_⟩
        rw [flatMap_take hl0]
        exact paired_app ((e4.fr.trans fr9).rws hpr) (fr9.rws hpr2)
      | some o =>
        have ho40 := hon40 o rfl
        refine ⟨_, rfl, _, rfl, a1, _, dx1, _, _, rfl, k1, T.cl_Use, T.na_Use_on, rfl, _, rfl, ite_t rfl ?_⟩
        refine ⟨_, rfl, _, rfl, a1, _, dx1, _, _, rfl, k1, T.cl_Use, T.na_Use_on, rfl, ahead, o, rfl, rfl, by show _ ≤ 2 ^ 24; omega, ?_⟩
        refine ⟨_, rfl, _, _, _, _, false, rfl, .own _, T.ty_Use k1, T.ik_Use_Row, false, rfl, ite_f rfl ?_⟩
        have hlr : (lineRows S (rowsF S n) ahead on (Ln.use bs k ps (some o))).length ≤ 1000 := by omega
        refine ⟨_, rfl, _, rfl, _, rfl, _, rfl, _, rfl, _, _, S, bs, k, ps, (some o), s1, ahead, (some (ahead ++ o)), rfl, e3.fr.book hB, hpo, hat30, hsk, by omega, by omega, q1, q2, hps, hnames, by omega, e3.2.1 hT, hlr, fun r ys H4 e4 hr0 hr1 hpr2 => ?_⟩
        have hyl := hpr2.length
        have hyl2 : ys.length ≤ 1000 := Nat.le_trans (Nat.le_of_eq hyl) hlr
        refine ⟨p, r, xs, ys, rfl, rfl, e4.at hp3, hr1, by show _ ≤ 2 ^ 24; omega, ?_⟩
        have fr9 := Fr.put (e4.at hp3) (rfl : froz (.lst xs) = false) (.lst (xs ++ ys))
        refine ⟨_, _, xs ++ ys, rfl, (e3.trans e4).push hp (e4.at hp3), upd_same, ?_⟩
        rw [flatMap_take hl0]
        exact paired_app ((e4.fr.trans fr9).rws hpr) (fr9.rws hpr2)
  · obtain ⟨z5, z6, xs, rfl, e3, hp3, hpr⟩ := h
    rw [hll, List.take_length] at hpr
    exact ⟨_, rfl, q p xs H3 e3 hp hp3 hpr⟩
theorem rows_for_of (T : Top K mg) (TB : LamX.TabB base mg (cod K) (tab K)) (n : Nat) (c : C8.Cal P w K mg base (20 + 2 * n) "rows_of" (sp_rows_ofN K n) []) : C8.Cal P w K mg base (21 + 2 * n) "rows_for" (sp_rows_forN K n) [] := by
  have h := cal_of (P := P) (w := w) (base := base) T 20 d_rows_for s_rows_for "rows_for" (k := 20 + 2 * n) rfl rfl rfl rfl T.g_rows_for sc_rows_for (fun _ _ _ _ _ _ us hl => match us, hl with | [_, _, _, _], _ => rfl) (ln_rows_for (n := n)) (bd_rows_for T n (ok_Book_sheet_of T) (ok_kind_of T) (fam_renamed T 3) (fam_told T 3) (ok_with_ahead T TB) (fam_kind_in T 6) c)
  have e : 20 + 2 * n + 1 = 21 + 2 * n := by omega
  rw [e] at h
  exact h
theorem fam_rows_of (T : Top K mg) (TB : LamX.TabB base mg (cod K) (tab K)) : ∀ n : Nat, C8.Cal P w K mg base (20 + 2 * n) "rows_of" (sp_rows_ofN K n) []
  | 0 => cal_of T 19 d_rows_of s_rows_of "rows_of" (k := 19) rfl rfl rfl rfl T.g_rows_of sc_rows_of (fun _ _ _ _ _ _ us hl => match us, hl with | [_, _, _, _], _ => rfl) (fun vs H Q E h => by obtain ⟨_, _, _, _, _, _, _, rfl, _⟩ := h; rfl) (fun _ _ _ _ _ _ _ _ _ h => by obtain ⟨_, _, _, _, _, _, _, _, _, _, _, z, _⟩ := h; exact absurd z (Nat.not_lt_zero _))
  | n + 1 => by
    have h := cal_of (P := P) (w := w) (base := base) T 19 d_rows_of s_rows_of "rows_of" (k := 21 + 2 * n) rfl rfl rfl rfl T.g_rows_of sc_rows_of (fun _ _ _ _ _ _ us hl => match us, hl with | [_, _, _, _], _ => rfl) (ln_rows_of (n := n)) (bd_rows_of T n (fam_renamed T 3) (fam_told T 3) (ok_with_ahead T TB) (rows_for_of T TB n (fam_rows_of T TB n)))
    have e : 21 + 2 * n + 1 = 20 + 2 * (n + 1) := by omega
    rw [e] at h
    exact h
end

section
variable {P : Program} {w : World} {K : PySem.W.Frag} {mg : Str → Option Value} {base : Heap} {q : Str} {f : Addr}
/-- the sheet that placing makes -/
def placeSh (S : List Sh) (s : Sh) : Sh := ⟨s.nm, s.ins, s.outs, (rowsF (S ++ [s]) 6 s "" none).map Rw.ln⟩
/-- a book that can be placed -/
structure PlacedOk (S : List Sh) (s : Sh) : Prop where
  few : (rowsF (S ++ [s]) 6 s "" none).length ≤ 80
  nm : ∀ r ∈ rowsF (S ++ [s]) 6 s "" none, Nm r.nm
  on : ∀ r ∈ rowsF (S ++ [s]) 6 s "" none, ∀ o, r.on = some o → Nm o
  eq : ∀ r ∈ rowsF (S ++ [s]) 6 s "" none, r.p.ok ∧ r.p.dep ≤ 3
  sheet : SheetOk (placeSh S s)
theorem pg_tupB {X : Cx} {K : PySem.W.Frag} {es : List Expr} {k : Nat} {pos : Pos} {t : TGs} {n : Nat} (hK : X.K = K) (hc : X.calm = true) (h : PGs X es t)
    (hn : (assignEach es X.env).length = n := by rfl) (hst : (assignEach es X.env).findIdx? (·.1) = none := by rfl) : PG X (.Tuple es k pos) (gTup K n t) := by
  subst hK
  exact pg_tup hc h hn hst

theorem sc_placed : FnScope ["book", "main", "rows", "row", "lines", "name", "kind", "told", "on"] ["book"] (defScope s_placed) := ⟨rfl, rfl, rfl, by decide +kernel, rfl, by decide +kernel, by decide +kernel⟩
def sp_placed (K : PySem.W.Frag) : Sp := fun vs H Q _ => ∃ (v : V) (S : List Sh) (s : Sh), vs = [v] ∧ BookAt K H v (S ++ [s]) ∧ PlaceOk (S ++ [s]) ∧ NdefX.TabsN (TT K) H ∧ PlacedOk S s ∧ ∀ r H', Ext K H H' → SheetAt K [s.nm] H' r (placeSh S s) → Q r H'
theorem ln_placed {K : PySem.W.Frag} : ∀ vs H Q E, (sp_placed K) vs H Q E → vs.length = (["book"] : List Str).length := fun vs H Q E h => by
  obtain ⟨_, _, _, rfl, _⟩ := h
  rfl
theorem bd_placed (T : Top K mg) (me_main : C8.Met P w K mg base 1 (He.ga K "Book") "main" (sp_Book_main K) []) (c_counts : C8.Cal P w K mg base 1 "counts" (sp_counts K) []) (c_rows_of : C8.Cal P w K mg base 32 "rows_of" (sp_rows_ofN K 6) []) (mk_Row : C8.Mak P w K mg base 5 "Row" (He.ga K "Row") (sp_Row_init K) []) (c_part_of : C8.Cal P w K mg base 10 "part_of" (sp_part_ofN K 3) []) (mk_Sheet : C8.Mak P w K mg base 7 "Sheet" (He.ga K "Sheet") (sp_Sheet_init K) []) : Body P w K mg base q s_placed f ["book", "main", "rows", "row", "lines", "name", "kind", "told", "on"] (32) (sp_placed K) := fun cdv A outer s H vs Q E hr h => by
  have hu := hu_of hr
  obtain ⟨v, S, s0, rfl, hB, hpo, hT, hpl, q⟩ := h
  refine ⟨_, (pss_cons (ps_set (i := 1) sc_placed.nd rfl (by first | exact Or.inl rfl | exact Or.inr rfl) (C8.pe_mt0 me_main hr (by omega) (pv 0)))
        (pss_cons (ps_if (pt_cmpR op_gt (pe_dget hu (C8.pe_c c_counts hr (by omega) rfl (pa_cons (pv 0) pa_nil)) (pe_fld (pv 1) rfl) (fun _ _ => rfl)) (C8.pe_gc rfl T.i_MOST_LINES_placing) (nomark _)) pss_never pss_nil)
        (pss_cons (ps_set (i := 2) sc_placed.nd rfl (by first | exact Or.inl rfl | exact Or.inr rfl) (C8.pe_c c_rows_of hr (by omega) rfl (pa_cons (pv 0) (pa_cons (pv 1) (pa_cons pe_str (pa_cons pe_non pa_nil))))))
        (pss_cons (ps_for PassesOwn.never rfl (pi_list (pv 2)) (pg_name (i := 3) sc_placed.nd rfl (by first | exact Or.inl rfl | exact Or.inr rfl))
          (pss_one (ps_if (pt_cmpR op_ge (pe_m1 PySem.F.slot_str_count PySem.F.type_str_count mt_count (pe_ix ix_tup (pv 3) pe_int (fun _ _ => rfl)) pe_str) (C8.pe_gc rfl T.i_MOST_WORDS_placing) (nomark _)) pss_never pss_nil)))
        (pss_cons (ps_setLc (i := 4) rfl sc_placed.nd rfl rfl (sw_true rfl rfl rfl (by decide +kernel)) (own := [("name", 5), ("kind", 6), ("told", 7), ("on", 8)]) (pi_list (pv 2)) (blkOk_by (own := [("name", 5), ("kind", 6), ("told", 7), ("on", 8)]) (N := ["book", "main", "rows", "row", "lines", "name", "kind", "told", "on"]) (sc := defScope s_placed) (by decide +kernel)) (fun _ _ _ _ _ => (pg_tupB (K := K) (n := 4) (by rfl) rfl (pgs_cons (pg_name (i := 5) sc_placed.nd rfl (by first | exact Or.inl rfl | exact Or.inr rfl)) (pgs_cons (pg_name (i := 6) sc_placed.nd rfl (by first | exact Or.inl rfl | exact Or.inr rfl)) (pgs_cons (pg_name (i := 7) sc_placed.nd rfl (by first | exact Or.inl rfl | exact Or.inr rfl)) (pgs_cons (pg_name (i := 8) sc_placed.nd rfl (by first | exact Or.inl rfl | exact Or.inr rfl)) pgs_nil)))))) (fun _ _ _ _ _ => pts_nil) (fun _ _ _ _ _ => (C8.pe_mk mk_Row hr (by omega) rfl (pa_cons (pv 5) (pa_cons (pv 6) (pa_cons (C8.pe_c c_part_of hr (by omega) rfl (pa_cons (pv 7) pa_nil)) (pa_cons (pv 8) pa_nil)))))))
        (pss_one (ps_ret (C8.pe_mk mk_Sheet hr (by omega) rfl (pa_cons (pe_fld (pv 1) rfl) (pa_cons (pe_fld (pv 1) rfl) (pa_cons (pe_fld (pv 1) rfl) (pa_cons (pv 4) pa_nil)))))))))))), ?_⟩
  have hok := hpo.ok
  have hj : (S ++ [s0])[S.length]? = some s0 := by rw [List.getElem?_append_right (Nat.le_refl _), Nat.sub_self]; rfl
  have h6 := hok.l6
  rw [List.length_append] at h6
  have h6' : S.length + 1 ≤ 6 := h6
  have hB0 := hB
  obtain ⟨ab, db, stb, svs, rfl, hb1, hb2, hb3⟩ := hB
  have hcnt := rows_len hok "" none hj (f := 6) (by omega)
  have hfew := hpl.few
  refine ⟨_, rfl, ab, db, _, rfl, hb1, rfl, _, S, s0, rfl, hB0, fun mv hm => ?_⟩
  have hm0 := hm
  obtain ⟨a3, dx3, it3, ot3, lt3, ivs3, lvs3, rfl, g1, g2, g3, g4, g5, g6⟩ := hm
  refine ⟨_, rfl, _, S ++ [s0], rfl, hB0, hok, fun d H1 e1 hd => ?_⟩
  refine ⟨_, rfl, a3, _, dx3, _, _, rfl, e1.at g1, T.cl_Sheet, T.na_Sheet_name, rfl, d, _, rfl, hd _ _ hj, _, 80, rfl, rfl, false, congrArg V.bl (df (by omega)), ite_f rfl ?_⟩
  refine ⟨_, rfl, _, rfl, _, _, S ++ [s0], s0, S.length, "", none, rfl, e1.fr.book hB0, hpo, hj, by omega, by omega, e1.fr.sheet hm0, by show 0 + 600 ≤ 1000; decide, e1.2.1 hT, by omega, fun p xs H2 e2 hp0 hp2 hpr => ?_⟩
  have E2 := e1.trans e2
  have hxl := hpr.length
  refine ⟨_, rfl, p, rfl, ⟨_, .of hp2⟩, for_list (xs := xs) (fun i σ H3 => H3 = H2 ∧ ∃ z, σ = [some (.ref ab), some (.ref a3), some (.ref p), z, none, none, none, none, none]) ⟨rfl, _, rfl⟩ (fun i σ H3 _ h => by rw [h.1]; exact .of hp2) (fun i x σ H3 hx h => ?_) (fun σ H3 h => ?_)⟩
  · obtain ⟨rfl, z, rfl⟩ := h
    obtain ⟨rw, hrw, hat⟩ := paired_get hpr hx
    obtain ⟨t, x1, x2, x3, x4, rfl, ht, d1, d2, d3, d4⟩ := dp_tup4 hat
    obtain rfl := dp_str d1
    obtain ⟨ws, hws, hw4, _⟩ := hpl.nm rw (List.mem_of_getElem? hrw)
    refine ⟨_, rfl, t, _, 0, _, rfl, rfl, ht, rfl, ⟨rw.nm, rfl⟩, rw.nm, dotS, rfl, rfl, _, 4, rfl, rfl, _, rfl, ite_f (df ?_) ⟨rfl, _, rfl⟩⟩
    rw [name_count hws]
    omega
  obtain ⟨rfl, z, rfl⟩ := h
  have hlz : xs.length ≤ sizeLine := by show _ ≤ 2 ^ 24; omega
  refine ⟨_, rfl, p, rfl, ⟨_, .of hp2⟩, lcL (K := K) (H1 := H3) (a := p) (xs := xs) (fun i acc H4 => Paired (fun v l => ∀ ns, LineAt K ns H4 v l) acc (((rowsF (S ++ [s0]) 6 s0 "" none).map Rw.ln).take i)) (fun e h => Paired.mapP h fun _ _ z ns => e.line (z ns)) (.of hp2) hlz .nil (fun i x hx acc H4 N S2 e4 pj hN hS => ?_) fun D ys H4 hD e4 hl4 hn pj => ?_⟩
  · obtain ⟨rw, hrw, hat⟩ := paired_get hpr hx
    have hmr := List.mem_of_getElem? hrw
    obtain ⟨t, x1, x2, x3, x4, rfl, ht, d1, d2, d3, d4⟩ := dp_tup4 (e4.fr.rw hat)
    obtain rfl := dp_str d1
    obtain rfl := dp_str d2
    obtain rfl := dp_oval d4
    obtain ⟨hok1, hd1⟩ := hpl.eq rw hmr
    refine ⟨t, _, rfl, ht, rfl, _, _, rfl, _, _, rfl, _, _, rfl, _, _, rfl, rfl, rfl, ?_⟩
    refine ⟨_, rfl, _, rfl, ⟨_, rfl, _, rw.p, rfl, hok1, hd1, hd1, d3, fun r5 H5 e5 hP => ⟨_, rfl, fun y0 dx hy hdx ne => ?_⟩⟩⟩
    refine ⟨y0, rw.nm, rw.tr, r5, rw.p, rw.on, rfl, hpl.nm rw hmr, hpl.on rw hmr, dx, H5, upd_same, hy, Ext.made hy hdx _ _ ne, hP, fun H6 e6 hl6 => ⟨rfl, hN _ _ (e5.trans e6) (paired_step (Paired.mapP pj fun _ _ z ns => (e5.trans e6).fr.line (z ns)) (b := rw.ln) ?_ hl6)⟩⟩
    rw [List.getElem?_map, hrw]
    rfl
  have hrl : ((rowsF (S ++ [s0]) 6 s0 "" none).map Rw.ln).length = xs.length := by rw [List.length_map, hxl]
  rw [← hrl, List.take_length] at pj
  have E4 := E2.trans e4
  refine ⟨_, rfl, a3, _, dx3, _, _, rfl, E4.at g1, T.cl_Sheet, T.na_Sheet_name, rfl, _, rfl, a3, _, dx3, _, _, rfl, E4.at g1, T.cl_Sheet, T.na_Sheet_inputs, rfl, _, rfl, a3, _, dx3, _, _, rfl, E4.at g1, T.cl_Sheet, T.na_Sheet_outputs, rfl, _, rfl, fun y0 dx hy hdx ne => ?_⟩
  refine ⟨y0, it3, ot3, D, placeSh S s0, [s0.nm], ivs3, ys, rfl, hpl.sheet, dx, H4, upd_same, hy, Ext.made hy hdx _ _ ne, .inr (E4.at g2), Paired.mapP g3 fun _ _ z => E4.fr.input z, .inr (E4.at g4), .inl hl4, Paired.mapP pj fun _ _ z => z _, fun H5 e5 hs5 => ⟨rfl, q _ H5 (E4.trans e5) hs5⟩⟩
theorem ok_placed (T : Top K mg) (TB : LamX.TabB base mg (cod K) (tab K)) : C8.Cal P w K mg base 33 "placed" (sp_placed K) [] :=
  cal_of T 21 d_placed s_placed "placed" rfl rfl rfl rfl T.g_placed sc_placed (fun _ _ _ _ _ _ us hl => match us, hl with | [_], _ => rfl) ln_placed (bd_placed T (ok_Book_main T) (ok_counts T) (fam_rows_of T TB 6) (ok_Row_init T) (fam_part_of T 3) (ok_Sheet_init T))
end

section
variable {P : Program} {w : World} {K : PySem.W.Frag} {mg : Str → Option Value} {base : Heap} {q : Str} {f : Addr}

/-! ### the law's own defs -/
def mix1 (c k : Int) : Int := (c + 7919 * k + 11) * 48271 % 2147483647
def mix (c k : Int) : Int := (mix1 c k * mix1 c k + 40692 * mix1 c k) % 2147483399
theorem mix_pos (c k : Int) : 0 ≤ mix c k := Int.emod_nonneg _ (by decide)
theorem mix_lt (c k : Int) : mix c k < 2147483399 := Int.emod_lt_of_pos _ (by decide)
theorem mix_mod (c k : Int) {n : Int} (h : 0 < n) : 0 ≤ mix c k % n ∧ mix c k % n < n := ⟨Int.emod_nonneg _ (by omega), Int.emod_lt_of_pos _ h⟩
theorem ix_ex {xs : List V} {i : Int} (h0 : 0 ≤ i) (h1 : i < xs.length) : ∃ v, xs[i.toNat]? = some v ∧ atI xs i = some v := by
  have hl : i.toNat < xs.length := by omega
  refine ⟨xs[i.toNat], List.getElem?_eq_getElem hl, ?_⟩
  have e : i = ((i.toNat : Nat) : Int) := (Int.toNat_of_nonneg h0).symm
  conv => lhs; rw [e]
  exact atI_nat (List.getElem?_eq_getElem hl)
theorem dpa_strs {K : PySem.W.Frag} {H : Hp} : ∀ l : List Str, DpAll K H (l.map V.str) (l.map PyData.str)
  | [] => .nil
  | x :: l => .cons (.str x) (dpa_strs l)
theorem strs_sh : ∀ l : List Str, (∀ b ∈ l, PyData.strOk b = true) → PyData.canLayAll0 (l.map PyData.str) = true ∧ PyData.depthAll (l.map PyData.str) = 0
  | [], _ => ⟨rfl, rfl⟩
  | b :: l, h => by
    obtain ⟨i1, i2⟩ := strs_sh l fun x hx => h x (List.mem_cons_of_mem _ hx)
    refine ⟨?_, ?_⟩
    · show (PyData.strOk b && PyData.canLayAll0 (l.map PyData.str)) = true
      rw [h b List.mem_cons_self, i1]
      rfl
    · show max 0 (PyData.depthAll (l.map PyData.str)) = 0
      rw [i2]
      rfl
theorem list_sh {l : List Str} (h : ∀ b ∈ l, PyData.strOk b = true) : SeqAt.shaped (.list (l.map PyData.str)) = true := by
  obtain ⟨h1, h2⟩ := strs_sh l h
  refine Bool.and_eq_true_iff.mpr ⟨h1, decide_eq_true ?_⟩
  show PyData.depthAll (l.map PyData.str) + 1 ≤ 64
  rw [h2]
  decide
/-- a cell of the law -/
def CellB (c : Int) : Prop := 0 ≤ c ∧ c < 2 ^ 50
theorem mix_cell (c k : Int) : CellB (mix c k) := ⟨mix_pos c k, by have := mix_lt c k; omega⟩

theorem sc_law_cell_at : FnScope ["_law_script", "_law_k"] ["_law_script", "_law_k"] (defScope s_law_cell_at) := ⟨rfl, rfl, rfl, by decide +kernel, rfl, by decide +kernel, by decide +kernel⟩
def sp_law_cell_at (K : PySem.W.Frag) : Sp := fun vs H Q _ => ∃ (a : Addr) (ns : List Int) (k : Nat), vs = [.ref a, .int (k : Nat)] ∧ SqL K H a (ns.map V.int) ∧ k ≤ 100 ∧ ∀ c : Int, Q (.int c) H
theorem ln_law_cell_at {K : PySem.W.Frag} : ∀ vs H Q E, (sp_law_cell_at K) vs H Q E → vs.length = (["_law_script", "_law_k"] : List Str).length := fun vs H Q E h => by
  obtain ⟨_, _, _, rfl, _⟩ := h
  rfl
theorem bd_law_cell_at (T : Top K mg)  : Body P w K mg base q s_law_cell_at f ["_law_script", "_law_k"] (0) (sp_law_cell_at K) := fun cdv A outer s H vs Q E hr h => by
  have hu := hu_of hr
  obtain ⟨a, ns, k, rfl, ha, hk, q⟩ := h
  refine ⟨_, (pss_cons (ps_if (pt_cmpR op_lt (pv 1) (pe_callB call_len_seq (by rfl) T.n_len PySem.boot_len (pa_cons (pv 0) pa_nil)) (nomark _)) (pss_one (ps_ret (pe_ix ix_list (pv 0) (pv 1) (fun _ _ => rfl)))) pss_nil)
        (pss_one (ps_ret (pe_op op_add (pe_op op_mul pe_int (pv 1)) pe_int)))), ?_⟩
  have hl : (ns.map V.int).length = ns.length := List.length_map ..
  refine ⟨_, rfl, _, rfl, a, _, rfl, .inl ha, _, _, rfl, rfl, _, rfl, ?_⟩
  by_cases h : k < ns.length
  · refine ite_t (dt (by omega)) ?_
    exact ⟨_, rfl, _, rfl, a, _, _, .int ns[k], rfl, rfl, ha, atI_nat (by rw [List.getElem?_map, List.getElem?_eq_getElem h]; rfl), q _⟩
  · refine ite_f (df (by omega)) ?_
    exact ⟨_, rfl, 7, _, rfl, rfl, .inl ⟨by decide, by decide⟩, _, 3, rfl, rfl, q _⟩
theorem ok_law_cell_at (T : Top K mg) : C8.Cal P w K mg base 1 "_law_cell_at" (sp_law_cell_at K) [] :=
  cal_of T 22 d_law_cell_at s_law_cell_at "_law_cell_at" rfl rfl rfl rfl T.g_law_cell_at sc_law_cell_at (fun _ _ _ _ _ _ us hl => match us, hl with | [_, _], _ => rfl) ln_law_cell_at (bd_law_cell_at T )
theorem sc_law_mixed : FnScope ["_law_cell", "_law_k", "_law_mix"] ["_law_cell", "_law_k"] (defScope s_law_mixed) := ⟨rfl, rfl, rfl, by decide +kernel, rfl, by decide +kernel, by decide +kernel⟩
def sp_law_mixed (K : PySem.W.Frag) : Sp := fun vs H Q _ => ∃ c k : Int, vs = [.int c, .int k] ∧ 0 ≤ k ∧ k ≤ 1000 ∧ Q (.int (mix c k)) H
theorem ln_law_mixed {K : PySem.W.Frag} : ∀ vs H Q E, (sp_law_mixed K) vs H Q E → vs.length = (["_law_cell", "_law_k"] : List Str).length := fun vs H Q E h => by
  obtain ⟨_, _, rfl, _⟩ := h
  rfl
theorem bd_law_mixed (T : Top K mg)  : Body P w K mg base q s_law_mixed f ["_law_cell", "_law_k", "_law_mix"] (0) (sp_law_mixed K) := fun cdv A outer s H vs Q E hr h => by
  have hu := hu_of hr
  obtain ⟨c, k, rfl, h1, h2, q⟩ := h
  refine ⟨_, (pss_cons (ps_set (i := 2) sc_law_mixed.nd rfl (by first | exact Or.inl rfl | exact Or.inr rfl) (pe_op op_mod (pe_op op_mul (pe_op op_add (pe_op op_add (pv 0) (pe_op op_mul pe_int (pv 1))) pe_int) pe_int) pe_int))
        (pss_one (ps_ret (pe_op op_mod (pe_op op_add (pe_op op_mul (pv 2) (pv 2)) (pe_op op_mul pe_int (pv 2))) pe_int)))), ?_⟩
  have m1 : 0 ≤ mix1 c k := Int.emod_nonneg _ (by decide)
  have m2 : mix1 c k < 2147483647 := Int.emod_lt_of_pos _ (by decide)
  have z : -(2 ^ 64) < mix1 c k ∧ mix1 c k < 2 ^ 64 := by omega
  refine ⟨_, rfl, _, rfl, 7919, k, rfl, rfl, .inl ⟨by decide, by decide⟩, c, _, rfl, rfl, _, 11, rfl, rfl, _, 48271, rfl, rfl, .inr ⟨by decide, by decide⟩, _, 2147483647, rfl, rfl, (show (0 : Int) < 2147483647 by decide), ?_⟩
  exact ⟨_, rfl, _, rfl, mix1 c k, mix1 c k, rfl, rfl, .inl z, _, rfl, 40692, mix1 c k, rfl, rfl, .inr z, _, _, rfl, rfl, _, 2147483399, rfl, rfl, (show (0 : Int) < 2147483399 by decide), q⟩
theorem ok_law_mixed (T : Top K mg) : C8.Cal P w K mg base 1 "_law_mixed" (sp_law_mixed K) [] :=
  cal_of T 23 d_law_mixed s_law_mixed "_law_mixed" rfl rfl rfl rfl T.g_law_mixed sc_law_mixed (fun _ _ _ _ _ _ us hl => match us, hl with | [_, _], _ => rfl) ln_law_mixed (bd_law_mixed T )
theorem sc_law_seeds : FnScope ["_law_script", "_law_many", "_law_found", "_law_more", "_law_k"] ["_law_script", "_law_many"] (defScope s_law_seeds) := ⟨rfl, rfl, rfl, by decide +kernel, rfl, by decide +kernel, by decide +kernel⟩
def sp_law_seeds (K : PySem.W.Frag) : Sp := fun vs H Q _ => ∃ (a : Addr) (ns : List Int), vs = [.ref a, .int 6] ∧ SqL K H a (ns.map V.int) ∧ ∀ (p : Addr) (xs : List Int) (H' : Hp), Ext K H H' → H' p = some (.lst (xs.map V.int)) → xs.length = 6 → (∀ x ∈ xs, 0 ≤ x ∧ x < 1000000000039) → Q (.ref p) H'
theorem ln_law_seeds {K : PySem.W.Frag} : ∀ vs H Q E, (sp_law_seeds K) vs H Q E → vs.length = (["_law_script", "_law_many"] : List Str).length := fun vs H Q E h => by
  obtain ⟨_, _, rfl, _⟩ := h
  rfl
theorem bd_law_seeds (T : Top K mg) (c_law_cell_at : C8.Cal P w K mg base 1 "_law_cell_at" (sp_law_cell_at K) []) : Body P w K mg base q s_law_seeds f ["_law_script", "_law_many", "_law_found", "_law_more", "_law_k"] (1) (sp_law_seeds K) := fun cdv A outer s H vs Q E hr h => by
  have hu := hu_of hr
  obtain ⟨a, ns, rfl, ha, q⟩ := h
  refine ⟨_, (pss_cons (ps_set (i := 2) sc_law_seeds.nd rfl (by first | exact Or.inl rfl | exact Or.inr rfl) (pe_lst pa_nil))
        (pss_cons (ps_set (i := 3) sc_law_seeds.nd rfl (by first | exact Or.inl rfl | exact Or.inr rfl) (pe_callB call_len_seq (by rfl) T.n_len PySem.boot_len (pa_cons (pv 0) pa_nil)))
        (pss_cons (ps_for PassesOwn.never rfl (pi_range1 rfl T.n_range (pa_cons (pv 1) pa_nil)) (pg_name (i := 4) sc_law_seeds.nd rfl (by first | exact Or.inl rfl | exact Or.inr rfl))
          (pss_cons (ps_set (i := 3) sc_law_seeds.nd rfl (by first | exact Or.inl rfl | exact Or.inr rfl) (pe_op op_mod (pe_op op_add (pe_op op_add (pe_op op_mul (pv 3) pe_int) (C8.pe_c c_law_cell_at hr (by omega) rfl (pa_cons (pv 0) (pa_cons (pv 4) pa_nil)))) (pe_op op_mul pe_int (pv 4))) pe_int))
          (pss_one (ps_expr (pe_bm PySem.F.plainAttrs_list PySem.F.slot_list_append PySem.F.type_list_append mt_append (pv 2) (pa_cons (pv 3) pa_nil))))))
        (pss_one (ps_ret (pv 2)))))), ?_⟩
  refine ⟨szk 0, fun p hp => ?_⟩
  have e2 : Ext K H (upd H p (.lst [])) := Ext.new hp _
  have z2 : (upd H p (.lst [])) p = some (.lst []) := upd_same
  refine ⟨_, rfl, a, _, rfl, .inl (e2.l ha), ?_⟩
  refine ⟨_, rfl, 6, rfl, by decide, by decide, for_range (n := 6) (fun i σ H1 => ∃ (m : Int) (z : Option V) (xs : List Int), σ = [some (.ref a), some (.int 6), some (.ref p), some (.int m), z] ∧ Ext K H H1 ∧ H1 p = some (.lst (xs.map V.int)) ∧ xs.length = i ∧ ∀ x ∈ xs, 0 ≤ x ∧ x < 1000000000039) ⟨_, none, [], rfl, e2, z2, rfl, by simp⟩ (fun i σ H1 hi h => ?_) (fun σ H1 h => ?_)⟩
  · obtain ⟨m, z, xs, rfl, e1, hp1, hxl, hx⟩ := h
    have ei : (0 : Int) + ((i : Nat) : Int) = ((i : Nat) : Int) := Int.zero_add _
    refine ⟨_, rfl, m, 1000003, rfl, rfl, .inr ⟨by decide, by decide⟩, _, rfl, _, rfl, a, ns, i, by rw [ei]; rfl, e1.l ha, by omega, fun c => ?_⟩
    refine ⟨_, c, rfl, rfl, _, rfl, 17, _, rfl, rfl, .inl ⟨by decide, by decide⟩, _, _, rfl, rfl, _, 1000000000039, rfl, rfl, (show (0 : Int) < 1000000000039 by decide), ?_⟩
    generalize hv : (m * 1000003 + c + 17 * (0 + ((i : Nat) : Int))) % 1000000000039 = v
    have v1 : 0 ≤ v := by rw [← hv]; exact Int.emod_nonneg _ (by decide)
    have v2 : v < 1000000000039 := by rw [← hv]; exact Int.emod_lt_of_pos _ (by decide)
    refine ⟨_, rfl, .inl ⟨rfl, _, .of hp1⟩, _, rfl, p, xs.map V.int, .int v, rfl, congrArg (fun n => [V.int n]) hv, hp1, by rw [List.length_map]; show _ < 2 ^ 24; omega, v, _, xs ++ [v], by rw [← hv]; rfl, e1.push hp hp1, by rw [upd_same, List.map_append]; rfl, by rw [List.length_append, hxl]; rfl, fun x hx2 => ?_⟩
    rcases List.mem_append.mp hx2 with h | h
    · exact hx x h
    · rw [List.mem_singleton.mp h]
      exact ⟨v1, v2⟩
  · obtain ⟨m, z, xs, rfl, e1, hp1, hxl, hx⟩ := h
    exact ⟨_, rfl, q p xs H1 e1 hp1 hxl hx⟩
theorem ok_law_seeds (T : Top K mg) : C8.Cal P w K mg base 2 "_law_seeds" (sp_law_seeds K) [] :=
  cal_of T 24 d_law_seeds s_law_seeds "_law_seeds" rfl rfl rfl rfl T.g_law_seeds sc_law_seeds (fun _ _ _ _ _ _ us hl => match us, hl with | [_, _], _ => rfl) ln_law_seeds (bd_law_seeds T (ok_law_cell_at T))
theorem sc_law_on : FnScope ["_law_cell", "_law_beats"] ["_law_cell", "_law_beats"] (defScope s_law_on) := ⟨rfl, rfl, rfl, by decide +kernel, rfl, by decide +kernel, by decide +kernel⟩
def sp_law_on (K : PySem.W.Frag) : Sp := fun vs H Q _ => ∃ (c : Int) (a : Addr) (bs : List Str), vs = [.int c, .ref a] ∧ 0 ≤ c ∧ SqL K H a (bs.map V.str) ∧ (∀ b ∈ bs, PyData.strOk b = true) ∧ ∀ (o : Option Str) (H' : Hp), Ext K H H' → (∀ b, o = some b → b ∈ bs) → Q (onV o) H'
theorem ln_law_on {K : PySem.W.Frag} : ∀ vs H Q E, (sp_law_on K) vs H Q E → vs.length = (["_law_cell", "_law_beats"] : List Str).length := fun vs H Q E h => by
  obtain ⟨_, _, _, rfl, _⟩ := h
  rfl
theorem bd_law_on (T : Top K mg)  : Body P w K mg base q s_law_on f ["_law_cell", "_law_beats"] (0) (sp_law_on K) := fun cdv A outer s H vs Q E hr h => by
  have hu := hu_of hr
  obtain ⟨c, a, bs, rfl, hc, ha, hbs, q⟩ := h
  refine ⟨_, (pss_cons (ps_if (PW.pt (pw_or (pt_cmpR (op_eqD hr.units) (pv 1) (pe_lst pa_nil) (nomark _)) (pw_or1 (pt_cmpR op_gt (pe_op op_mod (pv 0) pe_int) pe_int (nomark _))))) (pss_one (ps_ret pe_non)) pss_nil)
        (pss_one (ps_ret (pe_ix ix_list (pv 1) (pe_op op_mod (pe_op op_fdiv (pv 0) pe_int) (pe_callB call_len_seq (by rfl) T.n_len PySem.boot_len (pa_cons (pv 1) pa_nil))) (fun _ _ => rfl))))), ?_⟩
  refine ⟨_, rfl, szk 0, fun p hp => ⟨.list (bs.map PyData.str), .list [], .lst ((Ext.new (K := K) hp _).l ha) (dpa_strs bs), .lst (.of upd_same) .nil, list_sh hbs, rfl, _, rfl, ?_⟩⟩
  have e1 : Ext K H (upd H p (.lst [])) := Ext.new hp _
  cases bs with
  | nil => exact ite_t rfl (q none _ e1 nofun)
  | cons b bs =>
    refine ite_f rfl ⟨_, rfl, c, 3, rfl, rfl, (show (0 : Int) < 3 by decide), _, 0, rfl, rfl, _, rfl, ?_⟩
    by_cases h : (0 : Int) < c % 3
    · exact ite_t (dt h) (q none _ e1 nofun)
    · refine ite_f (df h) ?_
      have hlen : ((b :: bs).map V.str).length = (b :: bs).length := List.length_map ..
      have hpos : (0 : Int) < ((((b :: bs).map V.str).length : Nat) : Int) := by rw [hlen]; simp only [List.length_cons]; omega
      have i0 := Int.emod_nonneg (c / 3) (Int.ne_of_gt hpos)
      have i1 := Int.emod_lt_of_pos (c / 3) hpos
      obtain ⟨v, hv1, hv2⟩ := ix_ex i0 i1
      rw [List.getElem?_map] at hv1
      obtain ⟨x, hx, rfl⟩ := Option.map_eq_some_iff.mp hv1
      exact ⟨_, rfl, _, rfl, c, 3, rfl, rfl, ⟨by decide, by decide⟩, _, rfl, a, _, rfl, .inl (e1.l ha), _, _, rfl, rfl, hpos, a, _, _, .str x, rfl, rfl, e1.l ha, hv2, q (some x) _ e1 fun y hy => by cases hy; exact List.mem_of_getElem? hx⟩
theorem ok_law_on (T : Top K mg) : C8.Cal P w K mg base 1 "_law_on" (sp_law_on K) [] :=
  cal_of T 30 d_law_on s_law_on "_law_on" rfl rfl rfl rfl T.g_law_on sc_law_on (fun _ _ _ _ _ _ us hl => match us, hl with | [_, _], _ => rfl) ln_law_on (bd_law_on T )
end

section
variable {P : Program} {w : World} {K : PySem.W.Frag} {mg : Str → Option Value} {base : Heap} {q : Str} {f : Addr}

def ltrs : List Nat := [99, 100, 102, 103, 106, 107, 108, 112, 113, 115, 118, 120, 122]
def ltr (i : Nat) : Nat := ltrs.getD i 99
def wSize (seed : Int) : Nat := (1 + mix seed 1 % 8).toNat
def wIx (seed : Int) (j : Nat) : Nat := (mix seed (2 + (j : Nat)) % 13).toNat
def wSpot (seed : Int) : Nat := (mix seed 11 % (1 + mix seed 1 % 8)).toNat
def wAt (seed : Int) (k : Nat) : Nat := (((wIx seed (wSpot seed) : Nat) : Int) + (k : Nat) * (1 + mix seed 12 % 12)).toNat % 13
def wSigns (seed : Int) : List Nat := (List.range (wSize seed)).map fun j => ltr (wIx seed j)
def wordF (seed : Int) (k : Nat) : List Nat := (wSigns seed).take (wSpot seed) ++ [ltr (wAt seed k)] ++ (wSigns seed).drop (wSpot seed + 1)
theorem wSize_b (seed : Int) : 1 ≤ wSize seed ∧ wSize seed ≤ 8 ∧ ((wSize seed : Nat) : Int) = 1 + mix seed 1 % 8 := by
  have h := mix_mod seed 1 (n := 8) (by decide)
  unfold wSize
  omega
theorem wIx_b (seed : Int) (j : Nat) : wIx seed j < 13 ∧ ((wIx seed j : Nat) : Int) = mix seed (2 + (j : Nat)) % 13 := by
  have h := mix_mod seed (2 + (j : Nat)) (n := 13) (by decide)
  unfold wIx
  omega
theorem wSpot_b (seed : Int) : wSpot seed < wSize seed ∧ ((wSpot seed : Nat) : Int) = mix seed 11 % (1 + mix seed 1 % 8) := by
  have h1 := wSize_b seed
  have h := mix_mod seed 11 (n := 1 + mix seed 1 % 8) (by omega)
  unfold wSpot
  omega
theorem wAt_lt (seed : Int) (k : Nat) : wAt seed k < 13 := Nat.mod_lt _ (by decide)
theorem wAt_int (seed : Int) (k : Nat) : ((wAt seed k : Nat) : Int) = (((wIx seed (wSpot seed) : Nat) : Int) + (k : Nat) * (1 + mix seed 12 % 12)) % 13 := by
  have h := mix_mod seed 12 (n := 12) (by decide)
  have hk : (0 : Int) ≤ (k : Nat) * (1 + mix seed 12 % 12) := Int.mul_nonneg (by omega) (by omega)
  unfold wAt
  omega
theorem ltr_at {i : Nat} (h : i < 13) : ltrs[i]? = some (ltr i) := by
  have e : ltrs.length = 13 := rfl
  unfold ltr
  rw [List.getD_eq_getElem?_getD, List.getElem?_eq_getElem (by rw [e]; exact h)]
  rfl
theorem ltr_mem {i : Nat} (h : i < 13) : ltr i ∈ ltrs := List.mem_of_getElem? (ltr_at h)
theorem ltrs_nd : ltrs.Nodup := by decide
theorem ltr_inj {i j : Nat} (hi : i < 13) (hj : j < 13) (e : ltr i = ltr j) : i = j := by
  have h1 := ltr_at hi
  have h2 := ltr_at hj
  rw [e] at h1
  obtain ⟨a1, b1⟩ := List.getElem?_eq_some_iff.mp h1
  obtain ⟨a2, b2⟩ := List.getElem?_eq_some_iff.mp h2
  exact (List.getElem_inj ltrs_nd).mp (b1.trans b2.symm)
theorem wSigns_len (seed : Int) : (wSigns seed).length = wSize seed := by unfold wSigns; rw [List.length_map, List.length_range]
theorem wSigns_get {seed : Int} {j : Nat} (h : j < wSize seed) : (wSigns seed)[j]? = some (ltr (wIx seed j)) := by
  unfold wSigns
  rw [List.getElem?_map, List.getElem?_range h]
  rfl
theorem word_len (seed : Int) (k : Nat) : (wordF seed k).length = wSize seed := by
  have h := wSpot_b seed
  unfold wordF
  rw [List.length_append, List.length_append, List.length_take, List.length_drop, wSigns_len]
  simp only [List.length_cons, List.length_nil]
  omega
theorem word_ltrs (seed : Int) (k : Nat) : ∀ c ∈ wordF seed k, c ∈ ltrs := by
  intro c hc
  have hs : ∀ c ∈ wSigns seed, c ∈ ltrs := fun c hc => by
    obtain ⟨j, _, rfl⟩ := List.mem_map.mp hc
    exact ltr_mem (wIx_b seed j).1
  unfold wordF at hc
  rcases List.mem_append.mp hc with hc | hc
  · rcases List.mem_append.mp hc with hc | hc
    · exact hs c (List.mem_of_mem_take hc)
    · rw [List.mem_singleton.mp hc]
      exact ltr_mem (wAt_lt seed k)
  · exact hs c (List.mem_of_mem_drop hc)
theorem word_let (seed : Int) (k : Nat) : Let (wordF seed k) := by
  have h := wSize_b seed
  refine ⟨by rw [word_len]; exact h.1, by rw [word_len]; exact h.2.1, fun c hc => ?_⟩
  have z : ∀ c ∈ ltrs, 97 ≤ c ∧ c ≤ 122 := by decide
  exact z c (word_ltrs seed k c hc)
theorem kept_out : ∀ s ∈ keptL, ∃ c ∈ s.cps.toList, c ∉ ltrs := by decide +kernel
theorem word_kept (seed : Int) (k : Nat) : SX.S (wordF seed k) ∉ keptL := fun h => by
  obtain ⟨c, h1, h2⟩ := kept_out _ h
  exact h2 (word_ltrs seed k c h1)
theorem word_wd (seed : Int) (k : Nat) : Wd (SX.S (wordF seed k)) := ⟨⟨_, word_let seed k, rfl⟩, word_kept seed k⟩
theorem word_spot (seed : Int) (k : Nat) : (wordF seed k)[wSpot seed]? = some (ltr (wAt seed k)) := by
  have hs := wSpot_b seed
  have ht : ((wSigns seed).take (wSpot seed)).length = wSpot seed := by rw [List.length_take, wSigns_len]; omega
  unfold wordF
  rw [List.append_assoc, List.getElem?_append_right (by rw [ht]; exact Nat.le_refl _), ht, Nat.sub_self]
  rfl
theorem mod13 {x d : Int} {k l : Nat} (hk : k < 13) (hl : l < 13) (h1 : 1 ≤ d) (h2 : d ≤ 12) (e : (x + (k : Nat) * d) % 13 = (x + (l : Nat) * d) % 13) : k = l := by
  have hd : d = 1 ∨ d = 2 ∨ d = 3 ∨ d = 4 ∨ d = 5 ∨ d = 6 ∨ d = 7 ∨ d = 8 ∨ d = 9 ∨ d = 10 ∨ d = 11 ∨ d = 12 := by omega
  rcases hd with h | h | h | h | h | h | h | h | h | h | h | h <;> subst h <;> omega
theorem word_inj {seed : Int} {k l : Nat} (hk : k < 13) (hl : l < 13) (e : wordF seed k = wordF seed l) : k = l := by
  have e2 : ltr (wAt seed k) = ltr (wAt seed l) := by
    have z := word_spot seed k
    rw [e, word_spot] at z
    exact (Option.some.inj z).symm
  have e3 := ltr_inj (wAt_lt seed k) (wAt_lt seed l) e2
  have h1 := wAt_int seed k
  have h2 := wAt_int seed l
  rw [e3] at h1
  have hd := mix_mod seed 12 (n := 12) (by decide)
  exact mod13 hk hl (by omega) (by omega) (h1.symm.trans h2)
theorem joinL_one : ∀ cs : List Nat, TL.joinL [] (cs.map fun c => [c]) = cs
  | [] => rfl
  | [c] => rfl
  | c :: d :: r => by
    have ih := joinL_one (d :: r)
    show [c] ++ ([] ++ TL.joinL [] ((d :: r).map fun c => [c])) = c :: d :: r
    rw [ih]
    rfl
theorem join_one (cs : List Nat) : Txt.join ("" : Str) (cs.map fun c => SX.S [c]) = SX.S cs := by
  have e : cs.map (fun c => SX.S [c]) = (cs.map fun c => [c]).map SX.S := by rw [List.map_map]; rfl
  rw [show ("" : Str) = SX.S [] from rfl, e, SX.join_S, joinL_one]
abbrev lettersS : Str := "cdfgjklpqsvxz"
theorem letters_eq : lettersS = SX.S ltrs := by decide +kernel
theorem occ_ltr : ∀ x : Fin 13, Builtin.Str.occurrences lettersS (SX.S [ltr x.val]) 0 lettersS.length 1 = [x.val] := by decide +kernel
theorem cutA {xs : List V} {n : Nat} (h : n ≤ xs.length) : cutV xs none (some ((n : Nat) : Int)) = xs.take n := by
  show (xs.drop (HT.sIx xs.length 0 none)).take (HT.sIx xs.length xs.length (some ((n : Nat) : Int)) - HT.sIx xs.length 0 none) = xs.take n
  rw [HT.sIx_none, HT.sIx_nat, Nat.sub_zero, List.drop_zero, Nat.min_eq_left h]
theorem cutB {xs : List V} {n : Nat} (h : n ≤ xs.length) : cutV xs (some ((n : Nat) : Int)) none = xs.drop n := by
  show (xs.drop (HT.sIx xs.length 0 (some ((n : Nat) : Int)))).take (HT.sIx xs.length xs.length none - HT.sIx xs.length 0 (some ((n : Nat) : Int))) = xs.drop n
  rw [HT.sIx_none, HT.sIx_nat, Nat.min_eq_left h]
  exact List.take_of_length_le (by rw [List.length_drop]; exact Nat.le_refl _)
def oneS (c : Nat) : Str := SX.S [c]
theorem ones_len : ∀ cs : List Nat, ((cs.map oneS).map (·.length)).sum = cs.length
  | [] => rfl
  | c :: cs => by
    have ih := ones_len cs
    show (SX.S [c]).length + ((cs.map oneS).map (·.length)).sum = cs.length + 1
    rw [ih, SX.S_len]
    simp only [List.length_cons, List.length_nil]
    omega

theorem sc_law_word : FnScope ["_law_seed", "_law_k", "_law_letters", "_law_size", "_law_signs", "_law_spot", "_law_at", "_law_j"] ["_law_seed", "_law_k"] (defScope s_law_word) := ⟨rfl, rfl, rfl, by decide +kernel, rfl, by decide +kernel, by decide +kernel⟩
def sp_law_word (K : PySem.W.Frag) : Sp := fun vs H Q _ => ∃ (seed : Int) (k : Nat), vs = [.int seed, .int (k : Nat)] ∧ k ≤ 12 ∧ ∀ H', Ext K H H' → Q (.str (SX.S (wordF seed k))) H'
theorem ln_law_word {K : PySem.W.Frag} : ∀ vs H Q E, (sp_law_word K) vs H Q E → vs.length = (["_law_seed", "_law_k"] : List Str).length := fun vs H Q E h => by
  obtain ⟨_, _, rfl, _⟩ := h
  rfl
theorem bd_law_word (T : Top K mg) (c_law_mixed : C8.Cal P w K mg base 1 "_law_mixed" (sp_law_mixed K) []) : Body P w K mg base q s_law_word f ["_law_seed", "_law_k", "_law_letters", "_law_size", "_law_signs", "_law_spot", "_law_at", "_law_j"] (1) (sp_law_word K) := fun cdv A outer s H vs Q E hr h => by
  have hu := hu_of hr
  obtain ⟨seed, k, rfl, hk, q⟩ := h
  refine ⟨_, (pss_cons (ps_set (i := 2) sc_law_word.nd rfl (by first | exact Or.inl rfl | exact Or.inr rfl) pe_str)
        (pss_cons (ps_set (i := 3) sc_law_word.nd rfl (by first | exact Or.inl rfl | exact Or.inr rfl) (pe_op op_add pe_int (pe_op op_mod (C8.pe_c c_law_mixed hr (by omega) rfl (pa_cons (pv 0) (pa_cons pe_int pa_nil))) pe_int)))
        (pss_cons (ps_setLc (i := 4) rfl sc_law_word.nd rfl rfl (sw_true rfl rfl rfl (by decide +kernel)) (own := [("_law_j", 7)]) (pi_range1 rfl T.n_range (pa_cons (pv 3) pa_nil)) (blkOk_by (own := [("_law_j", 7)]) (N := ["_law_seed", "_law_k", "_law_letters", "_law_size", "_law_signs", "_law_spot", "_law_at", "_law_j"]) (sc := defScope s_law_word) (by decide +kernel)) (fun _ _ _ _ _ => (pg_name (i := 7) sc_law_word.nd rfl (by first | exact Or.inl rfl | exact Or.inr rfl))) (fun _ _ _ _ _ => pts_nil) (fun _ _ _ _ _ => (pe_ix ix_str (pv 2) (pe_op op_mod (C8.pe_c c_law_mixed hr (by omega) rfl (pa_cons (pv 0) (pa_cons (pe_op op_add pe_int (pv 7)) pa_nil))) pe_int) (fun _ _ => rfl))))
        (pss_cons (ps_set (i := 5) sc_law_word.nd rfl (by first | exact Or.inl rfl | exact Or.inr rfl) (pe_op op_mod (C8.pe_c c_law_mixed hr (by omega) rfl (pa_cons (pv 0) (pa_cons pe_int pa_nil))) (pv 3)))
        (pss_cons (ps_set (i := 6) sc_law_word.nd rfl (by first | exact Or.inl rfl | exact Or.inr rfl) (pe_op op_mod (pe_op op_add (pe_m1 PySem.F.slot_str_index PySem.F.type_str_index mt_sindex (pv 2) (pe_ix ix_list (pv 4) (pv 5) (fun _ _ => rfl))) (pe_op op_mul (pv 1) (pe_op op_add pe_int (pe_op op_mod (C8.pe_c c_law_mixed hr (by omega) rfl (pa_cons (pv 0) (pa_cons pe_int pa_nil))) pe_int)))) pe_int))
        (pss_one (ps_ret (pe_op op_add_str (pe_op op_add_str (pe_join pe_str (pe_slice sl_list (pv 4) po_none (po_some (pv 5)))) (pe_ix ix_str (pv 2) (pv 6) (fun _ _ => rfl))) (pe_join pe_str (pe_slice sl_list (pv 4) (po_some (pe_op op_add (pv 5) pe_int)) po_none)))))))))), ?_⟩
  have hz := wSize_b seed
  have hsp := wSpot_b seed
  have hsl := wSigns_len seed
  have p8 : (0 : Int) < 8 := by decide
  have p13 : (0 : Int) < 13 := by decide
  have p12 : (0 : Int) < 12 := by decide
  have lz : lettersS.length ≤ sizeLine := by show (13 : Nat) ≤ 2 ^ 24; decide
  have lat : ∀ {i : Nat}, i < 13 → atI lettersS.cps.toList ((i : Nat) : Int) = some (ltr i) := fun h => atI_nat (by rw [show lettersS.cps.toList = ltrs by decide +kernel]; exact ltr_at h)
  refine ⟨_, rfl, seed, 1, rfl, by decide, by decide, _, 8, rfl, rfl, p8, 1, _, rfl, rfl, ?_⟩
  refine ⟨_, rfl, 1 + mix seed 1 % 8, rfl, by omega, by omega, lcR (K := K) (fun i acc _ => acc = ((wSigns seed).take i).map fun c => V.str (oneS c)) (fun _ h => h) (by show _ ≤ 2 ^ 24; omega) rfl (fun i hi acc H1 N S e p hN hS => ?_) fun D ys H1 hD e hl hn p => ?_⟩
  · have hi' : i < wSize seed := by omega
    have ei : (2 : Int) + (0 + ((i : Nat) : Int)) = 2 + ((i : Nat) : Int) := by omega
    have hix := wIx_b seed i
    refine ⟨rfl, ?_⟩
    refine ⟨_, rfl, _, rfl, _, rfl, 2, _, rfl, rfl, seed, 2 + ((i : Nat) : Int), by rw [← ei]; rfl, by omega, by omega, _, 13, rfl, rfl, p13, lettersS, _, ltr (wIx seed i), rfl, congrArg V.int hix.2.symm, lz, lat hix.1, hN _ _ (Ext.refl K _) ?_⟩
    show _ ++ _ = _
    rw [show acc = _ from p, List.take_add_one, wSigns_get hi', List.map_append]
    rfl
  have hys : ys = (wSigns seed).map fun c => V.str (oneS c) := by
    rw [show ys = _ from p, List.take_of_length_le (by omega)]
  have hyl : ys.length = wSize seed := by rw [hys, List.length_map, hsl]
  have hspos : (0 : Int) < 1 + mix seed 1 % 8 := by omega
  refine ⟨_, rfl, seed, 11, rfl, by decide, by decide, _, rfl, _, _, rfl, rfl, hspos, ?_⟩
  have hs12 := mix_mod seed 12 p12
  have hsx := wIx_b seed (wSpot seed)
  have hget : atI ys (mix seed 11 % (1 + mix seed 1 % 8)) = some (.str (oneS (ltr (wIx seed (wSpot seed))))) := by
    rw [← hsp.2]
    refine atI_nat ?_
    rw [hys, List.getElem?_map, wSigns_get hsp.1]
    rfl
  have hocc := occ_ltr ⟨wIx seed (wSpot seed), hsx.1⟩
  refine ⟨_, rfl, ⟨_, rfl⟩, _, rfl, _, rfl, D, ys, _, .str (oneS (ltr (wIx seed (wSpot seed)))), rfl, rfl, .of hl, hget, lettersS, oneS (ltr (wIx seed (wSpot seed))), wIx seed (wSpot seed), [], rfl, rfl, hocc, ?_⟩
  refine ⟨_, rfl, _, rfl, seed, 12, rfl, by decide, by decide, _, 12, rfl, rfl, p12, 1, _, rfl, rfl, _, _, rfl, rfl, .inr ⟨by omega, by omega⟩, _, _, rfl, rfl, _, 13, rfl, rfl, p13, ?_⟩
  have hat := wAt_int seed k
  have hatl := wAt_lt seed k
  refine ⟨⟨_, rfl⟩, _, rfl, _, rfl, _, rfl, D, ys, rfl, .of hl, fun p1 hp1 => ?_⟩
  have hc1 : cutV ys none (some (mix seed 11 % (1 + mix seed 1 % 8))) = (((wSigns seed).take (wSpot seed)).map oneS).map V.str := by
    rw [← hsp.2, cutA (by omega), hys, ← List.map_take, List.map_map]
    rfl
  rw [hc1]
  have e1 : Ext K H1 (upd H1 p1 (.lst ((((wSigns seed).take (wSpot seed)).map oneS).map V.str))) := Ext.new hp1 _
  have hl1 := e1.at hl
  refine ⟨"", p1, _, rfl, rfl, .inl (.of upd_same), by rw [ones_len, List.length_take]; show _ + _ * 0 ≤ _; omega, ?_⟩
  have hj1 : Txt.join ("" : Str) (((wSigns seed).take (wSpot seed)).map oneS) = SX.S ((wSigns seed).take (wSpot seed)) := join_one _
  rw [hj1]
  have hlt1 : (SX.S ((wSigns seed).take (wSpot seed))).length ≤ 8 := by rw [SX.S_len, List.length_take]; omega
  refine ⟨_, rfl, _, rfl, lettersS, _, ltr (wAt seed k), rfl, congrArg V.int hat.symm, lz, lat hatl, _, oneS (ltr (wAt seed k)), rfl, rfl, by show _ + 1 ≤ 2 ^ 24; omega, ?_⟩
  refine ⟨⟨_, rfl⟩, _, rfl, _, rfl, _, 1, rfl, rfl, _, rfl, D, ys, rfl, .of hl1, fun p2 hp2 => ?_⟩
  have hc2 : cutV ys (some (mix seed 11 % (1 + mix seed 1 % 8) + 1)) none = (((wSigns seed).drop (wSpot seed + 1)).map oneS).map V.str := by
    rw [← hsp.2, show ((wSpot seed : Nat) : Int) + 1 = ((wSpot seed + 1 : Nat) : Int) from rfl, cutB (by omega), hys, ← List.map_drop, List.map_map]
    rfl
  rw [hc2]
  refine ⟨"", p2, _, rfl, rfl, .inl (.of upd_same), by rw [ones_len, List.length_drop]; show _ + _ * 0 ≤ _; omega, ?_⟩
  have hj2 : Txt.join ("" : Str) (((wSigns seed).drop (wSpot seed + 1)).map oneS) = SX.S ((wSigns seed).drop (wSpot seed + 1)) := join_one _
  rw [hj2]
  have hlt2 : (SX.S ((wSigns seed).drop (wSpot seed + 1))).length ≤ 8 := by rw [SX.S_len, List.length_drop]; omega
  refine ⟨_, _, rfl, rfl, by rw [str_len_app]; show _ + 1 + _ ≤ 2 ^ 24; omega, ?_⟩
  have hw : SX.S ((wSigns seed).take (wSpot seed)) ++ oneS (ltr (wAt seed k)) ++ SX.S ((wSigns seed).drop (wSpot seed + 1)) = SX.S (wordF seed k) := by
    show SX.S _ ++ SX.S _ ++ SX.S _ = _
    rw [SX.S_cat, SX.S_cat]
    rfl
  rw [hw]
  exact q _ (e.trans (e1.trans (Ext.new hp2 _)))
theorem ok_law_word (T : Top K mg) : C8.Cal P w K mg base 2 "_law_word" (sp_law_word K) [] :=
  cal_of T 25 d_law_word s_law_word "_law_word" rfl rfl rfl rfl T.g_law_word sc_law_word (fun _ _ _ _ _ _ us hl => match us, hl with | [_, _], _ => rfl) ln_law_word (bd_law_word T (ok_law_mixed T))
end

section
variable {P : Program} {w : World} {K : PySem.W.Frag} {mg : Str → Option Value} {base : Heap} {q : Str} {f : Addr}

/-- a name that the law makes: the k-th word, or it and a short word behind a point -/
def tailL : List Str := ["in", "a", "row", "x"]
def NmK (seed : Int) (k : Nat) (s : Str) : Prop := s = SX.S (wordF seed k) ∨ ∃ x ∈ tailL, s = SX.S (wordF seed k) ++ dotS ++ x
def tailW : List (List Nat) := [[105, 110], [97], [114, 111, 119], [120]]
theorem tail_eq : tailL = tailW.map SX.S := by decide +kernel
theorem NmK.wds {seed : Int} {k : Nat} {s : Str} (h : NmK seed k s) : ∃ r, Wds s (wordF seed k :: r) ∧ r.length ≤ 1 := by
  rcases h with rfl | ⟨x, hx, rfl⟩
  · exact ⟨[], ⟨rfl, by simp, fun w hw => by rw [List.mem_singleton.mp hw]; exact word_let seed k⟩, by simp⟩
  · rw [tail_eq] at hx
    obtain ⟨w, hw, rfl⟩ := List.mem_map.mp hx
    have hl : Let w := by
      have z : ∀ w ∈ tailW, 1 ≤ w.length ∧ w.length ≤ 8 ∧ ∀ c ∈ w, 97 ≤ c ∧ c ≤ 122 := by decide
      exact z w hw
    refine ⟨[w], ⟨?_, by simp, fun u hu => ?_⟩, by simp⟩
    · exact (name_app (a := [wordF seed k]) (b := [w]) (by simp) (by simp)).symm
    · rcases List.mem_cons.mp hu with h | h
      · rw [h]; exact word_let seed k
      · rw [List.mem_singleton.mp h]; exact hl
theorem NmK.nm {seed : Int} {k : Nat} {s : Str} (h : NmK seed k s) : Nm s := by
  obtain ⟨r, h1, h2⟩ := h.wds
  refine ⟨_, h1, by simp only [List.length_cons]; omega, fun e => ?_⟩
  have e : r = [] := by
    cases r with
    | nil => rfl
    | cons a r => simp at e
  rw [h1.1, e]
  exact word_kept seed k
theorem NmK.inj {seed : Int} {k l : Nat} {s : Str} (h1 : NmK seed k s) (h2 : NmK seed l s) (hk : k < 13) (hl : l < 13) : k = l := by
  obtain ⟨r, a, _⟩ := h1.wds
  obtain ⟨u, b, _⟩ := h2.wds
  have e := wds_inj a b
  exact word_inj hk hl (List.cons.inj e).1
theorem nm_strOk {s : Str} (h : Nm s) : PyData.strOk s = true := by
  obtain ⟨ws, ⟨h1, h2, h3⟩, _⟩ := h
  rw [h1]
  have key : ∀ ws : List (List Nat), (∀ w ∈ ws, Let w) → ∀ c ∈ TL.joinL [46] ws, c ≤ 122 := by
    intro ws
    induction ws with
    | nil => intro _ c hc; cases hc
    | cons w r ih =>
      intro h c hc
      cases r with
      | nil => exact ((h w List.mem_cons_self).2.2 c hc).2
      | cons v r =>
        have hc : c ∈ w ++ ([46] ++ TL.joinL [46] (v :: r)) := hc
        rcases List.mem_append.mp hc with hc | hc
        · exact ((h w List.mem_cons_self).2.2 c hc).2
        · rcases List.mem_append.mp hc with hc | hc
          · rw [List.mem_singleton.mp hc]; decide
          · exact ih (fun x hx => h x (List.mem_cons_of_mem _ hx)) c hc
  show (TL.joinL [46] ws).toArray.all (· < 0x110000) = true
  rw [List.all_toArray, List.all_eq_true]
  intro c hc
  exact decide_eq_true (by have := key ws h3 c hc; omega)
theorem ix_mem {xs : List V} {i : Int} (h0 : 0 ≤ i) (h1 : i < xs.length) : ∃ v ∈ xs, atI xs i = some v := by
  obtain ⟨v, hv, h⟩ := ix_ex h0 h1
  exact ⟨v, List.mem_of_getElem? hv, h⟩
def sp_ltoldN (K : PySem.W.Frag) (n : Nat) : Sp := fun vs H Q _ => ∃ (cell : Int) (a : Addr) (ns : List Str) (d : Nat), vs = [.int cell, .ref a, .int (d : Nat)] ∧ d < n ∧ d ≤ 2 ∧ SqL K H a (ns.map V.str) ∧ 1 ≤ ns.length ∧ (∀ m ∈ ns, Nm m) ∧ ∀ t r H', Ext K H H' → Tl.ok t → t.dep ≤ d + 1 → (∀ m ∈ t.names, m ∈ ns) → Dp K H' r t.told → Q r H'

theorem sc_law_name : FnScope ["_law_seed", "_law_k", "_law_cell"] ["_law_seed", "_law_k", "_law_cell"] (defScope s_law_name) := ⟨rfl, rfl, rfl, by decide +kernel, rfl, by decide +kernel, by decide +kernel⟩
def sp_law_name (K : PySem.W.Frag) : Sp := fun vs H Q _ => ∃ (seed : Int) (k : Nat) (cell : Int), vs = [.int seed, .int (k : Nat), .int cell] ∧ k ≤ 12 ∧ ∀ s H', Ext K H H' → NmK seed k s → Q (.str s) H'
theorem ln_law_name {K : PySem.W.Frag} : ∀ vs H Q E, (sp_law_name K) vs H Q E → vs.length = (["_law_seed", "_law_k", "_law_cell"] : List Str).length := fun vs H Q E h => by
  obtain ⟨_, _, _, rfl, _⟩ := h
  rfl
theorem bd_law_name (T : Top K mg) (c_law_mixed : C8.Cal P w K mg base 1 "_law_mixed" (sp_law_mixed K) []) (c_law_word : C8.Cal P w K mg base 2 "_law_word" (sp_law_word K) []) : Body P w K mg base q s_law_name f ["_law_seed", "_law_k", "_law_cell"] (2) (sp_law_name K) := fun cdv A outer s H vs Q E hr h => by
  have hu := hu_of hr
  obtain ⟨seed, k, cell, rfl, hk, q⟩ := h
  refine ⟨_, (pss_cons (ps_if (pt_cmpR op_eq (pe_op op_mod (C8.pe_c c_law_mixed hr (by omega) rfl (pa_cons (pv 2) (pa_cons (pe_op op_add pe_int (pv 1)) pa_nil))) pe_int) pe_int (nomark _)) (pss_one (ps_ret (pe_op op_add_str (pe_op op_add_str (C8.pe_c c_law_word hr (by omega) rfl (pa_cons (pv 0) (pa_cons (pv 1) pa_nil))) pe_str) (pe_ix ix_list (pe_lst (pa_cons pe_str (pa_cons pe_str (pa_cons pe_str (pa_cons pe_str pa_nil))))) (pe_op op_mod (C8.pe_c c_law_mixed hr (by omega) rfl (pa_cons (pv 2) (pa_cons (pe_op op_add pe_int (pv 1)) pa_nil))) pe_int) (fun _ _ => rfl))))) pss_nil)
        (pss_one (ps_ret (C8.pe_c c_law_word hr (by omega) rfl (pa_cons (pv 0) (pa_cons (pv 1) pa_nil)))))), ?_⟩
  have p6 : (0 : Int) < 6 := by decide
  have p4 : (0 : Int) < 4 := by decide
  have hw := word_let seed k
  have hwl : (SX.S (wordF seed k)).length ≤ 8 := by rw [SX.S_len]; exact hw.2.1
  refine ⟨_, rfl, _, rfl, 60, _, rfl, rfl, cell, _, rfl, by omega, by omega, _, 6, rfl, rfl, p6, rfl, _, rfl, ?_⟩
  by_cases h : V.int (mix cell (60 + ((k : Nat) : Int)) % 6) = V.int 0
  · refine ite_t (dt h) ?_
    refine ⟨_, rfl, _, rfl, seed, k, rfl, hk, fun H1 e1 => ⟨_, dotS, rfl, rfl, by show _ + 1 ≤ 2 ^ 24; omega, ?_⟩⟩
    have hm := mix_mod cell (80 + ((k : Nat) : Int)) p4
    refine ⟨szk 4, fun p hp => ⟨_, rfl, _, rfl, 80, _, rfl, rfl, cell, _, rfl, by omega, by omega, _, 4, rfl, rfl, p4, ?_⟩⟩
    obtain ⟨v, hv, hat⟩ := ix_mem (xs := tailL.map V.str) hm.1 (by show _ < ((4 : Nat) : Int); omega)
    obtain ⟨x, hx, rfl⟩ := List.mem_map.mp hv
    have hx3 : x.length ≤ 3 := by
      have z : ∀ x ∈ tailL, x.length ≤ 3 := by decide +kernel
      exact z x hx
    refine ⟨p, _, _, .str x, rfl, rfl, .of upd_same, hat, _, x, rfl, rfl, by rw [str_len_app]; show _ + 1 + _ ≤ 2 ^ 24; omega, q _ _ (e1.trans (Ext.new hp _)) (.inr ⟨x, hx, rfl⟩)⟩
  · refine ite_f (df h) ?_
    exact ⟨_, rfl, _, rfl, seed, k, rfl, hk, fun H1 e1 => q _ _ e1 (.inl rfl)⟩
theorem ok_law_name (T : Top K mg) : C8.Cal P w K mg base 3 "_law_name" (sp_law_name K) [] :=
  cal_of T 26 d_law_name s_law_name "_law_name" rfl rfl rfl rfl T.g_law_name sc_law_name (fun _ _ _ _ _ _ us hl => match us, hl with | [_, _, _], _ => rfl) ln_law_name (bd_law_name T (ok_law_mixed T) (ok_law_word T))
theorem sc_law_told : FnScope ["_law_cell", "_law_names", "_law_deep", "_law_way", "_law_name_here", "_law_value", "_law_one", "_law_other"] ["_law_cell", "_law_names", "_law_deep"] (defScope s_law_told) := ⟨rfl, rfl, rfl, by decide +kernel, rfl, by decide +kernel, by decide +kernel⟩
def sp_law_told (K : PySem.W.Frag) (n : Nat) : Sp := sp_ltoldN K (n + 1)
theorem ln_law_told {K : PySem.W.Frag} {n : Nat} : ∀ vs H Q E, (sp_law_told K n) vs H Q E → vs.length = (["_law_cell", "_law_names", "_law_deep"] : List Str).length := fun vs H Q E h => by
  obtain ⟨_, _, _, _, rfl, _⟩ := h
  rfl
theorem bd_law_told (T : Top K mg) (n : Nat) (c_law_mixed : C8.Cal P w K mg base 1 "_law_mixed" (sp_law_mixed K) []) (c_law_told : C8.Cal P w K mg base (n + 1) "_law_told" (sp_ltoldN K n) []) : Body P w K mg base q s_law_told f ["_law_cell", "_law_names", "_law_deep", "_law_way", "_law_name_here", "_law_value", "_law_one", "_law_other"] (n + 1) (sp_law_told K n) := fun cdv A outer s H vs Q E hr h => by
  have hu := hu_of hr
  obtain ⟨cell, a, ns, d, rfl, hdn, hd2, ha, hns, hnm, q⟩ := h
  refine ⟨_, (pss_cons (ps_set (i := 3) sc_law_told.nd rfl (by first | exact Or.inl rfl | exact Or.inr rfl) (pe_op op_mod (C8.pe_c c_law_mixed hr (by omega) rfl (pa_cons (pv 0) (pa_cons pe_int pa_nil))) pe_int))
        (pss_cons (ps_set (i := 4) sc_law_told.nd rfl (by first | exact Or.inl rfl | exact Or.inr rfl) (pe_ix ix_list (pv 1) (pe_op op_mod (C8.pe_c c_law_mixed hr (by omega) rfl (pa_cons (pv 0) (pa_cons pe_int pa_nil))) (pe_callB call_len_seq (by rfl) T.n_len PySem.boot_len (pa_cons (pv 1) pa_nil))) (fun _ _ => rfl)))
        (pss_cons (ps_if (PW.pt (pw_or (pt_cmpR op_eq (pv 2) pe_int (nomark _)) (pw_or1 (pt_cmpR op_lt (pv 3) pe_int (nomark _))))) (pss_cons (ps_set (i := 5) sc_law_told.nd rfl (by first | exact Or.inl rfl | exact Or.inr rfl) (pe_ix ix_list (pe_lst (pa_cons pe_bl (pa_cons pe_bl (pa_cons (pe_op op_sub (pe_op op_mod (C8.pe_c c_law_mixed hr (by omega) rfl (pa_cons (pv 0) (pa_cons pe_int pa_nil))) pe_int) pe_int) (pa_cons pe_int pa_nil))))) (pe_op op_mod (C8.pe_c c_law_mixed hr (by omega) rfl (pa_cons (pv 0) (pa_cons pe_int pa_nil))) pe_int) (fun _ _ => rfl)))
          (pss_one (ps_ret (pe_ix ix_list (pe_lst (pa_cons (pe_tup (pa_cons pe_str (pa_cons (pv 4) pa_nil))) (pa_cons (pe_tup (pa_cons pe_str (pa_cons (pv 5) pa_nil))) pa_nil))) (pe_callTy call_int1 (by rfl) T.n_int (by decide +kernel) (pa_cons (pe_cmpR op_eq (pe_op op_mod (C8.pe_c c_law_mixed hr (by omega) rfl (pa_cons (pv 0) (pa_cons pe_int pa_nil))) pe_int) pe_int (nomark _)) pa_nil)) (fun _ _ => rfl))))) pss_nil)
        (pss_cons (ps_set (i := 6) sc_law_told.nd rfl (by first | exact Or.inl rfl | exact Or.inr rfl) (C8.pe_c c_law_told hr (by omega) rfl (pa_cons (C8.pe_c c_law_mixed hr (by omega) rfl (pa_cons (pv 0) (pa_cons pe_int pa_nil))) (pa_cons (pv 1) (pa_cons (pe_op op_sub (pv 2) pe_int) pa_nil)))))
        (pss_cons (ps_if (pt_cmpR op_lt (pv 3) pe_int (nomark _)) (pss_one (ps_ret (pe_ix ix_list (pe_lst (pa_cons (pe_tup (pa_cons pe_str (pa_cons (pv 6) pa_nil))) (pa_cons (pe_tup (pa_cons pe_str (pa_cons (pv 6) (pa_cons (pe_ix ix_list (pe_lst (pa_cons pe_non (pa_cons pe_int (pa_cons pe_bl pa_nil)))) (pe_op op_mod (C8.pe_c c_law_mixed hr (by omega) rfl (pa_cons (pv 0) (pa_cons pe_int pa_nil))) pe_int) (fun _ _ => rfl)) pa_nil)))) pa_nil))) (pe_op op_sub (pv 3) pe_int) (fun _ _ => rfl)))) pss_nil)
        (pss_cons (ps_if (pt_cmpR op_lt (pv 3) pe_int (nomark _)) (pss_one (ps_ret (pe_ix ix_list (pe_lst (pa_cons (pe_tup (pa_cons pe_str (pa_cons (pv 6) (pa_cons (pv 4) pa_nil)))) (pa_cons (pe_tup (pa_cons pe_str (pa_cons (pv 6) (pa_cons (pv 4) (pa_cons (pe_ix ix_list (pe_lst (pa_cons pe_non (pa_cons (pe_un un_neg pe_int) (pa_cons pe_bl pa_nil)))) (pe_op op_mod (C8.pe_c c_law_mixed hr (by omega) rfl (pa_cons (pv 0) (pa_cons pe_int pa_nil))) pe_int) (fun _ _ => rfl)) pa_nil))))) pa_nil))) (pe_op op_sub (pv 3) pe_int) (fun _ _ => rfl)))) pss_nil)
        (pss_cons (ps_set (i := 7) sc_law_told.nd rfl (by first | exact Or.inl rfl | exact Or.inr rfl) (C8.pe_c c_law_told hr (by omega) rfl (pa_cons (C8.pe_c c_law_mixed hr (by omega) rfl (pa_cons (pv 0) (pa_cons pe_int pa_nil))) (pa_cons (pv 1) (pa_cons (pe_op op_sub (pv 2) pe_int) pa_nil)))))
        (pss_cons (ps_if (pt_cmpR op_eq (pv 3) pe_int (nomark _)) (pss_one (ps_ret (pe_tup (pa_cons pe_str (pa_cons (pv 6) (pa_cons (pv 7) (pa_cons (C8.pe_c c_law_told hr (by omega) rfl (pa_cons (C8.pe_c c_law_mixed hr (by omega) rfl (pa_cons (pv 0) (pa_cons pe_int pa_nil))) (pa_cons (pv 1) (pa_cons (pe_op op_sub (pv 2) pe_int) pa_nil)))) pa_nil))))))) pss_nil)
        (pss_cons (ps_if (pt_cmpR op_eq (pv 3) pe_int (nomark _)) (pss_one (ps_ret (pe_tup (pa_cons pe_str (pa_cons (pv 6) (pa_cons (pv 7) pa_nil)))))) pss_nil)
        (pss_one (ps_ret (pe_tup (pa_cons (pe_ix ix_list (pe_lst (pa_cons pe_str (pa_cons pe_str (pa_cons pe_str (pa_cons pe_str (pa_cons pe_str (pa_cons pe_str (pa_cons pe_str (pa_cons pe_str pa_nil))))))))) (pe_op op_mod (C8.pe_c c_law_mixed hr (by omega) rfl (pa_cons (pv 0) (pa_cons pe_int pa_nil))) pe_int) (fun _ _ => rfl)) (pa_cons (pv 6) (pa_cons (pv 7) pa_nil))))))))))))))), ?_⟩
  have hnl : (ns.map V.str).length = ns.length := List.length_map ..
  have hpos : (0 : Int) < (((ns.map V.str).length : Nat) : Int) := by omega
  have hmn := mix_mod cell 2 hpos
  obtain ⟨nv, hnv, hnat⟩ := ix_mem hmn.1 hmn.2
  obtain ⟨nm, hnmem, rfl⟩ := List.mem_map.mp hnv
  have hway := mix_mod cell 1 (n := 12) (by decide)
  refine ⟨_, rfl, cell, 1, rfl, by decide, by decide, _, 12, rfl, rfl, (show (0 : Int) < 12 by decide), ?_⟩
  refine ⟨_, rfl, _, rfl, cell, 2, rfl, by decide, by decide, _, rfl, a, _, rfl, .inl ha, _, _, rfl, rfl, hpos, a, _, _, .str nm, rfl, rfl, ha, hnat, ?_⟩
  have E0 := Ext.refl K H
  by_cases hd0 : d = 0
  · refine ⟨_, rfl, rfl, _, rfl, ite_t (dt (by rw [hd0]; rfl)) (ite_t rfl ?_)⟩
    have h3 := mix_mod cell 3 (n := 256) (by decide)
    have h4 := mix_mod cell 4 (n := 4) (by decide)
    obtain ⟨vv, hvv, hvat⟩ := ix_mem (xs := [V.bl false, V.bl true, V.int (mix cell 3 % 256 - 128), V.int 0]) h4.1 (by show _ < ((4 : Nat) : Int); omega)
    obtain ⟨x, rfl, hx⟩ : ∃ x : Val0, vv = x.v ∧ x.ok := by
      simp only [List.mem_cons, List.not_mem_nil, or_false] at hvv
      rcases hvv with rfl | rfl | rfl | rfl
      · exact ⟨.bl false, rfl, trivial⟩
      · exact ⟨.bl true, rfl, trivial⟩
      · exact ⟨.int _, rfl, by show -128 ≤ _ ∧ _ ≤ 127; omega⟩
      · exact ⟨.int 0, rfl, by show -128 ≤ _ ∧ _ ≤ 127; omega⟩
    refine ⟨_, rfl, cell, 3, rfl, by decide, by decide, _, 256, rfl, rfl, (show (0 : Int) < 256 by decide), _, 128, rfl, rfl, szk 4, fun p1 hp1 => ⟨_, rfl, cell, 4, rfl, by decide, by decide, _, 4, rfl, rfl, (show (0 : Int) < 4 by decide), p1, _, _, x.v, rfl, rfl, .of upd_same, hvat, ?_⟩⟩
    have e1 : Ext K H _ := Ext.new hp1 (.lst [V.bl false, V.bl true, V.int (mix cell 3 % 256 - 128), V.int 0])
    refine ⟨_, rfl, szk 2, fun p2 hp2 => ⟨_, rfl, szk 2, fun p3 hp3 => ⟨szk 2, fun p4 hp4 => ⟨_, rfl, cell, 5, rfl, by decide, by decide, _, 4, rfl, rfl, (show (0 : Int) < 4 by decide), rfl, .inr ⟨_, rfl, ?_⟩⟩⟩⟩⟩
    have e2 := e1.trans (Ext.new hp2 (.tup [.str "named", .str nm]))
    have e3 := e2.trans (Ext.new hp3 (.tup [.str "given", x.v]))
    have e4 := e3.trans (Ext.new hp4 (.lst [.ref p2, .ref p3]))
    generalize decide (V.int (mix cell 5 % 4) = V.int 0) = bb
    cases bb
    · exact ⟨p4, _, _, .ref p2, rfl, rfl, .of upd_same, rfl, q (.named nm) _ _ e4 (hnm nm hnmem) (by simp [Tl.dep]) (fun m hm => by rw [List.mem_singleton.mp hm]; exact hnmem) (.tup (.of (((Ext.new (K := K) hp3 _).trans (Ext.new hp4 _)).at upd_same)) (.cons (.str _) (.cons (.str _) .nil)))⟩
    · exact ⟨p4, _, _, .ref p3, rfl, rfl, .of upd_same, rfl, q (.given x) _ _ e4 hx (by simp [Tl.dep]) (fun m hm => by cases hm) (.tup (.of ((Ext.new (K := K) hp4 _).at upd_same)) (.cons (.str _) (.cons (dp_v x) .nil)))⟩
  · refine ⟨_, rfl, rfl, _, rfl, ite_f (df fun z => hd0 (by have := V.int.inj z; omega)) ⟨_, rfl, (mix cell 1 % 12), 4, rfl, rfl, _, rfl, ?_⟩⟩
    by_cases hw4 : (mix cell 1 % 12) < 4
    · refine ite_t (dt hw4) ?_
      have h3 := mix_mod cell 3 (n := 256) (by decide)
      have h4 := mix_mod cell 4 (n := 4) (by decide)
      obtain ⟨vv, hvv, hvat⟩ := ix_mem (xs := [V.bl false, V.bl true, V.int (mix cell 3 % 256 - 128), V.int 0]) h4.1 (by show _ < ((4 : Nat) : Int); omega)
      obtain ⟨x, rfl, hx⟩ : ∃ x : Val0, vv = x.v ∧ x.ok := by
        simp only [List.mem_cons, List.not_mem_nil, or_false] at hvv
        rcases hvv with rfl | rfl | rfl | rfl
        · exact ⟨.bl false, rfl, trivial⟩
        · exact ⟨.bl true, rfl, trivial⟩
        · exact ⟨.int _, rfl, by show -128 ≤ _ ∧ _ ≤ 127; omega⟩
        · exact ⟨.int 0, rfl, by show -128 ≤ _ ∧ _ ≤ 127; omega⟩
      refine ⟨_, rfl, cell, 3, rfl, by decide, by decide, _, 256, rfl, rfl, (show (0 : Int) < 256 by decide), _, 128, rfl, rfl, szk 4, fun p1 hp1 => ⟨_, rfl, cell, 4, rfl, by decide, by decide, _, 4, rfl, rfl, (show (0 : Int) < 4 by decide), p1, _, _, x.v, rfl, rfl, .of upd_same, hvat, ?_⟩⟩
      have e1 : Ext K H _ := Ext.new hp1 (.lst [V.bl false, V.bl true, V.int (mix cell 3 % 256 - 128), V.int 0])
      refine ⟨_, rfl, szk 2, fun p2 hp2 => ⟨_, rfl, szk 2, fun p3 hp3 => ⟨szk 2, fun p4 hp4 => ⟨_, rfl, cell, 5, rfl, by decide, by decide, _, 4, rfl, rfl, (show (0 : Int) < 4 by decide), rfl, .inr ⟨_, rfl, ?_⟩⟩⟩⟩⟩
      have e2 := e1.trans (Ext.new hp2 (.tup [.str "named", .str nm]))
      have e3 := e2.trans (Ext.new hp3 (.tup [.str "given", x.v]))
      have e4 := e3.trans (Ext.new hp4 (.lst [.ref p2, .ref p3]))
      generalize decide (V.int (mix cell 5 % 4) = V.int 0) = bb
      cases bb
      · exact ⟨p4, _, _, .ref p2, rfl, rfl, .of upd_same, rfl, q (.named nm) _ _ e4 (hnm nm hnmem) (by simp [Tl.dep]) (fun m hm => by rw [List.mem_singleton.mp hm]; exact hnmem) (.tup (.of (((Ext.new (K := K) hp3 _).trans (Ext.new hp4 _)).at upd_same)) (.cons (.str _) (.cons (.str _) .nil)))⟩
      · exact ⟨p4, _, _, .ref p3, rfl, rfl, .of upd_same, rfl, q (.given x) _ _ e4 hx (by simp [Tl.dep]) (fun m hm => by cases hm) (.tup (.of ((Ext.new (K := K) hp4 _).at upd_same)) (.cons (.str _) (.cons (dp_v x) .nil)))⟩
    · refine ite_f (df hw4) ?_
      have hd1 : ((d : Nat) : Int) - 1 = ((d - 1 : Nat) : Int) := by omega
      refine ⟨_, rfl, cell, 20, rfl, by decide, by decide, _, rfl, _, rfl, _, 1, rfl, rfl, _, a, ns, d - 1, congrArg (fun z : Int => [V.int (mix cell 20), V.ref a, V.int z]) hd1, by omega, by omega, E0.l ha, hns, hnm, fun t1 r1 H1 e1 ok1 dp1 nm1 dv1 => ?_⟩
      have E1 := E0.trans e1
      
      by_cases hw6 : (mix cell 1 % 12) < 6
      · refine ⟨_, rfl, (mix cell 1 % 12), 6, rfl, rfl, _, rfl, ite_t (dt hw6) ?_⟩
        have h6 := mix_mod cell 6 (n := 3) (by decide)
        obtain ⟨vv, hvv, hvat⟩ := ix_mem (xs := [V.non, V.int 3, V.bl true]) h6.1 (by show _ < ((3 : Nat) : Int); omega)
        obtain ⟨x, rfl, hx⟩ : ∃ x : Option Val0, vv = fvV x ∧ fvOk x := by
          simp only [List.mem_cons, List.not_mem_nil, or_false] at hvv
          rcases hvv with rfl | rfl | rfl
          · exact ⟨none, rfl, trivial⟩
          · exact ⟨some (.int 3), rfl, by show -128 ≤ _ ∧ _ ≤ 127; omega⟩
          · exact ⟨some (.bl true), rfl, trivial⟩
        refine ⟨_, rfl, szk 2, fun p2 hp2 => ⟨_, rfl, szk 3, fun p3 hp3 => ⟨_, rfl, cell, 6, rfl, by decide, by decide, _, 3, rfl, rfl, (show (0 : Int) < 3 by decide), p3, _, _, fvV x, rfl, rfl, .of upd_same, hvat, szk 3, fun p4 hp4 => ⟨szk 2, fun p5 hp5 => ⟨_, rfl, (mix cell 1 % 12), 4, rfl, rfl, ?_⟩⟩⟩⟩⟩
        have e2 : Ext K H1 _ := Ext.new hp2 (.tup [.str "not", r1])
        have e3 := e2.trans (Ext.new hp3 (.lst [V.non, V.int 3, V.bl true]))
        have e4 := e3.trans (Ext.new hp4 (.tup [.str "before", r1, fvV x]))
        have e5 := e4.trans (Ext.new hp5 (.lst [.ref p2, .ref p4]))
        have d1 := e5.fr.dp dv1 (told_noL t1)
        rcases (show (mix cell 1 % 12) - 4 = 0 ∨ (mix cell 1 % 12) - 4 = 1 by omega) with hi | hi
        · exact ⟨p5, _, _, .ref p2, rfl, rfl, .of upd_same, by rw [hi]; rfl, q (.turned t1) _ _ (E1.trans e5) ok1 (by simp only [Tl.dep]; omega) nm1 (.tup (.of ((((Ext.new (K := K) hp3 _).trans (Ext.new hp4 _)).trans (Ext.new hp5 _)).at upd_same)) (.cons (.str _) (.cons d1 .nil)))⟩
        · exact ⟨p5, _, _, .ref p4, rfl, rfl, .of upd_same, by rw [hi]; rfl, q (.before t1 x) _ _ (E1.trans e5) ⟨ok1, hx⟩ (by simp only [Tl.dep]; omega) nm1 (.tup (.of ((Ext.new (K := K) hp5 _).at upd_same)) (.cons (.str _) (.cons d1 (.cons (dp_fv x) .nil))))⟩
      refine ⟨_, rfl, (mix cell 1 % 12), 6, rfl, rfl, _, rfl, ite_f (df hw6) ?_⟩
      by_cases hw8 : (mix cell 1 % 12) < 8
      · refine ⟨_, rfl, (mix cell 1 % 12), 8, rfl, rfl, _, rfl, ite_t (dt hw8) ?_⟩
        have h7 := mix_mod cell 7 (n := 3) (by decide)
        obtain ⟨vv, hvv, hvat⟩ := ix_mem (xs := [V.non, V.int (-5), V.bl false]) h7.1 (by show _ < ((3 : Nat) : Int); omega)
        obtain ⟨x, rfl, hx⟩ : ∃ x : Option Val0, vv = fvV x ∧ fvOk x := by
          simp only [List.mem_cons, List.not_mem_nil, or_false] at hvv
          rcases hvv with rfl | rfl | rfl
          · exact ⟨none, rfl, trivial⟩
          · exact ⟨some (.int (-5)), rfl, by show -128 ≤ _ ∧ _ ≤ 127; omega⟩
          · exact ⟨some (.bl false), rfl, trivial⟩
        refine ⟨_, rfl, _, rfl, szk 3, fun p2 hp2 => ⟨_, rfl, _, rfl, 5, rfl, szk 3, fun p3 hp3 => ⟨_, rfl, cell, 7, rfl, by decide, by decide, _, 3, rfl, rfl, (show (0 : Int) < 3 by decide), p3, _, _, fvV x, rfl, rfl, .of upd_same, hvat, szk 4, fun p4 hp4 => ⟨szk 2, fun p5 hp5 => ⟨_, rfl, (mix cell 1 % 12), 6, rfl, rfl, ?_⟩⟩⟩⟩⟩
        have e2 : Ext K H1 _ := Ext.new hp2 (.tup [.str "when", r1, .str nm])
        have e3 := e2.trans (Ext.new hp3 (.lst [V.non, V.int (-5), V.bl false]))
        have e4 := e3.trans (Ext.new hp4 (.tup [.str "held", r1, .str nm, fvV x]))
        have e5 := e4.trans (Ext.new hp5 (.lst [.ref p2, .ref p4]))
        have d1 := e5.fr.dp dv1 (told_noL t1)
        have hnn : ∀ m ∈ t1.names ++ [nm], m ∈ ns := fun m hm => by
          rcases List.mem_append.mp hm with h | h
          · exact nm1 m h
          · rw [List.mem_singleton.mp h]; exact hnmem
        rcases (show (mix cell 1 % 12) - 6 = 0 ∨ (mix cell 1 % 12) - 6 = 1 by omega) with hi | hi
        · exact ⟨p5, _, _, .ref p2, rfl, rfl, .of upd_same, by rw [hi]; rfl, q (.when t1 nm) _ _ (E1.trans e5) ⟨ok1, hnm nm hnmem⟩ (by simp only [Tl.dep]; omega) hnn (.tup (.of ((((Ext.new (K := K) hp3 _).trans (Ext.new hp4 _)).trans (Ext.new hp5 _)).at upd_same)) (.cons (.str _) (.cons d1 (.cons (.str _) .nil))))⟩
        · exact ⟨p5, _, _, .ref p4, rfl, rfl, .of upd_same, by rw [hi]; rfl, q (.held t1 nm x) _ _ (E1.trans e5) ⟨ok1, hnm nm hnmem, hx⟩ (by simp only [Tl.dep]; omega) hnn (.tup (.of ((Ext.new (K := K) hp5 _).at upd_same)) (.cons (.str _) (.cons d1 (.cons (.str _) (.cons (dp_fv x) .nil)))))⟩
      refine ⟨_, rfl, (mix cell 1 % 12), 8, rfl, rfl, _, rfl, ite_f (df hw8) ?_⟩
      refine ⟨_, rfl, cell, 21, rfl, by decide, by decide, _, rfl, _, rfl, _, 1, rfl, rfl, _, a, ns, d - 1, congrArg (fun z : Int => [V.int (mix cell 21), V.ref a, V.int z]) hd1, by omega, by omega, E1.l ha, hns, hnm, fun t2 r2 H2 e2 ok2 dp2 nm2 dv2 => ?_⟩
      have E2 := E1.trans e2
      
      have n12 : ∀ m ∈ t1.names ++ t2.names, m ∈ ns := fun m hm => (List.mem_append.mp hm).elim (nm1 m) (nm2 m)
      by_cases hw8e : (mix cell 1 % 12) = 8
      · refine ⟨_, rfl, rfl, _, rfl, ite_t (dt (congrArg V.int hw8e)) ?_⟩
        refine ⟨_, rfl, _, rfl, ?_⟩
        refine ⟨_, rfl, cell, 22, rfl, by decide, by decide, _, rfl, _, rfl, _, 1, rfl, rfl, _, a, ns, d - 1, congrArg (fun z : Int => [V.int (mix cell 22), V.ref a, V.int z]) hd1, by omega, by omega, E2.l ha, hns, hnm, fun t3 r3 H3 e3 ok3 dp3 nm3 dv3 => ?_⟩
        have E3 := E2.trans e3
        refine ⟨szk 4, fun p2 hp2 => ?_⟩
        have e4 : Ext K H3 _ := Ext.new hp2 (.tup [.str "if", r1, r2, r3])
        exact q (.choice t1 t2 t3) _ _ (E3.trans e4) ⟨ok1, ok2, ok3⟩ (by simp only [Tl.dep]; omega) (fun m hm => (List.mem_append.mp hm).elim (nm1 m) fun h => (List.mem_append.mp h).elim (nm2 m) (nm3 m)) (.tup (.of upd_same) (.cons (.str _) (.cons (((e2.trans e3).trans e4).fr.dp dv1 (told_noL t1)) (.cons ((e3.trans e4).fr.dp dv2 (told_noL t2)) (.cons (e4.fr.dp dv3 (told_noL t3)) .nil)))))
      refine ⟨_, rfl, rfl, _, rfl, ite_f (df fun z => hw8e (V.int.inj z)) ?_⟩
      by_cases hw9 : (mix cell 1 % 12) = 9
      · refine ⟨_, rfl, rfl, _, rfl, ite_t (dt (congrArg V.int hw9)) ?_⟩
        refine ⟨_, rfl, _, rfl, szk 3, fun p2 hp2 => ?_⟩
        have e4 : Ext K H2 _ := Ext.new hp2 (.tup [.str "then", r1, r2])
        exact q (.led t1 t2) _ _ (E2.trans e4) ⟨ok1, ok2⟩ (by simp only [Tl.dep]; omega) n12 (.tup (.of upd_same) (.cons (.str _) (.cons ((e2.trans e4).fr.dp dv1 (told_noL t1)) (.cons (e4.fr.dp dv2 (told_noL t2)) .nil))))
      refine ⟨_, rfl, rfl, _, rfl, ite_f (df fun z => hw9 (V.int.inj z)) ?_⟩
      have h8 := mix_mod cell 8 (n := 8) (by decide)
      obtain ⟨vv, hvv, hvat⟩ := ix_mem (xs := [("+" : Str), "-", "*", "=", "<", "<=", "and", "or"].map V.str) h8.1 (by show _ < ((8 : Nat) : Int); omega)
      obtain ⟨g, hg, rfl⟩ := List.mem_map.mp hvv
      have hgs : g ∈ signsL := by
        have z : ∀ g ∈ [("+" : Str), "-", "*", "=", "<", "<=", "and", "or"], g ∈ signsL := by decide +kernel
        exact z g hg
      refine ⟨szk 8, fun p2 hp2 => ⟨_, rfl, cell, 8, rfl, by decide, by decide, _, 8, rfl, rfl, (show (0 : Int) < 8 by decide), p2, _, _, .str g, rfl, rfl, .of upd_same, hvat, _, rfl, _, rfl, szk 3, fun p3 hp3 => ?_⟩⟩
      have e4 : Ext K H2 _ := (Ext.new hp2 (.lst ([("+" : Str), "-", "*", "=", "<", "<=", "and", "or"].map V.str))).trans (Ext.new hp3 (.tup [.str g, r1, r2]))
      exact q (.pair g t1 t2) _ _ (E2.trans e4) ⟨hgs, ok1, ok2⟩ (by simp only [Tl.dep]; omega) n12 (.tup (.of upd_same) (.cons (.str _) (.cons ((e2.trans e4).fr.dp dv1 (told_noL t1)) (.cons (e4.fr.dp dv2 (told_noL t2)) .nil))))
end

section
variable {P : Program} {w : World} {K : PySem.W.Frag} {mg : Str → Option Value} {base : Heap} {q : Str} {f : Addr}
theorem fam_law_told (T : Top K mg) : ∀ n : Nat, C8.Cal P w K mg base (n + 1) "_law_told" (sp_ltoldN K n) []
  | 0 => cal_of T 27 d_law_told s_law_told "_law_told" rfl rfl rfl rfl T.g_law_told sc_law_told (fun _ _ _ _ _ _ us hl => match us, hl with | [_, _, _], _ => rfl) (fun vs H Q E h => by obtain ⟨_, _, _, _, rfl, _⟩ := h; rfl) (fun _ _ _ _ _ _ _ _ _ h => by obtain ⟨_, _, _, _, _, z, _⟩ := h; exact absurd z (Nat.not_lt_zero _))
  | n + 1 => cal_of T 27 d_law_told s_law_told "_law_told" rfl rfl rfl rfl T.g_law_told sc_law_told (fun _ _ _ _ _ _ us hl => match us, hl with | [_, _, _], _ => rfl) (ln_law_told (n := n)) (bd_law_told T n (ok_law_mixed T) (fam_law_told T n))

/-- what stands in a told thing behind its word -/
theorem told_rest (t : Tl) : (∃ x, t = .given x) ∨ (∃ m, t = .named m) ∨ ∃ (w : Str) (ds : List PyData), t.told = .tuple (.str w :: ds) ∧ (t.ok → w ≠ "given" ∧ w ≠ "named") ∧ ds.length ≤ 3 ∧ ∀ d ∈ ds, (∃ p ∈ t.kids, d = p.told ∧ (∀ m ∈ p.names, m ∈ t.names) ∧ (t.ok → p.ok)) ∨ (∃ m, d = .str m ∧ m ∈ t.names) ∨ ∃ f, d = fvD f := by
  cases t with
  | given x => exact .inl ⟨_, rfl⟩
  | named m => exact .inr (.inl ⟨_, rfl⟩)
  | turned p => exact .inr (.inr ⟨"not", [p.told], rfl, fun _ => by decide +kernel, by simp, fun d hd => by
      simp only [List.mem_cons, List.not_mem_nil, or_false] at hd
      exact .inl ⟨p, by simp [Tl.kids], hd, fun m h => h, fun h => h⟩⟩)
  | pair g p r => exact .inr (.inr ⟨g, [p.told, r.told], rfl, fun h => ⟨sign_ne h.1 (by decide +kernel), sign_ne h.1 (by decide +kernel)⟩, by simp, fun d hd => by
      simp only [List.mem_cons, List.not_mem_nil, or_false] at hd
      rcases hd with hd | hd
      · exact .inl ⟨p, by simp [Tl.kids], hd, fun m h => List.mem_append_left _ h, fun h => h.2.1⟩
      · exact .inl ⟨r, by simp [Tl.kids], hd, fun m h => List.mem_append_right _ h, fun h => h.2.2⟩⟩)
  | choice o p r => exact .inr (.inr ⟨"if", [o.told, p.told, r.told], rfl, fun _ => by decide +kernel, by simp, fun d hd => by
      simp only [List.mem_cons, List.not_mem_nil, or_false] at hd
      rcases hd with hd | hd | hd
      · exact .inl ⟨o, by simp [Tl.kids], hd, fun m h => List.mem_append_left _ h, fun h => h.1⟩
      · exact .inl ⟨p, by simp [Tl.kids], hd, fun m h => List.mem_append_right _ (List.mem_append_left _ h), fun h => h.2.1⟩
      · exact .inl ⟨r, by simp [Tl.kids], hd, fun m h => List.mem_append_right _ (List.mem_append_right _ h), fun h => h.2.2⟩⟩)
  | before p x => exact .inr (.inr ⟨"before", [p.told, fvD x], rfl, fun _ => by decide +kernel, by simp, fun d hd => by
      simp only [List.mem_cons, List.not_mem_nil, or_false] at hd
      rcases hd with hd | hd
      · exact .inl ⟨p, by simp [Tl.kids], hd, fun m h => h, fun h => h.1⟩
      · exact .inr (.inr ⟨x, hd⟩)⟩)
  | led p r => exact .inr (.inr ⟨"then", [p.told, r.told], rfl, fun _ => by decide +kernel, by simp, fun d hd => by
      simp only [List.mem_cons, List.not_mem_nil, or_false] at hd
      rcases hd with hd | hd
      · exact .inl ⟨p, by simp [Tl.kids], hd, fun m h => List.mem_append_left _ h, fun h => h.1⟩
      · exact .inl ⟨r, by simp [Tl.kids], hd, fun m h => List.mem_append_right _ h, fun h => h.2⟩⟩)
  | «when» p m => exact .inr (.inr ⟨"when", [p.told, .str m], rfl, fun _ => by decide +kernel, by simp, fun d hd => by
      simp only [List.mem_cons, List.not_mem_nil, or_false] at hd
      rcases hd with hd | hd
      · exact .inl ⟨p, by simp [Tl.kids], hd, fun m h => List.mem_append_left _ h, fun h => h.1⟩
      · exact .inr (.inl ⟨m, hd, List.mem_append_right _ (List.mem_singleton.mpr rfl)⟩)⟩)
  | held p m x => exact .inr (.inr ⟨"held", [p.told, .str m, fvD x], rfl, fun _ => by decide +kernel, by simp, fun d hd => by
      simp only [List.mem_cons, List.not_mem_nil, or_false] at hd
      rcases hd with hd | hd | hd
      · exact .inl ⟨p, by simp [Tl.kids], hd, fun m h => List.mem_append_left _ h, fun h => h.1⟩
      · exact .inr (.inl ⟨m, hd, List.mem_append_right _ (List.mem_singleton.mpr rfl)⟩)
      · exact .inr (.inr ⟨x, hd⟩)⟩)
/-- the law's own renaming: it gives back something -/
def sp_laheadN (K : PySem.W.Frag) (n : Nat) : Sp := fun vs H Q _ => ∃ (v : V) (t : Tl) (a : Str), vs = [v, .str a] ∧ t.ok ∧ t.dep ≤ n ∧ Dp K H v t.told ∧ (∀ m ∈ t.names, a.length + m.length ≤ sizeLine) ∧ ∀ r H', Ext K H H' → Q r H'

theorem sc_law_ahead : FnScope ["_law_told_here", "_law_ahead_here", "_law_found", "_law_one"] ["_law_told_here", "_law_ahead_here"] (defScope s_law_ahead) := ⟨rfl, rfl, rfl, by decide +kernel, rfl, by decide +kernel, by decide +kernel⟩
def sp_law_ahead (K : PySem.W.Frag) (n : Nat) : Sp := sp_laheadN K (n + 1)
theorem ln_law_ahead {K : PySem.W.Frag} {n : Nat} : ∀ vs H Q E, (sp_law_ahead K n) vs H Q E → vs.length = (["_law_told_here", "_law_ahead_here"] : List Str).length := fun vs H Q E h => by
  obtain ⟨_, _, _, rfl, _⟩ := h
  rfl
theorem bd_law_ahead (T : Top K mg) (n : Nat)  (c_law_ahead : C8.Cal P w K mg base (n + 1) "_law_ahead" (sp_laheadN K n) []) : Body P w K mg base q s_law_ahead f ["_law_told_here", "_law_ahead_here", "_law_found", "_law_one"] (n + 1) (sp_law_ahead K n) := fun cdv A outer s H vs Q E hr h => by
  have hu := hu_of hr
  obtain ⟨v, t, a, rfl, hok, hd, hv, hle, q⟩ := h
  refine ⟨_, (pss_cons (ps_if (pt_cmpR op_eq (pe_ix ix_tup (pv 0) pe_int (fun _ _ => rfl)) pe_str (nomark _)) (pss_one (ps_ret (pv 0))) pss_nil)
        (pss_cons (ps_if (pt_cmpR op_eq (pe_ix ix_tup (pv 0) pe_int (fun _ _ => rfl)) pe_str (nomark _)) (pss_one (ps_ret (pe_tup (pa_cons pe_str (pa_cons (pe_op op_add_str (pv 1) (pe_ix ix_tup (pv 0) pe_int (fun _ _ => rfl))) pa_nil))))) pss_nil)
        (pss_cons (ps_set (i := 2) sc_law_ahead.nd rfl (by first | exact Or.inl rfl | exact Or.inr rfl) (pe_lst (pa_cons (pe_ix ix_tup (pv 0) pe_int (fun _ _ => rfl)) pa_nil)))
        (pss_cons (ps_for PassesOwn.never rfl (pi_tup (pe_slice sl_tupA (pv 0) (po_some pe_int) po_none)) (pg_name (i := 3) sc_law_ahead.nd rfl (by first | exact Or.inl rfl | exact Or.inr rfl))
          (pss_one (ps_if (pt_val (pe_callB call_isi (by rfl) T.n_isinstance (by decide +kernel) (pa_cons (pv 3) (pa_cons (pe_bltn (v := .ty "tuple") rfl T.n_tuple (by decide +kernel) rfl) pa_nil)))) (pss_one (ps_expr (pe_bm PySem.F.plainAttrs_list PySem.F.slot_list_append PySem.F.type_list_append mt_append (pv 2) (pa_cons (C8.pe_c c_law_ahead hr (by omega) rfl (pa_cons (pv 3) (pa_cons (pv 1) pa_nil))) pa_nil)))) (pss_one (ps_if (pt_val (pe_callB call_isi (by rfl) T.n_isinstance (by decide +kernel) (pa_cons (pv 3) (pa_cons (pe_bltn (v := .ty "str") rfl T.n_str (by decide +kernel) rfl) pa_nil)))) (pss_one (ps_expr (pe_bm PySem.F.plainAttrs_list PySem.F.slot_list_append PySem.F.type_list_append mt_append (pv 2) (pa_cons (pe_op op_add_str (pv 1) (pv 3)) pa_nil)))) (pss_one (ps_expr (pe_bm PySem.F.plainAttrs_list PySem.F.slot_list_append PySem.F.type_list_append mt_append (pv 2) (pa_cons (pv 3) pa_nil)))))))))
        (pss_one (ps_ret (pe_callTy call_tuple_of (by rfl) T.n_tuple (by decide +kernel) (pa_cons (pv 2) pa_nil)))))))), ?_⟩
  rcases told_rest t with ⟨x, rfl⟩ | ⟨m, rfl⟩ | ⟨w0, ds, e1, hw, hdl, hds⟩
  · obtain ⟨a0, x1, x2, rfl, hT, g1, g2⟩ := dp_tup2 hv
    obtain rfl := dp_str g1
    exact ⟨_, rfl, a0, _, 0, _, rfl, rfl, hT, rfl, rfl, _, rfl, ite_t (dt rfl) ⟨_, rfl, q _ _ (Ext.refl K H)⟩⟩
  · obtain ⟨a0, x1, x2, rfl, hT, g1, g2⟩ := dp_tup2 hv
    obtain rfl := dp_str g1
    obtain rfl := dp_str g2
    refine ⟨_, rfl, a0, _, 0, _, rfl, rfl, hT, rfl, rfl, _, rfl, ite_f (str_ne (by decide +kernel)) ?_⟩
    refine ⟨_, rfl, a0, _, 0, _, rfl, rfl, hT, rfl, rfl, _, rfl, ite_t (dt rfl) ?_⟩
    exact ⟨_, rfl, _, rfl, a0, _, 1, _, rfl, rfl, hT, rfl, a, m, rfl, rfl, hle m (List.mem_singleton.mpr rfl), szk 2, fun p hp => q _ _ (Ext.new hp _)⟩
  · rw [e1] at hv
    obtain ⟨a0, xs, rfl, hT, gs⟩ := dp_tup hv
    cases gs with
    | @cons x1 xs _ _ g1 gs =>
    obtain rfl := dp_str g1
    have hlx := dpa_len gs
    refine ⟨_, rfl, a0, _, 0, _, rfl, rfl, hT, at0 _ _, rfl, _, rfl, ite_f (str_ne (hw hok).1) ?_⟩
    refine ⟨_, rfl, a0, _, 0, _, rfl, rfl, hT, at0 _ _, rfl, _, rfl, ite_f (str_ne (hw hok).2) ?_⟩
    refine ⟨_, rfl, a0, _, 0, _, rfl, rfl, hT, at0 _ _, szk 1, fun p hp => ?_⟩
    have e2 : Ext K H (upd H p (.lst [.str w0])) := Ext.new hp _
    have z2 : (upd H p (.lst [.str w0])) p = some (.lst [.str w0]) := upd_same
    refine ⟨_, rfl, 1, rfl, a0, _, rfl, e2.fr.t hT, (fun h => absurd h.1 ?_), fun _ y hy => ?_⟩
    · show ¬ HT.sIx (xs.length + 1) 0 (some 1) = 0
      rw [sIx1]
      decide
    rw [cut1]
    have e3 := e2.trans (Ext.new hy (.tup xs))
    have z3 := (Ext.new (K := K) hy (.tup xs)).at z2
    have y3 : (upd (upd H p (.lst [.str w0])) y (.tup xs)) y = some (.tup xs) := upd_same
    generalize hG : upd (upd H p (.lst [.str w0])) y (.tup xs) = G3 at e3 z3 y3
    refine ⟨y, rfl, ⟨xs, .of y3⟩, for_tup (xs := xs) (fun i σ H4 => ∃ z acc, σ = [some (.ref a0), some (.str a), some (.ref p), z] ∧ Ext K H H4 ∧ Fr G3 H4 ∧ H4 p = some (.lst acc) ∧ acc.length = i + 1) ⟨none, _, rfl, e3, Fr.refl _, z3, rfl⟩ (fun i σ H4 _ h => ?_) (fun i x σ H4 hx h => ?_) (fun σ H4 h => ?_)⟩
    · obtain ⟨_, _, _, _, f4, _⟩ := h
      exact f4.t (.of y3)
    · obtain ⟨z, acc, rfl, e4, f4, hp4, hal⟩ := h
      obtain ⟨d, hd1, hd2⟩ := dpa_get gs hx
      have hi : i < ds.length := (List.getElem?_eq_some_iff.mp hd1).1
      have hdm := hds d (List.mem_of_getElem? hd1)
      have nx : ∀ (r : V) (H5 : Hp), Ext K H4 H5 → ∃ z acc, ([some (.ref a0), some (.str a), some (.ref p), some x] : L2.St) = [some (.ref a0), some (.str a), some (.ref p), z] ∧ Ext K H (upd H5 p (.lst (acc))) ∧ Fr G3 (upd H5 p (.lst acc)) ∧ (upd H5 p (.lst acc)) p = some (.lst acc) ∧ acc.length = i + 1 + 1 := fun r H5 e5 => ⟨_, acc ++ [r], rfl, (e4.trans e5).push hp (e5.at hp4), (f4.trans e5.fr).trans (Fr.put (e5.at hp4) rfl _), upd_same, by rw [List.length_append, hal]; rfl⟩
      have hsz : acc.length < sizeLine := by show _ < 2 ^ 24; omega
      rcases hdm with ⟨pp, hpk, rfl, hsub, hpo⟩ | ⟨m, rfl, hm⟩ | ⟨f0, rfl⟩
      · have hd4 := e4.fr.dp hd2 (told_noL pp)
        have htup : ∃ ds, pp.told = .tuple ds := by cases pp <;> exact ⟨_, rfl⟩
        obtain ⟨ds', hds'⟩ := htup
        rw [hds'] at hd4
        obtain ⟨t1, ys, rfl, ht1, _⟩ := dp_tup hd4
        have hd4' := e4.fr.dp hd2 (told_noL pp)
        have hkd := kid_dep t hpk
        refine ⟨_, rfl, _, _, _, _, true, rfl, .ty _, ty_tup ht1, kit_ty (by decide +kernel), true, rfl, ite_t rfl ?_⟩
        refine ⟨_, rfl, .inl ⟨rfl, _, .of hp4⟩, _, rfl, _, rfl, _, pp, a, rfl, hpo hok, by omega, hd4', fun m hm => hle m (hsub m hm), fun r H5 e5 => ⟨p, acc, r, rfl, rfl, e5.at hp4, hsz, ?_⟩⟩
        exact ⟨_, _, rfl, (e4.trans e5).push hp (e5.at hp4), (f4.trans e5.fr).trans (Fr.put (e5.at hp4) rfl _), upd_same, by rw [List.length_append, hal]; rfl⟩
      · obtain rfl := dp_str hd2
        refine ⟨_, rfl, _, _, _, _, false, rfl, .ty _, .base (.str _), kit_ty (by decide +kernel), false, rfl, ite_f rfl ?_⟩
        refine ⟨_, rfl, _, _, _, _, true, rfl, .ty _, .base (.str _), kit_ty (by decide +kernel), true, rfl, ite_t rfl ?_⟩
        refine ⟨_, rfl, .inl ⟨rfl, _, .of hp4⟩, _, rfl, _, rfl, a, m, rfl, rfl, hle m hm, p, acc, _, rfl, rfl, hp4, hsz, ?_⟩
        exact ⟨_, _, rfl, e4.push hp hp4, f4.trans (Fr.put hp4 rfl _), upd_same, by rw [List.length_append, hal]; rfl⟩
      · obtain rfl := dp_fval hd2
        have hty : ∃ T0 : String, TyX K H4 (fvV f0) (.type T0) ∧ kitB T0 "tuple" = some false ∧ kitB T0 "str" = some false := by
          cases f0 with
          | none => exact ⟨"NoneType", .base .non, by decide +kernel, by decide +kernel⟩
          | some x0 => cases x0 with
            | bl b => exact ⟨"bool", .base (.bl b), by decide +kernel, by decide +kernel⟩
            | int k => exact ⟨"int", .base (.int k), by decide +kernel, by decide +kernel⟩
        obtain ⟨T0, t1, t2, t3⟩ := hty
        refine ⟨_, rfl, _, _, _, _, false, rfl, .ty _, t1, kit_ty t2, false, rfl, ite_f rfl ?_⟩
        refine ⟨_, rfl, _, _, _, _, false, rfl, .ty _, t1, kit_ty t3, false, rfl, ite_f rfl ?_⟩
        refine ⟨_, rfl, .inl ⟨rfl, _, .of hp4⟩, _, rfl, p, acc, _, rfl, rfl, hp4, hsz, ?_⟩
        exact ⟨_, _, rfl, e4.push hp hp4, f4.trans (Fr.put hp4 rfl _), upd_same, by rw [List.length_append, hal]; rfl⟩
    · obtain ⟨z, acc, rfl, e4, f4, hp4, hal⟩ := h
      exact ⟨_, rfl, p, acc, rfl, .inl ⟨.of hp4, fun l hl => q _ _ (e4.trans (Ext.new hl _))⟩⟩
theorem fam_law_ahead (T : Top K mg) : ∀ n : Nat, C8.Cal P w K mg base (n + 1) "_law_ahead" (sp_laheadN K n) []
  | 0 => cal_of T 32 d_law_ahead s_law_ahead "_law_ahead" rfl rfl rfl rfl T.g_law_ahead sc_law_ahead (fun _ _ _ _ _ _ us hl => match us, hl with | [_, _], _ => rfl) (fun vs H Q E h => by obtain ⟨_, _, _, rfl, _⟩ := h; rfl) (fun _ _ _ _ _ _ _ _ _ h => by obtain ⟨_, t, _, _, _, z, _⟩ := h; exact absurd (dep_pos t) (by omega))
  | n + 1 => cal_of T 32 d_law_ahead s_law_ahead "_law_ahead" rfl rfl rfl rfl T.g_law_ahead sc_law_ahead (fun _ _ _ _ _ _ us hl => match us, hl with | [_, _], _ => rfl) (ln_law_ahead (n := n)) (bd_law_ahead T n (fam_law_ahead T n))
end

section
variable {P : Program} {w : World} {K : PySem.W.Frag} {mg : Str → Option Value} {base : Heap} {q : Str} {f : Addr}
/-! ### the law's dicts -/
def InpSp (K : PySem.W.Frag) (H : Hp) (v : V) (i : Inp) : Prop := ∃ t kv, v = .ref t ∧ H t = some (.tup [.str i.nm, kv, .non]) ∧ KindAt K H kv i.kind
def LnSp (K : PySem.W.Frag) (R : List V) (H : Hp) : V → Ln → Prop
  | v, .row nm tr p on => ∃ t pv, v = .ref t ∧ H t = some (.tup [.str "row", .str nm, .str (trS tr), pv, onV on]) ∧ Dp K H pv p.told
  | v, .use bs k ps on => ∃ (t bt pl : Addr) (rv : V) (pvs : List V), v = .ref t ∧ H t = some (.tup [.str "use", .ref bt, rv, .ref pl, onV on]) ∧ BndAt H bt bs ∧ R[k]? = some rv ∧ H pl = some (.lst pvs) ∧ Paired (fun v (p : Tl) => Dp K H v p.told) pvs ps
def SpecAt (K : PySem.W.Frag) (R : List V) (H : Hp) (v : V) (s : Sh) : Prop := ∃ (d il ol ll : Addr) (kvs : List (Key × V)) (ivs lvs : List V), v = .ref d ∧ H d = some (.dK kvs) ∧ valV kvs (.inr "name") = some (.str s.nm) ∧ valV kvs (.inr "inputs") = some (.ref il) ∧ valV kvs (.inr "outputs") = some (.ref ol) ∧ valV kvs (.inr "lines") = some (.ref ll) ∧
  H il = some (.lst ivs) ∧ Paired (InpSp K H) ivs s.ins ∧ H ol = some (.lst (s.outs.map V.str)) ∧ H ll = some (.lst lvs) ∧ Paired (LnSp K R H) lvs s.lns
def SpecsAt (K : PySem.W.Frag) (R : List V) (H : Hp) (S : List Sh) : Prop := Paired (SpecAt K R H) R S
section
variable {K : PySem.W.Frag} {R : List V} {H H1 : Hp} {v : V}
theorem Fr.inpSp (e : Fr H H1) {i : Inp} (h : InpSp K H v i) : InpSp K H1 v i := by
  obtain ⟨t, kv, h1, h2, h3⟩ := h
  exact ⟨t, kv, h1, e _ _ h2 rfl, e.kind h3⟩
theorem Ext.lnSp (e : Ext K H H1) : ∀ {l : Ln}, LnSp K R H v l → LnSp K R H1 v l
  | .row _ _ p _, ⟨t, pv, h1, h2, h3⟩ => ⟨t, pv, h1, e.at h2, e.fr.dp h3 (told_noL p)⟩
  | .use _ _ _ _, ⟨t, bt, pl, rv, pvs, h1, h2, h3, h4, h5, h6⟩ => ⟨t, bt, pl, rv, pvs, h1, e.at h2, e.fr.bnd h3, h4, e.at h5, Paired.mapP h6 fun _ p z => e.fr.dp z (told_noL p)⟩
theorem Ext.spec (e : Ext K H H1) {s : Sh} (h : SpecAt K R H v s) : SpecAt K R H1 v s := by
  obtain ⟨d, il, ol, ll, kvs, ivs, lvs, h1, h2, h3, h4, h5, h6, h7, h8, h9, h10, h11⟩ := h
  exact ⟨d, il, ol, ll, kvs, ivs, lvs, h1, e.at h2, h3, h4, h5, h6, e.at h7, Paired.mapP h8 fun _ _ z => e.fr.inpSp z, e.at h9, e.at h10, Paired.mapP h11 fun _ _ z => e.lnSp z⟩
theorem Ext.specs (e : Ext K H H1) {S : List Sh} (h : SpecsAt K R H S) : SpecsAt K R H1 S := Paired.mapP h fun _ _ z => e.spec z
theorem SpecsAt.at (h : SpecsAt K R H S) {k : Nat} {s : Sh} {rv : V} (hs : S[k]? = some s) (hr : R[k]? = some rv) : SpecAt K R H rv s := by
  obtain ⟨s', h1, h2⟩ := paired_get h hr
  rw [hs] at h1
  cases h1
  exact h2
end
/-- what the law's sheets are -/
structure SpecOk (S : List Sh) : Prop where
  ok : BookOk S
  eqs : ∀ s ∈ S, ∀ l ∈ s.lns, ∀ p ∈ l.eqs, p.ok
  nms : ∀ s ∈ S, ∀ n ∈ s.names, Nm n
  kinds : ∀ s ∈ S, ∀ i ∈ s.ins, i.kind.okk
  few : ∀ s ∈ S, countF S 6 s ≤ 2000
theorem SpecOk.place {S : List Sh} (h : SpecOk S) : PlaceOk S := ⟨h.ok, h.eqs, fun s hs n hn => Nat.le_trans (nm_len (h.nms s hs n hn)) (by decide), h.kinds⟩
theorem kind_dp {K : PySem.W.Frag} {H : Hp} {v : V} {k : IK} (h : KindAt K H v k) : ∃ d, Dp K H v d ∧ SeqAt.shaped d = true := by
  cases k with
  | truth => rw [show v = V.str "truth" from h]; exact ⟨_, .str _, by decide +kernel⟩
  | number => rw [show v = V.str "number" from h]; exact ⟨_, .str _, by decide +kernel⟩
  | stretch i j =>
    obtain ⟨a, rfl, ha⟩ := h
    exact ⟨.tuple [.int i, .int j], .tup ha (.cons (.int i) (.cons (.int j) .nil)), rfl⟩
theorem str_shaped {s : Str} (h : Nm s) : SeqAt.shaped (.str s) = true := Bool.and_eq_true_iff.mpr ⟨nm_strOk h, decide_eq_true (by show 0 ≤ 64; decide)⟩
def sp_lkindN (K : PySem.W.Frag) (f : Nat) : Sp := fun vs H Q _ => ∃ (v : V) (R : List V) (S : List Sh) (s : Sh) (j : Nat) (nm : Str), vs = [v, .str nm] ∧ SpecsAt K R H S ∧ SpecAt K R H v s ∧ S[j]? = some s ∧ j < f ∧ SpecOk S ∧ Nm nm ∧ ∀ r H', Ext K H H' → Q r H'

theorem sc_law_kind : FnScope ["_law_spec_here", "_law_name_here", "_law_one", "_law_line"] ["_law_spec_here", "_law_name_here"] (defScope s_law_kind) := ⟨rfl, rfl, rfl, by decide +kernel, rfl, by decide +kernel, by decide +kernel⟩
def sp_law_kind (K : PySem.W.Frag) (n : Nat) : Sp := sp_lkindN K (n + 1)
theorem ln_law_kind {K : PySem.W.Frag} {n : Nat} : ∀ vs H Q E, (sp_law_kind K n) vs H Q E → vs.length = (["_law_spec_here", "_law_name_here"] : List Str).length := fun vs H Q E h => by
  obtain ⟨_, _, _, _, _, _, rfl, _⟩ := h
  rfl
theorem bd_law_kind (T : Top K mg) (n : Nat)  (c_law_kind : C8.Cal P w K mg base (n + 1) "_law_kind" (sp_lkindN K n) []) : Body P w K mg base q s_law_kind f ["_law_spec_here", "_law_name_here", "_law_one", "_law_line"] (n + 1) (sp_law_kind K n) := fun cdv A outer s H vs Q E hr h => by
  have hu := hu_of hr
  obtain ⟨v, R, S, s0, j, nm, rfl, hR, hs, hj, hjn, hok, hnm, q⟩ := h
  refine ⟨_, (pss_cons (ps_for PassesOwn.never rfl (pi_list (pe_dget hu (pv 0) pe_str (fun _ _ => rfl))) (pg_name (i := 2) sc_law_kind.nd rfl (by first | exact Or.inl rfl | exact Or.inr rfl))
          (pss_one (ps_if (pt_cmpR op_eq (pe_ix ix_tup (pv 2) pe_int (fun _ _ => rfl)) (pv 1) (nomark _)) (pss_one (ps_ret (pe_ix ix_list (pe_lst (pa_cons pe_str (pa_cons pe_str pa_nil))) (pe_callTy call_int1 (by rfl) T.n_int (by decide +kernel) (pa_cons (pe_cmpR (op_eqD hr.units) (pe_ix ix_tup (pv 2) pe_int (fun _ _ => rfl)) pe_str (nomark _)) pa_nil)) (fun _ _ => rfl)))) pss_nil)))
        (pss_cons (ps_for PassesOwn.never rfl (pi_list (pe_dget hu (pv 0) pe_str (fun _ _ => rfl))) (pg_name (i := 3) sc_law_kind.nd rfl (by first | exact Or.inl rfl | exact Or.inr rfl))
          (pss_cons (ps_if (PW.pt (pw_and (pt_cmpR op_eq (pe_ix ix_tup (pv 3) pe_int (fun _ _ => rfl)) pe_str (nomark _)) (pw_and1 (pt_cmpR (op_eqD hr.units) (pe_ix ix_tup (pv 3) pe_int (fun _ _ => rfl)) (pv 1) (nomark _))))) (pss_one (ps_ret (pe_ix ix_tup (pv 3) pe_int (fun _ _ => rfl)))) pss_nil)
          (pss_one (ps_if (PW.pt (pw_and (pt_cmpR op_eq (pe_ix ix_tup (pv 3) pe_int (fun _ _ => rfl)) pe_str (nomark _)) (pw_and1 (pt_cmpR op_in_seq (pv 1) (pe_ix ix_tup (pv 3) pe_int (fun _ _ => rfl)) (by rfl))))) (pss_one (ps_ret (C8.pe_c c_law_kind hr (by omega) rfl (pa_cons (pe_ix ix_tup (pv 3) pe_int (fun _ _ => rfl)) (pa_cons (pe_ix ix_list (pe_dget hu (pe_ix ix_tup (pv 3) pe_int (fun _ _ => rfl)) pe_str (fun _ _ => rfl)) (pe_tix (pe_ix ix_tup (pv 3) pe_int (fun _ _ => rfl)) (pa_cons (pv 1) pa_nil)) (fun _ _ => rfl)) pa_nil))))) pss_nil))))
        (pss_one (ps_ret pe_non)))), ?_⟩
  obtain ⟨d, il, ol, ll, kvs, ivs, lvs, rfl, hd, v1, v2, v3, v4, h7, h8, h9, h10, h11⟩ := hs
  have hmem := List.mem_of_getElem? hj
  have hts : SeqAt.shaped (.str "truth") = true := by decide +kernel
  have g2 : DGet H d (.str "inputs") (some (.ref il)) := by rw [← v2]; exact DGet.k (k := .inr "inputs") hd
  have g4 : DGet H d (.str "lines") (some (.ref ll)) := by rw [← v4]; exact DGet.k (k := .inr "lines") hd
  refine ⟨_, rfl, d, .ref il, rfl, g2, il, rfl, ⟨_, .of h7⟩, for_list (xs := ivs) (fun i σ H1 => H1 = H ∧ ∃ z, σ = [some (.ref d), some (.str nm), z, none]) ⟨rfl, _, rfl⟩ (fun i σ H1 _ h => by rw [h.1]; exact .of h7) (fun i x σ H1 hx h => ?_) (fun σ H1 h => ?_)⟩
  · obtain ⟨rfl, z, rfl⟩ := h
    obtain ⟨inp, hinp, t, kv, rfl, ht, hk⟩ := paired_get h8 hx
    refine ⟨_, rfl, t, _, 0, _, rfl, rfl, .of ht, rfl, _, rfl, rfl, _, rfl, ?_⟩
    by_cases hc : V.str inp.nm = V.str nm
    · refine ite_t (dt hc) ?_
      obtain ⟨kd, hkd, hks⟩ := kind_dp hk
      refine ⟨szk 2, fun p hp => ⟨_, rfl, t, _, 1, _, rfl, rfl, (Ext.new (K := K) hp _).t (.of ht), rfl, ?_⟩⟩
      have e1 : Ext K H1 _ := Ext.new hp (.lst [.str "number", .str "truth"])
      obtain ⟨kd, hkd, hks⟩ := kind_dp (e1.fr.kind hk)
      refine ⟨kd, _, hkd, .str _, hks, hts, .inr ⟨_, rfl, ?_⟩⟩
      generalize PyData.eqv kd (.str "truth") = b
      cases b
      · exact ⟨p, _, _, .str "number", rfl, rfl, .of upd_same, rfl, q _ _ e1⟩
      · exact ⟨p, _, _, .str "truth", rfl, rfl, .of upd_same, rfl, q _ _ e1⟩
    · exact ite_f (df hc) ⟨rfl, _, rfl⟩
  obtain ⟨rfl, z, rfl⟩ := h
  refine ⟨_, rfl, d, .ref ll, rfl, g4, ll, rfl, ⟨_, .of h10⟩, for_list (xs := lvs) (fun i σ H2 => H2 = H1 ∧ ∃ z3, σ = [some (.ref d), some (.str nm), z, z3]) ⟨rfl, _, rfl⟩ (fun i σ H2 _ h => by rw [h.1]; exact .of h10) (fun i x σ H2 hx h => ?_) (fun σ H2 h => ?_)⟩
  · obtain ⟨rfl, z3, rfl⟩ := h
    obtain ⟨l, hl0, hat⟩ := paired_get h11 hx
    have hml := List.mem_of_getElem? hl0
    have hnms : ∀ n ∈ l.borne, Nm n := fun n hn => hok.nms s0 hmem n (mem_names (a := .ln l) (List.mem_append_right _ (List.mem_map_of_mem hml)) hn)
    cases l with
    | row nm0 tr p o =>
      obtain ⟨t, kp, rfl, ht, hp⟩ := hat
      refine ⟨_, rfl, t, _, 0, _, rfl, rfl, .of ht, rfl, rfl, _, rfl, ite_t (dt rfl) ?_⟩
      refine ⟨_, rfl, t, _, 1, _, rfl, rfl, .of ht, rfl, _, rfl, _, _, .str nm0, .str nm, str_shaped (hnms nm0 List.mem_cons_self), str_shaped hnm, _, rfl, ?_⟩
      generalize PyData.eqv (.str nm0) (.str nm) = b
      cases b
      · refine ite_f rfl ?_
        exact ⟨_, rfl, t, _, 0, _, rfl, rfl, .of ht, rfl, rfl, _, rfl, ite_f (str_ne (by decide +kernel)) (ite_f rfl ⟨rfl, _, rfl⟩)⟩
      · exact ite_t rfl ⟨_, rfl, t, _, 2, _, rfl, rfl, .of ht, rfl, q _ _ (Ext.refl K _)⟩
    | use bs k ps o =>
      obtain ⟨t, bt, pl, rv, pvs, rfl, ht, hb, hrk, hpl, hps⟩ := hat
      refine ⟨_, rfl, t, _, 0, _, rfl, rfl, .of ht, rfl, rfl, _, rfl, ite_f (str_ne (by decide +kernel)) (ite_f rfl ?_)⟩
      refine ⟨_, rfl, t, _, 0, _, rfl, rfl, .of ht, rfl, rfl, _, rfl, ite_t (dt rfl) ?_⟩
      refine ⟨_, rfl, _, rfl, t, _, 1, _, rfl, rfl, .of ht, rfl, bt, _, rfl, .inr hb.t, rfl, flat_strs _, _, rfl, ?_⟩
      rw [if_neg Bool.false_ne_true, inV_str]
      by_cases hc : nm ∈ bs
      · refine ite_t (dt hc) ?_
        obtain ⟨hkj, s1, hsk, q1, q2, q3⟩ := hok.ok.uses j s0 hj bs k ps o hml
        have hsp := hR.at hsk hrk
        have hsp0 := hsp
        obtain ⟨d1, il1, ol1, ll1, kvs1, ivs1, lvs1, rfl, hd1, w1, w2, w3, w4, y7, y8, y9, y10, y11⟩ := hsp
        have g3 : DGet H2 d1 (.str "outputs") (some (.ref ol1)) := by rw [← w3]; exact DGet.k (k := .inr "outputs") hd1
        obtain ⟨ob, hob1, hob2⟩ := hb
        obtain ⟨x1, x2⟩ := ixOf_get hc
        have hlt : ixOf nm bs < s1.outs.length := by rw [← q2]; exact (List.getElem?_eq_some_iff.mp x1).1
        have ho : s1.outs[ixOf nm bs]? = some s1.outs[ixOf nm bs] := List.getElem?_eq_getElem hlt
        generalize s1.outs[ixOf nm bs] = ou at ho
        have hm1 := List.mem_of_getElem? hsk
        refine ⟨_, rfl, t, _, 2, _, rfl, rfl, .of ht, rfl, ?_⟩
        refine ⟨_, rfl, t, _, 2, _, rfl, rfl, .of ht, rfl, d1, .ref ol1, rfl, g3, ?_⟩
        refine ⟨_, rfl, t, _, 1, _, rfl, rfl, .of ht, rfl, ⟨bt, ob, _, rfl, hob2, hob1⟩, _, rfl, bt, bs, nm, ixOf nm bs, rfl, rfl, .inl (.inr ⟨ob, hob2⟩), x1, x2, ?_⟩
        exact ⟨ol1, _, _, .str ou, rfl, rfl, .of y9, atI_nat (by rw [List.getElem?_map, ho]; rfl), _, R, S, s1, k, ou, rfl, hR, hsp0, hsk, by omega, hok, hok.nms s1 hm1 ou ((hok.ok.sheets s1 hm1).outIn ou (List.mem_of_getElem? ho)), q⟩
      · exact ite_f (df hc) ⟨rfl, _, rfl⟩
  · obtain ⟨rfl, z3, rfl⟩ := h
    exact q _ _ (Ext.refl K _)
theorem fam_law_kind (T : Top K mg) : ∀ n : Nat, C8.Cal P w K mg base (n + 1) "_law_kind" (sp_lkindN K n) []
  | 0 => cal_of T 33 d_law_kind s_law_kind "_law_kind" rfl rfl rfl rfl T.g_law_kind sc_law_kind (fun _ _ _ _ _ _ us hl => match us, hl with | [_, _], _ => rfl) (fun vs H Q E h => by obtain ⟨_, _, _, _, _, _, rfl, _⟩ := h; rfl) (fun _ _ _ _ _ _ _ _ _ h => by obtain ⟨_, _, _, _, _, _, _, _, _, _, z, _⟩ := h; exact absurd z (Nat.not_lt_zero _))
  | n + 1 => cal_of T 33 d_law_kind s_law_kind "_law_kind" rfl rfl rfl rfl T.g_law_kind sc_law_kind (fun _ _ _ _ _ _ us hl => match us, hl with | [_, _], _ => rfl) (ln_law_kind (n := n)) (bd_law_kind T n (fam_law_kind T n))
end

section
variable {P : Program} {w : World} {K : PySem.W.Frag} {mg : Str → Option Value} {base : Heap} {q : Str} {f : Addr}
/-- a row as the law tells it: its name stands first -/
def RwNm (H : Hp) (v : V) (r : Rw) : Prop := ∃ t y, v = .ref t ∧ H t = some (.tup (.str r.nm :: y))
theorem Fr.rwn {H H1 : Hp} {v : V} {r : Rw} (e : Fr H H1) (h : RwNm H v r) : RwNm H1 v r := by
  obtain ⟨t, y, h1, h2⟩ := h
  exact ⟨t, y, h1, e _ _ h2 rfl⟩
theorem Fr.rwns {H H1 : Hp} {xs : List V} {rs : List Rw} (e : Fr H H1) (h : Paired (RwNm H) xs rs) : Paired (RwNm H1) xs rs := Paired.mapP h fun _ _ z => e.rwn z
def sp_lrowsN (K : PySem.W.Frag) (f : Nat) : Sp := fun vs H Q _ => ∃ (v : V) (R : List V) (S : List Sh) (s : Sh) (j : Nat) (ahead : Str) (on : Option Str), vs = [v, .str ahead, onV on] ∧ SpecsAt K R H S ∧ SpecAt K R H v s ∧ S[j]? = some s ∧ j < f ∧ f ≤ 6 ∧ SpecOk S ∧ ahead.length + 100 * f ≤ 1000 ∧ (rowsF S f s ahead on).length ≤ 2000 ∧
  ∀ (p : Addr) (xs : List V) (H' : Hp), Ext K H H' → H p = none → H' p = some (.lst xs) → Paired (RwNm H') xs (rowsF S f s ahead on) → Q (.ref p) H'
def sp_lputN (K : PySem.W.Frag) (f : Nat) : Sp := fun vs H Q _ => ∃ (v : V) (R : List V) (S : List Sh) (bs : List Str) (k : Nat) (ps : List Tl) (o : Option Str) (s1 : Sh) (ahead : Str) (b : Option Str), vs = [v, .str ahead, onV b] ∧ SpecsAt K R H S ∧ LnSp K R H v (.use bs k ps o) ∧ S[k]? = some s1 ∧ k < f ∧ f ≤ 6 ∧ SpecOk S ∧ ps.length = s1.ins.length ∧ bs.length = s1.outs.length ∧
  (∀ p ∈ ps, p.ok ∧ p.dep ≤ 3 ∧ ∀ n ∈ p.names, n.length ≤ 40) ∧ (∀ n ∈ bs, n.length ≤ 40) ∧ ahead.length + 100 * (f + 1) ≤ 1000 ∧ (useRows S (rowsF S f) ahead b bs k ps).length ≤ 2000 ∧
  ∀ (p : Addr) (xs : List V) (H' : Hp), Ext K H H' → H p = none → H' p = some (.lst xs) → Paired (RwNm H') xs (useRows S (rowsF S f) ahead b bs k ps) → Q (.ref p) H'

theorem sc_law_put : FnScope ["_law_line", "_law_ahead_here", "_law_beat", "_law_inner", "_law_deeper", "_law_found", "_law_k", "_law_one", "_law_kind_here", "_law_output"] ["_law_line", "_law_ahead_here", "_law_beat"] (defScope s_law_put) := ⟨rfl, rfl, rfl, by decide +kernel, rfl, by decide +kernel, by decide +kernel⟩
def sp_law_put (K : PySem.W.Frag) (n : Nat) : Sp := sp_lputN K n
theorem ln_law_put {K : PySem.W.Frag} {n : Nat} : ∀ vs H Q E, (sp_law_put K n) vs H Q E → vs.length = (["_law_line", "_law_ahead_here", "_law_beat"] : List Str).length := fun vs H Q E h => by
  obtain ⟨_, _, _, _, _, _, _, _, _, _, rfl, _⟩ := h
  rfl
theorem bd_law_put (T : Top K mg) (n : Nat) (c_law_ahead : C8.Cal P w K mg base 4 "_law_ahead" (sp_laheadN K 3) []) (c_law_kind : C8.Cal P w K mg base 7 "_law_kind" (sp_lkindN K 6) []) (c_law_rows : C8.Cal P w K mg base (8 + 2 * n) "_law_rows" (sp_lrowsN K n) []) : Body P w K mg base q s_law_put f ["_law_line", "_law_ahead_here", "_law_beat", "_law_inner", "_law_deeper", "_law_found", "_law_k", "_law_one", "_law_kind_here", "_law_output"] (8 + 2 * n) (sp_law_put K n) := fun cdv A outer s H vs Q E hr h => by
  have hu := hu_of hr
  obtain ⟨v, R, S, bs, k, ps, o, s1, ahead, b, rfl, hR, hl, hk, hkn, hn6, hok, hpl, hbl, hps, hbs, hal, hlen, q⟩ := h
  refine ⟨_, (pss_cons (ps_set (i := 3) sc_law_put.nd rfl (by first | exact Or.inl rfl | exact Or.inr rfl) (pe_ix ix_tup (pv 0) pe_int (fun _ _ => rfl)))
        (pss_cons (ps_set (i := 4) sc_law_put.nd rfl (by first | exact Or.inl rfl | exact Or.inr rfl) (pe_op op_add_str (pe_op op_add_str (pv 1) (pe_ix ix_tup (pe_ix ix_tup (pv 0) pe_int (fun _ _ => rfl)) pe_int (fun _ _ => rfl))) pe_str))
        (pss_cons (ps_set (i := 5) sc_law_put.nd rfl (by first | exact Or.inl rfl | exact Or.inr rfl) (pe_lst pa_nil))
        (pss_cons (ps_for PassesOwn.never rfl (pi_range1 rfl T.n_range (pa_cons (pe_callB call_len_seq (by rfl) T.n_len PySem.boot_len (pa_cons (pe_dget hu (pv 3) pe_str (fun _ _ => rfl)) pa_nil)) pa_nil)) (pg_name (i := 6) sc_law_put.nd rfl (by first | exact Or.inl rfl | exact Or.inr rfl))
          (pss_cons (ps_set (i := 7) sc_law_put.nd rfl (by first | exact Or.inl rfl | exact Or.inr rfl) (pe_ix ix_list (pe_dget hu (pv 3) pe_str (fun _ _ => rfl)) (pv 6) (fun _ _ => rfl)))
          (pss_cons (ps_set (i := 8) sc_law_put.nd rfl (by first | exact Or.inl rfl | exact Or.inr rfl) (pe_ix ix_list (pe_lst (pa_cons pe_str (pa_cons pe_str pa_nil))) (pe_callTy call_int1 (by rfl) T.n_int (by decide +kernel) (pa_cons (pe_cmpR (op_eqD hr.units) (pe_ix ix_tup (pv 7) pe_int (fun _ _ => rfl)) pe_str (nomark _)) pa_nil)) (fun _ _ => rfl)))
          (pss_one (ps_expr (pe_bm PySem.F.plainAttrs_list PySem.F.slot_list_append PySem.F.type_list_append mt_append (pv 5) (pa_cons (pe_tup (pa_cons (pe_op op_add_str (pv 4) (pe_ix ix_tup (pv 7) pe_int (fun _ _ => rfl))) (pa_cons (pv 8) (pa_cons (C8.pe_c c_law_ahead hr (by omega) rfl (pa_cons (pe_ix ix_list (pe_ix ix_tup (pv 0) pe_int (fun _ _ => rfl)) (pv 6) (fun _ _ => rfl)) (pa_cons (pv 1) pa_nil))) (pa_cons (pv 2) pa_nil))))) pa_nil)))))))
        (pss_cons (ps_set (i := 5) sc_law_put.nd rfl (by first | exact Or.inl rfl | exact Or.inr rfl) (pe_op op_cat (pv 5) (C8.pe_c c_law_rows hr (by omega) rfl (pa_cons (pv 3) (pa_cons (pv 4) (pa_cons (pv 2) pa_nil))))))
        (pss_cons (ps_for PassesOwn.never rfl (pi_range1 rfl T.n_range (pa_cons (pe_callB call_len_seq (by rfl) T.n_len PySem.boot_len (pa_cons (pe_ix ix_tup (pv 0) pe_int (fun _ _ => rfl)) pa_nil)) pa_nil)) (pg_name (i := 6) sc_law_put.nd rfl (by first | exact Or.inl rfl | exact Or.inr rfl))
          (pss_cons (ps_set (i := 9) sc_law_put.nd rfl (by first | exact Or.inl rfl | exact Or.inr rfl) (pe_ix ix_list (pe_dget hu (pv 3) pe_str (fun _ _ => rfl)) (pv 6) (fun _ _ => rfl)))
          (pss_one (ps_expr (pe_bm PySem.F.plainAttrs_list PySem.F.slot_list_append PySem.F.type_list_append mt_append (pv 5) (pa_cons (pe_tup (pa_cons (pe_op op_add_str (pv 1) (pe_ix ix_tup (pe_ix ix_tup (pv 0) pe_int (fun _ _ => rfl)) (pv 6) (fun _ _ => rfl))) (pa_cons (C8.pe_c c_law_kind hr (by omega) rfl (pa_cons (pv 3) (pa_cons (pv 9) pa_nil))) (pa_cons (pe_tup (pa_cons pe_str (pa_cons (pe_op op_add_str (pv 4) (pv 9)) pa_nil))) (pa_cons (pv 2) pa_nil))))) pa_nil))))))
        (pss_one (ps_ret (pv 5))))))))), ?_⟩
  have hpo := hok.place
  have hm1 := List.mem_of_getElem? hk
  have hs1ok := hok.ok.sheets s1 hm1
  have hts : SeqAt.shaped (.str "truth") = true := by decide +kernel
  rw [use_eq hk] at hlen q
  rw [List.length_append, List.length_append] at hlen
  have hin := insRows_len (deeper := ahead ++ bs.headD "" ++ dotS) (ahead := ahead) (b := b) hpl
  have hout := outRows_len (S := S) (s := s1) (deeper := ahead ++ bs.headD "" ++ dotS) (ahead := ahead) (b := b) hbl
  obtain ⟨t, bt, pl, rv, pvs, rfl, ht, hb, hrk, hpl0, hpv⟩ := hl
  have hsp := hR.at hk hrk
  have hsp0 := hsp
  obtain ⟨d1, il1, ol1, ll1, kvs1, ivs1, lvs1, rfl, hd1, w1, w2, w3, w4, y7, y8, y9, y10, y11⟩ := hsp
  have g2 : ∀ {H1 : Hp}, Ext K H H1 → DGet H1 d1 (.str "inputs") (some (.ref il1)) := fun e => by rw [← w2]; exact DGet.k (k := .inr "inputs") (e.at hd1)
  have g3 : ∀ {H1 : Hp}, Ext K H H1 → DGet H1 d1 (.str "outputs") (some (.ref ol1)) := fun e => by rw [← w3]; exact DGet.k (k := .inr "outputs") (e.at hd1)
  obtain ⟨b0, bs', rfl⟩ : ∃ b0 bs', bs = b0 :: bs' := by
    have h1 := hs1ok.o1
    cases bs with
    | nil => rw [← hbl] at h1; cases h1
    | cons b0 bs' => exact ⟨_, _, rfl⟩
  have hb40 := hbs b0 List.mem_cons_self
  have hdl : (ahead ++ b0 ++ dotS).length = ahead.length + b0.length + 1 := by rw [str_len_app, str_len_app]; rfl
  refine ⟨_, rfl, t, _, 2, _, rfl, rfl, .of ht, rfl, ?_⟩
  refine ⟨_, rfl, _, rfl, t, _, 1, _, rfl, rfl, .of ht, rfl, bt, _, 0, _, rfl, rfl, hb.t, at0 _ _, ahead, b0, rfl, rfl, by show _ ≤ 2 ^ 24; omega, _, dotS, rfl, rfl, by rw [str_len_app]; show _ + 1 ≤ 2 ^ 24; omega, ?_⟩
  generalize hdp : ahead ++ b0 ++ dotS = deeper at hdl
  have hdp' : ahead ++ (b0 :: bs').headD "" ++ dotS = deeper := hdp
  rw [hdp'] at hlen q hin hout
  refine ⟨szk 0, fun p hp => ?_⟩
  have e2 : Ext K H (upd H p (.lst [])) := Ext.new hp _
  have z2 : (upd H p (.lst [])) p = some (.lst []) := upd_same
  generalize hG2 : upd H p (.lst []) = G2 at e2 z2
  have hil := y8.length
  have hkl := hpv.length
  have i8 := hs1ok.few.ins
  refine ⟨_, rfl, d1, .ref il1, rfl, g2 e2, il1, _, rfl, .inl (.of (e2.at y7)), _, rfl, by omega, by omega, for_range (n := ((ivs1.length : Nat) : Int).toNat) (fun i σ H3 => ∃ z6 z7 z8 xs, σ = [some (.ref t), some (.str ahead), some (onV b), some (.ref d1), some (.str deeper), some (.ref p), z6, z7, z8, none] ∧ Ext K H H3 ∧ H3 p = some (.lst xs) ∧ xs.length = i ∧ i ≤ ps.length ∧ Paired (RwNm H3) xs ((insRows deeper ahead b s1.ins ps).take i))
    ⟨none, none, none, [], rfl, e2, z2, rfl, Nat.zero_le _, .nil⟩ (fun i σ H3 hi h => ?_) (fun σ H3 h => ?_)⟩
  · obtain ⟨z6, z7, z8, xs, rfl, e3, hp3, hxl, hil3, hpr⟩ := h
    rw [Int.toNat_natCast] at hi
    have hgi : ivs1[i]? = some ivs1[i] := List.getElem?_eq_getElem hi
    obtain ⟨inp, hinp, hia⟩ := paired_get y8 hgi
    have hpi : i < pvs.length := by omega
    have hgp : pvs[i]? = some pvs[i] := List.getElem?_eq_getElem hpi
    obtain ⟨tl, htl, hpa⟩ := paired_get hpv hgp
    generalize pvs[i] = pv0 at hgp hpa
    generalize ivs1[i] = iv0 at hgi hia
    obtain ⟨ti, kv, rfl, hti, hki⟩ := e3.fr.inpSp hia
    obtain ⟨hok1, hd11, hn1⟩ := hps tl (List.mem_of_getElem? htl)
    have hin40 := hpo.small s1 hm1 inp.nm (mem_names (a := .inp inp) (List.mem_append_left _ (List.mem_map_of_mem (List.mem_of_getElem? hinp))) List.mem_cons_self)
    have ei : (0 : Int) + ((i : Nat) : Int) = ((i : Nat) : Int) := Int.zero_add _
    refine ⟨_, rfl, d1, .ref il1, rfl, g2 e3, _, rfl, il1, _, _, _, rfl, rfl, .of (e3.at y7), by rw [ei]; exact atI_nat hgi, ?_⟩
    refine ⟨szk 2, fun u hu => ⟨_, rfl, ti, _, 1, _, rfl, rfl, (Ext.new (K := K) hu _).t (.of hti), rfl, ?_⟩⟩
    have e4 : Ext K H3 _ := Ext.new hu (.lst [.str "number", .str "truth"])
    obtain ⟨kd, hkd, hks⟩ := kind_dp (e4.fr.kind hki)
    refine ⟨kd, _, hkd, .str _, hks, hts, .inr ⟨_, rfl, ?_⟩⟩
    obtain ⟨kr, hkr⟩ : ∃ kr : V, atI [V.str "number", V.str "truth"] (if PyData.eqv kd (.str "truth") = true then 1 else 0) = some kr := by
      cases PyData.eqv kd (.str "truth") <;> exact ⟨_, rfl⟩
    refine ⟨u, _, _, kr, rfl, rfl, .of upd_same, hkr, ?_⟩
    have e04 := e3.trans e4
    have hp4 := e4.at hp3
    refine ⟨_, rfl, .inl ⟨rfl, _, .of hp4⟩, ?_⟩
    refine ⟨_, rfl, _, rfl, ti, _, 0, _, rfl, rfl, .of (e4.at hti), rfl, deeper, inp.nm, rfl, rfl, by show _ ≤ 2 ^ 24; omega, _, rfl, ?_⟩
    refine ⟨_, rfl, t, _, 3, _, rfl, rfl, .of (e04.at ht), rfl, _, rfl, pl, _, _, pv0, rfl, rfl, .of (e04.at hpl0), by rw [ei]; exact atI_nat hgp, _, rfl, _, tl, ahead, rfl, hok1, hd11, e04.fr.dp hpa (told_noL _), fun n hn => by have := hn1 n hn; show _ ≤ 2 ^ 24; omega, fun r7 H7 e7 => ?_⟩
    have E7 := e4.trans e7
    refine ⟨_, rfl, szk 4, fun u2 hu2 => ⟨p, xs, _, rfl, rfl, (E7.trans (Ext.new hu2 _)).at hp3, by show _ < 2 ^ 24; omega, ?_⟩⟩
    have e8 := E7.trans (Ext.new hu2 (.tup [.str (deeper ++ inp.nm), kr, r7, onV b]))
    refine ⟨_, _, _, xs ++ [.ref u2], rfl, (e3.trans e8).push hp (e8.at hp3), upd_same, by rw [List.length_append, hxl]; rfl, by omega, ?_⟩
    have fr9 := Fr.put (e8.at hp3) (rfl : froz (.lst xs) = false) (.lst (xs ++ [.ref u2]))
    exact paired_step ((e8.fr.trans fr9).rwns hpr) (insRows_get hinp htl) ⟨u2, _, rfl, fr9 _ _ upd_same rfl⟩
  obtain ⟨z6, z7, z8, xs, rfl, e3, hp3, hxl, hil3, hpr⟩ := h
  rw [Int.toNat_natCast, hil, ← hpl, ← hin, List.take_length] at hpr
  rw [Int.toNat_natCast] at hxl
  refine ⟨_, rfl, _, rfl, _, rfl, _, rfl, _, R, S, s1, k, deeper, b, rfl, e3.specs hR, e3.spec hsp0, hk, hkn, hn6, hok, by omega, by omega, fun r ys H4 e4 hr0 hr1 hpr2 => ?_⟩
  have hyl := hpr2.length
  refine ⟨p, r, xs, ys, rfl, rfl, e4.at hp3, hr1, by show _ ≤ 2 ^ 24; omega, fun p5 hp5n => ?_⟩
  have e5 := (e3.trans e4).trans (Ext.new hp5n (.lst (xs ++ ys)))
  have hp50 : H p5 = none := (e3.trans e4).free hp5n
  have hp5 : (upd H4 p5 (.lst (xs ++ ys))) p5 = some (.lst (xs ++ ys)) := upd_same
  have hpr5 : Paired (RwNm (upd H4 p5 (.lst (xs ++ ys)))) (xs ++ ys) (insRows deeper ahead b s1.ins ps ++ rowsF S n s1 deeper b) := paired_app ((e4.fr.trans (Fr.new hp5n _)).rwns hpr) ((Fr.new hp5n _).rwns hpr2)
  generalize hG5 : upd H4 p5 (.lst (xs ++ ys)) = G5 at e5 hp5 hpr5
  have hol : (s1.outs.map V.str).length = s1.outs.length := List.length_map ..
  have hbsl : ((b0 :: bs').map V.str).length = (b0 :: bs').length := List.length_map ..
  have o8 := hs1ok.o8
  refine ⟨_, rfl, t, _, 1, _, rfl, rfl, .of (e5.at ht), rfl, bt, _, rfl, .inr ((e5.fr.bnd hb).t), _, rfl, by omega, by rw [hbsl, hbl]; omega, for_range (n := ((((b0 :: bs').map V.str).length : Nat) : Int).toNat) (fun i σ H6 => ∃ z6 z9 zs, σ = [some (.ref t), some (.str ahead), some (onV b), some (.ref d1), some (.str deeper), some (.ref p5), z6, z7, z8, z9] ∧ Ext K H H6 ∧ H6 p5 = some (.lst zs) ∧ zs.length = xs.length + ys.length + i ∧ i ≤ (b0 :: bs').length ∧ Paired (RwNm H6) zs (insRows deeper ahead b s1.ins ps ++ rowsF S n s1 deeper b ++ (outRows S s1 deeper ahead b (b0 :: bs') s1.outs).take i))
    ⟨_, none, xs ++ ys, rfl, e5, hp5, by rw [List.length_append]; rfl, Nat.zero_le _, by rw [List.take_zero, List.append_nil]; exact hpr5⟩ (fun i σ H6 hi h => ?_) (fun σ H6 h => ?_)⟩
  · obtain ⟨z6, z9, zs, rfl, e6, hp6, hzl, hi6, hpr6⟩ := h
    rw [Int.toNat_natCast, hbsl] at hi
    have ei : (0 : Int) + ((i : Nat) : Int) = ((i : Nat) : Int) := Int.zero_add _
    have hnm : (b0 :: bs')[i]? = some (b0 :: bs')[i] := List.getElem?_eq_getElem hi
    have hou : s1.outs[i]? = some (s1.outs[i]'(by omega)) := List.getElem?_eq_getElem (by omega)
    generalize (b0 :: bs')[i] = nm at hnm
    generalize s1.outs[i]'(by omega) = ou at hou
    have hnm40 := hbs nm (List.mem_of_getElem? hnm)
    have hoin := hs1ok.outIn ou (List.mem_of_getElem? hou)
    have hou40 := hpo.small s1 hm1 ou hoin
    refine ⟨_, rfl, d1, .ref ol1, rfl, g3 e6, _, rfl, ol1, _, _, .str ou, rfl, rfl, .of (e6.at y9), by rw [ei]; exact atI_nat (by rw [List.getElem?_map, hou]; rfl), ?_⟩
    refine ⟨_, rfl, .inl ⟨rfl, _, .of hp6⟩, ?_⟩
    refine ⟨_, rfl, _, rfl, t, _, 1, _, rfl, rfl, .of (e6.at ht), rfl, _, rfl, bt, _, _, .str nm, rfl, rfl, (e6.fr.bnd hb).t, by rw [ei]; exact atI_nat (by rw [List.getElem?_map, hnm]; rfl), ahead, nm, rfl, rfl, by show _ ≤ 2 ^ 24; omega, ?_⟩
    refine ⟨_, rfl, _, rfl, _, R, S, s1, k, ou, rfl, e6.specs hR, e6.spec hsp0, hk, by omega, hok, hok.nms s1 hm1 ou hoin, fun kr H8 e8 => ?_⟩
    refine ⟨_, rfl, _, rfl, deeper, ou, rfl, rfl, by show _ ≤ 2 ^ 24; omega, szk 2, fun w1 hw1 => ⟨_, rfl, szk 4, fun u hu => ⟨p5, zs, _, rfl, rfl, (((e8.trans (Ext.new hw1 _)).trans (Ext.new hu _))).at hp6, by show _ < 2 ^ 24; simp only [List.length_cons] at *; omega, ?_⟩⟩⟩
    have e9 := (e8.trans (Ext.new hw1 (.tup [.str "named", .str (deeper ++ ou)]))).trans (Ext.new hu (.tup [.str (ahead ++ nm), kr, .ref w1, onV b]))
    refine ⟨_, _, zs ++ [.ref u], rfl, (e6.trans e9).push hp50 (e9.at hp6), upd_same, by rw [List.length_append, hzl]; rfl, by omega, ?_⟩
    have fr9 := Fr.put (e9.at hp6) (rfl : froz (.lst zs) = false) (.lst (zs ++ [.ref u]))
    rw [List.take_add_one, outRows_get hnm hou, ← List.append_assoc]
    exact Paired.snoc ((e9.fr.trans fr9).rwns hpr6) ⟨u, _, rfl, fr9 _ _ upd_same rfl⟩
  obtain ⟨z6, z9, zs, rfl, e6, hp6, hzl, hi6, hpr6⟩ := h
  rw [Int.toNat_natCast, hbsl, ← hout, List.take_length] at hpr6
  exact ⟨_, rfl, q p5 zs H6 e6 hp50 hp6 hpr6⟩
end

section
variable {P : Program} {w : World} {K : PySem.W.Frag} {mg : Str → Option Value} {base : Heap} {q : Str} {f : Addr}
theorem sc_law_rows : FnScope ["_law_spec_here", "_law_ahead_here", "_law_on_here", "_law_found", "_law_line", "_law_beat"] ["_law_spec_here", "_law_ahead_here", "_law_on_here"] (defScope s_law_rows) := ⟨rfl, rfl, rfl, by decide +kernel, rfl, by decide +kernel, by decide +kernel⟩
def sp_law_rows (K : PySem.W.Frag) (n : Nat) : Sp := sp_lrowsN K (n + 1)
theorem ln_law_rows {K : PySem.W.Frag} {n : Nat} : ∀ vs H Q E, (sp_law_rows K n) vs H Q E → vs.length = (["_law_spec_here", "_law_ahead_here", "_law_on_here"] : List Str).length := fun vs H Q E h => by
  obtain ⟨_, _, _, _, _, _, _, rfl, _⟩ := h
  rfl
theorem bd_law_rows (T : Top K mg) (n : Nat) (c_law_ahead : C8.Cal P w K mg base 4 "_law_ahead" (sp_laheadN K 3) []) (c_law_put : C8.Cal P w K mg base (9 + 2 * n) "_law_put" (sp_lputN K n) []) : Body P w K mg base q s_law_rows f ["_law_spec_here", "_law_ahead_here", "_law_on_here", "_law_found", "_law_line", "_law_beat"] (9 + 2 * n) (sp_law_rows K n) := fun cdv A outer s H vs Q E hr h => by
  have hu := hu_of hr
  obtain ⟨v, R, S, s0, j, ahead, on, rfl, hR, hs, hj, hjn, hn6, hok, hal, hlen, q⟩ := h
  refine ⟨_, (pss_cons (ps_set (i := 3) sc_law_rows.nd rfl (by first | exact Or.inl rfl | exact Or.inr rfl) (pe_lst pa_nil))
        (pss_cons (ps_for PassesOwn.never rfl (pi_list (pe_dget hu (pv 0) pe_str (fun _ _ => rfl))) (pg_name (i := 4) sc_law_rows.nd rfl (by first | exact Or.inl rfl | exact Or.inr rfl))
          (pss_cons (ps_set (i := 5) sc_law_rows.nd rfl (by first | exact Or.inl rfl | exact Or.inr rfl) (pv 2))
          (pss_cons (ps_if (pt_cmp (pc_notN (pe_ix ix_tup (pv 4) pe_int (fun _ _ => rfl)))) (pss_one (ps_set (i := 5) sc_law_rows.nd rfl (by first | exact Or.inl rfl | exact Or.inr rfl) (pe_op op_add_str (pv 1) (pe_ix ix_tup (pv 4) pe_int (fun _ _ => rfl))))) pss_nil)
          (pss_one (ps_if (pt_cmpR op_eq (pe_ix ix_tup (pv 4) pe_int (fun _ _ => rfl)) pe_str (nomark _)) (pss_one (ps_expr (pe_bm PySem.F.plainAttrs_list PySem.F.slot_list_append PySem.F.type_list_append mt_append (pv 3) (pa_cons (pe_tup (pa_cons (pe_op op_add_str (pv 1) (pe_ix ix_tup (pv 4) pe_int (fun _ _ => rfl))) (pa_cons (pe_ix ix_tup (pv 4) pe_int (fun _ _ => rfl)) (pa_cons (C8.pe_c c_law_ahead hr (by omega) rfl (pa_cons (pe_ix ix_tup (pv 4) pe_int (fun _ _ => rfl)) (pa_cons (pv 1) pa_nil))) (pa_cons (pv 5) pa_nil))))) pa_nil)))) (pss_one (ps_set (i := 3) sc_law_rows.nd rfl (by first | exact Or.inl rfl | exact Or.inr rfl) (pe_op op_cat (pv 3) (C8.pe_c c_law_put hr (by omega) rfl (pa_cons (pv 4) (pa_cons (pv 1) (pa_cons (pv 5) pa_nil))))))))))))
        (pss_one (ps_ret (pv 3))))), ?_⟩
  have hpo := hok.place
  have hmem := List.mem_of_getElem? hj
  have hsok := hok.ok.sheets s0 hmem
  have hs0 := hs
  obtain ⟨d, il, ol, ll, kvs, ivs, lvs, rfl, hd, v1, v2, v3, v4, h7, h8, h9, h10, h11⟩ := hs
  have g4 : ∀ {H1 : Hp}, Ext K H H1 → DGet H1 d (.str "lines") (some (.ref ll)) := fun e => by rw [← v4]; exact DGet.k (k := .inr "lines") (e.at hd)
  refine ⟨szk 0, fun p0 hp0 => ?_⟩
  have e2 : Ext K H (upd H p0 (.lst [])) := Ext.new hp0 _
  have z2 : (upd H p0 (.lst [])) p0 = some (.lst []) := upd_same
  generalize hG2 : upd H p0 (.lst []) = G2 at e2 z2
  have hll := h11.length
  refine ⟨_, rfl, d, .ref ll, rfl, g4 e2, ll, rfl, ⟨_, .of (e2.at h10)⟩, for_list (xs := lvs) (fun i σ H3 => ∃ p z5 z6 xs, σ = [some (.ref d), some (.str ahead), some (onV on), some (.ref p), z5, z6] ∧ H p = none ∧ Ext K H H3 ∧ H3 p = some (.lst xs) ∧ Paired (RwNm H3) xs ((s0.lns.take i).flatMap (lineRows S (rowsF S n) ahead on)))
    ⟨p0, none, none, [], rfl, hp0, e2, z2, .nil⟩ (fun i σ H3 _ h => ?_) (fun i x σ H3 hx h => ?_) (fun σ H3 h => ?_)⟩
  · obtain ⟨_, _, _, _, _, _, e3, _⟩ := h
    exact .of (e3.at h10)
  · obtain ⟨p, z5, z6, xs, rfl, hp, e3, hp3, hpr⟩ := h
    obtain ⟨l, hl0, hat⟩ := paired_get h11 hx
    have hml := List.mem_of_getElem? hl0
    have hat3 := e3.lnSp hat
    have hat30 := hat3
    have hxl := hpr.length
    have htot : ((s0.lns.take (i + 1)).flatMap (lineRows S (rowsF S n) ahead on)).length ≤ 2000 := Nat.le_trans (flat_take_le _) hlen
    rw [flatMap_take hl0, List.length_append] at htot
    have hnames : ∀ n ∈ l.borne, n.length ≤ 40 := fun n hn => hpo.small s0 hmem n (mem_names (a := .ln l) (List.mem_append_right _ (List.mem_map_of_mem hml)) hn)
    have hps : ∀ p ∈ l.eqs, p.ok ∧ p.dep ≤ 3 ∧ ∀ n ∈ p.names, n.length ≤ 40 := fun p hp => ⟨hpo.eqs s0 hmem l hml p hp, (hsok.eqIn l hml p hp).1, fun n hn => hpo.small s0 hmem n ((hsok.eqIn l hml p hp).2 n hn)⟩
    have hon40 : ∀ o, l.on = some o → o.length ≤ 40 := fun o ho => by
      obtain ⟨m, _, hc⟩ := hsok.chain (.ln l) (List.mem_append_right _ (List.mem_map_of_mem hml))
      have hc : ChainE s0.tri m l.on := hc
      rw [ho] at hc
      exact hpo.small s0 hmem o (chain_in hc)
    cases l with
    | row nm tr pp o =>
      obtain ⟨t, pv0, rfl, ht, hP⟩ := hat3
      obtain ⟨hok1, hd1, hn1⟩ := hps pp List.mem_cons_self
      have hnm40 := hnames nm List.mem_cons_self
      cases o with
      | none =>
        refine ⟨_, rfl, _, rfl, t, _, 4, _, rfl, rfl, .of ht, rfl, _, rfl, ite_f rfl ?_⟩
        refine ⟨_, rfl, t, _, 0, _, rfl, rfl, .of ht, rfl, rfl, _, rfl, ite_t (dt rfl) ?_⟩
        refine ⟨_, rfl, .inl ⟨rfl, _, .of hp3⟩, ?_⟩
        refine ⟨_, rfl, _, rfl, t, _, 1, _, rfl, rfl, .of ht, rfl, ahead, nm, rfl, rfl, by show _ ≤ 2 ^ 24; omega, ?_⟩
        refine ⟨_, rfl, t, _, 2, _, rfl, rfl, .of ht, rfl, ?_⟩
        refine ⟨_, rfl, t, _, 3, _, rfl, rfl, .of ht, rfl, _, rfl, _, pp, ahead, rfl, hok1, hd1, hP, fun n hn => by have := hn1 n hn; show _ ≤ 2 ^ 24; omega, fun r7 H7 e7 => ?_⟩
        refine ⟨_, rfl, szk 4, fun u hu => ⟨p, xs, _, rfl, rfl, (e7.trans (Ext.new hu _)).at hp3, by show _ < 2 ^ 24; omega, ?_⟩⟩
        have e8 := e7.trans (Ext.new hu (.tup [.str (ahead ++ nm), .str (trS tr), r7, onV on]))
        refine ⟨p, _, _, xs ++ [.ref u], rfl, hp, (e3.trans e8).push hp (e8.at hp3), upd_same, ?_⟩
        have fr9 := Fr.put (e8.at hp3) (rfl : froz (.lst xs) = false) (.lst (xs ++ [.ref u]))
        rw [flatMap_take hl0]
        exact paired_app ((e8.fr.trans fr9).rwns hpr) (.cons ⟨u, _, rfl, fr9 _ _ upd_same rfl⟩ .nil)
      | some o =>
        have ho40 := hon40 o rfl
        refine ⟨_, rfl, _, rfl, t, _, 4, _, rfl, rfl, .of ht, rfl, _, rfl, ite_t rfl ?_⟩
        refine ⟨_, rfl, _, rfl, t, _, 4, _, rfl, rfl, .of ht, rfl, ahead, o, rfl, rfl, by show _ ≤ 2 ^ 24; omega, ?_⟩
        refine ⟨_, rfl, t, _, 0, _, rfl, rfl, .of ht, rfl, rfl, _, rfl, ite_t (dt rfl) ?_⟩
        refine ⟨_, rfl, .inl ⟨rfl, _, .of hp3⟩, ?_⟩
        refine ⟨_, rfl, _, rfl, t, _, 1, _, rfl, rfl, .of ht, rfl, ahead, nm, rfl, rfl, by show _ ≤ 2 ^ 24; omega, ?_⟩
        refine ⟨_, rfl, t, _, 2, _, rfl, rfl, .of ht, rfl, ?_⟩
        refine ⟨_, rfl, t, _, 3, _, rfl, rfl, .of ht, rfl, _, rfl, _, pp, ahead, rfl, hok1, hd1, hP, fun n hn => by have := hn1 n hn; show _ ≤ 2 ^ 24; omega, fun r7 H7 e7 => ?_⟩
        refine ⟨_, rfl, szk 4, fun u hu => ⟨p, xs, _, rfl, rfl, (e7.trans (Ext.new hu _)).at hp3, by show _ < 2 ^ 24; omega, ?_⟩⟩
        have e8 := e7.trans (Ext.new hu (.tup [.str (ahead ++ nm), .str (trS tr), r7, .str (ahead ++ o)]))
        refine ⟨p, _, _, xs ++ [.ref u], rfl, hp, (e3.trans e8).push hp (e8.at hp3), upd_same, ?_⟩
        have fr9 := Fr.put (e8.at hp3) (rfl : froz (.lst xs) = false) (.lst (xs ++ [.ref u]))
        rw [flatMap_take hl0]
        exact paired_app ((e8.fr.trans fr9).rwns hpr) (.cons ⟨u, _, rfl, fr9 _ _ upd_same rfl⟩ .nil)
    | use bs k ps o =>
      obtain ⟨t, bt, pl, rv, pvs, rfl, ht, _⟩ := hat3
      obtain ⟨hkj, s1, hsk, q1, q2, q3⟩ := hok.ok.uses j s0 hj bs k ps o hml
      cases o with
      | none =>
        refine ⟨_, rfl, _, rfl, t, _, 4, _, rfl, rfl, .of ht, rfl, _, rfl, ite_f rfl ?_⟩
        refine ⟨_, rfl, t, _, 0, _, rfl, rfl, .of ht, rfl, rfl, _, rfl, ite_f (str_ne (by decide +kernel)) ?_⟩
        have hlr : (lineRows S (rowsF S n) ahead on (Ln.use bs k ps none)).length ≤ 2000 := by omega
        refine ⟨_, rfl, _, rfl, _, rfl, _, rfl, _, R, S, bs, k, ps, none, s1, ahead, on, rfl, e3.specs hR, hat30, hsk, by omega, by omega, hok, q1, q2, hps, hnames, by omega, hlr, fun r ys H4 e4 hr0 hr1 hpr2 => ?_⟩
        have hyl := hpr2.length
        have hyl2 : ys.length ≤ 2000 := Nat.le_trans (Nat.le_of_eq hyl) hlr
        refine ⟨p, r, xs, ys, rfl, rfl, e4.at hp3, hr1, by show _ ≤ 2 ^ 24; omega, fun p5 hp5 => ?_⟩
        refine ⟨p5, _, _, xs ++ ys, rfl, (e3.trans e4).free hp5, (e3.trans e4).trans (Ext.new hp5 _), upd_same, ?_⟩
        rw [flatMap_take hl0]
        exact paired_app ((e4.fr.trans (Fr.new hp5 _)).rwns hpr) ((Fr.new hp5 _).rwns hpr2)
      | some o =>
        have ho40 := hon40 o rfl
        refine ⟨_, rfl, _, rfl, t, _, 4, _, rfl, rfl, .of ht, rfl, _, rfl, ite_t rfl ?_⟩
        refine ⟨_, rfl, _, rfl, t, _, 4, _, rfl, rfl, .of ht, rfl, ahead, o, rfl, rfl, by show _ ≤ 2 ^ 24; omega, ?_⟩
        refine ⟨_, rfl, t, _, 0, _, rfl, rfl, .of ht, rfl, rfl, _, rfl, ite_f (str_ne (by decide +kernel)) ?_⟩
        have hlr : (lineRows S (rowsF S n) ahead on (Ln.use bs k ps (some o))).length ≤ 2000 := by omega
        refine ⟨_, rfl, _, rfl, _, rfl, _, rfl, _, R, S, bs, k, ps, (some o), s1, ahead, (some (ahead ++ o)), rfl, e3.specs hR, hat30, hsk, by omega, by omega, hok, q1, q2, hps, hnames, by omega, hlr, fun r ys H4 e4 hr0 hr1 hpr2 => ?_⟩
        have hyl := hpr2.length
        have hyl2 : ys.length ≤ 2000 := Nat.le_trans (Nat.le_of_eq hyl) hlr
        refine ⟨p, r, xs, ys, rfl, rfl, e4.at hp3, hr1, by show _ ≤ 2 ^ 24; omega, fun p5 hp5 => ?_⟩
        refine ⟨p5, _, _, xs ++ ys, rfl, (e3.trans e4).free hp5, (e3.trans e4).trans (Ext.new hp5 _), upd_same, ?_⟩
        rw [flatMap_take hl0]
        exact paired_app ((e4.fr.trans (Fr.new hp5 _)).rwns hpr) ((Fr.new hp5 _).rwns hpr2)
  · obtain ⟨p, z5, z6, xs, rfl, hp, e3, hp3, hpr⟩ := h
    rw [hll, List.take_length] at hpr
    exact ⟨_, rfl, q p xs H3 e3 hp hp3 hpr⟩
theorem lput_of (T : Top K mg) (n : Nat) (c : C8.Cal P w K mg base (8 + 2 * n) "_law_rows" (sp_lrowsN K n) []) : C8.Cal P w K mg base (9 + 2 * n) "_law_put" (sp_lputN K n) [] := by
  have h := cal_of (P := P) (w := w) (base := base) T 35 d_law_put s_law_put "_law_put" (k := 8 + 2 * n) rfl rfl rfl rfl T.g_law_put sc_law_put (fun _ _ _ _ _ _ us hl => match us, hl with | [_, _, _], _ => rfl) (ln_law_put (n := n)) (bd_law_put T n (fam_law_ahead T 3) (fam_law_kind T 6) c)
  have e : 8 + 2 * n + 1 = 9 + 2 * n := by omega
  rw [e] at h
  exact h
theorem fam_law_rows (T : Top K mg) : ∀ n : Nat, C8.Cal P w K mg base (8 + 2 * n) "_law_rows" (sp_lrowsN K n) []
  | 0 => cal_of T 34 d_law_rows s_law_rows "_law_rows" (k := 7) rfl rfl rfl rfl T.g_law_rows sc_law_rows (fun _ _ _ _ _ _ us hl => match us, hl with | [_, _, _], _ => rfl) (fun vs H Q E h => by obtain ⟨_, _, _, _, _, _, _, rfl, _⟩ := h; rfl) (fun _ _ _ _ _ _ _ _ _ h => by obtain ⟨_, _, _, _, _, _, _, _, _, _, _, z, _⟩ := h; exact absurd z (Nat.not_lt_zero _))
  | n + 1 => by
    have h := cal_of (P := P) (w := w) (base := base) T 34 d_law_rows s_law_rows "_law_rows" (k := 9 + 2 * n) rfl rfl rfl rfl T.g_law_rows sc_law_rows (fun _ _ _ _ _ _ us hl => match us, hl with | [_, _, _], _ => rfl) (ln_law_rows (n := n)) (bd_law_rows T n (fam_law_ahead T 3) (lput_of T n (fam_law_rows T n)))
    have e : 9 + 2 * n + 1 = 8 + 2 * (n + 1) := by omega
    rw [e] at h
    exact h
end

section
variable {P : Program} {w : World} {K : PySem.W.Frag} {mg : Str → Option Value} {base : Heap} {q : Str} {f : Addr}
/-! ### the rows, one by one -/
theorem mem_insRows {deeper ahead : Str} {b : Option Str} {r : Rw} : ∀ {is : List Inp} {ps : List Tl}, r ∈ insRows deeper ahead b is ps → ∃ i ∈ is, ∃ p ∈ ps, r = ⟨deeper ++ i.nm, i.kind.isT, p.ren (fun m => ahead ++ m), b⟩
  | [], _, h => by cases h
  | _ :: _, [], h => by cases h
  | i :: is, p :: ps, h => by
    rcases List.mem_cons.mp (show r ∈ _ :: insRows deeper ahead b is ps from h) with h | h
    · exact ⟨i, List.mem_cons_self, p, List.mem_cons_self, h⟩
    · obtain ⟨j, hj, q, hq, e⟩ := mem_insRows h
      exact ⟨j, List.mem_cons_of_mem _ hj, q, List.mem_cons_of_mem _ hq, e⟩
theorem mem_outRows {S : List Sh} {s : Sh} {deeper ahead : Str} {b : Option Str} {r : Rw} : ∀ {ns os : List Str}, r ∈ outRows S s deeper ahead b ns os → ∃ n ∈ ns, ∃ o ∈ os, r = ⟨ahead ++ n, kindF S 6 s o, .named (deeper ++ o), b⟩
  | [], _, h => by cases h
  | _ :: _, [], h => by cases h
  | i :: is, p :: ps, h => by
    rcases List.mem_cons.mp (show r ∈ _ :: outRows S s deeper ahead b is ps from h) with h | h
    · exact ⟨i, List.mem_cons_self, p, List.mem_cons_self, h⟩
    · obtain ⟨j, hj, q, hq, e⟩ := mem_outRows h
      exact ⟨j, List.mem_cons_of_mem _ hj, q, List.mem_cons_of_mem _ hq, e⟩
theorem rows_cases {S : List Sh} {f : Nat} {s : Sh} {ahead : Str} {on : Option Str} {r : Rw} (h : r ∈ rowsF S (f + 1) s ahead on) :
    (∃ nm tr p o, Ln.row nm tr p o ∈ s.lns ∧ r = ⟨ahead ++ nm, tr, p.ren (fun m => ahead ++ m), beat ahead on o⟩) ∨ ∃ bs k ps o s1, Ln.use bs k ps o ∈ s.lns ∧ S[k]? = some s1 ∧
      ((∃ i ∈ s1.ins, ∃ p ∈ ps, r = ⟨ahead ++ bs.headD "" ++ dotS ++ i.nm, i.kind.isT, p.ren (fun m => ahead ++ m), beat ahead on o⟩) ∨ r ∈ rowsF S f s1 (ahead ++ bs.headD "" ++ dotS) (beat ahead on o) ∨
        ∃ n ∈ bs, ∃ ou ∈ s1.outs, r = ⟨ahead ++ n, kindF S 6 s1 ou, .named (ahead ++ bs.headD "" ++ dotS ++ ou), beat ahead on o⟩) := by
  obtain ⟨l, hl, h⟩ := List.mem_flatMap.mp (show r ∈ s.lns.flatMap _ from h)
  cases l with
  | row nm tr p o => exact .inl ⟨nm, tr, p, o, hl, List.mem_singleton.mp h⟩
  | use bs k ps o =>
    have h : r ∈ useRows S (rowsF S f) ahead (beat ahead on o) bs k ps := h
    cases hs : S[k]? with
    | none =>
      unfold useRows at h
      rw [hs] at h
      cases h
    | some s1 =>
      rw [use_eq hs] at h
      rcases List.mem_append.mp h with h | h
      · rcases List.mem_append.mp h with h | h
        · exact .inr ⟨bs, k, ps, o, s1, hl, hs, .inl (mem_insRows h)⟩
        · exact .inr ⟨bs, k, ps, o, s1, hl, hs, .inr (.inl h)⟩
      · exact .inr ⟨bs, k, ps, o, s1, hl, hs, .inr (.inr (mem_outRows h))⟩
theorem head_mem {bs : List Str} (h : 1 ≤ bs.length) : bs.headD "" ∈ bs := by
  cases bs with
  | nil => cases h
  | cons b bs => exact List.mem_cons_self
theorem line_names {s : Sh} {l : Ln} (hl : l ∈ s.lns) {n : Str} (hn : n ∈ l.borne) : n ∈ s.names := mem_names (a := .ln l) (List.mem_append_right _ (List.mem_map_of_mem hl)) hn
theorem inp_names {s : Sh} {i : Inp} (hi : i ∈ s.ins) : i.nm ∈ s.names := mem_names (a := .inp i) (List.mem_append_left _ (List.mem_map_of_mem hi)) List.mem_cons_self
theorem rows_nm_len {S : List Sh} (hpo : PlaceOk S) : ∀ {f j : Nat} {s : Sh} {ahead : Str} {on : Option Str}, S[j]? = some s → j < f → ∀ r ∈ rowsF S f s ahead on, r.nm.length ≤ ahead.length + 100 * f
  | 0, _, _, _, _, _, h, _, _ => absurd h (Nat.not_lt_zero _)
  | f + 1, j, s, ahead, on, hs, hf, r, hr => by
    have hm := List.mem_of_getElem? hs
    rcases rows_cases hr with ⟨nm, tr, p, o, hl, rfl⟩ | ⟨bs, k, ps, o, s1, hl, hk, h⟩
    · have h1 := hpo.small s hm nm (line_names hl List.mem_cons_self)
      show (ahead ++ nm).length ≤ _
      rw [str_len_app]
      omega
    · obtain ⟨hkj, s2, hk2, q1, q2, q3⟩ := hpo.ok.uses j s hs bs k ps o hl
      rw [hk] at hk2
      obtain rfl := Option.some.inj hk2
      have hm1 := List.mem_of_getElem? hk
      have ho1 := (hpo.ok.sheets s1 hm1).o1
      have hb0 := hpo.small s hm _ (line_names hl (head_mem (bs := bs) (by omega)))
      have hdl : (ahead ++ bs.headD "" ++ dotS).length = ahead.length + (bs.headD "").length + 1 := by rw [str_len_app, str_len_app]; rfl
      rcases h with ⟨i, hi, p, hp, rfl⟩ | h | ⟨n, hn, ou, ho, rfl⟩
      · have h1 := hpo.small s1 hm1 i.nm (inp_names hi)
        show (ahead ++ bs.headD "" ++ dotS ++ i.nm).length ≤ _
        rw [str_len_app]
        omega
      · have ih := rows_nm_len hpo hk (by omega) r h
        omega
      · have h1 := hpo.small s hm n (line_names hl hn)
        show (ahead ++ n).length ≤ _
        rw [str_len_app]
        omega
theorem count_pos {S : List Sh} (hok : BookOk S) {f j : Nat} {s : Sh} (hs : S[j]? = some s) : 1 ≤ countF S (f + 1) s := by
  have hm := List.mem_of_getElem? hs
  have h1 := (hok.sheets s hm).l1
  show 1 ≤ (s.lns.map _).sum
  cases hl : s.lns with
  | nil => rw [hl] at h1; cases h1
  | cons l r =>
    have : 1 ≤ lineCnt S (countF S f) l := by
      cases l with
      | row => exact Nat.le_refl _
      | use bs k ps o =>
        obtain ⟨hkj, s2, hk2, q1, q2, q3⟩ := hok.uses j s hs bs k ps o (by rw [hl]; exact List.mem_cons_self)
        have := (hok.sheets s2 (List.mem_of_getElem? hk2)).o1
        show 1 ≤ ps.length + _ + bs.length
        omega
    rw [List.map_cons, List.sum_cons]
    omega
/-- what the law's first look tells -/
structure DueOk (S : List Sh) (s : Sh) : Prop where
  few : (rowsF S 6 s "" none).length ≤ 80
  words : ∀ r ∈ rowsF S 6 s "" none, (Txt.split r.nm dotS).length ≤ 4
  names : (s.ins.map Inp.nm ++ (rowsF S 6 s "" none).map Rw.nm).Nodup

theorem sc_law_due : FnScope ["_law_spec_here", "_law_rows_here", "_law_names", "_law_one", "_law_row"] ["_law_spec_here"] (defScope s_law_due) := ⟨rfl, rfl, rfl, by decide +kernel, rfl, by decide +kernel, by decide +kernel⟩
def sp_law_due (K : PySem.W.Frag) : Sp := fun vs H Q _ => ∃ (v : V) (R : List V) (S : List Sh) (s : Sh) (j : Nat), vs = [v] ∧ SpecsAt K R H S ∧ SpecAt K R H v s ∧ S[j]? = some s ∧ SpecOk S ∧ (∀ x H', Ext K H H' → Q (.str x) H') ∧ ∀ p xs H', Ext K H H' → H' p = some (.lst xs) → DueOk S s → Q (.ref p) H'
theorem ln_law_due {K : PySem.W.Frag} : ∀ vs H Q E, (sp_law_due K) vs H Q E → vs.length = (["_law_spec_here"] : List Str).length := fun vs H Q E h => by
  obtain ⟨_, _, _, _, _, rfl, _⟩ := h
  rfl
theorem bd_law_due (T : Top K mg) (c_law_rows : C8.Cal P w K mg base 20 "_law_rows" (sp_lrowsN K 6) []) : Body P w K mg base q s_law_due f ["_law_spec_here", "_law_rows_here", "_law_names", "_law_one", "_law_row"] (20) (sp_law_due K) := fun cdv A outer s H vs Q E hr h => by
  have hu := hu_of hr
  obtain ⟨v, R, S, s0, j, rfl, hR, hs, hj, hok, q1, q2⟩ := h
  refine ⟨_, (pss_cons (ps_set (i := 1) sc_law_due.nd rfl (by first | exact Or.inl rfl | exact Or.inr rfl) (C8.pe_c c_law_rows hr (by omega) rfl (pa_cons (pv 0) (pa_cons pe_str (pa_cons pe_non pa_nil)))))
        (pss_cons (ps_if (PW.pt (pw_or (pt_cmpR op_gt (pe_callB call_len_seq (by rfl) T.n_len PySem.boot_len (pa_cons (pv 1) pa_nil)) pe_int (nomark _)) (pw_or1 (pt_cmpR op_gt (pe_callB (cr_max rfl) (by rfl) T.n_max (by decide +kernel) (pa_cons (pe_lc (own := [("_law_row", 4)]) rfl sc_law_due.nd (pi_list (pv 1)) (blkOk_by (own := [("_law_row", 4)]) (N := ["_law_spec_here", "_law_rows_here", "_law_names", "_law_one", "_law_row"]) (sc := defScope s_law_due) (by decide +kernel)) (fun _ _ _ _ _ => (pg_name (i := 4) sc_law_due.nd rfl (by first | exact Or.inl rfl | exact Or.inr rfl))) (fun _ _ _ _ _ => pts_nil) (fun _ _ _ _ _ => (pe_callB (call_len_seqB (K := K) (by rfl)) (by rfl) T.n_len PySem.boot_len (pa_cons (pe_split (pe_ix (ix_tupB (K := K) (by rfl)) (pv 4) pe_int (fun _ _ => rfl)) pe_str) pa_nil)))) pa_nil)) pe_int (nomark _))))) (pss_one (ps_ret pe_str)) pss_nil)
        (pss_cons (ps_set (i := 2) sc_law_due.nd rfl (by first | exact Or.inl rfl | exact Or.inr rfl) (pe_op op_cat (pe_lc (own := [("_law_one", 3)]) rfl sc_law_due.nd (pi_list (pe_dget hu (pv 0) pe_str (fun _ _ => rfl))) (blkOk_by (own := [("_law_one", 3)]) (N := ["_law_spec_here", "_law_rows_here", "_law_names", "_law_one", "_law_row"]) (sc := defScope s_law_due) (by decide +kernel)) (fun _ _ _ _ _ => (pg_name (i := 3) sc_law_due.nd rfl (by first | exact Or.inl rfl | exact Or.inr rfl))) (fun _ _ _ _ _ => pts_nil) (fun _ _ _ _ _ => (pe_ix (ix_tupB (K := K) (by rfl)) (pv 3) pe_int (fun _ _ => rfl)))) (pe_lc (own := [("_law_row", 4)]) rfl sc_law_due.nd (pi_list (pv 1)) (blkOk_by (own := [("_law_row", 4)]) (N := ["_law_spec_here", "_law_rows_here", "_law_names", "_law_one", "_law_row"]) (sc := defScope s_law_due) (by decide +kernel)) (fun _ _ _ _ _ => (pg_name (i := 4) sc_law_due.nd rfl (by first | exact Or.inl rfl | exact Or.inr rfl))) (fun _ _ _ _ _ => pts_nil) (fun _ _ _ _ _ => (pe_ix (ix_tupB (K := K) (by rfl)) (pv 4) pe_int (fun _ _ => rfl))))))
        (pss_cons (ps_if (pt_cmpR op_lt (pe_lenSetS rfl T.n_len rfl T.n_set (pv 2)) (pe_callB call_len_seq (by rfl) T.n_len PySem.boot_len (pa_cons (pv 2) pa_nil)) (nomark _)) (pss_one (ps_ret pe_str)) pss_nil)
        (pss_one (ps_ret (pv 1))))))), ?_⟩
  have hpo := hok.place
  have h6 := hok.ok.l6
  have hj6 : j < 6 := by have := (List.getElem?_eq_some_iff.mp hj).1; omega
  have hmem := List.mem_of_getElem? hj
  have hs0 := hs
  obtain ⟨d, il, ol, ll, kvs, ivs, lvs, rfl, hd, v1, v2, v3, v4, h7, h8, h9, h10, h11⟩ := hs
  have g2 : ∀ {H1 : Hp}, Ext K H H1 → DGet H1 d (.str "inputs") (some (.ref il)) := fun e => by rw [← v2]; exact DGet.k (k := .inr "inputs") (e.at hd)
  have hcnt := rows_len hok.ok "" none hj hj6
  have hfew := hok.few s0 hmem
  have hpos : 1 ≤ countF S 6 s0 := count_pos hok.ok (f := 5) hj
  have hnl := rows_nm_len hpo (ahead := "") (on := none) hj hj6
  refine ⟨_, rfl, _, R, S, s0, j, "", none, rfl, hR, hs0, hj, hj6, by omega, hok, by show 0 + 600 ≤ 1000; decide, by omega, fun p xs H1 e1 hp0 hp1 hpr => ?_⟩
  generalize hrs : rowsF S 6 s0 "" none = rs at hcnt hnl hpr
  have hxl := hpr.length
  have hil := h8.length
  refine ⟨_, rfl, p, _, rfl, .inl (.of hp1), _, 80, rfl, rfl, _, rfl, ?_⟩
  by_cases h80 : (80 : Int) < ((xs.length : Nat) : Int)
  · exact ite_t (dt h80) (ite_t rfl (q1 _ _ e1))
  refine ite_f (df h80) ?_
  refine ⟨_, rfl, p, rfl, ⟨_, .of hp1⟩, lcL (K := K) (H1 := H1) (a := p) (xs := xs) (fun i acc _ => acc = (rs.take i).map fun r => V.int (((Txt.split r.nm dotS).length : Nat) : Int)) (fun _ h => h) (.of hp1) (by show _ ≤ 2 ^ 24; omega) rfl (fun i x hx acc H2 N S2 e2 pj hN hS => ?_) fun D ys H2 hD e2 hl2 hn pj => ?_⟩
  · obtain ⟨r, hr, t, y, rfl, ht⟩ := paired_get hpr hx
    have hrl := hnl r (List.mem_of_getElem? hr)
    have hz : (("" : Str)).length = 0 := rfl
    refine ⟨rfl, ?_⟩
    refine ⟨_, rfl, t, _, 0, _, rfl, rfl, e2.t (.of ht), at0 _ _, ⟨r.nm, rfl⟩, r.nm, dotS, rfl, rfl, rfl, by show _ ≤ 2 ^ 24; omega, fun p2 hp2 => ⟨p2, _, rfl, .inl (.of upd_same), hN _ _ (Ext.new hp2 _) ?_⟩⟩
    show _ ++ _ = _
    rw [show acc = _ from pj, List.take_add_one, hr, List.map_append, List.length_map]
    rfl
  have pj : ys = rs.map fun r => V.int (((Txt.split r.nm dotS).length : Nat) : Int) := by rw [show ys = _ from pj, hxl, List.take_length]
  refine ⟨D, rs.map fun r => (((Txt.split r.nm dotS).length : Nat) : Int), rfl, .of ?_, by rw [List.length_map]; omega, fun m hm hall => ?_⟩
  · rw [hl2, pj, List.map_map]
    rfl
  refine ⟨_, 4, rfl, rfl, _, rfl, ?_⟩
  by_cases h4 : (4 : Int) < m
  · exact ite_t (dt h4) (q1 _ _ (e1.trans e2))
  refine ite_f (df h4) ?_
  have hw4 : ∀ r ∈ rs, (Txt.split r.nm dotS).length ≤ 4 := fun r hr => by
    have := hall _ (List.mem_map_of_mem hr)
    omega
  have E2 := e1.trans e2
  have i8 := (hok.ok.sheets s0 hmem).few.ins
  refine ⟨_, rfl, d, .ref il, rfl, g2 E2, il, rfl, ⟨_, .of (E2.at h7)⟩, lcL (K := K) (H1 := H2) (a := il) (xs := ivs) (fun i acc _ => acc = (s0.ins.take i).map fun i => V.str i.nm) (fun _ h => h) (.of (E2.at h7)) (by show _ ≤ 2 ^ 24; omega) rfl (fun i x hx acc H3 N S2 e3 pj hN hS => ?_) fun D2 ys2 H3 hD2 e3 hl3 hn3 pj2 => ?_⟩
  · obtain ⟨inp, hinp, t, kv, rfl, ht, _⟩ := paired_get h8 hx
    refine ⟨rfl, ?_⟩
    refine ⟨_, rfl, t, _, 0, _, rfl, rfl, (E2.trans e3).t (.of ht), at0 _ _, hN _ _ (Ext.refl K _) ?_⟩
    show _ ++ _ = _
    rw [show acc = _ from pj, List.take_add_one, hinp, List.map_append]
    rfl
  have pj2 : ys2 = (s0.ins.map Inp.nm).map V.str := by rw [show ys2 = _ from pj2, hil, List.take_length, List.map_map]; rfl
  have hp3 := (e2.trans e3).at hp1
  refine ⟨_, rfl, p, rfl, ⟨_, .of hp3⟩, lcL (K := K) (H1 := H3) (a := p) (xs := xs) (fun i acc _ => acc = (rs.take i).map fun r => V.str r.nm) (fun _ h => h) (.of hp3) (by show _ ≤ 2 ^ 24; omega) rfl (fun i x hx acc H4 N S2 e4 pj hN hS => ?_) fun D3 ys3 H4 hD3 e4 hl4 hn4 pj3 => ?_⟩
  · obtain ⟨r, hr, t, y, rfl, ht⟩ := paired_get hpr hx
    refine ⟨rfl, ?_⟩
    refine ⟨_, rfl, t, _, 0, _, rfl, rfl, ((e2.trans e3).trans e4).t (.of ht), at0 _ _, hN _ _ (Ext.refl K _) ?_⟩
    show _ ++ _ = _
    rw [show acc = _ from pj, List.take_add_one, hr, List.map_append]
    rfl
  have pj3 : ys3 = (rs.map Rw.nm).map V.str := by rw [show ys3 = _ from pj3, hxl, List.take_length, List.map_map]; rfl
  have l2 : ys2.length = s0.ins.length := by rw [pj2, List.length_map, List.length_map]
  have l3 : ys3.length = rs.length := by rw [pj3, List.length_map, List.length_map]
  refine ⟨D2, D3, ys2, ys3, rfl, rfl, e4.at hl3, hl4, by show _ ≤ 2 ^ 24; omega, fun z hz => ?_⟩
  have e5 := E2.trans ((e3.trans e4).trans (Ext.new hz (.lst (ys2 ++ ys3))))
  have hzz : (upd H4 z (.lst (ys2 ++ ys3))) z = some (.lst ((s0.ins.map Inp.nm ++ rs.map Rw.nm).map V.str)) := by rw [upd_same, pj2, pj3, List.map_append]
  have hpz := (((e2.trans e3).trans e4).trans (Ext.new hz (.lst (ys2 ++ ys3)))).at hp1
  generalize upd H4 z (.lst (ys2 ++ ys3)) = H5 at e5 hzz hpz
  have hnl2 : (s0.ins.map Inp.nm ++ rs.map Rw.nm).length = s0.ins.length + rs.length := by rw [List.length_append, List.length_map, List.length_map]
  refine ⟨_, rfl, z, s0.ins.map Inp.nm ++ rs.map Rw.nm, rfl, .inl (.of hzz), by omega, _, rfl, z, _, rfl, .inl (.of hzz), _, _, rfl, rfl, _, rfl, ?_⟩
  rw [List.length_map]
  by_cases hlt : ((((ded [] (s0.ins.map Inp.nm ++ rs.map Rw.nm)).length : Nat) : Int) < (((s0.ins.map Inp.nm ++ rs.map Rw.nm).length : Nat) : Int))
  · exact ite_t (dt hlt) (q1 _ _ e5)
  · refine ite_f (df hlt) ⟨_, rfl, q2 p xs H5 e5 hpz ⟨by rw [hrs]; omega, by rw [hrs]; exact hw4, by rw [hrs]; exact ded_len (by omega)⟩⟩
theorem ok_law_due (T : Top K mg) : C8.Cal P w K mg base 21 "_law_due" (sp_law_due K) [] :=
  cal_of T 36 d_law_due s_law_due "_law_due" rfl rfl rfl rfl T.g_law_due sc_law_due (fun _ _ _ _ _ _ us hl => match us, hl with | [_], _ => rfl) ln_law_due (bd_law_due T (fam_law_rows T 6))
end

section
variable {P : Program} {w : World} {K : PySem.W.Frag} {mg : Str → Option Value} {base : Heap} {q : Str} {f : Addr}
theorem sc_law_sheet : FnScope ["_law_spec_here", "_law_lines", "_law_line", "_law_inputs", "_law_one"] ["_law_spec_here"] (defScope s_law_sheet) := ⟨rfl, rfl, rfl, by decide +kernel, rfl, by decide +kernel, by decide +kernel⟩
def sp_law_sheet (K : PySem.W.Frag) : Sp := fun vs H Q _ => ∃ (v : V) (R : List V) (S : List Sh) (s : Sh) (j : Nat), vs = [v] ∧ SpecsAt K R H S ∧ SpecAt K R H v s ∧ S[j]? = some s ∧ SpecOk S ∧ ∀ r H', Ext K H H' → SheetAt K (S.map Sh.nm) H' r s → Q r H'
theorem ln_law_sheet {K : PySem.W.Frag} : ∀ vs H Q E, (sp_law_sheet K) vs H Q E → vs.length = (["_law_spec_here"] : List Str).length := fun vs H Q E h => by
  obtain ⟨_, _, _, _, _, rfl, _⟩ := h
  rfl
theorem bd_law_sheet (T : Top K mg) (mk_Row : C8.Mak P w K mg base 5 "Row" (He.ga K "Row") (sp_Row_init K) []) (c_part_of : C8.Cal P w K mg base 10 "part_of" (sp_part_ofN K 3) []) (mk_Use : C8.Mak P w K mg base 5 "Use" (He.ga K "Use") (sp_Use_init K) []) (mk_Input : C8.Mak P w K mg base 5 "Input" (He.ga K "Input") (sp_Input_init K) []) (mk_Sheet : C8.Mak P w K mg base 7 "Sheet" (He.ga K "Sheet") (sp_Sheet_init K) []) : Body P w K mg base q s_law_sheet f ["_law_spec_here", "_law_lines", "_law_line", "_law_inputs", "_law_one"] (10) (sp_law_sheet K) := fun cdv A outer s H vs Q E hr h => by
  have hu := hu_of hr
  obtain ⟨v, R, S, s0, j, rfl, hR, hs, hj, hok, q⟩ := h
  refine ⟨_, (pss_cons (ps_set (i := 1) sc_law_sheet.nd rfl (by first | exact Or.inl rfl | exact Or.inr rfl) (pe_lst pa_nil))
        (pss_cons (ps_for PassesOwn.never rfl (pi_list (pe_dget hu (pv 0) pe_str (fun _ _ => rfl))) (pg_name (i := 2) sc_law_sheet.nd rfl (by first | exact Or.inl rfl | exact Or.inr rfl))
          (pss_one (ps_if (pt_cmpR op_eq (pe_ix ix_tup (pv 2) pe_int (fun _ _ => rfl)) pe_str (nomark _)) (pss_one (ps_expr (pe_bm PySem.F.plainAttrs_list PySem.F.slot_list_append PySem.F.type_list_append mt_append (pv 1) (pa_cons (C8.pe_mk mk_Row hr (by omega) rfl (pa_cons (pe_ix ix_tup (pv 2) pe_int (fun _ _ => rfl)) (pa_cons (pe_ix ix_tup (pv 2) pe_int (fun _ _ => rfl)) (pa_cons (C8.pe_c c_part_of hr (by omega) rfl (pa_cons (pe_ix ix_tup (pv 2) pe_int (fun _ _ => rfl)) pa_nil)) (pa_cons (pe_ix ix_tup (pv 2) pe_int (fun _ _ => rfl)) pa_nil))))) pa_nil)))) (pss_one (ps_expr (pe_bm PySem.F.plainAttrs_list PySem.F.slot_list_append PySem.F.type_list_append mt_append (pv 1) (pa_cons (C8.pe_mk mk_Use hr (by omega) rfl (pa_cons (pe_callTy call_list_of (by rfl) T.n_list (by decide +kernel) (pa_cons (pe_ix ix_tup (pv 2) pe_int (fun _ _ => rfl)) pa_nil)) (pa_cons (pe_dget hu (pe_ix ix_tup (pv 2) pe_int (fun _ _ => rfl)) pe_str (fun _ _ => rfl)) (pa_cons (pe_lc (own := [("_law_one", 4)]) rfl sc_law_sheet.nd (pi_list (pe_ix ix_tup (pv 2) pe_int (fun _ _ => rfl))) (blkOk_by (own := [("_law_one", 4)]) (N := ["_law_spec_here", "_law_lines", "_law_line", "_law_inputs", "_law_one"]) (sc := defScope s_law_sheet) (by decide +kernel)) (fun _ _ _ _ _ => (pg_name (i := 4) sc_law_sheet.nd rfl (by first | exact Or.inl rfl | exact Or.inr rfl))) (fun _ _ _ _ _ => pts_nil) (fun _ _ _ _ _ => (C8.pe_c c_part_of hr (by omega) rfl (pa_cons (pv 4) pa_nil)))) (pa_cons (pe_ix ix_tup (pv 2) pe_int (fun _ _ => rfl)) pa_nil))))) pa_nil)))))))
        (pss_cons (ps_setLc (i := 3) rfl sc_law_sheet.nd rfl rfl (sw_true rfl rfl rfl (by decide +kernel)) (own := [("_law_one", 4)]) (pi_list (pe_dget hu (pv 0) pe_str (fun _ _ => rfl))) (blkOk_by (own := [("_law_one", 4)]) (N := ["_law_spec_here", "_law_lines", "_law_line", "_law_inputs", "_law_one"]) (sc := defScope s_law_sheet) (by decide +kernel)) (fun _ _ _ _ _ => (pg_name (i := 4) sc_law_sheet.nd rfl (by first | exact Or.inl rfl | exact Or.inr rfl))) (fun _ _ _ _ _ => pts_nil) (fun _ _ _ _ _ => (C8.pe_mk mk_Input hr (by omega) rfl (pa_cons (pe_ix (ix_tupB (K := K) (by rfl)) (pv 4) pe_int (fun _ _ => rfl)) (pa_cons (pe_ix (ix_tupB (K := K) (by rfl)) (pv 4) pe_int (fun _ _ => rfl)) (pa_cons (pe_ix (ix_tupB (K := K) (by rfl)) (pv 4) pe_int (fun _ _ => rfl)) pa_nil))))))
        (pss_one (ps_ret (C8.pe_mk mk_Sheet hr (by omega) rfl (pa_cons (pe_dget hu (pv 0) pe_str (fun _ _ => rfl)) (pa_cons (pv 3) (pa_cons (pe_dget hu (pv 0) pe_str (fun _ _ => rfl)) (pa_cons (pv 1) pa_nil)))))))))), ?_⟩
  have hmem := List.mem_of_getElem? hj
  have hsok := hok.ok.sheets s0 hmem
  obtain ⟨d, il, ol, ll, kvs, ivs, lvs, rfl, hd, v1, v2, v3, v4, h7, h8, h9, h10, h11⟩ := hs
  have g1 : ∀ {H1 : Hp}, Ext K H H1 → DGet H1 d (.str "name") (some (.str s0.nm)) := fun e => by rw [← v1]; exact DGet.k (k := .inr "name") (e.at hd)
  have g2 : ∀ {H1 : Hp}, Ext K H H1 → DGet H1 d (.str "inputs") (some (.ref il)) := fun e => by rw [← v2]; exact DGet.k (k := .inr "inputs") (e.at hd)
  have g3 : ∀ {H1 : Hp}, Ext K H H1 → DGet H1 d (.str "outputs") (some (.ref ol)) := fun e => by rw [← v3]; exact DGet.k (k := .inr "outputs") (e.at hd)
  have g4 : ∀ {H1 : Hp}, Ext K H H1 → DGet H1 d (.str "lines") (some (.ref ll)) := fun e => by rw [← v4]; exact DGet.k (k := .inr "lines") (e.at hd)
  refine ⟨szk 0, fun p hp => ?_⟩
  have e2 : Ext K H (upd H p (.lst [])) := Ext.new hp _
  have z2 : (upd H p (.lst [])) p = some (.lst []) := upd_same
  generalize hG2 : upd H p (.lst []) = G2 at e2 z2
  have hll := h11.length
  have hil := h8.length
  have l80 := hsok.few.lns
  have i8 := hsok.few.ins
  refine ⟨_, rfl, d, .ref ll, rfl, g4 e2, ll, rfl, ⟨_, .of (e2.at h10)⟩, for_list (xs := lvs) (fun i σ H3 => ∃ z2 acc, σ = [some (.ref d), some (.ref p), z2, none, none] ∧ Ext K H H3 ∧ H3 p = some (.lst acc) ∧ Paired (LineAt K (S.map Sh.nm) H3) acc (s0.lns.take i))
    ⟨none, [], rfl, e2, z2, .nil⟩ (fun i σ H3 _ h => ?_) (fun i x σ H3 hx h => ?_) (fun σ H3 h => ?_)⟩
  · obtain ⟨_, _, _, e3, _⟩ := h
    exact .of (e3.at h10)
  · obtain ⟨w2, acc, rfl, e3, hp3, hpr⟩ := h
    obtain ⟨l, hl0, hat⟩ := paired_get h11 hx
    have hml := List.mem_of_getElem? hl0
    have hi : i < s0.lns.length := (List.getElem?_eq_some_iff.mp hl0).1
    have hal : acc.length ≤ 80 := by have := hpr.length; rw [List.length_take] at this; omega
    have hnms : ∀ n ∈ l.borne, Nm n := fun n hn => hok.nms s0 hmem n (line_names hml hn)
    have hpok : ∀ p ∈ l.eqs, p.ok ∧ p.dep ≤ 3 := fun p hp => ⟨hok.eqs s0 hmem l hml p hp, (hsok.eqIn l hml p hp).1⟩
    have hon : ∀ o, l.on = some o → Nm o := fun o ho => by
      obtain ⟨m, _, hc⟩ := hsok.chain (.ln l) (List.mem_append_right _ (List.mem_map_of_mem hml))
      have hc : ChainE s0.tri m l.on := hc
      rw [ho] at hc
      exact hok.nms s0 hmem o (chain_in hc)
    have hat3 := e3.lnSp hat
    cases l with
    | row nm tr pp o =>
      obtain ⟨t, pv0, rfl, ht, hP⟩ := hat3
      obtain ⟨ok1, dp1⟩ := hpok pp List.mem_cons_self
      refine ⟨_, rfl, t, _, 0, _, rfl, rfl, .of ht, rfl, rfl, _, rfl, ite_t (dt rfl) ?_⟩
      refine ⟨_, rfl, .inl ⟨rfl, _, .of hp3⟩, ?_⟩
      refine ⟨_, rfl, t, _, 1, _, rfl, rfl, .of ht, rfl, _, rfl, t, _, 2, _, rfl, rfl, .of ht, rfl, ?_⟩
      refine ⟨_, rfl, t, _, 3, _, rfl, rfl, .of ht, rfl, _, pp, rfl, ok1, dp1, dp1, hP, fun r5 H5 e5 hP5 => ?_⟩
      refine ⟨_, rfl, t, _, 4, _, rfl, rfl, .of (e5.at ht), rfl, fun y0 dx hy hdx ne => ?_⟩
      refine ⟨y0, nm, tr, r5, pp, o, rfl, hnms nm List.mem_cons_self, hon, dx, H5, upd_same, hy, Ext.made hy hdx _ _ ne, hP5, fun H6 e6 hl6 => ⟨rfl, p, acc, _, rfl, rfl, (e5.trans e6).at hp3, by show _ < 2 ^ 24; omega, ?_⟩⟩
      have fr7 := Fr.put ((e5.trans e6).at hp3) (rfl : froz (.lst acc) = false) (.lst (acc ++ [.ref y0]))
      exact ⟨_, acc ++ [.ref y0], rfl, ((e3.trans e5).trans e6).push hp ((e5.trans e6).at hp3), upd_same, paired_step (Paired.mapP hpr fun _ _ z => ((e5.trans e6).fr.trans fr7).line z) hl0 (fr7.line (hl6 _))⟩
    | use bs k ps o =>
      obtain ⟨t, bt, pl, rv, pvs, rfl, ht, hb, hrk, hpl, hpv⟩ := hat3
      obtain ⟨hkj, s1, hsk, q1, q2, q3⟩ := hok.ok.uses j s0 hj bs k ps o hml
      have hm1 := List.mem_of_getElem? hsk
      have hs1 := hok.ok.sheets s1 hm1
      have hsp := (e3.specs hR).at hsk hrk
      obtain ⟨d1, il1, ol1, ll1, kvs1, ivs1, lvs1, rfl, hd1, w1, _⟩ := hsp
      have hbl8 := (hsok.few.each _ hml)
      have hb8 : bs.length ≤ 8 := hbl8.1
      have hp8 : ps.length ≤ 8 := hbl8.2
      have hpvl := hpv.length
      have ho1 := hs1.o1
      refine ⟨_, rfl, t, _, 0, _, rfl, rfl, .of ht, rfl, rfl, _, rfl, ite_f (str_ne (by decide +kernel)) ?_⟩
      refine ⟨_, rfl, .inl ⟨rfl, _, .of hp3⟩, ?_⟩
      refine ⟨_, rfl, t, _, 1, _, rfl, rfl, .of ht, rfl, bt, _, rfl, .inr hb.t, fun bl hbl => ?_⟩
      have e4 : Ext K H3 (upd H3 bl (.lst (bs.map V.str))) := Ext.new hbl _
      have hbl4 : (upd H3 bl (.lst (bs.map V.str))) bl = some (.lst (bs.map V.str)) := upd_same
      generalize upd H3 bl (.lst (bs.map V.str)) = H4 at e4 hbl4
      have gn : DGet H4 d1 (.str "name") (some (.str s1.nm)) := by rw [← w1]; exact DGet.k (k := .inr "name") (e4.at hd1)
      refine ⟨_, rfl, t, _, 2, _, rfl, rfl, .of (e4.at ht), rfl, d1, _, rfl, gn, ?_⟩
      refine ⟨_, rfl, t, _, 3, _, rfl, rfl, .of (e4.at ht), rfl, pl, rfl, ⟨_, .of (e4.at hpl)⟩, lcL (K := K) (H1 := H4) (a := pl) (xs := pvs) (fun i acc H5 => Paired (PartAt K H5) acc (ps.take i)) (fun e h => Paired.mapP h fun _ _ z => e.part z) (.of (e4.at hpl)) (by show _ ≤ 2 ^ 24; omega) .nil (fun i x hx acc H5 N S2 e5 pj hN hS => ?_) fun D ys H5 hD e5 hl5 hn5 pj => ?_⟩
      · obtain ⟨pp, hpp, hP⟩ := paired_get hpv hx
        obtain ⟨ok1, dp1⟩ := hpok pp (List.mem_of_getElem? hpp)
        refine ⟨rfl, ?_⟩
        exact ⟨_, rfl, _, pp, rfl, ok1, dp1, dp1, (e4.trans e5).fr.dp hP (told_noL _), fun r6 H6 e6 hP6 => hN _ _ e6 (paired_step (Paired.mapP pj fun _ _ z => e6.fr.part z) hpp hP6)⟩
      have pj := paired_all pj hpvl
      refine ⟨_, rfl, t, _, 4, _, rfl, rfl, .of ((e4.trans e5).at ht), rfl, fun y0 dx hy hdx ne => ?_⟩
      refine ⟨y0, bl, D, bs, s1.nm, ys, ps, o, rfl, hnms, by omega, hb8, hs1.nm, hon, dx, H5, upd_same, hy, Ext.made hy hdx _ _ ne, e5.at hbl4, hl5, pj, fun H6 e6 hl6 => ⟨rfl, p, acc, _, rfl, rfl, ((e4.trans e5).trans e6).at hp3, by show _ < 2 ^ 24; omega, ?_⟩⟩
      have E6 := (e4.trans e5).trans e6
      have fr7 := Fr.put (E6.at hp3) (rfl : froz (.lst acc) = false) (.lst (acc ++ [.ref y0]))
      exact ⟨_, acc ++ [.ref y0], rfl, (e3.trans E6).push hp (E6.at hp3), upd_same, paired_step (Paired.mapP hpr fun _ _ z => (E6.fr.trans fr7).line z) hl0 (fr7.line (hl6 _ k (by rw [List.getElem?_map, hsk]; rfl)))⟩
  obtain ⟨w2, acc, rfl, e3, hp3, hpr⟩ := h
  have hpr := paired_all hpr hll
  refine ⟨_, rfl, d, .ref il, rfl, g2 e3, il, rfl, ⟨_, .of (e3.at h7)⟩, lcL (K := K) (H1 := H3) (a := il) (xs := ivs) (fun i acc H4 => Paired (InputAt K H4) acc (s0.ins.take i)) (fun e h => Paired.mapP h fun _ _ z => e.input z) (.of (e3.at h7)) (by show _ ≤ 2 ^ 24; omega) .nil (fun i x hx acc2 H4 N S2 e4 pj hN hS => ?_) fun D ys H4 hD e4 hl4 hn4 pj => ?_⟩
  · obtain ⟨inp, hinp, t, kv, rfl, ht, hk⟩ := paired_get h8 hx
    have hmi := List.mem_of_getElem? hinp
    have E4 := e3.trans e4
    refine ⟨rfl, ?_⟩
    refine ⟨_, rfl, t, _, 0, _, rfl, rfl, .of (E4.at ht), rfl, _, rfl, t, _, 1, _, rfl, rfl, .of (E4.at ht), rfl, _, rfl, t, _, 2, _, rfl, rfl, .of (E4.at ht), rfl, fun y0 dx hy hdx ne => ?_⟩
    exact ⟨y0, inp, kv, rfl, hok.nms s0 hmem _ (inp_names hmi), hok.kinds s0 hmem inp hmi, dx, H4, upd_same, hy, Ext.made hy hdx _ _ ne, E4.fr.kind hk, fun H6 e6 hl6 => ⟨rfl, hN _ _ e6 (paired_step (Paired.mapP pj fun _ _ z => e6.fr.input z) hinp hl6)⟩⟩
  have pj := paired_all pj hil
  have E4 := e3.trans e4
  refine ⟨_, rfl, d, _, rfl, g1 E4, _, rfl, _, rfl, d, _, rfl, g3 E4, _, rfl, fun y0 dx hy hdx ne => ?_⟩
  exact ⟨y0, D, ol, p, s0, S.map Sh.nm, ys, acc, rfl, hsok, dx, H4, upd_same, hy, Ext.made hy hdx _ _ ne, .inl hl4, pj, .inl (E4.at h9), .inl (e4.at hp3), Paired.mapP hpr fun _ _ z => e4.fr.line z, fun H5 e5 hs5 => ⟨rfl, q _ H5 (E4.trans e5) hs5⟩⟩
theorem ok_law_sheet (T : Top K mg) : C8.Cal P w K mg base 11 "_law_sheet" (sp_law_sheet K) [] :=
  cal_of T 31 d_law_sheet s_law_sheet "_law_sheet" rfl rfl rfl rfl T.g_law_sheet sc_law_sheet (fun _ _ _ _ _ _ us hl => match us, hl with | [_], _ => rfl) ln_law_sheet (bd_law_sheet T (ok_Row_init T) (fam_part_of T 3) (ok_Use_init T) (ok_Input_init T) (ok_Sheet_init T))
end

section
variable {P : Program} {w : World} {K : PySem.W.Frag} {mg : Str → Option Value} {base : Heap} {q : Str} {f : Addr}
/-! ### what is shown of a sheet -/
def lnD (ns : List Str) : Ln → PyData
  | .row nm tr p on => .tuple [.str nm, .str (trS tr), p.told, onD on]
  | .use bs k ps on => .tuple [.tuple (bs.map PyData.str), .str (ns.getD k ""), .list (ps.map Tl.told), onD on]
def shD (ns : List Str) (s : Sh) : PyData := .list (s.lns.map (lnD ns))
/-- a shown line; its list stands elsewhere than p, and is not known in H0 -/
def LnShown (K : PySem.W.Frag) (ns : List Str) (H0 : Hp) (p : Addr) (H : Hp) : V → Ln → Prop
  | v, .row nm tr pp on => Dp K H v (lnD ns (.row nm tr pp on))
  | v, .use bs k ps on => ∃ (t bt r : Addr) (ys : List V), v = .ref t ∧ SqT K H t [.ref bt, .str (ns.getD k ""), .ref r, onV on] ∧ BndAt H bt bs ∧ r ≠ p ∧ H0 r = none ∧ H r = some (.lst ys) ∧ DpAll K H ys (ps.map Tl.told)
theorem strs_noL : ∀ l : List Str, noLs (l.map PyData.str) = true
  | [] => rfl
  | _ :: l => strs_noL l
theorem tolds_noL : ∀ l : List Tl, noLs (l.map Tl.told) = true
  | [] => rfl
  | p :: l => by
    show (noL p.told && noLs (l.map Tl.told)) = true
    rw [told_noL, tolds_noL l]
    rfl
theorem onD_noL (o : Option Str) : noL (onD o) = true := by cases o <;> rfl
theorem row_noL (ns : List Str) (nm : Str) (tr : Bool) (p : Tl) (on : Option Str) : noL (lnD ns (.row nm tr p on)) = true := by simp [lnD, noL, noLs, told_noL, onD_noL]
section
variable {K : PySem.W.Frag} {ns : List Str} {H0 H H1 : Hp} {p : Addr} {v : V}
theorem LnShown.keep (fr : Fr H H1) (ls : ∀ r ys, r ≠ p → H r = some (.lst ys) → H1 r = some (.lst ys)) : ∀ {l : Ln}, LnShown K ns H0 p H v l → LnShown K ns H0 p H1 v l
  | .row nm tr pp on, h => fr.dp h (row_noL ns nm tr pp on)
  | .use bs k ps on, ⟨t, bt, r, ys, h1, h2, h3, h4, h5, h6, h7⟩ => ⟨t, bt, r, ys, h1, fr.t h2, fr.bnd h3, h4, h5, ls r ys h4 h6, fr.dpa h7 (tolds_noL ps)⟩
/-- hidden: a list that was known -/
theorem forget_fr {D : Addr} {l : List V} (h : H D = some (.lst l)) : Fr H (forget H D) := fun b o e f => by
  rw [forget_ne fun z => ?_]
  · exact e
  · rw [z, h] at e
    cases e
    cases f
theorem LnShown.dp : ∀ {l : Ln}, LnShown K ns H0 p H v l → Dp K H v (lnD ns l)
  | .row _ _ _ _, h => h
  | .use bs k ps on, ⟨t, bt, r, ys, h1, h2, h3, h4, h5, h6, h7⟩ => by rw [h1]; exact .tup h2 (.cons (.tup h3.t (dpa_strs bs)) (.cons (.str _) (.cons (.lst (.of h6) h7) (.cons (dp_on on) .nil))))
theorem LnShown.hid {D : Addr} {l0 : List V} (hD : H D = some (.lst l0)) (h0 : H0 D ≠ none) {l : Ln} (h : LnShown K ns H0 p H v l) : Dp K (forget H D) v (lnD ns l) := by
  have fr := forget_fr hD
  cases l with
  | row nm tr pp on => exact fr.dp h (row_noL ns nm tr pp on)
  | use bs k ps on =>
    obtain ⟨t, bt, r, ys, h1, h2, h3, h4, h5, h6, h7⟩ := h
    rw [h1]
    have hr : r ≠ D := fun z => h0 (by rw [← z]; exact h5)
    exact .tup (fr.t h2) (.cons (.tup (fr.bnd h3).t (dpa_strs bs)) (.cons (.str _) (.cons (.lst (.of (by rw [forget_ne hr]; exact h6)) (fr.dpa h7 (tolds_noL ps))) (.cons (dp_on on) .nil))))
theorem shown_all {R : V → Ln → Prop} (hR : ∀ v l, R v l → Dp K H v (lnD ns l)) : ∀ {xs : List V} {ls : List Ln}, Paired R xs ls → DpAll K H xs (ls.map (lnD ns))
  | _, _, .nil => .nil
  | _, _, .cons h t => .cons (hR _ _ h) (shown_all hR t)
end

theorem sc_law_shown : FnScope ["_law_sheet_here", "_law_found", "_law_line", "_law_part"] ["_law_sheet_here"] (defScope s_law_shown) := ⟨rfl, rfl, rfl, by decide +kernel, rfl, by decide +kernel, by decide +kernel⟩
def sp_law_shown (K : PySem.W.Frag) : Sp := fun vs H Q _ => ∃ (v : V) (s : Sh) (ns : List Str), vs = [v] ∧ SheetAt K ns H v s ∧ Few s ∧ (∀ l ∈ s.lns, ∀ p ∈ l.eqs, p.dep ≤ 3) ∧ ∀ p H', Ext K H H' → H p = none → (∀ D l, H D = some (.lst l) → Dp K (forget H' D) (.ref p) (shD ns s)) → Dp K H' (.ref p) (shD ns s) → Q (.ref p) H'
theorem ln_law_shown {K : PySem.W.Frag} : ∀ vs H Q E, (sp_law_shown K) vs H Q E → vs.length = (["_law_sheet_here"] : List Str).length := fun vs H Q E h => by
  obtain ⟨_, _, _, rfl, _⟩ := h
  rfl
theorem bd_law_shown (T : Top K mg) (me_told : ∀ c : PK, C8.Met P w K mg base 4 (cK K c) "told" (sp_told K 3 c) []) : Body P w K mg base q s_law_shown f ["_law_sheet_here", "_law_found", "_law_line", "_law_part"] (4) (sp_law_shown K) := fun cdv A outer s H vs Q E hr h => by
  have hu := hu_of hr
  obtain ⟨v, s0, ns, rfl, hs, hf, hdp, q⟩ := h
  refine ⟨_, (pss_cons (ps_set (i := 1) sc_law_shown.nd rfl (by first | exact Or.inl rfl | exact Or.inr rfl) (pe_lst pa_nil))
        (pss_cons (ps_for PassesOwn.never rfl (pi_tup (pe_fld (pv 0) rfl)) (pg_name (i := 2) sc_law_shown.nd rfl (by first | exact Or.inl rfl | exact Or.inr rfl))
          (pss_one (ps_if (pt_val (pe_callB call_isi (by rfl) T.n_isinstance (by decide +kernel) (pa_cons (pv 2) (pa_cons (pe_glob (v := .ref (He.ga K "Row")) rfl T.g_Row rfl) pa_nil)))) (pss_one (ps_expr (pe_bm PySem.F.plainAttrs_list PySem.F.slot_list_append PySem.F.type_list_append mt_append (pv 1) (pa_cons (pe_tup (pa_cons (pe_fld (pv 2) rfl) (pa_cons (pe_fld (pv 2) rfl) (pa_cons (pe_poly fun c => C8.pe_mt0 (me_told c) hr (by omega) (pe_fld (pv 2) rfl)) (pa_cons (pe_fld (pv 2) rfl) pa_nil))))) pa_nil)))) (pss_one (ps_expr (pe_bm PySem.F.plainAttrs_list PySem.F.slot_list_append PySem.F.type_list_append mt_append (pv 1) (pa_cons (pe_tup (pa_cons (pe_fld (pv 2) rfl) (pa_cons (pe_fld (pv 2) rfl) (pa_cons (pe_lc (own := [("_law_part", 3)]) rfl sc_law_shown.nd (pi_tup (pe_fld (pv 2) rfl)) (blkOk_by (own := [("_law_part", 3)]) (N := ["_law_sheet_here", "_law_found", "_law_line", "_law_part"]) (sc := defScope s_law_shown) (by decide +kernel)) (fun _ _ _ _ _ => (pg_name (i := 3) sc_law_shown.nd rfl (by first | exact Or.inl rfl | exact Or.inr rfl))) (fun _ _ _ _ _ => pts_nil) (fun _ _ _ _ _ => (pe_poly fun c => C8.pe_mt0 (me_told c) hr (by omega) (pv 3)))) (pa_cons (pe_fld (pv 2) rfl) pa_nil))))) pa_nil)))))))
        (pss_one (ps_ret (pv 1))))), ?_⟩
  obtain ⟨a, dx, it, ot, lt, ivs, lvs, rfl, ha, hi, his, ho, hl, hls⟩ := hs
  have hll := hls.length
  have l80 := hf.lns
  refine ⟨szk 0, fun p hp => ?_⟩
  have e2 : Ext K H (upd H p (.lst [])) := Ext.new hp _
  have z2 : (upd H p (.lst [])) p = some (.lst []) := upd_same
  generalize hG2 : upd H p (.lst []) = G2 at e2 z2
  refine ⟨_, rfl, a, _, dx, _, _, rfl, e2.at ha, T.cl_Sheet, T.na_Sheet_lines, rfl, lt, rfl, ⟨_, .of (e2.at hl)⟩, for_tup (xs := lvs) (fun i σ H3 => ∃ z2 acc, σ = [some (.ref a), some (.ref p), z2, none] ∧ Ext K H H3 ∧ H3 p = some (.lst acc) ∧ Paired (LnShown K ns H p H3) acc (s0.lns.take i))
    ⟨none, [], rfl, e2, z2, .nil⟩ (fun i σ H3 _ h => ?_) (fun i x σ H3 hx h => ?_) (fun σ H3 h => ?_)⟩
  · obtain ⟨_, _, _, e3, _⟩ := h
    exact .of (e3.at hl)
  · obtain ⟨w2, acc, rfl, e3, hp3, hpr⟩ := h
    obtain ⟨l, hl0, hat⟩ := paired_get hls hx
    have hml := List.mem_of_getElem? hl0
    have hi80 : i < s0.lns.length := (List.getElem?_eq_some_iff.mp hl0).1
    have hal : acc.length ≤ 80 := by have := hpr.length; rw [List.length_take] at this; omega
    have hat3 := e3.fr.line hat
    have grow : ∀ {H5 : Hp} (y : V), Ext K H3 H5 → LnShown K ns H p (upd H5 p (.lst (acc ++ [y]))) y l → Paired (LnShown K ns H p (upd H5 p (.lst (acc ++ [y])))) (acc ++ [y]) (s0.lns.take (i + 1)) := fun y e5 hy =>
      paired_step (Paired.mapP hpr fun _ _ z => z.keep (e5.fr.trans (Fr.put (e5.at hp3) (rfl : froz (.lst acc) = false) _)) fun r ys hr hrl => by rw [upd_ne hr]; exact e5.at hrl) hl0 hy
    cases l with
    | row nm tr pp o =>
      obtain ⟨a1, dx1, kp, rfl, k1, hP⟩ := hat3
      obtain ⟨a2, dx2, fs2, rfl, m1, m2, m3, m4, m5, m6, m7⟩ := hP.head
      have hd1 := hdp _ hml pp List.mem_cons_self
      refine ⟨_, rfl, _, _, _, _, true, rfl, .own _, T.ty_Row k1, T.ik_Row_Row, true, rfl, ite_t rfl ?_⟩
      refine ⟨_, rfl, .inl ⟨rfl, _, .of hp3⟩, ?_⟩
      refine ⟨_, rfl, a1, _, dx1, _, _, rfl, k1, T.cl_Row, T.na_Row_name, rfl, _, rfl, a1, _, dx1, _, _, rfl, k1, T.cl_Row, T.na_Row_kind, rfl, ?_⟩
      refine ⟨pp.k, _, rfl, a1, _, dx1, _, _, rfl, k1, T.cl_Row, T.na_Row_part, rfl, a2, dx2, fs2, rfl, m1, m5, _, pp, rfl, rfl, hd1, hP, fun r1 H5 e5 d1 => ?_⟩
      refine ⟨_, rfl, a1, _, dx1, _, _, rfl, e5.at k1, T.cl_Row, T.na_Row_on, rfl, szk 4, fun u hu => ⟨p, acc, _, rfl, rfl, (e5.trans (Ext.new hu _)).at hp3, by show _ < 2 ^ 24; omega, ?_⟩⟩
      have e6 := e5.trans (Ext.new hu (.tup [.str nm, .str (trS tr), r1, onV o]))
      have fr7 := Fr.put (e6.at hp3) (rfl : froz (.lst acc) = false) (.lst (acc ++ [.ref u]))
      refine ⟨_, acc ++ [.ref u], rfl, (e3.trans e6).push hp (e6.at hp3), upd_same, grow _ e6 ?_⟩
      exact .tup (fr7.t (.of upd_same)) (.cons (.str _) (.cons (.str _) (.cons (((Fr.new hu _).trans fr7).dp d1 (told_noL _)) (.cons (dp_on o) .nil))))
    | use bs k ps o =>
      obtain ⟨a1, dx1, bt, pt, pvs, m, rfl, k1, k2, k3, k4, k5⟩ := hat3
      have hpl := k5.length
      have hp8 : ps.length ≤ 8 := (hf.each _ hml).2
      have em : ns.getD k "" = m := by rw [List.getD_eq_getElem?_getD, k2]; rfl
      refine ⟨_, rfl, _, _, _, _, false, rfl, .own _, T.ty_Use k1, T.ik_Use_Row, false, rfl, ite_f rfl ?_⟩
      refine ⟨_, rfl, .inl ⟨rfl, _, .of hp3⟩, ?_⟩
      refine ⟨_, rfl, a1, _, dx1, _, _, rfl, k1, T.cl_Use, T.na_Use_binds, rfl, _, rfl, a1, _, dx1, _, _, rfl, k1, T.cl_Use, T.na_Use_module, rfl, ?_⟩
      refine ⟨_, rfl, a1, _, dx1, _, _, rfl, k1, T.cl_Use, T.na_Use_parts, rfl, pt, rfl, ⟨_, .of k4⟩, lcT (K := K) (H1 := H3) (a := pt) (xs := pvs) (fun i acc H5 => DpAll K H5 acc ((ps.map Tl.told).take i)) (fun e h => Fr.dpa e h (noLs_all fun d hd => by obtain ⟨p, _, rfl⟩ := List.mem_map.mp (List.mem_of_mem_take hd); exact told_noL _)) (.of k4) (by show _ ≤ 2 ^ 24; omega) .nil (fun i x hx acc2 H5 N S2 e5 pj hN hS => ?_) fun D ys H5 hD e5 hl5 hn5 pj => ?_⟩
      · obtain ⟨pp, hpp, hP⟩ := paired_get k5 hx
        have hP5 := e5.fr.part hP
        obtain ⟨a2, dx2, fs2, rfl, m1, m2, m3, m4, m5, m6, m7⟩ := hP5.head
        have hd1 := hdp _ hml pp (List.mem_of_getElem? hpp)
        refine ⟨rfl, ?_⟩
        exact ⟨pp.k, _, rfl, a2, dx2, fs2, rfl, m1, m5, _, pp, rfl, rfl, hd1, hP5, fun r6 H6 e6 d6 => hN _ _ e6 (dpa_step (e6.fr.dpa pj (noLs_all fun d hd => by obtain ⟨p, _, rfl⟩ := List.mem_map.mp (List.mem_of_mem_take hd); exact told_noL _)) (by rw [List.getElem?_map, hpp]; rfl) d6)⟩
      rw [hpl, List.take_of_length_le (by rw [List.length_map]; exact Nat.le_refl _)] at pj
      refine ⟨_, rfl, a1, _, dx1, _, _, rfl, e5.at k1, T.cl_Use, T.na_Use_on, rfl, szk 4, fun u hu => ⟨p, acc, _, rfl, rfl, (e5.trans (Ext.new hu _)).at hp3, by show _ < 2 ^ 24; omega, ?_⟩⟩
      have e6 := e5.trans (Ext.new hu (.tup [.ref bt, .str m, .ref D, onV o]))
      have fr7 := Fr.put (e6.at hp3) (rfl : froz (.lst acc) = false) (.lst (acc ++ [.ref u]))
      have hDp : D ≠ p := fun z => by rw [z, hp3] at hD; cases hD
      refine ⟨_, acc ++ [.ref u], rfl, (e3.trans e6).push hp (e6.at hp3), upd_same, grow _ e6 ?_⟩
      refine ⟨u, bt, D, ys, rfl, by rw [em]; exact fr7.t (.of upd_same), (e6.fr.trans fr7).bnd k3, hDp, e3.free hD, by rw [upd_ne hDp]; exact (Ext.new (K := K) hu _).at hl5, ((Fr.new hu _).trans fr7).dpa pj (tolds_noL ps)⟩
  obtain ⟨w2, acc, rfl, e3, hp3, hpr⟩ := h
  have hpr := paired_all hpr hll
  refine ⟨_, rfl, q p H3 e3 hp (fun D l0 hD => ?_) (.lst (.of hp3) (shown_all (fun _ _ z => z.dp) hpr))⟩
  have hDp : p ≠ D := fun z => by rw [z, hD] at hp; cases hp
  exact .lst (.of (by rw [forget_ne hDp]; exact hp3)) (shown_all (fun _ _ z => z.hid (e3.at hD) (by rw [hD]; exact nofun)) hpr)
theorem ok_law_shown (T : Top K mg) : C8.Cal P w K mg base 5 "_law_shown" (sp_law_shown K) [] :=
  cal_of T 38 d_law_shown s_law_shown "_law_shown" rfl rfl rfl rfl T.g_law_shown sc_law_shown (fun _ _ _ _ _ _ us hl => match us, hl with | [_], _ => rfl) ln_law_shown (bd_law_shown T (fam_told T 3))
end

section
variable {P : Program} {w : World} {K : PySem.W.Frag} {mg : Str → Option Value} {base : Heap} {q : Str} {f : Addr}
theorem sc_law_known : FnScope ["_law_sheet_here", "_law_names", "_law_line", "_law_name_here"] ["_law_sheet_here"] (defScope s_law_known) := ⟨rfl, rfl, rfl, by decide +kernel, rfl, by decide +kernel, by decide +kernel⟩
def sp_law_known (K : PySem.W.Frag) : Sp := fun vs H Q _ => ∃ (v : V) (s : Sh) (ns : List Str), vs = [v] ∧ SheetAt K ns H v s ∧ SheetOk s ∧ (∀ l ∈ s.lns, ∃ nm tr p on, l = Ln.row nm tr p on) ∧ ∀ H', Ext K H H' → Q (.bl true) H'
theorem ln_law_known {K : PySem.W.Frag} : ∀ vs H Q E, (sp_law_known K) vs H Q E → vs.length = (["_law_sheet_here"] : List Str).length := fun vs H Q E h => by
  obtain ⟨_, _, _, rfl, _⟩ := h
  rfl
theorem bd_law_known (T : Top K mg) (me_Sheet_names : C8.Met P w K mg base 2 (He.ga K "Sheet") "names" (sp_Sheet_names K) []) (me_names : ∀ c : PK, C8.Met P w K mg base 5 (cK K c) "names" (sp_names K 3 c) []) : Body P w K mg base q s_law_known f ["_law_sheet_here", "_law_names", "_law_line", "_law_name_here"] (5) (sp_law_known K) := fun cdv A outer s H vs Q E hr h => by
  have hu := hu_of hr
  obtain ⟨v, s0, ns, rfl, hs, hok, hrow, q⟩ := h
  refine ⟨_, (pss_cons (ps_set (i := 1) sc_law_known.nd rfl (by first | exact Or.inl rfl | exact Or.inr rfl) (C8.pe_mt0 me_Sheet_names hr (by omega) (pv 0)))
        (pss_cons (ps_if (pt_cmpR op_lt (pe_lenSetS rfl T.n_len rfl T.n_set (pv 1)) (pe_callB call_len_seq (by rfl) T.n_len PySem.boot_len (pa_cons (pv 1) pa_nil)) (nomark _)) (pss_one (ps_ret pe_bl)) pss_nil)
        (pss_cons (ps_for PassesOwn.never rfl (pi_tup (pe_fld (pv 0) rfl)) (pg_name (i := 2) sc_law_known.nd rfl (by first | exact Or.inl rfl | exact Or.inr rfl))
          (pss_cons (ps_if (PW.pt (pw_or (pt_not (pt_val (pe_callB call_isi (by rfl) T.n_isinstance (by decide +kernel) (pa_cons (pv 2) (pa_cons (pe_glob (v := .ref (He.ga K "Row")) rfl T.g_Row rfl) pa_nil))))) (pw_or1 (pt_not (pt_val (pe_callB (cr_all rfl) (by rfl) T.n_all (by decide +kernel) (pa_cons (pe_lc (own := [("_law_name_here", 3)]) rfl sc_law_known.nd (pi_list (pe_poly fun c => C8.pe_mt0 (me_names c) hr (by omega) (pe_fld (pv 2) rfl))) (blkOk_by (own := [("_law_name_here", 3)]) (N := ["_law_sheet_here", "_law_names", "_law_line", "_law_name_here"]) (sc := defScope s_law_known) (by decide +kernel)) (fun _ _ _ _ _ => (pg_name (i := 3) sc_law_known.nd rfl (by first | exact Or.inl rfl | exact Or.inr rfl))) (fun _ _ _ _ _ => pts_nil) (fun _ _ _ _ _ => (pe_cmpR (op_in_seqB (K := K) (by rfl)) (pv 3) (pv 1) (by rfl)))) pa_nil))))))) (pss_one (ps_ret pe_bl)) pss_nil)
          (pss_one (ps_if (PW.pt (pw_and (pt_cmp (pc_notN (pe_fld (pv 2) rfl))) (pw_and1 (pt_cmpR op_notIn_seq (pe_fld (pv 2) rfl) (pv 1) (by rfl))))) (pss_one (ps_ret pe_bl)) pss_nil))))
        (pss_one (ps_ret (pe_callB (cr_all rfl) (by rfl) T.n_all (by decide +kernel) (pa_cons (pe_lc (own := [("_law_name_here", 3)]) rfl sc_law_known.nd (pi_tup (pe_fld (pv 0) rfl)) (blkOk_by (own := [("_law_name_here", 3)]) (N := ["_law_sheet_here", "_law_names", "_law_line", "_law_name_here"]) (sc := defScope s_law_known) (by decide +kernel)) (fun _ _ _ _ _ => (pg_name (i := 3) sc_law_known.nd rfl (by first | exact Or.inl rfl | exact Or.inr rfl))) (fun _ _ _ _ _ => pts_nil) (fun _ _ _ _ _ => (pe_cmpR (op_in_seqB (K := K) (by rfl)) (pv 3) (pv 1) (by rfl)))) pa_nil))))))), ?_⟩
  have hs0 := hs
  obtain ⟨a, dx, it, ot, lt, ivs, lvs, rfl, ha, hi, his, ho, hl, hls⟩ := hs
  have hn7 := hok.few.names
  have o8 := hok.o8
  have ed : ded [] s0.names = s0.names := (ded_nodup (acc := []) (by rw [List.nil_append]; exact hok.names)).trans (List.nil_append _)
  refine ⟨_, rfl, a, dx, _, rfl, ha, rfl, _, s0, ns, rfl, hs0, hok.few, fun p H1 e1 hp1 => ?_⟩
  refine ⟨_, rfl, p, s0.names, rfl, .inl (.of hp1), by omega, _, rfl, p, _, rfl, .inl (.of hp1), _, _, rfl, rfl, _, rfl, ite_f (df ?_) ?_⟩
  · rw [ed, List.length_map]
    omega
  refine ⟨_, rfl, a, _, dx, _, _, rfl, e1.at ha, T.cl_Sheet, T.na_Sheet_lines, rfl, lt, rfl, ⟨_, .of (e1.at hl)⟩, for_tup (xs := lvs) (fun i σ H3 => ∃ z2 z3, σ = [some (.ref a), some (.ref p), z2, z3] ∧ Ext K H1 H3)
    ⟨none, none, rfl, Ext.refl K _⟩ (fun i σ H3 _ h => ?_) (fun i x σ H3 hx h => ?_) (fun σ H3 h => ?_)⟩
  · obtain ⟨_, _, _, e3⟩ := h
    exact .of ((e1.trans e3).at hl)
  · obtain ⟨w2, w3, rfl, e3⟩ := h
    obtain ⟨l, hl0, hat⟩ := paired_get hls hx
    have hml := List.mem_of_getElem? hl0
    obtain ⟨nm, tr, pp, o, rfl⟩ := hrow l hml
    have E3 := e1.trans e3
    obtain ⟨a1, dx1, kp, rfl, k1, hP⟩ := E3.fr.line hat
    obtain ⟨a2, dx2, fs2, rfl, m1, m2, m3, m4, m5, m6, m7⟩ := hP.head
    obtain ⟨hd1, hin⟩ := hok.eqIn _ hml pp List.mem_cons_self
    have h13 := sz_few hd1
    have hsz := names_sz pp
    refine ⟨_, rfl, _, _, _, _, true, rfl, .own _, T.ty_Row k1, T.ik_Row_Row, true, rfl, ite_f rfl ?_⟩
    refine ⟨pp.k, _, rfl, a1, _, dx1, _, _, rfl, k1, T.cl_Row, T.na_Row_part, rfl, a2, dx2, fs2, rfl, m1, m6, _, pp, rfl, rfl, hd1, hd1, hP, fun r xs H4 e4 hr0 hr4 hm hle => ?_⟩
    have hlm : (xs.map V.str).length = xs.length := List.length_map ..
    refine ⟨r, rfl, ⟨_, .of hr4⟩, lcL (K := K) (H1 := H4) (a := r) (xs := xs.map V.str) (fun i acc _ => acc = List.replicate i (V.bl true)) (fun _ h => h) (.of hr4) (by show _ ≤ 2 ^ 24; omega) rfl (fun i x hx acc H5 N S2 e5 pj hN hS => ?_) fun D ys H5 hD e5 hl5 hn5 pj => ?_⟩
    · rw [List.getElem?_map] at hx
      obtain ⟨n, hn, rfl⟩ := Option.map_eq_some_iff.mp hx
      have hmem : n ∈ s0.names := hin n ((hm n).mp (List.mem_of_getElem? hn))
      refine ⟨rfl, ?_⟩
      refine ⟨_, rfl, _, rfl, p, _, rfl, .inl (.of (((e3.trans e4).trans e5).at hp1)), rfl, flat_strs _, hN _ _ (Ext.refl K _) ?_⟩
      show acc ++ [V.bl (if false = true then _ else inV (V.str n) (s0.names.map V.str))] = _
      rw [if_neg Bool.false_ne_true, inV_str, dt hmem, show acc = _ from pj]
      exact snoc_inj
    · refine ⟨D, List.replicate (xs.map V.str).length true, rfl, .of ?_, ?_⟩
      · rw [hl5, show ys = _ from pj, List.map_replicate]
      rw [all_rep]
      have E5 := (e3.trans e4).trans e5
      refine ⟨true, rfl, ite_f rfl ?_⟩
      have k5 := (e4.trans e5).at k1
      cases o with
      | none => exact ⟨_, rfl, a1, _, dx1, _, _, rfl, k5, T.cl_Row, T.na_Row_on, rfl, _, rfl, ite_f rfl (ite_f rfl ⟨_, _, rfl, E5⟩)⟩
      | some o =>
        have hon : o ∈ s0.names := by
          obtain ⟨m, _, hc⟩ := hok.chain (.ln (.row nm tr pp (some o))) (List.mem_append_right _ (List.mem_map_of_mem hml))
          exact chain_in (show ChainE s0.tri m (some o) from hc)
        refine ⟨_, rfl, a1, _, dx1, _, _, rfl, k5, T.cl_Row, T.na_Row_on, rfl, _, rfl, ite_t rfl ?_⟩
        refine ⟨_, rfl, a1, _, dx1, _, _, rfl, k5, T.cl_Row, T.na_Row_on, rfl, _, rfl, p, _, rfl, .inl (.of (E5.at hp1)), rfl, flat_strs _, _, rfl, ?_⟩
        have hiv : inV (onV (some o)) (s0.names.map V.str) = true := (inV_str o s0.names).trans (dt hon)
        rw [if_pos rfl, hiv]
        exact ite_f rfl ⟨_, _, rfl, E5⟩
  obtain ⟨w2, w3, rfl, e3⟩ := h
  have E3 := e1.trans e3
  have hol : (s0.outs.map V.str).length = s0.outs.length := List.length_map ..
  refine ⟨_, rfl, a, _, dx, _, _, rfl, E3.at ha, T.cl_Sheet, T.na_Sheet_outputs, rfl, ot, rfl, ⟨_, .of (E3.at ho)⟩, lcT (K := K) (H1 := H3) (a := ot) (xs := s0.outs.map V.str) (fun i acc _ => acc = List.replicate i (V.bl true)) (fun _ h => h) (.of (E3.at ho)) (by show _ ≤ 2 ^ 24; omega) rfl (fun i x hx acc H5 N S2 e5 pj hN hS => ?_) fun D ys H5 hD e5 hl5 hn5 pj => ?_⟩
  · rw [List.getElem?_map] at hx
    obtain ⟨n, hn, rfl⟩ := Option.map_eq_some_iff.mp hx
    have hmem : n ∈ s0.names := hok.outIn n (List.mem_of_getElem? hn)
    refine ⟨rfl, ?_⟩
    refine ⟨_, rfl, _, rfl, p, _, rfl, .inl (.of ((e3.trans e5).at hp1)), rfl, flat_strs _, hN _ _ (Ext.refl K _) ?_⟩
    show acc ++ [V.bl (if false = true then _ else inV (V.str n) (s0.names.map V.str))] = _
    rw [if_neg Bool.false_ne_true, inV_str, dt hmem, show acc = _ from pj]
    exact snoc_inj
  · refine ⟨D, List.replicate (s0.outs.map V.str).length true, rfl, .of ?_, ?_⟩
    · rw [hl5, show ys = _ from pj, List.map_replicate]
    rw [all_rep]
    exact q _ (E3.trans e5)
theorem ok_law_known (T : Top K mg) : C8.Cal P w K mg base 6 "_law_known" (sp_law_known K) [] :=
  cal_of T 37 d_law_known s_law_known "_law_known" rfl rfl rfl rfl T.g_law_known sc_law_known (fun _ _ _ _ _ _ us hl => match us, hl with | [_], _ => rfl) ln_law_known (bd_law_known T (ok_Sheet_names T) (fam_names T 3))
end

/-! ### what is placed can be placed -/
def LocB (S : List Sh) : Prop := ∀ s ∈ S, ∀ a ∈ s.all, ∃ m, m ≤ 100 ∧ ChainE s.tri m a.on
section
variable {T : List Sh} {f : Nat} {s : Sh} {ahead : Str} {on : Option Str} {L : List (Str × Bool × Option Str)}
theorem row_mem {nm : Str} {tr : Bool} {p : Tl} {o : Option Str} (h : Ln.row nm tr p o ∈ s.lns) : (⟨ahead ++ nm, tr, p.ren (fun m => ahead ++ m), beat ahead on o⟩ : Rw) ∈ rowsF T (f + 1) s ahead on :=
  List.mem_flatMap.mpr ⟨_, h, List.mem_cons_self⟩
theorem use_mem {bs : List Str} {k : Nat} {ps : List Tl} {o : Option Str} {s1 : Sh} (h : Ln.use bs k ps o ∈ s.lns) (hk : T[k]? = some s1) {r : Rw}
    (hr : r ∈ insRows (ahead ++ bs.headD "" ++ dotS) ahead (beat ahead on o) s1.ins ps ∨ r ∈ rowsF T f s1 (ahead ++ bs.headD "" ++ dotS) (beat ahead on o) ∨ r ∈ outRows T s1 (ahead ++ bs.headD "" ++ dotS) ahead (beat ahead on o) bs s1.outs) : r ∈ rowsF T (f + 1) s ahead on := by
  refine List.mem_flatMap.mpr ⟨_, h, ?_⟩
  show r ∈ useRows T (rowsF T f) ahead (beat ahead on o) bs k ps
  rw [use_eq hk]
  rcases hr with h | h | h
  · exact List.mem_append_left _ (List.mem_append_left _ h)
  · exact List.mem_append_left _ (List.mem_append_right _ h)
  · exact List.mem_append_right _ h
theorem get_mem {α : Type} {l : List α} {a : α} (h : a ∈ l) : ∃ i : Nat, l[i]? = some a := by
  obtain ⟨i, hi, e⟩ := List.getElem_of_mem h
  exact ⟨i, by rw [List.getElem?_eq_getElem hi, e]⟩
theorem ins_all {deeper : Str} {b : Option Str} {is : List Inp} {ps : List Tl} (hl : ps.length = is.length) {i : Inp} (hi : i ∈ is) : ∃ p, (⟨deeper ++ i.nm, i.kind.isT, p, b⟩ : Rw) ∈ insRows deeper ahead b is ps := by
  obtain ⟨j, hj⟩ := get_mem hi
  have hlt : j < ps.length := by have := (List.getElem?_eq_some_iff.mp hj).1; omega
  exact ⟨_, List.mem_of_getElem? (insRows_get hj (List.getElem?_eq_getElem hlt))⟩
theorem outs_all {s1 : Sh} {deeper : Str} {b : Option Str} {bs os : List Str} (hl : bs.length = os.length) {n : Str} (hn : n ∈ bs) : ∃ t p, (⟨ahead ++ n, t, p, b⟩ : Rw) ∈ outRows T s1 deeper ahead b bs os := by
  obtain ⟨j, hj⟩ := get_mem hn
  have hlt : j < os.length := by have := (List.getElem?_eq_some_iff.mp hj).1; omega
  exact ⟨_, _, List.mem_of_getElem? (outRows_get hj (List.getElem?_eq_getElem hlt))⟩
theorem al_cases {s : Sh} {a : Al} (h : a ∈ s.all) : (∃ i ∈ s.ins, a = .inp i) ∨ ∃ l ∈ s.lns, a = .ln l := by
  rcases List.mem_append.mp h with h | h
  · obtain ⟨i, hi, e⟩ := List.mem_map.mp h
    exact .inl ⟨i, hi, e.symm⟩
  · obtain ⟨l, hl, e⟩ := List.mem_map.mp h
    exact .inr ⟨l, hl, e.symm⟩
/-- what is asked of the names and ons that are seen outside -/
structure Seen1 (T : List Sh) (f : Nat) (s : Sh) (ahead : Str) (on : Option Str) (L : List (Str × Bool × Option Str)) : Prop where
  ins : ∀ i ∈ s.ins, (ahead ++ i.nm, i.kind.isT, on) ∈ L
  rows : ∀ r ∈ rowsF T f s ahead on, (r.nm, r.tr, r.on) ∈ L
theorem Seen1.name {j : Nat} (hok : BookOk T) (hj : T[j]? = some s) (h : Seen1 T (f + 1) s ahead on L) {n : Str} (hn : n ∈ s.names) : ahead ++ n ∈ L.map (·.1) := by
  obtain ⟨a, ha, hb⟩ := List.mem_flatMap.mp hn
  rcases al_cases ha with ⟨i, hi, rfl⟩ | ⟨l, hl, rfl⟩
  · rw [show n = i.nm from List.mem_singleton.mp hb]
    exact List.mem_map.mpr ⟨_, h.ins i hi, rfl⟩
  · cases l with
    | row nm tr p o =>
      rw [show n = nm from List.mem_singleton.mp hb]
      exact List.mem_map.mpr ⟨_, h.rows _ (row_mem hl), rfl⟩
    | use bs k ps o =>
      obtain ⟨_, s1, hk, q1, q2, _⟩ := hok.uses j s hj bs k ps o hl
      obtain ⟨t, p, hr⟩ := outs_all (T := T) (ahead := ahead) (s1 := s1) (deeper := ahead ++ bs.headD "" ++ dotS) (b := beat ahead on o) q2 hb
      exact List.mem_map.mpr ⟨_, h.rows _ (use_mem hl hk (.inr (.inr hr))), rfl⟩
theorem Seen1.chain {j M : Nat} (hok : BookOk T) (hj : T[j]? = some s) (h : Seen1 T (f + 1) s ahead on L) (hc : ∃ m, m ≤ M ∧ ChainE L m on) : ∀ {k : Nat} {o : Option Str}, ChainE s.tri k o → ∃ m, m ≤ M + k ∧ ChainE L m (beat ahead on o)
  | _, _, .nil => by
    obtain ⟨m, h1, h2⟩ := hc
    exact ⟨m, by omega, h2⟩
  | _, _, @ChainE.cons _ k o o' hm c => by
    obtain ⟨m, h1, h2⟩ := Seen1.chain hok hj h hc c
    obtain ⟨a, ha, hb⟩ := List.mem_flatMap.mp hm
    obtain ⟨n, hn, e⟩ := List.mem_map.mp hb
    obtain ⟨e1, e2, e3⟩ : n = o ∧ a.isT = true ∧ a.on = o' := by
      have z := Prod.mk.inj e
      exact ⟨z.1, (Prod.mk.inj z.2).1, (Prod.mk.inj z.2).2⟩
    subst e1
    rcases al_cases ha with ⟨i, hi, rfl⟩ | ⟨l, hl, rfl⟩
    · have en : n = i.nm := List.mem_singleton.mp hn
      have ho' : o' = none := e3.symm
      rw [ho'] at h2
      have z := h.ins i hi
      rw [show i.kind.isT = true from e2] at z
      rw [en]
      exact ⟨m + 1, by omega, .cons z h2⟩
    · cases l with
      | row nm tr p o2 =>
        have en : n = nm := List.mem_singleton.mp hn
        have z := h.rows _ (row_mem hl)
        rw [en]
        have e2 : tr = true := e2
        have e3 : o2 = o' := e3
        subst e2 e3
        exact ⟨m + 1, by omega, .cons z h2⟩
      | use => cases e2
/-- every row's part speaks of names that are seen, its on leads to an end -/
theorem Seen1.all (hok : BookOk T) (hlb : LocB T) : ∀ {f j : Nat} {s : Sh} {ahead : Str} {on : Option Str} {M : Nat}, T[j]? = some s → j < f → Seen1 T f s ahead on L → (∃ m, m ≤ M ∧ ChainE L m on) →
    ∀ r ∈ rowsF T f s ahead on, (∀ n ∈ r.p.names, n ∈ L.map (·.1)) ∧ r.p.dep ≤ 3 ∧ ∃ m, m ≤ M + 100 * f ∧ ChainE L m r.on
  | 0, _, _, _, _, _, _, h, _, _, _, _ => absurd h (Nat.not_lt_zero _)
  | f + 1, j, s, ahead, on, M, hj, hjf, h, hc, r, hr => by
    have hm := List.mem_of_getElem? hj
    have hsok := hok.sheets s hm
    have hch : ∀ l ∈ s.lns, ∃ m, m ≤ M + 100 ∧ ChainE L m (beat ahead on l.on) := fun l hl => by
      obtain ⟨k, hk, c⟩ := hlb s hm (.ln l) (List.mem_append_right _ (List.mem_map_of_mem hl))
      obtain ⟨m, h1, h2⟩ := h.chain hok hj hc (show ChainE s.tri k l.on from c)
      exact ⟨m, by omega, h2⟩
    have hren : ∀ l ∈ s.lns, ∀ p ∈ l.eqs, ∀ n ∈ (p.ren fun m => ahead ++ m).names, n ∈ L.map (·.1) := fun l hl p hp n hn => by
      rw [ren_names] at hn
      obtain ⟨n0, hn0, rfl⟩ := List.mem_map.mp hn
      exact h.name hok hj ((hsok.eqIn l hl p hp).2 n0 hn0)
    rcases rows_cases hr with ⟨nm, tr, p, o, hl, rfl⟩ | ⟨bs, k, ps, o, s1, hl, hk, hh⟩
    · obtain ⟨m, h1, h2⟩ := hch _ hl
      exact ⟨hren _ hl p List.mem_cons_self, by rw [ren_dep]; exact (hsok.eqIn _ hl p List.mem_cons_self).1, m, by omega, h2⟩
    · obtain ⟨hkj, s2, hk2, q1, q2, q3⟩ := hok.uses j s hj bs k ps o hl
      rw [hk] at hk2
      obtain rfl := Option.some.inj hk2
      obtain ⟨m, h1, h2⟩ := hch _ hl
      have h2 : ChainE L m (beat ahead on o) := h2
      have sub : Seen1 T f s1 (ahead ++ bs.headD "" ++ dotS) (beat ahead on o) L := ⟨fun i hi => by
        obtain ⟨p, hp⟩ := ins_all (ahead := ahead) (deeper := ahead ++ bs.headD "" ++ dotS) (b := beat ahead on o) q1 hi
        exact h.rows _ (use_mem hl hk (.inl hp)), fun r hr => h.rows _ (use_mem hl hk (.inr (.inl hr)))⟩
      rcases hh with ⟨i, hi, p, hp, rfl⟩ | hh | ⟨n, hn, ou, ho, rfl⟩
      · exact ⟨hren _ hl p hp, by rw [ren_dep]; exact (hsok.eqIn _ hl p hp).1, m, by omega, h2⟩
      · obtain ⟨a1, a2, m2, a3, a4⟩ := Seen1.all hok hlb (M := M + 100) hk (by omega) sub ⟨m, h1, h2⟩ r hh
        exact ⟨a1, a2, m2, by omega, a4⟩
      · refine ⟨fun x hx => ?_, by show 1 ≤ 3; decide, m, by omega, h2⟩
        rw [show x = ahead ++ bs.headD "" ++ dotS ++ ou from List.mem_singleton.mp hx]
        obtain ⟨g, rfl⟩ : ∃ g, f = g + 1 := ⟨f - 1, by omega⟩
        exact sub.name hok hk ((hok.sheets s1 (List.mem_of_getElem? hk)).outIn ou ho)
/-- every row's name: words, points between -/
theorem rows_wds (hok : BookOk T) (hnm : ∀ s ∈ T, ∀ n ∈ s.names, Nm n) : ∀ {f j : Nat} {s : Sh} {ahead : Str} {on : Option Str} {aw : List (List Nat)}, T[j]? = some s → j < f → Ahd ahead aw →
    ∀ r ∈ rowsF T f s ahead on, ∃ ws, Wds r.nm ws ∧ (ws.length ≤ 4 → Nm r.nm)
  | 0, _, _, _, _, _, _, h, _, _, _ => absurd h (Nat.not_lt_zero _)
  | f + 1, j, s, ahead, on, aw, hj, hjf, ha, r, hr => by
    have hm := List.mem_of_getElem? hj
    have one : ∀ {a n : Str} {aw : List (List Nat)}, Ahd a aw → Nm n → ∃ ws, Wds (a ++ n) ws ∧ (ws.length ≤ 4 → Nm (a ++ n)) := fun ha hn => by
      obtain ⟨ws, h1, h2, h3⟩ := id hn
      exact ⟨_, ahd_name ha h1, fun h4 => ahd_nm ha h1 hn h4⟩
    rcases rows_cases hr with ⟨nm, tr, p, o, hl, rfl⟩ | ⟨bs, k, ps, o, s1, hl, hk, hh⟩
    · exact one ha (hnm s hm nm (line_names hl List.mem_cons_self))
    · obtain ⟨hkj, s2, hk2, q1, q2, q3⟩ := hok.uses j s hj bs k ps o hl
      rw [hk] at hk2
      obtain rfl := Option.some.inj hk2
      have hm1 := List.mem_of_getElem? hk
      have ho1 := (hok.sheets s1 hm1).o1
      obtain ⟨wb, hb, _⟩ := hnm s hm _ (line_names hl (head_mem (bs := bs) (by omega)))
      have hd := ahd_deeper ha hb
      rcases hh with ⟨i, hi, p, hp, rfl⟩ | hh | ⟨n, hn, ou, ho, rfl⟩
      · exact one hd (hnm s1 hm1 i.nm (inp_names hi))
      · exact rows_wds hok hnm hk (by omega) hd r hh
      · exact one ha (hnm s hm n (line_names hl hn))
end

theorem names_of (nm : Str) (ins : List Inp) (outs : List Str) (rs : List Rw) : (⟨nm, ins, outs, rs.map Rw.ln⟩ : Sh).names = ins.map Inp.nm ++ rs.map Rw.nm := by
  unfold Sh.names Sh.all
  rw [List.flatMap_append, List.flatMap_map, List.flatMap_map, List.flatMap_map]
  congr 1
  · induction ins with
    | nil => rfl
    | cons i is ih => rw [List.flatMap_cons, ih]; rfl
  · induction rs with
    | nil => rfl
    | cons r rs ih => rw [List.flatMap_cons, ih]; rfl
theorem tri_of (nm : Str) (ins : List Inp) (outs : List Str) (rs : List Rw) : (⟨nm, ins, outs, rs.map Rw.ln⟩ : Sh).tri = ins.map (fun i => (i.nm, i.kind.isT, none)) ++ rs.map fun r => (r.nm, r.tr, r.on) := by
  unfold Sh.tri Sh.all
  rw [List.flatMap_append, List.flatMap_map, List.flatMap_map, List.flatMap_map]
  congr 1
  · induction ins with
    | nil => rfl
    | cons i is ih => rw [List.flatMap_cons, ih]; rfl
  · induction rs with
    | nil => rfl
    | cons r rs ih => rw [List.flatMap_cons, ih]; rfl
theorem last_at (S : List Sh) (s : Sh) : (S ++ [s])[S.length]? = some s := by rw [List.getElem?_append_right (Nat.le_refl _), Nat.sub_self]; rfl
theorem nm_ahead0 (n : Str) : ("" : Str) ++ n = n := str_nil_app n
/-- the law's first look: the book can be placed -/
theorem placed_ok {S : List Sh} {s : Sh} (h : SpecOk (S ++ [s])) (hlb : LocB (S ++ [s])) (hd : DueOk (S ++ [s]) s) : PlacedOk S s := by
  have hok := h.ok
  have hj := last_at S s
  have h6 := hok.l6
  rw [List.length_append] at h6
  have hS : S.length < 6 := by have : ([s] : List Sh).length = 1 := rfl; omega
  have hm := List.mem_of_getElem? hj
  have hsok := hok.sheets s hm
  obtain ⟨few, words, names⟩ := hd
  have htri := tri_of s.nm s.ins s.outs (rowsF (S ++ [s]) 6 s "" none)
  have hnames := names_of s.nm s.ins s.outs (rowsF (S ++ [s]) 6 s "" none)
  have hwds := rows_wds hok h.nms (f := 6) (ahead := "") (on := none) hj hS ahd_nil
  have hpos := count_pos hok (f := 5) hj
  have hlen := rows_len hok "" none hj hS
  have hall := Seen1.all (T := S ++ [s]) (L := (placeSh S s).tri) hok hlb (f := 6) (ahead := "") (on := none) (M := 0) hj hS
  have hname := fun (hs : Seen1 (S ++ [s]) 6 s "" none (placeSh S s).tri) (n : Str) (hn : n ∈ s.names) => Seen1.name (f := 5) hok hj hs hn
  unfold placeSh at hall hname
  generalize hrs : rowsF (S ++ [s]) 6 s "" none = rs at *
  rw [htri] at hall hname
  have hseen : Seen1 (S ++ [s]) 6 s "" none (s.ins.map (fun i => (i.nm, i.kind.isT, none)) ++ rs.map fun r => (r.nm, r.tr, r.on)) := by
    refine ⟨fun i hi => ?_, fun r hr => ?_⟩
    · rw [nm_ahead0]
      exact List.mem_append_left _ (List.mem_map.mpr ⟨i, hi, rfl⟩)
    · rw [hrs] at hr
      exact List.mem_append_right _ (List.mem_map.mpr ⟨r, hr, rfl⟩)
  have hall := hall hseen ⟨0, Nat.le_refl _, .nil⟩
  have hmap : (s.ins.map (fun i => (i.nm, i.kind.isT, (none : Option Str))) ++ rs.map fun r => (r.nm, r.tr, r.on)).map (·.1) = s.ins.map Inp.nm ++ rs.map Rw.nm := by
    rw [List.map_append, List.map_map, List.map_map]
    rfl
  rw [hmap] at hall
  have hname := hname hseen
  rw [hmap] at hname
  have rnm : ∀ r ∈ rs, Nm r.nm := fun r hr => by
    obtain ⟨ws, h1, h2⟩ := hwds r hr
    refine h2 ?_
    have z := words r hr
    rw [name_split h1, List.length_map] at z
    exact z
  have allNm : ∀ n ∈ s.ins.map Inp.nm ++ rs.map Rw.nm, Nm n := fun n hn => by
    rcases List.mem_append.mp hn with hn | hn
    · obtain ⟨i, hi, rfl⟩ := List.mem_map.mp hn
      exact h.nms s hm i.nm (inp_names hi)
    · obtain ⟨r, hr, rfl⟩ := List.mem_map.mp hn
      exact rnm r hr
  have okr : ∀ r ∈ rs, r.p.ok := by
    have key : ∀ {f j : Nat} {s1 : Sh} {ahead : Str} {on : Option Str}, (S ++ [s])[j]? = some s1 → j < f → ∀ r ∈ rowsF (S ++ [s]) f s1 ahead on, (∀ n ∈ r.p.names, Nm n) → r.p.ok := by
      intro f
      induction f with
      | zero => intro j s1 ahead on _ h; exact absurd h (Nat.not_lt_zero _)
      | succ f ih =>
        intro j s1 ahead on hj1 hjf r hr hn
        have hm1 := List.mem_of_getElem? hj1
        have ren : ∀ l ∈ s1.lns, ∀ p ∈ l.eqs, (∀ n ∈ (p.ren fun m => ahead ++ m).names, Nm n) → (p.ren fun m => ahead ++ m).ok := fun l hl p hp hn => ren_ok _ p (h.eqs s1 hm1 l hl p hp) fun n hn0 => hn _ (by rw [ren_names]; exact List.mem_map_of_mem hn0)
        rcases rows_cases hr with ⟨nm, tr, p, o, hl, rfl⟩ | ⟨bs, k, ps, o, s2, hl, hk, hh⟩
        · exact ren _ hl p List.mem_cons_self hn
        · obtain ⟨hkj, _⟩ := hok.uses j s1 hj1 bs k ps o hl
          rcases hh with ⟨i, hi, p, hp, rfl⟩ | hh | ⟨n, hnb, ou, ho, rfl⟩
          · exact ren _ hl p hp hn
          · exact ih hk (by omega) r hh hn
          · exact hn _ (List.mem_singleton.mpr rfl)
    exact fun r hr => key (f := 6) hj hS r (by rw [hrs]; exact hr) fun n hn => allNm n ((hall r hr).1 n hn)
  have hall' : ∀ r ∈ rs, _ := fun r hr => hall r hr
  refine ⟨by rw [hrs]; exact few, by rw [hrs]; exact rnm, ?_, ?_, ?_⟩
  · rw [hrs]
    intro r hr o ho
    obtain ⟨_, _, m, _, hc⟩ := hall' r hr
    rw [ho] at hc
    cases hc with
    | cons hc _ =>
      refine allNm o ?_
      rw [← hmap]
      exact List.mem_map.mpr ⟨_, hc, rfl⟩
  · rw [hrs]
    exact fun r hr => ⟨okr r hr, (hall' r hr).2.1⟩
  · show SheetOk ⟨s.nm, s.ins, s.outs, (rowsF (S ++ [s]) 6 s "" none).map Rw.ln⟩
    rw [hrs]
    have hb : ∀ l ∈ rs.map Rw.ln, l.borne.length ≤ 8 ∧ l.eqs.length ≤ 8 := fun l hl => by
      obtain ⟨r, _, rfl⟩ := List.mem_map.mp hl
      exact ⟨by show 1 ≤ 8; decide, by show 1 ≤ 8; decide⟩
    refine { few := ⟨hsok.few.ins, by rw [List.length_map]; exact few, hb⟩, nm := hsok.nm, o1 := hsok.o1, o8 := hsok.o8, l1 := ?_, outs := hsok.outs, names := by rw [hnames]; exact names, outIn := fun o ho => ?_, eqIn := fun l hl p hp => ?_, chain := fun a ha => ?_ }
    · show 1 ≤ (rs.map Rw.ln).length
      rw [List.length_map, hlen]
      exact hpos
    · rw [hnames]
      have z := hname o (hsok.outIn o ho)
      rw [nm_ahead0] at z
      exact z
    · obtain ⟨r, hr, rfl⟩ := List.mem_map.mp hl
      have ep : p = r.p := List.mem_singleton.mp hp
      rw [ep, hnames]
      exact ⟨(hall' r hr).2.1, (hall' r hr).1⟩
    · rw [htri]
      rcases al_cases ha with ⟨i, hi, rfl⟩ | ⟨l, hl, rfl⟩
      · exact ⟨0, by omega, .nil⟩
      · obtain ⟨r, hr, rfl⟩ := List.mem_map.mp hl
        obtain ⟨_, _, m, hm1, hc⟩ := hall' r hr
        exact ⟨m, by omega, hc⟩
theorem row_again (T : List Sh) (rec : Sh → Str → Option Str → List Rw) (r : Rw) : lineRows T rec "" none r.ln = [r] := by
  show [(⟨("" : Str) ++ r.nm, r.tr, r.p.ren (fun m => ("" : Str) ++ m), beat "" none r.on⟩ : Rw)] = [r]
  have hb : beat "" none r.on = r.on := by
    cases r.on with
    | none => rfl
    | some o => show some (("" : Str) ++ o) = some o; rw [str_nil_app]
  rw [str_nil_app, ren_id, hb]
theorem rows_same (T : List Sh) (rec : Sh → Str → Option Str → List Rw) : ∀ rs : List Rw, (rs.map Rw.ln).flatMap (lineRows T rec "" none) = rs
  | [] => rfl
  | r :: rs => by
    rw [List.map_cons, List.flatMap_cons, row_again, rows_same T rec rs]
    rfl
/-- placed once more: the same sheet -/
theorem place_again (S : List Sh) (s : Sh) : rowsF ([] ++ [placeSh S s]) 6 (placeSh S s) "" none = rowsF (S ++ [s]) 6 s "" none := rows_same _ _ _
theorem placeSh_again (S : List Sh) (s : Sh) : placeSh [] (placeSh S s) = placeSh S s := by
  show (⟨_, _, _, (rowsF ([] ++ [placeSh S s]) 6 (placeSh S s) "" none).map Rw.ln⟩ : Sh) = _
  rw [place_again]
  rfl
theorem again_ok {S : List Sh} {s : Sh} (h : PlacedOk S s) (hk : ∀ i ∈ s.ins, i.kind.okk) (hn : ∀ i ∈ s.ins, Nm i.nm) : PlaceOk ([] ++ [placeSh S s]) ∧ PlacedOk [] (placeSh S s) := by
  have one : ∀ x ∈ ([] ++ [placeSh S s] : List Sh), x = placeSh S s := fun x hx => List.mem_singleton.mp hx
  have hlns : ∀ l ∈ (placeSh S s).lns, ∃ r ∈ rowsF (S ++ [s]) 6 s "" none, l = r.ln := fun l hl => by
    obtain ⟨r, hr, e⟩ := List.mem_map.mp (show l ∈ (rowsF (S ++ [s]) 6 s "" none).map Rw.ln from hl)
    exact ⟨r, hr, e.symm⟩
  refine ⟨⟨⟨by show 1 ≤ 1; decide, by show 1 ≤ 6; decide, ?_, fun x hx => by rw [one x hx]; exact h.sheet, fun j x hx bs k ps on hl => ?_⟩, fun x hx l hl p hp => ?_, fun x hx n hn2 => ?_, fun x hx i hi => ?_⟩, ?_⟩
  · show [(placeSh S s).nm].Nodup
    simp
  · rw [one x (List.mem_of_getElem? hx)] at hl
    obtain ⟨r, _, e⟩ := hlns _ hl
    cases e
  · rw [one x hx] at hl
    obtain ⟨r, hr, rfl⟩ := hlns l hl
    rw [show p = r.p from List.mem_singleton.mp hp]
    exact (h.eq r hr).1
  · rw [one x hx] at hn2
    have e := names_of s.nm s.ins s.outs (rowsF (S ++ [s]) 6 s "" none)
    have hn3 : n ∈ s.ins.map Inp.nm ++ (rowsF (S ++ [s]) 6 s "" none).map Rw.nm := by rw [← e]; exact hn2
    have hnn : Nm n := by
      rcases List.mem_append.mp hn3 with hn3 | hn3
      · obtain ⟨i, hi, rfl⟩ := List.mem_map.mp hn3
        exact hn i hi
      · obtain ⟨r, hr, rfl⟩ := List.mem_map.mp hn3
        exact h.nm r hr
    exact Nat.le_trans (nm_len hnn) (by decide)
  · rw [one x hx] at hi
    exact hk i hi
  · refine ⟨?_, ?_, ?_, ?_, ?_⟩
    · rw [place_again]; exact h.few
    · rw [place_again]; exact h.nm
    · rw [place_again]; exact h.on
    · rw [place_again]; exact h.eq
    · rw [placeSh_again]; exact h.sheet

/-! ### enumerate -/
theorem for_enum {K : PySem.W.Frag} {a : Addr} {xs : List V} {g : TG} {tb : TS} {D : Ends} {σ : L2.St} {H : Hp} (Pv : Nat → L2.St → Hp → Prop) (h0 : Pv 0 σ H) (hq : ∀ i σ H, Pv i σ H → SqL K H a xs)
    (hs : ∀ (i : Nat) (x : V) (T : Addr) (σ : L2.St) (H : Hp), xs[i]? = some x → Pv i σ H → H T = none → g (.ref T) σ (upd H T (.tup [.int ((i : Nat) : Int), x])) fun σ2 H2 => tb { D with nx := Pv (i + 1), ct := Pv (i + 1), bk := D.nx } σ2 H2) (hd : ∀ σ H, Pv xs.length σ H → D.nx σ H) :
    ∃ W : Nat → Nat → L2.St → Hp → Prop, (∃ m, W 0 m σ H) ∧ ∀ i m σ H, W i m σ H →
      ((Ite K a).stop i H ∧ D.nx σ H) ∨ ((Ite K a).go i H ∧ ∃ N : L2.St → Hp → Prop, (∀ σ' H', N σ' H' → ∃ m', m' < m ∧ W (i + 1) m' σ' H') ∧ ∀ v H', (Ite K a).yld i H v H' → g v σ H' fun σ2 H2 => tb { D with nx := N, ct := N, bk := D.nx } σ2 H2) := by
  refine ⟨fun i m σ H => m = xs.length - i ∧ i ≤ xs.length ∧ Pv i σ H, ⟨xs.length, rfl, Nat.zero_le _, h0⟩, ?_⟩
  rintro i m σ H ⟨rfl, hi, p⟩
  have q := hq i σ H p
  by_cases hlt : i < xs.length
  · refine .inr ⟨⟨xs, xs[i], q, by simp [hlt]⟩, Pv (i + 1), fun σ' H' p' => ⟨xs.length - (i + 1), by omega, rfl, hlt, p'⟩, fun v H' y => ?_⟩
    obtain ⟨T, x, rfl, hT, rfl, hx⟩ := y
    exact hs i x T σ H (hx xs q) p hT
  · have e : i = xs.length := by omega
    subst e
    exact .inl ⟨⟨xs, q, Nat.le_refl _⟩, hd σ H p⟩
/-! ### the list of the law's sheets -/
structure GoodS (b : Int) (S : List Sh) : Prop where
  len : S.length ≤ 4
  nms : ∀ (j : Nat) (s : Sh), S[j]? = some s → s.nm = SX.S (wordF b j)
  sheets : ∀ s ∈ S, SheetOk s
  uses : ∀ (j : Nat) (s : Sh), S[j]? = some s → ∀ bs k ps on, Ln.use bs k ps on ∈ s.lns → k < j ∧ ∃ s', S[k]? = some s' ∧ ps.length = s'.ins.length ∧ bs.length = s'.outs.length
  free : ∀ s ∈ S, ∀ o ∈ s.outs, ∀ al ∈ s.all, o ∈ al.borne → al.on = none
  eqs : ∀ s ∈ S, ∀ l ∈ s.lns, ∀ p ∈ l.eqs, p.ok
  nm : ∀ s ∈ S, ∀ n ∈ s.names, Nm n
  kinds : ∀ s ∈ S, ∀ i ∈ s.ins, i.kind.okk
  small : ∀ s ∈ S, s.ins.length ≤ 2 ∧ s.outs.length ≤ 2 ∧ s.lns.length ≤ 5
  loc : LocB S
def bnd : Nat → Nat
  | 0 => 5
  | j + 1 => 5 * (4 + bnd j)
theorem bnd_mono {j : Nat} : bnd j ≤ bnd (j + 1) := by
  show bnd j ≤ 5 * (4 + bnd j)
  omega
theorem bnd_le {i j : Nat} (h : i ≤ j) : bnd i ≤ bnd j := by
  induction h with
  | refl => exact Nat.le_refl _
  | step _ ih => exact Nat.le_trans ih bnd_mono
theorem sum_le {l : List Ln} {f : Ln → Nat} {c : Nat} (h : ∀ x ∈ l, f x ≤ c) : (l.map f).sum ≤ l.length * c := by
  induction l with
  | nil => exact Nat.zero_le _
  | cons x l ih =>
    have h1 := h x List.mem_cons_self
    have h2 := ih fun y hy => h y (List.mem_cons_of_mem _ hy)
    rw [List.map_cons, List.sum_cons, List.length_cons, Nat.succ_mul]
    omega
theorem GoodS.count {b : Int} {S : List Sh} (h : GoodS b S) : ∀ {f j : Nat} {s : Sh}, S[j]? = some s → countF S f s ≤ bnd j
  | 0, _, _, _ => Nat.zero_le _
  | f + 1, j, s, hj => by
    have hm := List.mem_of_getElem? hj
    have h5 := (h.small s hm).2.2
    have key : ∀ l ∈ s.lns, lineCnt S (countF S f) l ≤ (match j with | 0 => 1 | j + 1 => 4 + bnd j) := fun l hl => by
      cases l with
      | row => cases j with
        | zero => exact Nat.le_refl _
        | succ j => show 1 ≤ 4 + bnd j; omega
      | use bs k ps on =>
        obtain ⟨hk, s1, hs1, q1, q2⟩ := h.uses j s hj bs k ps on hl
        have hm1 := List.mem_of_getElem? hs1
        have ih := h.count (f := f) hs1
        have hsm := h.small s1 hm1
        cases j with
        | zero => exact absurd hk (Nat.not_lt_zero _)
        | succ j =>
          have := bnd_le (show k ≤ j by omega)
          show ps.length + (match S[k]? with | some s => countF S f s | none => 0) + bs.length ≤ 4 + bnd j
          rw [hs1]
          show ps.length + countF S f s1 + bs.length ≤ 4 + bnd j
          omega
    have z := sum_le key
    show (s.lns.map _).sum ≤ _
    cases j with
    | zero => show _ ≤ 5; exact Nat.le_trans z (by show s.lns.length * 1 ≤ 5; omega)
    | succ j => exact Nat.le_trans z (Nat.mul_le_mul_right _ h5)
theorem GoodS.nodup {b : Int} {S : List Sh} (h : GoodS b S) : (S.map Sh.nm).Nodup := by
  have e : S.map Sh.nm = (List.range S.length).map fun j => SX.S (wordF b j) := by
    refine List.ext_getElem? fun j => ?_
    rw [List.getElem?_map, List.getElem?_map]
    cases hj : S[j]? with
    | none =>
      rw [List.getElem?_eq_none (by rw [List.length_range]; exact List.getElem?_eq_none_iff.mp hj)]
      rfl
    | some s =>
      rw [List.getElem?_range (List.getElem?_eq_some_iff.mp hj).1]
      show some s.nm = _
      rw [h.nms j s hj]
      rfl
  rw [e, List.nodup_iff_pairwise_ne, List.pairwise_map]
  have hl := h.len
  refine List.Pairwise.imp_of_mem (fun {i j} hi hj (hij : i < j) he => ?_) List.pairwise_lt_range
  have hi := List.mem_range.mp hi
  have hj := List.mem_range.mp hj
  have := word_inj (by omega) (by omega) (SX.S_inj he)
  omega
theorem GoodS.spec {b : Int} {S : List Sh} (h : GoodS b S) (h1 : 1 ≤ S.length) : SpecOk S := by
  have hl := h.len
  refine ⟨⟨h1, by omega, h.nodup, h.sheets, fun j s hj bs k ps on hl => ?_⟩, h.eqs, h.nm, h.kinds, fun s hs => ?_⟩
  · obtain ⟨hk, s1, hs1, q1, q2⟩ := h.uses j s hj bs k ps on hl
    exact ⟨hk, s1, hs1, q1, q2, h.free s1 (List.mem_of_getElem? hs1)⟩
  · obtain ⟨j, hj⟩ := get_mem hs
    have h3 := bnd_le (show j ≤ 3 by have := (List.getElem?_eq_some_iff.mp hj).1; omega)
    have h4 : bnd 3 = 1245 := rfl
    have := h.count (f := 6) hj
    omega

/-! ### a sheet that the law fills -/
def allN (ins : List Inp) (rws : List (Str × Bool)) (puts : List (List Str × Nat)) : List Str := ins.map Inp.nm ++ rws.map (·.1) ++ puts.flatMap (·.1)
def beatsN (ins : List Inp) (rws : List (Str × Bool)) (i : Nat) : List Str := (ins.filter fun i => i.kind.isT).map Inp.nm ++ ((rws.take i).filter (·.2)).map (·.1)
def RowOk (ins : List Inp) (rws : List (Str × Bool)) (puts : List (List Str × Nat)) (j : Nat) (l : Ln) : Prop := ∃ n t p on, rws[j]? = some (n, t) ∧ l = .row n t p on ∧ p.ok ∧ p.dep ≤ 3 ∧ (∀ x ∈ p.names, x ∈ allN ins rws puts) ∧ ∀ o, on = some o → o ∈ beatsN ins rws j
def UseOk (S : List Sh) (ins : List Inp) (rws : List (Str × Bool)) (puts : List (List Str × Nat)) (j : Nat) (l : Ln) : Prop := ∃ bs k ps on s1, puts[j]? = some (bs, k) ∧ l = .use bs k ps on ∧ S[k]? = some s1 ∧ ps.length = s1.ins.length ∧ (∀ p ∈ ps, p.ok ∧ p.dep ≤ 3 ∧ ∀ x ∈ p.names, x ∈ allN ins rws puts) ∧ ∀ o, on = some o → o ∈ beatsN ins rws rws.length
structure FilledOk (S : List Sh) (nm : Str) (ins : List Inp) (rws : List (Str × Bool)) (puts : List (List Str × Nat)) (s : Sh) : Prop where
  nmE : s.nm = nm
  insE : s.ins = ins
  lns : ∃ rl ul, s.lns.Perm (rl ++ ul) ∧ rl.length = rws.length ∧ (∀ j l, rl[j]? = some l → RowOk ins rws puts j l) ∧ ul.length = puts.length ∧ ∀ j l, ul[j]? = some l → UseOk S ins rws puts j l
  o1 : 1 ≤ s.outs.length
  o2 : s.outs.length ≤ 2
  outs : s.outs.Nodup
  free : ∀ o ∈ s.outs, o ∈ ins.map Inp.nm ∨ ∃ l ∈ s.lns, l.on = none ∧ o ∈ l.borne
structure RawOk (b : Int) (S : List Sh) (nm : Str) (ins : List Inp) (rws : List (Str × Bool)) (puts : List (List Str × Nat)) : Prop where
  len : S.length ≤ 3
  nmE : nm = SX.S (wordF b S.length)
  i2 : ins.length ≤ 2
  r1 : 1 ≤ rws.length
  r3 : rws.length ≤ 3
  p2 : puts.length ≤ 2
  names : (allN ins rws puts).Nodup
  nms : ∀ n ∈ allN ins rws puts, Nm n
  putE : ∀ q ∈ puts, ∃ s1, S[q.2]? = some s1 ∧ q.1.length = s1.outs.length
  kinds : ∀ i ∈ ins, i.kind.okk
theorem rl_borne {ins : List Inp} {rws : List (Str × Bool)} {puts : List (List Str × Nat)} {rl : List Ln} (hl : rl.length = rws.length) (h : ∀ j l, rl[j]? = some l → RowOk ins rws puts j l) : rl.flatMap Ln.borne = rws.map (·.1) := by
  have e : rl.map Ln.borne = rws.map fun q => [q.1] := by
    refine List.ext_getElem? fun j => ?_
    rw [List.getElem?_map, List.getElem?_map]
    cases hj : rl[j]? with
    | none =>
      rw [List.getElem?_eq_none (by rw [← hl]; exact List.getElem?_eq_none_iff.mp hj)]
      rfl
    | some l =>
      obtain ⟨n, t, p, on, h1, rfl, _⟩ := h j l hj
      rw [h1]
      rfl
  rw [List.flatMap_def, e]
  induction rws with
  | nil => rfl
  | cons q r ih =>
    clear h hl e
    have : ∀ r : List (Str × Bool), (r.map fun q => [q.1]).flatten = r.map (·.1) := by
      intro r
      induction r with
      | nil => rfl
      | cons q r ih => rw [List.map_cons, List.flatten_cons, ih]; rfl
    exact this (q :: r)
theorem ul_borne {S : List Sh} {ins : List Inp} {rws : List (Str × Bool)} {puts : List (List Str × Nat)} {ul : List Ln} (hl : ul.length = puts.length) (h : ∀ j l, ul[j]? = some l → UseOk S ins rws puts j l) : ul.flatMap Ln.borne = puts.flatMap (·.1) := by
  have e : ul.map Ln.borne = puts.map (·.1) := by
    refine List.ext_getElem? fun j => ?_
    rw [List.getElem?_map, List.getElem?_map]
    cases hj : ul[j]? with
    | none =>
      rw [List.getElem?_eq_none (by rw [← hl]; exact List.getElem?_eq_none_iff.mp hj)]
      rfl
    | some l =>
      obtain ⟨bs, k, ps, on, s1, h1, rfl, _⟩ := h j l hj
      rw [h1]
      rfl
  rw [List.flatMap_def, e, List.flatMap_def]
theorem names_sh (s : Sh) : s.names = s.ins.map Inp.nm ++ s.lns.flatMap Ln.borne := by
  unfold Sh.names Sh.all
  rw [List.flatMap_append, List.flatMap_map, List.flatMap_map]
  congr 1
  induction s.ins with
  | nil => rfl
  | cons i is ih => rw [List.flatMap_cons, ih]; rfl
theorem at_app {S : List Sh} {s x : Sh} {j : Nat} (h : (S ++ [s])[j]? = some x) : (j < S.length ∧ S[j]? = some x) ∨ (j = S.length ∧ x = s) := by
  by_cases hj : j < S.length
  · rw [List.getElem?_append_left hj] at h
    exact .inl ⟨hj, h⟩
  · rw [List.getElem?_append_right (by omega)] at h
    have : j - S.length = 0 := by
      cases hk : j - S.length with
      | zero => rfl
      | succ k => rw [hk] at h; cases h
    rw [this] at h
    cases h
    exact .inr ⟨by omega, rfl⟩
theorem app_at {S : List Sh} {s x : Sh} {j : Nat} (h : S[j]? = some x) : (S ++ [s])[j]? = some x := by
  rw [List.getElem?_append_left (List.getElem?_eq_some_iff.mp h).1]
  exact h
theorem filled_good {b : Int} {S : List Sh} {nm : Str} {ins : List Inp} {rws : List (Str × Bool)} {puts : List (List Str × Nat)} {s : Sh} (hg : GoodS b S) (hr : RawOk b S nm ins rws puts) (hf : FilledOk S nm ins rws puts s) : GoodS b (S ++ [s]) := by
  obtain ⟨rl, ul, hperm, hrl, hrow, hul, huse⟩ := hf.lns
  have hlen : s.lns.length = rws.length + puts.length := by rw [hperm.length_eq, List.length_append, hrl, hul]
  have hsn : s.names.Perm (allN ins rws puts) := by
    rw [names_sh, hf.insE]
    unfold allN
    rw [List.append_assoc]
    refine List.Perm.append_left _ ?_
    have z := List.Perm.flatMap_right Ln.borne hperm
    rw [List.flatMap_append, rl_borne hrl hrow, ul_borne hul huse] at z
    exact z
  have hmem : ∀ n, n ∈ s.names ↔ n ∈ allN ins rws puts := fun n => hsn.mem_iff
  have hnd : s.names.Nodup := hsn.nodup_iff.mpr hr.names
  have line : ∀ l ∈ s.lns, (∃ j, RowOk ins rws puts j l ∧ rl[j]? = some l) ∨ ∃ j, UseOk S ins rws puts j l ∧ ul[j]? = some l := fun l hl => by
    rcases List.mem_append.mp (hperm.mem_iff.mp hl) with h | h
    · obtain ⟨j, hj⟩ := get_mem h
      exact .inl ⟨j, hrow j l hj, hj⟩
    · obtain ⟨j, hj⟩ := get_mem h
      exact .inr ⟨j, huse j l hj, hj⟩
  have inpTri : ∀ i ∈ ins, (i.nm, i.kind.isT, (none : Option Str)) ∈ s.tri := fun i hi => mem_tri (a := .inp i) (List.mem_append_left _ (List.mem_map_of_mem (by rw [hf.insE]; exact hi))) List.mem_cons_self
  -- chains
  have chB : ∀ i, i ≤ rws.length → ∀ o ∈ beatsN ins rws i, ∃ m, m ≤ i + 1 ∧ ChainE s.tri m (some o) := by
    intro i
    induction i with
    | zero =>
      intro _ o ho
      unfold beatsN at ho
      rcases List.mem_append.mp ho with ho | ho
      · obtain ⟨x, hx, rfl⟩ := List.mem_map.mp ho
        obtain ⟨h1, h2⟩ := List.mem_filter.mp hx
        have z := inpTri x h1
        rw [h2] at z
        exact ⟨1, by omega, .cons z .nil⟩
      · cases ho
    | succ i ih =>
      intro hi o ho
      have hi' : i < rws.length := by omega
      have hq : rws[i]? = some rws[i] := List.getElem?_eq_getElem hi'
      obtain ⟨l, hl⟩ : ∃ l, rl[i]? = some l := ⟨_, List.getElem?_eq_getElem (by omega)⟩
      obtain ⟨n, t, p, on, h1, rfl, _, _, _, hon⟩ := hrow i l hl
      have hlm : Ln.row n t p on ∈ s.lns := hperm.mem_iff.mpr (List.mem_append_left _ (List.mem_of_getElem? hl))
      have hb : o ∈ beatsN ins rws i ∨ (t = true ∧ o = n) := by
        unfold beatsN at ho ⊢
        rw [List.take_add_one, h1, List.filter_append, List.map_append, ← List.append_assoc] at ho
        rcases List.mem_append.mp ho with ho | ho
        · exact .inl ho
        · cases t with
          | false => cases ho
          | true => exact .inr ⟨rfl, List.mem_singleton.mp ho⟩
      rcases hb with hb | ⟨rfl, rfl⟩
      · obtain ⟨m, hm, c⟩ := ih (by omega) o hb
        exact ⟨m, by omega, c⟩
      · have z : (o, true, on) ∈ s.tri := mem_tri (a := .ln (.row o true p on)) (List.mem_append_right _ (List.mem_map_of_mem hlm)) List.mem_cons_self
        cases on with
        | none => exact ⟨1, by omega, .cons z .nil⟩
        | some o' =>
          obtain ⟨m, hm, c⟩ := ih (by omega) o' (hon o' rfl)
          exact ⟨m + 1, by omega, .cons z c⟩
  have bmono : ∀ i, i ≤ rws.length → ∀ on : Option Str, (∀ o, on = some o → o ∈ beatsN ins rws i) → ∃ m, m ≤ 100 ∧ ChainE s.tri m on := fun i hi on hon => by
    cases on with
    | none => exact ⟨0, by omega, .nil⟩
    | some o =>
      obtain ⟨m, hm, c⟩ := chB i hi o (hon o rfl)
      have := hr.r3
      exact ⟨m, by omega, c⟩
  have hloc : ∀ a ∈ s.all, ∃ m, m ≤ 100 ∧ ChainE s.tri m a.on := fun a ha => by
    rcases al_cases ha with ⟨i, hi, rfl⟩ | ⟨l, hl, rfl⟩
    · exact ⟨0, by omega, .nil⟩
    · rcases line l hl with ⟨j, ⟨n, t, p, on, h1, rfl, _, _, _, hon⟩, hj⟩ | ⟨j, ⟨bs, k, ps, on, s1, h1, rfl, _, _, _, hon⟩, hj⟩
      · exact bmono j (by have := (List.getElem?_eq_some_iff.mp h1).1; omega) on hon
      · exact bmono _ (Nat.le_refl _) on hon
  have heq : ∀ l ∈ s.lns, ∀ p ∈ l.eqs, p.ok ∧ p.dep ≤ 3 ∧ ∀ n ∈ p.names, n ∈ s.names := fun l hl p hp => by
    rcases line l hl with ⟨j, ⟨n, t, p0, on, h1, rfl, h2, h3, h4, _⟩, hj⟩ | ⟨j, ⟨bs, k, ps, on, s1, h1, rfl, _, _, h4, _⟩, hj⟩
    · rw [show p = p0 from List.mem_singleton.mp hp]
      exact ⟨h2, h3, fun n hn => (hmem n).mpr (h4 n hn)⟩
    · obtain ⟨a1, a2, a3⟩ := h4 p hp
      exact ⟨a1, a2, fun n hn => (hmem n).mpr (a3 n hn)⟩
  have hfew : ∀ l ∈ s.lns, l.borne.length ≤ 8 ∧ l.eqs.length ≤ 8 := fun l hl => by
    rcases line l hl with ⟨j, ⟨n, t, p, on, h1, rfl, _⟩, hj⟩ | ⟨j, ⟨bs, k, ps, on, s1, h1, rfl, hs1, hp, _⟩, hj⟩
    · exact ⟨by show 1 ≤ 8; decide, by show 1 ≤ 8; decide⟩
    · obtain ⟨s2, hs2, hb⟩ := hr.putE (bs, k) (List.mem_of_getElem? h1)
      rw [show S[(bs, k).2]? = S[k]? from rfl, hs1] at hs2
      cases hs2
      have hsm := hg.small s1 (List.mem_of_getElem? hs1)
      exact ⟨by show bs.length ≤ 8; have : bs.length = s1.outs.length := hb; omega, by show ps.length ≤ 8; omega⟩
  have r1 := hr.r1
  have r3 := hr.r3
  have p2 := hr.p2
  have i2 := hr.i2
  have hfree : ∀ o ∈ s.outs, o ∈ s.names := fun o ho => by
    rcases hf.free o ho with h | ⟨l, hl, _, h⟩
    · rw [names_sh, hf.insE]
      exact List.mem_append_left _ h
    · exact line_names hl h
  have hok : SheetOk s := { few := ⟨by rw [hf.insE]; omega, by omega, hfew⟩, nm := by rw [hf.nmE, hr.nmE]; exact word_wd _ _, o1 := hf.o1, o8 := by have := hf.o2; omega, l1 := by omega, outs := hf.outs, names := hnd, outIn := hfree, eqIn := fun l hl p hp => (heq l hl p hp).2, chain := fun a ha => by obtain ⟨m, h1, h2⟩ := hloc a ha; exact ⟨m, by omega, h2⟩ }
  have inn : ∀ x ∈ S ++ [s], x ∈ S ∨ x = s := fun x hx => (List.mem_append.mp hx).imp id fun h => List.mem_singleton.mp h
  refine ⟨by rw [List.length_append]; have := hr.len; show _ + 1 ≤ 4; omega, fun j x hx => ?_, fun x hx => ?_, fun j x hx bs k ps on hl => ?_, fun x hx => ?_, fun x hx => ?_, fun x hx => ?_, fun x hx => ?_, fun x hx => ?_, fun x hx => ?_⟩
  · rcases at_app hx with ⟨_, h⟩ | ⟨rfl, rfl⟩
    · exact hg.nms j x h
    · rw [hf.nmE, hr.nmE]
  · rcases inn x hx with h | rfl
    · exact hg.sheets x h
    · exact hok
  · rcases at_app hx with ⟨_, h⟩ | ⟨rfl, rfl⟩
    · obtain ⟨h1, s1, h2, h3⟩ := hg.uses j x h bs k ps on hl
      exact ⟨h1, s1, app_at h2, h3⟩
    · rcases line _ hl with ⟨j, ⟨n, t, p, on2, h1, e, _⟩, hj⟩ | ⟨j, ⟨bs2, k2, ps2, on2, s1, h1, e, hs1, hp, _⟩, hj⟩
      · cases e
      · cases e
        obtain ⟨s2, hs2, hb⟩ := hr.putE (bs, k) (List.mem_of_getElem? h1)
        rw [show S[(bs, k).2]? = S[k]? from rfl, hs1] at hs2
        cases hs2
        exact ⟨(List.getElem?_eq_some_iff.mp hs1).1, s1, app_at hs1, hp, hb⟩
  · rcases inn x hx with h | rfl
    · exact hg.free x h
    · intro o ho al hal hb
      rcases hf.free o ho with h | ⟨l, hl, hon, h⟩
      · obtain ⟨i, hi, rfl⟩ := List.mem_map.mp h
        have e := flat_uniq hnd hal (List.mem_append_left _ (List.mem_map_of_mem (f := Al.inp) (by rw [hf.insE]; exact hi))) hb (show i.nm ∈ (Al.inp i).borne from List.mem_cons_self)
        rw [e]
        rfl
      · have e := flat_uniq hnd hal (List.mem_append_right _ (List.mem_map_of_mem (f := Al.ln) hl)) hb (show o ∈ (Al.ln l).borne from h)
        rw [e]
        exact hon
  · rcases inn x hx with h | rfl
    · exact hg.eqs x h
    · exact fun l hl p hp => (heq l hl p hp).1
  · rcases inn x hx with h | rfl
    · exact hg.nm x h
    · exact fun n hn => hr.nms n ((hmem n).mp hn)
  · rcases inn x hx with h | rfl
    · exact hg.kinds x h
    · exact fun i hi => hr.kinds i (by rw [← hf.insE]; exact hi)
  · rcases inn x hx with h | rfl
    · exact hg.small x h
    · exact ⟨by rw [hf.insE]; exact i2, hf.o2, by omega⟩
  · rcases inn x hx with h | rfl
    · exact hg.loc x h
    · exact hloc

section
variable {P : Program} {w : World} {K : PySem.W.Frag} {mg : Str → Option Value} {base : Heap} {q : Str} {f : Addr}
def RowSp (H : Hp) (v : V) (q : Str × Bool) : Prop := ∃ x, v = .ref x ∧ H x = some (.tup [.str q.1, .str (trS q.2)])
def PutSp (R : List V) (H : Hp) (v : V) (q : List Str × Nat) : Prop := ∃ x bt rv, v = .ref x ∧ H x = some (.tup [.ref bt, rv]) ∧ BndAt H bt q.1 ∧ R[q.2]? = some rv
/-- the law's dict before it is filled -/
def RawAt (K : PySem.W.Frag) (R : List V) (H0 H : Hp) (d : Addr) (nm : Str) (ins : List Inp) (rws : List (Str × Bool)) (puts : List (List Str × Nat)) : Prop := ∃ (il rl pl : Addr) (kvs : List (Key × V)) (ivs rvs pvs : List V), H d = some (.dK kvs) ∧ kvs.length ≤ 10 ∧ valV kvs (.inr "name") = some (.str nm) ∧ valV kvs (.inr "inputs") = some (.ref il) ∧ valV kvs (.inr "rows") = some (.ref rl) ∧ valV kvs (.inr "put") = some (.ref pl) ∧
  H0 il = none ∧ H il = some (.lst ivs) ∧ Paired (InpSp K H) ivs ins ∧ H rl = some (.lst rvs) ∧ Paired (RowSp H) rvs rws ∧ H pl = some (.lst pvs) ∧ Paired (PutSp R H) pvs puts
/-- a line whose list is new, and stands elsewhere than p -/
def LnNew (K : PySem.W.Frag) (R : List V) (H0 : Hp) (p : Addr) (H : Hp) : V → Ln → Prop
  | v, .row nm tr pp on => LnSp K R H v (.row nm tr pp on)
  | v, .use bs k ps on => ∃ (t bt pl : Addr) (rv : V) (pvs : List V), v = .ref t ∧ H t = some (.tup [.str "use", .ref bt, rv, .ref pl, onV on]) ∧ BndAt H bt bs ∧ R[k]? = some rv ∧ H pl = some (.lst pvs) ∧ Paired (fun v (p : Tl) => Dp K H v p.told) pvs ps ∧ H0 pl = none ∧ pl ≠ p
/-- the law's dict, all of it new since H0 -/
def SpecNew (K : PySem.W.Frag) (R : List V) (H0 H : Hp) (v : V) (s : Sh) : Prop := ∃ (d il ol ll : Addr) (kvs : List (Key × V)) (ivs lvs : List V), v = .ref d ∧ H d = some (.dK kvs) ∧ valV kvs (.inr "name") = some (.str s.nm) ∧ valV kvs (.inr "inputs") = some (.ref il) ∧ valV kvs (.inr "outputs") = some (.ref ol) ∧ valV kvs (.inr "lines") = some (.ref ll) ∧
  H il = some (.lst ivs) ∧ Paired (InpSp K H) ivs s.ins ∧ H ol = some (.lst (s.outs.map V.str)) ∧ H ll = some (.lst lvs) ∧ Paired (LnNew K R H0 ll H) lvs s.lns ∧ H0 d = none ∧ H0 il = none ∧ H0 ol = none ∧ H0 ll = none
section
variable {K : PySem.W.Frag} {R : List V} {H0 H H1 : Hp} {p : Addr} {v : V}
theorem LnNew.keep (fr : Fr H H1) (ls : ∀ r ys, r ≠ p → H r = some (.lst ys) → H1 r = some (.lst ys)) : ∀ {l : Ln}, LnNew K R H0 p H v l → LnNew K R H0 p H1 v l
  | .row nm tr pp on, ⟨t, pv, h1, h2, h3⟩ => ⟨t, pv, h1, fr _ _ h2 rfl, fr.dp h3 (told_noL pp)⟩
  | .use bs k ps on, ⟨t, bt, pl, rv, pvs, h1, h2, h3, h4, h5, h6, h7, h8⟩ => ⟨t, bt, pl, rv, pvs, h1, fr _ _ h2 rfl, fr.bnd h3, h4, ls pl pvs h8 h5, Paired.mapP h6 fun _ p z => fr.dp z (told_noL p), h7, h8⟩
theorem LnNew.sp : ∀ {l : Ln}, LnNew K R H0 p H v l → LnSp K R H v l
  | .row _ _ _ _, h => h
  | .use _ _ _ _, ⟨t, bt, pl, rv, pvs, h1, h2, h3, h4, h5, h6, _, _⟩ => ⟨t, bt, pl, rv, pvs, h1, h2, h3, h4, h5, h6⟩
theorem LnNew.hid {D : Addr} {l0 : List V} (hD : H D = some (.lst l0)) (h0 : H0 D ≠ none) {l : Ln} (h : LnNew K R H0 p H v l) : LnSp K R (forget H D) v l := by
  have fr := forget_fr hD
  cases l with
  | row nm tr pp on =>
    obtain ⟨t, pv, h1, h2, h3⟩ := h
    exact ⟨t, pv, h1, fr _ _ h2 rfl, fr.dp h3 (told_noL pp)⟩
  | use bs k ps on =>
    obtain ⟨t, bt, pl, rv, pvs, h1, h2, h3, h4, h5, h6, h7, h8⟩ := h
    have hr : pl ≠ D := fun z => h0 (by rw [← z]; exact h7)
    exact ⟨t, bt, pl, rv, pvs, h1, fr _ _ h2 rfl, fr.bnd h3, h4, by rw [forget_ne hr]; exact h5, Paired.mapP h6 fun _ p z => fr.dp z (told_noL p)⟩
theorem SpecNew.hid {D : Addr} {l0 : List V} (hD : H D = some (.lst l0)) (h0 : H0 D ≠ none) {s : Sh} (h : SpecNew K R H0 H v s) : SpecAt K R (forget H D) v s := by
  obtain ⟨d, il, ol, ll, kvs, ivs, lvs, rfl, h1, h2, h3, h4, h5, h6, h7, h8, h9, h10, n1, n2, n3, n4⟩ := h
  have ne : ∀ {r : Addr}, H0 r = none → r ≠ D := fun hr z => h0 (by rw [← z]; exact hr)
  exact ⟨d, il, ol, ll, kvs, ivs, lvs, rfl, by rw [forget_ne (ne n1)]; exact h1, h2, h3, h4, h5, by rw [forget_ne (ne n2)]; exact h6, Paired.mapP h7 fun _ _ z => (forget_fr hD).inpSp z, by rw [forget_ne (ne n3)]; exact h8, by rw [forget_ne (ne n4)]; exact h9, Paired.mapP h10 fun _ _ z => z.hid hD h0⟩
theorem Ext.rowSp (e : Ext K H H1) {q : Str × Bool} (h : RowSp H v q) : RowSp H1 v q := by
  obtain ⟨x, h1, h2⟩ := h
  exact ⟨x, h1, e.at h2⟩
theorem Ext.putSp (e : Ext K H H1) {q : List Str × Nat} (h : PutSp R H v q) : PutSp R H1 v q := by
  obtain ⟨x, bt, rv, h1, h2, h3, h4⟩ := h
  exact ⟨x, bt, rv, h1, e.at h2, e.fr.bnd h3, h4⟩
end
theorem kind_eqv {K : PySem.W.Frag} {H : Hp} {v : V} {k : IK} (h : KindAt K H v k) : ∃ d, Dp K H v d ∧ SeqAt.shaped d = true ∧ PyData.eqv d (.str "truth") = k.isT := by
  cases k with
  | truth => rw [show v = V.str "truth" from h]; exact ⟨_, .str _, by decide +kernel, by decide +kernel⟩
  | number => rw [show v = V.str "number" from h]; exact ⟨_, .str _, by decide +kernel, by decide +kernel⟩
  | stretch i j =>
    obtain ⟨a, rfl, ha⟩ := h
    exact ⟨.tuple [.int i, .int j], .tup ha (.cons (.int i) (.cons (.int j) .nil)), rfl, rfl⟩
theorem rows_keep {K : PySem.W.Frag} {R : List V} {H0 H H1 : Hp} {p : Addr} (fr : Fr H H1) : ∀ {vs : List V} {ls : List Ln}, (∀ l ∈ ls, ∃ n t q o, l = Ln.row n t q o) → Paired (LnNew K R H0 p H) vs ls → Paired (LnNew K R H0 p H1) vs ls
  | _, _, _, .nil => .nil
  | _, _, h, .cons a t => .cons (by
      obtain ⟨n, tr, q, o, e⟩ := h _ List.mem_cons_self
      subst e
      obtain ⟨x, pv, h1, h2, h3⟩ := a
      exact ⟨x, pv, h1, fr _ _ h2 rfl, fr.dp h3 (told_noL q)⟩) (rows_keep fr (fun l hl => h l (List.mem_cons_of_mem _ hl)) t)
theorem paired_take {α β : Type} {R : α → β → Prop} : ∀ {l : List α} {m : List β} (n : Nat), Paired R l m → Paired R (l.take n) (m.take n)
  | _, _, 0, _ => by rw [List.take_zero, List.take_zero]; exact .nil
  | _, _, _ + 1, .nil => .nil
  | _, _, n + 1, .cons h t => .cons h (paired_take n t)
theorem paired_drop {α β : Type} {R : α → β → Prop} : ∀ {l : List α} {m : List β} (n : Nat), Paired R l m → Paired R (l.drop n) (m.drop n)
  | _, _, 0, h => h
  | _, _, _ + 1, .nil => .nil
  | _, _, n + 1, .cons _ t => paired_drop n t
theorem ins_perm {α : Type} {al rl ul : List α} (h : al.Perm (rl ++ ul)) (l : α) (n : Nat) : (al.take n ++ [l] ++ al.drop n).Perm (rl ++ (ul ++ [l])) := by
  have h1 : (al.take n ++ [l] ++ al.drop n).Perm (l :: (al.take n ++ al.drop n)) := by
    rw [List.append_assoc]
    exact List.perm_middle
  rw [List.take_append_drop] at h1
  refine h1.trans ((List.Perm.cons l h).trans ?_)
  rw [← List.append_assoc]
  exact (List.perm_append_singleton l (rl ++ ul)).symm

theorem sc_law_filled : FnScope ["_law_spec_here", "_law_cell", "_law_names", "_law_row", "_law_beats", "_law_lines", "_law_free", "_law_k", "_law_on_here", "_law_parts", "_law_one", "_law_j"] ["_law_spec_here", "_law_cell"] (defScope s_law_filled) := ⟨rfl, rfl, rfl, by decide +kernel, rfl, by decide +kernel, by decide +kernel⟩
def sp_law_filled (K : PySem.W.Frag) : Sp := fun vs H Q _ => ∃ (d : Addr) (cell : Int) (R : List V) (S : List Sh) (nm : Str) (ins : List Inp) (rws : List (Str × Bool)) (puts : List (List Str × Nat)) (b : Int) (Hb : Hp), vs = [.ref d, .int cell] ∧ RawAt K R Hb H d nm ins rws puts ∧ Hb d = none ∧ Ext K Hb H ∧ SpecsAt K R Hb S ∧ RawOk b S nm ins rws puts ∧ GoodS b S ∧ ∀ s H', Ext K Hb H' → SpecNew K R Hb H' (.ref d) s → FilledOk S nm ins rws puts s → Q (.ref d) H'
theorem ln_law_filled {K : PySem.W.Frag} : ∀ vs H Q E, (sp_law_filled K) vs H Q E → vs.length = (["_law_spec_here", "_law_cell"] : List Str).length := fun vs H Q E h => by
  obtain ⟨_, _, _, _, _, _, _, _, _, _, rfl, _⟩ := h
  rfl
theorem bd_law_filled (T : Top K mg) (c_law_on : C8.Cal P w K mg base 1 "_law_on" (sp_law_on K) []) (c_law_mixed : C8.Cal P w K mg base 1 "_law_mixed" (sp_law_mixed K) []) (c_law_told : C8.Cal P w K mg base 4 "_law_told" (sp_ltoldN K 3) []) : Body P w K mg base q s_law_filled f ["_law_spec_here", "_law_cell", "_law_names", "_law_row", "_law_beats", "_law_lines", "_law_free", "_law_k", "_law_on_here", "_law_parts", "_law_one", "_law_j"] (4) (sp_law_filled K) := fun cdv A outer s H vs Q E hr h => by
  have hu := hu_of hr
  obtain ⟨d, cell, R, S, nm, ins, rws, puts, b, Hb, rfl, hraw, hbd, hbe, hR, hok, hgood, q⟩ := h
  refine ⟨_, (pss_cons (ps_set (i := 2) sc_law_filled.nd rfl (by first | exact Or.inl rfl | exact Or.inr rfl) (pe_op op_cat (pe_lc (own := [("_law_one", 10)]) rfl sc_law_filled.nd (pi_list (pe_dget hu (pv 0) pe_str (fun _ _ => rfl))) (blkOk_by (own := [("_law_one", 10)]) (N := ["_law_spec_here", "_law_cell", "_law_names", "_law_row", "_law_beats", "_law_lines", "_law_free", "_law_k", "_law_on_here", "_law_parts", "_law_one", "_law_j"]) (sc := defScope s_law_filled) (by decide +kernel)) (fun _ _ _ _ _ => (pg_name (i := 10) sc_law_filled.nd rfl (by first | exact Or.inl rfl | exact Or.inr rfl))) (fun _ _ _ _ _ => pts_nil) (fun _ _ _ _ _ => (pe_ix (ix_tupB (K := K) (by rfl)) (pv 10) pe_int (fun _ _ => rfl)))) (pe_lc (own := [("_law_row", 3)]) rfl sc_law_filled.nd (pi_list (pe_dget hu (pv 0) pe_str (fun _ _ => rfl))) (blkOk_by (own := [("_law_row", 3)]) (N := ["_law_spec_here", "_law_cell", "_law_names", "_law_row", "_law_beats", "_law_lines", "_law_free", "_law_k", "_law_on_here", "_law_parts", "_law_one", "_law_j"]) (sc := defScope s_law_filled) (by decide +kernel)) (fun _ _ _ _ _ => (pg_name (i := 3) sc_law_filled.nd rfl (by first | exact Or.inl rfl | exact Or.inr rfl))) (fun _ _ _ _ _ => pts_nil) (fun _ _ _ _ _ => (pe_ix (ix_tupB (K := K) (by rfl)) (pv 3) pe_int (fun _ _ => rfl))))))
        (pss_cons (ps_for PassesOwn.never rfl (pi_list (pe_dget hu (pv 0) pe_str (fun _ _ => rfl))) (pg_name (i := 3) sc_law_filled.nd rfl (by first | exact Or.inl rfl | exact Or.inr rfl))
          (pss_one (ps_set (i := 2) sc_law_filled.nd rfl (by first | exact Or.inl rfl | exact Or.inr rfl) (pe_op op_cat (pv 2) (pe_callTy call_list_of (by rfl) T.n_list (by decide +kernel) (pa_cons (pe_ix ix_tup (pv 3) pe_int (fun _ _ => rfl)) pa_nil))))))
        (pss_cons (ps_setLc (i := 4) rfl sc_law_filled.nd rfl rfl (sw_true rfl rfl rfl (by decide +kernel)) (own := [("_law_one", 10)]) (pi_list (pe_dget hu (pv 0) pe_str (fun _ _ => rfl))) (blkOk_by (own := [("_law_one", 10)]) (N := ["_law_spec_here", "_law_cell", "_law_names", "_law_row", "_law_beats", "_law_lines", "_law_free", "_law_k", "_law_on_here", "_law_parts", "_law_one", "_law_j"]) (sc := defScope s_law_filled) (by decide +kernel)) (fun _ _ _ _ _ => (pg_name (i := 10) sc_law_filled.nd rfl (by first | exact Or.inl rfl | exact Or.inr rfl))) (fun _ _ _ _ _ => (pts_one (pt_cmpR (op_eqDB (K := K) (by rfl) hr.units) (pe_ix (ix_tupB (K := K) (by rfl)) (pv 10) pe_int (fun _ _ => rfl)) pe_str (nomark _)))) (fun _ _ _ _ _ => (pe_ix (ix_tupB (K := K) (by rfl)) (pv 10) pe_int (fun _ _ => rfl))))
        (pss_cons (ps_set (i := 5) sc_law_filled.nd rfl (by first | exact Or.inl rfl | exact Or.inr rfl) (pe_lst pa_nil))
        (pss_cons (ps_setLc (i := 6) rfl sc_law_filled.nd rfl rfl (sw_true rfl rfl rfl (by decide +kernel)) (own := [("_law_one", 10)]) (pi_list (pe_dget hu (pv 0) pe_str (fun _ _ => rfl))) (blkOk_by (own := [("_law_one", 10)]) (N := ["_law_spec_here", "_law_cell", "_law_names", "_law_row", "_law_beats", "_law_lines", "_law_free", "_law_k", "_law_on_here", "_law_parts", "_law_one", "_law_j"]) (sc := defScope s_law_filled) (by decide +kernel)) (fun _ _ _ _ _ => (pg_name (i := 10) sc_law_filled.nd rfl (by first | exact Or.inl rfl | exact Or.inr rfl))) (fun _ _ _ _ _ => pts_nil) (fun _ _ _ _ _ => (pe_ix (ix_tupB (K := K) (by rfl)) (pv 10) pe_int (fun _ _ => rfl))))
        (pss_cons (ps_for PassesOwn.never rfl (pi_enum rfl T.n_enumerate (pa_cons (pe_dget hu (pv 0) pe_str (fun _ _ => rfl)) pa_nil)) (pg_tup rfl (pgs_cons (pg_name (i := 7) sc_law_filled.nd rfl (by first | exact Or.inl rfl | exact Or.inr rfl)) (pgs_cons (pg_name (i := 3) sc_law_filled.nd rfl (by first | exact Or.inl rfl | exact Or.inr rfl)) pgs_nil)))
          (pss_cons (ps_set (i := 8) sc_law_filled.nd rfl (by first | exact Or.inl rfl | exact Or.inr rfl) (C8.pe_c c_law_on hr (by omega) rfl (pa_cons (C8.pe_c c_law_mixed hr (by omega) rfl (pa_cons (pv 1) (pa_cons (pe_op op_add pe_int (pv 7)) pa_nil))) (pa_cons (pv 4) pa_nil))))
          (pss_cons (ps_expr (pe_bm PySem.F.plainAttrs_list PySem.F.slot_list_append PySem.F.type_list_append mt_append (pv 5) (pa_cons (pe_tup (pa_cons pe_str (pa_cons (pe_ix ix_tup (pv 3) pe_int (fun _ _ => rfl)) (pa_cons (pe_ix ix_tup (pv 3) pe_int (fun _ _ => rfl)) (pa_cons (C8.pe_c c_law_told hr (by omega) rfl (pa_cons (C8.pe_c c_law_mixed hr (by omega) rfl (pa_cons (pv 1) (pa_cons (pe_op op_add pe_int (pv 7)) pa_nil))) (pa_cons (pv 2) (pa_cons pe_int pa_nil)))) (pa_cons (pv 8) pa_nil)))))) pa_nil)))
          (pss_cons (ps_if (pt_cmp (pc_isN (pv 8))) (pss_one (ps_expr (pe_bm PySem.F.plainAttrs_list PySem.F.slot_list_append PySem.F.type_list_append mt_append (pv 6) (pa_cons (pe_ix ix_tup (pv 3) pe_int (fun _ _ => rfl)) pa_nil)))) pss_nil)
          (pss_one (ps_if (pt_cmpR (op_eqD hr.units) (pe_ix ix_tup (pv 3) pe_int (fun _ _ => rfl)) pe_str (nomark _)) (pss_one (ps_set (i := 4) sc_law_filled.nd rfl (by first | exact Or.inl rfl | exact Or.inr rfl) (pe_op op_cat (pv 4) (pe_lst (pa_cons (pe_ix ix_tup (pv 3) pe_int (fun _ _ => rfl)) pa_nil))))) pss_nil))))))
        (pss_cons (ps_for PassesOwn.never rfl (pi_enum rfl T.n_enumerate (pa_cons (pe_dget hu (pv 0) pe_str (fun _ _ => rfl)) pa_nil)) (pg_tup rfl (pgs_cons (pg_name (i := 7) sc_law_filled.nd rfl (by first | exact Or.inl rfl | exact Or.inr rfl)) (pgs_cons (pg_name (i := 3) sc_law_filled.nd rfl (by first | exact Or.inl rfl | exact Or.inr rfl)) pgs_nil)))
          (pss_cons (ps_set (i := 8) sc_law_filled.nd rfl (by first | exact Or.inl rfl | exact Or.inr rfl) (C8.pe_c c_law_on hr (by omega) rfl (pa_cons (C8.pe_c c_law_mixed hr (by omega) rfl (pa_cons (pv 1) (pa_cons (pe_op op_add pe_int (pv 7)) pa_nil))) (pa_cons (pv 4) pa_nil))))
          (pss_cons (ps_setLc (i := 9) rfl sc_law_filled.nd rfl rfl (sw_true rfl rfl rfl (by decide +kernel)) (own := [("_law_j", 11)]) (pi_range1 rfl T.n_range (pa_cons (pe_callB call_len_seq (by rfl) T.n_len PySem.boot_len (pa_cons (pe_dget hu (pe_ix ix_tup (pv 3) pe_int (fun _ _ => rfl)) pe_str (fun _ _ => rfl)) pa_nil)) pa_nil)) (blkOk_by (own := [("_law_j", 11)]) (N := ["_law_spec_here", "_law_cell", "_law_names", "_law_row", "_law_beats", "_law_lines", "_law_free", "_law_k", "_law_on_here", "_law_parts", "_law_one", "_law_j"]) (sc := defScope s_law_filled) (by decide +kernel)) (fun _ _ _ _ _ => (pg_name (i := 11) sc_law_filled.nd rfl (by first | exact Or.inl rfl | exact Or.inr rfl))) (fun _ _ _ _ _ => pts_nil) (fun _ _ _ _ _ => (C8.pe_c c_law_told hr (by omega) rfl (pa_cons (C8.pe_c c_law_mixed hr (by omega) rfl (pa_cons (pv 1) (pa_cons (pe_op op_add (pe_op op_add pe_int (pe_op op_mul pe_int (pv 7))) (pv 11)) pa_nil))) (pa_cons (pv 2) (pa_cons pe_int pa_nil))))))
          (pss_cons (ps_expr (pe_bm PySem.F.plainAttrs_list PySem.F.slot_list_insert PySem.F.type_list_insert mt_insert (pv 5) (pa_cons (pe_op op_mod (C8.pe_c c_law_mixed hr (by omega) rfl (pa_cons (pv 1) (pa_cons (pe_op op_add pe_int (pv 7)) pa_nil))) (pe_op op_add (pe_callB call_len_seq (by rfl) T.n_len PySem.boot_len (pa_cons (pv 5) pa_nil)) pe_int)) (pa_cons (pe_tup (pa_cons pe_str (pa_cons (pe_ix ix_tup (pv 3) pe_int (fun _ _ => rfl)) (pa_cons (pe_ix ix_tup (pv 3) pe_int (fun _ _ => rfl)) (pa_cons (pv 9) (pa_cons (pv 8) pa_nil)))))) pa_nil))))
          (pss_one (ps_if (pt_cmp (pc_isN (pv 8))) (pss_one (ps_set (i := 6) sc_law_filled.nd rfl (by first | exact Or.inl rfl | exact Or.inr rfl) (pe_op op_cat (pv 6) (pe_callTy call_list_of (by rfl) T.n_list (by decide +kernel) (pa_cons (pe_ix ix_tup (pv 3) pe_int (fun _ _ => rfl)) pa_nil))))) pss_nil))))))
        (pss_cons (ps_dput hu (pv 0) pe_str (pe_lst (pa_cons (pe_ix ix_list (pv 6) (pe_op op_mod (C8.pe_c c_law_mixed hr (by omega) rfl (pa_cons (pv 1) (pa_cons pe_int pa_nil))) (pe_callB call_len_seq (by rfl) T.n_len PySem.boot_len (pa_cons (pv 6) pa_nil))) (fun _ _ => rfl)) pa_nil)) rfl)
        (pss_cons (ps_if (PW.pt (pw_and (pt_cmpR op_gt (pe_callB call_len_seq (by rfl) T.n_len PySem.boot_len (pa_cons (pv 6) pa_nil)) pe_int (nomark _)) (pw_and1 (pt_cmpR op_eq (pe_op op_mod (C8.pe_c c_law_mixed hr (by omega) rfl (pa_cons (pv 1) (pa_cons pe_int pa_nil))) pe_int) pe_int (nomark _))))) (pss_one (ps_dput hu (pv 0) pe_str (pe_lst (pa_cons (pe_ix ix_list (pv 6) (pe_un un_neg pe_int) (fun _ _ => rfl)) (pa_cons (pe_ix ix_list (pv 6) pe_int (fun _ _ => rfl)) pa_nil))) rfl)) pss_nil)
        (pss_cons (ps_dput hu (pv 0) pe_str (pv 5) rfl)
        (pss_one (ps_ret (pv 0))))))))))))), ?_⟩
  obtain ⟨il, rl, pl, kvs, ivs, rvs, pvs, hd, hkl, v1, v2, v3, v4, nil0, hil, hiv, hrl, hrv, hpl, hpv⟩ := hraw
  have g2 : ∀ {H1 : Hp}, Ext K H H1 → DGet H1 d (.str "inputs") (some (.ref il)) := fun e => by rw [← v2]; exact DGet.k (k := .inr "inputs") (e.at hd)
  have g3 : ∀ {H1 : Hp}, Ext K H H1 → DGet H1 d (.str "rows") (some (.ref rl)) := fun e => by rw [← v3]; exact DGet.k (k := .inr "rows") (e.at hd)
  have g4 : ∀ {H1 : Hp}, Ext K H H1 → DGet H1 d (.str "put") (some (.ref pl)) := fun e => by rw [← v4]; exact DGet.k (k := .inr "put") (e.at hd)
  have li := hiv.length
  have lr := hrv.length
  have lp := hpv.length
  have i2 := hok.i2
  have r1 := hok.r1
  have r3 := hok.r3
  have p2 := hok.p2
  have hts : SeqAt.shaped (.str "truth") = true := by decide +kernel
  -- the names
  refine ⟨_, rfl, d, .ref il, rfl, g2 (Ext.refl K H), il, rfl, ⟨_, .of hil⟩, lcL (K := K) (H1 := H) (a := il) (xs := ivs) (fun i acc _ => acc = (ins.take i).map fun i => V.str i.nm) (fun _ h => h) (.of hil) (by show _ ≤ 2 ^ 24; omega) rfl (fun i x hx acc H3 N S2 e3 pj hN hS => ?_) fun D1 ys1 H1 hD1 e1 hl1 hn1 pj1 => ?_⟩
  · obtain ⟨inp, hinp, t, kv, rfl, ht, _⟩ := paired_get hiv hx
    refine ⟨rfl, ?_⟩
    refine ⟨_, rfl, t, _, 0, _, rfl, rfl, e3.t (.of ht), at0 _ _, hN _ _ (Ext.refl K _) ?_⟩
    show _ ++ _ = _
    rw [show acc = _ from pj, List.take_add_one, hinp, List.map_append]
    rfl
  have pj1 : ys1 = (ins.map Inp.nm).map V.str := by rw [show ys1 = _ from pj1, li, List.take_length, List.map_map]; rfl
  refine ⟨_, rfl, d, .ref rl, rfl, g3 e1, rl, rfl, ⟨_, .of (e1.at hrl)⟩, lcL (K := K) (H1 := H1) (a := rl) (xs := rvs) (fun i acc _ => acc = (rws.take i).map fun q => V.str q.1) (fun _ h => h) (.of (e1.at hrl)) (by show _ ≤ 2 ^ 24; omega) rfl (fun i x hx acc H3 N S2 e3 pj hN hS => ?_) fun D2 ys2 H2 hD2 e2 hl2 hn2 pj2 => ?_⟩
  · obtain ⟨qq, hqq, t, rfl, ht⟩ := paired_get hrv hx
    refine ⟨rfl, ?_⟩
    refine ⟨_, rfl, t, _, 0, _, rfl, rfl, (e1.trans e3).t (.of ht), at0 _ _, hN _ _ (Ext.refl K _) ?_⟩
    show _ ++ _ = _
    rw [show acc = _ from pj, List.take_add_one, hqq, List.map_append]
    rfl
  have pj2 : ys2 = (rws.map (·.1)).map V.str := by rw [show ys2 = _ from pj2, lr, List.take_length, List.map_map]; rfl
  have l1 : ys1.length = ins.length := by rw [pj1, List.length_map, List.length_map]
  have l2 : ys2.length = rws.length := by rw [pj2, List.length_map, List.length_map]
  refine ⟨D1, D2, ys1, ys2, rfl, rfl, e2.at hl1, hl2, by show _ ≤ 2 ^ 24; omega, fun pn0 hpn0 => ?_⟩
  have E2 : Ext K H (upd H2 pn0 (.lst (ys1 ++ ys2))) := (e1.trans e2).trans (Ext.new hpn0 _)
  have hn0 : (upd H2 pn0 (.lst (ys1 ++ ys2))) pn0 = some (.lst ((ins.map Inp.nm ++ rws.map (·.1)).map V.str)) := by rw [upd_same, pj1, pj2, List.map_append]
  generalize upd H2 pn0 (.lst (ys1 ++ ys2)) = G2 at E2 hn0
  -- .. and those of the uses
  have hflat : ∀ i, ((puts.take i).flatMap (·.1)).length ≤ 4 := fun i => by
    have hq : ∀ q ∈ puts, q.1.length ≤ 2 := fun q hq => by
      obtain ⟨s1, h1, h2⟩ := hok.putE q hq
      rw [h2]
      exact (hgood.small s1 (List.mem_of_getElem? h1)).2.1
    exact Nat.le_trans (flatMap_take_le hq i) (by omega)
  refine ⟨_, rfl, d, .ref pl, rfl, g4 E2, pl, rfl, ⟨_, .of (E2.at hpl)⟩, for_list (xs := pvs) (fun i σ H3 => ∃ pn z3, σ = [some (.ref d), some (.int cell), some (.ref pn), z3, none, none, none, none, none, none, none, none] ∧ Ext K H H3 ∧ H3 pn = some (.lst ((ins.map Inp.nm ++ rws.map (·.1) ++ (puts.take i).flatMap (·.1)).map V.str))) ⟨pn0, none, rfl, E2, by rw [hn0, List.take_zero]; simp⟩ (fun i σ H3 _ h => ?_) (fun i x σ H3 hx h => ?_) (fun σ H3 h => ?_)⟩
  · obtain ⟨_, _, _, e3, _⟩ := h
    exact .of (e3.at hpl)
  · obtain ⟨pn, z3, rfl, e3, hpn⟩ := h
    obtain ⟨qq, hqq, t, bt, rv, rfl, ht, hb, hrk⟩ := paired_get hpv hx
    have hf := hflat i
    have hq2 : qq.1.length ≤ 2 := by
      obtain ⟨s1, h1, h2⟩ := hok.putE qq (List.mem_of_getElem? hqq)
      rw [h2]
      exact (hgood.small s1 (List.mem_of_getElem? h1)).2.1
    refine ⟨_, rfl, _, rfl, t, _, 0, _, rfl, rfl, e3.t (.of ht), at0 _ _, bt, _, rfl, .inr (e3.fr.bnd hb).t, fun l hl => ?_⟩
    refine ⟨pn, l, _, _, rfl, rfl, (Ext.new (K := K) hl _).at hpn, upd_same, ?_, fun p5 hp5 => ⟨p5, _, rfl, (e3.trans (Ext.new hl _)).trans (Ext.new hp5 _), ?_⟩⟩
    · simp only [List.length_map, List.length_append] at hf ⊢
      show _ ≤ 2 ^ 24
      omega
    · rw [upd_same, flatMap_take hqq, ← List.append_assoc]
      simp only [List.map_append]
  obtain ⟨pn, z3, rfl, e3, hpn⟩ := h
  rw [lp, List.take_length] at hpn
  have hpn : H3 pn = some (.lst ((allN ins rws puts).map V.str)) := hpn
  have hnl : 1 ≤ (allN ins rws puts).length ∧ (allN ins rws puts).length ≤ 20 := by
    have := hflat puts.length
    rw [List.take_length] at this
    unfold allN
    simp only [List.length_append, List.length_map]
    omega
  -- the beats: the truths among the inputs
  have bfl : ∀ i, ((ins.take i).filter fun i => i.kind.isT).length ≤ 2 := fun i => Nat.le_trans (List.length_filter_le ..) (by rw [List.length_take]; omega)
  refine ⟨_, rfl, d, .ref il, rfl, g2 e3, il, rfl, ⟨_, .of (e3.at hil)⟩, lcL (K := K) (H1 := H3) (a := il) (xs := ivs) (fun i acc _ => acc = ((ins.take i).filter fun i => i.kind.isT).map fun i => V.str i.nm) (fun _ h => h) (.of (e3.at hil)) (by show _ ≤ 2 ^ 24; omega) rfl (fun i x hx acc H4 N S2 e4 pj hN hS => ?_) fun pb ys4 H4 hD4 e4 hl4 hn4 pj4 => ?_⟩
  · obtain ⟨inp, hinp, t, kv, rfl, ht, hk⟩ := paired_get hiv hx
    have E4 := e3.trans e4
    obtain ⟨kd, hkd, hks, hke⟩ := kind_eqv (E4.fr.kind hk)
    have hf : (ins.take (i + 1)).filter (fun i => i.kind.isT) = (ins.take i).filter (fun i => i.kind.isT) ++ if inp.kind.isT = true then [inp] else [] := by
      rw [List.take_add_one, hinp, List.filter_append]
      cases hd2 : inp.kind.isT <;> simp [hd2]
    refine ⟨rfl, ?_⟩
    refine ⟨_, rfl, t, _, 1, _, rfl, rfl, E4.t (.of ht), rfl, kd, _, hkd, .str _, hks, hts, _, rfl, ?_⟩
    rw [hke]
    cases hb : inp.kind.isT with
    | true =>
      refine ite_t rfl ⟨_, rfl, t, _, 0, _, rfl, rfl, E4.t (.of ht), at0 _ _, hN _ _ (Ext.refl K _) ?_⟩
      show _ ++ _ = _
      rw [show acc = _ from pj, hf, if_pos hb, List.map_append]
      rfl
    | false =>
      refine ite_f rfl (hS _ (Ext.refl K _) ?_)
      show acc = _
      rw [show acc = _ from pj, hf, if_neg (by rw [hb]; exact Bool.false_ne_true), List.append_nil]
  have pj4 : ys4 = (beatsN ins rws 0).map V.str := by
    rw [show ys4 = _ from pj4, li, List.take_length]
    unfold beatsN
    simp only [List.take_zero, List.filter_nil, List.map_nil, List.append_nil, List.map_map]
    rfl
  have E4 := e3.trans e4
  -- the lines; what is free
  refine ⟨szk 0, fun pl5 hpl5 => ?_⟩
  have e5 : Ext K H4 (upd H4 pl5 (.lst [])) := Ext.new hpl5 _
  have z5 : (upd H4 pl5 (.lst [])) pl5 = some (.lst []) := upd_same
  generalize hG5 : upd H4 pl5 (.lst []) = H5 at e5 z5
  have E5 := E4.trans e5
  refine ⟨_, rfl, d, .ref il, rfl, g2 E5, il, rfl, ⟨_, .of (E5.at hil)⟩, lcL (K := K) (H1 := H5) (a := il) (xs := ivs) (fun i acc _ => acc = (ins.take i).map fun i => V.str i.nm) (fun _ h => h) (.of (E5.at hil)) (by show _ ≤ 2 ^ 24; omega) rfl (fun i x hx acc H6 N S2 e6 pj hN hS => ?_) fun pf ys6 H6 hD6 e6 hl6 hn6 pj6 => ?_⟩
  · obtain ⟨inp, hinp, t, kv, rfl, ht, _⟩ := paired_get hiv hx
    refine ⟨rfl, ?_⟩
    refine ⟨_, rfl, t, _, 0, _, rfl, rfl, (E5.trans e6).t (.of ht), at0 _ _, hN _ _ (Ext.refl K _) ?_⟩
    show _ ++ _ = _
    rw [show acc = _ from pj, List.take_add_one, hinp, List.map_append]
    rfl
  have pj6 : ys6 = (ins.map Inp.nm).map V.str := by rw [show ys6 = _ from pj6, li, List.take_length, List.map_map]; rfl
  have E6 := E5.trans e6
  have npl : pl5 ≠ pf := fun z => by rw [← z, z5] at hD6; cases hD6
  have npb : pb ≠ pl5 := fun z => by rw [z, hpl5] at hl4; cases hl4
  have npbf : pb ≠ pf := fun z => by rw [← z, e5.at hl4] at hD6; cases hD6
  have npn : pn ≠ pl5 := fun z => by have y := e4.at hpn; rw [z, hpl5] at y; cases y
  have npnf : pn ≠ pf := fun z => by have y := (e4.trans e5).at hpn; rw [z, hD6] at y; cases y
  have hpf4 : H4 pf = none := e5.free hD6
  have hpl4 : H4 pl5 = none := hpl5
  have hbase : ∀ {H7 : Hp}, Ext K H4 H7 → Ext K H H7 := fun e => E4.trans e
  have strok : ∀ n ∈ allN ins rws puts, PyData.strOk n = true := fun n hn => nm_strOk (hok.nms n hn)
  have beatsIn : ∀ i, ∀ n ∈ beatsN ins rws i, n ∈ allN ins rws puts := fun i n hn => by
    unfold beatsN at hn
    unfold allN
    rcases List.mem_append.mp hn with hn | hn
    · obtain ⟨x, hx, rfl⟩ := List.mem_map.mp hn
      exact List.mem_append_left _ (List.mem_append_left _ (List.mem_map_of_mem (List.mem_filter.mp hx).1))
    · obtain ⟨x, hx, rfl⟩ := List.mem_map.mp hn
      exact List.mem_append_left _ (List.mem_append_right _ (List.mem_map_of_mem (List.mem_of_mem_take (List.mem_filter.mp hx).1)))
  have beatsLen : ∀ i, (beatsN ins rws i).length ≤ 5 := fun i => by
    have h1 : (ins.filter fun i => i.kind.isT).length ≤ ins.length := List.length_filter_le ..
    have h2 : ((rws.take i).filter (·.2)).length ≤ (rws.take i).length := List.length_filter_le ..
    have h3 : (rws.take i).length ≤ rws.length := by rw [List.length_take]; exact Nat.min_le_right _ _
    unfold beatsN
    rw [List.length_append, List.length_map, List.length_map]
    omega
  refine ⟨_, rfl, d, .ref rl, rfl, g3 E6, rl, rvs, rfl, .of (E6.at hrl), for_enum (xs := rvs) (fun i σ H7 => ∃ z3 z7 z8 pb lvs rll fr, σ = [some (.ref d), some (.int cell), some (.ref pn), z3, some (.ref pb), some (.ref pl5), some (.ref pf), z7, z8, none, none, none] ∧ Ext K H4 H7 ∧ H7 pb = some (.lst ((beatsN ins rws i).map V.str)) ∧ pb ≠ pl5 ∧ pb ≠ pf ∧ H7 pl5 = some (.lst lvs) ∧ H7 pf = some (.lst (List.map V.str fr)) ∧ Paired (LnNew K R Hb pl5 H7) lvs rll ∧ rll.length = i ∧ (∀ j l, rll[j]? = some l → RowOk ins rws puts j l) ∧ fr.Sublist (ins.map Inp.nm ++ (rws.take i).map (·.1)) ∧ (∀ n ∈ fr, n ∈ ins.map Inp.nm ∨ ∃ l ∈ rll, l.on = none ∧ n ∈ l.borne) ∧ (fr = [] → i = 0 ∧ ins = []))
    ?_ ?_ ?_ ?_⟩
  · refine ⟨z3, none, none, pb, [], [], ins.map Inp.nm, rfl, e5.trans e6, by rw [← pj4]; exact (e5.trans e6).at hl4, npb, npbf, e6.at z5, by rw [← pj6]; exact hl6, .nil, rfl, by simp, by simp, fun n hn => .inl hn, fun hz => ⟨rfl, List.map_eq_nil_iff.mp hz⟩⟩
  · intro i σ H7 h
    obtain ⟨_, _, _, _, _, _, _, _, e7, _⟩ := h
    exact .of ((hbase e7).at hrl)
  · intro i x T7 σ H7 hx h hT
    obtain ⟨w3, w7, w8, pb, lvs, rll, fr, rfl, e7, hpb, nb1, nb2, hpl7, hpf7, hpr, hrll, hro, hsub, hfr, hfe⟩ := h
    obtain ⟨⟨n, tr⟩, hq, t, rfl, ht⟩ := paired_get hrv hx
    have hi : i < rws.length := (List.getElem?_eq_some_iff.mp hq).1
    have e8 : Ext K H7 (upd H7 T7 (.tup [.int ((i : Nat) : Int), .ref t])) := Ext.new hT _
    refine ⟨T7, _, rfl, .of upd_same, rfl, _, _, rfl, _, _, rfl, rfl, ?_⟩
    generalize upd H7 T7 (.tup [.int ((i : Nat) : Int), .ref t]) = H8 at e8
    have e08 := e7.trans e8
    have E8 := hbase e08
    refine ⟨_, rfl, _, rfl, 30, _, rfl, rfl, cell, 30 + ((i : Nat) : Int), rfl, by omega, by omega, _, rfl, _, pb, beatsN ins rws i, rfl, mix_pos _ _, .of (e8.at hpb), fun b hb => strok b (beatsIn i b hb), fun o H9 e9 ho => ?_⟩
    have hlv : lvs.length ≤ 3 := by have := hpr.length; omega
    have E9 := E8.trans e9
    have hpl9 := (e8.trans e9).at hpl7
    refine ⟨_, rfl, .inl ⟨rfl, _, .of hpl9⟩, ?_⟩
    refine ⟨_, rfl, t, _, 0, _, rfl, rfl, .of (E9.at ht), rfl, _, rfl, t, _, 1, _, rfl, rfl, .of (E9.at ht), rfl, ?_⟩
    refine ⟨_, rfl, _, rfl, 40, _, rfl, rfl, cell, 40 + ((i : Nat) : Int), rfl, by omega, by omega, _, rfl, _, pn, allN ins rws puts, 2, rfl, by decide, by decide, .of ((((e4.trans e08).trans e9)).at hpn), hnl.1, hok.nms, fun tl r10 H10 e10 ok10 dp10 nm10 dv10 => ?_⟩
    refine ⟨_, rfl, szk 5, fun u hu => ⟨pl5, lvs, _, rfl, rfl, (e10.trans (Ext.new hu _)).at hpl9, by show _ < 2 ^ 24; omega, ?_⟩⟩
    have e11 := ((e8.trans e9).trans e10).trans (Ext.new hu (.tup [.str "row", .str n, .str (trS tr), r10, onV o]))
    have hrow11 : ∀ {H12 : Hp}, Fr (upd H10 u (.tup [.str "row", .str n, .str (trS tr), r10, onV o])) H12 → LnNew K R Hb pl5 H12 (.ref u) (.row n tr tl o) := fun fr => ⟨u, r10, rfl, fr _ _ upd_same rfl, fr.dp ((Fr.new hu _).dp dv10 (told_noL tl)) (told_noL tl)⟩
    generalize hG11 : upd H10 u (.tup [.str "row", .str n, .str (trS tr), r10, onV o]) = H11 at e11 hrow11
    have hpl11 := e11.at hpl7
    have e12 : Ext K H4 (upd H11 pl5 (.lst (lvs ++ [.ref u]))) := (e7.trans e11).push hpl4 hpl11
    have fr12 : Fr H11 (upd H11 pl5 (.lst (lvs ++ [.ref u]))) := Fr.put hpl11 rfl _
    have hpl12 : (upd H11 pl5 (.lst (lvs ++ [.ref u]))) pl5 = some (.lst (lvs ++ [.ref u])) := upd_same
    have hpf12 : (upd H11 pl5 (.lst (lvs ++ [.ref u]))) pf = some (.lst (List.map V.str fr)) := by rw [upd_ne npl.symm]; exact e11.at hpf7
    have hpb12 : (upd H11 pl5 (.lst (lvs ++ [.ref u]))) pb = some (.lst ((beatsN ins rws i).map V.str)) := by rw [upd_ne nb1]; exact e11.at hpb
    have hpr12 : Paired (LnNew K R Hb pl5 (upd H11 pl5 (.lst (lvs ++ [.ref u])))) (lvs ++ [.ref u]) (rll ++ [.row n tr tl o]) := Paired.snoc (Paired.mapP hpr fun _ _ z => z.keep (e11.fr.trans fr12) fun r ys hr hy => by rw [upd_ne hr]; exact e11.at hy) (hrow11 fr12)
    generalize upd H11 pl5 (.lst (lvs ++ [.ref u])) = H12 at e12 fr12 hpl12 hpf12 hpb12 hpr12
    have hro12 : ∀ j l, (rll ++ [Ln.row n tr tl o])[j]? = some l → RowOk ins rws puts j l := fun j l hj => by
      by_cases hjl : j < rll.length
      · rw [List.getElem?_append_left hjl] at hj
        exact hro j l hj
      · rw [List.getElem?_append_right (by omega)] at hj
        have hz : j - rll.length = 0 := by
          cases hk : j - rll.length with
          | zero => rfl
          | succ k => rw [hk] at hj; cases hj
        rw [hz] at hj
        cases hj
        have ej : j = i := by omega
        rw [ej]
        exact ⟨n, tr, tl, o, hq, rfl, ok10, by omega, nm10, ho⟩
    have htk : (rws.take (i + 1)).map (·.1) = (rws.take i).map (·.1) ++ [n] := by rw [List.take_add_one, hq, List.map_append]; rfl
    have hbt : beatsN ins rws (i + 1) = if tr = true then beatsN ins rws i ++ [n] else beatsN ins rws i := by
      unfold beatsN
      rw [List.take_add_one, hq, List.filter_append, List.map_append, ← List.append_assoc]
      cases tr
      · simp
      · rfl
    have hE12 := hbase e12
    have hTE : PyData.eqv (.str (trS tr)) (.str "truth") = tr := by cases tr <;> decide +kernel
    have hTS : SeqAt.shaped (.str (trS tr)) = true := by cases tr <;> decide +kernel
    have frl : fr.length ≤ 5 := by
      have z := hsub.length_le
      rw [List.length_append, List.length_map, List.length_map, List.length_take] at z
      omega
    have hbl := beatsLen i
    cases o with
    | some o0 =>
      refine ⟨_, rfl, _, rfl, ite_f rfl ?_⟩
      refine ⟨_, rfl, t, _, 1, _, rfl, rfl, .of ((hbase e12).at ht), rfl, .str (trS tr), .str "truth", .str _, .str _, hTS, hts, _, rfl, ?_⟩
      rw [hTE]
      cases tr with
      | false =>
        refine ite_f rfl ?_
        exact ⟨_, _, _, pb, lvs ++ [.ref u], rll ++ [.row n false tl (some o0)], fr, rfl, e12, by rw [hbt]; exact hpb12, nb1, nb2, hpl12, hpf12, hpr12, by rw [List.length_append, hrll]; rfl, hro12, by rw [htk, ← List.append_assoc]; exact hsub.trans (List.sublist_append_left _ _), fun m hm => (hfr m hm).imp id fun ⟨l, h1, h2⟩ => ⟨l, List.mem_append_left _ h1, h2⟩, fun hz => absurd hz (fun hz => by obtain ⟨z1, z2⟩ := hfe hz; have y := ho o0 rfl; rw [z1, z2] at y; cases y)⟩
      | true =>
        refine ite_t rfl ?_
        refine ⟨_, rfl, _, rfl, t, _, 0, _, rfl, rfl, .of ((hbase e12).at ht), rfl, szk 1, fun w hw => ⟨pb, w, _, _, rfl, rfl, (Ext.new (K := K) hw _).at (hpb12), upd_same, by rw [List.length_map]; show _ + 1 ≤ 2 ^ 24; omega, fun pb2 hpb2 => ?_⟩⟩
        have f1 : Ext K H12 _ := (Ext.new hw (.lst [.str n])).trans (Ext.new hpb2 (.lst ((beatsN ins rws i).map V.str ++ [.str n])))
        have plz := f1.at (hpl12)
        have pfz := f1.at (hpf12)
        have pbz : (upd (upd H12 w (.lst [.str n])) pb2 (.lst ((beatsN ins rws i).map V.str ++ [.str n]))) pb2 = some (.lst ((beatsN ins rws (i + 1)).map V.str)) := by rw [upd_same, hbt, if_pos rfl, List.map_append]; rfl
        have nb3 : pb2 ≠ pl5 := fun z => by rw [z] at hpb2; have y := (Ext.new (K := K) hw (.lst [.str n])).at (hpl12); rw [hpb2] at y; cases y
        have nb4 : pb2 ≠ pf := fun z => by rw [z] at hpb2; have y := (Ext.new (K := K) hw (.lst [.str n])).at (hpf12); rw [hpb2] at y; cases y
        exact ⟨_, _, _, pb2, lvs ++ [.ref u], rll ++ [.row n true tl (some o0)], fr, rfl, (e12).trans f1, pbz, nb3, nb4, plz, pfz, (Paired.mapP (hpr12) fun _ _ z => z.keep f1.fr fun r ys _ hy => f1.at hy), by rw [List.length_append, hrll]; rfl, hro12, by rw [htk, ← List.append_assoc]; exact hsub.trans (List.sublist_append_left _ _), fun m hm => (hfr m hm).imp id fun ⟨l, h1, h2⟩ => ⟨l, List.mem_append_left _ h1, h2⟩, fun hz => absurd hz (fun hz => by obtain ⟨z1, z2⟩ := hfe hz; have y := ho o0 rfl; rw [z1, z2] at y; cases y)⟩
    | none =>
      refine ⟨_, rfl, _, rfl, ite_t rfl ?_⟩
      refine ⟨_, rfl, .inl ⟨rfl, _, .of hpf12⟩, _, rfl, t, _, 0, _, rfl, rfl, .of (hE12.at ht), rfl, pf, _, _, rfl, rfl, hpf12, by rw [List.length_map]; show _ < 2 ^ 24; omega, ?_⟩
      have e13 : Ext K H4 (upd H12 pf (.lst (fr.map V.str ++ [.str n]))) := e12.push hpf4 hpf12
      have fr13 : Fr H12 (upd H12 pf (.lst (fr.map V.str ++ [.str n]))) := Fr.put hpf12 rfl _
      have hpf13 : (upd H12 pf (.lst (fr.map V.str ++ [.str n]))) pf = some (.lst ((fr ++ [n]).map V.str)) := by rw [upd_same, List.map_append]; rfl
      have hpl13 : (upd H12 pf (.lst (fr.map V.str ++ [.str n]))) pl5 = some (.lst (lvs ++ [.ref u])) := by rw [upd_ne npl]; exact hpl12
      have hpb13 : (upd H12 pf (.lst (fr.map V.str ++ [.str n]))) pb = some (.lst ((beatsN ins rws i).map V.str)) := by rw [upd_ne nb2]; exact hpb12
      have hpr13 : Paired (LnNew K R Hb pl5 (upd H12 pf (.lst (fr.map V.str ++ [.str n])))) (lvs ++ [.ref u]) (rll ++ [.row n tr tl none]) := rows_keep fr13 (fun l hl => by obtain ⟨j, hj⟩ := get_mem hl; obtain ⟨n', t', p', o', _, e, _⟩ := hro12 j l hj; exact ⟨n', t', p', o', e⟩) hpr12
      generalize upd H12 pf (.lst (fr.map V.str ++ [.str n])) = H13 at e13 fr13 hpf13 hpl13 hpb13 hpr13
      refine ⟨_, rfl, t, _, 1, _, rfl, rfl, .of ((hbase e13).at ht), rfl, .str (trS tr), .str "truth", .str _, .str _, hTS, hts, _, rfl, ?_⟩
      rw [hTE]
      cases tr with
      | false =>
        refine ite_f rfl ?_
        exact ⟨_, _, _, pb, lvs ++ [.ref u], rll ++ [.row n false tl none], (fr ++ [n]), rfl, e13, by rw [hbt]; exact hpb13, nb1, nb2, hpl13, hpf13, hpr13, by rw [List.length_append, hrll]; rfl, hro12, by rw [htk, ← List.append_assoc]; exact List.Sublist.append hsub (List.Sublist.refl _), fun m hm => (List.mem_append.mp hm).elim (fun hm => (hfr m hm).imp id fun ⟨l, h1, h2⟩ => ⟨l, List.mem_append_left _ h1, h2⟩) fun hm => .inr ⟨Ln.row n false tl none, List.mem_append_right _ (List.mem_singleton.mpr rfl), rfl, hm⟩, fun hz => absurd hz (by simp)⟩
      | true =>
        refine ite_t rfl ?_
        refine ⟨_, rfl, _, rfl, t, _, 0, _, rfl, rfl, .of ((hbase e13).at ht), rfl, szk 1, fun w hw => ⟨pb, w, _, _, rfl, rfl, (Ext.new (K := K) hw _).at (hpb13), upd_same, by rw [List.length_map]; show _ + 1 ≤ 2 ^ 24; omega, fun pb2 hpb2 => ?_⟩⟩
        have f1 : Ext K H13 _ := (Ext.new hw (.lst [.str n])).trans (Ext.new hpb2 (.lst ((beatsN ins rws i).map V.str ++ [.str n])))
        have plz := f1.at (hpl13)
        have pfz := f1.at (hpf13)
        have pbz : (upd (upd H13 w (.lst [.str n])) pb2 (.lst ((beatsN ins rws i).map V.str ++ [.str n]))) pb2 = some (.lst ((beatsN ins rws (i + 1)).map V.str)) := by rw [upd_same, hbt, if_pos rfl, List.map_append]; rfl
        have nb3 : pb2 ≠ pl5 := fun z => by rw [z] at hpb2; have y := (Ext.new (K := K) hw (.lst [.str n])).at (hpl13); rw [hpb2] at y; cases y
        have nb4 : pb2 ≠ pf := fun z => by rw [z] at hpb2; have y := (Ext.new (K := K) hw (.lst [.str n])).at (hpf13); rw [hpb2] at y; cases y
        exact ⟨_, _, _, pb2, lvs ++ [.ref u], rll ++ [.row n true tl none], (fr ++ [n]), rfl, (e13).trans f1, pbz, nb3, nb4, plz, pfz, (Paired.mapP (hpr13) fun _ _ z => z.keep f1.fr fun r ys _ hy => f1.at hy), by rw [List.length_append, hrll]; rfl, hro12, by rw [htk, ← List.append_assoc]; exact List.Sublist.append hsub (List.Sublist.refl _), fun m hm => (List.mem_append.mp hm).elim (fun hm => (hfr m hm).imp id fun ⟨l, h1, h2⟩ => ⟨l, List.mem_append_left _ h1, h2⟩) fun hm => .inr ⟨Ln.row n true tl none, List.mem_append_right _ (List.mem_singleton.mpr rfl), rfl, hm⟩, fun hz => absurd hz (by simp)⟩
  intro σ H7 h
  obtain ⟨w3, w7, w8, pb, lvs, rll, fr, rfl, e7, hpb, nb1, nb2, hpl7, hpf7, hpr, hrll, hro, hsub, hfr, hfe⟩ := h
  rw [lr] at hpb hrll hsub hfe
  have hfr0 : fr ≠ [] := fun z => by have := (hfe z).1; omega
  rw [List.take_length] at hsub
  have E7 := hbase e7
  have flat_le := hflat
  refine ⟨_, rfl, d, .ref pl, rfl, g4 E7, pl, pvs, rfl, .of (E7.at hpl), for_enum (xs := pvs) (fun i σ H8 => ∃ z3 z7 z8 z9 pf lvs al ul fr, σ = [some (.ref d), some (.int cell), some (.ref pn), z3, some (.ref pb), some (.ref pl5), some (.ref pf), z7, z8, z9, none, none] ∧ Ext K H4 H8 ∧ H8 pb = some (.lst ((beatsN ins rws rws.length).map V.str)) ∧ H8 pl5 = some (.lst lvs) ∧ pf ≠ pl5 ∧ H8 pf = some (.lst (List.map V.str fr)) ∧ Paired (LnNew K R Hb pl5 H8) lvs al ∧ al.Perm (rll ++ ul) ∧ ul.length = i ∧ (∀ j l, ul[j]? = some l → UseOk S ins rws puts j l) ∧ fr.Sublist (ins.map Inp.nm ++ rws.map (·.1) ++ (puts.take i).flatMap (·.1)) ∧ (∀ n ∈ fr, n ∈ ins.map Inp.nm ∨ ∃ l ∈ al, l.on = none ∧ n ∈ l.borne) ∧ fr ≠ [])
    ?_ ?_ ?_ ?_⟩
  · exact ⟨_, _, _, none, pf, lvs, rll, [], fr, rfl, e7, hpb, hpl7, npl.symm, hpf7, hpr, by rw [List.append_nil], rfl, by simp, by rw [List.take_zero]; simpa using hsub, hfr, hfr0⟩
  · intro i σ H8 h
    obtain ⟨_, _, _, _, _, _, _, _, _, _, e8, _⟩ := h
    exact .of ((hbase e8).at hpl)
  · intro i x T8 σ H8 hx h hT
    obtain ⟨y3, y7, y8, y9, pf1, lvs1, al, ul, fr1, rfl, e8, hpb8, hpl8, nf1, hpf8, hpr8, hperm, hul, huo, hsub1, hfr1, hfe1⟩ := h
    obtain ⟨⟨bs, kk⟩, hq, t, bt, rv, rfl, ht, hb, hrk⟩ := paired_get hpv hx
    have hi : i < puts.length := (List.getElem?_eq_some_iff.mp hq).1
    obtain ⟨s1, hs1, hbl⟩ := hok.putE (bs, kk) (List.mem_of_getElem? hq)
    have hs1 : S[kk]? = some s1 := hs1
    have hbl : bs.length = s1.outs.length := hbl
    have hsm := hgood.small s1 (List.mem_of_getElem? hs1)
    have hsp := hR.at hs1 hrk
    obtain ⟨d1, il1, ol1, ll1, kvs1, ivs1, lvs2, rfl, hd1, u1, u2, u3, u4, x7, x8, _⟩ := hsp
    have hi1 := x8.length
    have gi : ∀ {H9 : Hp}, Ext K H4 H9 → DGet H9 d1 (.str "inputs") (some (.ref il1)) := fun e => by rw [← u2]; exact DGet.k (k := .inr "inputs") ((hbe.trans (hbase e)).at hd1)
    have e9 : Ext K H8 (upd H8 T8 (.tup [.int ((i : Nat) : Int), .ref t])) := Ext.new hT _
    refine ⟨T8, _, rfl, .of upd_same, rfl, _, _, rfl, _, _, rfl, rfl, ?_⟩
    generalize upd H8 T8 (.tup [.int ((i : Nat) : Int), .ref t]) = H9 at e9
    have e09 := e8.trans e9
    refine ⟨_, rfl, _, rfl, 35, _, rfl, rfl, cell, 35 + ((i : Nat) : Int), rfl, by omega, by omega, _, rfl, _, pb, beatsN ins rws rws.length, rfl, mix_pos _ _, .of (e9.at hpb8), fun b hb => strok b (beatsIn _ b hb), fun o H10 e10 ho => ?_⟩
    have e010 := e09.trans e10
    have E10 := hbase e010
    refine ⟨_, rfl, t, _, 1, _, rfl, rfl, .of (E10.at ht), rfl, d1, _, rfl, gi e010, il1, _, rfl, .inl (.of ((hbe.trans E10).at x7)), _, rfl, by omega, by omega, lcR (K := K) (H1 := H10) (fun j acc H11 => ∃ ts, Paired (fun v (p : Tl) => Dp K H11 v p.told) acc ts ∧ ts.length = j ∧ ∀ p ∈ ts, p.ok ∧ p.dep ≤ 3 ∧ ∀ x ∈ p.names, x ∈ allN ins rws puts) (fun e h => by obtain ⟨ts, h1, h2⟩ := h; exact ⟨ts, Paired.mapP h1 fun _ p z => e.dp z (told_noL p), h2⟩) (by show _ ≤ 2 ^ 24; omega) ⟨[], .nil, rfl, by simp⟩ (fun j hj acc H11 N S2 e11 pj hN hS => ?_) fun D ys H11 hD e11 hl11 hn11 pj => ?_⟩
    · obtain ⟨ts, p1, p2, p3⟩ := pj
      refine ⟨rfl, ?_⟩
      refine ⟨_, rfl, _, rfl, 9, _, rfl, rfl, .inl ⟨by decide, by decide⟩, 45, _, rfl, rfl, _, rfl, _, _, rfl, rfl, cell, 45 + 9 * ((i : Nat) : Int) + (0 + ((j : Nat) : Int)), rfl, by omega, by omega, _, rfl, _, pn, allN ins rws puts, 1, rfl, by decide, by decide, .of (((e4.trans e010).trans e11).at hpn), hnl.1, hok.nms, fun tl r12 H12 e12 ok12 dp12 nm12 dv12 => hN _ _ e12 ⟨ts ++ [tl], Paired.snoc (Paired.mapP p1 fun _ p z => e12.fr.dp z (told_noL p)) dv12, by rw [List.length_append, p2]; rfl, fun p hp => ?_⟩⟩
      rcases List.mem_append.mp hp with h | h
      · exact p3 p h
      · rw [List.mem_singleton.mp h]
        exact ⟨ok12, by omega, nm12⟩
    obtain ⟨ts, p1, p2, p3⟩ := pj
    have htl : ts.length = s1.ins.length := by rw [p2, Int.toNat_natCast, hi1]
    have e011 := e010.trans e11
    have E11 := hbase e011
    have hpl11 := ((e9.trans e10).trans e11).at hpl8
    have hal : lvs1.length ≤ 5 := by
      have z1 := hpr8.length
      have z2 := hperm.length_eq
      rw [List.length_append] at z2
      omega
    have hmod := mix_mod cell (50 + ((i : Nat) : Int)) (n := ((lvs1.length : Nat) : Int) + 1) (by omega)
    refine ⟨_, rfl, .inl ⟨rfl, _, .of hpl11⟩, _, rfl, _, rfl, 50, _, rfl, rfl, cell, 50 + ((i : Nat) : Int), rfl, by omega, by omega, _, rfl, pl5, _, rfl, .inl (.of hpl11), _, 1, rfl, rfl, _, _, rfl, rfl, (show (0 : Int) < ((lvs1.length : Nat) : Int) + 1 by omega), ?_⟩
    refine ⟨_, rfl, t, _, 0, _, rfl, rfl, .of (E11.at ht), rfl, _, rfl, t, _, 1, _, rfl, rfl, .of (E11.at ht), rfl, _, rfl, _, rfl, szk 5, fun u hu => ⟨pl5, lvs1, mix cell (50 + ((i : Nat) : Int)) % (((lvs1.length : Nat) : Int) + 1), .ref u, rfl, rfl, (Ext.new (K := K) hu _).at hpl11, by show _ < 2 ^ 24; omega, hmod.1, by omega, ?_⟩⟩
    generalize (mix cell (50 + ((i : Nat) : Int)) % (((lvs1.length : Nat) : Int) + 1)).toNat = ix
    have e12 := ((e9.trans e10).trans e11).trans (Ext.new hu (.tup [.str "use", .ref bt, .ref d1, .ref D, onV o]))
    have hD0 : Hb D = none := (hbe.trans E10).free hD
    have hDp : D ≠ pl5 := fun z => by rw [z] at hD; have y := (e9.trans e10).at hpl8; rw [hD] at y; cases y
    have huse : ∀ {H13 : Hp}, Fr (upd H11 u (.tup [.str "use", .ref bt, .ref d1, .ref D, onV o])) H13 → H13 D = some (.lst ys) → LnNew K R Hb pl5 H13 (.ref u) (.use bs kk ts o) := fun fr hy => ⟨u, bt, D, .ref d1, ys, rfl, fr _ _ upd_same rfl, ((E11.trans (Ext.new hu _)).fr.trans fr).bnd hb, hrk, hy, Paired.mapP p1 fun _ p z => ((Fr.new hu _).trans fr).dp z (told_noL p), hD0, hDp⟩
    have hD12 : (upd H11 u (.tup [.str "use", .ref bt, .ref d1, .ref D, onV o])) D = some (.lst ys) := (Ext.new (K := K) hu _).at hl11
    generalize upd H11 u (.tup [.str "use", .ref bt, .ref d1, .ref D, onV o]) = H12 at e12 huse hD12
    have hpl12 := e12.at hpl8
    have e13 : Ext K H4 (upd H12 pl5 (.lst (lvs1.take ix ++ [.ref u] ++ lvs1.drop ix))) := (e8.trans e12).push hpl4 hpl12
    have fr13 : Fr H12 (upd H12 pl5 (.lst (lvs1.take ix ++ [.ref u] ++ lvs1.drop ix))) := Fr.put hpl12 rfl _
    have kp : ∀ r ys, r ≠ pl5 → H8 r = some (.lst ys) → (upd H12 pl5 (.lst (lvs1.take ix ++ [.ref u] ++ lvs1.drop ix))) r = some (.lst ys) := fun r ys hr hy => by rw [upd_ne hr]; exact e12.at hy
    have hpl13 : (upd H12 pl5 (.lst (lvs1.take ix ++ [.ref u] ++ lvs1.drop ix))) pl5 = some (.lst (lvs1.take ix ++ [.ref u] ++ lvs1.drop ix)) := upd_same
    have hD13 : (upd H12 pl5 (.lst (lvs1.take ix ++ [.ref u] ++ lvs1.drop ix))) D = some (.lst ys) := by rw [upd_ne hDp]; exact hD12
    have hpf13 := kp pf1 _ nf1 hpf8
    have hpb13 := kp pb _ nb1 hpb8
    have hpr80 := Paired.mapP hpr8 fun _ _ z => z.keep (e12.fr.trans fr13) kp
    have hpr13 : Paired (LnNew K R Hb pl5 (upd H12 pl5 (.lst (lvs1.take ix ++ [.ref u] ++ lvs1.drop ix)))) (lvs1.take ix ++ [.ref u] ++ lvs1.drop ix) (al.take ix ++ [.use bs kk ts o] ++ al.drop ix) := paired_app (paired_app (paired_take ix hpr80) (.cons (huse fr13 hD13) .nil)) (paired_drop ix hpr80)
    generalize upd H12 pl5 (.lst (lvs1.take ix ++ [.ref u] ++ lvs1.drop ix)) = H13 at e13 hpl13 hpf13 hpb13 hpr13
    have hperm13 := ins_perm hperm (.use bs kk ts o) ix
    have hul13 : (ul ++ [Ln.use bs kk ts o]).length = i + 1 := by rw [List.length_append, hul]; rfl
    have huo13 : ∀ j l, (ul ++ [Ln.use bs kk ts o])[j]? = some l → UseOk S ins rws puts j l := fun j l hj => by
      by_cases hjl : j < ul.length
      · rw [List.getElem?_append_left hjl] at hj
        exact huo j l hj
      · rw [List.getElem?_append_right (by omega)] at hj
        have hz : j - ul.length = 0 := by
          cases hk : j - ul.length with
          | zero => rfl
          | succ k => rw [hk] at hj; cases hj
        rw [hz] at hj
        cases hj
        have ej : j = i := by omega
        rw [ej]
        exact ⟨bs, kk, ts, o, s1, hq, rfl, hs1, htl, p3, ho⟩
    have hflt : (puts.take (i + 1)).flatMap (·.1) = (puts.take i).flatMap (·.1) ++ bs := flatMap_take hq
    have hmemn : ∀ l ∈ al, l ∈ al.take ix ++ [Ln.use bs kk ts o] ++ al.drop ix := fun l hl => by
      rw [← List.take_append_drop ix al] at hl
      rcases List.mem_append.mp hl with h | h
      · exact List.mem_append_left _ (List.mem_append_left _ h)
      · exact List.mem_append_right _ h
    cases o with
    | some o0 =>
      refine ⟨_, rfl, _, rfl, ite_f rfl ?_⟩
      exact ⟨_, _, _, _, pf1, _, _, ul ++ [.use bs kk ts (some o0)], fr1, rfl, e13, hpb13, hpl13, nf1, hpf13, hpr13, hperm13, hul13, huo13, by rw [hflt, ← List.append_assoc]; exact hsub1.trans (List.sublist_append_left _ _), fun m hm => (hfr1 m hm).imp id fun ⟨l, h1, h2⟩ => ⟨l, hmemn l h1, h2⟩, hfe1⟩
    | none =>
      refine ⟨_, rfl, _, rfl, ite_t rfl ?_⟩
      have hfl : fr1.length ≤ 10 := by
        have z := hsub1.length_le
        have z2 := hflat i
        simp only [List.length_append, List.length_map] at z
        omega
      refine ⟨_, rfl, _, rfl, t, _, 0, _, rfl, rfl, .of ((hbase e13).at ht), rfl, bt, _, rfl, .inr ((hbase e13).fr.bnd hb).t, fun l hl => ⟨pf1, l, _, _, rfl, rfl, (Ext.new (K := K) hl _).at hpf13, upd_same, by rw [List.length_map, List.length_map]; show _ ≤ 2 ^ 24; omega, fun pf2 hpf2 => ?_⟩⟩
      have f1 := (Ext.new (K := K) hl (.lst (bs.map V.str))).trans (Ext.new hpf2 (.lst (List.map V.str fr1 ++ bs.map V.str)))
      have nf2 : pf2 ≠ pl5 := fun z => by rw [z] at hpf2; have y := (Ext.new (K := K) hl (.lst (bs.map V.str))).at hpl13; rw [hpf2] at y; cases y
      exact ⟨_, _, _, _, pf2, _, _, ul ++ [.use bs kk ts none], fr1 ++ bs, rfl, e13.trans f1, f1.at hpb13, f1.at hpl13, nf2, by rw [upd_same, List.map_append], Paired.mapP hpr13 fun _ _ z => z.keep f1.fr fun r ys _ hy => f1.at hy, hperm13, hul13, huo13, by rw [hflt, ← List.append_assoc]; exact List.Sublist.append hsub1 (List.Sublist.refl _), fun m hm => (List.mem_append.mp hm).elim (fun hm => (hfr1 m hm).imp id fun ⟨l, h1, h2⟩ => ⟨l, hmemn l h1, h2⟩) fun hm => .inr ⟨Ln.use bs kk ts none, List.mem_append_left _ (List.mem_append_right _ (List.mem_singleton.mpr rfl)), rfl, hm⟩, fun z => hfe1 (List.append_eq_nil_iff.mp z).1⟩
  intro σ H8 h
  obtain ⟨y3, y7, y8, y9, pf1, lvs1, al, ul, fr1, rfl, e8, hpb8, hpl8, nf1, hpf8, hpr8, hperm, hul, huo, hsub1, hfr1, hfe1⟩ := h
  rw [lp] at hul
  rw [lp, List.take_length] at hsub1
  have E8 := hbase e8
  have hd8 := E8.at hd
  have hfd : fr1.Nodup := hsub1.nodup hok.names
  have hfl : fr1.length ≤ 20 := Nat.le_trans hsub1.length_le hnl.2
  have hfpos : 0 < fr1.length := List.length_pos_iff.mpr hfe1
  have hfm : (fr1.map V.str).length = fr1.length := List.length_map ..
  have fin : ∀ (H9 : Hp) (kvs2 : List (Key × V)) (ol : Addr) (outs : List Str), H9 d = some (.dK kvs2) → valV kvs2 (.inr "name") = some (.str nm) → valV kvs2 (.inr "inputs") = some (.ref il) → valV kvs2 (.inr "outputs") = some (.ref ol) → Ext K Hb H9 → Fr H8 H9 → (∀ r ys, H8 r = some (.lst ys) → H9 r = some (.lst ys)) → H9 ol = some (.lst (outs.map V.str)) → Hb ol = none → 1 ≤ outs.length → outs.length ≤ 2 → outs.Nodup → (∀ o ∈ outs, o ∈ fr1) →
      Q (.ref d) (upd H9 d (.dK (putK kvs2 (.inr "lines") (.ref pl5)))) := by
    intro H9 kvs2 ol outs h1 w1 w2 w3 hb9 hfr9 hls hol hol0 ho1 ho2 hond hofr
    have fr10 : Fr H9 (upd H9 d (.dK (putK kvs2 (.inr "lines") (.ref pl5)))) := Fr.put h1 rfl _
    have ls : ∀ r ys, H9 r = some (.lst ys) → (upd H9 d (.dK (putK kvs2 (.inr "lines") (.ref pl5)))) r = some (.lst ys) := fun r ys hr => by
      rw [upd_ne fun z => by rw [z, h1] at hr; cases hr]
      exact hr
    have il9 := hls il _ (E8.at hil)
    refine q ⟨nm, ins, outs, al⟩ _ (hb9.put hbd h1 trivial _) ⟨d, il, ol, pl5, _, ivs, lvs1, rfl, upd_same, ?_, ?_, ?_, ?_, ls _ _ il9, Paired.mapP hiv fun _ _ z => (E8.fr.trans (hfr9.trans fr10)).inpSp z, ls _ _ hol, ls _ _ (hls _ _ hpl8), Paired.mapP hpr8 fun _ _ z => z.keep (hfr9.trans fr10) fun r ys _ hr => ls _ _ (hls _ _ hr), hbd, nil0, hol0, (hbe.trans E4).free hpl4⟩ ⟨rfl, rfl, ⟨rll, ul, hperm, hrll, hro, hul, huo⟩, ho1, ho2, hond, fun o ho => hfr1 o (hofr o ho)⟩
    · rw [valV_put, if_neg (by decide)]; exact w1
    · rw [valV_put, if_neg (by decide)]; exact w2
    · rw [valV_put, if_neg (by decide)]; exact w3
    · rw [valV_put, if_pos rfl]
  have hm55 := mix_mod cell 55 (n := (((fr1.map V.str).length : Nat) : Int)) (by omega)
  obtain ⟨v55, hv55, hat55⟩ := ix_mem hm55.1 hm55.2
  obtain ⟨o55, ho55, rfl⟩ := List.mem_map.mp hv55
  refine ⟨_, rfl, _, rfl, cell, 55, rfl, by decide, by decide, _, rfl, pf1, _, rfl, .inl (.of hpf8), _, _, rfl, rfl, (show (0 : Int) < (((fr1.map V.str).length : Nat) : Int) by omega), pf1, _, _, .str o55, rfl, rfl, .of hpf8, hat55, szk 1, fun l hl => ?_⟩
  have e9 : Ext K H8 (upd H8 l (.lst [.str o55])) := Ext.new hl _
  have l9 : (upd H8 l (.lst [.str o55])) l = some (.lst ([o55].map V.str)) := upd_same
  generalize upd H8 l (.lst [.str o55]) = H9 at e9 l9
  have hd9 := e9.at hd8
  refine ⟨_, rfl, d, _, rfl, DPut.k (k := .inr "outputs") hd9 (by show _ < 2 ^ 24; omega), ?_⟩
  have hl0 : Hb l = none := (hbe.trans E8).free hl
  have b10 : Ext K Hb (upd H9 d (.dK (putK kvs (.inr "outputs") (.ref l)))) := ((hbe.trans E8).trans e9).put hbd hd9 trivial _
  have fr10 : Fr H9 (upd H9 d (.dK (putK kvs (.inr "outputs") (.ref l)))) := Fr.put hd9 rfl _
  have ls10 : ∀ r ys, H9 r = some (.lst ys) → (upd H9 d (.dK (putK kvs (.inr "outputs") (.ref l)))) r = some (.lst ys) := fun r ys hr => by
    rw [upd_ne fun z => by rw [z, hd9] at hr; cases hr]
    exact hr
  have d10 : (upd H9 d (.dK (putK kvs (.inr "outputs") (.ref l)))) d = some (.dK (putK kvs (.inr "outputs") (.ref l))) := upd_same
  have kl10 := putK_len kvs (.inr "outputs") (.ref l)
  generalize upd H9 d (.dK (putK kvs (.inr "outputs") (.ref l))) = H10 at b10 fr10 ls10 d10
  have fin1 := fin H10 (putK kvs (.inr "outputs") (.ref l)) l [o55] d10 (by rw [valV_put, if_neg (by decide)]; exact v1) (by rw [valV_put, if_neg (by decide)]; exact v2) (by rw [valV_put, if_pos rfl]) b10 (e9.fr.trans fr10) (fun r ys hr => ls10 _ _ (e9.at hr)) (ls10 _ _ l9) hl0 (Nat.le_refl _) (by show 1 ≤ 2; decide) (by simp) (fun o ho => by rw [List.mem_singleton.mp ho]; exact ho55)
  have hpf10 := ls10 _ _ (e9.at hpf8)
  refine ⟨_, rfl, pf1, _, rfl, .inl (.of hpf10), _, 1, rfl, rfl, _, rfl, ?_⟩
  by_cases h1 : (1 : Int) < (((fr1.map V.str).length : Nat) : Int)
  · refine ite_t (dt h1) ?_
    refine ⟨_, rfl, cell, 56, rfl, by decide, by decide, _, 2, rfl, rfl, (show (0 : Int) < 2 by decide), rfl, _, rfl, ?_⟩
    by_cases h2 : V.int (mix cell 56 % 2) = V.int 0
    · refine ite_t (dt h2) ?_
      obtain ⟨init, last, hfe⟩ : ∃ init last, fr1 = init ++ [last] := ⟨fr1.dropLast, fr1.getLast hfe1, (List.dropLast_concat_getLast hfe1).symm⟩
      obtain ⟨a0, rest, hfa⟩ : ∃ a0 rest, init = a0 :: rest := by
        cases init with
        | nil =>
          rw [hfe] at h1
          simp at h1
        | cons a r => exact ⟨a, r, rfl⟩
      have hmap : fr1.map V.str = (init.map V.str) ++ [.str last] := by rw [hfe, List.map_append]; rfl
      have hat0 : atI (fr1.map V.str) 0 = some (.str a0) := by rw [hfe, hfa]; exact at0 _ _
      have hatl : atI (fr1.map V.str) (-1) = some (.str last) := by rw [hmap]; exact atI_last _ _
      refine ⟨_, rfl, 1, rfl, pf1, _, _, .str last, rfl, rfl, .of hpf10, hatl, _, rfl, pf1, _, 0, .str a0, rfl, rfl, .of hpf10, hat0, szk 2, fun l2 hl2 => ?_⟩
      have e11 : Ext K H10 (upd H10 l2 (.lst [.str last, .str a0])) := Ext.new hl2 _
      have l11 : (upd H10 l2 (.lst [.str last, .str a0])) l2 = some (.lst ([last, a0].map V.str)) := upd_same
      generalize upd H10 l2 (.lst [.str last, .str a0]) = H11 at e11 l11
      have d11 := e11.at d10
      refine ⟨_, rfl, d, _, rfl, DPut.k (k := .inr "outputs") d11 (by show _ < 2 ^ 24; omega), ?_⟩
      have kl11 := putK_len (putK kvs (.inr "outputs") (.ref l)) (.inr "outputs") (.ref l2)
      have fr12 : Fr H11 (upd H11 d (.dK (putK (putK kvs (.inr "outputs") (.ref l)) (.inr "outputs") (.ref l2)))) := Fr.put d11 rfl _
      have ls12 : ∀ r ys, H11 r = some (.lst ys) → (upd H11 d (.dK (putK (putK kvs (.inr "outputs") (.ref l)) (.inr "outputs") (.ref l2)))) r = some (.lst ys) := fun r ys hr => by
        rw [upd_ne fun z => by rw [z, d11] at hr; cases hr]
        exact hr
      have fin2 := fin (upd H11 d (.dK (putK (putK kvs (.inr "outputs") (.ref l)) (.inr "outputs") (.ref l2)))) _ l2 [last, a0] upd_same (by rw [valV_put, if_neg (by decide), valV_put, if_neg (by decide)]; exact v1) (by rw [valV_put, if_neg (by decide), valV_put, if_neg (by decide)]; exact v2) (by rw [valV_put, if_pos rfl]) ((b10.trans e11).put hbd d11 trivial _) (((e9.fr.trans fr10).trans e11.fr).trans fr12) (fun r ys hr => ls12 _ _ (e11.at (ls10 _ _ (e9.at hr)))) (ls12 _ _ l11) (b10.free hl2) (by show 1 ≤ 2; decide) (Nat.le_refl _) (by
          rw [hfe, hfa] at hfd
          have z := (List.nodup_append.mp hfd).2.2 a0 List.mem_cons_self last List.mem_cons_self
          simp only [List.nodup_cons, List.mem_singleton, List.not_mem_nil, not_false_eq_true, List.nodup_nil, and_true]
          exact fun e => z e.symm) (fun o ho => by
          rw [hfe, hfa]
          simp only [List.mem_cons, List.not_mem_nil, or_false] at ho
          rcases ho with rfl | rfl
          · simp
          · simp)
      exact ⟨_, rfl, _, rfl, d, _, rfl, DPut.k (k := .inr "lines") upd_same (by show _ < 2 ^ 24; omega), _, rfl, fin2⟩
    · refine ite_f (df h2) ?_
      exact ⟨_, rfl, _, rfl, d, _, rfl, DPut.k (k := .inr "lines") d10 (by show _ < 2 ^ 24; omega), _, rfl, fin1⟩
  · refine ite_f (df h1) (ite_f rfl ?_)
    exact ⟨_, rfl, _, rfl, d, _, rfl, DPut.k (k := .inr "lines") d10 (by show _ < 2 ^ 24; omega), _, rfl, fin1⟩
theorem ok_law_filled (T : Top K mg) : C8.Cal P w K mg base 5 "_law_filled" (sp_law_filled K) [] :=
  cal_of T 29 d_law_filled s_law_filled "_law_filled" rfl rfl rfl rfl T.g_law_filled sc_law_filled (fun _ _ _ _ _ _ us hl => match us, hl with | [_, _], _ => rfl) ln_law_filled (bd_law_filled T (ok_law_on T) (ok_law_mixed T) (fam_law_told T 3))
end

section
variable {P : Program} {w : World} {K : PySem.W.Frag} {mg : Str → Option Value} {base : Heap} {q : Str} {f : Addr}
theorem nmk_nodup {seed : Int} {L : List Str} (h : ∀ (j : Nat) (x : Str), L[j]? = some x → NmK seed j x) (hl : L.length ≤ 12) : L.Nodup := by
  rw [List.nodup_iff_pairwise_ne, List.pairwise_iff_getElem]
  intro i j hi hj hij e
  have h1 := h i _ (List.getElem?_eq_getElem hi)
  have h2 := h j _ (List.getElem?_eq_getElem hj)
  rw [e] at h1
  have := h1.inj h2 (by omega) (by omega)
  omega
theorem nmk_all {seed : Int} {ins : List Inp} {rws : List (Str × Bool)} {puts : List (List Str × Nat)} (h1 : ∀ (j : Nat) (x : Inp), ins[j]? = some x → NmK seed j x.nm) (h2 : ∀ (j : Nat) (x : Str × Bool), rws[j]? = some x → NmK seed (ins.length + j) x.1)
    (h3 : ∀ (j : Nat) (x : Str), (puts.flatMap (·.1))[j]? = some x → NmK seed (ins.length + rws.length + j) x) : ∀ (j : Nat) (x : Str), (allN ins rws puts)[j]? = some x → NmK seed j x := by
  intro j x hx
  unfold allN at hx
  by_cases c1 : j < ins.length
  · rw [List.append_assoc, List.getElem?_append_left (by rw [List.length_map]; exact c1), List.getElem?_map] at hx
    obtain ⟨y, hy, rfl⟩ := Option.map_eq_some_iff.mp hx
    exact h1 j y hy
  · by_cases c2 : j < ins.length + rws.length
    · rw [List.append_assoc, List.getElem?_append_right (by rw [List.length_map]; omega), List.length_map, List.getElem?_append_left (by rw [List.length_map]; omega), List.getElem?_map] at hx
      obtain ⟨y, hy, rfl⟩ := Option.map_eq_some_iff.mp hx
      have z := h2 _ y hy
      have e : ins.length + (j - ins.length) = j := by omega
      rw [e] at z
      exact z
    · rw [List.getElem?_append_right (by rw [List.length_append, List.length_map, List.length_map]; omega), List.length_append, List.length_map, List.length_map] at hx
      have z := h3 _ x hx
      have e : ins.length + rws.length + (j - (ins.length + rws.length)) = j := by omega
      rw [e] at z
      exact z

theorem sc_law_spec : FnScope ["_law_seed", "_law_base", "_law_cell", "_law_ahead_here", "_law_uses", "_law_count", "_law_inputs", "_law_k", "_law_kind_here", "_law_rows_here", "_law_put_here", "_law_inner", "_law_found", "_law_j"] ["_law_seed", "_law_base", "_law_cell", "_law_ahead_here", "_law_uses"] (defScope s_law_spec) := ⟨rfl, rfl, rfl, by decide +kernel, rfl, by decide +kernel, by decide +kernel⟩
def sp_law_spec (K : PySem.W.Frag) : Sp := fun vs H Q _ => ∃ (seed b cell : Int) (a : Addr) (R : List V) (S : List Sh), vs = [.int seed, .int b, .int cell, .ref a, .int 2] ∧ H a = some (.lst R) ∧ SpecsAt K R H S ∧ GoodS b S ∧ S.length ≤ 3 ∧ ∀ v s H', Ext K H H' → SpecNew K R H H' v s → GoodS b (S ++ [s]) → Q v H'
theorem ln_law_spec {K : PySem.W.Frag} : ∀ vs H Q E, (sp_law_spec K) vs H Q E → vs.length = (["_law_seed", "_law_base", "_law_cell", "_law_ahead_here", "_law_uses"] : List Str).length := fun vs H Q E h => by
  obtain ⟨_, _, _, _, _, _, rfl, _⟩ := h
  rfl
theorem bd_law_spec (T : Top K mg) (c_law_mixed : C8.Cal P w K mg base 1 "_law_mixed" (sp_law_mixed K) []) (c_law_name : C8.Cal P w K mg base 3 "_law_name" (sp_law_name K) []) (c_law_word : C8.Cal P w K mg base 2 "_law_word" (sp_law_word K) []) (c_law_filled : C8.Cal P w K mg base 5 "_law_filled" (sp_law_filled K) []) : Body P w K mg base q s_law_spec f ["_law_seed", "_law_base", "_law_cell", "_law_ahead_here", "_law_uses", "_law_count", "_law_inputs", "_law_k", "_law_kind_here", "_law_rows_here", "_law_put_here", "_law_inner", "_law_found", "_law_j"] (5) (sp_law_spec K) := fun cdv A outer s H vs Q E hr h => by
  have hu := hu_of hr
  obtain ⟨seed, b, cell, a, R, S, rfl, ha, hR, hg, hS3, q⟩ := h
  refine ⟨_, (pss_cons (ps_set (i := 5) sc_law_spec.nd rfl (by first | exact Or.inl rfl | exact Or.inr rfl) pe_int)
        (pss_cons (ps_set (i := 6) sc_law_spec.nd rfl (by first | exact Or.inl rfl | exact Or.inr rfl) (pe_lst pa_nil))
        (pss_cons (ps_for PassesOwn.never rfl (pi_range1 rfl T.n_range (pa_cons (pe_op op_mod (C8.pe_c c_law_mixed hr (by omega) rfl (pa_cons (pv 2) (pa_cons pe_int pa_nil))) pe_int) pa_nil)) (pg_name (i := 7) sc_law_spec.nd rfl (by first | exact Or.inl rfl | exact Or.inr rfl))
          (pss_cons (ps_set (i := 8) sc_law_spec.nd rfl (by first | exact Or.inl rfl | exact Or.inr rfl) (pe_ix ix_list (pe_lst (pa_cons pe_str (pa_cons pe_str (pa_cons (pe_tup (pa_cons (pe_un un_neg pe_int) (pa_cons pe_int pa_nil))) (pa_cons (pe_tup (pa_cons pe_int (pa_cons pe_int pa_nil))) pa_nil))))) (pe_op op_mod (C8.pe_c c_law_mixed hr (by omega) rfl (pa_cons (pv 2) (pa_cons (pe_op op_add pe_int (pv 7)) pa_nil))) pe_int) (fun _ _ => rfl)))
          (pss_cons (ps_expr (pe_bm PySem.F.plainAttrs_list PySem.F.slot_list_append PySem.F.type_list_append mt_append (pv 6) (pa_cons (pe_tup (pa_cons (C8.pe_c c_law_name hr (by omega) rfl (pa_cons (pv 0) (pa_cons (pv 5) (pa_cons (pv 2) pa_nil)))) (pa_cons (pv 8) (pa_cons pe_non pa_nil)))) pa_nil)))
          (pss_one (ps_set (i := 5) sc_law_spec.nd rfl (by first | exact Or.inl rfl | exact Or.inr rfl) (pe_op op_add (pv 5) pe_int))))))
        (pss_cons (ps_set (i := 9) sc_law_spec.nd rfl (by first | exact Or.inl rfl | exact Or.inr rfl) (pe_lst pa_nil))
        (pss_cons (ps_for PassesOwn.never rfl (pi_range1 rfl T.n_range (pa_cons (pe_op op_add pe_int (pe_op op_mod (C8.pe_c c_law_mixed hr (by omega) rfl (pa_cons (pv 2) (pa_cons pe_int pa_nil))) pe_int)) pa_nil)) (pg_name (i := 7) sc_law_spec.nd rfl (by first | exact Or.inl rfl | exact Or.inr rfl))
          (pss_cons (ps_set (i := 8) sc_law_spec.nd rfl (by first | exact Or.inl rfl | exact Or.inr rfl) (pe_ix ix_list (pe_lst (pa_cons pe_str (pa_cons pe_str pa_nil))) (pe_op op_mod (C8.pe_c c_law_mixed hr (by omega) rfl (pa_cons (pv 2) (pa_cons (pe_op op_add pe_int (pv 7)) pa_nil))) pe_int) (fun _ _ => rfl)))
          (pss_cons (ps_expr (pe_bm PySem.F.plainAttrs_list PySem.F.slot_list_append PySem.F.type_list_append mt_append (pv 9) (pa_cons (pe_tup (pa_cons (C8.pe_c c_law_name hr (by omega) rfl (pa_cons (pv 0) (pa_cons (pv 5) (pa_cons (pv 2) pa_nil)))) (pa_cons (pv 8) pa_nil))) pa_nil)))
          (pss_one (ps_set (i := 5) sc_law_spec.nd rfl (by first | exact Or.inl rfl | exact Or.inr rfl) (pe_op op_add (pv 5) pe_int))))))
        (pss_cons (ps_set (i := 10) sc_law_spec.nd rfl (by first | exact Or.inl rfl | exact Or.inr rfl) (pe_lst pa_nil))
        (pss_cons (ps_if (pt_cmpR (op_neL hr.units0) (pv 3) (pe_lst pa_nil) (nomark _)) (pss_one (ps_for PassesOwn.never rfl (pi_range1 rfl T.n_range (pa_cons (pe_op op_mod (C8.pe_c c_law_mixed hr (by omega) rfl (pa_cons (pv 2) (pa_cons pe_int pa_nil))) (pe_op op_add (pv 4) pe_int)) pa_nil)) (pg_name (i := 7) sc_law_spec.nd rfl (by first | exact Or.inl rfl | exact Or.inr rfl))
            (pss_cons (ps_set (i := 11) sc_law_spec.nd rfl (by first | exact Or.inl rfl | exact Or.inr rfl) (pe_ix ix_list (pv 3) (pe_op op_mod (C8.pe_c c_law_mixed hr (by omega) rfl (pa_cons (pv 2) (pa_cons (pe_op op_add pe_int (pv 7)) pa_nil))) (pe_callB call_len_seq (by rfl) T.n_len PySem.boot_len (pa_cons (pv 3) pa_nil))) (fun _ _ => rfl)))
            (pss_cons (ps_expr (pe_bm PySem.F.plainAttrs_list PySem.F.slot_list_append PySem.F.type_list_append mt_append (pv 10) (pa_cons (pe_tup (pa_cons (pe_callTy call_tuple_frzE (by rfl) T.n_tuple (by decide +kernel) (pa_cons (pe_lc (own := [("_law_j", 13)]) rfl sc_law_spec.nd (pi_range1 rfl T.n_range (pa_cons (pe_callB call_len_seq (by rfl) T.n_len PySem.boot_len (pa_cons (pe_dget hu (pv 11) pe_str (fun _ _ => rfl)) pa_nil)) pa_nil)) (blkOk_by (own := [("_law_j", 13)]) (N := ["_law_seed", "_law_base", "_law_cell", "_law_ahead_here", "_law_uses", "_law_count", "_law_inputs", "_law_k", "_law_kind_here", "_law_rows_here", "_law_put_here", "_law_inner", "_law_found", "_law_j"]) (sc := defScope s_law_spec) (by decide +kernel)) (fun _ _ _ _ _ => (pg_name (i := 13) sc_law_spec.nd rfl (by first | exact Or.inl rfl | exact Or.inr rfl))) (fun _ _ _ _ _ => pts_nil) (fun _ _ _ _ _ => (C8.pe_c c_law_name hr (by omega) rfl (pa_cons (pv 0) (pa_cons (pe_op op_add (pv 5) (pv 13)) (pa_cons (pv 2) pa_nil)))))) pa_nil)) (pa_cons (pv 11) pa_nil))) pa_nil)))
            (pss_one (ps_set (i := 5) sc_law_spec.nd rfl (by first | exact Or.inl rfl | exact Or.inr rfl) (pe_op op_add (pv 5) (pe_callB call_len_seq (by rfl) T.n_len PySem.boot_len (pa_cons (pe_dget hu (pv 11) pe_str (fun _ _ => rfl)) pa_nil))))))))) pss_nil)
        (pss_cons (ps_set (i := 12) sc_law_spec.nd rfl (by first | exact Or.inl rfl | exact Or.inr rfl) (pe_disp (pps_cons pe_str (C8.pe_c c_law_word hr (by omega) rfl (pa_cons (pv 1) (pa_cons (pe_callB call_len_seq (by rfl) T.n_len PySem.boot_len (pa_cons (pv 3) pa_nil)) pa_nil))) (pps_cons pe_str (pv 6) (pps_cons pe_str (pv 9) (pps_cons pe_str (pv 10) pps_nil)))) (by rfl) (by rfl) (fun z => by cases z) (by decide)))
        (pss_one (ps_ret (C8.pe_c c_law_filled hr (by omega) rfl (pa_cons (pv 12) (pa_cons (pv 2) pa_nil))))))))))))), ?_⟩
  have hRl := hR.length
  have p3 : (0 : Int) < 3 := by decide
  have p4 : (0 : Int) < 4 := by decide
  have hm1 := mix_mod cell 1 p3
  have hm5 := mix_mod cell 5 p3
  -- the inputs
  refine ⟨szk 0, fun pi hpi => ?_⟩
  have e1 : Ext K H (upd H pi (.lst [])) := Ext.new hpi _
  have z1 : (upd H pi (.lst [])) pi = some (.lst []) := upd_same
  generalize hG1 : upd H pi (.lst []) = H1 at e1 z1
  refine ⟨_, rfl, cell, 1, rfl, by decide, by decide, _, 3, rfl, rfl, p3, _, rfl, by omega, by omega, for_range (n := (mix cell 1 % 3).toNat) (fun i σ H2 => ∃ z7 z8 ivs ins, σ = [some (.int seed), some (.int b), some (.int cell), some (.ref a), some (.int 2), some (.int ((i : Nat) : Int)), some (.ref pi), z7, z8, none, none, none, none, none] ∧ Ext K H H2 ∧ H2 pi = some (.lst ivs) ∧ Paired (InpSp K H2) ivs ins ∧ ins.length = i ∧ (∀ (j : Nat) (x : Inp), ins[j]? = some x → NmK seed j x.nm) ∧ ∀ x ∈ ins, x.kind.okk) ⟨none, none, [], [], rfl, e1, z1, .nil, rfl, by simp, by simp⟩ (fun i σ H2 hi h => ?_) (fun σ H2 h => ?_)⟩
  · obtain ⟨z7, z8, ivs, ins, rfl, e2, hp2, hpr, hil, hnm, hkk⟩ := h
    have hi3 : i < 3 := by omega
    have ei : (0 : Int) + ((i : Nat) : Int) = ((i : Nat) : Int) := Int.zero_add _
    have hm2 := mix_mod cell (2 + ((i : Nat) : Int)) p4
    -- the kinds
    refine ⟨3, rfl, szk 2, fun t1 ht1 => ⟨szk 2, fun t2 ht2 => ⟨szk 4, fun p3 hp3 => ?_⟩⟩⟩
    have f1 : Ext K H2 (upd H2 t1 (.tup [.int (-3), .int 5])) := Ext.new ht1 _
    have f2 := f1.trans (Ext.new ht2 (.tup [.int 0, .int 0]))
    have f3 := f2.trans (Ext.new hp3 (.lst [.str "truth", .str "number", .ref t1, .ref t2]))
    have a1 := ((Ext.new (K := K) ht2 (.tup [.int 0, .int 0])).trans (Ext.new hp3 (.lst [.str "truth", .str "number", .ref t1, .ref t2]))).at (b := t1) (o := .tup [.int (-3), .int 5]) upd_same
    have a2 := (Ext.new (K := K) hp3 (.lst [.str "truth", .str "number", .ref t1, .ref t2])).at (b := t2) (o := .tup [.int 0, .int 0]) upd_same
    have a3 : (upd (upd (upd H2 t1 (.tup [.int (-3), .int 5])) t2 (.tup [.int 0, .int 0])) p3 (.lst [.str "truth", .str "number", .ref t1, .ref t2])) p3 = some (.lst [.str "truth", .str "number", .ref t1, .ref t2]) := upd_same
    obtain ⟨v, hv, hat⟩ := ix_mem (xs := [V.str "truth", V.str "number", V.ref t1, V.ref t2]) hm2.1 (by show _ < ((4 : Nat) : Int); omega)
    refine ⟨_, rfl, _, rfl, 2, _, rfl, rfl, cell, 2 + ((i : Nat) : Int), congrArg (fun z : Int => [V.int cell, V.int (2 + z)]) ei, by omega, by omega, _, 4, rfl, rfl, p4, p3, _, _, v, rfl, rfl, .of upd_same, hat, ?_⟩
    generalize upd (upd (upd H2 t1 (.tup [.int (-3), .int 5])) t2 (.tup [.int 0, .int 0])) p3 (.lst [.str "truth", .str "number", .ref t1, .ref t2]) = H3 at f3 a1 a2 a3
    obtain ⟨ik, hik, hikk⟩ : ∃ ik : IK, KindAt K H3 v ik ∧ ik.okk := by
      simp only [List.mem_cons, List.not_mem_nil, or_false] at hv
      rcases hv with rfl | rfl | rfl | rfl
      · exact ⟨.truth, rfl, trivial⟩
      · exact ⟨.number, rfl, trivial⟩
      · exact ⟨.stretch (-3) 5, ⟨t1, rfl, .of a1⟩, by show -128 ≤ (-3 : Int) ∧ (-3 : Int) ≤ 5 ∧ (5 : Int) ≤ 127; decide⟩
      · exact ⟨.stretch 0 0, ⟨t2, rfl, .of a2⟩, by show -128 ≤ (0 : Int) ∧ (0 : Int) ≤ 0 ∧ (0 : Int) ≤ 127; decide⟩
    have hp3' := f3.at hp2
    have hivl := hpr.length
    refine ⟨_, rfl, .inl ⟨rfl, _, .of hp3'⟩, ?_⟩
    refine ⟨_, rfl, _, rfl, _, rfl, seed, i, cell, rfl, by omega, fun s H4 e4 hs => ?_⟩
    refine ⟨_, rfl, szk 3, fun u hu => ⟨pi, ivs, _, rfl, rfl, (e4.trans (Ext.new hu _)).at hp3', by show _ < 2 ^ 24; omega, ?_⟩⟩
    have e5 := (f3.trans e4).trans (Ext.new hu (.tup [.str s, v, .non]))
    have fr6 := Fr.put (e5.at hp2) (rfl : froz (.lst ivs) = false) (.lst (ivs ++ [.ref u]))
    refine ⟨_, rfl, _, 1, rfl, rfl, _, _, ivs ++ [.ref u], ins ++ [⟨s, ik⟩], rfl, (e2.trans e5).push hpi (e5.at hp2), upd_same, Paired.snoc (Paired.mapP hpr fun _ _ z => (e5.fr.trans fr6).inpSp z) ⟨u, v, rfl, fr6 _ _ upd_same rfl, ((e4.fr.trans (Fr.new hu _)).trans fr6).kind hik⟩, by rw [List.length_append, hil]; rfl, fun j x hx => ?_, fun x hx => ?_⟩
    · by_cases hj : j < ins.length
      · rw [List.getElem?_append_left hj] at hx
        exact hnm j x hx
      · rw [List.getElem?_append_right (by omega)] at hx
        have hz : j - ins.length = 0 := by
          cases hk : j - ins.length with
          | zero => rfl
          | succ k => rw [hk] at hx; cases hx
        rw [hz] at hx
        cases hx
        have ej : j = i := by omega
        rw [ej]
        exact hs
    · rcases List.mem_append.mp hx with h | h
      · exact hkk x h
      · rw [List.mem_singleton.mp h]
        exact hikk
  obtain ⟨z7, z8, ivs, ins, rfl, e2, hp2, hpr, hil, hnm, hkk⟩ := h
  have hn0 : ins.length ≤ 2 := by omega
  rw [← hil]
  -- the rows
  refine ⟨szk 0, fun pr hpr0 => ?_⟩
  have e3 : Ext K H2 (upd H2 pr (.lst [])) := Ext.new hpr0 _
  have z3 : (upd H2 pr (.lst [])) pr = some (.lst []) := upd_same
  generalize hG3 : upd H2 pr (.lst []) = H3 at e3 z3
  refine ⟨_, rfl, cell, 5, rfl, by decide, by decide, _, 3, rfl, rfl, p3, 1, _, rfl, rfl, _, rfl, by omega, by omega, for_range (n := (1 + mix cell 5 % 3).toNat) (fun i σ H4 => ∃ z7 z8 rvs rws, σ = [some (.int seed), some (.int b), some (.int cell), some (.ref a), some (.int 2), some (.int ((ins.length + i : Nat) : Int)), some (.ref pi), z7, z8, some (.ref pr), none, none, none, none] ∧ Ext K H2 H4 ∧ H4 pr = some (.lst rvs) ∧ Paired (RowSp H4) rvs rws ∧ rws.length = i ∧ ∀ (j : Nat) (x : Str × Bool), rws[j]? = some x → NmK seed (ins.length + j) x.1) ⟨z7, z8, [], [], rfl, e3, z3, .nil, rfl, by simp⟩ (fun i σ H4 hi h => ?_) (fun σ H4 h => ?_)⟩
  · obtain ⟨z7, z8, rvs, rws, rfl, e4, hp4, hrr, hrl, hrn⟩ := h
    have hi3 : i < 3 := by omega
    have ei : (0 : Int) + ((i : Nat) : Int) = ((i : Nat) : Int) := Int.zero_add _
    have p2 : (0 : Int) < 2 := by decide
    have hm6 := mix_mod cell (6 + ((i : Nat) : Int)) p2
    obtain ⟨v, hv, hat⟩ := ix_mem (xs := [V.str "truth", V.str "number"]) hm6.1 (by show _ < ((2 : Nat) : Int); omega)
    obtain ⟨tr, rfl⟩ : ∃ tr : Bool, v = .str (trS tr) := by
      simp only [List.mem_cons, List.not_mem_nil, or_false] at hv
      rcases hv with rfl | rfl
      · exact ⟨true, rfl⟩
      · exact ⟨false, rfl⟩
    refine ⟨szk 2, fun p5 hp5 => ?_⟩
    have f1 : Ext K H4 (upd H4 p5 (.lst [.str "truth", .str "number"])) := Ext.new hp5 _
    have a3 : (upd H4 p5 (.lst [.str "truth", .str "number"])) p5 = some (.lst [.str "truth", .str "number"]) := upd_same
    refine ⟨_, rfl, _, rfl, 6, _, rfl, rfl, cell, 6 + ((i : Nat) : Int), congrArg (fun z : Int => [V.int cell, V.int (6 + z)]) ei, by omega, by omega, _, 2, rfl, rfl, p2, p5, _, _, .str (trS tr), rfl, rfl, .of upd_same, hat, ?_⟩
    generalize upd H4 p5 (.lst [.str "truth", .str "number"]) = H5 at f1 a3
    have hp5' := f1.at hp4
    have hrvl := hrr.length
    refine ⟨_, rfl, .inl ⟨rfl, _, .of hp5'⟩, ?_⟩
    refine ⟨_, rfl, _, rfl, _, rfl, seed, ins.length + i, cell, rfl, by omega, fun s H6 e6 hs => ?_⟩
    refine ⟨_, rfl, szk 2, fun u hu => ⟨pr, rvs, _, rfl, rfl, (e6.trans (Ext.new hu _)).at hp5', by show _ < 2 ^ 24; omega, ?_⟩⟩
    have e7 := (f1.trans e6).trans (Ext.new hu (.tup [.str s, .str (trS tr)]))
    have fr8 := Fr.put (e7.at hp4) (rfl : froz (.lst rvs) = false) (.lst (rvs ++ [.ref u]))
    refine ⟨_, rfl, _, 1, rfl, rfl, _, _, rvs ++ [.ref u], rws ++ [(s, tr)], rfl, (e4.trans e7).push hpr0 (e7.at hp4), upd_same, Paired.snoc (Paired.mapP hrr fun _ _ ⟨x, h1, h2⟩ => ⟨x, h1, (e7.fr.trans fr8) _ _ h2 rfl⟩) ⟨u, rfl, fr8 _ _ upd_same rfl⟩, by rw [List.length_append, hrl]; rfl, fun j x hx => ?_⟩
    by_cases hj : j < rws.length
    · rw [List.getElem?_append_left hj] at hx
      exact hrn j x hx
    · rw [List.getElem?_append_right (by omega)] at hx
      have hz : j - rws.length = 0 := by
        cases hk : j - rws.length with
        | zero => rfl
        | succ k => rw [hk] at hx; cases hx
      rw [hz] at hx
      cases hx
      have ej : j = i := by omega
      rw [ej]
      exact hs
  obtain ⟨z7, z8, rvs, rws, rfl, e4, hp4, hrr, hrl, hrn⟩ := h
  have hr3 : rws.length ≤ 3 := by omega
  have hr1 : 1 ≤ rws.length := by omega
  rw [← hrl]
  have hE4 : Ext K H H4 := e2.trans e4
  -- the uses
  refine ⟨szk 0, fun pu hpu0 => ?_⟩
  have e5 : Ext K H4 (upd H4 pu (.lst [])) := Ext.new hpu0 _
  have z5 : (upd H4 pu (.lst [])) pu = some (.lst []) := upd_same
  generalize hG5 : upd H4 pu (.lst []) = H5 at e5 z5
  refine ⟨_, rfl, szk 0, fun p6 hp6 => ?_⟩
  have e6 : Ext K H5 (upd H5 p6 (.lst [])) := Ext.new hp6 _
  have z6 : (upd H5 p6 (.lst [])) p6 = some (.lst []) := upd_same
  have hpu6 := e6.at z5
  generalize hG6 : upd H5 p6 (.lst []) = H6 at e6 z6 hpu6
  have e06 := e5.trans e6
  refine ⟨a, p6, R, [], rfl, rfl, .of ((hE4.trans e06).at ha), .of z6, ?_⟩
  by_cases hR0 : R = []
  · refine .inr ⟨hR0, rfl, _, rfl, ite_f rfl ?_⟩
    obtain ⟨G, puts, pvs, rfl, eG, hpuG, hppG, hpl, hpf, hpn, hpo⟩ : ∃ G puts pvs, G = H6 ∧ Ext K H4 G ∧ G pu = some (.lst pvs) ∧ Paired (PutSp R G) pvs puts ∧ puts.length ≤ 2 ∧ (puts.flatMap (·.1)).length ≤ 4 ∧ (∀ (j : Nat) (x : Str), (puts.flatMap (·.1))[j]? = some x → NmK seed (ins.length + rws.length + j) x) ∧ ∀ q ∈ puts, ∃ s1, S[q.2]? = some s1 ∧ q.1.length = s1.outs.length := ⟨H6, [], [], rfl, e06, hpu6, .nil, by decide, by decide, by simp, by simp⟩
    have EG := hE4.trans eG
    have hG2 := Ext.at eG hp4
    have hGi := (e4.trans eG).at hp2
    refine fun dd hdd => ⟨_, rfl, _, rfl, a, R, rfl, .inl (.of ((EG.trans (Ext.new (K := K) hdd (.dK []))).at ha)), b, R.length, rfl, by omega, fun H11 e11 => ⟨_, rfl, _, rfl, _, rfl, e11.at upd_same, [(.inr "name", .str (SX.S (wordF b R.length))), (.inr "inputs", .ref pi), (.inr "rows", .ref pr), (.inr "put", .ref pu)], rfl, (show 4 ≤ 15 by decide), ?_⟩⟩
    have e12 := (EG.trans (Ext.new (K := K) hdd (.dK []))).trans e11
    have hd12 : H11 dd = some (.dK []) := e11.at upd_same
    have hddH : H dd = none := EG.free hdd
    have e13 : Ext K H (upd H11 dd (.dK (mergeK [] [(.inr "name", .str (SX.S (wordF b R.length))), (.inr "inputs", .ref pi), (.inr "rows", .ref pr), (.inr "put", .ref pu)]))) := e12.put hddH hd12 trivial _
    have e14 : Ext K G (upd H11 dd (.dK (mergeK [] [(.inr "name", .str (SX.S (wordF b R.length))), (.inr "inputs", .ref pi), (.inr "rows", .ref pr), (.inr "put", .ref pu)]))) := ((Ext.new (K := K) hdd (.dK [])).trans e11).put hdd hd12 trivial _
    have z13 : (upd H11 dd (.dK (mergeK [] [(.inr "name", .str (SX.S (wordF b R.length))), (.inr "inputs", .ref pi), (.inr "rows", .ref pr), (.inr "put", .ref pu)]))) dd = some (.dK [(.inr "name", .str (SX.S (wordF b R.length))), (.inr "inputs", .ref pi), (.inr "rows", .ref pr), (.inr "put", .ref pu)]) := upd_same
    generalize upd H11 dd (.dK (mergeK [] [(.inr "name", .str (SX.S (wordF b R.length))), (.inr "inputs", .ref pi), (.inr "rows", .ref pr), (.inr "put", .ref pu)])) = H13 at e13 e14 z13
    have e24 := e4.trans (eG.trans e14)
    have e44 := eG.trans e14
    have hall := nmk_all hnm hrn hpn
    have hraw : RawOk b S (SX.S (wordF b R.length)) ins rws puts := ⟨hS3, by rw [hRl], hn0, hr1, hr3, by omega, nmk_nodup hall (by unfold allN; simp only [List.length_append, List.length_map]; omega), fun n hn => by obtain ⟨j, hj⟩ := get_mem hn; exact (hall j n hj).nm, hpo, hkk⟩
    refine ⟨_, rfl, _, rfl, dd, cell, R, S, SX.S (wordF b R.length), ins, rws, puts, b, H, rfl, ⟨pi, pr, pu, _, ivs, rvs, pvs, z13, (show 4 ≤ 10 by decide), rfl, rfl, rfl, rfl, hpi, e24.at hp2, Paired.mapP hpr fun _ _ z => e24.fr.inpSp z, e44.at hp4, Paired.mapP hrr fun _ _ z => e44.rowSp z, e14.at hpuG, Paired.mapP hppG fun _ _ z => e14.putSp z⟩, hddH, e13, hR, hraw, hg, fun s H' e hs hf => q _ s H' e hs (filled_good hg hraw hf)⟩
  refine .inl ⟨fun z => hR0 (List.length_eq_zero_iff.mp z), _, rfl, ite_t rfl ?_⟩
  have hRpos : 0 < R.length := List.length_pos_iff.mpr hR0
  have hm10 := mix_mod cell 10 (n := 3) p3
  refine ⟨_, rfl, cell, 10, rfl, by decide, by decide, _, rfl, _, 1, rfl, rfl, _, _, rfl, rfl, (show (0 : Int) < 2 + 1 by decide), _, rfl, ?_, ?_, for_range (n := (mix cell 10 % (2 + 1)).toNat) (fun i σ H7 => ∃ z7 z11 pvs puts, σ = [some (.int seed), some (.int b), some (.int cell), some (.ref a), some (.int 2), some (.int ((ins.length + rws.length + (puts.flatMap (·.1)).length : Nat) : Int)), some (.ref pi), z7, z8, some (.ref pr), some (.ref pu), z11, none, none] ∧ Ext K H4 H7 ∧ H7 pu = some (.lst pvs) ∧ Paired (PutSp R H7) pvs puts ∧ puts.length = i ∧ (puts.flatMap (·.1)).length ≤ 2 * i ∧ (∀ (j : Nat) (x : Str), (puts.flatMap (·.1))[j]? = some x → NmK seed (ins.length + rws.length + j) x) ∧ ∀ q ∈ puts, ∃ s1, S[q.2]? = some s1 ∧ q.1.length = s1.outs.length) ⟨z7, none, [], [], rfl, e06, hpu6, .nil, rfl, by simp, by simp, by simp⟩ (fun i σ H7 hi h => ?_) (fun σ H7 h => ?_)⟩
  · have := mix_mod cell 10 (n := 2 + 1) (by decide); omega
  · have := mix_mod cell 10 (n := 2 + 1) (by decide); omega
  · obtain ⟨y7, y11, pvs, puts, rfl, e7, hpu7, hpp, hpl, hpf, hpn, hpo⟩ := h
    have hi2 : i < 2 := by have := mix_mod cell 10 (n := 2 + 1) (by decide); omega
    have ei : (0 : Int) + ((i : Nat) : Int) = ((i : Nat) : Int) := Int.zero_add _
    have E7 := hE4.trans e7
    have hm11 := mix_mod cell (11 + ((i : Nat) : Int)) (n := ((R.length : Nat) : Int)) (by omega)
    obtain ⟨rv, hrv, hat⟩ := ix_ex hm11.1 hm11.2
    generalize hkk : (mix cell (11 + ((i : Nat) : Int)) % ((R.length : Nat) : Int)).toNat = kk at hrv
    refine ⟨_, rfl, _, rfl, _, rfl, 11, _, rfl, rfl, cell, 11 + ((i : Nat) : Int), congrArg (fun z : Int => [V.int cell, V.int (11 + z)]) ei, by omega, by omega, _, rfl, a, _, rfl, .inl (.of (E7.at ha)), _, _, rfl, rfl, (show (0 : Int) < ((R.length : Nat) : Int) by omega), a, _, _, rv, rfl, rfl, .of (E7.at ha), hat, ?_⟩
    obtain ⟨s1, hs1, hsp⟩ := paired_get hR hrv
    have hsm := hg.small s1 (List.mem_of_getElem? hs1)
    have hsp0 := hsp
    obtain ⟨d1, il1, ol1, ll1, kvs1, ivs1, lvs1, rfl, hd1, w1, w2, w3, w4, x7, x8, x9, _⟩ := hsp
    have g3 : ∀ {H9 : Hp}, Ext K H H9 → DGet H9 d1 (.str "outputs") (some (.ref ol1)) := fun e => by rw [← w3]; exact DGet.k (k := .inr "outputs") (e.at hd1)
    have hol : (s1.outs.map V.str).length = s1.outs.length := List.length_map ..
    refine ⟨_, rfl, .inl ⟨rfl, _, .of hpu7⟩, ?_⟩
    refine ⟨_, rfl, d1, _, rfl, g3 E7, ol1, _, rfl, .inl (.of (E7.at x9)), _, rfl, by omega, by omega, lcR (K := K) (H1 := H7) (fun j acc _ => ∃ bs : List Str, acc = bs.map V.str ∧ bs.length = j ∧ ∀ (m : Nat) (x : Str), bs[m]? = some x → NmK seed (ins.length + rws.length + (puts.flatMap (·.1)).length + m) x) (fun _ h => h) (by show _ ≤ 2 ^ 24; omega) ⟨[], rfl, rfl, by simp⟩ (fun j hj acc H8 N S2 e8 pj hN hS => ?_) fun D ys H8 hD e8 hl8 hn8 pj => ?_⟩
    · obtain ⟨bs, rfl, hbl, hbn⟩ := pj
      have hj2 : j < 2 := by omega
      refine ⟨rfl, ?_⟩
      refine ⟨_, rfl, _, rfl, _, rfl, _, _, rfl, rfl, _, rfl, seed, ins.length + rws.length + (puts.flatMap (·.1)).length + j, cell, congrArg (fun z : Int => [V.int seed, V.int z, V.int cell]) (show ((ins.length + rws.length + (puts.flatMap (·.1)).length : Nat) : Int) + (0 + ((j : Nat) : Int)) = ((ins.length + rws.length + (puts.flatMap (·.1)).length + j : Nat) : Int) by omega), by omega, fun s H9 e9 hs => hN _ _ e9 ⟨bs ++ [s], by rw [List.map_append]; rfl, by rw [List.length_append, hbl]; rfl, fun m x hx => ?_⟩⟩
      by_cases hm : m < bs.length
      · rw [List.getElem?_append_left hm] at hx
        exact hbn m x hx
      · rw [List.getElem?_append_right (by omega)] at hx
        have hz : m - bs.length = 0 := by
          cases hk : m - bs.length with
          | zero => rfl
          | succ k => rw [hk] at hx; cases hx
        rw [hz] at hx
        cases hx
        have ej : m = j := by omega
        rw [ej]
        exact hs
    obtain ⟨bs, rfl, hbl, hbn⟩ := pj
    have hbl : bs.length = s1.outs.length := by rw [hbl, Int.toNat_natCast, hol]
    refine ⟨D, _, rfl, .of hl8, fun bt H9 ob e9 hbt0 hob hbt => ?_⟩
    have e09 := e8.trans e9
    refine ⟨_, rfl, szk 2, fun u hu => ⟨pu, pvs, _, rfl, rfl, (e09.trans (Ext.new hu _)).at hpu7, by have := hpp.length; show _ < 2 ^ 24; omega, ?_⟩⟩
    have e10 := e09.trans (Ext.new hu (.tup [.ref bt, .ref d1]))
    have fr11 := Fr.put (e10.at hpu7) (rfl : froz (.lst pvs) = false) (.lst (pvs ++ [.ref u]))
    have e11 := (e7.trans e10).push hpu0 (e10.at hpu7) (zs := pvs ++ [.ref u])
    have hfl2 : (puts ++ [(bs, kk)]).flatMap (·.1) = puts.flatMap (·.1) ++ bs := by simp
    refine ⟨_, rfl, _, rfl, d1, _, rfl, g3 (hE4.trans e11), ol1, _, rfl, .inl (.of ((hE4.trans e11).at x9)), _, _, rfl, rfl, ?_⟩
    refine ⟨some (.int (0 + ((i : Nat) : Int))), some (.ref d1), pvs ++ [.ref u], puts ++ [(bs, kk)], ?_, e11, upd_same, Paired.snoc (Paired.mapP hpp fun _ _ ⟨x, b1, r1, h1, h2, h3, h4⟩ => ⟨x, b1, r1, h1, (e10.fr.trans fr11) _ _ h2 rfl, (e10.fr.trans fr11).bnd h3, h4⟩) ⟨u, bt, .ref d1, rfl, fr11 _ _ upd_same rfl, ((Fr.new hu _).trans fr11).bnd ⟨ob, hob, hbt⟩, hrv⟩, by rw [List.length_append, hpl]; rfl, by rw [hfl2, List.length_append]; omega, fun j x hx => ?_, fun q hq => ?_⟩
    · refine congrArg (fun z : Int => [some (V.int seed), some (.int b), some (.int cell), some (.ref a), some (.int 2), some (.int z), some (.ref pi), some (.int (0 + ((i : Nat) : Int))), z8, some (.ref pr), some (.ref pu), some (.ref d1), none, none]) ?_
      rw [hfl2, hol, List.length_append]
      omega
    · rw [hfl2] at hx
      by_cases hj : j < (puts.flatMap (·.1)).length
      · rw [List.getElem?_append_left hj] at hx
        exact hpn j x hx
      · rw [List.getElem?_append_right (by omega)] at hx
        have z := hbn _ x hx
        have ej : ins.length + rws.length + (puts.flatMap (·.1)).length + (j - (puts.flatMap (·.1)).length) = ins.length + rws.length + j := by omega
        rw [ej] at z
        exact z
    · rcases List.mem_append.mp hq with h | h
      · exact hpo q h
      · rw [List.mem_singleton.mp h]
        exact ⟨s1, hs1, hbl⟩
  · obtain ⟨y7, y11, pvs, puts, rfl, eG, hpuG, hppG, hpl, hpf, hpn, hpo⟩ := h
    have hm10' := mix_mod cell 10 (n := 2 + 1) (by decide)
    have hpl : puts.length ≤ 2 := by omega
    have hpf : (puts.flatMap (·.1)).length ≤ 4 := by omega
  
    have EG := hE4.trans eG
    have hG2 := Ext.at eG hp4
    have hGi := (e4.trans eG).at hp2
    refine fun dd hdd => ⟨_, rfl, _, rfl, a, R, rfl, .inl (.of ((EG.trans (Ext.new (K := K) hdd (.dK []))).at ha)), b, R.length, rfl, by omega, fun H11 e11 => ⟨_, rfl, _, rfl, _, rfl, e11.at upd_same, [(.inr "name", .str (SX.S (wordF b R.length))), (.inr "inputs", .ref pi), (.inr "rows", .ref pr), (.inr "put", .ref pu)], rfl, (show 4 ≤ 15 by decide), ?_⟩⟩
    have e12 := (EG.trans (Ext.new (K := K) hdd (.dK []))).trans e11
    have hd12 : H11 dd = some (.dK []) := e11.at upd_same
    have hddH : H dd = none := EG.free hdd
    have e13 : Ext K H (upd H11 dd (.dK (mergeK [] [(.inr "name", .str (SX.S (wordF b R.length))), (.inr "inputs", .ref pi), (.inr "rows", .ref pr), (.inr "put", .ref pu)]))) := e12.put hddH hd12 trivial _
    have e14 : Ext K H7 (upd H11 dd (.dK (mergeK [] [(.inr "name", .str (SX.S (wordF b R.length))), (.inr "inputs", .ref pi), (.inr "rows", .ref pr), (.inr "put", .ref pu)]))) := ((Ext.new (K := K) hdd (.dK [])).trans e11).put hdd hd12 trivial _
    have z13 : (upd H11 dd (.dK (mergeK [] [(.inr "name", .str (SX.S (wordF b R.length))), (.inr "inputs", .ref pi), (.inr "rows", .ref pr), (.inr "put", .ref pu)]))) dd = some (.dK [(.inr "name", .str (SX.S (wordF b R.length))), (.inr "inputs", .ref pi), (.inr "rows", .ref pr), (.inr "put", .ref pu)]) := upd_same
    generalize upd H11 dd (.dK (mergeK [] [(.inr "name", .str (SX.S (wordF b R.length))), (.inr "inputs", .ref pi), (.inr "rows", .ref pr), (.inr "put", .ref pu)])) = H13 at e13 e14 z13
    have e24 := e4.trans (eG.trans e14)
    have e44 := eG.trans e14
    have hall := nmk_all hnm hrn hpn
    have hraw : RawOk b S (SX.S (wordF b R.length)) ins rws puts := ⟨hS3, by rw [hRl], hn0, hr1, hr3, by omega, nmk_nodup hall (by unfold allN; simp only [List.length_append, List.length_map]; omega), fun n hn => by obtain ⟨j, hj⟩ := get_mem hn; exact (hall j n hj).nm, hpo, hkk⟩
    refine ⟨_, rfl, _, rfl, dd, cell, R, S, SX.S (wordF b R.length), ins, rws, puts, b, H, rfl, ⟨pi, pr, pu, _, ivs, rvs, pvs, z13, (show 4 ≤ 10 by decide), rfl, rfl, rfl, rfl, hpi, e24.at hp2, Paired.mapP hpr fun _ _ z => e24.fr.inpSp z, e44.at hp4, Paired.mapP hrr fun _ _ z => e44.rowSp z, e14.at hpuG, Paired.mapP hppG fun _ _ z => e14.putSp z⟩, hddH, e13, hR, hraw, hg, fun s H' e hs hf => q _ s H' e hs (filled_good hg hraw hf)⟩
theorem ok_law_spec (T : Top K mg) : C8.Cal P w K mg base 6 "_law_spec" (sp_law_spec K) [] :=
  cal_of T 28 d_law_spec s_law_spec "_law_spec" rfl rfl rfl rfl T.g_law_spec sc_law_spec (fun _ _ _ _ _ _ us hl => match us, hl with | [_, _, _, _, _], _ => rfl) ln_law_spec (bd_law_spec T (ok_law_mixed T) (ok_law_name T) (ok_law_word T) (ok_law_filled T))
end

section
variable {P : Program} {w : World} {K : PySem.W.Frag} {mg : Str → Option Value} {base : Heap} {q : Str} {f : Addr}
/-! ### the law: what is hidden, and what is shown -/
section
variable {K : PySem.W.Frag} {H H' : Hp} {D : Addr} {l l' : List V} {v x : V} {R : List V}
theorem forget_le (H : Hp) (D : Addr) : ∀ b o, forget H D b = some o → H b = some o := fun b o e => by
  by_cases q : b = D
  · rw [q, forget_at] at e
    cases e
  · rw [forget_ne q] at e
    exact e
theorem forget_upd {o : HO} : forget (upd H D o) D = forget H D := by
  funext b
  by_cases q : b = D
  · rw [q, forget_at, forget_at]
  · rw [forget_ne q, forget_ne q, upd_ne q]
theorem forget_ext (h : H D = some (.lst l)) : Ext K (forget H D) H := by
  refine ⟨fun b o e _ => forget_le H D b o e, fun t p hp => (t p hp).ext (forget_le H D), fun b e => ?_⟩
  by_cases q : b = D
  · rw [q, h] at e
    cases e
  · rw [forget_ne q]
    exact e
theorem tab_forget {P : Addr} {nm : Nat → Nat → Str} (h : H D = some (.lst l)) (t : NdefX.TabN H P nm) : NdefX.TabN (forget H D) P nm := by
  obtain ⟨ps, h1, h2, h3⟩ := t
  have keep : ∀ {b : Addr} {o : HO}, H b = some o → (∀ xs, o ≠ .lst xs) → forget H D b = some o := fun {b o} e n => by
    rw [forget_ne fun z => ?_]
    · exact e
    · rw [z, h] at e
      exact n l (Option.some.inj e).symm
  refine ⟨ps, keep h1 (fun _ z => by cases z), h2, fun pos cv hc => ?_⟩
  obtain ⟨c, e1, e2⟩ := h3 pos cv hc
  exact ⟨c, e1, keep e2 (fun _ z => by cases z)⟩
theorem Ext.hide (e : Ext K H H') (h' : H' D = some (.lst l')) : Ext K (forget H D) (forget H' D) := by
  refine ⟨fun b o q n => ?_, fun t p hp => tab_forget h' (e.2.1 (fun p hp => (t p hp).ext (forget_le H D)) p hp), fun b q => ?_⟩
  · have hb : b ≠ D := fun z => by rw [z, forget_at] at q; cases q
    rw [forget_ne hb] at q ⊢
    exact e.1 b o q n
  · by_cases hb : b = D
    · rw [hb, forget_at]
    · rw [forget_ne hb] at q ⊢
      exact e.2.2 b q
theorem LnSp.more : ∀ {l : Ln}, LnSp K R H v l → LnSp K (R ++ [x]) H v l
  | .row _ _ _ _, h => h
  | .use _ _ _ _, ⟨t, bt, pl, rv, pvs, h1, h2, h3, h4, h5, h6⟩ => ⟨t, bt, pl, rv, pvs, h1, h2, h3, by rw [List.getElem?_append_left (List.getElem?_eq_some_iff.mp h4).1]; exact h4, h5, h6⟩
theorem SpecAt.more {s : Sh} (h : SpecAt K R H v s) : SpecAt K (R ++ [x]) H v s := by
  obtain ⟨d, il, ol, ll, kvs, ivs, lvs, h1, h2, h3, h4, h5, h6, h7, h8, h9, h10, h11⟩ := h
  exact ⟨d, il, ol, ll, kvs, ivs, lvs, h1, h2, h3, h4, h5, h6, h7, h8, h9, h10, Paired.mapP h11 fun _ _ z => z.more⟩
end
theorem can_all : ∀ {ds : List PyData}, (∀ d ∈ ds, d.canLay0 = true) → PyData.canLayAll0 ds = true
  | [], _ => rfl
  | d :: ds, h => Bool.and_eq_true_iff.mpr ⟨h d List.mem_cons_self, can_all fun e he => h e (List.mem_cons_of_mem _ he)⟩
theorem depth_all {n : Nat} : ∀ {ds : List PyData}, (∀ d ∈ ds, d.depth ≤ n) → PyData.depthAll ds ≤ n
  | [], _ => Nat.zero_le _
  | d :: ds, h => Nat.max_le.mpr ⟨h d List.mem_cons_self, depth_all fun e he => h e (List.mem_cons_of_mem _ he)⟩
/-- data that can be laid, so deep at most -/
def Lay (n : Nat) (d : PyData) : Prop := d.canLay0 = true ∧ d.depth ≤ n
theorem Lay.up {m n : Nat} {d : PyData} (h : Lay m d) (e : m ≤ n) : Lay n d := ⟨h.1, Nat.le_trans h.2 e⟩
theorem lay_str {s : Str} (h : PyData.strOk s = true) : Lay 0 (.str s) := ⟨h, Nat.le_refl _⟩
theorem lay_nm {s : Str} (h : Nm s) : Lay 0 (.str s) := lay_str (nm_strOk h)
theorem lay_tup {n : Nat} {ds : List PyData} (h : ∀ d ∈ ds, Lay n d) : Lay (n + 1) (.tuple ds) := ⟨can_all fun d hd => (h d hd).1, Nat.succ_le_succ (depth_all fun d hd => (h d hd).2)⟩
theorem lay_lst {n : Nat} {ds : List PyData} (h : ∀ d ∈ ds, Lay n d) : Lay (n + 1) (.list ds) := ⟨can_all fun d hd => (h d hd).1, Nat.succ_le_succ (depth_all fun d hd => (h d hd).2)⟩
theorem Lay.shaped {n : Nat} {d : PyData} (h : Lay n d) (hn : n ≤ 64) : SeqAt.shaped d = true := Bool.and_eq_true_iff.mpr ⟨h.1, decide_eq_true (Nat.le_trans h.2 hn)⟩
theorem lay_val (x : Val0) : Lay 0 x.d := by cases x <;> exact ⟨rfl, Nat.le_refl _⟩
theorem lay_fv (f : Option Val0) : Lay 0 (fvD f) := by
  cases f with
  | none => exact ⟨rfl, Nat.le_refl _⟩
  | some x => exact lay_val x
theorem lay_on {o : Option Str} (h : ∀ n, o = some n → Nm n) : Lay 0 (onD o) := by
  cases o with
  | none => exact ⟨rfl, Nat.le_refl _⟩
  | some n => exact lay_nm (h n rfl)
theorem sign_ok {s : Str} (h : s ∈ signsL) : PyData.strOk s = true := by
  have : ∀ s ∈ signsL, PyData.strOk s = true := by decide +kernel
  exact this s h
theorem word_ok : ∀ s ∈ (["given", "named", "not", "if", "before", "then", "when", "held", "truth", "number"] : List Str), PyData.strOk s = true := by decide +kernel
theorem lay2 {n : Nat} {a b : PyData} (h1 : Lay n a) (h2 : Lay n b) : Lay (n + 1) (.tuple [a, b]) := lay_tup fun d hd => by
  simp only [List.mem_cons, List.not_mem_nil, or_false] at hd
  rcases hd with rfl | rfl
  · exact h1
  · exact h2
theorem lay3 {n : Nat} {a b c : PyData} (h1 : Lay n a) (h2 : Lay n b) (h3 : Lay n c) : Lay (n + 1) (.tuple [a, b, c]) := lay_tup fun d hd => by
  simp only [List.mem_cons, List.not_mem_nil, or_false] at hd
  rcases hd with rfl | rfl | rfl
  · exact h1
  · exact h2
  · exact h3
theorem lay4 {n : Nat} {a b c e : PyData} (h1 : Lay n a) (h2 : Lay n b) (h3 : Lay n c) (h4 : Lay n e) : Lay (n + 1) (.tuple [a, b, c, e]) := lay_tup fun d hd => by
  simp only [List.mem_cons, List.not_mem_nil, or_false] at hd
  rcases hd with rfl | rfl | rfl | rfl
  · exact h1
  · exact h2
  · exact h3
  · exact h4
theorem lay_w {s : Str} (h : s ∈ (["given", "named", "not", "if", "before", "then", "when", "held", "truth", "number"] : List Str)) (n : Nat) : Lay n (.str s) := (lay_str (word_ok s h)).up (Nat.zero_le _)
theorem lay_told : ∀ p : Tl, p.ok → ∀ n, p.dep ≤ n → Lay n p.told
  | p, h, 0, e => by cases p <;> simp [Tl.dep] at e
  | .given x, _, n + 1, _ => lay2 (lay_w (by simp) n) ((lay_val x).up (Nat.zero_le _))
  | .named m, h, n + 1, _ => lay2 (lay_w (by simp) n) ((lay_nm h).up (Nat.zero_le _))
  | .turned p, h, n + 1, e => lay2 (lay_w (by simp) n) (lay_told p h n (by simp only [Tl.dep] at e; omega))
  | .pair s p q, h, n + 1, e => lay3 ((lay_str (sign_ok h.1)).up (Nat.zero_le _)) (lay_told p h.2.1 n (by simp only [Tl.dep] at e; omega)) (lay_told q h.2.2 n (by simp only [Tl.dep] at e; omega))
  | .choice c p q, h, n + 1, e => lay4 (lay_w (by simp) n) (lay_told c h.1 n (by simp only [Tl.dep] at e; omega)) (lay_told p h.2.1 n (by simp only [Tl.dep] at e; omega)) (lay_told q h.2.2 n (by simp only [Tl.dep] at e; omega))
  | .before p f, h, n + 1, e => lay3 (lay_w (by simp) n) (lay_told p h.1 n (by simp only [Tl.dep] at e; omega)) ((lay_fv f).up (Nat.zero_le _))
  | .led p q, h, n + 1, e => lay3 (lay_w (by simp) n) (lay_told p h.1 n (by simp only [Tl.dep] at e; omega)) (lay_told q h.2 n (by simp only [Tl.dep] at e; omega))
  | .when p m, h, n + 1, e => lay3 (lay_w (by simp) n) (lay_told p h.1 n (by simp only [Tl.dep] at e; omega)) ((lay_nm h.2).up (Nat.zero_le _))
  | .held p m f, h, n + 1, e => lay4 (lay_w (by simp) n) (lay_told p h.1 n (by simp only [Tl.dep] at e; omega)) ((lay_nm h.2.1).up (Nat.zero_le _)) ((lay_fv f).up (Nat.zero_le _))
/-- a sheet that can be shown -/
structure ShowOk (ns : List Str) (s : Sh) : Prop where
  ns : ∀ n ∈ ns, PyData.strOk n = true
  borne : ∀ l ∈ s.lns, ∀ n ∈ l.borne, Nm n
  on : ∀ l ∈ s.lns, ∀ o, l.on = some o → Nm o
  eqs : ∀ l ∈ s.lns, ∀ p ∈ l.eqs, p.ok ∧ p.dep ≤ 3
theorem lay_shown {ns : List Str} {s : Sh} (h : ShowOk ns s) : Lay 6 (shD ns s) := lay_lst fun d hd => by
  obtain ⟨l, hl, rfl⟩ := List.mem_map.mp hd
  have hon := lay_on (h.on l hl)
  cases l with
  | row nm tr p on =>
    have h1 := h.eqs _ hl p List.mem_cons_self
    exact lay4 ((lay_nm (h.borne _ hl nm List.mem_cons_self)).up (Nat.zero_le _)) (lay_w (by cases tr <;> simp [trS]) _) ((lay_told p h1.1 3 h1.2).up (by decide)) (hon.up (Nat.zero_le _))
  | use bs k ps on =>
    refine lay4 ((lay_tup (n := 0) fun d hd => ?_).up (by decide)) ((lay_str ?_).up (Nat.zero_le _)) (lay_lst fun d hd => ?_) (hon.up (Nat.zero_le _))
    · obtain ⟨b, hb, rfl⟩ := List.mem_map.mp hd
      exact lay_nm (h.borne _ hl b hb)
    · rw [List.getD_eq_getElem?_getD]
      cases hk : ns[k]? with
      | none => show PyData.strOk "" = true; decide +kernel
      | some n => exact h.ns n (List.mem_of_getElem? hk)
    · obtain ⟨p, hp, rfl⟩ := List.mem_map.mp hd
      have h1 := h.eqs _ hl p hp
      exact (lay_told p h1.1 3 h1.2).up (by decide)
theorem wd_nm {s : Str} (h : Wd s) : Nm s := by
  obtain ⟨w, h1, h2, h3⟩ := wd_wds h
  exact ⟨[w], h2, (by show 1 ≤ 4; decide), fun _ => h.2⟩
theorem show_spec {S : List Sh} (h : SpecOk S) {s : Sh} (hs : s ∈ S) : ShowOk (S.map Sh.nm) s := by
  have hok := h.ok.sheets s hs
  refine ⟨fun n hn => ?_, fun l hl n hn => h.nms s hs n (line_names hl hn), fun l hl o ho => ?_, fun l hl p hp => ⟨h.eqs s hs l hl p hp, (hok.eqIn l hl p hp).1⟩⟩
  · obtain ⟨x, hx, rfl⟩ := List.mem_map.mp hn
    exact nm_strOk (wd_nm (h.ok.sheets x hx).nm)
  · obtain ⟨m, _, hc⟩ := hok.chain (.ln l) (List.mem_append_right _ (List.mem_map_of_mem hl))
    have hc : ChainE s.tri m l.on := hc
    rw [ho] at hc
    exact h.nms s hs o (chain_in hc)
theorem show_placed {S : List Sh} {s : Sh} (h : PlacedOk S s) : ShowOk [s.nm] (placeSh S s) := by
  have key : ∀ l ∈ (placeSh S s).lns, ∃ r ∈ rowsF (S ++ [s]) 6 s "" none, l = r.ln := fun l hl => by
    obtain ⟨r, hr, e⟩ := List.mem_map.mp (show l ∈ (rowsF (S ++ [s]) 6 s "" none).map Rw.ln from hl)
    exact ⟨r, hr, e.symm⟩
  refine ⟨fun n hn => ?_, fun l hl n hn => ?_, fun l hl o ho => ?_, fun l hl p hp => ?_⟩
  · rw [List.mem_singleton.mp hn]
    exact nm_strOk (wd_nm h.sheet.nm)
  · obtain ⟨r, hr, rfl⟩ := key l hl
    rw [List.mem_singleton.mp hn]
    exact h.nm r hr
  · obtain ⟨r, hr, rfl⟩ := key l hl
    exact h.on r hr o ho
  · obtain ⟨r, hr, rfl⟩ := key l hl
    rw [List.mem_singleton.mp hp]
    exact h.eq r hr
theorem placed_rows {S : List Sh} {s : Sh} : ∀ l ∈ (placeSh S s).lns, ∃ nm tr p on, l = Ln.row nm tr p on := fun l hl => by
  obtain ⟨r, _, e⟩ := List.mem_map.mp (show l ∈ (rowsF (S ++ [s]) 6 s "" none).map Rw.ln from hl)
  exact ⟨_, _, _, _, e.symm⟩
theorem placed_names {S : List Sh} {s : Sh} (h : PlacedOk S s) (hn : ∀ i ∈ s.ins, Nm i.nm) : ∀ n ∈ (placeSh S s).names, Nm n := fun n hn2 => by
  have e := names_of s.nm s.ins s.outs (rowsF (S ++ [s]) 6 s "" none)
  have hn3 : n ∈ s.ins.map Inp.nm ++ (rowsF (S ++ [s]) 6 s "" none).map Rw.nm := by rw [← e]; exact hn2
  rcases List.mem_append.mp hn3 with hn3 | hn3
  · obtain ⟨i, hi, rfl⟩ := List.mem_map.mp hn3
    exact hn i hi
  · obtain ⟨r, hr, rfl⟩ := List.mem_map.mp hn3
    exact h.nm r hr
theorem lay_names {ns : List Str} (h : ∀ n ∈ ns, Nm n) : Lay 1 (.list (ns.map PyData.str)) := lay_lst fun d hd => by
  obtain ⟨n, hn, rfl⟩ := List.mem_map.mp hd
  exact lay_nm (h n hn)
theorem lay_outs {ns : List Str} (h : ∀ n ∈ ns, Nm n) : Lay 1 (.tuple (ns.map PyData.str)) := lay_tup fun d hd => by
  obtain ⟨n, hn, rfl⟩ := List.mem_map.mp hd
  exact lay_nm (h n hn)
theorem eqv_self {n : Nat} {d : PyData} (h : Lay n d) : PyData.eqv d d = true := SeqAt.eqv_refl d h.1
theorem good_nil (b : Int) : GoodS b [] := ⟨by decide, fun _ _ h => (by cases h), fun _ h => (by cases h), fun _ _ h => (by cases h), fun _ h => (by cases h), fun _ h => (by cases h), fun _ h => (by cases h), fun _ h => (by cases h), fun _ h => (by cases h), fun _ h => (by cases h)⟩
theorem last_of {α : Type} : ∀ {l : List α}, 1 ≤ l.length → ∃ xs x, l = xs ++ [x]
  | l, h => by
    have hne : l ≠ [] := fun z => by rw [z] at h; cases h
    exact ⟨l.dropLast, l.getLast hne, (List.dropLast_concat_getLast hne).symm⟩

theorem sc_law : FnScope ["_law_script", "_law_seeds_here", "_law_specs", "_law_k", "_law_book", "_law_shown_here", "_law_found", "_law_again", "_law_sheet_here", "_law_spec_here"] ["_law_script"] (defScope s_law) := ⟨rfl, rfl, rfl, by decide +kernel, rfl, by decide +kernel, by decide +kernel⟩
def sp_law (K : PySem.W.Frag) : Sp := fun vs H Q _ => ∃ (a : Addr) (ns : List Int), vs = [.ref a] ∧ ns.length ≤ 63 ∧ (∀ z ∈ ns, Builtin.Int.intBits z ≤ 1048576) ∧ SqL K H a (ns.map V.int) ∧ NdefX.TabsN (TT K) H ∧ ∀ H', Q (.bl true) H'
theorem ln_law {K : PySem.W.Frag} : ∀ vs H Q E, (sp_law K) vs H Q E → vs.length = (["_law_script"] : List Str).length := fun vs H Q E h => by
  obtain ⟨_, _, rfl, _⟩ := h
  rfl
theorem bd_law (T : Top K mg) (c_law_seeds : C8.Cal P w K mg base 2 "_law_seeds" (sp_law_seeds K) []) (c_law_spec : C8.Cal P w K mg base 6 "_law_spec" (sp_law_spec K) []) (c_law_due : C8.Cal P w K mg base 21 "_law_due" (sp_law_due K) []) (mk_Book : C8.Mak P w K mg base 4 "Book" (He.ga K "Book") (sp_Book_init K) []) (c_law_sheet : C8.Cal P w K mg base 11 "_law_sheet" (sp_law_sheet K) []) (c_law_shown : C8.Cal P w K mg base 5 "_law_shown" (sp_law_shown K) []) (c_placed : C8.Cal P w K mg base 33 "placed" (sp_placed K) []) (c_law_known : C8.Cal P w K mg base 6 "_law_known" (sp_law_known K) []) (me_Sheet_names : C8.Met P w K mg base 2 (He.ga K "Sheet") "names" (sp_Sheet_names K) []) : Body P w K mg base q s_law f ["_law_script", "_law_seeds_here", "_law_specs", "_law_k", "_law_book", "_law_shown_here", "_law_found", "_law_again", "_law_sheet_here", "_law_spec_here"] (60) (sp_law K) := fun cdv A outer s H vs Q E hr h => by
  have hu := hu_of hr
  obtain ⟨a, ns, rfl, _, _, hS, hT, q⟩ := h
  refine ⟨_, (pss_cons (ps_set (i := 1) sc_law.nd rfl (by first | exact Or.inl rfl | exact Or.inr rfl) (C8.pe_c c_law_seeds hr (by omega) rfl (pa_cons (pv 0) (pa_cons pe_int pa_nil))))
        (pss_cons (ps_set (i := 2) sc_law.nd rfl (by first | exact Or.inl rfl | exact Or.inr rfl) (pe_lst pa_nil))
        (pss_cons (ps_for PassesOwn.never rfl (pi_range1 rfl T.n_range (pa_cons (pe_op op_add pe_int (pe_op op_mod (pe_ix ix_list (pv 1) pe_int (fun _ _ => rfl)) pe_int)) pa_nil)) (pg_name (i := 3) sc_law.nd rfl (by first | exact Or.inl rfl | exact Or.inr rfl))
          (pss_one (ps_expr (pe_bm PySem.F.plainAttrs_list PySem.F.slot_list_append PySem.F.type_list_append mt_append (pv 2) (pa_cons (C8.pe_c c_law_spec hr (by omega) rfl (pa_cons (pe_op op_add (pe_ix ix_list (pv 1) pe_int (fun _ _ => rfl)) (pe_op op_mul pe_int (pv 3))) (pa_cons (pe_ix ix_list (pv 1) pe_int (fun _ _ => rfl)) (pa_cons (pe_ix ix_list (pv 1) (pe_op op_add pe_int (pe_op op_mod (pv 3) pe_int)) (fun _ _ => rfl)) (pa_cons (pv 2) (pa_cons pe_int pa_nil)))))) pa_nil)))))
        (pss_cons (ps_if (pt_val (pe_callB call_isi (by rfl) T.n_isinstance (by decide +kernel) (pa_cons (C8.pe_c c_law_due hr (by omega) rfl (pa_cons (pe_ix ix_list (pv 2) (pe_un un_neg pe_int) (fun _ _ => rfl)) pa_nil)) (pa_cons (pe_bltn (v := .ty "str") rfl T.n_str (by decide +kernel) rfl) pa_nil)))) (pss_one (ps_ret pe_bl)) pss_nil)
        (pss_cons (ps_set (i := 4) sc_law.nd rfl (by first | exact Or.inl rfl | exact Or.inr rfl) (C8.pe_mk mk_Book hr (by omega) rfl (pa_cons (pe_lc (own := [("_law_spec_here", 9)]) rfl sc_law.nd (pi_list (pv 2)) (blkOk_by (own := [("_law_spec_here", 9)]) (N := ["_law_script", "_law_seeds_here", "_law_specs", "_law_k", "_law_book", "_law_shown_here", "_law_found", "_law_again", "_law_sheet_here", "_law_spec_here"]) (sc := defScope s_law) (by decide +kernel)) (fun _ _ _ _ _ => (pg_name (i := 9) sc_law.nd rfl (by first | exact Or.inl rfl | exact Or.inr rfl))) (fun _ _ _ _ _ => pts_nil) (fun _ _ _ _ _ => (C8.pe_c c_law_sheet hr (by omega) rfl (pa_cons (pv 9) pa_nil)))) pa_nil)))
        (pss_cons (ps_setLc (i := 5) rfl sc_law.nd rfl rfl (sw_true rfl rfl rfl (by decide +kernel)) (own := [("_law_sheet_here", 8)]) (pi_tup (pe_fld (pv 4) rfl)) (blkOk_by (own := [("_law_sheet_here", 8)]) (N := ["_law_script", "_law_seeds_here", "_law_specs", "_law_k", "_law_book", "_law_shown_here", "_law_found", "_law_again", "_law_sheet_here", "_law_spec_here"]) (sc := defScope s_law) (by decide +kernel)) (fun _ _ _ _ _ => (pg_name (i := 8) sc_law.nd rfl (by first | exact Or.inl rfl | exact Or.inr rfl))) (fun _ _ _ _ _ => pts_nil) (fun _ _ _ _ _ => (C8.pe_c c_law_shown hr (by omega) rfl (pa_cons (pv 8) pa_nil))))
        (pss_cons (ps_set (i := 6) sc_law.nd rfl (by first | exact Or.inl rfl | exact Or.inr rfl) (C8.pe_c c_placed hr (by omega) rfl (pa_cons (pv 4) pa_nil)))
        (pss_cons (ps_set (i := 7) sc_law.nd rfl (by first | exact Or.inl rfl | exact Or.inr rfl) (C8.pe_c c_placed hr (by omega) rfl (pa_cons (C8.pe_mk mk_Book hr (by omega) rfl (pa_cons (pe_lst (pa_cons (pv 6) pa_nil)) pa_nil)) pa_nil)))
        (pss_cons (ps_if (PW.pt (pw_or (pt_not (pt_val (C8.pe_c c_law_known hr (by omega) rfl (pa_cons (pv 6) pa_nil)))) (pw_or (pt_cmpR (op_neD hr.units) (C8.pe_c c_law_shown hr (by omega) rfl (pa_cons (pv 6) pa_nil)) (C8.pe_c c_law_shown hr (by omega) rfl (pa_cons (pv 7) pa_nil)) (nomark _)) (pw_or1 (pt_cmpR (op_neD hr.units) (pe_fld (pv 6) rfl) (pe_fld (pv 7) rfl) (nomark _)))))) (pss_one (ps_ret pe_bl)) pss_nil)
        (pss_one (ps_ret (pe_and (pe_cmpR (op_eqD hr.units) (pe_lc (own := [("_law_sheet_here", 8)]) rfl sc_law.nd (pi_tup (pe_fld (pv 4) rfl)) (blkOk_by (own := [("_law_sheet_here", 8)]) (N := ["_law_script", "_law_seeds_here", "_law_specs", "_law_k", "_law_book", "_law_shown_here", "_law_found", "_law_again", "_law_sheet_here", "_law_spec_here"]) (sc := defScope s_law) (by decide +kernel)) (fun _ _ _ _ _ => (pg_name (i := 8) sc_law.nd rfl (by first | exact Or.inl rfl | exact Or.inr rfl))) (fun _ _ _ _ _ => pts_nil) (fun _ _ _ _ _ => (C8.pe_c c_law_shown hr (by omega) rfl (pa_cons (pv 8) pa_nil)))) (pv 5) (nomark _)) (pe_one (pe_cmpR (op_eqD hr.units) (C8.pe_mt0 me_Sheet_names hr (by omega) (pv 6)) (C8.pe_mt0 me_Sheet_names hr (by omega) (pv 7)) (nomark _))))))))))))))), ?_⟩
  refine ⟨_, rfl, a, ns, rfl, hS, fun p1 xs H1 e1 hp1 hxl hxb => ?_⟩
  refine ⟨szk 0, fun p2 hp2 => ?_⟩
  have e2 : Ext K H1 (upd H1 p2 (.lst [])) := Ext.new hp2 _
  have z2 : (upd H1 p2 (.lst [])) p2 = some (.lst []) := upd_same
  generalize hG2 : upd H1 p2 (.lst []) = H2 at e2 z2
  obtain ⟨x0, x1, x2, x3, x4, x5, rfl⟩ : ∃ x0 x1 x2 x3 x4 x5 : Int, xs = [x0, x1, x2, x3, x4, x5] := by
    match xs, hxl with
    | [x0, x1, x2, x3, x4, x5], _ => exact ⟨_, _, _, _, _, _, rfl⟩
  have hp1 : H1 p1 = some (.lst [.int x0, .int x1, .int x2, .int x3, .int x4, .int x5]) := hp1
  have p3 : (0 : Int) < 3 := by decide
  have p4 : (0 : Int) < 4 := by decide
  have hm0 : 0 ≤ x0 % 3 := Int.emod_nonneg _ (by decide)
  have hm1 : x0 % 3 < 3 := Int.emod_lt_of_pos _ p3
  -- the sheets' dicts
  refine ⟨_, rfl, p1, _, 0, _, rfl, rfl, .of (e2.at hp1), rfl, _, 3, rfl, rfl, p3, 2, _, rfl, rfl, _, rfl, by omega, by omega, for_range (n := (2 + x0 % 3).toNat) (fun i σ H3 => ∃ z3 R S, σ = [some (.ref a), some (.ref p1), some (.ref p2), z3, none, none, none, none, none, none] ∧ Ext K H1 H3 ∧ H3 p2 = some (.lst R) ∧ SpecsAt K R (forget H3 p2) S ∧ GoodS x1 S ∧ S.length = i) ⟨none, [], [], rfl, e2, z2, .nil, good_nil x1, rfl⟩ (fun i σ H3 hi h => ?_) (fun σ H3 h => ?_)⟩
  · obtain ⟨z3, R, S, rfl, e3, hp3, hR, hg, hl⟩ := h
    have hi4 : i < 4 := by omega
    have ei : (0 : Int) + ((i : Nat) : Int) = ((i : Nat) : Int) := Int.zero_add _
    have hq1 := e3.at hp1
    have hk0 : 0 ≤ (0 + ((i : Nat) : Int)) % 4 := Int.emod_nonneg _ (by decide)
    have hk1 : (0 + ((i : Nat) : Int)) % 4 < 4 := Int.emod_lt_of_pos _ p4
    obtain ⟨v, hv, hat⟩ := ix_ex (xs := [V.int x0, .int x1, .int x2, .int x3, .int x4, .int x5]) (i := 2 + (0 + ((i : Nat) : Int)) % 4) (by omega) (by show _ < ((6 : Nat) : Int); omega)
    obtain ⟨cell, rfl⟩ : ∃ cell : Int, v = .int cell := by
      have hm := List.mem_of_getElem? hv
      simp only [List.mem_cons, List.not_mem_nil, or_false] at hm
      rcases hm with rfl | rfl | rfl | rfl | rfl | rfl <;> exact ⟨_, rfl⟩
    have hRl : R.length = S.length := hR.length
    refine ⟨_, rfl, .inl ⟨rfl, _, .of hp3⟩, ?_⟩
    refine ⟨_, rfl, p1, _, 1, _, rfl, rfl, .of hq1, rfl, _, rfl, 3, _, rfl, rfl, .inl ⟨by decide, by decide⟩, _, _, rfl, rfl, ?_⟩
    refine ⟨_, rfl, p1, _, 1, _, rfl, rfl, .of hq1, rfl, ?_⟩
    refine ⟨_, rfl, _, rfl, _, 4, rfl, rfl, p4, 2, _, rfl, rfl, p1, _, _, _, rfl, rfl, .of hq1, hat, ?_⟩
    refine ⟨_, rfl, _, x1, cell, p2, R, S, rfl, hp3, (forget_ext hp3).specs hR, hg, by omega, fun v s H4 e4 hs hg4 => ⟨p2, R, _, rfl, rfl, e4.at hp3, by show _ < 2 ^ 24; omega, ?_⟩⟩
    refine ⟨_, R ++ [v], S ++ [s], rfl, (e3.trans e4).push hp2 (e4.at hp3), upd_same, ?_, hg4, by rw [List.length_append, hl]; rfl⟩
    rw [forget_upd]
    exact Paired.snoc (Paired.mapP ((e4.hide (e4.at hp3)).specs hR) fun _ _ z => z.more) (hs.hid (e4.at hp3) (by rw [hp3]; exact nofun)).more
  obtain ⟨z3, R, S, rfl, e3, hp3, hR, hg, hl⟩ := h
  have hR := (forget_ext (K := K) hp3).specs hR
  have hSl : 2 ≤ S.length := by omega
  have hok := hg.spec (by omega)
  have hRl : R.length = S.length := hR.length
  obtain ⟨S, s0, rfl⟩ := last_of (l := S) (by omega)
  obtain ⟨R, v0, rfl⟩ := last_of (l := R) (by omega)
  have hRl1 : R.length = S.length := by rw [List.length_append, List.length_append] at hRl; exact Nat.add_right_cancel hRl
  have hS3 : (S ++ [s0]).length ≤ 4 := hg.len
  have hj := last_at S s0
  have hjR : (R ++ [v0])[S.length]? = some v0 := by rw [← hRl1, List.getElem?_append_right (Nat.le_refl _), Nat.sub_self]; rfl
  have hv0 := hR.at hj hjR
  have hmem : s0 ∈ S ++ [s0] := List.mem_append_right _ (List.mem_singleton.mpr rfl)
  have E3 := e1.trans e3
  -- what is due
  refine ⟨_, rfl, 1, rfl, p2, _, -1, v0, rfl, rfl, .of hp3, atI_last _ _, ?_⟩
  refine ⟨_, R ++ [v0], S ++ [s0], s0, S.length, rfl, hR, hv0, hj, hok, fun x H4 e4 => ⟨_, _, _, _, true, rfl, .ty _, .base (.str _), kit_ty (by decide +kernel), true, rfl, ite_t rfl (q _)⟩, fun p ys H4 e4 hp hd => ⟨_, _, _, _, false, rfl, .ty _, .base (.lst hp), kit_ty (by decide +kernel), false, rfl, ite_f rfl ?_⟩⟩
  have E4 := E3.trans e4
  have hR4 := e4.specs hR
  have hp4 := e4.at hp3
  have hpl := placed_ok hok hg.loc hd
  have hag := again_ok hpl (hok.kinds s0 hmem) fun i hi => hok.nms s0 hmem _ (inp_names hi)
  have hpn := placed_names hpl fun i hi => hok.nms s0 hmem _ (inp_names hi)
  have hsh := hpl.sheet
  have hlw : (R ++ [v0]).length ≤ 4 := by omega
  -- the book
  refine ⟨_, rfl, p2, rfl, ⟨_, .of hp4⟩, lcL (K := K) (H1 := H4) (a := p2) (xs := R ++ [v0]) (fun i acc H5 => Paired (SheetAt K ((S ++ [s0]).map Sh.nm) H5) acc ((S ++ [s0]).take i)) (fun e h => Paired.mapP h fun _ _ z => e.sheet z) (.of hp4) (by show _ ≤ 2 ^ 24; omega) .nil (fun i x hx acc H5 N S2 e5 pj hN hS => ?_) fun D ys H5 hD e5 hl5 hn5 pj => ?_⟩
  · obtain ⟨s, hs, _⟩ := paired_get hR4 hx
    refine ⟨rfl, ?_⟩
    exact ⟨_, rfl, _, R ++ [v0], S ++ [s0], s, i, rfl, e5.specs hR4, (e5.specs hR4).at hs hx, hs, hok, fun r H6 e6 hP => hN _ _ e6 (paired_step (Paired.mapP pj fun _ _ z => e6.fr.sheet z) hs hP)⟩
  have pj := paired_all pj hRl
  have hyl := pj.length
  have E5 := E4.trans e5
  refine fun y0 dx hy hdx ne => ⟨y0, D, S ++ [s0], ys, rfl, hok.ok, dx, H5, upd_same, hy, Ext.made hy hdx _ _ ne, hl5, pj, fun H6 e6 hB => ⟨rfl, ?_⟩⟩
  have E6 := E5.trans e6
  have hB0 := hB
  obtain ⟨ab, db, st, svs, eb, hb1, hst, hsv⟩ := hB
  cases eb
  have hsl := hsv.length
  -- what its sheets show
  have mono : ∀ {H1 : Hp} {D : Addr} {i : Nat} {acc : List V} {H : Hp} {o o' : List V}, H1 D = none → H D = some (.lst o) → DpAll K (forget H D) acc (((S ++ [s0]).map (shD ((S ++ [s0]).map Sh.nm))).take i) → DpAll K (forget (upd H D (.lst o')) D) acc (((S ++ [s0]).map (shD ((S ++ [s0]).map Sh.nm))).take i) := fun _ _ h => by rw [forget_upd]; exact h
  refine ⟨_, rfl, _, _, db, _, _, rfl, hb1, T.cl_Book, T.na_Book_sheets, rfl, st, rfl, ⟨_, .of hst⟩, lcTD (K := K) (H1 := H6) (a := st) (xs := svs) (fun D i acc H7 => DpAll K (forget H7 D) acc (((S ++ [s0]).map (shD ((S ++ [s0]).map Sh.nm))).take i)) mono (.of hst) (by show _ ≤ 2 ^ 24; omega) (fun D hD => .nil) (fun D i x hD hx acc H7 N S2 e7 hDl pj hN hS => ?_) fun D ys H7 hD e7 hl7 hn7 pj => ?_⟩
  · obtain ⟨s, hs, hat⟩ := paired_get hsv hx
    have hsm := List.mem_of_getElem? hs
    have hsk := hok.ok.sheets s hsm
    refine ⟨rfl, ?_⟩
    exact ⟨_, rfl, _, s, (S ++ [s0]).map Sh.nm, rfl, e7.fr.sheet hat, hsk.few, fun l hl p hp => (hsk.eqIn l hl p hp).1, fun p H8 e8 hp0 hh hdp => hN _ _ e8 (dpa_step ((e8.hide (e8.at hDl)).dpa pj) (by rw [List.getElem?_map, hs]; rfl) (hh D _ hDl))⟩
  rw [hsl, List.take_of_length_le (by rw [List.length_map]; exact Nat.le_refl _)] at pj
  have dS : Dp K H7 (.ref D) (.list ((S ++ [s0]).map (shD ((S ++ [s0]).map Sh.nm)))) := .lst (.of hl7) ((forget_ext hl7).dpa pj)
  have layS : Lay 7 (.list ((S ++ [s0]).map (shD ((S ++ [s0]).map Sh.nm)))) := lay_lst fun d hd => by
    obtain ⟨s, hs, rfl⟩ := List.mem_map.mp hd
    exact lay_shown (show_spec hok hs)
  have E7 := E6.trans e7
  -- put in place, and once more
  refine ⟨_, rfl, _, S, s0, rfl, e7.fr.book hB0, hok.place, E7.2.1 hT, hpl, fun f H8 e8 hf => ?_⟩
  have E8 := E7.trans e8
  refine ⟨_, rfl, szk 1, fun u hu y1 dx1 hy1 hdx1 ne1 => ⟨y1, u, [placeSh S s0], [f], rfl, hag.1.ok, dx1, upd H8 u (.lst [f]), upd_same, hy1, Ext.made hy1 hdx1 _ _ ne1, upd_same, .cons ((Fr.new hu _).sheet hf) .nil, fun H9 e9 hB9 => ⟨rfl, _, [], placeSh S s0, rfl, hB9, hag.1, ((E8.trans (Ext.new hu _)).trans e9).2.1 hT, hag.2, fun g H10 e10 hgS => ?_⟩⟩⟩
  rw [placeSh_again] at hgS
  have e810 := ((Ext.new (K := K) hu (.lst [f])).trans e9).trans e10
  have E10 := E8.trans e810
  have hf10 := e810.fr.sheet hf
  have hshow := show_placed hpl
  have layP := lay_shown hshow
  have hdep : ∀ l ∈ (placeSh S s0).lns, ∀ p ∈ l.eqs, p.dep ≤ 3 := fun l hl p hp => (hsh.eqIn l hl p hp).1
  refine ⟨_, rfl, _, placeSh S s0, [s0.nm], rfl, hf10, hsh, placed_rows, fun H11 e11 => ⟨true, rfl, ite_f rfl ?_⟩⟩
  refine ⟨_, rfl, _, placeSh S s0, [s0.nm], rfl, e11.fr.sheet hf10, hsh.few, hdep, fun r1 H12 e12 _ _ d1 => ?_⟩
  have e112 := e11.trans e12
  refine ⟨_, rfl, _, placeSh S s0, [s0.nm], rfl, e112.fr.sheet hgS, hsh.few, hdep, fun r2 H13 e13 _ _ d2 => ?_⟩
  have e113 := e112.trans e13
  refine ⟨_, _, e13.dp d1, d2, layP.shaped (by decide), layP.shaped (by decide), _, rfl, ite_f (nf (eqv_self layP)) ?_⟩
  have hF := e113.fr.sheet hf10
  have hG := e113.fr.sheet hgS
  have hF0 := hF
  have hG0 := hG
  obtain ⟨a6, dx6, it6, ot6, lt6, iv6, lv6, rfl, f1, f2, f3, f4, f5, f6⟩ := hF
  obtain ⟨a7, dx7, it7, ot7, lt7, iv7, lv7, rfl, g1, g2, g3, g4, g5, g6⟩ := hG
  have layO : Lay 1 (.tuple ((placeSh S s0).outs.map PyData.str)) := lay_outs fun n hn => hpn n (hsh.outIn n hn)
  refine ⟨_, rfl, a6, _, dx6, _, _, rfl, f1, T.cl_Sheet, T.na_Sheet_outputs, rfl, _, rfl, a7, _, dx7, _, _, rfl, g1, T.cl_Sheet, T.na_Sheet_outputs, rfl, _, _, .tup (.of f4) (dpa_strs _), .tup (.of g4) (dpa_strs _), layO.shaped (by decide), layO.shaped (by decide), _, rfl, ite_f (nf (eqv_self layO)) ?_⟩
  -- the book's sheets once more
  have E713 := (e8.trans e810).trans e113
  have hst13 := (e7.trans E713).at hst
  refine ⟨_, rfl, _, _, db, _, _, rfl, (e7.trans E713).at hb1, T.cl_Book, T.na_Book_sheets, rfl, st, rfl, ⟨_, .of hst13⟩, lcTD (K := K) (H1 := H13) (a := st) (xs := svs) (fun D i acc H7 => DpAll K (forget H7 D) acc (((S ++ [s0]).map (shD ((S ++ [s0]).map Sh.nm))).take i)) mono (.of hst13) (by show _ ≤ 2 ^ 24; omega) (fun D hD => .nil) (fun D2 i x hD2 hx acc H14 N S2 e14 hDl pj2 hN hS => ?_) fun D2 ys2 H14 hD2 e14 hl14 hn14 pj2 => ?_⟩
  · obtain ⟨s, hs, hat⟩ := paired_get hsv hx
    have hsm := List.mem_of_getElem? hs
    have hsk := hok.ok.sheets s hsm
    refine ⟨rfl, ?_⟩
    exact ⟨_, rfl, _, s, (S ++ [s0]).map Sh.nm, rfl, ((e7.trans E713).trans e14).fr.sheet hat, hsk.few, fun l hl p hp => (hsk.eqIn l hl p hp).1, fun p H8 e8 hp0 hh hdp => hN _ _ e8 (dpa_step ((e8.hide (e8.at hDl)).dpa pj2) (by rw [List.getElem?_map, hs]; rfl) (hh D2 _ hDl))⟩
  rw [hsl, List.take_of_length_le (by rw [List.length_map]; exact Nat.le_refl _)] at pj2
  have dS2 : Dp K H14 (.ref D2) (.list ((S ++ [s0]).map (shD ((S ++ [s0]).map Sh.nm)))) := .lst (.of hl14) ((forget_ext hl14).dpa pj2)
  refine ⟨_, rfl, _, _, dS2, (E713.trans e14).dp dS, layS.shaped (by decide), layS.shaped (by decide), true, congrArg V.bl (eqv_self layS), ite_t rfl ?_⟩
  have layN := lay_names hpn
  refine ⟨_, rfl, a6, dx6, _, rfl, e14.at f1, rfl, _, placeSh S s0, [s0.nm], rfl, e14.fr.sheet hF0, hsh.few, fun r3 H15 e15 h15 => ?_⟩
  refine ⟨_, rfl, a7, dx7, _, rfl, (e14.trans e15).at g1, rfl, _, placeSh S s0, [s0.nm], rfl, (e14.trans e15).fr.sheet hG0, hsh.few, fun r4 H16 e16 h16 => ?_⟩
  refine ⟨_, _, .lst (.of (e16.at h15)) (dpa_strs _), .lst (.of h16) (dpa_strs _), layN.shaped (by decide), layN.shaped (by decide), ?_⟩
  rw [eqv_self layN]
  exact q _
theorem bd_lawT (T : Top K mg) (TB : LamX.TabB base mg (cod K) (tab K)) : Body P w K mg base q s_law f ["_law_script", "_law_seeds_here", "_law_specs", "_law_k", "_law_book", "_law_shown_here", "_law_found", "_law_again", "_law_sheet_here", "_law_spec_here"] 60 (sp_law K) :=
  bd_law T (ok_law_seeds T) (ok_law_spec T) (ok_law_due T) (ok_Book_init T) (ok_law_sheet T) (ok_law_shown T) (ok_placed T TB) (ok_law_known T) (ok_Sheet_names T)
end

/-! ### the end: the law's promise, the head, the row -/
section
variable {P : Program} {w : World} {K : PySem.W.Frag} {mg : Str → Option Value}
theorem fnok_law (T : Top K mg) {k : Nat} {sp : Sp} {N : List Str} (S : FnScope N ["_law_script"] (defScope s_law)) (len : ∀ vs H Q E, sp vs H Q E → vs.length = 1)
    (hb : ∀ base : Heap, LamX.TabB base mg (cod K) (tab K) → Body P w K mg base d_law.qual s_law (He.fAd K d_law.at_) N k sp) :
    ∃ fd, (∀ (s : Shared) (u : Value), BindsTo s fd ⟨[u], []⟩ [(("_law_script" : Str), u)]) ∧ ∀ base : Heap, LamX.TabB base mg (cod K) (tab K) → FnOk P w K mg base C8.CX0 (k + 1) (He.fAd K d_law.at_) fd ["_law_script"] sp := by
  obtain ⟨fd, F⟩ := T.says.def_ 39 (d := d_law) rfl
  have F' : FunD K d_law.name d_law.qual d_law.params d_law.body d_law.scope [] [] (He.fAd K d_law.at_) fd := F
  have b := FunD.bindsA (ps := ["_law_script"]) F' fun _ _ _ _ _ _ us hl => match us, hl with | [_], _ => rfl
  refine ⟨fd, fun s v => b s [v] rfl, fun base TB => F.ok S len fun cdv A outer s H vs Q E hr hsp => ?_⟩
  obtain ⟨t, h, q⟩ := hb base TB cdv A outer s H vs Q E hr hsp
  exact ⟨t, h.nox, q⟩
end
end G
open PySem PySem.W PySem.Calls PyProof.Rows
theorem PySem.Challenge.cw_runrows_k25_whole_once_more_holds : PySem.Challenge.rw_runrows_k25_whole_once_more.Holds := by
  w_on; o_law
  refine HandSHeadRun.head_any (r := OpenLaw.row PySem.Challenge.rw_runrows_k25_whole_once_more) (q := view (OpenLaw.row PySem.Challenge.rw_runrows_k25_whole_once_more).prog [97]) (H := G.hk) (ob := G.ob) (M := 20000) (loose := G.loose) (d := HandSHeadRun.topDef (OpenLaw.row PySem.Challenge.rw_runrows_k25_whole_once_more).prog 97) (kwd := []) G.ob_eq
    (by kernel_rfl) (fun s => by kernel_rfl) G.run (by kernel_rfl) (by kernel_rfl) (by kernel_rfl) (by rfl) (by first | assumption | decide +kernel) (by decide +kernel) ⟨rfl, rfl, rfl, rfl, rfl, by decide +kernel⟩ ?hw ?hc
  case hw => w_witness2
  case hc =>
    refine LamX.walk_ofTsE (l := PySem.Challenge.rw_runrows_k25_whole_once_more) (n := 63) (k := 61) (x := "_law_script") (CX := fun _ => C8.CX0) rfl (by decide) (by kernel_rfl) ⟨rfl, by decide, by decide⟩ ?F (fun _ _ _ _ _ z => z)
    intro w mg fa h Y N hmg0
    obtain ⟨K, KX, c⟩ := Y
    have T : G.Top K mg := ⟨c.t.d, c.more, h, KX, N⟩
    have hmg : mg ("law" : PySem.Str) = some (.ref fa) := by
      have e : (HandSHeadRun.topDef (OpenLaw.row PySem.Challenge.rw_runrows_k25_whole_once_more).prog 97).name = ("law" : PySem.Str) := by kernel_rfl
      rw [← e]
      exact hmg0
    have ef : fa = He.fAd K G.d_law.at_ := by
      have z := hmg.symm.trans T.g_law
      cases z
      rfl
    subst ef
    obtain ⟨fd, hb, hF⟩ := G.fnok_law (P := (PySem.Challenge.rw_runrows_k25_whole_once_more).prog) (w := w) T (k := 60) G.sc_law (fun vs H Q E h => by obtain ⟨_, _, rfl, _⟩ := h; rfl) (fun base TB => G.bd_lawT T TB)
    refine ⟨K, KX, fd, G.tf.map (He.cT K), G.sp_law K, fun p hp => ?_, fun p hp => ?_, fun p hp => ?_, hb, fun H a ns hl hbits hT hS => ⟨a, ns, rfl, hl, hbits, hS, ?_, fun _ => rfl⟩, fun base _ _ TB => hF base (TB _ (List.mem_map_of_mem List.mem_cons_self))⟩
    · obtain ⟨q, hq, rfl⟩ := List.mem_map.mp hp
      exact c.empty q hq
    · obtain ⟨q, hq, rfl⟩ := List.mem_map.mp hp
      exact c.out q hq
    · obtain ⟨q, hq, rfl⟩ := List.mem_map.mp hp
      exact PySem.W.codeHd_of_K KX (c.hd q hq)
    · intro p hp
      rw [List.mem_singleton.mp hp]
      exact NdefX.TabN.nil (hT _ (List.mem_map_of_mem List.mem_cons_self))
