import PyProof.Rows.All
import Wide.All
import OpenK.AllK
import Wide.FinOn
import HandS.ForMost
import HandS.Head2
import HandS.HeadHook4
import HandS.HeadWalk
import HandS.GenList
import HandS.AnyAll
import HandS.EndTab
import PyProof.TupleOfGen
import HandS.Walk
import HandS.Nested
import HandS.CallLocal
import PyProof.Draws
import PyProof.EnumMake
import KE.GoesEnum
import HandS.Zip
import HandS.Style
import HandS.IsInst
import HandS.TupAny
import HandS.TupMul
import HandS.TupLe
import HandS.Deep
import HandS.Dict
import HandS.Flow
import HandS.MakeKwOnly
import HandS.Conv
import HandS.More
import KE.DatumOrd
import KE.SortData
import PySem.Challenge.RW_fourread_k38_whole_solutions_pass
set_option Elab.async false
set_option linter.all false
set_option maxRecDepth 100000
set_option maxHeartbeats 4000000
namespace Ty
open PySem PySem.Spec PyProof.Rows L2
def topS (i : Nat) : Stmt := PySem.Challenge.pw_fourread_k38_whole_solutions_pass.main.body.getD i (.Pass ⟨0, 0, 0, 0⟩)
abbrev s_is_integer : Stmt := topS 11
abbrev n_is_integer : List Str := ["value"]
theorem sc_is_integer : FnScope n_is_integer ["value"] (defScope s_is_integer) := ⟨rfl, rfl, rfl, by decide +kernel, rfl, by decide +kernel, by decide +kernel⟩
abbrev s_is_between : Stmt := topS 12
abbrev n_is_between : List Str := ["value", "low", "high"]
theorem sc_is_between : FnScope n_is_between ["value", "low", "high"] (defScope s_is_between) := ⟨rfl, rfl, rfl, by decide +kernel, rfl, by decide +kernel, by decide +kernel⟩
abbrev s_is_bit : Stmt := topS 13
abbrev n_is_bit : List Str := ["value"]
theorem sc_is_bit : FnScope n_is_bit ["value"] (defScope s_is_bit) := ⟨rfl, rfl, rfl, by decide +kernel, rfl, by decide +kernel, by decide +kernel⟩
abbrev s_is_bits : Stmt := topS 14
abbrev n_is_bits : List Str := ["value", "one"]
theorem sc_is_bits : FnScope n_is_bits ["value"] (defScope s_is_bits) := ⟨rfl, rfl, rfl, by decide +kernel, rfl, by decide +kernel, by decide +kernel⟩
abbrev s_is_some_word : Stmt := topS 15
abbrev n_is_some_word : List Str := ["value"]
theorem sc_is_some_word : FnScope n_is_some_word ["value"] (defScope s_is_some_word) := ⟨rfl, rfl, rfl, by decide +kernel, rfl, by decide +kernel, by decide +kernel⟩
abbrev s_is_word : Stmt := topS 16
abbrev n_is_word : List Str := ["value", "n"]
theorem sc_is_word : FnScope n_is_word ["value", "n"] (defScope s_is_word) := ⟨rfl, rfl, rfl, by decide +kernel, rfl, by decide +kernel, by decide +kernel⟩
abbrev s_bits_number : Stmt := topS 17
abbrev n_bits_number : List Str := ["bits", "number", "bit"]
theorem sc_bits_number : FnScope n_bits_number ["bits"] (defScope s_bits_number) := ⟨rfl, rfl, rfl, by decide +kernel, rfl, by decide +kernel, by decide +kernel⟩
abbrev s_check_words : Stmt := topS 18
abbrev n_check_words : List Str := ["one", "other"]
theorem sc_check_words : FnScope n_check_words ["one", "other"] (defScope s_check_words) := ⟨rfl, rfl, rfl, by decide +kernel, rfl, by decide +kernel, by decide +kernel⟩
abbrev s_sum_of : Stmt := topS 19
abbrev n_sum_of : List Str := ["one", "other", "first", "second"]
theorem sc_sum_of : FnScope n_sum_of ["one", "other"] (defScope s_sum_of) := ⟨rfl, rfl, rfl, by decide +kernel, rfl, by decide +kernel, by decide +kernel⟩
abbrev s_parity_of : Stmt := topS 20
abbrev n_parity_of : List Str := ["one", "other", "first", "second"]
theorem sc_parity_of : FnScope n_parity_of ["one", "other"] (defScope s_parity_of) := ⟨rfl, rfl, rfl, by decide +kernel, rfl, by decide +kernel, by decide +kernel⟩
abbrev s_added : Stmt := topS 21
abbrev n_added : List Str := ["one", "other"]
theorem sc_added : FnScope n_added ["one", "other"] (defScope s_added) := ⟨rfl, rfl, rfl, by decide +kernel, rfl, by decide +kernel, by decide +kernel⟩
abbrev s_product_of : Stmt := topS 22
abbrev n_product_of : List Str := ["one", "other"]
theorem sc_product_of : FnScope n_product_of ["one", "other"] (defScope s_product_of) := ⟨rfl, rfl, rfl, by decide +kernel, rfl, by decide +kernel, by decide +kernel⟩
abbrev s_number_of : Stmt := topS 23
abbrev n_number_of : List Str := ["word"]
theorem sc_number_of : FnScope n_number_of ["word"] (defScope s_number_of) := ⟨rfl, rfl, rfl, by decide +kernel, rfl, by decide +kernel, by decide +kernel⟩
abbrev s_zero_word : Stmt := topS 24
abbrev n_zero_word : List Str := ["n"]
theorem sc_zero_word : FnScope n_zero_word ["n"] (defScope s_zero_word) := ⟨rfl, rfl, rfl, by decide +kernel, rfl, by decide +kernel, by decide +kernel⟩
abbrev s_is_matrix : Stmt := topS 26
abbrev n_is_matrix : List Str := ["value", "n", "row"]
theorem sc_is_matrix : FnScope n_is_matrix ["value", "n"] (defScope s_is_matrix) := ⟨rfl, rfl, rfl, by decide +kernel, rfl, by decide +kernel, by decide +kernel⟩
abbrev s_is_some_matrix : Stmt := topS 27
abbrev n_is_some_matrix : List Str := ["value"]
theorem sc_is_some_matrix : FnScope n_is_some_matrix ["value"] (defScope s_is_some_matrix) := ⟨rfl, rfl, rfl, by decide +kernel, rfl, by decide +kernel, by decide +kernel⟩
abbrev s_square_from : Stmt := topS 29
abbrev n_square_from : List Str := ["one", "other", "zero", "bit"]
theorem sc_square_from : FnScope n_square_from ["one", "other"] (defScope s_square_from) := ⟨rfl, rfl, rfl, by decide +kernel, rfl, by decide +kernel, by decide +kernel⟩
abbrev s_square_of : Stmt := topS 30
abbrev n_square_of : List Str := ["one", "other"]
theorem sc_square_of : FnScope n_square_of ["one", "other"] (defScope s_square_of) := ⟨rfl, rfl, rfl, by decide +kernel, rfl, by decide +kernel, by decide +kernel⟩
abbrev s_check_squares : Stmt := topS 31
abbrev n_check_squares : List Str := ["one", "other"]
theorem sc_check_squares : FnScope n_check_squares ["one", "other"] (defScope s_check_squares) := ⟨rfl, rfl, rfl, by decide +kernel, rfl, by decide +kernel, by decide +kernel⟩
abbrev s_square_sum : Stmt := topS 32
abbrev n_square_sum : List Str := ["one", "other", "first", "second"]
theorem sc_square_sum : FnScope n_square_sum ["one", "other"] (defScope s_square_sum) := ⟨rfl, rfl, rfl, by decide +kernel, rfl, by decide +kernel, by decide +kernel⟩
abbrev s_square_parity : Stmt := topS 33
abbrev n_square_parity : List Str := ["one", "other", "first", "second"]
theorem sc_square_parity : FnScope n_square_parity ["one", "other"] (defScope s_square_parity) := ⟨rfl, rfl, rfl, by decide +kernel, rfl, by decide +kernel, by decide +kernel⟩
abbrev s_added_squares : Stmt := topS 34
abbrev n_added_squares : List Str := ["one", "other"]
theorem sc_added_squares : FnScope n_added_squares ["one", "other"] (defScope s_added_squares) := ⟨rfl, rfl, rfl, by decide +kernel, rfl, by decide +kernel, by decide +kernel⟩
abbrev s_square_product : Stmt := topS 35
abbrev n_square_product : List Str := ["one", "other"]
theorem sc_square_product : FnScope n_square_product ["one", "other"] (defScope s_square_product) := ⟨rfl, rfl, rfl, by decide +kernel, rfl, by decide +kernel, by decide +kernel⟩
abbrev s_is_square : Stmt := topS 37
abbrev n_is_square : List Str := ["value", "n", "row"]
theorem sc_is_square : FnScope n_is_square ["value", "n"] (defScope s_is_square) := ⟨rfl, rfl, rfl, by decide +kernel, rfl, by decide +kernel, by decide +kernel⟩
abbrev s_rows_together : Stmt := topS 38
abbrev n_rows_together : List Str := ["square", "row", "bit"]
theorem sc_rows_together : FnScope n_rows_together ["square"] (defScope s_rows_together) := ⟨rfl, rfl, rfl, by decide +kernel, rfl, by decide +kernel, by decide +kernel⟩
abbrev s__are_bits : Stmt := topS 39
abbrev n__are_bits : List Str := ["value", "many", "bit"]
theorem sc__are_bits : FnScope n__are_bits ["value", "many"] (defScope s__are_bits) := ⟨rfl, rfl, rfl, by decide +kernel, rfl, by decide +kernel, by decide +kernel⟩
abbrev s__first_fault : Stmt := topS 40
abbrev n__first_fault : List Str := ["values", "fits", "k", "value"]
theorem sc__first_fault : FnScope n__first_fault ["values", "fits"] (defScope s__first_fault) := ⟨rfl, rfl, rfl, by decide +kernel, rfl, by decide +kernel, by decide +kernel⟩
abbrev s_TablePaperd_initd : Stmt := inClass (topS 41) 0
abbrev n_TablePaperd_initd : List Str := ["self", "n", "f", "g"]
theorem sc_TablePaperd_initd : FnScope n_TablePaperd_initd ["self", "n", "f", "g"] (defScope s_TablePaperd_initd) := ⟨rfl, rfl, rfl, by decide +kernel, rfl, by decide +kernel, by decide +kernel⟩
abbrev s_TablePaper_letter_f : Stmt := inClass (topS 41) 2
abbrev n_TablePaper_letter_f : List Str := ["self", "word"]
theorem sc_TablePaper_letter_f : FnScope n_TablePaper_letter_f ["self", "word"] (defScope s_TablePaper_letter_f) := ⟨rfl, rfl, rfl, by decide +kernel, rfl, by decide +kernel, by decide +kernel⟩
abbrev s_TablePaper_letter_g : Stmt := inClass (topS 41) 3
abbrev n_TablePaper_letter_g : List Str := ["self", "square", "number", "bit"]
theorem sc_TablePaper_letter_g : FnScope n_TablePaper_letter_g ["self", "square"] (defScope s_TablePaper_letter_g) := ⟨rfl, rfl, rfl, by decide +kernel, rfl, by decide +kernel, by decide +kernel⟩
abbrev s_SumsPaperd_initd : Stmt := inClass (topS 42) 0
abbrev n_SumsPaperd_initd : List Str := ["self", "word", "square", "words", "squares", "n", "fault"]
theorem sc_SumsPaperd_initd : FnScope n_SumsPaperd_initd ["self", "word", "square", "words", "squares"] (defScope s_SumsPaperd_initd) := ⟨rfl, rfl, rfl, by decide +kernel, rfl, by decide +kernel, by decide +kernel⟩
abbrev s_SumsPaper_letter_f : Stmt := inClass (topS 42) 2
abbrev n_SumsPaper_letter_f : List Str := ["self", "word"]
theorem sc_SumsPaper_letter_f : FnScope n_SumsPaper_letter_f ["self", "word"] (defScope s_SumsPaper_letter_f) := ⟨rfl, rfl, rfl, by decide +kernel, rfl, by decide +kernel, by decide +kernel⟩
abbrev s_SumsPaper_letter_g : Stmt := inClass (topS 42) 3
abbrev n_SumsPaper_letter_g : List Str := ["self", "square"]
theorem sc_SumsPaper_letter_g : FnScope n_SumsPaper_letter_g ["self", "square"] (defScope s_SumsPaper_letter_g) := ⟨rfl, rfl, rfl, by decide +kernel, rfl, by decide +kernel, by decide +kernel⟩
abbrev s_paper_of : Stmt := topS 43
abbrev n_paper_of : List Str := ["word"]
theorem sc_paper_of : FnScope n_paper_of ["word"] (defScope s_paper_of) := ⟨rfl, rfl, rfl, by decide +kernel, rfl, by decide +kernel, by decide +kernel⟩
abbrev s_check_paper : Stmt := topS 45
abbrev n_check_paper : List Str := ["system", "paper"]
theorem sc_check_paper : FnScope n_check_paper ["system", "paper"] (defScope s_check_paper) := ⟨rfl, rfl, rfl, by decide +kernel, rfl, by decide +kernel, by decide +kernel⟩
abbrev s_tape_length : Stmt := topS 46
abbrev n_tape_length : List Str := ["system", "kind", "n"]
theorem sc_tape_length : FnScope n_tape_length ["system", "kind"] (defScope s_tape_length) := ⟨rfl, rfl, rfl, by decide +kernel, rfl, by decide +kernel, by decide +kernel⟩
abbrev s__square : Stmt := topS 47
abbrev n__square : List Str := ["bits", "n", "i"]
theorem sc__square : FnScope n__square ["bits", "n"] (defScope s__square) := ⟨rfl, rfl, rfl, by decide +kernel, rfl, by decide +kernel, by decide +kernel⟩
abbrev s__check_tape : Stmt := topS 48
abbrev n__check_tape : List Str := ["system", "kind", "tape", "length", "bit"]
theorem sc__check_tape : FnScope n__check_tape ["system", "kind", "tape"] (defScope s__check_tape) := ⟨rfl, rfl, rfl, by decide +kernel, rfl, by decide +kernel, by decide +kernel⟩
abbrev s__places_and_bit : Stmt := topS 49
abbrev n__places_and_bit : List Str := ["system", "kind", "tape", "n", "one", "other", "first", "second", "base", "shifted", "many", "drawn", "due"]
theorem sc__places_and_bit : FnScope n__places_and_bit ["system", "kind", "tape"] (defScope s__places_and_bit) := ⟨rfl, rfl, rfl, by decide +kernel, rfl, by decide +kernel, by decide +kernel⟩
abbrev s__letter : Stmt := topS 50
abbrev n__letter : List Str := ["paper", "place"]
theorem sc__letter : FnScope n__letter ["paper", "place"] (defScope s__letter) := ⟨rfl, rfl, rfl, by decide +kernel, rfl, by decide +kernel, by decide +kernel⟩
abbrev s_passes : Stmt := topS 51
abbrev n_passes : List Str := ["system", "paper", "kind", "tape", "places", "due", "letters", "place"]
theorem sc_passes : FnScope n_passes ["system", "paper", "kind", "tape"] (defScope s_passes) := ⟨rfl, rfl, rfl, by decide +kernel, rfl, by decide +kernel, by decide +kernel⟩
abbrev s_is_number_below : Stmt := topS 53
abbrev n_is_number_below : List Str := ["value", "limit"]
theorem sc_is_number_below : FnScope n_is_number_below ["value", "limit"] (defScope s_is_number_below) := ⟨rfl, rfl, rfl, by decide +kernel, rfl, by decide +kernel, by decide +kernel⟩
abbrev s_ascends : Stmt := topS 54
abbrev n_ascends : List Str := ["row", "k"]
theorem sc_ascends : FnScope n_ascends ["row"] (defScope s_ascends) := ⟨rfl, rfl, rfl, by decide +kernel, rfl, by decide +kernel, by decide +kernel⟩
abbrev s_is_pair : Stmt := topS 55
abbrev n_is_pair : List Str := ["value", "n"]
theorem sc_is_pair : FnScope n_is_pair ["value", "n"] (defScope s_is_pair) := ⟨rfl, rfl, rfl, by decide +kernel, rfl, by decide +kernel, by decide +kernel⟩
abbrev s_is_equation : Stmt := topS 56
abbrev n_is_equation : List Str := ["value", "n", "pairs", "singles", "right", "pair", "i"]
theorem sc_is_equation : FnScope n_is_equation ["value", "n"] (defScope s_is_equation) := ⟨rfl, rfl, rfl, by decide +kernel, rfl, by decide +kernel, by decide +kernel⟩
abbrev s_Systemd_initd : Stmt := inClass (topS 58) 0
abbrev n_Systemd_initd : List Str := ["self", "n", "equations", "k", "equation"]
theorem sc_Systemd_initd : FnScope n_Systemd_initd ["self", "n", "equations"] (defScope s_Systemd_initd) := ⟨rfl, rfl, rfl, by decide +kernel, rfl, by decide +kernel, by decide +kernel⟩
abbrev s_Systemd_lend : Stmt := inClass (topS 58) 1
abbrev n_Systemd_lend : List Str := ["self"]
theorem sc_Systemd_lend : FnScope n_Systemd_lend ["self"] (defScope s_Systemd_lend) := ⟨rfl, rfl, rfl, by decide +kernel, rfl, by decide +kernel, by decide +kernel⟩
abbrev s_System_drawn : Stmt := inClass (topS 58) 6
abbrev n_System_drawn : List Str := ["self", "chosen", "rows", "total", "bit", "pairs", "singles", "right", "i", "j", "k", "row"]
theorem sc_System_drawn : FnScope n_System_drawn ["self", "chosen"] (defScope s_System_drawn) := ⟨rfl, rfl, rfl, by decide +kernel, rfl, by decide +kernel, by decide +kernel⟩
abbrev s__law_mixed : Stmt := topS 60
abbrev n__law_mixed : List Str := ["_law_number_here", "_law_turn", "_law_first", "_law_second"]
theorem sc__law_mixed : FnScope n__law_mixed ["_law_number_here", "_law_turn"] (defScope s__law_mixed) := ⟨rfl, rfl, rfl, by decide +kernel, rfl, by decide +kernel, by decide +kernel⟩
abbrev s__law_tape : Stmt := topS 61
abbrev n__law_tape : List Str := ["_law_script"]
theorem sc__law_tape : FnScope n__law_tape ["_law_script"] (defScope s__law_tape) := ⟨rfl, rfl, rfl, by decide +kernel, rfl, by decide +kernel, by decide +kernel⟩
abbrev s__law_draw : Stmt := topS 62
abbrev n__law_draw : List Str := ["_law_tape_here", "_law_many", "_law_cell", "_law_digit"]
theorem sc__law_draw : FnScope n__law_draw ["_law_tape_here", "_law_many"] (defScope s__law_draw) := ⟨rfl, rfl, rfl, by decide +kernel, rfl, by decide +kernel, by decide +kernel⟩
abbrev s__law_pick : Stmt := topS 63
abbrev n__law_pick : List Str := ["_law_tape_here", "_law_row"]
theorem sc__law_pick : FnScope n__law_pick ["_law_tape_here", "_law_row"] (defScope s__law_pick) := ⟨rfl, rfl, rfl, by decide +kernel, rfl, by decide +kernel, by decide +kernel⟩
abbrev s__law_word : Stmt := topS 64
abbrev n__law_word : List Str := ["_law_tape_here", "_law_n", "_law_bits", "_law_k", "_law_number_here", "_law_at"]
theorem sc__law_word : FnScope n__law_word ["_law_tape_here", "_law_n"] (defScope s__law_word) := ⟨rfl, rfl, rfl, by decide +kernel, rfl, by decide +kernel, by decide +kernel⟩
abbrev s__law_left : Stmt := topS 65
abbrev n__law_left : List Str := ["_law_word_here", "_law_equation_here", "_law_total", "_law_i", "_law_j"]
theorem sc__law_left : FnScope n__law_left ["_law_word_here", "_law_equation_here"] (defScope s__law_left) := ⟨rfl, rfl, rfl, by decide +kernel, rfl, by decide +kernel, by decide +kernel⟩
abbrev s__law_equation : Stmt := topS 66
abbrev n__law_equation : List Str := ["_law_tape_here", "_law_n", "_law_word_here", "_law_pairs", "_law_i", "_law_j", "_law_singles", "_law_right"]
theorem sc__law_equation : FnScope n__law_equation ["_law_tape_here", "_law_n", "_law_word_here"] (defScope s__law_equation) := ⟨rfl, rfl, rfl, by decide +kernel, rfl, by decide +kernel, by decide +kernel⟩
abbrev s__law_equations : Stmt := topS 67
abbrev n__law_equations : List Str := ["_law_tape_here", "_law_n", "_law_many", "_law_word_here", "_law_k"]
theorem sc__law_equations : FnScope n__law_equations ["_law_tape_here", "_law_n", "_law_many", "_law_word_here"] (defScope s__law_equations) := ⟨rfl, rfl, rfl, by decide +kernel, rfl, by decide +kernel, by decide +kernel⟩
abbrev s__law_times_word : Stmt := topS 68
abbrev n__law_times_word : List Str := ["_law_one", "_law_other", "_law_k"]
theorem sc__law_times_word : FnScope n__law_times_word ["_law_one", "_law_other"] (defScope s__law_times_word) := ⟨rfl, rfl, rfl, by decide +kernel, rfl, by decide +kernel, by decide +kernel⟩
abbrev s__law_square_of : Stmt := topS 69
abbrev n__law_square_of : List Str := ["_law_one", "_law_other", "_law_a", "_law_b"]
theorem sc__law_square_of : FnScope n__law_square_of ["_law_one", "_law_other"] (defScope s__law_square_of) := ⟨rfl, rfl, rfl, by decide +kernel, rfl, by decide +kernel, by decide +kernel⟩
abbrev s__law_flat : Stmt := topS 70
abbrev n__law_flat : List Str := ["_law_square_here", "_law_bits", "_law_row"]
theorem sc__law_flat : FnScope n__law_flat ["_law_square_here"] (defScope s__law_flat) := ⟨rfl, rfl, rfl, by decide +kernel, rfl, by decide +kernel, by decide +kernel⟩
abbrev s__law_rows : Stmt := topS 71
abbrev n__law_rows : List Str := ["_law_bits", "_law_n", "_law_at"]
theorem sc__law_rows : FnScope n__law_rows ["_law_bits", "_law_n"] (defScope s__law_rows) := ⟨rfl, rfl, rfl, by decide +kernel, rfl, by decide +kernel, by decide +kernel⟩
abbrev s__law_square : Stmt := topS 72
abbrev n__law_square : List Str := ["_law_tape_here", "_law_n"]
theorem sc__law_square : FnScope n__law_square ["_law_tape_here", "_law_n"] (defScope s__law_square) := ⟨rfl, rfl, rfl, by decide +kernel, rfl, by decide +kernel, by decide +kernel⟩
abbrev s__law_near_square : Stmt := topS 73
abbrev n__law_near_square : List Str := ["_law_tape_here", "_law_word_here", "_law_n", "_law_bits", "_law_k", "_law_at"]
theorem sc__law_near_square : FnScope n__law_near_square ["_law_tape_here", "_law_word_here"] (defScope s__law_near_square) := ⟨rfl, rfl, rfl, by decide +kernel, rfl, by decide +kernel, by decide +kernel⟩
abbrev s__law_number : Stmt := topS 74
abbrev n__law_number : List Str := ["_law_bits", "_law_found", "_law_bit"]
theorem sc__law_number : FnScope n__law_number ["_law_bits"] (defScope s__law_number) := ⟨rfl, rfl, rfl, by decide +kernel, rfl, by decide +kernel, by decide +kernel⟩
abbrev s__law_letter : Stmt := topS 75
abbrev n__law_letter : List Str := ["_law_paper", "_law_place", "_law_kind", "_law_thing"]
theorem sc__law_letter : FnScope n__law_letter ["_law_paper", "_law_place"] (defScope s__law_letter) := ⟨rfl, rfl, rfl, by decide +kernel, rfl, by decide +kernel, by decide +kernel⟩
abbrev s__law_distinct : Stmt := topS 76
abbrev n__law_distinct : List Str := ["_law_rows_here", "_law_k"]
theorem sc__law_distinct : FnScope n__law_distinct ["_law_rows_here"] (defScope s__law_distinct) := ⟨rfl, rfl, rfl, by decide +kernel, rfl, by decide +kernel, by decide +kernel⟩
abbrev s__law_sums_paper : Stmt := topS 77
abbrev n__law_sums_paper : List Str := ["_law_tape_here", "_law_n", "_law_word_here", "_law_words", "_law_squares", "_law_square_here", "_law_k"]
theorem sc__law_sums_paper : FnScope n__law_sums_paper ["_law_tape_here", "_law_n", "_law_word_here"] (defScope s__law_sums_paper) := ⟨rfl, rfl, rfl, by decide +kernel, rfl, by decide +kernel, by decide +kernel⟩
abbrev s__law_table_paper : Stmt := topS 78
abbrev n__law_table_paper : List Str := ["_law_tape_here", "_law_n"]
theorem sc__law_table_paper : FnScope n__law_table_paper ["_law_tape_here", "_law_n"] (defScope s__law_table_paper) := ⟨rfl, rfl, rfl, by decide +kernel, rfl, by decide +kernel, by decide +kernel⟩
abbrev s__law_made : Stmt := topS 79
abbrev n__law_made : List Str := ["_law_paper"]
theorem sc__law_made : FnScope n__law_made ["_law_paper"] (defScope s__law_made) := ⟨rfl, rfl, rfl, by decide +kernel, rfl, by decide +kernel, by decide +kernel⟩
abbrev s__law_length : Stmt := topS 80
abbrev n__law_length : List Str := ["_law_n", "_law_many", "_law_kind"]
theorem sc__law_length : FnScope n__law_length ["_law_n", "_law_many", "_law_kind"] (defScope s__law_length) := ⟨rfl, rfl, rfl, by decide +kernel, rfl, by decide +kernel, by decide +kernel⟩
abbrev s__law_both : Stmt := topS 81
abbrev n__law_both : List Str := ["_law_one", "_law_other", "_law_k"]
theorem sc__law_both : FnScope n__law_both ["_law_one", "_law_other"] (defScope s__law_both) := ⟨rfl, rfl, rfl, by decide +kernel, rfl, by decide +kernel, by decide +kernel⟩
abbrev s__law_both_squares : Stmt := topS 82
abbrev n__law_both_squares : List Str := ["_law_one", "_law_other", "_law_k"]
theorem sc__law_both_squares : FnScope n__law_both_squares ["_law_one", "_law_other"] (defScope s__law_both_squares) := ⟨rfl, rfl, rfl, by decide +kernel, rfl, by decide +kernel, by decide +kernel⟩
abbrev s__law_drawn : Stmt := topS 83
abbrev n__law_drawn : List Str := ["_law_n", "_law_equations_here", "_law_chosen", "_law_rows_here", "_law_right", "_law_k", "_law_i", "_law_j", "_law_row"]
theorem sc__law_drawn : FnScope n__law_drawn ["_law_n", "_law_equations_here", "_law_chosen"] (defScope s__law_drawn) := ⟨rfl, rfl, rfl, by decide +kernel, rfl, by decide +kernel, by decide +kernel⟩
abbrev s__law_places : Stmt := topS 84
abbrev n__law_places : List Str := ["_law_n", "_law_equations_here", "_law_kind", "_law_bits", "_law_a", "_law_b", "_law_one", "_law_other", "_law_square_here", "_law_many"]
theorem sc__law_places : FnScope n__law_places ["_law_n", "_law_equations_here", "_law_kind", "_law_bits"] (defScope s__law_places) := ⟨rfl, rfl, rfl, by decide +kernel, rfl, by decide +kernel, by decide +kernel⟩
abbrev s__law_passes : Stmt := topS 85
abbrev n__law_passes : List Str := ["_law_n", "_law_equations_here", "_law_paper", "_law_kind", "_law_bits", "_law_letters", "_law_place"]
theorem sc__law_passes : FnScope n__law_passes ["_law_n", "_law_equations_here", "_law_paper", "_law_kind", "_law_bits"] (defScope s__law_passes) := ⟨rfl, rfl, rfl, by decide +kernel, rfl, by decide +kernel, by decide +kernel⟩
abbrev s__law_solved : Stmt := topS 86
abbrev n__law_solved : List Str := ["_law_tape_here", "_law_n", "_law_word_here", "_law_equations_here", "_law_one"]
theorem sc__law_solved : FnScope n__law_solved ["_law_tape_here", "_law_n", "_law_word_here"] (defScope s__law_solved) := ⟨rfl, rfl, rfl, by decide +kernel, rfl, by decide +kernel, by decide +kernel⟩
abbrev s__law_solution_passes : Stmt := topS 87
abbrev n__law_solution_passes : List Str := ["_law_tape_here", "_law_n", "_law_word_here", "_law_equations_here", "_law_system", "_law_paper", "_law_kind", "_law_at"]
theorem sc__law_solution_passes : FnScope n__law_solution_passes ["_law_tape_here", "_law_n"] (defScope s__law_solution_passes) := ⟨rfl, rfl, rfl, by decide +kernel, rfl, by decide +kernel, by decide +kernel⟩
abbrev s__law_other_letter : Stmt := topS 88
abbrev n__law_other_letter : List Str := ["_law_tape_here", "_law_paper", "_law_read", "_law_n", "_law_other", "_law_at", "_law_word_here", "_law_square_here", "_law_k", "_law_more", "_law_one"]
theorem sc__law_other_letter : FnScope n__law_other_letter ["_law_tape_here", "_law_paper", "_law_read"] (defScope s__law_other_letter) := ⟨rfl, rfl, rfl, by decide +kernel, rfl, by decide +kernel, by decide +kernel⟩
abbrev s__law_same_verdict : Stmt := topS 89
abbrev n__law_same_verdict : List Str := ["_law_tape_here", "_law_n", "_law_word_here", "_law_equations_here", "_law_system", "_law_papers", "_law_paper", "_law_kind", "_law_bits", "_law_due", "_law_other"]
theorem sc__law_same_verdict : FnScope n__law_same_verdict ["_law_tape_here", "_law_n"] (defScope s__law_same_verdict) := ⟨rfl, rfl, rfl, by decide +kernel, rfl, by decide +kernel, by decide +kernel⟩
abbrev s__law_told : Stmt := topS 90
abbrev n__law_told : List Str := ["_law_actual", "_law_due"]
theorem sc__law_told : FnScope n__law_told ["_law_actual", "_law_due"] (defScope s__law_told) := ⟨rfl, rfl, rfl, by decide +kernel, rfl, by decide +kernel, by decide +kernel⟩
abbrev s_law : Stmt := topS 91
abbrev n_law : List Str := ["_law_script", "_law_tape_here", "_law_n"]
theorem sc_law : FnScope n_law ["_law_script"] (defScope s_law) := ⟨rfl, rfl, rfl, by decide +kernel, rfl, by decide +kernel, by decide +kernel⟩
end Ty
/-! What the head is asked. -/
namespace Fin
open PySem PySem.Spec PyProof.Rows L2 Ty
abbrev R : PySem.W.OpenRow := PySem.W.OpenLaw.row PySem.Challenge.rw_fourread_k38_whole_solutions_pass
abbrev dd (p : Str × Option Str) (x q : Str) (s : Stmt) : He.DefD := ⟨p, x, q, defArgs s, defBody s, defScope s, [], []⟩
/-- a keyword default that is an object -/
def kwAt (p : Str × Option Str) (x : Str) (K : PySem.W.Frag) : Addr := match K.lookup (He.fAd K p) with
  | some ⟨_, _, .func fd, _⟩ => (match fd.kwdefaults with
    | .ref D => (match PySem.W.nsIn K D x with
      | some (some (.ref a)) => a
      | _ => 0)
    | _ => 0)
  | _ => 0
def fn0 : List He.DefD := [dd ("is_integer", none) "is_integer" "is_integer" s_is_integer, dd ("is_between", none) "is_between" "is_between" s_is_between, dd ("is_bit", none) "is_bit" "is_bit" s_is_bit, dd ("is_bits", none) "is_bits" "is_bits" s_is_bits, dd ("is_some_word", none) "is_some_word" "is_some_word" s_is_some_word, dd ("is_word", none) "is_word" "is_word" s_is_word, dd ("bits_number", none) "bits_number" "bits_number" s_bits_number, dd ("check_words", none) "check_words" "check_words" s_check_words, dd ("sum_of", none) "sum_of" "sum_of" s_sum_of, dd ("parity_of", none) "parity_of" "parity_of" s_parity_of, dd ("added", none) "added" "added" s_added, dd ("product_of", none) "product_of" "product_of" s_product_of, dd ("number_of", none) "number_of" "number_of" s_number_of, dd ("zero_word", none) "zero_word" "zero_word" s_zero_word, dd ("is_matrix", none) "is_matrix" "is_matrix" s_is_matrix, dd ("is_some_matrix", none) "is_some_matrix" "is_some_matrix" s_is_some_matrix, dd ("square_from", none) "square_from" "square_from" s_square_from, dd ("square_of", none) "square_of" "square_of" s_square_of, dd ("check_squares", none) "check_squares" "check_squares" s_check_squares, dd ("square_sum", none) "square_sum" "square_sum" s_square_sum, dd ("square_parity", none) "square_parity" "square_parity" s_square_parity, dd ("added_squares", none) "added_squares" "added_squares" s_added_squares, dd ("square_product", none) "square_product" "square_product" s_square_product, dd ("is_square", none) "is_square" "is_square" s_is_square, dd ("rows_together", none) "rows_together" "rows_together" s_rows_together, dd ("_are_bits", none) "_are_bits" "_are_bits" s__are_bits, dd ("_first_fault", none) "_first_fault" "_first_fault" s__first_fault, dd ("TablePaper", some "__init__") "__init__" "TablePaper.__init__" s_TablePaperd_initd, dd ("TablePaper", some "letter_f") "letter_f" "TablePaper.letter_f" s_TablePaper_letter_f, dd ("TablePaper", some "letter_g") "letter_g" "TablePaper.letter_g" s_TablePaper_letter_g]
def fn1 : List He.DefD := [⟨("SumsPaper", some "__init__"), "__init__", "SumsPaper.__init__", defArgs s_SumsPaperd_initd, defBody s_SumsPaperd_initd, defScope s_SumsPaperd_initd, [], [("words", .adr (kwAt ("SumsPaper", some "__init__") "words")), ("squares", .adr (kwAt ("SumsPaper", some "__init__") "squares"))]⟩, dd ("SumsPaper", some "letter_f") "letter_f" "SumsPaper.letter_f" s_SumsPaper_letter_f, dd ("SumsPaper", some "letter_g") "letter_g" "SumsPaper.letter_g" s_SumsPaper_letter_g, dd ("paper_of", none) "paper_of" "paper_of" s_paper_of, dd ("check_paper", none) "check_paper" "check_paper" s_check_paper, dd ("tape_length", none) "tape_length" "tape_length" s_tape_length, dd ("_square", none) "_square" "_square" s__square, dd ("_check_tape", none) "_check_tape" "_check_tape" s__check_tape, dd ("_places_and_bit", none) "_places_and_bit" "_places_and_bit" s__places_and_bit, dd ("_letter", none) "_letter" "_letter" s__letter, dd ("passes", none) "passes" "passes" s_passes, dd ("is_number_below", none) "is_number_below" "is_number_below" s_is_number_below, dd ("ascends", none) "ascends" "ascends" s_ascends, dd ("is_pair", none) "is_pair" "is_pair" s_is_pair, dd ("is_equation", none) "is_equation" "is_equation" s_is_equation, dd ("System", some "__init__") "__init__" "System.__init__" s_Systemd_initd, dd ("System", some "__len__") "__len__" "System.__len__" s_Systemd_lend, dd ("System", some "drawn") "drawn" "System.drawn" s_System_drawn, dd ("_law_mixed", none) "_law_mixed" "_law_mixed" s__law_mixed, dd ("_law_tape", none) "_law_tape" "_law_tape" s__law_tape, dd ("_law_draw", none) "_law_draw" "_law_draw" s__law_draw, dd ("_law_pick", none) "_law_pick" "_law_pick" s__law_pick, dd ("_law_word", none) "_law_word" "_law_word" s__law_word, dd ("_law_left", none) "_law_left" "_law_left" s__law_left, dd ("_law_equation", none) "_law_equation" "_law_equation" s__law_equation, dd ("_law_equations", none) "_law_equations" "_law_equations" s__law_equations, dd ("_law_times_word", none) "_law_times_word" "_law_times_word" s__law_times_word, dd ("_law_square_of", none) "_law_square_of" "_law_square_of" s__law_square_of, dd ("_law_flat", none) "_law_flat" "_law_flat" s__law_flat, dd ("_law_rows", none) "_law_rows" "_law_rows" s__law_rows]
def fn2 : List He.DefD := [dd ("_law_square", none) "_law_square" "_law_square" s__law_square, dd ("_law_near_square", none) "_law_near_square" "_law_near_square" s__law_near_square, dd ("_law_number", none) "_law_number" "_law_number" s__law_number, dd ("_law_letter", none) "_law_letter" "_law_letter" s__law_letter, dd ("_law_distinct", none) "_law_distinct" "_law_distinct" s__law_distinct, dd ("_law_sums_paper", none) "_law_sums_paper" "_law_sums_paper" s__law_sums_paper, dd ("_law_table_paper", none) "_law_table_paper" "_law_table_paper" s__law_table_paper, dd ("_law_made", none) "_law_made" "_law_made" s__law_made, dd ("_law_length", none) "_law_length" "_law_length" s__law_length, dd ("_law_both", none) "_law_both" "_law_both" s__law_both, dd ("_law_both_squares", none) "_law_both_squares" "_law_both_squares" s__law_both_squares, dd ("_law_drawn", none) "_law_drawn" "_law_drawn" s__law_drawn, dd ("_law_places", none) "_law_places" "_law_places" s__law_places, dd ("_law_passes", none) "_law_passes" "_law_passes" s__law_passes, dd ("_law_solved", none) "_law_solved" "_law_solved" s__law_solved, dd ("_law_solution_passes", none) "_law_solution_passes" "_law_solution_passes" s__law_solution_passes, dd ("_law_other_letter", none) "_law_other_letter" "_law_other_letter" s__law_other_letter, dd ("_law_same_verdict", none) "_law_same_verdict" "_law_same_verdict" s__law_same_verdict, dd ("_law_told", none) "_law_told" "_law_told" s__law_told, dd ("law", none) "law" "law" s_law]
def fn : List He.DefD := fn0 ++ (fn1 ++ (fn2))
def gt : List He.Defn := [("is_bits", none), ("sum_of", none), ("parity_of", none), ("is_matrix", none), ("square_from", none), ("square_sum", none), ("square_parity", none), ("is_square", none), ("_are_bits", none), ("ascends", none), ("is_equation", none), ("System", some "drawn")]
def it : He.Defn := ("SumsPaper", some "__init__")
def tf : List He.Defn := it :: gt
def fa0 : List He.Fa := [.free "isinstance", .free "len", .free "tuple", .free "list", .free "int", .free "bool", .free "all", .free "sum", .free "zip", .free "range", .free "enumerate", .free "sorted", .free "dict", .int "LONGEST" 12, .glo "TablePaper", .cls "TablePaper", .noat "TablePaper" "n", .noat "TablePaper" "f", .noat "TablePaper" "g", .mkr "TablePaper", .glo "SumsPaper", .cls "SumsPaper", .noat "SumsPaper" "n", .noat "SumsPaper" "word", .noat "SumsPaper" "square", .noat "SumsPaper" "words", .noat "SumsPaper" "squares", .mkr "SumsPaper", .glo "System", .cls "System"]
def fa1 : List He.Fa := [.noat "System" "n", .noat "System" "equations", .mkr "System", .glo "is_integer", .glo "is_between", .glo "is_bit", .glo "is_bits", .glo "is_some_word", .glo "is_word", .glo "bits_number", .glo "check_words", .glo "sum_of", .glo "parity_of", .glo "added", .glo "product_of", .glo "number_of", .glo "zero_word", .glo "is_matrix", .glo "is_some_matrix", .glo "square_from", .glo "square_of", .glo "check_squares", .glo "square_sum", .glo "square_parity", .glo "added_squares", .glo "square_product", .glo "is_square", .glo "rows_together", .glo "_are_bits", .glo "_first_fault"]
def fa2 : List He.Fa := [.meth "TablePaper" "letter_f", .meth "TablePaper" "letter_g", .meth "SumsPaper" "letter_f", .meth "SumsPaper" "letter_g", .glo "paper_of", .glo "check_paper", .glo "tape_length", .glo "_square", .glo "_check_tape", .glo "_places_and_bit", .glo "_letter", .glo "passes", .glo "is_number_below", .glo "ascends", .glo "is_pair", .glo "is_equation", .meth "System" "__len__", .meth "System" "drawn", .glo "_law_mixed", .glo "_law_tape", .glo "_law_draw", .glo "_law_pick", .glo "_law_word", .glo "_law_left", .glo "_law_equation", .glo "_law_equations", .glo "_law_times_word", .glo "_law_square_of", .glo "_law_flat", .glo "_law_rows"]
def fa3 : List He.Fa := [.glo "_law_square", .glo "_law_near_square", .glo "_law_number", .glo "_law_letter", .glo "_law_distinct", .glo "_law_sums_paper", .glo "_law_table_paper", .glo "_law_made", .glo "_law_length", .glo "_law_both", .glo "_law_both_squares", .glo "_law_drawn", .glo "_law_places", .glo "_law_passes", .glo "_law_solved", .glo "_law_solution_passes", .glo "_law_other_letter", .glo "_law_same_verdict", .glo "_law_told", .glo "law"]
def fa : List He.Fa := fa0 ++ (fa1 ++ (fa2 ++ (fa3)))
def eqB (a b : Option Bool) : Bool := match a, b with
  | some true, some true => true
  | some false, some false => true
  | _, _ => false
theorem eqB_ok {a b : Option Bool} (h : eqB a b = true) : a = b := by
  match a, b, h with
  | some true, some true, _ => rfl
  | some false, some false, _ => rfl
def ownB (K : PySem.W.Frag) (x : Str) : Bool := He.eqO (PySem.W.findIn K (.ref (He.ga K x)) "__class__") (some (some (.builtin "object.__class__"))) &&
  (He.eqO (PySem.W.specialIn K (.builtin "object.__class__") "__get__") (some (some (.builtin "getset_descriptor.__get__"))) &&
  (eqB (PySem.W.takesIn K (.builtin "object.__class__")) (some true) && eqB (PySem.W.mroIn K (He.ga K x) (.type "object")) (some true)))
def kitB (K : PySem.W.Frag) (x y : Str) (b : Bool) : Bool := eqB (PySem.W.kitOne K (.ref (He.ga K x)) (.ref (He.ga K y))) (some b)
def emB (K : PySem.W.Frag) (a : Addr) : Bool := match K.lookup a with
  | some ⟨.type c, _, .seq its _, _⟩ => decide (c = "tuple") && its.isEmpty
  | _ => false
def ex (K : PySem.W.Frag) : Bool := ownB K "TablePaper" && (ownB K "SumsPaper" && (ownB K "System" && (kitB K "TablePaper" "TablePaper" true && (kitB K "TablePaper" "SumsPaper" false && (kitB K "SumsPaper" "TablePaper" false && (kitB K "SumsPaper" "SumsPaper" true &&
  (emB K (kwAt it "words" K) && (emB K (kwAt it "squares" K) && gt.all fun p => !((He.cT K p).2 == (He.cT K it).2)))))))))

def loose0 : List Str := ["_wall", "ReadError", "InvalidNumber", "InvalidWord", "InvalidSquare", "InvalidSystem", "InvalidPaper", "InvalidTape", "LONGEST", "is_integer", "is_between", "is_bit", "is_bits", "is_some_word", "is_word", "bits_number", "check_words", "sum_of", "parity_of", "added", "product_of", "number_of", "zero_word", "is_matrix", "is_some_matrix", "square_from", "square_of", "check_squares", "square_sum", "square_parity"]
def loose1 : List Str := ["added_squares", "square_product", "is_square", "rows_together", "_are_bits", "_first_fault", "TablePaper", "SumsPaper", "paper_of", "check_paper", "tape_length", "_square", "_check_tape", "_places_and_bit", "_letter", "passes", "is_number_below", "ascends", "is_pair", "is_equation", "fits", "System", "_law_mixed", "_law_tape", "_law_draw", "_law_pick", "_law_word", "_law_left", "_law_equation", "_law_equations"]
def loose2 : List Str := ["_law_times_word", "_law_square_of", "_law_flat", "_law_rows", "_law_square", "_law_near_square", "_law_number", "_law_letter", "_law_distinct", "_law_sums_paper", "_law_table_paper", "_law_made", "_law_length", "_law_both", "_law_both_squares", "_law_drawn", "_law_places", "_law_passes", "_law_solved", "_law_solution_passes", "_law_other_letter", "_law_same_verdict", "_law_told"]
def loose : List Str := loose0 ++ (loose1 ++ (loose2))
end Fin
set_option maxHeartbeats 0
/-! The top, run in the kernel, once for each thing that is looked at (to spare memory); what is looked at: the whole heap. -/
namespace Fin
open PySem PySem.Spec PyProof.Rows L2 Ty
theorem says_all {w : World} {h : Heap} {as : List Addr} (e : (He.obsT fa fn [] (He.frT h.get? as), ex (He.frT h.get? as) && He.tabsB h.get? tf (He.frT h.get? as)) = He.valX fn [] w) : He.SaysX fa fn [] tf ex w h (He.frT h.get? as) := by
  obtain ⟨a, b⟩ := Prod.mk.inj e
  have b1 := (Bool.and_eq_true_iff.mp b).1
  have b2 : ∀ p ∈ tf, _ := List.all_eq_true.mp (Bool.and_eq_true_iff.mp b).2
  have tt : ∀ p ∈ tf, ∃ o, h.get? (He.cT (He.frT h.get? as) p).2 = some o ∧ He.emptyTab o = true := fun p hp => by
    have z := (Bool.and_eq_true_iff.mp (b2 p hp)).2
    generalize hq : h.get? (He.cT (He.frT h.get? as) p).2 = r at z
    cases r with
    | none => cases z
    | some o => exact ⟨o, rfl, z⟩
  refine ⟨a, b1, fun p hp => (Bool.and_eq_true_iff.mp (b2 p hp)).1, fun p hp => ?_, fun p hp => ?_⟩
  · obtain ⟨o, q, z⟩ := tt p hp
    exact He.frT_none q z
  · obtain ⟨o, q, z⟩ := tt p hp
    rw [q, He.emptyTab_eq z]
def obN (g : Addr → Option Obj) (n : Nat) : He.AlX := (He.obsT fa fn [] (He.frT g (List.range n)), ex (He.frT g (List.range n)) && He.tabsB g tf (He.frT g (List.range n)))
def hk : PySem.W.Hook where
  α := He.AlX
  obs := fun s => obN s.heap.get? s.heap.objs.size
  val := fun w => He.valX fn [] w
  says := fun w h => ∃ K : PySem.W.Frag, K.In h ∧ He.SaysX fa fn [] tf ex w h K
  of := fun _ _ e => ⟨_, He.frT_in, says_all e⟩
  keeps := fun _ _ _ ⟨K, i, c⟩ k => ⟨K, i.keeps k, ⟨c.t, c.more, c.hd, c.out, fun p hp => k _ _ (c.empty p hp)⟩⟩
def ob (s : PySem.W.SharedT) : hk.α := obN (HandSHeadRun.getT s) s.n
theorem ob_eq (s : PySem.W.SharedT) : ob s = hk.obs s.abs := by
  have e : HandSHeadRun.getT s = s.abs.heap.get? := funext (HandSHeadRun.getT_eq s)
  have e2 : s.abs.heap.objs.size = s.n := PySem.W.absHeap_size s.tree s.n s.life
  show obN (HandSHeadRun.getT s) s.n = obN s.abs.heap.get? s.abs.heap.objs.size
  rw [e, e2]
/-- the state behind the top -/
noncomputable abbrev E (w : World) (os : OsState) : Option PySem.W.SharedT := HandSHeadRun.endF (HandSHeadRun.stepQ (HandSHeadRun.denQ HandSHeadRun.tabQ) R.prog w) 20000 R.prog w os
abbrev KT (s : PySem.W.SharedT) : PySem.W.Frag := He.frT (HandSHeadRun.getT s) (List.range s.n)
noncomputable abbrev seen (s : PySem.W.SharedT) := HandSHeadRun.seenQ (PySem.W.view R.prog [91]) loose (importedModules R.prog.main.body) (fun s => PySem.W.xlAt (PySem.W.view R.prog [91]) [] s && PySem.W.recOk R.toRowW.records s) s.abs
theorem run01 (w : World) (os : OsState) : (E w os).map (fun s => (HandSHeadRun.looksF R.prog (PySem.W.boot_heap w.params) s.abs, seen s)) = some (true, PySem.W.openGood (PySem.W.view R.prog [91]) loose) := by kernel_rfl
theorem run2 (w : World) (os : OsState) : (E w os).map (fun s => fn.map fun d => He.fnW (KT s) d.at_) = some (fn.map He.DefD.val) := by kernel_rfl
theorem run37 (w : World) (os : OsState) : (E w os).map (fun s => (fa.all fun f => f.ok (KT s), ex (KT s) && He.tabsB (HandSHeadRun.getT s) tf (KT s))) = some (true, true) := by kernel_rfl
theorem run4 (w : World) (os : OsState) : (E w os).map (fun s => fn0.all fun d => d.ok (KT s)) = some true := by kernel_rfl
theorem run5 (w : World) (os : OsState) : (E w os).map (fun s => fn1.all fun d => d.ok (KT s)) = some true := by kernel_rfl
theorem run6 (w : World) (os : OsState) : (E w os).map (fun s => fn2.all fun d => d.ok (KT s)) = some true := by kernel_rfl
end Fin
set_option maxHeartbeats 400000
/-! The parts of the run, joined. -/
namespace Fin
open PySem PySem.Spec PyProof.Rows L2 Ty
theorem allG {S D : Type} {o : Option S} {l0 l1 l2 : List D} {p : S → D → Bool} (a : o.map (fun s => l0.all (p s)) = some true) (b : o.map (fun s => l1.all (p s)) = some true) (c : o.map (fun s => l2.all (p s)) = some true) :
    o.map (fun s => (l0 ++ (l1 ++ l2)).all (p s)) = some true := by
  cases o with
  | none => cases a
  | some s =>
    have a' : l0.all (p s) = true := Option.some.inj a
    have b' : l1.all (p s) = true := Option.some.inj b
    have c' : l2.all (p s) = true := Option.some.inj c
    show some ((l0 ++ (l1 ++ l2)).all (p s)) = some true
    rw [List.all_append, List.all_append, a', b', c']
    rfl
theorem joinG {S A B C : Type} {o : Option S} {lo : S → Bool} {se : S → A} {g : A} {fa fd : S → Bool} {fs : S → B} {vs : B} {e : S → Bool} {c : C}
    (r0 : o.map lo = some true) (r1 : o.map se = some g) (r2 : o.map fs = some vs) (r3 : o.map fa = some true) (r4 : o.map fd = some true) (r5 : o.map e = some true) :
    o.map (fun s => (lo s, se s, ((((fa s && fd s), fs s), c), e s))) = some (true, g, (((true, vs), c), true)) := by
  cases o with
  | none => cases r0
  | some s =>
    have a0 : lo s = true := Option.some.inj r0
    have a1 : se s = g := Option.some.inj r1
    have a2 : fs s = vs := Option.some.inj r2
    have a3 : fa s = true := Option.some.inj r3
    have a4 : fd s = true := Option.some.inj r4
    have a5 : e s = true := Option.some.inj r5
    show some (lo s, se s, ((((fa s && fd s), fs s), c), e s)) = some (true, g, (((true, vs), c), true))
    rw [a0, a1, a2, a3, a4, a5]
    rfl
theorem fst_of {S A B : Type} {o : Option S} {f : S → A} {g : S → B} {a : A} {b : B} (h : o.map (fun s => (f s, g s)) = some (a, b)) : o.map f = some a := by
  cases o with
  | none => cases h
  | some s =>
    have z : (f s, g s) = (a, b) := Option.some.inj h
    exact congrArg some (congrArg Prod.fst z)
theorem snd_of {S A B : Type} {o : Option S} {f : S → A} {g : S → B} {a : A} {b : B} (h : o.map (fun s => (f s, g s)) = some (a, b)) : o.map g = some b := by
  cases o with
  | none => cases h
  | some s =>
    have z : (f s, g s) = (a, b) := Option.some.inj h
    exact congrArg some (congrArg Prod.snd z)
noncomputable abbrev lk (w : World) (s : PySem.W.SharedT) : Bool := HandSHeadRun.looksF R.prog (PySem.W.boot_heap w.params) s.abs
noncomputable abbrev okA (s : PySem.W.SharedT) (d : He.DefD) : Bool := d.ok (KT s)
noncomputable abbrev okF (s : PySem.W.SharedT) : Bool := fa.all fun f => f.ok (KT s)
noncomputable abbrev okX (s : PySem.W.SharedT) : Bool := ex (KT s) && He.tabsB (HandSHeadRun.getT s) tf (KT s)
noncomputable abbrev fnS (s : PySem.W.SharedT) : List He.FnW := fn.map fun d => He.fnW (KT s) d.at_
noncomputable abbrev gd := PySem.W.openGood (PySem.W.view R.prog [91]) loose
theorem run0 (w : World) (os : OsState) : (E w os).map (lk w) = some true := fst_of (f := lk w) (g := seen) (a := true) (b := gd) (o := E w os) (run01 w os)
theorem run1 (w : World) (os : OsState) : (E w os).map seen = some gd := snd_of (f := lk w) (g := seen) (a := true) (b := gd) (o := E w os) (run01 w os)
theorem run3 (w : World) (os : OsState) : (E w os).map okF = some true := fst_of (f := okF) (g := okX) (a := true) (b := true) (o := E w os) (run37 w os)
theorem run7 (w : World) (os : OsState) : (E w os).map okX = some true := snd_of (f := okF) (g := okX) (a := true) (b := true) (o := E w os) (run37 w os)
theorem run8 (w : World) (os : OsState) : (E w os).map (fun s => (fn0 ++ (fn1 ++ fn2)).all (okA s)) = some true := @allG PySem.W.SharedT He.DefD (E w os) fn0 fn1 fn2 okA (run4 w os) (run5 w os) (run6 w os)
theorem run9 (w : World) (os : OsState) : (E w os).map (fun s => (lk w s, seen s, ((((okF s && ((fn0 ++ (fn1 ++ fn2)).all (okA s)), fnS s), ([] : List (Option (List (Option (Str × Int)))))), okX s)))) = some (true, gd, (((true, fn.map He.DefD.val), []), true)) :=
  joinG (o := E w os) (lo := lk w) (se := seen) (g := gd) (fa := okF) (fd := fun s => (fn0 ++ (fn1 ++ fn2)).all (okA s)) (fs := fnS) (vs := fn.map He.DefD.val) (e := okX) (c := []) (run0 w os) (run1 w os) (run2 w os) (run3 w os) (run8 w os) (run7 w os)
theorem ob_is (s : PySem.W.SharedT) : ob s = ((((okF s && ((fn0 ++ (fn1 ++ fn2)).all (okA s)), fnS s), ([] : List (Option (List (Option (Str × Int)))))), okX s)) := rfl
theorem val_is (w : World) : hk.val w = (((true, fn.map He.DefD.val), ([] : List (Option (List (Option (Str × Int)))))), true) := rfl
theorem run (w : World) : HandSHeadRun.RunEq R (PySem.W.view R.prog [91]) hk ob 20000 loose w := fun os => run9 w os
end Fin
set_option maxHeartbeats 4000000
/-! Generator expressions handed to all, sum, tuple: the run of the generator -/
namespace Ge
open PySem PySem.Spec PyProof.Rows L2 GenW

/-- the names of a generator expression's own scope -/
structure GeS (N : List Str) (sc scope : Scope) (own : List (Str × Nat)) : Prop where
  kind : scope.kind = .function
  co : scope.isCoroutine = false
  nocell : ∀ y ∈ scope.names, y.2 ≠ .cell
  dot : scope.names.lookup (".0" : Str) = some NameKind.local
  ix : ∀ p ∈ own, N[p.2]? = some p.1
  free : ∀ y ∈ scope.names, y.2 = .free → sc.names.lookup y.1 = some .cell ∨ sc.names.lookup y.1 = some .free
  own : ∀ y ∈ scope.names, y.2 = .local → y.1 ∈ own.map (·.1) ∨ y.1 ∉ N
def geSB (N : List Str) (sc scope : Scope) (own : List (Str × Nat)) : Bool :=
  decide (scope.kind = .function) && !scope.isCoroutine && scope.names.all (fun y => !decide (y.2 = .cell)) && decide (scope.names.lookup (".0" : Str) = some NameKind.local) &&
  own.all (fun p => decide (N[p.2]? = some p.1)) && scope.names.all (fun y => !decide (y.2 = .free) || decide (sc.names.lookup y.1 = some .cell) || decide (sc.names.lookup y.1 = some .free)) &&
  scope.names.all (fun y => !decide (y.2 = .local) || decide (y.1 ∈ own.map (·.1)) || !decide (y.1 ∈ N))
theorem geS_by {N : List Str} {sc scope : Scope} {own : List (Str × Nat)} (h : geSB N sc scope own = true) : GeS N sc scope own := by
  unfold geSB at h
  simp only [Bool.and_eq_true, Bool.or_eq_true, Bool.not_eq_true', decide_eq_true_eq, decide_eq_false_iff_not, List.all_eq_true] at h
  obtain ⟨⟨⟨⟨⟨⟨h1, h2⟩, h3⟩, h4⟩, h5⟩, h6⟩, h7⟩ := h
  refine ⟨h1, h2, h3, h4, h5, fun y hy e => ?_, fun y hy e => ?_⟩
  · rcases h6 y hy with (z | z) | z
    · exact absurd e z
    · exact .inl z
    · exact .inr z
  · rcases h7 y hy with (z | z) | z
    · exact absurd e z
    · exact .inl z
    · exact .inr z

/-- the context of the generator's frame: made at s -/
abbrev geCx (X : Cx) (A' : Around) (s : Shared) (H : Hp) (cenv : Env) (ex : List Addr) : Cx :=
  { X with A := A'.deeper cenv, s_0 := s, H_0 := H, env := cenv, outer := X.stack, stack := cenv :: X.stack, ex := ex, fn := fun _ => false, calm := true, pn := [], xe := fun _ _ => False }
abbrev gEnv (X : Cx) (scope : Scope) (C : Addr) (code : Value) : Env := genEnv scope (cloFrom X.env.cells scope.names []) C code builtinsNs X.env

theorem over_start {A : Around} {elt : Expr} {gens : List Comprehension} {scope : Scope} {pos : Pos} {it acc : Value} {env : Env} : A.over (.compStart (.GeneratorExp elt gens scope pos) 0 it acc env) [] = A.deeper env := by
  first
    | rfl
    | (obtain ⟨hd, d, fr, gs, u⟩ := A; simp [Around.over, Around.deeper, marksOver, frameCount, unitsOf, envsOf, guardsOf, pushEnvs, pushGuards, Code.envs, Code.env?, Code.isFrame, Code.guards, Code.isGuard, Code.weight, Code.frames, Code.isCreation, Code.isCaller, Code.cUnits])
theorem over_loop' {A : Around} {elt : Expr} {gens : List Comprehension} {scope : Scope} {pos : Pos} {it acc : Value} {env : Env} : A.over (.compLoop (.GeneratorExp elt gens scope pos) 0 it acc env) [] = A.deeper env := by
  first
    | rfl
    | (obtain ⟨hd, d, fr, gs, u⟩ := A; simp [Around.over, Around.deeper, marksOver, frameCount, unitsOf, envsOf, guardsOf, pushEnvs, pushGuards, Code.envs, Code.env?, Code.isFrame, Code.guards, Code.isGuard, Code.weight, Code.frames, Code.isCreation, Code.isCaller, Code.cUnits])

section
variable {X : Cx} {pins : List (Addr × Obj)} {σ : L2.St} {H : Hp} {s : Shared}
theorem GeS.has {N : List Str} {scope : Scope} {own : List (Str × Nat)} (ok : GeS N X.env.scope scope own) (I : X.Ok) : ∀ y ∈ scope.names, y.2 = .free → ∃ c, X.env.cells.lookup y.1 = some c := fun y hy e => by
  rcases ok.free y hy e with k | k
  · exact I.has _ (.inl k)
  · exact I.has _ (.inr k)

theorem ge_start {A' : Around} {scope : Scope} {own : List (Str × Nat)} {fp : List Addr} {code : Value} {pl : List (Addr × Obj)} {s6 : Shared} (I : Inv X pins σ H s) (ok : GeS X.N X.env.scope scope own) (hN : X.N.Nodup)
    (hfr : A'.frames = some X.stack) (hh : A'.handled = none) (hfp : ∀ b ∈ fp, FpOk X pins H b ∧ b < s.heap.objs.size) (hos : s6.os = s.os) (hb : AllBare s6.gens) (kp : ∀ b o, s.heap.get? b = some o → s6.heap.get? b = some o)
    (hns : ∃ m, s6.heap.Ns s.heap.objs.size m) (hpl : ∀ p ∈ pl, s6.heap.get? p.1 = some p.2 ∧ s.heap.objs.size < p.1 ∧ ∀ v, p.2.data ≠ .cell v) :
    Inv (geCx X A' s H (gEnv X scope s.heap.objs.size code) fp) pl (wipe σ (own.map (·.2))) H s6 := by
  have hfree := ok.has I.ok
  have cm : ∀ {y c}, (cloFrom X.env.cells scope.names []).lookup y = some c → X.env.cells.lookup y = some c ∧ c < s.heap.objs.size := fun {y c} e => by
    rcases cloFrom_mem (PySem.mem_of_lookup e) with hm | ⟨h1, h2⟩
    · cases hm
    · obtain ⟨c1, hc⟩ := hfree _ h1 rfl
      have hc : X.env.cells.lookup y = some c1 := hc
      have e2 : c = c1 := by rw [h2, hc] <;> rfl
      obtain ⟨w, z⟩ := I.cell _ _ hc
      rw [e2]
      exact ⟨hc, z.lt⟩
  have look : ∀ {y}, scope.names.lookup y = some .free → ∃ c, (cloFrom X.env.cells scope.names []).lookup y = some c := fun {y} hl => by
    have hy : (y, NameKind.free) ∈ scope.names := PySem.mem_of_lookup hl
    exact mem_lookup (cloFrom_has (cells := X.env.cells) (acc := []) hy)
  obtain ⟨m, hns⟩ := hns
  refine ⟨⟨I.ok.mod, ok.kind, I.ok.glob, rfl, Nat.le_refl _, fun y z c e1 e2 => I.ok.inj y z c (cm e1).1 (cm e2).1, fun y hy => ?_, fun y c z _ => ?_, fun _ => hh, Around.frames_deeper hfr, .inr ⟨rfl, rfl⟩, fun b hb => ⟨Nat.ne_of_lt (hfp b hb).2, fun y c e z => ?_⟩, I.bs, Nat.le_trans I.ok.bsz I.sz, fun b o e hb => ?_,
      fun b hb z => ?_, I.stack, I.stkFree⟩, hos, hb, Un.kept kp, ⟨m, hns, fun i y v e1 e2 e3 => ?_⟩, fun y c e => ?_, I.hok.fresh (Nat.le_refl _), fun y c e => I.freeC y c (cm e).1, fun p hp => ?_, I.hok.kept kp, by rw [wipe_length]; exact I.len⟩
  · have hy : scope.names.lookup y = some .cell ∨ scope.names.lookup y = some .free := hy
    rcases hy with hy | hy
    · exact absurd rfl (ok.nocell _ (PySem.mem_of_lookup hy))
    · exact look hy
  · cases (show false = true from z)
  · exact (hfp b hb).1.2.2.2.2.1 y c (cm e).1 z
  · rcases (hfp b hb).1.2.2.2.1 with z | z
    · exact I.ok.noex b o e z
    · exact absurd (Nat.lt_of_lt_of_le (Heap.lt_size e) (Nat.le_trans I.ok.bsz z)) (Nat.lt_irrefl _)
  · rcases List.mem_cons.mp (I.stkSub b z) with z | z
    · exact (hfp b hb).1.2.1 z
    · exact (hfp b hb).1.2.2.1 z
  · obtain ⟨e2, hne⟩ := wipe_some e2
    have e3 : scope.names.lookup y = some .local ∨ scope.names.lookup y = some .cell ∨ scope.names.lookup y = some .free := e3
    have e1 : X.N[i]? = some y := e1
    rcases e3 with e3 | e3 | e3
    · rcases ok.own _ (PySem.mem_of_lookup e3) rfl with q | q
      · obtain ⟨p, hp, hpy⟩ := List.mem_map.mp q
        have e4 := ok.ix p hp
        have hpy : p.1 = y := hpy
        rw [hpy] at e4
        exact absurd (List.mem_map.mpr ⟨p, hp, nodup_ix hN e4 e1⟩) hne
      · exact absurd (List.mem_of_getElem? e1) q
    · exact absurd rfl (ok.nocell _ (PySem.mem_of_lookup e3))
    · obtain ⟨c, hc⟩ := look e3
      obtain ⟨hc2, _⟩ := cm hc
      have kd := ok.free _ (PySem.mem_of_lookup e3) rfl
      have hvis : Vis X.env.scope y := kd.elim (fun k => .inr (.inl k)) (fun k => .inr (.inr k))
      obtain ⟨m0, hn0, hl0⟩ := I.loc
      obtain ⟨u, ru, q⟩ := hl0 i y v e1 e2 hvis
      refine ⟨u, ru, .inr ⟨.inr e3, c, hc, ?_⟩⟩
      rcases q with ⟨k, _⟩ | ⟨_, c', e', z⟩
      · have k : X.env.scope.names.lookup y = some .local := k
        rcases kd with k' | k' <;> rw [show X.env.scope.names.lookup y = _ from k'] at k <;> cases k
      · rw [hc2] at e'; cases e'
        exact z.keeps kp
  · obtain ⟨h1, _⟩ := cm e
    obtain ⟨w, z⟩ := I.cell y c h1
    exact ⟨w, z.keeps kp⟩
  · have hp : p ∈ pl := hp
    obtain ⟨q1, q2, q3⟩ := hpl p hp
    refine ⟨q1, I.hok.fresh (Nat.le_of_lt q2), Nat.ne_of_gt q2, fun z => ?_, q3⟩
    obtain ⟨_, o, ho, _⟩ := I.stack.mem z
    exact absurd (Nat.lt_trans (Heap.lt_size ho) q2) (Nat.lt_irrefl _)
end
end Ge
namespace Ge
open PySem PySem.Spec PyProof.Rows L2 GenW

/-- what the consumer may do while the generator sleeps: its own objects at Ss may change -/
structure Woke (Ss : List Addr) (s s' : Shared) : Prop where
  os : s'.os = s.os
  bare : AllBare s'.gens
  keep : ∀ b o, b ∉ Ss → s.heap.get? b = some o → s'.heap.get? b = some o
/-- the consumer's objects as they stand -/
def CpOk (Ss : List Addr) (cp : List (Addr × Obj)) (s : Shared) : Prop := cp.map (·.1) = Ss ∧ ∀ p ∈ cp, s.heap.get? p.1 = some p.2 ∧ ∀ v, p.2.data ≠ .cell v

section
variable {X : Cx} {σ : L2.St} {H : Hp} {s s' : Shared}
theorem woken {a : Addr} {go : Obj} {cp cp' more : List (Addr × Obj)} {Ss : List Addr} (I : Inv X ((a, go) :: cp ++ more) σ H s) (hpn : X.pn = []) (w : Woke Ss s s') (hcp : cp.map (·.1) = Ss) (c' : CpOk Ss cp' s')
    (hA : ∀ S ∈ Ss, X.s_0.heap.objs.size ≤ S ∧ S ≠ a) (hcell : ∀ x c, X.env.cells.lookup x = some c → c < X.s_0.heap.objs.size) : Inv X ((a, go) :: cp') σ H s' := by
  have pinS : ∀ S ∈ Ss, H S = none ∧ S ≠ X.env.locals ∧ S ∉ X.fs := fun S hS => by
    rw [← hcp] at hS
    obtain ⟨p, hp, e⟩ := List.mem_map.mp hS
    obtain ⟨_, h2, h3, h4, _⟩ := I.pin p (List.mem_append_right _ (List.mem_append_left _ (List.mem_cons_of_mem _ hp)))
    have e : p.1 = S := e
    rw [e] at h2 h3 h4
    exact ⟨h2, h3, h4⟩
  have I0 : Inv X [(a, go)] σ H s := I.pins_of fun p hp => I.pin p (by
    rw [List.mem_singleton.mp (show p ∈ [(a, go)] from hp)]
    exact List.mem_append_right _ (List.mem_append_left _ List.mem_cons_self))
  obtain ⟨hh, g, d, t, o⟩ := s'
  obtain ⟨w1, w2, w3⟩ := w
  have w1 : o = s.os := w1
  subst w1
  have nt : ∀ b u, H b = some u → b ∉ Ss := fun b u q hb => by
    rw [(pinS b hb).1] at q
    cases q
  have J : Inv X [(a, go)] σ H { s with heap := hh, gens := g, drawn := d, toks := t } := by
    refine I0.step (g' := g) (t' := t) (d' := d) (ch := Ss) (fun b hb => ⟨.inr (hA b hb).1, (pinS b hb).2.1, fun x c e z => ?_, fun p hp => ?_⟩)
      (fun b ob _ _ hc q _ => w3 b ob hc q) (fun b ob _ _ hc q _ => ⟨ob.slots, w3 b ob hc q⟩) (fun _ _ _ _ n => n) (fun b ob hc q => ⟨ob, w3 b ob hc q⟩)
      (fun _ _ q => q) (fun _ _ _ q => q) (fun b ps q => ⟨#[], by rw [q]; simp⟩) (fun m hm => ?_) (fun b u q => ?_) w2
    · have h1 := hcell x c e
      rw [z] at h1
      exact absurd (Nat.lt_of_lt_of_le h1 (hA b hb).1) (Nat.lt_irrefl _)
    · rw [hpn] at hp
      rw [List.mem_singleton.mp (show p ∈ [(a, go)] from hp)]
      exact Ne.symm (hA b hb).2
    · obtain ⟨ob, es, ep, ho, r⟩ := hm
      exact ⟨ob, es, ep, w3 _ ob (fun z => (pinS _ z).2.1 rfl) ho, r⟩
    · refine (I0.hok b u q).stay (fun c v hc y => w3 c v ?_ y) (fun _ y => y) fun _ _ y => y
      rcases hc with y | y
      · rw [y]; exact nt b u q
      · exact nt c _ y
  refine J.pins_of fun p hp => ?_
  rcases List.mem_cons.mp hp with hp | hp
  · exact J.pin p (List.mem_append_right _ (by rw [hp]; exact List.mem_singleton.mpr rfl))
  · have hS : p.1 ∈ Ss := by rw [← c'.1]; exact List.mem_map.mpr ⟨p, hp, rfl⟩
    obtain ⟨q1, q2⟩ := c'.2 p hp
    exact ⟨q1, (pinS _ hS).1, (pinS _ hS).2.1, (pinS _ hS).2.2, q2⟩
end

/-- an item is out -/
def geY (X : Cx) (a : Addr) (go : Obj) (Ss : List Addr) (CI : List V → Heap → Prop) (n : Nat) (W : List V → Hp → Prop) (Yw : List V → V → Hp → Prop) : Protocol := fun m s₀ v s1 kap =>
  ∃ ys x cp H' σ', m + 1 + ys.length = n ∧ RelV x v ∧ CpOk Ss cp s₀ ∧ CI ys s₀.heap ∧ CpOk Ss cp s1 ∧ Inv X ((a, go) :: cp) σ' H' s1 ∧ Yw ys x H' ∧
    ∀ s' cp', Woke Ss s1 s' → CpOk Ss cp' s' → CI (ys ++ [x]) s'.heap → W (ys ++ [x]) H' → kap (.send .none) s'
/-- all items are out -/
def geR (X : Cx) (a : Addr) (go : Obj) (Ss : List Addr) (CI : List V → Heap → Prop) (n : Nat) (N : List V → Hp → Prop) : GenEnd := fun m s₀ r s1 =>
  r = .ok .next ∧ m = 0 ∧ ∃ ys cp H' σ', ys.length = n ∧ CpOk Ss cp s₀ ∧ CI ys s₀.heap ∧ CpOk Ss cp s1 ∧ Inv X ((a, go) :: cp) σ' H' s1 ∧ N ys H'

/-- what each turn wants -/
def geTurn (J : It) (g : TG) (te : TE) (σ0 : L2.St) (vs : List Nat) (n : Nat) (W : List V → Hp → Prop) (Yw : List V → V → Hp → Prop) (N : List V → Hp → Prop) : Prop :=
  ∀ ys H, W ys H → (ys.length = n ∧ J.stop n H ∧ N ys H) ∨ (ys.length < n ∧ J.go ys.length H ∧ ∀ x H', J.yld ys.length H x H' → g x (wipe σ0 vs) H' fun σ2 H2 => wipe σ2 vs = wipe σ0 vs ∧ te σ2 H2 fun y H4 => Yw ys y H4)

theorem seg_ge {X : Cx} {σ0 : L2.St} {s3 : Shared} {H3 : Hp} {A' : Around} {elt tg iter : Expr} {scope : Scope} {pos : Pos} {vs : List Nat} {cenv : Env} {fp Ss : List Addr} {it a : Addr} {go : Obj} {J : It} {tn : Nat → Heap → Prop} {n : Nat} {g : TG} {te : TE}
    {W : List V → Hp → Prop} {Yw : List V → V → Hp → Prop} {N : List V → Hp → Prop} {CI : List V → Heap → Prop}
    (T : Turn X.prog X.w X.K tg J fp it tn) (pg : PG (geCx X A' s3 H3 cenv fp) tg g) (pe : PE (geCx X A' s3 H3 cenv fp) elt te) (hco : cenv.scope.isCoroutine = false)
    (hA : ∀ S ∈ Ss, s3.heap.objs.size ≤ S ∧ S ≠ a) (haf : ∀ b ∈ fp, b < s3.heap.objs.size) (ha : s3.heap.objs.size ≤ a) (hcell : ∀ x c, cenv.cells.lookup x = some c → c < s3.heap.objs.size)
    (turn : geTurn J g te σ0 vs n W Yw N) :
    ∀ (k : Nat) (ys : List V) (s₀ s : Shared) (cp : List (Addr × Obj)) (H : Hp), k + ys.length = n → CpOk Ss cp s₀ → CI ys s₀.heap → CpOk Ss cp s → Inv (geCx X A' s3 H3 cenv fp) ((a, go) :: cp) (wipe σ0 vs) H s → tn ys.length s.heap → (∀ b ∈ fp, H b = none) → W ys H →
      Seg (model X.prog X.w) A' (geR (geCx X A' s3 H3 cenv fp) a go Ss CI n N) (geY (geCx X A' s3 H3 cenv fp) a go Ss CI n W Yw) k s₀ (.compLoop (.GeneratorExp elt [⟨tg, iter, [], 0⟩] scope pos) 0 (.ref it) .none cenv)
        ((model X.prog X.w).den (.compLoop (.GeneratorExp elt [⟨tg, iter, [], 0⟩] scope pos) 0 (.ref it) .none cenv)) [] s := by
  have stat : ∀ {cp : List (Addr × Obj)} {σ' : L2.St} {H' : Hp} {s' : Shared}, CpOk Ss cp s' → Inv (geCx X A' s3 H3 cenv fp) ((a, go) :: cp) σ' H' s' → (∀ b ∈ fp, H' b = none) → ∀ b ∈ fp, FpOk (geCx X A' s3 H3 cenv fp) ((a, go) :: cp) H' b :=
    fun {cp σ' H' s'} c I' hn b hb => ⟨hn b hb, (I'.ok.exf b hb).1, I'.ok.exfs b hb, .inl hb, fun x c e => (I'.ok.exf b hb).2 x c e, fun p hp => by
      have hp : p ∈ (a, go) :: cp := hp
      rcases List.mem_cons.mp hp with hp | hp
      · rw [hp]; exact Ne.symm (Nat.ne_of_lt (Nat.lt_of_lt_of_le (haf b hb) ha))
      · exact Ne.symm (Nat.ne_of_lt (Nat.lt_of_lt_of_le (haf b hb) (hA p.1 (by rw [← c.1]; exact List.mem_map.mpr ⟨p, hp, rfl⟩)).1))⟩
  intro k
  induction k with
  | zero =>
    intro ys s₀ s cp H hk c0 ci c1 I st hn w
    rcases turn ys H w with ⟨hl, stop, hN⟩ | ⟨hl, _⟩
    · show Seg _ A' _ _ _ s₀ _ ((compTurn (.GeneratorExp elt [⟨tg, iter, [], 0⟩] scope pos) 0 (.ref it) .none cenv).onRaise (leaving cenv)) [] s
      rw [compTurn_gen, Sem.onRaise_eq_wrap]
      refine seg_bind_wrap (wpAny_standAt ?_)
      refine seg_bind_wrap ?_
      rw [over_loop']
      rw [hl] at st
      refine wpAny_mono (T.done (geCx X A' s3 H3 cenv fp) rfl rfl rfl rfl n ((a, go) :: cp) s _ H (fun _ _ => False) I (stat c1 I hn) st stop) (fun r s6 hr => ?_) fun _ _ z => z.elim
      obtain ⟨hr, I6⟩ := hr
      subst hr
      refine seg_end (.ok .next) ⟨rfl, rfl, ys, cp, H, _, hl, c0, ci, ⟨c1.1, fun p hp => ⟨(I6.pin p (List.mem_append_right _ (List.mem_cons_of_mem _ hp))).1, (c1.2 p hp).2⟩⟩, I6, hN⟩
    · omega
  | succ k ih =>
    intro ys s₀ s cp H hk c0 ci c1 I st hn w
    rcases turn ys H w with ⟨hl, _⟩ | ⟨hl, go', step⟩
    · omega
    show Seg _ A' _ _ _ s₀ _ ((compTurn (.GeneratorExp elt [⟨tg, iter, [], 0⟩] scope pos) 0 (.ref it) .none cenv).onRaise (leaving cenv)) [] s
    rw [compTurn_gen, Sem.onRaise_eq_wrap]
    refine seg_bind_wrap (wpAny_standAt ?_)
    refine seg_bind_wrap ?_
    rw [over_loop']
    refine wpAny_mono (T.item (geCx X A' s3 H3 cenv fp) rfl rfl rfl rfl ys.length ((a, go) :: cp) s _ H (fun _ _ => False) I (stat c1 I hn) st go') (fun r s5 hr => ?_) fun _ _ z => z.elim
    obtain ⟨u, hr, h5⟩ := hr
    subst hr
    refine seg_bind_wrap ?_
    rw [over_loop']
    refine wpAny_mono h5 (fun _ s7 hq => ?_) fun _ _ z => z.elim
    obtain ⟨x, H7, I7, r7, y7, st7, n7⟩ := hq
    have c7 : CpOk Ss cp s7 := ⟨c1.1, fun p hp => ⟨(I7.pin p (List.mem_append_right _ (List.mem_cons_of_mem _ hp))).1, (c1.2 p hp).2⟩⟩
    have I7' := I7.pinned (stat c7 I7 n7) (T.obj _ _ st7)
    refine seg_bind_wrap ?_
    rw [over_loop']
    refine wpAny_mono (pg.run _ s7 _ H7 x u _ I7' r7 (step x H7 y7)) (fun _ s8 hq => ?_) fun _ _ z => (show False from z).elim
    obtain ⟨σ8, H8, I8, hw8, q8⟩ := hq
    refine seg_bind_wrap ?_
    simp only [List.forIn_nil]
    refine wpAny_pure ?_
    simp only [if_true]
    have hy : ∀ v, yieldOut cenv v = yieldValue v := fun v => by simp only [yieldOut, hco, Bool.false_eq_true, if_false]
    simp only [hy]
    rw [Sem.bind_eq_wrap', Sem.bind_eq_wrap', Sem.wrap_wrap, Sem.wrap_wrap]
    refine seg_wrap ?_
    rw [over_loop']
    refine wpAny_mono (pe.run _ s8 σ8 H8 _ I8 q8) (fun y s9 hq => ?_) fun _ _ z => (show False from z).elim
    obtain ⟨z, H9, I9, r9, q9⟩ := hq
    have hl9 : (wipe σ0 vs).length = σ8.length := by rw [← hw8, wipe_length]
    have c9 : CpOk Ss cp s9 := ⟨c1.1, fun p hp => ⟨(I9.pin p (List.mem_append_right _ (List.mem_append_left _ (List.mem_cons_of_mem _ hp)))).1, (c1.2 p hp).2⟩⟩
    have I9w : Inv (geCx X A' s3 H3 cenv fp) ((a, go) :: cp ++ pinsAt fp s7.heap) (wipe σ0 vs) H9 s9 := I9.weak hl9 (fun j v e => by
      rw [← hw8] at e
      exact (wipe_some e).1)
    have pin9 : ∀ b ∈ fp, ∀ o, s7.heap.get? b = some o → s9.heap.get? b = some o ∧ H9 b = none := fun b hb o e =>
      let z := I9.pin (b, o) (List.mem_append_right _ (List.mem_append_right _ (mem_pinsAt hb e)))
      ⟨z.1, z.2.1⟩
    have st9 : tn (ys.length + 1) s9.heap := T.keep _ _ _ st7 fun b hb o e => (pin9 b hb o e).1
    have n9 : ∀ b ∈ fp, H9 b = none := fun b hb => by
      obtain ⟨o, e, _⟩ := T.obj _ _ st7 b hb
      exact (pin9 b hb o e).2
    refine seg_at (seg_yield rfl rfl rfl ⟨ys, z, cp, H9, _, by omega, r9, c0, ci, c9, I9w.unpinned, q9, fun s'' cp'' hw hc'' ci'' w' => ?_⟩)
    refine seg_again rfl (ih (ys ++ [z]) s'' s'' cp'' H9 (by rw [List.length_append, List.length_singleton]; omega) hc'' ci'' hc'' (woken I9w rfl hw c9.1 hc'' hA hcell) ?_ n9 w')
    rw [List.length_append, List.length_singleton]
    refine T.keep _ _ _ st9 fun b hb o e => hw.keep b o (fun hS => ?_) e
    exact absurd (Nat.lt_of_lt_of_le (haf b hb) (hA b hS).1) (Nat.lt_irrefl _)

theorem seg_ge_start {X : Cx} {σ0 : L2.St} {s3 : Shared} {H3 : Hp} {A' : Around} {elt tg iter : Expr} {scope : Scope} {pos : Pos} {vs : List Nat} {cenv : Env} {fp Ss : List Addr} {it a : Addr} {go : Obj} {J : It} {tn : Nat → Heap → Prop} {n : Nat} {g : TG} {te : TE}
    {W : List V → Hp → Prop} {Yw : List V → V → Hp → Prop} {N : List V → Hp → Prop} {CI : List V → Heap → Prop}
    (T : Turn X.prog X.w X.K tg J fp it tn) (pg : PG (geCx X A' s3 H3 cenv fp) tg g) (pe : PE (geCx X A' s3 H3 cenv fp) elt te) (hco : cenv.scope.isCoroutine = false)
    (hA : ∀ S ∈ Ss, s3.heap.objs.size ≤ S ∧ S ≠ a) (haf : ∀ b ∈ fp, b < s3.heap.objs.size) (ha : s3.heap.objs.size ≤ a) (hcell : ∀ x c, cenv.cells.lookup x = some c → c < s3.heap.objs.size)
    (turn : geTurn J g te σ0 vs n W Yw N) {s : Shared} {cp : List (Addr × Obj)} {H : Hp} (c1 : CpOk Ss cp s) (ci : CI [] s.heap) (I : Inv (geCx X A' s3 H3 cenv fp) ((a, go) :: cp) (wipe σ0 vs) H s) (st : tn 0 s.heap) (hn : ∀ b ∈ fp, H b = none) (w : W [] H) :
      Seg (model X.prog X.w) A' (geR (geCx X A' s3 H3 cenv fp) a go Ss CI n N) (geY (geCx X A' s3 H3 cenv fp) a go Ss CI n W Yw) n s (.compStart (.GeneratorExp elt [⟨tg, iter, [], 0⟩] scope pos) 0 (.ref it) .none cenv)
        ((model X.prog X.w).den (.compStart (.GeneratorExp elt [⟨tg, iter, [], 0⟩] scope pos) 0 (.ref it) .none cenv)) [] s := by
  have loop := seg_ge (iter := iter) (scope := scope) (pos := pos) T pg pe hco hA haf ha hcell turn n [] s s cp H (by simp) c1 ci c1 I st hn w
  show Seg _ A' _ _ _ s _ ((compStart (.GeneratorExp elt [⟨tg, iter, [], 0⟩] scope pos) 0 (.ref it) .none cenv).onRaise (leaving cenv)) [] s
  unfold compStart
  rw [Sem.onRaise_eq_wrap]
  show Seg _ A' _ _ _ s _ ((ask >>= _).wrap _ _ _ _) [] s
  refine seg_bind_wrap (wpAny_askSetting ?_)
  split
  · exact seg_again rfl loop
  · first
      | exact seg_bind_wrap (wpAny_rule (seg_bind_wrap (wpAny_standAt (seg_bind_wrap (T.self _ 0 s _ _ st (seg_again rfl loop))))))
      | (refine seg_bind_wrap (wpAny_rule ?_); show Seg _ A' _ _ _ s _ ((standAt iter.pos >>= _).wrap _ _ _ _) [] s; exact seg_bind_wrap (wpAny_standAt (seg_bind_wrap (T.self _ 0 s _ _ st (seg_again rfl loop)))))
end Ge
namespace Ge
open PySem PySem.Spec PyProof.Rows L2 GenW

section
variable {X : Cx} {pins : List (Addr × Obj)} {σ : L2.St} {H : Hp} {s : Shared}
/-- back in the def's context, whatever the consumer has done with its own objects -/
def Back (X : Cx) (pins : List (Addr × Obj)) (σ : L2.St) (Ss : List Addr) (s1 : Shared) (H' : Hp) : Prop := ∀ s', Woke Ss s1 s' → Inv X pins σ H' s'
def gY (X : Cx) (pins : List (Addr × Obj)) (σ : L2.St) (a : Addr) (go : Obj) (Ss : List Addr) (CI : List V → Heap → Prop) (n : Nat) (W : List V → Hp → Prop) (Yw : List V → V → Hp → Prop) : Protocol := fun m s₀ v s1 kap =>
  ∃ ys x cp H', m + 1 + ys.length = n ∧ RelV x v ∧ CpOk Ss cp s₀ ∧ CI ys s₀.heap ∧ CpOk Ss cp s1 ∧ s1.heap.get? a = some go ∧ AllBare s1.gens ∧ s1.heap.NoLimit ∧ HOk X.prog X.w H' s1.heap ∧ (∀ S ∈ Ss, H' S = none) ∧ Back X pins σ Ss s1 H' ∧ Yw ys x H' ∧
    ∀ s' cp', Woke Ss s1 s' → CpOk Ss cp' s' → CI (ys ++ [x]) s'.heap → W (ys ++ [x]) H' → kap (.send .none) s'
def gR (X : Cx) (pins : List (Addr × Obj)) (σ : L2.St) (a : Addr) (go : Obj) (Ss : List Addr) (CI : List V → Heap → Prop) (n : Nat) (N : List V → Hp → Prop) : GenEnd := fun m s₀ r s1 =>
  r = .ok .next ∧ m = 0 ∧ ∃ ys cp H', ys.length = n ∧ CpOk Ss cp s₀ ∧ CI ys s₀.heap ∧ CpOk Ss cp s1 ∧ s1.heap.get? a = some go ∧ AllBare s1.gens ∧ s1.heap.NoLimit ∧ HOk X.prog X.w H' s1.heap ∧ (∀ S ∈ Ss, H' S = none) ∧ Back X pins σ Ss s1 H' ∧ N ys H'

theorem back_of {A' : Around} {s3 s1 : Shared} {H3 H' : Hp} {cenv : Env} {fp Ss : List Addr} {a : Addr} {go : Obj} {cp : List (Addr × Obj)} {σ' : L2.St} (I3 : Inv X pins σ H3 s3) (hfp : ∀ b ∈ fp, FpOk X pins H3 b) (hcp : cp.map (·.1) = Ss) (hA : ∀ S ∈ Ss, s3.heap.objs.size ≤ S)
    (I1 : Inv (geCx X A' s3 H3 cenv fp) ((a, go) :: cp) σ' H' s1) : Back X pins σ Ss s1 H' := fun s' w => by
  have pinS : ∀ S ∈ Ss, H' S = none := fun S hS => by
    rw [← hcp] at hS
    obtain ⟨p, hp, e⟩ := List.mem_map.mp hS
    obtain ⟨_, h2, _⟩ := I1.pin p (List.mem_append_right _ (List.mem_cons_of_mem _ hp))
    have e : p.1 = S := e
    rw [e] at h2
    exact h2
  have u : Un (frs X.stack) fp H3 H' s3.heap s1.heap := I1.base
  have nS : ∀ b o, s3.heap.get? b = some o → b ∉ Ss := fun b o e hb => absurd (Nat.lt_of_lt_of_le (Heap.lt_size e) (hA b hb)) (Nat.lt_irrefl _)
  have hok : HOk X.prog X.w H' s'.heap := fun b o e => by
    have nb : ∀ c u, H' c = some u → c ∉ Ss := fun c u q hc => by
      rw [pinS c hc] at q
      cases q
    refine (I1.hok b o e).stay (fun c v hc q => w.keep c v ?_ q) (fun _ q => q) fun _ _ q => q
    rcases hc with z | z
    · rw [z]; exact nb b o e
    · exact nb c _ z
  refine I3.call' (ch := fp) (w.os.trans I1.os) ⟨fun b o q n hb hx => w.keep b o (nS b o q) (u.keep b o q n hb hx), fun b o q n hb hx => ?_, u.free, fun b o q hx => ?_, u.tups, u.frzs, u.tbls⟩ hok w.bare fun b hb => ⟨(hfp b hb).2.2.2.1, (hfp b hb).2.1, (hfp b hb).2.2.2.2.1, (hfp b hb).2.2.2.2.2⟩
  · obtain ⟨sl, e⟩ := u.slot b o q n hb hx
    exact ⟨sl, w.keep b _ (nS b o q) e⟩
  · obtain ⟨o', e⟩ := u.there b o q hx
    exact ⟨o', w.keep b _ (nS b o q) e⟩

/-- the object of the g-th generator -/
structure IsGo (go : Obj) (g : Nat) : Prop where
  ex : ∃ nm qn, go.cls = .type "generator" ∧ go.data = .fields #[.int g 0, nm, qn] ∧ go.slots = #[]
theorem IsGo.at {go : Obj} {g : Nat} {h : Heap} {a : Addr} (x : IsGo go g) (e : h.get? a = some go) : h.IsGen a g := by
  obtain ⟨nm, qn, h1, h2, h3⟩ := x.ex
  exact ⟨go, nm, qn, e, h1, h2, h3⟩

/-- the generator at a is made and has not begun -/
def GeReady (X : Cx) (pins : List (Addr × Obj)) (σ : L2.St) (k n : Nat) (W N : List V → Hp → Prop) (Yw : List V → V → Hp → Prop) (a : Addr) (s5 : Shared) : Prop :=
  ∃ (g : Nat) (c : Code) (go : Obj), s5.heap.get? a = some go ∧ IsGo go g ∧ s5.gens[g]? = some (.fresh c) ∧ s5.heap.NoLimit ∧ AllBare s5.gens ∧ a < s5.heap.objs.size ∧ X.A.frames = some X.stack ∧
    ∀ (A' : Around) (Ss : List Addr) (CI : List V → Heap → Prop) (cp : List (Addr × Obj)) (s6 : Shared), Room (k + 1) A' → A'.frames = some X.stack → (∀ S ∈ Ss, s5.heap.objs.size ≤ S) → s6.os = s5.os → AllBare s6.gens → (∀ b o, s5.heap.get? b = some o → s6.heap.get? b = some o) → CpOk Ss cp s6 → CI [] s6.heap →
      Seg (model X.prog X.w) A' (gR X pins σ a go Ss CI n N) (gY X pins σ a go Ss CI n W Yw) n s6 c ((model X.prog X.w).den c) [] s6

/-- what a generator expression wants: R of the turns, of what holds between them, behind them, and of an item -/
def tGe (P : Addr) (wi : TI) (g : TG) (te : TE) (vs : List Nat) : L2.St → Hp → (Nat → (List V → Hp → Prop) → (List V → Hp → Prop) → (List V → V → Hp → Prop) → Prop) → Prop := fun σ H R =>
  wi σ H fun J H1 => GxR.TabG H1 P ∧ ∀ H2, GxR.Tabbed P H1 H2 → ∃ n W N Yw, geTurn J g te σ vs n W Yw N ∧ W [] H2 ∧ R n W N Yw

theorem ge_make {c P : Addr} {elt tg iter : Expr} {scope : Scope} {own : List (Str × Nat)} {gpos : Pos} {wi : TI} {g : TG} {te : TE} {k : Nat} {Q' : Value → Shared → Prop} {R : Nat → (List V → Hp → Prop) → (List V → Hp → Prop) → (List V → V → Hp → Prop) → Prop}
    (hr : Room (k + 2) X.A) (TB : LamX.TabB X.base X.mg c P) (hcode : X.env.code = .ref c) (ok : GeS X.N X.env.scope scope own) (hN : X.N.Nodup) (hi : PI X tg iter wi)
    (hg : ∀ (A' : Around) (s : Shared) (H : Hp) (C : Addr) (code : Value) (fp : List Addr), PG (geCx X A' s H (gEnv X scope C code) fp) tg g)
    (he : ∀ (A' : Around) (s : Shared) (H : Hp) (C : Addr) (code : Value) (fp : List Addr), Room k (A'.deeper (gEnv X scope C code)) → PE (geCx X A' s H (gEnv X scope C code) fp) elt te)
    (hs : ∀ v, genFold iter X.env v = pure v) (I : Inv X pins σ H s) (h : tGe P wi g te (own.map (·.2)) σ H R)
    (hQ : ∀ n W N Yw a s5, R n W N Yw → GeReady X pins σ k n W N Yw a s5 → Q' (.ref a) s5) :
    wpAny (model X.prog X.w) X.A (eval (.GeneratorExp elt [⟨tg, iter, [], 0⟩] scope gpos) X.env) Q' X.xe s := by
  refine wpAny_GeneratorExp_make ok.co (closure_ok (ok.has I.ok)) ok.nocell ok.dot ok.kind (by have := hr.dp; omega) ?_ hs
  refine thn (hi.run pins s σ H _ I h) fun xv s1 h1 => thn h1 fun itv s2 h2 => ?_
  obtain ⟨it, fp, tn, J, H2, rfl, I2, T, st2, f2, ⟨ps, hP, ht⟩, q2⟩ := h2
  refine ⟨I2.nolimit, ?_⟩
  have hPs : s2.heap.get? P = some { cls := .none, data := .fields ps } := I2.hok P _ hP
  have hPlt : P < s2.heap.objs.size := Heap.lt_size hPs
  have cd : PySem.W.CodeHd s2.heap c P := TB.code.keeps I2.bk
  have fpP : ∀ b ∈ fp, b ≠ P := fun b hb z => by
    have q := (f2 b hb).1
    rw [z, hP] at q
    cases q
  -- the state with the table as it is from now on
  have cont : ∀ (code : Value) (h3 : Heap) (tk : Nat) (more : Array Value), Heap.ExtBut P s2.heap h3 → h3.get? P = some { cls := .none, data := .fields (ps ++ more) } → TriplesOk (ps ++ more).toList →
      wpAny (model X.prog X.w) X.A (builtinsFor X.env.globals X.env.builtins) (fun bi s₄ => ∀ h', h'.Ns s₄.heap.objs.size (fun y => if y = ".0" then some (.ref it) else none) → Heap.SameBut s₄.heap.objs.size (s₄.heap.push { cls := .type "frame", data := .dict #[] }) h' →
        Q' (.ref h'.objs.size) { s₄ with
            gens := s₄.gens.push (.fresh (.compStart (.GeneratorExp elt [⟨tg, iter, [], 0⟩] scope gpos) 0 (.ref it) .none (genEnv scope (cloFrom X.env.cells scope.names []) s₄.heap.objs.size code bi X.env))),
            toks := s₄.toks + 1 + 1 + 1,
            heap := h'.push { cls := .type "generator", data := .fields #[.int s₄.gens.size 0, .str "<genexpr>" (s₄.toks + 1), .str (X.env.qual ++ "<genexpr>") (s₄.toks + 1 + 1)] } }) X.xe { s2 with heap := h3, toks := tk } := by
    intro code h3 tk more hx hP3 ht3
    obtain ⟨bm, ob, e1, e2, e3, e4, e5, e6, e7, e8⟩ := TB.bm
    have I3 := GxR.inv_tab (h' := h3) (g' := s2.gens) (d' := s2.drawn) (t' := tk) (more := more) I2 hP (fun b o hb e => hx b o hb e) hP3 I2.bare
    generalize hs3 : ({ s2 with heap := h3, toks := tk } : Shared) = s3
    have I3 : Inv X pins σ (upd H2 P (.tbl (ps ++ more))) s3 := by rw [← hs3]; exact I3
    have h3e : s3.heap = h3 := by rw [← hs3]
    have g3e : AllBare s3.gens := by rw [← hs3]; exact I2.bare
    have nl3 : s3.heap.NoLimit := I3.nolimit
    refine wpAny_builtinsFor (m := X.mg) (by rw [I3.ok.glob, h3e]; exact (I2.mod.glob.keeps I2.bk).extBut hx TB.gP) e1 e2 (by rw [h3e]; exact hx _ _ e4 (I2.bk _ _ e5)) e6 e7 e8 ?_
    intro h' hns hsb
    obtain ⟨n, W, N, Yw, turn, w0, hR⟩ := q2 (upd H2 P (.tbl (ps ++ more))) ⟨⟨_, upd_same, ht3⟩, fun b hb => upd_ne hb⟩
    generalize hgo : ({ cls := .type "generator", data := .fields #[.int s3.gens.size 0, .str "<genexpr>" (s3.toks + 1), .str (X.env.qual ++ "<genexpr>") (s3.toks + 1 + 1)] } : Obj) = go
    have isgo : IsGo go s3.gens.size := ⟨_, _, by rw [← hgo], by rw [← hgo], by rw [← hgo]⟩
    have sz' : h'.objs.size = s3.heap.objs.size + 1 := by rw [hsb.1, Heap.size_push]
    have keep' : ∀ b o, s3.heap.get? b = some o → (h'.push go).get? b = some o := fun b o e => Heap.get?_push_of_some _ (hsb.extBut b o (Nat.ne_of_lt (Heap.lt_size e)) (Heap.get?_push_of_some _ e))
    have hgoa : (h'.push go).get? h'.objs.size = some go := by
      rw [← hgo]
      exact Heap.get?_push_size _ rfl
    have nfp : ∀ b ∈ fp, upd H2 P (.tbl (ps ++ more)) b = none := fun b hb => by
      rw [upd_ne (fpP b hb)]
      exact (f2 b hb).1
    have f3 : ∀ b ∈ fp, FpOk X pins (upd H2 P (.tbl (ps ++ more))) b := fun b hb => ⟨nfp b hb, (f2 b hb).2⟩
    have sz2 : ∀ b ∈ fp, b < s3.heap.objs.size := fun b hb => by
      obtain ⟨o, e, _⟩ := T.obj _ _ st2 b hb
      rw [h3e]
      exact Heap.lt_size (hx b o (fpP b hb) e)
    have st3 : tn 0 s3.heap := T.keep _ _ _ st2 fun b hb o e => by
      rw [h3e]
      exact hx b o (fpP b hb) e
    have hcell : ∀ x c, (gEnv X scope s3.heap.objs.size code).cells.lookup x = some c → c < s3.heap.objs.size := fun x c e => by
      have e : (cloFrom X.env.cells scope.names []).lookup x = some c := e
      rcases cloFrom_mem (PySem.mem_of_lookup e) with hm | ⟨h1, h2⟩
      · cases hm
      · obtain ⟨c1, hc⟩ := (ok.has I3.ok) _ h1 rfl
        have hc : X.env.cells.lookup x = some c1 := hc
        have e2 : c = c1 := by rw [h2, hc] <;> rfl
        obtain ⟨w, z⟩ := I3.cell _ _ hc
        rw [e2]
        exact z.lt
    refine hQ n W N Yw _ _ hR ⟨s3.gens.size, _, go, hgoa, isgo, Array.getElem?_push_size .., nl3.keeps keep', g3e.push rfl, by show _ < (h'.push go).objs.size; rw [Heap.size_push]; exact Nat.lt_succ_self _, I.ok.frames, ?_⟩
    intro A' Ss CI cp s6 hrA hfrA hSs hos6 hb6 hk6 hcp6 hci6
    have sz5 : (h'.push go).objs.size = s3.heap.objs.size + 2 := by rw [Heap.size_push, sz']
    have hSs' : ∀ S ∈ Ss, s3.heap.objs.size + 2 ≤ S := fun S hS => by
      rw [← sz5]
      exact hSs S hS
    have hA : ∀ S ∈ Ss, s3.heap.objs.size ≤ S ∧ S ≠ h'.objs.size := fun S hS => by
      have := hSs' S hS
      rw [sz']
      exact ⟨Nat.le_trans (Nat.le_add_right _ 2) this, fun z => by
        rw [z] at this
        exact absurd this (by intro q; exact absurd (Nat.le_of_add_le_add_left q) (by decide))⟩
    have kp6 : ∀ b o, s3.heap.get? b = some o → s6.heap.get? b = some o := fun b o e => hk6 b o (keep' b o e)
    have Ig : Inv (geCx X A' s3 (upd H2 P (.tbl (ps ++ more))) (gEnv X scope s3.heap.objs.size code) fp) ((h'.objs.size, go) :: cp) (wipe σ (own.map (·.2))) (upd H2 P (.tbl (ps ++ more))) s6 := by
      refine ge_start I3 ok hN hfrA hrA.hd (fun b hb => ⟨f3 b hb, sz2 b hb⟩) hos6 hb6 kp6 ⟨_, hns.keeps fun b o e => hk6 b o (Heap.get?_push_of_some _ e)⟩ fun p hp => ?_
      rcases List.mem_cons.mp hp with hp | hp
      · rw [hp]
        refine ⟨hk6 _ _ hgoa, ?_, fun v q => ?_⟩
        · show s3.heap.objs.size < h'.objs.size
          rw [sz']
          exact Nat.lt_succ_self _
        · obtain ⟨_, _, _, d, _⟩ := isgo.ex
          have q : go.data = Data.cell v := q
          rw [d] at q
          cases q
      · obtain ⟨z1, z2⟩ := hcp6.2 p hp
        exact ⟨z1, Nat.lt_of_lt_of_le (Nat.lt_add_of_pos_right (by decide)) (hSs' p.1 (by rw [← hcp6.1]; exact List.mem_map.mpr ⟨p, hp, rfl⟩)), z2⟩
    have st6 : tn 0 s6.heap := T.keep _ _ _ st3 fun b hb o e => kp6 b o e
    have ha : s3.heap.objs.size ≤ h'.objs.size := by rw [sz']; exact Nat.le_succ _
    have seg := seg_ge_start (iter := iter) (scope := scope) (pos := gpos) (cenv := gEnv X scope s3.heap.objs.size code) T (hg A' s3 _ _ code fp) (he A' s3 _ _ code fp (hrA.deeper _)) ok.co hA sz2 ha hcell turn hcp6 hci6 Ig st6 nfp w0
    refine seg_imp (fun m s₀ r s1 hR => ?_) (fun m s₀ v s1 kap kap' hkk hY => ?_) n seg
    · obtain ⟨h1, h2, ys, cp1, H', σ', h3, c0, ci, c1, I1, hN1⟩ := hR
      refine ⟨h1, h2, ys, cp1, H', h3, c0, ci, c1, (I1.pin (h'.objs.size, go) (List.mem_append_right _ List.mem_cons_self)).1, I1.bare, I1.nolimit, I1.hok, fun S hS => ?_, back_of I3 f3 c1.1 (fun S hS => (hA S hS).1) I1, hN1⟩
      rw [← c1.1] at hS
      obtain ⟨p, hp, e⟩ := List.mem_map.mp hS
      have e : p.1 = S := e
      rw [← e]
      exact (I1.pin p (List.mem_append_right _ (List.mem_cons_of_mem _ hp))).2.1
    · obtain ⟨ys, x, cp1, H', σ', h1, rx, c0, ci, c1, I1, hy, hk⟩ := hY
      refine ⟨ys, x, cp1, H', h1, rx, c0, ci, c1, (I1.pin (h'.objs.size, go) (List.mem_append_right _ List.mem_cons_self)).1, I1.bare, I1.nolimit, I1.hok, fun S hS => ?_, back_of I3 f3 c1.1 (fun S hS => (hA S hS).1) I1, hy, fun s' cp' w1 w2 w3 w4 => hkk _ _ (hk s' cp' w1 w2 w3 w4)⟩
      rw [← c1.1] at hS
      obtain ⟨p, hp, e⟩ := List.mem_map.mp hS
      have e : p.1 = S := e
      rw [← e]
      exact (I1.pin p (List.mem_append_right _ (List.mem_cons_of_mem _ hp))).2.1
  cases hf : codeAmong gpos ps.toList with
  | none =>
    refine wpAny_genexprCodeX hcode (cd.code hPs ht) (cd.tab hPs) hf fun c' h' tk hx hge hlt hco' _ htab' _ => ?_
    obtain ⟨o1, vs, f1, tf, fl, tg', inF, tx, tt, op, _, _, _, _, _, _, _, _, _, htr, _⟩ := hco'
    exact cont _ h' tk _ hx htab'.2 htr
  | some cv =>
    refine wpAny_genexprCode_hit hcode (cd.code hPs ht) hf ?_
    exact cont cv s2.heap s2.toks #[] (Heap.ExtBut.refl _ _) (by simpa using hPs) (by simpa using ht)
end
end Ge
namespace Ge
open PySem PySem.Spec PyProof.Rows L2 GenW

theorem cp0 {s : Shared} : CpOk [] [] s := ⟨rfl, fun p hp => absurd hp (by simp)⟩
theorem woke_setGen {Ss : List Addr} {s : Shared} {g : Nat} {x : GenState} (hb : AllBare s.gens) (hx : x.bare = true) : Woke Ss s (s.setGen g x) := ⟨rfl, allBare_setGen hb hx, fun _ _ _ e => e⟩
theorem Woke.trans {Ss : List Addr} {s s1 s2 : Shared} (a : Woke Ss s s1) (b : Woke Ss s1 s2) : Woke Ss s s2 := ⟨b.os.trans a.os, b.bare, fun x o hx e => b.keep x o hx (a.keep x o hx e)⟩
theorem Woke.gen {Ss : List Addr} {s s1 : Shared} {g : Nat} {x : GenState} (a : Woke Ss s s1) (hx : x.bare = true) : Woke Ss s (s1.setGen g x) := a.trans (woke_setGen a.bare hx)

section
variable {X : Cx} {pins : List (Addr × Obj)} {σ : L2.St} {n k : Nat} {W N : List V → Hp → Prop} {Yw : List V → V → Hp → Prop} {a : Addr} {g : Nat} {go : Obj}

/-- the generator stands at s: awake from here it goes on -/
def GeAt (X : Cx) (pins : List (Addr × Obj)) (σ : L2.St) (n : Nat) (W N : List V → Hp → Prop) (Yw : List V → V → Hp → Prop) (A : Around) (a : Addr) (g : Nat) (go : Obj) (Ss : List Addr) (CI : List V → Heap → Prop) (m : Nat) (s : Shared) : Prop :=
  s.heap.get? a = some go ∧ s.heap.NoLimit ∧ AllBare s.gens ∧ ∃ gs, s.gens[g]? = some gs ∧ gs.Goes (model X.prog X.w) A (gR X pins σ a go Ss CI n N) (gY X pins σ a go Ss CI n W Yw) m (.send .none) (s.setGen g .running)

/-- one turn -/
theorem ge_next {A : Around} {Ss : List Addr} {CI : List V → Heap → Prop} {m : Nat} {s : Shared} {Q : Option Value → Shared → Prop} {E : Value → Shared → Prop} (isgo : IsGo go g) (hh : A.handled = none) (hd : A.depth < recursionLimit) (ha : a ∉ Ss) (hc : cStatics ∉ Ss)
    (h : GeAt X pins σ n W N Yw A.in1 a g go Ss CI m s)
    (hY : ∀ v s1 ys x cp H', RelV x v → ys.length < n → CpOk Ss cp s → CI ys s.heap → CpOk Ss cp s1 → AllBare s1.gens → HOk X.prog X.w H' s1.heap → (∀ S ∈ Ss, H' S = none) → Back X pins σ Ss s1 H' → Yw ys x H' →
      (∀ s' cp', Woke Ss s1 s' → s1.gens = s'.gens → CpOk Ss cp' s' → CI (ys ++ [x]) s'.heap → W (ys ++ [x]) H' → ∃ m', m = m' + 1 ∧ GeAt X pins σ n W N Yw A.in1 a g go Ss CI m' s') → Q (some v) s1)
    (hN : ∀ s1 ys cp H', ys.length = n → CpOk Ss cp s → CI ys s.heap → CpOk Ss cp s1 → AllBare s1.gens → Back X pins σ Ss s1 H' → N ys H' → Q none s1) :
    wpAny (model X.prog X.w) A (pyNext (.ref a)) Q E s := by
  obtain ⟨hga, hl, hb0, gs, hgs, hgo⟩ := h
  have hgl : g < s.gens.size := (Array.getElem?_eq_some_iff.mp hgs).1
  refine wpAny_gsz (n := g + 1) hgl ?_
  refine wpAny_pyNext_genexpQ (A := A) hh hl hd (isgo.at hga) hgs (P := fun m s₀ s1 => m = 0 ∧ ∃ (ys : List V) (cp : List (Addr × Obj)) (H' : Hp), ys.length = n ∧ CpOk Ss cp s₀ ∧ CI ys s₀.heap ∧ CpOk Ss cp s1 ∧ s1.heap.get? a = some go ∧ AllBare s1.gens ∧ s1.heap.NoLimit ∧ HOk X.prog X.w H' s1.heap ∧ (∀ S ∈ Ss, H' S = none) ∧ Back X pins σ Ss s1 H' ∧ N ys H') hgo (fun v s₁ gs' hbare hv hsz => ?_) (fun s₁ hp h' hk hsz => ?_)
  · obtain ⟨ys, x, cp, H', h1, rx, c0, ci, c1, hga1, hb, hnl, hok, hS, bk, hy, hkap⟩ := hv
    have hsz1 : g < s₁.gens.size := by
      have q : (s₁.setGen g gs').gens.size = s₁.gens.size := setGen_size _ _ _
      have hsz' : g + 1 ≤ (s₁.setGen g gs').gens.size := hsz
      omega
    have w1 : Woke Ss s₁ (s₁.setGen g gs') := woke_setGen hb hbare
    cases m with
    | zero =>
      refine hY v (s₁.setGen g gs') ys x cp H' rx (by omega) c0 ci c1 w1.bare hok hS (fun s' w => bk s' (w1.trans w)) hy fun s' cp' w _ c ci' w' => (hkap s' cp' (w1.trans w) c ci' w').elim
    | succ m =>
      refine hY v (s₁.setGen g gs') ys x cp H' rx (by omega) c0 ci c1 w1.bare hok hS (fun s' w => bk s' (w1.trans w)) hy fun s' cp' w hg c ci' w' => ⟨m, rfl, ?_⟩
      refine ⟨w.keep a go ha hga1, ?_, w.bare, gs', ?_, hkap _ cp' ((w1.trans w).gen rfl) c ci' w'⟩
      · obtain ⟨mc, hns, hnn⟩ := hnl
        exact ⟨mc, hns.at' fun o e => w.keep _ o hc e, hnn⟩
      · rw [← hg]
        exact setGen_at hsz1
  · obtain ⟨_, ys, cp, H', h1, c0, ci, c1, hga1, hb, hnl, hok, hS, bk, hN'⟩ := hp
    exact hN _ ys cp H' h1 c0 ci ⟨c1.1, fun p hp => ⟨hk _ _ (c1.2 p hp).1, (c1.2 p hp).2⟩⟩ (allBare_setGen hb rfl) (fun s' w => bk s' ⟨w.os, w.bare, fun b o hb' e => w.keep b o hb' (hk b o e)⟩) hN'
end
end Ge
namespace Ge
open PySem PySem.Spec PyProof.Rows L2 GenW

section
variable {X : Cx} {pins : List (Addr × Obj)} {σ : L2.St} {n k : Nat} {W N : List V → Hp → Prop} {Yw : List V → V → Hp → Prop} {a : Addr} {g : Nat} {go : Obj}

/-! ### all -/
theorem all_loop {A : Around} {R : Result → Shared → Prop} (isgo : IsGo go g) (hh : A.handled = none) (hd : A.depth < recursionLimit)
    (hend : ∀ ys H' s', N ys H' → Inv X pins σ H' s' → R (.ok (.ret (.bool true))) s')
    (hitem : ∀ ys x H', Yw ys x H' → ∃ b, x = .bl b ∧ (b = true → W (ys ++ [x]) H') ∧ (b = false → ∀ s', Inv X pins σ H' s' → R (.ok (.ret (.bool false))) s')) :
    ∀ (m : Nat) (s : Shared), GeAt X pins σ n W N Yw A.in1.in1 a g go [] (fun _ _ => True) m s → codeAny (model X.prog X.w) A (.builtin "all.loop" ⟨[.ref a], []⟩) R s := by
  intro m
  induction m with
  | zero =>
    intro s h
    refine codeAny_builtin F.entry_all_loop ?_
    rw [Around.under_plainId F.plain_all_loop _]
    show wpAny _ A.in1 (pyNext (.ref a) >>= _) _ _ s
    refine wpAny_bind (ge_next (A := A.in1) isgo hh hd (by simp) (by simp) h (fun v s1 ys x cp H' rx hlt c0 ci c1 hb hok hS bk hy hk => ?_) fun s1 ys cp H' hl c0 ci c1 hb bk hN => ?_)
    · obtain ⟨b, rfl, hb1, hb2⟩ := hitem ys x H' hy
      cases (show v = Value.bool b from rx)
      cases b with
      | true =>
        obtain ⟨m', h0, _⟩ := hk s1 [] ⟨rfl, hb, fun _ _ _ e => e⟩ rfl cp0 trivial (hb1 rfl)
        exact absurd h0.symm (Nat.succ_ne_zero m')
      | false =>
        refine wpAny_bind (wpAny_holding (wpAny_truthy_bool ?_))
        refine wpAny_bind (wpAny_letGo ?_)
        simp only [Bool.false_eq_true, if_false]
        exact wpAny_bind (wpAny_rule (wpAny_pure (hb2 rfl _ (bk _ ⟨rfl, hb, fun _ _ _ e => e⟩))))
    · exact wpAny_bind (wpAny_rule (wpAny_pure (hend ys H' _ hN (bk _ ⟨rfl, hb, fun _ _ _ e => e⟩))))
  | succ m ih =>
    intro s h
    refine codeAny_builtin F.entry_all_loop ?_
    rw [Around.under_plainId F.plain_all_loop _]
    show wpAny _ A.in1 (pyNext (.ref a) >>= _) _ _ s
    refine wpAny_bind (ge_next (A := A.in1) isgo hh hd (by simp) (by simp) h (fun v s1 ys x cp H' rx hlt c0 ci c1 hb hok hS bk hy hk => ?_) fun s1 ys cp H' hl c0 ci c1 hb bk hN => ?_)
    · obtain ⟨b, rfl, hb1, hb2⟩ := hitem ys x H' hy
      cases (show v = Value.bool b from rx)
      refine wpAny_bind (wpAny_holding (wpAny_truthy_bool ?_))
      refine wpAny_bind (wpAny_letGo ?_)
      cases b with
      | true =>
        simp only [if_true]
        obtain ⟨m', h0, hg⟩ := hk s1 [] ⟨rfl, hb, fun _ _ _ e => e⟩ rfl cp0 trivial (hb1 rfl)
        cases h0
        exact wpAny_pure ⟨plainId_quiet F.plain_all_loop _, ih s1 hg⟩
      | false =>
        simp only [Bool.false_eq_true, if_false]
        exact wpAny_bind (wpAny_rule (wpAny_pure (hb2 rfl _ (bk _ ⟨rfl, hb, fun _ _ _ e => e⟩))))
    · exact wpAny_bind (wpAny_rule (wpAny_pure (hend ys H' _ hN (bk _ ⟨rfl, hb, fun _ _ _ e => e⟩))))

theorem ready_at {A' : Around} {s5 s6 : Shared} {Ss : List Addr} {CI : List V → Heap → Prop} {c : Code} (hga : s5.heap.get? a = some go) (hnl : s5.heap.NoLimit) (hgs : s5.gens[g]? = some (.fresh c))
    (run : Seg (model X.prog X.w) A' (gR X pins σ a go Ss CI n N) (gY X pins σ a go Ss CI n W Yw) n (s6.setGen g .running) c ((model X.prog X.w).den c) [] (s6.setGen g .running))
    (k : ∀ b o, s5.heap.get? b = some o → s6.heap.get? b = some o) (hb : AllBare s6.gens) (hg : s6.gens = s5.gens) : GeAt X pins σ n W N Yw A' a g go Ss CI n s6 :=
  ⟨k _ _ hga, hnl.keeps k, hb, .fresh c, by rw [hg]; exact hgs, rfl, run⟩
theorem room_of {A A' : Around} (hr : Room (k + 2) A) (h1 : A'.handled = A.handled) (h2 : A'.depth = A.depth) (h3 : A'.units ≤ A.units + 8) : Room (k + 1) A' := by
  have d := hr.dp
  have u := hr.un
  refine ⟨h1.trans hr.hd, ?_, ?_⟩
  · rw [h2]; omega
  · omega

theorem call_all {s5 : Shared} {Q : VK} (hr : Room (k + 2) X.A) (h : GeReady X pins σ k n W N Yw a s5)
    (hend : ∀ ys H', N ys H' → Q (.bl true) H') (hitem : ∀ ys x H', Yw ys x H' → ∃ b, x = .bl b ∧ (b = true → W (ys ++ [x]) H') ∧ (b = false → Q (.bl false) H')) :
    wpAny (model X.prog X.w) X.A (call (.builtin "all") [.ref a]) (EP X pins σ Q) X.xe s5 := by
  obtain ⟨g, c, go, hga, isgo, hgs, hnl, hb, hlt, hfr, run⟩ := h
  refine call_function_tree F.kind_all F.plain_all F.entry_all (F.args_all1 _) ?_
  unfold Builtin.«all»
  refine wpAny_bind (m := oneArg "all" _) (wpAny_pure ?_)
  refine wpAny_bind (wpAny_pyIter_gen (isgo.at hga) ?_)
  refine wpAny_pure ⟨plainId_quiet F.plain_all_loop _, ?_⟩
  refine all_loop (A := X.A) (n := n) (W := W) (N := N) (Yw := Yw) (σ := σ) (pins := pins) isgo hr.hd (by have := hr.dp; omega) (fun ys H' s' hN I => ⟨.bl true, H', I, rfl, hend ys H' hN⟩) (fun ys x H' hy => ?_) n s5
    (ready_at hga hnl hgs (run X.A.in1.in1 [] (fun _ _ => True) [] _ (room_of hr rfl rfl (by show X.A.units + 1 + 1 ≤ _; omega)) hfr (fun S hS => absurd hS (by simp)) rfl (allBare_setGen hb rfl) (fun _ _ e => e) cp0 trivial) (fun _ _ e => e) hb rfl)
  obtain ⟨b, e, h1, h2⟩ := hitem ys x H' hy
  exact ⟨b, e, h1, fun z s' I => ⟨.bl false, H', I, rfl, h2 z⟩⟩


/-! ### sum -/
def vInt : V → Int
  | .int i => i
  | _ => 0
def isum : List V → Int
  | [] => 0
  | x :: r => vInt x + isum r
theorem isum_app (x : V) : ∀ ys : List V, isum (ys ++ [x]) = isum ys + vInt x
  | [] => by show vInt x + 0 = 0 + vInt x; omega
  | y :: r => by
    show vInt y + isum (r ++ [x]) = vInt y + isum r + vInt x
    rw [isum_app x r]; omega
theorem cp_same {Ss : List Addr} {cp : List (Addr × Obj)} {s s1 : Shared} {S : Addr} {o : Obj} (c0 : CpOk Ss cp s) (c1 : CpOk Ss cp s1) (hS : S ∈ Ss) (e : s.heap.get? S = some o) : s1.heap.get? S = some o := by
  rw [← c0.1] at hS
  obtain ⟨p, hp, q⟩ := List.mem_map.mp hS
  have q : p.1 = S := q
  have e0 := (c0.2 p hp).1
  have e1 := (c1.2 p hp).1
  rw [q] at e0 e1
  rw [e] at e0
  rw [e1, e0]
abbrev sumObj (t : Int) (tk : Tok) (c : Nat) : Obj := { cls := .type "list", dict := none, data := .seq #[.int t tk] c, slots := #[] }
def ciSum (S : Addr) : List V → Heap → Prop := fun ys h => ∃ tk c, h.get? S = some (sumObj (isum ys) tk c)
theorem cp_one {s : Shared} {S : Addr} {o : Obj} (e : s.heap.get? S = some o) (hd : ∀ v, o.data ≠ .cell v) : CpOk [S] [(S, o)] s := ⟨rfl, fun p hp => by rw [List.mem_singleton.mp hp]; exact ⟨e, hd⟩⟩
theorem sum_loop {A : Around} {R : Result → Shared → Prop} {S : Addr} (isgo : IsGo go g) (hh : A.handled = none) (hd : A.depth < recursionLimit) (hSa : a ≠ S) (hSc : cStatics ≠ S)
    (hend : ∀ ys H' s' t, N ys H' → Inv X pins σ H' s' → R (.ok (.ret (.int (isum ys) t))) s')
    (hitem : ∀ ys x H', Yw ys x H' → ∃ z : Int, x = .int z ∧ InLong z ∧ InLong (isum ys + z) ∧ W (ys ++ [x]) H') :
    ∀ (m : Nat) (s : Shared), (∃ t tk c, s.heap.get? S = some (sumObj t tk c)) → GeAt X pins σ n W N Yw A.in1.in1 a g go [S] (ciSum S) m s → codeAny (model X.prog X.w) A (.builtin "sum.loop" ⟨[.ref a, .ref S, rawInt 0, rawInt 0], []⟩) R s := by
  intro m
  induction m with
  | zero =>
    intro s ⟨t, tk, c, hS⟩ h
    refine codeAny_builtin F.entry_sum_loop ?_
    rw [Around.under_plainId F.plain_sum_loop _]
    show wpAny _ A.in1 (seqItems? (.ref S) >>= _) _ _ s
    refine wpAny_bind (wpAny_seqItems hS rfl ?_)
    show wpAny _ A.in1 (tryCatch (pyNext (.ref a)) _ >>= _) _ _ s
    refine wpAny_bind (wpAny_tryCatch (ge_next (A := A.in1) isgo hh hd (by simpa using hSa) (by simpa using hSc) h (fun v s1 ys x cp H' rx hlt c0 ci c1 hb hok hSn bk hy hk => ?_) fun s1 ys cp H' hl c0 ci c1 hb bk hN => ?_))
    · obtain ⟨z, rfl, _, _, hw⟩ := hitem ys x H' hy
      have hS1 := cp_same c0 c1 (List.mem_singleton.mpr rfl) hS
      have w0 : Woke [S] s1 { s1 with heap := s1.heap.update S (Obj.mapSeq (fun _ => #[.int (isum (ys ++ [V.int z])) 0])) } := ⟨rfl, hb, fun b o hb' e => (Heap.get?_update_other _ _ (fun q => hb' (List.mem_singleton.mpr q.symm))).trans e⟩
      have e1 := Heap.get?_update_self (Obj.mapSeq (fun _ => #[.int (isum (ys ++ [V.int z])) 0])) hS1 rfl
      obtain ⟨m', h0, _⟩ := hk _ _ w0 rfl (cp_one (o := sumObj (isum (ys ++ [V.int z])) 0 _) e1 (fun v q => by cases q)) ⟨_, _, e1⟩ hw
      exact absurd h0.symm (Nat.succ_ne_zero m')
    · obtain ⟨tk', c', hS'⟩ := ci
      rw [hS] at hS'
      cases hS'
      exact wpAny_pure (hend ys H' s1 tk hN (bk _ ⟨rfl, hb, fun _ _ _ e => e⟩))
  | succ m ih =>
    intro s ⟨t, tk, c, hS⟩ h
    refine codeAny_builtin F.entry_sum_loop ?_
    rw [Around.under_plainId F.plain_sum_loop _]
    show wpAny _ A.in1 (seqItems? (.ref S) >>= _) _ _ s
    refine wpAny_bind (wpAny_seqItems hS rfl ?_)
    show wpAny _ A.in1 (tryCatch (pyNext (.ref a)) _ >>= _) _ _ s
    refine wpAny_bind (wpAny_tryCatch (ge_next (A := A.in1) isgo hh hd (by simpa using hSa) (by simpa using hSc) h (fun v s1 ys x cp H' rx hlt c0 ci c1 hb hok hSn bk hy hk => ?_) fun s1 ys cp H' hl c0 ci c1 hb bk hN => ?_))
    · obtain ⟨z, rfl, ⟨f1, f2⟩, ⟨f3, f4⟩, hw⟩ := hitem ys x H' hy
      obtain ⟨t', rfl⟩ := rx
      obtain ⟨tk', c', hS'⟩ := ci
      rw [hS] at hS'
      cases hS'
      have hS1 := cp_same c0 c1 (List.mem_singleton.mpr rfl) hS
      have hc : ((decide (-(2 ^ 63) ≤ z) && decide (z < 2 ^ 63)) && (decide (-(2 ^ 63) ≤ isum ys + z) && decide (isum ys + z < 2 ^ 63))) = true := by
        simp only [Bool.and_eq_true, decide_eq_true_eq]
        exact ⟨⟨f1, f2⟩, f3, f4⟩
      show wpAny _ A.in1 (if (_ : Bool) = true then (mkInt (isum ys + z) >>= _) else _) _ _ _
      split
      · refine wpAny_bind (wpAny_mkInt ?_)
        show wpAny _ A.in1 (updateSeq S (fun _ => #[.int (isum ys + z) s1.toks]) >>= _) _ _ _
        refine wpAny_bind ?_
        have e0 : isum (ys ++ [V.int z]) = isum ys + z := isum_app _ _
        have e1 := Heap.get?_update_self (Obj.mapSeq (fun _ => #[.int (isum ys + z) s1.toks])) hS1 rfl
        obtain ⟨m', h0, hg⟩ := hk { s1 with heap := s1.heap.update S (Obj.mapSeq (fun _ => #[.int (isum ys + z) s1.toks])), toks := s1.toks + 1 } _ ⟨rfl, hb, fun b o hb' e => (Heap.get?_update_other _ _ (fun q => hb' (List.mem_singleton.mpr q.symm))).trans e⟩ rfl (cp_one e1 (fun v q => by cases q)) ⟨s1.toks, _, by rw [e0]; exact e1⟩ hw
        cases h0
        exact wpAny_updateSeq hS1 rfl (wpAny_pure ⟨plainId_quiet F.plain_sum_loop _, ih _ ⟨_, _, _, e1⟩ hg⟩)
      · rename_i hneg
        exact absurd hc hneg
    · obtain ⟨tk', c', hS'⟩ := ci
      rw [hS] at hS'
      cases hS'
      exact wpAny_pure (hend ys H' s1 tk hN (bk _ ⟨rfl, hb, fun _ _ _ e => e⟩))

theorem call_sum {s5 : Shared} {Q : VK} (hr : Room (k + 2) X.A) (h : GeReady X pins σ k n W N Yw a s5)
    (hend : ∀ ys H', N ys H' → Q (.int (isum ys)) H') (hitem : ∀ ys x H', Yw ys x H' → ∃ z : Int, x = .int z ∧ InLong z ∧ InLong (isum ys + z) ∧ W (ys ++ [x]) H') :
    wpAny (model X.prog X.w) X.A (call (.builtin "sum") [.ref a]) (EP X pins σ Q) X.xe s5 := by
  obtain ⟨g, c, go, hga, isgo, hgs, hnl, hb, hlt, hfr, run⟩ := h
  refine call_function_tree F.kind_sum F.plain_sum F.entry_sum (F.args_sum1 _) ?_
  unfold Builtin.«sum»
  simp only [List.length_cons, List.length_nil]
  rw [if_neg (by decide)]
  refine wpAny_bind (wpAny_of_eq (show Builtin.Builtins.bindParams "sum" ["start"] 0 { } = pure [none] from rfl) ?_)
  refine wpAny_bind (wpAny_pyIter_gen (isgo.at hga) ?_)
  refine wpAny_bind (wpAny_mkInt ?_)
  refine wpAny_bind (wpAny_pure ?_)
  simp only [List.forIn_cons, List.forIn_nil]
  refine wpAny_bind (wpAny_bind (wpAny_bind (wpAny_isInstance (T := "int") (b := false) (typeIs_int _ _ _) PySem.sub_int_str ?_)))
  simp only [Bool.false_eq_true, if_false]
  refine wpAny_pure (wpAny_bind (wpAny_bind (wpAny_isInstance (T := "int") (b := false) (typeIs_int _ _ _) PySem.sub_int_bytes ?_)))
  simp only [Bool.false_eq_true, if_false]
  refine wpAny_pure (wpAny_bind (wpAny_bind (wpAny_isInstance (T := "int") (b := false) (typeIs_int _ _ _) PySem.sub_int_bytearray ?_)))
  simp only [Bool.false_eq_true, if_false]
  refine wpAny_pure (wpAny_pure ?_)
  refine wpAny_bind (wpAny_newObj_type ?_)
  have hS : (s5.heap.push { cls := .type "list", data := .seq #[.int 0 s5.toks] }).get? s5.heap.objs.size = some (sumObj 0 s5.toks 0) := Heap.get?_push_size _ rfl
  have hcl : cStatics < s5.heap.objs.size := let ⟨_, hn, _⟩ := hnl; hn.lt
  refine wpAny_pure ⟨plainId_quiet F.plain_sum_loop _, ?_⟩
  refine sum_loop (A := X.A) (n := n) (W := W) (N := N) (Yw := Yw) (σ := σ) (pins := pins) (S := s5.heap.objs.size) isgo hr.hd (by have := hr.dp; omega) (Nat.ne_of_lt hlt) (Nat.ne_of_lt hcl) (fun ys H' s' t hN I => ⟨.int (isum ys), H', I, ⟨t, rfl⟩, hend ys H' hN⟩) hitem n _ ⟨_, _, _, hS⟩
    (ready_at hga hnl hgs (run X.A.in1.in1 [s5.heap.objs.size] (ciSum s5.heap.objs.size) _ _ (room_of hr rfl rfl (by show X.A.units + 1 + 1 ≤ _; omega)) hfr (fun S hS => by rw [List.mem_singleton.mp hS]; exact Nat.le_refl _) rfl (allBare_setGen (s := { s5 with heap := _, toks := _ }) hb rfl) (fun _ _ e => Heap.get?_push_of_some _ e) (cp_one hS (fun v q => by cases q)) ⟨_, _, hS⟩) (fun _ _ e => Heap.get?_push_of_some _ e) hb rfl)

/-! ### tuple -/
def ciTup (S : Addr) : List V → Heap → Prop := fun ys h => ∃ acc c, h.get? S = some (lstObj acc c) ∧ Vals ys acc.toList
theorem ext_loop {A : Around} {R : Result → Shared → Prop} {S : Addr} {res : Value} (isgo : IsGo go g) (hh : A.handled = none) (hd : A.depth < recursionLimit) (hSa : a ≠ S) (hSc : cStatics ≠ S) (hn : n ≤ 1000000)
    (hend : ∀ ys H' s' acc c, N ys H' → ys.length = n → Inv X pins σ H' s' → s'.heap.get? S = some (lstObj acc c) → Vals ys acc.toList → R (.ok (.ret res)) s')
    (hitem : ∀ ys x H', Yw ys x H' → W (ys ++ [x]) H') :
    ∀ (m : Nat) (s : Shared), GeAt X pins σ n W N Yw A.in1.in1 a g go [S] (ciTup S) m s → codeAny (model X.prog X.w) A (.builtin "list.extend.loop" ⟨[.ref S, .ref a, res], []⟩) R s := by
  have hn' : n ≤ sizeLine := Nat.le_trans hn (by decide)
  have upd1 : ∀ {s1 : Shared} {acc : Array Value} {c : Nat} {v : Value}, s1.heap.get? S = some (lstObj acc c) → (s1.heap.update S (Obj.mapSeq (·.push v))).get? S = some (Obj.mapSeq (·.push v) (lstObj acc c)) := fun e => Heap.get?_update_self _ e rfl
  intro m
  induction m with
  | zero =>
    intro s h
    refine codeAny_builtin F.entry_extend_loop ?_
    rw [Around.under_plainId F.plain_extend_loop _]
    show wpAny _ A.in1 (pyNext (.ref a) >>= _) _ _ s
    refine wpAny_bind (ge_next (A := A.in1) isgo hh hd (by simpa using hSa) (by simpa using hSc) h (fun v s1 ys x cp H' rx hlt c0 ci c1 hb hok hSn bk hy hk => ?_) fun s1 ys cp H' hl c0 ci c1 hb bk hN => ?_)
    · obtain ⟨acc, c, hS, rv⟩ := ci
      have hS1 := cp_same c0 c1 (List.mem_singleton.mpr rfl) hS
      have e1 := upd1 (v := v) hS1
      obtain ⟨m', h0, _⟩ := hk { s1 with heap := s1.heap.update S (Obj.mapSeq (·.push v)) } _ ⟨rfl, hb, fun b o hb' e => (Heap.get?_update_other _ _ (fun q => hb' (List.mem_singleton.mpr q.symm))).trans e⟩ rfl (cp_one e1 (fun v q => by cases q)) ⟨_, _, e1, by rw [Array.toList_push]; exact rv.append (.cons rx .nil)⟩ (hitem ys x H' hy)
      exact absurd h0.symm (Nat.succ_ne_zero m')
    · obtain ⟨acc, c, hS, rv⟩ := ci
      exact wpAny_pure (hend ys H' s1 acc c hN hl (bk _ ⟨rfl, hb, fun _ _ _ e => e⟩) (cp_same c0 c1 (List.mem_singleton.mpr rfl) hS) rv)
  | succ m ih =>
    intro s h
    refine codeAny_builtin F.entry_extend_loop ?_
    rw [Around.under_plainId F.plain_extend_loop _]
    show wpAny _ A.in1 (pyNext (.ref a) >>= _) _ _ s
    refine wpAny_bind (ge_next (A := A.in1) isgo hh hd (by simpa using hSa) (by simpa using hSc) h (fun v s1 ys x cp H' rx hlt c0 ci c1 hb hok hSn bk hy hk => ?_) fun s1 ys cp H' hl c0 ci c1 hb bk hN => ?_)
    · obtain ⟨acc, c, hS, rv⟩ := ci
      have hS1 := cp_same c0 c1 (List.mem_singleton.mpr rfl) hS
      have e1 := upd1 (v := v) hS1
      obtain ⟨m', h0, hg⟩ := hk { s1 with heap := s1.heap.update S (Obj.mapSeq (·.push v)) } _ ⟨rfl, hb, fun b o hb' e => (Heap.get?_update_other _ _ (fun q => hb' (List.mem_singleton.mpr q.symm))).trans e⟩ rfl (cp_one e1 (fun v q => by cases q)) ⟨_, _, e1, by rw [Array.toList_push]; exact rv.append (.cons rx .nil)⟩ (hitem ys x H' hy)
      cases h0
      have hl := rv.length
      have hasz : acc.size < sizeLine := by
        have e2 : acc.toList.length = acc.size := by simp
        omega
      show wpAny _ A.in1 (updateSeq S (·.push v) >>= _) _ _ _
      refine wpAny_bind ?_
      exact wpAny_updateSeq hS1 rfl (wpAny_pure ⟨plainId_quiet F.plain_extend_loop _, ih _ hg⟩) (Nat.le_of_lt hasz) (by show (acc.push v).size ≤ sizeLine + 1; rw [Array.size_push]; omega)
    · obtain ⟨acc, c, hS, rv⟩ := ci
      exact wpAny_pure (hend ys H' s1 acc c hN hl (bk _ ⟨rfl, hb, fun _ _ _ e => e⟩) (cp_same c0 c1 (List.mem_singleton.mpr rfl) hS) rv)
end
end Ge
namespace Ge
open PySem PySem.Spec PyProof.Rows L2 GenW
open AutoSeq1 (wpAny_loadPart')

section
variable {X : Cx} {pins : List (Addr × Obj)} {σ : L2.St} {n k : Nat} {W N : List V → Hp → Prop} {Yw : List V → V → Hp → Prop} {a : Addr} {g : Nat} {go : Obj}

/-- the items of a generator, collected -/
theorem collect_ge {A : Around} {s : Shared} {Q : List Value → Shared → Prop} {E : Value → Shared → Prop} {c : Code} (isgo : IsGo go g) (hh : A.handled = none) (hd : A.depth < recursionLimit) (hn : n ≤ 1000000)
    (hga : s.heap.get? a = some go) (hnl : s.heap.NoLimit) (hgs : s.gens[g]? = some (.fresh c)) (hb : AllBare s.gens) (hlt : a < s.heap.objs.size)
    (run : ∀ (cp : List (Addr × Obj)) (s6 : Shared), s6.os = s.os → AllBare s6.gens → (∀ b o, s.heap.get? b = some o → s6.heap.get? b = some o) → CpOk [s.heap.objs.size] cp s6 → ciTup s.heap.objs.size [] s6.heap →
      Seg (model X.prog X.w) A.in1.in1 (gR X pins σ a go [s.heap.objs.size] (ciTup s.heap.objs.size) n N) (gY X pins σ a go [s.heap.objs.size] (ciTup s.heap.objs.size) n W Yw) n s6 c ((model X.prog X.w).den c) [] s6)
    (hitem : ∀ ys x H', Yw ys x H' → W (ys ++ [x]) H')
    (hQ : ∀ ys H' s' us, N ys H' → ys.length = n → Inv X pins σ H' s' → Vals ys us → Q us s') : wpAny (model X.prog X.w) A (collect (.ref a)) Q E s := by
  have hSI : s.heap.objs.size ≠ a := Nat.ne_of_gt hlt
  have hcl : cStatics < s.heap.objs.size := let ⟨_, hn, _⟩ := hnl; hn.lt
  have isg := isgo.at hga
  unfold collect
  refine wpAny_bind (wpAny_runValue (codeAny_builtin F.entry_proto_collect ?_))
  rw [Around.under_plainId F.plain_proto_collect _]
  show wpAny _ A.in1 (newList [] >>= fun l => again (.builtin "list.__iadd__" ⟨[l, .ref a], []⟩)) _ _ s
  refine wpAny_bind (wpAny_newObj_type ?_)
  refine wpAny_pure ⟨plainId_quiet F.plain_list_iadd _, codeAny_builtin F.entry_list_iadd ?_⟩
  rw [Around.under_plainId F.plain_list_iadd _]
  show wpAny _ A.in1 (Builtin.List.listExtendWith (.ref s.heap.objs.size) (.ref a) (.ref s.heap.objs.size)) _ _ _
  unfold Builtin.List.listExtendWith
  have k1 : ∀ b o, s.heap.get? b = some o → (s.heap.push { cls := .type "list", data := .seq ([] : List Value).toArray }).get? b = some o := fun b o e => Heap.get?_push_of_some _ e
  have gty : ∀ {h : Heap}, (∀ b o, s.heap.get? b = some o → h.get? b = some o) → h.IsGen a g := fun {h} q => isg.keeps q
  refine wpAny_bind (wpAny_typeOf (Heap.IsGen.typeIs (s := { s with heap := _ }) (gty k1)) ?_)
  have h1 : Builtin.List.listSameRef (.ref s.heap.objs.size) (.ref a) = false := by simp [Builtin.List.listSameRef, hSI]
  have h2 : (Value.type "generator" == Value.type "list") = false := by decide
  have h3 : (Value.type "generator" == Value.type "tuple") = false := by decide
  simp only [h1, h2, h3, Bool.or_false, Bool.false_eq_true, if_false]
  refine wpAny_bind (wpAny_pyIter_gen (s := { s with heap := _ }) (gty k1) ?_)
  refine wpAny_bind (wpAny_holding ?_)
  unfold Builtin.List.listLengthHint
  refine wpAny_bind (wpAny_specialOf (Heap.IsGen.typeIs (s := { s with heap := _ }) (gty k1)) F.gen_no_len ?_)
  show wpAny _ A.in1 (specialOf (Value.ref a) (Str.ofString "__length_hint__") >>= _) _ _ _
  refine wpAny_bind (wpAny_specialOf (Heap.IsGen.typeIs (s := { s with heap := _ }) (gty k1)) F.gen_no_hint ?_)
  refine wpAny_pure ?_
  show wpAny _ A.in1 (rule "list.extend.makes-room" >>= fun _ => Builtin.List.listTouch (.ref s.heap.objs.size) >>= fun _ =>
    again (.builtin "list.extend.loop" ⟨[.ref s.heap.objs.size, .ref a, .ref s.heap.objs.size], []⟩)) _ _ _
  refine wpAny_bind (wpAny_rule ?_)
  have hS₁ : (s.heap.push { cls := .type "list", data := .seq ([] : List Value).toArray }).get? s.heap.objs.size = some { cls := .type "list", data := .seq ([] : List Value).toArray } := Heap.get?_push_size _ rfl
  refine wpAny_bind ?_
  show wpAny _ A.in1 (updateSeq s.heap.objs.size (·.push .none) >>= fun _ => updateSeq s.heap.objs.size (·.pop)) _ _ _
  refine wpAny_bind (wpAny_updateSeq hS₁ rfl ?_)
  have hS₂ := Heap.get?_update_self (Obj.mapSeq (·.push Value.none)) hS₁ rfl
  refine wpAny_updateSeq hS₂ rfl ?_
  have hS₃ := Heap.get?_update_self (Obj.mapSeq (·.pop)) hS₂ rfl
  have up : ∀ (h : Heap) (f : Obj → Obj), (∀ b o, s.heap.get? b = some o → h.get? b = some o) → ∀ b o, s.heap.get? b = some o → (h.update s.heap.objs.size f).get? b = some o := fun h f q b o e =>
    (Heap.get?_update_other _ _ (Ne.symm (Nat.ne_of_lt (Heap.lt_size e)))).trans (q b o e)
  have k3 := up _ (Obj.mapSeq (·.pop)) (up _ (Obj.mapSeq (·.push Value.none)) k1)
  refine wpAny_pure ⟨plainId_quiet F.plain_extend_loop _, ?_⟩
  refine ext_loop (A := A) (n := n) (W := W) (N := N) (Yw := Yw) (σ := σ) (pins := pins) (S := s.heap.objs.size) isgo hh hd (Nat.ne_of_lt hlt) (Nat.ne_of_lt hcl) hn (fun ys H' s' acc c hN hl I hS' rv => ?_) hitem n _
    (ready_at hga hnl hgs (run _ _ rfl (allBare_setGen (s := { s with heap := _ }) hb rfl) k3 (cp_one hS₃ (fun v q => by cases q)) ⟨_, _, hS₃, .nil⟩) k3 hb rfl)
  show wpAny _ A (load s.heap.objs.size >>= _) _ _ s'
  refine wpAny_bind (wpAny_load hS' ?_)
  exact wpAny_pure (hQ ys H' s' _ hN hl I rv)

theorem call_tup {s5 : Shared} {Q : VK} (hr : Room (k + 2) X.A) (hn : n ≤ 1000000) (h : GeReady X pins σ k n W N Yw a s5)
    (hend : ∀ ys H', N ys H' → ∀ p, H' p = none → Q (.ref p) (upd H' p (.tup ys))) (hitem : ∀ ys x H', Yw ys x H' → W (ys ++ [x]) H') :
    wpAny (model X.prog X.w) X.A (call (.type "tuple") [.ref a]) (EP X pins σ Q) X.xe s5 := by
  obtain ⟨g, c, go, hga, isgo, hgs, hnl, hb, hlt, hfr, run⟩ := h
  have hn' : n ≤ sizeLine := Nat.le_trans hn (by decide)
  have code : codeAny (model X.prog X.w) X.A.in1 (.call (.builtin "tuple.__new__") ⟨[.type "tuple", .ref a], []⟩) (wants (fun obj s₁ => s₁.TypeIs obj "tuple" ∧ EP X pins σ Q obj s₁) X.xe) s5 := by
    refine codeAny_of_tree ?_
    show wpAny _ X.A.in1.in1 (do checkBuiltinCall "tuple.__new__" ⟨[.type "tuple", .ref a], []⟩; again (.builtin "tuple.__new__" ⟨[.type "tuple", .ref a], []⟩)) _ _ s5
    refine wpAny_bind (wpAny_of_eq (F.newCall_tuple_1 _) (wpAny_pure ⟨plainId_quiet F.plain_tuple_new _, codeAny_builtin F.entry_tuple_new ?_⟩))
    rw [Around.under_plainId F.plain_tuple_new _]
    have hsub := sub_tuple_self
    have hinit := init_tuple_lookup
    have hmh := madeHere_tuple
    have hTI : s5.TypeIs (.ref a) "generator" := Heap.IsGen.typeIs (isgo.at hga)
    have coll : ∀ {Q' : List Value → Shared → Prop} {E : Value → Shared → Prop}, (∀ ys H' s' us, N ys H' → ys.length = n → Inv X pins σ H' s' → Vals ys us → Q' us s') → wpAny (model X.prog X.w) X.A.in1.in1 (collect (.ref a)) Q' E s5 := fun {Q' E} hQ' =>
      collect_ge (A := X.A.in1.in1) isgo hr.hd (by have := hr.dp; show X.A.depth < _; omega) hn hga hnl hgs hb hlt
        (fun cp s6 h1 h2 h3 h4 h5 => run X.A.in1.in1.in1.in1 _ _ cp s6 (room_of hr rfl rfl (by show X.A.units + 1 + 1 + 1 + 1 ≤ _; omega)) hfr (fun S hS => by rw [List.mem_singleton.mp hS]; exact Nat.le_refl _) h1 h2 h3 h4 h5) hitem hQ'
    wp_walk using wpAny_typeOf hTI, coll
    intro ys H' s' us hN hl I rv
    show wpAny _ _ (Builtin.Tuple.tupleExact us.toArray >>= fun v => ret v) _ _ _
    unfold Builtin.Tuple.tupleExact
    have hlv := rv.length
    refine wpAny_bind (wpAny_newObj_type ?_ (by show us.toArray.size ≤ sizeLine; rw [List.size_toArray]; omega))
    refine wpAny_pure ?_
    have e1 : (s'.heap.push { cls := .type "tuple", data := .seq us.toArray }).get? s'.heap.objs.size = some { cls := .type "tuple", data := .seq us.toArray } := Heap.get?_push_size _ rfl
    exact ⟨⟨_, e1, rfl⟩, .ref s'.heap.objs.size, _, I.laid (a := s'.heap.objs.size) (o := .tup ys) (t' := s'.toks) (fun b o e => Heap.get?_push_of_some _ e) (Nat.le_refl _) ⟨by omega, us, rv, ⟨_, e1, rfl, _, rfl⟩⟩, rfl, hend ys H' hN _ (I.hok.fresh (Nat.le_refl _))⟩
  refine callType_codes (Q₁ := fun obj s₁ => s₁.TypeIs obj "tuple" ∧ EP X pins σ Q obj s₁) F.called_tuple (F.typeCall_tuple_1 _) F.entry_object_init code fun obj s₁ h₁ => ?_
  exact ⟨h₁.1, F.args_object_init_2 obj _, object_init_meets F.called_tuple.init.lookup F.called_tuple.made (by decide) X.prog X.w X.A.in1 _ s₁ ⟨h₁.1, rfl, h₁.2⟩⟩
end
end Ge
namespace Ge
open PySem PySem.Spec PyProof.Rows L2 GenW

def tAllG (P : Addr) (wi : TI) (g : TG) (te : TE) (vs : List Nat) : TE := fun σ H Q => tGe P wi g te vs σ H fun n W N Yw =>
  (∀ ys H', N ys H' → Q (.bl true) H') ∧ ∀ ys x H', Yw ys x H' → ∃ b, x = .bl b ∧ (b = true → W (ys ++ [x]) H') ∧ (b = false → Q (.bl false) H')
def tSumG (P : Addr) (wi : TI) (g : TG) (te : TE) (vs : List Nat) : TE := fun σ H Q => tGe P wi g te vs σ H fun n W N Yw =>
  (∀ ys H', N ys H' → Q (.int (isum ys)) H') ∧ ∀ ys x H', Yw ys x H' → ∃ z : Int, x = .int z ∧ InLong z ∧ InLong (isum ys + z) ∧ W (ys ++ [x]) H'
def tTupG (P : Addr) (wi : TI) (g : TG) (te : TE) (vs : List Nat) : TE := fun σ H Q => tGe P wi g te vs σ H fun n W N Yw =>
  n ≤ 1000000 ∧ (∀ ys H', N ys H' → ∀ p, H' p = none → Q (.ref p) (upd H' p (.tup ys))) ∧ ∀ ys x H', Yw ys x H' → W (ys ++ [x]) H'

section
variable {X : Cx} {c P : Addr} {elt tg iter : Expr} {scope : Scope} {own : List (Str × Nat)} {p pos gpos : Pos} {wi : TI} {g : TG} {te : TE} {k : Nat}
theorem pe_allG (hr : Room (k + 2) X.A) (hgl : Gl X "all") (hm : X.mg "all" = none) (hbt : bootBuiltins "all" = some (.builtin "all")) (TB : LamX.TabB X.base X.mg c P) (hcode : X.env.code = .ref c) (ok : GeS X.N X.env.scope scope own) (hN : X.N.Nodup) (hi : PI X tg iter wi)
    (hg : ∀ (A' : Around) (s : Shared) (H : Hp) (C : Addr) (code : Value) (fp : List Addr), PG (geCx X A' s H (gEnv X scope C code) fp) tg g)
    (he : ∀ (A' : Around) (s : Shared) (H : Hp) (C : Addr) (code : Value) (fp : List Addr), Room k (A'.deeper (gEnv X scope C code)) → PE (geCx X A' s H (gEnv X scope C code) fp) elt te)
    (hs : ∀ v, genFold iter X.env v = pure v := by intro _; rfl)
    (hst : starEach [.GeneratorExp elt [⟨tg, iter, [], 0⟩] scope gpos] X.env = (false, eval (.GeneratorExp elt [⟨tg, iter, [], 0⟩] scope gpos) X.env) :: starEach [] X.env := by rfl) :
    PE X (.Call (.Name "all" p) [.GeneratorExp elt [⟨tg, iter, [], 0⟩] scope gpos] [] pos) (tAllG P wi g te (own.map (·.2))) := by
  refine ⟨fun pins s σ H Q I h => ?_⟩
  refine wpAny_Call_Name_kw (ld_blt I hgl hm hbt ?_)
  refine PyProof.Rows.callWith_builtin1 ?_ hst (by rfl)
  rw [hst]
  show wpAny _ _ (spliced ((false, eval (.GeneratorExp elt [⟨tg, iter, [], 0⟩] scope gpos) X.env) :: backTo pos (starEach [] X.env))) _ _ s
  refine Calls.spliced_cons (ge_make hr TB hcode ok hN hi hg he hs I h fun n W N Yw a s5 hR hG => ?_)
  refine Calls.spliced_nil ?_
  exact call_all hr hG hR.1 hR.2
theorem pe_sumG (hr : Room (k + 2) X.A) (hgl : Gl X "sum") (hm : X.mg "sum" = none) (hbt : bootBuiltins "sum" = some (.builtin "sum")) (TB : LamX.TabB X.base X.mg c P) (hcode : X.env.code = .ref c) (ok : GeS X.N X.env.scope scope own) (hN : X.N.Nodup) (hi : PI X tg iter wi)
    (hg : ∀ (A' : Around) (s : Shared) (H : Hp) (C : Addr) (code : Value) (fp : List Addr), PG (geCx X A' s H (gEnv X scope C code) fp) tg g)
    (he : ∀ (A' : Around) (s : Shared) (H : Hp) (C : Addr) (code : Value) (fp : List Addr), Room k (A'.deeper (gEnv X scope C code)) → PE (geCx X A' s H (gEnv X scope C code) fp) elt te)
    (hs : ∀ v, genFold iter X.env v = pure v := by intro _; rfl)
    (hst : starEach [.GeneratorExp elt [⟨tg, iter, [], 0⟩] scope gpos] X.env = (false, eval (.GeneratorExp elt [⟨tg, iter, [], 0⟩] scope gpos) X.env) :: starEach [] X.env := by rfl) :
    PE X (.Call (.Name "sum" p) [.GeneratorExp elt [⟨tg, iter, [], 0⟩] scope gpos] [] pos) (tSumG P wi g te (own.map (·.2))) := by
  refine ⟨fun pins s σ H Q I h => ?_⟩
  refine wpAny_Call_Name_kw (ld_blt I hgl hm hbt ?_)
  refine PyProof.Rows.callWith_builtin1 ?_ hst (by rfl)
  rw [hst]
  show wpAny _ _ (spliced ((false, eval (.GeneratorExp elt [⟨tg, iter, [], 0⟩] scope gpos) X.env) :: backTo pos (starEach [] X.env))) _ _ s
  refine Calls.spliced_cons (ge_make hr TB hcode ok hN hi hg he hs I h fun n W N Yw a s5 hR hG => ?_)
  refine Calls.spliced_nil ?_
  exact call_sum hr hG hR.1 hR.2
theorem pe_tupG (hr : Room (k + 2) X.A) (hgl : Gl X "tuple") (hm : X.mg "tuple" = none) (hbt : bootBuiltins "tuple" = some (.type "tuple")) (TB : LamX.TabB X.base X.mg c P) (hcode : X.env.code = .ref c) (ok : GeS X.N X.env.scope scope own) (hN : X.N.Nodup) (hi : PI X tg iter wi)
    (hg : ∀ (A' : Around) (s : Shared) (H : Hp) (C : Addr) (code : Value) (fp : List Addr), PG (geCx X A' s H (gEnv X scope C code) fp) tg g)
    (he : ∀ (A' : Around) (s : Shared) (H : Hp) (C : Addr) (code : Value) (fp : List Addr), Room k (A'.deeper (gEnv X scope C code)) → PE (geCx X A' s H (gEnv X scope C code) fp) elt te)
    (hs : ∀ v, genFold iter X.env v = pure v := by intro _; rfl)
    (hst : starEach [.GeneratorExp elt [⟨tg, iter, [], 0⟩] scope gpos] X.env = (false, eval (.GeneratorExp elt [⟨tg, iter, [], 0⟩] scope gpos) X.env) :: starEach [] X.env := by rfl) :
    PE X (.Call (.Name "tuple" p) [.GeneratorExp elt [⟨tg, iter, [], 0⟩] scope gpos] [] pos) (tTupG P wi g te (own.map (·.2))) := by
  refine ⟨fun pins s σ H Q I h => ?_⟩
  refine wpAny_Call_Name_kw (ld_blt I hgl hm hbt ?_)
  refine PyProof.Rows.callWith_type1 ?_ hst (by rfl)
  rw [hst]
  show wpAny _ _ (spliced ((false, eval (.GeneratorExp elt [⟨tg, iter, [], 0⟩] scope gpos) X.env) :: backTo pos (starEach [] X.env))) _ _ s
  refine Calls.spliced_cons (ge_make hr TB hcode ok hN hi hg he hs I h fun n W N Yw a s5 hR hG => ?_)
  refine Calls.spliced_nil ?_
  exact call_tup hr hR.1 hG hR.2.1 hR.2.2
end

/-! ### the forms one uses -/
section
variable {J : It} {n : Nat} {G : Hp → Prop} {Y : Nat → Hp → V → Hp → Prop} {g : TG} {te : TE} {σ : L2.St} {vs : List Nat} {H : Hp} {Q : VK}
/-- every test is true -/
theorem all_true (w : Walk J n G Y) (Pv : Nat → Hp → Prop) (h0 : Pv 0 H) (hG : ∀ i H, i ≤ n → Pv i H → G H)
    (hs : ∀ i x H H', i < n → Pv i H → Y i H x H' → g x (wipe σ vs) H' fun σ2 H2 => wipe σ2 vs = wipe σ vs ∧ te σ2 H2 fun y H4 => y = .bl true ∧ Pv (i + 1) H4) (hd : ∀ H, Pv n H → Q (.bl true) H) :
    ∃ n W N Yw, geTurn J g te σ vs n W Yw N ∧ W [] H ∧ (∀ ys H', N ys H' → Q (.bl true) H') ∧ ∀ ys x H', Yw ys x H' → ∃ b, x = .bl b ∧ (b = true → W (ys ++ [x]) H') ∧ (b = false → Q (.bl false) H') := by
  refine ⟨n, fun ys H => ys.length ≤ n ∧ Pv ys.length H, fun ys H => Pv n H, fun ys y H => y = .bl true ∧ ys.length < n ∧ Pv (ys.length + 1) H, fun ys H hw => ?_, ⟨Nat.zero_le _, h0⟩, fun _ H' q => hd H' q, fun ys x H' hy => ?_⟩
  · obtain ⟨hl, hp⟩ := hw
    rcases Nat.lt_or_ge ys.length n with hlt | hge
    · refine .inr ⟨hlt, w.goes _ H hlt (hG _ H hl hp), fun x H' y => ?_⟩
      have q := hs ys.length x H H' hlt hp (w.yields _ H x H' hlt (hG _ H hl hp) y)
      have e : (fun (y : V) (H4 : Hp) => y = V.bl true ∧ ys.length < n ∧ Pv (ys.length + 1) H4) = fun y H4 => y = .bl true ∧ Pv (ys.length + 1) H4 := by
        funext y H4
        simp [hlt]
      show g x (wipe σ vs) H' fun σ2 H2 => wipe σ2 vs = wipe σ vs ∧ te σ2 H2 fun (y : V) (H4 : Hp) => y = V.bl true ∧ ys.length < n ∧ Pv (ys.length + 1) H4
      rw [e]
      exact q
    · have e : ys.length = n := Nat.le_antisymm hl hge
      rw [e] at hp
      exact .inl ⟨e, w.stops H (hG _ H (Nat.le_refl _) hp), hp⟩
  · obtain ⟨rfl, hlt, hp⟩ := hy
    exact ⟨true, rfl, fun _ => ⟨by rw [List.length_append, List.length_singleton]; omega, by rw [List.length_append, List.length_singleton]; exact hp⟩, fun z => by cases z⟩
/-- the sum of f 0, f 1, .. -/
def fsum (f : Nat → Int) : Nat → Int
  | 0 => 0
  | n + 1 => fsum f n + f n
theorem fsum_bound {f : Nat → Int} {n : Nat} (hf : ∀ i, i < n → 0 ≤ f i ∧ f i ≤ 1000000) : ∀ m, m ≤ n → 0 ≤ fsum f m ∧ fsum f m ≤ 1000000 * m
  | 0, _ => ⟨Int.le_refl 0, by simp [fsum]⟩
  | m + 1, hm => by
    have ih := fsum_bound hf m (by omega)
    have h1 := hf m (by omega)
    simp only [fsum]
    refine ⟨by omega, ?_⟩
    have e : (1000000 * ((m + 1 : Nat) : Int)) = 1000000 * (m : Int) + 1000000 := by
      rw [Int.natCast_add]; omega
    omega
theorem sum_vals (w : Walk J n G Y) (f : Nat → Int) (Pv : Nat → Hp → Prop) (h0 : Pv 0 H) (hG : ∀ i H, i ≤ n → Pv i H → G H) (hn : n ≤ 1000000) (hf : ∀ i, i < n → 0 ≤ f i ∧ f i ≤ 1000000)
    (hs : ∀ i x H H', i < n → Pv i H → Y i H x H' → g x (wipe σ vs) H' fun σ2 H2 => wipe σ2 vs = wipe σ vs ∧ te σ2 H2 fun y H4 => y = .int (f i) ∧ Pv (i + 1) H4) (hd : ∀ H, Pv n H → Q (.int (fsum f n)) H) :
    ∃ n W N Yw, geTurn J g te σ vs n W Yw N ∧ W [] H ∧ (∀ ys H', N ys H' → Q (.int (isum ys)) H') ∧ ∀ ys x H', Yw ys x H' → ∃ z : Int, x = .int z ∧ InLong z ∧ InLong (isum ys + z) ∧ W (ys ++ [x]) H' := by
  refine ⟨n, fun ys H => ys.length ≤ n ∧ isum ys = fsum f ys.length ∧ Pv ys.length H, fun ys H => isum ys = fsum f n ∧ Pv n H, fun ys y H => (ys.length < n ∧ isum ys = fsum f ys.length) ∧ y = .int (f ys.length) ∧ Pv (ys.length + 1) H, fun ys H hw => ?_, ⟨Nat.zero_le _, rfl, h0⟩, fun ys H' q => by rw [q.1]; exact hd H' q.2, fun ys x H' hy => ?_⟩
  · obtain ⟨hl, hsum, hp⟩ := hw
    rcases Nat.lt_or_ge ys.length n with hlt | hge
    · refine .inr ⟨hlt, w.goes _ H hlt (hG _ H hl hp), fun x H' y => ?_⟩
      have q := hs ys.length x H H' hlt hp (w.yields _ H x H' hlt (hG _ H hl hp) y)
      have e : (fun (y : V) (H4 : Hp) => (ys.length < n ∧ isum ys = fsum f ys.length) ∧ y = .int (f ys.length) ∧ Pv (ys.length + 1) H4) = fun y H4 => y = .int (f ys.length) ∧ Pv (ys.length + 1) H4 := by
        funext y H4
        simp [hlt, hsum]
      show g x (wipe σ vs) H' fun σ2 H2 => wipe σ2 vs = wipe σ vs ∧ te σ2 H2 fun (y : V) (H4 : Hp) => (ys.length < n ∧ isum ys = fsum f ys.length) ∧ y = .int (f ys.length) ∧ Pv (ys.length + 1) H4
      rw [e]
      exact q
    · have e : ys.length = n := Nat.le_antisymm hl hge
      rw [e] at hp hsum
      exact .inl ⟨e, w.stops H (hG _ H (Nat.le_refl _) hp), hsum, hp⟩
  · obtain ⟨⟨hlt, hsum⟩, rfl, hp⟩ := hy
    have b1 := hf _ hlt
    have b2 := fsum_bound hf ys.length (Nat.le_of_lt hlt)
    have p63 : (2 : Int) ^ 63 = 9223372036854775808 := by decide
    have e1 : isum (ys ++ [V.int (f ys.length)]) = isum ys + f ys.length := isum_app _ _
    have l1 : (ys ++ [V.int (f ys.length)]).length = ys.length + 1 := by rw [List.length_append, List.length_singleton]
    refine ⟨_, rfl, ⟨by rw [p63]; omega, by rw [p63]; omega⟩, ⟨by rw [p63]; omega, by rw [p63]; omega⟩, by rw [l1]; omega, ?_, by rw [l1]; exact hp⟩
    rw [e1, l1, hsum]
    rfl
/-- a new tuple of what comes; Pv by the items so far -/
theorem tup_vals (w : Walk J n G Y) (Pv : List V → Hp → Prop) (h0 : Pv [] H) (hG : ∀ ys H, ys.length ≤ n → Pv ys H → G H) (hn : n ≤ 1000000)
    (hs : ∀ ys x H H', ys.length < n → Pv ys H → Y ys.length H x H' → g x (wipe σ vs) H' fun σ2 H2 => wipe σ2 vs = wipe σ vs ∧ te σ2 H2 fun y H4 => Pv (ys ++ [y]) H4) (hd : ∀ ys H, ys.length = n → Pv ys H → ∀ p, H p = none → Q (.ref p) (upd H p (.tup ys))) :
    ∃ n W N Yw, geTurn J g te σ vs n W Yw N ∧ W [] H ∧ n ≤ 1000000 ∧ (∀ ys H', N ys H' → ∀ p, H' p = none → Q (.ref p) (upd H' p (.tup ys))) ∧ ∀ ys x H', Yw ys x H' → W (ys ++ [x]) H' := by
  refine ⟨n, fun ys H => ys.length ≤ n ∧ Pv ys H, fun ys H => ys.length = n ∧ Pv ys H, fun ys y H => ys.length < n ∧ Pv (ys ++ [y]) H, fun ys H hw => ?_, ⟨Nat.zero_le _, h0⟩, hn, fun ys H' q => hd ys H' q.1 q.2, fun ys x H' hy => ⟨by rw [List.length_append, List.length_singleton]; omega, hy.2⟩⟩
  obtain ⟨hl, hp⟩ := hw
  rcases Nat.lt_or_ge ys.length n with hlt | hge
  · refine .inr ⟨hlt, w.goes _ H hlt (hG _ H hl hp), fun x H' y => ?_⟩
    have q := hs ys x H H' hlt hp (w.yields _ H x H' hlt (hG _ H hl hp) y)
    have e : (fun (y : V) (H4 : Hp) => ys.length < n ∧ Pv (ys ++ [y]) H4) = fun y H4 => Pv (ys ++ [y]) H4 := by
      funext y H4
      simp [hlt]
    show g x (wipe σ vs) H' fun σ2 H2 => wipe σ2 vs = wipe σ vs ∧ te σ2 H2 fun (y : V) (H4 : Hp) => ys.length < n ∧ Pv (ys ++ [y]) H4
    rw [e]
    exact q
  · have e : ys.length = n := Nat.le_antisymm hl hge
    exact .inl ⟨e, by have := w.stops H (hG _ H (by omega) hp); exact this, e, hp⟩
end
end Ge
/-! A lambda with parameters and captured names, handed to a def and called there: the callee's promise is taken at a base that holds the lambda's object and the captured cells. -/
namespace La
open PySem PySem.Spec PyProof.Rows L2 LamX NdefX

def addB (b0 h : Heap) (L : List Addr) : Heap := PySem.W.hideAll h ((List.range h.objs.size).filter fun a => !((b0.get? a).isSome || decide (a ∈ L)))
theorem addB_get {b0 h : Heap} {L : List Addr} {b : Addr} {o : Obj} (e : h.get? b = some o) (hb : (b0.get? b).isSome = true ∨ b ∈ L) : (addB b0 h L).get? b = some o :=
  PySem.W.hideAll_get _ e fun hm => by
    have q := (List.mem_filter.mp hm).2
    rcases hb with z | z <;> simp [z] at q
theorem of_addB {b0 h : Heap} {L : List Addr} {b : Addr} {o : Obj} (e : (addB b0 h L).get? b = some o) : h.get? b = some o ∧ ((b0.get? b).isSome = true ∨ b ∈ L) := by
  have e' : h.get? b = some o := PySem.W.of_hideAll _ e
  refine ⟨e', ?_⟩
  by_cases hb : (b0.get? b).isSome = true ∨ b ∈ L
  · exact hb
  · have hm : b ∈ (List.range h.objs.size).filter fun a => !((b0.get? a).isSome || decide (a ∈ L)) := List.mem_filter.mpr ⟨List.mem_range.mpr (Heap.lt_size e'), by
      simp only [not_or] at hb
      simp [hb.1, hb.2]⟩
    have z : (addB b0 h L).get? b = none := PySem.W.hideAll_none _ hm
    rw [z] at e
    cases e
theorem addB_size (b0 h : Heap) (L : List Addr) : (addB b0 h L).objs.size = h.objs.size := PySem.W.hideAll_size _ _
theorem funs_base {h b b' : Heap} : ∀ {l : List Env}, h.FunFrames b l → (∀ x ∈ frs l, b'.get? x = none) → h.FunFrames b' l
  | [], _, _ => trivial
  | env :: r, hl, hx => by
    obtain ⟨hk, ⟨L, o, hf, hn, ho, hd⟩, hr⟩ := hl
    refine ⟨hk, ⟨L, o, hf, hx L (by unfold frs; rw [List.filterMap_cons, hf]; exact List.mem_cons_self), ho, hd⟩, funs_base hr fun x hx' => hx x ?_⟩
    unfold frs
    rw [List.filterMap_cons, hf]
    exact List.mem_cons_of_mem _ hx'

section
variable {X : Cx} {pins : List (Addr × Obj)} {σ : L2.St} {H : Hp} {s : Shared}
theorem base_sub (I : Inv X pins σ H s) (L : List Addr) : ∀ b o, X.base.get? b = some o → (addB X.base s.heap L).get? b = some o := fun b o e => addB_get (I.bk b o e) (.inl (by rw [e] <;> rfl))
theorem env0_add (I : Inv X pins σ H s) {L : List Addr} (hL : ∀ b ∈ L, H b = none ∧ b ∉ frs X.stack) : Env0 X.prog X.w X.K X.mg (addB X.base s.heap L) X.A X.stack s H := by
  have k := base_sub I L
  have m := I.ok.mod
  refine ⟨I.ok.frames, ⟨m.kin.keeps k, m.glob.keeps k, ?_, m.nolimit.keeps k⟩, fun b o e => ?_, Nat.le_of_eq (addB_size _ _ _), funs_base I.stack fun x hx => ?_, I.stkFree, I.hok, I.bare⟩
  · obtain ⟨mb, h1, h2⟩ := m.blt
    exact ⟨mb, h1.keeps k, h2⟩
  · obtain ⟨e1, e2⟩ := of_addB e
    refine ⟨e1, ?_⟩
    rcases e2 with z | z
    · obtain ⟨o', z⟩ := Option.isSome_iff_exists.mp z
      exact (I.bs b o' z).2
    · exact (hL b z).1
  · cases q : (addB X.base s.heap L).get? x with
    | none => rfl
    | some o =>
      obtain ⟨e1, e2⟩ := of_addB q
      rcases e2 with z | z
      · rw [(I.stack.mem hx).1] at z
        cases z
      · exact absurd hx (hL x z).2
end

/-- the captured cells, as they stand in a base -/
structure BaseCells (base : Heap) (cl : List (Str × Addr)) (fr : List Str) (ws : List (Option V)) : Prop where
  len : ws.length = fr.length
  all : ∀ y c, cl.lookup y = some c → ∃ v, base.IsCell c v
  inj : ∀ x y c, cl.lookup x = some c → cl.lookup y = some c → x = y
  has : ∀ (i : Nat) (y : Str), fr[i]? = some y → ∃ c, cl.lookup y = some c ∧ ∀ v, ws[i]? = some (some v) → ∃ u, L2.RelV v u ∧ base.IsCell c (some u)
theorem BaseCells.at {base h : Heap} {cl : List (Str × Addr)} {fr : List Str} {ws : List (Option V)} {H : Hp} (C : BaseCells base cl fr ws) (bs : ∀ b o, base.get? b = some o → h.get? b = some o ∧ H b = none) : CellsAt cl fr ws h H := by
  refine ⟨C.len, fun y c e => ?_, C.inj, fun i y e => ?_⟩
  · obtain ⟨v, o, ho, hd⟩ := C.all y c e
    exact ⟨(bs _ _ ho).2, v, o, (bs _ _ ho).1, hd⟩
  · obtain ⟨c, hc, hv⟩ := C.has i y e
    refine ⟨c, hc, fun v ev => ?_⟩
    obtain ⟨u, r, o, ho, hd⟩ := hv v ev
    exact ⟨u, r, o, (bs _ _ ho).1, hd⟩

/-- the lambda at f, at a base that holds it -/
theorem lam_fn {P : Program} {w : World} {K : PySem.W.Frag} {mg : Str → Option Value} {base : Heap} {k : Nat} {f : Addr} {F : NF} {params : Arguments} {body : Expr} {pm ctv : Value} {N ps fr : List Str} {ws : List (Option V)} {sp : Sp}
    (hf : base.get? f = some (PySem.W.kla_obj "<lambda>" F.qual params body F.scope F.cl pm F.c ctv)) (S : NScope N ps fr F.scope) (C : BaseCells base F.cl fr ws)
    (len : ∀ vs H Q E, sp vs H Q E → vs.length = ps.length) (hcode : ∀ vs H Q E, sp vs H Q E → H F.c = some (CodeO F.c F.qual))
    (hbody : ∀ (A : Around) (outer : List Env) (s : Shared) (H : Hp) (vs : List V) (Q : VK) (E : XK), Room k (A.deeper (envF F f s.heap.objs.size)) → sp vs H Q E →
      ∃ te, PE (ncx CX0 P w K mg base N F f A outer s H E).nox body te ∧ te (startF N vs ws) H Q) :
    FnOk P w K mg base CX0 (k + 1) f (PySem.W.kla_fn "<lambda>" F.qual params body F.scope F.cl pm (.ref F.c) ctv) ps sp := by
  refine ⟨len, fun A outer s H args us vs Q E hr e0 hb r hsp => ?_⟩
  have hl := len _ _ _ _ hsp
  have lim : s.heap.NoLimit := e0.mod.nolimit.keeps fun b o e => (e0.bs b o e).1
  have ho := (e0.bs _ _ hf).1
  refine PySem.W.kla_callFunE hr.depth ho rfl S.co S.gen rfl (codeO_at e0.hok (hcode _ _ _ _ hsp)) (hb _ _ _ _ ?_)
  refine (wpAny_newFunctionEnv S.nocell (fun ⟨n, _⟩ hy => S.par n (List.of_mem_zip hy).1) (fun h₁ hns hsb => ⟨lim.fresh _ hsb, ?_⟩) S.kind)
  show codeAny _ _ (.expr body (envF F f s.heap.objs.size)) _ _
  have kp : ∀ b o, s.heap.get? b = some o → h₁.get? b = some o := fun b o e => hsb.extBut b o (Nat.ne_of_lt (Heap.lt_size e)) (Heap.get?_push_of_some _ e)
  obtain ⟨te, ht, hq⟩ := hbody A outer s H vs Q E (hr.deeper _) hsp
  have I : Inv (ncx CX0 P w K mg base N F f A outer s H E) [] (startF N vs ws) H { s with heap := h₁, toks := s.toks + (ps.zip us).length } := inv_startN S hr.hd e0 hl r (C.at e0.bs) hns kp
  refine PySem.W.kla_codeExpr (wpAny_mono (ht.nox.run [] _ (startF N vs ws) H Q I hq) (fun v s' hq => ?_) fun e s' hq => hq)
  obtain ⟨w', H', J', rv, q⟩ := hq
  exact ⟨w', H', J'.os, J'.bare, J'.base, J'.hok, rv, q⟩

/-- f(e), the local name f holds a function that stands in the base -/
theorem pe_callF {X : Cx} {k i : Nat} {f : Addr} {fd : FuncData} {ps : List Str} {sp : Sp} {x : Str} {p pos : Pos} {e : Expr} {es : List Expr} {t : TA} (F : FnOk X.prog X.w X.K X.mg X.base CX0 k f fd ps sp) (hr : Room k X.A) (hN : X.N[i]? = some x) (hv : Vis X.env.scope x) (hfn : PySem.W.FnAt f X.base) (hb : Binds X.K fd ps [])
    (ha : PA X (e :: es) t) (hdb : (x == ("__debug__" : Str)) = false := by decide) (hcd : (x == ("__classdict__" : Str)) = false := by decide)
    (he : starEach (e :: es) X.env = (false, eval e X.env) :: starEach es X.env := by rfl) (hpl : (backTo pos (starEach es X.env)).any (·.1) = false := by rfl) : PE X (.Call (.Name x p) (e :: es) [] pos) (tCallL i f sp [] E0 t) := by
  refine ⟨fun pins s σ H Q I h => ?_⟩
  obtain ⟨hs, ht⟩ := h
  have fat : ∀ {s' : Shared} {σ' H'}, Inv X pins σ' H' s' → PySem.W.FnAt f s'.heap := fun {s' σ' H'} I' => by
    obtain ⟨a, b, c, d, e⟩ := hfn
    exact ⟨a, b, c, d, I'.bk _ _ e⟩
  refine wpAny_Call_Name_kw (thn ((pe_var (pos := p) hN hv hdb hcd).run pins s σ H (fun v H1 => v = .ref f ∧ H1 = H) I ⟨.ref f, hs, rfl, rfl⟩) fun u s1 ⟨v, H1, I1, r1, q1⟩ => ?_)
  obtain ⟨rfl, rfl⟩ := q1
  cases r1
  refine PySem.W.callWith_F (first := []) (fat I1) (thn (ha.run pos pins s1 σ _ _ I1 ht) fun us s2 ⟨vs, H2, I2, r, q⟩ => ⟨fat I2, ?_⟩) he hpl
  exact run_fn F hr hb .nil pass0 I2 r q

def tLam (T : List (Addr × Str)) (q : Str) (js : List Nat) (te1 : TE) (spF : Addr → Addr → List (Option V) → Sp) : TE := fun σ H Q =>
  te1 σ H fun v1 H1 => Tabs T H1 ∧ ∀ f c' H2, ExtN H1 H2 → Tabs T H2 → H2 f = none → H2 c' = some (CodeO c' q) → spF f c' (js.map (slotAt σ)) [v1, .ref f] H2 Q E0

theorem pe_lam {X : Cx} {x : Str} {ff c P : Addr} {fdF : FuncData} {psF N ps fr : List Str} {js : List Nat} {e1 body : Expr} {te1 : TE} {params : Arguments} {scope : Scope} {lpos p pos : Pos} {T : List (Addr × Str)} {kL kF : Nat} {spL : Addr → List (Option V) → Sp} {spF : Addr → Addr → List (Option V) → Sp}
    (hall : ∀ y, X.fn y = true) (TB : LamX.TabB X.base X.mg c P) (hcode : X.env.code = .ref c) (hm : (P, X.env.qual ++ "<lambda>") ∈ T) (hu : ∀ p ∈ T, p.1 = P → p.2 = X.env.qual ++ "<lambda>") (hdef : defaultsOf params X.env = ([], []))
    (hfree : ∀ y ∈ scope.names, y.2 = .free → X.env.scope.names.lookup y.1 = some .cell ∨ X.env.scope.names.lookup y.1 = some .free) (S : NScope N ps fr scope) (hfr : ∀ y ∈ fr, (y, NameKind.free) ∈ scope.names) (hjs : js.map (fun j => X.N[j]?) = fr.map some)
    (hbind : ∀ (q : Str) (cl : List (Str × Addr)) (pm ctv : Value) (c' : Addr) (us : List Value), us.length = ps.length → bindArgs (PySem.W.kla_fn "<lambda>" q params body scope cl pm (.ref c') ctv) ⟨us, []⟩ = pure (ps.zip us))
    (len : ∀ c' ws vs H Q E, spL c' ws vs H Q E → vs.length = ps.length) (hlc : ∀ c' ws vs H Q E, spL c' ws vs H Q E → H c' = some (CodeO c' (X.env.qual ++ "<lambda>")))
    (hbody : ∀ base', (∀ b o, X.base.get? b = some o → base'.get? b = some o) → ∀ (f c' : Addr) (cl : List (Str × Addr)) (A : Around) (outer : List Env) (s : Shared) (H : Hp) (vs : List V) (ws : List (Option V)) (Q : VK) (E : XK), Room kL (A.deeper (envF ⟨"<lambda>", X.env.qual ++ "<lambda>", params, [], scope, cl, c'⟩ f s.heap.objs.size)) → spL c' ws vs H Q E →
      ∃ te, PE (ncx CX0 X.prog X.w X.K X.mg base' N ⟨"<lambda>", X.env.qual ++ "<lambda>", params, [], scope, cl, c'⟩ f A outer s H E).nox body te ∧ te (startF N vs ws) H Q)
    (hF : ∀ base', (∀ b o, X.base.get? b = some o → base'.get? b = some o) → ∀ (f c' : Addr) (ws : List (Option V)) (fdL : FuncData), PySem.W.FnAt f base' → Binds X.K fdL ps [] → FnOk X.prog X.w X.K X.mg base' CX0 (kL + 1) f fdL ps (spL c' ws) → FnOk X.prog X.w X.K X.mg base' CX0 kF ff fdF psF (spF f c' ws))
    (hr : Room kF X.A) (hg : Gl X x) (hmx : X.mg x = some (.ref ff)) (hk : PySem.W.keepIn X.K (.ref ff) = true) (hbF : Binds X.K fdF psF []) (he1 : PE X e1 te1)
    (hdb : (x == ("__debug__" : Str)) = false := by decide) (hs1 : starEach [e1, .Lambda params body scope lpos] X.env = (false, eval e1 X.env) :: starEach [.Lambda params body scope lpos] X.env := by rfl)
    (hs2 : starEach [.Lambda params body scope lpos] X.env = (false, eval (.Lambda params body scope lpos) X.env) :: starEach [] X.env := by rfl) (hpl : (backTo pos (starEach [.Lambda params body scope lpos] X.env)).any (·.1) = false := by rfl) :
    PE X (.Call (.Name x p) [e1, .Lambda params body scope lpos] [] pos) (tLam T (X.env.qual ++ "<lambda>") js te1 spF) := by
  refine ⟨fun pins s σ H Q I h => ?_⟩
  refine wpAny_Call_Name_kw (ld_glob I hg hmx ?_ hdb)
  refine PySem.W.callWith_K (h₀ := X.base) I.ok.mod.kin hk ?_ hs1 hpl
  rw [hs1]
  show wpAny _ _ (spliced ((false, eval e1 X.env) :: backTo pos (starEach [.Lambda params body scope lpos] X.env))) _ _ s
  refine Calls.spliced_cons (thn (he1.run pins s σ H _ I h) fun u1 s1 ⟨v1, H1, I1, r1, hT1, q1⟩ => ?_)
  rw [hs2]
  show wpAny _ _ (spliced ((false, eval (.Lambda params body scope lpos) X.env) :: backTo pos (starEach [] X.env))) _ _ s1
  have hfr2 : ∀ y ∈ scope.names, y.2 = .free → ∃ c, X.env.cells.lookup y.1 = some c := fun y hy e => (hfree y hy e).elim (fun z => I.ok.has _ (.inl z)) fun z => I.ok.has _ (.inr z)
  refine Calls.spliced_cons (lam_make2 I1 TB hcode hm hu hT1 hdef hfr2 fun f c' pm ctv H2 s2 I2 eN T2 hof hfn hfs hc2 => ?_)
  refine Calls.spliced_nil ⟨I2.kIn, ?_⟩
  have cp : Caps X (cloFrom X.env.cells scope.names []) fr js := Caps.made I2.ok hfree hfr hjs
  have C := cells_of I2 cp
  -- the base with the lambda and the captured cells
  let cs : List Addr := (cloFrom X.env.cells scope.names []).map (·.2)
  have inC : ∀ y c, (cloFrom X.env.cells scope.names []).lookup y = some c → c ∈ cs := fun y c e => List.mem_map.mpr ⟨(y, c), PySem.mem_of_lookup e, rfl⟩
  have ofC : ∀ c ∈ cs, ∃ y, X.env.cells.lookup y = some c := fun c hc => by
    obtain ⟨p, hp, e⟩ := List.mem_map.mp hc
    obtain ⟨y, c1⟩ := p
    have e : c1 = c := e
    subst e
    rcases cloFrom_mem hp with hm | ⟨h1, h2⟩
    · cases hm
    · obtain ⟨c2, h3⟩ := hfr2 _ h1 rfl
      have h3 : X.env.cells.lookup y = some c2 := h3
      refine ⟨y, ?_⟩
      rw [h2, h3] <;> rfl
  have hL : ∀ b ∈ f :: cs, H2 b = none ∧ b ∉ frs X.stack := fun b hb => by
    rcases List.mem_cons.mp hb with z | z
    · rw [z]
      exact ⟨hfn, hfs⟩
    · obtain ⟨y, e⟩ := ofC b z
      refine ⟨I2.freeC y b e, fun hx => ?_⟩
      obtain ⟨v, o, ho, hd⟩ := I2.cell y b e
      rcases List.mem_cons.mp (I2.stkSub b hx) with q | q
      · exact I2.cne y b e q
      · obtain ⟨_, o', ho', _⟩ := I2.ok.funs.mem q
        exact absurd (Nat.lt_of_lt_of_le (Heap.lt_size ho') (I2.ok.cab y b (hall y) e)) (Nat.lt_irrefl _)
  have k' := base_sub I2 (f :: cs)
  have e0 := env0_add I2 hL
  have hfb : (addB X.base s2.heap (f :: cs)).get? f = some (PySem.W.kla_obj "<lambda>" (X.env.qual ++ "<lambda>") params body scope (cloFrom X.env.cells scope.names []) pm c' ctv) := addB_get hof (.inr List.mem_cons_self)
  have BC : BaseCells (addB X.base s2.heap (f :: cs)) (cloFrom X.env.cells scope.names []) fr (js.map (slotAt σ)) := by
    refine ⟨C.len, fun y c e => ?_, C.inj, fun i y e => ?_⟩
    · obtain ⟨_, v, o, ho, hd⟩ := C.all y c e
      exact ⟨v, o, addB_get ho (.inr (List.mem_cons_of_mem _ (inC y c e))), hd⟩
    · obtain ⟨c, hc, hv⟩ := C.has i y e
      refine ⟨c, hc, fun v ev => ?_⟩
      obtain ⟨u, r, o, ho, hd⟩ := hv v ev
      exact ⟨u, r, o, addB_get ho (.inr (List.mem_cons_of_mem _ (inC y c hc))), hd⟩
  have FL := lam_fn (P := X.prog) (w := X.w) (K := X.K) (mg := X.mg) (k := kL) (F := ⟨"<lambda>", X.env.qual ++ "<lambda>", params, [], scope, cloFrom X.env.cells scope.names [], c'⟩) (sp := spL c' (js.map (slotAt σ))) hfb S BC (len c' _) (hlc c' _)
    (fun A outer s H vs Q E hr hsp => hbody _ k' f c' _ A outer s H vs _ Q E hr hsp)
  have FF := hF _ k' f c' (js.map (slotAt σ)) _ ⟨_, _, _, _, hfb⟩ (.all (hbind _ _ _ _ _)) FL
  have rvs : Vals [v1, .ref f] [u1, .ref f] := .cons r1 (.cons rfl .nil)
  have hq := q1 f c' H2 eN T2 hfn hc2
  refine wpAny_call (codeAny_mono (FF.run X.A X.stack s2 H2 ⟨[u1, .ref f], []⟩ ([u1, .ref f] ++ []) [v1, .ref f] Q E0 hr e0 (hbF s2 [u1, .ref f] I2.kIn ?_) rvs hq) fun r s' hq' => ?_)
  · have := FF.len _ _ _ _ hq
    simpa using this
  cases r with
  | error e => exact hq'.elim
  | ok fl =>
    cases fl with
    | ret u => exact I2.after hq'
    | next => exact False.elim hq'
    | brk => exact False.elim hq'
    | cont => exact False.elim hq'
end La
/-! enumerate over a tuple -/
namespace En
open PySem PySem.Spec PyProof.Rows L2
open AutoSeq1 (wpAny_loadPart')

theorem meets_enumT (l : Addr) (items : Array Value) (n : Nat) (dct : Option Addr) (sl : Array (Option Value)) :
    Meets (Builtin.«enumerate.__new__» ⟨[.type "enumerate", .ref l], []⟩) (fun _ R s => s.heap.get? l = some { cls := .type "tuple", dict := dct, data := .seq items n, slots := sl } ∧
      R (.ok (.ret (.ref (s.heap.push { cls := .type "tuple_iterator", data := .fields #[.ref l, .int 0 0] }).objs.size)))
        { s with heap := (s.heap.push { cls := .type "tuple_iterator", data := .fields #[.ref l, .int 0 0] }).push { cls := .type "enumerate", data := .fields #[.none, .bool false, .ref s.heap.objs.size, rawInt 0, .none, .none] } }) :=
  .of_wp fun prog w A R s h => by
    obtain ⟨hp, g, d, tk, os⟩ := s; obtain ⟨hl, h⟩ := h
    have hsub := sub_enumerate
    have hL : Heap.IsTuple (Shared.heap ⟨hp, g, d, tk, os⟩) l items := ⟨_, hl, rfl, n, rfl⟩
    wp_walk using wpAny_loadPart' hl
    refine wpAny_stack_any fun st => wpAny_pure ?_
    split
    · rename_i c _ _ _ _ _
      cases (c == Value.type "enumerate")
      · wp_walk using wpAny_loadPart' hl, wpAny_pyIter_tuple hL
        exact ⟨_, rfl, h⟩
      · wp_walk using wpAny_loadPart' hl, wpAny_pyIter_tuple hL
        exact ⟨_, rfl, h⟩
    · wp_walk using wpAny_loadPart' hl, wpAny_pyIter_tuple hL
      exact ⟨_, rfl, h⟩

section
variable {prog : Program} {w : World} {A : Around} {E : Value → Shared → Prop} {s : Shared}
theorem call_enumT {l : Addr} {items : Array Value} {Q : Value → Shared → Prop} (hL : s.heap.IsTuple l items)
    (h : ∀ h', IsEnum h' (s.heap.objs.size + 1) s.heap.objs.size 0 .none → h'.IsTupleIter s.heap.objs.size l 0 → h'.objs.size = s.heap.objs.size + 2 →
      (∀ b o, s.heap.get? b = some o → h'.get? b = some o) → Q (.ref (s.heap.objs.size + 1)) { s with heap := h' }) :
    wpAny (model prog w) A (call (.type "enumerate") [.ref l]) Q E s := by
  obtain ⟨⟨c, dct, dt, sl⟩, hl, hc, n, hd⟩ := hL
  replace hc : c = .type "tuple" := hc
  replace hd : dt = .seq items n := hd
  subst hc hd
  refine callType_new F.called_enumerate (by decide) (F.typeCall_enumerate_1 _) (F.newCall_enumerate_1 _) (fun obj => F.args_object_init_2 obj _) F.entry_enumerate_new
    (meets_enumT l items n dct sl) ⟨hl, ?_⟩
  have hz : (s.heap.push { cls := .type "tuple_iterator", data := .fields #[.ref l, .int 0 0] }).objs.size = s.heap.objs.size + 1 := Heap.size_push ..
  show _ ∧ _
  rw [hz]
  have he : IsEnum ((s.heap.push { cls := .type "tuple_iterator", data := .fields #[.ref l, .int 0 0] }).push
      { cls := .type "enumerate", data := .fields #[.none, .bool false, .ref s.heap.objs.size, rawInt 0, .none, .none] }) (s.heap.objs.size + 1) s.heap.objs.size 0 .none := by
    have := Heap.get?_push_size (s.heap.push { cls := .type "tuple_iterator", data := .fields #[.ref l, .int 0 0] })
      (o := { cls := .type "enumerate", data := .fields #[.none, .bool false, .ref s.heap.objs.size, rawInt 0, .none, .none] }) rfl
    rw [hz] at this; exact this
  refine ⟨⟨_, he, rfl⟩, h _ he ⟨_, Heap.get?_push_of_some _ (Heap.get?_push_size _ rfl), rfl, rfl⟩ (by rw [Heap.size_push, hz]) fun b o x => Heap.get?_push_of_some _ (Heap.get?_push_of_some _ x)⟩
end

theorem enT_apart {h : Heap} {a it : Addr} {items : Array Value} {i : Nat} (p : h.IsTuple a items) (hit : h.IsTupleIter it a i) : a ≠ it := fun z => by
  obtain ⟨o1, e1, c1, _⟩ := hit
  obtain ⟨o2, e2, c2, _⟩ := p
  rw [← z, e2] at e1
  cases e1
  rw [c2] at c1
  injection c1 with q
  exact absurd q (by decide)
def IteT (K : PySem.W.Frag) (a : Addr) : It :=
  ⟨fun i H => ∃ (xs : List V) (x : V), SqT K H a xs ∧ xs[i]? = some x, fun i H v H' => ∃ T x, v = .ref T ∧ H T = none ∧ H' = upd H T (.tup [.int (i : Nat), x]) ∧ ∀ xs, SqT K H a xs → xs[i]? = some x, fun i H => ∃ xs : List V, SqT K H a xs ∧ xs.length = i⟩
theorem turn_enumT {P : Program} {w : World} {K : PySem.W.Frag} {elts : List Expr} {kk : Nat} {tpos : Pos} (a e it : Addr) :
    Turn P w K (.Tuple elts kk tpos) (IteT K a) [e, it] e (fun i h => (∃ old, IsEnum h e it ((i : Nat) : Int) old) ∧ h.IsTupleIter it a i ∧ e ≠ it) where
  mem := by simp
  obj := fun i h st b hb => by
    obtain ⟨⟨old, he⟩, ⟨o, ho, hc, hd⟩, _⟩ := st
    have e' : b = e ∨ b = it := by simpa using hb
    rcases e' with z | z
    · rw [z]; exact ⟨_, he, fun v q => nomatch q⟩
    · rw [z]; exact ⟨o, ho, fun v q => by rw [hd] at q; cases q⟩
  keep := fun i h h' st k => let ⟨⟨old, he⟩, hi, hne⟩ := st; ⟨⟨old, k e (by simp) _ he⟩, hi.at fun o q => k it (by simp) o q, hne⟩
  item := by
    intro X hP hw hK hc i pins s σ H E I hf st hg
    subst hP hw hK
    obtain ⟨⟨old, he⟩, hit, hne⟩ := st
    obtain ⟨xs, x, hq, hx⟩ := hg
    obtain ⟨its, rv, p, hz⟩ := I.tuple hq
    obtain ⟨u, hu, ru⟩ := rv.get hx
    have hel : e < s.heap.objs.size := Heap.lt_size he
    have hil : it < s.heap.objs.size := by obtain ⟨_, q, _⟩ := hit; exact Heap.lt_size q
    have hlt : i < its.toArray.size := by
      have hu' : its[i]? = some u := hu
      obtain ⟨h1, _⟩ := List.getElem?_eq_some_iff.mp hu'
      simpa using h1
    have ht : s.heap.IsTuple a its.toArray := p
    have hat : a ≠ it := enT_apart ht hit
    have hea : e ≠ a := fun z => by
      obtain ⟨o2, e2, c2, _⟩ := p
      rw [z] at he
      have he' : s.heap.get? a = some _ := he
      rw [e2] at he'
      cases he'
      injection c2 with q
      exact absurd q (by decide)
    have D := Draws.tuple (prog := X.prog) (w := X.w) (A := X.A.in1) (show X.A.in1.handled = none from I.ok.hd hc) it a hat its.toArray
    refine wpAny_pyNext_enum_itemD D he ⟨hit, ht⟩ hlt hne (by simp [hne, hea]) fun x' h' tk hPx ho hst' hT hsz hk => ?_
    obtain ⟨hit', _⟩ := hst'
    have hux : x' = u := by
      have q : its.toArray[i]? = some x' := hPx
      have hu' : its[i]? = some u := hu
      simp only [List.getElem?_toArray] at q
      rw [hu'] at q
      exact (Option.some.inj q).symm
    subst hux
    refine ⟨_, rfl, wpAny_letOwnedTupleGo_enum (s := { s with heap := h', toks := tk + 1 }) ho fun h'' he' sb => ?_⟩
    have hT2 : h''.get? s.heap.objs.size = some { cls := .type "tuple", data := .seq #[.int i tk, x'] } := (sb.2 _ (Nat.ne_of_gt hel)).trans hT
    have new : ObjOk X.prog X.w (upd H s.heap.objs.size (.tup [.int (i : Nat), x])) h'' s.heap.objs.size (.tup [.int (i : Nat), x]) :=
      ⟨by show 2 ≤ sizeLine; decide, [.int i tk, x'], .cons ⟨_, rfl⟩ (.cons ru .nil), ⟨_, hT2, rfl, _, rfl⟩⟩
    have I1 : Inv X pins σ (upd H s.heap.objs.size (.tup [.int (i : Nat), x])) { s with heap := h'', toks := tk + 1 } :=
      I.turnedNew (ch := [e, it]) (fun b ob hb q => (sb.2 b (fun z => hb (by simp [z]))).trans (hk b ob (fun z => hb (by simp [z])) (fun z => hb (by simp [z])) q)) hf (Nat.le_refl _) new
    refine ⟨.ref s.heap.objs.size, _, I1, rfl, ⟨_, x, rfl, I.hok.fresh (Nat.le_refl _), rfl, fun ys hy => by rw [I.tuple_inj hy hq]; exact hx⟩, ⟨⟨x', ?_⟩, hit'.at fun o q => (sb.2 it (Ne.symm hne)).trans q, hne⟩, fun b hb => ?_⟩
    · have e1 : ((i + 1 : Nat) : Int) = (i : Int) + 1 := by omega
      rw [e1]; exact he'
    · have hb' : b < s.heap.objs.size := by
        have e' : b = e ∨ b = it := by simpa using hb
        rcases e' with z | z
        · rw [z]; exact hel
        · rw [z]; exact hil
      rw [upd_ne (Nat.ne_of_lt hb')]
      exact (hf b hb).1
  done := by
    intro X hP hw hK hc i pins s σ H E I hf st hg
    subst hP hw hK
    obtain ⟨⟨old, he⟩, hit, hne⟩ := st
    obtain ⟨xs, hq, hx⟩ := hg
    obtain ⟨its, rv, p, hz⟩ := I.tuple hq
    obtain ⟨f0, f1, f2, f3, f4, f5⟩ := hf it (by simp)
    have hl := rv.length
    have ht : s.heap.IsTuple a its.toArray := p
    have D := Draws.tuple (prog := X.prog) (w := X.w) (A := X.A.in1) (show X.A.in1.handled = none from I.ok.hd hc) it a (enT_apart ht hit) its.toArray
    have hi : i = its.toArray.size := by rw [List.size_toArray]; omega
    rw [hi] at hit
    exact wpAny_pyNext_enum_endD D he ⟨hit, ht⟩ fun h' eb => ⟨rfl, I.turned (t' := s.toks) (fun b o hb q => eb b o hb q) f0 f1 f3 f4 f5⟩
  self := fun A i s Q E st h => let ⟨⟨_, he⟩, _⟩ := st; wpAny_pyIter_enum he h
def iEnumT (K : PySem.W.Frag) (ta : TA) : TI := fun σ H R => ta σ H fun vs H1 => ∃ a xs, vs = [.ref a] ∧ SqT K H1 a xs ∧ R (IteT K a) H1
theorem pi_enumT {X : Cx} {e : Expr} {ta : TA} {p pos tpos : Pos} {elts : List Expr} {kk : Nat} (hg : Gl X "enumerate") (hm : X.mg "enumerate" = none) (ha : PA X [e] ta) (hs : starEach [e] X.env = [(false, eval e X.env)] := by rfl) :
    PI X (.Tuple elts kk tpos) (.Call (.Name "enumerate" p) [e] [] pos) (iEnumT X.K ta) := by
  refine ⟨fun pins s σ H R I h => ?_⟩
  refine Call_ (ld_blt I hg hm boot_enumerate (PyProof.Rows.callWith_type1 (thn (ha.run pos pins s σ H _ I h) fun us s1 ⟨vs, H1, I1, r1, q1⟩ => ?_) hs rfl))
  obtain ⟨a, xs, ex, hq, q⟩ := q1
  subst ex
  cases r1 with
  | cons r rr =>
    cases rr
    cases r
    obtain ⟨its, rv, p', hz⟩ := I1.tuple hq
    refine call_enumT (show s1.heap.IsTuple a its.toArray from p') fun h' he hit hsz hk => wpAny_pyIter_enum he ?_
    have I2 : Inv X pins σ H1 { s1 with heap := h' } := I1.kept (t' := s1.toks) hk
    refine ⟨s1.heap.objs.size + 1, [s1.heap.objs.size + 1, s1.heap.objs.size], _, _, H1, rfl, I2, turn_enumT a (s1.heap.objs.size + 1) s1.heap.objs.size, ⟨⟨.none, he⟩, hit, Nat.succ_ne_self _⟩, fun b hb => ?_, q⟩
    have e' : b = s1.heap.objs.size + 1 ∨ b = s1.heap.objs.size := by simpa using hb
    have hle : s1.heap.objs.size ≤ b := by
      rcases e' with z | z
      · rw [z]; exact Nat.le_add_right _ _
      · rw [z]; exact Nat.le_refl _
    exact I1.fpOk hle (I1.hok.fresh hle)
theorem walk_enumT {K : PySem.W.Frag} {a : Addr} {xs : List V} : Walk (IteT K a) xs.length (fun H => SqT K H a xs) (YPair (fun i => some (.int (i : Nat))) (fun i => xs[i]?)) := by
  refine ⟨fun i _ hi q => ⟨xs, xs[i], q, by simp [hi]⟩, fun _ q => ⟨xs, q, rfl⟩, fun i H v H' _ q y => ?_⟩
  obtain ⟨T, x, h1, h2, h3, h4⟩ := y
  exact ⟨T, .int (i : Nat), x, h1, h2, h3, rfl, h4 xs q⟩
open RZ in
theorem walk_zipT {K : PySem.W.Frag} {a b : Addr} {xs ys : List V} {n : Nat} (hn : n = min xs.length ys.length) : Walk (ItzT K a b) n (fun H => SqT K H a xs ∧ SqT K H b ys) (YPair (fun i => xs[i]?) (fun i => ys[i]?)) := by
  subst hn
  refine ⟨fun i _ hi q => ?_, fun _ q => ⟨xs, ys, q.1, q.2, by omega⟩, fun i H v H' _ q y => ?_⟩
  · have h1 : i < xs.length := by omega
    have h2 : i < ys.length := by omega
    exact ⟨xs, ys, xs[i], ys[i], q.1, q.2, by simp [h1], by simp [h2]⟩
  · obtain ⟨T, x, z, h1, h2, h3, h4, h5⟩ := y
    exact ⟨T, x, z, h1, h2, h3, h4 xs q.1, h5 ys q.2⟩
end En
/-! A calculus over the hand layer: what a value is as plain data, what the slots hold, what an expression gives, what a block leaves. -/
namespace Ty
open PySem PySem.Spec PyProof.Rows L2

/-- the built-in names that are used -/
def bnames : List Str := ["isinstance", "len", "tuple", "list", "int", "bool", "all", "sum", "zip", "range", "enumerate", "sorted", "dict"]
/-- all that stays the same through the whole proof -/
class Cf where
  P : Program
  w : World
  K : PySem.W.Frag
  mg : Str → Option Value
  gs : List (Addr × Addr)
  ls : List (Addr × Addr × Str)
  bn : ∀ x ∈ bnames, mg x = none
  cT : Addr
  cS : Addr
  cY : Addr
  apart : ∀ p ∈ gs, ∀ q ∈ ls, p.2 ≠ q.2.1
/-- the tape: its dict, its list of cells; where it stands, if told: at, great, left, seed, turn -/
structure TpA where
  t : Addr
  l : Addr
  cells : List Int
  st : Option (Int × Int × Int × Int × Int) := none
inductive D where
  | non
  | bl (b : Bool)
  | int (i : Int)
  | str (s : Str)
  | adr (a : Addr)
  | ty (n : String)
  | tup (l : List D)
  | xt (l : List D)
  | lst (l : List D)
  | ins (C : Addr) (ns : List Str) (l : List D)
  | dic (ns : List Str) (l : List D)
  | lam (f c : Addr) (q : Str)

variable [Cf]
def tapeD (l : Addr) (at_ gr lf sd tn : Int) : List (Key × V) :=
  [(.inr "cells", .ref l), (.inr "at", .int at_), (.inr "great", .int gr), (.inr "left", .int lf), (.inr "seed", .int sd), (.inr "turn", .int tn)]
def Tape (m : TpA) (H : Hp) : Prop := ∃ at_ gr lf sd tn : Int, (0 ≤ at_ ∧ ∀ s, m.st = some s → s = (at_, gr, lf, sd, tn)) ∧ H m.t = some (.dK (tapeD m.l at_ gr lf sd tn)) ∧ H m.l = some (.lst (m.cells.map V.int))
structure Iv (M : Option TpA) (H : Hp) : Prop where
  g : ∀ p ∈ Cf.gs, GxR.TabG H p.2
  l : LamX.Tabs (Cf.ls.map (·.2)) H
  t : ∀ m, M = some m → Tape m H
def Ext (M : Option TpA) (H H' : Hp) : Prop := ∀ b o, H b = some o → (∀ ps, o ≠ .tbl ps) → (∀ m, M = some m → m.t ≠ b) → H' b = some o
structure Le (M : Option TpA) (H H' : Hp) : Prop where
  i0 : Iv M H
  e : Ext M H H'
  i1 : Iv M H'
theorem Le.refl {M : Option TpA} {H : Hp} (i : Iv M H) : Le M H H := ⟨i, fun _ _ e _ _ => e, i⟩
theorem Le.trans {M : Option TpA} {H H1 H2 : Hp} (a : Le M H H1) (b : Le M H1 H2) : Le M H H2 := ⟨a.i0, fun x o e n m => b.e x o (a.e x o e n m) n m, b.i1⟩
theorem Iv.pure {M : Option TpA} {H : Hp} (i : Iv M H) : Iv none H := ⟨i.g, i.l, fun _ z => nomatch z⟩
theorem Tape.keep {m : TpA} {H H' : Hp} (h : Tape m H) (e : ∀ b o, H b = some o → (∀ ps, o ≠ .tbl ps) → H' b = some o) : Tape m H' := by
  obtain ⟨a, g, f, s, t, h0, h1, h2⟩ := h
  exact ⟨a, g, f, s, t, h0, e _ _ h1 (fun _ z => nomatch z), e _ _ h2 (fun _ z => nomatch z)⟩
theorem Le.up {M : Option TpA} {H H' : Hp} (h : Le none H H') (i : Iv M H) : Le M H H' :=
  ⟨i, fun b o e n _ => h.e b o e n (fun _ z => nomatch z), h.i1.g, h.i1.l, fun m hm => (i.t m hm).keep fun b o e n => h.e b o e n (fun _ z => nomatch z)⟩
/-- what may change without harm: what is new, or a list or dict -/
theorem Iv.at {M : Option TpA} {H : Hp} (i : Iv M H) {l : Addr} {o' : HO} (h1 : ∀ ps, H l ≠ some (.tbl ps)) (h2 : ∀ phi, H l ≠ some (.ext phi)) (h3 : ∀ m, M = some m → m.t ≠ l ∧ m.l ≠ l) : Iv M (upd H l o') := by
  refine ⟨fun p hp => ?_, fun p hp => ?_, fun m hm => ?_⟩
  · obtain ⟨ps, e, t⟩ := i.g p hp
    exact ⟨ps, by rw [upd_ne (fun z => h1 ps (by rw [← z]; exact e))]; exact e, t⟩
  · obtain ⟨ps, e, t, q⟩ := i.l p hp
    refine ⟨ps, by rw [upd_ne (fun z => h1 ps (by rw [← z]; exact e))]; exact e, t, fun pos cv hc => ?_⟩
    obtain ⟨c, e1, e2⟩ := q pos cv hc
    exact ⟨c, e1, by rw [upd_ne (fun z => h2 _ (by rw [← z]; exact e2))]; exact e2⟩
  · obtain ⟨a, g, f, s, t, h0, e1, e2⟩ := i.t m hm
    exact ⟨a, g, f, s, t, h0, by rw [upd_ne (h3 m hm).1]; exact e1, by rw [upd_ne (h3 m hm).2]; exact e2⟩
theorem Iv.new {M : Option TpA} {H : Hp} (i : Iv M H) {p : Addr} {o : HO} (h : H p = none) : Iv M (upd H p o) :=
  i.at (fun ps z => by rw [h] at z; cases z) (fun ps z => by rw [h] at z; cases z) fun m hm => by
    obtain ⟨a, g, f, s, t, h0, e1, e2⟩ := i.t m hm
    exact ⟨ne_of_none e1 h, ne_of_none e2 h⟩
theorem Le.new {M : Option TpA} {H : Hp} (i : Iv M H) {p : Addr} {o : HO} (h : H p = none) : Le M H (upd H p o) :=
  ⟨i, fun b u e _ _ => by rw [upd_ne (ne_of_none e h)]; exact e, i.new h⟩
theorem Le.newT {M : Option TpA} {H0 H : Hp} (a : Le M H0 H) {p : Addr} {o : HO} (h : H p = none) : Le M H0 (upd H p o) := a.trans (.new a.i1 h)
/-- new over H0 (or a table there) -/
def Nw (H0 : Hp) (l : Addr) : Prop := ∀ o, H0 l = some o → ∃ ps, o = .tbl ps
theorem Nw.none {H0 : Hp} {l : Addr} (h : H0 l = none) : Nw H0 l := fun o e => by rw [h] at e; cases e
theorem Nw.ne {H0 : Hp} {l b : Addr} {o : HO} (h : Nw H0 l) (e : H0 b = some o) (n : ∀ ps, o ≠ .tbl ps) : b ≠ l := fun z => by
  obtain ⟨ps, q⟩ := h o (by rw [← z]; exact e)
  exact n ps q
/-- an own list changes -/
theorem Le.mut {M : Option TpA} {H0 H : Hp} (a : Le M H0 H) {l : Addr} {xs : List V} {o : HO} (h0 : Nw H0 l) (h : H l = some (.lst xs)) : Le M H0 (upd H l o) := by
  refine ⟨a.i0, fun b u e n m => by rw [upd_ne (h0.ne e n)]; exact a.e b u e n m, a.i1.at (fun ps z => by rw [h] at z; cases z) (fun ps z => by rw [h] at z; cases z) fun m hm => ?_⟩
  obtain ⟨_, _, _, _, _, _, e1, e2⟩ := a.i0.t m hm
  exact ⟨h0.ne e1 (fun _ z => nomatch z), h0.ne e2 (fun _ z => nomatch z)⟩
theorem Le.mutD {M : Option TpA} {H0 H : Hp} (a : Le M H0 H) {l : Addr} {xs : List (Key × V)} {o : HO} (h0 : Nw H0 l) (h : H l = some (.dK xs)) : Le M H0 (upd H l o) := by
  refine ⟨a.i0, fun b u e n m => by rw [upd_ne (h0.ne e n)]; exact a.e b u e n m, a.i1.at (fun ps z => by rw [h] at z; cases z) (fun ps z => by rw [h] at z; cases z) fun m hm => ?_⟩
  obtain ⟨_, _, _, _, _, _, e1, e2⟩ := a.i0.t m hm
  exact ⟨h0.ne e1 (fun _ z => nomatch z), h0.ne e2 (fun _ z => nomatch z)⟩
theorem Le.nw {M : Option TpA} {H H' : Hp} (a : Le M H H') {p : Addr} (h : Nw H' p) : Nw H p := fun o e => by
  by_cases n : ∃ ps, o = .tbl ps
  · exact n
  · by_cases hm : ∃ m, M = some m ∧ m.t = p
    · obtain ⟨m, h1, h2⟩ := hm
      obtain ⟨_, _, _, _, _, _, e1, _⟩ := a.i1.t m h1
      obtain ⟨ps, q⟩ := h _ (by rw [← h2]; exact e1)
      cases q
    · exact h o (a.e p o e (fun ps z => n ⟨ps, z⟩) (fun m q z => hm ⟨m, q, z⟩))
/-! ### data in the heap -/
mutual
inductive Rp (H : Hp) : V → D → Prop
  | non : Rp H .non .non
  | bl (b : Bool) : Rp H (.bl b) (.bl b)
  | int (i : Int) : Rp H (.int i) (.int i)
  | str (s : Str) : Rp H (.str s) (.str s)
  | adr (a : Addr) : Rp H (.ref a) (.adr a)
  | lam {c : Addr} {q : Str} (f : Addr) : H c = some (LamX.CodeO c q) → Rp H (.ref f) (.lam f c q)
  | ty (n : String) : Rp H (.ty n) (.ty n)
  | tup {a : Addr} {vs : List V} {ds : List D} : SqT Cf.K H a vs → RpL H vs ds → Rp H (.ref a) (.tup ds)
  | xt {a : Addr} {o : Obj} {vs : List V} {ds : List D} : H a = some (.frz o (.tup vs)) → o.dict = none → RpL H vs ds → Rp H (.ref a) (.xt ds)
  | lst {a : Addr} {vs : List V} {ds : List D} : H a = some (.lst vs) → RpL H vs ds → Rp H (.ref a) (.lst ds)
  | ins {a C dx : Addr} {ns : List Str} {vs : List V} {ds : List D} : H a = some (.ins C dx (ns.zip vs)) → ns.length = vs.length → RpL H vs ds → Rp H (.ref a) (.ins C ns ds)
  | dic {a : Addr} {ns : List Str} {vs : List V} {ds : List D} : H a = some (.dK ((ns.map Sum.inr).zip vs)) → ns.length = vs.length → ns.head? ≠ some ("cells" : Str) → RpL H vs ds → Rp H (.ref a) (.dic ns ds)
inductive RpL (H : Hp) : List V → List D → Prop
  | nil : RpL H [] []
  | cons {v : V} {vs : List V} {d : D} {ds : List D} : Rp H v d → RpL H vs ds → RpL H (v :: vs) (d :: ds)
end
theorem Rp.xtT {H : Hp} {v : V} {ds : List D} (h : Rp H v (.xt ds)) : Rp H v (.tup ds) := by
  cases h with
  | xt h1 h2 h3 => exact .tup (.inl (.inr ⟨_, h1⟩)) h3
theorem RpL.length {H : Hp} : ∀ {vs : List V} {ds : List D}, RpL H vs ds → vs.length = ds.length
  | [], _, h => by cases h; rfl
  | v :: vs, _, h => by
    cases h with
    | cons a b => simp [RpL.length b]
theorem RpL.get {H : Hp} : ∀ {vs : List V} {ds : List D}, RpL H vs ds → ∀ {i : Nat} {d : D}, ds[i]? = some d → ∃ v, vs[i]? = some v ∧ Rp H v d
  | [], _, h, i, d, e => by cases h; simp at e
  | v :: vs, _, h, i, d, e => by
    cases h with
    | cons a b =>
      cases i with
      | zero => simp at e; subst e; exact ⟨v, rfl, a⟩
      | succ i => exact b.get (by simpa using e)
theorem RpL.getV {H : Hp} : ∀ {vs : List V} {ds : List D}, RpL H vs ds → ∀ {i : Nat} {v : V}, vs[i]? = some v → ∃ d, ds[i]? = some d ∧ Rp H v d
  | [], _, h, i, d, e => by simp at e
  | v :: vs, _, h, i, d, e => by
    cases h with
    | cons a b =>
      cases i with
      | zero => simp at e; subst e; exact ⟨_, rfl, a⟩
      | succ i => exact b.getV (by simpa using e)
theorem RpL.app {H : Hp} : ∀ {vs ws : List V} {ds es : List D}, RpL H vs ds → RpL H ws es → RpL H (vs ++ ws) (ds ++ es)
  | [], _, _, _, h, k => by cases h; exact k
  | v :: vs, _, _, _, h, k => by
    cases h with
    | cons a b => exact .cons a (b.app k)
theorem RpL.drop {H : Hp} : ∀ {vs : List V} {ds : List D}, RpL H vs ds → ∀ n, RpL H (vs.drop n) (ds.drop n)
  | [], _, h, n => by cases h; simpa using RpL.nil
  | v :: vs, _, h, n => by
    cases h with
    | cons a b =>
      cases n with
      | zero => exact .cons a b
      | succ n => exact b.drop n
theorem RpL.take {H : Hp} : ∀ {vs : List V} {ds : List D}, RpL H vs ds → ∀ n, RpL H (vs.take n) (ds.take n)
  | [], _, h, n => by cases h; simpa using RpL.nil
  | v :: vs, _, h, n => by
    cases h with
    | cons a b =>
      cases n with
      | zero => exact .nil
      | succ n => exact .cons a (b.take n)
theorem RpL.set {H : Hp} : ∀ {vs : List V} {ds : List D}, RpL H vs ds → ∀ (n : Nat) {v : V} {d : D}, Rp H v d → RpL H (vs.set n v) (ds.set n d)
  | [], _, h, n, v, d, r => by cases h; exact .nil
  | v :: vs, _, h, n, v', d', r => by
    cases h with
    | cons a b =>
      cases n with
      | zero => exact .cons r b
      | succ n => exact .cons a (b.set n r)
theorem RpL.ints {H : Hp} : ∀ {vs : List V} {ns : List Int}, RpL H vs (ns.map D.int) → vs = ns.map V.int
  | [], [], _ => rfl
  | _, [], h => by cases h; rfl
  | [], n :: ns, h => by cases h
  | v :: vs, n :: ns, h => by
    cases h with
    | cons a b =>
      cases a
      simp [RpL.ints b]
theorem RpL.of_ints {H : Hp} : ∀ {ns : List Int}, RpL H (ns.map V.int) (ns.map D.int)
  | [] => .nil
  | n :: ns => .cons (.int n) RpL.of_ints
theorem ext_rd {M : Option TpA} {H H' : Hp} {a : Addr} {xs : List V} (e : Le M H H') (h : Rd H a (.tup xs)) : Rd H' a (.tup xs) := by
  have nt : ∀ {o : HO}, H a = some o → (∀ k, o ≠ .dK k) → ∀ m, M = some m → m.t ≠ a := fun {o} h1 h2 m hm z => by
    obtain ⟨_, _, _, _, _, _, e1, _⟩ := e.i0.t m hm
    rw [z, h1] at e1
    exact h2 _ (Option.some.inj e1)
  rcases h with h | ⟨o, h⟩
  · exact .inl (e.e a _ h (fun _ z => nomatch z) (nt h fun _ z => nomatch z))
  · exact .inr ⟨o, e.e a _ h (fun _ z => nomatch z) (nt h fun _ z => nomatch z)⟩
theorem ext_t {M : Option TpA} {H H' : Hp} {a : Addr} {xs : List V} (e : Le M H H') (h : SqT Cf.K H a xs) : SqT Cf.K H' a xs := by
  rcases h with h | h
  · exact .inl (ext_rd e h)
  · exact .inr h
theorem Le.ne_t {M : Option TpA} {H H' : Hp} {a : Addr} {o : HO} (e : Le M H H') (h1 : H a = some o) (h2 : ∀ k, o ≠ .dK k) : ∀ m, M = some m → m.t ≠ a := fun m hm z => by
  obtain ⟨_, _, _, _, _, _, e1, _⟩ := e.i0.t m hm
  rw [z, h1] at e1
  exact h2 _ (Option.some.inj e1)
theorem Le.ne_d {M : Option TpA} {H H' : Hp} {a : Addr} {ns : List Str} {vs : List V} (e : Le M H H') (h1 : H a = some (.dK ((ns.map Sum.inr).zip vs))) (hl : ns.length = vs.length) (h2 : ns.head? ≠ some ("cells" : Str)) : ∀ m, M = some m → m.t ≠ a := fun m hm z => by
  obtain ⟨_, _, _, _, _, _, e1, _⟩ := e.i0.t m hm
  rw [z, h1] at e1
  cases ns with
  | nil => cases e1
  | cons n ns =>
    cases vs with
    | nil => cases e1
    | cons v vs =>
      have q := Option.some.inj e1
      unfold tapeD at q
      simp only [List.map_cons, List.zip_cons_cons, HO.dK.injEq, List.cons.injEq, Prod.mk.injEq, Sum.inr.injEq] at q
      exact h2 (by rw [List.head?_cons, q.1.1])
mutual
theorem Rp.mo {M : Option TpA} {H H' : Hp} (e : Le M H H') : ∀ {d : D} {v : V}, Rp H v d → Rp H' v d
  | .non, _, h => by cases h; exact .non
  | .bl b, _, h => by cases h; exact .bl b
  | .int b, _, h => by cases h; exact .int b
  | .str b, _, h => by cases h; exact .str b
  | .adr b, _, h => by cases h; exact .adr b
  | .lam f c q, _, h => by
    cases h with
    | lam _ h1 => exact .lam _ (e.e _ _ h1 (fun _ z => by unfold LamX.CodeO at z; cases z) (e.ne_t h1 fun _ z => by unfold LamX.CodeO at z; cases z))
  | .ty b, _, h => by cases h; exact .ty b
  | .tup ds, _, h => by
    cases h with
    | tup h1 h2 => exact .tup (ext_t e h1) (RpL.mo e h2)
  | .xt ds, _, h => by
    cases h with
    | xt h1 h2 h3 => exact .xt (e.e _ _ h1 (fun _ z => nomatch z) (e.ne_t h1 fun _ z => nomatch z)) h2 (RpL.mo e h3)
  | .lst ds, _, h => by
    cases h with
    | lst h1 h2 => exact .lst (e.e _ _ h1 (fun _ z => nomatch z) (e.ne_t h1 fun _ z => nomatch z)) (RpL.mo e h2)
  | .ins C ns ds, _, h => by
    cases h with
    | ins h1 h2 h3 => exact .ins (e.e _ _ h1 (fun _ z => nomatch z) (e.ne_t h1 fun _ z => nomatch z)) h2 (RpL.mo e h3)
  | .dic ns ds, _, h => by
    cases h with
    | dic h1 h2 h3 h4 => exact .dic (e.e _ _ h1 (fun _ z => nomatch z) (e.ne_d h1 h2 h3)) h2 h3 (RpL.mo e h4)
theorem RpL.mo {M : Option TpA} {H H' : Hp} (e : Le M H H') : ∀ {ds : List D} {vs : List V}, RpL H vs ds → RpL H' vs ds
  | [], _, h => by cases h; exact .nil
  | d :: ds, _, h => by
    cases h with
    | cons h1 h2 => exact .cons (Rp.mo e h1) (RpL.mo e h2)
end
mutual
theorem Rp.keep {H H' : Hp} (e : ∀ b o, H b = some o → (∀ ps, o ≠ .tbl ps) → H' b = some o) : ∀ {d : D} {v : V}, Rp H v d → Rp H' v d
  | .non, _, h => by cases h; exact .non
  | .bl b, _, h => by cases h; exact .bl b
  | .int b, _, h => by cases h; exact .int b
  | .str b, _, h => by cases h; exact .str b
  | .adr b, _, h => by cases h; exact .adr b
  | .lam f c q, _, h => by
    cases h with
    | lam _ h1 => exact .lam _ (e _ _ h1 fun _ z => by unfold LamX.CodeO at z; cases z)
  | .ty b, _, h => by cases h; exact .ty b
  | .tup ds, _, h => by
    cases h with
    | tup h1 h2 =>
      refine .tup ?_ (RpL.keep e h2)
      rcases h1 with (h1 | ⟨q, h1⟩) | h1
      · exact .inl (.inl (e _ _ h1 fun _ z => nomatch z))
      · exact .inl (.inr ⟨q, e _ _ h1 fun _ z => nomatch z⟩)
      · exact .inr h1
  | .xt ds, _, h => by
    cases h with
    | xt h1 h2 h3 => exact .xt (e _ _ h1 (fun _ z => nomatch z)) h2 (RpL.keep e h3)
  | .lst ds, _, h => by
    cases h with
    | lst h1 h2 => exact .lst (e _ _ h1 (fun _ z => nomatch z)) (RpL.keep e h2)
  | .ins C ns ds, _, h => by
    cases h with
    | ins h1 h2 h3 => exact .ins (e _ _ h1 (fun _ z => nomatch z)) h2 (RpL.keep e h3)
  | .dic ns ds, _, h => by
    cases h with
    | dic h1 h2 h3 h4 => exact .dic (e _ _ h1 (fun _ z => nomatch z)) h2 h3 (RpL.keep e h4)
theorem RpL.keep {H H' : Hp} (e : ∀ b o, H b = some o → (∀ ps, o ≠ .tbl ps) → H' b = some o) : ∀ {ds : List D} {vs : List V}, RpL H vs ds → RpL H' vs ds
  | [], _, h => by cases h; exact .nil
  | d :: ds, _, h => by
    cases h with
    | cons h1 h2 => exact .cons (Rp.keep e h1) (RpL.keep e h2)
end
theorem new_keep {H : Hp} {p : Addr} {o' : HO} (h : H p = none) : ∀ b o, H b = some o → (∀ ps, o ≠ .tbl ps) → upd H p o' b = some o := fun b u e _ => by rw [upd_ne (ne_of_none e h)]; exact e
-- data that no list, dict or instance is in
mutual
def D.im : D → Bool
  | .lst _ => false
  | .dic _ _ => false
  | .tup l => D.imL l
  | .xt l => D.imL l
  | .ins _ _ l => D.imL l
  | _ => true
def D.imL : List D → Bool
  | [] => true
  | d :: ds => d.im && D.imL ds
end
theorem D.imL_map {α : Type} (f : α → D) (h : ∀ x, (f x).im = true) : ∀ l : List α, D.imL (l.map f) = true
  | [] => by simp [D.imL]
  | x :: l => by simp [D.imL, h x, D.imL_map f h l]
mutual
theorem Rp.mut {H : Hp} {l : Addr} {xs : List V} {o : HO} (hl : H l = some (.lst xs)) : ∀ {d : D} {v : V}, d.im = true → Rp H v d → Rp (upd H l o) v d
  | .non, _, _, h => by cases h; exact .non
  | .bl b, _, _, h => by cases h; exact .bl b
  | .int b, _, _, h => by cases h; exact .int b
  | .str b, _, _, h => by cases h; exact .str b
  | .adr b, _, _, h => by cases h; exact .adr b
  | .lam f c q, _, _, h => by
    cases h with
    | lam _ h1 => exact .lam _ (by rw [upd_ne (fun z => by rw [z, hl] at h1; unfold LamX.CodeO at h1; cases h1)]; exact h1)
  | .ty b, _, _, h => by cases h; exact .ty b
  | .tup ds, _, i, h => by
    cases h with
    | tup h1 h2 =>
      refine .tup ?_ (RpL.mut hl (by simpa [D.im] using i) h2)
      rcases h1 with (h1 | ⟨q, h1⟩) | h1
      · exact .inl (.inl (by rw [upd_ne (fun z => by rw [z, hl] at h1; cases h1)]; exact h1))
      · exact .inl (.inr ⟨q, by rw [upd_ne (fun z => by rw [z, hl] at h1; cases h1)]; exact h1⟩)
      · exact .inr h1
  | .xt ds, _, i, h => by
    cases h with
    | xt h1 h2 h3 => exact .xt (by rw [upd_ne (fun z => by rw [z, hl] at h1; cases h1)]; exact h1) h2 (RpL.mut hl (by simpa [D.im] using i) h3)
  | .lst ds, _, i, h => by simp [D.im] at i
  | .ins C ns ds, _, i, h => by
    cases h with
    | ins h1 h2 h3 => exact .ins (by rw [upd_ne (fun z => by rw [z, hl] at h1; cases h1)]; exact h1) h2 (RpL.mut hl (by simpa [D.im] using i) h3)
  | .dic ns ds, _, i, h => by simp [D.im] at i
theorem RpL.mut {H : Hp} {l : Addr} {xs : List V} {o : HO} (hl : H l = some (.lst xs)) : ∀ {ds : List D} {vs : List V}, D.imL ds = true → RpL H vs ds → RpL (upd H l o) vs ds
  | [], _, _, h => by cases h; exact .nil
  | d :: ds, _, i, h => by
    simp only [D.imL, Bool.and_eq_true] at i
    cases h with
    | cons h1 h2 => exact .cons (Rp.mut hl i.1 h1) (RpL.mut hl i.2 h2)
end

/-! ### as the library's data -/
mutual
def D.py : D → PyData
  | .non => .none
  | .bl b => .bool b
  | .int i => .int i
  | .str s => .str s
  | .tup l => .tuple (D.pyL l)
  | .lst l => .list (D.pyL l)
  | _ => .none
def D.pyL : List D → List PyData
  | [] => []
  | d :: ds => d.py :: D.pyL ds
end
theorem D.pyL_map : ∀ l : List D, D.pyL l = l.map D.py
  | [] => rfl
  | d :: ds => by simp [D.pyL, D.pyL_map ds]
-- ints, texts, tuples and lists of such
mutual
def D.pl : D → Bool
  | .int _ => true
  | .str s => PyData.strOk s
  | .tup l => D.plL l
  | .lst l => D.plL l
  | _ => false
def D.plL : List D → Bool
  | [] => true
  | d :: ds => d.pl && D.plL ds
end
theorem D.plL_map {α : Type} (f : α → D) (h : ∀ x, (f x).pl = true) : ∀ l : List α, D.plL (l.map f) = true
  | [] => by simp [D.plL]
  | x :: l => by simp [D.plL, h x, D.plL_map f h l]
mutual
theorem Rp.dp {H : Hp} : ∀ {d : D} {v : V}, d.pl = true → Rp H v d → Dp Cf.K H v d.py
  | .int i, _, _, h => by cases h; simp only [D.py]; exact .int i
  | .str i, _, _, h => by cases h; simp only [D.py]; exact .str i
  | .tup ds, _, i, h => by
    cases h with
    | tup h1 h2 => simp only [D.py]; exact .tup h1 (RpL.dp (by simpa [D.pl] using i) h2)
  | .lst ds, _, i, h => by
    cases h with
    | lst h1 h2 => simp only [D.py]; exact .lst (.inl (.inl h1)) (RpL.dp (by simpa [D.pl] using i) h2)
  | .xt _, _, i, _ => by simp [D.pl] at i
  | .non, _, i, _ => by simp [D.pl] at i
  | .bl _, _, i, _ => by simp [D.pl] at i
  | .adr _, _, i, _ => by simp [D.pl] at i
  | .lam _ _ _, _, i, _ => by simp [D.pl] at i
  | .ty _, _, i, _ => by simp [D.pl] at i
  | .ins _ _ _, _, i, _ => by simp [D.pl] at i
  | .dic _ _, _, i, _ => by simp [D.pl] at i
theorem RpL.dp {H : Hp} : ∀ {ds : List D} {vs : List V}, D.plL ds = true → RpL H vs ds → DpAll Cf.K H vs (D.pyL ds)
  | [], _, _, h => by cases h; simp only [D.pyL]; exact .nil
  | d :: ds, _, i, h => by
    simp only [D.plL, Bool.and_eq_true] at i
    cases h with
    | cons h1 h2 => simp only [D.pyL]; exact .cons (Rp.dp i.1 h1) (RpL.dp i.2 h2)
end
end Ty
namespace Ty
open PySem PySem.Spec PyProof.Rows L2
variable [Cf]

/-! ### slots -/
inductive Sl where
  | non
  | val (d : D)
  | own (l : List D)
  | obj (a C : Addr) (ns : List Str) (l : List D)
  | odic (ns : List Str) (l : List D)
  | mat (rows : List (List Int))
def Mat (H0 H : Hp) (l : Addr) (as : List Addr) (rows : List (List Int)) : Prop :=
  Nw H0 l ∧ H l = some (.lst (as.map V.ref)) ∧ as.Nodup ∧ l ∉ as ∧ as.length = rows.length ∧ ∀ (i : Nat) a r, as[i]? = some a → rows[i]? = some r → Nw H0 a ∧ H a = some (.lst (r.map V.int))
def SlOk (H0 H : Hp) (s : Sl) (o : Option (Option V)) : Prop :=
  match s with
  | .non => True
  | .val d => ∃ v, o = some (some v) ∧ Rp H v d
  | .own ds => ∃ l vs, o = some (some (.ref l)) ∧ Nw H0 l ∧ H l = some (.lst vs) ∧ RpL H vs ds
  | .obj x C ns ds => ∃ dx vs, o = some (some (.ref x)) ∧ Nw H0 x ∧ H x = some (.ins C dx (ns.zip vs)) ∧ ns.length = vs.length ∧ RpL H vs ds
  | .odic ns ds => ∃ x vs, o = some (some (.ref x)) ∧ Nw H0 x ∧ H x = some (.dK ((ns.map Sum.inr).zip vs)) ∧ ns.length = vs.length ∧ ns.head? ≠ some ("cells" : Str) ∧ RpL H vs ds
  | .mat rows => ∃ l as, o = some (some (.ref l)) ∧ Mat H0 H l as rows
structure Sat (Γ : List Sl) (H0 : Hp) (σ : L2.St) (H : Hp) : Prop where
  len : σ.length = Γ.length
  at_ : ∀ (i : Nat) (s : Sl), Γ[i]? = some s → SlOk H0 H s σ[i]?
theorem SlOk.mo {M : Option TpA} {H0 H H' : Hp} (e : Le M H H') : ∀ {s : Sl} {o : Option (Option V)}, SlOk H0 H s o → SlOk H0 H' s o
  | .non, _, _ => trivial
  | .val d, _, ⟨v, h1, h2⟩ => ⟨v, h1, h2.mo e⟩
  | .own ds, _, ⟨l, vs, h1, h2, h3, h4⟩ => ⟨l, vs, h1, h2, e.e _ _ h3 (fun _ z => nomatch z) (e.ne_t h3 fun _ z => nomatch z), h4.mo e⟩
  | .obj x C ns ds, _, ⟨dx, vs, h1, h2, h3, h4, h5⟩ => ⟨dx, vs, h1, h2, e.e _ _ h3 (fun _ z => nomatch z) (e.ne_t h3 fun _ z => nomatch z), h4, h5.mo e⟩
  | .odic ns ds, _, ⟨x, vs, h1, h2, h3, h4, h5, h6⟩ => ⟨x, vs, h1, h2, e.e _ _ h3 (fun _ z => nomatch z) (e.ne_d h3 h4 h5), h4, h5, h6.mo e⟩
  | .mat rows, _, ⟨l, as, h1, h2, h3, h4, h5, h6, h7⟩ => ⟨l, as, h1, h2, e.e _ _ h3 (fun _ z => nomatch z) (e.ne_t h3 fun _ z => nomatch z), h4, h5, h6, fun i a r ha hr => ⟨(h7 i a r ha hr).1, e.e _ _ (h7 i a r ha hr).2 (fun _ z => nomatch z) (e.ne_t (h7 i a r ha hr).2 fun _ z => nomatch z)⟩⟩
theorem Sat.mo {M : Option TpA} {Γ : List Sl} {H0 H H' : Hp} {σ : L2.St} (e : Le M H H') (h : Sat Γ H0 σ H) : Sat Γ H0 σ H' := ⟨h.len, fun i s hs => (h.at_ i s hs).mo e⟩
theorem Sat.set {Γ : List Sl} {H0 H : Hp} {σ : L2.St} (h : Sat Γ H0 σ H) (i : Nat) {v : V} {s : Sl} (r : SlOk H0 H s (some (some v))) : Sat (Γ.set i s) H0 (σ.set i (some v)) H := by
  refine ⟨by rw [List.length_set, List.length_set, h.len], fun j t ht => ?_⟩
  by_cases e : i = j
  · subst e
    by_cases hl : i < Γ.length
    · rw [List.getElem?_set_self hl] at ht
      cases ht
      rw [List.getElem?_set_self (by rw [h.len]; exact hl)]
      exact r
    · rw [List.getElem?_eq_none (by rw [List.length_set]; omega)] at ht
      cases ht
  · rw [List.getElem?_set_ne e] at ht ⊢
    exact h.at_ j t ht
theorem Sat.non {Γ : List Sl} {H0 H : Hp} {σ : L2.St} (h : Sat Γ H0 σ H) (i : Nat) (o : Option V) : Sat (Γ.set i .non) H0 (σ.set i o) H := by
  refine ⟨by rw [List.length_set, List.length_set, h.len], fun j t ht => ?_⟩
  by_cases e : i = j
  · subst e
    by_cases hl : i < Γ.length
    · rw [List.getElem?_set_self hl] at ht
      cases ht
      trivial
    · rw [List.getElem?_eq_none (by rw [List.length_set]; omega)] at ht
      cases ht
  · rw [List.getElem?_set_ne e] at ht ⊢
    exact h.at_ j t ht
/-- the slots of a block's own names forgotten -/
def gw (Γ : List Sl) : List Nat → List Sl
  | [] => Γ
  | v :: vs => (gw Γ vs).set v .non
theorem Sat.wipe {Γ : List Sl} {H0 H : Hp} {σ : L2.St} (h : Sat Γ H0 σ H) : ∀ vs : List Nat, Sat (gw Γ vs) H0 (L2.wipe σ vs) H
  | [] => h
  | v :: vs => (h.wipe vs).non v none
/-- the argument values at a def's entry -/
def ent (N : Nat) (ds : List D) : List Sl := ds.map .val ++ List.replicate (N - ds.length) .non
theorem Sat.start {N : List Str} {vs : List V} {ds : List D} {H : Hp} (h : RpL H vs ds) : Sat (ent N.length ds) H (start N vs) H := by
  refine ⟨by unfold L2.start ent; simp [h.length], fun i s hs => ?_⟩
  unfold L2.start
  unfold ent at hs
  by_cases hi : i < ds.length
  · rw [List.getElem?_append_left (by simpa using hi), List.getElem?_map] at hs
    cases e : ds[i]? with
    | none => rw [e] at hs; cases hs
    | some d =>
      rw [e] at hs
      cases hs
      obtain ⟨v, hv, r⟩ := h.get e
      refine ⟨v, ?_, r⟩
      rw [List.getElem?_append_left (by rw [List.length_map, h.length]; exact hi), List.getElem?_map, hv] <;> rfl
  · rw [List.getElem?_append_right (by simpa using hi), List.getElem?_replicate] at hs
    split at hs
    · cases hs; trivial
    · cases hs

/-! ### readings by meaning -/
def tS (X : Cx) (e : Expr) : TE := fun σ H Q => ∀ pins s, L2.Inv X pins σ H s → wpAny (model X.prog X.w) X.A (eval e X.env) (EP X pins σ Q) X.xe s
def tST (X : Cx) (e : Expr) : TT := fun σ H Q => ∀ pins s, L2.Inv X pins σ H s → wpAny (model X.prog X.w) X.A (isTrue e X.env (eval e X.env)) (TP X pins σ Q) X.xe s
def tSW (X : Cx) (e : Expr) : TT := fun σ H Q => ∀ whole pins s, L2.Inv X pins σ H s → wpAny (model X.prog X.w) X.A (isTrue e X.env whole) (TP X pins σ Q) X.xe s
def tSA (X : Cx) (es : List Expr) : TA := fun σ H Q => ∀ pos pins s, L2.Inv X pins σ H s → wpAny (model X.prog X.w) X.A (spliced (backTo pos (starEach es X.env))) (AP X pins σ Q) X.xe s
def tSS (X : Cx) (st : List Stmt) : TS := fun D σ H => ∀ pins s, L2.Inv X pins σ H s → wpAny (model X.prog X.w) X.A (execs st X.env) (L2.SP X pins D) X.xe s
def tSG (X : Cx) (tg : Expr) : TG := fun v σ H Q => ∀ pins s u, L2.Inv X pins σ H s → RelV v u → wpAny (model X.prog X.w) X.A (assign tg X.env u) (fun _ s' => ∃ σ' H', L2.Inv X pins σ' H' s' ∧ Q σ' H') X.xe s
def tSI (X : Cx) (tg iter : Expr) : TI := fun σ H R => ∀ pins s, L2.Inv X pins σ H s → wpAny (model X.prog X.w) X.A (eval iter X.env) (fun v s1 => wpAny (model X.prog X.w) X.A (pyIter v) (PIE X pins σ tg R) X.xe s1) X.xe s
def tSO (X : Cx) (e : Option Expr) : TO := fun σ H Q => ∀ t, PO X e t → t σ H Q
section
variable {X : Cx} {e tg : Expr} {es : List Expr} {sts : List Stmt}
theorem pe_s : PE X e (tS X e) := ⟨fun pins s _ _ _ I h => h pins s I⟩
theorem pt_s : PT X e (tST X e) := ⟨fun pins s _ _ _ I h => h pins s I⟩
theorem pw_s : PW X e (tSW X e) := ⟨fun wh pins s _ _ _ I h => h wh pins s I⟩
theorem pa_s : PA X es (tSA X es) := ⟨fun pos pins s _ _ _ I h => h pos pins s I⟩
theorem pss_s : PSs X sts (tSS X sts) := ⟨fun pins s _ _ _ I h => h pins s I⟩
theorem pg_s : PG X tg (tSG X tg) := ⟨fun pins s _ _ v u _ I r h => h pins s u I r⟩
theorem pi_s : PI X tg e (tSI X tg e) := ⟨fun pins s _ _ _ I h => h pins s I⟩
theorem to_s {te : TE} (h : PE X e te) {σ : L2.St} {H : Hp} {Q : VK} (q : te σ H Q) : tS X e σ H Q := fun pins s I => h.run pins s σ H Q I q
theorem to_t {te : TT} (h : PT X e te) {σ : L2.St} {H : Hp} {Q : Bool → Hp → Prop} (q : te σ H Q) : tST X e σ H Q := fun pins s I => h.run pins s σ H Q I q
theorem to_w {te : TT} (h : PW X e te) {σ : L2.St} {H : Hp} {Q : Bool → Hp → Prop} (q : te σ H Q) : tSW X e σ H Q := fun wh pins s I => h.run wh pins s σ H Q I q
theorem to_a {te : TA} (h : PA X es te) {σ : L2.St} {H : Hp} {Q : List V → Hp → Prop} (q : te σ H Q) : tSA X es σ H Q := fun pos pins s I => h.run pos pins s σ H Q I q
theorem to_ss {te : TS} (h : PSs X sts te) {σ : L2.St} {H : Hp} {Dn : Ends} (q : te Dn σ H) : tSS X sts Dn σ H := fun pins s I => h.run pins s σ H Dn I q
theorem to_g {te : TG} (h : PG X tg te) {v : V} {σ : L2.St} {H : Hp} {Q : L2.St → Hp → Prop} (q : te v σ H Q) : tSG X tg v σ H Q := fun pins s u I r => h.run pins s σ H v u Q I r q
theorem to_i {te : TI} (h : PI X tg e te) {σ : L2.St} {H : Hp} {R : It → Hp → Prop} (q : te σ H R) : tSI X tg e σ H R := fun pins s I => h.run pins s σ H R I q
end

/-! ### the judgements -/
def GoodB (base : Heap) : Prop := (∀ p ∈ Cf.gs, LamX.TabB base Cf.mg p.1 p.2) ∧ ∀ p ∈ Cf.ls, LamX.TabB base Cf.mg p.1 p.2.1
structure XOk (X : Cx) : Prop where
  p : X.prog = Cf.P
  w : X.w = Cf.w
  K : X.K = Cf.K
  m : X.mg = Cf.mg
  c : X.calm = true
  nd : X.N.Nodup
  x : X.xe = fun _ _ => False
  g : GoodB X.base
theorem XOk.blk {X : Cx} (h : XOk X) (s : Shared) (H : Hp) (scope : Scope) (cenv : Env) (fp : List Addr) : XOk (X.blk s H scope cenv fp) := ⟨h.p, h.w, h.K, h.m, h.c, h.nd, rfl, h.g⟩
theorem XOk.ge {X : Cx} (h : XOk X) (A' : Around) (s : Shared) (H : Hp) (cenv : Env) (ex : List Addr) : XOk (Ge.geCx X A' s H cenv ex) := ⟨h.p, h.w, h.K, h.m, rfl, h.nd, rfl, h.g⟩
/-- e gives a value of S -/
def E (k : Nat) (X : Cx) (M : Option TpA) (Γ : List Sl) (e : Expr) (S : D → Prop) : Prop :=
  XOk X → Room k X.A → ∀ H0 σ H, Le M H0 H → Sat Γ H0 σ H → ∀ Q : VK, (∀ v H' d, Le M H H' → S d → Rp H' v d → Q v H') → tS X e σ H Q
/-- e gives d -/
abbrev E1 (k : Nat) (X : Cx) (M : Option TpA) (Γ : List Sl) (e : Expr) (d : D) : Prop := E k X M Γ e (fun x => x = d)
def T (k : Nat) (X : Cx) (M : Option TpA) (Γ : List Sl) (e : Expr) (S : Bool → Prop) : Prop :=
  XOk X → Room k X.A → ∀ H0 σ H, Le M H0 H → Sat Γ H0 σ H → ∀ Q : Bool → Hp → Prop, (∀ b H', Le M H H' → S b → Q b H') → tST X e σ H Q
abbrev T1 (k : Nat) (X : Cx) (M : Option TpA) (Γ : List Sl) (e : Expr) (b : Bool) : Prop := T k X M Γ e (fun x => x = b)
def TW (k : Nat) (X : Cx) (M : Option TpA) (Γ : List Sl) (e : Expr) (S : Bool → Prop) : Prop :=
  XOk X → Room k X.A → ∀ H0 σ H, Le M H0 H → Sat Γ H0 σ H → ∀ Q : Bool → Hp → Prop, (∀ b H', Le M H H' → S b → Q b H') → tSW X e σ H Q
def A (k : Nat) (X : Cx) (M : Option TpA) (Γ : List Sl) (es : List Expr) (S : List D → Prop) : Prop :=
  XOk X → Room k X.A → ∀ H0 σ H, Le M H0 H → Sat Γ H0 σ H → ∀ Q : List V → Hp → Prop, (∀ vs H' ds, Le M H H' → S ds → RpL H' vs ds → Q vs H') → tSA X es σ H Q
abbrev A1 (k : Nat) (X : Cx) (M : Option TpA) (Γ : List Sl) (es : List Expr) (ds : List D) : Prop := A k X M Γ es (fun x => x = ds)
/-- what stays whatever a block does -/
structure Fr (mu : Bool) (F : Hp → Prop) : Prop where
  le : ∀ M H H', Le M H H' → F H → F H'
  ml : mu = true → ∀ H l xs o, H l = some (.lst xs) → F H → F (upd H l o)
  md : mu = true → ∀ H l xs o, H l = some (.dK xs) → F H → F (upd H l o)
def tS1 (X : Cx) (st : Stmt) : TS := fun D σ H => ∀ pins s, L2.Inv X pins σ H s → wpAny (model X.prog X.w) X.A (exec st X.env) (L2.SP X pins D) X.xe s
/-- st leaves slots of N, or returns a value of S -/
def P1 (k : Nat) (X : Cx) (M : Option TpA) (mu : Bool) (Γ : List Sl) (st : Stmt) (N : List Sl → Prop) (S : D → Prop) : Prop :=
  XOk X → Room k X.A → ∀ F, Fr mu F → ∀ H0 σ H, Le M H0 H → F H → Sat Γ H0 σ H → ∀ Dn : Ends, (∀ σ' H' Γ', Le M H0 H' → F H' → N Γ' → Sat Γ' H0 σ' H' → Dn.nx σ' H') → (∀ v H' d, Le M H0 H' → F H' → S d → Rp H' v d → Dn.rt v H') → tS1 X st Dn σ H
def B (k : Nat) (X : Cx) (M : Option TpA) (mu : Bool) (Γ : List Sl) (sts : List Stmt) (N : List Sl → Prop) (S : D → Prop) : Prop :=
  XOk X → Room k X.A → ∀ F, Fr mu F → ∀ H0 σ H, Le M H0 H → F H → Sat Γ H0 σ H → ∀ Dn : Ends, (∀ σ' H' Γ', Le M H0 H' → F H' → N Γ' → Sat Γ' H0 σ' H' → Dn.nx σ' H') → (∀ v H' d, Le M H0 H' → F H' → S d → Rp H' v d → Dn.rt v H') → tSS X sts Dn σ H
/-- a value of d is stored at tg: the slots Γ become Γ'; only the slots js change -/
def G (X : Cx) (Γ : List Sl) (tg : Expr) (d : D) (Γ' : List Sl) (js : List Nat) : Prop :=
  XOk X → ∀ H0 H v σ, Rp H v d → Sat Γ H0 σ H → ∀ Q : L2.St → Hp → Prop, (∀ σ', Sat Γ' H0 σ' H → (∀ vs : List Nat, (∀ j ∈ js, j ∈ vs) → L2.wipe σ' vs = L2.wipe σ vs) → Q σ' H) → tSG X tg v σ H Q
/-- iter is walked: the items ds -/
def W (k : Nat) (X : Cx) (M : Option TpA) (mu : Bool) (Γ : List Sl) (tg iter : Expr) (ds : List D) : Prop :=
  XOk X → Room k X.A → ∀ H0 σ H, Le M H0 H → Sat Γ H0 σ H → ∀ R : It → Hp → Prop,
    (∀ J H1 Gs Y, Le M H H1 → Walk J ds.length Gs Y → Fr mu Gs → Gs H1 → (∀ (i : Nat) H2 x H3, i < ds.length → Gs H2 → Y i H2 x H3 → (∀ M', Iv M' H2 → Le M' H2 H3) ∧ ∃ d, ds[i]? = some d ∧ Rp H3 x d) → R J H1) → tSI X tg iter σ H R
end Ty
namespace Ty
open PySem PySem.Spec PyProof.Rows L2
variable [Cf]
section
variable {k : Nat} {X : Cx} {M : Option TpA} {Γ : List Sl} {a b c e : Expr} {es : List Expr} {pos pos' : Pos} {S S1 S2 S3 : D → Prop}
theorem XOk.no (x : XOk X) {n : Str} (h : n ∈ bnames) : X.mg n = none := by rw [x.m]; exact Cf.bn n h
theorem E.mono (h : E k X M Γ e S) (m : ∀ d, S d → S1 d) : E k X M Γ e S1 := fun xk hr H0 σ H le sat Q q => h xk hr H0 σ H le sat Q fun v H' d l s r => q v H' d l (m d s) r
theorem E.to {d d' : D} (h : E1 k X M Γ e d) (m : d = d') : E1 k X M Γ e d' := m ▸ h
theorem T.to {x y : Bool} (h : T1 k X M Γ e x) (m : x = y) : T1 k X M Γ e y := m ▸ h
/-- a constant reading -/
theorem E.cst {v : V} {d : D} (h : XOk X → PE X e (tC v)) (r : ∀ H, Rp H v d) : E1 k X M Γ e d := fun xk hr H0 σ H le sat Q q => to_s (h xk) (show tC v σ H Q from q v H d (.refl le.i1) rfl (r H))
theorem E.int {i : Int} {j} : E1 k X M Γ (.Constant (.int i) j pos) (.int i) := .cst (fun _ => pe_int) fun _ => .int i
theorem E.bl {i : Bool} {j} : E1 k X M Γ (.Constant (.bool i) j pos) (.bl i) := .cst (fun _ => pe_bl) fun _ => .bl i
theorem E.str {i : Str} {j} : E1 k X M Γ (.Constant (.str i) j pos) (.str i) := .cst (fun _ => pe_str) fun _ => .str i
theorem E.non {j} : E1 k X M Γ (.Constant .none j pos) .non := .cst (fun _ => pe_non) fun _ => .non
theorem E.glob {x : Str} {v : V} {u : Value} {d : D} (hm : Cf.mg x = some u) (r : RelV v u) (h : ∀ H, Rp H v d) (hg : Gl X x := by rfl) (hd : (x == ("__debug__" : Str)) = false := by decide) : E1 k X M Γ (.Name x pos) d :=
  .cst (fun xk => pe_glob hg (by rw [xk.m]; exact hm) r hd) h
theorem E.var {x : Str} {d : D} (i : Nat) (hΓ : Γ[i]? = some (.val d) := by rfl) (hN : X.N[i]? = some x := by rfl) (hv : Vis X.env.scope x := by first | exact Or.inl rfl | exact Or.inr (Or.inl rfl) | exact Or.inr (Or.inr rfl)) (hd : (x == ("__debug__" : Str)) = false := by decide)
    (hcd : (x == ("__classdict__" : Str)) = false := by decide) : E1 k X M Γ (.Name x pos) d := fun xk hr H0 σ H le sat Q q => by
  obtain ⟨v, e, r⟩ := sat.at_ i _ hΓ
  exact to_s (pe_var hN hv hd hcd) ⟨v, e, q v H d (.refl le.i1) rfl r⟩
theorem E.varO {x : Str} {l : List D} (i : Nat) (hΓ : Γ[i]? = some (.own l) := by rfl) (hN : X.N[i]? = some x := by rfl) (hv : Vis X.env.scope x := by first | exact Or.inl rfl | exact Or.inr (Or.inl rfl) | exact Or.inr (Or.inr rfl)) (hd : (x == ("__debug__" : Str)) = false := by decide)
    (hcd : (x == ("__classdict__" : Str)) = false := by decide) : E1 k X M Γ (.Name x pos) (.lst l) := fun xk hr H0 σ H le sat Q q => by
  obtain ⟨a, vs, e, h0, h1, r⟩ := sat.at_ i _ hΓ
  exact to_s (pe_var hN hv hd hcd) ⟨_, e, q _ H _ (.refl le.i1) rfl (.lst h1 r)⟩
/-- two operands, by values -/
def Op2 (M : Option TpA) (r : R2) (S1 S2 S : D → Prop) : Prop := ∀ d1 d2, S1 d1 → S2 d2 → ∀ H x y, Iv M H → Rp H x d1 → Rp H y d2 → ∀ Q : VK, (∀ v H' d, Le M H H' → S d → Rp H' v d → Q v H') → r x y H Q
theorem E.two {r : R2} (he : XOk X → Room k X.A → PE X e (tOp r (tS X a) (tS X b))) (ha : E k X M Γ a S1) (hb : E k X M Γ b S2) (h : Op2 M r S1 S2 S) : E k X M Γ e S := fun xk hr H0 σ H le sat Q q =>
  to_s (he xk hr) (ha xk hr H0 σ H le sat _ fun x H1 d1 l1 s1 r1 => hb xk hr H0 σ H1 (le.trans l1) (sat.mo l1) _ fun y H2 d2 l2 s2 r2 =>
    h d1 d2 s1 s2 H2 x y l2.i1 (r1.mo l2) r2 Q fun v H' d l s rr => q v H' d ((l1.trans l2).trans l) s rr)
theorem E.bin {op : Operator} {r : R2} (ho : XOk X → Room k X.A → OpR X (binaryOp op) r) (ha : E k X M Γ a S1) (hb : E k X M Γ b S2) (h : Op2 M r S1 S2 S) : E k X M Γ (.BinOp a op b pos) S :=
  .two (fun xk hr => pe_op (ho xk hr) pe_s pe_s) ha hb h
theorem E.cmp {op : CmpOp} {r : R2} (hm : behindInMarks op b = false) (ho : XOk X → Room k X.A → OpR X (compareOp op) r) (ha : E k X M Γ a S1) (hb : E k X M Γ b S2) (h : Op2 M r S1 S2 S) : E k X M Γ (.Compare a [op] [b] pos) S :=
  .two (fun xk hr => pe_cmpR (ho xk hr) pe_s pe_s hm) ha hb h
theorem T.cmp {op : CmpOp} {r : R2} {SB : Bool → Prop} (hm : behindInMarks op b = false) (ho : XOk X → Room k X.A → OpR X (compareOp op) r) (ha : E k X M Γ a S1) (hb : E k X M Γ b S2) (h : Op2 M r S1 S2 fun d => ∃ x, d = .bl x ∧ SB x) : T k X M Γ (.Compare a [op] [b] pos) SB := fun xk hr H0 σ H le sat Q q =>
  to_t (pt_cmpR (ho xk hr) (pe_s (X := X) (e := a)) (pe_s (X := X) (e := b)) hm) (ha xk hr H0 σ H le sat _ fun x H1 d1 l1 s1 r1 => hb xk hr H0 σ H1 (le.trans l1) (sat.mo l1) _ fun y H2 d2 l2 s2 r2 =>
    h d1 d2 s1 s2 H2 x y l2.i1 (r1.mo l2) r2 _ fun v H' d l s rr => by
      obtain ⟨z, rfl, sz⟩ := s
      cases rr
      exact ⟨z, rfl, q z H' ((l1.trans l2).trans l) sz⟩)
/-- ints in, an int (or a bool) out -/
theorem op2_I0 {g : Int → Int → V} {f : Int → Int → D} {i j : Int} (h : ∀ H, Rp H (g i j) (f i j)) : Op2 M (rI0 g) (fun x => x = .int i) (fun x => x = .int j) (fun x => x = f i j) := fun d1 d2 e1 e2 H x y iv r1 r2 Q q => by
  subst e1 e2
  cases r1
  cases r2
  exact ⟨i, j, rfl, rfl, q _ _ _ (.refl iv) rfl (h H)⟩
theorem op2_I {C : Int → Int → Prop} {g : Int → Int → V} {f : Int → Int → D} {i j : Int} (hc : C i j) (h : ∀ H, Rp H (g i j) (f i j)) : Op2 M (rI C g) (fun x => x = .int i) (fun x => x = .int j) (fun x => x = f i j) := fun d1 d2 e1 e2 H x y iv r1 r2 Q q => by
  subst e1 e2
  cases r1
  cases r2
  exact ⟨i, j, rfl, rfl, hc, q _ _ _ (.refl iv) rfl (h H)⟩
variable {i j l : Int}
theorem E.add (ha : E1 k X M Γ a (.int i)) (hb : E1 k X M Γ b (.int j)) : E1 k X M Γ (.BinOp a .Add b pos) (.int (i + j)) := .bin (fun _ _ => op_add) ha hb (op2_I0 (f := fun i j => .int (i + j)) fun _ => .int _)
theorem E.sub (ha : E1 k X M Γ a (.int i)) (hb : E1 k X M Γ b (.int j)) : E1 k X M Γ (.BinOp a .Sub b pos) (.int (i - j)) := .bin (fun _ _ => op_sub) ha hb (op2_I0 (f := fun i j => .int (i - j)) fun _ => .int _)
theorem E.mul (ha : E1 k X M Γ a (.int i)) (hb : E1 k X M Γ b (.int j)) (hc : CMul i j) : E1 k X M Γ (.BinOp a .Mult b pos) (.int (i * j)) := .bin (fun _ _ => op_mul) ha hb (op2_I (f := fun i j => .int (i * j)) hc fun _ => .int _)
theorem E.mod (ha : E1 k X M Γ a (.int i)) (hb : E1 k X M Γ b (.int j)) (hc : 0 < j) : E1 k X M Γ (.BinOp a .Mod b pos) (.int (i % j)) := .bin (fun _ _ => op_mod) ha hb (op2_I (f := fun i j => .int (i % j)) hc fun _ => .int _)
theorem E.fdiv (ha : E1 k X M Γ a (.int i)) (hb : E1 k X M Γ b (.int j)) (hc : CDiv i j) : E1 k X M Γ (.BinOp a .FloorDiv b pos) (.int (i / j)) := .bin (fun _ _ => op_fdiv) ha hb (op2_I (f := fun i j => .int (i / j)) hc fun _ => .int _)
theorem E.pow (ha : E1 k X M Γ a (.int i)) (hb : E1 k X M Γ b (.int j)) (hc : CPow i j) : E1 k X M Γ (.BinOp a .Pow b pos) (.int (i ^ j.toNat)) := .bin (fun _ _ => op_pow) ha hb (op2_I (f := fun i j => .int (i ^ j.toNat)) hc fun _ => .int _)
theorem E.shl (ha : E1 k X M Γ a (.int i)) (hb : E1 k X M Γ b (.int j)) (hc : CPow i j) : E1 k X M Γ (.BinOp a .LShift b pos) (.int (i * 2 ^ j.toNat)) := .bin (fun _ _ => op_shl) ha hb (op2_I (f := fun i j => .int (i * 2 ^ j.toNat)) hc fun _ => .int _)
theorem E.shr (ha : E1 k X M Γ a (.int i)) (hb : E1 k X M Γ b (.int j)) (hc : 0 ≤ j) : E1 k X M Γ (.BinOp a .RShift b pos) (.int (i / 2 ^ j.toNat)) := .bin (fun _ _ => op_shr) ha hb (op2_I (f := fun i j => .int (i / 2 ^ j.toNat)) hc fun _ => .int _)
theorem E.and_ (ha : E1 k X M Γ a (.int i)) (hb : E1 k X M Γ b (.int j)) : E1 k X M Γ (.BinOp a .BitAnd b pos) (.int (Builtin.bitAnd i j)) := .bin (fun _ _ => op_and) ha hb (op2_I0 (f := fun i j => .int (Builtin.bitAnd i j)) fun _ => .int _)
theorem E.xor_ (ha : E1 k X M Γ a (.int i)) (hb : E1 k X M Γ b (.int j)) : E1 k X M Γ (.BinOp a .BitXor b pos) (.int (Builtin.bitXor i j)) := .bin (fun _ _ => op_xor) ha hb (op2_I0 (f := fun i j => .int (Builtin.bitXor i j)) fun _ => .int _)
theorem E.lt (ha : E1 k X M Γ a (.int i)) (hb : E1 k X M Γ b (.int j)) : E1 k X M Γ (.Compare a [.Lt] [b] pos) (.bl (decide (i < j))) := .cmp (nomark _) (fun _ _ => op_lt) ha hb (op2_I0 (f := fun i j => .bl (decide (i < j))) fun _ => .bl _)
theorem E.le (ha : E1 k X M Γ a (.int i)) (hb : E1 k X M Γ b (.int j)) : E1 k X M Γ (.Compare a [.LtE] [b] pos) (.bl (decide (i ≤ j))) := .cmp (nomark _) (fun _ _ => op_le) ha hb (op2_I0 (f := fun i j => .bl (decide (i ≤ j))) fun _ => .bl _)
theorem E.gt (ha : E1 k X M Γ a (.int i)) (hb : E1 k X M Γ b (.int j)) : E1 k X M Γ (.Compare a [.Gt] [b] pos) (.bl (decide (j < i))) := .cmp (nomark _) (fun _ _ => op_gt) ha hb (op2_I0 (f := fun i j => .bl (decide (j < i))) fun _ => .bl _)
theorem E.ge (ha : E1 k X M Γ a (.int i)) (hb : E1 k X M Γ b (.int j)) : E1 k X M Γ (.Compare a [.GtE] [b] pos) (.bl (decide (j ≤ i))) := .cmp (nomark _) (fun _ _ => op_ge) ha hb (op2_I0 (f := fun i j => .bl (decide (j ≤ i))) fun _ => .bl _)
/-- a compared value as a test -/
theorem T.ofCmp {op : CmpOp} {r : R2} {x : Bool} (hm : behindInMarks op b = false) (ho : XOk X → Room k X.A → OpR X (compareOp op) r) (ha : E k X M Γ a S1) (hb : E k X M Γ b S2) (h : Op2 M r S1 S2 fun d => d = .bl x) : T1 k X M Γ (.Compare a [op] [b] pos) x :=
  .cmp hm ho ha hb fun d1 d2 s1 s2 H u v iv r1 r2 Q q => h d1 d2 s1 s2 H u v iv r1 r2 Q fun w H' d l s rr => q w H' d l ⟨x, s, rfl⟩ rr
theorem T.lt (ha : E1 k X M Γ a (.int i)) (hb : E1 k X M Γ b (.int j)) : T1 k X M Γ (.Compare a [.Lt] [b] pos) (decide (i < j)) := .ofCmp (nomark _) (fun _ _ => op_lt) ha hb (op2_I0 (f := fun i j => .bl (decide (i < j))) fun _ => .bl _)
theorem T.le (ha : E1 k X M Γ a (.int i)) (hb : E1 k X M Γ b (.int j)) : T1 k X M Γ (.Compare a [.LtE] [b] pos) (decide (i ≤ j)) := .ofCmp (nomark _) (fun _ _ => op_le) ha hb (op2_I0 (f := fun i j => .bl (decide (i ≤ j))) fun _ => .bl _)
theorem T.gt (ha : E1 k X M Γ a (.int i)) (hb : E1 k X M Γ b (.int j)) : T1 k X M Γ (.Compare a [.Gt] [b] pos) (decide (j < i)) := .ofCmp (nomark _) (fun _ _ => op_gt) ha hb (op2_I0 (f := fun i j => .bl (decide (j < i))) fun _ => .bl _)
theorem T.ge (ha : E1 k X M Γ a (.int i)) (hb : E1 k X M Γ b (.int j)) : T1 k X M Γ (.Compare a [.GtE] [b] pos) (decide (j ≤ i)) := .ofCmp (nomark _) (fun _ _ => op_ge) ha hb (op2_I0 (f := fun i j => .bl (decide (j ≤ i))) fun _ => .bl _)
/-- plain values -/
def D.sc : D → Option V
  | .non => some .non
  | .bl b => some (.bl b)
  | .int i => some (.int i)
  | .str s => some (.str s)
  | _ => none
theorem Rp.sc {H : Hp} {v u : V} : ∀ {d : D}, d.sc = some u → Rp H v d → v = u
  | .non, h, r => by cases r; cases h; rfl
  | .bl _, h, r => by cases r; cases h; rfl
  | .int _, h, r => by cases r; cases h; rfl
  | .str _, h, r => by cases r; cases h; rfl
theorem op2_eq {d1 d2 : D} {u1 u2 : V} {x : Bool} (h1 : d1.sc = some u1) (h2 : d2.sc = some u2) (hs : scal u1 u2 = true) (hx : decide (u1 = u2) = x) : Op2 M rEq (fun x => x = d1) (fun x => x = d2) (fun d => d = .bl x) := fun e1 e2 z1 z2 H u v iv r1 r2 Q q => by
  subst z1 z2
  rw [r1.sc h1, r2.sc h2]
  exact ⟨hs, by rw [hx]; exact q _ _ _ (.refl iv) rfl (.bl _)⟩
theorem op2_ne {d1 d2 : D} {u1 u2 : V} {x : Bool} (h1 : d1.sc = some u1) (h2 : d2.sc = some u2) (hs : scal u1 u2 = true) (hx : decide (u1 = u2) = x) : Op2 M rNe (fun x => x = d1) (fun x => x = d2) (fun d => d = .bl !x) := fun e1 e2 z1 z2 H u v iv r1 r2 Q q => by
  subst z1 z2
  rw [r1.sc h1, r2.sc h2]
  exact ⟨hs, by rw [hx]; exact q _ _ _ (.refl iv) rfl (.bl _)⟩
theorem E.eqI (ha : E1 k X M Γ a (.int i)) (hb : E1 k X M Γ b (.int j)) : E1 k X M Γ (.Compare a [.Eq] [b] pos) (.bl (decide (i = j))) := .cmp (nomark _) (fun _ _ => op_eq) ha hb (op2_eq rfl rfl rfl (by simp))
theorem E.neI (ha : E1 k X M Γ a (.int i)) (hb : E1 k X M Γ b (.int j)) : E1 k X M Γ (.Compare a [.NotEq] [b] pos) (.bl (!decide (i = j))) := .cmp (nomark _) (fun _ _ => op_ne) ha hb (op2_ne rfl rfl rfl (by simp))
theorem T.eqI (ha : E1 k X M Γ a (.int i)) (hb : E1 k X M Γ b (.int j)) : T1 k X M Γ (.Compare a [.Eq] [b] pos) (decide (i = j)) := .ofCmp (nomark _) (fun _ _ => op_eq) ha hb (op2_eq rfl rfl rfl (by simp))
theorem T.neI (ha : E1 k X M Γ a (.int i)) (hb : E1 k X M Γ b (.int j)) : T1 k X M Γ (.Compare a [.NotEq] [b] pos) (!decide (i = j)) := .ofCmp (nomark _) (fun _ _ => op_ne) ha hb (op2_ne rfl rfl rfl (by simp))
theorem E.eqB {x y : Bool} (ha : E1 k X M Γ a (.bl x)) (hb : E1 k X M Γ b (.bl y)) : E1 k X M Γ (.Compare a [.Eq] [b] pos) (.bl (decide (x = y))) := .cmp (nomark _) (fun _ _ => op_eq) ha hb (op2_eq rfl rfl rfl (by simp))
theorem T.eqS {x y : Str} (ha : E1 k X M Γ a (.str x)) (hb : E1 k X M Γ b (.str y)) : T1 k X M Γ (.Compare a [.Eq] [b] pos) (decide (x = y)) := .ofCmp (nomark _) (fun _ _ => op_eq) ha hb (op2_eq rfl rfl rfl (by simp))
theorem T.isNotB {x y : Bool} (ha : E1 k X M Γ a (.bl x)) (hb : E1 k X M Γ b (.bl y)) : T1 k X M Γ (.Compare a [.IsNot] [b] pos) (!decide (x = y)) := .ofCmp (nomark _) (fun _ _ => op_notBl) ha hb fun d1 d2 e1 e2 H u v iv r1 r2 Q q => by
  subst e1 e2
  cases r1
  cases r2
  exact ⟨x, y, rfl, rfl, q _ _ _ (.refl iv) rfl (.bl _)⟩
theorem T.notNone {d : D} {u : V} (ha : E1 k X M Γ a d) (hd : d.sc = some u) (hb : E1 k X M Γ b .non) : T1 k X M Γ (.Compare a [.IsNot] [b] pos) (!decide (u = .non)) := .ofCmp (nomark _) (fun _ _ => op_notN) ha hb fun d1 d2 e1 e2 H x y iv r1 r2 Q q => by
  subst e1 e2
  cases r2
  rw [r1.sc hd]
  exact ⟨rfl, q _ _ _ (.refl iv) rfl (.bl _)⟩
/-- a op b op' c over ints -/
theorem E.chain {op op' : CmpOp} {f f' : Int → Int → Bool} (ho : OpR X (compareOp op) (rI0 fun i j => .bl (f i j))) (ho' : OpR X (compareOp op') (rI0 fun i j => .bl (f' i j))) (ha : E1 k X M Γ a (.int i)) (hb : E1 k X M Γ b (.int j)) (hc : E1 k X M Γ c (.int l))
    (hm : lastMarks [op, op'] [b, c] = false := by with_unfolding_all rfl) : E1 k X M Γ (.Compare a [op, op'] [b, c] pos) (.bl (f i j && f' j l)) := fun xk hr H0 σ H le sat Q q =>
  to_s (pe_chain ho ho' (pe_s (X := X) (e := a)) (pe_s (X := X) (e := b)) (pe_s (X := X) (e := c)) hm) (ha xk hr H0 σ H le sat _ fun x H1 d1 l1 s1 r1 => hb xk hr H0 σ H1 (le.trans l1) (sat.mo l1) _ fun y H2 d2 l2 s2 r2 => by
    subst s1 s2
    cases r1
    cases r2
    refine ⟨i, j, rfl, rfl, f i j, rfl, ?_⟩
    cases e : f i j with
    | false => exact q _ _ _ (l1.trans l2) (by show D.bl false = _; rw [e, Bool.false_and]) (.bl _)
    | true =>
      refine hc xk hr H0 σ H2 (le.trans (l1.trans l2)) (sat.mo (l1.trans l2)) _ fun z H3 d3 l3 s3 r3 => ?_
      subst s3
      cases r3
      exact ⟨j, l, rfl, rfl, q _ _ _ ((l1.trans l2).trans l3) (by show D.bl (f' j l) = _; rw [e, Bool.true_and]) (.bl _)⟩)
theorem T.chain {op op' : CmpOp} {f f' : Int → Int → Bool} (ho : OpR X (compareOp op) (rI0 fun i j => .bl (f i j))) (ho' : OpR X (compareOp op') (rI0 fun i j => .bl (f' i j))) (ha : E1 k X M Γ a (.int i)) (hb : E1 k X M Γ b (.int j)) (hc : E1 k X M Γ c (.int l))
    (hm : lastMarks [op, op'] [b, c] = false := by with_unfolding_all rfl) : T1 k X M Γ (.Compare a [op, op'] [b, c] pos) (f i j && f' j l) := fun xk hr H0 σ H le sat Q q =>
  to_t (pt_chain ho ho' (pe_s (X := X) (e := a)) (pe_s (X := X) (e := b)) (pe_s (X := X) (e := c)) hm) (ha xk hr H0 σ H le sat _ fun x H1 d1 l1 s1 r1 => hb xk hr H0 σ H1 (le.trans l1) (sat.mo l1) _ fun y H2 d2 l2 s2 r2 => by
    subst s1 s2
    cases r1
    cases r2
    refine ⟨i, j, rfl, rfl, f i j, rfl, ?_⟩
    cases e : f i j with
    | false => exact ⟨_, rfl, q _ _ (l1.trans l2) (by show false = _; rw [e, Bool.false_and])⟩
    | true =>
      refine hc xk hr H0 σ H2 (le.trans (l1.trans l2)) (sat.mo (l1.trans l2)) _ fun z H3 d3 l3 s3 r3 => ?_
      subst s3
      cases r3
      exact ⟨j, l, rfl, rfl, _, rfl, q _ _ ((l1.trans l2).trans l3) (by show f' j l = _; rw [e, Bool.true_and])⟩)
theorem E.leLe (ha : E1 k X M Γ a (.int i)) (hb : E1 k X M Γ b (.int j)) (hc : E1 k X M Γ c (.int l)) (hm : lastMarks [.LtE, .LtE] [b, c] = false := by with_unfolding_all rfl) : E1 k X M Γ (.Compare a [.LtE, .LtE] [b, c] pos) (.bl (decide (i ≤ j) && decide (j ≤ l))) := .chain op_le op_le ha hb hc hm
theorem E.leLt (ha : E1 k X M Γ a (.int i)) (hb : E1 k X M Γ b (.int j)) (hc : E1 k X M Γ c (.int l)) (hm : lastMarks [.LtE, .Lt] [b, c] = false := by with_unfolding_all rfl) : E1 k X M Γ (.Compare a [.LtE, .Lt] [b, c] pos) (.bl (decide (i ≤ j) && decide (j < l))) := .chain op_le op_lt ha hb hc hm
theorem T.leLe (ha : E1 k X M Γ a (.int i)) (hb : E1 k X M Γ b (.int j)) (hc : E1 k X M Γ c (.int l)) (hm : lastMarks [.LtE, .LtE] [b, c] = false := by with_unfolding_all rfl) : T1 k X M Γ (.Compare a [.LtE, .LtE] [b, c] pos) (decide (i ≤ j) && decide (j ≤ l)) := .chain op_le op_le ha hb hc hm
theorem T.leLt (ha : E1 k X M Γ a (.int i)) (hb : E1 k X M Γ b (.int j)) (hc : E1 k X M Γ c (.int l)) (hm : lastMarks [.LtE, .Lt] [b, c] = false := by with_unfolding_all rfl) : T1 k X M Γ (.Compare a [.LtE, .Lt] [b, c] pos) (decide (i ≤ j) && decide (j < l)) := .chain op_le op_lt ha hb hc hm

/-! tests, and, or, not -/
variable {x y : Bool} {SB : Bool → Prop} {rest : List Expr}
theorem T.val (he : E1 k X M Γ e (.bl x)) (h : ∀ whole, isTrue e X.env whole = (do let v ← whole; standAt e.pos; holding [v] (truthy v)) := by intro _; rfl) : T1 k X M Γ e x := fun xk hr H0 σ H le sat Q q =>
  to_t (pt_val (pe_s (X := X) (e := e)) h) (he xk hr H0 σ H le sat _ fun v H1 d l s r => by
    subst s
    cases r
    exact ⟨x, rfl, q _ _ l rfl⟩)
theorem T.valN (he : E k X M Γ e fun d => ∃ x, d = .bl x ∧ SB x) (h : ∀ whole, isTrue e X.env whole = (do let v ← whole; standAt e.pos; holding [v] (truthy v)) := by intro _; rfl) : T k X M Γ e SB := fun xk hr H0 σ H le sat Q q =>
  to_t (pt_val (pe_s (X := X) (e := e)) h) (he xk hr H0 σ H le sat _ fun v H1 d l s r => by
    obtain ⟨x, rfl, s⟩ := s
    cases r
    exact ⟨x, rfl, q _ _ l s⟩)
theorem T.not_ (h : T1 k X M Γ a x) : T1 k X M Γ (.UnaryOp .Not a pos) (!x) := fun xk hr H0 σ H le sat Q q => to_t (pt_not (pt_s (X := X) (e := a))) (h xk hr H0 σ H le sat _ fun z H1 l s => q _ _ l (by rw [s]))
abbrev TW1 (k : Nat) (X : Cx) (M : Option TpA) (Γ : List Sl) (e : Expr) (b : Bool) : Prop := TW k X M Γ e (fun x => x = b)
theorem T.ofW (h : TW k X M Γ e SB) : T k X M Γ e SB := fun xk hr H0 σ H le sat Q q => to_t (PW.pt (pw_s (X := X) (e := e))) (h xk hr H0 σ H le sat _ q)
theorem TW.and1 (h : T k X M Γ a SB) : TW k X M Γ (.BoolOp .And [a] pos) SB := fun xk hr H0 σ H le sat Q q => to_w (pw_and1 (pt_s (X := X) (e := a))) (h xk hr H0 σ H le sat _ q)
theorem TW.or1 (h : T k X M Γ a SB) : TW k X M Γ (.BoolOp .Or [a] pos) SB := fun xk hr H0 σ H le sat Q q => to_w (pw_or1 (pt_s (X := X) (e := a))) (h xk hr H0 σ H le sat _ q)
theorem TW.andN {SA SR : Bool → Prop} (ha : T k X M Γ a SA) (hb : SA true → TW k X M Γ (.BoolOp .And (b :: rest) pos) SR) (h1 : ∀ y, SA true → SR y → SB y) (h2 : SA false → SB false) : TW k X M Γ (.BoolOp .And (a :: b :: rest) pos) SB := fun xk hr H0 σ H le sat Q q =>
  to_w (pw_and (pt_s (X := X) (e := a)) (pw_s (X := X) (e := .BoolOp .And (b :: rest) pos))) (ha xk hr H0 σ H le sat _ fun z H1 l s => by
    cases z with
    | true => exact iteT (hb s xk hr H0 σ H1 (le.trans l) (sat.mo l) _ fun w H2 l2 s2 => q _ _ (l.trans l2) (h1 w s s2))
    | false => exact iteF (q _ _ l (h2 s)))
theorem TW.orN {SA SR : Bool → Prop} (ha : T k X M Γ a SA) (hb : SA false → TW k X M Γ (.BoolOp .Or (b :: rest) pos) SR) (h1 : ∀ y, SA false → SR y → SB y) (h2 : SA true → SB true) : TW k X M Γ (.BoolOp .Or (a :: b :: rest) pos) SB := fun xk hr H0 σ H le sat Q q =>
  to_w (pw_or (pt_s (X := X) (e := a)) (pw_s (X := X) (e := .BoolOp .Or (b :: rest) pos))) (ha xk hr H0 σ H le sat _ fun z H1 l s => by
    cases z with
    | false => exact iteF (hb s xk hr H0 σ H1 (le.trans l) (sat.mo l) _ fun w H2 l2 s2 => q _ _ (l.trans l2) (h1 w s s2))
    | true => exact iteT (q _ _ l (h2 s)))
theorem TW.and (ha : T1 k X M Γ a x) (hb : TW1 k X M Γ (.BoolOp .And (b :: rest) pos) y) : TW1 k X M Γ (.BoolOp .And (a :: b :: rest) pos) (x && y) := .andN ha (fun _ => hb) (fun z h1 h2 => by rw [h2, ← h1, Bool.true_and]) fun h => by rw [← h, Bool.false_and]
theorem TW.or (ha : T1 k X M Γ a x) (hb : TW1 k X M Γ (.BoolOp .Or (b :: rest) pos) y) : TW1 k X M Γ (.BoolOp .Or (a :: b :: rest) pos) (x || y) := .orN ha (fun _ => hb) (fun z h1 h2 => by rw [h2, ← h1, Bool.false_or]) fun h => by rw [← h, Bool.true_or]
/-- the rest is not asked -/
theorem TW.andF (ha : T1 k X M Γ a false) : TW1 k X M Γ (.BoolOp .And (a :: b :: rest) pos) false := .andN (SR := fun _ => True) ha (fun h => by cases h) (fun z h1 h2 => by cases h1) fun _ => rfl
theorem TW.orT (ha : T1 k X M Γ a true) : TW1 k X M Γ (.BoolOp .Or (a :: b :: rest) pos) true := .orN (SR := fun _ => True) ha (fun h => by cases h) (fun z h1 h2 => by cases h1) fun _ => rfl
theorem E.not_ (h : E1 k X M Γ a (.bl x)) : E1 k X M Γ (.UnaryOp .Not a pos) (.bl !x) := fun xk hr H0 σ H le sat Q q => to_s (pe_not (pe_s (X := X) (e := a))) (h xk hr H0 σ H le sat _ fun v H1 d l s r => by
  subst s
  cases r
  exact ⟨x, rfl, q _ _ _ l rfl (.bl _)⟩)
theorem E.one {op} (h : E k X M Γ a S) : E k X M Γ (.BoolOp op [a] pos) S := fun xk hr H0 σ H le sat Q q => to_s (pe_one (pe_s (X := X) (e := a))) (h xk hr H0 σ H le sat _ q)
theorem E.and (ha : E1 k X M Γ a (.bl x)) (hb : x = true → E1 k X M Γ (.BoolOp .And (b :: rest) pos) (.bl y)) : E1 k X M Γ (.BoolOp .And (a :: b :: rest) pos) (.bl (x && y)) := fun xk hr H0 σ H le sat Q q =>
  to_s (pe_and (pe_s (X := X) (e := a)) (pe_s (X := X) (e := .BoolOp .And (b :: rest) pos))) (ha xk hr H0 σ H le sat _ fun v H1 d l s r => by
    subst s
    cases r
    refine ⟨x, rfl, ?_⟩
    cases x with
    | true => exact iteT (hb rfl xk hr H0 σ H1 (le.trans l) (sat.mo l) _ fun w H2 d2 l2 s2 r2 => q _ _ _ (l.trans l2) (by rw [s2, Bool.true_and]) r2)
    | false => exact iteF (q _ _ _ l (by rw [Bool.false_and]) (.bl _)))
theorem E.or (ha : E1 k X M Γ a (.bl x)) (hb : x = false → E1 k X M Γ (.BoolOp .Or (b :: rest) pos) (.bl y)) : E1 k X M Γ (.BoolOp .Or (a :: b :: rest) pos) (.bl (x || y)) := fun xk hr H0 σ H le sat Q q =>
  to_s (pe_or (pe_s (X := X) (e := a)) (pe_s (X := X) (e := .BoolOp .Or (b :: rest) pos))) (ha xk hr H0 σ H le sat _ fun v H1 d l s r => by
    subst s
    cases r
    refine ⟨x, rfl, ?_⟩
    cases x with
    | false => exact iteF (hb rfl xk hr H0 σ H1 (le.trans l) (sat.mo l) _ fun w H2 d2 l2 s2 r2 => q _ _ _ (l.trans l2) (by rw [s2, Bool.false_or]) r2)
    | true => exact iteT (q _ _ _ l (by rw [Bool.true_or]) (.bl _)))
theorem E.ifExp {SB : Bool → Prop} (hc : T k X M Γ c SB) (ha : SB true → E k X M Γ a S) (hb : SB false → E k X M Γ b S) : E k X M Γ (.IfExp c a b pos) S := fun xk hr H0 σ H le sat Q q =>
  to_s (pe_ifExp (pt_s (X := X) (e := c)) (pe_s (X := X) (e := a)) (pe_s (X := X) (e := b))) (hc xk hr H0 σ H le sat _ fun z H1 l s => by
    cases z with
    | true => exact iteT (ha s xk hr H0 σ H1 (le.trans l) (sat.mo l) _ fun w H2 d2 l2 s2 r2 => q _ _ _ (l.trans l2) s2 r2)
    | false => exact iteF (hb s xk hr H0 σ H1 (le.trans l) (sat.mo l) _ fun w H2 d2 l2 s2 r2 => q _ _ _ (l.trans l2) s2 r2))

/-! arguments, displays -/
variable {SA SL : List D → Prop} {d : D} {ds : List D}
theorem A.nil : A1 k X M Γ [] [] := fun xk hr H0 σ H le sat Q q => to_a pa_nil (show tNil σ H Q from q [] H [] (.refl le.i1) rfl .nil)
theorem A.consN (ha : E k X M Γ a S) (hr' : A k X M Γ es SL) (h : ∀ d ds, S d → SL ds → SA (d :: ds)) (hs : starEach (a :: es) X.env = (false, eval a X.env) :: starEach es X.env := by rfl) : A k X M Γ (a :: es) SA := fun xk hr H0 σ H le sat Q q =>
  to_a (pa_cons (pe_s (X := X) (e := a)) (pa_s (X := X) (es := es)) hs) (ha xk hr H0 σ H le sat _ fun x H1 d1 l1 s1 r1 => hr' xk hr H0 σ H1 (le.trans l1) (sat.mo l1) _ fun vs H2 ds l2 s2 r2 =>
    q _ _ _ (l1.trans l2) (h _ _ s1 s2) (.cons (r1.mo l2) r2))
theorem A.cons (ha : E1 k X M Γ a d) (hr' : A1 k X M Γ es ds) (hs : starEach (a :: es) X.env = (false, eval a X.env) :: starEach es X.env := by rfl) : A1 k X M Γ (a :: es) (d :: ds) := .consN ha hr' (fun _ _ h1 h2 => by rw [h1, h2]) hs
theorem sz1000 {n : Nat} (h : n ≤ 1000) : n ≤ sizeLine := Nat.le_of_lt (small1000 h)
theorem E.tupN {c} (h : A k X M Γ es SA) (hl : ∀ ds, SA ds → ds.length ≤ 1000) (hS : ∀ ds, SA ds → S (.tup ds)) : E k X M Γ (.Tuple es c pos) S := fun xk hr H0 σ H le sat Q q =>
  to_s (pe_tup (pa_s (X := X) (es := es))) (h xk hr H0 σ H le sat _ fun vs H1 ds l s r => ⟨sz1000 (by rw [r.length]; exact hl ds s), fun p hp =>
    q _ _ _ (l.newT hp) (hS ds s) (.tup (.inl (.inl upd_same)) (r.mo (.new l.i1 hp)))⟩)
theorem E.tup {c} (h : A1 k X M Γ es ds) (hl : ds.length ≤ 1000 := by first | decide | simp) : E1 k X M Γ (.Tuple es c pos) (.tup ds) := .tupN h (fun _ e => by rw [e]; exact hl) fun _ e => by rw [e]
theorem E.lstN (h : A k X M Γ es SA) (hl : ∀ ds, SA ds → ds.length ≤ 1000) (hS : ∀ ds, SA ds → S (.lst ds)) : E k X M Γ (.List es pos) S := fun xk hr H0 σ H le sat Q q =>
  to_s (pe_lst (pa_s (X := X) (es := es))) (h xk hr H0 σ H le sat _ fun vs H1 ds l s r => ⟨sz1000 (by rw [r.length]; exact hl ds s), fun p hp =>
    q _ _ _ (l.newT hp) (hS ds s) (.lst upd_same (r.mo (.new l.i1 hp)))⟩)
theorem E.lst (h : A1 k X M Γ es ds) (hl : ds.length ≤ 1000 := by first | decide | simp) : E1 k X M Γ (.List es pos) (.lst ds) := .lstN h (fun _ e => by rw [e]; exact hl) fun _ e => by rw [e]
end
end Ty
namespace Ty
open PySem PySem.Spec PyProof.Rows L2
variable [Cf]
section
variable {k : Nat} {X : Cx} {M : Option TpA} {Γ : List Sl} {a b c e : Expr} {es : List Expr} {p pos pos' : Pos} {S S1 S2 S3 : D → Prop} {SA : List D → Prop} {ds : List D} {d : D} {x : Str} {id ty : String} {r : List V → Hp → VK → Prop} {i j : Int} {ns : List Int}
def CallS (M : Option TpA) (r : List V → Hp → VK → Prop) (SA : List D → Prop) (S : D → Prop) : Prop := ∀ ds, SA ds → ∀ H vs, Iv M H → RpL H vs ds → ∀ Q : VK, (∀ v H' d, Le M H H' → S d → Rp H' v d → Q v H') → r vs H Q
theorem E.callB (hc : XOk X → Room k X.A → CallR X (.builtin id) r) (hn : x ∈ bnames) (hv : bootBuiltins x = some (.builtin id)) (ha : A k X M Γ (e :: es) SA) (h : CallS M r SA S) (hg : Gl X x := by rfl) (hq : x ≠ "__name__" := by decide) (hdb : (x == ("__debug__" : Str)) = false := by decide)
    (he : starEach (e :: es) X.env = (false, eval e X.env) :: starEach es X.env := by rfl) (hpl : (backTo pos (starEach es X.env)).any (·.1) = false := by rfl) : E k X M Γ (.Call (.Name x p) (e :: es) [] pos) S := fun xk hr H0 σ H le sat Q q =>
  to_s (pe_callB (hc xk hr) hg (xk.no hn) hv (pa_s (X := X) (es := e :: es)) hq hdb he hpl) (ha xk hr H0 σ H le sat _ fun vs H1 ds l s rr => h ds s H1 vs l.i1 rr Q fun v H' d l2 s2 r2 => q v H' d (l.trans l2) s2 r2)
theorem E.callTy (hc : XOk X → Room k X.A → CallR X (.type ty) r) (hn : x ∈ bnames) (hv : bootBuiltins x = some (.type ty)) (ha : A k X M Γ (e :: es) SA) (h : CallS M r SA S) (hg : Gl X x := by rfl) (hq : x ≠ "__name__" := by decide) (hdb : (x == ("__debug__" : Str)) = false := by decide)
    (he : starEach (e :: es) X.env = (false, eval e X.env) :: starEach es X.env := by rfl) (hpl : (backTo pos (starEach es X.env)).any (·.1) = false := by rfl) : E k X M Γ (.Call (.Name x p) (e :: es) [] pos) S := fun xk hr H0 σ H le sat Q q =>
  to_s (pe_callTy (hc xk hr) hg (xk.no hn) hv (pa_s (X := X) (es := e :: es)) hq hdb he hpl) (ha xk hr H0 σ H le sat _ fun vs H1 ds l s rr => h ds s H1 vs l.i1 rr Q fun v H' d l2 s2 r2 => q v H' d (l.trans l2) s2 r2)
/-- one argument's shape -/
theorem rp1 {H : Hp} {vs : List V} (h : RpL H vs [d]) : ∃ v, vs = [v] ∧ Rp H v d := by
  cases h with
  | cons a b =>
    cases b
    exact ⟨_, rfl, a⟩
theorem rp2 {H : Hp} {vs : List V} {d2 : D} (h : RpL H vs [d, d2]) : ∃ v u, vs = [v, u] ∧ Rp H v d ∧ Rp H u d2 := by
  cases h with
  | cons a b =>
    obtain ⟨u, rfl, q⟩ := rp1 b
    exact ⟨_, _, rfl, a, q⟩
theorem rpT {H : Hp} {v : V} (h : Rp H v (.tup ds)) : ∃ a vs, v = .ref a ∧ SqT Cf.K H a vs ∧ RpL H vs ds := by
  cases h with
  | tup h1 h2 => exact ⟨_, _, rfl, h1, h2⟩
theorem rpL {H : Hp} {v : V} (h : Rp H v (.lst ds)) : ∃ a vs, v = .ref a ∧ H a = some (.lst vs) ∧ RpL H vs ds := by
  cases h with
  | lst h1 h2 => exact ⟨_, _, rfl, h1, h2⟩
/-- a sequence -/
inductive IsSq : D → List D → Prop
  | t {ds : List D} : IsSq (.tup ds) ds
  | l {ds : List D} : IsSq (.lst ds) ds
theorem IsSq.sq {H : Hp} {v : V} (s : IsSq d ds) (h : Rp H v d) : ∃ a vs, v = .ref a ∧ (SqL Cf.K H a vs ∨ SqT Cf.K H a vs) ∧ RpL H vs ds := by
  cases s with
  | t => obtain ⟨a, vs, e, q, r⟩ := rpT h; exact ⟨a, vs, e, .inr q, r⟩
  | l => obtain ⟨a, vs, e, q, r⟩ := rpL h; exact ⟨a, vs, e, .inl (.inl (.inl q)), r⟩
theorem args1 (h : E k X M Γ a S) (hs : starEach [a] X.env = (false, eval a X.env) :: starEach [] X.env := by rfl) : A k X M Γ [a] (fun ds => ∃ d, ds = [d] ∧ S d) := .consN h .nil (fun d ds h1 h2 => ⟨d, by rw [h2], h1⟩) hs
/-- a call with one argument, its value told -/
def Call1 (M : Option TpA) (r : List V → Hp → VK → Prop) (d : D) (S : D → Prop) : Prop := ∀ H v, Iv M H → Rp H v d → ∀ Q : VK, (∀ v H' d, Le M H H' → S d → Rp H' v d → Q v H') → r [v] H Q
theorem call1S (h : Call1 M r d S) : CallS M r (fun ds => ∃ x, ds = [x] ∧ x = d) S := fun ds e' H vs iv rr Q q => by
  obtain ⟨_, rfl, rfl⟩ := e'
  obtain ⟨v, rfl, rv⟩ := rp1 rr
  exact h H v iv rv Q q
theorem E.callB1 (hc : XOk X → Room k X.A → CallR X (.builtin id) r) (hn : x ∈ bnames) (hv : bootBuiltins x = some (.builtin id)) (ha : E1 k X M Γ a d) (h : Call1 M r d S) (hg : Gl X x := by rfl) (hs : starEach [a] X.env = (false, eval a X.env) :: starEach [] X.env := by rfl) (hq : x ≠ "__name__" := by decide) (hdb : (x == ("__debug__" : Str)) = false := by decide) :
    E k X M Γ (.Call (.Name x p) [a] [] pos) S := .callB hc hn hv (args1 ha hs) (call1S h) hg hq hdb hs rfl
theorem E.callTy1 (hc : XOk X → Room k X.A → CallR X (.type ty) r) (hn : x ∈ bnames) (hv : bootBuiltins x = some (.type ty)) (ha : E1 k X M Γ a d) (h : Call1 M r d S) (hg : Gl X x := by rfl) (hs : starEach [a] X.env = (false, eval a X.env) :: starEach [] X.env := by rfl) (hq : x ≠ "__name__" := by decide) (hdb : (x == ("__debug__" : Str)) = false := by decide) :
    E k X M Γ (.Call (.Name x p) [a] [] pos) S := .callTy hc hn hv (args1 ha hs) (call1S h) hg hq hdb hs rfl
def rLen (K : PySem.W.Frag) : List V → Hp → VK → Prop := fun xs H Q => ∃ p ys, xs = [.ref p] ∧ (SqL K H p ys ∨ SqT K H p ys) ∧ Q (.int ys.length) H
theorem E.len (h : E1 k X M Γ a d) (s : IsSq d ds) (hg : Gl X "len" := by rfl) (hs : starEach [a] X.env = (false, eval a X.env) :: starEach [] X.env := by rfl) : E1 k X M Γ (.Call (.Name "len" p) [a] [] pos) (.int (ds.length : Int)) :=
  .callB1 (r := rLen Cf.K) (fun xk _ => by rw [← xk.K]; exact call_len_seq) (by decide) PySem.boot_len h (fun H v iv r Q q => by
    obtain ⟨p, ys, rfl, sq, rl⟩ := s.sq r
    refine ⟨p, ys, rfl, sq, ?_⟩
    rw [rl.length]
    exact q _ _ _ (.refl iv) rfl (.int _)) hg hs
def rListOf (K : PySem.W.Frag) : List V → Hp → VK → Prop := fun xs H Q => ∃ p ys, xs = [.ref p] ∧ (SqL K H p ys ∨ SqT K H p ys) ∧ ∀ l, H l = none → Q (.ref l) (upd H l (.lst ys))
theorem E.listOf (h : E1 k X M Γ a d) (s : IsSq d ds) (hg : Gl X "list" := by rfl) (hs : starEach [a] X.env = (false, eval a X.env) :: starEach [] X.env := by rfl) : E1 k X M Γ (.Call (.Name "list" p) [a] [] pos) (.lst ds) :=
  .callTy1 (r := rListOf Cf.K) (fun xk _ => by rw [← xk.K]; exact call_list_of) (by decide) boot_list h (fun H v iv r Q q => by
    obtain ⟨p, ys, rfl, sq, rl⟩ := s.sq r
    exact ⟨p, ys, rfl, sq, fun l hl => q _ _ _ (.new iv hl) rfl (.lst upd_same (rl.mo (.new iv hl)))⟩) hg hs
def rTupOf (K : PySem.W.Frag) : List V → Hp → VK → Prop := fun xs H Q => ∃ p ys, xs = [.ref p] ∧ ((SqL K H p ys ∧ ∀ l, H l = none → Q (.ref l) (upd H l (.tup ys))) ∨ (SqT K H p ys ∧ Q (.ref p) H))
theorem E.tupOf (h : E1 k X M Γ a d) (s : IsSq d ds) (hg : Gl X "tuple" := by rfl) (hs : starEach [a] X.env = (false, eval a X.env) :: starEach [] X.env := by rfl) : E1 k X M Γ (.Call (.Name "tuple" p) [a] [] pos) (.tup ds) :=
  .callTy1 (r := rTupOf Cf.K) (fun xk _ => by rw [← xk.K]; exact call_tuple_of) (by decide) boot_tuple h (fun H v iv r Q q => by
    obtain ⟨p, ys, rfl, sq, rl⟩ := s.sq r
    rcases sq with sq | sq
    · exact ⟨p, ys, rfl, .inl ⟨sq, fun l hl => q _ _ _ (.new iv hl) rfl (.tup (.inl (.inl upd_same)) (rl.mo (.new iv hl)))⟩⟩
    · exact ⟨p, ys, rfl, .inr ⟨sq, q _ _ _ (.refl iv) rfl (.tup sq rl)⟩⟩) hg hs
/-- tuple(a list told only by what is so of it) -/
theorem E.tupOfN {SL : List D → Prop} (h : E k X M Γ a fun d => ∃ ds, d = .lst ds ∧ SL ds) (hg : Gl X "tuple" := by rfl) (hs : starEach [a] X.env = (false, eval a X.env) :: starEach [] X.env := by rfl) : E k X M Γ (.Call (.Name "tuple" p) [a] [] pos) fun d => ∃ ds, d = .tup ds ∧ SL ds :=
  .callTy (r := rTupOf Cf.K) (fun xk _ => by rw [← xk.K]; exact call_tuple_of) (by decide) boot_tuple (args1 h hs) (fun ds e' H vs iv r Q q => by
    obtain ⟨_, rfl, ds, rfl, sl⟩ := e'
    obtain ⟨v, rfl, rv⟩ := rp1 r
    obtain ⟨p, ys, rfl, sq, rl⟩ := rpL rv
    exact ⟨p, ys, rfl, .inl ⟨.inl (.inl sq), fun l hl => q _ _ _ (.new iv hl) ⟨ds, rfl, sl⟩ (.tup (.inl (.inl upd_same)) (rl.mo (.new iv hl)))⟩⟩) hg (by decide) (by decide) hs rfl
theorem E.sumL (h : E1 k X M Γ a (.lst (ns.map D.int))) (hg : Gl X "sum" := by rfl) (hs : starEach [a] X.env = (false, eval a X.env) :: starEach [] X.env := by rfl) : E1 k X M Γ (.Call (.Name "sum" p) [a] [] pos) (.int ns.sum) :=
  .callB1 (r := rSum Cf.K) (fun xk _ => by rw [← xk.K]; exact cr_sum xk.c) (by decide) (by decide +kernel) h (fun H v iv r Q q => by
    obtain ⟨p, ys, rfl, sq, rl⟩ := rpL r
    rw [rl.ints] at sq
    exact ⟨p, ns, rfl, .inl (.inl sq), q _ _ _ (.refl iv) rfl (.int _)⟩) hg hs
theorem E.intI (h : E1 k X M Γ a (.int i)) (hg : Gl X "int" := by rfl) (hs : starEach [a] X.env = (false, eval a X.env) :: starEach [] X.env := by rfl) : E1 k X M Γ (.Call (.Name "int" p) [a] [] pos) (.int i) :=
  .callTy1 (fun xk _ => call_int1) (by decide) boot_int h (fun H v iv r Q q => by
    cases r
    exact .inl ⟨i, rfl, q _ _ _ (.refl iv) rfl (.int _)⟩) hg hs
theorem E.intB {x : Bool} (h : E1 k X M Γ a (.bl x)) (hg : Gl X "int" := by rfl) (hs : starEach [a] X.env = (false, eval a X.env) :: starEach [] X.env := by rfl) : E1 k X M Γ (.Call (.Name "int" p) [a] [] pos) (.int (if x then 1 else 0)) :=
  .callTy1 (fun xk _ => call_int1) (by decide) boot_int h (fun H v iv r Q q => by
    cases r
    exact .inr ⟨x, rfl, q _ _ _ (.refl iv) rfl (.int _)⟩) hg hs

/-! isinstance -/
def D.tyn : D → Option String
  | .non => some "NoneType"
  | .bl _ => some "bool"
  | .int _ => some "int"
  | .str _ => some "str"
  | .tup _ => some "tuple"
  | .lst _ => some "list"
  | .dic _ _ => some "dict"
  | _ => none
theorem sqT_ty {H : Hp} {a : Addr} {vs : List V} (h : SqT Cf.K H a vs) : TyX Cf.K H (.ref a) (.type "tuple") := by
  rcases h with (h | ⟨o, h⟩) | ⟨o, its, n, h1, h2, _⟩
  · exact .base (.tup h)
  · exact .fTuple h
  · exact .kTuple h1 h2
theorem D.tyx {H : Hp} {v : V} {t : String} : ∀ {d : D}, d.tyn = some t → Rp H v d → TyX Cf.K H v (.type t)
  | .non, h, r => by cases h; cases r; exact .base .non
  | .bl _, h, r => by cases h; cases r; exact .base (.bl _)
  | .int _, h, r => by cases h; cases r; exact .base (.int _)
  | .str _, h, r => by cases h; cases r; exact .base (.str _)
  | .tup _, h, r => by cases h; cases r with | tup a b => exact sqT_ty a
  | .lst _, h, r => by cases h; cases r with | lst a b => exact .base (.lst a)
  | .dic _ _, h, r => by cases h; cases r with | dic a b c d => exact .base (.dK a)
theorem E.tyN {n : String} (hn : x ∈ bnames) (hv : bootBuiltins x = some (.type n)) (hg : Gl X x := by rfl) (hq : x ≠ "__name__" := by decide) (hdb : (x == ("__debug__" : Str)) = false := by decide) : E1 k X M Γ (.Name x pos) (.ty n) := .cst (v := .ty n) (fun xk => pe_bltn hg (xk.no hn) hv rfl hq hdb) fun _ => .ty n
theorem E.isi {n t : String} {b' : Bool} (ha : E1 k X M Γ a d) (hc : E1 k X M Γ c (.ty n)) (ht : d.tyn = some t) (hk : kitB t n = some b') (hg : Gl X "isinstance" := by rfl) (hs : starEach [a, c] X.env = (false, eval a X.env) :: starEach [c] X.env := by rfl) (hs2 : starEach [c] X.env = (false, eval c X.env) :: starEach [] X.env := by rfl)
    (hpl : (backTo pos (starEach [c] X.env)).any (·.1) = false := by rfl) : E1 k X M Γ (.Call (.Name "isinstance" p) [a, c] [] pos) (.bl b') :=
  .callB (r := rIsi Cf.K) (fun xk _ => by rw [← xk.K]; exact call_isi) (by decide) boot_isinstance (.cons ha (.cons hc .nil hs2) hs) (fun ds e' H vs iv r Q q => by
    subst e'
    obtain ⟨v, u, rfl, r1, r2⟩ := rp2 r
    cases r2
    exact ⟨v, .ty n, _, _, b', rfl, .ty n, D.tyx ht r1, kit_ty hk, q _ _ _ (.refl iv) rfl (.bl _)⟩) hg (by decide) (by decide) hs hpl
/-- a class of one's own, as isinstance asks of it -/
structure OwnC (C : Addr) : Prop where
  cl : Cls Cf.K C
  ha : PySem.W.findIn Cf.K (.ref C) "__class__" = some (some (.builtin "object.__class__"))
  hn : PySem.W.specialIn Cf.K (.builtin "object.__class__") "__get__" = some (some (.builtin "getset_descriptor.__get__"))
  htk : PySem.W.takesIn Cf.K (.builtin "object.__class__") = some true
  hm : PySem.W.mroIn Cf.K C (.type "object") = some true
theorem E.isiOwn {C C' : Addr} {nn : List Str} {b' : Bool} (ha : E1 k X M Γ a (.ins C nn ds)) (o : OwnC C) (hc : E1 k X M Γ c (.adr C')) (hk : PySem.W.kitOne Cf.K (.ref C) (.ref C') = some b') (hg : Gl X "isinstance" := by rfl) (hs : starEach [a, c] X.env = (false, eval a X.env) :: starEach [c] X.env := by rfl) (hs2 : starEach [c] X.env = (false, eval c X.env) :: starEach [] X.env := by rfl)
    (hpl : (backTo pos (starEach [c] X.env)).any (·.1) = false := by rfl) : E1 k X M Γ (.Call (.Name "isinstance" p) [a, c] [] pos) (.bl b') :=
  .callB (r := rIsi Cf.K) (fun xk _ => by rw [← xk.K]; exact call_isi) (by decide) boot_isinstance (.cons ha (.cons hc .nil hs2) hs) (fun ds e' H vs iv r Q q => by
    subst e'
    obtain ⟨v, u, rfl, r1, r2⟩ := rp2 r
    cases r2
    cases r1 with
    | ins h1 h2 h3 => exact ⟨_, .ref C', _, _, b', rfl, .own C', .base (.ins h1 o.cl o.ha o.hn o.htk o.hm), hk, q _ _ _ (.refl iv) rfl (.bl _)⟩) hg (by decide) (by decide) hs hpl
theorem E.isi2 {n n' t : String} {b' : Bool} (ha : E1 k X M Γ a d) (hc : E1 k X M Γ c (.tup [.ty n, .ty n'])) (ht : d.tyn = some t) (hk : PySem.W.kitAny Cf.K (.type t) [.type n, .type n'] = some b') (hnew : ∀ H v, Rp H v (.tup [.ty n, .ty n']) → ∃ tp, v = .ref tp ∧ H tp = some (.tup [.ty n, .ty n'])) (hg : Gl X "isinstance" := by rfl) (hs : starEach [a, c] X.env = (false, eval a X.env) :: starEach [c] X.env := by rfl) (hs2 : starEach [c] X.env = (false, eval c X.env) :: starEach [] X.env := by rfl)
    (hpl : (backTo pos (starEach [c] X.env)).any (·.1) = false := by rfl) : E1 k X M Γ (.Call (.Name "isinstance" p) [a, c] [] pos) (.bl b') :=
  .callB (r := rIsiT Cf.K) (fun xk _ => by rw [← xk.K]; exact call_isiT) (by decide) boot_isinstance (.cons ha (.cons hc .nil hs2) hs) (fun ds e' H vs iv r Q q => by
    subst e'
    obtain ⟨v, u, rfl, r1, r2⟩ := rp2 r
    obtain ⟨tp, rfl, ht2⟩ := hnew _ _ r2
    exact ⟨v, tp, _, _, _, b', rfl, ht2, .cons (.ty n) (.cons (.ty n') .nil), D.tyx ht r1, hk, q _ _ _ (.refl iv) rfl (.bl _)⟩) hg (by decide) (by decide) hs hpl

/-! items, slices, joins -/
def atD (ds : List D) (i : Int) : Option D := if 0 ≤ i then ds[i.toNat]? else none
theorem atD_nat {ds : List D} {n : Nat} : atD ds (n : Int) = ds[n]? := by
  unfold atD
  rw [if_pos (by omega), Int.toNat_natCast]
theorem RpL.atI {H : Hp} {vs : List V} (r : RpL H vs ds) (h : atD ds i = some d) : ∃ v, L2.atI vs i = some v ∧ Rp H v d := by
  unfold atD at h
  by_cases hi : 0 ≤ i
  · rw [if_pos hi] at h
    obtain ⟨v, e, rv⟩ := r.get h
    refine ⟨v, ?_, rv⟩
    have e2 := atI_nat e
    rw [Int.toNat_of_nonneg hi] at e2
    exact e2
  · rw [if_neg hi] at h
    cases h
theorem E.ixT (ha : E1 k X M Γ a (.tup ds)) (hb : E1 k X M Γ b (.int i)) (h : atD ds i = some d) (hp : PlainIx b := by intro _ _; rfl) : E1 k X M Γ (.Subscript a b pos) d :=
  .two (r := rIxT Cf.K) (fun xk _ => by rw [← xk.K]; exact pe_ix ix_tup pe_s pe_s hp) ha hb fun d1 d2 e1 e2 H x y iv r1 r2 Q q => by
    subst e1 e2
    obtain ⟨p, vs, rfl, sq, rl⟩ := rpT r1
    cases r2
    obtain ⟨v, ev, rv⟩ := rl.atI h
    exact ⟨p, vs, i, v, rfl, rfl, sq, ev, q _ _ _ (.refl iv) rfl rv⟩
theorem E.ixL (ha : E1 k X M Γ a (.lst ds)) (hb : E1 k X M Γ b (.int i)) (h : atD ds i = some d) (hp : PlainIx b := by intro _ _; rfl) : E1 k X M Γ (.Subscript a b pos) d :=
  .two (r := rIxL Cf.K) (fun xk _ => by rw [← xk.K]; exact pe_ix ix_list pe_s pe_s hp) ha hb fun d1 d2 e1 e2 H x y iv r1 r2 Q q => by
    subst e1 e2
    obtain ⟨p, vs, rfl, sq, rl⟩ := rpL r1
    cases r2
    obtain ⟨v, ev, rv⟩ := rl.atI h
    exact ⟨p, vs, i, v, rfl, rfl, .inl (.inl sq), ev, q _ _ _ (.refl iv) rfl rv⟩
/-- the same with an index that is only known to be in range -/
theorem E.ixLN {SI : D → Prop} (ha : E1 k X M Γ a (.lst ds)) (hb : E k X M Γ b SI) (h : ∀ d2, SI d2 → ∃ i d, d2 = .int i ∧ atD ds i = some d ∧ S d) (hp : PlainIx b := by intro _ _; rfl) : E k X M Γ (.Subscript a b pos) S :=
  .two (r := rIxL Cf.K) (fun xk _ => by rw [← xk.K]; exact pe_ix ix_list pe_s pe_s hp) ha hb fun d1 d2 e1 e2 H x y iv r1 r2 Q q => by
    subst e1
    obtain ⟨i, d, rfl, h, s⟩ := h d2 e2
    obtain ⟨p, vs, rfl, sq, rl⟩ := rpL r1
    cases r2
    obtain ⟨v, ev, rv⟩ := rl.atI h
    exact ⟨p, vs, i, v, rfl, rfl, .inl (.inl sq), ev, q _ _ _ (.refl iv) s rv⟩
/-- a slice's part -/
def O (k : Nat) (X : Cx) (M : Option TpA) (Γ : List Sl) (e : Option Expr) (o : Option Int) : Prop := ∃ t, (XOk X → Room k X.A → PO X e t) ∧ (XOk X → Room k X.A → ∀ H0 σ H, Le M H0 H → Sat Γ H0 σ H → ∀ Q : Option Int → Hp → Prop, (∀ H', Le M H H' → Q o H') → t σ H Q)
theorem O.none : O k X M Γ none none := ⟨tNoPart, fun _ _ => po_none, fun xk hr H0 σ H le sat Q q => q H (.refl le.i1)⟩
theorem O.some (h : E1 k X M Γ a (.int i)) : O k X M Γ (some a) (some i) := ⟨tPart (tS X a), fun _ _ => po_some pe_s, fun xk hr H0 σ H le sat Q q => h xk hr H0 σ H le sat _ fun v H' d l s r => by
  subst s
  cases r
  exact ⟨i, rfl, q _ l⟩⟩
def cutD (ds : List D) (lo hi : Option Int) : List D := (ds.drop (HT.sIx ds.length 0 lo)).take (HT.sIx ds.length ds.length hi - HT.sIx ds.length 0 lo)
theorem RpL.cut {H : Hp} {vs : List V} (r : RpL H vs ds) (lo hi : Option Int) : RpL H (cutV vs lo hi) (cutD ds lo hi) := by
  unfold cutV cutD
  rw [r.length]
  exact (r.drop _).take _
theorem E.slT {l h : Option Expr} {lo hi : Option Int} {p2 : Pos} (ha : E1 k X M Γ a (.tup ds)) (hl : O k X M Γ l lo) (hh : O k X M Γ h hi) : E1 k X M Γ (.Subscript a (.Slice l h none p2) pos) (.tup (cutD ds lo hi)) := fun xk hr H0 σ H le sat Q q => by
  obtain ⟨tl, pl, ql⟩ := hl
  obtain ⟨th, ph, qh⟩ := hh
  refine to_s (pe_slice (r := rSlA Cf.K) (by rw [← xk.K]; exact sl_tupA) pe_s (pl xk hr) (ph xk hr)) (ha xk hr H0 σ H le sat _ fun x H1 d1 l1 s1 r1 => ql xk hr H0 σ H1 (le.trans l1) (sat.mo l1) _ fun H2 l2 => qh xk hr H0 σ H2 ((le.trans l1).trans l2) ((sat.mo l1).mo l2) _ fun H3 l3 => ?_)
  subst s1
  obtain ⟨p, vs, rfl, sq, rl⟩ := rpT ((r1.mo l2).mo l3)
  refine ⟨p, vs, rfl, sq, fun hw => ?_, fun hw p2 hp => ?_⟩
  · refine q _ _ _ ((l1.trans l2).trans l3) rfl ?_
    have e : cutD ds lo hi = ds := by
      unfold cutD
      rw [rl.length] at hw
      rw [hw.1, hw.2]
      simp
    rw [e]
    exact .tup sq rl
  · exact q _ _ _ (((l1.trans l2).trans l3).newT hp) rfl (.tup (.inl (.inl upd_same)) ((rl.cut lo hi).mo (.new l3.i1 hp)))
theorem E.slL {l h : Option Expr} {lo hi : Option Int} {p2 : Pos} (ha : E1 k X M Γ a (.lst ds)) (hl : O k X M Γ l lo) (hh : O k X M Γ h hi) : E1 k X M Γ (.Subscript a (.Slice l h none p2) pos) (.lst (cutD ds lo hi)) := fun xk hr H0 σ H le sat Q q => by
  obtain ⟨tl, pl, ql⟩ := hl
  obtain ⟨th, ph, qh⟩ := hh
  refine to_s (pe_slice (r := rSlL Cf.K) (by rw [← xk.K]; exact sl_list) pe_s (pl xk hr) (ph xk hr)) (ha xk hr H0 σ H le sat _ fun x H1 d1 l1 s1 r1 => ql xk hr H0 σ H1 (le.trans l1) (sat.mo l1) _ fun H2 l2 => qh xk hr H0 σ H2 ((le.trans l1).trans l2) ((sat.mo l1).mo l2) _ fun H3 l3 => ?_)
  subst s1
  obtain ⟨p, vs, rfl, sq, rl⟩ := rpL ((r1.mo l2).mo l3)
  exact ⟨p, vs, rfl, .inl (.inl sq), fun p2 hp => q _ _ _ (((l1.trans l2).trans l3).newT hp) rfl (.lst upd_same ((rl.cut lo hi).mo (.new l3.i1 hp)))⟩
theorem E.catT {es' : List D} (ha : E1 k X M Γ a (.tup ds)) (hb : E1 k X M Γ b (.tup es')) (hl : ds.length + es'.length ≤ 1000) : E1 k X M Γ (.BinOp a .Add b pos) (.tup (ds ++ es')) :=
  .bin (r := rCatA Cf.K) (fun xk _ => by rw [← xk.K]; exact op_catA) ha hb fun d1 d2 e1 e2 H x y iv r1 r2 Q q => by
    subst e1 e2
    obtain ⟨p, vs, rfl, sq, rl⟩ := rpT r1
    obtain ⟨p2, vs2, rfl, sq2, rl2⟩ := rpT r2
    refine ⟨p, p2, vs, vs2, rfl, rfl, sq, sq2, sz1000 (by rw [rl.length, rl2.length]; exact hl), fun h => ?_, fun h1 h2 => ?_, fun h1 h2 p3 hp => ?_⟩
    · subst h
      cases rl
      exact q _ _ _ (.refl iv) rfl (.tup sq2 rl2)
    · subst h2
      cases rl2
      exact q _ _ _ (.refl iv) rfl (by rw [List.append_nil]; exact .tup sq rl)
    · exact q _ _ _ (.new iv hp) rfl (.tup (.inl (.inl upd_same)) ((rl.app rl2).mo (.new iv hp)))
theorem E.catL {es' : List D} (ha : E1 k X M Γ a (.lst ds)) (hb : E1 k X M Γ b (.lst es')) (hl : ds.length + es'.length ≤ 1000) : E1 k X M Γ (.BinOp a .Add b pos) (.lst (ds ++ es')) :=
  .bin (r := rCat) (fun xk _ => op_cat) ha hb fun d1 d2 e1 e2 H x y iv r1 r2 Q q => by
    subst e1 e2
    obtain ⟨p, vs, rfl, sq, rl⟩ := rpL r1
    obtain ⟨p2, vs2, rfl, sq2, rl2⟩ := rpL r2
    exact ⟨p, p2, vs, vs2, rfl, rfl, sq, sq2, sz1000 (by rw [rl.length, rl2.length]; exact hl), fun p3 hp => q _ _ _ (.new iv hp) rfl (.lst upd_same ((rl.app rl2).mo (.new iv hp)))⟩
theorem RpL.rep {H : Hp} {v : V} (r : Rp H v d) : ∀ n, RpL H (List.replicate n v) (List.replicate n d)
  | 0 => .nil
  | n + 1 => .cons r (RpL.rep r n)
theorem flat1 {α : Type} (x : α) : ∀ n, (List.replicate n [x]).flatten = List.replicate n x
  | 0 => rfl
  | n + 1 => by rw [List.replicate_succ, List.flatten_cons, flat1 x n]; rfl
/-- [e] * n -/
theorem E.repL {n : Nat} (ha : E1 k X M Γ a (.lst [d])) (hb : E1 k X M Γ b (.int (n : Int))) (hl : n ≤ 1000) : E1 k X M Γ (.BinOp a .Mult b pos) (.lst (List.replicate n d)) :=
  .bin (r := rRep) (fun xk _ => op_rep) ha hb fun d1 d2 e1 e2 H x y iv r1 r2 Q q => by
    subst e1 e2
    obtain ⟨p, vs, rfl, sq, rl⟩ := rpL r1
    cases r2
    obtain ⟨v, rfl, rv⟩ := rp1 rl
    refine ⟨p, (n : Int), [v], rfl, rfl, sq, by omega, by omega, sz1000 (by rw [Int.toNat_natCast]; simpa using hl), fun p3 hp => q _ _ _ (.new iv hp) rfl ?_⟩
    rw [Int.toNat_natCast, flat1]
    exact .lst upd_same ((RpL.rep rv n).mo (.new iv hp))
end
end Ty
namespace Ty
open PySem PySem.Spec PyProof.Rows L2
variable [Cf]
/-! ### what is walked -/
theorem sqT_mut {H : Hp} {a l : Addr} {vs : List V} {o o' : HO} (h : SqT Cf.K H a vs) (hl : H l = some o) (hn : ∀ xs, o ≠ .tup xs) (hf : ∀ q u, o ≠ .frz q u) : SqT Cf.K (upd H l o') a vs := by
  rcases h with (h1 | ⟨q, h1⟩) | h1
  · exact .inl (.inl (by rw [upd_ne (fun z => by rw [z, hl] at h1; exact hn _ (Option.some.inj h1))]; exact h1))
  · exact .inl (.inr ⟨q, by rw [upd_ne (fun z => by rw [z, hl] at h1; exact hf _ _ (Option.some.inj h1))]; exact h1⟩)
  · exact .inr h1
mutual
theorem Rp.mutD {H : Hp} {l : Addr} {xs : List (Key × V)} {o : HO} (hl : H l = some (.dK xs)) : ∀ {d : D} {v : V}, d.im = true → Rp H v d → Rp (upd H l o) v d
  | .non, _, _, h => by cases h; exact .non
  | .bl b, _, _, h => by cases h; exact .bl b
  | .int b, _, _, h => by cases h; exact .int b
  | .str b, _, _, h => by cases h; exact .str b
  | .adr b, _, _, h => by cases h; exact .adr b
  | .lam f c q, _, _, h => by
    cases h with
    | lam _ h1 => exact .lam _ (by rw [upd_ne (fun z => by rw [z, hl] at h1; unfold LamX.CodeO at h1; cases h1)]; exact h1)
  | .ty b, _, _, h => by cases h; exact .ty b
  | .tup ds, _, i, h => by
    cases h with
    | tup h1 h2 => exact .tup (sqT_mut h1 hl (fun _ z => nomatch z) fun _ _ z => nomatch z) (RpL.mutD hl (by simpa [D.im] using i) h2)
  | .xt ds, _, i, h => by
    cases h with
    | xt h1 h2 h3 => exact .xt (by rw [upd_ne (fun z => by rw [z, hl] at h1; cases h1)]; exact h1) h2 (RpL.mutD hl (by simpa [D.im] using i) h3)
  | .lst ds, _, i, h => by simp [D.im] at i
  | .ins C ns ds, _, i, h => by
    cases h with
    | ins h1 h2 h3 => exact .ins (by rw [upd_ne (fun z => by rw [z, hl] at h1; cases h1)]; exact h1) h2 (RpL.mutD hl (by simpa [D.im] using i) h3)
  | .dic ns ds, _, i, h => by simp [D.im] at i
theorem RpL.mutD {H : Hp} {l : Addr} {xs : List (Key × V)} {o : HO} (hl : H l = some (.dK xs)) : ∀ {ds : List D} {vs : List V}, D.imL ds = true → RpL H vs ds → RpL (upd H l o) vs ds
  | [], _, _, h => by cases h; exact .nil
  | d :: ds, _, i, h => by
    simp only [D.imL, Bool.and_eq_true] at i
    cases h with
    | cons h1 h2 => exact .cons (Rp.mutD hl i.1 h1) (RpL.mutD hl i.2 h2)
end
section
variable {k : Nat} {X : Cx} {M : Option TpA} {mu : Bool} {Γ : List Sl} {a b c e tg : Expr} {es : List Expr} {p pos pos' tpos : Pos} {S : D → Prop} {ds ds' : List D} {d : D} {x : Str} {i j : Int} {elts : List Expr} {kk : Nat}
theorem fr_true : Fr mu fun _ => True := ⟨fun _ _ _ _ _ => trivial, fun _ _ _ _ _ _ _ => trivial, fun _ _ _ _ _ _ _ => trivial⟩
theorem fr_and {F F' : Hp → Prop} (h : Fr mu F) (h' : Fr mu F') : Fr mu fun H => F H ∧ F' H := ⟨fun _ _ _ l q => ⟨h.le _ _ _ l q.1, h'.le _ _ _ l q.2⟩, fun m _ _ _ _ e q => ⟨h.ml m _ _ _ _ e q.1, h'.ml m _ _ _ _ e q.2⟩, fun m _ _ _ _ e q => ⟨h.md m _ _ _ _ e q.1, h'.md m _ _ _ _ e q.2⟩⟩
theorem fr_seq {a : Addr} {vs : List V} (him : mu = true → D.imL ds = true) : Fr mu fun H => SqT Cf.K H a vs ∧ RpL H vs ds :=
  ⟨fun _ _ _ l q => ⟨ext_t l q.1, q.2.mo l⟩, fun m _ _ _ _ e q => ⟨sqT_mut q.1 e (fun _ z => nomatch z) (fun _ _ z => nomatch z), q.2.mut e (him m)⟩, fun m _ _ _ _ e q => ⟨sqT_mut q.1 e (fun _ z => nomatch z) (fun _ _ z => nomatch z), q.2.mutD e (him m)⟩⟩
theorem le_pair {H : Hp} {T : Addr} {o : HO} (h : H T = none) : ∀ M', Iv M' H → Le M' H (upd H T o) := fun _ i => .new i h
theorem W.tup (ha : E1 k X M Γ a (.tup ds)) (him : mu = true → D.imL ds = true := by first | exact fun z => nomatch z | exact fun _ => rfl) : W k X M mu Γ tg a ds := fun xk hr H0 σ H le sat R h =>
  to_i (pi_tup (pe_s (X := X) (e := a))) (ha xk hr H0 σ H le sat _ fun v H1 d l s r => by
    subst s
    obtain ⟨q, vs, rfl, sq, rl⟩ := rpT r
    rw [xk.K]
    refine ⟨q, rfl, ⟨vs, sq⟩, h _ H1 _ _ l (by rw [← rl.length]; exact walk_tup.mono (G' := fun H => SqT Cf.K H q vs ∧ RpL H vs ds) (fun _ z => z.1) fun _ _ _ _ _ _ y => y) (fr_seq him) ⟨sq, rl⟩ fun i H2 x H3 hi gs y => ?_⟩
    obtain ⟨rfl, ex⟩ := y
    obtain ⟨d, ed, rd⟩ := gs.2.getV ex
    exact ⟨fun _ iv => .refl iv, d, ed, rd⟩)
theorem W.lst (ha : E1 k X M Γ a (.lst ds)) : W k X M false Γ tg a ds := fun xk hr H0 σ H le sat R h =>
  to_i (pi_list (pe_s (X := X) (e := a))) (ha xk hr H0 σ H le sat _ fun v H1 d l s r => by
    subst s
    obtain ⟨q, vs, rfl, sq, rl⟩ := rpL r
    rw [xk.K]
    refine ⟨q, rfl, ⟨vs, .inl (.inl sq)⟩, h _ H1 (fun H => H q = some (.lst vs) ∧ RpL H vs ds) _ l (by rw [← rl.length]; exact walk_list.mono (fun _ z => .inl (.inl z.1)) fun _ _ _ _ _ _ y => y) ⟨fun _ _ _ l z => ⟨l.e _ _ z.1 (fun _ z => nomatch z) (l.ne_t z.1 fun _ z => nomatch z), z.2.mo l⟩, (fun z => nomatch z), (fun z => nomatch z)⟩ ⟨sq, rl⟩ fun i H2 x H3 hi gs y => ?_⟩
    obtain ⟨rfl, ex⟩ := y
    obtain ⟨d, ed, rd⟩ := gs.2.getV ex
    exact ⟨fun _ iv => .refl iv, d, ed, rd⟩)
theorem W.range1 {n : Nat} (ha : E1 k X M Γ a (.int (n : Int))) (hn : n ≤ 1000000) (hg : Gl X "range" := by rfl) (hs : starEach [a] X.env = [(false, eval a X.env)] := by rfl) : W k X M mu Γ tg (.Call (.Name "range" p) [a] [] pos) ((List.range n).map fun i => D.int ((i : Nat) : Int)) := fun xk hr H0 σ H le sat R h =>
  to_i (pi_range1 hg (xk.no (by decide)) (pa_s (X := X) (es := [a])) hs) (args1 ha (by rw [hs] <;> rfl) xk hr H0 σ H le sat _ fun vs H1 ds l s r => by
    obtain ⟨_, rfl, rfl⟩ := s
    obtain ⟨v, rfl, rv⟩ := rp1 r
    cases rv
    have e1 : ((n : Int)).toNat = n := Int.toNat_natCast n
    refine ⟨(n : Int), rfl, by omega, by omega, ?_⟩
    rw [e1]
    have hl : ((List.range n).map fun i => D.int ((i : Nat) : Int)).length = n := by simp
    refine h _ H1 _ _ l (by rw [hl]; exact walk_range) fr_true trivial fun i H2 x H3 hi gs y => ?_
    obtain ⟨rfl, ex⟩ := y
    rw [hl] at hi
    refine ⟨fun _ iv => .refl iv, .int (i : Int), by rw [List.getElem?_map, List.getElem?_range hi]; rfl, ?_⟩
    rw [ex]
    show Rp _ (V.int (0 + (i : Int))) _
    rw [Int.zero_add]
    exact .int _)
theorem W.range2 {lo hi : Int} (ha : E1 k X M Γ a (.int lo)) (hb : E1 k X M Γ b (.int hi)) (hn : 0 ≤ lo ∧ lo ≤ 1000000 ∧ 0 ≤ hi ∧ hi ≤ 1000000) (hg : Gl X "range" := by rfl) (hs : starEach [a, b] X.env = [(false, eval a X.env), (false, eval b X.env)] := by rfl) (hs2 : starEach [b] X.env = [(false, eval b X.env)] := by rfl) :
    W k X M mu Γ tg (.Call (.Name "range" p) [a, b] [] pos) ((List.range (hi - lo).toNat).map fun i => D.int (lo + ((i : Nat) : Int))) := fun xk hr H0 σ H le sat R h =>
  to_i (pi_range2 hg (xk.no (by decide)) (pa_s (X := X) (es := [a, b])) hs hs2) (A.cons ha (.cons hb .nil (by rw [hs2] <;> rfl)) (by rw [hs, hs2]) xk hr H0 σ H le sat _ fun vs H1 ds l s r => by
    subst s
    obtain ⟨v, u, rfl, rv, ru⟩ := rp2 r
    cases rv
    cases ru
    refine ⟨lo, hi, rfl, by omega, ?_⟩
    have hl : ((List.range (hi - lo).toNat).map fun i => D.int (lo + ((i : Nat) : Int))).length = (hi - lo).toNat := by simp
    refine h _ H1 _ _ l (by rw [hl]; exact walk_range) fr_true trivial fun i H2 x H3 hi gs y => ?_
    obtain ⟨rfl, ex⟩ := y
    rw [hl] at hi
    refine ⟨fun _ iv => .refl iv, .int (lo + (i : Int)), by rw [List.getElem?_map, List.getElem?_range hi]; rfl, ?_⟩
    rw [ex]
    exact .int _)
open RZ in
theorem W.zipT {α β : Type} {xs : List α} {ys : List β} {f : α → D} {g : β → D} (ha : E1 k X M Γ a (.tup (xs.map f))) (hb : E1 k X M Γ b (.tup (ys.map g))) (him : mu = true → D.imL (xs.map f) = true ∧ D.imL (ys.map g) = true := by first | exact fun z => nomatch z | exact fun _ => ⟨rfl, rfl⟩) (hg : Gl X "zip" := by rfl)
    (hs : starEach [a, b] X.env = (false, eval a X.env) :: starEach [b] X.env := by rfl) (hs2 : starEach [b] X.env = (false, eval b X.env) :: starEach [] X.env := by rfl) (hpl : (backTo pos (starEach [b] X.env)).any (·.1) = false := by rfl) :
    W k X M mu Γ (.Tuple elts kk tpos) (.Call (.Name "zip" p) [a, b] [] pos) ((xs.zip ys).map fun q => D.tup [f q.1, g q.2]) := fun xk hr H0 σ H le sat R h =>
  to_i (pi_zipA hg (xk.no (by decide)) (pa_s (X := X) (es := [a, b])) hs hpl) (A.cons ha (.cons hb .nil hs2) hs xk hr H0 σ H le sat _ fun vs H1 ds l s r => by
    subst s
    obtain ⟨v, u, rfl, rv, ru⟩ := rp2 r
    obtain ⟨q, vs, rfl, sq, rl⟩ := rpT rv
    obtain ⟨q2, vs2, rfl, sq2, rl2⟩ := rpT ru
    rw [xk.K]
    refine ⟨q, q2, vs, vs2, rfl, .inr ⟨sq, sq2, ?_⟩⟩
    have hl : ((xs.zip ys).map fun q => D.tup [f q.1, g q.2]).length = min vs.length vs2.length := by rw [List.length_map, List.length_zip, rl.length, rl2.length, List.length_map, List.length_map]
    refine h _ H1 (fun H => (SqT Cf.K H q vs ∧ RpL H vs (xs.map f)) ∧ SqT Cf.K H q2 vs2 ∧ RpL H vs2 (ys.map g)) _ l ((En.walk_zipT hl).mono (fun _ z => ⟨z.1.1, z.2.1⟩) fun _ _ _ _ _ _ y => y) (fr_and (fr_seq fun z => (him z).1) (fr_seq fun z => (him z).2)) ⟨⟨sq, rl⟩, sq2, rl2⟩ fun i H2 x H3 hi gs y => ?_
    obtain ⟨T, x1, x2, rfl, hT, rfl, e1, e2⟩ := y
    obtain ⟨d1, f1, r1⟩ := gs.1.2.getV e1
    obtain ⟨d2, f2, r2⟩ := gs.2.2.getV e2
    have hX : ∃ x0, xs[i]? = some x0 ∧ f x0 = d1 := by
      rw [List.getElem?_map] at f1
      cases e0 : xs[i]? with
      | none => rw [e0] at f1; cases f1
      | some x0 => rw [e0] at f1; exact ⟨x0, rfl, Option.some.inj f1⟩
    have hY : ∃ y0, ys[i]? = some y0 ∧ g y0 = d2 := by
      rw [List.getElem?_map] at f2
      cases e0 : ys[i]? with
      | none => rw [e0] at f2; cases f2
      | some x0 => rw [e0] at f2; exact ⟨x0, rfl, Option.some.inj f2⟩
    obtain ⟨x0, ex0, rfl⟩ := hX
    obtain ⟨y0, ey0, rfl⟩ := hY
    refine ⟨le_pair hT, .tup [f x0, g y0], ?_, ?_⟩
    · have : (xs.zip ys)[i]? = some (x0, y0) := by
        rw [List.getElem?_zip_eq_some]
        exact ⟨ex0, ey0⟩
      rw [List.getElem?_map, this] <;> rfl
    · exact .tup (.inl (.inl upd_same)) (.cons (r1.keep (new_keep hT)) (.cons (r2.keep (new_keep hT)) .nil)))
open En in
theorem W.enumT (ha : E1 k X M Γ a (.tup ds)) (him : mu = true → D.imL ds = true := by first | exact fun z => nomatch z | exact fun _ => rfl) (hg : Gl X "enumerate" := by rfl) (hs : starEach [a] X.env = [(false, eval a X.env)] := by rfl) :
    W k X M mu Γ (.Tuple elts kk tpos) (.Call (.Name "enumerate" p) [a] [] pos) (ds.mapIdx fun i d => D.tup [.int (i : Nat), d]) := fun xk hr H0 σ H le sat R h =>
  to_i (pi_enumT hg (xk.no (by decide)) (pa_s (X := X) (es := [a])) hs) (args1 ha (by rw [hs] <;> rfl) xk hr H0 σ H le sat _ fun vs H1 ds' l s r => by
    obtain ⟨_, rfl, rfl⟩ := s
    obtain ⟨v, rfl, rv⟩ := rp1 r
    obtain ⟨q, vs, rfl, sq, rl⟩ := rpT rv
    rw [xk.K]
    refine ⟨q, vs, rfl, sq, ?_⟩
    have hl : (ds.mapIdx fun i d => D.tup [.int (i : Nat), d]).length = vs.length := by rw [List.length_mapIdx, rl.length]
    refine h _ H1 (fun H => SqT Cf.K H q vs ∧ RpL H vs ds) _ l (by rw [hl]; exact walk_enumT.mono (fun _ z => z.1) fun _ _ _ _ _ _ y => y) (fr_seq him) ⟨sq, rl⟩ fun i H2 x H3 hi gs y => ?_
    obtain ⟨T, x1, x2, rfl, hT, rfl, e1, e2⟩ := y
    cases e1
    obtain ⟨d2, f2, r2⟩ := gs.2.getV e2
    refine ⟨le_pair hT, .tup [.int (i : Nat), d2], by rw [List.getElem?_mapIdx, f2]; rfl, .tup (.inl (.inl upd_same)) (.cons (.int _) (.cons (r2.keep (new_keep hT)) .nil))⟩)
end
/-! ### targets -/
theorem wipe_at (σ : L2.St) : ∀ (vs : List Nat) (j : Nat), (L2.wipe σ vs)[j]? = if j ∈ vs ∧ j < σ.length then some none else σ[j]?
  | [], j => by simp [L2.wipe]
  | v :: vs, j => by
    unfold L2.wipe
    by_cases e : v = j
    · subst e
      by_cases hl : v < σ.length
      · rw [List.getElem?_set_self (by rw [wipe_length]; exact hl), if_pos ⟨List.mem_cons_self, hl⟩]
      · rw [List.getElem?_eq_none (by rw [List.length_set, wipe_length]; omega), if_neg (fun z => hl z.2), List.getElem?_eq_none (by omega)]
    · rw [List.getElem?_set_ne e, wipe_at σ vs j]
      have : (j ∈ v :: vs) ↔ j ∈ vs := by
        rw [List.mem_cons]
        exact ⟨fun h => h.elim (fun z => absurd z.symm e) id, .inr⟩
      simp only [this]
theorem wipe_set {σ : L2.St} {j : Nat} {o : Option V} {vs : List Nat} (h : j ∈ vs) : L2.wipe (σ.set j o) vs = L2.wipe σ vs := by
  refine List.ext_getElem? fun i => ?_
  rw [wipe_at, wipe_at, List.length_set]
  by_cases e : j = i
  · subst e
    by_cases hl : j < σ.length
    · rw [if_pos ⟨h, hl⟩, if_pos ⟨h, hl⟩]
    · rw [if_neg (fun z => hl z.2), if_neg (fun z => hl z.2), List.getElem?_eq_none (by rw [List.length_set]; omega), List.getElem?_eq_none (by omega)]
  · rw [List.getElem?_set_ne e]
theorem wipe_wipe (σ : L2.St) (vs : List Nat) : L2.wipe (L2.wipe σ vs) vs = L2.wipe σ vs := by
  refine List.ext_getElem? fun j => ?_
  rw [wipe_at, wipe_at, wipe_length]
  by_cases z : j ∈ vs ∧ j < σ.length
  · rw [if_pos z, if_pos z]
  · rw [if_neg z, if_neg z]
section
variable {X : Cx} {Γ Γ' Γ1 : List Sl} {tg : Expr} {tgs : List Expr} {d : D} {ds : List D} {js js' : List Nat} {pos : Pos} {x : Str}
theorem G.name (i : Nat) (hN : X.N[i]? = some x := by rfl) (hx : Loc X.env.scope x := by first | exact .inl rfl | exact .inr rfl) (hf : X.fn x = true ∨ X.env.scope.names.lookup x = some .local := by first | exact .inl rfl | exact .inr rfl) : G X Γ (.Name x pos) d (Γ.set i (.val d)) [i] := fun xk H0 H v σ r sat Q q =>
  to_g (pg_name xk.nd hN hx hf) (q _ (sat.set i (s := .val d) ⟨v, rfl, r⟩) fun vs hj => wipe_set (hj i List.mem_cons_self))
/-- several targets -/
def Gs (X : Cx) (Γ : List Sl) (tgs : List Expr) (ds : List D) (Γ' : List Sl) (js : List Nat) : Prop :=
  ∃ t, (XOk X → PGs X tgs t) ∧ (XOk X → ∀ H0 H vs σ, RpL H vs ds → Sat Γ H0 σ H → ∀ Q : L2.St → Hp → Prop, (∀ σ', Sat Γ' H0 σ' H → (∀ ws : List Nat, (∀ j ∈ js, j ∈ ws) → L2.wipe σ' ws = L2.wipe σ ws) → Q σ' H) → t vs σ H Q)
theorem Gs.nil : Gs X Γ [] [] Γ [] := ⟨gNil, fun _ => pgs_nil, fun xk H0 H vs σ r sat Q q => by cases r; exact ⟨rfl, q σ sat fun _ _ => rfl⟩⟩
theorem Gs.cons (h1 : G X Γ tg d Γ1 js) (h2 : Gs X Γ1 tgs ds Γ' js') (hs : (assignEach (tg :: tgs) X.env).map (·.2) = assign tg X.env :: (assignEach tgs X.env).map (·.2) := by rfl) : Gs X Γ (tg :: tgs) (d :: ds) Γ' (js ++ js') := by
  obtain ⟨t, p, h⟩ := h2
  refine ⟨gCons (tSG X tg) t, fun xk => pgs_cons pg_s (p xk) hs, fun xk H0 H vs σ r sat Q q => ?_⟩
  cases r with
  | cons r rr =>
    exact ⟨_, _, rfl, h1 xk H0 H _ σ r sat _ fun σ1 sat1 w1 => h xk H0 H _ σ1 rr sat1 _ fun σ2 sat2 w2 => q σ2 sat2 fun ws hw => (w2 ws fun j hj => hw j (List.mem_append_right _ hj)).trans (w1 ws fun j hj => hw j (List.mem_append_left _ hj))⟩
theorem G.tup {kk : Nat} (h : Gs X Γ tgs ds Γ' js) (hn : (assignEach tgs X.env).length = ds.length := by rfl) (hst : (assignEach tgs X.env).findIdx? (·.1) = none := by rfl) : G X Γ (.Tuple tgs kk pos) (.tup ds) Γ' js := by
  obtain ⟨t, p, h⟩ := h
  refine fun xk H0 H v σ r sat Q q => to_g (pg_tup xk.c (p xk) rfl hst) ?_
  obtain ⟨a, vs, rfl, sq, rl⟩ := rpT r
  rw [xk.K]
  exact ⟨a, vs, rfl, sq, by rw [rl.length, hn], h xk H0 H vs σ rl sat Q q⟩
end

/-! ### list comprehensions -/
section
variable {α : Type}
inductive LcR (Tx : α → Bool → Prop) (Sx : α → D → Prop) : List α → List D → Prop
  | nil : LcR Tx Sx [] []
  | keep {xs : List α} {es : List D} {x : α} {d : D} : LcR Tx Sx xs es → Tx x true → Sx x d → LcR Tx Sx (xs ++ [x]) (es ++ [d])
  | skip {xs : List α} {es : List D} {x : α} : LcR Tx Sx xs es → Tx x false → LcR Tx Sx (xs ++ [x]) es
theorem LcR.length {Tx : α → Bool → Prop} {Sx : α → D → Prop} {xs : List α} {es : List D} (h : LcR Tx Sx xs es) : es.length ≤ xs.length := by
  induction h with
  | nil => exact Nat.le_refl _
  | keep h _ _ ih => simp; exact ih
  | skip h _ ih => simp; omega
theorem D.imL_app : ∀ {ds es : List D}, D.imL ds = true → D.imL es = true → D.imL (ds ++ es) = true
  | [], _, _, h => h
  | d :: ds, es, h1, h2 => by
    simp only [D.imL, Bool.and_eq_true, List.cons_append] at h1 ⊢
    exact ⟨h1.1, D.imL_app h1.2 h2⟩
theorem LcR.im {Tx : α → Bool → Prop} {Sx : α → D → Prop} {xs : List α} {es : List D} (h : LcR Tx Sx xs es) (hi : ∀ x d, Sx x d → d.im = true) : D.imL es = true := by
  induction h with
  | nil => rfl
  | keep h _ s ih => exact D.imL_app ih (by simp [D.imL, hi _ _ s])
  | skip h _ ih => exact ih
theorem LcR.det {f : α → D} {xs : List α} {es : List D} (h : LcR (fun _ b => b = true) (fun x d => d = f x) xs es) : es = xs.map f := by
  induction h with
  | nil => rfl
  | keep h h1 h2 ih => rw [ih, h2, List.map_append]; rfl
  | skip h h1 ih => cases h1
theorem LcR.filter {f : α → D} {p : α → Bool} {xs : List α} {es : List D} (h : LcR (fun x b => b = p x) (fun x d => d = f x) xs es) : es = (xs.filter p).map f := by
  induction h with
  | nil => rfl
  | keep h h1 h2 ih => rw [ih, h2, List.filter_append, List.map_append, List.filter_cons, ← h1]; rfl
  | skip h h1 ih => rw [ih, List.filter_append, List.filter_cons, ← h1]; simp
theorem LcR.all {β : Type} {g : β → D} {Px : α → β → Prop} {xs : List α} {es : List D} (h : LcR (fun _ b => b = true) (fun x d => ∃ y, d = g y ∧ Px x y) xs es) : ∃ ys : List β, es = ys.map g ∧ ys.length = xs.length ∧ ∀ (i : Nat) x y, xs[i]? = some x → ys[i]? = some y → Px x y := by
  induction h with
  | nil => exact ⟨[], rfl, rfl, fun i x y h => by simp at h⟩
  | @keep xs es x d h h1 h2 ih =>
    obtain ⟨ys, rfl, hl, ha⟩ := ih
    obtain ⟨y, rfl, hp⟩ := h2
    refine ⟨ys ++ [y], by rw [List.map_append]; rfl, by simp [hl], fun i x' y' e1 e2 => ?_⟩
    rcases Nat.lt_trichotomy i xs.length with hi | hi | hi
    · rw [List.getElem?_append_left hi] at e1
      rw [List.getElem?_append_left (by omega)] at e2
      exact ha i _ _ e1 e2
    · subst hi
      rw [List.getElem?_append_right (Nat.le_refl _), Nat.sub_self] at e1
      rw [List.getElem?_append_right (by omega), hl, Nat.sub_self] at e2
      cases e1
      cases e2
      exact hp
    · rw [List.getElem?_append_right (by omega)] at e1
      have : i - xs.length = (i - xs.length - 1) + 1 := by omega
      rw [this] at e1
      simp at e1
  | skip h h1 ih => cases h1
end
theorem PTs_s {X : Cx} {c : Expr} : PTs X [c] (tST X c) := pts_one pt_s
section
variable {k : Nat} {X : Cx} {M : Option TpA} {Γ : List Sl} {elt tg iter c : Expr} {S : D → Prop} {scope : Scope} {pos : Pos} {α : Type} {xs : List α} {enc : α → D} {Γx : α → List Sl} {js : List Nat} {Tx : α → Bool → Prop} {Sx : α → D → Prop} {ifs : List Expr}
/-- the tests behind the for -/
def Ts (k : Nat) (X : Cx) (M : Option TpA) (Γ : List Sl) (ifs : List Expr) (S : Bool → Prop) : Prop := (ifs = [] ∧ S true) ∨ ∃ c, ifs = [c] ∧ T k X M Γ c S
def tSTs (X : Cx) (ifs : List Expr) : TT := match ifs with
  | [] => tYes
  | c :: _ => tST X c
def gAll (X : Cx) (scope : Scope) (tg : Expr) : TG := fun v σ H Q => ∀ (s : Shared) (H' : Hp) (C : Addr) (cl : List (Str × Addr)) (fp : List Addr), tSG (X.blk s H' scope (compEnvC scope cl C X.env) fp) tg v σ H Q
def ttAll (X : Cx) (scope : Scope) (ifs : List Expr) : TT := fun σ H Q => ∀ (s : Shared) (H' : Hp) (C : Addr) (cl : List (Str × Addr)) (fp : List Addr), tSTs (X.blk s H' scope (compEnvC scope cl C X.env) fp) ifs σ H Q
def teAll (X : Cx) (scope : Scope) (elt : Expr) : TE := fun σ H Q => ∀ (s : Shared) (H' : Hp) (C : Addr) (cl : List (Str × Addr)) (fp : List Addr), tS (X.blk s H' scope (compEnvC scope cl C X.env) fp) elt σ H Q
theorem lcRead (own : List (Str × Nat)) (hw : W k X M false Γ tg iter (xs.map enc)) (ok : BlkOk X.N X.env.scope scope own) (hl : xs.length ≤ 1000)
    (hg : ∀ (s : Shared) (H : Hp) (C : Addr) (cl : List (Str × Addr)) (fp : List Addr), ∀ x ∈ xs, G (X.blk s H scope (compEnvC scope cl C X.env) fp) (gw Γ (own.map (·.2))) tg (enc x) (Γx x) js) (hjs : ∀ j ∈ js, j ∈ own.map (·.2))
    (hif : ifs = [] ∨ ∃ c, ifs = [c])
    (ht : ∀ (s : Shared) (H : Hp) (C : Addr) (cl : List (Str × Addr)) (fp : List Addr), ∀ x ∈ xs, Ts k (X.blk s H scope (compEnvC scope cl C X.env) fp) M (Γx x) ifs (Tx x))
    (he : ∀ (s : Shared) (H : Hp) (C : Addr) (cl : List (Str × Addr)) (fp : List Addr), ∀ x ∈ xs, Tx x true → E k (X.blk s H scope (compEnvC scope cl C X.env) fp) M (Γx x) elt (Sx x))
    (him : ∀ x d, Sx x d → d.im = true) :
    XOk X → Room k X.A → ∀ H0 σ H, Le M H0 H → Sat Γ H0 σ H → ∀ Q : VK, (∀ a acc es H', Le M H H' → Nw H a → LcR Tx Sx xs es → H' a = some (.lst acc) → RpL H' acc es → Q (.ref a) H') → tLc (tSI X tg iter) (gAll X scope tg) (ttAll X scope ifs) (teAll X scope elt) (own.map (·.2)) σ H Q := fun xk hr H0 σ H le sat Q q => by
  refine hw xk hr H0 σ H le sat _ fun J H1 Gs Y l w fr gs0 hy D hD => ?_
  have hlen : (xs.map enc).length = xs.length := List.length_map _
  refine lc_it (g := gAll X scope tg) (tt := ttAll X scope ifs) (te := teAll X scope elt) (vs := own.map (·.2)) (σ := σ) (D := D) (Qd := Q (.ref D)) w (fun i H => Le M H1 H ∧ ∃ acc es, H D = some (.lst acc) ∧ RpL H acc es ∧ LcR Tx Sx (xs.take i) es) ⟨.new l.i1 hD, [], [], upd_same, .nil, .nil⟩ (fun i H2 _ z => fr.le _ _ _ z.1 gs0) (fun i x H2 H3 hi z y => ?_) fun H2 z => ?_
  · obtain ⟨le1, acc, es, hacc, racc, lc⟩ := z
    have hi' : i < xs.length := by rw [← hlen]; exact hi
    obtain ⟨ly, d, ed, rd⟩ := hy i H2 x H3 hi (fr.le _ _ _ le1 gs0) y
    have ex : xs[i]? = some xs[i] := List.getElem?_eq_getElem hi'
    have hm : xs[i] ∈ xs := List.getElem_mem hi'
    rw [List.getElem?_map, ex] at ed
    cases ed
    have lyM := ly M le1.i1
    have htk : xs.take (i + 1) = xs.take i ++ [xs[i]] := by rw [List.take_add_one, ex]; rfl
    have hD3 : H3 D = some (.lst acc) := lyM.e _ _ hacc (fun _ z => nomatch z) (lyM.ne_t hacc fun _ z => nomatch z)
    intro s Hc C cl fp
    refine hg s Hc C cl fp _ hm (xk.blk ..) H0 H3 x _ rd ((sat.mo (l.trans (le1.trans lyM))).wipe _) _ fun σ' sat' hw' => ⟨(hw' _ hjs).trans (wipe_wipe _ _), ?_⟩
    intro s Hc C cl fp
    have le3 : Le M H0 H3 := (le.trans l).trans (le1.trans lyM)
    have fin : ∀ b H4, Le M H3 H4 → Tx xs[i] b → (if b = true then (∀ (s : Shared) (H' : Hp) (C : Addr) (cl : List (Str × Addr)) (fp : List Addr), tS (X.blk s H' scope (compEnvC scope cl C X.env) fp) elt σ' H4 fun y H4 => ∃ acc, H4 D = some (.lst acc) ∧ acc.length < sizeLine ∧ (Le M H1 (upd H4 D (.lst (acc ++ [y]))) ∧ ∃ acc' es, (upd H4 D (.lst (acc ++ [y]))) D = some (.lst acc') ∧ RpL (upd H4 D (.lst (acc ++ [y]))) acc' es ∧ LcR Tx Sx (xs.take (i + 1)) es)) else (Le M H1 H4 ∧ ∃ acc es, H4 D = some (.lst acc) ∧ RpL H4 acc es ∧ LcR Tx Sx (xs.take (i + 1)) es)) := fun b H4 l4 tb => by
      cases b with
      | false => exact iteF ⟨(le1.trans lyM).trans l4, acc, es, l4.e _ _ hD3 (fun _ z => nomatch z) (l4.ne_t hD3 fun _ z => nomatch z), (racc.mo lyM).mo l4, by rw [htk]; exact .skip lc tb⟩
      | true =>
        refine iteT fun s Hc C cl fp => he s Hc C cl fp _ hm tb (xk.blk ..) hr H0 σ' H4 (le3.trans l4) (sat'.mo l4) _ fun y H5 dy l5 sy ry => ?_
        have hD5 : H5 D = some (.lst acc) := (l4.trans l5).e _ _ hD3 (fun _ z => nomatch z) ((l4.trans l5).ne_t hD3 fun _ z => nomatch z)
        have le5 : Le M H1 H5 := (le1.trans lyM).trans (l4.trans l5)
        refine ⟨acc, hD5, ?_, le5.mut (.none hD) hD5, _, es ++ [dy], upd_same, ?_, by rw [htk]; exact .keep lc tb sy⟩
        · have h1 := lc.length
          have h2 := racc.length
          rw [List.length_take] at h1
          exact Nat.lt_of_le_of_lt (show acc.length ≤ 1000 by omega) (small1000 (Nat.le_refl _))
        · exact (((racc.mo lyM).mo (l4.trans l5)).mut hD5 (lc.im him)).app (.cons (ry.mut hD5 (him _ _ sy)) .nil)
    rcases hif with z | ⟨c, z⟩
    · subst z
      rcases ht s Hc C cl fp _ hm with ⟨_, t⟩ | ⟨c, z, _⟩
      · exact fin true H3 (.refl lyM.i1) t
      · cases z
    · subst z
      rcases ht s Hc C cl fp _ hm with ⟨z, _⟩ | ⟨c', z, t⟩
      · cases z
      · cases z
        exact t (xk.blk ..) hr H0 σ' H3 le3 sat' _ fun b H4 l4 tb => fin b H4 l4 tb
  · obtain ⟨le1, acc, es, hacc, racc, lc⟩ := z
    rw [hlen, List.take_length] at lc
    exact q _ _ _ _ (l.trans le1) (l.nw (.none hD)) lc hacc racc
theorem pg_all : ∀ (s : Shared) (H : Hp) (C : Addr) (cl : List (Str × Addr)) (fp : List Addr), PG (X.blk s H scope (compEnvC scope cl C X.env) fp) tg (gAll X scope tg) := fun s H C cl fp => ⟨fun pins s' σ H' v u Q I r h => (pg_s.run pins s' σ H' v u Q I r (h s H C cl fp))⟩
theorem pt_all (hif : ifs = [] ∨ ∃ c, ifs = [c]) : ∀ (s : Shared) (H : Hp) (C : Addr) (cl : List (Str × Addr)) (fp : List Addr), PTs (X.blk s H scope (compEnvC scope cl C X.env) fp) ifs (ttAll X scope ifs) := fun s H C cl fp => ⟨fun pins s' σ H' Q I h => by
  have h' := h s H C cl fp
  rcases hif with z | ⟨c, z⟩
  · subst z; exact pts_nil.run pins s' σ H' Q I h'
  · subst z; exact PTs_s.run pins s' σ H' Q I h'⟩
theorem pe_all : ∀ (s : Shared) (H : Hp) (C : Addr) (cl : List (Str × Addr)) (fp : List Addr), PE (X.blk s H scope (compEnvC scope cl C X.env) fp) elt (teAll X scope elt) := fun s H C cl fp => ⟨fun pins s' σ H' Q I h => pe_s.run pins s' σ H' Q I (h s H C cl fp)⟩
theorem E.lcG (own : List (Str × Nat)) (hw : W k X M false Γ tg iter (xs.map enc)) (ok : BlkOk X.N X.env.scope scope own) (hl : xs.length ≤ 1000)
    (hg : ∀ (s : Shared) (H : Hp) (C : Addr) (cl : List (Str × Addr)) (fp : List Addr), ∀ x ∈ xs, G (X.blk s H scope (compEnvC scope cl C X.env) fp) (gw Γ (own.map (·.2))) tg (enc x) (Γx x) js) (hjs : ∀ j ∈ js, j ∈ own.map (·.2))
    (hif : ifs = [] ∨ ∃ c, ifs = [c])
    (ht : ∀ (s : Shared) (H : Hp) (C : Addr) (cl : List (Str × Addr)) (fp : List Addr), ∀ x ∈ xs, Ts k (X.blk s H scope (compEnvC scope cl C X.env) fp) M (Γx x) ifs (Tx x))
    (he : ∀ (s : Shared) (H : Hp) (C : Addr) (cl : List (Str × Addr)) (fp : List Addr), ∀ x ∈ xs, Tx x true → E k (X.blk s H scope (compEnvC scope cl C X.env) fp) M (Γx x) elt (Sx x))
    (him : ∀ x d, Sx x d → d.im = true)
    (hS : ∀ es, LcR Tx Sx xs es → S (.lst es)) (hs : ∀ x, foldedSetIterable iter X.env x = pure x := by intro _; rfl) :
    E k X M Γ (.ListComp elt [⟨tg, iter, ifs, 0⟩] scope pos) S := fun xk hr H0 σ H le sat Q q =>
  to_s (pe_lc (own := own) xk.c xk.nd pi_s ok pg_all (pt_all hif) pe_all hs) (lcRead own hw ok hl hg hjs hif ht he him xk hr H0 σ H le sat Q fun a acc es H' l nw lc ha ra => q _ _ _ l (hS es lc) (.lst ha ra))
/-- one for, no if, a value told for each item -/
theorem E.lcM {f : α → D} (own : List (Str × Nat)) (hw : W k X M false Γ tg iter (xs.map enc)) (ok : BlkOk X.N X.env.scope scope own) (hl : xs.length ≤ 1000)
    (hg : ∀ (s : Shared) (H : Hp) (C : Addr) (cl : List (Str × Addr)) (fp : List Addr), ∀ x ∈ xs, G (X.blk s H scope (compEnvC scope cl C X.env) fp) (gw Γ (own.map (·.2))) tg (enc x) (Γx x) js) (hjs : ∀ j ∈ js, j ∈ own.map (·.2))
    (him : ∀ x, (f x).im = true)
    (he : ∀ (s : Shared) (H : Hp) (C : Addr) (cl : List (Str × Addr)) (fp : List Addr), ∀ x ∈ xs, E1 k (X.blk s H scope (compEnvC scope cl C X.env) fp) M (Γx x) elt (f x)) (hs : ∀ x, foldedSetIterable iter X.env x = pure x := by intro _; rfl) :
    E1 k X M Γ (.ListComp elt [⟨tg, iter, [], 0⟩] scope pos) (.lst (xs.map f)) :=
  .lcG (Tx := fun _ b => b = true) (Sx := fun x d => d = f x) own hw ok hl hg hjs (.inl rfl) (fun s H C cl fp x hx => .inl ⟨rfl, rfl⟩) (fun s H C cl fp x hx _ => he s H C cl fp x hx) (fun x d e => by rw [e]; exact him x) (fun es h => by rw [h.det]) hs
/-- one for, one if -/
theorem E.lcF {f : α → D} {pr : α → Bool} (own : List (Str × Nat)) (hw : W k X M false Γ tg iter (xs.map enc)) (ok : BlkOk X.N X.env.scope scope own) (hl : xs.length ≤ 1000)
    (hg : ∀ (s : Shared) (H : Hp) (C : Addr) (cl : List (Str × Addr)) (fp : List Addr), ∀ x ∈ xs, G (X.blk s H scope (compEnvC scope cl C X.env) fp) (gw Γ (own.map (·.2))) tg (enc x) (Γx x) js) (hjs : ∀ j ∈ js, j ∈ own.map (·.2))
    (him : ∀ x, (f x).im = true)
    (ht : ∀ (s : Shared) (H : Hp) (C : Addr) (cl : List (Str × Addr)) (fp : List Addr), ∀ x ∈ xs, T1 k (X.blk s H scope (compEnvC scope cl C X.env) fp) M (Γx x) c (pr x))
    (he : ∀ (s : Shared) (H : Hp) (C : Addr) (cl : List (Str × Addr)) (fp : List Addr), ∀ x ∈ xs, pr x = true → E1 k (X.blk s H scope (compEnvC scope cl C X.env) fp) M (Γx x) elt (f x)) (hs : ∀ x, foldedSetIterable iter X.env x = pure x := by intro _; rfl) :
    E1 k X M Γ (.ListComp elt [⟨tg, iter, [c], 0⟩] scope pos) (.lst ((xs.filter pr).map f)) :=
  .lcG (Tx := fun x b => b = pr x) (Sx := fun x d => d = f x) own hw ok hl hg hjs (.inr ⟨c, rfl⟩) (fun s H C cl fp x hx => .inr ⟨c, rfl, ht s H C cl fp x hx⟩) (fun s H C cl fp x hx hp => he s H C cl fp x hx hp.symm) (fun x d e => by rw [e]; exact him x) (fun es h => by rw [h.filter]) hs
/-- one for, items only known to be so -/
theorem E.lcN {β : Type} {g : β → D} {Px : α → β → Prop} (own : List (Str × Nat)) (hw : W k X M false Γ tg iter (xs.map enc)) (ok : BlkOk X.N X.env.scope scope own) (hl : xs.length ≤ 1000)
    (hg : ∀ (s : Shared) (H : Hp) (C : Addr) (cl : List (Str × Addr)) (fp : List Addr), ∀ x ∈ xs, G (X.blk s H scope (compEnvC scope cl C X.env) fp) (gw Γ (own.map (·.2))) tg (enc x) (Γx x) js) (hjs : ∀ j ∈ js, j ∈ own.map (·.2))
    (him : ∀ y, (g y).im = true)
    (he : ∀ (s : Shared) (H : Hp) (C : Addr) (cl : List (Str × Addr)) (fp : List Addr), ∀ x ∈ xs, E k (X.blk s H scope (compEnvC scope cl C X.env) fp) M (Γx x) elt fun d => ∃ y, d = g y ∧ Px x y) (hs : ∀ x, foldedSetIterable iter X.env x = pure x := by intro _; rfl) :
    E k X M Γ (.ListComp elt [⟨tg, iter, [], 0⟩] scope pos) fun d => ∃ es, d = .lst es ∧ ∃ ys : List β, es = ys.map g ∧ ys.length = xs.length ∧ ∀ (i : Nat) x y, xs[i]? = some x → ys[i]? = some y → Px x y :=
  .lcG (Tx := fun _ b => b = true) (Sx := fun x d => ∃ y, d = g y ∧ Px x y) own hw ok hl hg hjs (.inl rfl) (fun s H C cl fp x hx => .inl ⟨rfl, rfl⟩) (fun s H C cl fp x hx _ => he s H C cl fp x hx) (fun x d e => by obtain ⟨y, e, _⟩ := e; rw [e]; exact him y) (fun es h => ⟨es, rfl, h.all⟩) hs
end
end Ty
namespace Ty
open PySem PySem.Spec PyProof.Rows L2
variable [Cf]
/-! ### defs and their calls -/
/-- a def of the text as it stands -/
structure DefAt (x qual : Str) (st : Stmt) (f c : Addr) : Prop where
  ex : ∃ (oc : Value) (od : Option Addr) (kV doc pm : Value) (an : Option Addr) (ct : Value) (osl : Array (Option Value)),
    Cf.K.lookup f = some ⟨oc, od, .func (PySem.W.fnOf x qual (defArgs st) (defBody st) (defScope st) .none kV doc pm an (.ref c) ct), osl⟩ ∧ PySem.W.codeIn Cf.K (.ref c) qual = true
  kp : PySem.W.keepIn Cf.K (.ref f) = true
/-- the promise for arguments ds -/
def spD (M : Option TpA) (ds : List D) (S : D → Prop) : Sp := fun vs H Q _ => RpL H vs ds ∧ Iv M H ∧ ∀ v H' d, Le M H H' → S d → Rp H' v d → Q v H'
/-- what stands at f keeps a promise -/
structure At (f : Addr) (ps : List Str) (k : Nat) (sp : Sp) : Prop where
  ex : ∃ od fd, Cf.K.lookup f = some od ∧ od.data = .func fd ∧ PySem.W.keepIn Cf.K (.ref f) = true ∧ Binds Cf.K fd ps [] ∧ ∀ base, GoodB base → FnOk Cf.P Cf.w Cf.K Cf.mg base CX0 k f fd ps sp
def Fn (x : Str) (ps : List Str) (k : Nat) (M : Option TpA) (ds : List D) (S : D → Prop) : Prop := ∃ f, Cf.mg x = some (.ref f) ∧ At f ps k (spD M ds S)
abbrev Fn1 (x : Str) (ps : List Str) (k : Nat) (M : Option TpA) (ds : List D) (d : D) : Prop := Fn x ps k M ds (fun y => y = d)
theorem At.union {f : Addr} {ps : List Str} {k : Nat} {ι : Type} {I : ι → Prop} {sp : ι → Sp} (h : ∀ i, I i → At f ps k (sp i)) (hne : ∃ i, I i) : At f ps k (fun vs H Q E => ∃ i, I i ∧ sp i vs H Q E) := by
  obtain ⟨i0, h0⟩ := hne
  obtain ⟨od, fd, l, e, kp, b, F⟩ := (h i0 h0).ex
  refine ⟨od, fd, l, e, kp, b, fun base g => ⟨fun vs H Q E ⟨i, hi, q⟩ => ?_, fun A outer s H args us vs Q E hr e0 hb r ⟨i, hi, q⟩ => ?_⟩⟩
  · exact (F base g).len vs H Q E |> fun _ => by
      obtain ⟨od', fd', l', e', kp', b', F'⟩ := (h i hi).ex
      exact (F' base g).len vs H Q E q
  · obtain ⟨od', fd', l', e', kp', b', F'⟩ := (h i hi).ex
    rw [l] at l'
    cases l'
    rw [e] at e'
    cases e'
    exact (F' base g).run A outer s H args us vs Q E hr e0 hb r q
theorem Le.to {M M' : Option TpA} {H H' : Hp} (hM : M' = none ∨ M' = M) (i : Iv M H) (l : Le M' H H') : Le M H H' := by
  rcases hM with rfl | rfl
  · exact l.up i
  · exact l
theorem Iv.to {M M' : Option TpA} {H : Hp} (hM : M' = none ∨ M' = M) (i : Iv M H) : Iv M' H := by
  rcases hM with rfl | rfl
  · exact i.pure
  · exact i
section
variable {k k' : Nat} {X : Cx} {M M' : Option TpA} {Γ : List Sl} {a b c e o : Expr} {es : List Expr} {p pos pos' apos : Pos} {S : D → Prop} {SA : List D → Prop} {ds : List D} {d : D} {x m : Str} {ps : List Str} {C : Addr}
theorem E.callN (hF : ∀ ds, SA ds → Fn x ps k' M' ds S) (hne : ∃ ds, SA ds) (ha : A k X M Γ (e :: es) SA) (hk : k' ≤ k := by decide) (hM : M' = none ∨ M' = M := by first | exact .inl rfl | exact .inr rfl) (hg : Gl X x := by rfl) (hdb : (x == ("__debug__" : Str)) = false := by decide)
    (he : starEach (e :: es) X.env = (false, eval e X.env) :: starEach es X.env := by rfl) (hpl : (backTo pos (starEach es X.env)).any (·.1) = false := by rfl) : E k X M Γ (.Call (.Name x p) (e :: es) [] pos) S := fun xk hr H0 σ H le sat Q q => by
  obtain ⟨ds0, h0⟩ := hne
  obtain ⟨f, hf, _⟩ := hF ds0 h0
  have hA : ∀ ds, SA ds → At f ps k' (spD M' ds S) := fun ds s => by
    obtain ⟨f', hf', h⟩ := hF ds s
    rw [hf] at hf'
    cases hf'
    exact h
  obtain ⟨od, fd, l, e1, kp, bd, F⟩ := (At.union hA ⟨ds0, h0⟩).ex
  have F' := F X.base xk.g
  rw [← xk.p, ← xk.w, ← xk.K, ← xk.m] at F'
  refine to_s (pe_call F' (hr.mono hk) hg (by rw [xk.m]; exact hf) (by rw [xk.K]; exact kp) (by rw [xk.K]; exact bd) .nil pass0 (pa_s (X := X) (es := e :: es)) hdb he hpl) (ha xk hr H0 σ H le sat _ fun vs H1 ds l1 s r => ?_)
  show ∃ ds, SA ds ∧ spD M' ds S (vs ++ []) H1 Q E0
  rw [List.append_nil]
  exact ⟨ds, s, r, l1.i1.to hM, fun v H' d l2 s2 r2 => q v H' d (l1.trans (l2.to hM l1.i1)) s2 r2⟩
theorem E.call (hF : Fn x ps k' M' ds S) (ha : A1 k X M Γ (e :: es) ds) (hk : k' ≤ k := by decide) (hM : M' = none ∨ M' = M := by first | exact .inl rfl | exact .inr rfl) (hg : Gl X x := by rfl) (hdb : (x == ("__debug__" : Str)) = false := by decide)
    (he : starEach (e :: es) X.env = (false, eval e X.env) :: starEach es X.env := by rfl) (hpl : (backTo pos (starEach es X.env)).any (·.1) = false := by rfl) : E k X M Γ (.Call (.Name x p) (e :: es) [] pos) S :=
  .callN (SA := fun x => x = ds) (fun ds' h => h ▸ hF) ⟨ds, rfl⟩ ha hk hM hg hdb he hpl
/-- methods -/
def Mt (C : Addr) (m : Str) (ps : List Str) (k : Nat) (M : Option TpA) (ds : List D) (S : D → Prop) : Prop := ∃ f, Meth Cf.K C m f ∧ At f ps k (spD M ds S)
theorem lookup_no {ns : List Str} {vs : List V} (h : m ∉ ns) : (ns.zip vs).lookup m = none := by
  rw [List.lookup_eq_none_iff]
  rintro ⟨n, v⟩ hp
  have := (List.of_mem_zip hp).1
  exact bne_iff_ne.mpr fun z => h (by rw [z]; exact this)
theorem E.meth {nn : List Str} {l : List D} {pl : Sem Bool} (ho : E1 k X M Γ o (.ins C nn l)) (oc : OwnC C) (hF : Mt C m ps k' M' (.ins C nn l :: ds) S) (hn : m ∉ nn) (ha : A1 k X M Γ (e :: es) ds) (hk : k' ≤ k := by decide) (hM : M' = none ∨ M' = M := by first | exact .inl rfl | exact .inr rfl)
    (hst : starEach (e :: es) X.env = (false, eval e X.env) :: starEach es X.env := by rfl) (hpl : (backTo pos (starEach es X.env)).any (·.1) = false := by rfl)
    (ht : eval (.Call (.Attribute o m apos) (e :: es) [] pos) X.env = (do
      let ov ← eval o X.env
      standAt apos.atName
      let (f, first) ← holding [ov] (getMethod ov m pl)
      callWith pos f first (backTo pos (starEach (e :: es) X.env)) (backToKw pos (keywordEach [] X.env))) := by rfl) :
    E k X M Γ (.Call (.Attribute o m apos) (e :: es) [] pos) S := fun xk hr H0 σ H le sat Q q => by
  obtain ⟨f, hm, od, fd, lk, e1, kp, bd, F⟩ := hF
  have F' := F X.base xk.g
  rw [← xk.p, ← xk.w, ← xk.K, ← xk.m] at F'
  refine to_s (pe_meth (pl := pl) (pe_s (X := X) (e := o)) (by rw [xk.K]; exact oc.cl) (by rw [xk.K]; exact hm) F' (hr.mono hk) (by rw [xk.K]; exact bd) .nil pass0 (pa_s (X := X) (es := e :: es)) hst hpl ht) (ho xk hr H0 σ H le sat _ fun v H1 d l1 s r => ?_)
  subst s
  cases r with
  | ins h1 h2 h3 =>
    refine ⟨_, _, _, rfl, h1, lookup_no hn, ha xk hr H0 σ H1 (le.trans l1) (sat.mo l1) _ fun vs H2 ds' l2 s2 r2 => ?_⟩
    subst s2
    show spD M' _ S (_ :: (vs ++ [])) H2 Q E0
    rw [List.append_nil]
    exact ⟨.cons ((Rp.ins h1 h2 h3).mo l2) r2, l2.i1.to hM, fun v H' d l3 s3 r3 => q v H' d ((l1.trans l2).trans (l3.to hM l2.i1)) s3 r3⟩
theorem lookup_at : ∀ {ns : List Str} {vs : List V} {i : Nat} {v : V}, ns.Nodup → ns[i]? = some m → vs[i]? = some v → (ns.zip vs).lookup m = some v
  | [], _, _, _, _, h, _ => by simp at h
  | _ :: _, [], _, _, _, _, h => by simp at h
  | n :: ns, u :: vs, 0, v, nd, h1, h2 => by
    simp at h1 h2
    subst h1 h2
    simp
  | n :: ns, u :: vs, i + 1, v, nd, h1, h2 => by
    have h1' : ns[i]? = some m := by simpa using h1
    have hne : m ≠ n := fun z => (List.nodup_cons.mp nd).1 (by rw [← z]; exact List.mem_of_getElem? h1')
    rw [List.zip_cons_cons, List.lookup_cons]
    have : (m == n) = false := beq_eq_false_iff_ne.mpr hne
    rw [this]
    exact lookup_at (List.nodup_cons.mp nd).2 h1' (by simpa using h2)
/-- attributes -/
theorem E.fld {nn : List Str} {l : List D} (ho : E1 k X M Γ o (.ins C nn l)) (oc : OwnC C) (hn : NoAttr Cf.K C m) (i : Nat) (hi : nn[i]? = some m) (hd : l[i]? = some d) (hq : nn.Nodup) (hb2 : attributeBase o m X.env (eval o X.env) = eval o X.env := by rfl) : E1 k X M Γ (.Attribute o m pos) d := fun xk hr H0 σ H le sat Q q => by
  refine to_s (pe_fld (pe_s (X := X) (e := o)) hb2) (ho xk hr H0 σ H le sat _ fun v H1 d' l1 s r => ?_)
  subst s
  cases r with
  | ins h1 h2 h3 =>
    obtain ⟨u, hu, ru⟩ := h3.get hd
    rw [xk.K]
    exact ⟨_, C, _, _, u, rfl, h1, oc.cl, hn, lookup_at hq hi hu, q _ _ _ l1 rfl ru⟩
end

/-! ### blocks -/
section
variable {k : Nat} {X : Cx} {M : Option TpA} {mu : Bool} {Γ Γ' : List Sl} {a b c e o tg iter : Expr} {es : List Expr} {st : Stmt} {sts rest body els : List Stmt} {p pos pos' apos : Pos} {S S1 : D → Prop} {N N1 : List Sl → Prop} {ds : List D} {d : D} {x m : Str} {C : Addr}
theorem ps_s1 : PS X st (tS1 X st) := ⟨fun pins s _ _ _ I h => h pins s I⟩
theorem to_1 {te : TS} (h : PS X st te) {σ : L2.St} {H : Hp} {Dn : Ends} (q : te Dn σ H) : tS1 X st Dn σ H := fun pins s I => h.run pins s σ H Dn I q
theorem B.nil (h : N Γ) : B k X M mu Γ [] N S := fun xk hr F fr H0 σ H le hF sat Dn qn qr => to_ss pss_nil (show tNext Dn σ H from qn σ H Γ le hF h sat)
theorem B.cons (h1 : P1 k X M mu Γ st N1 S) (h2 : ∀ Γ', N1 Γ' → B k X M mu Γ' rest N S) : B k X M mu Γ (st :: rest) N S := fun xk hr F fr H0 σ H le hF sat Dn qn qr =>
  to_ss (pss_cons (ps_s1 (X := X) (st := st)) (pss_s (X := X) (sts := rest))) (h1 xk hr F fr H0 σ H le hF sat { Dn with nx := tSS X rest Dn } (fun σ' H' Γ' l f n s => h2 Γ' n xk hr F fr H0 σ' H' l f s Dn qn qr) qr)
theorem B.cons1 (h1 : P1 k X M mu Γ st (fun g => g = Γ') S) (h2 : B k X M mu Γ' rest N S) : B k X M mu Γ (st :: rest) N S := .cons h1 fun g e => e ▸ h2
/-- the last that is reached -/
theorem B.last (h1 : P1 k X M mu Γ st (fun _ => False) S) : B k X M mu Γ (st :: rest) N S := .cons h1 fun _ h => h.elim
theorem B.mono (h : B k X M mu Γ sts N S) (hN : ∀ g, N g → N1 g) (hS : ∀ d, S d → S1 d) : B k X M mu Γ sts N1 S1 := fun xk hr F fr H0 σ H le hF sat Dn qn qr => h xk hr F fr H0 σ H le hF sat Dn (fun σ' H' Γ' l f n s => qn σ' H' Γ' l f (hN _ n) s) fun v H' d l f s r => qr v H' d l f (hS d s) r
theorem P1.ret (h : E k X M Γ e S) : P1 k X M mu Γ (.Return (some e) pos) N S := fun xk hr F fr H0 σ H le hF sat Dn qn qr =>
  to_1 (ps_ret (pe_s (X := X) (e := e))) (h xk hr H0 σ H le sat _ fun v H' d l s r => qr v H' d (le.trans l) (fr.le _ _ _ l hF) s r)
theorem P1.set (i : Nat) (h : E1 k X M Γ e d) (hi : X.N[i]? = some x := by rfl) (hx : Loc X.env.scope x := by first | exact .inl rfl | exact .inr rfl) (hs : swapsWith e (some (.Name x pos')) pos.line X.env = pure false := by rfl) (hf : X.fn x = true ∨ X.env.scope.names.lookup x = some .local := by first | exact .inl rfl | exact .inr rfl) :
    P1 k X M mu Γ (.Assign [.Name x pos'] e pos) (fun g => g = Γ.set i (.val d)) S := fun xk hr F fr H0 σ H le hF sat Dn qn qr =>
  to_1 (ps_set xk.nd hi hx (pe_s (X := X) (e := e)) hs hf) (h xk hr H0 σ H le sat _ fun v H' d' l s r => by
    subst s
    exact qn _ _ _ (le.trans l) (fr.le _ _ _ l hF) rfl ((sat.mo l).set i (s := .val _) ⟨v, rfl, r⟩))
theorem P1.setN (i : Nat) (h : E k X M Γ e S1) (hi : X.N[i]? = some x := by rfl) (hx : Loc X.env.scope x := by first | exact .inl rfl | exact .inr rfl) (hs : swapsWith e (some (.Name x pos')) pos.line X.env = pure false := by rfl) (hf : X.fn x = true ∨ X.env.scope.names.lookup x = some .local := by first | exact .inl rfl | exact .inr rfl) :
    P1 k X M mu Γ (.Assign [.Name x pos'] e pos) (fun g => ∃ d, S1 d ∧ g = Γ.set i (.val d)) S := fun xk hr F fr H0 σ H le hF sat Dn qn qr =>
  to_1 (ps_set xk.nd hi hx (pe_s (X := X) (e := e)) hs hf) (h xk hr H0 σ H le sat _ fun v H' d' l s r =>
    qn _ _ _ (le.trans l) (fr.le _ _ _ l hF) ⟨d', s, rfl⟩ ((sat.mo l).set i (s := .val _) ⟨v, rfl, r⟩))
/-- any target -/
theorem P1.asg {js : List Nat} (h : E1 k X M Γ e d) (hg : G X Γ tg d Γ' js) (hs : swapsWithSole [tg] e pos.line X.env = pure false := by rfl) (hw : swappedStores [tg] e X.env = pure none := by rfl)
    (h1 : (assignEach [tg] X.env).map (·.2) = [assign tg X.env] := by rfl) : P1 k X M mu Γ (.Assign [tg] e pos) (fun g => g = Γ') S := fun xk hr F fr H0 σ H le hF sat Dn qn qr =>
  to_1 (ps_asg (pe_s (X := X) (e := e)) (pg_s (X := X) (tg := tg)) hs hw h1) (h xk hr H0 σ H le sat _ fun v H' d' l s r => by
    subst s
    exact hg xk H0 H' v σ r (sat.mo l) _ fun σ' sat' _ => qn _ _ _ (le.trans l) (fr.le _ _ _ l hF) rfl sat')
theorem P1.expr (h : E k X M Γ e S1) (hs : swapsWith e none pos.line X.env = pure false := by rfl) : P1 k X M mu Γ (.Expr e pos) (fun g => g = Γ) S := fun xk hr F fr H0 σ H le hF sat Dn qn qr =>
  to_1 (ps_expr (pe_s (X := X) (e := e)) hs) (h xk hr H0 σ H le sat _ fun v H' d' l s r => qn _ _ _ (le.trans l) (fr.le _ _ _ l hF) rfl (sat.mo l))
/-- a, b = e1, e2 -/
theorem P1.par (i j : Nat) {y : Str} {d2 : D} {px py pt : Pos} {kt k2 pt2} (ha : A1 k X M Γ [a, b] [d, d2]) (hi : X.N[i]? = some x := by rfl) (hj : X.N[j]? = some y := by rfl) (hij : i ≠ j := by decide) (hx : X.env.scope.names.lookup x = some .local := by rfl) (hy : X.env.scope.names.lookup y = some .local := by rfl)
    (hw : swappedStores [.Tuple [.Name x px, .Name y py] kt pt] (.Tuple [a, b] k2 pt2) X.env = pure (some [x, y]) := by rfl) (hs : swapsWithSole [.Tuple [.Name x px, .Name y py] kt pt] (.Tuple [a, b] k2 pt2) pos.line X.env = pure false := by rfl) :
    P1 k X M mu Γ (.Assign [.Tuple [.Name x px, .Name y py] kt pt] (.Tuple [a, b] k2 pt2) pos) (fun g => g = (Γ.set i (.val d)).set j (.val d2)) S := fun xk hr F fr H0 σ H le hF sat Dn qn qr =>
  to_1 (ps_par xk.c xk.nd hi hj hij hx hy (pa_s (X := X) (es := [a, b])) hw hs) (ha xk hr H0 σ H le sat _ fun vs H' ds l s r => by
    subst s
    obtain ⟨v, u, rfl, r1, r2⟩ := rp2 r
    exact ⟨v, u, rfl, qn _ _ _ (le.trans l) (fr.le _ _ _ l hF) rfl (((sat.mo l).set i (s := .val _) ⟨v, rfl, r1⟩).set j (s := .val _) ⟨u, rfl, r2⟩)⟩)
theorem P1.par3 (i j l : Nat) {y z : Str} {d2 d3 : D} {px py pz pt : Pos} {kt k2 pt2} (ha : A1 k X M Γ [a, b, c] [d, d2, d3]) (hi : X.N[i]? = some x := by rfl) (hj : X.N[j]? = some y := by rfl) (hl : X.N[l]? = some z := by rfl) (hij : i ≠ j := by decide) (hil : i ≠ l := by decide) (hjl : j ≠ l := by decide) (hx : X.env.scope.names.lookup x = some .local := by rfl) (hy : X.env.scope.names.lookup y = some .local := by rfl) (hz : X.env.scope.names.lookup z = some .local := by rfl)
    (hw : swappedStores [.Tuple [.Name x px, .Name y py, .Name z pz] kt pt] (.Tuple [a, b, c] k2 pt2) X.env = pure (some [x, y, z]) := by rfl) (hs : swapsWithSole [.Tuple [.Name x px, .Name y py, .Name z pz] kt pt] (.Tuple [a, b, c] k2 pt2) pos.line X.env = pure false := by rfl) :
    P1 k X M mu Γ (.Assign [.Tuple [.Name x px, .Name y py, .Name z pz] kt pt] (.Tuple [a, b, c] k2 pt2) pos) (fun g => g = ((Γ.set i (.val d)).set j (.val d2)).set l (.val d3)) S := fun xk hr F fr H0 σ H le hF sat Dn qn qr =>
  to_1 (ps_par3 xk.c xk.nd hi hj hl hij hil hjl hx hy hz (pa_s (X := X) (es := [a, b, c])) hw hs) (ha xk hr H0 σ H le sat _ fun vs H' ds l' s r => by
    subst s
    cases r with
    | cons r1 r =>
      obtain ⟨v2, v3, rfl, r2, r3⟩ := rp2 r
      exact ⟨_, _, _, rfl, qn _ _ _ (le.trans l') (fr.le _ _ _ l' hF) rfl ((((sat.mo l').set i (s := .val _) ⟨_, rfl, r1⟩).set j (s := .val _) ⟨_, rfl, r2⟩).set l (s := .val _) ⟨_, rfl, r3⟩)⟩)
theorem P1.if_ {SB : Bool → Prop} (hc : T k X M Γ c SB) (h1 : SB true → B k X M mu Γ body N S) (h2 : SB false → B k X M mu Γ els N S) : P1 k X M mu Γ (.If c body els pos) N S := fun xk hr F fr H0 σ H le hF sat Dn qn qr =>
  to_1 (ps_if (pt_s (X := X) (e := c)) (pss_s (X := X) (sts := body)) (pss_s (X := X) (sts := els))) (hc xk hr H0 σ H le sat _ fun z H1 l s => by
    cases z with
    | true => exact iteT (h1 s xk hr F fr H0 σ H1 (le.trans l) (fr.le _ _ _ l hF) (sat.mo l) Dn qn qr)
    | false => exact iteF (h2 s xk hr F fr H0 σ H1 (le.trans l) (fr.le _ _ _ l hF) (sat.mo l) Dn qn qr))
theorem P1.ifT (hc : T1 k X M Γ c true) (h1 : B k X M mu Γ body N S) : P1 k X M mu Γ (.If c body els pos) N S := .if_ hc (fun _ => h1) fun h => nomatch h
theorem P1.ifF (hc : T1 k X M Γ c false) (h1 : B k X M mu Γ els N S) : P1 k X M mu Γ (.If c body els pos) N S := .if_ hc (fun h => nomatch h) fun _ => h1
/-- a check that is passed -/
theorem P1.guard (hc : T1 k X M Γ c false) : P1 k X M mu Γ (.If c body [] pos) (fun g => g = Γ) S := .ifF hc (.nil rfl)
/-- += of ints -/
theorem P1.augAdd (i : Nat) {n z : Int} {xp : Pos} (hΓ : Γ[i]? = some (.val (.int n))) (h : E1 k X M Γ e (.int z)) (ps : PS X (.AugAssign (.Name x xp) .Add e pos) (tAug i (tS X e) (ipI fun i j => i + j))) : P1 k X M mu Γ (.AugAssign (.Name x xp) .Add e pos) (fun g => g = Γ.set i (.val (.int (n + z)))) S := fun xk hr F fr H0 σ H le hF sat Dn qn qr => by
  obtain ⟨v, ev, rv⟩ := sat.at_ i _ hΓ
  cases rv
  refine to_1 ps ⟨_, ev, h xk hr H0 σ H le sat _ fun u H' d' l s r => ?_⟩
  subst s
  cases r
  exact ⟨n, z, rfl, rfl, qn _ _ _ (le.trans l) (fr.le _ _ _ l hF) rfl ((sat.mo l).set i (s := .val _) ⟨_, rfl, .int _⟩)⟩
/-- a for -/
theorem P1.for_ {α : Type} {xs : List α} {enc : α → D} (I : Nat → List Sl → Prop) (hw : W k X M mu Γ tg iter (xs.map enc)) (h0 : I 0 Γ)
    (hb : ∀ i x Γ1, xs[i]? = some x → I i Γ1 → ∃ Γ2 js, G X Γ1 tg (enc x) Γ2 js ∧ B k X M mu Γ2 body (I (i + 1)) S) (hs : ∀ x, foldedSetIterable iter X.env x = pure x := by intro _; rfl) :
    P1 k X M mu Γ (.For tg iter body [] pos) (I xs.length) S := fun xk hr F fr H0 σ H le hF sat Dn qn qr => by
  refine to_1 (ps_for (wi := tSI X tg iter) (g := tSG X tg) (tb := tSS X body) (by rw [xk.x]; exact PassesOwn.never) xk.c pi_s pg_s pss_s hs) ?_
  refine hw xk hr H0 σ H le sat _ fun J H1 Gs Y l w frG gs0 hy => ?_
  have hlen : (xs.map enc).length = xs.length := List.length_map _
  refine for_it (g := tSG X tg) (tb := tSS X body) (D := Dn) w (fun i σ H => Le M H0 H ∧ F H ∧ Gs H ∧ ∃ Γ', I i Γ' ∧ Sat Γ' H0 σ H) ⟨le.trans l, fr.le _ _ _ l hF, gs0, Γ, h0, sat.mo l⟩ (fun i σ H _ z => z.2.2.1) (fun i x σ H2 H3 hi z y => ?_) fun σ H z => ?_
  · obtain ⟨le1, hF1, gs1, Γ1, hI, sat1⟩ := z
    have hi' : i < xs.length := by rw [← hlen]; exact hi
    obtain ⟨ly, d, ed, rd⟩ := hy i H2 x H3 hi gs1 y
    have ex : xs[i]? = some xs[i] := List.getElem?_eq_getElem hi'
    rw [List.getElem?_map, ex] at ed
    cases ed
    have lyM := ly M le1.i1
    obtain ⟨Γ2, js, hg, hb'⟩ := hb i _ Γ1 ex hI
    refine hg xk H0 H3 x σ rd (sat1.mo lyM) _ fun σ' sat' _ => ?_
    exact hb' xk hr (fun H => F H ∧ Gs H) (fr_and fr frG) H0 σ' H3 (le1.trans lyM) ⟨fr.le _ _ _ lyM hF1, frG.le _ _ _ lyM gs1⟩ sat' _ (fun σ2 H4 Γ3 l4 f4 n4 s4 => ⟨l4, f4.1, f4.2, Γ3, n4, s4⟩) fun v H4 d l4 f4 s4 r4 => qr v H4 d l4 f4.1 s4 r4
  · obtain ⟨le1, hF1, gs1, Γ1, hI, sat1⟩ := z
    rw [hlen] at hI
    exact qn _ _ _ le1 hF1 hI sat1
end

/-! ### a def by its body -/
abbrev bodyX (N : List Str) (qual : Str) (sc : Scope) (f c : Addr) (base : Heap) (A : Around) (outer : List Env) (s : Shared) (H : Hp) (E : XK) : Cx := (cxOf CX0 Cf.P Cf.w Cf.K Cf.mg base N qual sc f (.ref c) A outer s H E).nox
theorem At.of {x qual : Str} {st : Stmt} {f c : Addr} {N ps : List Str} {k : Nat} {sp : Sp} (F : DefAt x qual st f c) (Sc : FnScope N ps (defScope st))
    (hb : ∀ (kV doc pm : Value) (an : Option Addr) (cdv ct : Value) (us : List Value), us.length = ps.length → bindArgs (PySem.W.fnOf x qual (defArgs st) (defBody st) (defScope st) .none kV doc pm an cdv ct) ⟨us, []⟩ = pure (ps.zip us))
    (len : ∀ vs H Q E, sp vs H Q E → vs.length = ps.length)
    (body : ∀ base, GoodB base → ∀ (A : Around) (outer : List Env) (s : Shared) (H : Hp) (vs : List V) (Q : VK) (E : XK), Room k (bodyX N qual (defScope st) f c base A outer s H E).A → XOk (bodyX N qual (defScope st) f c base A outer s H E) → sp vs H Q E → tSS (bodyX N qual (defScope st) f c base A outer s H E) (defBody st) { nx := fun _ H' => Q .non H', rt := Q } (start N vs) H) : At f ps (k + 1) sp := by
  obtain ⟨oc, od, kV, doc, pm, an, ct, osl, lk, hcd⟩ := F.ex
  refine ⟨_, _, lk, rfl, F.kp, .all (hb kV doc pm an (.ref c) ct), fun base g => fn_of lk hcd Sc len fun A outer s H vs Q E hr hsp => ⟨_, PSs.nox pss_s, body base g A outer s H vs Q E hr ⟨rfl, rfl, rfl, rfl, rfl, Sc.nd, rfl, g⟩ hsp⟩⟩
theorem Fn.mk {x qual : Str} {st : Stmt} {f c : Addr} {N ps : List Str} {k : Nat} {M : Option TpA} {ds : List D} {S : D → Prop} (mu : Bool) (hm : Cf.mg x = some (.ref f)) (F : DefAt x qual st f c) (Sc : FnScope N ps (defScope st))
    (hb : ∀ (kV doc pm : Value) (an : Option Addr) (cdv ct : Value) (us : List Value), us.length = ps.length → bindArgs (PySem.W.fnOf x qual (defArgs st) (defBody st) (defScope st) .none kV doc pm an cdv ct) ⟨us, []⟩ = pure (ps.zip us)) (hl : ds.length = ps.length)
    (body : ∀ base A outer s H E, B k (bodyX N qual (defScope st) f c base A outer s H E) M mu (ent N.length ds) (defBody st) (fun _ => S .non) S) : Fn x ps (k + 1) M ds S :=
  ⟨f, hm, .of F Sc hb (fun vs H Q E h => by rw [h.1.length, hl]) fun base g A outer s H vs Q E hr xk hsp =>
    body base A outer s H E xk hr (fun _ => True) fr_true H (start N vs) H (.refl hsp.2.1) trivial (Sat.start hsp.1) _ (fun σ' H' Γ' l _ n _ => hsp.2.2 _ _ _ l n .non) fun v H' d l _ sd r => hsp.2.2 v H' d l sd r⟩
theorem Mt.mk {x qual : Str} {st : Stmt} {f c C : Addr} {N ps : List Str} {k : Nat} {M : Option TpA} {ds : List D} {S : D → Prop} (mu : Bool) (hm : Meth Cf.K C x f) (F : DefAt x qual st f c) (Sc : FnScope N ps (defScope st))
    (hb : ∀ (kV doc pm : Value) (an : Option Addr) (cdv ct : Value) (us : List Value), us.length = ps.length → bindArgs (PySem.W.fnOf x qual (defArgs st) (defBody st) (defScope st) .none kV doc pm an cdv ct) ⟨us, []⟩ = pure (ps.zip us)) (hl : ds.length = ps.length)
    (body : ∀ base A outer s H E, B k (bodyX N qual (defScope st) f c base A outer s H E) M mu (ent N.length ds) (defBody st) (fun _ => S .non) S) : Mt C x ps (k + 1) M ds S :=
  ⟨f, hm, .of F Sc hb (fun vs H Q E h => by rw [h.1.length, hl]) fun base g A outer s H vs Q E hr xk hsp =>
    body base A outer s H E xk hr (fun _ => True) fr_true H (start N vs) H (.refl hsp.2.1) trivial (Sat.start hsp.1) _ (fun σ' H' Γ' l _ n _ => hsp.2.2 _ _ _ l n .non) fun v H' d l _ sd r => hsp.2.2 v H' d l sd r⟩
end Ty
namespace Ty
open PySem PySem.Spec PyProof.Rows L2
variable [Cf]
/-! ### generator expressions -/
theorem Iv.tabbed {M : Option TpA} {H H' : Hp} {P c : Addr} (i : Iv M H) (hP : (c, P) ∈ Cf.gs) (t : GxR.Tabbed P H H') : Iv M H' := by
  obtain ⟨tg, ke⟩ := t
  obtain ⟨ps0, e0, _⟩ := i.g _ hP
  have nP : ∀ {b : Addr} {o : HO}, H b = some o → (∀ ps, o ≠ .tbl ps) → H' b = some o := fun {b o} e n => by
    rw [ke b fun z => n ps0 (by rw [z, e0] at e; exact (Option.some.inj e).symm)]
    exact e
  refine ⟨fun p hp => ?_, fun p hp => ?_, fun m hm => ?_⟩
  · by_cases h : p.2 = P
    · rw [h]; exact tg
    · obtain ⟨ps, e, t⟩ := i.g p hp
      exact ⟨ps, by rw [ke _ h]; exact e, t⟩
  · obtain ⟨ps, e, t, q⟩ := i.l p hp
    have hne : p.1 ≠ P := by
      obtain ⟨q0, hq0, e0⟩ := List.mem_map.mp hp
      have := Cf.apart _ hP _ hq0
      rw [← e0]
      exact fun z => this z.symm
    refine ⟨ps, by rw [ke _ hne]; exact e, t, fun pos cv hc => ?_⟩
    obtain ⟨c, e1, e2⟩ := q pos cv hc
    exact ⟨c, e1, nP e2 LamX.codeO_ne⟩
  · exact (i.t m hm).keep fun b o e n => nP e n
theorem Le.tabbed {M : Option TpA} {H H' : Hp} {P c : Addr} (i : Iv M H) (hP : (c, P) ∈ Cf.gs) (t : GxR.Tabbed P H H') : Le M H H' := by
  obtain ⟨ps0, e0, _⟩ := i.g _ hP
  exact ⟨i, fun b o e n _ => by
    rw [t.2 b fun z => n ps0 (by rw [z, e0] at e; exact (Option.some.inj e).symm)]
    exact e, i.tabbed hP t⟩
def gGe (X : Cx) (scope : Scope) (tg : Expr) : TG := fun v σ H Q => ∀ (A' : Around) (s : Shared) (H' : Hp) (C : Addr) (code : Value) (fp : List Addr), tSG (Ge.geCx X A' s H' (Ge.gEnv X scope C code) fp) tg v σ H Q
def teGe (k : Nat) (X : Cx) (scope : Scope) (elt : Expr) : TE := fun σ H Q => ∀ (A' : Around) (s : Shared) (H' : Hp) (C : Addr) (code : Value) (fp : List Addr), Room k (A'.deeper (Ge.gEnv X scope C code)) → tS (Ge.geCx X A' s H' (Ge.gEnv X scope C code) fp) elt σ H Q
theorem E.lv {k k' : Nat} {X : Cx} {M : Option TpA} {Γ : List Sl} {e : Expr} {S : D → Prop} (h : E k X M Γ e S) (hk : k ≤ k' := by decide) : E k' X M Γ e S := fun xk hr => h xk (hr.mono hk)
theorem T.lv {k k' : Nat} {X : Cx} {M : Option TpA} {Γ : List Sl} {e : Expr} {S : Bool → Prop} (h : T k X M Γ e S) (hk : k ≤ k' := by decide) : T k' X M Γ e S := fun xk hr => h xk (hr.mono hk)
section
variable {k : Nat} {X : Cx} {M : Option TpA} {Γ : List Sl} {elt tg iter : Expr} {S : D → Prop} {scope : Scope} {p pos gpos : Pos} {α : Type} {xs : List α} {enc : α → D} {Γx : α → List Sl} {js : List Nat} {c P : Addr}
theorem pg_ge : ∀ (A' : Around) (s : Shared) (H : Hp) (C : Addr) (code : Value) (fp : List Addr), PG (Ge.geCx X A' s H (Ge.gEnv X scope C code) fp) tg (gGe X scope tg) := fun A' s H C code fp => ⟨fun pins s' σ H' v u Q I r h => pg_s.run pins s' σ H' v u Q I r (h A' s H C code fp)⟩
theorem pe_ge : ∀ (A' : Around) (s : Shared) (H : Hp) (C : Addr) (code : Value) (fp : List Addr), Room k (A'.deeper (Ge.gEnv X scope C code)) → PE (Ge.geCx X A' s H (Ge.gEnv X scope C code) fp) elt (teGe k X scope elt) := fun A' s H C code fp hr => ⟨fun pins s' σ H' Q I h => pe_s.run pins s' σ H' Q I (h A' s H C code fp hr)⟩
/-- one turn -/
theorem ge_turn {SP : α → D → Prop} {own : List (Str × Nat)} (hl : xs.length ≤ 1000)
    (hg : ∀ (A' : Around) (s : Shared) (H : Hp) (C : Addr) (code : Value) (fp : List Addr), ∀ x ∈ xs, G (Ge.geCx X A' s H (Ge.gEnv X scope C code) fp) (gw Γ (own.map (·.2))) tg (enc x) (Γx x) js) (hjs : ∀ j ∈ js, j ∈ own.map (·.2))
    (he : ∀ (A' : Around) (s : Shared) (H : Hp) (C : Addr) (code : Value) (fp : List Addr), ∀ x ∈ xs, E k (Ge.geCx X A' s H (Ge.gEnv X scope C code) fp) M (Γx x) elt (SP x))
    (xk : XOk X) {H0 H1 H2 H3 : Hp} {σ : L2.St} (le : Le M H0 H1) (sat : Sat Γ H0 σ H1) {i : Nat} {x : V} (hi : i < xs.length) (le1 : Le M H1 H2) {Y : Nat → Hp → V → Hp → Prop} {Gs : Hp → Prop} (gs : Gs H2)
    (hy : ∀ (i : Nat) H2 x H3, i < (xs.map enc).length → Gs H2 → Y i H2 x H3 → (∀ M', Iv M' H2 → Le M' H2 H3) ∧ ∃ d, (xs.map enc)[i]? = some d ∧ Rp H3 x d) (y : Y i H2 x H3) {R : V → Hp → Prop} (hR : ∀ v H4 d, Le M H1 H4 → Le M H2 H4 → (∃ z, xs[i]? = some z ∧ SP z d) → Rp H4 v d → R v H4) :
    gGe X scope tg x (L2.wipe σ (own.map (·.2))) H3 fun σ2 H2 => L2.wipe σ2 (own.map (·.2)) = L2.wipe σ (own.map (·.2)) ∧ teGe k X scope elt σ2 H2 R := by
  obtain ⟨ly, d, ed, rd⟩ := hy i H2 x H3 (by rw [List.length_map]; exact hi) gs y
  have ex : xs[i]? = some xs[i] := List.getElem?_eq_getElem hi
  have hm : xs[i] ∈ xs := List.getElem_mem hi
  rw [List.getElem?_map, ex] at ed
  cases ed
  have lyM := ly M le1.i1
  intro A' s Hc C code fp
  refine hg A' s Hc C code fp _ hm (xk.ge ..) H0 H3 x _ rd ((sat.mo (le1.trans lyM)).wipe _) _ fun σ' sat' hw' => ⟨(hw' _ hjs).trans (wipe_wipe _ _), ?_⟩
  intro A' s Hc C code fp hr'
  exact he A' s Hc C code fp _ hm (xk.ge ..) hr' H0 σ' H3 (le.trans (le1.trans lyM)) sat' _ fun v H4 d l4 s4 r4 => hR v H4 d ((le1.trans lyM).trans l4) (lyM.trans l4) ⟨_, ex, s4⟩ r4
theorem E.allG (own : List (Str × Nat)) (hP : (c, P) ∈ Cf.gs) (hw : W (k + 2) X M false Γ tg iter (xs.map enc)) (ok : Ge.GeS X.N X.env.scope scope own) (hl : xs.length ≤ 1000)
    (hg : ∀ (A' : Around) (s : Shared) (H : Hp) (C : Addr) (code : Value) (fp : List Addr), ∀ x ∈ xs, G (Ge.geCx X A' s H (Ge.gEnv X scope C code) fp) (gw Γ (own.map (·.2))) tg (enc x) (Γx x) js) (hjs : ∀ j ∈ js, j ∈ own.map (·.2))
    (he : ∀ (A' : Around) (s : Shared) (H : Hp) (C : Addr) (code : Value) (fp : List Addr), ∀ x ∈ xs, E1 k (Ge.geCx X A' s H (Ge.gEnv X scope C code) fp) M (Γx x) elt (.bl true)) (hcode : X.env.code = .ref c := by rfl) (hgl : Gl X "all" := by rfl) (hs : ∀ v, genFold iter X.env v = pure v := by intro _; rfl)
    (hst : starEach [.GeneratorExp elt [⟨tg, iter, [], 0⟩] scope gpos] X.env = (false, eval (.GeneratorExp elt [⟨tg, iter, [], 0⟩] scope gpos) X.env) :: starEach [] X.env := by rfl) :
    E1 (k + 2) X M Γ (.Call (.Name "all" p) [.GeneratorExp elt [⟨tg, iter, [], 0⟩] scope gpos] [] pos) (.bl true) := fun xk hr H0 σ H le sat Q q => by
  refine to_s (Ge.pe_allG (own := own) (P := P) (wi := tSI X tg iter) (g := gGe X scope tg) (te := teGe k X scope elt) hr hgl (xk.no (by decide)) (by decide +kernel) (by rw [xk.m]; exact xk.g.1 _ hP) hcode ok xk.nd pi_s pg_ge pe_ge hs hst) ?_
  refine hw xk hr H0 σ H le sat _ fun J H1 Gs Y l w fr gs0 hy => ⟨l.i1.g _ hP, fun H2 tb => ?_⟩
  have lt := Le.tabbed l.i1 hP tb
  have hlen : (xs.map enc).length = xs.length := List.length_map _
  refine Ge.all_true w (fun i H => Le M H1 H) lt (fun i H _ z => fr.le _ _ _ z gs0) (fun i x H H' hi z y => ge_turn (SP := fun _ d => d = .bl true) hl hg hjs he xk (le.trans l) (sat.mo l) (by rw [← hlen]; exact hi) z (fr.le _ _ _ z gs0) hy y fun v H4 d l4 _ s4 r4 => ?_) fun H z => q _ _ _ (l.trans z) rfl (.bl _)
  obtain ⟨_, _, rfl⟩ := s4
  cases r4
  exact ⟨rfl, l4⟩
theorem fsum_eq {α : Type} (g : α → Int) (xs : List α) (f : Nat → Int) (h : ∀ (i : Nat) x, xs[i]? = some x → f i = g x) : ∀ n, n ≤ xs.length → Ge.fsum f n = ((xs.take n).map g).sum
  | 0, _ => rfl
  | n + 1, hn => by
    have ex : xs[n]? = some xs[n] := List.getElem?_eq_getElem (by omega)
    rw [List.take_add_one, ex]
    simp only [Ge.fsum, Option.toList, List.map_append, List.sum_append, List.map_cons, List.map_nil, List.sum_cons, List.sum_nil, fsum_eq g xs f h n (by omega), h n _ ex]
    omega
theorem E.sumG {g : α → Int} (own : List (Str × Nat)) (hP : (c, P) ∈ Cf.gs) (hw : W (k + 2) X M false Γ tg iter (xs.map enc)) (ok : Ge.GeS X.N X.env.scope scope own) (hl : xs.length ≤ 1000)
    (hg : ∀ (A' : Around) (s : Shared) (H : Hp) (C : Addr) (code : Value) (fp : List Addr), ∀ x ∈ xs, G (Ge.geCx X A' s H (Ge.gEnv X scope C code) fp) (gw Γ (own.map (·.2))) tg (enc x) (Γx x) js) (hjs : ∀ j ∈ js, j ∈ own.map (·.2))
    (hb : ∀ x, 0 ≤ g x ∧ g x ≤ 1000000)
    (he : ∀ (A' : Around) (s : Shared) (H : Hp) (C : Addr) (code : Value) (fp : List Addr), ∀ x ∈ xs, E1 k (Ge.geCx X A' s H (Ge.gEnv X scope C code) fp) M (Γx x) elt (.int (g x))) (hcode : X.env.code = .ref c := by rfl) (hgl : Gl X "sum" := by rfl) (hs : ∀ v, genFold iter X.env v = pure v := by intro _; rfl)
    (hst : starEach [.GeneratorExp elt [⟨tg, iter, [], 0⟩] scope gpos] X.env = (false, eval (.GeneratorExp elt [⟨tg, iter, [], 0⟩] scope gpos) X.env) :: starEach [] X.env := by rfl) :
    E1 (k + 2) X M Γ (.Call (.Name "sum" p) [.GeneratorExp elt [⟨tg, iter, [], 0⟩] scope gpos] [] pos) (.int (xs.map g).sum) := fun xk hr H0 σ H le sat Q q => by
  refine to_s (Ge.pe_sumG (own := own) (P := P) (wi := tSI X tg iter) (g := gGe X scope tg) (te := teGe k X scope elt) hr hgl (xk.no (by decide)) (by decide +kernel) (by rw [xk.m]; exact xk.g.1 _ hP) hcode ok xk.nd pi_s pg_ge pe_ge hs hst) ?_
  refine hw xk hr H0 σ H le sat _ fun J H1 Gs Y l w fr gs0 hy => ⟨l.i1.g _ hP, fun H2 tb => ?_⟩
  have lt := Le.tabbed l.i1 hP tb
  have hlen : (xs.map enc).length = xs.length := List.length_map _
  have hf : ∀ (i : Nat) x, xs[i]? = some x → (fun i : Nat => match xs[i]? with | some x => g x | none => (0 : Int)) i = g x := fun i x e => by simp only [e]
  refine Ge.sum_vals w (fun i : Nat => match xs[i]? with | some x => g x | none => (0 : Int)) (fun i H => Le M H1 H) lt (fun i H _ z => fr.le _ _ _ z gs0) (by rw [hlen]; omega) (fun i hi => ?_)
    (fun i x H H' hi z y => ge_turn (SP := fun z d => d = .int (g z)) hl hg hjs he xk (le.trans l) (sat.mo l) (by rw [← hlen]; exact hi) z (fr.le _ _ _ z gs0) hy y fun v H4 d l4 _ s4 r4 => ?_) fun H z => ?_
  · show 0 ≤ (match xs[i]? with | some x => g x | none => (0 : Int)) ∧ (match xs[i]? with | some x => g x | none => (0 : Int)) ≤ 1000000
    cases xs[i]? with
    | none => exact ⟨Int.le_refl 0, (by decide : (0 : Int) ≤ 1000000)⟩
    | some x => exact hb x
  · obtain ⟨z, ez, rfl⟩ := s4
    cases r4
    refine ⟨?_, l4⟩
    show V.int (g z) = V.int (match xs[i]? with | some x => g x | none => (0 : Int))
    rw [ez]
  · rw [fsum_eq g xs _ hf _ (by rw [hlen]; exact Nat.le_refl _), hlen, List.take_length]
    exact q _ _ _ (l.trans z) rfl (.int _)
theorem E.tupG {f : α → D} (own : List (Str × Nat)) (hP : (c, P) ∈ Cf.gs) (hw : W (k + 2) X M false Γ tg iter (xs.map enc)) (ok : Ge.GeS X.N X.env.scope scope own) (hl : xs.length ≤ 1000)
    (hg : ∀ (A' : Around) (s : Shared) (H : Hp) (C : Addr) (code : Value) (fp : List Addr), ∀ x ∈ xs, G (Ge.geCx X A' s H (Ge.gEnv X scope C code) fp) (gw Γ (own.map (·.2))) tg (enc x) (Γx x) js) (hjs : ∀ j ∈ js, j ∈ own.map (·.2))
    (he : ∀ (A' : Around) (s : Shared) (H : Hp) (C : Addr) (code : Value) (fp : List Addr), ∀ x ∈ xs, E1 k (Ge.geCx X A' s H (Ge.gEnv X scope C code) fp) M (Γx x) elt (f x)) (hcode : X.env.code = .ref c := by rfl) (hgl : Gl X "tuple" := by rfl) (hs : ∀ v, genFold iter X.env v = pure v := by intro _; rfl)
    (hst : starEach [.GeneratorExp elt [⟨tg, iter, [], 0⟩] scope gpos] X.env = (false, eval (.GeneratorExp elt [⟨tg, iter, [], 0⟩] scope gpos) X.env) :: starEach [] X.env := by rfl) :
    E1 (k + 2) X M Γ (.Call (.Name "tuple" p) [.GeneratorExp elt [⟨tg, iter, [], 0⟩] scope gpos] [] pos) (.tup (xs.map f)) := fun xk hr H0 σ H le sat Q q => by
  refine to_s (Ge.pe_tupG (own := own) (P := P) (wi := tSI X tg iter) (g := gGe X scope tg) (te := teGe k X scope elt) hr hgl (xk.no (by decide)) boot_tuple (by rw [xk.m]; exact xk.g.1 _ hP) hcode ok xk.nd pi_s pg_ge pe_ge hs hst) ?_
  refine hw xk hr H0 σ H le sat _ fun J H1 Gs Y l w fr gs0 hy => ⟨l.i1.g _ hP, fun H2 tb => ?_⟩
  have lt := Le.tabbed l.i1 hP tb
  have hlen : (xs.map enc).length = xs.length := List.length_map _
  refine Ge.tup_vals w (fun ys H => Le M H1 H ∧ RpL H ys ((xs.take ys.length).map f)) ⟨lt, .nil⟩ (fun ys H _ z => fr.le _ _ _ z.1 gs0) (by rw [hlen]; omega)
    (fun ys x H H' hi z y => ge_turn (SP := fun z d => d = f z) hl hg hjs he xk (le.trans l) (sat.mo l) (by rw [← hlen]; exact hi) z.1 (fr.le _ _ _ z.1 gs0) hy y fun v H4 d l4 l5 s4 r4 => ?_) fun ys H e z p hp => ?_
  · obtain ⟨z', ez, rfl⟩ := s4
    refine ⟨l4, ?_⟩
    rw [List.length_append, List.length_singleton, List.take_add_one, ez]
    simp only [Option.toList, List.map_append, List.map_cons, List.map_nil]
    exact (z.2.mo l5).app (.cons r4 .nil)
  · obtain ⟨z1, z2⟩ := z
    rw [e, hlen, List.take_length] at z2
    exact q _ _ _ ((l.trans z1).newT hp) rfl (.tup (.inl (.inl upd_same)) (z2.mo (.new z1.i1 hp)))
end
end Ty
namespace Ty
open PySem PySem.Spec PyProof.Rows L2
variable [Cf]
/-! ### own lists -/
def Sl.im : Sl → Bool
  | .non => true
  | .val d => d.im
  | _ => false
/-- all slots but s do not see a change of lists -/
def imBut (Γ : List Sl) (s : Nat) : Bool := (Γ.set s .non).all Sl.im
theorem imBut_at {Γ : List Sl} {s : Nat} (h : imBut Γ s = true) {i : Nat} {t : Sl} (hi : i ≠ s) (e : Γ[i]? = some t) : t.im = true := by
  unfold imBut at h
  rw [List.all_eq_true] at h
  exact h t (List.mem_of_getElem? (i := i) (by rw [List.getElem?_set_ne (Ne.symm hi)]; exact e))
theorem SlOk.mut {H0 H : Hp} {l : Addr} {xs : List V} {o : HO} (hl : H l = some (.lst xs)) : ∀ {s : Sl} {v : Option (Option V)}, s.im = true → SlOk H0 H s v → SlOk H0 (upd H l o) s v
  | .non, _, _, _ => trivial
  | .val d, _, i, ⟨v, h1, h2⟩ => ⟨v, h1, h2.mut hl i⟩
  | .own _, _, i, _ => nomatch i
  | .obj _ _ _ _, _, i, _ => nomatch i
  | .odic _ _, _, i, _ => nomatch i
  | .mat _, _, i, _ => nomatch i
theorem SlOk.mutD {H0 H : Hp} {l : Addr} {xs : List (Key × V)} {o : HO} (hl : H l = some (.dK xs)) : ∀ {s : Sl} {v : Option (Option V)}, s.im = true → SlOk H0 H s v → SlOk H0 (upd H l o) s v
  | .non, _, _, _ => trivial
  | .val d, _, i, ⟨v, h1, h2⟩ => ⟨v, h1, h2.mutD hl i⟩
  | .own _, _, i, _ => nomatch i
  | .obj _ _ _ _, _, i, _ => nomatch i
  | .odic _ _, _, i, _ => nomatch i
  | .mat _, _, i, _ => nomatch i
theorem Sat.mutBut {Γ : List Sl} {H0 H : Hp} {σ : L2.St} {s : Nat} {l : Addr} {xs : List V} {o : HO} {t : Sl} (sat : Sat Γ H0 σ H) (hl : H l = some (.lst xs)) (hi : imBut Γ s = true) (ht : SlOk H0 (upd H l o) t σ[s]?) : Sat (Γ.set s t) H0 σ (upd H l o) := by
  refine ⟨by rw [List.length_set]; exact sat.len, fun i u hu => ?_⟩
  by_cases e : s = i
  · subst e
    by_cases hs : s < Γ.length
    · rw [List.getElem?_set_self hs] at hu
      cases hu
      exact ht
    · rw [List.getElem?_eq_none (by rw [List.length_set]; omega)] at hu
      cases hu
  · rw [List.getElem?_set_ne e] at hu
    exact (sat.at_ i u hu).mut hl (imBut_at hi (Ne.symm e) hu)
theorem Sat.mutButD {Γ : List Sl} {H0 H : Hp} {σ : L2.St} {s : Nat} {l : Addr} {xs : List (Key × V)} {o : HO} {t : Sl} (sat : Sat Γ H0 σ H) (hl : H l = some (.dK xs)) (hi : imBut Γ s = true) (ht : SlOk H0 (upd H l o) t σ[s]?) : Sat (Γ.set s t) H0 σ (upd H l o) := by
  refine ⟨by rw [List.length_set]; exact sat.len, fun i u hu => ?_⟩
  by_cases e : s = i
  · subst e
    by_cases hs : s < Γ.length
    · rw [List.getElem?_set_self hs] at hu
      cases hu
      exact ht
    · rw [List.getElem?_eq_none (by rw [List.length_set]; omega)] at hu
      cases hu
  · rw [List.getElem?_set_ne e] at hu
    exact (sat.at_ i u hu).mutD hl (imBut_at hi (Ne.symm e) hu)
section
variable {k : Nat} {X : Cx} {M : Option TpA} {mu : Bool} {Γ Γ' : List Sl} {a b c e o tg iter elt : Expr} {es : List Expr} {p pos pos' apos tpos p1 p2 : Pos} {S S1 : D → Prop} {N : List Sl → Prop} {ds : List D} {d : D} {x : Str} {SL : List D → Prop} {scope : Scope} {ifs : List Expr}
/-- a new list -/
def EF (k : Nat) (X : Cx) (M : Option TpA) (Γ : List Sl) (e : Expr) (SL : List D → Prop) : Prop :=
  XOk X → Room k X.A → ∀ H0 σ H, Le M H0 H → Sat Γ H0 σ H → ∀ Q : VK, (∀ p vs ds H', Le M H H' → Nw H p → H' p = some (.lst vs) → RpL H' vs ds → SL ds → Q (.ref p) H') → tS X e σ H Q
theorem EF.val (h : EF k X M Γ e SL) (hS : ∀ ds, SL ds → S (.lst ds)) : E k X M Γ e S := fun xk hr H0 σ H le sat Q q => h xk hr H0 σ H le sat Q fun p vs ds H' l n hp r s => q _ _ _ l (hS ds s) (.lst hp r)
theorem EF.repL {n : Nat} (ha : E1 k X M Γ a (.lst [d])) (hb : E1 k X M Γ b (.int (n : Int))) (hl : n ≤ 1000) : EF k X M Γ (.BinOp a .Mult b pos) (fun ds => ds = List.replicate n d) := fun xk hr H0 σ H le sat Q q =>
  to_s (pe_op op_rep (pe_s (X := X) (e := a)) (pe_s (X := X) (e := b))) (ha xk hr H0 σ H le sat _ fun x H1 d1 l1 s1 r1 => hb xk hr H0 σ H1 (le.trans l1) (sat.mo l1) _ fun y H2 d2 l2 s2 r2 => by
    subst s1 s2
    obtain ⟨p, vs, rfl, sq, rl⟩ := rpL (r1.mo l2)
    cases r2
    obtain ⟨v, rfl, rv⟩ := rp1 rl
    refine ⟨p, (n : Int), [v], rfl, rfl, sq, by omega, by omega, sz1000 (by rw [Int.toNat_natCast]; simpa using hl), fun p3 hp => q p3 _ _ _ ((l1.trans l2).newT hp) ((l1.trans l2).nw (.none hp)) upd_same ?_ rfl⟩
    rw [Int.toNat_natCast, flat1]
    exact (RpL.rep rv n).mo (.new l2.i1 hp))
theorem EF.lst (h : A1 k X M Γ es ds) (hl : ds.length ≤ 1000 := by first | decide | simp) : EF k X M Γ (.List es pos) (fun x => x = ds) := fun xk hr H0 σ H le sat Q q =>
  to_s (pe_lst (pa_s (X := X) (es := es))) (h xk hr H0 σ H le sat _ fun vs H1 ds' l s r => by
    subst s
    exact ⟨sz1000 (by rw [r.length]; exact hl), fun p hp => q _ _ _ _ (l.newT hp) (l.nw (.none hp)) upd_same (r.mo (.new l.i1 hp)) rfl⟩)
theorem EF.lstN (h : A k X M Γ es SL) (hl : ∀ ds, SL ds → ds.length ≤ 1000) : EF k X M Γ (.List es pos) SL := fun xk hr H0 σ H le sat Q q =>
  to_s (pe_lst (pa_s (X := X) (es := es))) (h xk hr H0 σ H le sat _ fun vs H1 ds' l s r => ⟨sz1000 (by rw [r.length]; exact hl _ s), fun p hp => q _ _ _ _ (l.newT hp) (l.nw (.none hp)) upd_same (r.mo (.new l.i1 hp)) s⟩)
theorem EF.listOf (h : E1 k X M Γ a d) (s : IsSq d ds) (hg : Gl X "list" := by rfl) (hs : starEach [a] X.env = (false, eval a X.env) :: starEach [] X.env := by rfl) : EF k X M Γ (.Call (.Name "list" p) [a] [] pos) (fun x => x = ds) := fun xk hr H0 σ H le sat Q q =>
  to_s (pe_callTy call_list_of hg (xk.no (by decide)) boot_list (pa_s (X := X) (es := [a])) (by decide) (by decide) hs rfl) (args1 h hs xk hr H0 σ H le sat _ fun vs H1 ds' l s' r => by
    obtain ⟨_, rfl, rfl⟩ := s'
    obtain ⟨v, rfl, rv⟩ := rp1 r
    obtain ⟨p, ys, rfl, sq, rl⟩ := s.sq rv
    rw [xk.K]
    exact ⟨p, ys, rfl, sq, fun l2 hl => q _ _ _ _ (l.newT hl) (l.nw (.none hl)) upd_same (rl.mo (.new l.i1 hl)) rfl⟩)
theorem EF.lcM {α : Type} {xs : List α} {enc : α → D} {Γx : α → List Sl} {js : List Nat} {f : α → D} (own : List (Str × Nat)) (hw : W k X M false Γ tg iter (xs.map enc)) (ok : BlkOk X.N X.env.scope scope own) (hl : xs.length ≤ 1000)
    (hg : ∀ (s : Shared) (H : Hp) (C : Addr) (cl : List (Str × Addr)) (fp : List Addr), ∀ x ∈ xs, G (X.blk s H scope (compEnvC scope cl C X.env) fp) (gw Γ (own.map (·.2))) tg (enc x) (Γx x) js) (hjs : ∀ j ∈ js, j ∈ own.map (·.2))
    (him : ∀ x, (f x).im = true)
    (he : ∀ (s : Shared) (H : Hp) (C : Addr) (cl : List (Str × Addr)) (fp : List Addr), ∀ x ∈ xs, E1 k (X.blk s H scope (compEnvC scope cl C X.env) fp) M (Γx x) elt (f x)) (hs : ∀ x, foldedSetIterable iter X.env x = pure x := by intro _; rfl) :
    EF k X M Γ (.ListComp elt [⟨tg, iter, [], 0⟩] scope pos) (fun ds => ds = xs.map f) := fun xk hr H0 σ H le sat Q q =>
  to_s (pe_lc (own := own) xk.c xk.nd pi_s ok pg_all (pt_all (.inl rfl)) pe_all hs) (lcRead (Tx := fun _ b => b = true) (Sx := fun x d => d = f x) own hw ok hl hg hjs (.inl rfl) (fun s H C cl fp x hx => .inl ⟨rfl, rfl⟩) (fun s H C cl fp x hx _ => he s H C cl fp x hx) (fun x d e => by rw [e]; exact him x) xk hr H0 σ H le sat Q
    fun a acc es H' l nw lc ha ra => q _ _ _ _ l nw ha ra lc.det)
/-- x = a new list -/
theorem P1.setOwn (i : Nat) (h : EF k X M Γ e SL) (hi : X.N[i]? = some x := by rfl) (hx : Loc X.env.scope x := by first | exact .inl rfl | exact .inr rfl) (hs : swapsWith e (some (.Name x pos')) pos.line X.env = pure false := by rfl) (hf : X.fn x = true ∨ X.env.scope.names.lookup x = some .local := by first | exact .inl rfl | exact .inr rfl) :
    P1 k X M mu Γ (.Assign [.Name x pos'] e pos) (fun g => ∃ ds, SL ds ∧ g = Γ.set i (.own ds)) S := fun xk hr F fr H0 σ H le hF sat Dn qn qr =>
  to_1 (ps_set xk.nd hi hx (pe_s (X := X) (e := e)) hs hf) (h xk hr H0 σ H le sat _ fun p vs ds H' l nw hp r s =>
    qn _ _ _ (le.trans l) (fr.le _ _ _ l hF) ⟨ds, s, rfl⟩ ((sat.mo l).set i (s := .own ds) ⟨p, vs, rfl, le.nw nw, hp, r⟩))
/-- x = [comprehension], as a value -/
theorem P1.setLc {α : Type} {xs : List α} {enc : α → D} {Γx : α → List Sl} {js : List Nat} {f : α → D} (i : Nat) (own : List (Str × Nat)) (hw : W k X M false Γ tg iter (xs.map enc)) (ok : BlkOk X.N X.env.scope scope own) (hl : xs.length ≤ 1000)
    (hg : ∀ (s : Shared) (H : Hp) (C : Addr) (cl : List (Str × Addr)) (fp : List Addr), ∀ x ∈ xs, G (X.blk s H scope (compEnvC scope cl C X.env) fp) (gw Γ (own.map (·.2))) tg (enc x) (Γx x) js) (hjs : ∀ j ∈ js, j ∈ own.map (·.2))
    (him : ∀ x, (f x).im = true)
    (he : ∀ (s : Shared) (H : Hp) (C : Addr) (cl : List (Str × Addr)) (fp : List Addr), ∀ x ∈ xs, E1 k (X.blk s H scope (compEnvC scope cl C X.env) fp) M (Γx x) elt (f x))
    (hsw : swapsWith (.ListComp elt [⟨tg, iter, [], 0⟩] scope pos) (some (.Name x pos')) apos.line X.env = pure true)
    (hi : X.N[i]? = some x := by rfl) (hx : X.env.scope.names.lookup x = some .local := by rfl) (hs : ∀ x, foldedSetIterable iter X.env x = pure x := by intro _; rfl) :
    P1 k X M mu Γ (.Assign [.Name x pos'] (.ListComp elt [⟨tg, iter, [], 0⟩] scope pos) apos) (fun g => g = Γ.set i (.val (.lst (xs.map f)))) S := fun xk hr F fr H0 σ H le hF sat Dn qn qr =>
  to_1 (ps_setLc (own := own) xk.c xk.nd hi hx hsw pi_s ok pg_all (pt_all (.inl rfl)) pe_all hs) (lcRead (Tx := fun _ b => b = true) (Sx := fun x d => d = f x) own hw ok hl hg hjs (.inl rfl) (fun s H C cl fp x hx => .inl ⟨rfl, rfl⟩) (fun s H C cl fp x hx _ => he s H C cl fp x hx) (fun x d e => by rw [e]; exact him x) xk hr H0 σ H le sat _
    fun a acc es H' l nw lc ha ra => qn _ _ _ (le.trans l) (fr.le _ _ _ l hF) rfl ((sat.mo l).set i (s := .val _) ⟨_, rfl, .lst ha (lc.det ▸ ra)⟩))
/-- xs.append(e) -/
theorem P1.append (s : Nat) {l : List D} (hΓ : Γ[s]? = some (.own l)) (hi : imBut Γ s = true) (hl : l.length < 1000) (hd : D.imL l = true ∧ d.im = true) (ha : E1 k X M Γ a d) (hm : mu = true) (hN : X.N[s]? = some x := by rfl) (hv : Vis X.env.scope x := by first | exact Or.inl rfl | exact Or.inr (Or.inl rfl) | exact Or.inr (Or.inr rfl)) (hdb : (x == ("__debug__" : Str)) = false := by decide) (hcd : (x == ("__classdict__" : Str)) = false := by decide)
    (hs : starEach [a] X.env = (false, eval a X.env) :: starEach [] X.env := by rfl)
    (hb : attributeBase (.Name x p1) "append" X.env (eval (.Name x p1) X.env) = eval (.Name x p1) X.env := by rfl)
    (hfew : ((backTo pos (starEach [a] X.env)).all (fun x => !x.1) && (backToKw pos (keywordEach [] X.env)).all (fun x => x.1.isSome) && decide ([a].length + ([] : List Keyword).length + (if ([] : List Keyword).isEmpty then 0 else 1) < 30)) = true := by rfl)
    (hps : PS X (.Expr (.Call (.Attribute (.Name x p1) "append" apos) [a] [] pos) pos') (tDrop (tBM X.K "list" rAppend (tVar s) (tSA X [a])))) :
    P1 k X M mu Γ (.Expr (.Call (.Attribute (.Name x p1) "append" apos) [a] [] pos) pos') (fun g => g = Γ.set s (.own (l ++ [d]))) S := fun xk hr F fr H0 σ H le hF sat Dn qn qr => by
  obtain ⟨p, vs, ev, h0, hp, rl⟩ := sat.at_ s _ hΓ
  refine to_1 hps ⟨_, ev, .inl ⟨rfl, _, .inl (.inl hp)⟩, args1 ha hs xk hr H0 σ H le sat _ fun us H1 ds' l1 s' r => ?_⟩
  obtain ⟨_, rfl, rfl⟩ := s'
  obtain ⟨v, rfl, rv⟩ := rp1 r
  obtain ⟨p', vs', ev', h0', hp', rl'⟩ := (sat.mo l1).at_ s _ hΓ
  rw [ev] at ev'
  cases ev'
  refine ⟨p, vs', v, rfl, rfl, hp', Nat.lt_of_lt_of_le (show vs'.length < 1000 by rw [rl'.length]; exact hl) (sz1000 (Nat.le_refl _)), ?_⟩
  refine qn _ _ _ ((le.trans l1).mut h0 hp') (fr.ml hm _ _ _ _ hp' (fr.le _ _ _ l1 hF)) rfl ((sat.mo l1).mutBut hp' hi ⟨p, _, ev, h0, upd_same, ?_⟩)
  exact (rl'.mut hp' hd.1).app (.cons (rv.mut hp' hd.2) .nil)
/-- xs[i] = e -/
theorem P1.setItem (s : Nat) {l : List D} {i : Int} (hΓ : Γ[s]? = some (.own l)) (hi : imBut Γ s = true) (hr1 : 0 ≤ i ∧ i < l.length) (hd : D.imL l = true ∧ d.im = true) (ha : E1 k X M Γ a d) (hb : E1 k X M Γ b (.int i)) (hm : mu = true)
    (hps : PS X (.Assign [.Subscript (.Name x p1) b p2] a pos) (tAsg (tS X a) (gSub (tVar s) (tS X b) rSetL))) :
    P1 k X M mu Γ (.Assign [.Subscript (.Name x p1) b p2] a pos) (fun g => g = Γ.set s (.own (l.set i.toNat d))) S := fun xk hr F fr H0 σ H le hF sat Dn qn qr => by
  refine to_1 hps (ha xk hr H0 σ H le sat _ fun v H1 d1 l1 s1 r1 => ?_)
  subst s1
  obtain ⟨p, vs, ev, h0, hp, rl⟩ := (sat.mo l1).at_ s _ hΓ
  refine ⟨_, ev, hb xk hr H0 σ H1 (le.trans l1) (sat.mo l1) _ fun u H2 d2 l2 s2 r2 => ?_⟩
  subst s2
  cases r2
  obtain ⟨p', vs', ev', h0', hp', rl'⟩ := ((sat.mo l1).mo l2).at_ s _ hΓ
  rw [ev] at ev'
  cases ev'
  have hlen := rl'.length
  have hix : ixN vs'.length i = some i.toNat := by
    unfold ixN
    rw [if_pos hr1.1, if_pos (by rw [hlen]; exact hr1.2)]
  refine ⟨p, vs', i, i.toNat, rfl, rfl, hp', hix, ?_⟩
  refine qn _ _ _ ((le.trans (l1.trans l2)).mut h0 hp') (fr.ml hm _ _ _ _ hp' (fr.le _ _ _ (l1.trans l2) hF)) rfl ((sat.mo (l1.trans l2)).mutBut hp' hi ⟨p, _, ev, h0, upd_same, ?_⟩)
  exact (rl'.mut hp' hd.1).set _ ((r1.mo l2).mut hp' hd.2)
end
end Ty
namespace Ty
open PySem PySem.Spec PyProof.Rows L2
variable [Cf]
theorem Sat.mutAll {Γ : List Sl} {H0 H : Hp} {σ : L2.St} {l : Addr} {xs : List V} {o : HO} (sat : Sat Γ H0 σ H) (hl : H l = some (.lst xs)) (hi : Γ.all Sl.im = true) : Sat Γ H0 σ (upd H l o) :=
  ⟨sat.len, fun i u hu => (sat.at_ i u hu).mut hl (List.all_eq_true.mp hi u (List.mem_of_getElem? hu))⟩
/-! ### own rows of ints -/
section
variable {k : Nat} {X : Cx} {M : Option TpA} {mu : Bool} {Γ Γ' : List Sl} {a b c e o tg iter elt : Expr} {es : List Expr} {p pos pos' apos tpos p1 p2 p3 : Pos} {S S1 : D → Prop} {N : List Sl → Prop} {ds : List D} {d : D} {x : Str} {SL : List D → Prop} {scope : Scope} {ifs : List Expr} {rows : List (List Int)}
theorem refs_inj : ∀ {as bs : List Addr}, as.map V.ref = bs.map V.ref → as = bs
  | [], [], _ => rfl
  | [], _ :: _, h => by cases h
  | _ :: _, [], h => by cases h
  | a :: as, b :: bs, h => by
    simp only [List.map_cons, List.cons.injEq, V.ref.injEq] at h
    rw [h.1, refs_inj h.2]
abbrev rowsD (rows : List (List Int)) : D := .lst (rows.map fun r => .lst (r.map D.int))
theorem mat_rp {H0 H : Hp} {l : Addr} {as : List Addr} (h : Mat H0 H l as rows) : Rp H (.ref l) (rowsD rows) := by
  obtain ⟨h1, h2, h3, h4, h5, h6⟩ := h
  refine .lst h2 ?_
  have : ∀ (as : List Addr) (rows : List (List Int)), as.length = rows.length → (∀ (i : Nat) a r, as[i]? = some a → rows[i]? = some r → H a = some (.lst (r.map V.int))) → RpL H (as.map V.ref) (rows.map fun r => .lst (r.map D.int)) := by
    intro as
    induction as with
    | nil => intro rows hl _; cases rows with
      | nil => exact .nil
      | cons _ _ => cases hl
    | cons a as ih => intro rows hl h; cases rows with
      | nil => cases hl
      | cons r rows => exact .cons (.lst (h 0 a r rfl rfl) RpL.of_ints) (ih rows (by simpa using hl) fun i a' r' e1 e2 => h (i + 1) a' r' (by simpa using e1) (by simpa using e2))
  exact this as rows h5 fun i a r e1 e2 => (h6 i a r e1 e2).2
theorem E.varM (i : Nat) (hΓ : Γ[i]? = some (.mat rows) := by rfl) (hN : X.N[i]? = some x := by rfl) (hv : Vis X.env.scope x := by first | exact Or.inl rfl | exact Or.inr (Or.inl rfl) | exact Or.inr (Or.inr rfl)) (hd : (x == ("__debug__" : Str)) = false := by decide)
    (hcd : (x == ("__classdict__" : Str)) = false := by decide) : E1 k X M Γ (.Name x pos) (rowsD rows) := fun xk hr H0 σ H le sat Q q => by
  obtain ⟨l, as, ev, m⟩ := sat.at_ i _ hΓ
  exact to_s (pe_var hN hv hd hcd) ⟨_, ev, q _ H _ (.refl le.i1) rfl (mat_rp m)⟩
/-- x = [new list of ints for ..] -/
theorem P1.setMat {α : Type} {xs : List α} {enc : α → D} {Γx : α → List Sl} {js : List Nat} {f : α → List Int} (i : Nat) (own : List (Str × Nat)) (hw : W k X M false Γ tg iter (xs.map enc)) (ok : BlkOk X.N X.env.scope scope own) (hl : xs.length ≤ 1000)
    (hg : ∀ (s : Shared) (H : Hp) (C : Addr) (cl : List (Str × Addr)) (fp : List Addr), ∀ x ∈ xs, G (X.blk s H scope (compEnvC scope cl C X.env) fp) (gw Γ (own.map (·.2))) tg (enc x) (Γx x) js) (hjs : ∀ j ∈ js, j ∈ own.map (·.2))
    (he : ∀ (s : Shared) (H : Hp) (C : Addr) (cl : List (Str × Addr)) (fp : List Addr), ∀ x ∈ xs, EF k (X.blk s H scope (compEnvC scope cl C X.env) fp) M (Γx x) elt (fun ds => ds = (f x).map D.int))
    (hsw : swapsWith (.ListComp elt [⟨tg, iter, [], 0⟩] scope pos) (some (.Name x pos')) apos.line X.env = pure true)
    (hi : X.N[i]? = some x := by rfl) (hx : X.env.scope.names.lookup x = some .local := by rfl) (hs : ∀ x, foldedSetIterable iter X.env x = pure x := by intro _; rfl) :
    P1 k X M mu Γ (.Assign [.Name x pos'] (.ListComp elt [⟨tg, iter, [], 0⟩] scope pos) apos) (fun g => g = Γ.set i (.mat (xs.map f))) S := fun xk hr F fr H0 σ H le hF sat Dn qn qr => by
  refine to_1 (ps_setLc (own := own) xk.c xk.nd hi hx hsw pi_s ok pg_all (pt_all (.inl rfl)) pe_all hs) ?_
  refine hw xk hr H0 σ H le sat _ fun J H1 Gs Y l w frG gs0 hy D hD => ?_
  have hlen : (xs.map enc).length = xs.length := List.length_map _
  refine lc_it (g := gAll X scope tg) (tt := ttAll X scope []) (te := teAll X scope elt) (vs := own.map (·.2)) (σ := σ) (D := D) (Qd := fun H' => Dn.nx (σ.set i (some (.ref D))) H') w
    (fun i H => Le M H1 H ∧ ∃ as : List Addr, H D = some (.lst (as.map V.ref)) ∧ as.Nodup ∧ D ∉ as ∧ as.length = i ∧ ∀ (j : Nat) a x, as[j]? = some a → xs[j]? = some x → Nw H1 a ∧ H a = some (.lst ((f x).map V.int)))
    ⟨.new l.i1 hD, [], upd_same, .nil, by simp, rfl, fun j a x h => by simp at h⟩ (fun i H2 _ z => frG.le _ _ _ z.1 gs0) (fun i x H2 H3 hi z y => ?_) fun H2 z => ?_
  · obtain ⟨le1, as, hacc, nd, nD, la, ha⟩ := z
    have hi' : i < xs.length := by rw [← hlen]; exact hi
    obtain ⟨ly, d, ed, rd⟩ := hy i H2 x H3 hi (frG.le _ _ _ le1 gs0) y
    have ex : xs[i]? = some xs[i] := List.getElem?_eq_getElem hi'
    have hm : xs[i] ∈ xs := List.getElem_mem hi'
    rw [List.getElem?_map, ex] at ed
    cases ed
    have lyM := ly M le1.i1
    intro s Hc C cl fp
    refine hg s Hc C cl fp _ hm (xk.blk ..) H0 H3 x _ rd ((sat.mo (l.trans (le1.trans lyM))).wipe _) _ fun σ' sat' hw' => ⟨(hw' _ hjs).trans (wipe_wipe _ _), ?_⟩
    have le3 : Le M H0 H3 := (le.trans l).trans (le1.trans lyM)
    intro s Hc C cl fp
    simp only [tSTs, tYes, ↓reduceIte]
    refine fun s Hc C cl fp => he s Hc C cl fp _ hm (xk.blk ..) hr H0 σ' H3 le3 sat' _ fun p vs ds H5 l5 nw hp r5 e5 => ?_
    subst e5
    have lyA : Le M H2 H5 := lyM.trans l5
    have kl : ∀ {b : Addr} {zs : List V}, H2 b = some (.lst zs) → H5 b = some (.lst zs) := fun {b zs} e => lyA.e _ _ e (fun _ z => nomatch z) (lyA.ne_t e fun _ z => nomatch z)
    have kl3 : ∀ {b : Addr} {zs : List V}, H2 b = some (.lst zs) → H3 b = some (.lst zs) := fun {b zs} e => lyM.e _ _ e (fun _ z => nomatch z) (lyM.ne_t e fun _ z => nomatch z)
    have le5 : Le M H1 H5 := le1.trans lyA
    have hD5 := kl hacc
    have hpD : D ≠ p := nw.ne (kl3 hacc) fun _ z => nomatch z
    have hpa : p ∉ as := fun hin => by
      obtain ⟨j, hj, e⟩ := List.getElem_of_mem hin
      have hjx : j < xs.length := by rw [la] at hj; omega
      have q := ha j p xs[j] (by rw [← e]; exact List.getElem?_eq_getElem hj) (List.getElem?_eq_getElem hjx)
      exact nw.ne (kl3 q.2) (fun _ z => nomatch z) rfl
    refine ⟨as.map V.ref, hD5, ?_, le5.mut (.none hD) hD5, as ++ [p], ?_, ?_, ?_, by rw [List.length_append, la]; rfl, fun j a x ej ex' => ?_⟩
    · rw [List.length_map, la]
      exact Nat.lt_of_le_of_lt (show i ≤ 1000 by omega) (small1000 (Nat.le_refl _))
    · rw [upd_same, List.map_append]
      rfl
    · rw [List.nodup_append]
      refine ⟨nd, by simp, fun a ha' b hb => ?_⟩
      rw [List.mem_singleton.mp hb]
      exact fun z => hpa (z ▸ ha')
    · rw [List.mem_append]
      exact fun z => z.elim nD fun z => hpD (List.mem_singleton.mp z)
    · by_cases hj : j < as.length
      · rw [List.getElem?_append_left hj] at ej
        have q := ha j a x ej ex'
        refine ⟨q.1, ?_⟩
        rw [upd_ne (fun z => nD (by rw [← z]; exact List.mem_of_getElem? ej))]
        exact kl q.2
      · rw [List.getElem?_append_right (by omega)] at ej
        have hj0 : j - as.length = 0 := by
          by_cases z : j - as.length = 0
          · exact z
          · rw [List.getElem?_eq_none (by simp; omega)] at ej
            cases ej
        rw [hj0] at ej
        cases ej
        have hji : j = i := by omega
        subst hji
        rw [ex] at ex'
        cases ex'
        refine ⟨(le1.trans lyM).nw nw, ?_⟩
        rw [upd_ne (Ne.symm hpD), hp, r5.ints]
  · obtain ⟨le1, as, hacc, nd, nD, la, ha⟩ := z
    rw [hlen] at la
    have lA := l.trans le1
    refine qn _ _ _ (le.trans lA) (fr.le _ _ _ lA hF) rfl ((sat.mo lA).set i (s := .mat (xs.map f)) ⟨D, as, rfl, (le.trans l).nw (.none hD), hacc, nd, nD, by rw [List.length_map, la], fun j a r ej er => ?_⟩)
    rw [List.getElem?_map] at er
    cases ex : xs[j]? with
    | none => rw [ex] at er; cases er
    | some x =>
      rw [ex] at er
      cases er
      exact ⟨(le.trans l).nw (ha j a x ej ex).1, (ha j a x ej ex).2⟩
/-- rows[i][j] = e -/
theorem P1.flip (s : Nat) {i j z : Int} {r : List Int} (hΓ : Γ[s]? = some (.mat rows)) (hi : imBut Γ s = true) (h1 : 0 ≤ i) (h2 : rows[i.toNat]? = some r) (h3 : 0 ≤ j ∧ j < r.length) (ha : E1 k X M Γ a (.int z)) (hb : E1 k X M Γ b (.int i)) (hc : E1 k X M Γ c (.int j)) (hm : mu = true)
    (hps : PS X (.Assign [.Subscript (.Subscript (.Name x p1) b p2) c p3] a pos) (tAsg (tS X a) (gSub (tOp (rIxL X.K) (tVar s) (tS X b)) (tS X c) rSetL))) :
    P1 k X M mu Γ (.Assign [.Subscript (.Subscript (.Name x p1) b p2) c p3] a pos) (fun g => g = Γ.set s (.mat (rows.set i.toNat (r.set j.toNat z)))) S := fun xk hr F fr H0 σ H le hF sat Dn qn qr => by
  refine to_1 hps (ha xk hr H0 σ H le sat _ fun v H1 d1 l1 s1 r1 => ?_)
  subst s1
  cases r1
  obtain ⟨l, as, ev, m1⟩ := (sat.mo l1).at_ s _ hΓ
  refine ⟨_, ev, hb xk hr H0 σ H1 (le.trans l1) (sat.mo l1) _ fun u H2 d2 l2 s2 r2 => ?_⟩
  subst s2
  cases r2
  obtain ⟨l', as', ev', m2⟩ := ((sat.mo l1).mo l2).at_ s _ hΓ
  rw [ev] at ev'
  cases ev'
  obtain ⟨q1, q2, q3, q4, q5, q6⟩ := m2
  have hil : i.toNat < rows.length := (List.getElem?_eq_some_iff.mp h2).1
  obtain ⟨a0, ea⟩ : ∃ a0, as'[i.toNat]? = some a0 := ⟨as'[i.toNat]'(by omega), List.getElem?_eq_getElem _⟩
  rw [xk.K]
  refine ⟨l, as'.map V.ref, i, .ref a0, rfl, rfl, .inl (.inl q2), ?_, ?_⟩
  · have := atI_nat (xs := as'.map V.ref) (j := i.toNat) (v := .ref a0) (by rw [List.getElem?_map, ea]; rfl)
    rw [Int.toNat_of_nonneg h1] at this
    exact this
  refine hc xk hr H0 σ H2 (le.trans (l1.trans l2)) (sat.mo (l1.trans l2)) _ fun w H3 d3 l3 s3 r3 => ?_
  subst s3
  cases r3
  obtain ⟨l'', as'', ev'', m3⟩ := ((sat.mo (l1.trans l2)).mo l3).at_ s _ hΓ
  rw [ev] at ev''
  cases ev''
  have m3' := m3
  obtain ⟨w1, w2, w3, w4, w5, w6⟩ := m3
  have kl : H3 l = some (.lst (as'.map V.ref)) := l3.e _ _ q2 (fun _ z => nomatch z) (l3.ne_t q2 fun _ z => nomatch z)
  have eas : as'' = as' := by
    rw [w2] at kl
    have e := Option.some.inj kl
    have e2 : as''.map V.ref = as'.map V.ref := by injection e
    exact refs_inj e2
  subst eas
  obtain ⟨n0, hr0⟩ := w6 _ _ _ ea h2
  have hix : ixN (r.map V.int).length j = some j.toNat := by
    unfold ixN
    rw [List.length_map, if_pos h3.1, if_pos h3.2]
  refine ⟨a0, r.map V.int, j, j.toNat, rfl, rfl, hr0, hix, ?_⟩
  have lA := (l1.trans l2).trans l3
  have ne0 : a0 ≠ l := fun z => w4 (by rw [← z]; exact List.mem_of_getElem? ea)
  refine qn _ _ _ ((le.trans lA).mut n0 hr0) (fr.ml hm _ _ _ _ hr0 (fr.le _ _ _ lA hF)) rfl ((sat.mo lA).mutBut hr0 hi ⟨l, as'', ev, w1, by rw [upd_ne (Ne.symm ne0)]; exact w2, w3, w4, by rw [List.length_set]; exact w5, fun t a r' et er => ?_⟩)
  by_cases e : i.toNat = t
  · subst e
    rw [ea] at et
    cases et
    rw [List.getElem?_set_self hil] at er
    cases er
    exact ⟨n0, by rw [upd_same, List.map_set]⟩
  · rw [List.getElem?_set_ne e] at er
    obtain ⟨n1, hr1⟩ := w6 _ _ _ et er
    refine ⟨n1, ?_⟩
    rw [upd_ne fun z => e (nd_ix w3 ea (by rw [← z]; exact et))]
    exact hr1
end

/-! ### two clauses -/
theorem lc2_in {J : It} {n : Nat} {G : Hp → Prop} {Y : Nat → Hp → V → Hp → Prop} (w : Walk J n G Y) {g : TG} {tt : TT} {te : TE} {vs : List Nat} {σ : L2.St} {H : Hp} {D : Addr} {Qd : Hp → Prop} (Pv : Nat → Hp → Prop) (h0 : Pv 0 H) (hG : ∀ i H, i ≤ n → Pv i H → G H)
    (hs : ∀ i x H H', i < n → Pv i H → Y i H x H' → g x (L2.wipe σ vs) H' fun σ2 H2 => L2.wipe σ2 vs = L2.wipe σ vs ∧ tt σ2 H2 fun b H3 =>
      if b = true then te σ2 H3 fun y H4 => ∃ acc, H4 D = some (.lst acc) ∧ acc.length < sizeLine ∧ Pv (i + 1) (upd H4 D (.lst (acc ++ [y]))) else Pv (i + 1) H3) (hd : ∀ H, Pv n H → Qd H) :
    ∃ W : Nat → Nat → Hp → Prop, (∃ m, W 0 m H) ∧ ∀ i m H, W i m H →
      (J.stop i H ∧ Qd H) ∨ (J.go i H ∧ ∃ Nx : Hp → Prop, (∀ H', Nx H' → ∃ m', m' < m ∧ W (i + 1) m' H') ∧ ∀ x H', J.yld i H x H' → g x (L2.wipe σ vs) H' fun σ2 H2 => L2.wipe σ2 vs = L2.wipe σ vs ∧ tt σ2 H2 fun b H3 =>
        if b = true then te σ2 H3 fun y H4 => ∃ acc, H4 D = some (.lst acc) ∧ acc.length < sizeLine ∧ Nx (upd H4 D (.lst (acc ++ [y]))) else Nx H3) := by
  refine ⟨fun i m H => m = n - i ∧ i ≤ n ∧ Pv i H, ⟨n, by simp, Nat.zero_le _, h0⟩, ?_⟩
  rintro i m H ⟨rfl, hi, p⟩
  have q := hG i H hi p
  by_cases hlt : i < n
  · refine .inr ⟨w.goes i H hlt q, Pv (i + 1), fun H' p' => ⟨n - (i + 1), by omega, rfl, hlt, p'⟩, fun x H' y => hs i x H H' hlt p (w.yields i H x H' hlt q y)⟩
  · have e : i = n := by omega
    subst e
    exact .inl ⟨w.stops H q, hd H p⟩
section
variable {k : Nat} {X : Cx} {M : Option TpA} {mu : Bool} {Γ Γ' : List Sl} {elt tg iter tg1 iter1 : Expr} {pos : Pos} {scope : Scope}
def wiAll (X : Cx) (scope : Scope) (tg iter : Expr) : TI := fun σ H R => ∀ (s : Shared) (H' : Hp) (C : Addr) (cl : List (Str × Addr)) (fp : List Addr), tSI (X.blk s H' scope (compEnvC scope cl C X.env) fp) tg iter σ H R
theorem pi_all : ∀ (s : Shared) (H : Hp) (C : Addr) (cl : List (Str × Addr)) (fp : List Addr), PI (X.blk s H scope (compEnvC scope cl C X.env) fp) tg iter (wiAll X scope tg iter) := fun s H C cl fp => ⟨fun pins s' σ H' R I h => pi_s.run pins s' σ H' R I (h s H C cl fp)⟩
/-- [elt for tg in iter for tg1 in iter1] -/
theorem E.lc2 {α β : Type} {xs : List α} {enc : α → D} {Γx : α → List Sl} {js : List Nat} {ys : α → List β} {enc1 : α → β → D} {Γy : α → β → List Sl} {js1 : List Nat} {f : α → β → D} (own : List (Str × Nat)) (vs1 : List Nat) (hv : ∀ i ∈ vs1, i ∈ own.map (·.2)) (hw : W k X M false Γ tg iter (xs.map enc)) (ok : BlkOk X.N X.env.scope scope own)
    (hl : xs.length ≤ 1000) (hl1 : (xs.flatMap ys).length ≤ 1000)
    (hg : ∀ (s : Shared) (H : Hp) (C : Addr) (cl : List (Str × Addr)) (fp : List Addr), ∀ x ∈ xs, G (X.blk s H scope (compEnvC scope cl C X.env) fp) (gw Γ (own.map (·.2))) tg (enc x) (Γx x) js) (hjs : ∀ j ∈ js, j ∈ own.map (·.2))
    (hw1 : ∀ (s : Shared) (H : Hp) (C : Addr) (cl : List (Str × Addr)) (fp : List Addr), ∀ x ∈ xs, W k (X.blk s H scope (compEnvC scope cl C X.env) fp) M true (Γx x) tg1 iter1 ((ys x).map (enc1 x)))
    (hg1 : ∀ (s : Shared) (H : Hp) (C : Addr) (cl : List (Str × Addr)) (fp : List Addr), ∀ x ∈ xs, ∀ y ∈ ys x, G (X.blk s H scope (compEnvC scope cl C X.env) fp) (gw (Γx x) vs1) tg1 (enc1 x y) (Γy x y) js1) (hjs1 : ∀ j ∈ js1, j ∈ vs1)
    (hΓ : ∀ x, (Γx x).all Sl.im = true) (him : ∀ x y, (f x y).im = true)
    (he : ∀ (s : Shared) (H : Hp) (C : Addr) (cl : List (Str × Addr)) (fp : List Addr), ∀ x ∈ xs, ∀ y ∈ ys x, E1 k (X.blk s H scope (compEnvC scope cl C X.env) fp) M (Γy x y) elt (f x y)) (hs : ∀ x, foldedSetIterable iter X.env x = pure x := by intro _; rfl) (hs1 : ∀ env x, foldedSetIterable iter1 env x = pure x := by intro _ _; rfl) :
    E1 k X M Γ (.ListComp elt [⟨tg, iter, [], 0⟩, ⟨tg1, iter1, [], 0⟩] scope pos) (.lst (xs.flatMap fun x => (ys x).map (f x))) := fun xk hr H0 σ H le sat Q q => by
  refine to_s (pe_lc2 (own := own) (vs1 := vs1) xk.c xk.nd pi_s ok hv pg_all (pt_all (.inl rfl)) pi_all pg_all (pt_all (.inl rfl)) pe_all hs hs1) ?_
  refine hw xk hr H0 σ H le sat _ fun J H1 Gs Y l w fr gs0 hy D hD => ?_
  have hlen : (xs.map enc).length = xs.length := List.length_map _
  have imF : ∀ (x : α) (l : List β), Ty.D.imL (l.map (f x)) = true := fun x l => Ty.D.imL_map _ (him x) l
  have imA : ∀ l : List α, Ty.D.imL (l.flatMap fun x => (ys x).map (f x)) = true := fun l => by
    induction l with
    | nil => rfl
    | cons x l ih => rw [List.flatMap_cons]; exact Ty.D.imL_app (imF x _) ih
  have lenA : ∀ i x, xs[i]? = some x → ((xs.take i).flatMap fun x => (ys x).map (f x)).length + (ys x).length ≤ 1000 := fun i x ex => by
    have e : ∀ l : List α, (l.flatMap fun x => (ys x).map (f x)).length = (l.flatMap ys).length := fun l => by
      induction l with
      | nil => rfl
      | cons x l ih => simp only [List.flatMap_cons, List.length_append, ih, List.length_map]
    have e2 : ∀ (l m : List α), ((l ++ m).flatMap ys).length = (l.flatMap ys).length + (m.flatMap ys).length := fun l m => by rw [List.flatMap_append, List.length_append]
    rw [e]
    have h2 := e2 (xs.take (i + 1)) (xs.drop (i + 1))
    rw [List.take_append_drop] at h2
    have h3 := e2 (xs.take i) [x]
    have h4 : xs.take (i + 1) = xs.take i ++ [x] := by rw [List.take_add_one, ex]; rfl
    rw [h4] at h2
    simp only [List.flatMap_cons, List.flatMap_nil, List.append_nil] at h3
    omega
  have fin : ∀ H, (Le M H1 H ∧ ∃ acc, H D = some (.lst acc) ∧ RpL H acc (xs.flatMap fun x => (ys x).map (f x))) → Q (.ref D) H := fun H z => by
    obtain ⟨l1, acc, h1, h2⟩ := z
    exact q _ _ _ (l.trans l1) rfl (.lst h1 h2)
  refine ⟨fun i m H => m = xs.length - i ∧ i ≤ xs.length ∧ (Le M H1 H ∧ ∃ acc, H D = some (.lst acc) ∧ RpL H acc ((xs.take i).flatMap fun x => (ys x).map (f x))), ⟨xs.length, by simp, Nat.zero_le _, .new l.i1 hD, [], upd_same, .nil⟩, ?_⟩
  rintro i m H2 ⟨rfl, hi, le1, acc, hacc, racc⟩
  have gs1 := fr.le _ _ _ le1 gs0
  by_cases hlt : i < xs.length
  · refine .inr ⟨w.goes i H2 (by rw [hlen]; exact hlt) gs1, fun H => Le M H1 H ∧ ∃ acc, H D = some (.lst acc) ∧ RpL H acc ((xs.take (i + 1)).flatMap fun x => (ys x).map (f x)), fun H' p' => ⟨xs.length - (i + 1), by omega, rfl, hlt, p'⟩, fun x H3 y => ?_⟩
    obtain ⟨ly, d, ed, rd⟩ := hy i H2 x H3 (by rw [hlen]; exact hlt) gs1 (w.yields i H2 x H3 (by rw [hlen]; exact hlt) gs1 y)
    have ex : xs[i]? = some xs[i] := List.getElem?_eq_getElem hlt
    have hm : xs[i] ∈ xs := List.getElem_mem hlt
    rw [List.getElem?_map, ex] at ed
    cases ed
    have lyM := ly M le1.i1
    intro s Hc C cl fp
    refine hg s Hc C cl fp _ hm (xk.blk ..) H0 H3 x _ rd ((sat.mo (l.trans (le1.trans lyM))).wipe _) _ fun σ2 sat2 hw2 => ⟨(hw2 _ hjs).trans (wipe_wipe _ _), ?_⟩
    intro s Hc C cl fp
    simp only [tSTs, tYes, ↓reduceIte]
    intro s Hc C cl fp
    have le3 : Le M H0 H3 := (le.trans l).trans (le1.trans lyM)
    have hD3 : H3 D = some (.lst acc) := lyM.e _ _ hacc (fun _ z => nomatch z) (lyM.ne_t hacc fun _ z => nomatch z)
    refine hw1 s Hc C cl fp _ hm (xk.blk ..) hr H0 σ2 H3 le3 sat2 _ fun J1 H4 Gs1 Y1 l4 w1 fr1 gs4 hy1 => ?_
    have hlen1 : ((ys xs[i]).map (enc1 xs[i])).length = (ys xs[i]).length := List.length_map _
    have hD4 : H4 D = some (.lst acc) := l4.e _ _ hD3 (fun _ z => nomatch z) (l4.ne_t hD3 fun _ z => nomatch z)
    refine lc2_in (g := gAll X scope tg1) (tt := ttAll X scope []) (te := teAll X scope elt) (vs := vs1) (σ := σ2) (D := D) w1
      (fun j H => Le M H1 H ∧ Gs1 H ∧ Le M H0 H ∧ Sat (Γx xs[i]) H0 σ2 H ∧ ∃ acc, H D = some (.lst acc) ∧ RpL H acc (((xs.take i).flatMap fun x => (ys x).map (f x)) ++ ((ys xs[i]).take j).map (f xs[i])))
      ⟨(le1.trans lyM).trans l4, gs4, le3.trans l4, sat2.mo l4, acc, hD4, by rw [List.take_zero, List.map_nil, List.append_nil]; exact (racc.mo lyM).mo l4⟩ (fun j H _ z => z.2.1) (fun j x' H5 H6 hj z y' => ?_) fun H5 z => ?_
    · obtain ⟨le5, gs5, leB5, sat5, acc5, hacc5, racc5⟩ := z
      have hj' : j < (ys xs[i]).length := by rw [← hlen1]; exact hj
      obtain ⟨ly6, d6, ed6, rd6⟩ := hy1 j H5 x' H6 hj gs5 y'
      have ey : (ys xs[i])[j]? = some (ys xs[i])[j] := List.getElem?_eq_getElem hj'
      have hmy : (ys xs[i])[j] ∈ ys xs[i] := List.getElem_mem hj'
      rw [List.getElem?_map, ey] at ed6
      cases ed6
      have lyM6 := ly6 M le5.i1
      intro s Hc C cl fp
      refine hg1 s Hc C cl fp _ hm _ hmy (xk.blk ..) H0 H6 x' _ rd6 ((sat5.mo lyM6).wipe _) _ fun σ3 sat3 hw3 => ⟨(hw3 _ hjs1).trans (wipe_wipe _ _), ?_⟩
      intro s Hc C cl fp
      simp only [tSTs, tYes, ↓reduceIte]
      intro s Hc C cl fp
      refine he s Hc C cl fp _ hm _ hmy (xk.blk ..) hr H0 σ3 H6 (leB5.trans lyM6) sat3 _ fun v H7 dv l7 s7 r7 => ?_
      subst s7
      have lA := lyM6.trans l7
      have hD7 : H7 D = some (.lst acc5) := lA.e _ _ hacc5 (fun _ z => nomatch z) (lA.ne_t hacc5 fun _ z => nomatch z)
      have le7 : Le M H1 H7 := le5.trans lA
      have leU : Le M H1 (upd H7 D (.lst (acc5 ++ [v]))) := le7.mut (.none hD) hD7
      have leU4 : Gs1 (upd H7 D (.lst (acc5 ++ [v]))) := fr1.ml rfl _ _ _ _ hD7 (fr1.le _ _ _ lA gs5)
      refine ⟨acc5, hD7, ?_, leU, leU4, (le.trans l).trans leU, (sat5.mo lA).mutAll hD7 (hΓ _), _, upd_same, ?_⟩
      · have h1 := racc5.length
        have h2 := lenA i _ ex
        rw [List.length_append, List.length_map, List.length_take] at h1
        exact Nat.lt_of_le_of_lt (show acc5.length ≤ 1000 by omega) (small1000 (Nat.le_refl _))
      · rw [List.take_add_one, ey]
        simp only [Option.toList, List.map_append, List.map_cons, List.map_nil]
        rw [← List.append_assoc]
        exact ((racc5.mo lA).mut hD7 (Ty.D.imL_app (imA _) (imF _ _))).app (.cons (r7.mut hD7 (him _ _)) .nil)
    · obtain ⟨le5, gs5, leB5, sat5, acc5, hacc5, racc5⟩ := z
      rw [hlen1, List.take_length] at racc5
      refine ⟨le5, acc5, hacc5, ?_⟩
      rw [List.take_add_one, ex, List.flatMap_append]
      simpa using racc5
  · have e : i = xs.length := by omega
    subst e
    rw [List.take_length] at racc
    exact .inl ⟨hlen ▸ w.stops H2 gs1, fin H2 ⟨le1, acc, hacc, racc⟩⟩
end
end Ty
namespace Ty
open PySem PySem.Spec PyProof.Rows L2
variable [Cf]
/-! ### data compared -/
mutual
theorem D.lay : ∀ {d : Ty.D}, d.pl = true → d.py.canLay0 = true
  | .int _, _ => by simp [D.py, PyData.canLay0]
  | .str _, h => by simpa [D.py, PyData.canLay0, D.pl] using h
  | .tup l, h => by simp only [D.py, PyData.canLay0]; exact D.layL (by simpa [D.pl] using h)
  | .lst l, h => by simp only [D.py, PyData.canLay0]; exact D.layL (by simpa [D.pl] using h)
  | .xt _, h => by simp [D.pl] at h
  | .non, h => by simp [D.pl] at h
  | .bl _, h => by simp [D.pl] at h
  | .adr _, h => by simp [D.pl] at h
  | .lam _ _ _, h => by simp [D.pl] at h
  | .ty _, h => by simp [D.pl] at h
  | .ins _ _ _, h => by simp [D.pl] at h
  | .dic _ _, h => by simp [D.pl] at h
theorem D.layL : ∀ {l : List Ty.D}, D.plL l = true → PyData.canLayAll0 (D.pyL l) = true
  | [], _ => by simp [D.pyL, PyData.canLayAll0]
  | d :: l, h => by
    simp only [D.plL, Bool.and_eq_true] at h
    simp only [D.pyL, PyData.canLayAll0, Bool.and_eq_true]
    exact ⟨D.lay h.1, D.layL h.2⟩
end
mutual
theorem D.plain : ∀ {d : Ty.D}, d.pl = true → d.py.plain = true
  | .int _, _ => by simp [D.py, PyData.plain]
  | .str _, _ => by simp [D.py, PyData.plain]
  | .tup l, h => by simp only [D.py, PyData.plain]; exact D.plainL (by simpa [D.pl] using h)
  | .lst l, h => by simp only [D.py, PyData.plain]; exact D.plainL (by simpa [D.pl] using h)
  | .xt _, h => by simp [D.pl] at h
  | .non, h => by simp [D.pl] at h
  | .bl _, h => by simp [D.pl] at h
  | .adr _, h => by simp [D.pl] at h
  | .lam _ _ _, h => by simp [D.pl] at h
  | .ty _, h => by simp [D.pl] at h
  | .ins _ _ _, h => by simp [D.pl] at h
  | .dic _ _, h => by simp [D.pl] at h
theorem D.plainL : ∀ {l : List Ty.D}, D.plL l = true → PyData.plainAll (D.pyL l) = true
  | [], _ => by simp [D.pyL, PyData.plainAll]
  | d :: l, h => by
    simp only [D.plL, Bool.and_eq_true] at h
    simp only [D.pyL, PyData.plainAll, Bool.and_eq_true]
    exact ⟨D.plain h.1, D.plainL h.2⟩
end
mutual
/-- how deep -/
def D.dp : Ty.D → Nat
  | .tup l => D.dpL l + 1
  | .lst l => D.dpL l + 1
  | _ => 0
def D.dpL : List Ty.D → Nat
  | [] => 0
  | d :: l => max d.dp (D.dpL l)
end
mutual
theorem D.depth : ∀ {d : Ty.D}, d.py.depth ≤ d.dp
  | .int _ => by simp [D.py, PyData.depth]
  | .str _ => by simp [D.py, PyData.depth]
  | .xt _ => by simp [D.py, PyData.depth]
  | .non => by simp [D.py, PyData.depth]
  | .bl _ => by simp [D.py, PyData.depth]
  | .adr _ => by simp [D.py, PyData.depth]
  | .lam _ _ _ => by simp [D.py, PyData.depth]
  | .ty _ => by simp [D.py, PyData.depth]
  | .ins _ _ _ => by simp [D.py, PyData.depth]
  | .dic _ _ => by simp [D.py, PyData.depth]
  | .tup l => by simp only [D.py, PyData.depth, D.dp]; exact Nat.succ_le_succ D.depthL
  | .lst l => by simp only [D.py, PyData.depth, D.dp]; exact Nat.succ_le_succ D.depthL
theorem D.depthL : ∀ {l : List Ty.D}, PyData.depthAll (D.pyL l) ≤ D.dpL l
  | [] => by simp [D.pyL, PyData.depthAll]
  | d :: l => by
    have h1 := D.depth (d := d)
    have h2 := D.depthL (l := l)
    simp only [D.pyL, PyData.depthAll, D.dpL]
    omega
end
theorem D.dpL_map {α : Type} (f : α → Ty.D) (n : Nat) (h : ∀ x, (f x).dp ≤ n) : ∀ l : List α, D.dpL (l.map f) ≤ n
  | [] => by simp [D.dpL]
  | x :: l => by
    have h1 := h x
    have h2 := D.dpL_map f n h l
    simp only [List.map_cons, D.dpL]
    omega
mutual
theorem D.eqv : ∀ {d e : Ty.D}, d.pl = true → e.pl = true → (PyData.eqv d.py e.py = true ↔ d = e)
  | .int i, .int j, _, _ => by simp [D.py, PyData.eqv]
  | .str i, .str j, _, _ => by simp [D.py, PyData.eqv]
  | .tup l, .tup m, h1, h2 => by
    simp only [D.py, PyData.eqv, Ty.D.tup.injEq]
    exact D.eqvL (by simpa [D.pl] using h1) (by simpa [D.pl] using h2)
  | .lst l, .lst m, h1, h2 => by
    simp only [D.py, PyData.eqv, Ty.D.lst.injEq]
    exact D.eqvL (by simpa [D.pl] using h1) (by simpa [D.pl] using h2)
  | .int i, .str j, _, _ => by simp [D.py, PyData.eqv]
  | .int i, .tup j, _, _ => by simp [D.py, PyData.eqv]
  | .int i, .lst j, _, _ => by simp [D.py, PyData.eqv]
  | .str i, .int j, _, _ => by simp [D.py, PyData.eqv]
  | .str i, .tup j, _, _ => by simp [D.py, PyData.eqv]
  | .str i, .lst j, _, _ => by simp [D.py, PyData.eqv]
  | .tup i, .int j, _, _ => by simp [D.py, PyData.eqv]
  | .tup i, .str j, _, _ => by simp [D.py, PyData.eqv]
  | .tup i, .lst j, _, _ => by simp [D.py, PyData.eqv]
  | .lst i, .int j, _, _ => by simp [D.py, PyData.eqv]
  | .lst i, .str j, _, _ => by simp [D.py, PyData.eqv]
  | .lst i, .tup j, _, _ => by simp [D.py, PyData.eqv]
  | .xt _, _, h, _ => by simp [D.pl] at h
  | .non, _, h, _ => by simp [D.pl] at h
  | .bl _, _, h, _ => by simp [D.pl] at h
  | .adr _, _, h, _ => by simp [D.pl] at h
  | .lam _ _ _, _, h, _ => by simp [D.pl] at h
  | .ty _, _, h, _ => by simp [D.pl] at h
  | .ins _ _ _, _, h, _ => by simp [D.pl] at h
  | .dic _ _, _, h, _ => by simp [D.pl] at h
  | _, .xt _, _, h => by simp [D.pl] at h
  | _, .non, _, h => by simp [D.pl] at h
  | _, .bl _, _, h => by simp [D.pl] at h
  | _, .adr _, _, h => by simp [D.pl] at h
  | _, .lam _ _ _, _, h => by simp [D.pl] at h
  | _, .ty _, _, h => by simp [D.pl] at h
  | _, .ins _ _ _, _, h => by simp [D.pl] at h
  | _, .dic _ _, _, h => by simp [D.pl] at h
theorem D.eqvL : ∀ {l m : List Ty.D}, D.plL l = true → D.plL m = true → (PyData.eqvAll (D.pyL l) (D.pyL m) = true ↔ l = m)
  | [], [], _, _ => by simp [D.pyL, PyData.eqvAll]
  | [], _ :: _, _, _ => by simp [D.pyL, PyData.eqvAll]
  | _ :: _, [], _, _ => by simp [D.pyL, PyData.eqvAll]
  | d :: l, e :: m, h1, h2 => by
    simp only [D.plL, Bool.and_eq_true] at h1 h2
    simp only [D.pyL, PyData.eqvAll, Bool.and_eq_true, List.cons.injEq]
    rw [D.eqv h1.1 h2.1, D.eqvL h1.2 h2.2]
end
theorem D.shaped {d : Ty.D} (h : d.pl = true) (hd : d.dp ≤ 64) : SeqAt.shaped d.py = true := by
  show (d.py.canLay0 && decide (d.py.depth ≤ 64)) = true
  rw [Bool.and_eq_true]
  exact ⟨D.lay h, decide_eq_true (Nat.le_trans D.depth hd)⟩
section
variable {X : Cx}
/-- x in t, x not in t -/
def rInT (K : PySem.W.Frag) (neg : Bool) : R2 := fun x y H Q => ∃ d ds, Dp K H x d ∧ Dp K H y (.tuple ds) ∧ SeqAt.shaped d = true ∧ SeqAt.shaped (.tuple ds) = true ∧ Q (.bl (neg ^^ ds.any fun z => PyData.eqv z d)) H
theorem room_inT {A : Around} {d : PyData} {ds : List PyData} (sd : SeqAt.shaped d = true) (hu : A.units + 65 < cLine) : A.units + 1 + min (PyData.depthAll ds) d.depth < cLine := by
  have h : (d.canLay0 && decide (d.depth ≤ 64)) = true := sd
  rw [Bool.and_eq_true, decide_eq_true_eq] at h
  omega
theorem canLayT {ds : List PyData} (h : SeqAt.shaped (.tuple ds) = true) : PyData.canLayAll0 ds = true := by
  have := SeqAt.canLay_of_shaped h
  simpa [PyData.canLay0] using this
theorem op_inT (hu : X.A.units + 65 < cLine) : OpR X (compareOp .In) (rInT X.K false) := by
  intro pins s σ H x y v u Q I rx ry h
  obtain ⟨d, ds, hd, he, sd, se, q⟩ := h
  obtain ⟨as, r1⟩ := Dp.reads I d x v hd rx
  obtain ⟨bs, r2⟩ := Dp.reads I (.tuple ds) y u he ry
  exact SeqAt.in_tuple_reads r2 r1 (canLayT se) (SeqAt.canLay_of_shaped sd) (room_inT sd hu) ⟨.bl _, H, I, rfl, by simpa using q⟩
theorem op_notInT (hu : X.A.units + 65 < cLine) : OpR X (compareOp .NotIn) (rInT X.K true) := by
  intro pins s σ H x y v u Q I rx ry h
  obtain ⟨d, ds, hd, he, sd, se, q⟩ := h
  obtain ⟨as, r1⟩ := Dp.reads I d x v hd rx
  obtain ⟨bs, r2⟩ := Dp.reads I (.tuple ds) y u he ry
  exact SeqAt.notIn_tuple_reads r2 r1 (canLayT se) (SeqAt.canLay_of_shaped sd) (room_inT sd hu) ⟨.bl _, H, I, rfl, by simpa using q⟩
/-- a < b -/
def rLtD (K : PySem.W.Frag) : R2 := fun x y H Q => ∃ d e, Dp K H x d ∧ Dp K H y e ∧ PySem.W.alike d e = true ∧ d ≠ .none ∧ d.depth ≤ 64 ∧ Q (.bl (PySem.W.dataLt d e)) H
theorem op_ltD (hu : X.A.units + 64 < cLine) : OpR X (compareOp .Lt) (rLtD X.K) := by
  intro pins s σ H x y v u Q I rx ry h
  obtain ⟨d, e, hd, he, al, nn, dd, q⟩ := h
  obtain ⟨as, r1⟩ := Dp.reads I d x v hd rx
  obtain ⟨bs, r2⟩ := Dp.reads I e y u he ry
  exact PySem.W.lt_data r1 r2 al nn (by omega) ⟨.bl _, H, I, rfl, q⟩
/-- t.count(x) -/
def rCountT (K : PySem.W.Frag) : V → List V → Hp → VK → Prop := fun x xs H Q => ∃ (y : V) (d : PyData) (ds : List PyData), xs = [y] ∧ Dp K H x (.tuple ds) ∧ Dp K H y d ∧ d.plain = true ∧ PyData.plainAll ds = true ∧ d.depth ≤ 64 ∧ Q (.int ((ds.countP fun z => PyData.eqv z d : Nat) : Int)) H
theorem mt_countT (hu : X.A.units + 66 < cLine) : MtR X "tuple.count" (rCountT X.K) := by
  intro pins s σ H x xs v us Q I rx rxs h
  obtain ⟨y, d, ds, rfl, hx, hy, pd, pds, dd, q⟩ := h
  cases rxs with
  | cons ry rt =>
    rename_i uy ut
    cases rt
    obtain ⟨bs, r1⟩ := Dp.reads I d y uy hy ry
    cases hx with
    | tup hs ha =>
      cases rx
      obtain ⟨its, rv, ht, hlen⟩ := I.tuple hs
      obtain ⟨as, h4⟩ := Dp.readsAll I ds _ its ha rv
      exact PySem.SeqAt.count_tuple_data (show s.heap.IsTuple _ its.toArray from ht) (by simpa using h4) r1 pds pd (by omega) ⟨.int _, H, I.tok _, ⟨_, rfl⟩, q⟩
end
section
variable {k : Nat} {X : Cx} {M : Option TpA} {mu : Bool} {Γ Γ' : List Sl} {a b c e o : Expr} {es : List Expr} {p pos pos' apos : Pos} {S : D → Prop} {ds : List D} {d : D} {α : Type} [DecidableEq α] {enc : α → D} {x y : α} {ys : List α}
theorem any_mem (hinj : ∀ x y, enc x = enc y → x = y) (hpl : ∀ x, (enc x).pl = true) : ∀ ys : List α, ((D.pyL (ys.map enc)).any fun z => PyData.eqv z (enc x).py) = decide (x ∈ ys)
  | [] => by simp [D.pyL]
  | y :: ys => by
    simp only [List.map_cons, D.pyL, List.any_cons, any_mem hinj hpl ys]
    have h := D.eqv (hpl y) (hpl x)
    by_cases e : y = x
    · rw [h.mpr (by rw [e]), Bool.true_or]
      simp [e]
    · have : PyData.eqv (enc y).py (enc x).py = false := by
        cases q : PyData.eqv (enc y).py (enc x).py with
        | false => rfl
        | true => exact absurd (hinj _ _ (h.mp q)) e
      rw [this, Bool.false_or]
      exact decide_eq_decide.mpr ⟨fun h => List.mem_cons_of_mem _ h, fun h => (List.mem_cons.mp h).elim (fun z => absurd z.symm e) id⟩
theorem op2_in {neg : Bool} (hinj : ∀ x y, enc x = enc y → x = y) (hpl : ∀ x, (enc x).pl = true) (hdp : ∀ x, (enc x).dp ≤ 8) : Op2 M (rInT Cf.K neg) (fun z => z = enc x) (fun z => z = .tup (ys.map enc)) (fun z => z = .bl (neg ^^ decide (x ∈ ys))) := fun d1 d2 e1 e2 H u v iv r1 r2 Q q => by
  subst e1 e2
  have p2 : (Ty.D.tup (ys.map enc)).pl = true := by simp only [D.pl]; exact D.plL_map _ hpl ys
  have q2 := Rp.dp p2 r2
  have h1 := hdp x
  have h2 := D.dpL_map enc 8 hdp ys
  refine ⟨_, _, Rp.dp (hpl x) r1, q2, D.shaped (hpl x) (by omega), D.shaped p2 (by simp only [D.dp]; omega), ?_⟩
  rw [any_mem hinj hpl]
  exact q _ _ _ (.refl iv) rfl (.bl _)
theorem Room.u65 {j : Nat} {A : Around} (hr : Room j A) : A.units + 66 < cLine := by have := hr.un; omega
theorem E.inT (hinj : ∀ x y, enc x = enc y → x = y) (hpl : ∀ x, (enc x).pl = true) (hdp : ∀ x, (enc x).dp ≤ 8) (ha : E1 k X M Γ a (enc x)) (hb : E1 k X M Γ b (.tup (ys.map enc))) (hm : behindInMarks .In b = false := by rfl) : E1 k X M Γ (.Compare a [.In] [b] pos) (.bl (decide (x ∈ ys))) :=
  .to (.cmp (r := rInT Cf.K false) hm (fun xk hr => by rw [← xk.K]; exact op_inT (by have := Room.u65 hr; omega)) ha hb (op2_in hinj hpl hdp)) (by rw [Bool.false_xor])
theorem T.notInT (hinj : ∀ x y, enc x = enc y → x = y) (hpl : ∀ x, (enc x).pl = true) (hdp : ∀ x, (enc x).dp ≤ 8) (ha : E1 k X M Γ a (enc x)) (hb : E1 k X M Γ b (.tup (ys.map enc))) (hm : behindInMarks .NotIn b = false := by rfl) : T1 k X M Γ (.Compare a [.NotIn] [b] pos) (!decide (x ∈ ys)) :=
  .to (.ofCmp (r := rInT Cf.K true) hm (fun xk hr => by rw [← xk.K]; exact op_notInT (by have := Room.u65 hr; omega)) ha hb (op2_in hinj hpl hdp)) (by rw [Bool.true_xor])
theorem T.notInL (hinj : ∀ x y, enc x = enc y → x = y) (hpl : ∀ x, (enc x).pl = true) (hdp : ∀ x, (enc x).dp ≤ 8) (ha : E1 k X M Γ a (enc x)) (hb : E1 k X M Γ b (.lst (ys.map enc))) (hm : behindInMarks .NotIn b = false := by rfl) : T1 k X M Γ (.Compare a [.NotIn] [b] pos) (!decide (x ∈ ys)) :=
  .ofCmp (r := rNotInD Cf.K) hm (fun xk hr => by rw [← xk.K]; exact op_notInD (by have := Room.u65 hr; omega)) ha hb fun d1 d2 e1 e2 H u v iv r1 r2 Q q => by
    subst e1 e2
    have p2 : (Ty.D.lst (ys.map enc)).pl = true := by simp only [D.pl]; exact D.plL_map _ hpl ys
    have q2 := Rp.dp p2 r2
    have h1 := hdp x
    have h2 := D.dpL_map enc 8 hdp ys
    refine ⟨_, _, Rp.dp (hpl x) r1, q2, D.shaped (hpl x) (by omega), D.shaped p2 (by simp only [D.dp]; omega), ?_⟩
    rw [any_mem hinj hpl]
    exact q _ _ _ (.refl iv) rfl (.bl _)
theorem eqv_dec (hinj : ∀ x y, enc x = enc y → x = y) (hpl : ∀ x, (enc x).pl = true) : PyData.eqv (enc x).py (enc y).py = decide (x = y) := by
  have h := D.eqv (hpl x) (hpl y)
  by_cases e : x = y
  · rw [h.mpr (by rw [e])]; simp [e]
  · cases q : PyData.eqv (enc x).py (enc y).py with
    | false => simp [e]
    | true => exact absurd (hinj _ _ (h.mp q)) e
theorem T.neD (hinj : ∀ x y, enc x = enc y → x = y) (hpl : ∀ x, (enc x).pl = true) (hdp : ∀ x, (enc x).dp ≤ 8) (ha : E1 k X M Γ a (enc x)) (hb : E1 k X M Γ b (enc y)) : T1 k X M Γ (.Compare a [.NotEq] [b] pos) (!decide (x = y)) :=
  .ofCmp (r := rNeD Cf.K) (nomark _) (fun xk hr => by rw [← xk.K]; exact op_neD hr.units) ha hb fun d1 d2 e1 e2 H u v iv r1 r2 Q q => by
    subst e1 e2
    have h1 := hdp x
    have h2 := hdp y
    refine ⟨_, _, Rp.dp (hpl x) r1, Rp.dp (hpl y) r2, D.shaped (hpl x) (by omega), D.shaped (hpl y) (by omega), ?_⟩
    rw [eqv_dec hinj hpl]
    exact q _ _ _ (.refl iv) rfl (.bl _)
/-- a < b of data -/
theorem ltD_op {d1 d2 : Ty.D} (h1 : d1.pl = true) (h2 : d2.pl = true) (hd : d1.dp ≤ 8) (al : PySem.W.alike d1.py d2.py = true) (nn : d1.py ≠ .none) : Op2 M (rLtD Cf.K) (fun z => z = d1) (fun z => z = d2) (fun z => z = .bl (PySem.W.dataLt d1.py d2.py)) := fun e1 e2 z1 z2 H u v iv r1 r2 Q q => by
  subst z1 z2
  exact ⟨_, _, Rp.dp h1 r1, Rp.dp h2 r2, al, nn, Nat.le_trans D.depth (by omega), q _ _ _ (.refl iv) rfl (.bl _)⟩
theorem E.ltD {d1 d2 : Ty.D} (h1 : d1.pl = true) (h2 : d2.pl = true) (hd : d1.dp ≤ 8) (al : PySem.W.alike d1.py d2.py = true) (nn : d1.py ≠ .none) (ha : E1 k X M Γ a d1) (hb : E1 k X M Γ b d2) : E1 k X M Γ (.Compare a [.Lt] [b] pos) (.bl (PySem.W.dataLt d1.py d2.py)) :=
  .cmp (nomark _) (fun xk hr => by rw [← xk.K]; exact op_ltD hr.units) ha hb (ltD_op h1 h2 hd al nn)
theorem T.ltD {d1 d2 : Ty.D} (h1 : d1.pl = true) (h2 : d2.pl = true) (hd : d1.dp ≤ 8) (al : PySem.W.alike d1.py d2.py = true) (nn : d1.py ≠ .none) (ha : E1 k X M Γ a d1) (hb : E1 k X M Γ b d2) : T1 k X M Γ (.Compare a [.Lt] [b] pos) (PySem.W.dataLt d1.py d2.py) :=
  .ofCmp (nomark _) (fun xk hr => by rw [← xk.K]; exact op_ltD hr.units) ha hb (ltD_op h1 h2 hd al nn)
end
end Ty
namespace Ty
open PySem PySem.Spec PyProof.Rows L2
variable [Cf]
/-! ### sorted -/
section
variable {X : Cx} {α : Type}
open PySem.W in
def rSortE (K : PySem.W.Frag) (enc : α → PyData) : List V → Hp → VK → Prop := fun xs H Q => ∃ (a : Addr) (vs : List V) (ys : List α), xs = [V.ref a] ∧ H a = some (.lst vs) ∧ vs.length = ys.length ∧ (∀ q ∈ vs.zip ys, Dp K H q.1 (enc q.2)) ∧
  AllAlike (ys.map enc) ∧ Sortable (ys.map enc) ∧ (∀ y ∈ ys, (enc y).depth ≤ 64) ∧ vs.length ≤ 1000 ∧ ∀ p, H p = none → Q (.ref p) (upd H p (.lst (((vs.zip ys).mergeSort (dataLe false fun q => enc q.2)).map (·.1))))
open PySem.W in
theorem vals_each : ∀ {vs : List V} {its : List Value} {ys : List α}, Vals vs its → vs.length = ys.length → EachIs (fun (v : Value) (b : V × α) => RelV b.1 v) its (vs.zip ys)
  | [], _, _, h, _ => by cases h; exact .nil
  | v :: vs, _, [], h, hl => by cases hl
  | v :: vs, _, y :: ys, h, hl => by
    cases h with
    | cons r rr => exact .cons r (vals_each rr (by simpa using hl))
open PySem.W in
theorem each_vals : ∀ {out : List Value} {bs : List (V × α)}, EachIs (fun (v : Value) (b : V × α) => RelV b.1 v) out bs → Vals (bs.map (·.1)) out
  | _, _, .nil => .nil
  | _, _, .cons r rr => .cons r (each_vals rr)
open PySem.W in
theorem call_sortE (enc : α → PyData) (hu : X.A.units + 66 < cLine) : CallR X (.builtin "sorted") (rSortE X.K enc) := by
  intro pins s σ H xs us Q I r h
  obtain ⟨a, vs, ys, rfl, hl, hlen, hdp, hal, hso, hdep, hL, q⟩ := h
  cases r with
  | cons r rr =>
    cases rr
    cases r
    obtain ⟨its, n, rv, ho, hz⟩ := I.lst hl
    have e1 := vals_each (α := α) rv hlen
    have er : EachIs (fun (v : Value) (b : V × α) => ∃ as, Reads s.heap v (enc b.2) as) its (vs.zip ys) := by
      have : ∀ {vs : List V} {its : List Value} {ys : List α}, Vals vs its → vs.length = ys.length → (∀ q ∈ vs.zip ys, Dp X.K H q.1 (enc q.2)) → EachIs (fun (v : Value) (b : V × α) => ∃ as, Reads s.heap v (enc b.2) as) its (vs.zip ys) := by
        intro vs
        induction vs with
        | nil => intro its ys h _ _; cases h; exact .nil
        | cons v vs ih => intro its ys h hl hd; cases ys with
          | nil => cases hl
          | cons y ys =>
            cases h with
            | cons r rr => exact .cons (Dp.reads I _ _ _ (hd (v, y) List.mem_cons_self) r) (ih rr (by simpa using hl) fun q hq => hd q (List.mem_cons_of_mem _ hq))
      exact this rv hlen hdp
    have hmap : (vs.zip ys).map (fun q => enc q.2) = ys.map enc := by
      have : (vs.zip ys).map (fun q => enc q.2) = ((vs.zip ys).map Prod.snd).map enc := by rw [List.map_map]; rfl
      rw [this, List.map_snd_zip (by omega)]
    have zl : (vs.zip ys).length = vs.length := by rw [List.length_zip]; omega
    refine sorted_data (R := fun (v : Value) (b : V × α) => RelV b.1 v) (enc := fun b : V × α => enc b.2) (s := s) (show s.heap.IsList a its.toArray from ⟨_, ho, rfl, n, rfl⟩) e1 er (by rw [hmap]; exact hal) (by rw [hmap]; exact hso) (by rw [zl]; exact sz1000 hL)
      (fun b hb => by have := hdep b.2 (List.of_mem_zip hb).2; omega) fun out hol hout => ?_
    obtain ⟨e, he⟩ := sortedAll_at s.heap its out.toArray
    refine ⟨.ref (s.heap.objs.size + 1), _, I.laid (a := s.heap.objs.size + 1) (t' := s.toks) (o := .lst (((vs.zip ys).mergeSort (dataLe false fun q => enc q.2)).map (·.1))) (fun b u e => sortedAll_old e) (Nat.le_succ _) ?_, rfl, q _ (I.hok.fresh (Nat.le_succ _))⟩
    refine ⟨?_, out, e, each_vals hout, he⟩
    rw [List.length_map, (List.mergeSort_perm _ _).length_eq, zl]
    exact sz1000 hL
end
section
variable {k : Nat} {X : Cx} {M : Option TpA} {mu : Bool} {Γ Γ' : List Sl} {a b c e o : Expr} {es : List Expr} {p pos pos' apos : Pos} {S : D → Prop} {ds : List D} {d : D} {α : Type} {enc : α → D} {ys : List α}
/-- the order by which sorted puts them -/
def leD (enc : α → D) : α → α → Bool := PySem.W.dataLe false fun y => (enc y).py
theorem RpL.pairs {H : Hp} : ∀ {vs : List V} {ys : List α}, RpL H vs (ys.map enc) → ∀ q ∈ vs.zip ys, Rp H q.1 (enc q.2)
  | [], _, _, q, hq => by simp at hq
  | v :: vs, [], h, q, hq => by simp at hq
  | v :: vs, y :: ys, h, q, hq => by
    cases h with
    | cons a b =>
      rcases List.mem_cons.mp hq with rfl | hq
      · exact a
      · exact b.pairs q hq
theorem RpL.of_pairs {H : Hp} : ∀ {l : List (V × α)}, (∀ q ∈ l, Rp H q.1 (enc q.2)) → RpL H (l.map (·.1)) ((l.map (·.2)).map enc)
  | [], _ => .nil
  | q :: l, h => .cons (h q List.mem_cons_self) (RpL.of_pairs fun q hq => h q (List.mem_cons_of_mem _ hq))
theorem E.sorted (hpl : ∀ x, (enc x).pl = true) (hdp : ∀ x, (enc x).dp ≤ 8) (hal : PySem.W.AllAlike (ys.map fun y => (enc y).py)) (hso : PySem.W.Sortable (ys.map fun y => (enc y).py)) (hl : ys.length ≤ 1000) (h : E1 k X M Γ a (.lst (ys.map enc))) (hg : Gl X "sorted" := by rfl) (hs : starEach [a] X.env = (false, eval a X.env) :: starEach [] X.env := by rfl) :
    E1 k X M Γ (.Call (.Name "sorted" p) [a] [] pos) (.lst ((ys.mergeSort (leD enc)).map enc)) :=
  .callB1 (r := rSortE Cf.K fun y => (enc y).py) (fun xk hr => by rw [← xk.K]; exact call_sortE _ (Room.u65 hr)) (by decide) boot_sorted h (fun H v iv r Q q => by
    obtain ⟨p, vs, rfl, sq, rl⟩ := rpL r
    have hlen : vs.length = ys.length := by rw [rl.length, List.length_map]
    refine ⟨p, vs, ys, rfl, sq, hlen, fun q hq => (rl.pairs q hq).dp (hpl _), hal, hso, fun y _ => Nat.le_trans D.depth (Nat.le_trans (hdp y) (by decide)), by omega, fun p hp => q _ _ _ (.new iv hp) rfl (.lst upd_same ?_)⟩
    have hm : (((vs.zip ys).mergeSort (PySem.W.dataLe false fun q => (enc q.2).py)).map (·.2)) = ys.mergeSort (leD enc) := by
      have h1 := List.map_mergeSort (r := PySem.W.dataLe false fun q : V × α => (enc q.2).py) (s := leD enc) (f := Prod.snd) (l := vs.zip ys) (fun a _ b _ => rfl)
      rw [List.map_snd_zip (by omega)] at h1
      exact h1
    rw [← hm]
    refine RpL.mo (.new iv hp) (RpL.of_pairs fun q hq => rl.pairs q ((List.mergeSort_perm _ _).mem_iff.mp hq))) hg hs
/-- tuple(a list), the new tuple's own dict told -/
def rTupX (K : PySem.W.Frag) : List V → Hp → VK → Prop := fun xs H Q => ∃ p ys, xs = [.ref p] ∧ SqL K H p ys ∧ ∀ l o, H l = none → o.dict = none → Q (.ref l) (upd H l (.frz o (.tup ys)))
theorem call_tupX {X : Cx} : CallR X (.type "tuple") (rTupX X.K) := by
  intro pins s σ H xs us Q I r h
  obtain ⟨p, ys, rfl, hq, q⟩ := h
  obtain ⟨u, rfl, rx⟩ := vals1 r
  cases rx
  obtain ⟨its, r', pl, hz⟩ := I.list hq
  have hlen := r'.length
  refine call_tuple_list pl.isList (fun h' kp => ?_) (by simp only [List.size_toArray] <;> omega)
  have I1 : Inv X pins σ H { s with heap := h' } := I.kept (t' := s.toks) kp
  have I2 : Inv X pins σ (upd H h'.objs.size (.frz { cls := .type "tuple", data := .seq its.toArray } (.tup ys))) { s with heap := h'.push { cls := .type "tuple", data := .seq its.toArray } } :=
    I1.laid (t' := s.toks) (fun b o e => Heap.get?_push_of_some _ e) (Nat.le_refl _) (show ObjOk X.prog X.w _ _ _ (.frz _ (.tup ys)) from ⟨Heap.get?_push_size _ rfl, hz, its, r', IsTup.new _ _⟩)
  exact ⟨.ref h'.objs.size, _, I2, rfl, q _ _ (I1.hok.fresh (Nat.le_refl _)) rfl⟩
theorem E.tupOfX (h : E1 k X M Γ a (.lst ds)) (hg : Gl X "tuple" := by rfl) (hs : starEach [a] X.env = (false, eval a X.env) :: starEach [] X.env := by rfl) : E1 k X M Γ (.Call (.Name "tuple" p) [a] [] pos) (.xt ds) :=
  .callTy1 (r := rTupX Cf.K) (fun xk _ => by rw [← xk.K]; exact call_tupX) (by decide) boot_tuple h (fun H v iv r Q q => by
    obtain ⟨p, ys, rfl, sq, rl⟩ := rpL r
    exact ⟨p, ys, rfl, .inl (.inl sq), fun l o hl ho => q _ _ _ (.new iv hl) rfl (.xt upd_same ho (rl.mo (.new iv hl)))⟩) hg hs
theorem E.weak (h : E1 k X M Γ e (.xt ds)) : E1 k X M Γ e (.tup ds) := fun xk hr H0 σ H le sat Q q => h xk hr H0 σ H le sat Q fun v H' d l s r => by
  subst s
  exact q _ _ _ l rfl r.xtT
/-- t.count(x) where t's own dict is told -/
def tCntX (K : PySem.W.Frag) (to : TE) (t : TA) : TE := fun σ H Q => to σ H fun x H1 => (∃ p o vs, x = .ref p ∧ H1 p = some (.frz o (.tup vs)) ∧ o.dict = none) ∧ t σ H1 fun xs H2 => rCountT K x xs H2 Q
theorem pe_cntX {X : Cx} {to : TE} {t : TA} {cpos : Pos} (hu : X.A.units + 66 < cLine) (ho : PE X o to) (ha : PA X [e] t)
    (hbase : attributeBase o "count" X.env (eval o X.env) = eval o X.env := by rfl)
    (hfew : ((backTo cpos (starEach [e] X.env)).all (fun x => !x.1) && (backToKw cpos (keywordEach [] X.env)).all (fun x => x.1.isSome)
      && decide ([e].length + ([] : List Keyword).length + (if ([] : List Keyword).isEmpty then 0 else 1) < 30)) = true := by rfl)
    (hline : (apos.endLine == cpos.line) = true := by rfl) (hs : starEach [e] X.env = (false, eval e X.env) :: starEach [] X.env := by rfl) :
    PE X (.Call (.Attribute o "count" apos) [e] [] cpos) (tCntX X.K to t) := by
  refine ⟨fun pins s σ H Q I h => ?_⟩
  refine wpAny_Call_method_late hbase hfew hline rfl (thn (ho.run pins s σ H _ I h) fun v s1 ⟨x, H1, I1, r1, ty, q1⟩ => ?_)
  obtain ⟨pp, ob, vs, rfl, hp, hd⟩ := ty
  cases r1
  obtain ⟨g1, _, its, _, o2, g2, g3, _⟩ := (show ObjOk X.prog X.w H1 s1.heap pp (.frz ob (.tup vs)) from I1.hok pp _ hp)
  rw [g1] at g2
  cases g2
  refine ⟨"tuple", "tuple.count", PySem.F.plainAttrs_tuple, PySem.F.slot_tuple_count, PySem.F.type_tuple_count, ⟨ob, g1, g3⟩, fun a e => by cases e; exact ⟨ob, g1, hd⟩, ?_⟩
  have hA := ha.run cpos pins s1 σ H1 _ I1 q1
  rw [hs] at hA ⊢
  refine Calls.callWith_builtin (by rfl) (Calls.evalArgs_plain ?_)
  exact thn hA fun us s2 ⟨vs, H2, I2, r2, q2⟩ => mt_countT hu pins s2 σ H2 (V.ref pp) vs _ us Q I2 rfl r2 q2
/-- t.count(x) -/
theorem E.countT [DecidableEq α] {x : α} (hinj : ∀ x y, enc x = enc y → x = y) (hpl : ∀ x, (enc x).pl = true) (hdp : ∀ x, (enc x).dp ≤ 8) (ha : E1 k X M Γ a (.xt (ys.map enc))) (hb : E1 k X M Γ b (enc x)) (hs : starEach [b] X.env = (false, eval b X.env) :: starEach [] X.env := by rfl)
    (hbase : attributeBase a "count" X.env (eval a X.env) = eval a X.env := by rfl)
    (hfew : ((backTo pos (starEach [b] X.env)).all (fun x => !x.1) && (backToKw pos (keywordEach [] X.env)).all (fun x => x.1.isSome)
      && decide ([b].length + ([] : List Keyword).length + (if ([] : List Keyword).isEmpty then 0 else 1) < 30)) = true := by rfl)
    (hline : (apos.endLine == pos.line) = true := by rfl) :
    E k X M Γ (.Call (.Attribute a "count" apos) [b] [] pos) (fun d => ∃ n : Nat, d = .int (n : Int) ∧ (n = 0 ↔ x ∉ ys)) := fun xk hr H0 σ H le sat Q q =>
  to_s (pe_cntX (Room.u65 hr) (pe_s (X := X) (e := a)) (pa_s (X := X) (es := [b])) hbase hfew hline hs) (ha xk hr H0 σ H le sat _ fun v H1 d1 l1 s1 r1 => by
    subst s1
    have r1' := r1
    cases r1 with
    | xt h1 h2 h3 =>
      refine ⟨⟨_, _, _, rfl, h1, h2⟩, args1 hb hs xk hr H0 σ H1 (le.trans l1) (sat.mo l1) _ fun vs H2 ds l2 s2 r2 => ?_⟩
      obtain ⟨_, rfl, rfl⟩ := s2
      obtain ⟨u, rfl, ru⟩ := rp1 r2
      rw [xk.K]
      refine ⟨u, _, D.pyL (ys.map enc), rfl, ?_, ru.dp (hpl x), D.plain (hpl x), D.plainL (D.plL_map _ hpl ys), Nat.le_trans D.depth (Nat.le_trans (hdp x) (by decide)), q _ _ _ (l1.trans l2) ⟨_, rfl, ?_⟩ (.int _)⟩
      · have := (r1'.mo l2).xtT.dp (d := .tup (ys.map enc)) (by simp only [D.pl]; exact D.plL_map _ hpl ys)
        simpa only [D.py] using this
      · rw [List.countP_eq_zero]
        have h := any_mem (x := x) hinj hpl ys
        constructor
        · intro hz hx
          have h1 : ((D.pyL (ys.map enc)).any fun z => PyData.eqv z (enc x).py) = true := by rw [h]; exact decide_eq_true hx
          obtain ⟨z, hz1, hz2⟩ := List.any_eq_true.mp h1
          exact hz z hz1 hz2
        · intro hx z hz1 hz2
          have h1 : ((D.pyL (ys.map enc)).any fun z => PyData.eqv z (enc x).py) = true := List.any_eq_true.mpr ⟨z, hz1, hz2⟩
          rw [h] at h1
          exact hx (of_decide_eq_true h1))
end
end Ty
namespace Ty
open PySem PySem.Spec PyProof.Rows L2
variable [Cf]
/-! ### len(o) by an own __len__ -/
open PySem.W Builtin in
theorem len_own {prog : Program} {w : World} {A : Around} {E : Value → Shared → Prop} {s : Shared} {K : Frag} {x C f : Addr} {ox : Obj} {od : Option Obj} {Q : Value → Shared → Prop} (KI : K.In s.heap) (I : InstAt s.heap x ox C od) (hs : findIn K (.ref C) "__len__" = some (some (.ref f))) (hf : isFn K (.ref f) = true)
    (h : wpAny (model prog w) A.in1 (call (.ref f) [.ref x]) (PySem.W.LenBack Q) E s) : wpAny (model prog w) A (call (.builtin "len") [.ref x]) Q E s := by
  refine Calls.call_function_entry kind_len plain_len entry_len (args_len1 _) ?_
  unfold Builtin.«len»
  refine wpAny_bind (m := oneArg "len" _) (wpAny_pure ?_)
  refine wpAny_bind (m := callSpecial? (.ref x) (Str.ofString "__len__")) (special_fn KI I hs (beq_iff_eq.mp hf) (wpAny_mono h (fun r s' hr => ?_) fun _ _ y => y))
  cases r <;> first | exact hr.elim | skip
  rename_i n u
  obtain ⟨⟨h0, h1⟩, hq⟩ := hr
  refine wpAny_bind (wpAny_holding (wpAny_pure ?_))
  refine wpAny_bind (wpAny_letGo ?_)
  refine wpAny_ite_false (decide_eq_false (by omega)) ?_
  refine wpAny_ite_false (decide_eq_false (by omega)) ?_
  exact wpAny_bind (wpAny_mkInt (wpAny_pure ⟨_, rfl, hq⟩))
def rLenO (K : PySem.W.Frag) (C : Addr) (sp : Sp) : List V → Hp → VK → Prop := fun xs H Q => ∃ a dx fs, xs = [V.ref a] ∧ H a = some (.ins C dx fs) ∧ sp [V.ref a] H (fun v H' => ∃ n : Int, v = .int n ∧ 0 ≤ n ∧ n < 2 ^ 63 ∧ Q (.int n) H') E0
theorem call_lenO {X : Cx} {k : Nat} {C f : Addr} {fd : FuncData} {ps : List Str} {sp : Sp} (hm : Meth X.K C "__len__" f) (F : FnOk X.prog X.w X.K X.mg X.base CX0 k f fd ps sp) (hr : Room (k + 1) X.A) (hb : Binds X.K fd ps []) : CallR X (.builtin "len") (rLenO X.K C sp) := by
  intro pins s σ H xs us Q I r h
  obtain ⟨a, dx, fs, rfl, ha, q⟩ := h
  cases r with
  | cons r rr =>
    cases rr
    cases r
    obtain ⟨mA, O, _⟩ := ins_get I.hok ha
    obtain ⟨od, J, _⟩ := O.look
    refine len_own I.kIn J hm.at_ hm.fn ?_
    have hl : ([Value.ref a] ++ []).length = ps.length := by
      have e := F.len _ _ _ _ q
      simpa using e
    refine wpAny_call (codeAny_mono (F.run X.A.in1 X.stack s H ⟨[Value.ref a], []⟩ ([Value.ref a] ++ []) [V.ref a] _ E0 hr.in1 I.env0.in1 (hb s [Value.ref a] I.kIn hl) (.cons rfl .nil) q) fun r s' hq => ?_)
    cases r with
    | error e => exact hq.elim
    | ok fl =>
      cases fl with
      | ret u =>
        obtain ⟨v, H', I3, rv, n, rfl, h0, h1, q3⟩ := I.after hq
        obtain ⟨t, rfl⟩ := rv
        exact ⟨⟨h0, h1⟩, .int n, H', I3.tok _, ⟨_, rfl⟩, q3⟩
      | next => exact False.elim hq
      | brk => exact False.elim hq
      | cont => exact False.elim hq
section
variable {k k' : Nat} {X : Cx} {M M' : Option TpA} {mu : Bool} {Γ Γ' : List Sl} {a b c e o : Expr} {es : List Expr} {p pos pos' apos : Pos} {S : D → Prop} {ds : List D} {d : D} {x m : Str} {C : Addr} {ps : List Str}
theorem E.lenOwn {nn : List Str} {l : List D} {n : Int} (ha : E1 k X M Γ a (.ins C nn l)) (hF : Mt C "__len__" ps k' none [.ins C nn l] (fun d => d = .int n)) (hn : 0 ≤ n ∧ n < 2 ^ 63) (hk : k' + 1 ≤ k := by decide) (hg : Gl X "len" := by rfl) (hs : starEach [a] X.env = (false, eval a X.env) :: starEach [] X.env := by rfl) :
    E1 k X M Γ (.Call (.Name "len" p) [a] [] pos) (.int n) := fun xk hr H0 σ H le sat Q q => by
  obtain ⟨f, hm, od, fd, lk, e1, kp, bd, F⟩ := hF
  have F' := F X.base xk.g
  rw [← xk.p, ← xk.w, ← xk.K, ← xk.m] at F'
  refine to_s (pe_callB (call_lenO (by rw [xk.K]; exact hm) F' (hr.mono hk) (by rw [xk.K]; exact bd)) hg (xk.no (by decide)) PySem.boot_len (pa_s (X := X) (es := [a])) (by decide) (by decide) hs rfl) (args1 ha hs xk hr H0 σ H le sat _ fun vs H1 ds l1 s r => ?_)
  obtain ⟨_, rfl, rfl⟩ := s
  obtain ⟨v, rfl, rv⟩ := rp1 r
  cases rv with
  | ins h1 h2 h3 =>
    refine ⟨_, _, _, rfl, h1, .cons (.ins h1 h2 h3) .nil, l1.i1.pure, fun v H' d l2 s2 r2 => ?_⟩
    subst s2
    cases r2
    exact ⟨n, rfl, hn.1, hn.2, q _ _ _ (l1.trans (l2.up l1.i1)) rfl (.int _)⟩
end
end Ty
namespace Ty
open PySem PySem.Spec PyProof.Rows L2
variable [Cf]
/-! ### dicts with text keys -/
section
variable {ns : List Str} {vs : List V} {m : Str} {v : V} {i : Nat}
theorem valV_at : ∀ {ns : List Str} {vs : List V} {i : Nat}, ns.Nodup → ns[i]? = some m → vs[i]? = some v → valV ((ns.map Sum.inr).zip vs : List (Key × V)) (.inr m) = some v
  | [], _, _, _, h, _ => by simp at h
  | _ :: _, [], _, _, _, h => by simp at h
  | n :: ns, u :: vs, 0, nd, h1, h2 => by
    simp at h1 h2
    subst h1 h2
    exact valV_pos rfl
  | n :: ns, u :: vs, i + 1, nd, h1, h2 => by
    have h1' : ns[i]? = some m := by simpa using h1
    have hne : n ≠ m := fun z => (List.nodup_cons.mp nd).1 (by rw [z]; exact List.mem_of_getElem? h1')
    rw [List.map_cons, List.zip_cons_cons, valV_neg (fun z => hne (by injection z))]
    exact valV_at (List.nodup_cons.mp nd).2 h1' (by simpa using h2)
theorem valV_in : ∀ {ns : List Str} {vs : List V}, ns.length = vs.length → (valV ((ns.map Sum.inr).zip vs : List (Key × V)) (.inr m)).isSome = decide (m ∈ ns)
  | [], _, _ => by simp [valV_nil]
  | n :: ns, [], h => by cases h
  | n :: ns, u :: vs, h => by
    rw [List.map_cons, List.zip_cons_cons]
    by_cases e : n = m
    · rw [valV_pos (by rw [e])]
      simp [e]
    · rw [valV_neg (fun z => e (by injection z)), valV_in (by simpa using h)]
      exact decide_eq_decide.mpr ⟨fun h => List.mem_cons_of_mem _ h, fun h => (List.mem_cons.mp h).elim (fun z => absurd z.symm e) id⟩
theorem putK_new : ∀ {kvs : List (Key × V)} {k : Key} {v : V}, (∀ q ∈ kvs, q.1 ≠ k) → putK kvs k v = kvs ++ [(k, v)] := fun {kvs k v} h => by
  unfold putK
  have : (kvs.any fun kv => decide (kv.1 = k)) = false := List.any_eq_false.mpr fun q hq => by simp [h q hq]
  rw [this]
  rfl
theorem putK_at : ∀ {ns : List Str} {vs : List V} {i : Nat}, ns.Nodup → ns.length = vs.length → ns[i]? = some m → putK ((ns.map Sum.inr).zip vs : List (Key × V)) (.inr m) v = (ns.map Sum.inr).zip (vs.set i v) := fun {ns vs i} nd hl h => by
  have hany : (((ns.map Sum.inr).zip vs : List (Key × V)).any fun kv => decide (kv.1 = Sum.inr m)) = true := by
    have hi : i < ns.length := (List.getElem?_eq_some_iff.mp h).1
    have := valV_any (Sum.inr m : Key) ((ns.map Sum.inr).zip vs : List (Key × V))
    rw [this, valV_at nd h (List.getElem?_eq_getElem (by omega))]
    rfl
  unfold putK
  rw [if_pos hany]
  have key : ∀ {ns : List Str} {vs : List V} {i : Nat}, ns.Nodup → ns.length = vs.length → ns[i]? = some m → ((ns.map Sum.inr).zip vs : List (Key × V)).map (fun kv => if kv.1 = Sum.inr m then (kv.1, v) else kv) = (ns.map Sum.inr).zip (vs.set i v) := by
    intro ns
    induction ns with
    | nil => intro vs i nd hl h; simp at h
    | cons n ns ih => intro vs i nd hl h; cases vs with
      | nil => cases hl
      | cons u vs =>
        cases i with
        | zero =>
          simp at h
          subst h
          rw [List.map_cons, List.zip_cons_cons, List.map_cons, List.set_cons_zero, List.zip_cons_cons, if_pos rfl]
          congr 1
          have hno : ∀ q ∈ ((ns.map Sum.inr).zip vs : List (Key × V)), q.1 ≠ Sum.inr n := fun q hq z => by
            have := (List.of_mem_zip hq).1
            rw [z] at this
            obtain ⟨n', hn', e⟩ := List.mem_map.mp this
            injection e with e
            exact (List.nodup_cons.mp nd).1 (e ▸ hn')
          have hid : ((ns.map Sum.inr).zip vs : List (Key × V)).map (fun kv => if kv.1 = Sum.inr n then (kv.1, v) else kv) = ((ns.map Sum.inr).zip vs : List (Key × V)).map id := List.map_congr_left fun q hq => if_neg (hno q hq)
          rw [hid, List.map_id]
        | succ i =>
          have h' : ns[i]? = some m := by simpa using h
          have hne : n ≠ m := fun z => (List.nodup_cons.mp nd).1 (by rw [z]; exact List.mem_of_getElem? h')
          rw [List.map_cons, List.zip_cons_cons, List.map_cons, List.set_cons_succ, List.zip_cons_cons, if_neg (fun z => hne (by injection z)), ih (List.nodup_cons.mp nd).2 (by simpa using hl) h']
  exact key nd hl h
theorem mergeK_nodup : ∀ {ns : List Str} {vs : List V} {kvs : List (Key × V)}, ns.Nodup → ns.length = vs.length → (∀ q ∈ kvs, ∀ n ∈ ns, q.1 ≠ .inr n) → mergeK kvs ((ns.map Sum.inr).zip vs) = kvs ++ (ns.map Sum.inr).zip vs
  | [], _, _, _, _, _ => by simp [mergeK]
  | n :: ns, [], _, _, h, _ => by cases h
  | n :: ns, v :: vs, kvs, nd, hl, hk => by
    rw [List.map_cons, List.zip_cons_cons]
    show mergeK (putK kvs (.inr n) v) ((ns.map Sum.inr).zip vs) = _
    rw [putK_new fun q hq => hk q hq n List.mem_cons_self, mergeK_nodup (List.nodup_cons.mp nd).2 (by simpa using hl) (fun q hq n' hn' => ?_)]
    · simp
    · rcases List.mem_append.mp hq with h | h
      · exact hk q h n' (List.mem_cons_of_mem _ hn')
      · rw [List.mem_singleton.mp h]
        exact fun z => (List.nodup_cons.mp nd).1 (by injection z with z; rw [z]; exact hn')
end
section
variable {k k' : Nat} {X : Cx} {M M' : Option TpA} {mu : Bool} {Γ Γ' : List Sl} {a b c e o : Expr} {es : List Expr} {st : Stmt} {sts rest : List Stmt} {p pos pos' apos tpos p1 p2 : Pos} {S S1 : D → Prop} {N N1 : List Sl → Prop} {ds : List D} {d : D} {x m : Str} {C : Addr} {ps : List Str} {nn : List Str} {l : List D} {SL : List D → Prop}
theorem Room.u1 {j : Nat} {A : Around} (hr : Room j A) : A.units + 1 < cLine := by have := hr.un; omega
theorem E.dget (ha : E1 k X M Γ a (.dic nn l)) (hb : E1 k X M Γ b (.str m)) (i : Nat) (hi : nn[i]? = some m) (hd : l[i]? = some d) (hq : nn.Nodup) (hsl : NoSl b := by intro _ _; rfl) : E1 k X M Γ (.Subscript a b pos) d := fun xk hr H0 σ H le sat Q q =>
  to_s (pe_dget (Room.u1 hr) (pe_s (X := X) (e := a)) (pe_s (X := X) (e := b)) hsl) (ha xk hr H0 σ H le sat _ fun v H1 d1 l1 s1 r1 => hb xk hr H0 σ H1 (le.trans l1) (sat.mo l1) _ fun u H2 d2 l2 s2 r2 => by
    subst s1 s2
    cases r1.mo l2 with
    | dic h1 h2 h3 h4 =>
      cases r2
      obtain ⟨w, hw, rw_⟩ := h4.get hd
      refine ⟨_, w, rfl, ?_, q _ _ _ (l1.trans l2) rfl rw_⟩
      rw [← valV_at hq hi hw]
      exact DGet.k (k := Sum.inr m) h1)
theorem T.inD (ha : E1 k X M Γ a (.str m)) (hb : E1 k X M Γ b (.dic nn l)) (hm : behindInMarks .In b = false := by first | exact nobehind _ (by decide) (by decide) | rfl) : T1 k X M Γ (.Compare a [.In] [b] pos) (decide (m ∈ nn)) := fun xk hr H0 σ H le sat Q q =>
  to_t (pt_cmp (pc_din (Room.u1 hr) (pe_s (X := X) (e := a)) (pe_s (X := X) (e := b))) hm) (ha xk hr H0 σ H le sat _ fun v H1 d1 l1 s1 r1 => hb xk hr H0 σ H1 (le.trans l1) (sat.mo l1) _ fun u H2 d2 l2 s2 r2 => by
    subst s1 s2
    cases r1
    cases r2 with
    | dic h1 h2 h3 h4 => exact ⟨_, _, rfl, DGet.k (k := Sum.inr m) h1, _, rfl, q _ _ (l1.trans l2) (valV_in h2)⟩)
/-- the pairs of a display -/
def Pp (k : Nat) (X : Cx) (M : Option TpA) (Γ : List Sl) (pos : Pos) (keys : List (Option Expr)) (values : List Expr) (nn : List Str) (SL : List D → Prop) : Prop :=
  ∃ trs, (XOk X → PPs X pos keys values trs) ∧ (XOk X → Room k X.A → ∀ H0 σ H, Le M H0 H → Sat Γ H0 σ H → ∀ Q : List (V × V) → Hp → Prop, (∀ vs H' ds, Le M H H' → SL ds → RpL H' vs ds → nn.length = vs.length → Q (((nn.map Sum.inr).zip vs).map fun kv : Key × V => (kV kv.1, kv.2)) H') → tPairs trs σ H Q)
theorem Pp.nil : Pp k X M Γ pos [] [] [] (fun ds => ds = []) := ⟨[], fun _ => pps_nil, fun xk hr H0 σ H le sat Q q => q [] H [] (.refl le.i1) rfl .nil rfl⟩
theorem Pp.cons {j : Nat} {kp : Pos} {ks : List (Option Expr)} {values : List Expr} (hv : E k X M Γ a S) (hr' : Pp k X M Γ pos ks values nn SL) : Pp k X M Γ pos (some (.Constant (.str m) j kp) :: ks) (a :: values) (m :: nn) (fun ds => ∃ d ds', ds = d :: ds' ∧ S d ∧ SL ds') := by
  obtain ⟨trs, h1, h2⟩ := hr'
  refine ⟨(tC (.str m), tS X a) :: trs, fun xk => pps_cons pe_str pe_s (h1 xk), fun xk hr H0 σ H le sat Q q => hv xk hr H0 σ H le sat _ fun v H1 d l1 s1 r1 => h2 xk hr H0 σ H1 (le.trans l1) (sat.mo l1) _ fun vs H2 ds l2 s2 r2 hl => ?_⟩
  exact q (v :: vs) H2 (d :: ds) (l1.trans l2) ⟨d, ds, rfl, s1, s2⟩ (.cons (r1.mo l2) r2) (by simp [hl])
theorem E.disp {keys : List (Option Expr)} {values : List Expr} (h : Pp k X M Γ pos keys values nn SL) (him : ∀ ds, SL ds → D.imL ds = true) (hS : ∀ ds, SL ds → S (.dic nn ds)) (hq : nn.Nodup) (hc : nn.head? ≠ some ("cells" : Str)) (h15n : nn.length ≤ 15)
    (hall : keys.all (·.isSome) = true := by rfl) (hl : keys.length = values.length := by rfl) (h0 : keys ≠ [] := by intro z; cases z) (h15 : keys.length ≤ 15 := by decide) : E k X M Γ (.Dict keys values pos) S := fun xk hr H0 σ H le sat Q q => by
  obtain ⟨trs, h1, h2⟩ := h
  refine to_s (pe_disp (h1 xk) hall hl h0 h15) fun p hp => ?_
  have ln := Le.new (o := .dK []) le.i1 hp
  refine h2 xk hr H0 σ _ (le.trans ln) (sat.mo ln) _ fun vs H' ds l2 s2 r2 hlen => ?_
  have hH' : H' p = some (.dK []) := by
    refine l2.e _ _ upd_same (fun _ z => nomatch z) fun m hm z => ?_
    obtain ⟨_, _, _, _, _, _, e1, _⟩ := l2.i0.t m hm
    rw [z, upd_same] at e1
    cases e1
  refine ⟨hH', (nn.map Sum.inr).zip vs, rfl, by rw [List.length_zip, List.length_map]; omega, ?_⟩
  rw [mergeK_nodup hq hlen (fun q hq => by simp at hq), List.nil_append]
  have lA : Le M H (upd H' p (.dK ((nn.map Sum.inr).zip vs))) := (ln.trans l2).mutD (.none hp) hH'
  exact q _ _ _ lA (hS ds s2) (.dic upd_same hlen hc (r2.mutD hH' (him ds s2)))
/-- x = dict(d), an own dict -/
theorem P1.setDict (i : Nat) (ha : E1 k X M Γ a (.dic nn l)) (hi : X.N[i]? = some x := by rfl) (hg : Gl X "dict" := by rfl) (hx : Loc X.env.scope x := by first | exact .inl rfl | exact .inr rfl) (hf : X.fn x = true ∨ X.env.scope.names.lookup x = some .local := by first | exact .inl rfl | exact .inr rfl)
    (hs : starEach [a] X.env = (false, eval a X.env) :: starEach [] X.env := by rfl) (hsw : swapsWith (.Call (.Name "dict" p) [a] [] apos) (some (.Name x pos')) pos.line X.env = pure false := by rfl) :
    P1 k X M mu Γ (.Assign [.Name x pos'] (.Call (.Name "dict" p) [a] [] apos) pos) (fun g => g = Γ.set i (.odic nn l)) S := fun xk hr F fr H0 σ H le hF sat Dn qn qr =>
  to_1 (ps_set xk.nd hi hx (pe_callTy call_dictD hg (xk.no (by decide)) boot_dict (pa_s (X := X) (es := [a])) (by decide) (by decide) hs rfl) hsw hf) (args1 ha hs xk hr H0 σ H le sat _ fun vs H1 ds l1 s r => by
    obtain ⟨_, rfl, rfl⟩ := s
    obtain ⟨v, rfl, rv⟩ := rp1 r
    cases rv with
    | dic h1 h2 h3 h4 =>
      refine ⟨_, _, rfl, .inl h1, fun p hp => ?_⟩
      exact qn _ _ _ (le.trans (l1.newT hp)) (fr.le _ _ _ (l1.newT hp) hF) rfl ((sat.mo (l1.newT hp)).set i (s := .odic nn l) ⟨p, _, rfl, (le.trans l1).nw (.none hp), upd_same, h2, h3, h4.mo (.new l1.i1 hp)⟩))
theorem E.varOD (i : Nat) (hΓ : Γ[i]? = some (.odic nn l) := by rfl) (hN : X.N[i]? = some x := by rfl) (hv : Vis X.env.scope x := by first | exact Or.inl rfl | exact Or.inr (Or.inl rfl) | exact Or.inr (Or.inr rfl)) (hd : (x == ("__debug__" : Str)) = false := by decide)
    (hcd : (x == ("__classdict__" : Str)) = false := by decide) : E1 k X M Γ (.Name x pos) (.dic nn l) := fun xk hr H0 σ H le sat Q q => by
  obtain ⟨p, vs, ev, h0, h1, h2, h3, h4⟩ := sat.at_ i _ hΓ
  exact to_s (pe_var hN hv hd hcd) ⟨_, ev, q _ H _ (.refl le.i1) rfl (.dic h1 h2 h3 h4)⟩
/-- d["m"] = e, d an own dict -/
theorem P1.dput (s : Nat) {j : Nat} {kp : Pos} (i : Nat) (hΓ : Γ[s]? = some (.odic nn l)) (hi : imBut Γ s = true) (hni : nn[i]? = some m) (hq : nn.Nodup) (hd : D.imL l = true ∧ d.im = true) (h15 : nn.length < 1000) (ha : E1 k X M Γ a d) (hm : mu = true)
    (hps : XOk X → Room k X.A → PS X (.Assign [.Subscript (.Name x p1) (.Constant (.str m) j kp) p2] a pos) (sDPut (tVar s) (tC (.str m)) (tS X a))) :
    P1 k X M mu Γ (.Assign [.Subscript (.Name x p1) (.Constant (.str m) j kp) p2] a pos) (fun g => g = Γ.set s (.odic nn (l.set i d))) S := fun xk hr F fr H0 σ H le hF sat Dn qn qr => by
  refine to_1 (hps xk hr) (ha xk hr H0 σ H le sat _ fun v H1 d1 l1 s1 r1 => ?_)
  subst s1
  obtain ⟨p, vs, ev, h0, h1, h2, h3, h4⟩ := (sat.mo l1).at_ s _ hΓ
  have hz : ((nn.map Sum.inr).zip vs : List (Key × V)).length < sizeLine := by
    rw [List.length_zip, List.length_map]
    exact Nat.lt_of_le_of_lt (show min nn.length vs.length ≤ 1000 by omega) (small1000 (Nat.le_refl _))
  refine ⟨_, ev, p, _, rfl, DPut.k (k := Sum.inr m) h1 hz, ?_⟩
  rw [putK_at hq h2 hni]
  exact qn _ _ _ ((le.trans l1).mutD h0 h1) (fr.md hm _ _ _ _ h1 (fr.le _ _ _ l1 hF)) rfl ((sat.mo l1).mutButD h1 hi ⟨p, _, ev, h0, upd_same, by rw [List.length_set]; exact h2, h3, (h4.mutD h1 hd.1).set _ (r1.mutD h1 hd.2)⟩)
end

/-! ### instances under construction -/
mutual
/-- no instance is in it -/
def D.ni : Ty.D → Bool
  | .ins _ _ _ => false
  | .tup l => D.niL l
  | .xt l => D.niL l
  | .lst l => D.niL l
  | .dic _ l => D.niL l
  | _ => true
def D.niL : List Ty.D → Bool
  | [] => true
  | d :: ds => d.ni && D.niL ds
end
theorem D.niL_map {α : Type} (f : α → D) (h : ∀ x, (f x).ni = true) : ∀ l : List α, D.niL (l.map f) = true
  | [] => by simp [D.niL]
  | x :: l => by simp [D.niL, h x, D.niL_map f h l]
mutual
theorem Rp.mutI {H : Hp} {l : Addr} {C dx : Addr} {fs : List (Str × V)} {o : HO} (hl : H l = some (.ins C dx fs)) : ∀ {d : Ty.D} {v : V}, d.ni = true → Rp H v d → Rp (upd H l o) v d
  | .non, _, _, h => by cases h; exact .non
  | .bl b, _, _, h => by cases h; exact .bl b
  | .int b, _, _, h => by cases h; exact .int b
  | .str b, _, _, h => by cases h; exact .str b
  | .adr b, _, _, h => by cases h; exact .adr b
  | .lam f c q, _, _, h => by
    cases h with
    | lam _ h1 => exact .lam _ (by rw [upd_ne (fun z => by rw [z, hl] at h1; unfold LamX.CodeO at h1; cases h1)]; exact h1)
  | .ty b, _, _, h => by cases h; exact .ty b
  | .tup ds, _, i, h => by
    cases h with
    | tup h1 h2 => exact .tup (sqT_mut h1 hl (fun _ z => nomatch z) fun _ _ z => nomatch z) (RpL.mutI hl (by simpa [D.ni] using i) h2)
  | .xt ds, _, i, h => by
    cases h with
    | xt h1 h2 h3 => exact .xt (by rw [upd_ne (fun z => by rw [z, hl] at h1; cases h1)]; exact h1) h2 (RpL.mutI hl (by simpa [D.ni] using i) h3)
  | .lst ds, _, i, h => by
    cases h with
    | lst h1 h2 => exact .lst (by rw [upd_ne (fun z => by rw [z, hl] at h1; cases h1)]; exact h1) (RpL.mutI hl (by simpa [D.ni] using i) h2)
  | .ins C ns ds, _, i, h => by simp [D.ni] at i
  | .dic ns ds, _, i, h => by
    cases h with
    | dic h1 h2 h3 h4 => exact .dic (by rw [upd_ne (fun z => by rw [z, hl] at h1; cases h1)]; exact h1) h2 h3 (RpL.mutI hl (by simpa [D.ni] using i) h4)
theorem RpL.mutI {H : Hp} {l : Addr} {C dx : Addr} {fs : List (Str × V)} {o : HO} (hl : H l = some (.ins C dx fs)) : ∀ {ds : List Ty.D} {vs : List V}, D.niL ds = true → RpL H vs ds → RpL (upd H l o) vs ds
  | [], _, _, h => by cases h; exact .nil
  | d :: ds, _, i, h => by
    simp only [D.niL, Bool.and_eq_true] at i
    cases h with
    | cons h1 h2 => exact .cons (Rp.mutI hl i.1 h1) (RpL.mutI hl i.2 h2)
end
def Sl.ni : Sl → Bool
  | .non => true
  | .val d => d.ni
  | _ => false
def niBut (Γ : List Sl) (s : Nat) : Bool := (Γ.set s .non).all Sl.ni
theorem Le.mutI {M : Option TpA} {H0 H : Hp} (a : Le M H0 H) {l C dx : Addr} {fs : List (Str × V)} {o : HO} (h0 : Nw H0 l) (h : H l = some (.ins C dx fs)) : Le M H0 (upd H l o) := by
  refine ⟨a.i0, fun b u e n m => by rw [upd_ne (h0.ne e n)]; exact a.e b u e n m, a.i1.at (fun ps z => by rw [h] at z; cases z) (fun ps z => by rw [h] at z; cases z) fun m hm => ?_⟩
  obtain ⟨_, _, _, _, _, _, e1, e2⟩ := a.i0.t m hm
  exact ⟨h0.ne e1 (fun _ z => nomatch z), h0.ne e2 (fun _ z => nomatch z)⟩
/-- a block with nothing around it -/
def B0 (k : Nat) (X : Cx) (M : Option TpA) (Γ : List Sl) (sts : List Stmt) (N : List Sl → Prop) (S : D → Prop) : Prop :=
  XOk X → Room k X.A → ∀ H0 σ H, Le M H0 H → Sat Γ H0 σ H → ∀ Dn : Ends, (∀ σ' H' Γ', Le M H0 H' → N Γ' → Sat Γ' H0 σ' H' → Dn.nx σ' H') → (∀ v H' d, Le M H0 H' → S d → Rp H' v d → Dn.rt v H') → tSS X sts Dn σ H
section
variable {k k' : Nat} {X : Cx} {M M' : Option TpA} {mu : Bool} {Γ Γ' : List Sl} {a b c e o : Expr} {es : List Expr} {st : Stmt} {sts rest : List Stmt} {p pos pos' apos tpos p1 p2 : Pos} {S S1 : D → Prop} {N N1 : List Sl → Prop} {ds : List D} {d : D} {x m : Str} {C : Addr} {ps : List Str} {nn : List Str} {l : List D} {SL : List D → Prop}
theorem B0.nil (h : N Γ) : B0 k X M Γ [] N S := fun xk hr H0 σ H le sat Dn qn qr => to_ss pss_nil (show tNext Dn σ H from qn σ H Γ le h sat)
theorem B0.cons (mu : Bool) (h1 : P1 k X M mu Γ st N1 S) (h2 : ∀ Γ', N1 Γ' → B0 k X M Γ' rest N S) : B0 k X M Γ (st :: rest) N S := fun xk hr H0 σ H le sat Dn qn qr =>
  to_ss (pss_cons (ps_s1 (X := X) (st := st)) (pss_s (X := X) (sts := rest))) (h1 xk hr (fun _ => True) fr_true H0 σ H le trivial sat { Dn with nx := tSS X rest Dn } (fun σ' H' Γ' l f n s => h2 Γ' n xk hr H0 σ' H' l s Dn qn qr) fun v H' d l _ s r => qr v H' d l s r)
theorem B0.cons1 (h1 : P1 k X M false Γ st (fun g => g = Γ') S) (h2 : B0 k X M Γ' rest N S) : B0 k X M Γ (st :: rest) N S := .cons false h1 fun g e => e ▸ h2
theorem putF_new : ∀ {ns : List Str} {vs : List V} {v : V}, ns.length = vs.length → m ∉ ns → putF m v (ns.zip vs) = (ns ++ [m]).zip (vs ++ [v])
  | [], [], _, _, _ => rfl
  | [], _ :: _, _, h, _ => by cases h
  | _ :: _, [], _, h, _ => by cases h
  | n :: ns, u :: vs, v, h, hm => by
    have h1 : n ≠ m := fun z => hm (by rw [z]; exact List.mem_cons_self)
    rw [List.zip_cons_cons, List.cons_append, List.cons_append, List.zip_cons_cons, ← putF_new (by simpa using h) fun z => hm (List.mem_cons_of_mem _ z)]
    simp only [putF, h1, if_false]
/-- self.f = e -/
theorem B0.fld (s : Nat) {xa : Addr} (hΓ : Γ[s]? = some (.obj xa C nn l)) (hi : niBut Γ s = true) (hd : D.niL l = true ∧ d.ni = true) (hf : m ∉ nn) (hl : nn.length < 1000) (oc : OwnC C) (hn : NoAttr Cf.K C m) (ha : E1 k X M Γ a d) (h2 : B0 k X M (Γ.set s (.obj xa C (nn ++ [m]) (l ++ [d]))) rest N S) (hN : X.N[s]? = some x := by rfl)
    (hv : Vis X.env.scope x := by first | exact Or.inl rfl | exact Or.inr (Or.inl rfl) | exact Or.inr (Or.inr rfl)) (hdb : (x == ("__debug__" : Str)) = false := by decide) (hcd : (x == ("__classdict__" : Str)) = false := by decide)
    (hs : swapsWith a (some (.Attribute (.Name x p1) m p2)) pos.line X.env = pure false := by rfl) : B0 k X M Γ (.Assign [.Attribute (.Name x p1) m p2] a pos :: rest) N S := fun xk hr H0 σ H le sat Dn qn qr => by
  refine to_ss (pss_cons (ps_fld (pe_var hN hv hdb hcd) (pe_s (X := X) (e := a)) hs) (pss_s (X := X) (sts := rest))) (ha xk hr H0 σ H le sat _ fun v H1 d1 l1 s1 r1 => ?_)
  subst s1
  obtain ⟨dx, vs, ev, h0, hp, hlen, rl⟩ := (sat.mo l1).at_ s _ hΓ
  rw [xk.K]
  refine ⟨_, ev, xa, C, dx, nn.zip vs, rfl, hp, oc.cl, hn, by rw [List.length_zip]; omega, ?_⟩
  rw [putF_new hlen hf]
  refine h2 xk hr H0 σ _ ((le.trans l1).mutI h0 hp) ⟨by rw [List.length_set]; exact (sat.mo l1).len, fun i u hu => ?_⟩ Dn qn qr
  by_cases e : s = i
  · subst e
    by_cases hs' : s < Γ.length
    · rw [List.getElem?_set_self hs'] at hu
      cases hu
      exact ⟨dx, _, ev, h0, upd_same, by simp [hlen], (rl.mutI hp hd.1).app (.cons (r1.mutI hp hd.2) .nil)⟩
    · rw [List.getElem?_eq_none (by rw [List.length_set]; omega)] at hu
      cases hu
  · rw [List.getElem?_set_ne e] at hu
    have hni : u.ni = true := by
      unfold niBut at hi
      rw [List.all_eq_true] at hi
      exact hi u (List.mem_of_getElem? (i := i) (by rw [List.getElem?_set_ne e]; exact hu))
    have q := (sat.mo l1).at_ i u hu
    cases u with
    | non => trivial
    | val d' => exact ⟨q.choose, q.choose_spec.1, q.choose_spec.2.mutI hp hni⟩
    | own _ => cases hni
    | obj _ _ _ _ => cases hni
    | odic _ _ => cases hni
    | mat _ => cases hni
/-! C(..) -/
def spI (C : Addr) (M : Option TpA) (ds : List D) (nn : List Str) (l : List D) : Sp := fun vs H Q _ => ∃ x dx ws, vs = V.ref x :: ws ∧ H x = some (.ins C dx []) ∧ RpL H ws ds ∧ Iv M H ∧
  ∀ H', Iv M H' → (∀ b o, b ≠ x → H b = some o → (∀ ps, o ≠ .tbl ps) → (∀ m, M = some m → m.t ≠ b) → H' b = some o) → Rp H' (.ref x) (.ins C nn l) → Q .non H'
def Ini (C : Addr) (ps : List Str) (k : Nat) (ds : List D) (nn : List Str) (l : List D) : Prop := ∃ f, Mk Cf.K C f ∧ At f ps k (spI C none ds nn l)
theorem Le.make {M : Option TpA} {H H2 : Hp} {x dx C : Addr} (i : Iv M H) (hx : H x = none) (hd : H dx = none) (i2 : Iv none H2) (h : ∀ b o, b ≠ x → upd (upd H dx (.own x)) x (.ins C dx []) b = some o → (∀ ps, o ≠ .tbl ps) → H2 b = some o) : Le M H H2 := by
  have key : ∀ b o, H b = some o → (∀ ps, o ≠ .tbl ps) → H2 b = some o := fun b o e n => h b o (ne_of_none e hx) (by rw [upd_ne (ne_of_none e hx), upd_ne (ne_of_none e hd)]; exact e) n
  exact ⟨i, fun b o e n _ => key b o e n, i2.g, i2.l, fun m hm => (i.t m hm).keep key⟩
theorem E.make (hF : Ini C ps k' ds nn l) (hm : Cf.mg x = some (.ref C)) (ha : A1 k X M Γ (e :: es) ds) (hk : k' + 1 ≤ k := by decide) (hg : Gl X x := by rfl) (hdb : (x == ("__debug__" : Str)) = false := by decide)
    (he : starEach (e :: es) X.env = (false, eval e X.env) :: starEach es X.env := by rfl) (hpl : (backTo pos (starEach es X.env)).any (·.1) = false := by rfl) : E1 k X M Γ (.Call (.Name x p) (e :: es) [] pos) (.ins C nn l) := fun xk hr H0 σ H le sat Q q => by
  obtain ⟨f, mk, od, fd, lk, e1, kp, bd, F⟩ := hF
  have F' := F X.base xk.g
  rw [← xk.p, ← xk.w, ← xk.K, ← xk.m] at F'
  refine to_s (pe_make (by rw [xk.K]; exact mk) F' (hr.mono hk) hg (by rw [xk.m]; exact hm) (by rw [xk.K]; exact bd) .nil pass0 (pa_s (X := X) (es := e :: es)) hdb he hpl) (ha xk hr H0 σ H le sat _ fun vs H1 ds' l1 s r => ?_)
  subst s
  intro y dy hy hdy ne
  rw [List.append_nil]
  have k2 : ∀ b o, H1 b = some o → (∀ ps, o ≠ .tbl ps) → upd (upd H1 dy (.own y)) y (.ins C dy []) b = some o := fun b o e n => by rw [upd_ne (ne_of_none e hy), upd_ne (ne_of_none e hdy)]; exact e
  have i2 : Iv M (upd (upd H1 dy (.own y)) y (.ins C dy [])) := (l1.i1.new hdy).new (by rw [upd_ne (Ne.symm ne)]; exact hy)
  refine ⟨y, dy, vs, rfl, upd_same, r.keep k2, i2.pure, fun H' iv' hk' rp => ⟨rfl, ?_⟩⟩
  have lM : Le M H1 H' := Le.make l1.i1 hy hdy iv' fun b o hb e n => hk' b o hb e n fun _ z => nomatch z
  exact q _ _ _ (l1.trans lM) rfl rp
/-- an __init__ by its body -/
theorem Ini.mk {qual : Str} {st : Stmt} {f c : Addr} {N ps : List Str} {k : Nat} (hm : Mk Cf.K C f) (F : DefAt "__init__" qual st f c) (Sc : FnScope N ps (defScope st))
    (hb : ∀ (kV doc pm : Value) (an : Option Addr) (cdv ct : Value) (us : List Value), us.length = ps.length → bindArgs (PySem.W.fnOf "__init__" qual (defArgs st) (defBody st) (defScope st) .none kV doc pm an cdv ct) ⟨us, []⟩ = pure (ps.zip us)) (hl : ds.length + 1 = ps.length)
    (body : ∀ (xa : Addr) base A outer s H E, B0 k (bodyX N qual (defScope st) f c base A outer s H E) none (.obj xa C [] [] :: (ent N.length (.non :: ds)).tail) (defBody st) (fun g => g[0]? = some (.obj xa C nn l)) (fun _ => False)) : Ini C ps (k + 1) ds nn l :=
  ⟨f, hm, .of F Sc hb (fun vs H Q E ⟨x, dx, ws, h1, h2, h3, _⟩ => by rw [h1, List.length_cons, h3.length, hl]) fun base g A outer s H vs Q E hr xk hsp => by
    obtain ⟨x, dx, ws, rfl, hx, r, iv, q⟩ := hsp
    let H0 : Hp := fun b => if b = x then none else H b
    have h0x : H0 x = none := if_pos rfl
    have h0 : ∀ b, b ≠ x → H0 b = H b := fun b hb => if_neg hb
    have nt : ∀ {b : Addr} {o : HO}, H b = some o → (∀ C dx fs, o ≠ .ins C dx fs) → b ≠ x := fun {b o} e n z => by rw [z, hx] at e; exact n _ _ _ (Option.some.inj e).symm
    have iv0 : Iv none H0 := by
      refine ⟨fun p hp => ?_, fun p hp => ?_, fun _ z => nomatch z⟩
      · obtain ⟨ps, e, t⟩ := iv.g p hp
        exact ⟨ps, by rw [h0 _ (nt e fun _ _ _ z => nomatch z)]; exact e, t⟩
      · obtain ⟨ps, e, t, qq⟩ := iv.l p hp
        refine ⟨ps, by rw [h0 _ (nt e fun _ _ _ z => nomatch z)]; exact e, t, fun pos cv hc => ?_⟩
        obtain ⟨c, e1, e2⟩ := qq pos cv hc
        exact ⟨c, e1, by rw [h0 _ (nt e2 fun _ _ _ z => by unfold LamX.CodeO at z; cases z)]; exact e2⟩
    have le : Le none H0 H := ⟨iv0, fun b o e _ _ => by
      by_cases hb : b = x
      · rw [hb, h0x] at e; cases e
      · rw [h0 b hb] at e; exact e, iv⟩
    have sat : Sat (.obj x C [] [] :: (ent N.length (.non :: ds)).tail) H0 (start N (V.ref x :: ws)) H := by
      have sat1 : Sat (ent N.length (.adr x :: ds)) H0 (start N (V.ref x :: ws)) H := by
        have := Sat.start (N := N) (RpL.cons (.adr x) r)
        refine ⟨this.len, fun i s hs => ?_⟩
        have q := this.at_ i s hs
        cases s with
        | non => trivial
        | val d => exact q
        | own _ =>
          unfold ent at hs
          have := List.mem_of_getElem? hs
          simp at this
        | obj _ _ _ _ =>
          unfold ent at hs
          have := List.mem_of_getElem? hs
          simp at this
        | odic _ _ =>
          unfold ent at hs
          have := List.mem_of_getElem? hs
          simp at this
        | mat _ =>
          unfold ent at hs
          have := List.mem_of_getElem? hs
          simp at this
      have e1 : ent N.length (.adr x :: ds) = .val (.adr x) :: (ent N.length (.non :: ds)).tail := by unfold ent; rfl
      rw [e1] at sat1
      refine ⟨by simpa using sat1.len, fun i s hs => ?_⟩
      cases i with
      | zero =>
        simp at hs
        subst hs
        exact ⟨dx, [], by simp [L2.start], .none h0x, hx, rfl, .nil⟩
      | succ i => exact sat1.at_ (i + 1) s (by simpa using hs)
    refine body x base A outer s H E xk hr H0 _ H le sat _ (fun σ' H' Γ' l1 n1 sat' => ?_) fun v H' d _ z _ => z.elim
    obtain ⟨dy, vs', ev, n0, hy, hlen', rl'⟩ := sat'.at_ 0 _ n1
    exact q H' l1.i1 (fun b o hb e n _ => l1.e b o (by rw [h0 b hb]; exact e) n fun _ z => nomatch z) (.ins hy hlen' rl')⟩
end
end Ty
namespace Ty
open PySem PySem.Spec PyProof.Rows L2
variable [Cf]
structure HasDef (x qual : Str) (st : Stmt) : Prop where
  ex : ∃ f c, Cf.mg x = some (.ref f) ∧ DefAt x qual st f c
structure HasGen (x qual : Str) (st : Stmt) : Prop where
  ex : ∃ f c P, Cf.mg x = some (.ref f) ∧ DefAt x qual st f c ∧ (c, P) ∈ Cf.gs
structure HasMt (C : Addr) (x qual : Str) (st : Stmt) : Prop where
  ex : ∃ f c, Meth Cf.K C x f ∧ DefAt x qual st f c
structure HasMtGen (C : Addr) (x qual : Str) (st : Stmt) : Prop where
  ex : ∃ f c P, Meth Cf.K C x f ∧ DefAt x qual st f c ∧ (c, P) ∈ Cf.gs
structure HasInit (C : Addr) (qual : Str) (st : Stmt) : Prop where
  ex : ∃ f c, Mk Cf.K C f ∧ DefAt "__init__" qual st f c
structure HasCls (x : Str) (C : Addr) (fs : List Str) : Prop where
  mg : Cf.mg x = some (.ref C)
  own : OwnC C
  no : ∀ f ∈ fs, NoAttr Cf.K C f
class Fx : Prop where
  longest : ∃ t, Cf.mg "LONGEST" = some (.int 12 t)
  k_TablePaper : HasCls "TablePaper" Cf.cT ["n", "f", "g"]
  k_SumsPaper : HasCls "SumsPaper" Cf.cS ["n", "word", "square", "words", "squares"]
  k_System : HasCls "System" Cf.cY ["n", "equations"]
  tt : PySem.W.kitOne Cf.K (.ref Cf.cT) (.ref Cf.cT) = some true
  ts : PySem.W.kitOne Cf.K (.ref Cf.cT) (.ref Cf.cS) = some false
  st : PySem.W.kitOne Cf.K (.ref Cf.cS) (.ref Cf.cT) = some false
  ss : PySem.W.kitOne Cf.K (.ref Cf.cS) (.ref Cf.cS) = some true
  f_is_integer : HasDef "is_integer" "is_integer" s_is_integer
  f_is_between : HasDef "is_between" "is_between" s_is_between
  f_is_bit : HasDef "is_bit" "is_bit" s_is_bit
  f_is_bits : HasGen "is_bits" "is_bits" s_is_bits
  f_is_some_word : HasDef "is_some_word" "is_some_word" s_is_some_word
  f_is_word : HasDef "is_word" "is_word" s_is_word
  f_bits_number : HasDef "bits_number" "bits_number" s_bits_number
  f_check_words : HasDef "check_words" "check_words" s_check_words
  f_sum_of : HasGen "sum_of" "sum_of" s_sum_of
  f_parity_of : HasGen "parity_of" "parity_of" s_parity_of
  f_added : HasDef "added" "added" s_added
  f_product_of : HasDef "product_of" "product_of" s_product_of
  f_number_of : HasDef "number_of" "number_of" s_number_of
  f_zero_word : HasDef "zero_word" "zero_word" s_zero_word
  f_is_matrix : HasGen "is_matrix" "is_matrix" s_is_matrix
  f_is_some_matrix : HasDef "is_some_matrix" "is_some_matrix" s_is_some_matrix
  f_square_from : HasGen "square_from" "square_from" s_square_from
  f_square_of : HasDef "square_of" "square_of" s_square_of
  f_check_squares : HasDef "check_squares" "check_squares" s_check_squares
  f_square_sum : HasGen "square_sum" "square_sum" s_square_sum
  f_square_parity : HasGen "square_parity" "square_parity" s_square_parity
  f_added_squares : HasDef "added_squares" "added_squares" s_added_squares
  f_square_product : HasDef "square_product" "square_product" s_square_product
  f_is_square : HasGen "is_square" "is_square" s_is_square
  f_rows_together : HasDef "rows_together" "rows_together" s_rows_together
  f__are_bits : HasGen "_are_bits" "_are_bits" s__are_bits
  f__first_fault : HasDef "_first_fault" "_first_fault" s__first_fault
  f_TablePaperd_initd : HasInit Cf.cT "TablePaper.__init__" s_TablePaperd_initd
  f_TablePaper_letter_f : HasMt Cf.cT "letter_f" "TablePaper.letter_f" s_TablePaper_letter_f
  f_TablePaper_letter_g : HasMt Cf.cT "letter_g" "TablePaper.letter_g" s_TablePaper_letter_g
  f_SumsPaper_letter_f : HasMt Cf.cS "letter_f" "SumsPaper.letter_f" s_SumsPaper_letter_f
  f_SumsPaper_letter_g : HasMt Cf.cS "letter_g" "SumsPaper.letter_g" s_SumsPaper_letter_g
  f_paper_of : HasDef "paper_of" "paper_of" s_paper_of
  f_check_paper : HasDef "check_paper" "check_paper" s_check_paper
  f_tape_length : HasDef "tape_length" "tape_length" s_tape_length
  f__square : HasDef "_square" "_square" s__square
  f__check_tape : HasDef "_check_tape" "_check_tape" s__check_tape
  f__places_and_bit : HasDef "_places_and_bit" "_places_and_bit" s__places_and_bit
  f__letter : HasDef "_letter" "_letter" s__letter
  f_passes : HasDef "passes" "passes" s_passes
  f_is_number_below : HasDef "is_number_below" "is_number_below" s_is_number_below
  f_ascends : HasGen "ascends" "ascends" s_ascends
  f_is_pair : HasDef "is_pair" "is_pair" s_is_pair
  f_is_equation : HasGen "is_equation" "is_equation" s_is_equation
  f_Systemd_initd : HasInit Cf.cY "System.__init__" s_Systemd_initd
  f_Systemd_lend : HasMt Cf.cY "__len__" "System.__len__" s_Systemd_lend
  f_System_drawn : HasMtGen Cf.cY "drawn" "System.drawn" s_System_drawn
  f__law_mixed : HasDef "_law_mixed" "_law_mixed" s__law_mixed
  f__law_tape : HasDef "_law_tape" "_law_tape" s__law_tape
  f__law_draw : HasDef "_law_draw" "_law_draw" s__law_draw
  f__law_pick : HasDef "_law_pick" "_law_pick" s__law_pick
  f__law_word : HasDef "_law_word" "_law_word" s__law_word
  f__law_left : HasDef "_law_left" "_law_left" s__law_left
  f__law_equation : HasDef "_law_equation" "_law_equation" s__law_equation
  f__law_equations : HasDef "_law_equations" "_law_equations" s__law_equations
  f__law_times_word : HasDef "_law_times_word" "_law_times_word" s__law_times_word
  f__law_square_of : HasDef "_law_square_of" "_law_square_of" s__law_square_of
  f__law_flat : HasDef "_law_flat" "_law_flat" s__law_flat
  f__law_rows : HasDef "_law_rows" "_law_rows" s__law_rows
  f__law_square : HasDef "_law_square" "_law_square" s__law_square
  f__law_near_square : HasDef "_law_near_square" "_law_near_square" s__law_near_square
  f__law_number : HasDef "_law_number" "_law_number" s__law_number
  f__law_letter : HasDef "_law_letter" "_law_letter" s__law_letter
  f__law_distinct : HasDef "_law_distinct" "_law_distinct" s__law_distinct
  f__law_sums_paper : HasDef "_law_sums_paper" "_law_sums_paper" s__law_sums_paper
  f__law_table_paper : HasDef "_law_table_paper" "_law_table_paper" s__law_table_paper
  f__law_made : HasDef "_law_made" "_law_made" s__law_made
  f__law_length : HasDef "_law_length" "_law_length" s__law_length
  f__law_both : HasDef "_law_both" "_law_both" s__law_both
  f__law_both_squares : HasDef "_law_both_squares" "_law_both_squares" s__law_both_squares
  f__law_drawn : HasDef "_law_drawn" "_law_drawn" s__law_drawn
  f__law_places : HasDef "_law_places" "_law_places" s__law_places
  f__law_passes : HasDef "_law_passes" "_law_passes" s__law_passes
  f__law_solved : HasDef "_law_solved" "_law_solved" s__law_solved
  f__law_solution_passes : HasDef "_law_solution_passes" "_law_solution_passes" s__law_solution_passes
  f__law_other_letter : HasDef "_law_other_letter" "_law_other_letter" s__law_other_letter
  f__law_same_verdict : HasDef "_law_same_verdict" "_law_same_verdict" s__law_same_verdict
  f__law_told : HasDef "_law_told" "_law_told" s__law_told
  f_law : HasDef "law" "law" s_law
section
variable {x qual : Str} {st : Stmt} {N ps : List Str} {k : Nat} {M : Option TpA} {ds : List D} {S : D → Prop} {C : Addr}
theorem HasDef.go (h : HasDef x qual st) (mu : Bool) (Sc : FnScope N ps (defScope st))
    (body : ∀ f c base A outer s H E, B k (bodyX N qual (defScope st) f c base A outer s H E) M mu (ent N.length ds) (defBody st) (fun _ => S .non) S)
    (hb : ∀ (kV doc pm : Value) (an : Option Addr) (cdv ct : Value) (us : List Value), us.length = ps.length → bindArgs (PySem.W.fnOf x qual (defArgs st) (defBody st) (defScope st) .none kV doc pm an cdv ct) ⟨us, []⟩ = pure (ps.zip us) := by first | exact fun _ _ _ _ _ _ us hl => (match us, hl with | [_], _ => rfl) | exact fun _ _ _ _ _ _ us hl => (match us, hl with | [_, _], _ => rfl) | exact fun _ _ _ _ _ _ us hl => (match us, hl with | [_, _, _], _ => rfl) | exact fun _ _ _ _ _ _ us hl => (match us, hl with | [_, _, _, _], _ => rfl) | exact fun _ _ _ _ _ _ us hl => (match us, hl with | [_, _, _, _, _], _ => rfl)) (hl : ds.length = ps.length := by rfl) : Fn x ps (k + 1) M ds S := by
  obtain ⟨f, c, hm, F⟩ := h.ex
  exact Fn.mk mu hm F Sc hb hl (body f c)
theorem HasGen.go (h : HasGen x qual st) (mu : Bool) (Sc : FnScope N ps (defScope st))
    (body : ∀ f c P, (c, P) ∈ Cf.gs → ∀ base A outer s H E, B k (bodyX N qual (defScope st) f c base A outer s H E) M mu (ent N.length ds) (defBody st) (fun _ => S .non) S)
    (hb : ∀ (kV doc pm : Value) (an : Option Addr) (cdv ct : Value) (us : List Value), us.length = ps.length → bindArgs (PySem.W.fnOf x qual (defArgs st) (defBody st) (defScope st) .none kV doc pm an cdv ct) ⟨us, []⟩ = pure (ps.zip us) := by first | exact fun _ _ _ _ _ _ us hl => (match us, hl with | [_], _ => rfl) | exact fun _ _ _ _ _ _ us hl => (match us, hl with | [_, _], _ => rfl) | exact fun _ _ _ _ _ _ us hl => (match us, hl with | [_, _, _], _ => rfl) | exact fun _ _ _ _ _ _ us hl => (match us, hl with | [_, _, _, _], _ => rfl) | exact fun _ _ _ _ _ _ us hl => (match us, hl with | [_, _, _, _, _], _ => rfl)) (hl : ds.length = ps.length := by rfl) : Fn x ps (k + 1) M ds S := by
  obtain ⟨f, c, P, hm, F, hP⟩ := h.ex
  exact Fn.mk mu hm F Sc hb hl (body f c P hP)
theorem HasMt.go (h : HasMt C x qual st) (mu : Bool) (Sc : FnScope N ps (defScope st))
    (body : ∀ f c base A outer s H E, B k (bodyX N qual (defScope st) f c base A outer s H E) M mu (ent N.length ds) (defBody st) (fun _ => S .non) S)
    (hb : ∀ (kV doc pm : Value) (an : Option Addr) (cdv ct : Value) (us : List Value), us.length = ps.length → bindArgs (PySem.W.fnOf x qual (defArgs st) (defBody st) (defScope st) .none kV doc pm an cdv ct) ⟨us, []⟩ = pure (ps.zip us) := by first | exact fun _ _ _ _ _ _ us hl => (match us, hl with | [_], _ => rfl) | exact fun _ _ _ _ _ _ us hl => (match us, hl with | [_, _], _ => rfl) | exact fun _ _ _ _ _ _ us hl => (match us, hl with | [_, _, _], _ => rfl) | exact fun _ _ _ _ _ _ us hl => (match us, hl with | [_, _, _, _], _ => rfl) | exact fun _ _ _ _ _ _ us hl => (match us, hl with | [_, _, _, _, _], _ => rfl)) (hl : ds.length = ps.length := by rfl) : Mt C x ps (k + 1) M ds S := by
  obtain ⟨f, c, hm, F⟩ := h.ex
  exact Mt.mk mu hm F Sc hb hl (body f c)
theorem HasMtGen.go (h : HasMtGen C x qual st) (mu : Bool) (Sc : FnScope N ps (defScope st))
    (body : ∀ f c P, (c, P) ∈ Cf.gs → ∀ base A outer s H E, B k (bodyX N qual (defScope st) f c base A outer s H E) M mu (ent N.length ds) (defBody st) (fun _ => S .non) S)
    (hb : ∀ (kV doc pm : Value) (an : Option Addr) (cdv ct : Value) (us : List Value), us.length = ps.length → bindArgs (PySem.W.fnOf x qual (defArgs st) (defBody st) (defScope st) .none kV doc pm an cdv ct) ⟨us, []⟩ = pure (ps.zip us) := by first | exact fun _ _ _ _ _ _ us hl => (match us, hl with | [_], _ => rfl) | exact fun _ _ _ _ _ _ us hl => (match us, hl with | [_, _], _ => rfl) | exact fun _ _ _ _ _ _ us hl => (match us, hl with | [_, _, _], _ => rfl) | exact fun _ _ _ _ _ _ us hl => (match us, hl with | [_, _, _, _], _ => rfl) | exact fun _ _ _ _ _ _ us hl => (match us, hl with | [_, _, _, _, _], _ => rfl)) (hl : ds.length = ps.length := by rfl) : Mt C x ps (k + 1) M ds S := by
  obtain ⟨f, c, P, hm, F, hP⟩ := h.ex
  exact Mt.mk mu hm F Sc hb hl (body f c P hP)
theorem HasInit.go {qual : Str} {st : Stmt} {N ps : List Str} {k : Nat} {ds : List D} {C : Addr} {nn : List Str} {l : List D} (h : HasInit C qual st) (Sc : FnScope N ps (defScope st))
    (body : ∀ f c (xa : Addr) base A outer s H E, B0 k (bodyX N qual (defScope st) f c base A outer s H E) none (.obj xa C [] [] :: (ent N.length (.non :: ds)).tail) (defBody st) (fun g => g[0]? = some (.obj xa C nn l)) (fun _ => False))
    (hb : ∀ (kV doc pm : Value) (an : Option Addr) (cdv ct : Value) (us : List Value), us.length = ps.length → bindArgs (PySem.W.fnOf "__init__" qual (defArgs st) (defBody st) (defScope st) .none kV doc pm an cdv ct) ⟨us, []⟩ = pure (ps.zip us) := by first | exact fun _ _ _ _ _ _ us hl => (match us, hl with | [_], _ => rfl) | exact fun _ _ _ _ _ _ us hl => (match us, hl with | [_, _], _ => rfl) | exact fun _ _ _ _ _ _ us hl => (match us, hl with | [_, _, _], _ => rfl) | exact fun _ _ _ _ _ _ us hl => (match us, hl with | [_, _, _, _], _ => rfl) | exact fun _ _ _ _ _ _ us hl => (match us, hl with | [_, _, _, _, _], _ => rfl)) (hl : ds.length + 1 = ps.length := by rfl) : Ini C ps (k + 1) ds nn l := by
  obtain ⟨f, c, hm, F⟩ := h.ex
  exact Ini.mk hm F Sc hb hl (body f c)
end
end Ty
namespace Ty
open PySem PySem.Spec PyProof.Rows L2
/-! ### data -/
def bi (b : Bool) : Int := if b then 1 else 0
abbrev bd (b : Bool) : D := .int (bi b)
abbrev wd (w : List Bool) : D := .tup (w.map bd)
abbrev sd (m : List (List Bool)) : D := .tup (m.map wd)
theorem bi_ge (b : Bool) : 0 ≤ bi b := by cases b <;> decide
theorem bi_le (b : Bool) : bi b ≤ 1 := by cases b <;> decide
def numFrom (z : Nat) (w : List Bool) : Nat := w.foldl (fun n b => 2 * n + (if b then 1 else 0)) z
def num (w : List Bool) : Nat := numFrom 0 w
def xorW (a b : List Bool) : List Bool := (a.zip b).map fun p => p.1 ^^ p.2
def parW (a b : List Bool) : Bool := decide (((a.zip b).map fun p => bi (p.1 && p.2)).sum % 2 = 1)
theorem bi_mod2 (z : Int) : z % 2 = bi (decide (z % 2 = 1)) := by
  unfold bi
  by_cases h : z % 2 = 1
  · simp [h]
  · have : z % 2 = 0 := by omega
    simp [h, this]
theorem bi_xor (a b : Bool) : Builtin.bitXor (bi a) (bi b) = bi (a ^^ b) := by cases a <;> cases b <;> decide
theorem bi_and (a b : Bool) : Builtin.bitAnd (bi a) (bi b) = bi (a && b) := by cases a <;> cases b <;> decide
variable [Cf] [Fx]
theorem t_is_integer (i : Int) : Fn1 "is_integer" ["value"] 1 none [.int i] (.bl true) := Fx.f_is_integer.go false sc_is_integer fun _ _ _ _ _ _ _ _ =>
  B.last (P1.ret (E.to (E.and (E.isi (b' := true) (E.var 0) (E.tyN (by decide) boot_int) rfl (by decide +kernel)) fun _ => E.one (E.not_ (E.isi (b' := false) (E.var 0) (E.tyN (by decide) boot_bool) rfl (by decide +kernel)))) rfl))
theorem t_is_between (i lo hi : Int) (h : lo ≤ i ∧ i ≤ hi) : Fn1 "is_between" ["value", "low", "high"] 2 none [.int i, .int lo, .int hi] (.bl true) := Fx.f_is_between.go false sc_is_between fun _ _ _ _ _ _ _ _ =>
  B.last (P1.ret (E.to (E.and (E.call (t_is_integer i) (A.cons (E.var 0) A.nil)) fun _ => E.one (E.leLe (E.var 1) (E.var 0) (E.var 2))) (by simp [h.1, h.2])))
theorem t_is_bit (b : Bool) : Fn1 "is_bit" ["value"] 3 none [bd b] (.bl true) := Fx.f_is_bit.go false sc_is_bit fun _ _ _ _ _ _ _ _ =>
  B.last (P1.ret (E.call (t_is_between _ _ _ ⟨bi_ge b, bi_le b⟩) (A.cons (E.var 0) (A.cons E.int (A.cons E.int A.nil)))))
theorem t_is_bits (w : List Bool) (hl : w.length ≤ 1000) : Fn1 "is_bits" ["value"] 6 none [wd w] (.bl true) := Fx.f_is_bits.go false sc_is_bits fun _ _ _ hP _ _ _ _ _ _ =>
  B.last (P1.ret (E.to (E.and (E.isi (b' := true) (E.var 0) (E.tyN (by decide) boot_tuple) rfl (by decide +kernel)) fun _ => E.one
    (E.allG (k := 3) [("one", 1)] hP (W.tup (E.var 0)) (Ge.geS_by (N := n_is_bits) (sc := defScope s_is_bits) (by decide +kernel)) hl (fun _ _ _ _ _ _ x _ => G.name 1) (by decide)
      (fun _ _ _ _ _ _ x _ => E.call (t_is_bit x) (A.cons (E.var 1) A.nil)))) rfl))
theorem t_is_some_word (w : List Bool) (hl : 1 ≤ w.length ∧ w.length ≤ 12) : Fn1 "is_some_word" ["value"] 7 none [wd w] (.bl true) := by
  obtain ⟨t, ht⟩ := Fx.longest
  exact Fx.f_is_some_word.go false sc_is_some_word fun _ _ _ _ _ _ _ _ =>
    B.last (P1.ret (E.to (E.and (E.call (t_is_bits w (by omega)) (A.cons (E.var 0) A.nil)) fun _ => E.one (E.leLe E.int (E.len (E.var 0) .t) (E.glob (v := .int 12) ht ⟨t, rfl⟩ fun _ => .int 12)))
      (by simp only [List.length_map]; simp; omega)))
theorem t_is_word (w : List Bool) (n : Int) (hl : 1 ≤ w.length ∧ w.length ≤ 12) (hn : n = w.length) : Fn1 "is_word" ["value", "n"] 8 none [wd w, .int n] (.bl true) := Fx.f_is_word.go false sc_is_word fun _ _ _ _ _ _ _ _ =>
  B.last (P1.ret (E.to (E.and (E.call (t_is_some_word w hl) (A.cons (E.var 0) A.nil)) fun _ => E.one (E.eqI (E.len (E.var 0) .t) (E.var 1))) (by simp [hn])))
theorem t_bits_number (w : List Bool) (hl : w.length ≤ 600) : Fn1 "bits_number" ["bits"] 1 none [wd w] (.int (num w : Nat)) := Fx.f_bits_number.go false sc_bits_number fun _ _ _ _ _ _ _ _ =>
  B.cons1 (P1.set 1 E.int) (B.cons (P1.for_ (xs := w) (enc := bd) (fun i g => ∃ d, g = [.val (wd w), .val (.int (num (w.take i) : Nat)), d]) (W.tup (E.var 0)) ⟨_, rfl⟩
    (fun i x g hx hg => by
      obtain ⟨d, rfl⟩ := hg
      refine ⟨_, _, G.name 2, B.cons1 (P1.set 1 (E.to (E.add (E.mul E.int (E.var 1) (.inl ⟨by omega, by omega⟩)) (E.var 2)) ?_)) (B.nil ⟨_, rfl⟩)⟩
      have : num (w.take (i + 1)) = 2 * num (w.take i) + (if x then 1 else 0) := by
        unfold num numFrom
        rw [List.take_add_one, hx]
        simp
      rw [this]
      cases x <;> simp [bi] <;> rfl))
    fun g hg => by
      obtain ⟨d, rfl⟩ := hg
      rw [List.take_length]
      exact B.last (P1.ret (E.var 1)))
end Ty
namespace Ty
open PySem PySem.Spec PyProof.Rows L2
/-! t * 1 is t itself -/
theorem mul_one_tuple (l : Addr) (items : Array Value) (n : Nat) (dd : Option Addr) (sl : Array (Option Value)) (u : Tok) :
    Meets (Builtin.«tuple.__mul__» ⟨[.ref l, .int 1 u], []⟩) (fun _ R s => s.heap.get? l = some { cls := .type "tuple", dict := dd, data := .seq items n, slots := sl } ∧ R (.ok (.ret (Value.ref l))) s) :=
  .of_wp fun prog w A R s h => by
    obtain ⟨hp, g, d, tk, os⟩ := s
    obtain ⟨hl, h⟩ := h
    have f1 := AutoSeq1.idx_int
    wp_walk using AutoSeq1.wpAny_loadPart' hl
    exact ⟨_, rfl, h⟩
/-- (e,) * n, n at least 1 -/
def rRep1 (K : PySem.W.Frag) : R2 := fun x y H Q => ∃ l k v, x = .ref l ∧ y = .int k ∧ SqT K H l [v] ∧ 1 ≤ k ∧ k ≤ 1000 ∧ (k = 1 → Q (.ref l) H) ∧ ∀ p, H p = none → Q (.ref p) (upd H p (.tup (List.replicate k.toNat [v]).flatten))
theorem op_rep1 {X : Cx} : OpR X (binaryOp .Mult) (rRep1 X.K) := by
  intro pins s σ H x y v u Q I rx ry h
  obtain ⟨l, k, v1, rfl, rfl, hT, h1, h2, q1, q2⟩ := h
  by_cases hk : k = 1
  · subst hk
    cases rx
    obtain ⟨t, rfl⟩ := ry
    obtain ⟨its, r, ⟨⟨cls, dd, data, sl⟩, ho, hc, n, hd⟩, hs⟩ := I.tuple hT
    simp only at hc hd
    subst hc hd
    exact wpAny_binaryOp_repeat_ref (T := "tuple") (U := "int") (by decide) ⟨_, ho, rfl⟩ (fun s' => typeIs_int s' 1 t) noFill_tuple_mul F.fills_int_mul F.slot_int_rmul repeat_tuple F.slot_int_index.lookup
      (call_meets F.slot_int_rmul (typeIs_int s 1 t) F.entry_int_rmul (F.args_int_rmul_2 _ _) (int_rmul_tuple 1 t l its.toArray n dd sl)
        ⟨ho, rfl, ⟨_, ho, rfl⟩, call_meets F.slot_tuple_mul ⟨_, ho, rfl⟩ F.entry_tuple_mul (F.args_tuple_mul_2 _ _) (mul_one_tuple l its.toArray n dd sl t) ⟨ho, ⟨.ref l, H, I, rfl, q1 rfl⟩⟩⟩)
  · exact op_repT pins s σ H _ _ v u Q I rx ry ⟨l, k, [v1], rfl, rfl, hT, by simp, by omega, h2, by simp, q2⟩
variable [Cf]
section
variable {k : Nat} {X : Cx} {M : Option TpA} {Γ : List Sl} {a b : Expr} {pos : Pos} {d : D}
theorem E.repT {n : Nat} (ha : E1 k X M Γ a (.tup [d])) (hb : E1 k X M Γ b (.int (n : Int))) (hl : 1 ≤ n ∧ n ≤ 1000) : E1 k X M Γ (.BinOp a .Mult b pos) (.tup (List.replicate n d)) :=
  .bin (r := rRep1 Cf.K) (fun xk _ => by rw [← xk.K]; exact op_rep1) ha hb fun d1 d2 e1 e2 H x y iv r1 r2 Q q => by
    subst e1 e2
    obtain ⟨p, vs, rfl, sq, rl⟩ := rpT r1
    cases r2
    obtain ⟨v, rfl, rv⟩ := rp1 rl
    refine ⟨p, (n : Int), v, rfl, rfl, sq, by omega, by omega, fun e => q _ _ _ (.refl iv) rfl ?_, fun p3 hp => q _ _ _ (.new iv hp) rfl ?_⟩
    · have : n = 1 := by omega
      subst this
      exact .tup sq rl
    · rw [Int.toNat_natCast, flat1]
      exact .tup (.inl (.inl upd_same)) ((RpL.rep rv n).mo (.new iv hp))
end
end Ty
namespace Ty
open PySem PySem.Spec PyProof.Rows L2
variable [Cf] [Fx]
theorem xorD (a b : List Bool) : ((a.zip b).map fun p => D.int (Builtin.bitXor (bi p.1) (bi p.2))) = (xorW a b).map bd := by
  unfold xorW
  rw [List.map_map]
  exact List.map_congr_left fun p _ => by rw [bi_xor]; rfl
theorem t_check_words (a b : List Bool) (h : 1 ≤ a.length ∧ a.length ≤ 12) (e : b.length = a.length) : Fn1 "check_words" ["one", "other"] 8 none [wd a, wd b] .non := Fx.f_check_words.go false sc_check_words fun _ _ _ _ _ _ _ _ =>
  B.cons1 (P1.guard (T.to (T.not_ (T.val (E.call (t_is_some_word a h) (A.cons (E.var 0) A.nil)))) rfl))
    (B.cons1 (P1.guard (T.to (T.ofW (TW.or (T.not_ (T.val (E.call (t_is_some_word b (by omega)) (A.cons (E.var 1) A.nil)))) (TW.or1 (T.neI (E.len (E.var 0) .t) (E.len (E.var 1) .t))))) (by simp [e]))) (B.nil rfl))
theorem t_sum_of (a b : List Bool) (h : a.length ≤ 1000) : Fn1 "sum_of" ["one", "other"] 3 none [wd a, wd b] (wd (xorW a b)) := Fx.f_sum_of.go false sc_sum_of fun _ _ _ hP _ _ _ _ _ _ =>
  B.last (P1.ret (E.to (E.tupG (k := 0) [("first", 2), ("second", 3)] hP (W.zipT (E.var 0) (E.var 1)) (Ge.geS_by (N := n_sum_of) (sc := defScope s_sum_of) (by decide +kernel)) (by rw [List.length_zip]; omega)
    (fun _ _ _ _ _ _ x _ => G.tup (Gs.cons (G.name 2) (Gs.cons (G.name 3) Gs.nil))) (by decide)
    (fun _ _ _ _ _ _ x _ => E.xor_ (E.var 2) (E.var 3))) (by rw [xorD])))
theorem t_parity_of (a b : List Bool) (h : a.length ≤ 1000) : Fn1 "parity_of" ["one", "other"] 3 none [wd a, wd b] (bd (parW a b)) := Fx.f_parity_of.go false sc_parity_of fun _ _ _ hP _ _ _ _ _ _ =>
  B.last (P1.ret (E.to (E.mod (E.sumG (k := 0) (g := fun p => bi (p.1 && p.2)) [("first", 2), ("second", 3)] hP (W.zipT (E.var 0) (E.var 1)) (Ge.geS_by (N := n_parity_of) (sc := defScope s_parity_of) (by decide +kernel)) (by rw [List.length_zip]; omega)
    (fun _ _ _ _ _ _ x _ => G.tup (Gs.cons (G.name 2) (Gs.cons (G.name 3) Gs.nil))) (by decide) (fun x => ⟨bi_ge _, by have := bi_le (x.1 && x.2); omega⟩)
    (fun _ _ _ _ _ _ x _ => E.to (E.and_ (E.var 2) (E.var 3)) (by rw [bi_and]))) E.int (by decide)) (by rw [bi_mod2]; rfl)))
theorem t_added (a b : List Bool) (h : 1 ≤ a.length ∧ a.length ≤ 12) (e : b.length = a.length) : Fn1 "added" ["one", "other"] 9 none [wd a, wd b] (wd (xorW a b)) := Fx.f_added.go false sc_added fun _ _ _ _ _ _ _ _ =>
  B.cons1 (P1.expr (E.call (t_check_words a b h e) (A.cons (E.var 0) (A.cons (E.var 1) A.nil)))) (B.last (P1.ret (E.call (t_sum_of a b (by omega)) (A.cons (E.var 0) (A.cons (E.var 1) A.nil)))))
theorem t_product_of (a b : List Bool) (h : 1 ≤ a.length ∧ a.length ≤ 12) (e : b.length = a.length) : Fn1 "product_of" ["one", "other"] 9 none [wd a, wd b] (bd (parW a b)) := Fx.f_product_of.go false sc_product_of fun _ _ _ _ _ _ _ _ =>
  B.cons1 (P1.expr (E.call (t_check_words a b h e) (A.cons (E.var 0) (A.cons (E.var 1) A.nil)))) (B.last (P1.ret (E.call (t_parity_of a b (by omega)) (A.cons (E.var 0) (A.cons (E.var 1) A.nil)))))
theorem t_number_of (w : List Bool) (h : 1 ≤ w.length ∧ w.length ≤ 12) : Fn1 "number_of" ["word"] 8 none [wd w] (.int (num w : Nat)) := Fx.f_number_of.go false sc_number_of fun _ _ _ _ _ _ _ _ =>
  B.cons1 (P1.guard (T.to (T.not_ (T.val (E.call (t_is_some_word w h) (A.cons (E.var 0) A.nil)))) rfl)) (B.last (P1.ret (E.call (t_bits_number w (by omega)) (A.cons (E.var 0) A.nil))))
def zeroW (n : Nat) : List Bool := List.replicate n false
theorem t_zero_word (n : Nat) (h : 1 ≤ n ∧ n ≤ 1000) : Fn1 "zero_word" ["n"] 1 none [.int (n : Int)] (wd (zeroW n)) := Fx.f_zero_word.go false sc_zero_word fun _ _ _ _ _ _ _ _ =>
  B.last (P1.ret (E.to (E.repT (E.tup (A.cons E.int A.nil)) (E.var 0) h) (by unfold zeroW; rw [wd, List.map_replicate]; rfl)))
/-! matrices, squares -/
/-- a square of side n -/
def Sq (n : Nat) (m : List (List Bool)) : Prop := m.length = n ∧ ∀ r ∈ m, r.length = n
theorem t_is_matrix (m : List (List Bool)) (n : Nat) (hn : 1 ≤ n ∧ n ≤ 12) (h : Sq n m) : Fn1 "is_matrix" ["value", "n"] 11 none [sd m, .int (n : Int)] (.bl true) := Fx.f_is_matrix.go false sc_is_matrix fun _ _ _ hP _ _ _ _ _ _ =>
  B.last (P1.ret (E.to (E.and (E.isi (b' := true) (E.var 0) (E.tyN (by decide) boot_tuple) rfl (by decide +kernel)) fun _ => E.and (E.eqI (E.len (E.var 0) .t) (E.var 1)) fun _ => E.one
    (E.allG (k := 8) [("row", 2)] hP (W.tup (E.var 0)) (Ge.geS_by (N := n_is_matrix) (sc := defScope s_is_matrix) (by decide +kernel)) (by have := h.1; omega) (fun _ _ _ _ _ _ x _ => G.name 2) (by decide)
      (fun _ _ _ _ _ _ x hx => E.call (t_is_word x (n : Int) (by have := h.2 x hx; omega) (by rw [h.2 x hx])) (A.cons (E.var 2) (A.cons (E.var 1) A.nil))))) (by simp [h.1])))
theorem t_is_some_matrix (m : List (List Bool)) (n : Nat) (hn : 1 ≤ n ∧ n ≤ 12) (h : Sq n m) : Fn1 "is_some_matrix" ["value"] 12 none [sd m] (.bl true) := by
  obtain ⟨t, ht⟩ := Fx.longest
  exact Fx.f_is_some_matrix.go false sc_is_some_matrix fun _ _ _ _ _ _ _ _ =>
    B.last (P1.ret (E.to (E.and (E.isi (b' := true) (E.var 0) (E.tyN (by decide) boot_tuple) rfl (by decide +kernel)) fun _ => E.and (E.leLe E.int (E.len (E.var 0) .t) (E.glob (v := .int 12) ht ⟨t, rfl⟩ fun _ => .int 12)) fun _ => E.one
      (E.call (t_is_matrix m m.length (by have := h.1; omega) (by rw [h.1]; exact h)) (A.cons (E.var 0) (A.cons (E.to (E.len (E.var 0) .t) (by rw [List.length_map])) A.nil)))) (by simp only [List.length_map]; have := h.1; simp; omega)))
end Ty
namespace Ty
open PySem PySem.Spec PyProof.Rows L2
variable [Cf] [Fx]
def sqF (a b : List Bool) : List (List Bool) := a.map fun x => if x then b else zeroW a.length
def xorS (m k : List (List Bool)) : List (List Bool) := (m.zip k).map fun p => xorW p.1 p.2
def parS (m k : List (List Bool)) : Bool := decide (((m.zip k).map fun p => bi (parW p.1 p.2)).sum % 2 = 1)
theorem xorW_len (a b : List Bool) (h : b.length = a.length) : (xorW a b).length = a.length := by unfold xorW; rw [List.length_map, List.length_zip]; omega
theorem sq_zip {n : Nat} {m k : List (List Bool)} (hm : Sq n m) (hk : Sq n k) {p : List Bool × List Bool} (h : p ∈ m.zip k) : p.1.length = n ∧ p.2.length = n := ⟨hm.2 _ (List.of_mem_zip h).1, hk.2 _ (List.of_mem_zip h).2⟩
theorem sq_xor {n : Nat} {m k : List (List Bool)} (hm : Sq n m) (hk : Sq n k) : Sq n (xorS m k) := by
  refine ⟨by unfold xorS; rw [List.length_map, List.length_zip, hm.1, hk.1]; omega, fun r hr => ?_⟩
  unfold xorS at hr
  obtain ⟨p, hp, rfl⟩ := List.mem_map.mp hr
  obtain ⟨h1, h2⟩ := sq_zip hm hk hp
  rw [xorW_len _ _ (by omega), h1]
theorem sq_sqF {a b : List Bool} (h : b.length = a.length) : Sq a.length (sqF a b) := by
  refine ⟨by unfold sqF; rw [List.length_map], fun r hr => ?_⟩
  unfold sqF at hr
  obtain ⟨x, _, rfl⟩ := List.mem_map.mp hr
  cases x
  · simp [zeroW]
  · simpa using h
theorem t_square_from (a b : List Bool) (ha : 1 ≤ a.length ∧ a.length ≤ 12) : Fn1 "square_from" ["one", "other"] 3 none [wd a, wd b] (sd (sqF a b)) := Fx.f_square_from.go false sc_square_from fun _ _ _ hP _ _ _ _ _ _ =>
  B.cons1 (P1.set 2 (E.call (t_zero_word a.length (by omega)) (A.cons (E.to (E.len (E.var 0) .t) (by rw [List.length_map])) A.nil)))
    (B.last (P1.ret (E.to (E.tupG (k := 0) (f := fun x : Bool => wd (if x then b else zeroW a.length)) [("bit", 3)] hP (W.tup (E.var 0)) (Ge.geS_by (N := n_square_from) (sc := defScope s_square_from) (by decide +kernel)) (by omega) (fun _ _ _ _ _ _ x _ => G.name 3) (by decide)
      (fun _ _ _ _ _ _ x _ => E.ifExp (T.eqI (E.var 3) E.int)
        (fun h => by
          have : x = true := by cases x <;> simp [bi] at h ⊢
          subst this
          exact E.var 1)
        (fun h => by
          have : x = false := by cases x <;> simp [bi] at h ⊢
          subst this
          exact E.var 2))) (by unfold sqF; rw [sd, List.map_map]; rfl))))
theorem t_square_of (a b : List Bool) (ha : 1 ≤ a.length ∧ a.length ≤ 12) (hb : b.length = a.length) : Fn1 "square_of" ["one", "other"] 9 none [wd a, wd b] (sd (sqF a b)) := Fx.f_square_of.go false sc_square_of fun _ _ _ _ _ _ _ _ =>
  B.cons1 (P1.expr (E.call (t_check_words a b ha hb) (A.cons (E.var 0) (A.cons (E.var 1) A.nil)))) (B.last (P1.ret (E.call (t_square_from a b ha) (A.cons (E.var 0) (A.cons (E.var 1) A.nil)))))
theorem t_check_squares (n : Nat) (m k : List (List Bool)) (hn : 1 ≤ n ∧ n ≤ 12) (hm : Sq n m) (hk : Sq n k) : Fn1 "check_squares" ["one", "other"] 13 none [sd m, sd k] .non := Fx.f_check_squares.go false sc_check_squares fun _ _ _ _ _ _ _ _ =>
  B.cons1 (P1.guard (T.to (T.not_ (T.val (E.call (t_is_some_matrix m n hn hm) (A.cons (E.var 0) A.nil)))) rfl))
    (B.cons1 (P1.guard (T.to (T.ofW (TW.or (T.not_ (T.val (E.call (t_is_some_matrix k n hn hk) (A.cons (E.var 1) A.nil)))) (TW.or1 (T.neI (E.len (E.var 0) .t) (E.len (E.var 1) .t))))) (by simp [hm.1, hk.1]))) (B.nil rfl))
theorem t_square_sum (n : Nat) (m k : List (List Bool)) (hn : 1 ≤ n ∧ n ≤ 12) (hm : Sq n m) (hk : Sq n k) : Fn1 "square_sum" ["one", "other"] 6 none [sd m, sd k] (sd (xorS m k)) := Fx.f_square_sum.go false sc_square_sum fun _ _ _ hP _ _ _ _ _ _ =>
  B.last (P1.ret (E.to (E.tupG (k := 3) (f := fun p => wd (xorW p.1 p.2)) [("first", 2), ("second", 3)] hP (W.zipT (E.var 0) (E.var 1)) (Ge.geS_by (N := n_square_sum) (sc := defScope s_square_sum) (by decide +kernel)) (by rw [List.length_zip]; have := hm.1; omega)
    (fun _ _ _ _ _ _ x _ => G.tup (Gs.cons (G.name 2) (Gs.cons (G.name 3) Gs.nil))) (by decide)
    (fun _ _ _ _ _ _ x hx => E.call (t_sum_of x.1 x.2 (by have := sq_zip hm hk hx; omega)) (A.cons (E.var 2) (A.cons (E.var 3) A.nil)))) (by unfold xorS; rw [sd, List.map_map]; rfl)))
theorem t_square_parity (n : Nat) (m k : List (List Bool)) (hn : 1 ≤ n ∧ n ≤ 12) (hm : Sq n m) (hk : Sq n k) : Fn1 "square_parity" ["one", "other"] 6 none [sd m, sd k] (bd (parS m k)) := Fx.f_square_parity.go false sc_square_parity fun _ _ _ hP _ _ _ _ _ _ =>
  B.last (P1.ret (E.to (E.mod (E.sumG (k := 3) (g := fun p => bi (parW p.1 p.2)) [("first", 2), ("second", 3)] hP (W.zipT (E.var 0) (E.var 1)) (Ge.geS_by (N := n_square_parity) (sc := defScope s_square_parity) (by decide +kernel)) (by rw [List.length_zip]; have := hm.1; omega)
    (fun _ _ _ _ _ _ x _ => G.tup (Gs.cons (G.name 2) (Gs.cons (G.name 3) Gs.nil))) (by decide) (fun x => ⟨bi_ge _, by have := bi_le (parW x.1 x.2); omega⟩)
    (fun _ _ _ _ _ _ x hx => E.call (t_parity_of x.1 x.2 (by have := sq_zip hm hk hx; omega)) (A.cons (E.var 2) (A.cons (E.var 3) A.nil)))) E.int (by decide)) (by rw [bi_mod2]; rfl)))
theorem t_added_squares (n : Nat) (m k : List (List Bool)) (hn : 1 ≤ n ∧ n ≤ 12) (hm : Sq n m) (hk : Sq n k) : Fn1 "added_squares" ["one", "other"] 14 none [sd m, sd k] (sd (xorS m k)) := Fx.f_added_squares.go false sc_added_squares fun _ _ _ _ _ _ _ _ =>
  B.cons1 (P1.expr (E.call (t_check_squares n m k hn hm hk) (A.cons (E.var 0) (A.cons (E.var 1) A.nil)))) (B.last (P1.ret (E.call (t_square_sum n m k hn hm hk) (A.cons (E.var 0) (A.cons (E.var 1) A.nil)))))
theorem t_square_product (n : Nat) (m k : List (List Bool)) (hn : 1 ≤ n ∧ n ≤ 12) (hm : Sq n m) (hk : Sq n k) : Fn1 "square_product" ["one", "other"] 14 none [sd m, sd k] (bd (parS m k)) := Fx.f_square_product.go false sc_square_product fun _ _ _ _ _ _ _ _ =>
  B.cons1 (P1.expr (E.call (t_check_squares n m k hn hm hk) (A.cons (E.var 0) (A.cons (E.var 1) A.nil)))) (B.last (P1.ret (E.call (t_square_parity n m k hn hm hk) (A.cons (E.var 0) (A.cons (E.var 1) A.nil)))))
/-! papers -/
theorem t_is_square (m : List (List Bool)) (n : Nat) (hn : 1 ≤ n ∧ n ≤ 12) (h : Sq n m) : Fn1 "is_square" ["value", "n"] 11 none [sd m, .int (n : Int)] (.bl true) := Fx.f_is_square.go false sc_is_square fun _ _ _ hP _ _ _ _ _ _ =>
  B.cons1 (P1.guard (T.to (T.ofW (TW.or (T.not_ (T.val (E.isi (b' := true) (E.var 0) (E.tyN (by decide) boot_tuple) rfl (by decide +kernel)))) (TW.or1 (T.neI (E.len (E.var 0) .t) (E.var 1))))) (by simp [h.1])))
  (B.last (P1.ret (E.allG (k := 8) [("row", 2)] hP (W.tup (E.var 0)) (Ge.geS_by (N := n_is_square) (sc := defScope s_is_square) (by decide +kernel)) (by have := h.1; omega) (fun _ _ _ _ _ _ x _ => G.name 2) (by decide)
      (fun _ _ _ _ _ _ x hx => E.call (t_is_word x (n : Int) (by have := h.2 x hx; omega) (by rw [h.2 x hx])) (A.cons (E.var 2) (A.cons (E.var 1) A.nil))))))
theorem t__are_bits (w : List Bool) (n : Int) (hl : w.length ≤ 1000) (hn : n = w.length) : Fn1 "_are_bits" ["value", "many"] 3 none [wd w, .int n] (.bl true) := Fx.f__are_bits.go false sc__are_bits fun _ _ _ hP _ _ _ _ _ _ =>
  B.cons1 (P1.guard (T.to (T.ofW (TW.or (T.not_ (T.val (E.isi (b' := true) (E.var 0) (E.tyN (by decide) boot_tuple) rfl (by decide +kernel)))) (TW.or1 (T.neI (E.len (E.var 0) .t) (E.var 1))))) (by simp [hn])))
  (B.last (P1.ret (E.allG (k := 0) [("bit", 2)] hP (W.tup (E.var 0)) (Ge.geS_by (N := n__are_bits) (sc := defScope s__are_bits) (by decide +kernel)) hl (fun _ _ _ _ _ _ x _ => G.name 2) (by decide)
      (fun _ _ _ _ _ _ x hx => E.to (E.and (E.isi (b' := true) (E.var 2) (E.tyN (by decide) boot_int) rfl (by decide +kernel)) fun _ => E.and (E.not_ (E.isi (b' := false) (E.var 2) (E.tyN (by decide) boot_bool) rfl (by decide +kernel))) fun _ => E.one (E.leLe E.int (E.var 2) E.int)) (by simp [bi_ge x, bi_le x])))))
theorem sq_flat_len {n : Nat} {m : List (List Bool)} (h : ∀ r ∈ m, r.length = n) : m.flatten.length = m.length * n := by
  induction m with
  | nil => simp
  | cons r m ih =>
    rw [List.flatten_cons, List.length_append, ih fun r hr => h r (List.mem_cons_of_mem _ hr), h r List.mem_cons_self, List.length_cons, Nat.succ_mul, Nat.add_comm]
theorem t_rows_together (m : List (List Bool)) (h1 : m.length ≤ 1000) (h2 : m.flatten.length ≤ 1000) : Fn1 "rows_together" ["square"] 1 none [sd m] (wd m.flatten) := Fx.f_rows_together.go false sc_rows_together fun _ _ _ _ _ _ _ _ =>
  B.last (P1.ret (E.to (E.tupOf (E.lc2 (f := fun _ b => bd b) (ys := fun r : List Bool => r) (Γx := fun r => [.val (sd m), .val (wd r), .non]) (Γy := fun r b => [.val (sd m), .val (wd r), .val (bd b)]) (enc1 := fun _ b => bd b) [("row", 1), ("bit", 2)] [2] (by decide) (W.tup (E.var 0)) (blkOk_by (N := n_rows_together) (sc := defScope s_rows_together) (by decide +kernel)) h1 (by simpa [List.flatMap_id] using h2)
    (fun _ _ _ _ _ x _ => G.name 1) (by decide) (fun _ _ _ _ _ x _ => W.tup (E.var 1) (fun _ => D.imL_map _ (fun _ => rfl) _)) (fun _ _ _ _ _ x _ y _ => G.name 2) (by decide)
    (fun r => by
      simp only [List.all_cons, List.all_nil, Sl.im, D.im, Bool.and_true, Bool.and_eq_true]
      exact ⟨D.imL_map _ (fun r => by simp only [D.im]; exact D.imL_map _ (fun _ => rfl) _) _, D.imL_map _ (fun _ => rfl) _⟩) (fun _ _ => rfl) (fun _ _ _ _ _ x _ y _ => E.var 2)) .l)
    (by congr 1; induction m with
      | nil => rfl
      | cons r m ih => rw [List.flatMap_cons, ih (by simp at h1; omega) (by simp at h2 ⊢; omega), List.flatten_cons, List.map_append])))
end Ty
namespace Ty
open PySem PySem.Spec PyProof.Rows L2
variable [Cf]
section
variable {k : Nat} {X : Cx} {M : Option TpA} {mu : Bool} {Γ : List Sl} {a b c e tg : Expr} {es elts : List Expr} {p pos tpos pos2 : Pos} {S : D → Prop} {ds : List D} {d : D} {x : Str} {kk c2 : Nat}
theorem Sat.fgt {H0 H : Hp} {σ : L2.St} (h : Sat Γ H0 σ H) : ∀ js : List Nat, Sat (gw Γ js) H0 σ H
  | [] => h
  | j :: js => by
    have q := Sat.fgt h js
    refine ⟨by unfold gw; rw [List.length_set]; exact q.len, fun i s hs => ?_⟩
    unfold gw at hs
    by_cases e : j = i
    · subst e
      by_cases hl : j < (gw Γ js).length
      · rw [List.getElem?_set_self hl] at hs
        cases hs
        trivial
      · rw [List.getElem?_eq_none (by rw [List.length_set]; omega)] at hs
        cases hs
    · rw [List.getElem?_set_ne e] at hs
      exact q.at_ i s hs
/-- at the end some slots are forgotten -/
theorem B.nilF {N : List Sl → Prop} (js : List Nat) (h : N (gw Γ js)) : B k X M mu Γ [] N S := fun xk hr F fr H0 σ H le hF sat Dn qn qr => to_ss pss_nil (show tNext Dn σ H from qn σ H _ le hF h (sat.fgt js))
theorem EF.mono {SL SL' : List D → Prop} (h : EF k X M Γ e SL) (m : ∀ ds, SL ds → SL' ds) : EF k X M Γ e SL' := fun xk hr H0 σ H le sat Q q => h xk hr H0 σ H le sat Q fun p vs ds H' l n hp r s => q p vs ds H' l n hp r (m ds s)
/-- range(z), z any -/
theorem W.range1I {z : Int} (ha : E1 k X M Γ a (.int z)) (hn : -1000 ≤ z ∧ z ≤ 1000000) (hg : Gl X "range" := by rfl) (hs : starEach [a] X.env = [(false, eval a X.env)] := by rfl) : W k X M mu Γ tg (.Call (.Name "range" p) [a] [] pos) ((List.range z.toNat).map fun i => D.int ((i : Nat) : Int)) := fun xk hr H0 σ H le sat R h =>
  to_i (pi_range1 hg (xk.no (by decide)) (pa_s (X := X) (es := [a])) hs) (args1 ha (by rw [hs] <;> rfl) xk hr H0 σ H le sat _ fun vs H1 ds l s r => by
    obtain ⟨_, rfl, rfl⟩ := s
    obtain ⟨v, rfl, rv⟩ := rp1 r
    cases rv
    refine ⟨z, rfl, by omega, by omega, ?_⟩
    have hl : ((List.range z.toNat).map fun i => D.int ((i : Nat) : Int)).length = z.toNat := by simp
    refine h _ H1 _ _ l (by rw [hl]; exact walk_range) fr_true trivial fun i H2 x H3 hi gs y => ?_
    obtain ⟨rfl, ex⟩ := y
    rw [hl] at hi
    refine ⟨fun _ iv => .refl iv, .int (i : Int), by rw [List.getElem?_map, List.getElem?_range hi]; rfl, ?_⟩
    rw [ex]
    show Rp _ (V.int (0 + (i : Int))) _
    rw [Int.zero_add]
    exact .int _)
/-- enumerate over a tuple of encoded items -/
theorem W.enumX {α : Type} {xs : List α} {enc : α → D} (ha : E1 k X M Γ a (.tup (xs.map enc))) (him : mu = true → D.imL (xs.map enc) = true := by first | exact fun z => nomatch z | exact fun _ => rfl) (hg : Gl X "enumerate" := by rfl) (hs : starEach [a] X.env = [(false, eval a X.env)] := by rfl) :
    W k X M mu Γ (.Tuple elts kk tpos) (.Call (.Name "enumerate" p) [a] [] pos) (xs.zipIdx.map fun q => D.tup [.int ((q.2 : Nat) : Int), enc q.1]) := by
  have h := W.enumT (elts := elts) (kk := kk) (tpos := tpos) (p := p) (pos := pos) (mu := mu) ha him hg hs
  have e : ((xs.map enc).mapIdx fun i d => D.tup [.int ((i : Nat) : Int), d]) = (xs.zipIdx.map fun q => D.tup [.int ((q.2 : Nat) : Int), enc q.1]) := by
    refine List.ext_getElem? fun i => ?_
    rw [List.getElem?_mapIdx, List.getElem?_map, List.getElem?_map, List.getElem?_zipIdx]
    cases xs[i]? <;> simp
  rw [e] at h
  exact h
/-- isinstance(a, (list, tuple)) of a tuple -/
theorem E.isiLT (ha : E1 k X M Γ a (.tup ds)) (hg : Gl X "isinstance" := by rfl) (hg1 : Gl X "list" := by rfl) (hg2 : Gl X "tuple" := by rfl) {q1 q2 : Pos}
    (hs : starEach [a, .Tuple [.Name "list" q1, .Name "tuple" q2] c2 pos2] X.env = (false, eval a X.env) :: starEach [.Tuple [.Name "list" q1, .Name "tuple" q2] c2 pos2] X.env := by rfl)
    (hs2 : starEach [.Tuple [.Name "list" q1, .Name "tuple" q2] c2 pos2] X.env = (false, eval (.Tuple [.Name "list" q1, .Name "tuple" q2] c2 pos2) X.env) :: starEach [] X.env := by rfl)
    (hpl : (backTo pos (starEach [.Tuple [.Name "list" q1, .Name "tuple" q2] c2 pos2] X.env)).any (·.1) = false := by rfl) : E1 k X M Γ (.Call (.Name "isinstance" p) [a, .Tuple [.Name "list" q1, .Name "tuple" q2] c2 pos2] [] pos) (.bl true) := fun xk hr H0 σ H le sat Q q => by
  refine to_s (pe_callB call_isiT hg (xk.no (by decide)) boot_isinstance (pa_cons (pe_s (X := X) (e := a)) (pa_cons (pe_tup (pa_cons (pe_bltn (v := .ty "list") hg1 (xk.no (by decide)) boot_list rfl) (pa_cons (pe_bltn (v := .ty "tuple") hg2 (xk.no (by decide)) boot_tuple rfl) pa_nil))) pa_nil hs2) hs) (by decide) (by decide) hs hpl) (ha xk hr H0 σ H le sat _ fun v H1 d1 l1 s1 r1 => ?_)
  subst s1
  refine ⟨by show 2 ≤ sizeLine; decide, fun p hp => ?_⟩
  have ln := l1.newT (o := .tup [.ty "list", .ty "tuple"]) hp
  obtain ⟨pa, vs, rfl, sq, rl⟩ := rpT (r1.mo (.new l1.i1 hp))
  rw [xk.K]
  refine ⟨_, p, [.ty "list", .ty "tuple"], .type "tuple", [.type "list", .type "tuple"], true, rfl, upd_same, .cons (.ty "list") (.cons (.ty "tuple") .nil), sqT_ty sq, ?_, q _ _ _ ln rfl (.bl _)⟩
  exact kitAny_cons (b := false) (kit_ty (by decide +kernel)) (fun _ => kitAny_cons (b := true) (kit_ty (by decide +kernel)) (fun z => nomatch z) fun _ => rfl) (fun z => nomatch z)
end
end Ty
namespace Ty
open PySem PySem.Spec PyProof.Rows L2
/-! ### equations -/
structure Eqn where
  pairs : List (Nat × Nat)
  singles : List Nat
  right : Bool
abbrev nd (i : Nat) : D := .int (i : Int)
abbrev pd (p : Nat × Nat) : D := .tup [nd p.1, nd p.2]
abbrev ed (e : Eqn) : D := .tup [.tup (e.pairs.map pd), .tup (e.singles.map nd), bd e.right]
/-- one after another, less and less not -/
def Asc (ds : List D) : Prop := ∀ k a b, ds[k]? = some a → ds[k + 1]? = some b → PySem.W.alike a.py b.py = true ∧ a.py ≠ .none ∧ PySem.W.dataLt a.py b.py = true
structure EqOk (n : Nat) (e : Eqn) : Prop where
  p : ∀ q ∈ e.pairs, q.1 < q.2 ∧ q.2 < n
  s : ∀ i ∈ e.singles, i < n
  ap : Asc (e.pairs.map pd)
  as : Asc (e.singles.map nd)
  lp : e.pairs.length ≤ 500
  ls : e.singles.length ≤ 500
abbrev esd (es : List Eqn) : D := .tup (es.map ed)
variable [Cf] [Fx]
theorem t_is_number_below (i n : Int) (h : 0 ≤ i ∧ i < n) : Fn1 "is_number_below" ["value", "limit"] 1 none [.int i, .int n] (.bl true) := Fx.f_is_number_below.go false sc_is_number_below fun _ _ _ _ _ _ _ _ =>
  B.last (P1.ret (E.to (E.and (E.isi (b' := true) (E.var 0) (E.tyN (by decide) boot_int) rfl (by decide +kernel)) fun _ => E.and (E.not_ (E.isi (b' := false) (E.var 0) (E.tyN (by decide) boot_bool) rfl (by decide +kernel))) fun _ => E.one (E.leLt E.int (E.var 0) (E.var 1))) (by simp [h.1, h.2])))
theorem t_ascends (ds : List D) (hl : ds.length ≤ 1000) (hpl : ∀ d ∈ ds, d.pl = true) (hdp : ∀ d ∈ ds, d.dp ≤ 8) (h : Asc ds) : Fn1 "ascends" ["row"] 3 none [.tup ds] (.bl true) := Fx.f_ascends.go false sc_ascends fun _ _ _ hP _ _ _ _ _ _ =>
  B.last (P1.ret (E.allG (k := 0) [("k", 1)] hP (W.range1I (E.sub (E.len (E.var 0) .t) E.int) (by omega)) (Ge.geS_by (N := n_ascends) (sc := defScope s_ascends) (by decide +kernel)) (by rw [List.length_range]; omega) (fun _ _ _ _ _ _ x _ => G.name 1) (by decide)
    (fun _ _ _ _ _ _ x hx => by
      have hx' : x + 1 < ds.length := by have := List.mem_range.mp hx; omega
      have e1 : ds[x]? = some ds[x] := List.getElem?_eq_getElem (by omega)
      have e2 : ds[x + 1]? = some ds[x + 1] := List.getElem?_eq_getElem hx'
      obtain ⟨h1, h2, h3⟩ := h x _ _ e1 e2
      exact E.to (E.ltD (hpl _ (List.getElem_mem _)) (hpl _ (List.getElem_mem _)) (hdp _ (List.getElem_mem _)) h1 h2 (E.ixT (E.var 0) (E.var 1) (by rw [atD_nat]; exact e1)) (E.ixT (E.var 0) (E.add (E.var 1) E.int) (by
        have : ((x : Int) + 1) = ((x + 1 : Nat) : Int) := by omega
        rw [this, atD_nat]; exact e2))) (by rw [h3]))))
theorem t_is_pair (q : Nat × Nat) (n : Int) (h : q.1 < q.2 ∧ (q.2 : Int) < n) : Fn1 "is_pair" ["value", "n"] 2 none [pd q, .int n] (.bl true) := Fx.f_is_pair.go false sc_is_pair fun _ _ _ _ _ _ _ _ =>
  B.cons1 (P1.guard (T.to (T.ofW (TW.or (T.not_ (T.val (E.isi (b' := true) (E.var 0) (E.tyN (by decide) boot_tuple) rfl (by decide +kernel)))) (TW.or1 (T.neI (E.len (E.var 0) .t) E.int)))) (by simp)))
  (B.cons1 (P1.guard (T.to (T.ofW (TW.or (T.not_ (T.val (E.call (t_is_number_below (q.1 : Int) n (by omega)) (A.cons (E.ixT (E.var 0) E.int rfl) (A.cons (E.var 1) A.nil)))))
      (TW.or1 (T.not_ (T.val (E.call (t_is_number_below (q.2 : Int) n (by omega)) (A.cons (E.ixT (E.var 0) E.int rfl) (A.cons (E.var 1) A.nil)))))))) rfl))
  (B.last (P1.ret (E.to (E.lt (E.ixT (E.var 0) E.int rfl) (E.ixT (E.var 0) E.int rfl)) (by simp; omega)))))
theorem pd_pl (q : Nat × Nat) : (pd q).pl = true := by simp [D.pl, D.plL]
theorem pd_dp (q : Nat × Nat) : (pd q).dp ≤ 8 := by simp [D.dp, D.dpL]
theorem t_is_equation (e : Eqn) (n : Nat) (h : EqOk n e) : Fn1 "is_equation" ["value", "n"] 5 none [ed e, .int (n : Int)] (.bl true) := Fx.f_is_equation.go false sc_is_equation fun _ _ _ hP _ _ _ _ _ _ =>
  B.cons1 (P1.guard (T.to (T.ofW (TW.or (T.not_ (T.val (E.isi (b' := true) (E.var 0) (E.tyN (by decide) boot_tuple) rfl (by decide +kernel)))) (TW.or1 (T.neI (E.len (E.var 0) .t) E.int)))) (by simp)))
  (B.cons1 (P1.asg (E.var 0) (G.tup (Gs.cons (G.name 2) (Gs.cons (G.name 3) (Gs.cons (G.name 4) Gs.nil)))))
  (B.cons1 (P1.guard (T.to (T.ofW (TW.or (T.not_ (T.val (E.isi (b' := true) (E.var 2) (E.tyN (by decide) boot_tuple) rfl (by decide +kernel)))) (TW.or (T.not_ (T.val (E.isi (b' := true) (E.var 3) (E.tyN (by decide) boot_tuple) rfl (by decide +kernel)))) (TW.or1 (T.not_ (T.val (E.call (t_is_number_below (bi e.right) 2 (by have := bi_ge e.right; have := bi_le e.right; omega)) (A.cons (E.var 4) (A.cons E.int A.nil))))))))) rfl))
  (B.cons1 (P1.guard (T.to (T.ofW (TW.or (T.not_ (T.val (E.allG (k := 2) (xs := e.pairs) (enc := pd) [("pair", 5)] hP (W.tup (E.var 2)) (Ge.geS_by (N := n_is_equation) (sc := defScope s_is_equation) (by decide +kernel)) (by have := h.lp; omega) (fun _ _ _ _ _ _ x _ => G.name 5) (by decide)
        (fun _ _ _ _ _ _ x hx => E.call (t_is_pair x n (by have := h.p x hx; omega)) (A.cons (E.var 5) (A.cons (E.var 1) A.nil))))))
      (TW.or1 (T.not_ (T.val (E.allG (k := 2) (xs := e.singles) (enc := nd) [("i", 6)] hP (W.tup (E.var 3)) (Ge.geS_by (N := n_is_equation) (sc := defScope s_is_equation) (by decide +kernel)) (by have := h.ls; omega) (fun _ _ _ _ _ _ x _ => G.name 6) (by decide)
        (fun _ _ _ _ _ _ x hx => E.call (t_is_number_below x n (by have := h.s x hx; omega)) (A.cons (E.var 6) (A.cons (E.var 1) A.nil))))))))) rfl))
  (B.last (P1.ret (E.to (E.and (E.call (t_ascends _ (by rw [List.length_map]; have := h.lp; omega) (fun d hd => by obtain ⟨q, _, rfl⟩ := List.mem_map.mp hd; exact pd_pl q) (fun d hd => by obtain ⟨q, _, rfl⟩ := List.mem_map.mp hd; exact pd_dp q) h.ap) (A.cons (E.var 2) A.nil)) fun _ =>
      E.one (E.call (t_ascends _ (by rw [List.length_map]; have := h.ls; omega) (fun d hd => by obtain ⟨q, _, rfl⟩ := List.mem_map.mp hd; rfl) (fun d hd => by obtain ⟨q, _, rfl⟩ := List.mem_map.mp hd; simp [D.dp]) h.as) (A.cons (E.var 3) A.nil))) rfl))))))
/-! the system -/
abbrev yd (n : Nat) (es : List Eqn) : D := .ins Cf.cY ["n", "equations"] [nd n, esd es]
theorem ed_ni (es : List Eqn) : D.niL (es.map ed) = true := D.niL_map _ (fun e => by
  simp only [D.ni, D.niL, Bool.and_true, Bool.and_eq_true]
  exact ⟨D.niL_map _ (fun q => by simp [D.ni, D.niL]) _, D.niL_map _ (fun q => by simp [D.ni]) _⟩) es
theorem t_System_init (n : Nat) (es : List Eqn) (hn : 1 ≤ n ∧ n ≤ 12) (hes : ∀ e ∈ es, EqOk n e) : Ini Cf.cY ["self", "n", "equations"] 6 [nd n, esd es] ["n", "equations"] [nd n, esd es] := Fx.f_Systemd_initd.go sc_Systemd_initd fun _ _ xa _ _ _ _ _ _ =>
  B0.cons1 (P1.guard (T.to (T.ofW (TW.or (T.not_ (T.val (E.call (t_is_number_below n 13 (by omega)) (A.cons (E.var 1) (A.cons E.int A.nil))))) (TW.or1 (T.eqI (E.var 1) E.int)))) (by simp; omega)))
  (B0.cons1 (P1.guard (T.to (T.not_ (T.val (E.isiLT (E.var 2)))) rfl))
  (B0.cons false (P1.for_ (xs := es.zipIdx) (enc := fun q => D.tup [.int ((q.2 : Nat) : Int), ed q.1]) (fun i g => g = [.obj xa Cf.cY [] [], .val (nd n), .val (esd es), .non, .non]) (W.enumX (E.var 2)) rfl
    (fun i x g hx hg => by
      subst hg
      have hm : x.1 ∈ es := by
        have := List.mem_of_getElem? hx
        obtain ⟨e, k⟩ := x
        exact (List.mem_zipIdx this).2.2 ▸ List.getElem_mem _
      exact ⟨_, _, G.tup (Gs.cons (G.name 3) (Gs.cons (G.name 4) Gs.nil)), B.cons1 (P1.guard (T.to (T.not_ (T.val (E.call (t_is_equation x.1 n (hes _ hm)) (A.cons (E.var 4) (A.cons (E.var 1) A.nil))))) rfl)) (B.nilF [3, 4] rfl)⟩))
    fun g hg => by
      subst hg
      exact B0.fld 0 rfl (by simp [niBut, Sl.ni, D.ni, ed_ni]) ⟨rfl, rfl⟩ (by simp) (by simp) Fx.k_System.own (Fx.k_System.no "n" (by simp)) (E.var 1)
        (B0.fld 0 rfl (by simp [niBut, Sl.ni, D.ni, ed_ni]) ⟨rfl, by simp only [D.ni]; exact ed_ni es⟩ (by decide) (by simp) Fx.k_System.own (Fx.k_System.no "equations" (by simp)) (E.tupOf (E.var 2) .t) (B0.nil rfl))))
theorem t_System_len (n : Nat) (es : List Eqn) : Mt Cf.cY "__len__" ["self"] 1 none [yd n es] (fun d => d = .int (es.length : Int)) := Fx.f_Systemd_lend.go false sc_Systemd_lend fun _ _ _ _ _ _ _ _ =>
  B.last (P1.ret (E.to (E.len (E.fld (E.var 0) Fx.k_System.own (Fx.k_System.no "equations" (by simp)) 1 rfl rfl (by decide)) .t) (by rw [List.length_map])))
end Ty
namespace Ty
open PySem PySem.Spec PyProof.Rows L2
/-! ### the drawn square -/
def flipM (m : List (List Bool)) (i j : Nat) : List (List Bool) := m.modify i fun r => r.modify j (!·)
def applyE (m : List (List Bool)) (e : Eqn) : List (List Bool) := e.singles.foldl (fun m i => flipM m i i) (e.pairs.foldl (fun m p => flipM m p.1 p.2) m)
def zeroM (n : Nat) : List (List Bool) := List.replicate n (zeroW n)
def drawnStep (m : List (List Bool)) (q : Bool × Eqn) : List (List Bool) := if q.1 then applyE m q.2 else m
def drawnM (n : Nat) (cs : List Bool) (es : List Eqn) : List (List Bool) := (cs.zip es).foldl drawnStep (zeroM n)
def drawnT (cs : List Bool) (es : List Eqn) : Int := (cs.zip es).foldl (fun t q => if q.1 then t + bi q.2.right else t) 0
def drawnB (cs : List Bool) (es : List Eqn) : Bool := decide (drawnT cs es % 2 = 1)
abbrev rI (m : List (List Bool)) : List (List Int) := m.map fun r => r.map bi
theorem sq_flip {n : Nat} {m : List (List Bool)} (h : Sq n m) (i j : Nat) : Sq n (flipM m i j) := by
  refine ⟨by unfold flipM; rw [List.length_modify]; exact h.1, fun r hr => ?_⟩
  unfold flipM at hr
  obtain ⟨k, hk, rfl⟩ := List.getElem_of_mem hr
  rw [List.getElem_modify]
  split
  · rw [List.length_modify]; exact h.2 _ (List.getElem_mem _)
  · exact h.2 _ (List.getElem_mem _)
theorem sq_foldl {α : Type} {n : Nat} {f : List (List Bool) → α → List (List Bool)} (hf : ∀ m a, Sq n m → Sq n (f m a)) : ∀ (l : List α) {m : List (List Bool)}, Sq n m → Sq n (l.foldl f m)
  | [], _, h => h
  | a :: l, _, h => sq_foldl hf l (hf _ a h)
theorem sq_apply {n : Nat} {m : List (List Bool)} (h : Sq n m) (e : Eqn) : Sq n (applyE m e) := sq_foldl (fun m a h => sq_flip h _ _) _ (sq_foldl (fun m a h => sq_flip h _ _) _ h)
theorem sq_step {n : Nat} {m : List (List Bool)} (h : Sq n m) (q : Bool × Eqn) : Sq n (drawnStep m q) := by
  unfold drawnStep
  split
  · exact sq_apply h _
  · exact h
theorem sq_zero (n : Nat) : Sq n (zeroM n) := ⟨by simp [zeroM], fun r hr => by rw [(List.mem_replicate.mp hr).2]; simp [zeroW]⟩
theorem sq_drawn (n : Nat) (cs : List Bool) (es : List Eqn) : Sq n (drawnM n cs es) := sq_foldl (fun m a h => sq_step h a) _ (sq_zero n)
/-- the item at (i, j) -/
theorem flip_eq {n : Nat} {m : List (List Bool)} (h : Sq n m) {i j : Nat} (hi : i < n) (hj : j < n) : ∃ r b, m[i]? = some r ∧ r.length = n ∧ r[j]? = some b ∧ (rI m).set i ((r.map bi).set j (1 - bi b)) = rI (flipM m i j) := by
  have h1 : m[i]? = some (m[i]'(by rw [h.1]; exact hi)) := List.getElem?_eq_getElem _
  have hl : (m[i]'(by rw [h.1]; exact hi)).length = n := h.2 _ (List.getElem_mem _)
  refine ⟨_, _, h1, hl, List.getElem?_eq_getElem (by rw [hl]; exact hj), ?_⟩
  refine List.ext_getElem? fun k => ?_
  unfold flipM
  rw [List.getElem?_map, List.getElem?_modify, List.getElem?_set]
  by_cases e : i = k
  · subst e
    rw [if_pos rfl, if_pos (by rw [List.length_map, h.1]; exact hi), h1]
    simp only [Option.map_eq_map, Option.map_some, if_true, Option.some.injEq]
    refine List.ext_getElem? fun l => ?_
    rw [List.getElem?_map, List.getElem?_modify, List.getElem?_set]
    by_cases e2 : j = l
    · subst e2
      rw [if_pos rfl, if_pos (by rw [List.length_map, hl]; exact hj), List.getElem?_eq_getElem (by rw [hl]; exact hj)]
      simp only [Option.map_eq_map, Option.map_some, if_true, Option.some.injEq]
      cases (m[i]'(by rw [h.1]; exact hi))[j]'(by rw [hl]; exact hj) <;> rfl
    · rw [if_neg e2, List.getElem?_map]
      simp only [Option.map_eq_map, e2, if_false]
      cases (m[i]'(by rw [h.1]; exact hi))[l]? <;> rfl
  · rw [if_neg e, List.getElem?_map]
    simp only [Option.map_eq_map, e, if_false]
    cases m[k]? <;> rfl
variable [Cf] [Fx]
theorem ps_flip {X : Cx} {s : Nat} {b c a : Expr} {x : Str} {p1 p2 p3 pos : Pos} (hN : X.N[s]? = some x) (hv : Vis X.env.scope x) (h1 : PlainIx b) (hdb : (x == ("__debug__" : Str)) = false) (hcd : (x == ("__classdict__" : Str)) = false)
    (ha : ∀ v, assign (.Subscript (.Subscript (.Name x p1) b p2) c p3) X.env v = (do
      let ov ← holding [v] (eval (.Subscript (.Name x p1) b p2) X.env)
      let iv ← holding [v, ov] (eval c X.env)
      standAt p3
      holding [v, ov, iv] (PySem.setItem ov iv v)
      release [v, ov, iv] []))
    (hs : swapsWithSole [.Subscript (.Subscript (.Name x p1) b p2) c p3] a pos.line X.env = pure false) (hw : swappedStores [.Subscript (.Subscript (.Name x p1) b p2) c p3] a X.env = pure none)
    (h2 : (assignEach [.Subscript (.Subscript (.Name x p1) b p2) c p3] X.env).map (·.2) = [assign (.Subscript (.Subscript (.Name x p1) b p2) c p3) X.env]) :
    PS X (.Assign [.Subscript (.Subscript (.Name x p1) b p2) c p3] a pos) (tAsg (tS X a) (gSub (tOp (rIxL X.K) (tVar s) (tS X b)) (tS X c) rSetL)) :=
  ps_asg pe_s (pg_sub (pe_ix ix_list (pe_var hN hv hdb hcd) pe_s h1) pe_s set_list ha) hs hw h2
section
variable {k : Nat} {X : Cx} {M : Option TpA} {mu : Bool} {Γ : List Sl} {a b c b' c' : Expr} {p1 p2 p3 q1 q2 q3 pos pos2 : Pos} {x : Str} {S : D → Prop} {kc : Nat} {pc : Pos}
/-- rows[i][j] = 1 - rows[i][j] -/
theorem P1.flipB (s : Nat) {n : Nat} {m : List (List Bool)} {i j : Nat} (hs : Sq n m) (hij : i < n ∧ j < n) (hΓ : Γ[s]? = some (.mat (rI m))) (hi : imBut Γ s = true) (hb : E1 k X M Γ b (nd i)) (hc : E1 k X M Γ c (nd j)) (hb' : E1 k X M Γ b' (nd i)) (hc' : E1 k X M Γ c' (nd j)) (hm : mu = true) (hN : X.N[s]? = some x := by rfl) (hv : Vis X.env.scope x := by first | exact Or.inl rfl | exact Or.inr (Or.inl rfl) | exact Or.inr (Or.inr rfl)) (hdb : (x == ("__debug__" : Str)) = false := by decide) (hcd : (x == ("__classdict__" : Str)) = false := by decide)
    (h1 : PlainIx b := by intro _ _; rfl) (h1' : PlainIx b' := by intro _ _; rfl) (h2 : PlainIx c' := by intro _ _; rfl)
    (ha : ∀ v, assign (.Subscript (.Subscript (.Name x p1) b p2) c p3) X.env v = (do
      let ov ← holding [v] (eval (.Subscript (.Name x p1) b p2) X.env)
      let iv ← holding [v, ov] (eval c X.env)
      standAt p3
      holding [v, ov, iv] (PySem.setItem ov iv v)
      release [v, ov, iv] []) := by intro _; rfl)
    (hsw : swapsWithSole [.Subscript (.Subscript (.Name x p1) b p2) c p3] (.BinOp (.Constant (.int 1) kc pc) .Sub (.Subscript (.Subscript (.Name x q1) b' q2) c' q3) pos2) pos.line X.env = pure false := by rfl) (hw : swappedStores [.Subscript (.Subscript (.Name x p1) b p2) c p3] (.BinOp (.Constant (.int 1) kc pc) .Sub (.Subscript (.Subscript (.Name x q1) b' q2) c' q3) pos2) X.env = pure none := by rfl)
    (hes : (assignEach [.Subscript (.Subscript (.Name x p1) b p2) c p3] X.env).map (·.2) = [assign (.Subscript (.Subscript (.Name x p1) b p2) c p3) X.env] := by rfl) :
    P1 k X M mu Γ (.Assign [.Subscript (.Subscript (.Name x p1) b p2) c p3] (.BinOp (.Constant (.int 1) kc pc) .Sub (.Subscript (.Subscript (.Name x q1) b' q2) c' q3) pos2) pos) (fun g => g = Γ.set s (.mat (rI (flipM m i j)))) S := by
  obtain ⟨r, z, e1, e2, e3, e4⟩ := flip_eq hs hij.1 hij.2
  have er : (rI m)[i]? = some (r.map bi) := by rw [List.getElem?_map, e1]; rfl
  have := P1.flip (S := S) (mu := mu) s (i := (i : Int)) (j := (j : Int)) (z := 1 - bi z) (r := r.map bi) hΓ hi (by omega) (by rw [Int.toNat_natCast]; exact er) (by rw [List.length_map, e2]; omega)
    (E.sub E.int (E.ixL (ds := (r.map bi).map D.int) (E.ixL (ds := (rI m).map fun r => D.lst (r.map D.int)) (E.varM s hΓ hN hv hdb hcd) hb' (by rw [atD_nat, List.getElem?_map, er]; rfl) h1') hc' (by rw [atD_nat, List.getElem?_map, List.getElem?_map, e3]; rfl) h2)) hb hc hm (ps_flip hN hv h1 hdb hcd ha hsw hw hes)
  rw [Int.toNat_natCast, Int.toNat_natCast, e4] at this
  exact this
end
end Ty
namespace Ty
open PySem PySem.Spec PyProof.Rows L2
variable [Cf] [Fx]
theorem im_bits (w : List Bool) : D.imL (w.map bd) = true := D.imL_map _ (fun _ => rfl) _
theorem im_nds (w : List Nat) : D.imL (w.map nd) = true := D.imL_map _ (fun _ => rfl) _
theorem im_pds (w : List (Nat × Nat)) : D.imL (w.map pd) = true := D.imL_map _ (fun q => by simp [D.im, D.imL]) _
theorem im_ed (e : Eqn) : (ed e).im = true := by simp [D.im, D.imL, im_nds, im_pds]
theorem im_eds (es : List Eqn) : D.imL (es.map ed) = true := D.imL_map _ im_ed _
theorem im_wds (m : List (List Bool)) : D.imL (m.map wd) = true := D.imL_map _ (fun w => by simp [D.im, im_bits]) _
theorem im_sds (m : List (List (List Bool))) : D.imL (m.map sd) = true := D.imL_map _ (fun w => by simp [D.im, im_wds]) _
theorem foldl_take {α β : Type} (f : β → α → β) (b : β) {l : List α} {i : Nat} {x : α} (h : l[i]? = some x) : (l.take (i + 1)).foldl f b = f ((l.take i).foldl f b) x := by
  rw [List.take_add_one, h, List.foldl_append]
  rfl
theorem e_fld_n {k : Nat} {X : Cx} {M : Option TpA} {Γ : List Sl} {o : Expr} {pos : Pos} {n : Nat} {es : List Eqn} (ho : E1 k X M Γ o (yd n es)) (hb2 : attributeBase o "n" X.env (eval o X.env) = eval o X.env := by rfl) : E1 k X M Γ (.Attribute o "n" pos) (nd n) := E.fld ho Fx.k_System.own (Fx.k_System.no "n" (by simp)) 0 rfl rfl (by decide) hb2
theorem e_fld_es {k : Nat} {X : Cx} {M : Option TpA} {Γ : List Sl} {o : Expr} {pos : Pos} {n : Nat} {es : List Eqn} (ho : E1 k X M Γ o (yd n es)) (hb2 : attributeBase o "equations" X.env (eval o X.env) = eval o X.env := by rfl) : E1 k X M Γ (.Attribute o "equations" pos) (esd es) := E.fld ho Fx.k_System.own (Fx.k_System.no "equations" (by simp)) 1 rfl rfl (by decide) hb2
theorem t_drawn (n : Nat) (es : List Eqn) (cs : List Bool) (hn : 1 ≤ n ∧ n ≤ 12) (hes : ∀ e ∈ es, EqOk n e) (hl : cs.length = es.length) (hl2 : es.length ≤ 100) :
    Mt Cf.cY "drawn" ["self", "chosen"] 4 none [yd n es, wd cs] (fun d => d = .tup [sd (drawnM n cs es), bd (drawnB cs es)]) := by
  refine Fx.f_System_drawn.go true sc_System_drawn fun _ _ _ hP _ _ _ _ _ _ => ?_
  refine B.cons1 (P1.guard (T.to (T.ofW (TW.or (T.not_ (T.val (E.isi (b' := true) (E.var 1) (E.tyN (by decide) boot_tuple) rfl (by decide +kernel)))) (TW.or1 (T.neI (E.len (E.var 1) .t) (E.len (e_fld_es (E.var 0)) .t))))) (by simp [hl]))) ?_
  refine B.cons1 (P1.guard (T.to (T.not_ (T.val (E.allG (k := 1) (xs := cs) (enc := bd) [("bit", 4)] hP (W.tup (E.var 1)) (Ge.geS_by (N := n_System_drawn) (sc := defScope s_System_drawn) (by decide +kernel)) (by omega) (fun _ _ _ _ _ _ x _ => G.name 4) (by decide)
      (fun _ _ _ _ _ _ x _ => E.call (t_is_number_below (bi x) 2 (by have := bi_ge x; have := bi_le x; omega)) (A.cons (E.var 4) (A.cons E.int A.nil)))))) rfl)) ?_
  refine B.cons (P1.setMat (f := fun _ => (zeroW n).map bi) 2 [("k", 10)] (W.range1 (e_fld_n (E.var 0)) (by omega)) (blkOk_by (N := n_System_drawn) (sc := defScope s_System_drawn) (by decide +kernel)) (by rw [List.length_range]; omega) (fun _ _ _ _ _ x _ => G.name 10) (by decide)
      (fun _ _ _ _ _ x _ => EF.mono (EF.repL (E.lst (A.cons E.int A.nil)) (e_fld_n (E.var 0)) (by omega)) fun ds h => by rw [h, zeroW, List.map_replicate, List.map_replicate]; rfl) (sw_true rfl rfl rfl (by decide +kernel))) fun g hg => ?_
  have hz : ((List.range n).map fun _ => (zeroW n).map bi) = rI (zeroM n) := by
    unfold zeroM
    rw [rI, List.map_replicate]
    exact List.ext_getElem (by simp) fun i h1 h2 => by simp
  rw [hz] at hg
  subst hg
  refine B.cons1 (P1.set 3 E.int) (B.cons (P1.for_ (xs := cs.zip es) (enc := fun q => D.tup [bd q.1, ed q.2])
    (fun i g => g = [.val (yd n es), .val (wd cs), .mat (rI (((cs.zip es).take i).foldl drawnStep (zeroM n))), .val (.int (((cs.zip es).take i).foldl (fun t q => if q.1 then t + bi q.2.right else t) 0)), .non, .non, .non, .non, .non, .non, .non, .non])
    (W.zipT (E.var 1) (e_fld_es (E.var 0)) (fun _ => ⟨im_bits _, im_eds _⟩)) rfl (fun i x g hx hg => ?_)) fun g hg => ?_)
  · subst hg
    obtain ⟨b, e⟩ := x
    have he : e ∈ es := (List.of_mem_zip (List.mem_of_getElem? hx)).2
    have hq := hes e he
    have hsq : Sq n (((cs.zip es).take i).foldl drawnStep (zeroM n)) := sq_foldl (fun m a h => sq_step h a) _ (sq_zero n)
    refine ⟨_, _, G.tup (Gs.cons (G.name 4) (Gs.cons (G.tup (Gs.cons (G.name 5) (Gs.cons (G.name 6) (Gs.cons (G.name 7) Gs.nil)))) Gs.nil)), ?_⟩
    rw [foldl_take drawnStep _ hx, foldl_take _ _ hx]
    generalize ((cs.zip es).take i).foldl drawnStep (zeroM n) = m at *
    generalize ((cs.zip es).take i).foldl (fun t q => if q.1 then t + bi q.2.right else t) 0 = t at *
    cases b with
    | false => exact B.cons1 (P1.guard (T.to (T.eqI (E.var 4) E.int) rfl)) (B.nilF [4, 5, 6, 7] rfl)
    | true =>
      refine B.cons (P1.ifT (T.to (T.eqI (E.var 4) E.int) rfl) (N := fun g => g = [.val (yd n es), .val (wd cs), .mat (rI (applyE m e)), .val (.int (t + bi e.right)), .non, .non, .non, .non, .non, .non, .non, .non]) ?_) (fun g hg => B.nil hg)
      refine B.cons (P1.for_ (xs := e.pairs) (enc := pd)
        (fun j g => g = [.val (yd n es), .val (wd cs), .mat (rI ((e.pairs.take j).foldl (fun m p => flipM m p.1 p.2) m)), .val (.int t), .val (bd true), .val (.tup (e.pairs.map pd)), .val (.tup (e.singles.map nd)), .val (bd e.right), .non, .non, .non, .non])
        (W.tup (E.var 5) (fun _ => im_pds _)) rfl (fun j y g hy hg => ?_)) fun g hg => ?_
      · subst hg
        refine ⟨_, _, G.tup (Gs.cons (G.name 8) (Gs.cons (G.name 9) Gs.nil)), ?_⟩
        rw [foldl_take _ _ hy]
        have hm : y ∈ e.pairs := List.mem_of_getElem? hy
        exact B.cons1 (P1.flipB 2 (n := n) (sq_foldl (fun m a h => sq_flip h _ _) _ hsq) (by have := hq.p y hm; omega) rfl (by simp [imBut, Sl.im, D.im, D.imL, im_bits, im_eds, im_pds, im_nds]) (E.var 8) (E.var 9) (E.var 8) (E.var 9) rfl) (B.nilF [8, 9] rfl)
      subst hg
      rw [List.take_length]
      refine B.cons (P1.for_ (xs := e.singles) (enc := nd)
        (fun j g => g = [.val (yd n es), .val (wd cs), .mat (rI ((e.singles.take j).foldl (fun m i => flipM m i i) (e.pairs.foldl (fun m p => flipM m p.1 p.2) m))), .val (.int t), .val (bd true), .val (.tup (e.pairs.map pd)), .val (.tup (e.singles.map nd)), .val (bd e.right), .non, .non, .non, .non])
        (W.tup (E.var 6) (fun _ => im_nds _)) rfl (fun j y g hy hg => ?_)) fun g hg => ?_
      · subst hg
        refine ⟨_, _, G.name 8, ?_⟩
        rw [foldl_take _ _ hy]
        have hm : y ∈ e.singles := List.mem_of_getElem? hy
        exact B.cons1 (P1.flipB 2 (n := n) (sq_foldl (fun m a h => sq_flip h _ _) _ (sq_foldl (fun m a h => sq_flip h _ _) _ hsq)) (by have := hq.s y hm; omega) rfl (by simp [imBut, Sl.im, D.im, D.imL, im_bits, im_eds, im_pds, im_nds]) (E.var 8) (E.var 8) (E.var 8) (E.var 8) rfl) (B.nilF [8] rfl)
      subst hg
      rw [List.take_length]
      exact B.cons1 (P1.augAdd 3 rfl (E.var 7) (ps_aug sc_System_drawn.nd rfl (.inl rfl) pe_s ip_add)) (B.nilF [4, 5, 6, 7] rfl)
  · subst hg
    rw [List.take_length]
    exact B.last (P1.ret (E.to (E.tup (A.cons (E.tupOf (E.lcM (f := fun r : List Int => D.tup (r.map D.int)) [("row", 11)] (W.lst (E.varM 2)) (blkOk_by (N := n_System_drawn) (sc := defScope s_System_drawn) (by decide +kernel)) (by have := (sq_drawn n cs es).1; unfold drawnM at this; rw [List.length_map]; omega)
      (fun _ _ _ _ _ x _ => G.name 11) (by decide) (fun r => by simp only [D.im]; exact D.imL_map _ (fun _ => rfl) _) (fun _ _ _ _ _ x _ => E.tupOf (E.var 11) .l)) .l) (A.cons (E.mod (E.var 3) E.int (by decide)) A.nil)))
      (by
        unfold drawnB drawnT
        rw [bd, ← bi_mod2, rI, List.map_map]
        have h1 : List.map ((fun r : List Int => D.tup (r.map D.int)) ∘ fun r : List Bool => r.map bi) ((cs.zip es).foldl drawnStep (zeroM n)) = (drawnM n cs es).map wd :=
          List.map_congr_left fun r _ => by show D.tup _ = D.tup _; rw [List.map_map]; rfl
        rw [h1])))
end Ty
namespace Ty
open PySem PySem.Spec PyProof.Rows L2
variable [Cf] [Fx]
/-! ### papers -/
abbrev tpn : List Str := ["n", "f", "g"]
abbrev spn : List Str := ["n", "word", "square", "words", "squares"]
inductive Pap where
  | tab (n : Nat) (f g : List Bool)
  | sums (n : Nat) (w : List Bool) (s : List (List Bool)) (ws : List (List Bool)) (ss : List (List (List Bool)))
def Pap.n : Pap → Nat
  | .tab n _ _ => n
  | .sums n _ _ _ _ => n
abbrev wds (ws : List (List Bool)) : D := .tup (ws.map wd)
abbrev sds (ss : List (List (List Bool))) : D := .tup (ss.map sd)
/-- as instances -/
abbrev tabD (n : Nat) (f g : List Bool) : D := .ins Cf.cT tpn [nd n, wd f, wd g]
abbrev sumD (n : Nat) (w : List Bool) (s : List (List Bool)) (ws : List (List Bool)) (ss : List (List (List Bool))) : D := .ins Cf.cS spn [nd n, wd w, sd s, wds ws, sds ss]
def Pap.d : Pap → D
  | .tab n f g => tabD n f g
  | .sums n w s ws ss => sumD n w s ws ss
structure PapOk (p : Pap) : Prop where
  ok : match p with
    | .tab n f g => (1 ≤ n ∧ n ≤ 3) ∧ f.length = 2 ^ n ∧ g.length = 2 ^ (n * n)
    | .sums n w s ws ss => (1 ≤ n ∧ n ≤ 12) ∧ w.length = n ∧ Sq n s ∧ (∀ x ∈ ws, x.length = n) ∧ (∀ x ∈ ss, Sq n x) ∧ ws.length ≤ 100 ∧ ss.length ≤ 100
/-- the letters -/
def letF : Pap → List Bool → Bool
  | .tab _ f _, x => f.getD (num x) false
  | .sums _ w _ ws _, x => parW w x ^^ decide (x ∈ ws)
def letG : Pap → List (List Bool) → Bool
  | .tab _ _ g, x => g.getD (num x.flatten) false
  | .sums _ _ s _ ss, x => parS s x ^^ decide (x ∈ ss)
theorem numFrom_lt : ∀ (w : List Bool) (z : Nat), numFrom z w < (z + 1) * 2 ^ w.length
  | [], z => by simp [numFrom]
  | b :: w, z => by
    have h := numFrom_lt w (2 * z + (if b then 1 else 0))
    have e : numFrom z (b :: w) = numFrom (2 * z + (if b then 1 else 0)) w := rfl
    rw [e]
    refine Nat.lt_of_lt_of_le h ?_
    rw [List.length_cons, Nat.pow_succ]
    have h2 : (2 * z + (if b then 1 else 0) + 1) ≤ (z + 1) * 2 := by cases b <;> simp <;> omega
    calc (2 * z + (if b then 1 else 0) + 1) * 2 ^ w.length ≤ ((z + 1) * 2) * 2 ^ w.length := Nat.mul_le_mul_right _ h2
      _ = (z + 1) * (2 ^ w.length * 2) := by rw [Nat.mul_assoc, Nat.mul_comm 2]
theorem num_lt (w : List Bool) : num w < 2 ^ w.length := by
  have := numFrom_lt w 0
  rw [Nat.zero_add, Nat.one_mul] at this
  exact this
theorem ni_bits (w : List Bool) : D.niL (w.map bd) = true := D.niL_map _ (fun _ => rfl) _
theorem ni_wds (m : List (List Bool)) : D.niL (m.map wd) = true := D.niL_map _ (fun w => by simp [D.ni, ni_bits]) _
theorem ni_sds (m : List (List (List Bool))) : D.niL (m.map sd) = true := D.niL_map _ (fun w => by simp [D.ni, ni_wds]) _
theorem t_Table_init (n : Nat) (f g : List Bool) (hn : 1 ≤ n ∧ n ≤ 3) (hf : f.length = 2 ^ n) (hg : g.length = 2 ^ (n * n)) : Ini Cf.cT ["self", "n", "f", "g"] 4 [nd n, wd f, wd g] tpn [nd n, wd f, wd g] := Fx.f_TablePaperd_initd.go sc_TablePaperd_initd fun _ _ xa _ _ _ _ _ _ => by
  have p1 : f.length ≤ 8 := by rw [hf]; obtain h | h | h : n = 1 ∨ n = 2 ∨ n = 3 := by omega
                               all_goals subst h; decide
  have p2 : g.length ≤ 512 := by rw [hg]; obtain h | h | h : n = 1 ∨ n = 2 ∨ n = 3 := by omega
                                 all_goals subst h; decide
  have hnn : n * n ≤ 9 := Nat.mul_le_mul hn.2 hn.2
  refine B0.cons1 (P1.guard (T.to (T.ofW (TW.or (T.not_ (T.val (E.isi (b' := true) (E.var 1) (E.tyN (by decide) boot_int) rfl (by decide +kernel)))) (TW.or (T.val (E.isi (b' := false) (E.var 1) (E.tyN (by decide) boot_bool) rfl (by decide +kernel))) (TW.or1 (T.not_ (T.leLe E.int (E.var 1) E.int)))))) (by simp; omega))) ?_
  refine B0.cons1 (P1.guard (T.to (T.not_ (T.val (E.call (t__are_bits f (f.length : Int) (by omega) rfl) (A.cons (E.var 2) (A.cons (E.to (E.shl E.int (E.var 1) ⟨by omega, by omega, by decide⟩) (by rw [hf]; simp)) A.nil))))) rfl)) ?_
  refine B0.cons1 (P1.guard (T.to (T.not_ (T.val (E.call (t__are_bits g (g.length : Int) (by omega) rfl) (A.cons (E.var 3) (A.cons (E.to (E.shl E.int (E.to (d' := .int ((n * n : Nat) : Int)) (E.mul (E.var 1) (E.var 1) (.inl ⟨by omega, by omega⟩)) (by rw [Int.natCast_mul])) ⟨by omega, by omega, by decide⟩) (by rw [hg, Int.toNat_natCast]; simp)) A.nil))))) rfl)) ?_
  exact B0.fld 0 rfl (by simp [niBut, ent, Sl.ni, D.ni, ni_bits]) ⟨rfl, rfl⟩ (by simp) (by simp) Fx.k_TablePaper.own (Fx.k_TablePaper.no "n" (by simp)) (E.var 1)
    (B0.fld 0 rfl (by simp [niBut, ent, Sl.ni, D.ni, ni_bits]) ⟨rfl, by simp only [D.ni]; exact ni_bits _⟩ (by decide) (by simp) Fx.k_TablePaper.own (Fx.k_TablePaper.no "f" (by simp)) (E.var 2)
    (B0.fld 0 rfl (by simp [niBut, ent, Sl.ni, D.ni, ni_bits]) ⟨by simp [D.niL, D.ni, ni_bits], by simp only [D.ni]; exact ni_bits _⟩ (by decide) (by simp) Fx.k_TablePaper.own (Fx.k_TablePaper.no "g" (by simp)) (E.var 3) (B0.nil rfl)))
section
variable {k : Nat} {X : Cx} {M : Option TpA} {Γ : List Sl} {o : Expr} {pos : Pos} {n : Nat} {f g w : List Bool} {s ws : List (List Bool)} {ss : List (List (List Bool))}
theorem t_n (ho : E1 k X M Γ o (tabD n f g)) (hb2 : attributeBase o "n" X.env (eval o X.env) = eval o X.env := by rfl) : E1 k X M Γ (.Attribute o "n" pos) (nd n) := E.fld ho Fx.k_TablePaper.own (Fx.k_TablePaper.no "n" (by simp)) 0 rfl rfl (by decide) hb2
theorem t_f (ho : E1 k X M Γ o (tabD n f g)) (hb2 : attributeBase o "f" X.env (eval o X.env) = eval o X.env := by rfl) : E1 k X M Γ (.Attribute o "f" pos) (wd f) := E.fld ho Fx.k_TablePaper.own (Fx.k_TablePaper.no "f" (by simp)) 1 rfl rfl (by decide) hb2
theorem t_g (ho : E1 k X M Γ o (tabD n f g)) (hb2 : attributeBase o "g" X.env (eval o X.env) = eval o X.env := by rfl) : E1 k X M Γ (.Attribute o "g" pos) (wd g) := E.fld ho Fx.k_TablePaper.own (Fx.k_TablePaper.no "g" (by simp)) 2 rfl rfl (by decide) hb2
theorem s_n (ho : E1 k X M Γ o (sumD n w s ws ss)) (hb2 : attributeBase o "n" X.env (eval o X.env) = eval o X.env := by rfl) : E1 k X M Γ (.Attribute o "n" pos) (nd n) := E.fld ho Fx.k_SumsPaper.own (Fx.k_SumsPaper.no "n" (by simp)) 0 rfl rfl (by decide) hb2
theorem s_word (ho : E1 k X M Γ o (sumD n w s ws ss)) (hb2 : attributeBase o "word" X.env (eval o X.env) = eval o X.env := by rfl) : E1 k X M Γ (.Attribute o "word" pos) (wd w) := E.fld ho Fx.k_SumsPaper.own (Fx.k_SumsPaper.no "word" (by simp)) 1 rfl rfl (by decide) hb2
theorem s_square (ho : E1 k X M Γ o (sumD n w s ws ss)) (hb2 : attributeBase o "square" X.env (eval o X.env) = eval o X.env := by rfl) : E1 k X M Γ (.Attribute o "square" pos) (sd s) := E.fld ho Fx.k_SumsPaper.own (Fx.k_SumsPaper.no "square" (by simp)) 2 rfl rfl (by decide) hb2
theorem s_words (ho : E1 k X M Γ o (sumD n w s ws ss)) (hb2 : attributeBase o "words" X.env (eval o X.env) = eval o X.env := by rfl) : E1 k X M Γ (.Attribute o "words" pos) (wds ws) := E.fld ho Fx.k_SumsPaper.own (Fx.k_SumsPaper.no "words" (by simp)) 3 rfl rfl (by decide) hb2
theorem s_squares (ho : E1 k X M Γ o (sumD n w s ws ss)) (hb2 : attributeBase o "squares" X.env (eval o X.env) = eval o X.env := by rfl) : E1 k X M Γ (.Attribute o "squares" pos) (sds ss) := E.fld ho Fx.k_SumsPaper.own (Fx.k_SumsPaper.no "squares" (by simp)) 4 rfl rfl (by decide) hb2
end
theorem t_tab_letter_f (n : Nat) (f g x : List Bool) (hn : 1 ≤ n ∧ n ≤ 3) (hf : f.length = 2 ^ n) (hx : x.length = n) : Mt Cf.cT "letter_f" ["self", "word"] 9 none [tabD n f g, wd x] (fun d => d = bd (f.getD (num x) false)) := Fx.f_TablePaper_letter_f.go false sc_TablePaper_letter_f fun _ _ _ _ _ _ _ _ =>
  B.cons1 (P1.guard (T.to (T.not_ (T.val (E.call (t_is_word x n (by omega) (by rw [hx])) (A.cons (E.var 1) (A.cons (t_n (E.var 0)) A.nil))))) rfl))
    (B.last (P1.ret (E.ixT (t_f (E.var 0)) (E.call (t_number_of x (by omega)) (A.cons (E.var 1) A.nil)) (by
      have h := num_lt x
      rw [hx, ← hf] at h
      rw [atD_nat, List.getElem?_map, List.getD_eq_getElem?_getD, List.getElem?_eq_getElem h]
      rfl))))
theorem t_tab_letter_g (n : Nat) (f g : List Bool) (x : List (List Bool)) (hn : 1 ≤ n ∧ n ≤ 3) (hg : g.length = 2 ^ (n * n)) (hx : Sq n x) : Mt Cf.cT "letter_g" ["self", "square"] 12 none [tabD n f g, sd x] (fun d => d = bd (g.getD (num x.flatten) false)) := by
  refine Fx.f_TablePaper_letter_g.go false sc_TablePaper_letter_g fun _ _ _ _ _ _ _ _ => ?_
  have hl : x.flatten.length = n * n := by rw [sq_flat_len hx.2, hx.1]
  have hnn : n * n ≤ 9 := Nat.mul_le_mul hn.2 hn.2
  refine B.cons1 (P1.guard (T.to (T.not_ (T.val (E.call (t_is_square x n (by omega) hx) (A.cons (E.var 1) (A.cons (t_n (E.var 0)) A.nil))))) rfl)) ?_
  refine B.cons1 (P1.set 2 E.int) (B.cons (P1.for_ (xs := x.flatten) (enc := bd) (fun i h => h = [.val (tabD n f g), .val (sd x), .val (.int (num (x.flatten.take i) : Nat)), .non]) (W.tup (E.call (t_rows_together x (by have := hx.1; omega) (by omega)) (A.cons (E.var 1) A.nil))) rfl
    (fun i b h hb hg => by
      subst hg
      refine ⟨_, _, G.name 3, B.cons1 (P1.set 2 (E.to (E.add (E.mul E.int (E.var 2) (.inl ⟨by omega, by omega⟩)) (E.var 3)) ?_)) (B.nilF [3] rfl)⟩
      have : num (x.flatten.take (i + 1)) = 2 * num (x.flatten.take i) + (if b then 1 else 0) := by
        unfold num numFrom
        rw [List.take_add_one, hb]
        simp
      rw [this]
      cases b <;> simp [bi] <;> rfl)) fun h hg => ?_)
  subst hg
  rw [List.take_length]
  exact B.last (P1.ret (E.ixT (t_g (E.var 0)) (E.var 2) (by
      have h := num_lt x.flatten
      rw [hl, ← hg] at h
      rw [atD_nat, List.getElem?_map, List.getD_eq_getElem?_getD, List.getElem?_eq_getElem h]
      rfl)))
theorem wd_inj : ∀ x y : List Bool, wd x = wd y → x = y := fun x y h => by
  injection h with h
  have hb : ∀ a b : Bool, bd a = bd b → a = b := fun a b h => by cases a <;> cases b <;> first | rfl | (injection h with h; simp [bi] at h)
  induction x generalizing y with
  | nil => cases y with
    | nil => rfl
    | cons _ _ => cases h
  | cons a x ih => cases y with
    | nil => cases h
    | cons b y =>
      simp only [List.map_cons, List.cons.injEq] at h
      rw [hb _ _ h.1, ih y h.2]
theorem sd_inj : ∀ x y : List (List Bool), sd x = sd y → x = y := fun x y h => by
  injection h with h
  induction x generalizing y with
  | nil => cases y with
    | nil => rfl
    | cons _ _ => cases h
  | cons a x ih => cases y with
    | nil => cases h
    | cons b y =>
      simp only [List.map_cons, List.cons.injEq] at h
      rw [wd_inj _ _ h.1, ih y h.2]
theorem wd_pl (x : List Bool) : (wd x).pl = true := by simp only [D.pl]; exact D.plL_map _ (fun _ => rfl) _
theorem sd_pl (x : List (List Bool)) : (sd x).pl = true := by simp only [D.pl]; exact D.plL_map _ wd_pl _
theorem wd_dp1 (x : List Bool) : (wd x).dp ≤ 1 := by simp only [D.dp]; have := D.dpL_map bd 0 (fun _ => Nat.le_refl 0) x; omega
theorem wd_dp (x : List Bool) : (wd x).dp ≤ 8 := Nat.le_trans (wd_dp1 x) (by decide)
theorem sd_dp2 (x : List (List Bool)) : (sd x).dp ≤ 2 := by simp only [D.dp]; have := D.dpL_map wd 1 wd_dp1 x; omega
theorem sd_dp (x : List (List Bool)) : (sd x).dp ≤ 8 := Nat.le_trans (sd_dp2 x) (by decide)
theorem bi_if (b : Bool) : (if b then (1 : Int) else 0) = bi b := rfl
theorem t_sum_letter_f (n : Nat) (w : List Bool) (s ws : List (List Bool)) (ss : List (List (List Bool))) (x : List Bool) (hn : 1 ≤ n ∧ n ≤ 12) (hw : w.length = n) (hx : x.length = n) : Mt Cf.cS "letter_f" ["self", "word"] 10 none [sumD n w s ws ss, wd x] (fun d => d = bd (parW w x ^^ decide (x ∈ ws))) := Fx.f_SumsPaper_letter_f.go false sc_SumsPaper_letter_f fun _ _ _ _ _ _ _ _ =>
  B.cons1 (P1.guard (T.to (T.not_ (T.val (E.call (t_is_word x n (by omega) (by rw [hx])) (A.cons (E.var 1) (A.cons (s_n (E.var 0)) A.nil))))) rfl))
    (B.last (P1.ret (E.to (E.xor_ (E.call (t_product_of w x (by omega) (by omega)) (A.cons (s_word (E.var 0)) (A.cons (E.var 1) A.nil))) (E.intB (E.inT wd_inj wd_pl wd_dp (E.var 1) (s_words (E.var 0))))) (by rw [bi_if, bi_xor]; congr))))
theorem t_sum_letter_g (n : Nat) (w : List Bool) (s ws : List (List Bool)) (ss : List (List (List Bool))) (x : List (List Bool)) (hn : 1 ≤ n ∧ n ≤ 12) (hs : Sq n s) (hx : Sq n x) : Mt Cf.cS "letter_g" ["self", "square"] 15 none [sumD n w s ws ss, sd x] (fun d => d = bd (parS s x ^^ decide (x ∈ ss))) := Fx.f_SumsPaper_letter_g.go false sc_SumsPaper_letter_g fun _ _ _ _ _ _ _ _ =>
  B.cons1 (P1.guard (T.to (T.not_ (T.val (E.call (t_is_square x n hn hx) (A.cons (E.var 1) (A.cons (s_n (E.var 0)) A.nil))))) rfl))
    (B.last (P1.ret (E.to (E.xor_ (E.call (t_square_product n s x hn hs hx) (A.cons (s_square (E.var 0)) (A.cons (E.var 1) A.nil))) (E.intB (E.inT sd_inj sd_pl sd_dp (E.var 1) (s_squares (E.var 0))))) (by rw [bi_if, bi_xor]; congr))))
end Ty
namespace Ty
open PySem PySem.Spec PyProof.Rows L2
/-! ### throws -/
inductive Plc where
  | f (w : List Bool)
  | g (m : List (List Bool))
  deriving DecidableEq
variable [Cf] [Fx]
abbrev fd (w : List Bool) : D := .tup [.str "f", wd w]
abbrev gd (m : List (List Bool)) : D := .tup [.str "g", sd m]
def Plc.d : Plc → D
  | .f w => fd w
  | .g m => gd m
def rowsW (n : Nat) (w : List Bool) : List (List Bool) := (List.range n).map fun i => (w.drop (i * n)).take n
def placesOf (n : Nat) (es : List Eqn) (kind : Nat) (t : List Bool) : List Plc :=
  if kind < 2 then [.f (t.take n), .f (t.drop n), .f (xorW (t.take n) (t.drop n))]
  else if kind < 4 then [.g (rowsW n (t.take (n * n))), .g (rowsW n (t.drop (n * n))), .g (xorS (rowsW n (t.take (n * n))) (rowsW n (t.drop (n * n))))]
  else if kind < 6 then [.f (t.take n), .f ((t.drop n).take n), .g (rowsW n (t.drop (2 * n))), .g (xorS (rowsW n (t.drop (2 * n))) (sqF (t.take n) ((t.drop n).take n)))]
  else [.g (rowsW n (t.drop es.length)), .g (xorS (rowsW n (t.drop es.length)) (drawnM n (t.take es.length) es))]
def dueOf (es : List Eqn) (kind : Nat) (t : List Bool) : Bool := if kind < 6 then false else drawnB (t.take es.length) es
def tlen (n L : Nat) (kind : Nat) : Nat := [2 * n, 2 * n, 2 * n * n, 2 * n * n, 2 * n + n * n, 2 * n + n * n, L + n * n].getD kind 0
def letP (p : Pap) : Plc → Bool
  | .f w => letF p w
  | .g m => letG p m
def PlcOk (n : Nat) : Plc → Prop
  | .f w => w.length = n
  | .g m => Sq n m
def verdict (kind : Nat) (l : List Bool) (due : Bool) : Bool :=
  if kind < 4 then decide ((l.getD 0 false ^^ l.getD 1 false) = l.getD 2 false)
  else if kind < 6 then decide ((l.getD 0 false && l.getD 1 false) = (l.getD 2 false ^^ l.getD 3 false))
  else decide ((l.getD 0 false ^^ l.getD 1 false) = due)
def passB (p : Pap) (n : Nat) (es : List Eqn) (kind : Nat) (t : List Bool) : Bool := verdict kind ((placesOf n es kind t).map (letP p)) (dueOf es kind t)
theorem cut_hi (ds : List D) (k : Nat) : cutD ds none (some (k : Int)) = ds.take k := by
  unfold cutD
  rw [HT.sIx_none, HT.sIx_nat, List.drop_zero, Nat.sub_zero]
  rcases Nat.le_total k ds.length with h | h
  · rw [Nat.min_eq_left h]
  · rw [Nat.min_eq_right h, List.take_length, List.take_of_length_le h]
theorem cut_lo (ds : List D) (k : Nat) : cutD ds (some (k : Int)) none = ds.drop k := by
  unfold cutD
  rw [HT.sIx_none, HT.sIx_nat]
  rcases Nat.le_total k ds.length with h | h
  · rw [Nat.min_eq_left h, List.take_of_length_le (by rw [List.length_drop]; omega)]
  · rw [Nat.min_eq_right h, List.drop_length, List.drop_eq_nil_of_le h, List.take_nil]
theorem cut_both (ds : List D) (a b : Nat) : cutD ds (some (a : Int)) (some (b : Int)) = (ds.drop a).take (b - a) := by
  unfold cutD
  rw [HT.sIx_nat, HT.sIx_nat]
  rcases Nat.le_total a ds.length with h | h
  · rw [Nat.min_eq_left h]
    rcases Nat.le_total b ds.length with h2 | h2
    · rw [Nat.min_eq_left h2]
    · rw [Nat.min_eq_right h2, List.take_of_length_le (l := ds.drop a) (by rw [List.length_drop]; omega), List.take_of_length_le (by rw [List.length_drop]; omega)]
  · rw [Nat.min_eq_right h, List.drop_length, List.drop_eq_nil_of_le h, List.take_nil, List.take_nil]
theorem sq_rows {n : Nat} {w : List Bool} (h : w.length = n * n) : Sq n (rowsW n w) := by
  refine ⟨by unfold rowsW; simp, fun r hr => ?_⟩
  unfold rowsW at hr
  obtain ⟨i, hi, rfl⟩ := List.mem_map.mp hr
  have hi := List.mem_range.mp hi
  rw [List.length_take, List.length_drop, h]
  have : (i + 1) * n ≤ n * n := Nat.mul_le_mul_right n hi
  rw [Nat.succ_mul] at this
  omega
theorem pap_own (p : Pap) : (∃ n f g, p = .tab n f g) ∨ ∃ n w s ws ss, p = .sums n w s ws ss := by
  cases p with
  | tab n f g => exact .inl ⟨n, f, g, rfl⟩
  | sums n w s ws ss => exact .inr ⟨n, w, s, ws, ss, rfl⟩
theorem t_check_paper (p : Pap) (es : List Eqn) : Fn1 "check_paper" ["system", "paper"] 1 none [yd p.n es, p.d] .non := Fx.f_check_paper.go false sc_check_paper fun _ _ _ _ _ _ _ _ => by
  refine B.cons1 (P1.guard ?_) (B.nil rfl)
  cases p with
  | tab n f g => exact T.to (T.ofW (TW.or (T.ofW (TW.andF (T.to (T.not_ (T.val (E.isiOwn (E.var 1) Fx.k_TablePaper.own (E.glob (v := .ref Cf.cT) Fx.k_TablePaper.mg rfl fun _ => .adr _) Fx.tt))) rfl))) (TW.or1 (T.neI (t_n (E.var 1)) (e_fld_n (E.var 0)))))) (by simp [Pap.n])
  | sums n w s ws ss => exact T.to (T.ofW (TW.or (T.ofW (TW.and (T.not_ (T.val (E.isiOwn (E.var 1) Fx.k_SumsPaper.own (E.glob (v := .ref Cf.cT) Fx.k_TablePaper.mg rfl fun _ => .adr _) Fx.st))) (TW.and1 (T.not_ (T.val (E.isiOwn (E.var 1) Fx.k_SumsPaper.own (E.glob (v := .ref Cf.cS) Fx.k_SumsPaper.mg rfl fun _ => .adr _) Fx.ss)))))) (TW.or1 (T.neI (s_n (E.var 1)) (e_fld_n (E.var 0)))))) (by simp [Pap.n])
theorem t_tape_length (n : Nat) (es : List Eqn) (kind : Nat) (hk : kind ≤ 6) (hn : n ≤ 12) (hl : es.length ≤ 100) : Fn1 "tape_length" ["system", "kind"] 3 none [yd n es, nd kind] (nd (tlen n es.length kind)) := by
  refine Fx.f_tape_length.go false sc_tape_length fun _ _ _ _ _ _ _ _ => ?_
  refine B.cons1 (P1.guard (T.to (T.ofW (TW.or (T.not_ (T.val (E.isi (b' := true) (E.var 1) (E.tyN (by decide) boot_int) rfl (by decide +kernel)))) (TW.or (T.val (E.isi (b' := false) (E.var 1) (E.tyN (by decide) boot_bool) rfl (by decide +kernel))) (TW.or1 (T.not_ (T.leLe E.int (E.var 1) E.int)))))) (by simp; omega))) ?_
  refine B.cons1 (P1.set 2 (e_fld_n (E.var 0))) ?_
  have b1 : CMul 2 (n : Int) := .inl ⟨by decide, by decide⟩
  have b2 : CMul (2 * (n : Int)) (n : Int) := .inl ⟨by omega, by omega⟩
  have b3 : CMul (n : Int) (n : Int) := .inl ⟨by omega, by omega⟩
  refine B.last (P1.ret (E.ixT (E.tup (A.cons (E.mul E.int (E.var 2) b1) (A.cons (E.mul E.int (E.var 2) b1) (A.cons (E.mul (E.mul E.int (E.var 2) b1) (E.var 2) b2) (A.cons (E.mul (E.mul E.int (E.var 2) b1) (E.var 2) b2) (A.cons (E.add (E.mul E.int (E.var 2) b1) (E.mul (E.var 2) (E.var 2) b3)) (A.cons (E.add (E.mul E.int (E.var 2) b1) (E.mul (E.var 2) (E.var 2) b3)) (A.cons (E.add (E.lenOwn (E.var 0) (t_System_len n es) (by omega)) (E.mul (E.var 2) (E.var 2) b3)) A.nil)))))))) (E.var 1) ?_))
  rw [atD_nat]
  obtain h | h | h | h | h | h | h : kind = 0 ∨ kind = 1 ∨ kind = 2 ∨ kind = 3 ∨ kind = 4 ∨ kind = 5 ∨ kind = 6 := by omega
  all_goals subst h; simp [tlen, nd]
theorem t__square (n : Nat) (w : List Bool) (hn : n ≤ 12) : Fn1 "_square" ["bits", "n"] 1 none [wd w, nd n] (sd (rowsW n w)) := Fx.f__square.go false sc__square fun _ _ _ _ _ _ _ _ =>
  B.last (P1.ret (E.to (E.tupOf (E.lcM (f := fun i => wd ((w.drop (i * n)).take n)) [("i", 2)] (W.range1 (E.var 1) (by omega)) (blkOk_by (N := n__square) (sc := defScope s__square) (by decide +kernel)) (by rw [List.length_range]; omega) (fun _ _ _ _ _ x _ => G.name 2) (by decide) (fun i => by simp only [D.im]; exact im_bits _)
    (fun _ _ _ _ _ i hi => E.to (E.slT (lo := some ((i * n : Nat) : Int)) (hi := some ((i * n + n : Nat) : Int)) (E.var 0) (O.some (E.to (E.mul (E.var 2) (E.var 1) (.inr ⟨by omega, by omega⟩)) (by rw [Int.natCast_mul]))) (O.some (E.to (E.add (E.mul (E.var 2) (E.var 1) (.inr ⟨by omega, by omega⟩)) (E.var 1)) (by rw [Int.natCast_add, Int.natCast_mul]))))
      (by rw [cut_both, Nat.add_sub_cancel_left, ← List.map_drop, ← List.map_take]))) .l) (by unfold rowsW; rw [sd, List.map_map]; rfl)))
end Ty
namespace Ty
open PySem PySem.Spec PyProof.Rows L2
variable [Cf]
/-- iter is walked: items told only by SX -/
def WN {α : Type} (k : Nat) (X : Cx) (M : Option TpA) (mu : Bool) (Γ : List Sl) (tg iter : Expr) (SX : List α → Prop) (enc : α → D) : Prop :=
  XOk X → Room k X.A → ∀ H0 σ H, Le M H0 H → Sat Γ H0 σ H → ∀ R : It → Hp → Prop,
    (∀ xs, SX xs → ∀ J H1 Gs Y, Le M H H1 → Walk J (xs.map enc).length Gs Y → Fr mu Gs → Gs H1 → (∀ (i : Nat) H2 x H3, i < (xs.map enc).length → Gs H2 → Y i H2 x H3 → (∀ M', Iv M' H2 → Le M' H2 H3) ∧ ∃ d, (xs.map enc)[i]? = some d ∧ Rp H3 x d) → R J H1) → tSI X tg iter σ H R
section
variable {k : Nat} {X : Cx} {M : Option TpA} {mu : Bool} {Γ : List Sl} {elt tg iter c a : Expr} {S : D → Prop} {scope : Scope} {p pos : Pos} {α : Type} {SX : List α → Prop} {enc : α → D} {Γx : α → List Sl} {js : List Nat} {Tx : α → Bool → Prop} {Sx : α → D → Prop} {ifs : List Expr} {body : List Stmt}
/-- range(z), z only known to be so -/
theorem WN.range1 {P : Nat → Prop} (ha : E k X M Γ a (fun d => ∃ z : Nat, d = .int (z : Int) ∧ P z)) (hP : ∀ z, P z → z ≤ 1000000) (hg : Gl X "range" := by rfl) (hs : starEach [a] X.env = [(false, eval a X.env)] := by rfl) : WN k X M mu Γ tg (.Call (.Name "range" p) [a] [] pos) (fun xs => ∃ z, P z ∧ xs = List.range z) (fun i : Nat => D.int (i : Int)) := fun xk hr H0 σ H le sat R h =>
  to_i (pi_range1 hg (xk.no (by decide)) (pa_s (X := X) (es := [a])) hs) (args1 ha (by rw [hs] <;> rfl) xk hr H0 σ H le sat _ fun vs H1 ds l s r => by
    obtain ⟨_, rfl, n, rfl, hn⟩ := s
    obtain ⟨v, rfl, rv⟩ := rp1 r
    cases rv
    have hb := hP n hn
    have e1 : ((n : Int)).toNat = n := Int.toNat_natCast n
    refine ⟨(n : Int), rfl, by omega, by omega, ?_⟩
    rw [e1]
    have hl : ((List.range n).map fun i => D.int ((i : Nat) : Int)).length = n := by simp
    refine h (List.range n) ⟨n, hn, rfl⟩ _ H1 _ _ l (by rw [hl]; exact walk_range) fr_true trivial fun i H2 x H3 hi gs y => ?_
    obtain ⟨rfl, ex⟩ := y
    rw [hl] at hi
    refine ⟨fun _ iv => .refl iv, .int (i : Int), by rw [List.getElem?_map, List.getElem?_range hi]; rfl, ?_⟩
    rw [ex]
    show Rp _ (V.int (0 + (i : Int))) _
    rw [Int.zero_add]
    exact .int _)
theorem lcReadN (own : List (Str × Nat)) (hw : WN k X M false Γ tg iter SX enc) (ok : BlkOk X.N X.env.scope scope own) (hl : ∀ xs, SX xs → xs.length ≤ 1000)
    (hg : ∀ (s : Shared) (H : Hp) (C : Addr) (cl : List (Str × Addr)) (fp : List Addr), ∀ xs, SX xs → ∀ x ∈ xs, G (X.blk s H scope (compEnvC scope cl C X.env) fp) (gw Γ (own.map (·.2))) tg (enc x) (Γx x) js) (hjs : ∀ j ∈ js, j ∈ own.map (·.2))
    (hif : ifs = [] ∨ ∃ c, ifs = [c])
    (ht : ∀ (s : Shared) (H : Hp) (C : Addr) (cl : List (Str × Addr)) (fp : List Addr), ∀ xs, SX xs → ∀ x ∈ xs, Ts k (X.blk s H scope (compEnvC scope cl C X.env) fp) M (Γx x) ifs (Tx x))
    (he : ∀ (s : Shared) (H : Hp) (C : Addr) (cl : List (Str × Addr)) (fp : List Addr), ∀ xs, SX xs → ∀ x ∈ xs, Tx x true → E k (X.blk s H scope (compEnvC scope cl C X.env) fp) M (Γx x) elt (Sx x))
    (him : ∀ x d, Sx x d → d.im = true) :
    XOk X → Room k X.A → ∀ H0 σ H, Le M H0 H → Sat Γ H0 σ H → ∀ Q : VK, (∀ a acc es xs H', Le M H H' → Nw H a → SX xs → LcR Tx Sx xs es → H' a = some (.lst acc) → RpL H' acc es → Q (.ref a) H') → tLc (tSI X tg iter) (gAll X scope tg) (ttAll X scope ifs) (teAll X scope elt) (own.map (·.2)) σ H Q := fun xk hr H0 σ H le sat Q q => by
  refine hw xk hr H0 σ H le sat _ fun xs sx J H1 Gs Y l w fr gs0 hy D hD => ?_
  have hl := hl xs sx
  have hg := fun s H C cl fp => hg s H C cl fp xs sx
  have ht := fun s H C cl fp => ht s H C cl fp xs sx
  have he := fun s H C cl fp => he s H C cl fp xs sx
  have hlen : (xs.map enc).length = xs.length := List.length_map _
  refine lc_it (g := gAll X scope tg) (tt := ttAll X scope ifs) (te := teAll X scope elt) (vs := own.map (·.2)) (σ := σ) (D := D) (Qd := Q (.ref D)) w (fun i H => Le M H1 H ∧ ∃ acc es, H D = some (.lst acc) ∧ RpL H acc es ∧ LcR Tx Sx (xs.take i) es) ⟨.new l.i1 hD, [], [], upd_same, .nil, .nil⟩ (fun i H2 _ z => fr.le _ _ _ z.1 gs0) (fun i x H2 H3 hi z y => ?_) fun H2 z => ?_
  · obtain ⟨le1, acc, es, hacc, racc, lc⟩ := z
    have hi' : i < xs.length := by rw [← hlen]; exact hi
    obtain ⟨ly, d, ed, rd⟩ := hy i H2 x H3 hi (fr.le _ _ _ le1 gs0) y
    have ex : xs[i]? = some xs[i] := List.getElem?_eq_getElem hi'
    have hm : xs[i] ∈ xs := List.getElem_mem hi'
    rw [List.getElem?_map, ex] at ed
    cases ed
    have lyM := ly M le1.i1
    have htk : xs.take (i + 1) = xs.take i ++ [xs[i]] := by rw [List.take_add_one, ex]; rfl
    have hD3 : H3 D = some (.lst acc) := lyM.e _ _ hacc (fun _ z => nomatch z) (lyM.ne_t hacc fun _ z => nomatch z)
    intro s Hc C cl fp
    refine hg s Hc C cl fp _ hm (xk.blk ..) H0 H3 x _ rd ((sat.mo (l.trans (le1.trans lyM))).wipe _) _ fun σ' sat' hw' => ⟨(hw' _ hjs).trans (wipe_wipe _ _), ?_⟩
    intro s Hc C cl fp
    have le3 : Le M H0 H3 := (le.trans l).trans (le1.trans lyM)
    have fin : ∀ b H4, Le M H3 H4 → Tx xs[i] b → (if b = true then (∀ (s : Shared) (H' : Hp) (C : Addr) (cl : List (Str × Addr)) (fp : List Addr), tS (X.blk s H' scope (compEnvC scope cl C X.env) fp) elt σ' H4 fun y H4 => ∃ acc, H4 D = some (.lst acc) ∧ acc.length < sizeLine ∧ (Le M H1 (upd H4 D (.lst (acc ++ [y]))) ∧ ∃ acc' es, (upd H4 D (.lst (acc ++ [y]))) D = some (.lst acc') ∧ RpL (upd H4 D (.lst (acc ++ [y]))) acc' es ∧ LcR Tx Sx (xs.take (i + 1)) es)) else (Le M H1 H4 ∧ ∃ acc es, H4 D = some (.lst acc) ∧ RpL H4 acc es ∧ LcR Tx Sx (xs.take (i + 1)) es)) := fun b H4 l4 tb => by
      cases b with
      | false => exact iteF ⟨(le1.trans lyM).trans l4, acc, es, l4.e _ _ hD3 (fun _ z => nomatch z) (l4.ne_t hD3 fun _ z => nomatch z), (racc.mo lyM).mo l4, by rw [htk]; exact .skip lc tb⟩
      | true =>
        refine iteT fun s Hc C cl fp => he s Hc C cl fp _ hm tb (xk.blk ..) hr H0 σ' H4 (le3.trans l4) (sat'.mo l4) _ fun y H5 dy l5 sy ry => ?_
        have hD5 : H5 D = some (.lst acc) := (l4.trans l5).e _ _ hD3 (fun _ z => nomatch z) ((l4.trans l5).ne_t hD3 fun _ z => nomatch z)
        have le5 : Le M H1 H5 := (le1.trans lyM).trans (l4.trans l5)
        refine ⟨acc, hD5, ?_, le5.mut (.none hD) hD5, _, es ++ [dy], upd_same, ?_, by rw [htk]; exact .keep lc tb sy⟩
        · have h1 := lc.length
          have h2 := racc.length
          rw [List.length_take] at h1
          exact Nat.lt_of_le_of_lt (show acc.length ≤ 1000 by omega) (small1000 (Nat.le_refl _))
        · exact (((racc.mo lyM).mo (l4.trans l5)).mut hD5 (lc.im him)).app (.cons (ry.mut hD5 (him _ _ sy)) .nil)
    rcases hif with z | ⟨c, z⟩
    · subst z
      rcases ht s Hc C cl fp _ hm with ⟨_, t⟩ | ⟨c, z, _⟩
      · exact fin true H3 (.refl lyM.i1) t
      · cases z
    · subst z
      rcases ht s Hc C cl fp _ hm with ⟨z, _⟩ | ⟨c', z, t⟩
      · cases z
      · cases z
        exact t (xk.blk ..) hr H0 σ' H3 le3 sat' _ fun b H4 l4 tb => fin b H4 l4 tb
  · obtain ⟨le1, acc, es, hacc, racc, lc⟩ := z
    rw [hlen, List.take_length] at lc
    exact q _ _ _ _ _ (l.trans le1) (l.nw (.none hD)) sx lc hacc racc
/-- one for, items only known to be so -/
theorem E.lcNN {β : Type} {g : β → D} {Px : β → Prop} (own : List (Str × Nat)) (hw : WN k X M false Γ tg iter SX enc) (ok : BlkOk X.N X.env.scope scope own) (hl : ∀ xs, SX xs → xs.length ≤ 1000)
    (hg : ∀ (s : Shared) (H : Hp) (C : Addr) (cl : List (Str × Addr)) (fp : List Addr), ∀ xs, SX xs → ∀ x ∈ xs, G (X.blk s H scope (compEnvC scope cl C X.env) fp) (gw Γ (own.map (·.2))) tg (enc x) (Γx x) js) (hjs : ∀ j ∈ js, j ∈ own.map (·.2))
    (him : ∀ y, (g y).im = true)
    (he : ∀ (s : Shared) (H : Hp) (C : Addr) (cl : List (Str × Addr)) (fp : List Addr), ∀ xs, SX xs → ∀ x ∈ xs, E k (X.blk s H scope (compEnvC scope cl C X.env) fp) M (Γx x) elt fun d => ∃ y, d = g y ∧ Px y) (hs : ∀ x, foldedSetIterable iter X.env x = pure x := by intro _; rfl) :
    E k X M Γ (.ListComp elt [⟨tg, iter, [], 0⟩] scope pos) fun d => ∃ ys : List β, d = .lst (ys.map g) ∧ (∀ y ∈ ys, Px y) ∧ ∃ xs, SX xs ∧ ys.length = xs.length := fun xk hr H0 σ H le sat Q q =>
  to_s (pe_lc (own := own) xk.c xk.nd pi_s ok pg_all (pt_all (.inl rfl)) pe_all hs) (lcReadN (Tx := fun _ b => b = true) (Sx := fun x d => ∃ y, d = g y ∧ Px y) own hw ok hl hg hjs (.inl rfl) (fun s H C cl fp xs sx x hx => .inl ⟨rfl, rfl⟩) (fun s H C cl fp xs sx x hx _ => he s H C cl fp xs sx x hx) (fun x d e => by obtain ⟨y, e, _⟩ := e; rw [e]; exact him y) xk hr H0 σ H le sat Q
    fun a acc es xs H' l nw sx lc ha ra => by
      obtain ⟨ys, rfl, hlen, hall⟩ := LcR.all (Px := fun _ y => Px y) lc
      refine q _ _ _ l ⟨ys, rfl, fun y hy => ?_, xs, sx, hlen⟩ (.lst ha ra)
      obtain ⟨i, hi, rfl⟩ := List.getElem_of_mem hy
      exact hall i (xs[i]'(by omega)) _ (List.getElem?_eq_getElem _) (List.getElem?_eq_getElem hi))
theorem P1.forN {α : Type} {SX : List α → Prop} {enc : α → D} (I : List α → Nat → List Sl → Prop) (hw : WN k X M mu Γ tg iter SX enc) (h0 : ∀ xs, SX xs → I xs 0 Γ)
    (hb : ∀ xs, SX xs → ∀ (i : Nat) x Γ1, xs[i]? = some x → I xs i Γ1 → ∃ Γ2 js, G X Γ1 tg (enc x) Γ2 js ∧ B k X M mu Γ2 body (I xs (i + 1)) S) (hs : ∀ x, foldedSetIterable iter X.env x = pure x := by intro _; rfl) :
    P1 k X M mu Γ (.For tg iter body [] pos) (fun g => ∃ xs, SX xs ∧ I xs xs.length g) S := fun xk hr F fr H0 σ H le hF sat Dn qn qr => by
  refine to_1 (ps_for (wi := tSI X tg iter) (g := tSG X tg) (tb := tSS X body) (by rw [xk.x]; exact PassesOwn.never) xk.c pi_s pg_s pss_s hs) ?_
  refine hw xk hr H0 σ H le sat _ fun xs sx J H1 Gs Y l w frG gs0 hy => ?_
  have h0 := h0 xs sx
  have hb := hb xs sx
  have hlen : (xs.map enc).length = xs.length := List.length_map _
  refine for_it (g := tSG X tg) (tb := tSS X body) (D := Dn) w (fun i σ H => Le M H0 H ∧ F H ∧ Gs H ∧ ∃ Γ', I xs i Γ' ∧ Sat Γ' H0 σ H) ⟨le.trans l, fr.le _ _ _ l hF, gs0, Γ, h0, sat.mo l⟩ (fun i σ H _ z => z.2.2.1) (fun i x σ H2 H3 hi z y => ?_) fun σ H z => ?_
  · obtain ⟨le1, hF1, gs1, Γ1, hI, sat1⟩ := z
    have hi' : i < xs.length := by rw [← hlen]; exact hi
    obtain ⟨ly, d, ed, rd⟩ := hy i H2 x H3 hi gs1 y
    have ex : xs[i]? = some xs[i] := List.getElem?_eq_getElem hi'
    rw [List.getElem?_map, ex] at ed
    cases ed
    have lyM := ly M le1.i1
    obtain ⟨Γ2, js, hg, hb'⟩ := hb i _ Γ1 ex hI
    refine hg xk H0 H3 x σ rd (sat1.mo lyM) _ fun σ' sat' _ => ?_
    exact hb' xk hr (fun H => F H ∧ Gs H) (fr_and fr frG) H0 σ' H3 (le1.trans lyM) ⟨fr.le _ _ _ lyM hF1, frG.le _ _ _ lyM gs1⟩ sat' _ (fun σ2 H4 Γ3 l4 f4 n4 s4 => ⟨l4, f4.1, f4.2, Γ3, n4, s4⟩) fun v H4 d l4 f4 s4 r4 => qr v H4 d l4 f4.1 s4 r4
  · obtain ⟨le1, hF1, gs1, Γ1, hI, sat1⟩ := z
    rw [hlen] at hI
    exact qn _ _ _ le1 hF1 ⟨xs, sx, hI⟩ sat1
end
end Ty
/-! As La.pe_lam; all but the one table is kept. -/
namespace La
open PySem PySem.Spec PyProof.Rows L2 LamX NdefX
section
variable {X : Cx} {pins : List (Addr × Obj)} {σ : L2.St} {H : Hp} {s : Shared}
/-- a lambda is made: only its defining code's table may change, and that grows -/
theorem lam_make3 {T : List (Addr × Str)} {c P : Addr} {params : Arguments} {body : Expr} {scope : Scope} {pos : Pos} {E : Value → Shared → Prop} {Q : Value → Shared → Prop} (I : Inv X pins σ H s) (TB : TabB X.base X.mg c P) (hcode : X.env.code = .ref c)
    (hm : (P, X.env.qual ++ "<lambda>") ∈ T) (hu : ∀ p ∈ T, p.1 = P → p.2 = X.env.qual ++ "<lambda>") (hT : Tabs T H) (hdef : defaultsOf params X.env = ([], [])) (hfree : ∀ y ∈ scope.names, y.2 = .free → ∃ c, X.env.cells.lookup y.1 = some c)
    (h : ∀ (f c' : Addr) (pm ctv : Value) (H1 : Hp) (s' : Shared), Inv X pins σ H1 s' → (∀ b o, b ≠ P → H b = some o → H1 b = some o) → Tabs T H1 →
      s'.heap.get? f = some (PySem.W.kla_obj "<lambda>" (X.env.qual ++ "<lambda>") params body scope (cloFrom X.env.cells scope.names []) pm c' ctv) → H1 f = none → f ∉ frs X.stack → H1 c' = some (CodeO c' (X.env.qual ++ "<lambda>")) → Q (.ref f) s') :
    wpAny (model X.prog X.w) X.A (eval (.Lambda params body scope pos) X.env) Q E s := by
  obtain ⟨ps, hP, ht, ha⟩ := hT _ hm
  have hP' : s.heap.get? P = some { cls := .none, data := .fields ps } := I.hok P _ hP
  have bP : s.heap.BuiltinsAt X.mg P := TB.bm.keeps I.bk
  have out : ∀ f, s.heap.objs.size ≤ f → f ∉ frs X.stack := fun f hf z => (List.mem_cons.mp (I.stkSub _ z)).elim (fun e => Nat.lt_irrefl _ (Nat.lt_of_lt_of_le (e ▸ I.lt) hf)) fun e => I.nofs hf e
  refine PySem.W.kla_eval hdef ?_
  cases hc : codeAmong pos ps.toList with
  | some cv =>
    obtain ⟨c', rfl, hco⟩ := ha pos cv hc
    exact PySem.W.kla_makeFunctionHit (mg := X.mg) (c := c) (P := P) (ps := ps) (closure_ok hfree) I.ok.glob (I.mod.glob.keeps I.bk) hcode (TB.code.keeps I.bk) hP' ht hc bP fun ctv h' tk hx hsz =>
      h h'.objs.size c' ((X.mg "__name__").getD .none) ctv H _ (I.kept fun b o e => Heap.get?_push_of_some _ (hx b o e)) (fun _ _ _ e => e) hT (Heap.get?_push_size _ rfl) (I.hok.fresh hsz) (out _ hsz) hco
  | none =>
    refine PySem.W.kla_makeFunction (mg := X.mg) (c := c) (P := P) (ps := ps) (closure_ok hfree) I.ok.glob (I.mod.glob.keeps I.bk) hcode (TB.code.keeps I.bk) hP' ht hc TB.gP bP fun c' ctv h' tk hx hge hlt hrec htb => ?_
    obtain ⟨c2, oc, vs, t, e2, hoc, hd, hv⟩ := hrec
    cases e2
    have hsz : s.heap.objs.size ≤ h'.objs.size := Nat.le_trans hge (Nat.le_of_lt hlt)
    have nC : H c' = none := I.hok.fresh hge
    have I1 := inv_table (t' := tk) (more := #[rawInt pos.line, rawInt pos.col, .ref c']) (h' := h'.push (PySem.W.kla_obj "<lambda>" (X.env.qual ++ "<lambda>") params body scope (cloFrom X.env.cells scope.names []) ((X.mg "__name__").getD .none) c' ctv)) I hP
      (fun b o hb e => Heap.get?_push_of_some _ (hx b o hb e)) (Heap.get?_push_of_some _ htb) hge ⟨oc, vs, t, Heap.get?_push_of_some _ hoc, hd, hv⟩
    have keep : ∀ b o, b ≠ P → H b = some o → (upd (upd H P (.tbl (ps ++ #[rawInt pos.line, rawInt pos.col, .ref c']))) c' (CodeO c' (X.env.qual ++ "<lambda>"))) b = some o := fun b o hb e => by
      rw [upd_ne (ne_of_none e nC), upd_ne hb]; exact e
    have keepC : ∀ b q, H b = some (CodeO b q) → (upd (upd H P (.tbl (ps ++ #[rawInt pos.line, rawInt pos.col, .ref c']))) c' (CodeO c' (X.env.qual ++ "<lambda>"))) b = some (CodeO b q) := fun b q e =>
      keep b _ (fun z => by rw [z, hP] at e; exact codeO_ne _ (Option.some.inj e).symm) e
    have eL : (ps ++ #[rawInt pos.line, rawInt pos.col, .ref c']).toList = ps.toList ++ [rawInt pos.line, rawInt pos.col, .ref c'] := by simp
    refine h h'.objs.size c' ((X.mg "__name__").getD .none) ctv _ _ I1 keep (fun p hp => ?_) (Heap.get?_push_size _ rfl) ?_ (out _ hsz) upd_same
    · by_cases hb : p.1 = P
      · rw [hu p hp hb, hb]
        refine ⟨_, by rw [upd_ne (ne_of_none hP nC), upd_same], by rw [eL]; exact PySem.TriplesOk_snoc _ _ _ _ ht, fun p' cv hcv => ?_⟩
        rw [eL] at hcv
        rcases among_app _ ht hcv with z | z
        · obtain ⟨c0, e1, e2⟩ := ha p' cv z
          exact ⟨c0, e1, keepC _ _ e2⟩
        · exact ⟨c', z, upd_same⟩
      · obtain ⟨ps', a1, a2, a3⟩ := hT p hp
        refine ⟨ps', keep _ _ hb a1, a2, fun p' cv hcv => ?_⟩
        obtain ⟨c0, e1, e2⟩ := a3 p' cv hcv
        exact ⟨c0, e1, keepC _ _ e2⟩
    · rw [upd_ne (Nat.ne_of_gt hlt), upd_ne (Nat.ne_of_gt (Nat.lt_of_lt_of_le (Heap.lt_size hP') hsz))]
      exact I.hok.fresh hsz
end
def tLam3 (P : Addr) (T : List (Addr × Str)) (q : Str) (js : List Nat) (te1 : TE) (spF : Addr → Addr → List (Option V) → Sp) : TE := fun σ H Q =>
  te1 σ H fun v1 H1 => Tabs T H1 ∧ ∀ f c' H2, (∀ b o, b ≠ P → H1 b = some o → H2 b = some o) → Tabs T H2 → H2 f = none → H2 c' = some (CodeO c' q) → spF f c' (js.map (slotAt σ)) [v1, .ref f] H2 Q E0

theorem pe_lam3 {X : Cx} {x : Str} {ff c P : Addr} {fdF : FuncData} {psF N ps fr : List Str} {js : List Nat} {e1 body : Expr} {te1 : TE} {params : Arguments} {scope : Scope} {lpos p pos : Pos} {T : List (Addr × Str)} {kL kF : Nat} {spL : Addr → List (Option V) → Sp} {spF : Addr → Addr → List (Option V) → Sp}
    (hall : ∀ y, X.fn y = true) (TB : LamX.TabB X.base X.mg c P) (hcode : X.env.code = .ref c) (hm : (P, X.env.qual ++ "<lambda>") ∈ T) (hu : ∀ p ∈ T, p.1 = P → p.2 = X.env.qual ++ "<lambda>") (hdef : defaultsOf params X.env = ([], []))
    (hfree : ∀ y ∈ scope.names, y.2 = .free → X.env.scope.names.lookup y.1 = some .cell ∨ X.env.scope.names.lookup y.1 = some .free) (S : NScope N ps fr scope) (hfr : ∀ y ∈ fr, (y, NameKind.free) ∈ scope.names) (hjs : js.map (fun j => X.N[j]?) = fr.map some)
    (hbind : ∀ (q : Str) (cl : List (Str × Addr)) (pm ctv : Value) (c' : Addr) (us : List Value), us.length = ps.length → bindArgs (PySem.W.kla_fn "<lambda>" q params body scope cl pm (.ref c') ctv) ⟨us, []⟩ = pure (ps.zip us))
    (len : ∀ c' ws vs H Q E, spL c' ws vs H Q E → vs.length = ps.length) (hlc : ∀ c' ws vs H Q E, spL c' ws vs H Q E → H c' = some (CodeO c' (X.env.qual ++ "<lambda>")))
    (hbody : ∀ base', (∀ b o, X.base.get? b = some o → base'.get? b = some o) → ∀ (f c' : Addr) (cl : List (Str × Addr)) (A : Around) (outer : List Env) (s : Shared) (H : Hp) (vs : List V) (ws : List (Option V)) (Q : VK) (E : XK), Room kL (A.deeper (envF ⟨"<lambda>", X.env.qual ++ "<lambda>", params, [], scope, cl, c'⟩ f s.heap.objs.size)) → spL c' ws vs H Q E →
      ∃ te, PE (ncx CX0 X.prog X.w X.K X.mg base' N ⟨"<lambda>", X.env.qual ++ "<lambda>", params, [], scope, cl, c'⟩ f A outer s H E).nox body te ∧ te (startF N vs ws) H Q)
    (hF : ∀ base', (∀ b o, X.base.get? b = some o → base'.get? b = some o) → ∀ (f c' : Addr) (ws : List (Option V)) (fdL : FuncData), PySem.W.FnAt f base' → Binds X.K fdL ps [] → FnOk X.prog X.w X.K X.mg base' CX0 (kL + 1) f fdL ps (spL c' ws) → FnOk X.prog X.w X.K X.mg base' CX0 kF ff fdF psF (spF f c' ws))
    (hr : Room kF X.A) (hg : Gl X x) (hmx : X.mg x = some (.ref ff)) (hk : PySem.W.keepIn X.K (.ref ff) = true) (hbF : Binds X.K fdF psF []) (he1 : PE X e1 te1)
    (hdb : (x == ("__debug__" : Str)) = false := by decide) (hs1 : starEach [e1, .Lambda params body scope lpos] X.env = (false, eval e1 X.env) :: starEach [.Lambda params body scope lpos] X.env := by rfl)
    (hs2 : starEach [.Lambda params body scope lpos] X.env = (false, eval (.Lambda params body scope lpos) X.env) :: starEach [] X.env := by rfl) (hpl : (backTo pos (starEach [.Lambda params body scope lpos] X.env)).any (·.1) = false := by rfl) :
    PE X (.Call (.Name x p) [e1, .Lambda params body scope lpos] [] pos) (tLam3 P T (X.env.qual ++ "<lambda>") js te1 spF) := by
  refine ⟨fun pins s σ H Q I h => ?_⟩
  refine wpAny_Call_Name_kw (ld_glob I hg hmx ?_ hdb)
  refine PySem.W.callWith_K (h₀ := X.base) I.ok.mod.kin hk ?_ hs1 hpl
  rw [hs1]
  show wpAny _ _ (spliced ((false, eval e1 X.env) :: backTo pos (starEach [.Lambda params body scope lpos] X.env))) _ _ s
  refine Calls.spliced_cons (thn (he1.run pins s σ H _ I h) fun u1 s1 ⟨v1, H1, I1, r1, hT1, q1⟩ => ?_)
  rw [hs2]
  show wpAny _ _ (spliced ((false, eval (.Lambda params body scope lpos) X.env) :: backTo pos (starEach [] X.env))) _ _ s1
  have hfr2 : ∀ y ∈ scope.names, y.2 = .free → ∃ c, X.env.cells.lookup y.1 = some c := fun y hy e => (hfree y hy e).elim (fun z => I.ok.has _ (.inl z)) fun z => I.ok.has _ (.inr z)
  refine Calls.spliced_cons (lam_make3 I1 TB hcode hm hu hT1 hdef hfr2 fun f c' pm ctv H2 s2 I2 eP T2 hof hfn hfs hc2 => ?_)
  refine Calls.spliced_nil ⟨I2.kIn, ?_⟩
  have cp : Caps X (cloFrom X.env.cells scope.names []) fr js := Caps.made I2.ok hfree hfr hjs
  have C := cells_of I2 cp
  -- the base with the lambda and the captured cells
  let cs : List Addr := (cloFrom X.env.cells scope.names []).map (·.2)
  have inC : ∀ y c, (cloFrom X.env.cells scope.names []).lookup y = some c → c ∈ cs := fun y c e => List.mem_map.mpr ⟨(y, c), PySem.mem_of_lookup e, rfl⟩
  have ofC : ∀ c ∈ cs, ∃ y, X.env.cells.lookup y = some c := fun c hc => by
    obtain ⟨p, hp, e⟩ := List.mem_map.mp hc
    obtain ⟨y, c1⟩ := p
    have e : c1 = c := e
    subst e
    rcases cloFrom_mem hp with hm | ⟨h1, h2⟩
    · cases hm
    · obtain ⟨c2, h3⟩ := hfr2 _ h1 rfl
      have h3 : X.env.cells.lookup y = some c2 := h3
      refine ⟨y, ?_⟩
      rw [h2, h3] <;> rfl
  have hL : ∀ b ∈ f :: cs, H2 b = none ∧ b ∉ frs X.stack := fun b hb => by
    rcases List.mem_cons.mp hb with z | z
    · rw [z]
      exact ⟨hfn, hfs⟩
    · obtain ⟨y, e⟩ := ofC b z
      refine ⟨I2.freeC y b e, fun hx => ?_⟩
      obtain ⟨v, o, ho, hd⟩ := I2.cell y b e
      rcases List.mem_cons.mp (I2.stkSub b hx) with q | q
      · exact I2.cne y b e q
      · obtain ⟨_, o', ho', _⟩ := I2.ok.funs.mem q
        exact absurd (Nat.lt_of_lt_of_le (Heap.lt_size ho') (I2.ok.cab y b (hall y) e)) (Nat.lt_irrefl _)
  have k' := base_sub I2 (f :: cs)
  have e0 := env0_add I2 hL
  have hfb : (addB X.base s2.heap (f :: cs)).get? f = some (PySem.W.kla_obj "<lambda>" (X.env.qual ++ "<lambda>") params body scope (cloFrom X.env.cells scope.names []) pm c' ctv) := addB_get hof (.inr List.mem_cons_self)
  have BC : BaseCells (addB X.base s2.heap (f :: cs)) (cloFrom X.env.cells scope.names []) fr (js.map (slotAt σ)) := by
    refine ⟨C.len, fun y c e => ?_, C.inj, fun i y e => ?_⟩
    · obtain ⟨_, v, o, ho, hd⟩ := C.all y c e
      exact ⟨v, o, addB_get ho (.inr (List.mem_cons_of_mem _ (inC y c e))), hd⟩
    · obtain ⟨c, hc, hv⟩ := C.has i y e
      refine ⟨c, hc, fun v ev => ?_⟩
      obtain ⟨u, r, o, ho, hd⟩ := hv v ev
      exact ⟨u, r, o, addB_get ho (.inr (List.mem_cons_of_mem _ (inC y c hc))), hd⟩
  have FL := lam_fn (P := X.prog) (w := X.w) (K := X.K) (mg := X.mg) (k := kL) (F := ⟨"<lambda>", X.env.qual ++ "<lambda>", params, [], scope, cloFrom X.env.cells scope.names [], c'⟩) (sp := spL c' (js.map (slotAt σ))) hfb S BC (len c' _) (hlc c' _)
    (fun A outer s H vs Q E hr hsp => hbody _ k' f c' _ A outer s H vs _ Q E hr hsp)
  have FF := hF _ k' f c' (js.map (slotAt σ)) _ ⟨_, _, _, _, hfb⟩ (.all (hbind _ _ _ _ _)) FL
  have rvs : Vals [v1, .ref f] [u1, .ref f] := .cons r1 (.cons rfl .nil)
  have hq := q1 f c' H2 eP T2 hfn hc2
  refine wpAny_call (codeAny_mono (FF.run X.A X.stack s2 H2 ⟨[u1, .ref f], []⟩ ([u1, .ref f] ++ []) [v1, .ref f] Q E0 hr e0 (hbF s2 [u1, .ref f] I2.kIn ?_) rvs hq) fun r s' hq' => ?_)
  · have := FF.len _ _ _ _ hq
    simpa using this
  cases r with
  | error e => exact hq'.elim
  | ok fl =>
    cases fl with
    | ret u => exact I2.after hq'
    | next => exact False.elim hq'
    | brk => exact False.elim hq'
    | cont => exact False.elim hq'
end La
namespace Ty
open PySem PySem.Spec PyProof.Rows L2 LamX NdefX
variable [Cf]
/-! ### a lambda handed to a def -/
/-- what the lambda at (f, c, q) promises: yes for all of SV -/
def spL (c : Addr) (q : Str) (SV : D → Prop) : Sp := fun vs H Q E => H c = some (CodeO c q) ∧ ∃ d, SV d ∧ spD none [d] (fun y => y = .bl true) vs H Q E
theorem GoodB.mono {b b' : Heap} (g : GoodB b) (h : ∀ a o, b.get? a = some o → b'.get? a = some o) : GoodB b' :=
  ⟨fun p hp => ⟨(g.1 p hp).code.keeps h, (g.1 p hp).bm.keeps h, (g.1 p hp).gP⟩, fun p hp => ⟨(g.2 p hp).code.keeps h, (g.2 p hp).bm.keeps h, (g.2 p hp).gP⟩⟩
/-- the def x, called with d1 and a lambda that says yes on SV -/
def FnL (x : Str) (psF : List Str) (kF kL : Nat) (ps : List Str) (SV : D → Prop) (d1 : D) : Prop := ∃ ff, Cf.mg x = some (.ref ff) ∧ ∃ od fd, Cf.K.lookup ff = some od ∧ od.data = .func fd ∧ PySem.W.keepIn Cf.K (.ref ff) = true ∧ Binds Cf.K fd psF [] ∧
  ∀ base, GoodB base → ∀ (f c : Addr) (q : Str) (fdL : FuncData), PySem.W.FnAt f base → Binds Cf.K fdL ps [] → FnOk Cf.P Cf.w Cf.K Cf.mg base CX0 (kL + 1) f fdL ps (spL c q SV) → FnOk Cf.P Cf.w Cf.K Cf.mg base CX0 kF ff fd psF (spD none [d1, .lam f c q] (fun d => d = .non))
section
variable {k kF kL : Nat} {X : Cx} {M : Option TpA} {Γ : List Sl} {e1 body : Expr} {params : Arguments} {scope : Scope} {lpos p pos : Pos} {x : Str} {N ps fr psF : List Str} {js : List Nat} {SV : D → Prop} {d1 : D} {c P : Addr} {ns : List Int}
theorem fnNone {P : Program} {w : World} {K : PySem.W.Frag} {mg : Str → Option Value} {base : Heap} {k : Nat} {f : Addr} {fd : FuncData} {ps : List Str} : FnOk P w K mg base CX0 k f fd ps (fun _ _ _ _ => False) := ⟨fun _ _ _ _ h => h.elim, fun _ _ _ _ _ _ _ _ _ _ _ _ _ h => h.elim⟩
theorem fnWeak {P : Program} {w : World} {K : PySem.W.Frag} {mg : Str → Option Value} {base : Heap} {k : Nat} {f : Addr} {fd : FuncData} {ps : List Str} {sp sp' : Sp} (h : FnOk P w K mg base CX0 k f fd ps sp) (i : ∀ vs H Q E, sp' vs H Q E → sp vs H Q E) : FnOk P w K mg base CX0 k f fd ps sp' :=
  ⟨fun vs H Q E q => h.len vs H Q E (i _ _ _ _ q), fun A outer s H args us vs Q E hr e0 hb r q => h.run A outer s H args us vs Q E hr e0 hb r (i _ _ _ _ q)⟩
theorem E.callLam (hF : FnL x psF kF kL ps SV d1) (hl : (c, P, X.env.qual ++ "<lambda>") ∈ Cf.ls) (hu : ∀ p ∈ Cf.ls, p.2.1 = P → p.2.2 = X.env.qual ++ "<lambda>") (hcode : X.env.code = .ref c) (hall : ∀ y, X.fn y = true)
    (he1 : E1 k X M Γ e1 d1) (hd1 : d1 = d1) (hΓ : js.map (fun j => Γ[j]?) = ns.map fun n => some (Sl.val (.int n)))
    (hbody : ∀ d, SV d → ∀ (base : Heap) (f c' : Addr) (cl : List (Str × Addr)) (A : Around) (outer : List Env) (s : Shared) (H : Hp) (E : XK), E1 kL (ncx CX0 Cf.P Cf.w Cf.K Cf.mg base N ⟨"<lambda>", X.env.qual ++ "<lambda>", params, [], scope, cl, c'⟩ f A outer s H E).nox none (.val d :: ns.map fun n => .val (.int n)) body (.bl true))
    (S : NScope N ps fr scope) (hps : ps.length = 1) (hN : N.length = 1 + ns.length) (hfr : ∀ y ∈ fr, (y, NameKind.free) ∈ scope.names) (hjs : js.map (fun j => X.N[j]?) = fr.map some)
    (hfree : ∀ y ∈ scope.names, y.2 = .free → X.env.scope.names.lookup y.1 = some .cell ∨ X.env.scope.names.lookup y.1 = some .free)
    (hbind : ∀ (q : Str) (cl : List (Str × Addr)) (pm ctv : Value) (c' : Addr) (us : List Value), us.length = ps.length → bindArgs (PySem.W.kla_fn "<lambda>" q params body scope cl pm (.ref c') ctv) ⟨us, []⟩ = pure (ps.zip us))
    (hk : kF ≤ k := by decide) (hg : Gl X x := by rfl) (hdef : defaultsOf params X.env = ([], []) := by rfl)
    (hdb : (x == ("__debug__" : Str)) = false := by decide) (hs1 : starEach [e1, .Lambda params body scope lpos] X.env = (false, eval e1 X.env) :: starEach [.Lambda params body scope lpos] X.env := by rfl)
    (hs2 : starEach [.Lambda params body scope lpos] X.env = (false, eval (.Lambda params body scope lpos) X.env) :: starEach [] X.env := by rfl) (hpl : (backTo pos (starEach [.Lambda params body scope lpos] X.env)).any (·.1) = false := by rfl) :
    E1 k X M Γ (.Call (.Name x p) [e1, .Lambda params body scope lpos] [] pos) .non := fun xk hr H0 σ H le sat Q q => by
  obtain ⟨ff, hmx, od, fd, lk, e2, kp, bd, F⟩ := hF
  let ws0 : List (Option V) := ns.map fun n => some (V.int n)
  have hws : js.map (NdefX.slotAt σ) = ws0 := by
    have hl : js.length = ns.length := by simpa using congrArg List.length hΓ
    refine List.ext_getElem (by simp [ws0, hl]) fun i h1 h2 => ?_
    rw [List.length_map] at h1
    have hn : i < ns.length := by omega
    have e := congrArg (·[i]?) hΓ
    simp only [List.getElem?_map, List.getElem?_eq_getElem h1, List.getElem?_eq_getElem hn, Option.map_some, Option.some.injEq] at e
    obtain ⟨v, hv, rv⟩ := sat.at_ _ _ e
    cases rv
    rw [List.getElem_map, List.getElem_map]
    unfold NdefX.slotAt
    rw [hv]
  refine to_s (La.pe_lam3 (fr := fr) (js := js) (T := Cf.ls.map (·.2)) (kL := kL) (kF := kF) (ff := ff) (fdF := fd) (psF := psF) (c := c) (P := P)
    (spL := fun c' ws vs H Q E => ws = ws0 ∧ spL c' (X.env.qual ++ "<lambda>") SV vs H Q E) (spF := fun f c' ws vs H Q E => ws = ws0 ∧ spD none [d1, .lam f c' (X.env.qual ++ "<lambda>")] (fun d => d = .non) vs H Q E)
    hall (xk.m ▸ xk.g.2 _ hl) hcode (List.mem_map.mpr ⟨_, hl, rfl⟩) (fun p hp hP => by obtain ⟨r, hr, rfl⟩ := List.mem_map.mp hp; exact hu r hr hP) hdef hfree S hfr hjs hbind
    (fun c' ws vs H Q E h => by obtain ⟨_, _, d, _, h1, _⟩ := h; rw [h1.length, hps]; rfl) (fun c' ws vs H Q E h => h.2.1)
    (fun base' hsub f c' cl A outer s H vs ws Q E hr h => ?_) (fun base' hsub f c' ws fdL hat hbL hL => ?_) (hr.mono hk) hg (by rw [xk.m]; exact hmx) (by rw [xk.K]; exact kp) (by rw [xk.K]; exact bd) (pe_s (X := X) (e := e1)) hdb hs1 hs2 hpl) (he1 xk hr H0 σ H le sat _ fun v1 H1 d l1 s r => ?_)
  · obtain ⟨rfl, hc, d, sd_, hv, iv, hq⟩ := h
    refine ⟨_, pe_s, ?_⟩
    rw [xk.p, xk.w, xk.K, xk.m]
    have g' : GoodB base' := xk.g.mono hsub
    refine hbody d sd_ base' f c' cl A outer s H E ⟨rfl, rfl, rfl, rfl, rfl, S.nd, rfl, g'⟩ hr H _ H (.refl iv) ?_ Q fun v H' d l s r => hq v H' d l s r
    obtain ⟨v, rfl, rv⟩ := rp1 hv
    refine ⟨by unfold startF; simp [ws0, hN], fun i s hs => ?_⟩
    unfold startF
    cases i with
    | zero => cases hs; exact ⟨v, rfl, rv⟩
    | succ i =>
      have hs : (ns.map fun n => Sl.val (.int n))[i]? = some s := hs
      rw [List.getElem?_map] at hs
      obtain ⟨n, hn, rfl⟩ := Option.map_eq_some_iff.mp hs
      refine ⟨.int n, ?_, .int n⟩
      have hi : i < ns.length := (List.getElem?_eq_some_iff.mp hn).1
      show (ws0 ++ _)[i]? = _
      rw [List.getElem?_append_left (by simp [ws0]; exact hi), List.getElem?_map, hn]
      rfl
  · by_cases hw : ws = ws0
    · subst hw
      have g' : GoodB base' := xk.g.mono hsub
      rw [xk.p, xk.w, xk.K, xk.m] at hL ⊢
      rw [xk.K] at hbL
      exact fnWeak (F base' g' f c' _ fdL hat hbL (fnWeak hL fun _ _ _ _ h => ⟨rfl, h⟩)) fun _ _ _ _ h => h.2
    · exact fnWeak fnNone fun _ _ _ _ h => hw h.1
  · subst s
    refine ⟨l1.i1.l, fun f c' H2 kp2 T2 hf hc2 => ⟨hws, .cons ?_ (.cons (.lam _ hc2) .nil), ?_⟩⟩
    all_goals
      have hP : ∃ ps, H1 P = some (.tbl ps) := by
        obtain ⟨ps, e, _⟩ := l1.i1.l _ (List.mem_map.mpr ⟨_, hl, rfl⟩)
        exact ⟨ps, e⟩
      have keep : ∀ b o, H1 b = some o → (∀ ps, o ≠ .tbl ps) → H2 b = some o := fun b o e n => kp2 b o (fun z => by
        obtain ⟨ps, e'⟩ := hP
        rw [z, e'] at e
        exact n ps (Option.some.inj e).symm) e
      have i2 : Iv M H2 := ⟨fun p hp => by
          obtain ⟨ps, e, t⟩ := l1.i1.g p hp
          exact ⟨ps, kp2 _ _ (Cf.apart p hp _ hl) e, t⟩, T2, fun m hm => (l1.i1.t m hm).keep keep⟩
      have lA : Le M H1 H2 := ⟨l1.i1, fun b o e n _ => keep b o e n, i2⟩
    · exact r.keep keep
    · exact ⟨i2.pure, fun v H' d l s r => q v H' d (l1.trans (lA.trans (l.up i2))) s r⟩
end
end Ty
namespace Ty
open PySem PySem.Spec PyProof.Rows L2 LamX NdefX
variable [Cf]
section
variable {k kL : Nat} {X : Cx} {M : Option TpA} {Γ : List Sl} {e : Expr} {p pos : Pos} {x : Str} {ps : List Str} {SV : D → Prop} {d : D} {f c : Addr} {q : Str} {fdL : FuncData}
/-- f(e), f a name that holds a lambda which stands in the base -/
theorem E.callF (i : Nat) (hfn : PySem.W.FnAt f X.base) (hb : Binds Cf.K fdL ps []) (F : FnOk Cf.P Cf.w Cf.K Cf.mg X.base CX0 (kL + 1) f fdL ps (spL c q SV)) (hd : SV d) (ha : A1 k X M Γ [e] [d]) (hk : kL + 1 ≤ k := by decide) (hΓ : Γ[i]? = some (.val (.lam f c q)) := by rfl) (hN : X.N[i]? = some x := by rfl) (hv : Vis X.env.scope x := by first | exact Or.inl rfl | exact Or.inr (Or.inl rfl) | exact Or.inr (Or.inr rfl))
    (hdb : (x == ("__debug__" : Str)) = false := by decide) (hcd : (x == ("__classdict__" : Str)) = false := by decide)
    (he : starEach [e] X.env = (false, eval e X.env) :: starEach [] X.env := by rfl) (hpl : (backTo pos (starEach [] X.env)).any (·.1) = false := by rfl) : E1 k X M Γ (.Call (.Name x p) [e] [] pos) (.bl true) := fun xk hr H0 σ H le sat Q qq => by
  rw [← xk.p, ← xk.w, ← xk.K, ← xk.m] at F
  obtain ⟨v, hv1, rv⟩ := sat.at_ _ _ hΓ
  cases rv with
  | lam _ hc =>
    refine to_s (La.pe_callF F (hr.mono hk) hN hv hfn (by rw [xk.K]; exact hb) (pa_s (X := X) (es := [e])) hdb hcd he hpl) ⟨hv1, ha xk hr H0 σ H le sat _ fun vs H1 ds l1 s r => ?_⟩
    subst s
    rw [List.append_nil]
    refine ⟨l1.e _ _ hc (fun _ z => by unfold CodeO at z; cases z) (l1.ne_t hc fun _ z => by unfold CodeO at z; cases z), d, hd, r, l1.i1.pure, fun v H' d l s r => qq v H' d (l1.trans (l.up l1.i1)) s r⟩
end
section
variable {x qual : Str} {st : Stmt} {N ps psL : List Str} {k kL : Nat} {SV : D → Prop} {d1 : D}
theorem HasDef.goL (h : HasDef x qual st) (Sc : FnScope N ps (defScope st))
    (body : ∀ ff cc base f c q fdL, PySem.W.FnAt f base → Binds Cf.K fdL psL [] → FnOk Cf.P Cf.w Cf.K Cf.mg base CX0 (kL + 1) f fdL psL (spL c q SV) → ∀ A outer s H E, B k (bodyX N qual (defScope st) ff cc base A outer s H E) none false (ent N.length [d1, .lam f c q]) (defBody st) (fun _ => True) (fun d => d = .non))
    (hb : ∀ (kV doc pm : Value) (an : Option Addr) (cdv ct : Value) (us : List Value), us.length = ps.length → bindArgs (PySem.W.fnOf x qual (defArgs st) (defBody st) (defScope st) .none kV doc pm an cdv ct) ⟨us, []⟩ = pure (ps.zip us) := by first | exact fun _ _ _ _ _ _ us hl => (match us, hl with | [_, _], _ => rfl)) (hl : ps.length = 2 := by rfl) : FnL x ps (k + 1) kL psL SV d1 := by
  obtain ⟨ff, cc, hm, F⟩ := h.ex
  obtain ⟨oc, od, kV, doc, pm, an, ct, osl, lk, hcd⟩ := F.ex
  refine ⟨ff, hm, _, _, lk, rfl, F.kp, .all (hb kV doc pm an (.ref cc) ct), fun base g f c q fdL hat hbL hL => fn_of lk hcd Sc (fun vs H Q E h => by rw [h.1.length, hl]; rfl) fun A outer s H vs Q E hr hsp => ⟨_, PSs.nox pss_s, ?_⟩⟩
  exact body ff cc base f c q fdL hat hbL hL A outer s H E ⟨rfl, rfl, rfl, rfl, rfl, Sc.nd, rfl, g⟩ hr (fun _ => True) fr_true H (start N vs) H (.refl hsp.2.1) trivial (Sat.start hsp.1) _ (fun σ' H' Γ' l _ n _ => hsp.2.2 _ _ _ l rfl .non) fun v H' d l _ sd r => hsp.2.2 v H' d l sd r
end
variable [Fx]
theorem t__first_fault {α : Type} (enc : α → D) (xs : List α) (kL : Nat) (psL : List Str) (SV : D → Prop) (hpl : ∀ x, (enc x).pl = true) (hdp : ∀ x, (enc x).dp ≤ 8) (hS : ∀ x ∈ xs, SV (enc x)) (hA : Asc (xs.map enc)) (hl : xs.length ≤ 1000) : FnL "_first_fault" ["values", "fits"] (kL + 2) kL psL SV (.tup (xs.map enc)) := by
  refine Fx.f__first_fault.goL (k := kL + 1) sc__first_fault fun ff cc base f c q fdL hat hbL hL _ _ _ _ _ => ?_
  refine B.cons1 (P1.guard (T.to (T.not_ (T.val (E.isi (b' := true) (E.var 0) (E.tyN (by decide) boot_tuple) rfl (by decide +kernel)))) rfl)) ?_
  refine B.cons (P1.for_ (xs := xs.zipIdx) (enc := fun q => D.tup [.int ((q.2 : Nat) : Int), enc q.1]) (fun i g => g = [.val (.tup (xs.map enc)), .val (.lam f c q), .non, .non]) (W.enumX (E.var 0)) rfl (fun i y g hy hg => ?_)) fun g hg => ?_
  · subst hg
    rw [List.getElem?_zipIdx] at hy
    obtain ⟨x, hx, rfl⟩ := Option.map_eq_some_iff.mp hy
    have hx1 : x ∈ xs := List.mem_of_getElem? hx
    refine ⟨_, _, G.tup (Gs.cons (G.name 2) (Gs.cons (G.name 3) Gs.nil)), ?_⟩
    refine B.cons1 (P1.guard (T.to (T.ofW (TW.or (T.not_ (T.val (E.callF 1 hat hbL hL (hS x hx1) (A.cons (E.var 3) A.nil) (Nat.le_refl _)))) (TW.or1 ?_))) rfl)) (B.nilF [2, 3] rfl)
    cases i with
    | zero => exact T.ofW (TW.andF (T.to (T.gt (E.var 2) E.int) rfl))
    | succ i =>
      obtain ⟨hi, rfl⟩ := List.getElem?_eq_some_iff.mp hx
      have e1 : (xs.map enc)[i]? = some (enc (xs[i]'(by omega))) := by rw [List.getElem?_map, List.getElem?_eq_getElem (by omega)]; rfl
      have e2 : (xs.map enc)[i + 1]? = some (enc xs[i + 1]) := by rw [List.getElem?_map, List.getElem?_eq_getElem hi]; rfl
      obtain ⟨h1, h2, h3⟩ := hA i _ _ e1 e2
      refine T.to (T.ofW (TW.and (T.gt (E.var 2) E.int) (TW.and1 (T.not_ (T.ltD (hpl _) (hpl _) (hdp _) h1 h2 (E.ixT (E.var 0) (E.sub (E.var 2) E.int) ?_) (E.var 3)))))) ?_
      · have : ((0 + (i + 1) : Nat) : Int) - 1 = (i : Int) := by omega
        rw [this, atD_nat]
        exact e1
      · rw [h3]
        simp
  · exact B.last (P1.ret E.non)
end Ty
namespace Ty
open PySem PySem.Spec PyProof.Rows L2 LamX NdefX
variable [Cf]
def EmptyT (e : Addr) : Prop := ∃ o n, Cf.K.lookup e = some o ∧ o.cls = .type "tuple" ∧ o.data = .seq #[] n
/-- an __init__ with two keyword-only parameters whose defaults are empty tuples; lambdas stand in it -/
structure HasInitK (C : Addr) (qual w1 w2 : Str) (st : Stmt) : Prop where
  ex : ∃ f c P e1 e2 fd, Mk Cf.K C f ∧ DefAt "__init__" qual st f c ∧ FunD Cf.K "__init__" qual (defArgs st) (defBody st) (defScope st) [] [(w1, .ref e1), (w2, .ref e2)] f fd ∧ EmptyT e1 ∧ EmptyT e2 ∧
    (c, P, qual ++ ".<locals>." ++ "<lambda>") ∈ Cf.ls ∧ ∀ p ∈ Cf.ls, p.2.1 = P → p.2.2 = qual ++ ".<locals>." ++ "<lambda>"
/-- the promise of an __init__, not its binding -/
def IniO (C f : Addr) (fd : FuncData) (ps : List Str) (k : Nat) (ds : List D) (nn : List Str) (l : List D) : Prop := ∀ base, GoodB base → FnOk Cf.P Cf.w Cf.K Cf.mg base CX0 k f fd ps (spI C none ds nn l)
section
variable {k : Nat} {C : Addr} {ds l : List D} {nn : List Str}
theorem IniO.mk {qual : Str} {st : Stmt} {f c : Addr} {N ps : List Str} {oc kV doc pm ct : Value} {od an : Option Addr} {osl : Array (Option Value)} (lk : Cf.K.lookup f = some ⟨oc, od, .func (PySem.W.fnOf "__init__" qual (defArgs st) (defBody st) (defScope st) .none kV doc pm an (.ref c) ct), osl⟩) (hcd : PySem.W.codeIn Cf.K (.ref c) qual = true) (Sc : FnScope N ps (defScope st)) (hl : ds.length + 1 = ps.length)
    (body : ∀ (xa : Addr) base A outer s H E, B0 k (bodyX N qual (defScope st) f c base A outer s H E) none (.obj xa C [] [] :: (ent N.length (.non :: ds)).tail) (defBody st) (fun g => g[0]? = some (.obj xa C nn l)) (fun _ => False)) : IniO C f (PySem.W.fnOf "__init__" qual (defArgs st) (defBody st) (defScope st) .none kV doc pm an (.ref c) ct) ps (k + 1) ds nn l :=
  fun base g => fn_of lk hcd Sc (fun vs H Q E ⟨x, dx, ws, h1, h2, h3, _⟩ => by rw [h1, List.length_cons, h3.length, hl]) fun A outer s H vs Q E hr hsp => ⟨_, PSs.nox pss_s, by
    have xk : XOk (bodyX N qual (defScope st) f c base A outer s H E) := ⟨rfl, rfl, rfl, rfl, rfl, Sc.nd, rfl, g⟩
    obtain ⟨x, dx, ws, rfl, hx, r, iv, q⟩ := hsp
    let H0 : Hp := fun b => if b = x then none else H b
    have h0x : H0 x = none := if_pos rfl
    have h0 : ∀ b, b ≠ x → H0 b = H b := fun b hb => if_neg hb
    have nt : ∀ {b : Addr} {o : HO}, H b = some o → (∀ C dx fs, o ≠ .ins C dx fs) → b ≠ x := fun {b o} e n z => by rw [z, hx] at e; exact n _ _ _ (Option.some.inj e).symm
    have iv0 : Iv none H0 := by
      refine ⟨fun p hp => ?_, fun p hp => ?_, fun _ z => nomatch z⟩
      · obtain ⟨ps, e, t⟩ := iv.g p hp
        exact ⟨ps, by rw [h0 _ (nt e fun _ _ _ z => nomatch z)]; exact e, t⟩
      · obtain ⟨ps, e, t, qq⟩ := iv.l p hp
        refine ⟨ps, by rw [h0 _ (nt e fun _ _ _ z => nomatch z)]; exact e, t, fun pos cv hc => ?_⟩
        obtain ⟨c, e1, e2⟩ := qq pos cv hc
        exact ⟨c, e1, by rw [h0 _ (nt e2 fun _ _ _ z => by unfold LamX.CodeO at z; cases z)]; exact e2⟩
    have le : Le none H0 H := ⟨iv0, fun b o e _ _ => by
      by_cases hb : b = x
      · rw [hb, h0x] at e; cases e
      · rw [h0 b hb] at e; exact e, iv⟩
    have sat : Sat (.obj x C [] [] :: (ent N.length (.non :: ds)).tail) H0 (start N (V.ref x :: ws)) H := by
      have sat1 : Sat (ent N.length (.adr x :: ds)) H0 (start N (V.ref x :: ws)) H := by
        have := Sat.start (N := N) (RpL.cons (.adr x) r)
        refine ⟨this.len, fun i s hs => ?_⟩
        have q := this.at_ i s hs
        cases s with
        | non => trivial
        | val d => exact q
        | own _ =>
          unfold ent at hs
          have := List.mem_of_getElem? hs
          simp at this
        | obj _ _ _ _ =>
          unfold ent at hs
          have := List.mem_of_getElem? hs
          simp at this
        | odic _ _ =>
          unfold ent at hs
          have := List.mem_of_getElem? hs
          simp at this
        | mat _ =>
          unfold ent at hs
          have := List.mem_of_getElem? hs
          simp at this
      have e1 : ent N.length (.adr x :: ds) = .val (.adr x) :: (ent N.length (.non :: ds)).tail := by unfold ent; rfl
      rw [e1] at sat1
      refine ⟨by simpa using sat1.len, fun i s hs => ?_⟩
      cases i with
      | zero =>
        simp at hs
        subst hs
        exact ⟨dx, [], by simp [L2.start], .none h0x, hx, rfl, .nil⟩
      | succ i => exact sat1.at_ (i + 1) s (by simpa using hs)
    refine body x base A outer s H E xk hr H0 _ H le sat _ (fun σ' H' Γ' l1 n1 sat' => ?_) fun v H' d _ z _ => z.elim
    obtain ⟨dy, vs', ev, n0, hy, hlen', rl'⟩ := sat'.at_ 0 _ n1
    exact q H' l1.i1 (fun b o hb e n _ => l1.e b o (by rw [h0 b hb]; exact e) n fun _ z => nomatch z) (.ins hy hlen' rl')⟩
end
class Fy [Fx] : Prop where
  k_init : HasInitK Cf.cS "SumsPaper.__init__" "words" "squares" s_SumsPaperd_initd
variable [Fx] [Fy]
abbrev svW (n : Nat) : D → Prop := fun d => ∃ w : List Bool, w.length = n ∧ d = wd w
abbrev svS (n : Nat) : D → Prop := fun d => ∃ s, Sq n s ∧ d = sd s
theorem t_Sums_init (n : Nat) (w : List Bool) (s : List (List Bool)) (ws : List (List Bool)) (ss : List (List (List Bool))) (hn : 1 ≤ n ∧ n ≤ 12) (hw : w.length = n) (hs : Sq n s) (hW : ∀ x ∈ ws, x.length = n) (hS : ∀ x ∈ ss, Sq n x) (aW : Asc (ws.map wd)) (aS : Asc (ss.map sd)) (lW : ws.length ≤ 1000) (lS : ss.length ≤ 1000)
    {f c P : Addr} {oc kV doc pm ct : Value} {od an : Option Addr} {osl : Array (Option Value)} (lk : Cf.K.lookup f = some ⟨oc, od, .func (PySem.W.fnOf "__init__" "SumsPaper.__init__" (defArgs s_SumsPaperd_initd) (defBody s_SumsPaperd_initd) (defScope s_SumsPaperd_initd) .none kV doc pm an (.ref c) ct), osl⟩) (hcd : PySem.W.codeIn Cf.K (.ref c) "SumsPaper.__init__" = true)
    (hP : (c, P, ("SumsPaper.__init__" : Str) ++ ".<locals>." ++ "<lambda>") ∈ Cf.ls) (hu : ∀ p ∈ Cf.ls, p.2.1 = P → p.2.2 = ("SumsPaper.__init__" : Str) ++ ".<locals>." ++ "<lambda>") :
    IniO Cf.cS f (PySem.W.fnOf "__init__" "SumsPaper.__init__" (defArgs s_SumsPaperd_initd) (defBody s_SumsPaperd_initd) (defScope s_SumsPaperd_initd) .none kV doc pm an (.ref c) ct) ["self", "word", "square", "words", "squares"] 17 [wd w, sd s, wds ws, sds ss] spn [nd n, wd w, sd s, wds ws, sds ss] := by
  refine IniO.mk lk hcd sc_SumsPaperd_initd rfl fun xa _ _ _ _ _ _ => ?_
  refine B0.cons1 (P1.guard (T.to (T.ofW (TW.or (T.not_ (T.val (E.isi (b' := true) (E.var 1) (E.tyN (by decide) boot_tuple) rfl (by decide +kernel)))) (TW.or (T.not_ (T.leLe E.int (E.len (E.var 1) .t) E.int)) (TW.or1 (T.not_ (T.val (E.call (t_is_word w (w.length : Int) (by omega) rfl) (A.cons (E.var 1) (A.cons (E.to (E.len (E.var 1) .t) (by rw [List.length_map])) A.nil))))))))) (by simp [hw]; omega))) ?_
  refine B0.cons1 (P1.set 5 (E.to (d' := nd n) (E.len (E.var 1) .t) (by rw [List.length_map, hw]))) ?_
  refine B0.cons1 (P1.guard (T.to (T.not_ (T.val (E.call (t_is_square s n hn hs) (A.cons (E.var 2) (A.cons (E.var 5) A.nil))))) rfl)) ?_
  refine B0.cons1 (P1.set 6 (E.callLam (N := ["value", "n"]) (ps := ["value"]) (fr := ["n"]) (js := [5]) (ns := [(n : Int)]) (c := c) (P := P) (kL := 12) (t__first_fault wd ws 12 ["value"] (svW n) wd_pl wd_dp (fun x hx => ⟨x, hW x hx, rfl⟩) aW lW) hP hu rfl (fun _ => rfl) (E.var 3) rfl rfl
    (fun d hd _ _ _ _ _ _ _ _ _ => by
      obtain ⟨w', hw', rfl⟩ := hd
      exact E.call (t_is_word w' n (by omega) (by rw [hw'])) (A.cons (E.var 0) (A.cons (E.var 1) A.nil)))
    (nscope_by (by decide +kernel)) rfl rfl (by decide +kernel) rfl (by show ∀ y : Str × NameKind, y ∈ _ → _ → List.lookup y.1 (defScope s_SumsPaperd_initd).names = _ ∨ List.lookup y.1 (defScope s_SumsPaperd_initd).names = _; decide +kernel) (fun _ _ _ _ _ us hl => (match us, hl with | [_], _ => rfl)))) ?_
  refine B0.cons1 (P1.guard (T.to (T.notNone (E.var 6) rfl E.non) rfl)) ?_
  refine B0.cons1 (P1.set 6 (E.callLam (N := ["value", "n"]) (ps := ["value"]) (fr := ["n"]) (js := [5]) (ns := [(n : Int)]) (c := c) (P := P) (kL := 12) (t__first_fault sd ss 12 ["value"] (svS n) sd_pl sd_dp (fun x hx => ⟨x, hS x hx, rfl⟩) aS lS) hP hu rfl (fun _ => rfl) (E.var 4) rfl rfl
    (fun d hd _ _ _ _ _ _ _ _ _ => by
      obtain ⟨s', hs', rfl⟩ := hd
      exact E.call (t_is_square s' n hn hs') (A.cons (E.var 0) (A.cons (E.var 1) A.nil)))
    (nscope_by (by decide +kernel)) rfl rfl (by decide +kernel) rfl (by show ∀ y : Str × NameKind, y ∈ _ → _ → List.lookup y.1 (defScope s_SumsPaperd_initd).names = _ ∨ List.lookup y.1 (defScope s_SumsPaperd_initd).names = _; decide +kernel) (fun _ _ _ _ _ us hl => (match us, hl with | [_], _ => rfl)))) ?_
  refine B0.cons1 (P1.guard (T.to (T.notNone (E.var 6) rfl E.non) rfl)) ?_
  exact B0.fld 0 rfl (by simp [niBut, ent, Sl.ni, D.ni, ni_bits, ni_wds, ni_sds]) ⟨rfl, rfl⟩ (by simp) (by simp) Fx.k_SumsPaper.own (Fx.k_SumsPaper.no "n" (by simp)) (E.var 5)
    (B0.fld 0 rfl (by simp [niBut, ent, Sl.ni, D.ni, ni_bits, ni_wds, ni_sds]) ⟨rfl, by simp only [D.ni]; exact ni_bits _⟩ (by decide) (by simp) Fx.k_SumsPaper.own (Fx.k_SumsPaper.no "word" (by simp)) (E.var 1)
    (B0.fld 0 rfl (by simp [niBut, ent, Sl.ni, D.ni, ni_bits, ni_wds, ni_sds]) ⟨by simp [D.niL, D.ni, ni_bits], by simp only [D.ni]; exact ni_wds _⟩ (by decide) (by simp) Fx.k_SumsPaper.own (Fx.k_SumsPaper.no "square" (by simp)) (E.var 2)
    (B0.fld 0 rfl (by simp [niBut, ent, Sl.ni, D.ni, ni_bits, ni_wds, ni_sds]) ⟨by simp [D.niL, D.ni, ni_bits, ni_wds], by simp only [D.ni]; exact ni_wds _⟩ (by decide) (by simp) Fx.k_SumsPaper.own (Fx.k_SumsPaper.no "words" (by simp)) (E.var 3)
    (B0.fld 0 rfl (by simp [niBut, ent, Sl.ni, D.ni, ni_bits, ni_wds, ni_sds]) ⟨by simp [D.niL, D.ni, ni_bits, ni_wds], by simp only [D.ni]; exact ni_sds _⟩ (by decide) (by simp) Fx.k_SumsPaper.own (Fx.k_SumsPaper.no "squares" (by simp)) (E.var 4) (B0.nil rfl)))))
end Ty
namespace Ty
open PySem PySem.Spec PyProof.Rows L2
variable [Cf]
/-! ### the tape, its place told -/
abbrev TSt := Int × Int × Int × Int × Int
def TpA.at_ (m : TpA) (s : TSt) : TpA := { m with st := some s }
def tapeS (l : Addr) (s : TSt) : List (Key × V) := tapeD l s.1 s.2.1 s.2.2.1 s.2.2.2.1 s.2.2.2.2
theorem Tape.told {m : TpA} {s : TSt} {H : Hp} (h : Tape (m.at_ s) H) : 0 ≤ s.1 ∧ H m.t = some (.dK (tapeS m.l s)) ∧ H m.l = some (.lst (m.cells.map V.int)) := by
  obtain ⟨a, g, f, sd, t, ⟨h0, h1⟩, h2, h3⟩ := h
  have := h1 s rfl
  subst this
  exact ⟨h0, h2, h3⟩
theorem Tape.tell {m : TpA} {s : TSt} {H : Hp} (h0 : 0 ≤ s.1) (h1 : H m.t = some (.dK (tapeS m.l s))) (h2 : H m.l = some (.lst (m.cells.map V.int))) : Tape (m.at_ s) H := by
  obtain ⟨a, g, f, sd, t⟩ := s
  exact ⟨a, g, f, sd, t, ⟨h0, fun s e => by injection e with e; exact e.symm⟩, h1, h2⟩
theorem Tape.forget {m : TpA} {s : TSt} {H : Hp} (hm : m.st = none) (h : Tape (m.at_ s) H) : Tape m H := by
  obtain ⟨a, g, f, sd, t, ⟨h0, h1⟩, h2, h3⟩ := h
  exact ⟨a, g, f, sd, t, ⟨h0, fun s e => by rw [hm] at e; cases e⟩, h2, h3⟩
theorem Tape.some {m : TpA} {H : Hp} (h : Tape m H) : ∃ s, Tape (m.at_ s) H := by
  obtain ⟨a, g, f, sd, t, ⟨h0, h1⟩, h2, h3⟩ := h
  exact ⟨(a, g, f, sd, t), .tell h0 h2 h3⟩
theorem Iv.tell {m : TpA} {s : TSt} {H : Hp} (i : Iv none H) (h : Tape (m.at_ s) H) : Iv (some (m.at_ s)) H := ⟨i.g, i.l, fun m' e => by injection e with e; subst e; exact h⟩
/-- in mode with the place told, seen without -/
theorem Le.forget {m : TpA} {s : TSt} {H H' : Hp} (hm : m.st = none) (h : Le (some (m.at_ s)) H H') : Le (some m) H H' :=
  ⟨⟨h.i0.g, h.i0.l, fun m' e => by injection e with e; subst e; exact (h.i0.t _ rfl).forget hm⟩, fun b o e n t => h.e b o e n fun m' e' => by injection e' with e'; subst e'; exact t m rfl, ⟨h.i1.g, h.i1.l, fun m' e => by injection e with e; subst e; exact (h.i1.t _ rfl).forget hm⟩⟩
/-- a block that knows where the tape stands -/
def TB (k : Nat) (X : Cx) (m : TpA) (s : TSt) (Γ : List Sl) (sts : List Stmt) (N : TSt → List Sl → Prop) (S : D → Prop) : Prop :=
  XOk X → Room k X.A → ∀ H0 σ H, Le (some m) H0 H → Tape (m.at_ s) H → (∀ H1, Sat Γ H1 σ H) → ∀ Dn : Ends, (∀ σ' H' s' Γ', Le (some m) H0 H' → Tape (m.at_ s') H' → N s' Γ' → (∀ H1, Sat Γ' H1 σ' H') → Dn.nx σ' H') → (∀ v H' d, Le (some m) H0 H' → S d → Rp H' v d → Dn.rt v H') → tSS X sts Dn σ H
section
variable {k : Nat} {X : Cx} {m : TpA} {s s' : TSt} {Γ Γ' : List Sl} {a b c e : Expr} {es : List Expr} {body els rest : List Stmt} {p pos pos' p1 p2 : Pos} {S : D → Prop} {N N1 : TSt → List Sl → Prop} {d : D} {x q : Str} {j : Nat} {kp : Pos} {z : Int} {i : Nat}
/-- T["q"] -/
def tget (s : TSt) (q : Str) : Option Int := (valV (tapeS 0 s) (.inr q)).bind fun v => match v with | .int z => some z | _ => none
theorem tget_val {l : Addr} (h : tget s q = some z) : valV (tapeS l s) (.inr q) = some (.int z) := by
  unfold tget at h
  have e : ∀ l, valV (tapeS l s) (.inr q) = if ("cells" : Str) = q then some (V.ref l) else if ("at" : Str) = q then some (.int s.1) else if ("great" : Str) = q then some (.int s.2.1) else if ("left" : Str) = q then some (.int s.2.2.1) else if ("seed" : Str) = q then some (.int s.2.2.2.1) else if ("turn" : Str) = q then some (.int s.2.2.2.2) else none := by
    intro l
    unfold tapeS tapeD
    have st : ∀ (n : Str) (v : V) (r : List (Key × V)), valV ((.inr n, v) :: r) (.inr q) = if n = q then some v else valV r (.inr q) := fun n v r => by
      by_cases e : n = q
      · rw [if_pos e, valV_pos (by rw [e])]
      · rw [if_neg e, valV_neg fun z => e (by injection z)]
    simp only [st, valV_nil]
  rw [e] at h ⊢
  by_cases h1 : ("cells" : Str) = q
  · rw [if_pos h1] at h; cases h
  · rw [if_neg h1] at h ⊢
    repeat' (split at h)
    all_goals first
      | (cases h; done)
      | (simp_all)
theorem E.tget (ha : E1 k X (some (m.at_ s)) Γ a (.adr m.t)) (h : tget s q = some z) (hsl : NoSl (.Constant (.str q) j kp) := by intro _ _; rfl) : E1 k X (some (m.at_ s)) Γ (.Subscript a (.Constant (.str q) j kp) pos) (.int z) := fun xk hr H0 σ H le sat Q qq =>
  to_s (pe_dget (Room.u1 hr) (pe_s (X := X) (e := a)) pe_str hsl) (ha xk hr H0 σ H le sat _ fun v H1 d1 l1 s1 r1 => by
    subst s1
    cases r1
    obtain ⟨h0, h1, h2⟩ := (l1.i1.t _ rfl).told
    refine ⟨m.t, .int z, rfl, ?_, qq _ _ _ l1 rfl (.int _)⟩
    rw [← tget_val (l := m.l) h]
    exact DGet.k (k := Sum.inr q) h1)
theorem E.tcells (ha : E1 k X (some (m.at_ s)) Γ a (.adr m.t)) (hsl : NoSl (.Constant (.str "cells") j kp) := by intro _ _; rfl) : E1 k X (some (m.at_ s)) Γ (.Subscript a (.Constant (.str "cells") j kp) pos) (.lst (m.cells.map D.int)) := fun xk hr H0 σ H le sat Q qq =>
  to_s (pe_dget (Room.u1 hr) (pe_s (X := X) (e := a)) pe_str hsl) (ha xk hr H0 σ H le sat _ fun v H1 d1 l1 s1 r1 => by
    subst s1
    cases r1
    obtain ⟨h0, h1, h2⟩ := (l1.i1.t _ rfl).told
    refine ⟨m.t, .ref m.l, rfl, ?_, qq _ _ _ l1 rfl (.lst h2 RpL.of_ints)⟩
    have : valV (tapeS m.l s) (.inr ("cells" : Str)) = some (.ref m.l) := by unfold tapeS tapeD; exact valV_pos rfl
    rw [← this]
    exact DGet.k (k := Sum.inr ("cells" : Str)) h1)
theorem TB.nil (h : N s Γ) : TB k X m s Γ [] N S := fun xk hr H0 σ H le tp sat Dn qn qr => to_ss pss_nil (show tNext Dn σ H from qn σ H s Γ le tp h sat)
theorem TB.ret (hm : m.st = none) (h : E k X (some (m.at_ s)) Γ e S) : TB k X m s Γ (.Return (some e) pos :: rest) N S := fun xk hr H0 σ H le tp sat Dn qn qr =>
  to_ss (pss_cons (ps_ret (pe_s (X := X) (e := e))) pss_s) (h xk hr H σ H (.refl (le.i1.pure.tell tp)) (sat H) _ fun v H' d l s r => qr v H' d (le.trans (l.forget hm)) s r)
theorem TB.set (hm : m.st = none) (i : Nat) (h : E1 k X (some (m.at_ s)) Γ e d) (h2 : TB k X m s (Γ.set i (.val d)) rest N S) (hi : X.N[i]? = some x := by rfl) (hx : Loc X.env.scope x := by first | exact .inl rfl | exact .inr rfl) (hs : swapsWith e (some (.Name x pos')) pos.line X.env = pure false := by rfl) (hf : X.fn x = true ∨ X.env.scope.names.lookup x = some .local := by first | exact .inl rfl | exact .inr rfl) :
    TB k X m s Γ (.Assign [.Name x pos'] e pos :: rest) N S := fun xk hr H0 σ H le tp sat Dn qn qr =>
  to_ss (pss_cons (ps_set xk.nd hi hx (pe_s (X := X) (e := e)) hs hf) (pss_s (X := X) (sts := rest))) (h xk hr H σ H (.refl (le.i1.pure.tell tp)) (sat H) _ fun v H' d' l sd r => by
    subst sd
    exact h2 xk hr H0 _ H' (le.trans (l.forget hm)) (l.i1.t _ rfl) (fun H1 => ((sat H1).mo l).set i (s := .val _) ⟨v, rfl, r⟩) Dn qn qr)
/-- what the dict holds behind a store -/
theorem TB.put (hm : m.st = none) (i : Nat) (ht : Γ[i]? = some (.val (.adr m.t))) (h : E1 k X (some (m.at_ s)) Γ e (.int z)) (hp : ∀ l, putK (tapeS l s) (.inr q) (.int z) = tapeS l s') (h0 : 0 ≤ s'.1) (h2 : TB k X m s' Γ rest N S)
    (hN : X.N[i]? = some x := by rfl) (hv : Vis X.env.scope x := by first | exact Or.inl rfl | exact Or.inr (Or.inl rfl) | exact Or.inr (Or.inr rfl)) (hdb : (x == ("__debug__" : Str)) = false := by decide) (hcd : (x == ("__classdict__" : Str)) = false := by decide)
    (hs : swapsWith e (some (.Subscript (.Name x p1) (.Constant (.str q) j kp) p2)) pos.line X.env = pure false := by rfl) :
    TB k X m s Γ (.Assign [.Subscript (.Name x p1) (.Constant (.str q) j kp) p2] e pos :: rest) N S := fun xk hr H0 σ H le tp sat Dn qn qr => by
  refine to_ss (pss_cons (ps_dput (Room.u1 hr) (pe_var hN hv hdb hcd) pe_str (pe_s (X := X) (e := e)) hs) (pss_s (X := X) (sts := rest))) (h xk hr H σ H (.refl (le.i1.pure.tell tp)) (sat H) _ fun v H' d' l sd r => ?_)
  subst sd
  cases r
  obtain ⟨g0, g1, g2⟩ := (l.i1.t _ rfl).told
  obtain ⟨w, ew, rw_⟩ := ((sat H').mo l).at_ i _ ht
  cases rw_
  have g1 : H' m.t = some (.dK (tapeS m.l s)) := g1
  refine ⟨_, ew, m.t, _, rfl, DPut.k (k := Sum.inr q) g1 (by unfold tapeS tapeD; exact Nat.lt_of_lt_of_le (by simp) (sz1000 (Nat.le_refl _)) |> fun (z : _ < sizeLine) => z), ?_⟩
  rw [hp m.l]
  have ll : Le (some m) H0 H' := le.trans (l.forget hm)
  have ntl : m.l ≠ m.t := fun z => by
    have g2 : H' m.l = some (.lst (m.cells.map V.int)) := g2
    rw [z, g1] at g2
    cases g2
  have tp' : Tape (m.at_ s') (upd H' m.t (.dK (tapeS m.l s'))) := .tell h0 upd_same (by rw [upd_ne ntl]; exact g2)
  have iv : Iv none (upd H' m.t (.dK (tapeS m.l s'))) := l.i1.pure.at (fun ps z => by rw [g1] at z; cases z) (fun ps z => by rw [g1] at z; cases z) fun _ z => nomatch z
  have le' : Le (some m) H0 (upd H' m.t (.dK (tapeS m.l s'))) := ⟨le.i0, fun b u e n t => by rw [upd_ne (Ne.symm (t m rfl))]; exact ll.e b u e n t, iv.g, iv.l, fun m' e => by injection e with e; subst e; exact tp'.forget hm⟩
  refine h2 xk hr H0 σ _ le' tp' (fun H1 => ⟨((sat H1).mo l).len, fun i' sl hsl => ?_⟩) Dn qn qr
  have q0 := ((sat H1).mo l).at_ i' sl hsl
  have lm : Le (some m) H' (upd H' m.t (.dK (tapeS m.l s'))) := ⟨ll.i1, fun b u e n t => by rw [upd_ne (Ne.symm (t m rfl))]; exact e, le'.i1⟩
  exact q0.mo lm
theorem TB.if_ (hm : m.st = none) {SB : Bool → Prop} (hc : T k X (some (m.at_ s)) Γ c SB) (h1 : SB true → TB k X m s Γ body N1 S) (h2 : SB false → TB k X m s Γ els N1 S) (h3 : ∀ s' Γ', N1 s' Γ' → TB k X m s' Γ' rest N S) : TB k X m s Γ (.If c body els pos :: rest) N S := fun xk hr H0 σ H le tp sat Dn qn qr =>
  to_ss (pss_cons (ps_if (pt_s (X := X) (e := c)) (pss_s (X := X) (sts := body)) (pss_s (X := X) (sts := els))) (pss_s (X := X) (sts := rest))) (hc xk hr H σ H (.refl (le.i1.pure.tell tp)) (sat H) _ fun z H1 l sb => by
    have ll := le.trans (l.forget hm)
    cases z with
    | true => exact iteT (h1 sb xk hr H0 σ H1 ll (l.i1.t _ rfl) (fun H2 => (sat H2).mo l) _ (fun σ' H' s' Γ' l' t' n' sat' => h3 s' Γ' n' xk hr H0 σ' H' l' t' sat' Dn qn qr) qr)
    | false => exact iteF (h2 sb xk hr H0 σ H1 ll (l.i1.t _ rfl) (fun H2 => (sat H2).mo l) _ (fun σ' H' s' Γ' l' t' n' sat' => h3 s' Γ' n' xk hr H0 σ' H' l' t' sat' Dn qn qr) qr))
/-- a def that moves the tape, by such a block -/
theorem B.tape {mu : Bool} {Γ : List Sl} {sts : List Stmt} {N : List Sl → Prop} (hm : m.st = none) (hv : Γ.all (fun s => match s with | .val _ => true | .non => true | _ => false) = true) (h : ∀ s, 0 ≤ s.1 → TB k X m s Γ sts (fun _ _ => False) S) : B k X (some m) mu Γ sts N S := fun xk hr F fr H0 σ H le hF sat Dn qn qr => by
  obtain ⟨s, tp⟩ := (le.i1.t m rfl).some
  have sat' : ∀ H1, Sat Γ H1 σ H := fun H1 => ⟨sat.len, fun i sl hsl => by
    have q := sat.at_ i sl hsl
    have hv' := List.all_eq_true.mp hv sl (List.mem_of_getElem? hsl)
    cases sl with
    | non => trivial
    | val d => exact q
    | own _ => cases hv'
    | obj _ _ _ _ => cases hv'
    | odic _ _ => cases hv'
    | mat _ => cases hv'⟩
  exact h s tp.told.1 xk hr H σ H (.refl le.i1) tp sat' Dn (fun _ _ _ _ _ _ z _ => z.elim) fun v H' d l s r => qr v H' d (le.trans l) (fr.le _ _ _ l hF) s r
end
end Ty
namespace Ty
open PySem PySem.Spec PyProof.Rows L2
variable [Cf] [Fx]
/-! ### the law's draws -/
theorem t_mixed (a b : Int) : Fn "_law_mixed" ["_law_number_here", "_law_turn"] 1 none [.int a, .int b] (fun d => ∃ z : Int, d = .int z ∧ 0 ≤ z) := by
  refine Fx.f__law_mixed.go false sc__law_mixed fun _ _ _ _ _ _ _ _ => ?_
  refine B.cons1 (P1.set 2 (E.mod (E.intI (E.add (E.add (E.mul (E.var 0) E.int (.inr ⟨by decide, by decide⟩)) (E.mul (E.var 1) E.int (.inr ⟨by decide, by decide⟩))) E.int)) E.int (by decide))) ?_
  generalize hf : (a * 48271 + b * 69621 + 11) % 2147483647 = f
  have f0 : 0 ≤ f ∧ f < 2147483647 := by rw [← hf]; exact ⟨Int.emod_nonneg _ (by decide), Int.emod_lt_of_pos _ (by decide)⟩
  refine B.cons1 (P1.set 3 (E.mod (E.intI (E.add (E.add (E.mul (E.var 2) E.int (.inr ⟨by decide, by decide⟩)) (E.fdiv (E.var 2) E.int ⟨by decide, by decide⟩)) (E.mul (E.var 1) E.int (.inr ⟨by decide, by decide⟩)))) E.int (by decide))) ?_
  generalize hg : (f * 16807 + f / 127773 + b * 271) % 1000003 = g
  have g0 : 0 ≤ g ∧ g < 1000003 := by rw [← hg]; exact ⟨Int.emod_nonneg _ (by decide), Int.emod_lt_of_pos _ (by decide)⟩
  refine B.last (P1.ret (E.mono (E.mod (E.intI (E.add (E.mul (E.var 3) (E.var 3) (.inl ⟨by omega, by omega⟩)) (E.fdiv (E.var 2) E.int ⟨by decide, by decide⟩))) E.int (by decide)) fun d h => ⟨_, h, Int.emod_nonneg _ (by decide)⟩))
section
variable {k : Nat} {X : Cx} {M : Option TpA} {m : TpA} {s : TSt} {s' : Int → TSt} {Γ : List Sl} {a b e : Expr} {rest : List Stmt} {p pos p1 p2 : Pos} {S : D → Prop} {N : TSt → List Sl → Prop} {x q : Str} {j : Nat} {kp : Pos} {SI : Int → Prop}
/-- a store of an int that is only known to be so -/
theorem TB.putN (hm : m.st = none) (i : Nat) (ht : Γ[i]? = some (.val (.adr m.t))) (h : E k X (some (m.at_ s)) Γ e (fun d => ∃ z, d = .int z ∧ SI z)) (hp : ∀ z l, putK (tapeS l s) (.inr q) (.int z) = tapeS l (s' z)) (h0 : ∀ z, 0 ≤ (s' z).1) (h2 : ∀ z, SI z → TB k X m (s' z) Γ rest N S)
    (hN : X.N[i]? = some x := by rfl) (hv : Vis X.env.scope x := by first | exact Or.inl rfl | exact Or.inr (Or.inl rfl) | exact Or.inr (Or.inr rfl)) (hdb : (x == ("__debug__" : Str)) = false := by decide) (hcd : (x == ("__classdict__" : Str)) = false := by decide)
    (hs : swapsWith e (some (.Subscript (.Name x p1) (.Constant (.str q) j kp) p2)) pos.line X.env = pure false := by rfl) :
    TB k X m s Γ (.Assign [.Subscript (.Name x p1) (.Constant (.str q) j kp) p2] e pos :: rest) N S := fun xk hr H0 σ H le tp sat Dn qn qr => by
  refine to_ss (pss_cons (ps_dput (Room.u1 hr) (pe_var hN hv hdb hcd) pe_str (pe_s (X := X) (e := e)) hs) (pss_s (X := X) (sts := rest))) (h xk hr H σ H (.refl (le.i1.pure.tell tp)) (sat H) _ fun v H' d' l sd r => ?_)
  obtain ⟨z, rfl, hz⟩ := sd
  cases r
  obtain ⟨g0, g1, g2⟩ := (l.i1.t _ rfl).told
  obtain ⟨w, ew, rw_⟩ := ((sat H').mo l).at_ i _ ht
  cases rw_
  have g1 : H' m.t = some (.dK (tapeS m.l s)) := g1
  refine ⟨_, ew, m.t, _, rfl, DPut.k (k := Sum.inr q) g1 (by unfold tapeS tapeD; exact Nat.lt_of_lt_of_le (by simp) (sz1000 (Nat.le_refl _)) |> fun (z : _ < sizeLine) => z), ?_⟩
  rw [hp z m.l]
  have ll : Le (some m) H0 H' := le.trans (l.forget hm)
  have ntl : m.l ≠ m.t := fun z => by
    have g2 : H' m.l = some (.lst (m.cells.map V.int)) := g2
    rw [z, g1] at g2
    cases g2
  have tp' : Tape (m.at_ (s' z)) (upd H' m.t (.dK (tapeS m.l (s' z)))) := .tell (h0 z) upd_same (by rw [upd_ne ntl]; exact g2)
  have iv : Iv none (upd H' m.t (.dK (tapeS m.l (s' z)))) := l.i1.pure.at (fun ps z => by rw [g1] at z; cases z) (fun ps z => by rw [g1] at z; cases z) fun _ z => nomatch z
  have le' : Le (some m) H0 (upd H' m.t (.dK (tapeS m.l (s' z)))) := ⟨le.i0, fun b u e n t => by rw [upd_ne (Ne.symm (t m rfl))]; exact ll.e b u e n t, iv.g, iv.l, fun m' e => by injection e with e; subst e; exact tp'.forget hm⟩
  refine h2 z hz xk hr H0 σ _ le' tp' (fun H1 => ⟨((sat H1).mo l).len, fun i' sl hsl => ?_⟩) Dn qn qr
  have q0 := ((sat H1).mo l).at_ i' sl hsl
  have lm : Le (some m) H' (upd H' m.t (.dK (tapeS m.l (s' z)))) := ⟨ll.i1, fun b u e n t => by rw [upd_ne (Ne.symm (t m rfl))]; exact e, le'.i1⟩
  exact q0.mo lm
/-- int(..) % n -/
theorem E.intS (h : E k X M Γ a (fun d => ∃ z, d = .int z ∧ SI z)) (hg : Gl X "int" := by rfl) (hs : starEach [a] X.env = (false, eval a X.env) :: starEach [] X.env := by rfl) : E k X M Γ (.Call (.Name "int" p) [a] [] pos) (fun d => ∃ z, d = .int z ∧ SI z) :=
  .callTy (fun xk _ => call_int1) (by decide) boot_int (args1 h hs) (fun ds e' H vs iv r Q q => by
    obtain ⟨_, rfl, z, rfl, hz⟩ := e'
    obtain ⟨v, rfl, rv⟩ := rp1 r
    cases rv
    exact .inl ⟨z, rfl, q _ _ _ (.refl iv) ⟨z, rfl, hz⟩ (.int _)⟩) hg (by decide) (by decide) hs rfl
theorem E.modS {n : Nat} (ha : E k X M Γ a (fun d => ∃ z, d = .int z ∧ SI z)) (hb : E1 k X M Γ b (.int (n : Int))) (hn : 1 ≤ n) : E k X M Γ (.BinOp a .Mod b pos) (fun d => ∃ z : Nat, d = .int (z : Int) ∧ z < n) :=
  .bin (fun _ _ => op_mod) ha hb fun d1 d2 e1 e2 H x y iv r1 r2 Q q => by
    obtain ⟨z, rfl, hz⟩ := e1
    subst e2
    cases r1
    cases r2
    have h1 := Int.emod_nonneg z (b := (n : Int)) (by omega)
    have h2 := Int.emod_lt_of_pos z (b := (n : Int)) (by omega)
    refine ⟨z, (n : Int), rfl, rfl, (show (0 : Int) < (n : Int) by omega), q _ _ _ (.refl iv) ⟨(z % (n : Int)).toNat, ?_, by omega⟩ (.int _)⟩
    rw [Int.toNat_of_nonneg h1]
end
/-- a draw below many -/
theorem t_draw (m : TpA) (hm : m.st = none) (n : Nat) (hn : 1 ≤ n) : Fn "_law_draw" ["_law_tape_here", "_law_many"] 3 (some m) [.adr m.t, .int (n : Int)] (fun d => ∃ z : Nat, d = .int (z : Int) ∧ z < n) := by
  refine Fx.f__law_draw.go false sc__law_draw fun _ _ _ _ _ _ _ _ => ?_
  refine B.tape hm rfl fun s hs => ?_
  obtain ⟨at_, gr, lf, sd, tn⟩ := s
  have hs : 0 ≤ at_ := hs
  refine TB.put (s' := (at_, gr, lf, sd, tn + 1)) hm 0 rfl (E.add (E.tget (E.var 0) rfl) E.int) (fun l => rfl) hs ?_
  refine TB.if_ (N1 := fun s' g => 0 ≤ s'.1 ∧ ∃ c1, g = [.val (.adr m.t), .val (.int (n : Int)), c1, .non]) hm (T.ofW (TW.and (T.eqI (E.tget (E.var 0) rfl) E.int) (TW.and1 (T.lt (E.tget (E.var 0) rfl) (E.len (E.tcells (E.var 0)) .l))))) (fun hb => ?_) (fun hb => TB.nil ⟨hs, _, rfl⟩) fun s' g hg => ?_
  · have hb' : lf = 0 ∧ at_ < ((m.cells.map D.int).length : Int) := by simpa using hb.symm
    have hlt : at_.toNat < m.cells.length := by have := hb'.2; rw [List.length_map] at this; omega
    refine TB.set hm 2 (E.ixL (d := .int m.cells[at_.toNat]) (E.tcells (E.var 0)) (E.tget (E.var 0) rfl) (by unfold atD; rw [if_pos hs, List.getElem?_map, List.getElem?_eq_getElem hlt]; rfl)) ?_
    refine TB.put (s' := (at_ + 1, gr, lf, sd, tn + 1)) hm 0 rfl (E.add (E.tget (E.var 0) rfl) E.int) (fun l => rfl) (show 0 ≤ at_ + 1 by omega) ?_
    refine TB.putN (s' := fun z => (at_ + 1, gr, lf, z, tn + 1)) hm 0 rfl (E.call (t_mixed _ _) (A.cons (E.add (E.tget (E.var 0) rfl) (E.var 2)) (A.cons (E.tget (E.var 0) rfl) A.nil))) (fun z l => rfl) (fun z => show 0 ≤ at_ + 1 by omega) fun z hz => ?_
    refine TB.put (s' := (at_ + 1, gr, 4, z, tn + 1)) hm 0 rfl E.int (fun l => rfl) (show 0 ≤ at_ + 1 by omega) ?_
    refine TB.if_ hm (T.ge (E.var 2) (E.pow E.int E.int ⟨by decide, by decide, by decide⟩)) (fun _ => ?_) (fun _ => TB.nil ⟨show 0 ≤ at_ + 1 by omega, _, rfl⟩) fun s' g hg => TB.nil hg
    refine TB.put (s' := (at_ + 1, m.cells[at_.toNat], 4, z, tn + 1)) hm 0 rfl (E.var 2) (fun l => rfl) (show 0 ≤ at_ + 1 by omega) ?_
    exact TB.put (s' := (at_ + 1, m.cells[at_.toNat], 60, z, tn + 1)) hm 0 rfl E.int (fun l => rfl) (show 0 ≤ at_ + 1 by omega) (TB.nil ⟨show 0 ≤ at_ + 1 by omega, _, rfl⟩)
  obtain ⟨h0, c1, rfl⟩ := hg
  obtain ⟨at_, gr, lf, sd, tn⟩ := s'
  have h0 : 0 ≤ at_ := h0
  refine TB.if_ (N1 := fun s' g => 0 ≤ s'.1 ∧ g = [.val (.adr m.t), .val (.int (n : Int)), c1, .non]) hm (T.gt (E.tget (E.var 0) rfl) E.int) (fun _ => TB.put (s' := (at_, gr, lf - 1, sd, tn)) hm 0 rfl (E.sub (E.tget (E.var 0) rfl) E.int) (fun l => rfl) h0 (TB.nil ⟨h0, rfl⟩)) (fun _ => TB.nil ⟨h0, rfl⟩) fun s' g hg => ?_
  obtain ⟨h0, rfl⟩ := hg
  obtain ⟨at_, gr, lf, sd, tn⟩ := s'
  have h0 : 0 ≤ at_ := h0
  refine TB.if_ (N1 := fun s' g => s' = (at_, gr, lf, sd, tn) ∧ g = [.val (.adr m.t), .val (.int (n : Int)), c1, .non]) hm (T.eqI (E.tget (E.var 0) rfl) E.int) (fun _ => TB.ret hm (E.modS (E.intS (E.call (t_mixed _ _) (A.cons (E.tget (E.var 0) rfl) (A.cons (E.tget (E.var 0) rfl) A.nil)))) (E.var 1) hn)) (fun _ => TB.nil ⟨rfl, rfl⟩) fun s' g hg => ?_
  obtain ⟨rfl, rfl⟩ := hg
  refine TB.set hm 3 (E.mod (E.intI (E.tget (E.var 0) rfl)) E.int (by decide)) ?_
  refine TB.put (s' := (at_, gr / 1009, lf, sd, tn)) hm 0 rfl (E.fdiv (E.tget (E.var 0) rfl) E.int ⟨by decide, by decide⟩) (fun l => rfl) h0 ?_
  refine TB.if_ (N1 := fun s' g => g = [.val (.adr m.t), .val (.int (n : Int)), c1, .val (.int (gr % 1009))]) hm (T.ofW (TW.or (T.eqI (E.tget (E.var 0) rfl) E.int) (TW.or1 (T.eqI (E.tget (E.var 0) rfl) E.int)))) (fun _ => TB.put (s' := (at_, 0, lf, sd, tn)) hm 0 rfl E.int (fun l => rfl) h0 (TB.put (s' := (at_, 0, 0, sd, tn)) hm 0 rfl E.int (fun l => rfl) h0 (TB.nil rfl))) (fun _ => TB.nil rfl) fun s' g hg => ?_
  subst hg
  exact TB.ret hm (E.modS (SI := fun _ => True) (E.mono (E.intI (E.var 3)) fun d h => ⟨_, h, trivial⟩) (E.var 1) hn)
end Ty
namespace Ty
open PySem PySem.Spec PyProof.Rows L2
variable [Cf] [Fx]
theorem t_word (m : TpA) (hm : m.st = none) (n : Nat) (hn : n ≤ 600) : Fn "_law_word" ["_law_tape_here", "_law_n"] 4 (some m) [.adr m.t, nd n] (fun d => ∃ w : List Bool, w.length = n ∧ d = wd w) := by
  refine Fx.f__law_word.go false sc__law_word fun _ _ _ _ _ _ _ _ => ?_
  refine B.cons1 (P1.set 2 (E.lst A.nil)) ?_
  have e8 : ((n : Int) + 7) / 8 = (((n + 7) / 8 : Nat) : Int) := by omega
  refine B.cons (P1.for_ (xs := List.range ((n + 7) / 8)) (enc := nd) (fun i g => ∃ w : List Bool, w.length = 8 * i ∧ g = [.val (.adr m.t), .val (nd n), .val (.lst (w.map bd)), .non, .non, .non]) (W.range1 (E.to (E.fdiv (E.add (E.var 1) E.int) E.int ⟨by decide, by decide⟩) (by rw [e8])) (by omega)) ⟨[], rfl, rfl⟩
    (fun i x g hx hg => ?_)) fun g hg => ?_
  · obtain ⟨w, hw, rfl⟩ := hg
    have hi : i < (n + 7) / 8 := by have := (List.getElem?_eq_some_iff.mp hx).1; simpa using this
    refine ⟨_, _, G.name 3, B.cons (P1.setN 4 (E.call (t_draw m hm 256 (by decide)) (A.cons (E.var 0) (A.cons E.int A.nil)))) fun g hg => ?_⟩
    obtain ⟨_, ⟨z, rfl, hz⟩, rfl⟩ := hg
    refine B.cons1 (P1.set 2 (E.to (d' := .lst ((w ++ (List.range 8).map fun k => decide ((z : Int) / 2 ^ k % 2 = 1)).map bd)) (E.catL (E.var 2) (E.lcM (f := fun k => bd (decide ((z : Int) / 2 ^ k % 2 = 1))) [("_law_at", 5)] (W.range1 (n := 8) E.int (by omega)) (blkOk_by (N := n__law_word) (sc := defScope s__law_word) (by decide +kernel)) (by simp) (fun _ _ _ _ _ x _ => G.name 5) (by decide) (fun _ => rfl)
      (fun _ _ _ _ _ k hk => E.to (E.mod (E.intI (E.shr (E.var 4) (E.var 5) (by omega))) E.int (by decide)) (by rw [Int.toNat_natCast]; exact congrArg D.int (bi_mod2 _)))) (by rw [List.length_map, List.length_map, List.length_range]; omega)) (by rw [List.map_append, List.map_map]; rfl)))
      (B.nilF [3, 4] ⟨_, by rw [List.length_append, List.length_map, List.length_range, hw]; omega, rfl⟩)
  · obtain ⟨w, hw, rfl⟩ := hg
    rw [List.length_range] at hw
    exact B.last (P1.ret (E.mono (E.tupOf (E.slL (E.var 2) O.none (O.some (E.var 1))) .l) fun d h => ⟨w.take n, by rw [List.length_take]; omega, by rw [h, cut_hi, ← List.map_take]⟩))
/-! the plain ones -/
def dotI (w : List Bool) (e : Eqn) : Int := (e.pairs.map fun q => bi (w.getD q.1 false && w.getD q.2 false)).sum + (e.singles.map fun i => bi (w.getD i false)).sum
def leftB (w : List Bool) (e : Eqn) : Bool := decide (dotI w e % 2 = 1)
theorem bi_mul (a b : Bool) : bi a * bi b = bi (a && b) := by cases a <;> cases b <;> rfl
theorem at_bits {w : List Bool} {i : Nat} (h : i < w.length) : atD (w.map bd) (i : Int) = some (bd (w.getD i false)) := by
  rw [atD_nat, List.getElem?_map, List.getElem?_eq_getElem h, List.getD_eq_getElem?_getD, List.getElem?_eq_getElem h]
  rfl
theorem t_left (w : List Bool) (e : Eqn) (n : Nat) (r P : D) (hw : w.length = n) (hp : ∀ q ∈ e.pairs, q.1 < q.2 ∧ q.2 < n) (hs : ∀ i ∈ e.singles, i < n) (lp : e.pairs.length ≤ 500) (ls : e.singles.length ≤ 500) (hP : P = .tup (e.pairs.map pd) ∨ P = .lst (e.pairs.map pd)) :
    Fn1 "_law_left" ["_law_word_here", "_law_equation_here"] 1 none [wd w, .tup [P, .tup (e.singles.map nd), r]] (bd (leftB w e)) := by
  refine Fx.f__law_left.go false sc__law_left fun _ _ _ _ _ _ _ _ => ?_
  have key : ∀ {X : Cx} {Γ : List Sl} {a tg : Expr}, E1 0 X none Γ a P → W 0 X none false Γ tg a (e.pairs.map pd) := fun {X Γ a tg} h => by
    rcases hP with rfl | rfl
    · exact W.tup h
    · exact W.lst h
  refine B.cons1 (P1.set 2 (E.to (d' := .int (dotI w e)) (E.add (E.sumL (E.to (E.lcM (f := fun q : Nat × Nat => bd (w.getD q.1 false && w.getD q.2 false)) [("_law_i", 3), ("_law_j", 4)] (key (E.ixT (E.var 1) E.int rfl)) (blkOk_by (N := n__law_left) (sc := defScope s__law_left) (by decide +kernel)) (by omega) (fun _ _ _ _ _ q _ => G.tup (Gs.cons (G.name 3) (Gs.cons (G.name 4) Gs.nil))) (by decide) (fun _ => rfl)
      (fun _ _ _ _ _ q hq => E.to (E.mul (E.ixT (E.var 0) (E.var 3) (at_bits (by have := hp q hq; omega))) (E.ixT (E.var 0) (E.var 4) (at_bits (by have := hp q hq; omega))) (.inl ⟨by have := bi_ge (w.getD q.1 false); omega, by have := bi_le (w.getD q.1 false); omega⟩)) (by rw [bi_mul])))
      (d' := .lst ((e.pairs.map fun q => bi (w.getD q.1 false && w.getD q.2 false)).map D.int)) (by rw [List.map_map]; rfl)))
    (E.sumL (E.to (E.lcM (f := fun i : Nat => bd (w.getD i false)) (xs := e.singles) (enc := nd) [("_law_i", 3)] (W.tup (E.ixT (E.var 1) E.int rfl)) (blkOk_by (N := n__law_left) (sc := defScope s__law_left) (by decide +kernel)) (by omega) (fun _ _ _ _ _ q _ => G.name 3) (by decide) (fun _ => rfl)
      (fun _ _ _ _ _ i hi => E.ixT (E.var 0) (E.var 3) (at_bits (by have := hs i hi; omega)))) (d' := .lst ((e.singles.map fun i => bi (w.getD i false)).map D.int)) (by rw [List.map_map]; rfl)))) rfl)) ?_
  exact B.last (P1.ret (E.to (E.mod (E.intI (E.var 2)) E.int (by decide)) (by rw [bi_mod2]; rfl)))
theorem zip_range {α : Type} (a b : List α) (d : α) (h : a.length = b.length) : (List.range a.length).map (fun k => (a.getD k d, b.getD k d)) = a.zip b := by
  refine List.ext_getElem (by simp [h]) fun i h1 h2 => ?_
  have hi : i < a.length := by simpa using h1
  rw [List.getElem_map, List.getElem_range, List.getElem_zip, List.getD_eq_getElem?_getD, List.getD_eq_getElem?_getD, List.getElem?_eq_getElem hi, List.getElem?_eq_getElem (h ▸ hi)]
  rfl
theorem t_times_word (a b : List Bool) (h : a.length = b.length) (hl : a.length ≤ 1000) : Fn1 "_law_times_word" ["_law_one", "_law_other"] 1 none [wd a, wd b] (bd (parW a b)) := by
  refine Fx.f__law_times_word.go false sc__law_times_word fun _ _ _ _ _ _ _ _ => ?_
  refine B.last (P1.ret (E.to (E.mod (E.intI (E.sumL (E.to (E.lcM (f := fun k => bd (a.getD k false && b.getD k false)) [("_law_k", 2)] (W.range1 (n := a.length) (E.to (E.len (E.var 0) .t) (by rw [List.length_map])) (by omega)) (blkOk_by (N := n__law_times_word) (sc := defScope s__law_times_word) (by decide +kernel)) (by rw [List.length_range]; exact hl) (fun _ _ _ _ _ x _ => G.name 2) (by decide) (fun _ => rfl)
    (fun _ _ _ _ _ k hk => E.to (E.mul (E.ixT (E.var 0) (E.var 2) (at_bits (by have := List.mem_range.mp hk; omega))) (E.ixT (E.var 1) (E.var 2) (at_bits (by have := List.mem_range.mp hk; omega))) (.inl ⟨by have := bi_ge (a.getD k false); omega, by have := bi_le (a.getD k false); omega⟩)) (by rw [bi_mul])))
    (d' := .lst (((a.zip b).map fun p => bi (p.1 && p.2)).map D.int)) (by rw [← zip_range a b false h, List.map_map, List.map_map]; rfl)))) E.int (by decide)) (by rw [bi_mod2]; rfl)))
theorem t_law_square_of (a b : List Bool) (ha : a.length ≤ 100) (hb : b.length = a.length) : Fn1 "_law_square_of" ["_law_one", "_law_other"] 1 none [wd a, wd b] (sd (sqF a b)) := by
  refine Fx.f__law_square_of.go false sc__law_square_of fun _ _ _ _ _ _ _ _ => ?_
  refine B.last (P1.ret (E.to (E.tupOf (E.lcM (f := fun x : Bool => wd (b.map fun y => x && y)) [("_law_a", 2)] (W.tup (E.var 0)) (blkOk_by (N := n__law_square_of) (sc := defScope s__law_square_of) (by decide +kernel)) (by omega) (fun _ _ _ _ _ x _ => G.name 2) (by decide) (fun x => by simp only [D.im]; exact im_bits _)
    (fun _ _ _ _ _ x hx => E.to (E.tupOf (E.lcM (f := fun y : Bool => bd (x && y)) [("_law_b", 3)] (W.tup (E.var 1)) (blkOk_by (N := n__law_square_of) (sc := relS { kind := .function, names := [(".0", .local), ("_law_a", .cell), ("tuple", .globalImplicit), ("_law_other", .free)], isGenerator := false, isCoroutine := false } (defScope s__law_square_of)) (by decide +kernel)) (by omega) (fun _ _ _ _ _ y _ => G.name 3) (by decide) (fun _ => rfl)
      (fun _ _ _ _ _ y hy => E.to (E.mul (E.var 2) (E.var 3) (.inl ⟨by have := bi_ge x; omega, by have := bi_le x; omega⟩)) (by rw [bi_mul]))) .l) (by rw [wd, List.map_map]; rfl))) .l) ?_))
  unfold sqF
  rw [sd, List.map_map]
  congr 1
  refine List.map_congr_left fun x _ => ?_
  cases x
  · show wd _ = wd (zeroW a.length)
    congr 2
    refine List.ext_getElem (by simp [zeroW, hb]) fun i h1 h2 => by simp [zeroW]
  · show wd _ = wd b
    congr 2
    simp
theorem t_law_flat (m : List (List Bool)) (h : m.flatten.length ≤ 1000) : Fn1 "_law_flat" ["_law_square_here"] 1 none [sd m] (wd m.flatten) := by
  refine Fx.f__law_flat.go false sc__law_flat fun _ _ _ _ _ _ _ _ => ?_
  refine B.cons1 (P1.set 1 (E.tup A.nil)) ?_
  refine B.cons (P1.for_ (xs := m) (enc := wd) (fun i g => g = [.val (sd m), .val (wd (m.take i).flatten), .non]) (W.tup (E.var 0)) rfl (fun i x g hx hg => ?_)) fun g hg => ?_
  · subst hg
    have e : (m.take (i + 1)).flatten = (m.take i).flatten ++ x := by rw [List.take_add_one, hx, List.flatten_append]; simp
    refine ⟨_, _, G.name 2, B.cons1 (P1.set 1 (E.to (E.catT (E.var 1) (E.var 2) ?_) (by rw [e, ← List.map_append]))) (B.nilF [2] rfl)⟩
    have e2 : m.flatten = (m.take (i + 1)).flatten ++ (m.drop (i + 1)).flatten := by rw [← List.flatten_append, List.take_append_drop]
    rw [List.length_map, List.length_map]
    rw [e2, List.length_append, e, List.length_append] at h
    omega
  · subst hg
    rw [List.take_length]
    exact B.last (P1.ret (E.var 1))
theorem t_law_rows (w : List Bool) (n : Nat) (hn : n ≤ 100) (P : D) (hP : P = wd w ∨ P = .lst (w.map bd)) : Fn1 "_law_rows" ["_law_bits", "_law_n"] 1 none [P, nd n] (sd (rowsW n w)) := by
  refine Fx.f__law_rows.go false sc__law_rows fun _ _ _ _ _ _ _ _ => ?_
  rcases hP with rfl | rfl
  · refine B.last (P1.ret (E.to (E.tupOf (E.lcM (f := fun i => wd ((w.drop (i * n)).take n)) [("_law_at", 2)] (W.range1 (E.var 1) (by omega)) (blkOk_by (N := n__law_rows) (sc := defScope s__law_rows) (by decide +kernel)) (by rw [List.length_range]; omega) (fun _ _ _ _ _ x _ => G.name 2) (by decide) (fun i => by simp only [D.im]; exact im_bits _)
      (fun _ _ _ _ _ i hi => E.to (E.tupOf (E.slT (lo := some ((i * n : Nat) : Int)) (hi := some ((i * n + n : Nat) : Int)) (E.var 0) (O.some (E.to (E.mul (E.var 2) (E.var 1) (.inr ⟨by omega, by omega⟩)) (by rw [Int.natCast_mul]))) (O.some (E.to (E.add (E.mul (E.var 2) (E.var 1) (.inr ⟨by omega, by omega⟩)) (E.var 1)) (by rw [Int.natCast_add, Int.natCast_mul])))) .t)
        (by rw [cut_both, Nat.add_sub_cancel_left, ← List.map_drop, ← List.map_take]))) .l) (by unfold rowsW; rw [sd, List.map_map]; rfl)))
  · refine B.last (P1.ret (E.to (E.tupOf (E.lcM (f := fun i => wd ((w.drop (i * n)).take n)) [("_law_at", 2)] (W.range1 (E.var 1) (by omega)) (blkOk_by (N := n__law_rows) (sc := defScope s__law_rows) (by decide +kernel)) (by rw [List.length_range]; omega) (fun _ _ _ _ _ x _ => G.name 2) (by decide) (fun i => by simp only [D.im]; exact im_bits _)
      (fun _ _ _ _ _ i hi => E.to (E.tupOf (E.slL (lo := some ((i * n : Nat) : Int)) (hi := some ((i * n + n : Nat) : Int)) (E.var 0) (O.some (E.to (E.mul (E.var 2) (E.var 1) (.inr ⟨by omega, by omega⟩)) (by rw [Int.natCast_mul]))) (O.some (E.to (E.add (E.mul (E.var 2) (E.var 1) (.inr ⟨by omega, by omega⟩)) (E.var 1)) (by rw [Int.natCast_add, Int.natCast_mul])))) .l)
        (by rw [cut_both, Nat.add_sub_cancel_left, ← List.map_drop, ← List.map_take]))) .l) (by unfold rowsW; rw [sd, List.map_map]; rfl)))
theorem t_law_number (w : List Bool) (hl : w.length ≤ 600) : Fn1 "_law_number" ["_law_bits"] 1 none [wd w] (.int (num w : Nat)) := Fx.f__law_number.go false sc__law_number fun _ _ _ _ _ _ _ _ =>
  B.cons1 (P1.set 1 E.int) (B.cons (P1.for_ (xs := w) (enc := bd) (fun i g => g = [.val (wd w), .val (.int (num (w.take i) : Nat)), .non]) (W.tup (E.var 0)) rfl
    (fun i x g hx hg => by
      subst hg
      refine ⟨_, _, G.name 2, B.cons1 (P1.set 1 (E.to (E.add (E.mul E.int (E.var 1) (.inl ⟨by omega, by omega⟩)) (E.var 2)) ?_)) (B.nilF [2] rfl)⟩
      have : num (w.take (i + 1)) = 2 * num (w.take i) + (if x then 1 else 0) := by
        unfold num numFrom
        rw [List.take_add_one, hx]
        simp
      rw [this]
      cases x <;> simp [bi] <;> rfl))
    fun g hg => by
      subst hg
      rw [List.take_length]
      exact B.last (P1.ret (E.var 1)))
end Ty
namespace Ty
open PySem PySem.Spec PyProof.Rows L2
/-! ### equations drawn -/
def lexLt2 (p q : Nat × Nat) : Prop := p.1 < q.1 ∨ (p.1 = q.1 ∧ p.2 < q.2)
variable [Cf] [Fx]
theorem asc_pairs {ps : List (Nat × Nat)} (h : ps.Pairwise lexLt2) : Asc (ps.map pd) := fun k a b ha hb => by
  rw [List.getElem?_map] at ha hb
  cases e1 : ps[k]? with
  | none => rw [e1] at ha; cases ha
  | some p => cases e2 : ps[k + 1]? with
    | none => rw [e2] at hb; cases hb
    | some q =>
      rw [e1] at ha
      rw [e2] at hb
      cases ha
      cases hb
      obtain ⟨h1, e1⟩ := List.getElem?_eq_some_iff.mp e1
      obtain ⟨h2, e2⟩ := List.getElem?_eq_some_iff.mp e2
      have hl := List.pairwise_iff_getElem.mp h k (k + 1) h1 h2 (by omega)
      rw [e1, e2] at hl
      have ep : (pd p).py = .tuple [.int p.1, .int p.2] := by simp [D.py, D.pyL]
      have eq : (pd q).py = .tuple [.int q.1, .int q.2] := by simp [D.py, D.pyL]
      rw [ep, eq]
      refine ⟨by simp [PySem.W.alike, PySem.W.alikeAll], (fun z => nomatch z), ?_⟩
      rw [PySem.W.dataLt_ii]
      refine decide_eq_true ?_
      unfold lexLt2 at hl
      omega
theorem asc_nats {ps : List Nat} (h : ps.Pairwise (· < ·)) : Asc (ps.map nd) := fun k a b ha hb => by
  rw [List.getElem?_map] at ha hb
  cases e1 : ps[k]? with
  | none => rw [e1] at ha; cases ha
  | some p => cases e2 : ps[k + 1]? with
    | none => rw [e2] at hb; cases hb
    | some q =>
      rw [e1] at ha
      rw [e2] at hb
      cases ha
      cases hb
      obtain ⟨h1, e1⟩ := List.getElem?_eq_some_iff.mp e1
      obtain ⟨h2, e2⟩ := List.getElem?_eq_some_iff.mp e2
      have hl := List.pairwise_iff_getElem.mp h k (k + 1) h1 h2 (by omega)
      rw [e1, e2] at hl
      have ep : ∀ i : Nat, (nd i).py = .int i := fun i => by simp [D.py]
      rw [ep, ep]
      refine ⟨by simp [PySem.W.alike], (fun z => nomatch z), ?_⟩
      rw [PySem.W.dataLt_int]
      exact decide_eq_true (by omega)
theorem LcR.sub {α : Type} {f : α → D} {xs : List α} {es : List D} (h : LcR (fun _ _ => True) (fun x d => d = f x) xs es) : ∃ ys : List α, es = ys.map f ∧ ys.Sublist xs := by
  induction h with
  | nil => exact ⟨[], rfl, List.Sublist.refl _⟩
  | @keep xs es x d h h1 h2 ih =>
    obtain ⟨ys, rfl, hs⟩ := ih
    exact ⟨ys ++ [x], by rw [h2, List.map_append]; rfl, hs.append (List.Sublist.refl _)⟩
  | @skip xs es x h h1 ih =>
    obtain ⟨ys, rfl, hs⟩ := ih
    exact ⟨ys, rfl, hs.trans (List.sublist_append_left _ _)⟩
section
variable {k : Nat} {X : Cx} {M : Option TpA} {Γ : List Sl} {a b : Expr} {pos : Pos} {SI : Nat → Prop} {j : Int}
theorem T.eqN (ha : E k X M Γ a (fun d => ∃ z : Nat, d = .int (z : Int) ∧ SI z)) (hb : E1 k X M Γ b (.int j)) : T k X M Γ (.Compare a [.Eq] [b] pos) (fun _ => True) := .cmp (nomark _) (fun _ _ => op_eq) ha hb fun d1 d2 e1 e2 H x y iv r1 r2 Q q => by
  obtain ⟨z, rfl, _⟩ := e1
  subst e2
  cases r1
  cases r2
  exact ⟨rfl, q _ _ _ (.refl iv) ⟨_, rfl, trivial⟩ (.bl _)⟩
theorem T.ltN (ha : E k X M Γ a (fun d => ∃ z : Nat, d = .int (z : Int) ∧ SI z)) (hb : E1 k X M Γ b (.int j)) : T k X M Γ (.Compare a [.Lt] [b] pos) (fun _ => True) := .cmp (nomark _) (fun _ _ => op_lt) ha hb fun d1 d2 e1 e2 H x y iv r1 r2 Q q => by
  obtain ⟨z, rfl, _⟩ := e1
  subst e2
  cases r1
  cases r2
  exact ⟨_, _, rfl, rfl, q _ _ _ (.refl iv) ⟨_, rfl, trivial⟩ (.bl _)⟩
end
theorem t_equation (m : TpA) (hm : m.st = none) (n : Nat) (w : List Bool) (hn : 1 ≤ n ∧ n ≤ 12) (hw : w.length = n) : Fn "_law_equation" ["_law_tape_here", "_law_n", "_law_word_here"] 4 (some m) [.adr m.t, nd n, wd w] (fun d => ∃ e : Eqn, EqOk n e ∧ d = ed e) := by
  refine Fx.f__law_equation.go true sc__law_equation fun _ _ _ _ _ _ _ _ => ?_
  refine B.cons (P1.setOwn 3 (EF.lst A.nil)) fun g hg => ?_
  obtain ⟨ds, rfl, rfl⟩ := hg
  refine B.cons (P1.for_ (xs := List.range n) (enc := nd) (fun i g => ∃ ps : List (Nat × Nat), ps.Pairwise lexLt2 ∧ (∀ q ∈ ps, q.1 < i ∧ q.1 < q.2 ∧ q.2 < n) ∧ ps.length ≤ i * n ∧ g = [.val (.adr m.t), .val (nd n), .val (wd w), .own (ps.map pd), .non, .non, .non, .non]) (W.range1 (E.var 1) (by omega)) ⟨[], .nil, by simp, by simp, rfl⟩
    (fun i x g hx hg => ?_)) fun g hg => ?_
  · obtain ⟨ps, h1, h2, h3, rfl⟩ := hg
    obtain ⟨hi, hx'⟩ := List.getElem?_eq_some_iff.mp hx
    rw [List.length_range] at hi
    rw [List.getElem_range] at hx'
    subst hx'
    refine ⟨_, _, G.name 4, ?_⟩
    have hti : ((n : Int) - ((i : Int) + 1)).toNat = n - (i + 1) := by omega
    refine B.cons (P1.for_ (xs := List.range ((n : Int) - ((i : Int) + 1)).toNat) (enc := fun k => D.int ((i : Int) + 1 + ((k : Nat) : Int))) (fun j g => ∃ ps : List (Nat × Nat), ps.Pairwise lexLt2 ∧ (∀ q ∈ ps, (q.1 < i ∨ (q.1 = i ∧ q.2 < i + 1 + j)) ∧ q.1 < q.2 ∧ q.2 < n) ∧ ps.length ≤ i * n + j ∧ g = [.val (.adr m.t), .val (nd n), .val (wd w), .own (ps.map pd), .val (nd i), .non, .non, .non]) (W.range2 (E.add (E.var 4) E.int) (E.var 1) (by omega))
      ⟨ps, h1, fun q hq => ⟨.inl (h2 q hq).1, (h2 q hq).2⟩, by omega, rfl⟩ (fun j y g hy hg => ?_)) fun g hg => ?_
    · obtain ⟨ps, h1, h2, h3, rfl⟩ := hg
      obtain ⟨hj, hy'⟩ := List.getElem?_eq_some_iff.mp hy
      rw [List.length_range, hti] at hj
      rw [List.getElem_range] at hy'
      subst hy'
      have ej : ((i : Int) + 1 + (j : Int)) = ((i + 1 + j : Nat) : Int) := by omega
      have hin : i * n + j < 1000 := by
        have : i * n ≤ 11 * 12 := Nat.mul_le_mul (by omega) hn.2
        omega
      refine ⟨_, _, G.name 5, B.cons (P1.if_ (N := fun g => ∃ ps : List (Nat × Nat), ps.Pairwise lexLt2 ∧ (∀ q ∈ ps, (q.1 < i ∨ (q.1 = i ∧ q.2 < i + 1 + (j + 1))) ∧ q.1 < q.2 ∧ q.2 < n) ∧ ps.length ≤ i * n + (j + 1) ∧ g = [.val (.adr m.t), .val (nd n), .val (wd w), .own (ps.map pd), .val (nd i), .val (.int ((i : Int) + 1 + (j : Int))), .non, .non])
        (T.ltN (E.call (t_draw m hm (n + 1) (by omega)) (A.cons (E.var 0) (A.cons (E.to (E.add (E.var 1) E.int) (by rw [Int.natCast_add]; rfl)) A.nil))) E.int) (fun _ => ?_) (fun _ => ?_)) fun g hg => ?_⟩
      · refine B.cons1 (P1.append 3 (d := pd (i, i + 1 + j)) rfl (by simp [imBut, Sl.im, D.im, D.imL, im_bits]) (by rw [List.length_map]; omega) ⟨im_pds _, by simp [D.im, D.imL]⟩ (E.to (E.tup (A.cons (E.var 4) (A.cons (E.var 5) A.nil))) (by rw [ej])) rfl rfl (.inl rfl) (by decide) (by decide) rfl rfl rfl (ps_expr (pe_bm PySem.F.plainAttrs_list PySem.F.slot_list_append PySem.F.type_list_append mt_append (pv 3) pa_s))) (B.nil ⟨ps ++ [(i, i + 1 + j)], ?_, ?_, by rw [List.length_append]; simp; omega, by rw [List.map_append]; rfl⟩)
        · rw [List.pairwise_append]
          refine ⟨h1, by simp, fun q hq r hr => ?_⟩
          rw [List.mem_singleton.mp hr]
          unfold lexLt2
          have := h2 q hq
          simp
          omega
        · intro q hq
          rcases List.mem_append.mp hq with hq | hq
          · have := h2 q hq
            omega
          · rw [List.mem_singleton.mp hq]
            simp
            omega
      · exact B.nil ⟨ps, h1, fun q hq => by have := h2 q hq; omega, by omega, rfl⟩
      · obtain ⟨ps, h1, h2, h3, rfl⟩ := hg
        exact B.nilF [5] ⟨ps, h1, h2, h3, rfl⟩
    · obtain ⟨ps, h1, h2, h3, rfl⟩ := hg
      rw [List.length_range, hti] at h2 h3
      refine B.nilF [4] ⟨ps, h1, fun q hq => by have := h2 q hq; omega, ?_, rfl⟩
      rw [Nat.succ_mul]
      omega
  · obtain ⟨ps, h1, h2, h3, rfl⟩ := hg
    rw [List.length_range] at h2 h3
    have hnn : n * n ≤ 144 := Nat.mul_le_mul hn.2 hn.2
    refine B.cons (P1.setN 6 (E.tupOfN (SL := fun ds => ∃ ys : List Nat, ds = ys.map nd ∧ ys.Sublist (List.range n)) (E.mono (E.lcG (S := fun d => ∃ ds, d = .lst ds ∧ ∃ ys : List Nat, ds = ys.map nd ∧ ys.Sublist (List.range n)) (Tx := fun _ _ => True) (Sx := fun x d => d = nd x) [("_law_i", 4)] (W.range1 (E.var 1) (by omega)) (blkOk_by (N := n__law_equation) (sc := defScope s__law_equation) (by decide +kernel)) (by rw [List.length_range]; omega) (fun _ _ _ _ _ x _ => G.name 4) (by decide) (.inr ⟨_, rfl⟩)
      (fun _ _ _ _ _ x _ => .inr ⟨_, rfl, T.eqN (E.call (t_draw m hm 3 (by decide)) (A.cons (E.var 0) (A.cons E.int A.nil))) E.int⟩) (fun _ _ _ _ _ x _ _ => E.var 4) (fun x d e => by rw [e]; rfl) (fun es h => ⟨es, rfl, h.sub⟩)) fun d h => h))) fun g hg => ?_
    obtain ⟨_, ⟨_, rfl, ys, rfl, hys⟩, rfl⟩ := hg
    have hs : ∀ i ∈ ys, i < n := fun i hi => List.mem_range.mp (hys.subset hi)
    have hp : ys.Pairwise (· < ·) := List.Pairwise.sublist hys List.pairwise_lt_range
    have lys : ys.length ≤ n := by have := hys.length_le; rw [List.length_range] at this; exact this
    refine B.cons1 (P1.set 7 (E.call (t_left w ⟨ps, ys, false⟩ n (.int 0) (.lst (ps.map pd)) hw (fun q hq => (h2 q hq).2) hs (show ps.length ≤ 500 by omega) (show ys.length ≤ 500 by omega) (.inr rfl)) (A.cons (E.var 2) (A.cons (E.tup (A.cons (E.varO 3) (A.cons (E.var 6) (A.cons E.int A.nil)))) A.nil)))) ?_
    refine B.cons (P1.if_ (N := fun g => ∃ b : Bool, g = [.val (.adr m.t), .val (nd n), .val (wd w), .own (ps.map pd), .non, .non, .val (.tup (ys.map nd)), .val (bd b)]) (T.eqN (E.call (t_draw m hm 5 (by decide)) (A.cons (E.var 0) (A.cons E.int A.nil))) E.int) (fun _ => B.cons (P1.setN 7 (E.call (t_draw m hm 2 (by decide)) (A.cons (E.var 0) (A.cons E.int A.nil)))) fun g hg => ?_) (fun _ => B.nil ⟨_, rfl⟩)) fun g hg => ?_
    · obtain ⟨_, ⟨z, rfl, hz⟩, rfl⟩ := hg
      refine B.nil ⟨decide (z = 1), ?_⟩
      obtain h | h : z = 0 ∨ z = 1 := by omega
      all_goals subst h; rfl
    · obtain ⟨b, rfl⟩ := hg
      exact B.last (P1.ret (E.mono (E.tup (A.cons (E.tupOf (E.varO 3) .l) (A.cons (E.var 6) (A.cons (E.var 7) A.nil)))) fun d h => ⟨⟨ps, ys, b⟩, ⟨fun q hq => (h2 q hq).2, hs, asc_pairs h1, asc_nats hp, show ps.length ≤ 500 by omega, show ys.length ≤ 500 by omega⟩, h⟩))
theorem t_equations (m : TpA) (hm : m.st = none) (n L : Nat) (w : List Bool) (hn : 1 ≤ n ∧ n ≤ 12) (hw : w.length = n) (hL : L ≤ 100) : Fn "_law_equations" ["_law_tape_here", "_law_n", "_law_many", "_law_word_here"] 5 (some m) [.adr m.t, nd n, nd L, wd w] (fun d => ∃ es : List Eqn, (∀ e ∈ es, EqOk n e) ∧ es.length = L ∧ d = esd es) := by
  refine Fx.f__law_equations.go false sc__law_equations fun _ _ _ _ _ _ _ _ => ?_
  refine B.last (P1.ret (E.mono (E.tupOfN (E.lcN (g := ed) (Px := fun _ e => EqOk n e) [("_law_k", 4)] (W.range1 (E.var 2) (by omega)) (blkOk_by (N := n__law_equations) (sc := defScope s__law_equations) (by decide +kernel)) (by rw [List.length_range]; omega) (fun _ _ _ _ _ x _ => G.name 4) (by decide) im_ed
    (fun _ _ _ _ _ x _ => E.mono (E.call (t_equation m hm n w hn hw) (A.cons (E.var 0) (A.cons (E.var 1) (A.cons (E.var 3) A.nil)))) fun d ⟨e, h1, h2⟩ => ⟨e, h2, h1⟩))) fun d h => ?_))
  obtain ⟨_, rfl, es, rfl, hl, ha⟩ := h
  rw [List.length_range] at hl
  refine ⟨es, fun e he => ?_, hl, rfl⟩
  obtain ⟨i, hi, rfl⟩ := List.getElem_of_mem he
  exact ha i i _ (List.getElem?_range (by omega)) (List.getElem?_eq_getElem hi)
end Ty
namespace Ty
open PySem PySem.Spec PyProof.Rows L2
variable [Cf] [Fx]
theorem t__check_tape (n : Nat) (es : List Eqn) (kind : Nat) (t : List Bool) (hk : kind ≤ 6) (hn : n ≤ 12) (hl : es.length ≤ 100) (ht : t.length = tlen n es.length kind) : Fn1 "_check_tape" ["system", "kind", "tape"] 4 none [yd n es, nd kind, wd t] .non := Fx.f__check_tape.go false sc__check_tape fun _ _ _ _ _ _ _ _ =>
  B.cons1 (P1.set 3 (E.call (t_tape_length n es kind hk hn hl) (A.cons (E.var 0) (A.cons (E.var 1) A.nil))))
  (B.cons1 (P1.guard (T.to (T.ofW (TW.or (T.not_ (T.val (E.isi (b' := true) (E.var 2) (E.tyN (by decide) boot_tuple) rfl (by decide +kernel)))) (TW.or1 (T.neI (E.len (E.var 2) .t) (E.var 3))))) (by simp [ht])))
  (B.cons (P1.for_ (xs := t) (enc := bd) (fun i g => g = [.val (yd n es), .val (nd kind), .val (wd t), .val (nd (tlen n es.length kind)), .non]) (W.tup (E.var 2)) rfl
    (fun i x g hx hg => by
      subst hg
      exact ⟨_, _, G.name 4, B.cons1 (P1.guard (T.to (T.ofW (TW.or (T.not_ (T.val (E.isi (b' := true) (E.var 4) (E.tyN (by decide) boot_int) rfl (by decide +kernel)))) (TW.or (T.val (E.isi (b' := false) (E.var 4) (E.tyN (by decide) boot_bool) rfl (by decide +kernel))) (TW.or1 (T.not_ (T.leLe E.int (E.var 4) E.int)))))) (by simp [bi_ge x, bi_le x]))) (B.nilF [4] rfl)⟩))
    fun g hg => B.nil rfl))
theorem bits_take (t : List Bool) (k : Nat) : D.tup (cutD (t.map bd) none (some (k : Int))) = wd (t.take k) := by rw [cut_hi, ← List.map_take]
theorem bits_drop (t : List Bool) (k : Nat) : D.tup (cutD (t.map bd) (some (k : Int)) none) = wd (t.drop k) := by rw [cut_lo, ← List.map_drop]
theorem bits_mid (t : List Bool) (a b : Nat) : D.tup (cutD (t.map bd) (some (a : Int)) (some (b : Int))) = wd ((t.drop a).take (b - a)) := by rw [cut_both, ← List.map_drop, ← List.map_take]
section
variable {k : Nat} {X : Cx} {M : Option TpA} {Γ : List Sl} {a b c : Expr} {pos p2 : Pos} {t : List Bool} {i j : Nat}
theorem e_take (ha : E1 k X M Γ a (wd t)) (hb : E1 k X M Γ b (nd i)) : E1 k X M Γ (.Subscript a (.Slice none (some b) none p2) pos) (wd (t.take i)) := E.to (E.slT ha O.none (O.some hb)) (bits_take t i)
theorem e_drop (ha : E1 k X M Γ a (wd t)) (hb : E1 k X M Γ b (nd i)) : E1 k X M Γ (.Subscript a (.Slice (some b) none none p2) pos) (wd (t.drop i)) := E.to (E.slT ha (O.some hb) O.none) (bits_drop t i)
theorem e_mid (ha : E1 k X M Γ a (wd t)) (hb : E1 k X M Γ b (nd i)) (hc : E1 k X M Γ c (nd j)) : E1 k X M Γ (.Subscript a (.Slice (some b) (some c) none p2) pos) (wd ((t.drop i).take (j - i))) := E.to (E.slT ha (O.some hb) (O.some hc)) (bits_mid t i j)
theorem e_sqr (ha : E1 k X M Γ a (nd i)) (hb : E1 k X M Γ b (nd j)) (hi : i ≤ 1000000) : E1 k X M Γ (.BinOp a .Mult b pos) (nd (i * j)) := E.to (E.mul ha hb (.inl ⟨by omega, by omega⟩)) (by rw [nd, Int.natCast_mul])
end
theorem t__places (n : Nat) (es : List Eqn) (kind : Nat) (t : List Bool) (hk : kind ≤ 6) (hn : 1 ≤ n ∧ n ≤ 12) (hes : ∀ e ∈ es, EqOk n e) (hl : es.length ≤ 100) (ht : t.length = tlen n es.length kind) :
    Fn1 "_places_and_bit" ["system", "kind", "tape"] 15 none [yd n es, nd kind, wd t] (.tup [.tup ((placesOf n es kind t).map Plc.d), bd (dueOf es kind t)]) := by
  refine Fx.f__places_and_bit.go false sc__places_and_bit fun _ _ _ _ _ _ _ _ => ?_
  refine B.cons1 (P1.set 3 (e_fld_n (E.var 0))) ?_
  by_cases h2 : kind < 2
  · have ht' : t.length = 2 * n := by rw [ht]; obtain h | h : kind = 0 ∨ kind = 1 := by omega
                                      all_goals subst h; rfl
    refine B.last (P1.ifT (T.to (T.lt (E.var 1) E.int) (by simp; omega)) ?_)
    refine B.cons1 (P1.par 4 5 (A.cons (e_take (E.var 2) (E.var 3)) (A.cons (e_drop (E.var 2) (E.var 3)) A.nil))) ?_
    refine B.last (P1.ret (E.to (E.tup (A.cons (E.tup (A.cons (E.tup (A.cons E.str (A.cons (E.var 4) A.nil))) (A.cons (E.tup (A.cons E.str (A.cons (E.var 5) A.nil))) (A.cons (E.tup (A.cons E.str (A.cons (E.call (t_added (t.take n) (t.drop n) (by rw [List.length_take]; omega) (by rw [List.length_take, List.length_drop]; omega)) (A.cons (E.var 4) (A.cons (E.var 5) A.nil))) A.nil))) A.nil)))) (A.cons E.int A.nil))) ?_))
    simp [placesOf, dueOf, h2, show kind < 6 by omega, Plc.d, bi]
  refine B.cons1 (P1.guard (T.to (T.lt (E.var 1) E.int) (by simp; omega))) ?_
  by_cases h4 : kind < 4
  · have ht' : t.length = 2 * n * n := by rw [ht]; obtain h | h : kind = 2 ∨ kind = 3 := by omega
                                          all_goals subst h; rfl
    have hnn : n * n + n * n = 2 * n * n := by rw [Nat.mul_assoc]; omega
    have q1 : Sq n (rowsW n (t.take (n * n))) := sq_rows (by rw [List.length_take]; omega)
    have q2 : Sq n (rowsW n (t.drop (n * n))) := sq_rows (by rw [List.length_drop]; omega)
    refine B.last (P1.ifT (T.to (T.lt (E.var 1) E.int) (by simp; omega)) ?_)
    refine B.cons1 (P1.par 6 7 (A.cons (E.call (t__square n (t.take (n * n)) hn.2) (A.cons (e_take (E.var 2) (e_sqr (E.var 3) (E.var 3) (by omega))) (A.cons (E.var 3) A.nil))) (A.cons (E.call (t__square n (t.drop (n * n)) hn.2) (A.cons (e_drop (E.var 2) (e_sqr (E.var 3) (E.var 3) (by omega))) (A.cons (E.var 3) A.nil))) A.nil))) ?_
    refine B.last (P1.ret (E.to (E.tup (A.cons (E.tup (A.cons (E.tup (A.cons E.str (A.cons (E.var 6) A.nil))) (A.cons (E.tup (A.cons E.str (A.cons (E.var 7) A.nil))) (A.cons (E.tup (A.cons E.str (A.cons (E.call (t_added_squares n _ _ hn q1 q2) (A.cons (E.var 6) (A.cons (E.var 7) A.nil))) A.nil))) A.nil)))) (A.cons E.int A.nil))) ?_))
    simp [placesOf, dueOf, h2, h4, show kind < 6 by omega, Plc.d, bi]
  refine B.cons1 (P1.guard (T.to (T.lt (E.var 1) E.int) (by simp; omega))) ?_
  by_cases h6 : kind < 6
  · have ht' : t.length = 2 * n + n * n := by rw [ht]; obtain h | h : kind = 4 ∨ kind = 5 := by omega
                                              all_goals subst h; rfl
    have e2 : 2 * n - n = n := by omega
    have q1 : Sq n (rowsW n (t.drop (2 * n))) := sq_rows (by rw [List.length_drop]; omega)
    have l1 : (t.take n).length = n := by rw [List.length_take]; omega
    have l2 : ((t.drop n).take n).length = n := by rw [List.length_take, List.length_drop]; omega
    have q2 : Sq n (sqF (t.take n) ((t.drop n).take n)) := by have := sq_sqF (a := t.take n) (b := (t.drop n).take n) (by omega); rw [l1] at this; exact this
    refine B.last (P1.ifT (T.to (T.lt (E.var 1) E.int) (by simp; omega)) ?_)
    refine B.cons1 (P1.par3 4 5 8 (A.cons (e_take (E.var 2) (E.var 3)) (A.cons (E.to (e_mid (E.var 2) (E.var 3) (e_sqr (i := 2) E.int (E.var 3) (by omega))) (by rw [e2])) (A.cons (E.call (t__square n (t.drop (2 * n)) hn.2) (A.cons (e_drop (E.var 2) (e_sqr (i := 2) E.int (E.var 3) (by omega))) (A.cons (E.var 3) A.nil))) A.nil)))) ?_
    refine B.cons1 (P1.set 9 (E.call (t_added_squares n _ _ hn q1 q2) (A.cons (E.var 8) (A.cons (E.call (t_square_of (t.take n) ((t.drop n).take n) (by omega) (by omega)) (A.cons (E.var 4) (A.cons (E.var 5) A.nil))) A.nil)))) ?_
    refine B.last (P1.ret (E.to (E.tup (A.cons (E.tup (A.cons (E.tup (A.cons E.str (A.cons (E.var 4) A.nil))) (A.cons (E.tup (A.cons E.str (A.cons (E.var 5) A.nil))) (A.cons (E.tup (A.cons E.str (A.cons (E.var 8) A.nil))) (A.cons (E.tup (A.cons E.str (A.cons (E.var 9) A.nil))) A.nil))))) (A.cons E.int A.nil))) ?_))
    simp [placesOf, dueOf, h2, h4, h6, Plc.d, bi]
  refine B.cons1 (P1.guard (T.to (T.lt (E.var 1) E.int) (by simp; omega))) ?_
  have hk6 : kind = 6 := by omega
  subst hk6
  have ht' : t.length = es.length + n * n := ht
  have q1 : Sq n (rowsW n (t.drop es.length)) := sq_rows (by rw [List.length_drop]; omega)
  have l1 : (t.take es.length).length = es.length := by rw [List.length_take]; omega
  refine B.cons1 (P1.set 10 (E.lenOwn (E.var 0) (t_System_len n es) (by omega))) ?_
  refine B.cons1 (P1.asg (E.meth (E.var 0) Fx.k_System.own (t_drawn n es (t.take es.length) hn hes l1 hl) (by decide) (A.cons (e_take (E.var 2) (E.var 10)) A.nil)) (G.tup (Gs.cons (G.name 11) (Gs.cons (G.name 12) Gs.nil)))) ?_
  refine B.cons1 (P1.set 8 (E.call (t__square n (t.drop es.length) hn.2) (A.cons (e_drop (E.var 2) (E.var 10)) (A.cons (E.var 3) A.nil)))) ?_
  refine B.last (P1.ret (E.to (E.tup (A.cons (E.tup (A.cons (E.tup (A.cons E.str (A.cons (E.var 8) A.nil))) (A.cons (E.tup (A.cons E.str (A.cons (E.call (t_added_squares n _ _ hn q1 (sq_drawn n _ es)) (A.cons (E.var 8) (A.cons (E.var 11) A.nil))) A.nil))) A.nil))) (A.cons (E.var 12) A.nil))) ?_))
  simp [placesOf, dueOf, Plc.d]
theorem t__letter (p : Pap) (hp : PapOk p) (q : Plc) (hq : PlcOk p.n q) : Fn1 "_letter" ["paper", "place"] 16 none [p.d, q.d] (bd (letP p q)) := by
  refine Fx.f__letter.go false sc__letter fun _ _ _ _ _ _ _ _ => ?_
  cases q with
  | f w =>
    refine B.last (P1.ifT (T.to (T.eqS (E.ixT (E.var 1) E.int rfl) E.str) (by decide)) (B.last (P1.ret ?_)))
    cases p with
    | tab n f g => exact E.meth (E.var 0) Fx.k_TablePaper.own (t_tab_letter_f n f g w hp.ok.1 hp.ok.2.1 hq) (by decide) (A.cons (E.ixT (E.var 1) E.int rfl) A.nil)
    | sums n w' s ws ss => exact E.meth (E.var 0) Fx.k_SumsPaper.own (t_sum_letter_f n w' s ws ss w hp.ok.1 hp.ok.2.1 hq) (by decide) (A.cons (E.ixT (E.var 1) E.int rfl) A.nil)
  | g m =>
    refine B.cons1 (P1.guard (T.to (T.eqS (E.ixT (E.var 1) E.int rfl) E.str) (by decide))) (B.last (P1.ret ?_))
    cases p with
    | tab n f g => exact E.meth (E.var 0) Fx.k_TablePaper.own (t_tab_letter_g n f g m hp.ok.1 hp.ok.2.2 hq) (by decide) (A.cons (E.ixT (E.var 1) E.int rfl) A.nil)
    | sums n w' s ws ss => exact E.meth (E.var 0) Fx.k_SumsPaper.own (t_sum_letter_g n w' s ws ss m hp.ok.1 hp.ok.2.2.1 hq) (by decide) (A.cons (E.ixT (E.var 1) E.int rfl) A.nil)
end Ty
namespace Ty
open PySem PySem.Spec PyProof.Rows L2
variable [Cf] [Fx]
theorem t_square (m : TpA) (hm : m.st = none) (n : Nat) (hn : n ≤ 12) : Fn "_law_square" ["_law_tape_here", "_law_n"] 5 (some m) [.adr m.t, nd n] (fun d => ∃ s, Sq n s ∧ d = sd s) := by
  have hnn : n * n ≤ 144 := Nat.mul_le_mul hn hn
  refine Fx.f__law_square.go false sc__law_square fun _ _ _ _ _ _ _ _ => ?_
  exact B.last (P1.ret (E.callN (SA := fun ds => ∃ w : List Bool, w.length = n * n ∧ ds = [wd w, nd n]) (M' := none) (k' := 1) (fun ds h => by
      obtain ⟨w, hw, rfl⟩ := h
      obtain ⟨f, h1, od, fdd, h2, h3, h4, h5, h6⟩ := t_law_rows w n (by omega) (wd w) (.inl rfl)
      exact ⟨f, h1, od, fdd, h2, h3, h4, h5, fun base g => ⟨fun vs H Q E ⟨q1, q2, q3⟩ => (h6 base g).len vs H Q E ⟨q1, q2, fun v H' d l e r => q3 v H' d l ⟨_, sq_rows hw, e⟩ r⟩, fun A outer s H args us vs Q E hr e0 hb r ⟨q1, q2, q3⟩ => (h6 base g).run A outer s H args us vs Q E hr e0 hb r ⟨q1, q2, fun v H' d l e r => q3 v H' d l ⟨_, sq_rows hw, e⟩ r⟩⟩⟩) ⟨_, List.replicate (n * n) false, by simp, rfl⟩
    (A.consN (E.call (t_word m hm (n * n) (by omega)) (A.cons (E.var 0) (A.cons (e_sqr (E.var 1) (E.var 1) (by omega)) A.nil))) (A.cons (E.var 1) A.nil) (fun d ds ⟨w, h1, h2⟩ h3 => ⟨w, h1, by rw [h2, h3]⟩))))
theorem t_near_square (m : TpA) (hm : m.st = none) (n : Nat) (w : List Bool) (hn : 1 ≤ n ∧ n ≤ 12) (hw : w.length = n) : Fn "_law_near_square" ["_law_tape_here", "_law_word_here"] 6 (some m) [.adr m.t, wd w] (fun d => ∃ s, Sq n s ∧ d = sd s) := by
  have hnn : n * n ≤ 144 := Nat.mul_le_mul hn.2 hn.2
  have hnn1 : 1 ≤ n * n := Nat.mul_le_mul hn.1 hn.1
  refine Fx.f__law_near_square.go true sc__law_near_square fun _ _ _ _ _ _ _ _ => ?_
  refine B.cons1 (P1.set 2 (E.to (d' := nd n) (E.len (E.var 1) .t) (by rw [List.length_map, hw]))) ?_
  refine B.cons (P1.if_ (N := fun g => g = [.val (.adr m.t), .val (wd w), .val (nd n), .non, .non, .non]) (T.eqN (E.call (t_draw m hm 5 (by decide)) (A.cons (E.var 0) (A.cons E.int A.nil))) E.int) (fun _ => B.last (P1.ret (E.call (t_square m hm n hn.2) (A.cons (E.var 0) (A.cons (E.var 2) A.nil))))) (fun _ => B.nil rfl)) fun g hg => ?_
  subst hg
  have sq0 : Sq n (sqF w w) := by have := sq_sqF (a := w) (b := w) rfl; rw [hw] at this; exact this
  have fl : (sqF w w).flatten.length = n * n := by rw [sq_flat_len sq0.2, sq0.1]
  refine B.cons (P1.setOwn 3 (EF.listOf (E.call (t_law_flat (sqF w w) (by omega)) (A.cons (E.call (t_law_square_of w w (by omega) rfl) (A.cons (E.var 1) (A.cons (E.var 1) A.nil))) A.nil)) .t)) fun g hg => ?_
  obtain ⟨_, rfl, rfl⟩ := hg
  refine B.cons (P1.forN (fun _ i g => ∃ b : List Bool, b.length = n * n ∧ g = [.val (.adr m.t), .val (wd w), .val (nd n), .own (b.map bd), .non, .non]) (WN.range1 (E.call (t_draw m hm 3 (by decide)) (A.cons (E.var 0) (A.cons E.int A.nil))) (fun z h => by omega)) (fun _ _ => ⟨_, fl, rfl⟩) (fun xs sx i x g hx hg => ?_)) fun g hg => ?_
  · obtain ⟨b, hb, rfl⟩ := hg
    refine ⟨_, _, G.name 4, B.cons (P1.setN 5 (E.call (t_draw m hm (n * n) hnn1) (A.cons (E.var 0) (A.cons (e_sqr (E.var 2) (E.var 2) (by omega)) A.nil)))) fun g hg => ?_⟩
    obtain ⟨_, ⟨z, rfl, hz⟩, rfl⟩ := hg
    refine B.cons1 (P1.setItem 3 (d := bd (!b.getD z false)) (i := (z : Int)) rfl (by simp [imBut, Sl.im, D.im, D.imL, im_bits]) (by rw [List.length_map]; omega) ⟨im_bits _, rfl⟩ (E.to (E.sub E.int (E.ixL (E.varO 3) (E.var 5) (at_bits (by omega)))) (by cases b.getD z false <;> rfl)) (E.var 5) rfl (ps_asg pe_s (pg_sub (pv 3) pe_s set_list))) (B.nilF [4, 5] ⟨b.set z (!b.getD z false), by rw [List.length_set, hb], ?_⟩)
    rw [Int.toNat_natCast, List.map_set]
    rfl
  · obtain ⟨xs, sx, b, hb, rfl⟩ := hg
    exact B.last (P1.ret (E.mono (E.call (t_law_rows b n (by omega) (.lst (b.map bd)) (.inr rfl)) (A.cons (E.varO 3) (A.cons (E.var 2) A.nil))) fun d h => ⟨_, sq_rows hb, h⟩))
/-! the law's own sums -/
theorem bi_add2 (a b : Bool) : (bi a + bi b) % 2 = bi (a ^^ b) := by cases a <;> cases b <;> rfl
theorem t_both (a b : List Bool) (h : a.length = b.length) (hl : a.length ≤ 600) : Fn1 "_law_both" ["_law_one", "_law_other"] 1 none [wd a, wd b] (wd (xorW a b)) := by
  refine Fx.f__law_both.go false sc__law_both fun _ _ _ _ _ _ _ _ => ?_
  refine B.last (P1.ret (E.to (E.tupOf (E.lcM (f := fun k => bd (a.getD k false ^^ b.getD k false)) [("_law_k", 2)] (W.range1 (n := a.length) (E.to (E.len (E.var 0) .t) (by rw [List.length_map])) (by omega)) (blkOk_by (N := n__law_both) (sc := defScope s__law_both) (by decide +kernel)) (by rw [List.length_range]; omega) (fun _ _ _ _ _ x _ => G.name 2) (by decide) (fun _ => rfl)
    (fun _ _ _ _ _ k hk => E.to (E.mod (E.intI (E.add (E.ixT (E.var 0) (E.var 2) (at_bits (by have := List.mem_range.mp hk; omega))) (E.ixT (E.var 1) (E.var 2) (at_bits (by have := List.mem_range.mp hk; omega))))) E.int (by decide)) (by rw [bi_add2]))) .l) ?_))
  unfold xorW
  rw [wd, List.map_map, ← zip_range a b false h, List.map_map]
  rfl
theorem t_both_squares (n : Nat) (a b : List (List Bool)) (hn : n ≤ 12) (ha : Sq n a) (hb : Sq n b) : Fn1 "_law_both_squares" ["_law_one", "_law_other"] 2 none [sd a, sd b] (sd (xorS a b)) := by
  refine Fx.f__law_both_squares.go false sc__law_both_squares fun _ _ _ _ _ _ _ _ => ?_
  have hl : a.length = b.length := by rw [ha.1, hb.1]
  have at_ : ∀ {c : List (List Bool)} {k : Nat}, k < c.length → atD (c.map wd) (k : Int) = some (wd (c.getD k [])) := fun {c k} h => by
    rw [atD_nat, List.getElem?_map, List.getElem?_eq_getElem h, List.getD_eq_getElem?_getD, List.getElem?_eq_getElem h]
    rfl
  have ln : ∀ {c : List (List Bool)} {k : Nat}, Sq n c → k < n → (c.getD k []).length = n := fun {c k} h hk => by
    rw [List.getD_eq_getElem?_getD, List.getElem?_eq_getElem (by rw [h.1]; exact hk)]
    exact h.2 _ (List.getElem_mem _)
  refine B.last (P1.ret (E.to (E.tupOf (E.lcM (f := fun k => wd (xorW (a.getD k []) (b.getD k []))) [("_law_k", 2)] (W.range1 (n := a.length) (E.to (E.len (E.var 0) .t) (by rw [List.length_map])) (by have := ha.1; omega)) (blkOk_by (N := n__law_both_squares) (sc := defScope s__law_both_squares) (by decide +kernel)) (by rw [List.length_range]; have := ha.1; omega) (fun _ _ _ _ _ x _ => G.name 2) (by decide) (fun _ => by simp only [D.im]; exact im_bits _)
    (fun _ _ _ _ _ k hk => by
      have hk' : k < n := by have := List.mem_range.mp hk; rw [ha.1] at this; exact this
      exact E.call (t_both (a.getD k []) (b.getD k []) (by rw [ln ha hk', ln hb hk']) (by rw [ln ha hk']; omega)) (A.cons (E.ixT (E.var 0) (E.var 2) (at_ (by rw [ha.1]; exact hk'))) (A.cons (E.ixT (E.var 1) (E.var 2) (at_ (by rw [hb.1]; exact hk'))) A.nil)))) .l) ?_))
  unfold xorS
  rw [sd, List.map_map, ← zip_range a b [] hl, List.map_map]
  rfl
theorem t_law_length (n L : Nat) (kind : Nat) (hk : kind ≤ 6) (hn : n ≤ 12) (hL : L ≤ 100) : Fn1 "_law_length" ["_law_n", "_law_many", "_law_kind"] 1 none [nd n, nd L, nd kind] (nd (tlen n L kind)) := by
  refine Fx.f__law_length.go false sc__law_length fun _ _ _ _ _ _ _ _ => ?_
  have b1 : CMul 2 (n : Int) := .inl ⟨by decide, by decide⟩
  have b2 : CMul (2 * (n : Int)) (n : Int) := .inl ⟨by omega, by omega⟩
  have b3 : CMul (n : Int) (n : Int) := .inl ⟨by omega, by omega⟩
  refine B.last (P1.ret (E.ixL (E.lst (A.cons (E.mul E.int (E.var 0) b1) (A.cons (E.mul E.int (E.var 0) b1) (A.cons (E.mul (E.mul E.int (E.var 0) b1) (E.var 0) b2) (A.cons (E.mul (E.mul E.int (E.var 0) b1) (E.var 0) b2) (A.cons (E.add (E.mul E.int (E.var 0) b1) (E.mul (E.var 0) (E.var 0) b3)) (A.cons (E.add (E.mul E.int (E.var 0) b1) (E.mul (E.var 0) (E.var 0) b3)) (A.cons (E.add (E.var 1) (E.mul (E.var 0) (E.var 0) b3)) A.nil)))))))) (E.var 2) ?_))
  rw [atD_nat]
  obtain h | h | h | h | h | h | h : kind = 0 ∨ kind = 1 ∨ kind = 2 ∨ kind = 3 ∨ kind = 4 ∨ kind = 5 ∨ kind = 6 := by omega
  all_goals subst h; simp [tlen, nd]
theorem t_law_drawn (n : Nat) (es : List Eqn) (cs : List Bool) (hn : 1 ≤ n ∧ n ≤ 12) (hes : ∀ e ∈ es, EqOk n e) (hl : cs.length = es.length) (hl2 : es.length ≤ 100) :
    Fn1 "_law_drawn" ["_law_n", "_law_equations_here", "_law_chosen"] 1 none [nd n, esd es, wd cs] (.tup [sd (drawnM n cs es), bd (drawnB cs es)]) := by
  refine Fx.f__law_drawn.go true sc__law_drawn fun _ _ _ _ _ _ _ _ => ?_
  refine B.cons (P1.setMat (f := fun _ => (zeroW n).map bi) 3 [("_law_i", 6)] (W.range1 (E.var 0) (by omega)) (blkOk_by (N := n__law_drawn) (sc := defScope s__law_drawn) (by decide +kernel)) (by rw [List.length_range]; omega) (fun _ _ _ _ _ x _ => G.name 6) (by decide)
      (fun _ _ _ _ _ x _ => EF.mono (EF.lcM (f := fun _ => D.int 0) [("_law_j", 7)] (W.range1 (E.var 0) (by omega)) (blkOk_by (N := n__law_drawn) (sc := relS { kind := .function, names := [(".0", .local), ("_law_i", .local), ("range", .globalImplicit), ("_law_n", .free)], isGenerator := false, isCoroutine := false } (defScope s__law_drawn)) (by decide +kernel)) (by rw [List.length_range]; omega) (fun _ _ _ _ _ x _ => G.name 7) (by decide) (fun _ => rfl) (fun _ _ _ _ _ x _ => E.int)) fun ds h => by
        rw [h, zeroW, List.map_replicate, List.map_replicate]
        exact List.ext_getElem (by simp) fun i h1 h2 => by simp [bi]) (sw_true rfl rfl rfl (by decide +kernel))) fun g hg => ?_
  have hz : ((List.range n).map fun _ => (zeroW n).map bi) = rI (zeroM n) := by
    unfold zeroM
    rw [rI, List.map_replicate]
    exact List.ext_getElem (by simp) fun i h1 h2 => by simp
  rw [hz] at hg
  subst hg
  refine B.cons1 (P1.set 4 E.int) (B.cons (P1.for_ (xs := List.range es.length) (enc := nd)
    (fun i g => g = [.val (nd n), .val (esd es), .val (wd cs), .mat (rI (((cs.zip es).take i).foldl drawnStep (zeroM n))), .val (.int (((cs.zip es).take i).foldl (fun t q => if q.1 then t + bi q.2.right else t) 0)), .non, .non, .non, .non])
    (W.range1 (n := es.length) (E.to (E.len (E.var 1) .t) (by rw [List.length_map])) (by omega)) rfl (fun i x g hx hg => ?_)) fun g hg => ?_)
  · subst hg
    obtain ⟨hi, hx'⟩ := List.getElem?_eq_some_iff.mp hx
    rw [List.length_range] at hi
    rw [List.getElem_range] at hx'
    subst hx'
    have hz : (cs.zip es)[i]? = some (cs[i]'(by omega), es[i]) := by rw [List.getElem?_zip_eq_some]; exact ⟨List.getElem?_eq_getElem _, List.getElem?_eq_getElem _⟩
    have he : es[i] ∈ es := List.getElem_mem hi
    have hq := hes _ he
    have hsq : Sq n (((cs.zip es).take i).foldl drawnStep (zeroM n)) := sq_foldl (fun m a h => sq_step h a) _ (sq_zero n)
    refine ⟨_, _, G.name 5, ?_⟩
    rw [foldl_take drawnStep _ hz, foldl_take _ _ hz]
    have hc : atD (cs.map bd) (i : Int) = some (bd (cs[i]'(by omega))) := by rw [atD_nat, List.getElem?_map, List.getElem?_eq_getElem (by omega)]; rfl
    have hE : atD (es.map ed) (i : Int) = some (ed es[i]) := by rw [atD_nat, List.getElem?_map, List.getElem?_eq_getElem hi]; rfl
    generalize ((cs.zip es).take i).foldl drawnStep (zeroM n) = m at *
    generalize ((cs.zip es).take i).foldl (fun t q => if q.1 then t + bi q.2.right else t) 0 = t at *
    generalize es[i] = e at *
    generalize cs[i]'(by omega) = b at *
    cases b with
    | false => exact B.cons1 (P1.guard (T.to (T.eqI (E.ixT (E.var 2) (E.var 5) hc) E.int) rfl)) (B.nilF [5] rfl)
    | true =>
      refine B.cons (P1.ifT (T.to (T.eqI (E.ixT (E.var 2) (E.var 5) hc) E.int) rfl) (N := fun g => g = [.val (nd n), .val (esd es), .val (wd cs), .mat (rI (applyE m e)), .val (.int (t + bi e.right)), .val (nd i), .non, .non, .non]) ?_) (fun g hg => by subst hg; exact B.nilF [5] rfl)
      refine B.cons1 (P1.set 4 (E.add (E.var 4) (E.ixT (E.ixT (E.var 1) (E.var 5) hE) E.int rfl))) ?_
      let qs : List (Nat × Nat) := e.pairs ++ e.singles.map fun i => (i, i)
      have hqs : ∀ q ∈ qs, q.1 < n ∧ q.2 < n := fun q hq' => by
        rcases List.mem_append.mp hq' with h | h
        · have := hq.p q h; omega
        · obtain ⟨j, hj, rfl⟩ := List.mem_map.mp h
          have := hq.s j hj
          exact ⟨this, this⟩
      refine B.cons (P1.for_ (xs := qs) (enc := pd)
        (fun j g => g = [.val (nd n), .val (esd es), .val (wd cs), .mat (rI ((qs.take j).foldl (fun m p => flipM m p.1 p.2) m)), .val (.int (t + bi e.right)), .val (nd i), .non, .non, .non])
        (W.tup (E.to (d' := .tup (qs.map pd)) (E.catT (E.ixT (E.ixT (E.var 1) (E.var 5) hE) E.int rfl) (E.tupOf (E.lcM (f := fun i => pd (i, i)) (xs := e.singles) (enc := nd) [("_law_i", 6)] (W.tup (E.ixT (E.ixT (E.var 1) (E.var 5) hE) E.int rfl)) (blkOk_by (N := n__law_drawn) (sc := defScope s__law_drawn) (by decide +kernel)) (by have := hq.ls; omega) (fun _ _ _ _ _ x _ => G.name 6) (by decide) (fun i => by simp [D.im, D.imL]) (fun _ _ _ _ _ x _ => E.tup (A.cons (E.var 6) (A.cons (E.var 6) A.nil)))) .l) (by have := hq.ls; have := hq.lp; rw [List.length_map, List.length_map]; omega)) (by rw [List.map_append, List.map_map]; rfl)) (fun _ => im_pds _)) rfl (fun j y g hy hg => ?_)) fun g hg => ?_
      · subst hg
        refine ⟨_, _, G.tup (Gs.cons (G.name 6) (Gs.cons (G.name 7) Gs.nil)), ?_⟩
        rw [foldl_take _ _ hy]
        have hm : y ∈ qs := List.mem_of_getElem? hy
        exact B.cons1 (P1.flipB 3 (n := n) (sq_foldl (fun m a h => sq_flip h _ _) _ hsq) (hqs y hm) rfl (by simp [imBut, Sl.im, D.im, D.imL, im_bits, im_eds, im_pds, im_nds]) (E.var 6) (E.var 7) (E.var 6) (E.var 7) rfl) (B.nilF [6, 7] rfl)
      · subst hg
        rw [List.take_length]
        have : qs.foldl (fun m p => flipM m p.1 p.2) m = applyE m e := by
          show (e.pairs ++ e.singles.map fun i => (i, i)).foldl _ m = _
          rw [List.foldl_append, List.foldl_map]
          rfl
        rw [this]
        exact B.nil rfl
  · subst hg
    have hlz : (cs.zip es).length = es.length := by rw [List.length_zip]; omega
    rw [List.length_range, ← hlz, List.take_length]
    exact B.last (P1.ret (E.to (E.tup (A.cons (E.tupOf (E.lcM (f := fun r : List Int => D.tup (r.map D.int)) [("_law_row", 8)] (W.lst (E.varM 3)) (blkOk_by (N := n__law_drawn) (sc := defScope s__law_drawn) (by decide +kernel)) (by have := (sq_drawn n cs es).1; unfold drawnM at this; rw [List.length_map]; omega)
      (fun _ _ _ _ _ x _ => G.name 8) (by decide) (fun r => by simp only [D.im]; exact D.imL_map _ (fun _ => rfl) _) (fun _ _ _ _ _ x _ => E.tupOf (E.var 8) .l)) .l) (A.cons (E.mod (E.intI (E.var 4)) E.int (by decide)) A.nil)))
      (by
        unfold drawnB drawnT
        rw [bd, ← bi_mod2, rI, List.map_map]
        have h1 : List.map ((fun r : List Int => D.tup (r.map D.int)) ∘ fun r : List Bool => r.map bi) ((cs.zip es).foldl drawnStep (zeroM n)) = (drawnM n cs es).map wd :=
          List.map_congr_left fun r _ => by show D.tup _ = D.tup _; rw [List.map_map]; rfl
        rw [h1])))
end Ty
namespace Ty
open PySem PySem.Spec PyProof.Rows L2
variable [Cf] [Fx]
theorem places_ok (n : Nat) (es : List Eqn) (kind : Nat) (t : List Bool) (hk : kind ≤ 6) (ht : t.length = tlen n es.length kind) : ∀ q ∈ placesOf n es kind t, PlcOk n q := by
  unfold placesOf
  by_cases h2 : kind < 2
  · have ht' : t.length = 2 * n := by rw [ht]; obtain h | h : kind = 0 ∨ kind = 1 := by omega
                                      all_goals subst h; rfl
    rw [if_pos h2]
    have l1 : (t.take n).length = n := by rw [List.length_take]; omega
    have l2 : (t.drop n).length = n := by rw [List.length_drop]; omega
    intro q hq
    simp only [List.mem_cons, List.not_mem_nil, or_false] at hq
    rcases hq with rfl | rfl | rfl
    · exact l1
    · exact l2
    · show (xorW _ _).length = n
      rw [xorW_len _ _ (by omega), l1]
  rw [if_neg h2]
  by_cases h4 : kind < 4
  · have ht' : t.length = 2 * n * n := by rw [ht]; obtain h | h : kind = 2 ∨ kind = 3 := by omega
                                          all_goals subst h; rfl
    have hnn : n * n + n * n = 2 * n * n := by rw [Nat.mul_assoc]; omega
    have q1 : Sq n (rowsW n (t.take (n * n))) := sq_rows (by rw [List.length_take]; omega)
    have q2 : Sq n (rowsW n (t.drop (n * n))) := sq_rows (by rw [List.length_drop]; omega)
    rw [if_pos h4]
    intro q hq
    simp only [List.mem_cons, List.not_mem_nil, or_false] at hq
    rcases hq with rfl | rfl | rfl
    · exact q1
    · exact q2
    · exact sq_xor q1 q2
  rw [if_neg h4]
  by_cases h6 : kind < 6
  · have ht' : t.length = 2 * n + n * n := by rw [ht]; obtain h | h : kind = 4 ∨ kind = 5 := by omega
                                              all_goals subst h; rfl
    have q1 : Sq n (rowsW n (t.drop (2 * n))) := sq_rows (by rw [List.length_drop]; omega)
    have l1 : (t.take n).length = n := by rw [List.length_take]; omega
    have l2 : ((t.drop n).take n).length = n := by rw [List.length_take, List.length_drop]; omega
    have q2 : Sq n (sqF (t.take n) ((t.drop n).take n)) := by have := sq_sqF (a := t.take n) (b := (t.drop n).take n) (by omega); rw [l1] at this; exact this
    rw [if_pos h6]
    intro q hq
    simp only [List.mem_cons, List.not_mem_nil, or_false] at hq
    rcases hq with rfl | rfl | rfl | rfl
    · exact l1
    · exact l2
    · exact q1
    · exact sq_xor q1 q2
  rw [if_neg h6]
  have hk6 : kind = 6 := by omega
  subst hk6
  have ht' : t.length = es.length + n * n := ht
  have q1 : Sq n (rowsW n (t.drop es.length)) := sq_rows (by rw [List.length_drop]; omega)
  intro q hq
  simp only [List.mem_cons, List.not_mem_nil, or_false] at hq
  rcases hq with rfl | rfl
  · exact q1
  · exact sq_xor q1 (sq_drawn n _ es)
theorem places_len (n : Nat) (es : List Eqn) (kind : Nat) (t : List Bool) : (placesOf n es kind t).length = if kind < 4 then 3 else if kind < 6 then 4 else 2 := by
  unfold placesOf
  split
  · rw [if_pos (by omega)]; rfl
  · split
    · rfl
    · split <;> rfl
theorem bit_eq (a b : Bool) : decide (bi a = bi b) = decide (a = b) := by cases a <;> cases b <;> decide
theorem t_passes (p : Pap) (es : List Eqn) (kind : Nat) (t : List Bool) (hk : kind ≤ 6) (hn : 1 ≤ p.n ∧ p.n ≤ 12) (hes : ∀ e ∈ es, EqOk p.n e) (hl : es.length ≤ 100) (hp : PapOk p) (ht : t.length = tlen p.n es.length kind) :
    Fn1 "passes" ["system", "paper", "kind", "tape"] 17 none [yd p.n es, p.d, nd kind, wd t] (.bl (passB p p.n es kind t)) := by
  refine Fx.f_passes.go false sc_passes fun _ _ _ _ _ _ _ _ => ?_
  refine B.cons1 (P1.expr (E.call (t_check_paper p es) (A.cons (E.var 0) (A.cons (E.var 1) A.nil)))) ?_
  refine B.cons1 (P1.expr (E.call (t__check_tape p.n es kind t hk hn.2 hl ht) (A.cons (E.var 0) (A.cons (E.var 2) (A.cons (E.var 3) A.nil))))) ?_
  refine B.cons1 (P1.asg (E.call (t__places p.n es kind t hk hn hes hl ht) (A.cons (E.var 0) (A.cons (E.var 2) (A.cons (E.var 3) A.nil)))) (G.tup (Gs.cons (G.name 4) (Gs.cons (G.name 5) Gs.nil)))) ?_
  have hlen := places_len p.n es kind t
  refine B.cons1 (P1.setLc (f := fun q => bd (letP p q)) 6 [("place", 7)] (W.tup (E.var 4)) (blkOk_by (N := n_passes) (sc := defScope s_passes) (by decide +kernel)) (by rw [hlen]; split <;> (try split) <;> omega) (fun _ _ _ _ _ x _ => G.name 7) (by decide) (fun _ => rfl)
    (fun _ _ _ _ _ x hx => E.call (t__letter p hp x (places_ok p.n es kind t hk ht x hx)) (A.cons (E.var 1) (A.cons (E.var 7) A.nil))) (sw_true rfl rfl rfl (by decide +kernel))) ?_
  have hm : (placesOf p.n es kind t).map (fun q => bd (letP p q)) = ((placesOf p.n es kind t).map (letP p)).map bd := by rw [List.map_map]; rfl
  rw [hm]
  unfold passB verdict
  have hlen2 : ((placesOf p.n es kind t).map (letP p)).length = if kind < 4 then 3 else if kind < 6 then 4 else 2 := by rw [List.length_map, hlen]
  generalize (placesOf p.n es kind t).map (letP p) = l at *
  by_cases h4 : kind < 4
  · rw [if_pos h4] at hlen2 ⊢
    obtain ⟨a, b, c, rfl⟩ : ∃ a b c, l = [a, b, c] := by
      match l, hlen2 with
      | [a, b, c], _ => exact ⟨a, b, c, rfl⟩
    refine B.last (P1.ifT (T.to (T.lt (E.var 2) E.int) (by simp; omega)) (B.last (P1.ret (E.to (E.eqI (E.xor_ (E.ixL (E.var 6) E.int rfl) (E.ixL (E.var 6) E.int rfl)) (E.ixL (E.var 6) E.int rfl)) ?_))))
    rw [bi_xor, bit_eq]
    rfl
  rw [if_neg h4] at hlen2 ⊢
  refine B.cons1 (P1.guard (T.to (T.lt (E.var 2) E.int) (by simp; omega))) ?_
  by_cases h6 : kind < 6
  · rw [if_pos h6] at hlen2 ⊢
    obtain ⟨a, b, c, d, rfl⟩ : ∃ a b c d, l = [a, b, c, d] := by
      match l, hlen2 with
      | [a, b, c, d], _ => exact ⟨a, b, c, d, rfl⟩
    refine B.last (P1.ifT (T.to (T.lt (E.var 2) E.int) (by simp; omega)) (B.last (P1.ret (E.to (E.eqI (E.and_ (E.ixL (E.var 6) E.int rfl) (E.ixL (E.var 6) E.int rfl)) (E.xor_ (E.ixL (E.var 6) E.int rfl) (E.ixL (E.var 6) E.int rfl))) ?_))))
    rw [bi_xor, bi_and, bit_eq]
    rfl
  rw [if_neg h6] at hlen2 ⊢
  refine B.cons1 (P1.guard (T.to (T.lt (E.var 2) E.int) (by simp; omega))) ?_
  obtain ⟨a, b, rfl⟩ : ∃ a b, l = [a, b] := by
    match l, hlen2 with
    | [a, b], _ => exact ⟨a, b, rfl⟩
  refine B.last (P1.ret (E.to (E.eqI (E.xor_ (E.ixL (E.var 6) E.int rfl) (E.ixL (E.var 6) E.int rfl)) (E.var 5)) ?_))
  rw [bi_xor, bit_eq]
  rfl
end Ty
namespace Ty
open PySem PySem.Spec PyProof.Rows L2
variable [Cf] [Fx]
theorem t_pick (m : TpA) (hm : m.st = none) (ns : List Nat) (hl : 1 ≤ ns.length ∧ ns.length ≤ 100) : Fn "_law_pick" ["_law_tape_here", "_law_row"] 4 (some m) [.adr m.t, .lst (ns.map nd)] (fun d => ∃ z, z ∈ ns ∧ d = nd z) := by
  refine Fx.f__law_pick.go false sc__law_pick fun _ _ _ _ _ _ _ _ => ?_
  refine B.last (P1.ret (E.ixLN (E.var 1) (E.call (t_draw m hm ns.length hl.1) (A.cons (E.var 0) (A.cons (E.to (E.len (E.var 1) .l) (by rw [List.length_map])) A.nil))) fun d h => ?_))
  obtain ⟨z, rfl, hz⟩ := h
  exact ⟨_, nd ns[z], rfl, by rw [atD_nat, List.getElem?_map, List.getElem?_eq_getElem hz]; rfl, _, List.getElem_mem hz, rfl⟩
theorem t_told (a b : Bool) : Fn1 "_law_told" ["_law_actual", "_law_due"] 1 none [.bl a, .bl b] (.bl (decide (a = b))) := by
  refine Fx.f__law_told.go false sc__law_told fun _ _ _ _ _ _ _ _ => ?_
  exact B.last (P1.ret (E.to (E.and (E.isi (b' := true) (E.var 0) (E.tyN (by decide) boot_bool) rfl (by decide +kernel)) fun _ => E.one (E.eqB (E.var 0) (E.var 1))) (by simp)))
/-! a paper as the law's dict -/
def Pap.dd : Pap → D
  | .tab n f g => .dic tpn [nd n, wd f, wd g]
  | .sums n w s ws ss => .dic spn [nd n, wd w, sd s, .xt (ws.map wd), .xt (ss.map sd)]
theorem bi_dec (z : Int) : bi (decide (z % 2 = 1)) = z % 2 := (bi_mod2 z).symm
def dotW (a b : List Bool) : Int := ((a.zip b).map fun p => bi (p.1 && p.2)).sum
theorem dotW_flat {n : Nat} : ∀ (m k : List (List Bool)), (∀ r ∈ m, r.length = n) → (∀ r ∈ k, r.length = n) → m.length = k.length → ((m.zip k).map fun p => bi (parW p.1 p.2)).sum % 2 = dotW m.flatten k.flatten % 2
  | [], [], _, _, _ => rfl
  | a :: m, b :: k, h1, h2, h3 => by
    have ih := dotW_flat m k (fun r h => h1 r (List.mem_cons_of_mem _ h)) (fun r h => h2 r (List.mem_cons_of_mem _ h)) (by simpa using h3)
    have ha := h1 a (by simp)
    have hb := h2 b (by simp)
    have e1 : dotW (a :: m).flatten (b :: k).flatten = dotW a b + dotW m.flatten k.flatten := by
      unfold dotW
      rw [List.flatten_cons, List.flatten_cons, List.zip_append (by rw [ha, hb]), List.map_append, List.sum_append]
    rw [e1, List.zip_cons_cons, List.map_cons, List.sum_cons]
    have e2 : bi (parW a b) = dotW a b % 2 := bi_dec _
    simp only [] at *
    rw [e2]
    omega
  | [], _ :: _, _, _, h => by simp at h
  | _ :: _, [], _, _, h => by simp at h
theorem parS_flat {n : Nat} {m k : List (List Bool)} (h1 : Sq n m) (h2 : Sq n k) : parS m k = parW m.flatten k.flatten := by
  show decide (((m.zip k).map fun p => bi (parW p.1 p.2)).sum % 2 = 1) = decide (dotW m.flatten k.flatten % 2 = 1)
  rw [dotW_flat m k h1.2 h2.2 (by rw [h1.1, h2.1])]
theorem bi_intB (b : Bool) : (if b then (1 : Int) else 0) = bi b := rfl
theorem t_law_letter (p : Pap) (hp : PapOk p) (q : Plc) (hq : PlcOk p.n q) : Fn1 "_law_letter" ["_law_paper", "_law_place"] 2 none [p.dd, q.d] (bd (letP p q)) := by
  refine Fx.f__law_letter.go false sc__law_letter fun _ _ _ _ _ _ _ _ => ?_
  cases q with
  | f w =>
    have hq : w.length = p.n := hq
    refine B.cons1 (P1.asg (E.var 1) (G.tup (Gs.cons (G.name 2) (Gs.cons (G.name 3) Gs.nil)))) ?_
    cases p with
    | tab n f g =>
      obtain ⟨h1, h2, h3⟩ := hp.ok
      have hn : w.length = n := hq
      refine B.last (P1.ifT (T.to (T.inD E.str (E.var 0)) (by decide)) (B.last (P1.ifT (T.to (T.eqS (E.var 2) E.str) (by decide)) (B.last (P1.ret ?_)))))
      exact E.ixT (E.dget (E.var 0) E.str 1 rfl rfl (by decide)) (E.call (t_law_number w (by omega)) (A.cons (E.var 3) A.nil)) (at_bits (by rw [h2, ← hn]; exact num_lt w))
    | sums n w' s ws ss =>
      obtain ⟨h1, h2, h3, h4, h5, h6, h7⟩ := hp.ok
      have hn : w.length = n := hq
      refine B.cons1 (P1.guard (T.to (T.inD E.str (E.var 0)) (by decide))) (B.last (P1.ifT (T.to (T.eqS (E.var 2) E.str) (by decide)) (B.last (P1.ret ?_))))
      refine E.to (E.mod (E.intI (E.add (E.call (t_times_word w' w (by omega) (by omega)) (A.cons (E.dget (E.var 0) E.str 1 rfl rfl (by decide)) (A.cons (E.var 3) A.nil))) (E.intB (E.inT wd_inj wd_pl wd_dp (E.var 3) (E.weak (E.dget (E.var 0) E.str 3 rfl rfl (by decide))))))) E.int (by decide)) ?_
      rw [bi_intB, bi_add2]
      congr
  | g x =>
    have hq : Sq p.n x := hq
    refine B.cons1 (P1.asg (E.var 1) (G.tup (Gs.cons (G.name 2) (Gs.cons (G.name 3) Gs.nil)))) ?_
    cases p with
    | tab n f g =>
      obtain ⟨h1, h2, h3⟩ := hp.ok
      have hn : Sq n x := hq
      have hf : x.flatten.length = n * n := by rw [sq_flat_len hn.2, hn.1]
      have hnn : n * n ≤ 9 := Nat.mul_le_mul h1.2 h1.2
      refine B.last (P1.ifT (T.to (T.inD E.str (E.var 0)) (by decide)) (B.cons1 (P1.guard (T.to (T.eqS (E.var 2) E.str) (by decide))) (B.last (P1.ret ?_))))
      exact E.ixT (E.dget (E.var 0) E.str 2 rfl rfl (by decide)) (E.call (t_law_number x.flatten (by omega)) (A.cons (E.call (t_law_flat x (by omega)) (A.cons (E.var 3) A.nil)) A.nil)) (at_bits (by rw [h3, ← hf]; exact num_lt _))
    | sums n w' s ws ss =>
      obtain ⟨h1, h2, h3, h4, h5, h6, h7⟩ := hp.ok
      have hn : Sq n x := hq
      have hnn : n * n ≤ 144 := Nat.mul_le_mul h1.2 h1.2
      have hf : x.flatten.length = n * n := by rw [sq_flat_len hn.2, hn.1]
      have hf2 : s.flatten.length = n * n := by rw [sq_flat_len h3.2, h3.1]
      refine B.cons1 (P1.guard (T.to (T.inD E.str (E.var 0)) (by decide))) (B.cons1 (P1.guard (T.to (T.eqS (E.var 2) E.str) (by decide))) (B.last (P1.ret ?_)))
      refine E.to (E.mod (E.intI (E.add (E.call (t_times_word s.flatten x.flatten (by omega) (by omega)) (A.cons (E.call (t_law_flat s (by omega)) (A.cons (E.dget (E.var 0) E.str 2 rfl rfl (by decide)) A.nil)) (A.cons (E.call (t_law_flat x (by omega)) (A.cons (E.var 3) A.nil)) A.nil))) (E.intB (E.inT sd_inj sd_pl sd_dp (E.var 3) (E.weak (E.dget (E.var 0) E.str 4 rfl rfl (by decide))))))) E.int (by decide)) ?_
      rw [bi_intB, bi_add2, ← parS_flat h3 hn]
      congr

/-! places and passes by the law -/
theorem t_law_places (n : Nat) (es : List Eqn) (kind : Nat) (t : List Bool) (hk : kind ≤ 6) (hn : 1 ≤ n ∧ n ≤ 12) (hes : ∀ e ∈ es, EqOk n e) (hl : es.length ≤ 100) (ht : t.length = tlen n es.length kind) :
    Fn1 "_law_places" ["_law_n", "_law_equations_here", "_law_kind", "_law_bits"] 3 none [nd n, esd es, nd kind, wd t] (.tup ((placesOf n es kind t).map Plc.d)) := by
  refine Fx.f__law_places.go false sc__law_places fun _ _ _ _ _ _ _ _ => ?_
  by_cases h2 : kind < 2
  · have ht' : t.length = 2 * n := by rw [ht]; obtain h | h : kind = 0 ∨ kind = 1 := by omega
                                      all_goals subst h; rfl
    refine B.last (P1.ifT (T.to (T.lt (E.var 2) E.int) (by simp; omega)) ?_)
    refine B.cons1 (P1.par 4 5 (A.cons (e_take (E.var 3) (E.var 0)) (A.cons (e_drop (E.var 3) (E.var 0)) A.nil))) ?_
    refine B.last (P1.ret (E.to (E.tup (A.cons (E.tup (A.cons E.str (A.cons (E.var 4) A.nil))) (A.cons (E.tup (A.cons E.str (A.cons (E.var 5) A.nil))) (A.cons (E.tup (A.cons E.str (A.cons (E.call (t_both (t.take n) (t.drop n) (by rw [List.length_take, List.length_drop]; omega) (by rw [List.length_take]; omega)) (A.cons (E.var 4) (A.cons (E.var 5) A.nil))) A.nil))) A.nil)))) ?_))
    simp [placesOf, h2, Plc.d]
  refine B.cons1 (P1.guard (T.to (T.lt (E.var 2) E.int) (by simp; omega))) ?_
  by_cases h4 : kind < 4
  · have ht' : t.length = 2 * n * n := by rw [ht]; obtain h | h : kind = 2 ∨ kind = 3 := by omega
                                          all_goals subst h; rfl
    have hnn : n * n + n * n = 2 * n * n := by rw [Nat.mul_assoc]; omega
    have q1 : Sq n (rowsW n (t.take (n * n))) := sq_rows (by rw [List.length_take]; omega)
    have q2 : Sq n (rowsW n (t.drop (n * n))) := sq_rows (by rw [List.length_drop]; omega)
    refine B.last (P1.ifT (T.to (T.lt (E.var 2) E.int) (by simp; omega)) ?_)
    refine B.cons1 (P1.par 6 7 (A.cons (E.call (t_law_rows (t.take (n * n)) n (by omega) _ (.inl rfl)) (A.cons (e_take (E.var 3) (e_sqr (E.var 0) (E.var 0) (by omega))) (A.cons (E.var 0) A.nil))) (A.cons (E.call (t_law_rows (t.drop (n * n)) n (by omega) _ (.inl rfl)) (A.cons (e_drop (E.var 3) (e_sqr (E.var 0) (E.var 0) (by omega))) (A.cons (E.var 0) A.nil))) A.nil))) ?_
    refine B.last (P1.ret (E.to (E.tup (A.cons (E.tup (A.cons E.str (A.cons (E.var 6) A.nil))) (A.cons (E.tup (A.cons E.str (A.cons (E.var 7) A.nil))) (A.cons (E.tup (A.cons E.str (A.cons (E.call (t_both_squares n _ _ hn.2 q1 q2) (A.cons (E.var 6) (A.cons (E.var 7) A.nil))) A.nil))) A.nil)))) ?_))
    simp [placesOf, h2, h4, Plc.d]
  refine B.cons1 (P1.guard (T.to (T.lt (E.var 2) E.int) (by simp; omega))) ?_
  by_cases h6 : kind < 6
  · have ht' : t.length = 2 * n + n * n := by rw [ht]; obtain h | h : kind = 4 ∨ kind = 5 := by omega
                                              all_goals subst h; rfl
    have e2 : 2 * n - n = n := by omega
    have q1 : Sq n (rowsW n (t.drop (2 * n))) := sq_rows (by rw [List.length_drop]; omega)
    have l1 : (t.take n).length = n := by rw [List.length_take]; omega
    have l2 : ((t.drop n).take n).length = n := by rw [List.length_take, List.length_drop]; omega
    have q2 : Sq n (sqF (t.take n) ((t.drop n).take n)) := by have := sq_sqF (a := t.take n) (b := (t.drop n).take n) (by omega); rw [l1] at this; exact this
    refine B.last (P1.ifT (T.to (T.lt (E.var 2) E.int) (by simp; omega)) ?_)
    refine B.cons1 (P1.par3 4 5 8 (A.cons (e_take (E.var 3) (E.var 0)) (A.cons (E.to (e_mid (E.var 3) (E.var 0) (e_sqr (i := 2) E.int (E.var 0) (by omega))) (by rw [e2])) (A.cons (E.call (t_law_rows (t.drop (2 * n)) n (by omega) _ (.inl rfl)) (A.cons (e_drop (E.var 3) (e_sqr (i := 2) E.int (E.var 0) (by omega))) (A.cons (E.var 0) A.nil))) A.nil)))) ?_
    refine B.last (P1.ret (E.to (E.tup (A.cons (E.tup (A.cons E.str (A.cons (E.var 4) A.nil))) (A.cons (E.tup (A.cons E.str (A.cons (E.var 5) A.nil))) (A.cons (E.tup (A.cons E.str (A.cons (E.var 8) A.nil))) (A.cons (E.tup (A.cons E.str (A.cons (E.call (t_both_squares n _ _ hn.2 q1 q2) (A.cons (E.var 8) (A.cons (E.call (t_law_square_of (t.take n) ((t.drop n).take n) (by omega) (by omega)) (A.cons (E.var 4) (A.cons (E.var 5) A.nil))) A.nil))) A.nil))) A.nil))))) ?_))
    simp [placesOf, h2, h4, h6, Plc.d]
  refine B.cons1 (P1.guard (T.to (T.lt (E.var 2) E.int) (by simp; omega))) ?_
  have hk6 : kind = 6 := by omega
  subst hk6
  have ht' : t.length = es.length + n * n := ht
  have q1 : Sq n (rowsW n (t.drop es.length)) := sq_rows (by rw [List.length_drop]; omega)
  have l1 : (t.take es.length).length = es.length := by rw [List.length_take]; omega
  refine B.cons1 (P1.set 9 (E.to (d' := nd es.length) (E.len (E.var 1) .t) (by rw [List.length_map]))) ?_
  refine B.cons1 (P1.set 8 (E.call (t_law_rows (t.drop es.length) n (by omega) _ (.inl rfl)) (A.cons (e_drop (E.var 3) (E.var 9)) (A.cons (E.var 0) A.nil)))) ?_
  refine B.last (P1.ret (E.to (E.tup (A.cons (E.tup (A.cons E.str (A.cons (E.var 8) A.nil))) (A.cons (E.tup (A.cons E.str (A.cons (E.call (t_both_squares n _ _ hn.2 q1 (sq_drawn n _ es)) (A.cons (E.var 8) (A.cons (E.ixT (E.call (t_law_drawn n es (t.take es.length) hn hes l1 hl) (A.cons (E.var 0) (A.cons (E.var 1) (A.cons (e_take (E.var 3) (E.var 9)) A.nil)))) E.int rfl) A.nil))) A.nil))) A.nil))) ?_))
  simp [placesOf, Plc.d]
theorem t_law_passes (p : Pap) (es : List Eqn) (kind : Nat) (t : List Bool) (hk : kind ≤ 6) (hn : 1 ≤ p.n ∧ p.n ≤ 12) (hes : ∀ e ∈ es, EqOk p.n e) (hl : es.length ≤ 100) (hp : PapOk p) (ht : t.length = tlen p.n es.length kind) :
    Fn1 "_law_passes" ["_law_n", "_law_equations_here", "_law_paper", "_law_kind", "_law_bits"] 4 none [nd p.n, esd es, p.dd, nd kind, wd t] (.bl (passB p p.n es kind t)) := by
  refine Fx.f__law_passes.go false sc__law_passes fun _ _ _ _ _ _ _ _ => ?_
  have hlen := places_len p.n es kind t
  refine B.cons1 (P1.setLc (f := fun q => bd (letP p q)) (xs := placesOf p.n es kind t) (enc := Plc.d) 5 [("_law_place", 6)] (W.tup (E.call (t_law_places p.n es kind t hk hn hes hl ht) (A.cons (E.var 0) (A.cons (E.var 1) (A.cons (E.var 3) (A.cons (E.var 4) A.nil)))))) (blkOk_by (N := n__law_passes) (sc := defScope s__law_passes) (by decide +kernel)) (by rw [hlen]; split <;> (try split) <;> omega) (fun _ _ _ _ _ x _ => G.name 6) (by decide) (fun _ => rfl)
    (fun _ _ _ _ _ x hx => E.call (t_law_letter p hp x (places_ok p.n es kind t hk ht x hx)) (A.cons (E.var 2) (A.cons (E.var 6) A.nil))) (sw_true rfl rfl rfl (by decide +kernel))) ?_
  have hm : (placesOf p.n es kind t).map (fun q => bd (letP p q)) = ((placesOf p.n es kind t).map (letP p)).map bd := by rw [List.map_map]; rfl
  rw [hm]
  unfold passB verdict
  have hlen2 : ((placesOf p.n es kind t).map (letP p)).length = if kind < 4 then 3 else if kind < 6 then 4 else 2 := by rw [List.length_map, hlen]
  generalize (placesOf p.n es kind t).map (letP p) = l at *
  by_cases h4 : kind < 4
  · rw [if_pos h4] at hlen2 ⊢
    obtain ⟨a, b, c, rfl⟩ : ∃ a b c, l = [a, b, c] := by
      match l, hlen2 with
      | [a, b, c], _ => exact ⟨a, b, c, rfl⟩
    refine B.last (P1.ifT (T.to (T.lt (E.var 3) E.int) (by simp; omega)) (B.last (P1.ret (E.to (E.eqI (E.mod (E.intI (E.sumL (ns := [bi a, bi b, bi c]) (E.var 5))) E.int (by decide)) E.int) ?_))))
    cases a <;> cases b <;> cases c <;> rfl
  rw [if_neg h4] at hlen2 ⊢
  refine B.cons1 (P1.guard (T.to (T.lt (E.var 3) E.int) (by simp; omega))) ?_
  by_cases h6 : kind < 6
  · rw [if_pos h6] at hlen2 ⊢
    obtain ⟨a, b, c, d, rfl⟩ : ∃ a b c d, l = [a, b, c, d] := by
      match l, hlen2 with
      | [a, b, c, d], _ => exact ⟨a, b, c, d, rfl⟩
    refine B.last (P1.ifT (T.to (T.lt (E.var 3) E.int) (by simp; omega)) (B.last (P1.ret (E.to (E.eqI (E.mul (E.ixL (E.var 5) E.int rfl) (E.ixL (E.var 5) E.int rfl) (.inl ⟨by have := bi_ge a; omega, by have := bi_le a; omega⟩)) (E.mod (E.intI (E.add (E.ixL (E.var 5) E.int rfl) (E.ixL (E.var 5) E.int rfl))) E.int (by decide))) ?_))))
    cases a <;> cases b <;> cases c <;> cases d <;> rfl
  rw [if_neg h6] at hlen2 ⊢
  have hk6 : kind = 6 := by omega
  subst hk6
  have ht' : t.length = es.length + p.n * p.n := ht
  have l1 : (t.take es.length).length = es.length := by rw [List.length_take]; omega
  refine B.cons1 (P1.guard (T.to (T.lt (E.var 3) E.int) (by simp))) ?_
  obtain ⟨a, b, rfl⟩ : ∃ a b, l = [a, b] := by
    match l, hlen2 with
    | [a, b], _ => exact ⟨a, b, rfl⟩
  refine B.last (P1.ret (E.to (E.eqI (E.mod (E.intI (E.sumL (ns := [bi a, bi b]) (E.var 5))) E.int (by decide)) (E.ixT (E.call (t_law_drawn p.n es (t.take es.length) hn hes l1 hl) (A.cons (E.var 0) (A.cons (E.var 1) (A.cons (e_take (E.var 4) (E.to (d' := nd es.length) (E.len (E.var 1) .t) (by rw [List.length_map]))) A.nil)))) E.int rfl)) ?_))
  unfold dueOf
  rw [if_neg (by decide)]
  generalize drawnB (t.take es.length) es = c
  cases a <;> cases b <;> cases c <;> rfl
end Ty
namespace Ty
open PySem PySem.Spec PyProof.Rows L2
variable [Cf]
/-! the order of data -/
theorem keyToks_inj {x y : PyData} (al : PySem.W.alike x y = true) (h : PySem.W.keyToks x = PySem.W.keyToks y) : PyData.eqv x y = true := by
  cases e : PyData.eqv x y with
  | true => rfl
  | false =>
    have h1 := (PySem.W.toks_eqv x y al).2 e [] [Sum.inl 0]
    rw [h, PySem.W.lex_pre, ← List.append_nil (PySem.W.keyToks y), PySem.W.lex_pre] at h1
    cases h1
theorem dataLt_of {d e : D} (hd : d.pl = true) (he : e.pl = true) (al : PySem.W.alike d.py e.py = true) (hne : d ≠ e) (h : PySem.W.dataLt e.py d.py = false) : PySem.W.dataLt d.py e.py = true := by
  cases h2 : PySem.W.dataLt d.py e.py with
  | true => rfl
  | false => exact absurd ((D.eqv hd he).mp (keyToks_inj al (PyProof.Rows.lex_total _ _ h2 h))) hne
section
variable {α : Type} [DecidableEq α]
/-- each once, the first of its kind -/
def nubL (d0 : α) (ys : List α) : List α := ((List.range ys.length).filter fun k => !decide (ys.getD k d0 ∈ ys.take k)).map fun k => ys.getD k d0
theorem nub_mem (d0 : α) (ys : List α) (x : α) : x ∈ nubL d0 ys ↔ x ∈ ys := by
  unfold nubL
  constructor
  · intro h
    obtain ⟨k, hk, rfl⟩ := List.mem_map.mp h
    have hk := List.mem_range.mp (List.mem_filter.mp hk).1
    rw [List.getD_eq_getElem?_getD, List.getElem?_eq_getElem hk]
    exact List.getElem_mem hk
  · intro h
    obtain ⟨k, hk, rfl⟩ := List.mem_iff_getElem.mp h
    have main : ∀ (j k : Nat) (hk : k < ys.length), k ≤ j → ys[k] ∈ ((List.range ys.length).filter fun k => !decide (ys.getD k d0 ∈ ys.take k)).map fun k => ys.getD k d0 := by
      intro j
      induction j with
      | zero =>
        intro k hk hj
        obtain rfl : k = 0 := by omega
        refine List.mem_map.mpr ⟨0, List.mem_filter.mpr ⟨List.mem_range.mpr hk, by simp⟩, ?_⟩
        rw [List.getD_eq_getElem?_getD, List.getElem?_eq_getElem hk]; rfl
      | succ j ih =>
        intro k hk hj
        by_cases hm : ys[k] ∈ ys.take k
        · obtain ⟨i, hi, e⟩ := List.mem_iff_getElem.mp hm
          rw [List.length_take] at hi
          rw [List.getElem_take] at e
          rw [← e]
          exact ih i (by omega) (by omega)
        · refine List.mem_map.mpr ⟨k, List.mem_filter.mpr ⟨List.mem_range.mpr hk, ?_⟩, ?_⟩
          · rw [List.getD_eq_getElem?_getD, List.getElem?_eq_getElem hk]; simpa using hm
          · rw [List.getD_eq_getElem?_getD, List.getElem?_eq_getElem hk]; rfl
    exact main k k hk (Nat.le_refl _)
theorem nub_nodup (d0 : α) (ys : List α) : (nubL d0 ys).Nodup := by
  unfold nubL
  rw [List.Nodup, List.pairwise_map]
  refine List.Pairwise.imp_of_mem ?_ (List.Pairwise.filter _ (List.pairwise_lt_range (n := ys.length)))
  intro a b ha hb hab e
  have hb2 := (List.mem_filter.mp hb).2
  have hbl := List.mem_range.mp (List.mem_filter.mp hb).1
  rw [← e, List.getD_eq_getElem?_getD, List.getElem?_eq_getElem (show a < ys.length by omega)] at hb2
  simp only [Option.getD_some, Bool.not_eq_true', decide_eq_false_iff_not] at hb2
  refine hb2 (List.mem_iff_getElem.mpr ⟨a, by rw [List.length_take]; omega, ?_⟩)
  rw [List.getElem_take]
theorem nub_len (d0 : α) (ys : List α) : (nubL d0 ys).length ≤ ys.length := by
  unfold nubL
  rw [List.length_map]
  exact Nat.le_trans (List.length_filter_le _ _) (by rw [List.length_range]; exact Nat.le_refl _)
def distL (enc : α → D) (d0 : α) (ys : List α) : List α := (nubL d0 ys).mergeSort (leD enc)
variable {enc : α → D} {d0 : α} {ys : List α}
theorem dist_mem (x : α) : x ∈ distL enc d0 ys ↔ x ∈ ys := by
  unfold distL
  rw [(List.mergeSort_perm _ _).mem_iff, nub_mem]
theorem dist_nodup : (distL enc d0 ys).Nodup := (List.mergeSort_perm _ _).nodup_iff.mpr (nub_nodup d0 ys)
theorem dist_len : (distL enc d0 ys).length ≤ ys.length := by
  unfold distL
  rw [(List.mergeSort_perm _ _).length_eq]
  exact nub_len d0 ys
/-- what can be put in an order -/
structure OkL (enc : α → D) (P : α → Prop) : Prop where
  pl : ∀ x, (enc x).pl = true
  dp : ∀ x, (enc x).dp ≤ 8
  im : ∀ x, (enc x).im = true
  inj : ∀ x y, enc x = enc y → x = y
  al : ∀ x y, P x → P y → PySem.W.alike (enc x).py (enc y).py = true
  tp : ∀ x, P x → ∃ z r, (enc x).py = .tuple (z :: r)
theorem OkL.sb {P : α → Prop} (ok : OkL enc P) {zs : List α} (h : ∀ x ∈ zs, P x) : PySem.W.AllAlike (zs.map fun y => (enc y).py) ∧ PySem.W.Sortable (zs.map fun y => (enc y).py) := by
  refine ⟨fun d hd d' hd' => ?_, .inl fun d hd => ?_⟩
  · obtain ⟨x, hx, rfl⟩ := List.mem_map.mp hd
    obtain ⟨y, hy, rfl⟩ := List.mem_map.mp hd'
    exact ok.al _ _ (h x hx) (h y hy)
  · obtain ⟨x, hx, rfl⟩ := List.mem_map.mp hd
    exact ok.tp _ (h x hx)
theorem dist_asc {P : α → Prop} (ok : OkL enc P) (h : ∀ x ∈ ys, P x) : Asc ((distL enc d0 ys).map enc) := by
  have hp : (distL enc d0 ys).Pairwise fun a b => PySem.W.dataLt (enc a).py (enc b).py = true := by
    have h1 : (distL enc d0 ys).Pairwise fun a b => leD enc a b = true := by
      have t := PySem.W.sortLe_total (PyProof.Rows.listOrd PyProof.Rows.itemOrd) false fun b => PySem.W.keyToks (enc b).py
      exact List.pairwise_mergeSort (fun a b c => t.trans a b c) (fun a b => by rw [Bool.or_eq_true]; exact t.total a b) _
    refine List.Pairwise.imp_of_mem ?_ (h1.and (dist_nodup (enc := enc) (d0 := d0) (ys := ys)))
    intro a b ha hb hab
    have hle : (!PySem.W.dataLt (enc b).py (enc a).py) = true := hab.1
    rw [Bool.not_eq_true'] at hle
    exact dataLt_of (ok.pl a) (ok.pl b) (ok.al _ _ (h a ((dist_mem a).mp ha)) (h b ((dist_mem b).mp hb))) (fun e => hab.2 (ok.inj _ _ e)) hle
  intro k a b ha hb
  rw [List.getElem?_map] at ha hb
  obtain ⟨x, hx, rfl⟩ := Option.map_eq_some_iff.mp ha
  obtain ⟨y, hy, rfl⟩ := Option.map_eq_some_iff.mp hb
  have mx := (dist_mem x).mp (List.mem_of_getElem? hx)
  have my := (dist_mem y).mp (List.mem_of_getElem? hy)
  refine ⟨ok.al _ _ (h x mx) (h y my), ?_, ?_⟩
  · obtain ⟨z, r, e⟩ := ok.tp _ (h x mx)
    rw [e]
    exact fun z => nomatch z
  · obtain ⟨h1, e1⟩ := List.getElem?_eq_some_iff.mp hx
    obtain ⟨h2, e2⟩ := List.getElem?_eq_some_iff.mp hy
    rw [← e1, ← e2]
    exact List.pairwise_iff_getElem.mp hp k (k + 1) h1 h2 (by omega)
variable [Fx]
theorem t_distinct {P : α → Prop} (ok : OkL enc P) (h : ∀ x ∈ ys, P x) (hl : ys.length ≤ 1000) : Fn1 "_law_distinct" ["_law_rows_here"] 1 none [.lst (ys.map enc)] (.xt ((distL enc d0 ys).map enc)) := by
  refine Fx.f__law_distinct.go false sc__law_distinct fun _ _ _ _ _ _ _ _ => ?_
  have s := ok.sb (zs := nubL d0 ys) fun x hx => h x ((nub_mem d0 ys x).mp hx)
  have at_ : ∀ {k : Nat}, k < ys.length → atD (ys.map enc) (k : Int) = some (enc (ys.getD k d0)) := fun {k} hk => by
    rw [atD_nat, List.getElem?_map, List.getElem?_eq_getElem hk, List.getD_eq_getElem?_getD, List.getElem?_eq_getElem hk]
    rfl
  refine B.last (P1.ret (E.tupOfX (E.sorted ok.pl ok.dp s.1 s.2 (by have := nub_len d0 ys; omega) (E.to (E.lcF (f := fun k => enc (ys.getD k d0)) (pr := fun k => !decide (ys.getD k d0 ∈ ys.take k)) [("_law_k", 1)] (W.range1 (n := ys.length) (E.to (E.len (E.var 0) .l) (by rw [List.length_map])) (by omega)) (blkOk_by (N := n__law_distinct) (sc := defScope s__law_distinct) (by decide +kernel)) (by rw [List.length_range]; exact hl) (fun _ _ _ _ _ x _ => G.name 1) (by decide) (fun _ => ok.im _)
    (fun _ _ _ _ _ k hk => T.notInL ok.inj ok.pl ok.dp (E.ixL (E.var 0) (E.var 1) (at_ (List.mem_range.mp hk))) (E.to (E.slL (E.var 0) O.none (O.some (E.var 1))) (by rw [cut_hi, ← List.map_take])))
    (fun _ _ _ _ _ k hk _ => E.ixL (E.var 0) (E.var 1) (at_ (List.mem_range.mp hk)))) ?_))))
  unfold nubL
  rw [List.map_map]
  rfl
end
end Ty
namespace Ty
open PySem PySem.Spec PyProof.Rows L2
variable [Cf] [Fx]
theorem Fn.mono {x : Str} {ps : List Str} {k : Nat} {M : Option TpA} {ds : List D} {S S' : D → Prop} (h : Fn x ps k M ds S) (hs : ∀ d, S d → S' d) : Fn x ps k M ds S' := by
  obtain ⟨f, h1, od, fdd, h2, h3, h4, h5, h6⟩ := h
  exact ⟨f, h1, od, fdd, h2, h3, h4, h5, fun base g => ⟨fun vs H Q E ⟨q1, q2, q3⟩ => (h6 base g).len vs H Q E ⟨q1, q2, fun v H' d l e r => q3 v H' d l (hs _ e) r⟩, fun A outer s H args us vs Q E hr e0 hb r ⟨q1, q2, q3⟩ => (h6 base g).run A outer s H args us vs Q E hr e0 hb r ⟨q1, q2, fun v H' d l e r => q3 v H' d l (hs _ e) r⟩⟩⟩
theorem wd_py (w : List Bool) : (wd w).py = .tuple ((w.map bi).map .int) := by
  simp only [D.py, D.pyL_map, List.map_map]
  rfl
theorem alike_wds (a b : List Bool) : PySem.W.alike (wd a).py (wd b).py = true := by
  rw [wd_py, wd_py, PySem.W.alike]
  exact PySem.W.alike_ints _ _
theorem alikeAll_map {α : Type} (f : α → PyData) (h : ∀ a b, PySem.W.alike (f a) (f b) = true) : ∀ l m : List α, PySem.W.alikeAll (l.map f) (m.map f) = true
  | [], _ => by simp [PySem.W.alikeAll]
  | _ :: _, [] => by simp [PySem.W.alikeAll]
  | a :: l, b :: m => by simp [PySem.W.alikeAll, h a b, alikeAll_map f h l m]
theorem sd_py (m : List (List Bool)) : (sd m).py = .tuple (m.map fun w => (wd w).py) := by
  rw [D.py, D.pyL_map, List.map_map]
  rfl
theorem alike_sds (a b : List (List Bool)) : PySem.W.alike (sd a).py (sd b).py = true := by
  rw [sd_py, sd_py, PySem.W.alike]
  exact alikeAll_map _ alike_wds _ _
theorem okW {n : Nat} (hn : 1 ≤ n) : OkL wd (fun w => w.length = n) where
  pl := wd_pl
  dp := wd_dp
  im := fun w => by simp only [D.im]; exact im_bits _
  inj := wd_inj
  al := fun x y _ _ => alike_wds x y
  tp := fun x h => by
    cases x with
    | nil => simp at h; omega
    | cons b r => exact ⟨_, _, wd_py _⟩
theorem okS {n : Nat} (hn : 1 ≤ n) : OkL sd (Sq n) where
  pl := sd_pl
  dp := sd_dp
  im := fun w => by simp only [D.im]; exact im_wds _
  inj := sd_inj
  al := fun x y _ _ => alike_sds x y
  tp := fun x h => by
    cases x with
    | nil => have := h.1; simp at this; omega
    | cons b r => exact ⟨_, _, sd_py _⟩
/-- a paper that can be made -/
structure PapF (p : Pap) : Prop where
  ok : PapOk p
  asc : match p with
    | .tab _ _ _ => True
    | .sums _ _ _ ws ss => Asc (ws.map wd) ∧ Asc (ss.map sd)
theorem t_distW {n : Nat} (hn : 1 ≤ n) (ys : List (List Bool)) (h : ∀ y ∈ ys, y.length = n) (hl : ys.length ≤ 100) : Fn "_law_distinct" ["_law_rows_here"] 1 none [.lst (ys.map wd)] (fun d => d = .xt ((distL wd [] ys).map wd)) := t_distinct (okW hn) h (by omega)
theorem t_distS {n : Nat} (hn : 1 ≤ n) (ys : List (List (List Bool))) (h : ∀ y ∈ ys, Sq n y) (hl : ys.length ≤ 100) : Fn "_law_distinct" ["_law_rows_here"] 1 none [.lst (ys.map sd)] (fun d => d = .xt ((distL sd [] ys).map sd)) := t_distinct (okS hn) h (by omega)
theorem t_sums_paper (m : TpA) (hm : m.st = none) (n : Nat) (w : List Bool) (hn : 1 ≤ n ∧ n ≤ 12) (hw : w.length = n) : Fn "_law_sums_paper" ["_law_tape_here", "_law_n", "_law_word_here"] 7 (some m) [.adr m.t, nd n, wd w] (fun d => ∃ s ws ss, PapF (.sums n w s ws ss) ∧ ws.length ≤ 4 ∧ ss.length ≤ 4 ∧ d = (Pap.sums n w s ws ss).dd) := by
  refine Fx.f__law_sums_paper.go false sc__law_sums_paper fun _ _ _ _ _ _ _ _ => ?_
  refine B.cons (P1.setN 3 (E.callN (S := fun d => ∃ ws : List (List Bool), (∀ x ∈ ws, x.length = n) ∧ ws.length ≤ 4 ∧ Asc (ws.map wd) ∧ d = .xt (ws.map wd)) (SA := fun ds => ∃ ys : List (List Bool), (∀ y ∈ ys, y.length = n) ∧ ys.length ≤ 4 ∧ ds = [.lst (ys.map wd)]) (M' := none) (k' := 1) (fun ds h => by
      obtain ⟨ys, h1, h2, rfl⟩ := h
      exact (t_distW hn.1 ys h1 (by omega)).mono fun d e => ⟨_, fun x hx => h1 x ((dist_mem x).mp hx), Nat.le_trans dist_len h2, dist_asc (okW hn.1) h1, e⟩) ⟨_, [], by simp, by simp, rfl⟩
    (A.consN (E.lcNN (g := wd) (Px := fun y => y.length = n) [("_law_k", 6)] (WN.range1 (E.call (t_draw m hm 4 (by decide)) (A.cons (E.var 0) (A.cons E.int A.nil))) (fun z h => by omega)) (blkOk_by (N := n__law_sums_paper) (sc := defScope s__law_sums_paper) (by decide +kernel)) (fun xs h => by obtain ⟨z, h1, rfl⟩ := h; rw [List.length_range]; omega) (fun _ _ _ _ _ xs _ x _ => G.name 6) (by decide) (fun y => by simp only [D.im]; exact im_bits _)
        (fun _ _ _ _ _ xs _ x _ => E.mono (E.call (t_word m hm n (by omega)) (A.cons (E.var 0) (A.cons (E.var 1) A.nil))) fun d ⟨w, h1, h2⟩ => ⟨w, h2, h1⟩)) A.nil (fun d ds h1 h2 => by
          obtain ⟨ys, rfl, h3, xs, ⟨z, hz, rfl⟩, h4⟩ := h1
          rw [List.length_range] at h4
          exact ⟨ys, h3, by omega, by rw [h2]⟩)))) fun g hg => ?_
  obtain ⟨_, ⟨ws, w1, w2, w3, rfl⟩, rfl⟩ := hg
  refine B.cons (P1.setN 4 (E.callN (S := fun d => ∃ ws : List (List (List Bool)), (∀ x ∈ ws, Sq n x) ∧ ws.length ≤ 4 ∧ Asc (ws.map sd) ∧ d = .xt (ws.map sd)) (SA := fun ds => ∃ ys : List (List (List Bool)), (∀ y ∈ ys, Sq n y) ∧ ys.length ≤ 4 ∧ ds = [.lst (ys.map sd)]) (M' := none) (k' := 1) (fun ds h => by
      obtain ⟨ys, h1, h2, rfl⟩ := h
      exact (t_distS hn.1 ys h1 (by omega)).mono fun d e => ⟨_, fun x hx => h1 x ((dist_mem x).mp hx), Nat.le_trans dist_len h2, dist_asc (okS hn.1) h1, e⟩) ⟨_, [], by simp, by simp, rfl⟩
    (A.consN (E.lcNN (g := sd) (Px := fun y => Sq n y) [("_law_k", 6)] (WN.range1 (E.call (t_draw m hm 4 (by decide)) (A.cons (E.var 0) (A.cons E.int A.nil))) (fun z h => by omega)) (blkOk_by (N := n__law_sums_paper) (sc := defScope s__law_sums_paper) (by decide +kernel)) (fun xs h => by obtain ⟨z, h1, rfl⟩ := h; rw [List.length_range]; omega) (fun _ _ _ _ _ xs _ x _ => G.name 6) (by decide) (fun y => by simp only [D.im]; exact im_wds _)
        (fun _ _ _ _ _ xs _ x _ => E.mono (E.call (t_square m hm n hn.2) (A.cons (E.var 0) (A.cons (E.var 1) A.nil))) fun d ⟨w, h1, h2⟩ => ⟨w, h2, h1⟩)) A.nil (fun d ds h1 h2 => by
          obtain ⟨ys, rfl, h3, xs, ⟨z, hz, rfl⟩, h4⟩ := h1
          rw [List.length_range] at h4
          exact ⟨ys, h3, by omega, by rw [h2]⟩)))) fun g hg => ?_
  obtain ⟨_, ⟨ss, s1, s2, s3, rfl⟩, rfl⟩ := hg
  refine B.cons (P1.setN 5 (E.call (t_near_square m hm n w hn hw) (A.cons (E.var 0) (A.cons (E.var 2) A.nil)))) fun g hg => ?_
  obtain ⟨_, ⟨s, hs, rfl⟩, rfl⟩ := hg
  refine B.last (P1.ret (E.disp (Pp.cons (E.var 1) (Pp.cons (E.var 2) (Pp.cons (E.var 5) (Pp.cons (E.var 3) (Pp.cons (E.var 4) Pp.nil))))) (fun ds h => ?_) (fun ds h => ?_) (by decide) (by decide) (by decide)))
  · obtain ⟨d, ds, rfl, rfl, d, ds, rfl, rfl, d, ds, rfl, rfl, d, ds, rfl, rfl, d, ds, rfl, rfl, rfl⟩ := h
    simp [D.im, D.imL, im_bits, im_wds, im_sds]
  · obtain ⟨d, ds, rfl, rfl, d, ds, rfl, rfl, d, ds, rfl, rfl, d, ds, rfl, rfl, d, ds, rfl, rfl, rfl⟩ := h
    exact ⟨s, ws, ss, ⟨⟨hn, hw, hs, w1, s1, by omega, by omega⟩, w3, s3⟩, w2, s2, rfl⟩
theorem t_table_paper (m : TpA) (hm : m.st = none) (n : Nat) (hn : 1 ≤ n ∧ n ≤ 2) : Fn "_law_table_paper" ["_law_tape_here", "_law_n"] 5 (some m) [.adr m.t, nd n] (fun d => ∃ f g, PapF (.tab n f g) ∧ d = (Pap.tab n f g).dd) := by
  refine Fx.f__law_table_paper.go false sc__law_table_paper fun _ _ _ _ _ _ _ _ => ?_
  have p1 : 2 ^ n ≤ 600 ∧ 2 ^ (n * n) ≤ 600 := by obtain rfl | rfl : n = 1 ∨ n = 2 := by omega
                                                  all_goals decide
  have hnn : n * n ≤ 4 := Nat.mul_le_mul hn.2 hn.2
  refine B.last (P1.ret (E.disp (Pp.cons (E.var 1) (Pp.cons (E.call (t_word m hm (2 ^ n) p1.1) (A.cons (E.var 0) (A.cons (E.to (E.shl E.int (E.var 1) ⟨by omega, by omega, by decide⟩) (by simp)) A.nil)))
    (Pp.cons (E.call (t_word m hm (2 ^ (n * n)) p1.2) (A.cons (E.var 0) (A.cons (E.to (E.shl E.int (e_sqr (E.var 1) (E.var 1) (by omega)) ⟨by omega, by omega, by decide⟩) (by rw [Int.toNat_natCast]; simp)) A.nil))) Pp.nil))) (fun ds h => ?_) (fun ds h => ?_) (by decide) (by decide) (by decide)))
  · obtain ⟨d, ds, rfl, rfl, d, ds, rfl, ⟨f, h1, rfl⟩, d, ds, rfl, ⟨g, h2, rfl⟩, rfl⟩ := h
    simp [D.im, D.imL, im_bits]
  · obtain ⟨d, ds, rfl, rfl, d, ds, rfl, ⟨f, h1, rfl⟩, d, ds, rfl, ⟨g, h2, rfl⟩, rfl⟩ := h
    exact ⟨f, g, ⟨⟨⟨by omega, by omega⟩, h1, h2⟩, trivial⟩, rfl⟩
def solvedE (w : List Bool) (e : Eqn) : Eqn := { e with right := leftB w e }
theorem solved_ok {n : Nat} {w : List Bool} {e : Eqn} (h : EqOk n e) : EqOk n (solvedE w e) := ⟨h.p, h.s, h.ap, h.as, h.lp, h.ls⟩
theorem t_solved (m : TpA) (hm : m.st = none) (n : Nat) (w : List Bool) (hn : 1 ≤ n ∧ n ≤ 12) (hw : w.length = n) : Fn "_law_solved" ["_law_tape_here", "_law_n", "_law_word_here"] 6 (some m) [.adr m.t, nd n, wd w] (fun d => ∃ es : List Eqn, (∀ e ∈ es, EqOk n e ∧ e.right = leftB w e) ∧ es.length ≤ 4 ∧ d = esd es) := by
  refine Fx.f__law_solved.go false sc__law_solved fun _ _ _ _ _ _ _ _ => ?_
  refine B.cons (P1.setN 3 (E.callN (S := fun d => ∃ es : List Eqn, (∀ e ∈ es, EqOk n e) ∧ es.length ≤ 4 ∧ d = esd es) (SA := fun ds => ∃ z : Nat, z < 5 ∧ ds = [.adr m.t, nd n, nd z, wd w]) (M' := some m) (k' := 5) (fun ds h => by
      obtain ⟨z, h1, rfl⟩ := h
      exact (t_equations m hm n z w hn hw (by omega)).mono fun d ⟨es, h2, h3, h4⟩ => ⟨es, h2, by omega, h4⟩) ⟨_, 0, by decide, rfl⟩
    (A.consN (E.var 0) (A.consN (E.var 1) (A.consN (E.call (t_draw m hm 5 (by decide)) (A.cons (E.var 0) (A.cons E.int A.nil))) (A.cons (E.var 2) A.nil) (SA := fun ds => ∃ z : Nat, z < 5 ∧ ds = [nd z, wd w]) (fun d ds ⟨z, h1, h2⟩ h3 => ⟨z, h2, by rw [h1, h3]⟩)) (SA := fun ds => ∃ z : Nat, z < 5 ∧ ds = [nd n, nd z, wd w]) (fun d ds h1 ⟨z, h2, h3⟩ => ⟨z, h2, by rw [h1, h3]⟩)) (fun d ds h1 ⟨z, h2, h3⟩ => ⟨z, h2, by rw [h1, h3]⟩)))) fun g hg => ?_
  obtain ⟨_, ⟨es, h1, h2, rfl⟩, rfl⟩ := hg
  refine B.last (P1.ret (E.mono (E.tupOf (E.lcM (f := fun e => ed (solvedE w e)) (xs := es) (enc := ed) [("_law_one", 4)] (W.tup (E.var 3)) (blkOk_by (N := n__law_solved) (sc := defScope s__law_solved) (by decide +kernel)) (by omega) (fun _ _ _ _ _ x _ => G.name 4) (by decide) (fun e => im_ed _)
    (fun _ _ _ _ _ e he => E.tup (A.cons (E.ixT (E.var 4) E.int rfl) (A.cons (E.ixT (E.var 4) E.int rfl) (A.cons (E.call (t_left w e n (bd e.right) (.tup (e.pairs.map pd)) hw (h1 e he).p (h1 e he).s (h1 e he).lp (h1 e he).ls (.inl rfl)) (A.cons (E.var 2) (A.cons (E.var 4) A.nil))) A.nil))))) .l) fun d h => ⟨es.map (solvedE w), fun e he => ?_, by rw [List.length_map]; exact h2, by rw [h, esd, List.map_map]; rfl⟩))
  obtain ⟨e', he', rfl⟩ := List.mem_map.mp he
  exact ⟨solved_ok (h1 _ he'), rfl⟩
end Ty
namespace Ty
open PySem PySem.Spec PyProof.Rows L2
variable [Cf] [Fx]
/-! another letter -/
def togL {α : Type} [DecidableEq α] (x : α) (xs : List α) : List α := (xs ++ [x]).filter fun o => decide (x ∉ xs) || !decide (o = x)
def Pap.otherF : Pap → List Bool → Pap
  | .tab n f g, w => .tab n (f.set (num w) (!f.getD (num w) false)) g
  | .sums n w0 s ws ss, w => .sums n w0 s (distL wd [] (togL w ws)) ss
def Pap.otherG : Pap → List (List Bool) → Pap
  | .tab n f g, x => .tab n f (g.set (num x.flatten) (!g.getD (num x.flatten) false))
  | .sums n w0 s ws ss, x => .sums n w0 s ws (distL sd [] (togL x ss))
section
variable {k : Nat} {X : Cx} {M : Option TpA} {mu : Bool} {Γ : List Sl} {a : Expr} {p pos p1 p2 : Pos} {S : D → Prop} {d : D} {x m : Str} {nn : List Str} {l : List D}
theorem P1.dputF (js : List Nat) (s : Nat) {j : Nat} {kp : Pos} (i : Nat) (hΓ : (gw Γ js)[s]? = some (.odic nn l)) (hi : imBut (gw Γ js) s = true) (hni : nn[i]? = some m) (hq : nn.Nodup) (hd : D.imL l = true ∧ d.im = true) (h15 : nn.length < 1000) (ha : E1 k X M Γ a d) (hm : mu = true)
    (hps : XOk X → Room k X.A → PS X (.Assign [.Subscript (.Name x p1) (.Constant (.str m) j kp) p2] a pos) (sDPut (tVar s) (tC (.str m)) (tS X a))) :
    P1 k X M mu Γ (.Assign [.Subscript (.Name x p1) (.Constant (.str m) j kp) p2] a pos) (fun g => g = (gw Γ js).set s (.odic nn (l.set i d))) S := fun xk hr F fr H0 σ H le hF sat Dn qn qr => by
  refine to_1 (hps xk hr) (ha xk hr H0 σ H le sat _ fun v H1 d1 l1 s1 r1 => ?_)
  subst s1
  have sat1 := (sat.mo l1).fgt js
  obtain ⟨p, vs, ev, h0, h1, h2, h3, h4⟩ := sat1.at_ s _ hΓ
  have hz : ((nn.map Sum.inr).zip vs : List (Key × V)).length < sizeLine := by
    rw [List.length_zip, List.length_map]
    exact Nat.lt_of_le_of_lt (show min nn.length vs.length ≤ 1000 by omega) (small1000 (Nat.le_refl _))
  refine ⟨_, ev, p, _, rfl, DPut.k (k := Sum.inr m) h1 hz, ?_⟩
  rw [putK_at hq h2 hni]
  exact qn _ _ _ ((le.trans l1).mutD h0 h1) (fr.md hm _ _ _ _ h1 (fr.le _ _ _ l1 hF)) rfl (sat1.mutButD h1 hi ⟨p, _, ev, h0, upd_same, by rw [List.length_set]; exact h2, h3, (h4.mutD h1 hd.1).set _ (r1.mutD h1 hd.2)⟩)
end
inductive Other (qs : List Plc) (p : Pap) : Pap → Prop
  | same : Other qs p p
  | f (w : List Bool) (hw : w.length = p.n) (hq : Plc.f w ∉ qs) : Other qs p (p.otherF w)
  | g (x : List (List Bool)) (hx : Sq p.n x) (hq : Plc.g x ∉ qs) : Other qs p (p.otherG x)
theorem slV (d : D) : (Sl.val d).im = d.im := rfl
theorem slN : Sl.non.im = true := rfl
abbrev qd (qs : List Plc) : D := .tup (qs.map Plc.d)
theorem plc_inj : ∀ x y : Plc, x.d = y.d → x = y := fun x y h => by
  cases x with
  | f a => cases y with
    | f b =>
      injection h with h
      simp only [List.cons.injEq] at h
      rw [wd_inj _ _ h.2.1]
    | g b =>
      injection h with h
      simp only [List.cons.injEq] at h
      injection h.1 with e; exact absurd e (by decide)
  | g a => cases y with
    | f b =>
      injection h with h
      simp only [List.cons.injEq] at h
      injection h.1 with e; exact absurd e (by decide)
    | g b =>
      injection h with h
      simp only [List.cons.injEq] at h
      rw [sd_inj _ _ h.2.1]
theorem plc_pl (q : Plc) : q.d.pl = true := by
  cases q with
  | f w => have h := wd_pl w; have h2 : PyData.strOk "f" = true := by decide +kernel
           simp only [Plc.d, D.pl, D.plL] at h ⊢; simp [h, h2]
  | g w => have h := sd_pl w; have h2 : PyData.strOk "g" = true := by decide +kernel
           simp only [Plc.d, D.pl, D.plL] at h ⊢; simp [h, h2]
theorem plc_dp (q : Plc) : q.d.dp ≤ 8 := by
  cases q with
  | f w => have h := wd_dp1 w; simp only [Plc.d, D.dp, D.dpL] at h ⊢; omega
  | g w => have h := sd_dp2 w; simp only [Plc.d, D.dp, D.dpL] at h ⊢; omega
theorem im_qs (qs : List Plc) : D.imL (qs.map Plc.d) = true := D.imL_map _ (fun q => by cases q <;> simp [Plc.d, D.im, D.imL, im_bits, im_wds]) _
theorem set_bits {f : List Bool} {k : Nat} (hk : k < f.length) : (f.take k).map bd ++ [D.int (1 - bi (f.getD k false))] ++ (f.drop (k + 1)).map bd = (f.set k (!f.getD k false)).map bd := by
  have e : D.int (1 - bi (f.getD k false)) = bd (!f.getD k false) := by cases f.getD k false <;> rfl
  rw [e, List.set_eq_take_append_cons_drop, if_pos hk, List.map_append, List.map_cons, List.append_assoc]
  rfl
section
variable {k : Nat} {X : Cx} {M : Option TpA} {Γ : List Sl} {a b : Expr} {pos : Pos} {P : Prop} [Decidable P]
theorem T.count0 (ha : E k X M Γ a (fun d => ∃ n : Nat, d = .int (n : Int) ∧ (n = 0 ↔ P))) (hb : E1 k X M Γ b (.int 0)) : T1 k X M Γ (.Compare a [.Eq] [b] pos) (decide P) := .cmp (nomark _) (fun _ _ => op_eq) ha hb fun d1 d2 e1 e2 H x y iv r1 r2 Q q => by
  obtain ⟨n, rfl, hn⟩ := e1
  subst e2
  cases r1
  cases r2
  refine ⟨rfl, q _ _ _ (.refl iv) ⟨_, rfl, ?_⟩ (.bl _)⟩
  by_cases h : P
  · have := hn.mpr h; subst this; simp [h]
  · have : n ≠ 0 := fun z => h (hn.mp z)
    simp [h, this]
end

set_option maxHeartbeats 20000000 in
theorem t_other_tab (m : TpA) (hm : m.st = none) (n : Nat) (ft gt : List Bool) (hn : 1 ≤ n ∧ n ≤ 3) (hf1 : ft.length = 2 ^ n) (hg1 : gt.length = 2 ^ (n * n)) (hfl : ft.length ≤ 600) (hgl : gt.length ≤ 600) (hnn : n * n ≤ 9) (qs : List Plc) : Fn "_law_other_letter" ["_law_tape_here", "_law_paper", "_law_read"] 6 (some m) [.adr m.t, (Pap.tab n ft gt).dd, qd qs] (fun d => ∃ p', Other qs (Pap.tab n ft gt) p' ∧ d = p'.dd) := by
  refine Fx.f__law_other_letter.go true sc__law_other_letter fun _ _ _ _ _ _ _ _ => ?_
  refine B.cons1 (P1.set 3 (E.dget (E.var 1) E.str 0 rfl rfl (by decide))) ?_
  refine B.cons1 (P1.setDict (nn := tpn) (l := [nd n, wd ft, wd gt]) 4 (E.var 1)) ?_
  refine B.cons (P1.for_ (xs := List.range 6) (enc := nd) (fun i g => ∃ s5 s6 s7 s8 s9 : Sl, s5.im = true ∧ s6.im = true ∧ s7.im = true ∧ s8.im = true ∧ s9.im = true ∧ g = [.val (.adr m.t), .val (Pap.tab n ft gt).dd, .val (qd qs), .val (nd n), .odic tpn [nd n, wd ft, wd gt], s5, s6, s7, s8, s9, .non]) (W.range1 (n := 6) E.int (by omega)) ⟨.non, .non, .non, .non, .non, rfl, rfl, rfl, rfl, rfl, rfl⟩ (fun i y g hy hg => ?_)) fun g hg => ?_
  · obtain ⟨s5, s6, s7, s8, s9, i5, i6, i7, i8, i9, rfl⟩ := hg
    refine ⟨_, _, G.name 5, ?_⟩
    refine B.cons (P1.setN 6 (E.call (t_word m hm n (by omega)) (A.cons (E.var 0) (A.cons (E.var 3) A.nil)))) fun g hg => ?_
    obtain ⟨_, ⟨w, hw, rfl⟩, rfl⟩ := hg
    refine B.cons (P1.setN 7 (E.call (t_square m hm n (by omega)) (A.cons (E.var 0) (A.cons (E.var 3) A.nil)))) fun g hg => ?_
    obtain ⟨_, ⟨x, hx, rfl⟩, rfl⟩ := hg
    have im : ∀ q : Plc, q.d.im = true := fun q => by cases q <;> simp [Plc.d, D.im, D.imL, im_bits, im_wds]
    refine B.cons (P1.if_ (N := fun g => g = [.val (.adr m.t), .val (Pap.tab n ft gt).dd, .val (qd qs), .val (nd n), .odic tpn [nd n, wd ft, wd gt], .val (nd y), .val (wd w), .val (sd x), s8, s9, .non]) (SB := fun b => b = true → Plc.f w ∉ qs) (T.ofW (TW.andN (SA := fun _ => True) (SR := fun b => b = !decide (Plc.f w ∈ qs)) (T.eqN (E.call (t_draw m hm 2 (by decide)) (A.cons (E.var 0) (A.cons E.int A.nil))) E.int)
      (fun _ => TW.and1 (T.notInT (x := Plc.f w) (enc := Plc.d) (ys := qs) plc_inj plc_pl plc_dp (E.tup (A.cons E.str (A.cons (E.var 6) A.nil))) (E.var 2))) (fun b _ h z => by rw [h] at z; simpa using z) (fun _ z => nomatch z))) (fun hq => ?_) (fun _ => B.nil rfl)) fun g hg => ?_
    · have hq := hq rfl
      have hk : (num w) < ft.length := by have := num_lt w; rw [hw] at this; omega
      refine B.cons (P1.ifT (N := fun g' => g' = [.val (.adr m.t), .non, .val (qd qs), .val (nd n), .odic tpn [nd n, wd (ft.set (num w) (!ft.getD (num w) false)), wd gt], .val (nd y), .val (wd w), .val (sd x), .val (nd (num w)), s9, .non]) (T.to (T.inD E.str (E.var 1)) (by decide)) (B.cons1 (P1.set 8 (E.call (t_law_number w (by omega)) (A.cons (E.var 6) A.nil))) (B.cons1 (P1.dputF [1] (d := wd (ft.set (num w) (!ft.getD (num w) false))) 4 1 rfl (by simp [-List.map_append, gw, imBut, slV, slN, D.im, D.imL, im_bits, im_eds, im_qs, im_wds, im_sds, i5, i6, i7, i8, i9]) rfl (by decide) ⟨by simp [D.im, D.imL, im_bits], by simp only [D.im]; exact im_bits _⟩ (by decide)
        (E.to (E.catT (E.catT (e_take (i := (num w)) (E.dget (E.var 1) E.str 1 rfl rfl (by decide)) (E.var 8)) (E.tup (A.cons (E.sub E.int (E.ixT (E.dget (E.var 1) E.str 1 rfl rfl (by decide)) (E.var 8) (at_bits hk))) A.nil)) (by rw [List.length_map, List.length_take]; simp; omega)) (e_drop (i := (num w) + 1) (E.dget (E.var 1) E.str 1 rfl rfl (by decide)) (E.to (E.add (E.var 8) E.int) (by rw [nd, Int.natCast_add]; rfl))) (by rw [List.length_append, List.length_map, List.length_map, List.length_take, List.length_drop]; simp; omega)) (by rw [set_bits hk])) rfl (fun _ hr => ps_dput (Room.u1 hr) (pv 4) pe_str pe_s rfl)) (B.nil rfl)))) fun g' hg => ?_
      subst hg
      exact B.last (P1.ret (E.mono (E.varOD 4) fun d h => ⟨_, .f w hw hq, h⟩))
    subst hg
    refine B.cons (P1.if_ (N := fun g => g = [.val (.adr m.t), .val (Pap.tab n ft gt).dd, .val (qd qs), .val (nd n), .odic tpn [nd n, wd ft, wd gt], .val (nd y), .val (wd w), .val (sd x), s8, s9, .non]) (SB := fun b => b = !decide (Plc.g x ∈ qs)) (T.notInT (x := Plc.g x) (enc := Plc.d) (ys := qs) plc_inj plc_pl plc_dp (E.tup (A.cons E.str (A.cons (E.var 7) A.nil))) (E.var 2)) (fun hq => ?_) (fun _ => B.nil rfl)) fun g hg => ?_
    · have hq : Plc.g x ∉ qs := by simpa using hq.symm
      have hf : x.flatten.length = n * n := by rw [sq_flat_len hx.2, hx.1]
      have hk : (num x.flatten) < gt.length := by have := num_lt x.flatten; rw [hf] at this; omega
      refine B.cons (P1.ifT (N := fun g' => g' = [.val (.adr m.t), .non, .val (qd qs), .val (nd n), .odic tpn [nd n, wd ft, wd (gt.set (num x.flatten) (!gt.getD (num x.flatten) false))], .val (nd y), .val (wd w), .val (sd x), .val (nd (num x.flatten)), s9, .non]) (T.to (T.inD E.str (E.var 1)) (by decide)) (B.cons1 (P1.set 8 (E.call (t_law_number x.flatten (by omega)) (A.cons (E.call (t_law_flat x (by omega)) (A.cons (E.var 7) A.nil)) A.nil))) (B.cons1 (P1.dputF [1] (d := wd (gt.set (num x.flatten) (!gt.getD (num x.flatten) false))) 4 2 rfl (by simp [-List.map_append, gw, imBut, slV, slN, D.im, D.imL, im_bits, im_eds, im_qs, im_wds, im_sds, i5, i6, i7, i8, i9]) rfl (by decide) ⟨by simp [D.im, D.imL, im_bits], by simp only [D.im]; exact im_bits _⟩ (by decide)
        (E.to (E.catT (E.catT (e_take (i := (num x.flatten)) (E.dget (E.var 1) E.str 2 rfl rfl (by decide)) (E.var 8)) (E.tup (A.cons (E.sub E.int (E.ixT (E.dget (E.var 1) E.str 2 rfl rfl (by decide)) (E.var 8) (at_bits hk))) A.nil)) (by rw [List.length_map, List.length_take]; simp; omega)) (e_drop (i := (num x.flatten) + 1) (E.dget (E.var 1) E.str 2 rfl rfl (by decide)) (E.to (E.add (E.var 8) E.int) (by rw [nd, Int.natCast_add]; rfl))) (by rw [List.length_append, List.length_map, List.length_map, List.length_take, List.length_drop]; simp; omega)) (by rw [set_bits hk])) rfl (fun _ hr => ps_dput (Room.u1 hr) (pv 4) pe_str pe_s rfl)) (B.nil rfl)))) fun g' hg => ?_
      subst hg
      exact B.last (P1.ret (E.mono (E.varOD 4) fun d h => ⟨_, .g x hx hq, h⟩))
    subst hg
    exact B.nil ⟨_, _, _, _, _, rfl, by simp [imBut, slV, slN, D.im, D.imL, im_bits, im_eds, im_qs, im_wds, im_sds], by simp [imBut, slV, slN, D.im, D.imL, im_bits, im_eds, im_qs, im_wds, im_sds], i8, i9, rfl⟩
  · obtain ⟨s5, s6, s7, s8, s9, i5, i6, i7, i8, i9, rfl⟩ := hg
    exact B.last (P1.ret (E.mono (E.varOD 4) fun d h => ⟨_, .same, h⟩))

set_option maxHeartbeats 20000000 in
theorem t_other_sums (m : TpA) (hm : m.st = none) (n : Nat) (w0 : List Bool) (s : List (List Bool)) (ws : List (List Bool)) (ss : List (List (List Bool))) (hn : 1 ≤ n ∧ n ≤ 12) (hF : ∀ o ∈ ws, o.length = n) (hG : ∀ o ∈ ss, Sq n o) (lF : ws.length ≤ 50) (lG : ss.length ≤ 50) (qs : List Plc) : Fn "_law_other_letter" ["_law_tape_here", "_law_paper", "_law_read"] 6 (some m) [.adr m.t, (Pap.sums n w0 s ws ss).dd, qd qs] (fun d => ∃ p', Other qs (Pap.sums n w0 s ws ss) p' ∧ d = p'.dd) := by
  refine Fx.f__law_other_letter.go true sc__law_other_letter fun _ _ _ _ _ _ _ _ => ?_
  refine B.cons1 (P1.set 3 (E.dget (E.var 1) E.str 0 rfl rfl (by decide))) ?_
  refine B.cons1 (P1.setDict (nn := spn) (l := [nd n, wd w0, sd s, .xt (ws.map wd), .xt (ss.map sd)]) 4 (E.var 1)) ?_
  refine B.cons (P1.for_ (xs := List.range 6) (enc := nd) (fun i g => ∃ s5 s6 s7 s8 s9 : Sl, s5.im = true ∧ s6.im = true ∧ s7.im = true ∧ s8.im = true ∧ s9.im = true ∧ g = [.val (.adr m.t), .val (Pap.sums n w0 s ws ss).dd, .val (qd qs), .val (nd n), .odic spn [nd n, wd w0, sd s, .xt (ws.map wd), .xt (ss.map sd)], s5, s6, s7, s8, s9, .non]) (W.range1 (n := 6) E.int (by omega)) ⟨.non, .non, .non, .non, .non, rfl, rfl, rfl, rfl, rfl, rfl⟩ (fun i y g hy hg => ?_)) fun g hg => ?_
  · obtain ⟨s5, s6, s7, s8, s9, i5, i6, i7, i8, i9, rfl⟩ := hg
    refine ⟨_, _, G.name 5, ?_⟩
    refine B.cons (P1.setN 6 (E.call (t_word m hm n (by omega)) (A.cons (E.var 0) (A.cons (E.var 3) A.nil)))) fun g hg => ?_
    obtain ⟨_, ⟨w, hw, rfl⟩, rfl⟩ := hg
    refine B.cons (P1.setN 7 (E.call (t_square m hm n (by omega)) (A.cons (E.var 0) (A.cons (E.var 3) A.nil)))) fun g hg => ?_
    obtain ⟨_, ⟨x, hx, rfl⟩, rfl⟩ := hg
    have im : ∀ q : Plc, q.d.im = true := fun q => by cases q <;> simp [Plc.d, D.im, D.imL, im_bits, im_wds]
    refine B.cons (P1.if_ (N := fun g => g = [.val (.adr m.t), .val (Pap.sums n w0 s ws ss).dd, .val (qd qs), .val (nd n), .odic spn [nd n, wd w0, sd s, .xt (ws.map wd), .xt (ss.map sd)], .val (nd y), .val (wd w), .val (sd x), s8, s9, .non]) (SB := fun b => b = true → Plc.f w ∉ qs) (T.ofW (TW.andN (SA := fun _ => True) (SR := fun b => b = !decide (Plc.f w ∈ qs)) (T.eqN (E.call (t_draw m hm 2 (by decide)) (A.cons (E.var 0) (A.cons E.int A.nil))) E.int)
      (fun _ => TW.and1 (T.notInT (x := Plc.f w) (enc := Plc.d) (ys := qs) plc_inj plc_pl plc_dp (E.tup (A.cons E.str (A.cons (E.var 6) A.nil))) (E.var 2))) (fun b _ h z => by rw [h] at z; simpa using z) (fun _ z => nomatch z))) (fun hq => ?_) (fun _ => B.nil rfl)) fun g hg => ?_
    · have hq := hq rfl
      have hP : ∀ o ∈ togL w ws, o.length = n := fun o ho => by
        rcases List.mem_append.mp (List.mem_filter.mp ho).1 with h | h
        · exact hF o h
        · rw [List.mem_singleton.mp h]; exact hw
      have hL : (togL w ws).length ≤ 60 := by
        refine Nat.le_trans (List.length_filter_le _ _) ?_
        rw [List.length_append]; simp; omega
      refine B.cons (P1.ifF (N := fun g' => g' = [.val (.adr m.t), .non, .val (qd qs), .val (nd n), .odic spn [nd n, wd w0, sd s, .xt ((distL wd [] (togL w ws)).map wd), .xt (ss.map sd)], .val (nd y), .val (wd w), .val (sd x), s8, s9, .non]) (T.to (T.inD E.str (E.var 1)) (by decide)) (B.cons1 (P1.dputF [1] (d := .xt ((distL wd [] (togL w ws)).map wd)) 4 3 rfl (by simp [-List.map_append, gw, imBut, slV, slN, D.im, D.imL, im_bits, im_eds, im_qs, im_wds, im_sds, i5, i6, i7, i8, i9]) rfl (by decide) ⟨by simp [D.im, D.imL, im_bits, im_wds, im_sds], by simp only [D.im]; exact im_wds _⟩ (by decide)
        (E.call (S := fun d => d = .xt ((distL wd [] (togL w ws)).map wd)) (t_distinct (okW hn.1) hP (by omega)) (A.cons (E.to (E.lcF (f := wd) (xs := ws ++ [w]) (enc := wd) (pr := fun o => decide (w ∉ ws) || !decide (o = w)) [("_law_one", 10)] (W.tup (E.to (d' := .tup ((ws ++ [w]).map wd)) (E.catT (E.weak (E.dget (E.var 1) E.str 3 rfl rfl (by decide))) (E.tup (A.cons (E.var 6) A.nil)) (by rw [List.length_map]; simp; omega)) (by rw [List.map_append]; rfl))) (blkOk_by (N := n__law_other_letter) (sc := defScope s__law_other_letter) (by decide +kernel)) (by rw [List.length_append]; simp; omega) (fun _ _ _ _ _ o _ => G.name 10) (by decide) (fun o => by simp only [D.im]; exact im_bits _)
          (fun _ _ _ _ _ o ho => T.ofW (TW.or (T.count0 (E.countT wd_inj wd_pl wd_dp (E.dget (E.var 1) E.str 3 rfl rfl (by decide)) (E.var 6)) E.int) (TW.or1 (T.neD wd_inj wd_pl wd_dp (E.var 10) (E.var 6)))))
          (fun _ _ _ _ _ o ho _ => E.var 10)) (by unfold togL; congr; funext o; congr)) A.nil)) rfl (fun _ hr => ps_dput (Room.u1 hr) (pv 4) pe_str pe_s rfl)) (B.nil rfl))) fun g' hg => ?_
      subst hg
      exact B.last (P1.ret (E.mono (E.varOD 4) fun d h => ⟨_, .f w hw hq, h⟩))
    subst hg
    refine B.cons (P1.if_ (N := fun g => g = [.val (.adr m.t), .val (Pap.sums n w0 s ws ss).dd, .val (qd qs), .val (nd n), .odic spn [nd n, wd w0, sd s, .xt (ws.map wd), .xt (ss.map sd)], .val (nd y), .val (wd w), .val (sd x), s8, s9, .non]) (SB := fun b => b = !decide (Plc.g x ∈ qs)) (T.notInT (x := Plc.g x) (enc := Plc.d) (ys := qs) plc_inj plc_pl plc_dp (E.tup (A.cons E.str (A.cons (E.var 7) A.nil))) (E.var 2)) (fun hq => ?_) (fun _ => B.nil rfl)) fun g hg => ?_
    · have hq : Plc.g x ∉ qs := by simpa using hq.symm
      have hP : ∀ o ∈ togL x ss, Sq n o := fun o ho => by
        rcases List.mem_append.mp (List.mem_filter.mp ho).1 with h | h
        · exact hG o h
        · rw [List.mem_singleton.mp h]; exact hx
      have hL : (togL x ss).length ≤ 60 := by
        refine Nat.le_trans (List.length_filter_le _ _) ?_
        rw [List.length_append]; simp; omega
      refine B.cons (P1.ifF (N := fun g' => g' = [.val (.adr m.t), .non, .val (qd qs), .val (nd n), .odic spn [nd n, wd w0, sd s, .xt (ws.map wd), .xt ((distL sd [] (togL x ss)).map sd)], .val (nd y), .val (wd w), .val (sd x), s8, .val (.tup ((ss ++ [x]).map sd)), .non]) (T.to (T.inD E.str (E.var 1)) (by decide)) (B.cons1 (P1.set 9 (E.to (d' := .tup ((ss ++ [x]).map sd)) (E.catT (E.weak (E.dget (E.var 1) E.str 4 rfl rfl (by decide))) (E.tup (A.cons (E.var 7) A.nil)) (by rw [List.length_map]; simp; omega)) (by rw [List.map_append]; rfl))) (B.cons1 (P1.dputF [1] (d := .xt ((distL sd [] (togL x ss)).map sd)) 4 4 rfl (by simp [-List.map_append, gw, imBut, slV, slN, D.im, D.imL, im_bits, im_eds, im_qs, im_wds, im_sds, i5, i6, i7, i8, i9]) rfl (by decide) ⟨by simp [D.im, D.imL, im_bits, im_wds, im_sds], by simp only [D.im]; exact im_sds _⟩ (by decide)
        (E.call (S := fun d => d = .xt ((distL sd [] (togL x ss)).map sd)) (t_distinct (okS hn.1) hP (by omega)) (A.cons (E.to (E.lcF (f := sd) (xs := ss ++ [x]) (enc := sd) (pr := fun o => decide (x ∉ ss) || !decide (o = x)) [("_law_one", 10)] (W.tup (E.var 9)) (blkOk_by (N := n__law_other_letter) (sc := defScope s__law_other_letter) (by decide +kernel)) (by rw [List.length_append]; simp; omega) (fun _ _ _ _ _ o _ => G.name 10) (by decide) (fun o => by simp only [D.im]; exact im_wds _)
          (fun _ _ _ _ _ o ho => T.ofW (TW.or (T.count0 (E.countT sd_inj sd_pl sd_dp (E.dget (E.var 1) E.str 4 rfl rfl (by decide)) (E.var 7)) E.int) (TW.or1 (T.neD sd_inj sd_pl sd_dp (E.var 10) (E.var 7)))))
          (fun _ _ _ _ _ o ho _ => E.var 10)) (by unfold togL; congr; funext o; congr)) A.nil)) rfl (fun _ hr => ps_dput (Room.u1 hr) (pv 4) pe_str pe_s rfl)) (B.nil rfl)))) fun g' hg => ?_
      subst hg
      exact B.last (P1.ret (E.mono (E.varOD 4) fun d h => ⟨_, .g x hx hq, h⟩))
    subst hg
    exact B.nil ⟨_, _, _, _, _, rfl, by simp [imBut, slV, slN, D.im, D.imL, im_bits, im_eds, im_qs, im_wds, im_sds], by simp [imBut, slV, slN, D.im, D.imL, im_bits, im_eds, im_qs, im_wds, im_sds], i8, i9, rfl⟩
  · obtain ⟨s5, s6, s7, s8, s9, i5, i6, i7, i8, i9, rfl⟩ := hg
    exact B.last (P1.ret (E.mono (E.varOD 4) fun d h => ⟨_, .same, h⟩))
end Ty
namespace Ty
open PySem PySem.Spec PyProof.Rows L2
variable [Cf] [Fx]
theorem numFrom_inj : ∀ (a b : List Bool) (z y : Nat), a.length = b.length → numFrom z a = numFrom y b → z = y ∧ a = b
  | [], [], z, y, _, h => ⟨h, rfl⟩
  | c :: a, d :: b, z, y, hl, h => by
    have e : numFrom (2 * z + (if c then 1 else 0)) a = numFrom (2 * y + (if d then 1 else 0)) b := h
    have ih := numFrom_inj a b _ _ (by simpa using hl) e
    obtain ⟨h1, rfl⟩ := ih
    cases c <;> cases d <;> simp at h1 ⊢ <;> omega
  | [], _ :: _, _, _, h, _ => by simp at h
  | _ :: _, [], _, _, h, _ => by simp at h
theorem num_inj {a b : List Bool} (hl : a.length = b.length) (h : num a = num b) : a = b := (numFrom_inj a b 0 0 hl h).2
theorem flat_inj {n : Nat} : ∀ (a b : List (List Bool)), (∀ r ∈ a, r.length = n) → (∀ r ∈ b, r.length = n) → a.length = b.length → a.flatten = b.flatten → a = b
  | [], [], _, _, _, _ => rfl
  | c :: a, d :: b, h1, h2, hl, h => by
    rw [List.flatten_cons, List.flatten_cons] at h
    obtain ⟨e1, e2⟩ := List.append_inj h (by rw [h1 c (by simp), h2 d (by simp)])
    rw [e1, flat_inj a b (fun r hr => h1 r (List.mem_cons_of_mem _ hr)) (fun r hr => h2 r (List.mem_cons_of_mem _ hr)) (by simpa using hl) e2]
  | [], _ :: _, _, _, h, _ => by simp at h
  | _ :: _, [], _, _, h, _ => by simp at h
theorem tog_mem {α : Type} [DecidableEq α] {x y : α} {xs : List α} (h : y ≠ x) : y ∈ togL x xs ↔ y ∈ xs := by
  unfold togL
  rw [List.mem_filter, List.mem_append, List.mem_singleton]
  constructor
  · rintro ⟨h1 | h1, _⟩
    · exact h1
    · exact absurd h1 h
  · intro h1
    exact ⟨.inl h1, by simp [h]⟩
theorem tog_sub {α : Type} [DecidableEq α] {x y : α} {xs : List α} (h : y ∈ togL x xs) : y ∈ xs ∨ y = x := by
  unfold togL at h
  have := (List.mem_filter.mp h).1
  rw [List.mem_append, List.mem_singleton] at this
  exact this
theorem tog_len {α : Type} [DecidableEq α] {x : α} {xs : List α} : (togL x xs).length ≤ xs.length + 1 := by
  unfold togL
  refine Nat.le_trans (List.length_filter_le _ _) ?_
  rw [List.length_append]
  exact Nat.le_refl _
theorem getD_set_ne {f : List Bool} {i j : Nat} {b : Bool} (h : i ≠ j) : (f.set i b).getD j false = f.getD j false := by
  rw [List.getD_eq_getElem?_getD, List.getElem?_set_ne h, ← List.getD_eq_getElem?_getD]
/-- lists of a paper are short -/
def Short (p : Pap) : Prop := match p with
  | .tab _ _ _ => True
  | .sums _ _ _ ws ss => ws.length ≤ 4 ∧ ss.length ≤ 4
theorem other_n {qs : List Plc} {p p' : Pap} (h : Other qs p p') : p'.n = p.n := by
  cases h with
  | same => rfl
  | f w hw hq => cases p <;> rfl
  | g w hw hq => cases p <;> rfl
theorem other_full {qs : List Plc} {p p' : Pap} (hp : PapF p) (hs : Short p) (h : Other qs p p') : PapF p' := by
  cases h with
  | same => exact hp
  | f w hw hq =>
    cases p with
    | tab n f g =>
      obtain ⟨h1, h2, h3⟩ := hp.ok.ok
      exact ⟨⟨⟨h1, by rw [List.length_set]; exact h2, h3⟩⟩, trivial⟩
    | sums n w0 s ws ss =>
      obtain ⟨h1, h2, h3, h4, h5, h6, h7⟩ := hp.ok.ok
      have hw : w.length = n := hw
      have hP : ∀ o ∈ togL w ws, o.length = n := fun o ho => by
        rcases tog_sub ho with h | h
        · exact h4 o h
        · rw [h]; exact hw
      exact ⟨⟨⟨h1, h2, h3, fun o ho => hP o ((dist_mem o).mp ho), h5, by
        have a := tog_len (x := w) (xs := ws)
        have b := dist_len (enc := wd) (d0 := []) (ys := togL w ws)
        have c := hs.1
        omega, h7⟩⟩, dist_asc (okW h1.1) hP, hp.asc.2⟩
  | g x hx hq =>
    cases p with
    | tab n f g =>
      obtain ⟨h1, h2, h3⟩ := hp.ok.ok
      exact ⟨⟨⟨h1, h2, by rw [List.length_set]; exact h3⟩⟩, trivial⟩
    | sums n w0 s ws ss =>
      obtain ⟨h1, h2, h3, h4, h5, h6, h7⟩ := hp.ok.ok
      have hx : Sq n x := hx
      have hP : ∀ o ∈ togL x ss, Sq n o := fun o ho => by
        rcases tog_sub ho with h | h
        · exact h5 o h
        · rw [h]; exact hx
      exact ⟨⟨⟨h1, h2, h3, h4, fun o ho => hP o ((dist_mem o).mp ho), h6, by
        have a := tog_len (x := x) (xs := ss)
        have b := dist_len (enc := sd) (d0 := []) (ys := togL x ss)
        have c := hs.2
        omega⟩⟩, hp.asc.1, dist_asc (okS h1.1) hP⟩
theorem other_let {qs : List Plc} {p p' : Pap} (h : Other qs p p') {q : Plc} (hq : q ∈ qs) (ok : PlcOk p.n q) : letP p' q = letP p q := by
  cases h with
  | same => rfl
  | f w hw hn =>
    cases q with
    | f v =>
      have hne : v ≠ w := fun e => hn (e ▸ hq)
      have hv : v.length = p.n := ok
      cases p with
      | tab n f g => exact getD_set_ne fun e => hne (num_inj (by rw [hv]; exact hw.symm) e.symm)
      | sums n w0 s ws ss =>
        show (parW w0 v ^^ decide (v ∈ distL wd [] (togL w ws))) = (parW w0 v ^^ decide (v ∈ ws))
        rw [show decide (v ∈ distL wd [] (togL w ws)) = decide (v ∈ ws) from decide_eq_decide.mpr ((dist_mem v).trans (tog_mem hne))]
    | g v => cases p <;> rfl
  | g x hx hn =>
    cases q with
    | f v => cases p <;> rfl
    | g v =>
      have hne : v ≠ x := fun e => hn (e ▸ hq)
      have hv : Sq p.n v := ok
      cases p with
      | tab n f g =>
        have hx : Sq n x := hx
        have hv : Sq n v := hv
        exact getD_set_ne fun e => hne (flat_inj v x hv.2 hx.2 (by rw [hv.1, hx.1]) (num_inj (by rw [sq_flat_len hv.2, sq_flat_len hx.2, hv.1, hx.1]) e.symm))
      | sums n w0 s ws ss =>
        show (parS s v ^^ decide (v ∈ distL sd [] (togL x ss))) = (parS s v ^^ decide (v ∈ ss))
        rw [show decide (v ∈ distL sd [] (togL x ss)) = decide (v ∈ ss) from decide_eq_decide.mpr ((dist_mem v).trans (tog_mem hne))]
theorem other_pass {p p' : Pap} (es : List Eqn) (kind : Nat) (t : List Bool) (hk : kind ≤ 6) (ht : t.length = tlen p.n es.length kind) (h : Other (placesOf p.n es kind t) p p') : passB p' p.n es kind t = passB p p.n es kind t := by
  unfold passB
  rw [List.map_congr_left fun q hq => other_let h hq (places_ok p.n es kind t hk ht q hq)]
end Ty
namespace Ty
open PySem PySem.Spec PyProof.Rows L2
variable [Cf] [Fx]
/-! the plain law of the solution -/
theorem par_add (x y : Int) : decide ((x + y) % 2 = 1) = (decide (x % 2 = 1) ^^ decide (y % 2 = 1)) := by
  rcases Int.emod_two_eq x with h | h <;> rcases Int.emod_two_eq y with h' | h'
  · have e : (x + y) % 2 = 0 := by omega
    simp [h, h', e]
  · have e : (x + y) % 2 = 1 := by omega
    simp [h, h', e]
  · have e : (x + y) % 2 = 1 := by omega
    simp [h, h', e]
  · have e : (x + y) % 2 = 0 := by omega
    simp [h, h', e]
theorem par_bi (b : Bool) : decide (bi b % 2 = 1) = b := by cases b <;> rfl
theorem parW_nil (a : List Bool) : parW [] a = false := rfl
theorem parW_nil' (a : List Bool) : parW a [] = false := by cases a <;> rfl
theorem parW_cons (x y : Bool) (a b : List Bool) : parW (x :: a) (y :: b) = ((x && y) ^^ parW a b) := by
  unfold parW
  rw [List.zip_cons_cons, List.map_cons, List.sum_cons, par_add, par_bi]
theorem parS_nil (a : List (List Bool)) : parS [] a = false := rfl
theorem parS_nil' (a : List (List Bool)) : parS a [] = false := by cases a <;> rfl
theorem parS_cons (x y : List Bool) (a b : List (List Bool)) : parS (x :: a) (y :: b) = (parW x y ^^ parS a b) := by
  unfold parS
  rw [List.zip_cons_cons, List.map_cons, List.sum_cons, par_add, par_bi]
theorem parW_xor : ∀ (w a b : List Bool), a.length = b.length → parW w (xorW a b) = (parW w a ^^ parW w b)
  | [], _, _, _ => rfl
  | _ :: _, [], [], _ => rfl
  | z :: w, x :: a, y :: b, h => by
    have e : xorW (x :: a) (y :: b) = (x ^^ y) :: xorW a b := rfl
    rw [e, parW_cons, parW_cons, parW_cons, parW_xor w a b (by simpa using h)]
    cases x <;> cases y <;> cases z <;> cases parW w a <;> cases parW w b <;> rfl
  | _ :: _, [], _ :: _, h => by simp at h
  | _ :: _, _ :: _, [], h => by simp at h
theorem parS_xor {n : Nat} : ∀ (s a b : List (List Bool)), (∀ r ∈ a, r.length = n) → (∀ r ∈ b, r.length = n) → a.length = b.length → parS s (xorS a b) = (parS s a ^^ parS s b)
  | [], _, _, _, _, _ => rfl
  | _ :: _, [], [], _, _, _ => rfl
  | z :: s, x :: a, y :: b, h1, h2, h => by
    have e : xorS (x :: a) (y :: b) = xorW x y :: xorS a b := rfl
    rw [e, parS_cons, parS_cons, parS_cons, parS_xor s a b (fun r hr => h1 r (List.mem_cons_of_mem _ hr)) (fun r hr => h2 r (List.mem_cons_of_mem _ hr)) (by simpa using h), parW_xor z x y (by rw [h1 x (by simp), h2 y (by simp)])]
    cases parW z x <;> cases parW z y <;> cases parS s a <;> cases parS s b <;> rfl
  | _ :: _, [], _ :: _, _, _, h => by simp at h
  | _ :: _, _ :: _, [], _, _, h => by simp at h
theorem parW_zero : ∀ (n : Nat) (w : List Bool), parW w (zeroW n) = false
  | 0, w => parW_nil' w
  | n + 1, [] => rfl
  | n + 1, x :: w => by
    have e : zeroW (n + 1) = false :: zeroW n := rfl
    rw [e, parW_cons, parW_zero n w]
    cases x <;> rfl
theorem parW_zero' : ∀ (n : Nat) (w : List Bool), parW (zeroW n) w = false
  | 0, w => rfl
  | n + 1, [] => rfl
  | n + 1, x :: w => by
    have e : zeroW (n + 1) = false :: zeroW n := rfl
    rw [e, parW_cons, parW_zero' n w]
    rfl
theorem parS_outer (v b : List Bool) (L L' : Nat) : ∀ (u a : List Bool), parS (u.map fun x => if x then v else zeroW L) (a.map fun y => if y then b else zeroW L') = (parW u a && parW v b)
  | [], _ => rfl
  | _ :: _, [] => rfl
  | x :: u, y :: a => by
    rw [List.map_cons, List.map_cons, parS_cons, parS_outer v b L L' u a, parW_cons]
    cases x <;> cases y <;> simp [parW_zero, parW_zero'] <;> cases parW u a <;> cases parW v b <;> rfl
theorem parS_zero (n : Nat) : ∀ (k : Nat) (s : List (List Bool)), parS s (List.replicate k (zeroW n)) = false
  | 0, s => parS_nil' s
  | k + 1, [] => rfl
  | k + 1, r :: s => by rw [List.replicate_succ, parS_cons, parW_zero, parS_zero n k s]; rfl
theorem parW_flip : ∀ (w r : List Bool) (j : Nat), j < r.length → j < w.length → parW w (r.modify j (!·)) = (parW w r ^^ w.getD j false)
  | x :: w, y :: r, 0, _, _ => by
    have e : (y :: r).modify 0 (!·) = (!y) :: r := rfl
    rw [e, parW_cons, parW_cons]
    have e2 : (x :: w).getD 0 false = x := rfl
    rw [e2]
    cases x <;> cases y <;> cases parW w r <;> rfl
  | x :: w, y :: r, j + 1, h1, h2 => by
    have e : (y :: r).modify (j + 1) (!·) = y :: r.modify j (!·) := rfl
    have e2 : (x :: w).getD (j + 1) false = w.getD j false := rfl
    rw [e, e2, parW_cons, parW_cons, parW_flip w r j (by simpa using h1) (by simpa using h2)]
    cases (x && y) <;> cases parW w r <;> cases w.getD j false <;> rfl
  | [], _, _, _, h => by simp at h
  | _ :: _, [], _, h, _ => by simp at h
theorem parS_flip {n : Nat} {j : Nat} (hj : j < n) : ∀ (s m : List (List Bool)) (i : Nat), (∀ r ∈ s, r.length = n) → (∀ r ∈ m, r.length = n) → i < m.length → i < s.length → parS s (flipM m i j) = (parS s m ^^ (s.getD i []).getD j false)
  | x :: s, y :: m, 0, h1, h2, _, _ => by
    have e : flipM (y :: m) 0 j = y.modify j (!·) :: m := rfl
    have e2 : (x :: s).getD 0 [] = x := rfl
    rw [e, e2, parS_cons, parS_cons, parW_flip x y j (by rw [h2 y (by simp)]; exact hj) (by rw [h1 x (by simp)]; exact hj)]
    cases parW x y <;> cases x.getD j false <;> cases parS s m <;> rfl
  | x :: s, y :: m, i + 1, h1, h2, h3, h4 => by
    have e : flipM (y :: m) (i + 1) j = y :: flipM m i j := rfl
    have e2 : (x :: s).getD (i + 1) [] = s.getD i [] := rfl
    rw [e, e2, parS_cons, parS_cons, parS_flip hj s m i (fun r hr => h1 r (List.mem_cons_of_mem _ hr)) (fun r hr => h2 r (List.mem_cons_of_mem _ hr)) (by simpa using h3) (by simpa using h4)]
    cases parW x y <;> cases parS s m <;> cases (s.getD i []).getD j false <;> rfl
  | [], _, _, _, _, _, h => by simp at h
  | _ :: _, [], _, _, _, h, _ => by simp at h
section
variable {n : Nat} {w : List Bool} (hw : w.length = n)
include hw
theorem sq_ww : Sq n (sqF w w) := by have := sq_sqF (a := w) (b := w) rfl; rw [hw] at this; exact this
theorem ww_at {i j : Nat} (hi : i < n) (hj : j < n) : ((sqF w w).getD i []).getD j false = (w.getD i false && w.getD j false) := by
  have e : (sqF w w).getD i [] = if w.getD i false then w else zeroW w.length := by
    unfold sqF
    rw [List.getD_eq_getElem?_getD, List.getElem?_map, List.getD_eq_getElem?_getD, List.getElem?_eq_getElem (show i < w.length by omega)]
    rfl
  rw [e]
  cases w.getD i false
  · have : (zeroW w.length).getD j false = false := by
      unfold zeroW
      rw [List.getD_eq_getElem?_getD, List.getElem?_replicate]
      split <;> rfl
    simp only [Bool.false_eq_true, if_false, Bool.false_and]
    exact this
  · simp
theorem flips : ∀ (qs : List (Nat × Nat)) (m : List (List Bool)), Sq n m → (∀ q ∈ qs, q.1 < n ∧ q.2 < n) → parS (sqF w w) (qs.foldl (fun m p => flipM m p.1 p.2) m) = (parS (sqF w w) m ^^ decide ((qs.map fun q => bi (w.getD q.1 false && w.getD q.2 false)).sum % 2 = 1))
  | [], m, _, _ => by simp
  | q :: qs, m, h, hq => by
    have h1 := hq q (by simp)
    have ss := sq_ww hw
    rw [List.foldl_cons, flips qs _ (sq_flip h _ _) (fun r hr => hq r (List.mem_cons_of_mem _ hr)), parS_flip h1.2 _ _ _ ss.2 h.2 (by rw [h.1]; exact h1.1) (by rw [ss.1]; exact h1.1), ww_at hw h1.1 h1.2, List.map_cons, List.sum_cons, par_add, par_bi, Bool.xor_assoc]
theorem apply_par {e : Eqn} (he : EqOk n e) (m : List (List Bool)) (h : Sq n m) : parS (sqF w w) (applyE m e) = (parS (sqF w w) m ^^ leftB w e) := by
  have h1 := flips hw e.pairs m h fun q hq => by have := he.p q hq; omega
  have h2 := flips hw (e.singles.map fun i => (i, i)) _ (sq_foldl (f := fun m p => flipM m p.1 p.2) (fun m a h => sq_flip h _ _) e.pairs h) fun q hq => by
    obtain ⟨i, hi, rfl⟩ := List.mem_map.mp hq
    have := he.s i hi
    exact ⟨this, this⟩
  rw [List.foldl_map, h1, List.map_map] at h2
  have e3 : (e.singles.map ((fun q : Nat × Nat => bi (w.getD q.1 false && w.getD q.2 false)) ∘ fun i => (i, i))) = e.singles.map fun i => bi (w.getD i false) := List.map_congr_left fun i _ => by
    show bi (w.getD i false && w.getD i false) = _
    rw [Bool.and_self]
  rw [e3] at h2
  have h3 : parS (sqF w w) (applyE m e) = _ := h2
  rw [h3, Bool.xor_assoc, ← par_add]
  rfl
theorem drawn_par : ∀ (qs : List (Bool × Eqn)) (m : List (List Bool)) (t : Int), Sq n m → (∀ q ∈ qs, EqOk n q.2 ∧ q.2.right = leftB w q.2) → (parS (sqF w w) (qs.foldl drawnStep m) ^^ decide (t % 2 = 1)) = (parS (sqF w w) m ^^ decide ((qs.foldl (fun t q => if q.1 then t + bi q.2.right else t) t) % 2 = 1))
  | [], m, t, _, _ => rfl
  | (false, e) :: qs, m, t, h, hq => drawn_par qs m t h fun r hr => hq r (List.mem_cons_of_mem _ hr)
  | (true, e) :: qs, m, t, h, hq => by
    obtain ⟨h1, h2⟩ := hq _ List.mem_cons_self
    have ih := drawn_par qs (applyE m e) (t + bi e.right) (sq_apply h e) fun r hr => hq r (List.mem_cons_of_mem _ hr)
    rw [apply_par hw h1 m h, par_add, par_bi, h2] at ih
    have e1 : ((true, e) :: qs).foldl drawnStep m = qs.foldl drawnStep (applyE m e) := rfl
    have e2 : ((true, e) :: qs).foldl (fun t q => if q.1 then t + bi q.2.right else t) t = qs.foldl (fun t q => if q.1 then t + bi q.2.right else t) (t + bi e.right) := rfl
    rw [e1, e2]
    have h2 : e.right = leftB w e := h2
    rw [h2]
    revert ih
    cases parS (sqF w w) (qs.foldl drawnStep (applyE m e)) <;> cases decide (t % 2 = 1) <;> cases leftB w e <;> cases parS (sqF w w) m <;> simp
theorem drawn_all (es : List Eqn) (cs : List Bool) (h : ∀ e ∈ es, EqOk n e ∧ e.right = leftB w e) : parS (sqF w w) (drawnM n cs es) = drawnB cs es := by
  have h1 := drawn_par hw (cs.zip es) (zeroM n) 0 (sq_zero n) fun q hq => h q.2 (List.of_mem_zip hq).2
  have h2 : parS (sqF w w) (zeroM n) = false := parS_zero n n _
  have h3 : (parS (sqF w w) (drawnM n cs es) ^^ decide ((0 : Int) % 2 = 1)) = (parS (sqF w w) (zeroM n) ^^ drawnB cs es) := h1
  rw [h2, show decide ((0 : Int) % 2 = 1) = false from rfl, Bool.xor_false, Bool.false_xor] at h3
  exact h3
theorem solution_pass (es : List Eqn) (kind : Nat) (t : List Bool) (hk : kind ≤ 6) (h : ∀ e ∈ es, EqOk n e ∧ e.right = leftB w e) (ht : t.length = tlen n es.length kind) : passB (.sums n w (sqF w w) [] []) n es kind t = true := by
  have lf : ∀ x, letP (.sums n w (sqF w w) [] []) (.f x) = parW w x := fun x => by simp [letP, letF]
  have lg : ∀ x, letP (.sums n w (sqF w w) [] []) (.g x) = parS (sqF w w) x := fun x => by simp [letP, letG]
  unfold passB verdict placesOf
  by_cases h2 : kind < 2
  · have ht' : t.length = 2 * n := by rw [ht]; obtain h | h : kind = 0 ∨ kind = 1 := by omega
                                      all_goals subst h; rfl
    rw [if_pos h2, if_pos (by omega)]
    simp only [List.map_cons, List.map_nil, lf, decide_eq_true_eq]
    have := parW_xor w (t.take n) (t.drop n) (by rw [List.length_take, List.length_drop]; omega)
    exact this.symm
  rw [if_neg h2]
  by_cases h4 : kind < 4
  · have ht' : t.length = 2 * n * n := by rw [ht]; obtain h | h : kind = 2 ∨ kind = 3 := by omega
                                          all_goals subst h; rfl
    have hnn : n * n + n * n = 2 * n * n := by rw [Nat.mul_assoc]; omega
    have q1 : Sq n (rowsW n (t.take (n * n))) := sq_rows (by rw [List.length_take]; omega)
    have q2 : Sq n (rowsW n (t.drop (n * n))) := sq_rows (by rw [List.length_drop]; omega)
    rw [if_pos h4, if_pos h4]
    simp only [List.map_cons, List.map_nil, lg, decide_eq_true_eq]
    have := parS_xor (sqF w w) (rowsW n (t.take (n * n))) (rowsW n (t.drop (n * n))) q1.2 q2.2 (by rw [q1.1, q2.1])
    exact this.symm
  rw [if_neg h4, if_neg h4]
  by_cases h6 : kind < 6
  · have ht' : t.length = 2 * n + n * n := by rw [ht]; obtain h | h : kind = 4 ∨ kind = 5 := by omega
                                              all_goals subst h; rfl
    have q1 : Sq n (rowsW n (t.drop (2 * n))) := sq_rows (by rw [List.length_drop]; omega)
    have l1 : (t.take n).length = n := by rw [List.length_take]; omega
    have l2 : ((t.drop n).take n).length = n := by rw [List.length_take, List.length_drop]; omega
    have q2 : Sq n (sqF (t.take n) ((t.drop n).take n)) := by have := sq_sqF (a := t.take n) (b := (t.drop n).take n) (by omega); rw [l1] at this; exact this
    rw [if_pos h6, if_pos h6]
    simp only [List.map_cons, List.map_nil, lf, lg, decide_eq_true_eq]
    have e1 := parS_xor (sqF w w) (rowsW n (t.drop (2 * n))) (sqF (t.take n) ((t.drop n).take n)) q1.2 q2.2 (by rw [q1.1, q2.1])
    have e2 : parS (sqF w w) (sqF (t.take n) ((t.drop n).take n)) = (parW w (t.take n) && parW w ((t.drop n).take n)) := parS_outer _ _ _ _ _ _
    show (parW w (t.take n) && parW w ((t.drop n).take n)) = (parS (sqF w w) (rowsW n (t.drop (2 * n))) ^^ parS (sqF w w) (xorS (rowsW n (t.drop (2 * n))) (sqF (t.take n) ((t.drop n).take n))))
    rw [e1, e2, ← Bool.xor_assoc, Bool.xor_self, Bool.false_xor]
  rw [if_neg h6, if_neg h6]
  have hk6 : kind = 6 := by omega
  subst hk6
  have ht' : t.length = es.length + n * n := ht
  have q1 : Sq n (rowsW n (t.drop es.length)) := sq_rows (by rw [List.length_drop]; omega)
  have q2 := sq_drawn n (t.take es.length) es
  simp only [List.map_cons, List.map_nil, lg, decide_eq_true_eq]
  have e1 := parS_xor (sqF w w) (rowsW n (t.drop es.length)) _ q1.2 q2.2 (by rw [q1.1, q2.1])
  show (parS (sqF w w) (rowsW n (t.drop es.length)) ^^ parS (sqF w w) (xorS (rowsW n (t.drop es.length)) (drawnM n (t.take es.length) es))) = dueOf es 6 t
  rw [e1, drawn_all hw es _ h, ← Bool.xor_assoc, Bool.xor_self, Bool.false_xor]
  rfl
end
end Ty
namespace Ty
open PySem PySem.Spec PyProof.Rows L2 LamX NdefX
variable [Cf]
theorem EmptyT.rp {e : Addr} (h : EmptyT e) (H : Hp) : Rp H (.ref e) (.tup []) := by
  obtain ⟨o, n, h1, h2, h3⟩ := h
  exact .tup (.inr ⟨o, #[], n, h1, h2, h3, Nat.zero_le _, .nil⟩) .nil
section
variable {k k' : Nat} {X : Cx} {M : Option TpA} {Γ : List Sl} {a b e : Expr} {es : List Expr} {p pos p1 p2 : Pos} {x w1 w2 : Str} {C f : Addr} {fd : FuncData} {ps : List Str} {ds l dd : List D} {nn : List Str} {us : List Value} {dvs : List V} {da db : D} {g : List Value → List Value → List Value}
/-- C(e, ..), what lacks is filled up from the defaults -/
theorem E.makeD (hF : IniO C f fd ps k' (ds ++ dd) nn l) (mk : Mk Cf.K C f) (hb : Binds Cf.K fd ps us) (hd : Vals dvs us) (hdd : ∀ H, RpL H dvs dd) (hm : Cf.mg x = some (.ref C)) (ha : A1 k X M Γ (e :: es) ds) (hk : k' + 1 ≤ k := by decide) (hg : Gl X x := by rfl) (hdb : (x == ("__debug__" : Str)) = false := by decide)
    (he : starEach (e :: es) X.env = (false, eval e X.env) :: starEach es X.env := by rfl) (hpl : (backTo pos (starEach es X.env)).any (·.1) = false := by rfl) : E1 k X M Γ (.Call (.Name x p) (e :: es) [] pos) (.ins C nn l) := fun xk hr H0 σ H le sat Q q => by
  have F' := hF X.base xk.g
  rw [← xk.p, ← xk.w, ← xk.K, ← xk.m] at F'
  refine to_s (pe_make (by rw [xk.K]; exact mk) F' (hr.mono hk) hg (by rw [xk.m]; exact hm) (by rw [xk.K]; exact hb) hd pass0 (pa_s (X := X) (es := e :: es)) hdb he hpl) (ha xk hr H0 σ H le sat _ fun vs H1 ds' l1 s r => ?_)
  subst s
  intro y dy hy hdy ne
  have k2 : ∀ b o, H1 b = some o → (∀ ps, o ≠ .tbl ps) → upd (upd H1 dy (.own y)) y (.ins C dy []) b = some o := fun b o e n => by rw [upd_ne (ne_of_none e hy), upd_ne (ne_of_none e hdy)]; exact e
  have i2 : Iv M (upd (upd H1 dy (.own y)) y (.ins C dy [])) := (l1.i1.new hdy).new (by rw [upd_ne (Ne.symm ne)]; exact hy)
  refine ⟨y, dy, vs ++ dvs, rfl, upd_same, (r.keep k2).app (hdd _), i2.pure, fun H' iv' hk' rp => ⟨rfl, ?_⟩⟩
  have lM : Le M H1 H' := Le.make l1.i1 hy hdy iv' fun b o hb e n => hk' b o hb e n fun _ z => nomatch z
  exact q _ _ _ (l1.trans lM) rfl rp
/-- C(e, .., w1 = a, w2 = b) -/
theorem E.makeK (hF : IniO C f fd ps k' (ds ++ [da, db]) nn l) (mk : Mk Cf.K C f) (hb : KBn Cf.K fd ps (es.length + 2) [w1, w2] g (fun vs zs => vs ++ zs)) (hm : Cf.mg x = some (.ref C)) (ha : A1 k X M Γ (e :: es) ds) (hl : ds.length = es.length + 1) (h1 : E1 k X M Γ a da) (h2 : E1 k X M Γ b db) (hk : k' + 1 ≤ k := by decide) (hg : Gl X x := by rfl) (hdb : (x == ("__debug__" : Str)) = false := by decide)
    (hall : (backToKw pos (keywordEach [⟨some w1, a, p1⟩, ⟨some w2, b, p2⟩] X.env)).all (·.1.isSome) = true := by rfl) (hks : (backToKw pos (keywordEach [⟨some w1, a, p1⟩, ⟨some w2, b, p2⟩] X.env)).filterMap (·.1) = [w1, w2] := by rfl)
    (he : starEach (e :: es) X.env = (false, eval e X.env) :: starEach es X.env := by rfl) (hpl : ((backTo pos (starEach (e :: es) X.env)).any (·.1) || (backToKw pos (keywordEach [⟨some w1, a, p1⟩, ⟨some w2, b, p2⟩] X.env)).any (·.1.isNone)) = false := by rfl) : E1 k X M Γ (.Call (.Name x p) (e :: es) [⟨some w1, a, p1⟩, ⟨some w2, b, p2⟩] pos) (.ins C nn l) := fun xk hr H0 σ H le sat Q q => by
  have F' := hF X.base xk.g
  rw [← xk.p, ← xk.w, ← xk.K, ← xk.m] at F'
  refine to_s (pe_makeK (n := es.length + 1) (ks := [w1, w2]) (by rw [xk.K]; exact mk) F' (hr.mono hk) hg (by rw [xk.m]; exact hm) (by rw [xk.K]; exact hb) pass0 (pa_s (X := X) (es := e :: es)) (pk_cons (pe_s (X := X) (e := a)) (pk_cons (pe_s (X := X) (e := b)) pk_nil)) hall hks hdb he hpl) (ha xk hr H0 σ H le sat _ fun vs H1 ds' l1 s r => ?_)
  subst s
  refine h1 xk hr H0 σ H1 (le.trans l1) (sat.mo l1) _ fun va H2 d2 l2 s2 r2 => h2 xk hr H0 σ H2 ((le.trans l1).trans l2) ((sat.mo l1).mo l2) _ fun vb H3 d3 l3 s3 r3 => ?_
  subst s2 s3
  refine ⟨by rw [r.length, hl], rfl, fun y dy hy hdy ne => ?_⟩
  have k2 : ∀ b o, H3 b = some o → (∀ ps, o ≠ .tbl ps) → upd (upd H3 dy (.own y)) y (.ins C dy []) b = some o := fun b o e n => by rw [upd_ne (ne_of_none e hy), upd_ne (ne_of_none e hdy)]; exact e
  have i2 : Iv M (upd (upd H3 dy (.own y)) y (.ins C dy [])) := (l3.i1.new hdy).new (by rw [upd_ne (Ne.symm ne)]; exact hy)
  have rA : RpL H3 (vs ++ [va, vb]) (ds' ++ [d2, d3]) := ((r.mo l2).mo l3).app (.cons (r2.mo l3) (.cons r3 .nil))
  refine ⟨y, dy, vs ++ [va, vb], rfl, upd_same, rA.keep k2, i2.pure, fun H' iv' hk' rp => ⟨rfl, ?_⟩⟩
  have lM : Le M H3 H' := Le.make l3.i1 hy hdy iv' fun b o hb e n => hk' b o hb e n fun _ z => nomatch z
  exact q _ _ _ (((l1.trans l2).trans l3).trans lM) rfl rp
end
variable [Fx] [Fy]
abbrev siS : Stmt := s_SumsPaperd_initd
theorem sums_ini (n : Nat) (w : List Bool) (s : List (List Bool)) (ws : List (List Bool)) (ss : List (List (List Bool))) (hp : PapF (.sums n w s ws ss)) :
    ∃ f fd e1 e2, Mk Cf.K Cf.cS f ∧ FunD Cf.K "__init__" "SumsPaper.__init__" (defArgs siS) (defBody siS) (defScope siS) [] [("words", .ref e1), ("squares", .ref e2)] f fd ∧ EmptyT e1 ∧ EmptyT e2 ∧ IniO Cf.cS f fd ["self", "word", "square", "words", "squares"] 17 [wd w, sd s, wds ws, sds ss] spn [nd n, wd w, sd s, wds ws, sds ss] := by
  obtain ⟨f, c, P, e1, e2, fd, mk, DA, FD, E1, E2, hP, hu⟩ := Fy.k_init.ex
  obtain ⟨oc, od, kV, doc, pm, an, ct, osl, lk, hcd⟩ := DA.ex
  obtain ⟨h1, h2, h3, h4, h5, h6, h7⟩ := hp.ok.ok
  have hfd : fd = PySem.W.fnOf "__init__" "SumsPaper.__init__" (defArgs siS) (defBody siS) (defScope siS) .none kV doc pm an (.ref c) ct := by
    obtain ⟨_, _, _, _, _, _, _, _, _, _, _, lk2, _⟩ := FD.ex
    rw [lk] at lk2
    cases lk2
    rfl
  refine ⟨f, fd, e1, e2, mk, FD, E1, E2, ?_⟩
  rw [hfd]
  exact t_Sums_init n w s ws ss h1 h2 h3 h4 h5 hp.asc.1 hp.asc.2 (by omega) (by omega) lk hcd hP hu
theorem t_paper_of (n : Nat) (w : List Bool) (hn : 1 ≤ n ∧ n ≤ 12) (hw : w.length = n) : Fn1 "paper_of" ["word"] 19 none [wd w] (sumD n w (sqF w w) [] []) := by
  have sq := sq_ww hw
  have hp : PapF (.sums n w (sqF w w) [] []) := ⟨⟨⟨hn, hw, sq, by simp, by simp, by simp, by simp⟩⟩, fun k a b h => by simp at h, fun k a b h => by simp at h⟩
  obtain ⟨f, fd, e1, e2, mk, FD, E1, E2, I⟩ := sums_ini n w (sqF w w) [] [] hp
  obtain ⟨us, hv, hb⟩ := FD.binds0 (ps := ["self", "word", "square", "words", "squares"]) 3 (by simp) rfl (fun D doc pm an cdv ct us ks l1 l2 => by
    match us, l1, ks, l2 with
    | [_, _, _], _, [_, _], _ => exact ⟨_, _, _, _, _, _, rfl, rfl, ⟨_, _, _, _, _, _, rfl, rfl, rfl⟩⟩)
  refine Fx.f_paper_of.go false sc_paper_of fun _ _ _ _ _ _ _ _ => ?_
  refine B.cons1 (P1.guard (T.to (T.ofW (TW.or (T.not_ (T.val (E.isi (b' := true) (E.var 0) (E.tyN (by decide) boot_tuple) rfl (by decide +kernel)))) (TW.or (T.not_ (T.leLe E.int (E.len (E.var 0) .t) E.int)) (TW.or1 (T.not_ (T.val (E.call (t_is_word w (w.length : Int) (by omega) rfl) (A.cons (E.var 0) (A.cons (E.to (E.len (E.var 0) .t) (by rw [List.length_map])) A.nil))))))))) (by simp [hw]; omega))) ?_
  exact B.last (P1.ret (E.makeD (ds := [wd w, sd (sqF w w)]) (dd := [.tup [], .tup []]) I mk hb hv (fun H => .cons (E1.rp H) (.cons (E2.rp H) .nil)) Fx.k_SumsPaper.mg (A.cons (E.var 0) (A.cons (E.call (t_square_of w w (by omega) (by omega)) (A.cons (E.var 0) (A.cons (E.var 0) A.nil))) A.nil))))
theorem t_made (p : Pap) (hp : PapF p) : Fn1 "_law_made" ["_law_paper"] 19 none [p.dd] p.d := by
  refine Fx.f__law_made.go false sc__law_made fun _ _ _ _ _ _ _ _ => ?_
  cases p with
  | tab n f g =>
    obtain ⟨h1, h2, h3⟩ := hp.ok.ok
    exact B.last (P1.ifT (T.to (T.inD E.str (E.var 0)) (by decide)) (B.last (P1.ret (E.make (t_Table_init n f g h1 h2 h3) Fx.k_TablePaper.mg (A.cons (E.dget (E.var 0) E.str 0 rfl rfl (by decide)) (A.cons (E.dget (E.var 0) E.str 1 rfl rfl (by decide)) (A.cons (E.dget (E.var 0) E.str 2 rfl rfl (by decide)) A.nil)))))))
  | sums n w s ws ss =>
    obtain ⟨f, fd, e1, e2, mk, FD, E1, E2, I⟩ := sums_ini n w s ws ss hp
    obtain ⟨mv, hb⟩ := FD.kbinds0 (ps := ["self", "word", "square", "words", "squares"]) 3 ["words", "squares"] [] (fun us mz ws => us ++ ws) (by simp) (by simp) (fun r1 r2 r3 => r1.append r3) (fun D doc pm an cdv ct us mv ws l1 l2 l3 => by
      match us, l1, mv, l2, ws, l3 with
      | [_, _, _], _, [], _, [_, _], _ => rfl)
    refine B.cons1 (P1.guard (T.to (T.inD E.str (E.var 0)) (by decide))) (B.last (P1.ret ?_))
    exact E.makeK (ds := [wd w, sd s]) (da := wds ws) (db := sds ss) I mk hb Fx.k_SumsPaper.mg (A.cons (E.dget (E.var 0) E.str 1 rfl rfl (by decide)) (A.cons (E.dget (E.var 0) E.str 2 rfl rfl (by decide)) A.nil)) rfl (E.weak (E.dget (E.var 0) E.str 3 rfl rfl (by decide))) (E.weak (E.dget (E.var 0) E.str 4 rfl rfl (by decide)))
end Ty
namespace Ty
open PySem PySem.Spec PyProof.Rows L2
variable [Cf] [Fx] [Fy]
theorem tlen_le (n L kind : Nat) (hk : kind ≤ 6) (hn : n ≤ 12) (hL : L ≤ 100) : tlen n L kind ≤ 600 := by
  have hnn : n * n ≤ 144 := Nat.mul_le_mul hn hn
  have h2 : 2 * n * n ≤ 288 := by rw [Nat.mul_assoc]; omega
  obtain h | h | h | h | h | h | h : kind = 0 ∨ kind = 1 ∨ kind = 2 ∨ kind = 3 ∨ kind = 4 ∨ kind = 5 ∨ kind = 6 := by omega
  all_goals subst h; simp [tlen]; omega
theorem t_solution (m : TpA) (hm : m.st = none) (n : Nat) (hn : 1 ≤ n ∧ n ≤ 12) : Fn1 "_law_solution_passes" ["_law_tape_here", "_law_n"] 21 (some m) [.adr m.t, nd n] (.bl true) := by
  refine Fx.f__law_solution_passes.go false sc__law_solution_passes fun _ _ _ _ _ _ _ _ => ?_
  refine B.cons (P1.setN 2 (E.call (t_word m hm n (by omega)) (A.cons (E.var 0) (A.cons (E.var 1) A.nil)))) fun g hg => ?_
  obtain ⟨_, ⟨w, hw, rfl⟩, rfl⟩ := hg
  refine B.cons (P1.setN 3 (E.call (t_solved m hm n w hn hw) (A.cons (E.var 0) (A.cons (E.var 1) (A.cons (E.var 2) A.nil))))) fun g hg => ?_
  obtain ⟨_, ⟨es, hes, hl, rfl⟩, rfl⟩ := hg
  refine B.cons1 (P1.set 4 (E.make (t_System_init n es hn (fun e he => (hes e he).1)) Fx.k_System.mg (A.cons (E.var 1) (A.cons (E.var 3) A.nil)))) ?_
  refine B.cons1 (P1.set 5 (E.call (t_paper_of n w hn hw) (A.cons (E.var 2) A.nil))) ?_
  have hp : PapOk (.sums n w (sqF w w) [] []) := ⟨⟨hn, hw, sq_ww hw, by simp, by simp, by simp, by simp⟩⟩
  refine B.cons (P1.for_ (xs := List.range 7) (enc := nd) (fun i g => g = [.val (.adr m.t), .val (nd n), .val (wd w), .val (esd es), .val (yd n es), .val (sumD n w (sqF w w) [] []), .non, .non]) (W.range1 (n := 7) E.int (by omega)) rfl (fun i kind g hk hg => ?_)) fun g hg => ?_
  · subst hg
    have hk6 : kind ≤ 6 := by
      have := List.mem_range.mp (List.mem_of_getElem? hk)
      omega
    refine ⟨_, _, G.name 6, ?_⟩
    refine B.cons (P1.for_ (xs := List.range 2) (enc := nd) (fun i g => g = [.val (.adr m.t), .val (nd n), .val (wd w), .val (esd es), .val (yd n es), .val (sumD n w (sqF w w) [] []), .val (nd kind), .non]) (W.range1 (n := 2) E.int (by omega)) rfl (fun j y g hy hg => ?_)) fun g hg => ?_
    · subst hg
      refine ⟨_, _, G.name 7, ?_⟩
      refine B.cons1 (P1.guard (T.to (T.isNotB (x := true) (y := true) (E.callN (SA := fun ds => ∃ t : List Bool, t.length = tlen n es.length kind ∧ ds = [yd n es, sumD n w (sqF w w) [] [], nd kind, wd t]) (M' := none) (k' := 17) (fun ds h => by
          obtain ⟨t, ht, rfl⟩ := h
          have q := t_passes (.sums n w (sqF w w) [] []) es kind t hk6 hn (fun e he => (hes e he).1) (by omega) hp ht
          have e : passB (.sums n w (sqF w w) [] []) (Pap.sums n w (sqF w w) [] []).n es kind t = true := solution_pass hw es kind t hk6 hes ht
          rw [e] at q
          exact q) ⟨_, List.replicate (tlen n es.length kind) false, by simp, rfl⟩
        (A.consN (E.var 4) (A.consN (E.var 5) (A.consN (E.var 6) (A.consN (E.call (t_word m hm (tlen n es.length kind) (tlen_le n es.length kind hk6 hn.2 (by omega))) (A.cons (E.var 0) (A.cons (E.call (t_law_length n es.length kind hk6 hn.2 (by omega)) (A.cons (E.var 1) (A.cons (E.to (d' := nd es.length) (E.len (E.var 3) .t) (by rw [List.length_map])) (A.cons (E.var 6) A.nil)))) A.nil))) A.nil
            (SA := fun ds => ∃ t : List Bool, t.length = tlen n es.length kind ∧ ds = [wd t]) (fun d ds ⟨t, h1, h2⟩ h3 => ⟨t, h1, by rw [h2, h3]⟩))
            (SA := fun ds => ∃ t : List Bool, t.length = tlen n es.length kind ∧ ds = [nd kind, wd t]) (fun d ds h1 ⟨t, h2, h3⟩ => ⟨t, h2, by rw [h1, h3]⟩))
            (SA := fun ds => ∃ t : List Bool, t.length = tlen n es.length kind ∧ ds = [sumD n w (sqF w w) [] [], nd kind, wd t]) (fun d ds h1 ⟨t, h2, h3⟩ => ⟨t, h2, by rw [h1, h3]⟩))
            (fun d ds h1 ⟨t, h2, h3⟩ => ⟨t, h2, by rw [h1, h3]⟩))) E.bl) rfl)) (B.nilF [7] rfl)
    · subst hg
      exact B.nilF [6] rfl
  · exact B.last (P1.ret E.bl)
end Ty
namespace Ty
open PySem PySem.Spec PyProof.Rows L2
variable [Cf]
theorem P1.lift {k : Nat} {X : Cx} {M : Option TpA} {mu : Bool} {Γ : List Sl} {st : Stmt} {N : List Sl → Prop} {S : D → Prop} (h : P1 k X M false Γ st N S) : P1 k X M mu Γ st N S := fun xk hr F fr => h xk hr F ⟨fr.le, (fun z => nomatch z), (fun z => nomatch z)⟩
-- data that no list is in
mutual
def D.il : D → Bool
  | .lst _ => false
  | .dic _ l => D.ilL l
  | .tup l => D.ilL l
  | .xt l => D.ilL l
  | .ins _ _ l => D.ilL l
  | _ => true
def D.ilL : List D → Bool
  | [] => true
  | d :: ds => d.il && D.ilL ds
end
theorem D.ilL_map {α : Type} (f : α → D) (h : ∀ x, (f x).il = true) : ∀ l : List α, D.ilL (l.map f) = true
  | [] => by simp [D.ilL]
  | x :: l => by simp [D.ilL, h x, D.ilL_map f h l]
mutual
theorem Rp.mutL {H : Hp} {l : Addr} {xs : List V} {o : HO} (hl : H l = some (.lst xs)) : ∀ {d : D} {v : V}, d.il = true → Rp H v d → Rp (upd H l o) v d
  | .non, _, _, h => by cases h; exact .non
  | .bl b, _, _, h => by cases h; exact .bl b
  | .int b, _, _, h => by cases h; exact .int b
  | .str b, _, _, h => by cases h; exact .str b
  | .adr b, _, _, h => by cases h; exact .adr b
  | .lam f c q, _, _, h => by
    cases h with
    | lam _ h1 => exact .lam _ (by rw [upd_ne (fun z => by rw [z, hl] at h1; unfold LamX.CodeO at h1; cases h1)]; exact h1)
  | .ty b, _, _, h => by cases h; exact .ty b
  | .tup ds, _, i, h => by
    cases h with
    | tup h1 h2 => exact .tup (sqT_mut h1 hl (fun _ z => nomatch z) fun _ _ z => nomatch z) (RpL.mutL hl (by simpa [D.il] using i) h2)
  | .xt ds, _, i, h => by
    cases h with
    | xt h1 h2 h3 => exact .xt (by rw [upd_ne (fun z => by rw [z, hl] at h1; cases h1)]; exact h1) h2 (RpL.mutL hl (by simpa [D.il] using i) h3)
  | .lst ds, _, i, h => by simp [D.il] at i
  | .ins C ns ds, _, i, h => by
    cases h with
    | ins h1 h2 h3 => exact .ins (by rw [upd_ne (fun z => by rw [z, hl] at h1; cases h1)]; exact h1) h2 (RpL.mutL hl (by simpa [D.il] using i) h3)
  | .dic ns ds, _, i, h => by
    cases h with
    | dic h1 h2 h3 h4 => exact .dic (by rw [upd_ne (fun z => by rw [z, hl] at h1; cases h1)]; exact h1) h2 h3 (RpL.mutL hl (by simpa [D.il] using i) h4)
theorem RpL.mutL {H : Hp} {l : Addr} {xs : List V} {o : HO} (hl : H l = some (.lst xs)) : ∀ {ds : List D} {vs : List V}, D.ilL ds = true → RpL H vs ds → RpL (upd H l o) vs ds
  | [], _, _, h => by cases h; exact .nil
  | d :: ds, _, i, h => by
    simp only [D.ilL, Bool.and_eq_true] at i
    cases h with
    | cons h1 h2 => exact .cons (Rp.mutL hl i.1 h1) (RpL.mutL hl i.2 h2)
end
section
variable {k : Nat} {X : Cx} {M : Option TpA} {mu : Bool} {Γ : List Sl} {a : Expr} {p pos pos' apos p1 : Pos} {S S1 : D → Prop} {x : Str}
theorem P1.appendN (s : Nat) {l : List D} (hΓ : Γ[s]? = some (.own l)) (hi : imBut Γ s = true) (hl : l.length < 1000) (hd : D.ilL l = true) (hd1 : ∀ d, S1 d → d.il = true) (ha : E k X M Γ a S1) (hm : mu = true)
    (hs : starEach [a] X.env = (false, eval a X.env) :: starEach [] X.env := by rfl)
    (hps : PS X (.Expr (.Call (.Attribute (.Name x p1) "append" apos) [a] [] pos) pos') (tDrop (tBM X.K "list" rAppend (tVar s) (tSA X [a])))) :
    P1 k X M mu Γ (.Expr (.Call (.Attribute (.Name x p1) "append" apos) [a] [] pos) pos') (fun g => ∃ d, S1 d ∧ g = Γ.set s (.own (l ++ [d]))) S := fun xk hr F fr H0 σ H le hF sat Dn qn qr => by
  obtain ⟨p, vs, ev, h0, hp, rl⟩ := sat.at_ s _ hΓ
  refine to_1 hps ⟨_, ev, .inl ⟨rfl, _, .inl (.inl hp)⟩, args1 ha hs xk hr H0 σ H le sat _ fun us H1 ds' l1 s' r => ?_⟩
  obtain ⟨d, rfl, sd'⟩ := s'
  obtain ⟨v, rfl, rv⟩ := rp1 r
  obtain ⟨p', vs', ev', h0', hp', rl'⟩ := (sat.mo l1).at_ s _ hΓ
  rw [ev] at ev'
  cases ev'
  refine ⟨p, vs', v, rfl, rfl, hp', Nat.lt_of_lt_of_le (show vs'.length < 1000 by rw [rl'.length]; exact hl) (sz1000 (Nat.le_refl _)), ?_⟩
  refine qn _ _ _ ((le.trans l1).mut h0 hp') (fr.ml hm _ _ _ _ hp' (fr.le _ _ _ l1 hF)) ⟨d, sd', rfl⟩ ((sat.mo l1).mutBut hp' hi ⟨p, _, ev, h0, upd_same, ?_⟩)
  exact (rl'.mutL hp' hd).app (.cons (rv.mutL hp' (hd1 d sd')) .nil)
end
variable [Fx] [Fy]
theorem il_bits (w : List Bool) : D.ilL (w.map bd) = true := D.ilL_map _ (fun _ => rfl) _
theorem il_wds (m : List (List Bool)) : D.ilL (m.map wd) = true := D.ilL_map _ (fun w => by simp [D.il, il_bits]) _
theorem il_sds (m : List (List (List Bool))) : D.ilL (m.map sd) = true := D.ilL_map _ (fun w => by simp [D.il, il_wds]) _
theorem il_dd (p : Pap) : p.dd.il = true := by cases p <;> simp [Pap.dd, D.il, D.ilL, il_bits, il_wds, il_sds]
theorem t_other (m : TpA) (hm : m.st = none) (p : Pap) (hp : PapF p) (hs : Short p) (qs : List Plc) : Fn "_law_other_letter" ["_law_tape_here", "_law_paper", "_law_read"] 6 (some m) [.adr m.t, p.dd, qd qs] (fun d => ∃ p', Other qs p p' ∧ d = p'.dd) := by
  cases p with
  | tab n f g =>
    obtain ⟨h1, h2, h3⟩ := hp.ok.ok
    refine t_other_tab m hm n f g h1 h2 h3 ?_ ?_ (Nat.mul_le_mul h1.2 h1.2) qs
    · rw [h2]; obtain h | h | h : n = 1 ∨ n = 2 ∨ n = 3 := by omega
      all_goals subst h; decide
    · rw [h3]; obtain h | h | h : n = 1 ∨ n = 2 ∨ n = 3 := by omega
      all_goals subst h; decide
  | sums n w s ws ss =>
    obtain ⟨h1, h2, h3, h4, h5, h6, h7⟩ := hp.ok.ok
    have hs : ws.length ≤ 4 ∧ ss.length ≤ 4 := hs
    exact t_other_sums m hm n w s ws ss h1 h4 h5 (by omega) (by omega) qs
set_option maxHeartbeats 20000000 in
theorem t_same (m : TpA) (hm : m.st = none) (n : Nat) (hn : 1 ≤ n ∧ n ≤ 12) : Fn1 "_law_same_verdict" ["_law_tape_here", "_law_n"] 21 (some m) [.adr m.t, nd n] (.bl true) := by
  refine Fx.f__law_same_verdict.go true sc__law_same_verdict fun _ _ _ _ _ _ _ _ => ?_
  refine B.cons (P1.setN 2 (E.call (t_word m hm n (by omega)) (A.cons (E.var 0) (A.cons (E.var 1) A.nil)))) fun g hg => ?_
  obtain ⟨_, ⟨w, hw, rfl⟩, rfl⟩ := hg
  refine B.cons (P1.setN 3 (E.callN (S := fun d => ∃ es : List Eqn, (∀ e ∈ es, EqOk n e) ∧ es.length ≤ 4 ∧ d = esd es) (SA := fun ds => ∃ z : Nat, z < 5 ∧ ds = [.adr m.t, nd n, nd z, wd w]) (M' := some m) (k' := 5) (fun ds h => by
      obtain ⟨z, h1, rfl⟩ := h
      exact (t_equations m hm n z w hn hw (by omega)).mono fun d ⟨es, h2, h3, h4⟩ => ⟨es, h2, by omega, h4⟩) ⟨_, 0, by decide, rfl⟩
    (A.consN (E.var 0) (A.consN (E.var 1) (A.consN (E.call (t_draw m hm 5 (by decide)) (A.cons (E.var 0) (A.cons E.int A.nil))) (A.cons (E.var 2) A.nil) (SA := fun ds => ∃ z : Nat, z < 5 ∧ ds = [nd z, wd w]) (fun d ds ⟨z, h1, h2⟩ h3 => ⟨z, h2, by rw [h1, h3]⟩)) (SA := fun ds => ∃ z : Nat, z < 5 ∧ ds = [nd n, nd z, wd w]) (fun d ds h1 ⟨z, h2, h3⟩ => ⟨z, h2, by rw [h1, h3]⟩)) (fun d ds h1 ⟨z, h2, h3⟩ => ⟨z, h2, by rw [h1, h3]⟩)))) fun g hg => ?_
  obtain ⟨_, ⟨es, hes, hl, rfl⟩, rfl⟩ := hg
  refine B.cons1 (P1.set 4 (E.make (t_System_init n es hn hes) Fx.k_System.mg (A.cons (E.var 1) (A.cons (E.var 3) A.nil)))) ?_
  refine B.cons (P1.setOwn 5 (EF.lstN (SL := fun ds => ∃ p : Pap, (PapF p ∧ p.n = n ∧ Short p) ∧ ds = [p.dd]) (A.consN (E.call (t_sums_paper m hm n w hn hw) (A.cons (E.var 0) (A.cons (E.var 1) (A.cons (E.var 2) A.nil)))) A.nil (fun d ds h1 h2 => by
      obtain ⟨s, ws, ss, a1, a2, a3, a4⟩ := h1
      exact ⟨_, ⟨a1, rfl, a2, a3⟩, by rw [a4, h2]⟩)) (fun ds h => by obtain ⟨p, _, rfl⟩ := h; simp))) fun g hg => ?_
  obtain ⟨_, ⟨p0, hp0, rfl⟩, rfl⟩ := hg
  refine B.cons (N1 := fun g => ∃ ps : List Pap, (∀ p ∈ ps, PapF p ∧ p.n = n ∧ Short p) ∧ ps.length ≤ 2 ∧ g = [.val (.adr m.t), .val (nd n), .val (wd w), .val (esd es), .val (yd n es), .own (ps.map Pap.dd), .non, .non, .non, .non, .non]) ?_ fun g hg => ?_
  · refine P1.if_ (SB := fun b => b = decide ((n : Int) < 3)) (T.lt (E.var 1) E.int) (fun h => ?_) (fun h => B.nil ⟨[p0], by simpa using hp0, by simp, rfl⟩)
    have hn2 : n ≤ 2 := by have := of_decide_eq_true h.symm; omega
    refine B.cons (P1.appendN 5 rfl (by simp [imBut, ent, Sl.im, D.im, D.imL, im_bits, im_eds]) (by simp) (by simp [D.ilL, il_dd]) (S1 := fun d => ∃ f g, PapF (.tab n f g) ∧ d = (Pap.tab n f g).dd) (fun d h => by obtain ⟨f, g, _, rfl⟩ := h; exact il_dd _) (E.call (t_table_paper m hm n ⟨hn.1, hn2⟩) (A.cons (E.var 0) (A.cons (E.var 1) A.nil))) rfl rfl (ps_expr (pe_bm PySem.F.plainAttrs_list PySem.F.slot_list_append PySem.F.type_list_append mt_append (pv 5) pa_s))) fun g hg => ?_
    obtain ⟨_, ⟨ft, gt, h1, rfl⟩, rfl⟩ := hg
    refine B.nil ⟨[p0, .tab n ft gt], fun p hp => ?_, by simp, rfl⟩
    rcases List.mem_cons.mp hp with rfl | hp
    · exact hp0
    · rw [List.mem_singleton.mp hp]
      exact ⟨h1, rfl, trivial⟩
  obtain ⟨ps, hps, hpl, rfl⟩ := hg
  refine B.cons (P1.lift (P1.for_ (xs := ps) (enc := Pap.dd) (fun i g => g = [.val (.adr m.t), .val (nd n), .val (wd w), .val (esd es), .val (yd n es), .own (ps.map Pap.dd), .non, .non, .non, .non, .non]) (W.lst (E.varO 5)) rfl (fun i p g hp hg => ?_))) fun g hg => ?_
  · subst hg
    obtain ⟨hF, hn', hS⟩ := hps p (List.mem_of_getElem? hp)
    subst hn'
    refine ⟨_, _, G.name 6, ?_⟩
    refine B.cons (P1.for_ (xs := List.range 7) (enc := nd) (fun i g => g = [.val (.adr m.t), .val (nd p.n), .val (wd w), .val (esd es), .val (yd p.n es), .own (ps.map Pap.dd), .val p.dd, .non, .non, .non, .non]) (W.range1 (n := 7) E.int (by omega)) rfl (fun j kind g hk hg => ?_)) fun g hg => ?_
    · subst hg
      have hk6 : kind ≤ 6 := by
        have := List.mem_range.mp (List.mem_of_getElem? hk)
        omega
      refine ⟨_, _, G.name 7, ?_⟩
      refine B.cons (P1.setN 8 (E.call (t_word m hm (tlen p.n es.length kind) (tlen_le p.n es.length kind hk6 hn.2 (by omega))) (A.cons (E.var 0) (A.cons (E.call (t_law_length p.n es.length kind hk6 hn.2 (by omega)) (A.cons (E.var 1) (A.cons (E.to (d' := nd es.length) (E.len (E.var 3) .t) (by rw [List.length_map])) (A.cons (E.var 7) A.nil)))) A.nil)))) fun g hg => ?_
      obtain ⟨_, ⟨t, ht, rfl⟩, rfl⟩ := hg
      refine B.cons1 (P1.set 9 (E.call (t_law_passes p es kind t hk6 hn hes (by omega) hF.ok ht) (A.cons (E.var 1) (A.cons (E.var 3) (A.cons (E.var 6) (A.cons (E.var 7) (A.cons (E.var 8) A.nil))))))) ?_
      refine B.cons1 (P1.guard (T.to (T.not_ (T.val (E.call (t_told (passB p p.n es kind t) (passB p p.n es kind t)) (A.cons (E.call (t_passes p es kind t hk6 hn hes (by omega) hF.ok ht) (A.cons (E.var 4) (A.cons (E.call (t_made p hF) (A.cons (E.var 6) A.nil)) (A.cons (E.var 7) (A.cons (E.var 8) A.nil))))) (A.cons (E.var 9) A.nil))))) (by simp))) ?_
      refine B.cons (P1.setN 10 (E.call (t_other m hm p hF hS (placesOf p.n es kind t)) (A.cons (E.var 0) (A.cons (E.var 6) (A.cons (E.call (t_law_places p.n es kind t hk6 hn hes (by omega) ht) (A.cons (E.var 1) (A.cons (E.var 3) (A.cons (E.var 7) (A.cons (E.var 8) A.nil))))) A.nil))))) fun g hg => ?_
      obtain ⟨_, ⟨p', ho, rfl⟩, rfl⟩ := hg
      have hF' := other_full hF hS ho
      have hn' := other_n ho
      have e' := other_pass es kind t hk6 ht ho
      have tp : Fn1 "passes" ["system", "paper", "kind", "tape"] 17 none [yd p.n es, p'.d, nd kind, wd t] (.bl (passB p p.n es kind t)) := by
        have q := t_passes p' es kind t hk6 (by rw [hn']; exact hn) (by rw [hn']; exact hes) (by omega) hF'.ok (by rw [hn']; exact ht)
        rw [hn', e'] at q
        exact q
      exact B.cons1 (P1.guard (T.to (T.not_ (T.val (E.call (t_told (passB p p.n es kind t) (passB p p.n es kind t)) (A.cons (E.call tp (A.cons (E.var 4) (A.cons (E.call (t_made p' hF') (A.cons (E.var 10) A.nil)) (A.cons (E.var 7) (A.cons (E.var 8) A.nil))))) (A.cons (E.var 9) A.nil))))) (by simp))) (B.nilF [7, 8, 9, 10] rfl)
    · subst hg
      exact B.nilF [6] rfl
  · exact B.last (P1.ret E.bl)
end Ty
namespace Ty
open PySem PySem.Spec PyProof.Rows L2
variable [Cf]
/-- the tape is made -/
def spT : Sp := fun vs H Q _ => ∃ (a : Addr) (ns : List Int), vs = [.ref a] ∧ SqL Cf.K H a (ns.map V.int) ∧ Iv none H ∧ ∀ t l H', Iv (some ⟨t, l, ns, none⟩) H' → Q (.ref t) H'
theorem Iv.tape {H : Hp} {t l : Addr} {ns : List Int} (i : Iv none H) (h1 : H t = some (.dK (tapeD l 0 0 0 7 0))) (h2 : H l = some (.lst (ns.map V.int))) : Iv (some ⟨t, l, ns, none⟩) H :=
  ⟨i.g, i.l, fun m hm => by cases hm; exact ⟨0, 0, 0, 7, 0, ⟨Int.le_refl _, fun _ z => nomatch z⟩, h1, h2⟩⟩
section
variable {X : Cx} {x : Str} {p0 p1 p2 p3 p4 p5 p6 q1 q2 q3 q4 q5 q6 q7 q8 pos : Pos} {j0 j1 j2 j3 j4 j5 i1 i2 i3 i4 i5 : Nat}
/-- what the display does -/
theorem tape_disp {H : Hp} {σ : L2.St} {Q : VK} {a : Addr} {ns : List Int} (xk : XOk X) (iv : Iv none H) (hN : X.N[0]? = some x) (hv : Vis X.env.scope x) (hg : Gl X "list") (hd : (x == ("__debug__" : Str)) = false) (hcd : (x == ("__classdict__" : Str)) = false)
    (hs : starEach [.Name x q2] X.env = (false, eval (.Name x q2) X.env) :: starEach [] X.env)
    (h0 : σ[0]? = some (some (.ref a))) (sq : SqL Cf.K H a (ns.map V.int)) (q : ∀ t l H', Iv (some ⟨t, l, ns, none⟩) H' → Q (.ref t) H') :
    tS X (.Dict [some (.Constant (.str "cells") j0 p0), some (.Constant (.str "at") j1 p1), some (.Constant (.str "great") j2 p2), some (.Constant (.str "left") j3 p3), some (.Constant (.str "seed") j4 p4), some (.Constant (.str "turn") j5 p5)]
      [.Call (.Name "list" q1) [.Name x q2] [] q3, .Constant (.int 0) i1 q4, .Constant (.int 0) i2 q5, .Constant (.int 0) i3 q6, .Constant (.int 7) i4 q7, .Constant (.int 0) i5 q8] pos) σ H Q := by
  refine to_s (pe_disp (pps_cons pe_str (pe_callTy call_list_of hg (xk.no (by decide)) boot_list (pa_cons (pe_var (i := 0) hN hv hd hcd) pa_nil hs) (by decide) (by decide) hs rfl) (pps_cons pe_str pe_int (pps_cons pe_str pe_int (pps_cons pe_str pe_int (pps_cons pe_str pe_int (pps_cons pe_str pe_int pps_nil)))))) rfl rfl (by intro z; cases z) (by simp)) ?_
  intro p hp
  refine ⟨.ref a, h0, ⟨a, ns.map V.int, rfl, .inl ?_, fun l hl => ?_⟩⟩
  · rw [xk.K]
    rcases sq with h | h
    · rcases h with h | ⟨o, h⟩
      · exact .inl (.inl (by rw [upd_ne (ne_of_none h hp)]; exact h))
      · exact .inl (.inr ⟨o, by rw [upd_ne (ne_of_none h hp)]; exact h⟩)
    · exact .inr h
  · have hlp : p ≠ l := fun z => by rw [← z, upd_same] at hl; cases hl
    have hl0 : H l = none := by rw [upd_ne (Ne.symm hlp)] at hl; exact hl
    refine ⟨by rw [upd_ne hlp, upd_same], [(.inr "cells", .ref l), (.inr "at", .int 0), (.inr "great", .int 0), (.inr "left", .int 0), (.inr "seed", .int 7), (.inr "turn", .int 0)], rfl, by simp, q p l _ ?_⟩
    have e : mergeK [] [(.inr "cells", V.ref l), (.inr "at", .int 0), (.inr "great", .int 0), (.inr "left", .int 0), (.inr "seed", .int 7), (.inr "turn", .int 0)] = tapeD l 0 0 0 7 0 := rfl
    rw [e]
    have i1 : Iv none (upd (upd H p (.dK [])) l (.lst (ns.map V.int))) := (iv.new hp).new hl
    have i2 : Iv none (upd (upd (upd H p (.dK [])) l (.lst (ns.map V.int))) p (.dK (tapeD l 0 0 0 7 0))) := i1.at (fun ps z => by rw [upd_ne hlp, upd_same] at z; cases z) (fun ps z => by rw [upd_ne hlp, upd_same] at z; cases z) (fun _ z => nomatch z)
    exact i2.tape upd_same (by rw [upd_ne (Ne.symm hlp), upd_same])
end
variable [Fx] [Fy]
theorem t_tape : ∃ f, Cf.mg "_law_tape" = some (.ref f) ∧ At f ["_law_script"] 2 spT := by
  obtain ⟨f, c, hm, F⟩ := Fx.f__law_tape.ex
  refine ⟨f, hm, .of F sc__law_tape (fun _ _ _ _ _ _ us hl => (match us, hl with | [_], _ => rfl)) (fun vs H Q E h => by obtain ⟨a, ns, rfl, _⟩ := h; rfl) fun base g A outer s H vs Q E hr xk hsp => ?_⟩
  obtain ⟨a, ns, rfl, sq, iv, q⟩ := hsp
  exact to_ss (pss_cons (ps_s1 (X := bodyX n__law_tape "_law_tape" (defScope s__law_tape) f c base A outer s H E)) pss_nil) (to_1 (ps_ret pe_s) (tape_disp xk iv rfl (.inl rfl) rfl (by decide) (by decide) rfl rfl sq q))
end Ty
namespace Ty
open PySem PySem.Spec PyProof.Rows L2
variable [Cf]
/-- the law: whatever the script, True -/
def spLaw : Sp := fun vs H Q _ => ∃ (a : Addr) (ns : List Int), vs = [.ref a] ∧ SqL Cf.K H a (ns.map V.int) ∧ Iv none H ∧ ∀ H', Q (.bl true) H'
variable [Fx] [Fy]
section
variable {k : Nat} {X : Cx} {x y : Str} {p q1 pos pos' pos2 : Pos}
theorem call_tape {H : Hp} {σ : L2.St} {Q : VK} {a : Addr} {ns : List Int} (xk : XOk X) (hr : Room 2 X.A) (iv : Iv none H) (hN : X.N[0]? = some x) (hv : Vis X.env.scope x) (hg : Gl X "_law_tape") (hd : (x == ("__debug__" : Str)) = false) (hcd : (x == ("__classdict__" : Str)) = false)
    (he : starEach [.Name x q1] X.env = (false, eval (.Name x q1) X.env) :: starEach [] X.env) (h0 : σ[0]? = some (some (.ref a))) (sq : SqL Cf.K H a (ns.map V.int)) (q : ∀ t l H', Iv (some ⟨t, l, ns, none⟩) H' → Q (.ref t) H') :
    tS X (.Call (.Name "_law_tape" p) [.Name x q1] [] pos) σ H Q := by
  obtain ⟨f, hf, od, fd, lk, e1, kp, bd, F⟩ := t_tape
  have F' := F X.base xk.g
  rw [← xk.p, ← xk.w, ← xk.K, ← xk.m] at F'
  refine to_s (pe_call F' hr hg (by rw [xk.m]; exact hf) (by rw [xk.K]; exact kp) (by rw [xk.K]; exact bd) .nil pass0 (pa_cons (pe_var (i := 0) hN hv hd hcd) pa_nil he) (by decide) he rfl) ⟨_, h0, ?_⟩
  exact ⟨a, ns, rfl, sq, iv, q⟩
end
theorem law_rest {X : Cx} {m : TpA} (hm : m.st = none) {sts : List Stmt} {Γ : List Sl} (h : B 22 X (some m) false Γ sts (fun _ => False) (fun d => d = .bl true)) (xk : XOk X) (hr : Room 22 X.A) {σ : L2.St} {H : Hp} (iv : Iv (some m) H) (sat : Sat Γ H σ H) {Q : VK} (q : ∀ H', Q (.bl true) H') : tSS X sts { nx := fun _ H' => Q .non H', rt := Q } σ H :=
  h xk hr (fun _ => True) fr_true H σ H (.refl iv) trivial sat _ (fun σ' H' Γ' l _ n _ => n.elim) fun v H' d l _ s r => by
    subst s
    cases r
    exact q H'
theorem t_law : ∃ f, Cf.mg "law" = some (.ref f) ∧ At f ["_law_script"] 23 spLaw := by
  obtain ⟨f, c, hm, F⟩ := Fx.f_law.ex
  refine ⟨f, hm, .of F sc_law (fun _ _ _ _ _ _ us hl => (match us, hl with | [_], _ => rfl)) (fun vs H Q E h => by obtain ⟨a, ns, rfl, _⟩ := h; rfl) fun base g Ar outer s H vs Q Ex hr xk hsp => ?_⟩
  obtain ⟨a, ns, rfl, sq, iv, q⟩ := hsp
  refine to_ss (pss_cons (ps_s1 (X := bodyX n_law "law" (defScope s_law) f c base Ar outer s H Ex)) pss_s) (to_1 (ps_set xk.nd (i := 1) rfl (.inl rfl) pe_s rfl (.inl rfl)) (call_tape xk (hr.mono (by decide)) iv rfl (.inl rfl) rfl (by decide) (by decide) rfl rfl sq fun t l H' iv' => ?_))
  refine law_rest (m := ⟨t, l, ns, none⟩) rfl (Γ := [.non, .val (.adr t), .non]) ?_ xk hr iv' ⟨rfl, fun i s hs => ?_⟩ q
  · refine B.cons (P1.setN 2 (E.call (t_pick ⟨t, l, ns, none⟩ rfl [1, 2, 2, 3, 4, 6] (by decide)) (A.cons (E.var 1) (A.cons (E.lst (A.cons E.int (A.cons E.int (A.cons E.int (A.cons E.int (A.cons E.int (A.cons E.int A.nil))))))) A.nil)))) fun g hg => ?_
    obtain ⟨_, ⟨n, hn, rfl⟩, rfl⟩ := hg
    have hn' : 1 ≤ n ∧ n ≤ 12 := by
      simp only [List.mem_cons, List.not_mem_nil, or_false] at hn
      omega
    exact B.last (P1.ret (E.to (E.and (E.call (t_solution ⟨t, l, ns, none⟩ rfl n hn') (A.cons (E.var 1) (A.cons (E.var 2) A.nil))) fun _ => E.one (E.call (t_same ⟨t, l, ns, none⟩ rfl n hn') (A.cons (E.var 1) (A.cons (E.var 2) A.nil)))) rfl))
  · match i, hs with
    | 0, hs => cases hs; trivial
    | 1, hs => cases hs; exact ⟨_, rfl, .adr t⟩
    | 2, hs => cases hs; trivial
end Ty
/-! The law at the head. -/
namespace Fin
open PySem PySem.Spec PyProof.Rows L2 Ty
theorem em_ok {K : PySem.W.Frag} {a : Addr} (h : emB K a = true) : ∃ o n, K.lookup a = some o ∧ o.cls = .type "tuple" ∧ o.data = .seq #[] n := by
  unfold emB at h
  split at h
  · rename_i c od its n sl e
    obtain ⟨h1, h2⟩ := He.ba h
    refine ⟨_, n, e, congrArg Value.type (of_decide_eq_true h1), ?_⟩
    rw [Array.isEmpty_iff.mp h2]
  · cases h
section
variable [Cf]
theorem own_ok {x : Str} (h : ownB Cf.K x = true) (hc : (He.Fa.cls x).ok Cf.K = true) : OwnC (He.ga Cf.K x) := by
  obtain ⟨h1, h2⟩ := He.ba h
  obtain ⟨h3, h4⟩ := He.ba h2
  obtain ⟨h5, h6⟩ := He.ba h4
  exact ⟨He.cls_ok hc, He.eqO_ok h1, He.eqO_ok h3, eqB_ok h5, eqB_ok h6⟩
theorem defAt {x q : Str} {s : Stmt} {p : Str × Option Str} {kws : List (Str × V)} (h : ∃ fd, FunD Cf.K x q (defArgs s) (defBody s) (defScope s) [] kws (He.fAd Cf.K p) fd) : DefAt x q s (He.fAd Cf.K p) (He.cT Cf.K p).1 := by
  obtain ⟨fd, F, kp⟩ := h
  obtain ⟨oc, od, dV, kV, doc, pm, an, cdv, ct, osl, rfl, lk, hcd, hdv, _⟩ := F
  rcases hdv with ⟨_, rfl⟩ | ⟨z, _⟩
  · obtain ⟨cc, rfl⟩ := He.codeIn_ref hcd
    have e : He.codeOf Cf.K p = cc := He.codeOf_eq lk rfl
    show DefAt x q s (He.fAd Cf.K p) (He.codeOf Cf.K p)
    rw [e]
    exact ⟨⟨oc, od, kV, doc, pm, an, ct, osl, lk, hcd⟩, kp⟩
  · exact (z rfl).elim
end
abbrev lamQ : Str := ("SumsPaper.__init__" : Str) ++ ".<locals>." ++ "<lambda>"
section
variable {w : World} {K : PySem.W.Frag} {h : Heap} {mg : Str → Option Value} {fa0 : Addr}
theorem exs (c : He.SaysX fa fn [] tf ex w h K) : ownB K "TablePaper" = true ∧ ownB K "SumsPaper" = true ∧ ownB K "System" = true ∧ kitB K "TablePaper" "TablePaper" true = true ∧ kitB K "TablePaper" "SumsPaper" false = true ∧ kitB K "SumsPaper" "TablePaper" false = true ∧ kitB K "SumsPaper" "SumsPaper" true = true ∧
    emB K (kwAt it "words" K) = true ∧ emB K (kwAt it "squares" K) = true ∧ ∀ p ∈ gt, (He.cT K p).2 ≠ (He.cT K it).2 := by
  have z := c.more
  unfold ex at z
  obtain ⟨h1, z⟩ := He.ba z
  obtain ⟨h2, z⟩ := He.ba z
  obtain ⟨h3, z⟩ := He.ba z
  obtain ⟨h4, z⟩ := He.ba z
  obtain ⟨h5, z⟩ := He.ba z
  obtain ⟨h6, z⟩ := He.ba z
  obtain ⟨h7, z⟩ := He.ba z
  obtain ⟨h8, z⟩ := He.ba z
  obtain ⟨h9, z⟩ := He.ba z
  refine ⟨h1, h2, h3, h4, h5, h6, h7, h8, h9, fun p hp e => ?_⟩
  have q := List.all_eq_true.mp z p hp
  rw [e] at q
  simp at q
/-- what stays the same, from the head -/
noncomputable def mkCf (X : K.In h) (G : h.Ns mainGlobals mg) (c : He.SaysX fa fn [] tf ex w h K) : Cf where
  P := PySem.Challenge.rw_fourread_k38_whole_solutions_pass.prog
  w := w
  K := K
  mg := mg
  gs := gt.map (He.cT K)
  ls := [((He.cT K it).1, (He.cT K it).2, lamQ)]
  bn := fun x hx => by
    simp only [bnames, List.mem_cons, List.not_mem_nil, or_false] at hx
    rcases hx with rfl | rfl | rfl | rfl | rfl | rfl | rfl | rfl | rfl | rfl | rfl | rfl | rfl
    · exact He.free_ok X G (c.t.d.fact 0 (f := .free "isinstance") rfl)
    · exact He.free_ok X G (c.t.d.fact 1 (f := .free "len") rfl)
    · exact He.free_ok X G (c.t.d.fact 2 (f := .free "tuple") rfl)
    · exact He.free_ok X G (c.t.d.fact 3 (f := .free "list") rfl)
    · exact He.free_ok X G (c.t.d.fact 4 (f := .free "int") rfl)
    · exact He.free_ok X G (c.t.d.fact 5 (f := .free "bool") rfl)
    · exact He.free_ok X G (c.t.d.fact 6 (f := .free "all") rfl)
    · exact He.free_ok X G (c.t.d.fact 7 (f := .free "sum") rfl)
    · exact He.free_ok X G (c.t.d.fact 8 (f := .free "zip") rfl)
    · exact He.free_ok X G (c.t.d.fact 9 (f := .free "range") rfl)
    · exact He.free_ok X G (c.t.d.fact 10 (f := .free "enumerate") rfl)
    · exact He.free_ok X G (c.t.d.fact 11 (f := .free "sorted") rfl)
    · exact He.free_ok X G (c.t.d.fact 12 (f := .free "dict") rfl)
  cT := He.ga K "TablePaper"
  cS := He.ga K "SumsPaper"
  cY := He.ga K "System"
  apart := fun p hp q hq => by
    obtain ⟨p', hp', rfl⟩ := List.mem_map.mp hp
    rw [List.mem_singleton.mp hq]
    exact (exs c).2.2.2.2.2.2.2.2.2 p' hp'

set_option maxHeartbeats 40000000 in
theorem mkFx (X : K.In h) (G : h.Ns mainGlobals mg) (c : He.SaysX fa fn [] tf ex w h K) : @Fx (mkCf X G c) := by
  letI : Cf := mkCf X G c
  obtain ⟨o1, o2, o3, k1, k2, k3, k4, _, _, _⟩ := exs c
  exact {
    longest := He.int_ok X G (c.t.d.fact 13 (f := .int "LONGEST" 12) rfl)
    k_TablePaper := ⟨(He.glo_ok X G (c.t.d.fact 14 (f := .glo "TablePaper") rfl)), own_ok (x := "TablePaper") o1 (c.t.d.fact 15 (f := .cls "TablePaper") rfl), fun f hf => by
      simp only [List.mem_cons, List.not_mem_nil, or_false] at hf
      rcases hf with rfl | rfl | rfl
      · exact He.noat_ok (c.t.d.fact 16 (f := .noat "TablePaper" "n") rfl)
      · exact He.noat_ok (c.t.d.fact 17 (f := .noat "TablePaper" "f") rfl)
      · exact He.noat_ok (c.t.d.fact 18 (f := .noat "TablePaper" "g") rfl)⟩
    k_SumsPaper := ⟨(He.glo_ok X G (c.t.d.fact 20 (f := .glo "SumsPaper") rfl)), own_ok (x := "SumsPaper") o2 (c.t.d.fact 21 (f := .cls "SumsPaper") rfl), fun f hf => by
      simp only [List.mem_cons, List.not_mem_nil, or_false] at hf
      rcases hf with rfl | rfl | rfl | rfl | rfl
      · exact He.noat_ok (c.t.d.fact 22 (f := .noat "SumsPaper" "n") rfl)
      · exact He.noat_ok (c.t.d.fact 23 (f := .noat "SumsPaper" "word") rfl)
      · exact He.noat_ok (c.t.d.fact 24 (f := .noat "SumsPaper" "square") rfl)
      · exact He.noat_ok (c.t.d.fact 25 (f := .noat "SumsPaper" "words") rfl)
      · exact He.noat_ok (c.t.d.fact 26 (f := .noat "SumsPaper" "squares") rfl)⟩
    k_System := ⟨(He.glo_ok X G (c.t.d.fact 28 (f := .glo "System") rfl)), own_ok (x := "System") o3 (c.t.d.fact 29 (f := .cls "System") rfl), fun f hf => by
      simp only [List.mem_cons, List.not_mem_nil, or_false] at hf
      rcases hf with rfl | rfl
      · exact He.noat_ok (c.t.d.fact 30 (f := .noat "System" "n") rfl)
      · exact He.noat_ok (c.t.d.fact 31 (f := .noat "System" "equations") rfl)⟩
    tt := eqB_ok k1
    ts := eqB_ok k2
    st := eqB_ok k3
    ss := eqB_ok k4
    f_is_integer := ⟨⟨_, _, (He.glo_ok X G (c.t.d.fact 33 (f := .glo "is_integer") rfl)), (defAt (x := "is_integer") (q := "is_integer") (s := s_is_integer) (p := ("is_integer", none)) (c.t.d.def_ 0 (d := dd ("is_integer", none) "is_integer" "is_integer" s_is_integer) rfl))⟩⟩
    f_is_between := ⟨⟨_, _, (He.glo_ok X G (c.t.d.fact 34 (f := .glo "is_between") rfl)), (defAt (x := "is_between") (q := "is_between") (s := s_is_between) (p := ("is_between", none)) (c.t.d.def_ 1 (d := dd ("is_between", none) "is_between" "is_between" s_is_between) rfl))⟩⟩
    f_is_bit := ⟨⟨_, _, (He.glo_ok X G (c.t.d.fact 35 (f := .glo "is_bit") rfl)), (defAt (x := "is_bit") (q := "is_bit") (s := s_is_bit) (p := ("is_bit", none)) (c.t.d.def_ 2 (d := dd ("is_bit", none) "is_bit" "is_bit" s_is_bit) rfl))⟩⟩
    f_is_bits := ⟨⟨_, _, _, (He.glo_ok X G (c.t.d.fact 36 (f := .glo "is_bits") rfl)), (defAt (x := "is_bits") (q := "is_bits") (s := s_is_bits) (p := ("is_bits", none)) (c.t.d.def_ 3 (d := dd ("is_bits", none) "is_bits" "is_bits" s_is_bits) rfl)), (List.mem_map.mpr ⟨("is_bits", none), List.mem_of_getElem? (i := 0) rfl, rfl⟩)⟩⟩
    f_is_some_word := ⟨⟨_, _, (He.glo_ok X G (c.t.d.fact 37 (f := .glo "is_some_word") rfl)), (defAt (x := "is_some_word") (q := "is_some_word") (s := s_is_some_word) (p := ("is_some_word", none)) (c.t.d.def_ 4 (d := dd ("is_some_word", none) "is_some_word" "is_some_word" s_is_some_word) rfl))⟩⟩
    f_is_word := ⟨⟨_, _, (He.glo_ok X G (c.t.d.fact 38 (f := .glo "is_word") rfl)), (defAt (x := "is_word") (q := "is_word") (s := s_is_word) (p := ("is_word", none)) (c.t.d.def_ 5 (d := dd ("is_word", none) "is_word" "is_word" s_is_word) rfl))⟩⟩
    f_bits_number := ⟨⟨_, _, (He.glo_ok X G (c.t.d.fact 39 (f := .glo "bits_number") rfl)), (defAt (x := "bits_number") (q := "bits_number") (s := s_bits_number) (p := ("bits_number", none)) (c.t.d.def_ 6 (d := dd ("bits_number", none) "bits_number" "bits_number" s_bits_number) rfl))⟩⟩
    f_check_words := ⟨⟨_, _, (He.glo_ok X G (c.t.d.fact 40 (f := .glo "check_words") rfl)), (defAt (x := "check_words") (q := "check_words") (s := s_check_words) (p := ("check_words", none)) (c.t.d.def_ 7 (d := dd ("check_words", none) "check_words" "check_words" s_check_words) rfl))⟩⟩
    f_sum_of := ⟨⟨_, _, _, (He.glo_ok X G (c.t.d.fact 41 (f := .glo "sum_of") rfl)), (defAt (x := "sum_of") (q := "sum_of") (s := s_sum_of) (p := ("sum_of", none)) (c.t.d.def_ 8 (d := dd ("sum_of", none) "sum_of" "sum_of" s_sum_of) rfl)), (List.mem_map.mpr ⟨("sum_of", none), List.mem_of_getElem? (i := 1) rfl, rfl⟩)⟩⟩
    f_parity_of := ⟨⟨_, _, _, (He.glo_ok X G (c.t.d.fact 42 (f := .glo "parity_of") rfl)), (defAt (x := "parity_of") (q := "parity_of") (s := s_parity_of) (p := ("parity_of", none)) (c.t.d.def_ 9 (d := dd ("parity_of", none) "parity_of" "parity_of" s_parity_of) rfl)), (List.mem_map.mpr ⟨("parity_of", none), List.mem_of_getElem? (i := 2) rfl, rfl⟩)⟩⟩
    f_added := ⟨⟨_, _, (He.glo_ok X G (c.t.d.fact 43 (f := .glo "added") rfl)), (defAt (x := "added") (q := "added") (s := s_added) (p := ("added", none)) (c.t.d.def_ 10 (d := dd ("added", none) "added" "added" s_added) rfl))⟩⟩
    f_product_of := ⟨⟨_, _, (He.glo_ok X G (c.t.d.fact 44 (f := .glo "product_of") rfl)), (defAt (x := "product_of") (q := "product_of") (s := s_product_of) (p := ("product_of", none)) (c.t.d.def_ 11 (d := dd ("product_of", none) "product_of" "product_of" s_product_of) rfl))⟩⟩
    f_number_of := ⟨⟨_, _, (He.glo_ok X G (c.t.d.fact 45 (f := .glo "number_of") rfl)), (defAt (x := "number_of") (q := "number_of") (s := s_number_of) (p := ("number_of", none)) (c.t.d.def_ 12 (d := dd ("number_of", none) "number_of" "number_of" s_number_of) rfl))⟩⟩
    f_zero_word := ⟨⟨_, _, (He.glo_ok X G (c.t.d.fact 46 (f := .glo "zero_word") rfl)), (defAt (x := "zero_word") (q := "zero_word") (s := s_zero_word) (p := ("zero_word", none)) (c.t.d.def_ 13 (d := dd ("zero_word", none) "zero_word" "zero_word" s_zero_word) rfl))⟩⟩
    f_is_matrix := ⟨⟨_, _, _, (He.glo_ok X G (c.t.d.fact 47 (f := .glo "is_matrix") rfl)), (defAt (x := "is_matrix") (q := "is_matrix") (s := s_is_matrix) (p := ("is_matrix", none)) (c.t.d.def_ 14 (d := dd ("is_matrix", none) "is_matrix" "is_matrix" s_is_matrix) rfl)), (List.mem_map.mpr ⟨("is_matrix", none), List.mem_of_getElem? (i := 3) rfl, rfl⟩)⟩⟩
    f_is_some_matrix := ⟨⟨_, _, (He.glo_ok X G (c.t.d.fact 48 (f := .glo "is_some_matrix") rfl)), (defAt (x := "is_some_matrix") (q := "is_some_matrix") (s := s_is_some_matrix) (p := ("is_some_matrix", none)) (c.t.d.def_ 15 (d := dd ("is_some_matrix", none) "is_some_matrix" "is_some_matrix" s_is_some_matrix) rfl))⟩⟩
    f_square_from := ⟨⟨_, _, _, (He.glo_ok X G (c.t.d.fact 49 (f := .glo "square_from") rfl)), (defAt (x := "square_from") (q := "square_from") (s := s_square_from) (p := ("square_from", none)) (c.t.d.def_ 16 (d := dd ("square_from", none) "square_from" "square_from" s_square_from) rfl)), (List.mem_map.mpr ⟨("square_from", none), List.mem_of_getElem? (i := 4) rfl, rfl⟩)⟩⟩
    f_square_of := ⟨⟨_, _, (He.glo_ok X G (c.t.d.fact 50 (f := .glo "square_of") rfl)), (defAt (x := "square_of") (q := "square_of") (s := s_square_of) (p := ("square_of", none)) (c.t.d.def_ 17 (d := dd ("square_of", none) "square_of" "square_of" s_square_of) rfl))⟩⟩
    f_check_squares := ⟨⟨_, _, (He.glo_ok X G (c.t.d.fact 51 (f := .glo "check_squares") rfl)), (defAt (x := "check_squares") (q := "check_squares") (s := s_check_squares) (p := ("check_squares", none)) (c.t.d.def_ 18 (d := dd ("check_squares", none) "check_squares" "check_squares" s_check_squares) rfl))⟩⟩
    f_square_sum := ⟨⟨_, _, _, (He.glo_ok X G (c.t.d.fact 52 (f := .glo "square_sum") rfl)), (defAt (x := "square_sum") (q := "square_sum") (s := s_square_sum) (p := ("square_sum", none)) (c.t.d.def_ 19 (d := dd ("square_sum", none) "square_sum" "square_sum" s_square_sum) rfl)), (List.mem_map.mpr ⟨("square_sum", none), List.mem_of_getElem? (i := 5) rfl, rfl⟩)⟩⟩
    f_square_parity := ⟨⟨_, _, _, (He.glo_ok X G (c.t.d.fact 53 (f := .glo "square_parity") rfl)), (defAt (x := "square_parity") (q := "square_parity") (s := s_square_parity) (p := ("square_parity", none)) (c.t.d.def_ 20 (d := dd ("square_parity", none) "square_parity" "square_parity" s_square_parity) rfl)), (List.mem_map.mpr ⟨("square_parity", none), List.mem_of_getElem? (i := 6) rfl, rfl⟩)⟩⟩
    f_added_squares := ⟨⟨_, _, (He.glo_ok X G (c.t.d.fact 54 (f := .glo "added_squares") rfl)), (defAt (x := "added_squares") (q := "added_squares") (s := s_added_squares) (p := ("added_squares", none)) (c.t.d.def_ 21 (d := dd ("added_squares", none) "added_squares" "added_squares" s_added_squares) rfl))⟩⟩
    f_square_product := ⟨⟨_, _, (He.glo_ok X G (c.t.d.fact 55 (f := .glo "square_product") rfl)), (defAt (x := "square_product") (q := "square_product") (s := s_square_product) (p := ("square_product", none)) (c.t.d.def_ 22 (d := dd ("square_product", none) "square_product" "square_product" s_square_product) rfl))⟩⟩
    f_is_square := ⟨⟨_, _, _, (He.glo_ok X G (c.t.d.fact 56 (f := .glo "is_square") rfl)), (defAt (x := "is_square") (q := "is_square") (s := s_is_square) (p := ("is_square", none)) (c.t.d.def_ 23 (d := dd ("is_square", none) "is_square" "is_square" s_is_square) rfl)), (List.mem_map.mpr ⟨("is_square", none), List.mem_of_getElem? (i := 7) rfl, rfl⟩)⟩⟩
    f_rows_together := ⟨⟨_, _, (He.glo_ok X G (c.t.d.fact 57 (f := .glo "rows_together") rfl)), (defAt (x := "rows_together") (q := "rows_together") (s := s_rows_together) (p := ("rows_together", none)) (c.t.d.def_ 24 (d := dd ("rows_together", none) "rows_together" "rows_together" s_rows_together) rfl))⟩⟩
    f__are_bits := ⟨⟨_, _, _, (He.glo_ok X G (c.t.d.fact 58 (f := .glo "_are_bits") rfl)), (defAt (x := "_are_bits") (q := "_are_bits") (s := s__are_bits) (p := ("_are_bits", none)) (c.t.d.def_ 25 (d := dd ("_are_bits", none) "_are_bits" "_are_bits" s__are_bits) rfl)), (List.mem_map.mpr ⟨("_are_bits", none), List.mem_of_getElem? (i := 8) rfl, rfl⟩)⟩⟩
    f__first_fault := ⟨⟨_, _, (He.glo_ok X G (c.t.d.fact 59 (f := .glo "_first_fault") rfl)), (defAt (x := "_first_fault") (q := "_first_fault") (s := s__first_fault) (p := ("_first_fault", none)) (c.t.d.def_ 26 (d := dd ("_first_fault", none) "_first_fault" "_first_fault" s__first_fault) rfl))⟩⟩
    f_TablePaperd_initd := ⟨⟨_, _, He.mkr_ok (c.t.d.fact 19 (f := .mkr "TablePaper") rfl), (defAt (x := "__init__") (q := "TablePaper.__init__") (s := s_TablePaperd_initd) (p := ("TablePaper", some "__init__")) (c.t.d.def_ 27 (d := dd ("TablePaper", some "__init__") "__init__" "TablePaper.__init__" s_TablePaperd_initd) rfl))⟩⟩
    f_TablePaper_letter_f := ⟨⟨_, _, He.meth_ok (c.t.d.fact 60 (f := .meth "TablePaper" "letter_f") rfl), (defAt (x := "letter_f") (q := "TablePaper.letter_f") (s := s_TablePaper_letter_f) (p := ("TablePaper", some "letter_f")) (c.t.d.def_ 28 (d := dd ("TablePaper", some "letter_f") "letter_f" "TablePaper.letter_f" s_TablePaper_letter_f) rfl))⟩⟩
    f_TablePaper_letter_g := ⟨⟨_, _, He.meth_ok (c.t.d.fact 61 (f := .meth "TablePaper" "letter_g") rfl), (defAt (x := "letter_g") (q := "TablePaper.letter_g") (s := s_TablePaper_letter_g) (p := ("TablePaper", some "letter_g")) (c.t.d.def_ 29 (d := dd ("TablePaper", some "letter_g") "letter_g" "TablePaper.letter_g" s_TablePaper_letter_g) rfl))⟩⟩
    f_SumsPaper_letter_f := ⟨⟨_, _, He.meth_ok (c.t.d.fact 62 (f := .meth "SumsPaper" "letter_f") rfl), (defAt (x := "letter_f") (q := "SumsPaper.letter_f") (s := s_SumsPaper_letter_f) (p := ("SumsPaper", some "letter_f")) (c.t.d.def_ 31 (d := dd ("SumsPaper", some "letter_f") "letter_f" "SumsPaper.letter_f" s_SumsPaper_letter_f) rfl))⟩⟩
    f_SumsPaper_letter_g := ⟨⟨_, _, He.meth_ok (c.t.d.fact 63 (f := .meth "SumsPaper" "letter_g") rfl), (defAt (x := "letter_g") (q := "SumsPaper.letter_g") (s := s_SumsPaper_letter_g) (p := ("SumsPaper", some "letter_g")) (c.t.d.def_ 32 (d := dd ("SumsPaper", some "letter_g") "letter_g" "SumsPaper.letter_g" s_SumsPaper_letter_g) rfl))⟩⟩
    f_paper_of := ⟨⟨_, _, (He.glo_ok X G (c.t.d.fact 64 (f := .glo "paper_of") rfl)), (defAt (x := "paper_of") (q := "paper_of") (s := s_paper_of) (p := ("paper_of", none)) (c.t.d.def_ 33 (d := dd ("paper_of", none) "paper_of" "paper_of" s_paper_of) rfl))⟩⟩
    f_check_paper := ⟨⟨_, _, (He.glo_ok X G (c.t.d.fact 65 (f := .glo "check_paper") rfl)), (defAt (x := "check_paper") (q := "check_paper") (s := s_check_paper) (p := ("check_paper", none)) (c.t.d.def_ 34 (d := dd ("check_paper", none) "check_paper" "check_paper" s_check_paper) rfl))⟩⟩
    f_tape_length := ⟨⟨_, _, (He.glo_ok X G (c.t.d.fact 66 (f := .glo "tape_length") rfl)), (defAt (x := "tape_length") (q := "tape_length") (s := s_tape_length) (p := ("tape_length", none)) (c.t.d.def_ 35 (d := dd ("tape_length", none) "tape_length" "tape_length" s_tape_length) rfl))⟩⟩
    f__square := ⟨⟨_, _, (He.glo_ok X G (c.t.d.fact 67 (f := .glo "_square") rfl)), (defAt (x := "_square") (q := "_square") (s := s__square) (p := ("_square", none)) (c.t.d.def_ 36 (d := dd ("_square", none) "_square" "_square" s__square) rfl))⟩⟩
    f__check_tape := ⟨⟨_, _, (He.glo_ok X G (c.t.d.fact 68 (f := .glo "_check_tape") rfl)), (defAt (x := "_check_tape") (q := "_check_tape") (s := s__check_tape) (p := ("_check_tape", none)) (c.t.d.def_ 37 (d := dd ("_check_tape", none) "_check_tape" "_check_tape" s__check_tape) rfl))⟩⟩
    f__places_and_bit := ⟨⟨_, _, (He.glo_ok X G (c.t.d.fact 69 (f := .glo "_places_and_bit") rfl)), (defAt (x := "_places_and_bit") (q := "_places_and_bit") (s := s__places_and_bit) (p := ("_places_and_bit", none)) (c.t.d.def_ 38 (d := dd ("_places_and_bit", none) "_places_and_bit" "_places_and_bit" s__places_and_bit) rfl))⟩⟩
    f__letter := ⟨⟨_, _, (He.glo_ok X G (c.t.d.fact 70 (f := .glo "_letter") rfl)), (defAt (x := "_letter") (q := "_letter") (s := s__letter) (p := ("_letter", none)) (c.t.d.def_ 39 (d := dd ("_letter", none) "_letter" "_letter" s__letter) rfl))⟩⟩
    f_passes := ⟨⟨_, _, (He.glo_ok X G (c.t.d.fact 71 (f := .glo "passes") rfl)), (defAt (x := "passes") (q := "passes") (s := s_passes) (p := ("passes", none)) (c.t.d.def_ 40 (d := dd ("passes", none) "passes" "passes" s_passes) rfl))⟩⟩
    f_is_number_below := ⟨⟨_, _, (He.glo_ok X G (c.t.d.fact 72 (f := .glo "is_number_below") rfl)), (defAt (x := "is_number_below") (q := "is_number_below") (s := s_is_number_below) (p := ("is_number_below", none)) (c.t.d.def_ 41 (d := dd ("is_number_below", none) "is_number_below" "is_number_below" s_is_number_below) rfl))⟩⟩
    f_ascends := ⟨⟨_, _, _, (He.glo_ok X G (c.t.d.fact 73 (f := .glo "ascends") rfl)), (defAt (x := "ascends") (q := "ascends") (s := s_ascends) (p := ("ascends", none)) (c.t.d.def_ 42 (d := dd ("ascends", none) "ascends" "ascends" s_ascends) rfl)), (List.mem_map.mpr ⟨("ascends", none), List.mem_of_getElem? (i := 9) rfl, rfl⟩)⟩⟩
    f_is_pair := ⟨⟨_, _, (He.glo_ok X G (c.t.d.fact 74 (f := .glo "is_pair") rfl)), (defAt (x := "is_pair") (q := "is_pair") (s := s_is_pair) (p := ("is_pair", none)) (c.t.d.def_ 43 (d := dd ("is_pair", none) "is_pair" "is_pair" s_is_pair) rfl))⟩⟩
    f_is_equation := ⟨⟨_, _, _, (He.glo_ok X G (c.t.d.fact 75 (f := .glo "is_equation") rfl)), (defAt (x := "is_equation") (q := "is_equation") (s := s_is_equation) (p := ("is_equation", none)) (c.t.d.def_ 44 (d := dd ("is_equation", none) "is_equation" "is_equation" s_is_equation) rfl)), (List.mem_map.mpr ⟨("is_equation", none), List.mem_of_getElem? (i := 10) rfl, rfl⟩)⟩⟩
    f_Systemd_initd := ⟨⟨_, _, He.mkr_ok (c.t.d.fact 32 (f := .mkr "System") rfl), (defAt (x := "__init__") (q := "System.__init__") (s := s_Systemd_initd) (p := ("System", some "__init__")) (c.t.d.def_ 45 (d := dd ("System", some "__init__") "__init__" "System.__init__" s_Systemd_initd) rfl))⟩⟩
    f_Systemd_lend := ⟨⟨_, _, He.meth_ok (c.t.d.fact 76 (f := .meth "System" "__len__") rfl), (defAt (x := "__len__") (q := "System.__len__") (s := s_Systemd_lend) (p := ("System", some "__len__")) (c.t.d.def_ 46 (d := dd ("System", some "__len__") "__len__" "System.__len__" s_Systemd_lend) rfl))⟩⟩
    f_System_drawn := ⟨⟨_, _, _, He.meth_ok (c.t.d.fact 77 (f := .meth "System" "drawn") rfl), (defAt (x := "drawn") (q := "System.drawn") (s := s_System_drawn) (p := ("System", some "drawn")) (c.t.d.def_ 47 (d := dd ("System", some "drawn") "drawn" "System.drawn" s_System_drawn) rfl)), (List.mem_map.mpr ⟨("System", some "drawn"), List.mem_of_getElem? (i := 11) rfl, rfl⟩)⟩⟩
    f__law_mixed := ⟨⟨_, _, (He.glo_ok X G (c.t.d.fact 78 (f := .glo "_law_mixed") rfl)), (defAt (x := "_law_mixed") (q := "_law_mixed") (s := s__law_mixed) (p := ("_law_mixed", none)) (c.t.d.def_ 48 (d := dd ("_law_mixed", none) "_law_mixed" "_law_mixed" s__law_mixed) rfl))⟩⟩
    f__law_tape := ⟨⟨_, _, (He.glo_ok X G (c.t.d.fact 79 (f := .glo "_law_tape") rfl)), (defAt (x := "_law_tape") (q := "_law_tape") (s := s__law_tape) (p := ("_law_tape", none)) (c.t.d.def_ 49 (d := dd ("_law_tape", none) "_law_tape" "_law_tape" s__law_tape) rfl))⟩⟩
    f__law_draw := ⟨⟨_, _, (He.glo_ok X G (c.t.d.fact 80 (f := .glo "_law_draw") rfl)), (defAt (x := "_law_draw") (q := "_law_draw") (s := s__law_draw) (p := ("_law_draw", none)) (c.t.d.def_ 50 (d := dd ("_law_draw", none) "_law_draw" "_law_draw" s__law_draw) rfl))⟩⟩
    f__law_pick := ⟨⟨_, _, (He.glo_ok X G (c.t.d.fact 81 (f := .glo "_law_pick") rfl)), (defAt (x := "_law_pick") (q := "_law_pick") (s := s__law_pick) (p := ("_law_pick", none)) (c.t.d.def_ 51 (d := dd ("_law_pick", none) "_law_pick" "_law_pick" s__law_pick) rfl))⟩⟩
    f__law_word := ⟨⟨_, _, (He.glo_ok X G (c.t.d.fact 82 (f := .glo "_law_word") rfl)), (defAt (x := "_law_word") (q := "_law_word") (s := s__law_word) (p := ("_law_word", none)) (c.t.d.def_ 52 (d := dd ("_law_word", none) "_law_word" "_law_word" s__law_word) rfl))⟩⟩
    f__law_left := ⟨⟨_, _, (He.glo_ok X G (c.t.d.fact 83 (f := .glo "_law_left") rfl)), (defAt (x := "_law_left") (q := "_law_left") (s := s__law_left) (p := ("_law_left", none)) (c.t.d.def_ 53 (d := dd ("_law_left", none) "_law_left" "_law_left" s__law_left) rfl))⟩⟩
    f__law_equation := ⟨⟨_, _, (He.glo_ok X G (c.t.d.fact 84 (f := .glo "_law_equation") rfl)), (defAt (x := "_law_equation") (q := "_law_equation") (s := s__law_equation) (p := ("_law_equation", none)) (c.t.d.def_ 54 (d := dd ("_law_equation", none) "_law_equation" "_law_equation" s__law_equation) rfl))⟩⟩
    f__law_equations := ⟨⟨_, _, (He.glo_ok X G (c.t.d.fact 85 (f := .glo "_law_equations") rfl)), (defAt (x := "_law_equations") (q := "_law_equations") (s := s__law_equations) (p := ("_law_equations", none)) (c.t.d.def_ 55 (d := dd ("_law_equations", none) "_law_equations" "_law_equations" s__law_equations) rfl))⟩⟩
    f__law_times_word := ⟨⟨_, _, (He.glo_ok X G (c.t.d.fact 86 (f := .glo "_law_times_word") rfl)), (defAt (x := "_law_times_word") (q := "_law_times_word") (s := s__law_times_word) (p := ("_law_times_word", none)) (c.t.d.def_ 56 (d := dd ("_law_times_word", none) "_law_times_word" "_law_times_word" s__law_times_word) rfl))⟩⟩
    f__law_square_of := ⟨⟨_, _, (He.glo_ok X G (c.t.d.fact 87 (f := .glo "_law_square_of") rfl)), (defAt (x := "_law_square_of") (q := "_law_square_of") (s := s__law_square_of) (p := ("_law_square_of", none)) (c.t.d.def_ 57 (d := dd ("_law_square_of", none) "_law_square_of" "_law_square_of" s__law_square_of) rfl))⟩⟩
    f__law_flat := ⟨⟨_, _, (He.glo_ok X G (c.t.d.fact 88 (f := .glo "_law_flat") rfl)), (defAt (x := "_law_flat") (q := "_law_flat") (s := s__law_flat) (p := ("_law_flat", none)) (c.t.d.def_ 58 (d := dd ("_law_flat", none) "_law_flat" "_law_flat" s__law_flat) rfl))⟩⟩
    f__law_rows := ⟨⟨_, _, (He.glo_ok X G (c.t.d.fact 89 (f := .glo "_law_rows") rfl)), (defAt (x := "_law_rows") (q := "_law_rows") (s := s__law_rows) (p := ("_law_rows", none)) (c.t.d.def_ 59 (d := dd ("_law_rows", none) "_law_rows" "_law_rows" s__law_rows) rfl))⟩⟩
    f__law_square := ⟨⟨_, _, (He.glo_ok X G (c.t.d.fact 90 (f := .glo "_law_square") rfl)), (defAt (x := "_law_square") (q := "_law_square") (s := s__law_square) (p := ("_law_square", none)) (c.t.d.def_ 60 (d := dd ("_law_square", none) "_law_square" "_law_square" s__law_square) rfl))⟩⟩
    f__law_near_square := ⟨⟨_, _, (He.glo_ok X G (c.t.d.fact 91 (f := .glo "_law_near_square") rfl)), (defAt (x := "_law_near_square") (q := "_law_near_square") (s := s__law_near_square) (p := ("_law_near_square", none)) (c.t.d.def_ 61 (d := dd ("_law_near_square", none) "_law_near_square" "_law_near_square" s__law_near_square) rfl))⟩⟩
    f__law_number := ⟨⟨_, _, (He.glo_ok X G (c.t.d.fact 92 (f := .glo "_law_number") rfl)), (defAt (x := "_law_number") (q := "_law_number") (s := s__law_number) (p := ("_law_number", none)) (c.t.d.def_ 62 (d := dd ("_law_number", none) "_law_number" "_law_number" s__law_number) rfl))⟩⟩
    f__law_letter := ⟨⟨_, _, (He.glo_ok X G (c.t.d.fact 93 (f := .glo "_law_letter") rfl)), (defAt (x := "_law_letter") (q := "_law_letter") (s := s__law_letter) (p := ("_law_letter", none)) (c.t.d.def_ 63 (d := dd ("_law_letter", none) "_law_letter" "_law_letter" s__law_letter) rfl))⟩⟩
    f__law_distinct := ⟨⟨_, _, (He.glo_ok X G (c.t.d.fact 94 (f := .glo "_law_distinct") rfl)), (defAt (x := "_law_distinct") (q := "_law_distinct") (s := s__law_distinct) (p := ("_law_distinct", none)) (c.t.d.def_ 64 (d := dd ("_law_distinct", none) "_law_distinct" "_law_distinct" s__law_distinct) rfl))⟩⟩
    f__law_sums_paper := ⟨⟨_, _, (He.glo_ok X G (c.t.d.fact 95 (f := .glo "_law_sums_paper") rfl)), (defAt (x := "_law_sums_paper") (q := "_law_sums_paper") (s := s__law_sums_paper) (p := ("_law_sums_paper", none)) (c.t.d.def_ 65 (d := dd ("_law_sums_paper", none) "_law_sums_paper" "_law_sums_paper" s__law_sums_paper) rfl))⟩⟩
    f__law_table_paper := ⟨⟨_, _, (He.glo_ok X G (c.t.d.fact 96 (f := .glo "_law_table_paper") rfl)), (defAt (x := "_law_table_paper") (q := "_law_table_paper") (s := s__law_table_paper) (p := ("_law_table_paper", none)) (c.t.d.def_ 66 (d := dd ("_law_table_paper", none) "_law_table_paper" "_law_table_paper" s__law_table_paper) rfl))⟩⟩
    f__law_made := ⟨⟨_, _, (He.glo_ok X G (c.t.d.fact 97 (f := .glo "_law_made") rfl)), (defAt (x := "_law_made") (q := "_law_made") (s := s__law_made) (p := ("_law_made", none)) (c.t.d.def_ 67 (d := dd ("_law_made", none) "_law_made" "_law_made" s__law_made) rfl))⟩⟩
    f__law_length := ⟨⟨_, _, (He.glo_ok X G (c.t.d.fact 98 (f := .glo "_law_length") rfl)), (defAt (x := "_law_length") (q := "_law_length") (s := s__law_length) (p := ("_law_length", none)) (c.t.d.def_ 68 (d := dd ("_law_length", none) "_law_length" "_law_length" s__law_length) rfl))⟩⟩
    f__law_both := ⟨⟨_, _, (He.glo_ok X G (c.t.d.fact 99 (f := .glo "_law_both") rfl)), (defAt (x := "_law_both") (q := "_law_both") (s := s__law_both) (p := ("_law_both", none)) (c.t.d.def_ 69 (d := dd ("_law_both", none) "_law_both" "_law_both" s__law_both) rfl))⟩⟩
    f__law_both_squares := ⟨⟨_, _, (He.glo_ok X G (c.t.d.fact 100 (f := .glo "_law_both_squares") rfl)), (defAt (x := "_law_both_squares") (q := "_law_both_squares") (s := s__law_both_squares) (p := ("_law_both_squares", none)) (c.t.d.def_ 70 (d := dd ("_law_both_squares", none) "_law_both_squares" "_law_both_squares" s__law_both_squares) rfl))⟩⟩
    f__law_drawn := ⟨⟨_, _, (He.glo_ok X G (c.t.d.fact 101 (f := .glo "_law_drawn") rfl)), (defAt (x := "_law_drawn") (q := "_law_drawn") (s := s__law_drawn) (p := ("_law_drawn", none)) (c.t.d.def_ 71 (d := dd ("_law_drawn", none) "_law_drawn" "_law_drawn" s__law_drawn) rfl))⟩⟩
    f__law_places := ⟨⟨_, _, (He.glo_ok X G (c.t.d.fact 102 (f := .glo "_law_places") rfl)), (defAt (x := "_law_places") (q := "_law_places") (s := s__law_places) (p := ("_law_places", none)) (c.t.d.def_ 72 (d := dd ("_law_places", none) "_law_places" "_law_places" s__law_places) rfl))⟩⟩
    f__law_passes := ⟨⟨_, _, (He.glo_ok X G (c.t.d.fact 103 (f := .glo "_law_passes") rfl)), (defAt (x := "_law_passes") (q := "_law_passes") (s := s__law_passes) (p := ("_law_passes", none)) (c.t.d.def_ 73 (d := dd ("_law_passes", none) "_law_passes" "_law_passes" s__law_passes) rfl))⟩⟩
    f__law_solved := ⟨⟨_, _, (He.glo_ok X G (c.t.d.fact 104 (f := .glo "_law_solved") rfl)), (defAt (x := "_law_solved") (q := "_law_solved") (s := s__law_solved) (p := ("_law_solved", none)) (c.t.d.def_ 74 (d := dd ("_law_solved", none) "_law_solved" "_law_solved" s__law_solved) rfl))⟩⟩
    f__law_solution_passes := ⟨⟨_, _, (He.glo_ok X G (c.t.d.fact 105 (f := .glo "_law_solution_passes") rfl)), (defAt (x := "_law_solution_passes") (q := "_law_solution_passes") (s := s__law_solution_passes) (p := ("_law_solution_passes", none)) (c.t.d.def_ 75 (d := dd ("_law_solution_passes", none) "_law_solution_passes" "_law_solution_passes" s__law_solution_passes) rfl))⟩⟩
    f__law_other_letter := ⟨⟨_, _, (He.glo_ok X G (c.t.d.fact 106 (f := .glo "_law_other_letter") rfl)), (defAt (x := "_law_other_letter") (q := "_law_other_letter") (s := s__law_other_letter) (p := ("_law_other_letter", none)) (c.t.d.def_ 76 (d := dd ("_law_other_letter", none) "_law_other_letter" "_law_other_letter" s__law_other_letter) rfl))⟩⟩
    f__law_same_verdict := ⟨⟨_, _, (He.glo_ok X G (c.t.d.fact 107 (f := .glo "_law_same_verdict") rfl)), (defAt (x := "_law_same_verdict") (q := "_law_same_verdict") (s := s__law_same_verdict) (p := ("_law_same_verdict", none)) (c.t.d.def_ 77 (d := dd ("_law_same_verdict", none) "_law_same_verdict" "_law_same_verdict" s__law_same_verdict) rfl))⟩⟩
    f__law_told := ⟨⟨_, _, (He.glo_ok X G (c.t.d.fact 108 (f := .glo "_law_told") rfl)), (defAt (x := "_law_told") (q := "_law_told") (s := s__law_told) (p := ("_law_told", none)) (c.t.d.def_ 78 (d := dd ("_law_told", none) "_law_told" "_law_told" s__law_told) rfl))⟩⟩
    f_law := ⟨⟨_, _, (He.glo_ok X G (c.t.d.fact 109 (f := .glo "law") rfl)), (defAt (x := "law") (q := "law") (s := s_law) (p := ("law", none)) (c.t.d.def_ 79 (d := dd ("law", none) "law" "law" s_law) rfl))⟩⟩ }
theorem mkFy (X : K.In h) (G : h.Ns mainGlobals mg) (c : He.SaysX fa fn [] tf ex w h K) : @Fy (mkCf X G c) (mkFx X G c) := by
  letI : Cf := mkCf X G c
  letI : Fx := mkFx X G c
  obtain ⟨_, _, _, _, _, _, _, e1, e2, _⟩ := exs c
  obtain ⟨fd, F⟩ := c.t.d.def_ 30 (d := ⟨("SumsPaper", some "__init__"), "__init__", "SumsPaper.__init__", defArgs s_SumsPaperd_initd, defBody s_SumsPaperd_initd, defScope s_SumsPaperd_initd, [], [("words", .adr (kwAt ("SumsPaper", some "__init__") "words")), ("squares", .adr (kwAt ("SumsPaper", some "__init__") "squares"))]⟩) rfl
  exact { k_init := ⟨⟨He.fAd K it, (He.cT K it).1, (He.cT K it).2, kwAt it "words" K, kwAt it "squares" K, fd, He.mkr_ok (c.t.d.fact 27 (f := .mkr "SumsPaper") rfl), defAt (p := it) ⟨fd, F⟩, F, em_ok e1, em_ok e2, List.mem_singleton.mpr rfl, fun p hp _ => by rw [List.mem_singleton.mp hp]⟩⟩ }
theorem tabG {H : Hp} {P : Addr} (h : H P = some (.tbl #[])) : GxR.TabG H P := ⟨#[], h, trivial⟩
theorem tabS {H : Hp} {P : Addr} {q : Str} (h : H P = some (.tbl #[])) : LamX.TabS H P q := ⟨#[], h, trivial, fun pos cv z => by cases z⟩
theorem atHead (X : K.In h) (G : h.Ns mainGlobals mg) (hfa : mg ("law" : Str) = some (.ref fa0)) (c : He.SaysX fa fn [] tf ex w h K) : LamX.LawAtS PySem.Challenge.rw_fourread_k38_whole_solutions_pass w K CX0 23 63 "_law_script" mg fa0 h := by
  letI : Cf := mkCf X G c
  letI : Fx := mkFx X G c
  letI : Fy := mkFy X G c
  obtain ⟨f, hf, hA⟩ := t_law
  have ef : f = fa0 := by
    have z : mg ("law" : Str) = some (.ref f) := hf
    rw [hfa] at z
    injection z with z
    injection z with z
    exact z.symm
  subst ef
  obtain ⟨od, fd, lk, ed, kp, bd, F⟩ := hA.ex
  obtain ⟨fd', F'⟩ := c.t.d.def_ 79 (d := dd ("law", none) "law" "law" s_law) rfl
  have ga : He.fAd K ("law", none) = f := by
    have z := He.glo_ok X G (c.t.d.fact 109 (f := .glo "law") rfl)
    rw [hfa] at z
    injection z with z
    injection z with z
    exact z.symm
  have efd : fd' = fd := by
    obtain ⟨oc, od', dV, kV, doc, pm, an, cdv, ct, osl, e1, lk', _⟩ := F'.ex
    have lk2 : K.lookup f = some ⟨oc, od', .func fd', osl⟩ := by rw [← ga]; exact lk'
    have lk3 : K.lookup f = some od := lk
    rw [lk2] at lk3
    injection lk3 with lk3
    rw [← lk3] at ed
    injection ed
  subst efd
  refine ⟨fd', tf.map (He.cT K), spLaw, fun p hp => ?_, fun p hp => ?_, fun p hp => ?_, fun s u => ?_, fun H a ns _ _ hH hS => ?_, fun base KB NB TB => ?_⟩
  · obtain ⟨q, hq, rfl⟩ := List.mem_map.mp hp
    exact c.empty q hq
  · obtain ⟨q, hq, rfl⟩ := List.mem_map.mp hp
    exact c.out q hq
  · obtain ⟨q, hq, rfl⟩ := List.mem_map.mp hp
    exact PySem.W.codeHd_of_K X (c.hd q hq)
  · exact FunD.bindsA (ps := ["_law_script"]) F' (fun _ _ _ _ _ _ us hl => match us, hl with | [_], _ => rfl) s [u] rfl
  · refine ⟨a, ns, rfl, hS, ⟨fun p hp => ?_, fun p hp => ?_, fun _ z => nomatch z⟩, fun _ => rfl⟩
    · exact tabG (hH p (List.mem_cons_of_mem _ hp))
    · have hp' : p ∈ [((He.cT K it).2, lamQ)] := hp
      rw [List.mem_singleton.mp hp']
      exact tabS (hH _ (List.mem_cons_self))
  · refine F base ⟨fun p hp => ?_, fun p hp => ?_⟩
    · exact TB p (List.mem_cons_of_mem _ hp)
    · have hp' : p ∈ [((He.cT K it).1, (He.cT K it).2, lamQ)] := hp
      rw [List.mem_singleton.mp hp']
      exact TB _ (List.mem_cons_self)
end
end Fin
set_option maxHeartbeats 0
open PySem PySem.W PySem.Calls PyProof.Rows
theorem PySem.Challenge.cw_fourread_k38_whole_solutions_pass_holds : PySem.Challenge.rw_fourread_k38_whole_solutions_pass.Holds := by
  w_on; o_law
  refine HandSHeadRun.head_any (r := Fin.R) (q := view Fin.R.prog [91]) (H := Fin.hk) (ob := Fin.ob) (M := 20000) (loose := Fin.loose) (d := HandSHeadRun.topDef Fin.R.prog 91) (kwd := []) Fin.ob_eq
    (by kernel_rfl) (fun s => by kernel_rfl) Fin.run (by kernel_rfl) (by kernel_rfl) (by kernel_rfl) (by rfl) (by first | assumption | decide +kernel) (by decide +kernel) ⟨rfl, rfl, rfl, rfl, rfl, by decide +kernel⟩ ?hw ?hc
  case hw => w_witness2
  case hc =>
    refine LamX.walk_ofTsE (l := PySem.Challenge.rw_fourread_k38_whole_solutions_pass) (n := 63) (k := 23) (x := "_law_script") (CX := fun _ => L2.CX0) rfl (by decide) (by kernel_rfl) ⟨rfl, by decide, by decide⟩ ?F (fun _ _ _ _ _ z => z)
    intro w mg fa h Y G hmg0
    obtain ⟨K, KX, c⟩ := Y
    have hmg : mg ("law" : PySem.Str) = some (.ref fa) := by
      have e : (HandSHeadRun.topDef Fin.R.prog 91).name = ("law" : PySem.Str) := by kernel_rfl
      rw [← e]
      exact hmg0
    exact ⟨K, KX, Fin.atHead KX G hmg c⟩
