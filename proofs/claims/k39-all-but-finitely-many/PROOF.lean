import PyProof.Rows.All
import Wide.All
import OpenK.AllK
import Wide.FinOn
import KE.KDictKeyed
import KE.SortData
import KE.DataCmp
import HandS.ForMost
import HandS.Walk
import HandS.Zip
import HandS.Conv
import HandS.DictComp
import HandS.Defaults
import HandS.IsInst
import HandS.ClsMeth
import HandS.RaiseMore
import HandS.SetKeys
import HandS.TupAny
import HandS.TupSets
import HandS.SortKw
import HandS.SortInts
import HandS.Wide
import HandS.MakeKw
import HandS.Star
import HandS.CallLocal
import HandS.Head0
import HandS.Head1
import HandS.Head2
import HandS.HeadEnd
import HandS.HeadHook1
import HandS.HeadHook2
import HandS.HeadNt
import HandS.HeadHook3
import HandS.HeadHook4
import HandS.HeadWalk
import HandS.Lambda
import KE.SortKeyHeap
import PySem.Challenge.RW_loneguess_k39_whole_all_but_finitely_man
import KE.KDictCopyH
import HandS.TupLen
import KE.KDictPairs
import HandS.Strs
import KE.KStar
import KE.DataMinMax
import KE.GoesMore
import HandS.DictTup
import KE.GoesEnum
import PyProof.TupleOfSeq
section Text_K39T
set_option Elab.async false set_option linter.all false set_option maxRecDepth 100000 set_option maxHeartbeats 4000000
/-! The text by names; what the head tells of it. Printed by gen_facts.py. -/
namespace K39
open PySem PySem.Spec L2
def top (i : Nat) : Stmt := PySem.Challenge.pw_loneguess_k39_whole_all_but_finitely_man.main.body.getD i (.Pass ⟨0, 0, 0, 0⟩)
abbrev s_is_integer : Stmt := top 14
abbrev s_is_integer_within : Stmt := top 15
abbrev s_are_small : Stmt := top 16
abbrev s_is_ascending : Stmt := top 17
abbrev s_is_letters : Stmt := top 18
abbrev s_is_text_within : Stmt := top 19
abbrev s_require_letters : Stmt := top 20
abbrev s_is_number_set : Stmt := top 22
abbrev s_is_letter_of : Stmt := top 25
abbrev s_is_arrow : Stmt := top 26
abbrev s_are_arrows : Stmt := top 27
abbrev s_moves_of : Stmt := top 28
abbrev s_beginnings_of : Stmt := top 29
abbrev s_require_reader : Stmt := top 33
abbrev s_turned_of : Stmt := top 39
abbrev s_require_size : Stmt := top 40
abbrev s_pairs_of : Stmt := top 41
abbrev s_both_of : Stmt := top 42
abbrev s_first_row_of : Stmt := top 45
abbrev s_stepped : Stmt := top 47
abbrev s_end_of : Stmt := top 48
abbrev s_are_parts : Stmt := top 51
abbrev s_length_of : Stmt := top 55
abbrev s_pairs_among : Stmt := top 57
abbrev s_ordered : Stmt := top 58
abbrev s_two_of : Stmt := top 60
abbrev s_require_lone : Stmt := top 61
abbrev s_within_tally : Stmt := top 63
abbrev s_require_two : Stmt := top 64
abbrev s_require_pair : Stmt := top 65
abbrev s_is_within_of : Stmt := top 66
abbrev s_is_within : Stmt := top 67
abbrev s_late_totals : Stmt := top 68
abbrev s_is_nearly_within : Stmt := top 69
abbrev s_rest : Stmt := top 70
abbrev s_l_pot : Stmt := top 72
abbrev s_l_bit : Stmt := top 73
abbrev s_l_pick : Stmt := top 74
abbrev s_l_dealt : Stmt := top 75
abbrev s_l_some_of : Stmt := top 76
abbrev s_l_told_reader : Stmt := top 79
abbrev s_l_any_reader : Stmt := top 80
abbrev s_l_plain_reader : Stmt := top 81
abbrev s_l_flipped : Stmt := top 82
abbrev s_l_renumbered : Stmt := top 83
abbrev s_l_pair_reader : Stmt := top 84
abbrev s_l_is_sole : Stmt := top 85
abbrev s_l_sole : Stmt := top 86
abbrev s_l_made_reader : Stmt := top 87
abbrev s_l_gone_set : Stmt := top 88
abbrev s_l_does_end : Stmt := top 89
abbrev s_l_map : Stmt := top 90
abbrev s_l_live : Stmt := top 91
abbrev s_l_rest : Stmt := top 92
abbrev s_l_drawn : Stmt := top 93
abbrev s_l_right : Stmt := top 94
abbrev s_law : Stmt := top 95
abbrev s_Reader_init : Stmt := inClass (top 30) 0
abbrev s_Reader_of_texts : Stmt := inClass (top 30) 1
abbrev s_Tally_init : Stmt := inClass (top 52) 0
abbrev s_Tally_first_one : Stmt := inClass (top 52) 5
abbrev s_Tally_pieces : Stmt := inClass (top 52) 6
abbrev s_Tally_paced : Stmt := inClass (top 52) 8
abbrev s_Tally_ended : Stmt := inClass (top 52) 9
abbrev s_Tally_totals_below : Stmt := inClass (top 52) 15
abbrev s_Twins_init : Stmt := inClass (top 59) 0
abbrev s_Twins_last_ones : Stmt := inClass (top 59) 1
abbrev s_Twins_fill : Stmt := inClass (top 59) 2
abbrev s_Twins_backs : Stmt := inClass (top 59) 3
abbrev s_Twins_begun : Stmt := inClass (top 59) 4
abbrev s_Twins_far : Stmt := inClass (top 59) 6
abbrev s_Twins_told : Stmt := inClass (top 59) 7
def fa0 : List He.Fa := [.glo "is_integer", .glo "is_integer_within", .glo "are_small", .glo "is_ascending", .glo "is_letters", .glo "is_text_within", .glo "require_letters", .glo "is_number_set", .glo "is_letter_of", .glo "is_arrow", .glo "are_arrows", .glo "moves_of", .glo "beginnings_of", .glo "require_reader", .glo "turned_of", .glo "require_size", .glo "pairs_of", .glo "both_of", .glo "first_row_of", .glo "stepped", .glo "end_of", .glo "are_parts", .glo "length_of", .glo "pairs_among", .glo "ordered", .glo "two_of", .glo "require_lone", .glo "within_tally", .glo "require_two", .glo "require_pair", .glo "is_within_of", .glo "is_within", .glo "late_totals", .glo "is_nearly_within", .glo "rest", .glo "_law_pot", .glo "_law_bit", .glo "_law_pick", .glo "_law_dealt", .glo "_law_some_of"]
def fa1 : List He.Fa := [.glo "_law_told_reader", .glo "_law_any_reader", .glo "_law_plain_reader", .glo "_law_flipped", .glo "_law_renumbered", .glo "_law_pair_reader", .glo "_law_is_sole", .glo "_law_sole", .glo "_law_made_reader", .glo "_law_gone_set", .glo "_law_does_end", .glo "_law_map", .glo "_law_live", .glo "_law_rest", .glo "_law_drawn", .glo "_law_right", .glo "law", .glo "Reader", .cls "Reader", .mkr "Reader", .noat "Reader" "own_letters", .noat "Reader" "own_size", .noat "Reader" "own_states", .noat "Reader" "own_firsts", .noat "Reader" "own_lasts", .noat "Reader" "own_arrows", .noat "Reader" "own_moves", .glo "Tally", .cls "Tally", .mkr "Tally", .noat "Tally" "own_parts", .noat "Tally" "own_letters", .noat "Tally" "own_width", .meth "Tally" "first_one", .meth "Tally" "pieces", .meth "Tally" "paced", .meth "Tally" "ended", .meth "Tally" "totals_below", .glo "Twins", .cls "Twins"]
def fa2 : List He.Fa := [.mkr "Twins", .noat "Twins" "own_reader", .noat "Twins" "own_far", .noat "Twins" "own_backs", .meth "Twins" "last_ones", .meth "Twins" "fill", .meth "Twins" "backs", .meth "Twins" "begun", .meth "Twins" "far", .meth "Twins" "told", .free "isinstance", .free "int", .free "bool", .free "all", .free "zip", .free "len", .free "str", .free "tuple", .free "range", .free "sorted", .free "list", .free "set", .free "enumerate", .free "sum", .free "min", .free "max", .free "any", .free "repr", .free "dict", .free "abs", .int "MOST_LETTERS" 4, .int "GREATEST" (10 ^ 200 - 1), .int "MAX_STATES" 60, .int "MAX_WIDTH" 200]
def fa : List He.Fa := fa0 ++ fa1 ++ fa2
def D_is_integer : He5.DefA := ⟨fun K => He.ga K "is_integer", "is_integer", "is_integer", defArgs s_is_integer, defBody s_is_integer, defScope s_is_integer, [], []⟩
def D_is_integer_within : He5.DefA := ⟨fun K => He.ga K "is_integer_within", "is_integer_within", "is_integer_within", defArgs s_is_integer_within, defBody s_is_integer_within, defScope s_is_integer_within, [], []⟩
def D_are_small : He5.DefA := ⟨fun K => He.ga K "are_small", "are_small", "are_small", defArgs s_are_small, defBody s_are_small, defScope s_are_small, [], []⟩
def D_is_ascending : He5.DefA := ⟨fun K => He.ga K "is_ascending", "is_ascending", "is_ascending", defArgs s_is_ascending, defBody s_is_ascending, defScope s_is_ascending, [], []⟩
def D_is_letters : He5.DefA := ⟨fun K => He.ga K "is_letters", "is_letters", "is_letters", defArgs s_is_letters, defBody s_is_letters, defScope s_is_letters, [], []⟩
def D_is_text_within : He5.DefA := ⟨fun K => He.ga K "is_text_within", "is_text_within", "is_text_within", defArgs s_is_text_within, defBody s_is_text_within, defScope s_is_text_within, [], []⟩
def D_require_letters : He5.DefA := ⟨fun K => He.ga K "require_letters", "require_letters", "require_letters", defArgs s_require_letters, defBody s_require_letters, defScope s_require_letters, [], []⟩
def D_is_number_set : He5.DefA := ⟨fun K => He.ga K "is_number_set", "is_number_set", "is_number_set", defArgs s_is_number_set, defBody s_is_number_set, defScope s_is_number_set, [], []⟩
def D_is_letter_of : He5.DefA := ⟨fun K => He.ga K "is_letter_of", "is_letter_of", "is_letter_of", defArgs s_is_letter_of, defBody s_is_letter_of, defScope s_is_letter_of, [], []⟩
def D_is_arrow : He5.DefA := ⟨fun K => He.ga K "is_arrow", "is_arrow", "is_arrow", defArgs s_is_arrow, defBody s_is_arrow, defScope s_is_arrow, [], []⟩
def D_are_arrows : He5.DefA := ⟨fun K => He.ga K "are_arrows", "are_arrows", "are_arrows", defArgs s_are_arrows, defBody s_are_arrows, defScope s_are_arrows, [], []⟩
def D_moves_of : He5.DefA := ⟨fun K => He.ga K "moves_of", "moves_of", "moves_of", defArgs s_moves_of, defBody s_moves_of, defScope s_moves_of, [], []⟩
def D_beginnings_of : He5.DefA := ⟨fun K => He.ga K "beginnings_of", "beginnings_of", "beginnings_of", defArgs s_beginnings_of, defBody s_beginnings_of, defScope s_beginnings_of, [], []⟩
def D_require_reader : He5.DefA := ⟨fun K => He.ga K "require_reader", "require_reader", "require_reader", defArgs s_require_reader, defBody s_require_reader, defScope s_require_reader, [], []⟩
def D_turned_of : He5.DefA := ⟨fun K => He.ga K "turned_of", "turned_of", "turned_of", defArgs s_turned_of, defBody s_turned_of, defScope s_turned_of, [], []⟩
def D_require_size : He5.DefA := ⟨fun K => He.ga K "require_size", "require_size", "require_size", defArgs s_require_size, defBody s_require_size, defScope s_require_size, [], []⟩
def D_pairs_of : He5.DefA := ⟨fun K => He.ga K "pairs_of", "pairs_of", "pairs_of", defArgs s_pairs_of, defBody s_pairs_of, defScope s_pairs_of, [], []⟩
def D_both_of : He5.DefA := ⟨fun K => He.ga K "both_of", "both_of", "both_of", defArgs s_both_of, defBody s_both_of, defScope s_both_of, [], []⟩
def D_first_row_of : He5.DefA := ⟨fun K => He.ga K "first_row_of", "first_row_of", "first_row_of", defArgs s_first_row_of, defBody s_first_row_of, defScope s_first_row_of, [], []⟩
def D_stepped : He5.DefA := ⟨fun K => He.ga K "stepped", "stepped", "stepped", defArgs s_stepped, defBody s_stepped, defScope s_stepped, [], []⟩
def D_end_of : He5.DefA := ⟨fun K => He.ga K "end_of", "end_of", "end_of", defArgs s_end_of, defBody s_end_of, defScope s_end_of, [], []⟩
def D_are_parts : He5.DefA := ⟨fun K => He.ga K "are_parts", "are_parts", "are_parts", defArgs s_are_parts, defBody s_are_parts, defScope s_are_parts, [], []⟩
def D_length_of : He5.DefA := ⟨fun K => He.ga K "length_of", "length_of", "length_of", defArgs s_length_of, defBody s_length_of, defScope s_length_of, [], []⟩
def D_pairs_among : He5.DefA := ⟨fun K => He.ga K "pairs_among", "pairs_among", "pairs_among", defArgs s_pairs_among, defBody s_pairs_among, defScope s_pairs_among, [], []⟩
def D_ordered : He5.DefA := ⟨fun K => He.ga K "ordered", "ordered", "ordered", defArgs s_ordered, defBody s_ordered, defScope s_ordered, [], []⟩
def D_two_of : He5.DefA := ⟨fun K => He.ga K "two_of", "two_of", "two_of", defArgs s_two_of, defBody s_two_of, defScope s_two_of, [], []⟩
def D_require_lone : He5.DefA := ⟨fun K => He.ga K "require_lone", "require_lone", "require_lone", defArgs s_require_lone, defBody s_require_lone, defScope s_require_lone, [], []⟩
def D_within_tally : He5.DefA := ⟨fun K => He.ga K "within_tally", "within_tally", "within_tally", defArgs s_within_tally, defBody s_within_tally, defScope s_within_tally, [], []⟩
def D_require_two : He5.DefA := ⟨fun K => He.ga K "require_two", "require_two", "require_two", defArgs s_require_two, defBody s_require_two, defScope s_require_two, [], []⟩
def D_require_pair : He5.DefA := ⟨fun K => He.ga K "require_pair", "require_pair", "require_pair", defArgs s_require_pair, defBody s_require_pair, defScope s_require_pair, [], []⟩
def D_is_within_of : He5.DefA := ⟨fun K => He.ga K "is_within_of", "is_within_of", "is_within_of", defArgs s_is_within_of, defBody s_is_within_of, defScope s_is_within_of, [], []⟩
def D_is_within : He5.DefA := ⟨fun K => He.ga K "is_within", "is_within", "is_within", defArgs s_is_within, defBody s_is_within, defScope s_is_within, [], []⟩
def D_late_totals : He5.DefA := ⟨fun K => He.ga K "late_totals", "late_totals", "late_totals", defArgs s_late_totals, defBody s_late_totals, defScope s_late_totals, [], []⟩
def D_is_nearly_within : He5.DefA := ⟨fun K => He.ga K "is_nearly_within", "is_nearly_within", "is_nearly_within", defArgs s_is_nearly_within, defBody s_is_nearly_within, defScope s_is_nearly_within, [], []⟩
def D_rest : He5.DefA := ⟨fun K => He.ga K "rest", "rest", "rest", defArgs s_rest, defBody s_rest, defScope s_rest, [], []⟩
def D_l_pot : He5.DefA := ⟨fun K => He.ga K "_law_pot", "_law_pot", "_law_pot", defArgs s_l_pot, defBody s_l_pot, defScope s_l_pot, [], []⟩
def D_l_bit : He5.DefA := ⟨fun K => He.ga K "_law_bit", "_law_bit", "_law_bit", defArgs s_l_bit, defBody s_l_bit, defScope s_l_bit, [], []⟩
def D_l_pick : He5.DefA := ⟨fun K => He.ga K "_law_pick", "_law_pick", "_law_pick", defArgs s_l_pick, defBody s_l_pick, defScope s_l_pick, [], []⟩
def D_l_dealt : He5.DefA := ⟨fun K => He.ga K "_law_dealt", "_law_dealt", "_law_dealt", defArgs s_l_dealt, defBody s_l_dealt, defScope s_l_dealt, [], []⟩
def D_l_some_of : He5.DefA := ⟨fun K => He.ga K "_law_some_of", "_law_some_of", "_law_some_of", defArgs s_l_some_of, defBody s_l_some_of, defScope s_l_some_of, [], []⟩
def D_l_told_reader : He5.DefA := ⟨fun K => He.ga K "_law_told_reader", "_law_told_reader", "_law_told_reader", defArgs s_l_told_reader, defBody s_l_told_reader, defScope s_l_told_reader, [], []⟩
def D_l_any_reader : He5.DefA := ⟨fun K => He.ga K "_law_any_reader", "_law_any_reader", "_law_any_reader", defArgs s_l_any_reader, defBody s_l_any_reader, defScope s_l_any_reader, [], []⟩
def D_l_plain_reader : He5.DefA := ⟨fun K => He.ga K "_law_plain_reader", "_law_plain_reader", "_law_plain_reader", defArgs s_l_plain_reader, defBody s_l_plain_reader, defScope s_l_plain_reader, [], []⟩
def D_l_flipped : He5.DefA := ⟨fun K => He.ga K "_law_flipped", "_law_flipped", "_law_flipped", defArgs s_l_flipped, defBody s_l_flipped, defScope s_l_flipped, [], []⟩
def D_l_renumbered : He5.DefA := ⟨fun K => He.ga K "_law_renumbered", "_law_renumbered", "_law_renumbered", defArgs s_l_renumbered, defBody s_l_renumbered, defScope s_l_renumbered, [], []⟩
def D_l_pair_reader : He5.DefA := ⟨fun K => He.ga K "_law_pair_reader", "_law_pair_reader", "_law_pair_reader", defArgs s_l_pair_reader, defBody s_l_pair_reader, defScope s_l_pair_reader, [], []⟩
def D_l_is_sole : He5.DefA := ⟨fun K => He.ga K "_law_is_sole", "_law_is_sole", "_law_is_sole", defArgs s_l_is_sole, defBody s_l_is_sole, defScope s_l_is_sole, [], []⟩
def D_l_sole : He5.DefA := ⟨fun K => He.ga K "_law_sole", "_law_sole", "_law_sole", defArgs s_l_sole, defBody s_l_sole, defScope s_l_sole, [], []⟩
def D_l_made_reader : He5.DefA := ⟨fun K => He.ga K "_law_made_reader", "_law_made_reader", "_law_made_reader", defArgs s_l_made_reader, defBody s_l_made_reader, defScope s_l_made_reader, [], []⟩
def D_l_gone_set : He5.DefA := ⟨fun K => He.ga K "_law_gone_set", "_law_gone_set", "_law_gone_set", defArgs s_l_gone_set, defBody s_l_gone_set, defScope s_l_gone_set, [], []⟩
def D_l_does_end : He5.DefA := ⟨fun K => He.ga K "_law_does_end", "_law_does_end", "_law_does_end", defArgs s_l_does_end, defBody s_l_does_end, defScope s_l_does_end, [], []⟩
def D_l_map : He5.DefA := ⟨fun K => He.ga K "_law_map", "_law_map", "_law_map", defArgs s_l_map, defBody s_l_map, defScope s_l_map, [], []⟩
def D_l_live : He5.DefA := ⟨fun K => He.ga K "_law_live", "_law_live", "_law_live", defArgs s_l_live, defBody s_l_live, defScope s_l_live, [], []⟩
def D_l_rest : He5.DefA := ⟨fun K => He.ga K "_law_rest", "_law_rest", "_law_rest", defArgs s_l_rest, defBody s_l_rest, defScope s_l_rest, [], []⟩
def D_l_drawn : He5.DefA := ⟨fun K => He.ga K "_law_drawn", "_law_drawn", "_law_drawn", defArgs s_l_drawn, defBody s_l_drawn, defScope s_l_drawn, [], []⟩
def D_l_right : He5.DefA := ⟨fun K => He.ga K "_law_right", "_law_right", "_law_right", defArgs s_l_right, defBody s_l_right, defScope s_l_right, [], []⟩
def D_law : He5.DefA := ⟨fun K => He.ga K "law", "law", "law", defArgs s_law, defBody s_law, defScope s_law, [], []⟩
def D_Reader_init : He5.DefA := ⟨fun K => He.ma K (He.ga K "Reader") "__init__", "__init__", "Reader.__init__", defArgs s_Reader_init, defBody s_Reader_init, defScope s_Reader_init, [], []⟩
def D_Tally_init : He5.DefA := ⟨fun K => He.ma K (He.ga K "Tally") "__init__", "__init__", "Tally.__init__", defArgs s_Tally_init, defBody s_Tally_init, defScope s_Tally_init, [], []⟩
def D_Tally_first_one : He5.DefA := ⟨fun K => He.ma K (He.ga K "Tally") "first_one", "first_one", "Tally.first_one", defArgs s_Tally_first_one, defBody s_Tally_first_one, defScope s_Tally_first_one, [], []⟩
def D_Tally_pieces : He5.DefA := ⟨fun K => He.ma K (He.ga K "Tally") "pieces", "pieces", "Tally.pieces", defArgs s_Tally_pieces, defBody s_Tally_pieces, defScope s_Tally_pieces, [], []⟩
def D_Tally_paced : He5.DefA := ⟨fun K => He.ma K (He.ga K "Tally") "paced", "paced", "Tally.paced", defArgs s_Tally_paced, defBody s_Tally_paced, defScope s_Tally_paced, [], []⟩
def D_Tally_ended : He5.DefA := ⟨fun K => He.ma K (He.ga K "Tally") "ended", "ended", "Tally.ended", defArgs s_Tally_ended, defBody s_Tally_ended, defScope s_Tally_ended, [], []⟩
def D_Tally_totals_below : He5.DefA := ⟨fun K => He.ma K (He.ga K "Tally") "totals_below", "totals_below", "Tally.totals_below", defArgs s_Tally_totals_below, defBody s_Tally_totals_below, defScope s_Tally_totals_below, [], []⟩
def D_Twins_init : He5.DefA := ⟨fun K => He.ma K (He.ga K "Twins") "__init__", "__init__", "Twins.__init__", defArgs s_Twins_init, defBody s_Twins_init, defScope s_Twins_init, [], []⟩
def D_Twins_last_ones : He5.DefA := ⟨fun K => He.ma K (He.ga K "Twins") "last_ones", "last_ones", "Twins.last_ones", defArgs s_Twins_last_ones, defBody s_Twins_last_ones, defScope s_Twins_last_ones, [], []⟩
def D_Twins_fill : He5.DefA := ⟨fun K => He.ma K (He.ga K "Twins") "fill", "fill", "Twins.fill", defArgs s_Twins_fill, defBody s_Twins_fill, defScope s_Twins_fill, [], []⟩
def D_Twins_backs : He5.DefA := ⟨fun K => He.ma K (He.ga K "Twins") "backs", "backs", "Twins.backs", defArgs s_Twins_backs, defBody s_Twins_backs, defScope s_Twins_backs, [], []⟩
def D_Twins_begun : He5.DefA := ⟨fun K => He.ma K (He.ga K "Twins") "begun", "begun", "Twins.begun", defArgs s_Twins_begun, defBody s_Twins_begun, defScope s_Twins_begun, [], []⟩
def D_Twins_far : He5.DefA := ⟨fun K => He.ma K (He.ga K "Twins") "far", "far", "Twins.far", defArgs s_Twins_far, defBody s_Twins_far, defScope s_Twins_far, [], []⟩
def D_Twins_told : He5.DefA := ⟨fun K => He.ma K (He.ga K "Twins") "told", "told", "Twins.told", defArgs s_Twins_told, defBody s_Twins_told, defScope s_Twins_told, [], []⟩
def D_Reader_of_texts : He5.DefA := ⟨fun K => He5.wf K (He.ga K "Reader") "classmethod" "of_texts", "of_texts", "Reader.of_texts", defArgs s_Reader_of_texts, defBody s_Reader_of_texts, defScope s_Reader_of_texts, [], []⟩
def fn0 : List He5.DefA := [D_is_integer, D_is_integer_within, D_are_small, D_is_ascending, D_is_letters, D_is_text_within, D_require_letters, D_is_number_set, D_is_letter_of, D_is_arrow, D_are_arrows, D_moves_of, D_beginnings_of, D_require_reader, D_turned_of, D_require_size, D_pairs_of, D_both_of, D_first_row_of, D_stepped, D_end_of, D_are_parts, D_length_of, D_pairs_among, D_ordered, D_two_of, D_require_lone, D_within_tally, D_require_two, D_require_pair]
def fn1 : List He5.DefA := [D_is_within_of, D_is_within, D_late_totals, D_is_nearly_within, D_rest, D_l_pot, D_l_bit, D_l_pick, D_l_dealt, D_l_some_of, D_l_told_reader, D_l_any_reader, D_l_plain_reader, D_l_flipped, D_l_renumbered, D_l_pair_reader, D_l_is_sole, D_l_sole, D_l_made_reader, D_l_gone_set, D_l_does_end, D_l_map, D_l_live, D_l_rest, D_l_drawn, D_l_right, D_law, D_Reader_init, D_Tally_init, D_Tally_first_one]
def fn2 : List He5.DefA := [D_Tally_pieces, D_Tally_paced, D_Tally_ended, D_Tally_totals_below, D_Twins_init, D_Twins_last_ones, D_Twins_fill, D_Twins_backs, D_Twins_begun, D_Twins_far, D_Twins_told, D_Reader_of_texts]
def fn : List He5.DefA := fn0 ++ fn1 ++ fn2
def as0 : List Addr := [3, 6, 4, 21, 31, 44, 56, 68, 80, 92, 120, 142, 164, 174, 181, 186, 191, 198, 203, 210, 217, 222, 229, 236, 241, 246, 251, 377, 386, 391, 398, 405, 412, 419, 424, 431, 436, 441, 446, 453]
def as1 : List Addr := [460, 465, 470, 650, 661, 668, 673, 680, 736, 747, 754, 761, 768, 775, 782, 789, 796, 803, 810, 817, 824, 831, 836, 843, 850, 855, 862, 869, 876, 881, 886, 891, 896, 903, 910, 915, 920, 927, 932, 937]
def as2 : List Addr := [944, 951, 958, 0, 20, 30, 43, 55, 67, 79, 91, 119, 141, 163, 173, 180, 185, 190, 197, 202, 209, 216, 221, 228, 235, 240, 245, 250, 376, 385, 390, 397, 404, 411, 418, 423, 430, 435, 440, 445]
def as3 : List Addr := [452, 459, 464, 469, 649, 660, 667, 672, 679, 735, 746, 753, 760, 767, 774, 781, 788, 795, 802, 809, 816, 823, 830, 835, 842, 849, 854, 861, 868, 875, 880, 885, 890, 895, 902, 909, 914, 919, 926, 931]
def as4 : List Addr := [936, 943, 950, 957, 15, 16, 17, 18, 19, 29, 32, 42, 54, 66, 78, 90, 110, 117, 118, 121, 139, 140, 143, 161, 162, 165, 168, 169, 170, 171, 172, 175, 176, 177, 178, 179, 182, 183, 184, 187]
def as5 : List Addr := [188, 189, 192, 193, 194, 195, 196, 199, 200, 201, 204, 205, 206, 207, 208, 211, 212, 213, 214, 215, 218, 219, 220, 223, 224, 225, 226, 227, 230, 231, 232, 233, 234, 237, 238, 239, 242, 243, 244, 247]
def as6 : List Addr := [248, 249, 265, 272, 281, 289, 297, 305, 312, 319, 327, 332, 339, 346, 353, 360, 367, 374, 375, 378, 379, 382, 383, 384, 387, 388, 389, 392, 393, 394, 395, 396, 399, 400, 401, 402, 403, 406, 407, 408]
def as7 : List Addr := [409, 410, 413, 414, 415, 416, 417, 420, 421, 422, 425, 426, 427, 428, 429, 432, 433, 434, 437, 438, 439, 442, 443, 444, 447, 448, 449, 450, 451, 454, 455, 456, 457, 458, 461, 462, 463, 466, 467, 468]
def as8 : List Addr := [482, 490, 498, 506, 514, 519, 526, 531, 536, 541, 546, 553, 560, 567, 574, 581, 588, 595, 602, 607, 612, 619, 626, 633, 640, 647, 648, 651, 652, 655, 656, 657, 658, 659, 662, 663, 664, 665, 666, 669]
def as9 : List Addr := [670, 671, 674, 675, 676, 677, 678, 694, 699, 704, 709, 714, 721, 726, 733, 734, 737, 738, 741, 742, 743, 744, 745, 748, 749, 750, 751, 752, 755, 756, 757, 758, 759, 762, 763, 764, 765, 766, 769, 770]
def as10 : List Addr := [771, 772, 773, 776, 777, 778, 779, 780, 783, 784, 785, 786, 787, 790, 791, 792, 793, 794, 797, 798, 799, 800, 801, 804, 805, 806, 807, 808, 811, 812, 813, 814, 815, 818, 819, 820, 821, 822, 825, 826]
def as11 : List Addr := [827, 828, 829, 832, 833, 834, 837, 838, 839, 840, 841, 844, 845, 846, 847, 848, 851, 852, 853, 856, 857, 858, 859, 860, 863, 864, 865, 866, 867, 870, 871, 872, 873, 874, 877, 878, 879, 882, 883, 884]
def as12 : List Addr := [887, 888, 889, 892, 893, 894, 897, 898, 899, 900, 901, 904, 905, 906, 907, 908, 911, 912, 913, 916, 917, 918, 921, 922, 923, 924, 925, 928, 929, 930, 933, 934, 935, 938, 939, 940, 941, 942, 945, 946]
def as13 : List Addr := [947, 948, 949, 952, 953, 954, 955, 956, 109, 98, 116, 138, 127, 160, 149, 264, 270, 271, 280, 288, 296, 304, 311, 318, 326, 320, 331, 338, 345, 352, 359, 366, 373, 481, 489, 497, 505, 513, 518, 525]
def as14 : List Addr := [530, 535, 540, 545, 552, 559, 566, 573, 580, 587, 594, 601, 606, 611, 618, 625, 632, 639, 646, 693, 698, 703, 708, 713, 720, 725, 732, 104, 105, 106, 107, 108, 111, 112, 113, 114, 115, 133, 134, 135]
def as15 : List Addr := [136, 137, 155, 156, 157, 158, 159, 259, 260, 261, 262, 263, 269, 273, 279, 287, 295, 303, 306, 307, 308, 309, 310, 313, 314, 315, 316, 317, 321, 322, 323, 324, 325, 328, 329, 330, 333, 334, 335, 336]
def as16 : List Addr := [337, 340, 341, 342, 343, 344, 347, 348, 349, 350, 351, 354, 355, 356, 357, 358, 361, 362, 363, 364, 365, 368, 369, 370, 371, 372, 478, 479, 480, 488, 496, 504, 512, 515, 516, 517, 520, 521, 522, 523]
def as17 : List Addr := [524, 527, 528, 529, 532, 533, 534, 537, 538, 539, 542, 543, 544, 547, 548, 549, 550, 551, 554, 555, 556, 557, 558, 561, 562, 563, 564, 565, 568, 569, 570, 571, 572, 575, 576, 577, 578, 579, 582, 583]
def as18 : List Addr := [584, 585, 586, 589, 590, 591, 592, 593, 596, 597, 598, 599, 600, 603, 604, 605, 608, 609, 610, 613, 614, 615, 616, 617, 620, 621, 622, 623, 624, 627, 628, 629, 630, 631, 634, 635, 636, 637, 638, 641]
def as19 : List Addr := [642, 643, 644, 645, 688, 689, 690, 691, 692, 695, 696, 697, 700, 701, 702, 705, 706, 707, 710, 711, 712, 715, 716, 717, 718, 719, 722, 723, 724, 727, 728, 729, 730, 731, 2]
/-- the places that the look reads -/
def asK : List Addr := as0 ++ as1 ++ as2 ++ as3 ++ as4 ++ as5 ++ as6 ++ as7 ++ as8 ++ as9 ++ as10 ++ as11 ++ as12 ++ as13 ++ as14 ++ as15 ++ as16 ++ as17 ++ as18 ++ as19
/-- what isinstance asks of an own class; the class's classmethod -/
def ex1 (K : PySem.W.Frag) (C : Addr) : Bool := He.eqO (PySem.W.findIn K (.ref C) "__class__") (some (some (.builtin "object.__class__"))) && (He.eqO (PySem.W.specialIn K (.builtin "object.__class__") "__get__") (some (some (.builtin "getset_descriptor.__get__"))) && (decide (PySem.W.takesIn K (.builtin "object.__class__") = some true) && decide (PySem.W.mroIn K C (.type "object") = some true)))
def ex2 (K : PySem.W.Frag) : Bool := PySem.W.readsIn K (He.ga K "Reader") (.type "type") && (He.eqO (PySem.W.specialIn K (.ref (He.ga K "Reader")) "__getattribute__") (some (some (.builtin "type.__getattribute__"))) && (He5.wrapB K (He.ga K "Reader") "classmethod" "classmethod.__get__" "of_texts" && PySem.W.fnIn K (He5.wf K (He.ga K "Reader") "classmethod" "of_texts")))
def ex (K : PySem.W.Frag) : Bool := ex1 K (He.ga K "Reader") && (ex1 K (He.ga K "Tally") && ex2 K)
/-! the head's look -/
abbrev AlK : Type := He.AlD × Bool
/-- the code object of the def that makes a lambda, and its table -/
def cB (K : PySem.W.Frag) : Addr := He.codeOf K ("beginnings_of", none)
def tB (K : PySem.W.Frag) : Addr := He.tabOf K (cB K)
def tabK (g : Addr → Option Obj) (K : PySem.W.Frag) : Bool := PySem.W.codeHdIn K (cB K) (tB K) && (match g (tB K) with
  | some o => He.emptyTab o
  | none => false)
def obsK (g : Addr → Option Obj) : AlK := (He5.obsA fa fn (He.frT g asK), ex (He.frT g asK) && tabK g (He.frT g asK))
structure SaysK (h : Heap) (K : PySem.W.Frag) : Prop where
  says : He5.SaysA fa fn K
  more : ex K = true
  hd : PySem.W.codeHdIn K (cB K) (tB K) = true
  out : K.lookup (tB K) = none
  empty : h.get? (tB K) = some { cls := .none, data := .fields #[] }
theorem obsK_says {h : Heap} {K : PySem.W.Frag} (hK : K = He.frT h.get? asK) (e : obsK h.get? = (He5.valA fn, true)) : SaysK h K := by
  unfold obsK at e
  rw [← hK] at e
  obtain ⟨h1, h2⟩ := Prod.mk.inj e
  obtain ⟨h3, h4⟩ := He.ba h2
  obtain ⟨h5, h6⟩ := He.ba h4
  cases q : h.get? (tB K) with
  | none => rw [q] at h6; cases h6
  | some o =>
    rw [q] at h6
    have h6 : He.emptyTab o = true := h6
    exact ⟨h1, h3, h5, by rw [hK]; exact He.frT_none (by rw [← hK]; exact q) h6, by rw [q, He.emptyTab_eq h6]⟩
def hook : PySem.W.Hook where
  α := AlK
  obs := fun s => obsK s.heap.get?
  val := fun _ => (He5.valA fn, true)
  says := fun _ h => ∃ K : PySem.W.Frag, K.In h ∧ SaysK h K
  of := fun _ s e => ⟨He.frT s.heap.get? asK, He.frT_in, obsK_says rfl e⟩
  keeps := fun _ _ _ ⟨K, hK, c⟩ k => ⟨K, PySem.W.Frag.In.keeps hK k, ⟨c.says, c.more, c.hd, c.out, k _ _ c.empty⟩⟩
theorem obsK_eq {g : Addr → Option Obj} {s : Shared} (h : ∀ a, g a = s.heap.get? a) : obsK g = hook.obs s := by
  have e : g = s.heap.get? := funext h
  show obsK g = obsK s.heap.get?
  rw [e]
/-- all that the defs' proofs ask of the text as it stands -/
structure Tx (K : PySem.W.Frag) (mg : Str → Option Value) : Prop where
  says : He5.SaysA fa fn K
  more : ex K = true
  env : ∃ h : Heap, K.In h ∧ h.Ns mainGlobals mg
section
variable {K : PySem.W.Frag} {mg : Str → Option Value} (T : Tx K mg)
include T
theorem Tx.glo (i : Nat) {x : Str} (h : fa[i]? = some (.glo x) := by rfl) : mg x = some (.ref (He.ga K x)) := let ⟨_, X, G⟩ := T.env; He.glo_ok X G (T.says.fact i h)
theorem Tx.free (i : Nat) {x : Str} (h : fa[i]? = some (.free x) := by rfl) : mg x = none := let ⟨_, X, G⟩ := T.env; He.free_ok X G (T.says.fact i h)
theorem Tx.int (i : Nat) {x : Str} {z : Int} (h : fa[i]? = some (.int x z) := by rfl) : ∃ t, mg x = some (.int z t) := let ⟨_, X, G⟩ := T.env; He.int_ok X G (T.says.fact i h)
theorem Tx.g_is_integer : mg "is_integer" = some (.ref (He.ga K "is_integer")) := T.glo 0
theorem Tx.g_is_integer_within : mg "is_integer_within" = some (.ref (He.ga K "is_integer_within")) := T.glo 1
theorem Tx.g_are_small : mg "are_small" = some (.ref (He.ga K "are_small")) := T.glo 2
theorem Tx.g_is_ascending : mg "is_ascending" = some (.ref (He.ga K "is_ascending")) := T.glo 3
theorem Tx.g_is_letters : mg "is_letters" = some (.ref (He.ga K "is_letters")) := T.glo 4
theorem Tx.g_is_text_within : mg "is_text_within" = some (.ref (He.ga K "is_text_within")) := T.glo 5
theorem Tx.g_require_letters : mg "require_letters" = some (.ref (He.ga K "require_letters")) := T.glo 6
theorem Tx.g_is_number_set : mg "is_number_set" = some (.ref (He.ga K "is_number_set")) := T.glo 7
theorem Tx.g_is_letter_of : mg "is_letter_of" = some (.ref (He.ga K "is_letter_of")) := T.glo 8
theorem Tx.g_is_arrow : mg "is_arrow" = some (.ref (He.ga K "is_arrow")) := T.glo 9
theorem Tx.g_are_arrows : mg "are_arrows" = some (.ref (He.ga K "are_arrows")) := T.glo 10
theorem Tx.g_moves_of : mg "moves_of" = some (.ref (He.ga K "moves_of")) := T.glo 11
theorem Tx.g_beginnings_of : mg "beginnings_of" = some (.ref (He.ga K "beginnings_of")) := T.glo 12
theorem Tx.g_require_reader : mg "require_reader" = some (.ref (He.ga K "require_reader")) := T.glo 13
theorem Tx.g_turned_of : mg "turned_of" = some (.ref (He.ga K "turned_of")) := T.glo 14
theorem Tx.g_require_size : mg "require_size" = some (.ref (He.ga K "require_size")) := T.glo 15
theorem Tx.g_pairs_of : mg "pairs_of" = some (.ref (He.ga K "pairs_of")) := T.glo 16
theorem Tx.g_both_of : mg "both_of" = some (.ref (He.ga K "both_of")) := T.glo 17
theorem Tx.g_first_row_of : mg "first_row_of" = some (.ref (He.ga K "first_row_of")) := T.glo 18
theorem Tx.g_stepped : mg "stepped" = some (.ref (He.ga K "stepped")) := T.glo 19
theorem Tx.g_end_of : mg "end_of" = some (.ref (He.ga K "end_of")) := T.glo 20
theorem Tx.g_are_parts : mg "are_parts" = some (.ref (He.ga K "are_parts")) := T.glo 21
theorem Tx.g_length_of : mg "length_of" = some (.ref (He.ga K "length_of")) := T.glo 22
theorem Tx.g_pairs_among : mg "pairs_among" = some (.ref (He.ga K "pairs_among")) := T.glo 23
theorem Tx.g_ordered : mg "ordered" = some (.ref (He.ga K "ordered")) := T.glo 24
theorem Tx.g_two_of : mg "two_of" = some (.ref (He.ga K "two_of")) := T.glo 25
theorem Tx.g_require_lone : mg "require_lone" = some (.ref (He.ga K "require_lone")) := T.glo 26
theorem Tx.g_within_tally : mg "within_tally" = some (.ref (He.ga K "within_tally")) := T.glo 27
theorem Tx.g_require_two : mg "require_two" = some (.ref (He.ga K "require_two")) := T.glo 28
theorem Tx.g_require_pair : mg "require_pair" = some (.ref (He.ga K "require_pair")) := T.glo 29
theorem Tx.g_is_within_of : mg "is_within_of" = some (.ref (He.ga K "is_within_of")) := T.glo 30
theorem Tx.g_is_within : mg "is_within" = some (.ref (He.ga K "is_within")) := T.glo 31
theorem Tx.g_late_totals : mg "late_totals" = some (.ref (He.ga K "late_totals")) := T.glo 32
theorem Tx.g_is_nearly_within : mg "is_nearly_within" = some (.ref (He.ga K "is_nearly_within")) := T.glo 33
theorem Tx.g_rest : mg "rest" = some (.ref (He.ga K "rest")) := T.glo 34
theorem Tx.g_l_pot : mg "_law_pot" = some (.ref (He.ga K "_law_pot")) := T.glo 35
theorem Tx.g_l_bit : mg "_law_bit" = some (.ref (He.ga K "_law_bit")) := T.glo 36
theorem Tx.g_l_pick : mg "_law_pick" = some (.ref (He.ga K "_law_pick")) := T.glo 37
theorem Tx.g_l_dealt : mg "_law_dealt" = some (.ref (He.ga K "_law_dealt")) := T.glo 38
theorem Tx.g_l_some_of : mg "_law_some_of" = some (.ref (He.ga K "_law_some_of")) := T.glo 39
theorem Tx.g_l_told_reader : mg "_law_told_reader" = some (.ref (He.ga K "_law_told_reader")) := T.glo 40
theorem Tx.g_l_any_reader : mg "_law_any_reader" = some (.ref (He.ga K "_law_any_reader")) := T.glo 41
theorem Tx.g_l_plain_reader : mg "_law_plain_reader" = some (.ref (He.ga K "_law_plain_reader")) := T.glo 42
theorem Tx.g_l_flipped : mg "_law_flipped" = some (.ref (He.ga K "_law_flipped")) := T.glo 43
theorem Tx.g_l_renumbered : mg "_law_renumbered" = some (.ref (He.ga K "_law_renumbered")) := T.glo 44
theorem Tx.g_l_pair_reader : mg "_law_pair_reader" = some (.ref (He.ga K "_law_pair_reader")) := T.glo 45
theorem Tx.g_l_is_sole : mg "_law_is_sole" = some (.ref (He.ga K "_law_is_sole")) := T.glo 46
theorem Tx.g_l_sole : mg "_law_sole" = some (.ref (He.ga K "_law_sole")) := T.glo 47
theorem Tx.g_l_made_reader : mg "_law_made_reader" = some (.ref (He.ga K "_law_made_reader")) := T.glo 48
theorem Tx.g_l_gone_set : mg "_law_gone_set" = some (.ref (He.ga K "_law_gone_set")) := T.glo 49
theorem Tx.g_l_does_end : mg "_law_does_end" = some (.ref (He.ga K "_law_does_end")) := T.glo 50
theorem Tx.g_l_map : mg "_law_map" = some (.ref (He.ga K "_law_map")) := T.glo 51
theorem Tx.g_l_live : mg "_law_live" = some (.ref (He.ga K "_law_live")) := T.glo 52
theorem Tx.g_l_rest : mg "_law_rest" = some (.ref (He.ga K "_law_rest")) := T.glo 53
theorem Tx.g_l_drawn : mg "_law_drawn" = some (.ref (He.ga K "_law_drawn")) := T.glo 54
theorem Tx.g_l_right : mg "_law_right" = some (.ref (He.ga K "_law_right")) := T.glo 55
theorem Tx.g_law : mg "law" = some (.ref (He.ga K "law")) := T.glo 56
theorem Tx.g_Reader : mg "Reader" = some (.ref (He.ga K "Reader")) := T.glo 57
theorem Tx.c_Reader : Cls K (He.ga K "Reader") := He.cls_ok (T.says.fact 58)
theorem Tx.k_Reader : Mk K (He.ga K "Reader") (He.ma K (He.ga K "Reader") "__init__") := He.mkr_ok (T.says.fact 59)
theorem Tx.n_Reader_own_letters : NoAttr K (He.ga K "Reader") "own_letters" := He.noat_ok (T.says.fact 60)
theorem Tx.n_Reader_own_size : NoAttr K (He.ga K "Reader") "own_size" := He.noat_ok (T.says.fact 61)
theorem Tx.n_Reader_own_states : NoAttr K (He.ga K "Reader") "own_states" := He.noat_ok (T.says.fact 62)
theorem Tx.n_Reader_own_firsts : NoAttr K (He.ga K "Reader") "own_firsts" := He.noat_ok (T.says.fact 63)
theorem Tx.n_Reader_own_lasts : NoAttr K (He.ga K "Reader") "own_lasts" := He.noat_ok (T.says.fact 64)
theorem Tx.n_Reader_own_arrows : NoAttr K (He.ga K "Reader") "own_arrows" := He.noat_ok (T.says.fact 65)
theorem Tx.n_Reader_own_moves : NoAttr K (He.ga K "Reader") "own_moves" := He.noat_ok (T.says.fact 66)
theorem Tx.g_Tally : mg "Tally" = some (.ref (He.ga K "Tally")) := T.glo 67
theorem Tx.c_Tally : Cls K (He.ga K "Tally") := He.cls_ok (T.says.fact 68)
theorem Tx.k_Tally : Mk K (He.ga K "Tally") (He.ma K (He.ga K "Tally") "__init__") := He.mkr_ok (T.says.fact 69)
theorem Tx.n_Tally_own_parts : NoAttr K (He.ga K "Tally") "own_parts" := He.noat_ok (T.says.fact 70)
theorem Tx.n_Tally_own_letters : NoAttr K (He.ga K "Tally") "own_letters" := He.noat_ok (T.says.fact 71)
theorem Tx.n_Tally_own_width : NoAttr K (He.ga K "Tally") "own_width" := He.noat_ok (T.says.fact 72)
theorem Tx.m_Tally_first_one : Meth K (He.ga K "Tally") "first_one" (He.ma K (He.ga K "Tally") "first_one") := He.meth_ok (T.says.fact 73)
theorem Tx.m_Tally_pieces : Meth K (He.ga K "Tally") "pieces" (He.ma K (He.ga K "Tally") "pieces") := He.meth_ok (T.says.fact 74)
theorem Tx.m_Tally_paced : Meth K (He.ga K "Tally") "paced" (He.ma K (He.ga K "Tally") "paced") := He.meth_ok (T.says.fact 75)
theorem Tx.m_Tally_ended : Meth K (He.ga K "Tally") "ended" (He.ma K (He.ga K "Tally") "ended") := He.meth_ok (T.says.fact 76)
theorem Tx.m_Tally_totals_below : Meth K (He.ga K "Tally") "totals_below" (He.ma K (He.ga K "Tally") "totals_below") := He.meth_ok (T.says.fact 77)
theorem Tx.g_Twins : mg "Twins" = some (.ref (He.ga K "Twins")) := T.glo 78
theorem Tx.c_Twins : Cls K (He.ga K "Twins") := He.cls_ok (T.says.fact 79)
theorem Tx.k_Twins : Mk K (He.ga K "Twins") (He.ma K (He.ga K "Twins") "__init__") := He.mkr_ok (T.says.fact 80)
theorem Tx.n_Twins_own_reader : NoAttr K (He.ga K "Twins") "own_reader" := He.noat_ok (T.says.fact 81)
theorem Tx.n_Twins_own_far : NoAttr K (He.ga K "Twins") "own_far" := He.noat_ok (T.says.fact 82)
theorem Tx.n_Twins_own_backs : NoAttr K (He.ga K "Twins") "own_backs" := He.noat_ok (T.says.fact 83)
theorem Tx.m_Twins_last_ones : Meth K (He.ga K "Twins") "last_ones" (He.ma K (He.ga K "Twins") "last_ones") := He.meth_ok (T.says.fact 84)
theorem Tx.m_Twins_fill : Meth K (He.ga K "Twins") "fill" (He.ma K (He.ga K "Twins") "fill") := He.meth_ok (T.says.fact 85)
theorem Tx.m_Twins_backs : Meth K (He.ga K "Twins") "backs" (He.ma K (He.ga K "Twins") "backs") := He.meth_ok (T.says.fact 86)
theorem Tx.m_Twins_begun : Meth K (He.ga K "Twins") "begun" (He.ma K (He.ga K "Twins") "begun") := He.meth_ok (T.says.fact 87)
theorem Tx.m_Twins_far : Meth K (He.ga K "Twins") "far" (He.ma K (He.ga K "Twins") "far") := He.meth_ok (T.says.fact 88)
theorem Tx.m_Twins_told : Meth K (He.ga K "Twins") "told" (He.ma K (He.ga K "Twins") "told") := He.meth_ok (T.says.fact 89)
theorem Tx.b_isinstance : mg "isinstance" = none := T.free 90
theorem Tx.b_int : mg "int" = none := T.free 91
theorem Tx.b_bool : mg "bool" = none := T.free 92
theorem Tx.b_all : mg "all" = none := T.free 93
theorem Tx.b_zip : mg "zip" = none := T.free 94
theorem Tx.b_len : mg "len" = none := T.free 95
theorem Tx.b_str : mg "str" = none := T.free 96
theorem Tx.b_tuple : mg "tuple" = none := T.free 97
theorem Tx.b_range : mg "range" = none := T.free 98
theorem Tx.b_sorted : mg "sorted" = none := T.free 99
theorem Tx.b_list : mg "list" = none := T.free 100
theorem Tx.b_set : mg "set" = none := T.free 101
theorem Tx.b_enumerate : mg "enumerate" = none := T.free 102
theorem Tx.b_sum : mg "sum" = none := T.free 103
theorem Tx.b_min : mg "min" = none := T.free 104
theorem Tx.b_max : mg "max" = none := T.free 105
theorem Tx.b_any : mg "any" = none := T.free 106
theorem Tx.b_repr : mg "repr" = none := T.free 107
theorem Tx.b_dict : mg "dict" = none := T.free 108
theorem Tx.b_abs : mg "abs" = none := T.free 109
theorem Tx.i_MOST_LETTERS : ∃ t, mg "MOST_LETTERS" = some (.int 4 t) := T.int 110
theorem Tx.i_GREATEST : ∃ t, mg "GREATEST" = some (.int (10 ^ 200 - 1) t) := T.int 111
theorem Tx.i_MAX_STATES : ∃ t, mg "MAX_STATES" = some (.int 60 t) := T.int 112
theorem Tx.i_MAX_WIDTH : ∃ t, mg "MAX_WIDTH" = some (.int 200 t) := T.int 113
theorem Tx.d_is_integer : ∃ fd, FunD K "is_integer" "is_integer" (defArgs s_is_integer) (defBody s_is_integer) (defScope s_is_integer) [] [] (He.ga K "is_integer") fd := T.says.def_ 0 (d := D_is_integer) rfl
theorem Tx.d_is_integer_within : ∃ fd, FunD K "is_integer_within" "is_integer_within" (defArgs s_is_integer_within) (defBody s_is_integer_within) (defScope s_is_integer_within) [] [] (He.ga K "is_integer_within") fd := T.says.def_ 1 (d := D_is_integer_within) rfl
theorem Tx.d_are_small : ∃ fd, FunD K "are_small" "are_small" (defArgs s_are_small) (defBody s_are_small) (defScope s_are_small) [] [] (He.ga K "are_small") fd := T.says.def_ 2 (d := D_are_small) rfl
theorem Tx.d_is_ascending : ∃ fd, FunD K "is_ascending" "is_ascending" (defArgs s_is_ascending) (defBody s_is_ascending) (defScope s_is_ascending) [] [] (He.ga K "is_ascending") fd := T.says.def_ 3 (d := D_is_ascending) rfl
theorem Tx.d_is_letters : ∃ fd, FunD K "is_letters" "is_letters" (defArgs s_is_letters) (defBody s_is_letters) (defScope s_is_letters) [] [] (He.ga K "is_letters") fd := T.says.def_ 4 (d := D_is_letters) rfl
theorem Tx.d_is_text_within : ∃ fd, FunD K "is_text_within" "is_text_within" (defArgs s_is_text_within) (defBody s_is_text_within) (defScope s_is_text_within) [] [] (He.ga K "is_text_within") fd := T.says.def_ 5 (d := D_is_text_within) rfl
theorem Tx.d_require_letters : ∃ fd, FunD K "require_letters" "require_letters" (defArgs s_require_letters) (defBody s_require_letters) (defScope s_require_letters) [] [] (He.ga K "require_letters") fd := T.says.def_ 6 (d := D_require_letters) rfl
theorem Tx.d_is_number_set : ∃ fd, FunD K "is_number_set" "is_number_set" (defArgs s_is_number_set) (defBody s_is_number_set) (defScope s_is_number_set) [] [] (He.ga K "is_number_set") fd := T.says.def_ 7 (d := D_is_number_set) rfl
theorem Tx.d_is_letter_of : ∃ fd, FunD K "is_letter_of" "is_letter_of" (defArgs s_is_letter_of) (defBody s_is_letter_of) (defScope s_is_letter_of) [] [] (He.ga K "is_letter_of") fd := T.says.def_ 8 (d := D_is_letter_of) rfl
theorem Tx.d_is_arrow : ∃ fd, FunD K "is_arrow" "is_arrow" (defArgs s_is_arrow) (defBody s_is_arrow) (defScope s_is_arrow) [] [] (He.ga K "is_arrow") fd := T.says.def_ 9 (d := D_is_arrow) rfl
theorem Tx.d_are_arrows : ∃ fd, FunD K "are_arrows" "are_arrows" (defArgs s_are_arrows) (defBody s_are_arrows) (defScope s_are_arrows) [] [] (He.ga K "are_arrows") fd := T.says.def_ 10 (d := D_are_arrows) rfl
theorem Tx.d_moves_of : ∃ fd, FunD K "moves_of" "moves_of" (defArgs s_moves_of) (defBody s_moves_of) (defScope s_moves_of) [] [] (He.ga K "moves_of") fd := T.says.def_ 11 (d := D_moves_of) rfl
theorem Tx.d_beginnings_of : ∃ fd, FunD K "beginnings_of" "beginnings_of" (defArgs s_beginnings_of) (defBody s_beginnings_of) (defScope s_beginnings_of) [] [] (He.ga K "beginnings_of") fd := T.says.def_ 12 (d := D_beginnings_of) rfl
theorem Tx.d_require_reader : ∃ fd, FunD K "require_reader" "require_reader" (defArgs s_require_reader) (defBody s_require_reader) (defScope s_require_reader) [] [] (He.ga K "require_reader") fd := T.says.def_ 13 (d := D_require_reader) rfl
theorem Tx.d_turned_of : ∃ fd, FunD K "turned_of" "turned_of" (defArgs s_turned_of) (defBody s_turned_of) (defScope s_turned_of) [] [] (He.ga K "turned_of") fd := T.says.def_ 14 (d := D_turned_of) rfl
theorem Tx.d_require_size : ∃ fd, FunD K "require_size" "require_size" (defArgs s_require_size) (defBody s_require_size) (defScope s_require_size) [] [] (He.ga K "require_size") fd := T.says.def_ 15 (d := D_require_size) rfl
theorem Tx.d_pairs_of : ∃ fd, FunD K "pairs_of" "pairs_of" (defArgs s_pairs_of) (defBody s_pairs_of) (defScope s_pairs_of) [] [] (He.ga K "pairs_of") fd := T.says.def_ 16 (d := D_pairs_of) rfl
theorem Tx.d_both_of : ∃ fd, FunD K "both_of" "both_of" (defArgs s_both_of) (defBody s_both_of) (defScope s_both_of) [] [] (He.ga K "both_of") fd := T.says.def_ 17 (d := D_both_of) rfl
theorem Tx.d_first_row_of : ∃ fd, FunD K "first_row_of" "first_row_of" (defArgs s_first_row_of) (defBody s_first_row_of) (defScope s_first_row_of) [] [] (He.ga K "first_row_of") fd := T.says.def_ 18 (d := D_first_row_of) rfl
theorem Tx.d_stepped : ∃ fd, FunD K "stepped" "stepped" (defArgs s_stepped) (defBody s_stepped) (defScope s_stepped) [] [] (He.ga K "stepped") fd := T.says.def_ 19 (d := D_stepped) rfl
theorem Tx.d_end_of : ∃ fd, FunD K "end_of" "end_of" (defArgs s_end_of) (defBody s_end_of) (defScope s_end_of) [] [] (He.ga K "end_of") fd := T.says.def_ 20 (d := D_end_of) rfl
theorem Tx.d_are_parts : ∃ fd, FunD K "are_parts" "are_parts" (defArgs s_are_parts) (defBody s_are_parts) (defScope s_are_parts) [] [] (He.ga K "are_parts") fd := T.says.def_ 21 (d := D_are_parts) rfl
theorem Tx.d_length_of : ∃ fd, FunD K "length_of" "length_of" (defArgs s_length_of) (defBody s_length_of) (defScope s_length_of) [] [] (He.ga K "length_of") fd := T.says.def_ 22 (d := D_length_of) rfl
theorem Tx.d_pairs_among : ∃ fd, FunD K "pairs_among" "pairs_among" (defArgs s_pairs_among) (defBody s_pairs_among) (defScope s_pairs_among) [] [] (He.ga K "pairs_among") fd := T.says.def_ 23 (d := D_pairs_among) rfl
theorem Tx.d_ordered : ∃ fd, FunD K "ordered" "ordered" (defArgs s_ordered) (defBody s_ordered) (defScope s_ordered) [] [] (He.ga K "ordered") fd := T.says.def_ 24 (d := D_ordered) rfl
theorem Tx.d_two_of : ∃ fd, FunD K "two_of" "two_of" (defArgs s_two_of) (defBody s_two_of) (defScope s_two_of) [] [] (He.ga K "two_of") fd := T.says.def_ 25 (d := D_two_of) rfl
theorem Tx.d_require_lone : ∃ fd, FunD K "require_lone" "require_lone" (defArgs s_require_lone) (defBody s_require_lone) (defScope s_require_lone) [] [] (He.ga K "require_lone") fd := T.says.def_ 26 (d := D_require_lone) rfl
theorem Tx.d_within_tally : ∃ fd, FunD K "within_tally" "within_tally" (defArgs s_within_tally) (defBody s_within_tally) (defScope s_within_tally) [] [] (He.ga K "within_tally") fd := T.says.def_ 27 (d := D_within_tally) rfl
theorem Tx.d_require_two : ∃ fd, FunD K "require_two" "require_two" (defArgs s_require_two) (defBody s_require_two) (defScope s_require_two) [] [] (He.ga K "require_two") fd := T.says.def_ 28 (d := D_require_two) rfl
theorem Tx.d_require_pair : ∃ fd, FunD K "require_pair" "require_pair" (defArgs s_require_pair) (defBody s_require_pair) (defScope s_require_pair) [] [] (He.ga K "require_pair") fd := T.says.def_ 29 (d := D_require_pair) rfl
theorem Tx.d_is_within_of : ∃ fd, FunD K "is_within_of" "is_within_of" (defArgs s_is_within_of) (defBody s_is_within_of) (defScope s_is_within_of) [] [] (He.ga K "is_within_of") fd := T.says.def_ 30 (d := D_is_within_of) rfl
theorem Tx.d_is_within : ∃ fd, FunD K "is_within" "is_within" (defArgs s_is_within) (defBody s_is_within) (defScope s_is_within) [] [] (He.ga K "is_within") fd := T.says.def_ 31 (d := D_is_within) rfl
theorem Tx.d_late_totals : ∃ fd, FunD K "late_totals" "late_totals" (defArgs s_late_totals) (defBody s_late_totals) (defScope s_late_totals) [] [] (He.ga K "late_totals") fd := T.says.def_ 32 (d := D_late_totals) rfl
theorem Tx.d_is_nearly_within : ∃ fd, FunD K "is_nearly_within" "is_nearly_within" (defArgs s_is_nearly_within) (defBody s_is_nearly_within) (defScope s_is_nearly_within) [] [] (He.ga K "is_nearly_within") fd := T.says.def_ 33 (d := D_is_nearly_within) rfl
theorem Tx.d_rest : ∃ fd, FunD K "rest" "rest" (defArgs s_rest) (defBody s_rest) (defScope s_rest) [] [] (He.ga K "rest") fd := T.says.def_ 34 (d := D_rest) rfl
theorem Tx.d_l_pot : ∃ fd, FunD K "_law_pot" "_law_pot" (defArgs s_l_pot) (defBody s_l_pot) (defScope s_l_pot) [] [] (He.ga K "_law_pot") fd := T.says.def_ 35 (d := D_l_pot) rfl
theorem Tx.d_l_bit : ∃ fd, FunD K "_law_bit" "_law_bit" (defArgs s_l_bit) (defBody s_l_bit) (defScope s_l_bit) [] [] (He.ga K "_law_bit") fd := T.says.def_ 36 (d := D_l_bit) rfl
theorem Tx.d_l_pick : ∃ fd, FunD K "_law_pick" "_law_pick" (defArgs s_l_pick) (defBody s_l_pick) (defScope s_l_pick) [] [] (He.ga K "_law_pick") fd := T.says.def_ 37 (d := D_l_pick) rfl
theorem Tx.d_l_dealt : ∃ fd, FunD K "_law_dealt" "_law_dealt" (defArgs s_l_dealt) (defBody s_l_dealt) (defScope s_l_dealt) [] [] (He.ga K "_law_dealt") fd := T.says.def_ 38 (d := D_l_dealt) rfl
theorem Tx.d_l_some_of : ∃ fd, FunD K "_law_some_of" "_law_some_of" (defArgs s_l_some_of) (defBody s_l_some_of) (defScope s_l_some_of) [] [] (He.ga K "_law_some_of") fd := T.says.def_ 39 (d := D_l_some_of) rfl
theorem Tx.d_l_told_reader : ∃ fd, FunD K "_law_told_reader" "_law_told_reader" (defArgs s_l_told_reader) (defBody s_l_told_reader) (defScope s_l_told_reader) [] [] (He.ga K "_law_told_reader") fd := T.says.def_ 40 (d := D_l_told_reader) rfl
theorem Tx.d_l_any_reader : ∃ fd, FunD K "_law_any_reader" "_law_any_reader" (defArgs s_l_any_reader) (defBody s_l_any_reader) (defScope s_l_any_reader) [] [] (He.ga K "_law_any_reader") fd := T.says.def_ 41 (d := D_l_any_reader) rfl
theorem Tx.d_l_plain_reader : ∃ fd, FunD K "_law_plain_reader" "_law_plain_reader" (defArgs s_l_plain_reader) (defBody s_l_plain_reader) (defScope s_l_plain_reader) [] [] (He.ga K "_law_plain_reader") fd := T.says.def_ 42 (d := D_l_plain_reader) rfl
theorem Tx.d_l_flipped : ∃ fd, FunD K "_law_flipped" "_law_flipped" (defArgs s_l_flipped) (defBody s_l_flipped) (defScope s_l_flipped) [] [] (He.ga K "_law_flipped") fd := T.says.def_ 43 (d := D_l_flipped) rfl
theorem Tx.d_l_renumbered : ∃ fd, FunD K "_law_renumbered" "_law_renumbered" (defArgs s_l_renumbered) (defBody s_l_renumbered) (defScope s_l_renumbered) [] [] (He.ga K "_law_renumbered") fd := T.says.def_ 44 (d := D_l_renumbered) rfl
theorem Tx.d_l_pair_reader : ∃ fd, FunD K "_law_pair_reader" "_law_pair_reader" (defArgs s_l_pair_reader) (defBody s_l_pair_reader) (defScope s_l_pair_reader) [] [] (He.ga K "_law_pair_reader") fd := T.says.def_ 45 (d := D_l_pair_reader) rfl
theorem Tx.d_l_is_sole : ∃ fd, FunD K "_law_is_sole" "_law_is_sole" (defArgs s_l_is_sole) (defBody s_l_is_sole) (defScope s_l_is_sole) [] [] (He.ga K "_law_is_sole") fd := T.says.def_ 46 (d := D_l_is_sole) rfl
theorem Tx.d_l_sole : ∃ fd, FunD K "_law_sole" "_law_sole" (defArgs s_l_sole) (defBody s_l_sole) (defScope s_l_sole) [] [] (He.ga K "_law_sole") fd := T.says.def_ 47 (d := D_l_sole) rfl
theorem Tx.d_l_made_reader : ∃ fd, FunD K "_law_made_reader" "_law_made_reader" (defArgs s_l_made_reader) (defBody s_l_made_reader) (defScope s_l_made_reader) [] [] (He.ga K "_law_made_reader") fd := T.says.def_ 48 (d := D_l_made_reader) rfl
theorem Tx.d_l_gone_set : ∃ fd, FunD K "_law_gone_set" "_law_gone_set" (defArgs s_l_gone_set) (defBody s_l_gone_set) (defScope s_l_gone_set) [] [] (He.ga K "_law_gone_set") fd := T.says.def_ 49 (d := D_l_gone_set) rfl
theorem Tx.d_l_does_end : ∃ fd, FunD K "_law_does_end" "_law_does_end" (defArgs s_l_does_end) (defBody s_l_does_end) (defScope s_l_does_end) [] [] (He.ga K "_law_does_end") fd := T.says.def_ 50 (d := D_l_does_end) rfl
theorem Tx.d_l_map : ∃ fd, FunD K "_law_map" "_law_map" (defArgs s_l_map) (defBody s_l_map) (defScope s_l_map) [] [] (He.ga K "_law_map") fd := T.says.def_ 51 (d := D_l_map) rfl
theorem Tx.d_l_live : ∃ fd, FunD K "_law_live" "_law_live" (defArgs s_l_live) (defBody s_l_live) (defScope s_l_live) [] [] (He.ga K "_law_live") fd := T.says.def_ 52 (d := D_l_live) rfl
theorem Tx.d_l_rest : ∃ fd, FunD K "_law_rest" "_law_rest" (defArgs s_l_rest) (defBody s_l_rest) (defScope s_l_rest) [] [] (He.ga K "_law_rest") fd := T.says.def_ 53 (d := D_l_rest) rfl
theorem Tx.d_l_drawn : ∃ fd, FunD K "_law_drawn" "_law_drawn" (defArgs s_l_drawn) (defBody s_l_drawn) (defScope s_l_drawn) [] [] (He.ga K "_law_drawn") fd := T.says.def_ 54 (d := D_l_drawn) rfl
theorem Tx.d_l_right : ∃ fd, FunD K "_law_right" "_law_right" (defArgs s_l_right) (defBody s_l_right) (defScope s_l_right) [] [] (He.ga K "_law_right") fd := T.says.def_ 55 (d := D_l_right) rfl
theorem Tx.d_law : ∃ fd, FunD K "law" "law" (defArgs s_law) (defBody s_law) (defScope s_law) [] [] (He.ga K "law") fd := T.says.def_ 56 (d := D_law) rfl
theorem Tx.d_Reader_init : ∃ fd, FunD K "__init__" "Reader.__init__" (defArgs s_Reader_init) (defBody s_Reader_init) (defScope s_Reader_init) [] [] (He.ma K (He.ga K "Reader") "__init__") fd := T.says.def_ 57 (d := D_Reader_init) rfl
theorem Tx.d_Tally_init : ∃ fd, FunD K "__init__" "Tally.__init__" (defArgs s_Tally_init) (defBody s_Tally_init) (defScope s_Tally_init) [] [] (He.ma K (He.ga K "Tally") "__init__") fd := T.says.def_ 58 (d := D_Tally_init) rfl
theorem Tx.d_Tally_first_one : ∃ fd, FunD K "first_one" "Tally.first_one" (defArgs s_Tally_first_one) (defBody s_Tally_first_one) (defScope s_Tally_first_one) [] [] (He.ma K (He.ga K "Tally") "first_one") fd := T.says.def_ 59 (d := D_Tally_first_one) rfl
theorem Tx.d_Tally_pieces : ∃ fd, FunD K "pieces" "Tally.pieces" (defArgs s_Tally_pieces) (defBody s_Tally_pieces) (defScope s_Tally_pieces) [] [] (He.ma K (He.ga K "Tally") "pieces") fd := T.says.def_ 60 (d := D_Tally_pieces) rfl
theorem Tx.d_Tally_paced : ∃ fd, FunD K "paced" "Tally.paced" (defArgs s_Tally_paced) (defBody s_Tally_paced) (defScope s_Tally_paced) [] [] (He.ma K (He.ga K "Tally") "paced") fd := T.says.def_ 61 (d := D_Tally_paced) rfl
theorem Tx.d_Tally_ended : ∃ fd, FunD K "ended" "Tally.ended" (defArgs s_Tally_ended) (defBody s_Tally_ended) (defScope s_Tally_ended) [] [] (He.ma K (He.ga K "Tally") "ended") fd := T.says.def_ 62 (d := D_Tally_ended) rfl
theorem Tx.d_Tally_totals_below : ∃ fd, FunD K "totals_below" "Tally.totals_below" (defArgs s_Tally_totals_below) (defBody s_Tally_totals_below) (defScope s_Tally_totals_below) [] [] (He.ma K (He.ga K "Tally") "totals_below") fd := T.says.def_ 63 (d := D_Tally_totals_below) rfl
theorem Tx.d_Twins_init : ∃ fd, FunD K "__init__" "Twins.__init__" (defArgs s_Twins_init) (defBody s_Twins_init) (defScope s_Twins_init) [] [] (He.ma K (He.ga K "Twins") "__init__") fd := T.says.def_ 64 (d := D_Twins_init) rfl
theorem Tx.d_Twins_last_ones : ∃ fd, FunD K "last_ones" "Twins.last_ones" (defArgs s_Twins_last_ones) (defBody s_Twins_last_ones) (defScope s_Twins_last_ones) [] [] (He.ma K (He.ga K "Twins") "last_ones") fd := T.says.def_ 65 (d := D_Twins_last_ones) rfl
theorem Tx.d_Twins_fill : ∃ fd, FunD K "fill" "Twins.fill" (defArgs s_Twins_fill) (defBody s_Twins_fill) (defScope s_Twins_fill) [] [] (He.ma K (He.ga K "Twins") "fill") fd := T.says.def_ 66 (d := D_Twins_fill) rfl
theorem Tx.d_Twins_backs : ∃ fd, FunD K "backs" "Twins.backs" (defArgs s_Twins_backs) (defBody s_Twins_backs) (defScope s_Twins_backs) [] [] (He.ma K (He.ga K "Twins") "backs") fd := T.says.def_ 67 (d := D_Twins_backs) rfl
theorem Tx.d_Twins_begun : ∃ fd, FunD K "begun" "Twins.begun" (defArgs s_Twins_begun) (defBody s_Twins_begun) (defScope s_Twins_begun) [] [] (He.ma K (He.ga K "Twins") "begun") fd := T.says.def_ 68 (d := D_Twins_begun) rfl
theorem Tx.d_Twins_far : ∃ fd, FunD K "far" "Twins.far" (defArgs s_Twins_far) (defBody s_Twins_far) (defScope s_Twins_far) [] [] (He.ma K (He.ga K "Twins") "far") fd := T.says.def_ 69 (d := D_Twins_far) rfl
theorem Tx.d_Twins_told : ∃ fd, FunD K "told" "Twins.told" (defArgs s_Twins_told) (defBody s_Twins_told) (defScope s_Twins_told) [] [] (He.ma K (He.ga K "Twins") "told") fd := T.says.def_ 70 (d := D_Twins_told) rfl
theorem Tx.d_Reader_of_texts : ∃ fd, FunD K "of_texts" "Reader.of_texts" (defArgs s_Reader_of_texts) (defBody s_Reader_of_texts) (defScope s_Reader_of_texts) [] [] (He5.wf K (He.ga K "Reader") "classmethod" "of_texts") fd := T.says.def_ 71 (d := D_Reader_of_texts) rfl
theorem Tx.exs : ex1 K (He.ga K "Reader") = true ∧ ex1 K (He.ga K "Tally") = true ∧ ex2 K = true := by
  obtain ⟨h1, h2⟩ := He.ba T.more
  obtain ⟨h3, h4⟩ := He.ba h2
  exact ⟨h1, h3, h4⟩
theorem Tx.cread : ClX.CRead K (He.ga K "Reader") (.type "type") := by
  obtain ⟨h1, h2⟩ := He.ba T.exs.2.2
  exact ⟨h1, He.eqO_ok (He.ba h2).1⟩
theorem Tx.cmet : ClX.CMet K (He.ga K "Reader") (.type "type") "of_texts" (He.ma K (He.ga K "Reader") "of_texts") (He5.wf K (He.ga K "Reader") "classmethod" "of_texts") := by
  obtain ⟨h1, h2⟩ := He.ba T.exs.2.2
  obtain ⟨h3, h4⟩ := He.ba h2
  obtain ⟨h5, h6⟩ := He.ba h4
  exact He5.cmet_of h5 h6
omit T in
theorem tyIns {C : Addr} (h : ex1 K C = true) (c : Cls K C) {H : Hp} {a dx : Addr} {fs : List (Str × V)} (e : H a = some (.ins C dx fs)) : TyX K H (.ref a) (.ref C) := by
  obtain ⟨h1, h2⟩ := He.ba h
  obtain ⟨h3, h4⟩ := He.ba h2
  obtain ⟨h5, h6⟩ := He.ba h4
  exact .base (.ins e c (He.eqO_ok h1) (He.eqO_ok h3) (of_decide_eq_true h5) (of_decide_eq_true h6))
theorem Tx.isReader {H : Hp} {a dx : Addr} {fs : List (Str × V)} (e : H a = some (.ins (He.ga K "Reader") dx fs)) : TyX K H (.ref a) (.ref (He.ga K "Reader")) := tyIns T.exs.1 T.c_Reader e
end
end K39
end Text_K39T

section Text_K39H
set_option Elab.async false set_option linter.all false set_option maxRecDepth 100000 set_option maxHeartbeats 0
namespace K39
open PySem PySem.W PySem.Calls PyProof.Rows
abbrev Rw : OpenRow := OpenLaw.row PySem.Challenge.rw_loneguess_k39_whole_all_but_finitely_man
abbrev qv : Program := view Rw.prog [95]
def names0 : List PySem.Str := ["_wall", "ReaderError", "InvalidLetters", "InvalidText", "InvalidReader", "InvalidTally", "InvalidOperation", "InvalidNumber", "TooMany", "NotLone", "MOST_LETTERS", "GREATEST", "is_integer", "is_integer_within", "are_small", "is_ascending", "is_letters", "is_text_within", "require_letters", "is_text", "is_number_set", "MAX_STATES", "is_letter_of", "is_arrow", "are_arrows", "moves_of", "beginnings_of", "Reader", "states_behind", "does_read"]
def names1 : List PySem.Str := ["require_reader", "require_state", "require_letter", "is_text_of", "turned_of", "require_size", "pairs_of", "both_of", "MAX_LENGTH", "first_row_of", "moved", "stepped", "end_of", "MAX_WIDTH", "are_parts", "Tally", "require_length", "length_of", "pairs_among", "ordered", "Twins", "two_of", "require_lone", "within_tally", "require_two", "require_pair", "is_within_of", "is_within", "late_totals", "is_nearly_within"]
def names2 : List PySem.Str := ["rest", "_law_pot", "_law_bit", "_law_pick", "_law_dealt", "_law_some_of", "_law_signs", "_law_word", "_law_told_reader", "_law_any_reader", "_law_plain_reader", "_law_flipped", "_law_renumbered", "_law_pair_reader", "_law_is_sole", "_law_sole", "_law_made_reader", "_law_gone_set", "_law_does_end", "_law_map", "_law_live", "_law_rest", "_law_drawn", "_law_right"]
def names : List PySem.Str := names0 ++ names1 ++ names2
def ob (s : PySem.W.SharedT) : AlK := obsK (HandSHeadRun.getT s)
theorem ob_eq (s : PySem.W.SharedT) : ob s = hook.obs s.abs := obsK_eq (HandSHeadRun.getT_eq s)
theorem run (w : World) : HandSHeadRun.RunEq Rw qv hook ob 12000 names w := by
  intro os
  kernel_rfl
end K39
end Text_K39H

section Text_K39A
set_option autoImplicit false set_option linter.all false
/-! Sequences of rank at most D: what D late values say. Plain Lean. -/
namespace K39

/-- the sum of f 0 .. f (n - 1) -/
def sm (f : Nat → Int) : Nat → Int
  | 0 => 0
  | n + 1 => sm f n + f n

theorem sm_congr {f g : Nat → Int} : ∀ {n : Nat}, (∀ i, i < n → f i = g i) → sm f n = sm g n
  | 0, _ => rfl
  | n + 1, h => by
    show sm f n + f n = sm g n + g n
    rw [sm_congr (n := n) fun i hi => h i (by omega), h n (by omega)]
theorem sm_zero : ∀ {f : Nat → Int} {n : Nat}, (∀ i, i < n → f i = 0) → sm f n = 0
  | _, 0, _ => rfl
  | f, n + 1, h => by
    show sm f n + f n = 0
    rw [sm_zero (n := n) fun i hi => h i (by omega), h n (by omega)]; rfl
theorem sm_add (f g : Nat → Int) : ∀ n, sm (fun i => f i + g i) n = sm f n + sm g n
  | 0 => rfl
  | n + 1 => by
    show sm (fun i => f i + g i) n + (f n + g n) = sm f n + f n + (sm g n + g n)
    rw [sm_add f g n]; omega
theorem sm_mul (c : Int) (f : Nat → Int) : ∀ n, sm (fun i => c * f i) n = c * sm f n
  | 0 => (Int.mul_zero c).symm
  | n + 1 => by
    show sm (fun i => c * f i) n + c * f n = c * (sm f n + f n)
    rw [sm_mul c f n, Int.mul_add]
theorem sm_swap (f : Nat → Nat → Int) (m : Nat) : ∀ n, sm (fun i => sm (fun j => f i j) m) n = sm (fun j => sm (fun i => f i j) n) m
  | 0 => (sm_zero (f := fun j => sm (fun i => f i j) 0) fun _ _ => rfl).symm
  | n + 1 => by
    show sm (fun i => sm (fun j => f i j) m) n + sm (fun j => f n j) m = sm (fun j => sm (fun i => f i j) n + f n j) m
    rw [sm_swap f m n, sm_add]
theorem sm_one {f : Nat → Int} {n k : Nat} (hk : k < n) (h : ∀ i, i < n → i ≠ k → f i = 0) : sm f n = f k := by
  induction n with
  | zero => omega
  | succ n ih =>
    show sm f n + f n = f k
    by_cases e : k = n
    · subst e
      rw [sm_zero fun i hi => h i (by omega) (by omega)]; omega
    · rw [ih (by omega) fun i hi hn => h i (by omega) hn, h n (by omega) (by omega)]; omega
/-- two places exchanged -/
def swp (a b i : Nat) : Nat := if i = a then b else if i = b then a else i
theorem sm_but {f : Nat → Int} {n k : Nat} (hk : k < n) : sm f n = f k + sm (fun i => if i = k then 0 else f i) n := by
  have e : sm f n = sm (fun i => (if i = k then f i else 0) + (if i = k then 0 else f i)) n := sm_congr fun i _ => by
    by_cases h : i = k
    · simp [h]
    · simp [h]
  rw [e, sm_add]
  rw [sm_one (f := fun i => if i = k then f i else 0) hk fun i _ hne => if_neg hne]
  rw [if_pos rfl]

/-- D + 1 rows of D numbers: some of them, not all times nought, sum up to nothing -/
theorem dependent : ∀ (D : Nat) (w : Nat → Nat → Int), ∃ c : Nat → Int, (∃ i, i ≤ D ∧ c i ≠ 0) ∧ ∀ j, j < D → sm (fun i => c i * w i j) (D + 1) = 0
  | 0, w => ⟨fun _ => 1, ⟨0, Nat.le_refl _, by decide⟩, fun j hj => absurd hj (Nat.not_lt_zero j)⟩
  | D + 1, w => by
    by_cases hp : ∃ p, p < D + 2 ∧ w p D ≠ 0
    · obtain ⟨p, hp1, hp2⟩ := hp
      -- the rows but p, in the place of p the last one
      let u : Nat → Nat := fun i => if i = p then D + 1 else i
      obtain ⟨c, ⟨i0, h1, h2⟩, h3⟩ := dependent D (fun i j => w p D * w (u i) j - w (u i) D * w p j)
      -- c at u i
      let e : Nat → Int := fun i => if i = p then 0 else if i = D + 1 then (if p = D + 1 then 0 else c p) else c i
      let last : Int := sm (fun i => e i * w i D) (D + 2)
      let d : Nat → Int := fun i => if i = p then -last else e i * w p D
      have key : ∀ f : Nat → Int, sm (fun i => e i * f i) (D + 2) = sm (fun i => c i * f (u i)) (D + 1) := by
        intro f
        show sm (fun i => e i * f i) (D + 1) + e (D + 1) * f (D + 1) = _
        by_cases hq : p = D + 1
        · have e0 : e (D + 1) = 0 := if_pos hq.symm
          rw [e0, Int.zero_mul, Int.add_zero]
          refine sm_congr fun i hi => ?_
          have n1 : i ≠ p := by omega
          have n2 : i ≠ D + 1 := by omega
          have a1 : e i = c i := (if_neg n1).trans (if_neg n2)
          have a2 : u i = i := if_neg n1
          rw [a1, a2]
        · have hp' : p < D + 1 := by omega
          have e0 : e (D + 1) = c p := by
            show (if D + 1 = p then (0 : Int) else if D + 1 = D + 1 then (if p = D + 1 then 0 else c p) else c (D + 1)) = c p
            rw [if_neg (fun z => hq z.symm), if_pos rfl, if_neg hq]
          rw [e0, sm_but (f := fun i => c i * f (u i)) hp']
          have a2 : u p = D + 1 := if_pos rfl
          rw [a2, Int.add_comm]
          congr 1
          refine sm_congr fun i hi => ?_
          by_cases n1 : i = p
          · have a1 : e i = 0 := if_pos n1
            rw [a1, if_pos n1, Int.zero_mul]
          · have n2 : i ≠ D + 1 := by omega
            have a1 : e i = c i := (if_neg n1).trans (if_neg n2)
            have a3 : u i = i := if_neg n1
            rw [a1, if_neg n1, a3]
      have dsum : ∀ j, sm (fun i => d i * w i j) (D + 2) = w p D * sm (fun i => e i * w i j) (D + 2) - last * w p j := by
        intro j
        rw [sm_but (f := fun i => d i * w i j) hp1]
        have a1 : d p = -last := if_pos rfl
        rw [a1]
        have a2 : sm (fun i => if i = p then 0 else d i * w i j) (D + 2) = sm (fun i => w p D * (e i * w i j)) (D + 2) := sm_congr fun i hi => by
          by_cases n1 : i = p
          · have a3 : e i = 0 := if_pos n1
            rw [if_pos n1, a3, Int.zero_mul, Int.mul_zero]
          · have a3 : d i = e i * w p D := if_neg n1
            rw [if_neg n1, a3, Int.mul_comm (e i) (w p D), Int.mul_assoc]
        rw [a2, sm_mul, Int.neg_mul]
        omega
      refine ⟨d, ?_, fun j hj => ?_⟩
      · refine ⟨u i0, ?_, ?_⟩
        · show (if i0 = p then D + 1 else i0) ≤ D + 1
          split <;> omega
        · have ne : u i0 ≠ p := by
            show (if i0 = p then D + 1 else i0) ≠ p
            split
            · omega
            · assumption
          have a1 : d (u i0) = e (u i0) * w p D := if_neg ne
          have a2 : e (u i0) = c i0 := by
            by_cases n1 : i0 = p
            · have a3 : u i0 = D + 1 := if_pos n1
              rw [a3]
              have nq : D + 1 ≠ p := by omega
              show (if D + 1 = p then (0 : Int) else if D + 1 = D + 1 then (if p = D + 1 then 0 else c p) else c (D + 1)) = c i0
              rw [if_neg nq, if_pos rfl, if_neg (Ne.symm nq), n1]
            · have a3 : u i0 = i0 := if_neg n1
              rw [a3]
              have n2 : i0 ≠ D + 1 := by omega
              exact (if_neg n1).trans (if_neg n2)
          rw [a1, a2]
          exact Int.mul_ne_zero h2 hp2
      · rw [dsum]
        by_cases hD : j = D
        · rw [hD]
          show w p D * last - last * w p D = 0
          rw [Int.mul_comm]; omega
        · have h4 := h3 j (by omega)
          rw [key (fun i => w i j)]
          have e2 : last = sm (fun i => c i * w (u i) D) (D + 1) := key (fun i => w i D)
          rw [e2]
          have e3 : sm (fun i => c i * (w p D * w (u i) j - w (u i) D * w p j)) (D + 1) = w p D * sm (fun i => c i * w (u i) j) (D + 1) - sm (fun i => c i * w (u i) D) (D + 1) * w p j := by
            have e4 : sm (fun i => c i * (w p D * w (u i) j - w (u i) D * w p j)) (D + 1) = sm (fun i => w p D * (c i * w (u i) j) + (-(w p j)) * (c i * w (u i) D)) (D + 1) := sm_congr fun i _ => by
              rw [Int.mul_sub, Int.neg_mul, ← Int.sub_eq_add_neg]
              rw [← Int.mul_assoc, Int.mul_comm (c i) (w p D), Int.mul_assoc]
              rw [← Int.mul_assoc (c i) (w (u i) D), Int.mul_comm _ (w p j)]
            rw [e4, sm_add, sm_mul, sm_mul, Int.neg_mul, ← Int.sub_eq_add_neg, Int.mul_comm (w p j)]
          rw [← e3]
          exact h4
    · have hz : ∀ p, p < D + 2 → w p D = 0 := fun p h => Classical.byContradiction fun q => hp ⟨p, h, q⟩
      obtain ⟨c, ⟨i0, h1, h2⟩, h3⟩ := dependent D w
      refine ⟨fun i => if i = D + 1 then 0 else c i, ⟨i0, by omega, by show (if i0 = D + 1 then 0 else c i0) ≠ 0; rw [if_neg (by omega)]; exact h2⟩, fun j hj => ?_⟩
      show sm (fun i => (if i = D + 1 then 0 else c i) * w i j) (D + 1) + (if D + 1 = D + 1 then 0 else c (D + 1)) * w (D + 1) j = 0
      rw [if_pos rfl, Int.zero_mul, Int.add_zero]
      have e1 : sm (fun i => (if i = D + 1 then 0 else c i) * w i j) (D + 1) = sm (fun i => c i * w i j) (D + 1) := sm_congr fun i hi => by rw [if_neg (by omega)]
      rw [e1]
      by_cases hD : j = D
      · rw [hD]
        exact sm_zero fun i hi => by rw [hz i (by omega), Int.mul_zero]
      · exact h3 j (by omega)

/-- a sequence whose late values are a bilinear product of width D -/
def Ranked (D : Nat) (u : Nat → Int) : Prop := ∃ (f w : Nat → Nat → Int), ∀ k i, u (k + i) = sm (fun j => f k j * w i j) D

theorem Ranked.rec_ {D : Nat} {u : Nat → Int} (h : Ranked D u) : ∃ c : Nat → Int, (∃ i, i ≤ D ∧ c i ≠ 0) ∧ ∀ k, sm (fun i => c i * u (k + i)) (D + 1) = 0 := by
  obtain ⟨f, w, h⟩ := h
  obtain ⟨c, h1, h2⟩ := dependent D w
  refine ⟨c, h1, fun k => ?_⟩
  have e : sm (fun i => c i * u (k + i)) (D + 1) = sm (fun i => sm (fun j => f k j * (c i * w i j)) D) (D + 1) := sm_congr fun i _ => by
    rw [h k i, ← sm_mul]
    exact sm_congr fun j _ => by rw [← Int.mul_assoc, ← Int.mul_assoc, Int.mul_comm (c i)]
  rw [e, sm_swap]
  refine sm_zero fun j hj => ?_
  rw [sm_mul, h2 j hj, Int.mul_zero]

theorem greatest {p : Nat → Prop} [DecidablePred p] : ∀ {D : Nat}, (∃ i, i ≤ D ∧ p i) → ∃ i, i ≤ D ∧ p i ∧ ∀ k, k ≤ D → i < k → ¬ p k
  | 0, ⟨i, h, q⟩ => ⟨i, h, q, fun k h1 h2 => by omega⟩
  | D + 1, ⟨i, h, q⟩ => by
    by_cases hd : p (D + 1)
    · exact ⟨D + 1, Nat.le_refl _, hd, fun k h1 h2 => by omega⟩
    · have hi : i ≤ D := by
        rcases Nat.lt_or_ge D i with z | z
        · have e : i = D + 1 := by omega
          rw [e] at q
          exact absurd q hd
        · exact z
      obtain ⟨j, h1, h2, h3⟩ := greatest (D := D) ⟨i, hi, q⟩
      refine ⟨j, by omega, h2, fun k hk1 hk2 => ?_⟩
      by_cases e : k = D + 1
      · rw [e]; exact hd
      · exact h3 k (by omega) hk2
theorem least {p : Nat → Prop} [DecidablePred p] {D : Nat} (h : ∃ i, i ≤ D ∧ p i) : ∃ i, i ≤ D ∧ p i ∧ ∀ k, k < i → ¬ p k := by
  obtain ⟨i, h1, h2, h3⟩ := greatest (p := fun i => p (D - i)) (D := D) (let ⟨i, a, b⟩ := h; ⟨D - i, by omega, by show p (D - (D - i)); rw [show D - (D - i) = i by omega]; exact b⟩)
  refine ⟨D - i, by omega, h2, fun k hk q => h3 (D - k) (by omega) (by omega) ?_⟩
  show p (D - (D - k))
  rw [show D - (D - k) = k by omega]; exact q

section
variable {D : Nat} {u : Nat → Int}
/-- D values at m, m + 1, .. are 0: so are all from m on -/
theorem Ranked.window (h : Ranked D u) {m : Nat} (hz : ∀ k, m ≤ k → k < m + D → u k = 0) : ∀ k, m ≤ k → u k = 0 := by
  obtain ⟨c, h1, h2⟩ := h.rec_
  obtain ⟨t, t1, t2, t3⟩ := greatest h1
  intro k
  induction k using Nat.strongRecOn with
  | ind k ih =>
    intro hk
    by_cases hs : k < m + D
    · exact hz k hk hs
    · have e := h2 (k - t)
      have hlt : t < D + 1 := by omega
      rw [sm_one hlt fun i hi hne => ?_] at e
      · rw [show k - t + t = k by omega] at e
        rcases Int.mul_eq_zero.mp e with q | q
        · exact absurd q t2
        · exact q
      · rcases Nat.lt_or_ge t i with z | z
        · have q : c i = 0 := Classical.byContradiction fun q => t3 i (by omega) z q
          rw [q, Int.zero_mul]
        · rw [ih (k - t + i) (by omega) (by omega), Int.mul_zero]
/-- 0 for all great indices: 0 from D on -/
theorem Ranked.late (h : Ranked D u) {N : Nat} (hz : ∀ k, N ≤ k → u k = 0) : ∀ k, D ≤ k → u k = 0 := by
  obtain ⟨c, h1, h2⟩ := h.rec_
  obtain ⟨t, t1, t2, t3⟩ := least h1
  have down : ∀ d k, D ≤ k → N ≤ k + d → u k = 0 := by
    intro d
    induction d with
    | zero => exact fun k _ h => hz k (by omega)
    | succ d ih =>
      intro k hk hn
      have e := h2 (k - t)
      have hlt : t < D + 1 := by omega
      rw [sm_one hlt fun i hi hne => ?_] at e
      · rw [show k - t + t = k by omega] at e
        rcases Int.mul_eq_zero.mp e with q | q
        · exact absurd q t2
        · exact q
      · rcases Nat.lt_or_ge i t with z | z
        · have q : c i = 0 := Classical.byContradiction fun q => t3 i z q
          rw [q, Int.zero_mul]
        · rw [ih (k - t + i) (by omega) (by omega), Int.mul_zero]
  exact fun k hk => down N k hk (by omega)
end
end K39
end Text_K39A

section Text_K39F
set_option Elab.async false set_option linter.all false set_option maxRecDepth 100000 set_option maxHeartbeats 4000000
/-! The ground: data that never changes, heaps that grow, comprehensions that only read. -/
namespace K39
open PySem PySem.Spec L2
open PyProof.Rows (IntsAre)

/-! ### heaps -/
/-- all that was tracked stands, but what is at p -/
def SameX (p : Addr) (H H' : Hp) : Prop := ∀ b o, H b = some o → b ≠ p → H' b = some o
/-- the tuples stand -/
structure TLe (H H' : Hp) : Prop where
  t : ∀ b xs, H b = some (.tup xs) → H' b = some (.tup xs)
  f : ∀ b o (u : List V), H b = some (.frz o (.tup u)) → H' b = some (.frz o (.tup u))
section
variable {H H1 H2 H' : Hp} {p : Addr} {o : HO}
theorem _root_.L2.Same.tle (h : Same H H') : TLe H H' := ⟨fun b xs e => h b _ e, fun b o u e => h b _ e⟩
theorem TLe.refl (H : Hp) : TLe H H := ⟨fun _ _ e => e, fun _ _ _ e => e⟩
theorem TLe.trans (a : TLe H H1) (b : TLe H1 H2) : TLe H H2 := ⟨fun c xs e => b.t c xs (a.t c xs e), fun c o u e => b.f c o u (a.f c o u e)⟩
theorem _root_.L2.Same.x (h : Same H H') : SameX p H H' := fun b o e _ => h b o e
theorem SameX.refl (p : Addr) (H : Hp) : SameX p H H := fun _ _ e _ => e
theorem SameX.trans (a : SameX p H H1) (b : SameX p H1 H2) : SameX p H H2 := fun c o e n => b c o (a c o e n) n
theorem _root_.L2.Same.new (h : H p = none) : Same H (upd H p o) := fun b u e => by
  rw [upd_ne (ne_of_none e h)]; exact e
theorem _root_.L2.Same.put (s : Same H H1) (h : H p = none) : Same H (upd H1 p o) := fun b u e => by
  rw [upd_ne (ne_of_none e h)]; exact s b u e
theorem SameX.put (s : SameX p H H1) : SameX p H (upd H1 p o) := fun b u e n => by
  rw [upd_ne n]; exact s b u e n
theorem SameX.new {q : Addr} (s : SameX p H H1) (h : H q = none) : SameX p H (upd H1 q o) := fun b u e n => by
  rw [upd_ne (ne_of_none e h)]; exact s b u e n
theorem SameX.same (s : SameX p H H') (h : H p = none) : Same H H' := fun b o e => s b o e (ne_of_none e h)
theorem SameX.tle (s : SameX p H H') (h : ∀ xs, H p ≠ some (.tup xs)) (h2 : ∀ o (u : List V), H p ≠ some (.frz o (.tup u))) : TLe H H' :=
  ⟨fun b xs e => s b _ e fun q => by rw [q] at e; exact h xs e, fun b o u e => s b _ e fun q => by rw [q] at e; exact h2 o u e⟩
theorem TLe.new (h : H p = none) : TLe H (upd H p o) := (Same.new h).tle
theorem TLe.upd (h : ∀ xs, H p ≠ some (.tup xs)) (h2 : ∀ o (u : List V), H p ≠ some (.frz o (.tup u))) : TLe H (upd H p o) :=
  ⟨fun b xs e => by rw [upd_ne fun q => by rw [q] at e; exact h xs e]; exact e, fun b o u e => by rw [upd_ne fun q => by rw [q] at e; exact h2 o u e]; exact e⟩
theorem TLe.lst {xs : List V} (h : H p = some (.lst xs)) : TLe H (L2.upd H p o) := TLe.upd (fun _ e => by rw [h] at e; cases e) fun _ _ e => by rw [h] at e; cases e
theorem TLe.dK {kvs : List (Key × V)} (h : H p = some (.dK kvs)) : TLe H (L2.upd H p o) := TLe.upd (fun _ e => by rw [h] at e; cases e) fun _ _ e => by rw [h] at e; cases e
theorem TLe.ext {φ : Heap → Prop} (h : H p = some (.ext φ)) : TLe H (L2.upd H p o) := TLe.upd (fun _ e => by rw [h] at e; cases e) fun _ _ e => by rw [h] at e; cases e
theorem TLe.ins {C dx : Addr} {fs : List (Str × V)} (h : H p = some (.ins C dx fs)) : TLe H (L2.upd H p o) := TLe.upd (fun _ e => by rw [h] at e; cases e) fun _ _ e => by rw [h] at e; cases e
theorem TLe.frz {q : Obj} {kvs : List (Key × V)} (h : H p = some (.frz q (.dK kvs))) : TLe H (L2.upd H p o) := TLe.upd (fun _ e => by rw [h] at e; cases e) fun _ _ e => by rw [h] at e; cases e
theorem SqT.tle {K : PySem.W.Frag} {a : Addr} {xs : List V} (k : TLe H H') (h : SqT K H a xs) : SqT K H' a xs := by
  rcases h with (h | ⟨o, h⟩) | h
  · exact .inl (.inl (k.t _ _ h))
  · exact .inl (.inr ⟨o, k.f _ _ _ h⟩)
  · exact .inr h
theorem SqL.same {K : PySem.W.Frag} {a : Addr} {xs : List V} (k : Same H H') (h : SqL K H a xs) : SqL K H' a xs := k.seq h
end

/-! ### data: None, bools, ints, texts, tuples of such -/
mutual
inductive Dt (K : PySem.W.Frag) (H : Hp) : V → PyData → Prop
  | non : Dt K H .non .none
  | bl (b : Bool) : Dt K H (.bl b) (.bool b)
  | int (i : Int) : Dt K H (.int i) (.int i)
  | str (x : Str) : Dt K H (.str x) (.str x)
  | tup {a : Addr} {xs : List V} {ds : List PyData} : SqT K H a xs → DtAll K H xs ds → Dt K H (.ref a) (.tuple ds)
inductive DtAll (K : PySem.W.Frag) (H : Hp) : List V → List PyData → Prop
  | nil : DtAll K H [] []
  | cons {v : V} {vs : List V} {d : PyData} {ds : List PyData} : Dt K H v d → DtAll K H vs ds → DtAll K H (v :: vs) (d :: ds)
end
section
variable {K : PySem.W.Frag} {H H' : Hp}
mutual
theorem Dt.tle (k : TLe H H') : ∀ (d : PyData) (v : V), Dt K H v d → Dt K H' v d
  | .none, _, h => by cases h; exact .non
  | .bool _, _, h => by cases h; exact .bl _
  | .int _, _, h => by cases h; exact .int _
  | .str _, _, h => by cases h; exact .str _
  | .tuple ds, _, h => by
    cases h with
    | tup hs ha => exact .tup (SqT.tle k hs) (DtAll.tle k ds _ ha)
  | .list _, _, h => by cases h
  | .dict _, _, h => by cases h
theorem DtAll.tle (k : TLe H H') : ∀ (ds : List PyData) (vs : List V), DtAll K H vs ds → DtAll K H' vs ds
  | [], _, h => by cases h; exact .nil
  | d :: ds, _, h => by
    cases h with
    | cons h1 h2 => exact .cons (Dt.tle k d _ h1) (DtAll.tle k ds _ h2)
end
theorem Dt.to (h : Dt K H v d) (k : TLe H H') : Dt K H' v d := Dt.tle k d v h
theorem DtAll.to (h : DtAll K H vs ds) (k : TLe H H') : DtAll K H' vs ds := DtAll.tle k ds vs h
theorem Dt.same (h : Dt K H v d) (k : Same H H') : Dt K H' v d := h.to k.tle
theorem DtAll.same (h : DtAll K H vs ds) (k : Same H H') : DtAll K H' vs ds := h.to k.tle
mutual
theorem Dt.dp : ∀ (d : PyData) (v : V), Dt K H v d → Dp K H v d
  | .none, _, h => by cases h; exact .non
  | .bool _, _, h => by cases h; exact .bl _
  | .int _, _, h => by cases h; exact .int _
  | .str _, _, h => by cases h; exact .str _
  | .tuple ds, _, h => by
    cases h with
    | tup hs ha => exact .tup hs (DtAll.dp ds _ ha)
  | .list _, _, h => by cases h
  | .dict _, _, h => by cases h
theorem DtAll.dp : ∀ (ds : List PyData) (vs : List V), DtAll K H vs ds → DpAll K H vs ds
  | [], _, h => by cases h; exact .nil
  | d :: ds, _, h => by
    cases h with
    | cons h1 h2 => exact .cons (Dt.dp d _ h1) (DtAll.dp ds _ h2)
end
theorem DtAll.length : ∀ {vs : List V} {ds : List PyData}, DtAll K H vs ds → vs.length = ds.length
  | [], _, h => by cases h; rfl
  | _ :: _, _, h => by
    cases h with
    | cons _ h2 => rw [List.length_cons, List.length_cons, h2.length]
theorem DtAll.get : ∀ {vs : List V} {ds : List PyData} {i : Nat} {d : PyData}, DtAll K H vs ds → ds[i]? = some d → ∃ v, vs[i]? = some v ∧ Dt K H v d
  | [], _, i, d, h, e => by cases h; simp at e
  | _ :: _, _, 0, d, h, e => by
    cases h with
    | cons h1 h2 => simp at e; subst e; exact ⟨_, rfl, h1⟩
  | _ :: _, _, i + 1, d, h, e => by
    cases h with
    | cons h1 h2 =>
      obtain ⟨v, a, b⟩ := h2.get (i := i) (d := d) (by simpa using e)
      exact ⟨v, by simpa using a, b⟩
theorem DtAll.get' : ∀ {vs : List V} {ds : List PyData} {i : Nat} {v : V}, DtAll K H vs ds → vs[i]? = some v → ∃ d, ds[i]? = some d ∧ Dt K H v d
  | [], _, i, d, h, e => by simp at e
  | _ :: _, _, 0, d, h, e => by
    cases h with
    | cons h1 h2 => simp at e; subst e; exact ⟨_, rfl, h1⟩
  | _ :: _, _, i + 1, d, h, e => by
    cases h with
    | cons h1 h2 =>
      obtain ⟨v, a, b⟩ := h2.get' (i := i) (v := d) (by simpa using e)
      exact ⟨v, by simpa using a, b⟩
theorem DtAll.append : ∀ {vs ws : List V} {ds es : List PyData}, DtAll K H vs ds → DtAll K H ws es → DtAll K H (vs ++ ws) (ds ++ es)
  | [], _, _, _, h, q => by cases h; exact q
  | _ :: _, _, _, _, h, q => by
    cases h with
    | cons h1 h2 => exact .cons h1 (h2.append q)
theorem DtAll.take : ∀ {vs : List V} {ds : List PyData} (n : Nat), DtAll K H vs ds → DtAll K H (vs.take n) (ds.take n)
  | _, _, 0, _ => .nil
  | [], _, n + 1, h => by cases h; exact .nil
  | _ :: _, _, n + 1, h => by
    cases h with
    | cons h1 h2 => exact .cons h1 (h2.take n)
theorem DtAll.drop : ∀ {vs : List V} {ds : List PyData} (n : Nat), DtAll K H vs ds → DtAll K H (vs.drop n) (ds.drop n)
  | _, _, 0, h => h
  | [], _, n + 1, h => by cases h; exact .nil
  | _ :: _, _, n + 1, h => by
    cases h with
    | cons h1 h2 => exact h2.drop n
theorem DtAll.one (h : Dt K H v d) : DtAll K H [v] [d] := .cons h .nil
theorem DtAll.dropLast {vs : List V} {ds : List PyData} (h : DtAll K H vs ds) : DtAll K H vs.dropLast ds.dropLast := by
  rw [List.dropLast_eq_take, List.dropLast_eq_take, h.length]; exact h.take _
/-- items that stand in pairs with data -/
theorem DtAll.of {α : Type} (f : α → PyData) : ∀ {as : List α} {vs : List V}, Paired (fun a v => Dt K H v (f a)) as vs → DtAll K H vs (as.map f)
  | _, _, .nil => .nil
  | _, _, .cons h t => .cons h (DtAll.of f t)
theorem DtAll.pair {α : Type} (f : α → PyData) : ∀ {as : List α} {vs : List V}, DtAll K H vs (as.map f) → Paired (fun a v => Dt K H v (f a)) as vs
  | [], _, h => by
    have h' : DtAll K H _ [] := h
    cases h'; exact .nil
  | a :: as, _, h => by
    have h' : DtAll K H _ (f a :: as.map f) := h
    cases h' with
    | cons h1 h2 => exact .cons h1 (DtAll.pair f h2)
theorem DtAll.ints : ∀ {vs : List V} {l : List Int}, DtAll K H vs (l.map .int) → vs = l.map V.int
  | _, [], h => by
    have h' : DtAll K H _ [] := h
    cases h'; rfl
  | _, i :: l, h => by
    have h' : DtAll K H _ (.int i :: l.map .int) := h
    cases h' with
    | cons h1 h2 =>
      cases h1
      rw [DtAll.ints h2]; rfl
theorem DtAll.ofInts : ∀ (l : List Int), DtAll K H (l.map V.int) (l.map .int)
  | [] => .nil
  | i :: l => .cons (.int i) (DtAll.ofInts l)
end

/-! ### the data of this program -/
/-- a state -/
abbrev eN (n : Nat) : PyData := .int (n : Int)
/-- a tuple of states -/
abbrev eNs (l : List Nat) : PyData := .tuple (l.map eN)
/-- an arrow: state, letter, state -/
abbrev Arr := Nat × Nat × Nat
/-- a text of one sign -/
abbrev sg (c : Nat) : Str := ⟨#[c]⟩
abbrev eA (a : Arr) : PyData := .tuple [.int (a.1 : Int), .str (sg a.2.1), .int (a.2.2 : Int)]
abbrev eP (p : Nat × Nat) : PyData := .tuple [.int (p.1 : Int), .int (p.2 : Int)]
/-- a pair of states with a mark -/
abbrev Nd := Nat × Nat × Bool
abbrev eD (x : Nd) : PyData := .tuple [.int (x.1 : Int), .int (x.2.1 : Int), .bool x.2.2]
/-- a pair of sets of states -/
abbrev KK := List Nat × List Nat
abbrev eK (x : KK) : PyData := .tuple [eNs x.1, eNs x.2]

section
variable {K : PySem.W.Frag} {H : Hp}
theorem dtNs : ∀ {l : List Nat} {vs : List V}, DtAll K H vs (l.map eN) → vs = l.map fun n : Nat => V.int (n : Int)
  | [], _, h => by
    have h' : DtAll K H _ [] := h
    cases h'; rfl
  | n :: l, _, h => by
    have h' : DtAll K H _ (.int (n : Int) :: l.map eN) := h
    cases h' with
    | cons h1 h2 =>
      cases h1
      rw [dtNs h2]; rfl
theorem dtNs' : ∀ (l : List Nat), DtAll K H (l.map fun n : Nat => V.int (n : Int)) (l.map eN)
  | [] => .nil
  | n :: l => .cons (.int (n : Int)) (dtNs' l)
/-- a tuple of states, read -/
theorem Dt.ns {v : V} {l : List Nat} (h : Dt K H v (eNs l)) : ∃ a, v = .ref a ∧ SqT K H a (l.map fun n : Nat => V.int (n : Int)) := by
  cases h with
  | tup hs ha =>
    rw [dtNs ha] at hs
    exact ⟨_, rfl, hs⟩
theorem Dt.ofNs {a : Addr} {l : List Nat} (h : SqT K H a (l.map fun n : Nat => V.int (n : Int))) : Dt K H (.ref a) (eNs l) := .tup h (dtNs' l)
theorem Dt.tuple {v : V} {ds : List PyData} (h : Dt K H v (.tuple ds)) : ∃ a xs, v = .ref a ∧ SqT K H a xs ∧ DtAll K H xs ds := by
  cases h with
  | tup hs ha => exact ⟨_, _, rfl, hs, ha⟩
theorem Dt.arr {v : V} {a : Arr} (h : Dt K H v (eA a)) : ∃ p, v = .ref p ∧ SqT K H p [.int (a.1 : Int), .str (sg a.2.1), .int (a.2.2 : Int)] := by
  obtain ⟨p, xs, rfl, hs, ha⟩ := h.tuple
  cases ha with
  | cons h1 ha =>
    cases ha with
    | cons h2 ha =>
      cases ha with
      | cons h3 ha =>
        cases ha; cases h1; cases h2; cases h3
        exact ⟨p, rfl, hs⟩
theorem Dt.ofArr {p : Addr} {a : Arr} (h : SqT K H p [.int (a.1 : Int), .str (sg a.2.1), .int (a.2.2 : Int)]) : Dt K H (.ref p) (eA a) := .tup h (.cons (.int _) (.cons (.str _) (.cons (.int _) .nil)))
theorem Dt.prs {v : V} {a : Nat × Nat} (h : Dt K H v (eP a)) : ∃ p, v = .ref p ∧ SqT K H p [.int (a.1 : Int), .int (a.2 : Int)] := by
  obtain ⟨p, xs, rfl, hs, ha⟩ := h.tuple
  cases ha with
  | cons h1 ha =>
    cases ha with
    | cons h2 ha =>
      cases ha; cases h1; cases h2
      exact ⟨p, rfl, hs⟩
theorem Dt.ofPrs {p : Addr} {a : Nat × Nat} (h : SqT K H p [.int (a.1 : Int), .int (a.2 : Int)]) : Dt K H (.ref p) (eP a) := .tup h (.cons (.int _) (.cons (.int _) .nil))
theorem Dt.nd {v : V} {a : Nd} (h : Dt K H v (eD a)) : ∃ p, v = .ref p ∧ SqT K H p [.int (a.1 : Int), .int (a.2.1 : Int), .bl a.2.2] := by
  obtain ⟨p, xs, rfl, hs, ha⟩ := h.tuple
  cases ha with
  | cons h1 ha =>
    cases ha with
    | cons h2 ha =>
      cases ha with
      | cons h3 ha =>
        cases ha; cases h1; cases h2; cases h3
        exact ⟨p, rfl, hs⟩
theorem Dt.ofNd {p : Addr} {a : Nd} (h : SqT K H p [.int (a.1 : Int), .int (a.2.1 : Int), .bl a.2.2]) : Dt K H (.ref p) (eD a) := .tup h (.cons (.int _) (.cons (.int _) (.cons (.bl _) .nil)))
theorem Dt.kk {v : V} {a : KK} (h : Dt K H v (eK a)) : ∃ p x y, v = .ref p ∧ SqT K H p [x, y] ∧ Dt K H x (eNs a.1) ∧ Dt K H y (eNs a.2) := by
  obtain ⟨p, xs, rfl, hs, ha⟩ := h.tuple
  cases ha with
  | cons h1 ha =>
    cases ha with
    | cons h2 ha =>
      cases ha
      exact ⟨p, _, _, rfl, hs, h1, h2⟩
theorem Dt.ofKk {p : Addr} {x y : V} {a : KK} (h : SqT K H p [x, y]) (h1 : Dt K H x (eNs a.1)) (h2 : Dt K H y (eNs a.2)) : Dt K H (.ref p) (eK a) := .tup h (.cons h1 (.cons h2 .nil))
/-- an item of a tuple of such -/
theorem Dt.item {v : V} {l : List PyData} {i : Nat} {d : PyData} (h : Dt K H v (.tuple l)) (e : l[i]? = some d) : ∃ a xs x, v = .ref a ∧ SqT K H a xs ∧ atI xs (i : Int) = some x ∧ Dt K H x d := by
  obtain ⟨a, xs, rfl, hs, ha⟩ := h.tuple
  obtain ⟨x, hx, hd⟩ := ha.get e
  exact ⟨a, xs, x, rfl, hs, atI_nat hx, hd⟩
end

/-! ### lists of related things -/
abbrev PAll {α : Type} (R : α → V → Hp → Prop) (as : List α) (ys : List V) (H : Hp) : Prop := Paired (fun a y => R a y H) as ys
theorem PAll.to {α : Type} {R : α → V → Hp → Prop} {as : List α} {ys : List V} {H H' : Hp} (st : ∀ a y, R a y H → R a y H') (h : PAll R as ys H) : PAll R as ys H' := Paired.mono (fun a y q => st a y q) h
theorem paired_append {α β : Type} {F : α → β → Prop} : ∀ {as bs : List α} {xs ys : List β}, Paired F as xs → Paired F bs ys → Paired F (as ++ bs) (xs ++ ys)
  | _, _, _, _, .nil, q => q
  | _, _, _, _, .cons h t, q => .cons h (paired_append t q)
theorem paired_get {α β : Type} {F : α → β → Prop} : ∀ {as : List α} {xs : List β} {i : Nat} {a : α}, Paired F as xs → as[i]? = some a → ∃ x, xs[i]? = some x ∧ F a x
  | _, _, i, a, .nil, e => by simp at e
  | _, _, 0, a, .cons h t, e => by simp at e; subst e; exact ⟨_, rfl, h⟩
  | _, _, i + 1, a, .cons h t, e => by
    obtain ⟨x, q, r⟩ := paired_get (i := i) (a := a) t (by simpa using e)
    exact ⟨x, by simpa using q, r⟩
theorem take_one {α : Type} {l : List α} {i : Nat} {a : α} (h : l[i]? = some a) : l.take (i + 1) = l.take i ++ [a] := by
  rw [List.take_succ, h]; rfl

/-- where a source's item comes from: the heap grows at most by what is new -/
def Grows (Y : Nat → Hp → V → Hp → Prop) : Prop := ∀ i H x H', Y i H x H' → Same H H'
theorem grows_at {xs : List V} : Grows (YAt xs) := fun _ H _ _ y => by rw [y.1]; exact Same.refl H
theorem grows_fn {f : Nat → V} : Grows (YFn f) := fun _ H _ _ y => by rw [y.1]; exact Same.refl H
theorem grows_pair {xs ys : Nat → Option V} : Grows (YPair xs ys) := fun _ H _ _ ⟨T, x, y, _, hT, e, _⟩ => by rw [e]; exact Same.new hT
theorem grows_str {z : Str} : Grows (fun i H v H' => H' = H ∧ ∃ c, z.cps[i]? = some c ∧ v = .str ⟨#[c]⟩) := fun _ H _ _ y => by rw [y.1]; exact Same.refl H

/-- one turn of a comprehension that only reads: x may be kept (k), then it becomes a y with R -/
def Turns (g : TG) (tt : TT) (te : TE) (τ : St) (vs : List Nat) (x : V) (H : Hp) (k : Bool) (R : V → Hp → Prop) : Prop :=
  ∀ (C1 : Hp → Prop) (C2 : V → Hp → Prop), (k = false → ∀ H', Same H H' → C1 H') → (k = true → ∀ y H', Same H H' → R y H' → C2 y H') →
    g x τ H fun σ2 H2 => wipe σ2 vs = τ ∧ tt σ2 H2 fun b H3 => if b = true then te σ2 H3 C2 else C1 H3

/-- a comprehension with one clause that only reads -/
theorem comp_it {α : Type} {J : It} {n : Nat} {G : Hp → Prop} {Y : Nat → Hp → V → Hp → Prop} (w : Walk J n G Y) (gr : Grows Y) (as : List α) (hn : as.length = n) (hz : n < sizeLine) (k : α → Bool) (R : α → V → Hp → Prop)
    (st : ∀ a y H H', TLe H H' → R a y H → R a y H') {g : TG} {tt : TT} {te : TE} {vs : List Nat} {σ : St} {H1 : Hp} {D : Addr} {Qd : Hp → Prop} (hD : H1 D = none)
    (hG : ∀ H, Same H1 H → G H)
    (hs : ∀ i x a H H', as[i]? = some a → Same H1 H → Y i H x H' → Turns g tt te (wipe σ vs) vs x H' (k a) (R a))
    (hd : ∀ ys H, Same H1 H → H D = some (.lst ys) → PAll R (as.filter k) ys H → Qd H) :
    ∃ W : Nat → Nat → Hp → Prop, (∃ m, W 0 m (upd H1 D (.lst []))) ∧ ∀ i m H, W i m H →
      (J.stop i H ∧ Qd H) ∨ (J.go i H ∧ ∃ Nx : Hp → Prop, (∀ H', Nx H' → ∃ m', m' < m ∧ W (i + 1) m' H') ∧ ∀ x H', J.yld i H x H' → g x (wipe σ vs) H' fun σ2 H2 => wipe σ2 vs = wipe σ vs ∧ tt σ2 H2 fun b H3 =>
        if b = true then te σ2 H3 fun y H4 => ∃ acc, H4 D = some (.lst acc) ∧ acc.length < sizeLine ∧ Nx (upd H4 D (.lst (acc ++ [y]))) else Nx H3) := by
  refine lc_it w (fun i H => Same H1 H ∧ ∃ acc, H D = some (.lst acc) ∧ PAll R ((as.take i).filter k) acc H) ⟨Same.new hD, [], upd_same, .nil⟩ (fun i H _ p => hG H p.1) (fun i x H H' hi p y => ?_) fun H p => ?_
  · obtain ⟨sm, acc, hacc, pa⟩ := p
    have hi' : i < as.length := by omega
    have ha : as[i]? = some as[i] := List.getElem?_eq_getElem hi'
    have s1 : Same H H' := gr i H x H' y
    have lz : acc.length < sizeLine := by
      have e := Paired.length pa
      have e1 : ((as.take i).filter k).length ≤ (as.take i).length := List.length_filter_le ..
      have e2 : (as.take i).length ≤ i := by rw [List.length_take]; omega
      omega
    refine hs i x as[i] H H' ha sm y _ _ (fun hk H3 s3 => ?_) fun hk z H4 s4 r => ?_
    · refine ⟨(sm.trans s1).trans s3, acc, s3 _ _ (s1 _ _ hacc), ?_⟩
      rw [take_one ha, List.filter_append]
      have e : [as[i]].filter k = [] := by simp [hk]
      rw [e, List.append_nil]
      exact PAll.to (fun a y => st a y _ _ (s1.trans s3).tle) pa
    · have hacc4 := s4 _ _ (s1 _ _ hacc)
      refine ⟨acc, hacc4, lz, ((sm.trans s1).trans s4).put hD, _, upd_same, ?_⟩
      rw [take_one ha, List.filter_append]
      have e : [as[i]].filter k = [as[i]] := by simp [hk]
      rw [e]
      have t4 : TLe H4 (upd H4 D (.lst (acc ++ [z]))) := TLe.lst hacc4
      exact paired_append (PAll.to (fun a y => st a y _ _ ((s1.trans s4).tle.trans t4)) pa) (.cons (st _ _ _ _ t4 r) .nil)
  · obtain ⟨sm, acc, hacc, pa⟩ := p
    rw [List.take_of_length_le (by omega)] at pa
    exact hd acc H sm hacc pa

/-- the inner loop of a comprehension with two clauses; acc0 is what the new list D holds -/
theorem in_it {β : Type} {J : It} {n : Nat} {G : Hp → Prop} {Y : Nat → Hp → V → Hp → Prop} (w : Walk J n G Y) (gr : Grows Y) (bs : List β) (hn : bs.length = n) (k : β → Bool) (R : β → V → Hp → Prop)
    (st : ∀ a y H H', TLe H H' → R a y H → R a y H') {g : TG} {tt : TT} {te : TE} {vs : List Nat} {σ : St} {H1 : Hp} {D : Addr} {acc0 : List V} {Nx : Hp → Prop} (hD : H1 D = some (.lst acc0)) (hz : acc0.length + n < sizeLine)
    (hG : ∀ H, SameX D H1 H → G H)
    (hs : ∀ i x b H H', bs[i]? = some b → SameX D H1 H → Y i H x H' → Turns g tt te (wipe σ vs) vs x H' (k b) (R b))
    (hd : ∀ ys H, SameX D H1 H → H D = some (.lst (acc0 ++ ys)) → PAll R (bs.filter k) ys H → Nx H) :
    ∃ W : Nat → Nat → Hp → Prop, (∃ m, W 0 m H1) ∧ ∀ i m H, W i m H →
      (J.stop i H ∧ Nx H) ∨ (J.go i H ∧ ∃ Nx1 : Hp → Prop, (∀ H', Nx1 H' → ∃ m', m' < m ∧ W (i + 1) m' H') ∧ ∀ x H', J.yld i H x H' → g x (wipe σ vs) H' fun σ2 H2 => wipe σ2 vs = wipe σ vs ∧ tt σ2 H2 fun b H3 =>
        if b = true then te σ2 H3 fun y H4 => ∃ acc, H4 D = some (.lst acc) ∧ acc.length < sizeLine ∧ Nx1 (upd H4 D (.lst (acc ++ [y]))) else Nx1 H3) := by
  let Pv : Nat → Hp → Prop := fun i H => SameX D H1 H ∧ ∃ ys, H D = some (.lst (acc0 ++ ys)) ∧ PAll R ((bs.take i).filter k) ys H
  refine ⟨fun i m H => m = n - i ∧ i ≤ n ∧ Pv i H, ⟨n, by simp, Nat.zero_le _, SameX.refl D H1, [], by rw [List.append_nil]; exact hD, .nil⟩, ?_⟩
  rintro i m H ⟨rfl, hi, sm, ys, hys, pa⟩
  have q := hG H sm
  by_cases hlt : i < n
  · refine .inr ⟨w.goes i H hlt q, Pv (i + 1), fun H' p' => ⟨n - (i + 1), by omega, rfl, hlt, p'⟩, fun x H' y0 => ?_⟩
    have y := w.yields i H x H' hlt q y0
    have hi' : i < bs.length := by omega
    have hb : bs[i]? = some bs[i] := List.getElem?_eq_getElem hi'
    have s1 : Same H H' := gr i H x H' y
    have lz : (acc0 ++ ys).length < sizeLine := by
      have e := Paired.length pa
      have e1 : ((bs.take i).filter k).length ≤ (bs.take i).length := List.length_filter_le ..
      have e2 : (bs.take i).length ≤ i := by rw [List.length_take]; omega
      rw [List.length_append]
      omega
    refine hs i x bs[i] H H' hb sm y _ _ (fun hk H3 s3 => ?_) fun hk z H4 s4 r => ?_
    · refine ⟨(sm.trans (s1.trans s3).x), ys, s3 _ _ (s1 _ _ hys), ?_⟩
      rw [take_one hb, List.filter_append]
      have e : [bs[i]].filter k = [] := by simp [hk]
      rw [e, List.append_nil]
      exact PAll.to (fun a y => st a y _ _ (s1.trans s3).tle) pa
    · have hacc4 := s4 _ _ (s1 _ _ hys)
      refine ⟨_, hacc4, lz, (sm.trans (s1.trans s4).x).put, ys ++ [z], by rw [upd_same, List.append_assoc], ?_⟩
      rw [take_one hb, List.filter_append]
      have e : [bs[i]].filter k = [bs[i]] := by simp [hk]
      rw [e]
      have t4 : TLe H4 (upd H4 D (.lst (acc0 ++ ys ++ [z]))) := TLe.lst hacc4
      exact paired_append (PAll.to (fun a y => st a y _ _ ((s1.trans s4).tle.trans t4)) pa) (.cons (st _ _ _ _ t4 r) .nil)
  · have e : i = n := by omega
    subst e
    rw [List.take_of_length_le (by omega)] at pa
    exact .inl ⟨w.stops H q, hd ys H sm hys pa⟩
end K39
end Text_K39F

section Text_K39G
set_option Elab.async false set_option linter.all false set_option maxRecDepth 100000 set_option maxHeartbeats 4000000
/-! Defs by their promises; calls; orders and sorts of data. -/
namespace K39
open PySem PySem.Spec PyProof.Rows L2

/-! ### a def that keeps its promise -/
def Fn (P : Program) (w : World) (K : PySem.W.Frag) (mg : Str → Option Value) (base : Heap) (k : Nat) (x : Str) (sp : Sp) : Prop :=
  FnR P w K mg base CX0 k (He.ga K x) sp ∧ PySem.W.keepIn K (.ref (He.ga K x)) = true ∧ mg x = some (.ref (He.ga K x))
section
variable {P : Program} {w : World} {K : PySem.W.Frag} {mg : Str → Option Value} {base : Heap}
theorem fnr_mk {x q : Str} {st : Stmt} {f : Addr} {N ps : List Str} {k : Nat} {sp : Sp} (F : ∃ fd, FunD K x q (defArgs st) (defBody st) (defScope st) [] [] f fd) (S : FnScope N ps (defScope st))
    (b : ∀ (kV doc pm : Value) (an : Option Addr) (cdv ct : Value) (us : List Value), us.length = ps.length → bindArgs (PySem.W.fnOf x q (defArgs st) (defBody st) (defScope st) .none kV doc pm an cdv ct) ⟨us, []⟩ = pure (ps.zip us))
    (len : ∀ vs H Q E, sp vs H Q E → vs.length = ps.length)
    (hbody : ∀ (cdv : Value) (A : Around) (outer : List Env) (s : Shared) (H : Hp) (vs : List V) (Q : VK) (E : XK), Room k (A.deeper (envOfC q (defScope st) s.heap.objs.size f cdv)) → sp vs H Q E →
      ∃ t, PSs (cxOf CX0 P w K mg base N q (defScope st) f cdv A outer s H E).nox (defBody st) t ∧ t { nx := fun _ H' => Q .non H', rt := Q } (start N vs) H) :
    FnR P w K mg base CX0 (k + 1) f sp ∧ PySem.W.keepIn K (.ref f) = true := by
  obtain ⟨fd, F⟩ := F
  refine ⟨?_, F.kp⟩
  have hb : Binds K fd ps [] := F.bindsN b
  have ok : FnOk P w K mg base CX0 (k + 1) f fd ps sp := F.ok S len fun cdv A outer s H vs Q E hr hsp => by
    obtain ⟨t, h, q⟩ := hbody cdv A outer s H vs Q E hr hsp
    exact ⟨t, h.nox, q⟩
  have r := ok.raw hb .nil
  intro A outer s H us vs Q E hr e0 rv hs
  exact r A outer s H us vs Q E hr e0 rv (by show sp (vs ++ []) H Q E; rw [List.append_nil]; exact hs)
theorem fn_mk {x : Str} {st : Stmt} {N ps : List Str} {k : Nat} {sp : Sp} (F : ∃ fd, FunD K x x (defArgs st) (defBody st) (defScope st) [] [] (He.ga K x) fd) (g : mg x = some (.ref (He.ga K x))) (S : FnScope N ps (defScope st))
    (b : ∀ (kV doc pm : Value) (an : Option Addr) (cdv ct : Value) (us : List Value), us.length = ps.length → bindArgs (PySem.W.fnOf x x (defArgs st) (defBody st) (defScope st) .none kV doc pm an cdv ct) ⟨us, []⟩ = pure (ps.zip us))
    (len : ∀ vs H Q E, sp vs H Q E → vs.length = ps.length)
    (hbody : ∀ (cdv : Value) (A : Around) (outer : List Env) (s : Shared) (H : Hp) (vs : List V) (Q : VK) (E : XK), Room k (A.deeper (envOfC x (defScope st) s.heap.objs.size (He.ga K x) cdv)) → sp vs H Q E →
      ∃ t, PSs (cxOf CX0 P w K mg base N x (defScope st) (He.ga K x) cdv A outer s H E).nox (defBody st) t ∧ t { nx := fun _ H' => Q .non H', rt := Q } (start N vs) H) :
    Fn P w K mg base (k + 1) x sp :=
  ⟨(fnr_mk F S b len hbody).1, (fnr_mk F S b len hbody).2, g⟩
end

/-! ### calls -/
def tCg (sp : Sp) (t : TA) : TE := fun σ H Q => t σ H fun vs H1 => sp vs H1 Q E0
section
variable {X : Cx} {k j : Nat} {x m : Str} {sp : Sp} {p pos apos : Pos} {e o : Expr} {es : List Expr} {t : TA} {ta : TE}
theorem cg (F : Fn X.prog X.w X.K X.mg X.base k x sp) (hr : Room j X.A) (ha : PA X (e :: es) t) (hk : k ≤ j := by decide) (hg : Gl X x := by rfl) (hdb : (x == ("__debug__" : Str)) = false := by decide)
    (he : starEach (e :: es) X.env = (false, eval e X.env) :: starEach es X.env := by rfl) (hpl : (backTo pos (starEach es X.env)).any (·.1) = false := by rfl) :
    PE X (.Call (.Name x p) (e :: es) [] pos) (tCg sp t) := by
  refine ⟨fun pins s σ H Q I h => ?_⟩
  refine wpAny_Call_Name_kw (ld_glob I hg F.2.2 ?_ hdb)
  refine PySem.W.callWith_K (h₀ := X.base) I.ok.mod.kin F.2.1 (thn (ha.run pos pins s σ H _ I h) fun us s1 ⟨vs, H1, I1, r, q⟩ => ⟨I1.kIn, ?_⟩) he hpl
  exact wpAny_call (run_fnR F.1 (hr.mono hk) pass0 I1 r q)
/-- o.m(e, ..) -/
theorem cm {C f : Addr} {pl : Sem Bool} (ho : PE X o ta) (c : Cls X.K C) (hm : Meth X.K C m f) (F : FnR X.prog X.w X.K X.mg X.base CX0 k f sp) (hr : Room j X.A) (ha : PA X (e :: es) t) (hk : k ≤ j := by decide)
    (hst : starEach (e :: es) X.env = (false, eval e X.env) :: starEach es X.env := by rfl) (hpl : (backTo pos (starEach es X.env)).any (·.1) = false := by rfl)
    (ht : eval (.Call (.Attribute o m apos) (e :: es) [] pos) X.env = (do
      let ov ← eval o X.env
      standAt apos.atName
      let (f, first) ← holding [ov] (getMethod ov m pl)
      callWith pos f first (backTo pos (starEach (e :: es) X.env)) (backToKw pos (keywordEach [] X.env))) := by rfl) :
    PE X (.Call (.Attribute o m apos) (e :: es) [] pos) (tMethR C m sp E0 ta t) := pe_methR ho c hm F (hr.mono hk) pass0 ha hst hpl ht
end

section
variable {X : Cx} {k j : Nat} {m : Str} {sp : Sp} {pos apos : Pos} {o : Expr} {ta : TE}
/-- o.m() -/
theorem cm0 {C f : Addr} {pl : Sem Bool} (ho : PE X o ta) (c : Cls X.K C) (hm : Meth X.K C m f) (F : FnR X.prog X.w X.K X.mg X.base CX0 k f sp) (hr : Room j X.A) (hk : k ≤ j := by decide)
    (ht : eval (.Call (.Attribute o m apos) [] [] pos) X.env = (do
      let ov ← eval o X.env
      standAt apos.atName
      let (f, first) ← holding [ov] (getMethod ov m pl)
      callWith pos f first (backTo pos (starEach [] X.env)) (backToKw pos (keywordEach [] X.env))) := by rfl) :
    PE X (.Call (.Attribute o m apos) [] [] pos) (tMethR C m sp E0 ta tNil) := by
  refine ⟨fun pins s σ H Q I h => ?_⟩
  refine PySem.W.methodCall_KW (pl := pl) (thn (ho.run pins s σ H _ I h) fun u s1 ⟨x, H1, I1, rx, a, dx, fs, ex, ea, l, q⟩ => ?_) ht
  subst ex
  obtain rfl : u = Value.ref a := rx
  refine getmeth_ok I1 ea c hm l ?_
  exact PySem.W.callWith_K0 (first := [.ref a]) I1.kIn hm.kp (wpAny_call (run_fnR (us := [.ref a]) (vs := [.ref a]) F (hr.mono hk) pass0 I1 (.cons rfl .nil) q))
end

/-! ### names -/
section
variable {X : Cx} {x : Str} {pos : Pos}
/-- a module's whole number -/
theorem pgi {i : Int} (h : ∃ t, X.mg x = some (.int i t)) (hg : Gl X x := by rfl) (hd : (x == ("__debug__" : Str)) = false := by decide) : PE X (.Name x pos) (tC (.int i)) := by
  obtain ⟨t, h⟩ := h
  exact pe_glob hg h ⟨t, rfl⟩ hd
/-- a module's class -/
theorem pgc {C : Addr} (h : X.mg x = some (.ref C)) (hg : Gl X x := by rfl) (hd : (x == ("__debug__" : Str)) = false := by decide) : PE X (.Name x pos) (tC (.ref C)) := pe_glob hg h rfl hd
/-- a built-in class -/
theorem pty {n : String} (hm : X.mg x = none) (hv : bootBuiltins x = some (.type n)) (hg : Gl X x := by rfl) (hn : x ≠ "__name__" := by decide) (hd : (x == ("__debug__" : Str)) = false := by decide) : PE X (.Name x pos) (tC (.ty n)) := pe_bltn hg hm hv rfl hn hd
end

/-! ### data compared, sorted -/
section
variable {X : Cx}
def rLtD (K : PySem.W.Frag) : R2 := fun x y H Q => ∃ d e, Dt K H x d ∧ Dt K H y e ∧ PySem.W.alike d e = true ∧ d ≠ .none ∧ d.depth ≤ 64 ∧ Q (.bl (PySem.W.dataLt d e)) H
theorem op_ltD (hu : X.A.units + 64 < cLine) : OpR X (compareOp .Lt) (rLtD X.K) := by
  intro pins s σ H x y v u Q I rx ry h
  obtain ⟨d, e, hd, he, al, hn, dp, q⟩ := h
  obtain ⟨as, r1⟩ := Dp.reads I d x v hd.dp rx
  obtain ⟨bs, r2⟩ := Dp.reads I e y u he.dp ry
  exact PySem.W.lt_data r1 r2 al hn (by have := Nat.min_le_left d.depth e.depth; omega) ⟨.bl _, H, I, rfl, q⟩
theorem each_of {α β : Type} {R : α → β → Prop} : ∀ {as : List α} {bs : List β}, Paired R as bs → PySem.W.EachIs R as bs
  | _, _, .nil => .nil
  | _, _, .cons h t => .cons h (each_of t)
theorem of_each {α β : Type} {R : α → β → Prop} : ∀ {as : List α} {bs : List β}, PySem.W.EachIs R as bs → Paired R as bs
  | _, _, .nil => .nil
  | _, _, .cons h t => .cons h (of_each t)
theorem zip_snd {K : PySem.W.Frag} {H : Hp} : ∀ {xs : List V} {ds : List PyData}, DtAll K H xs ds → (xs.zip ds).map Prod.snd = ds
  | [], _, h => by cases h; rfl
  | _ :: _, _, h => by
    cases h with
    | cons _ h2 => rw [List.zip_cons_cons, List.map_cons, zip_snd h2]
theorem zip_dt {K : PySem.W.Frag} {H : Hp} : ∀ {xs : List V} {ds : List PyData}, DtAll K H xs ds → ∀ b ∈ xs.zip ds, Dt K H b.1 b.2
  | [], _, h => by cases h; intro b hb; cases hb
  | x :: _, _, h => by
    cases h with
    | cons h1 h2 =>
      intro b hb
      rw [List.zip_cons_cons] at hb
      rcases List.mem_cons.mp hb with e | e
      · rw [e]; exact h1
      · exact zip_dt h2 b e
theorem zip_rel {K : PySem.W.Frag} {H : Hp} : ∀ {xs : List V} {ds : List PyData} {us : List Value}, DtAll K H xs ds → Vals xs us → PySem.W.EachIs (fun (u : Value) (b : V × PyData) => RelV b.1 u) us (xs.zip ds)
  | [], _, _, h, r => by cases h; cases r; exact .nil
  | x :: _, _, _, h, r => by
    cases h with
    | cons h1 h2 =>
      cases r with
      | cons r1 r2 => exact .cons r1 (zip_rel h2 r2)
theorem zip_reads {pins : List (Addr × Obj)} {σ : L2.St} {H : Hp} {s : Shared} (I : Inv X pins σ H s) : ∀ {xs : List V} {ds : List PyData} {us : List Value}, DtAll X.K H xs ds → Vals xs us → PySem.W.EachIs (fun (u : Value) (b : V × PyData) => ∃ as, Reads s.heap u b.2 as) us (xs.zip ds)
  | [], _, _, h, r => by cases h; cases r; exact .nil
  | x :: _, _, _, h, r => by
    cases h with
    | cons h1 h2 =>
      cases r with
      | cons r1 r2 => exact .cons (Dp.reads I _ _ _ h1.dp r1) (zip_reads I h2 r2)
theorem each_vals : ∀ {us : List Value} {bs : List (V × PyData)}, PySem.W.EachIs (fun (u : Value) (b : V × PyData) => RelV b.1 u) us bs → Vals (bs.map Prod.fst) us
  | _, _, .nil => .nil
  | _, _, .cons h t => .cons h (each_vals t)
theorem dt_all_of {K : PySem.W.Frag} {H : Hp} : ∀ (bs : List (V × PyData)), (∀ b ∈ bs, Dt K H b.1 b.2) → DtAll K H (bs.map Prod.fst) (bs.map Prod.snd)
  | [], _ => .nil
  | b :: bs, h => .cons (h b List.mem_cons_self) (dt_all_of bs fun c hc => h c (List.mem_cons_of_mem _ hc))
/-- the order of data -/
abbrev dLe : PyData → PyData → Bool := PySem.W.dataLe false (fun d => d)
theorem dLe_total : PySem.W.TotalLe dLe := PySem.W.sortLe_total _ _ _
/-- sorted(xs), xs a list of data -/
def rSortedD (K : PySem.W.Frag) : List V → Hp → VK → Prop := fun vs H Q => ∃ (a : Addr) (xs : List V) (ds : List PyData), vs = [.ref a] ∧ SqL K H a xs ∧ DtAll K H xs ds ∧ PySem.W.AllAlike ds ∧ PySem.W.Sortable ds ∧ (∀ d ∈ ds, d.depth ≤ 32) ∧
  ∀ p ys, H p = none → DtAll K H ys (ds.mergeSort dLe) → Q (.ref p) (upd H p (.lst ys))
theorem cr_sortedD (hu : X.A.units + 64 < cLine) : CallR X (.builtin "sorted") (rSortedD X.K) := by
  intro pins s σ H vs us Q I r h
  obtain ⟨a, xs, ds, rfl, hs, hd, al, so, dp, q⟩ := h
  obtain rfl := Vals.ref1 r
  obtain ⟨its, rv, pl, hz⟩ := I.list hs
  have em : (xs.zip ds).map Prod.snd = ds := zip_snd hd
  have hl : (xs.zip ds).length = xs.length := by rw [List.length_zip, hd.length]; omega
  refine PySem.W.sorted_data (β := V × PyData) (bs := xs.zip ds) (enc := Prod.snd) (R := fun u b => RelV b.1 u) pl.isList (zip_rel hd rv) (zip_reads I hd rv) (by rw [em]; exact al) (by rw [em]; exact so) (by rw [hl]; exact hz) (fun b hb => ?_) fun out ho e => ?_
  · have := dp b.2 (by rw [← em]; exact List.mem_map.mpr ⟨b, hb, rfl⟩)
    omega
  · have hv := each_vals e
    have hm : ∀ b ∈ (xs.zip ds).mergeSort (PySem.W.dataLe false Prod.snd), Dt X.K H b.1 b.2 := fun b hb => zip_dt hd b ((List.mergeSort_perm _ _).mem_iff.mp hb)
    have hd2 := dt_all_of _ hm
    have es : ((xs.zip ds).mergeSort (PySem.W.dataLe false Prod.snd)).map Prod.snd = ds.mergeSort dLe := by
      rw [PySem.W.sort_maps (r := PySem.W.dataLe false Prod.snd) (s := dLe) Prod.snd (fun a _ b _ => rfl), em]
    rw [es] at hd2
    obtain ⟨ep, he'⟩ := sortedAll_at s.heap its out.toArray
    have hlen : (((xs.zip ds).mergeSort (PySem.W.dataLe false Prod.snd)).map Prod.fst).length ≤ sizeLine := by
      rw [List.length_map, (List.mergeSort_perm _ _).length_eq, hl]; exact hz
    exact ⟨.ref _, upd H (s.heap.objs.size + 1) (.lst _), I.laid (t' := s.toks) (fun _ _ => sortedAll_old) (Nat.le_succ _) ⟨hlen, out, ep, hv, he'⟩, rfl, q _ _ (I.hok.fresh (Nat.le_succ _)) hd2⟩
end
end K39
end Text_K39G

section Text_K39R
set_option Elab.async false set_option linter.all false set_option maxRecDepth 100000 set_option maxHeartbeats 4000000
/-! Rules that the layer lacks: dicts whose keys are tuples of any depth; a list beside an empty one. -/
namespace K39
open PySem PySem.Spec PyProof.Rows L2

/-! ### keys -/
mutual
def nk : PyData → NestedKey
  | .none => .none
  | .bool b => .num (if b = true then 1 else 0)
  | .int i => .num i
  | .str x => .text x
  | .list _ => .none
  | .tuple ds => .tup (nks ds)
  | .dict _ => .none
def nks : List PyData → List NestedKey
  | [] => []
  | d :: ds => nk d :: nks ds
end
section
variable {X : Cx} {pins : List (Addr × Obj)} {σ : L2.St} {H : Hp} {s : Shared}
mutual
theorem Dt.nested (I : Inv X pins σ H s) : ∀ (d : PyData) (v : V) (u : Value), Dt X.K H v d → RelV v u → NestedIs s.heap (nk d) u
  | .none, _, _, h, r => by cases h; cases r; exact .none
  | .bool _, _, _, h, r => by cases h; cases r; exact .bool rfl
  | .int _, _, _, h, r => by cases h; obtain ⟨t, rfl⟩ := r; exact .int _ t
  | .str _, _, _, h, r => by cases h; obtain ⟨t, rfl⟩ := r; exact .text _ t
  | .tuple ds, _, _, h, r => by
    cases h with
    | tup hs ha =>
      cases r
      obtain ⟨its, rv, ⟨o, ho, hc, n, hd⟩, _⟩ := I.tuple hs
      exact .tup ho hc hd (by simpa using DtAll.nested I ds _ its ha rv)
  | .list _, _, _, h, _ => by cases h
  | .dict _, _, _, h, _ => by cases h
theorem DtAll.nested (I : Inv X pins σ H s) : ∀ (ds : List PyData) (vs : List V) (us : List Value), DtAll X.K H vs ds → Vals vs us → NestedAll s.heap (nks ds) us
  | [], _, _, h, r => by cases h; cases r; exact .nil
  | d :: ds, _, _, h, r => by
    cases h with
    | cons h1 h2 =>
      cases r with
      | cons r1 r2 => exact .cons (Dt.nested I d _ _ h1 r1) (DtAll.nested I ds _ _ h2 r2)
end
end
/-- a type of keys, as tuples of data -/
structure Enc (κ : Type) where
  e : κ → PyData
  tup : ∀ k, ∃ l, e k = .tuple l
  inj : ∀ a b, nk (e a) = nk (e b) → a = b
  deep : ∀ k, (nk (e k)).depth ≤ 8
theorem nks_map {α : Type} (f : α → PyData) : ∀ l : List α, nks (l.map f) = l.map fun a => nk (f a)
  | [] => by simp [nks]
  | a :: l => by rw [List.map_cons, nks, nks_map f l, List.map_cons]
theorem nk_nat (n : Nat) : nk (eN n) = .num (n : Int) := by simp [eN, nk]
theorem nk_nats (l : List Nat) : nk (eNs l) = .tup (l.map fun n : Nat => .num (n : Int)) := by
  rw [nk, nks_map]
  simp only [nk_nat]
theorem depth_nats : ∀ l : List Nat, NestedKey.depthAll (l.map fun n : Nat => NestedKey.num (n : Int)) = 0
  | [] => by simp [NestedKey.depthAll]
  | n :: l => by simp [NestedKey.depthAll, NestedKey.depth, depth_nats l]
theorem nats_inj : ∀ a b : List Nat, (a.map fun n : Nat => NestedKey.num (n : Int)) = b.map (fun n : Nat => NestedKey.num (n : Int)) → a = b
  | [], [], _ => rfl
  | [], _ :: _, h => by simp at h
  | _ :: _, [], h => by simp at h
  | x :: a, y :: b, h => by
    simp only [List.map_cons, List.cons.injEq, NestedKey.num.injEq] at h
    rw [nats_inj a b h.2, show x = y by omega]
def cP : Enc (Nat × Nat) where
  e := eP
  tup := fun _ => ⟨_, rfl⟩
  inj := fun a b h => by
    obtain ⟨a1, a2⟩ := a
    obtain ⟨b1, b2⟩ := b
    simp only [eP, nk, nks, NestedKey.tup.injEq, List.cons.injEq, NestedKey.num.injEq] at h
    rw [show a1 = b1 by omega, show a2 = b2 by omega]
  deep := fun k => by simp [eP, nk, nks, NestedKey.depth, NestedKey.depthAll]
def cA : Enc Arr where
  e := eA
  tup := fun _ => ⟨_, rfl⟩
  inj := fun a b h => by
    obtain ⟨a1, a2, a3⟩ := a
    obtain ⟨b1, b2, b3⟩ := b
    simp only [eA, nk, nks, NestedKey.tup.injEq, List.cons.injEq, NestedKey.num.injEq, NestedKey.text.injEq] at h
    have h2 : a2 = b2 := by
      have := congrArg (fun x : Str => x.cps[0]?) h.2.1
      simpa [sg] using this
    rw [show a1 = b1 by omega, h2, show a3 = b3 by omega]
  deep := fun k => by simp [eA, nk, nks, NestedKey.depth, NestedKey.depthAll]
def cD : Enc Nd where
  e := eD
  tup := fun _ => ⟨_, rfl⟩
  inj := fun a b h => by
    obtain ⟨a1, a2, a3⟩ := a
    obtain ⟨b1, b2, b3⟩ := b
    simp only [eD, nk, nks, NestedKey.tup.injEq, List.cons.injEq, NestedKey.num.injEq] at h
    have h3 : a3 = b3 := by
      have := h.2.2.1
      cases a3 <;> cases b3 <;> simp_all
    rw [show a1 = b1 by omega, show a2 = b2 by omega, h3]
  deep := fun k => by simp [eD, nk, nks, NestedKey.depth, NestedKey.depthAll]
def cK : Enc KK where
  e := eK
  tup := fun _ => ⟨_, rfl⟩
  inj := fun a b h => by
    obtain ⟨a1, a2⟩ := a
    obtain ⟨b1, b2⟩ := b
    simp only [eK, nk, nks, nks_map, nk_nat, NestedKey.tup.injEq, List.cons.injEq] at h
    rw [nats_inj _ _ h.1, nats_inj _ _ h.2.1]
  deep := fun k => by
    simp only [eK, nk, nks, nks_map, nk_nat, NestedKey.depth, NestedKey.depthAll, depth_nats]
    decide

/-! ### the dict as an abstract object -/
def entN (w : World) (x : NestedKey × Addr × Value) : DictEntry := ⟨x.1.hash w, .ref x.2.1, x.2.2⟩
def NDo (w : World) (d : Addr) (xs : List (NestedKey × Addr × Value)) (ep : Nat) : HO := .ext fun h => ∃ o es, h.get? d = some o ∧ o.ExactDict ∧ o.data = .dict es ep ∧ es.toList = xs.map (entN w)
section
variable {κ : Type} {w : World} {K : PySem.W.Frag} {H H' : Hp} {E : Enc κ} {d : Addr} {kvs : List (κ × V)}
/-- an entry: its key at an address, its value -/
def NDe (K : PySem.W.Frag) (H : Hp) (E : Enc κ) (p : κ × V) (x : NestedKey × Addr × Value) : Prop := x.1 = nk (E.e p.1) ∧ Dt K H (.ref x.2.1) (E.e p.1) ∧ RelV p.2 x.2.2
/-- at d stands a dict with these keys and values -/
def ND (w : World) (K : PySem.W.Frag) (H : Hp) (E : Enc κ) (d : Addr) (kvs : List (κ × V)) : Prop :=
  ∃ xs ep, H d = some (NDo w d xs ep) ∧ (d == sysModules) = false ∧ kvs.length ≤ sizeLine ∧ Paired (NDe K H E) kvs xs ∧ (kvs.map (·.1)).Nodup
theorem ND.to (h : ND w K H E d kvs) (k : TLe H H') (e : H' d = H d) : ND w K H' E d kvs := by
  obtain ⟨xs, ep, h1, h2, h3, h4, h5⟩ := h
  exact ⟨xs, ep, by rw [e]; exact h1, h2, h3, Paired.mono (fun p x q => ⟨q.1, q.2.1.to k, q.2.2⟩) h4, h5⟩
theorem ND.same (h : ND w K H E d kvs) (k : Same H H') : ND w K H' E d kvs := by
  obtain ⟨xs, ep, h1, h2, h3, h4, h5⟩ := h
  exact ⟨xs, ep, k _ _ h1, h2, h3, Paired.mono (fun p x q => ⟨q.1, q.2.1.same k, q.2.2⟩) h4, h5⟩
theorem ND.at (h : ND w K H E d kvs) : ∃ φ, H d = some (.ext φ) := let ⟨_, _, h1, _⟩ := h; ⟨_, h1⟩
theorem ND.tle {o : HO} (h : ND w K H E d kvs) : TLe H (upd H d o) := let ⟨_, q⟩ := h.at; TLe.ext q
theorem ND.nd (h : ND w K H E d kvs) : (kvs.map (·.1)).Nodup := let ⟨_, _, _, _, _, _, h⟩ := h; h
theorem ND.len (h : ND w K H E d kvs) : kvs.length ≤ sizeLine := let ⟨_, _, _, _, h, _⟩ := h; h
theorem NDe.keys : ∀ {kvs : List (κ × V)} {xs : List (NestedKey × Addr × Value)}, Paired (NDe K H E) kvs xs → xs.map (·.1) = (kvs.map (·.1)).map fun k => nk (E.e k)
  | _, _, .nil => rfl
  | _, _, .cons h t => by rw [List.map_cons, List.map_cons, List.map_cons, h.1, NDe.keys t]
theorem nodup_map {α β : Type} (f : α → β) (hf : ∀ a b, f a = f b → a = b) : ∀ {l : List α}, l.Nodup → (l.map f).Nodup
  | [], _ => List.nodup_nil
  | a :: l, h => by
    rw [List.nodup_cons] at h
    rw [List.map_cons, List.nodup_cons]
    refine ⟨fun m => ?_, nodup_map f hf h.2⟩
    obtain ⟨b, hb, e⟩ := List.mem_map.mp m
    rw [hf b a e] at hb
    exact h.1 hb
end
section
variable {κ : Type} [DecidableEq κ] {K : PySem.W.Frag} {H : Hp} {E : Enc κ}
theorem NDe.look : ∀ {kvs : List (κ × V)} {xs : List (NestedKey × Addr × Value)}, Paired (NDe K H E) kvs xs → ∀ k, RelO (valV kvs k) ((atKey xs (nk (E.e k))).map (·.2))
  | _, _, .nil, k => True.intro
  | _, _, .cons (a := p) (b := x) h t, k => by
    have ih := NDe.look t k
    by_cases e : p.1 = k
    · have e' : x.1 = nk (E.e k) := by rw [h.1, e]
      rw [valV_pos e]
      unfold atKey
      rw [List.find?_cons_of_pos (by simp [e'])]
      exact h.2.2
    · have e' : ¬ x.1 = nk (E.e k) := fun q => e (E.inj _ _ (by rw [← h.1, q]))
      rw [valV_neg e]
      unfold atKey at ih ⊢
      rw [List.find?_cons_of_neg (by simp [e'])]
      exact ih
theorem NDe.has {kvs : List (κ × V)} {xs : List (NestedKey × Addr × Value)} (h : Paired (NDe K H E) kvs xs) (k : κ) : (atKey xs (nk (E.e k))).isSome = (valV kvs k).isSome := by
  have q := (NDe.look h k).isSome_eq
  rw [q]
  cases atKey xs (nk (E.e k)) <;> rfl
theorem NDe.repl {k : κ} {y : V} {u : Value} (ry : RelV y u) : ∀ {kvs : List (κ × V)} {xs : List (NestedKey × Addr × Value)}, Paired (NDe K H E) kvs xs → Paired (NDe K H E) (kvs.map fun kv => if kv.1 = k then (kv.1, y) else kv) (xs.map (putAt (nk (E.e k)) u))
  | _, _, .nil => .nil
  | _, _, .cons (a := p) (b := x) h t => by
    refine .cons ?_ (NDe.repl ry t)
    show NDe K H E (if p.1 = k then (p.1, y) else p) (if x.1 = nk (E.e k) then (x.1, x.2.1, u) else x)
    by_cases e : p.1 = k
    · have e' : x.1 = nk (E.e k) := by rw [h.1, e]
      rw [if_pos e, if_pos e']
      exact ⟨h.1, h.2.1, ry⟩
    · have e' : ¬ x.1 = nk (E.e k) := fun q => e (E.inj _ _ (by rw [← h.1, q]))
      rw [if_neg e, if_neg e']
      exact h
theorem NDe.put {k : κ} {y : V} {u : Value} {a : Addr} {kvs : List (κ × V)} {xs : List (NestedKey × Addr × Value)} (h : Paired (NDe K H E) kvs xs) (hk : Dt K H (.ref a) (E.e k)) (ry : RelV y u) :
    Paired (NDe K H E) (putK kvs k y) (storedH xs (nk (E.e k)) a u) := by
  unfold putK storedH
  rw [valV_any, NDe.has h k]
  by_cases e : (valV kvs k).isSome = true
  · rw [if_pos e, if_pos e]
    exact NDe.repl ry h
  · rw [if_neg e, if_neg e]
    exact paired_append h (.cons ⟨rfl, hk, ry⟩ .nil)
theorem keys_put {kvs : List (κ × V)} {k : κ} {y : V} (h : (valV kvs k).isSome = true) : (putK kvs k y).map (·.1) = kvs.map (·.1) := by
  unfold putK
  rw [valV_any, if_pos h, List.map_map]
  refine List.map_congr_left fun p _ => ?_
  show (if p.1 = k then (p.1, y) else p).1 = p.1
  split <;> rfl
theorem nodup_put {kvs : List (κ × V)} {k : κ} {y : V} (h : (kvs.map (·.1)).Nodup) : ((putK kvs k y).map (·.1)).Nodup := by
  cases q : valV kvs k with
  | some v => rw [keys_put (by rw [q]; rfl)]; exact h
  | none => exact nd_putK y h q
end

section
variable {X : Cx} {pins : List (Addr × Obj)} {σ : L2.St} {H : Hp} {s : Shared} {κ : Type} [DecidableEq κ] {E : Enc κ} {d : Addr} {kvs : List (κ × V)}
theorem Dt.ref {K : PySem.W.Frag} {x : V} {k : κ} (h : Dt K H x (E.e k)) : ∃ a, x = .ref a := by
  obtain ⟨l, e⟩ := E.tup k
  rw [e] at h
  obtain ⟨a, xs, q, _⟩ := h.tuple
  exact ⟨a, q⟩
theorem Dt.key (I : Inv X pins σ H s) {a : Addr} {k : κ} (h : Dt X.K H (.ref a) (E.e k)) : (nestedKind X.prog X.w).is s.heap (nk (E.e k)) a := ⟨Dt.nested I _ _ _ h rfl, E.deep k⟩
theorem ND.raw (I : Inv X pins σ H s) {xs : List (NestedKey × Addr × Value)} {ep : Nat} (h1 : H d = some (NDo X.w d xs ep)) (h4 : Paired (NDe X.K H E) kvs xs) (h5 : (kvs.map (·.1)).Nodup) :
    s.heap.DictOfH (nestedKind X.prog X.w) d xs := by
  obtain ⟨o, es, e1, e2, e3, e4⟩ := (I.hok d _ h1).1
  refine ⟨o, es, ep, e1, e2, e3, e4, fun x hx => ?_, by rw [NDe.keys h4]; exact nodup_map _ E.inj h5⟩
  have key : ∀ {kvs : List (κ × V)} {xs : List (NestedKey × Addr × Value)}, Paired (NDe X.K H E) kvs xs → ∀ x ∈ xs, (nestedKind X.prog X.w).is s.heap x.1 x.2.1 := by
    intro kvs xs h
    induction h with
    | nil => intro x hx; cases hx
    | cons h _ ih =>
      intro x hx
      rcases List.mem_cons.mp hx with e | hx
      · rw [e, h.1]; exact Dt.key I h.2.1
      · exact ih x hx
  exact key h4 x hx
/-- what a dict that has changed is, again -/
theorem ndo_ok {P : Program} {w : World} {H : Hp} {h : Heap} {d : Addr} {xs : List (NestedKey × Addr × Value)} (r : h.DictOfH (nestedKind P w) d xs) : ∃ ep, ObjOk P w H h d (NDo w d xs ep) := by
  obtain ⟨o, es, ep, e1, e2, e3, e4, _, _⟩ := r
  exact ⟨ep, ⟨o, es, e1, e2, e3, e4⟩, ⟨o, e1⟩, fun h1 h2 ⟨o, es, a, b⟩ k => ⟨o, es, k _ a, b⟩⟩

/-- {} -/
def tNdNew (w : World) (K : PySem.W.Frag) (E : Enc κ) : TE := fun _ H Q => ∀ p o, H p = none → ND w K (upd H p o) E p [] → Q (.ref p) (upd H p o)
theorem pe_ndNew {pos : Pos} (E : Enc κ) : PE X (.Dict [] [] pos) (tNdNew X.w X.K E) := by
  refine ⟨fun pins s σ H Q I h => wpAny_Dict_empty ?_⟩
  obtain ⟨ep, ok⟩ := ndo_ok (P := X.prog) (w := X.w) (H := upd H s.heap.objs.size (NDo X.w s.heap.objs.size [] 0)) (Heap.DictOfH.new (knd := nestedKind X.prog X.w) s.heap)
  have hn := I.hok.fresh (Nat.le_refl s.heap.objs.size)
  have ne : (s.heap.objs.size == sysModules) = false := beq_eq_false_iff_ne.mpr (Ne.symm (Nat.ne_of_lt I.big))
  have ok' : ObjOk X.prog X.w (upd H s.heap.objs.size (NDo X.w s.heap.objs.size [] ep)) (s.heap.push { cls := .type "dict", data := .dict #[] }) s.heap.objs.size (NDo X.w s.heap.objs.size [] ep) := ok
  exact ⟨.ref s.heap.objs.size, _, I.laid (t' := s.toks) (fun _ _ q => Heap.get?_push_of_some _ q) (Nat.le_refl _) ok', rfl, h _ _ hn ⟨[], ep, upd_same, ne, Nat.zero_le _, .nil, List.nodup_nil⟩⟩

/-- k in d, k not in d -/
def rNdIn (w : World) (K : PySem.W.Frag) (E : Enc κ) (neg : Bool) : R2 := fun x y H Q => ∃ k d kvs, Dt K H x (E.e k) ∧ y = .ref d ∧ ND w K H E d kvs ∧ Q (.bl (if neg then !(valV kvs k).isSome else (valV kvs k).isSome)) H
theorem op_ndIn (hu : X.A.units + 64 < cLine) (E : Enc κ) : OpR X (compareOp .In) (rNdIn X.w X.K E false) := by
  intro pins s σ H x y v u Q I rx ry h
  obtain ⟨k, d, kvs, hk, rfl, ⟨xs, ep, h1, h2, h3, h4, h5⟩, q⟩ := h
  obtain ⟨a, rfl⟩ := hk.ref
  cases rx; cases ry
  refine wpAny_in_heap (knd := nestedKind X.prog X.w) (by show X.A.units + 1 + 8 < cLine; omega) (Dt.key I hk) h2 (ND.raw I h1 h4 h5) ?_
  rw [NDe.has h4]
  exact ⟨.bl _, H, I.tok _, rfl, q⟩
theorem op_ndNotIn (hu : X.A.units + 64 < cLine) (E : Enc κ) : OpR X (compareOp .NotIn) (rNdIn X.w X.K E true) := by
  intro pins s σ H x y v u Q I rx ry h
  obtain ⟨k, d, kvs, hk, rfl, ⟨xs, ep, h1, h2, h3, h4, h5⟩, q⟩ := h
  obtain ⟨a, rfl⟩ := hk.ref
  cases rx; cases ry
  refine wpAny_notIn_heap (knd := nestedKind X.prog X.w) (by show X.A.units + 1 + 8 < cLine; omega) (Dt.key I hk) h2 (ND.raw I h1 h4 h5) ?_
  rw [NDe.has h4]
  exact ⟨.bl _, H, I.tok _, rfl, q⟩
/-- d[k] -/
def tNdGet (w : World) (K : PySem.W.Frag) (E : Enc κ) (td ty : TE) : TE := fun σ H Q => td σ H fun x H1 => ty σ H1 fun y H2 => ∃ k d kvs v, Dt K H2 y (E.e k) ∧ x = .ref d ∧ ND w K H2 E d kvs ∧ valV kvs k = some v ∧ Q v H2
theorem pe_ndGet {o i : Expr} {pos : Pos} {td ty : TE} (hu : X.A.units + 64 < cLine) (E : Enc κ) (ho : PE X o td) (hi : PE X i ty) (hs : NoSl i) : PE X (.Subscript o i pos) (tNdGet X.w X.K E td ty) := by
  refine ⟨fun pins s σ H Q I h => ?_⟩
  refine subD_of PySem.F.slot_dict_getitem.lookup hs (thn (ho.run pins s σ H _ I h) fun u s1 ⟨x, H1, I1, rx, q1⟩ => thn (hi.run pins s1 σ H1 _ I1 q1) fun iv s2 ⟨y, H2, I2, ry, k, d, kvs, v, hk, ex, ⟨xs, ep, h1, h2, h3, h4, h5⟩, hv, q2⟩ => ?_)
  subst ex
  obtain rfl : u = Value.ref d := rx
  obtain ⟨a, rfl⟩ := hk.ref
  obtain rfl : iv = Value.ref a := ry
  have r := ND.raw I2 h1 h4 h5
  refine ⟨r.typeIs, ?_⟩
  have lo := NDe.look h4 k
  rw [hv] at lo
  obtain ⟨uv, e1, e2⟩ := lo.some_of
  obtain ⟨p, e3, e4⟩ := Option.map_eq_some_iff.mp e1
  refine wpAny_getItem_heap (knd := nestedKind X.prog X.w) (by show X.A.units + 1 + 8 < cLine; omega) (Dt.key I2 hk) r e3 ?_
  rw [e4]
  exact ⟨v, H2, I2.tok _, e2, q2⟩
/-- d[k] = v -/
def rNdPut (w : World) (K : PySem.W.Frag) (E : Enc κ) : TSet := fun o i v H Q => ∃ k d kvs, Dt K H i (E.e k) ∧ o = .ref d ∧ ND w K H E d kvs ∧ kvs.length < sizeLine ∧ ∀ o', ND w K (upd H d o') E d (putK kvs k v) → Q (upd H d o')
theorem set_nd (hu : X.A.units + 64 < cLine) (E : Enc κ) : PSet X (rNdPut X.w X.K E) := by
  intro pins s σ H o i v ov iv u Q I ro ri rv h
  obtain ⟨k, d, kvs, hk, rfl, N, hz, q⟩ := h
  obtain ⟨xs, ep, h1, h2, h3, h4, h5⟩ := id N
  obtain ⟨a, rfl⟩ := hk.ref
  cases ro; cases ri
  have r := ND.raw I h1 h4 h5
  have ex : xs.length = kvs.length := (Paired.length h4).symm
  refine wpAny_setItem_heap (knd := nestedKind X.prog X.w) (by show X.A.units + 1 + 8 < cLine; omega) (Dt.key I hk) r (fun h' hm' hs => ?_) (by rw [ex]; exact h3)
  obtain ⟨ep', _⟩ := ndo_ok (H := H) hm'
  have okN : ∃ ep, ObjOk X.prog X.w (upd H d (NDo X.w d (storedH xs (nk (E.e k)) a u) ep)) h' d (NDo X.w d (storedH xs (nk (E.e k)) a u) ep) := by
    obtain ⟨o, es, ep, e1, e2, e3, e4, _, _⟩ := id hm'
    exact ⟨ep, ⟨o, es, e1, e2, e3, e4⟩, ⟨o, e1⟩, fun h1 h2 ⟨o, es, a, b⟩ k => ⟨o, es, k _ a, b⟩⟩
  obtain ⟨ep2, ok2⟩ := okN
  have he : ∃ q, h'.get? d = some q := let ⟨q, _, _, hq, _⟩ := hm'; ⟨q, hq⟩
  have t : TLe H (upd H d (NDo X.w d (storedH xs (nk (E.e k)) a u) ep2)) := N.tle
  refine ⟨_, d_write I (by rw [h1]; exact True.intro) hs he ok2, q _ ⟨_, ep2, upd_same, h2, ?_, Paired.mono (fun p x z => ⟨z.1, z.2.1.to t, z.2.2⟩) (NDe.put h4 hk rv), nodup_put h5⟩⟩
  have := length_putK kvs k v
  omega
end
end K39
end Text_K39R

section Text_K39S
set_option Elab.async false set_option linter.all false set_option maxRecDepth 100000 set_option maxHeartbeats 4000000
/-! Sets made of a list: of tuples of whole numbers and truth values, of whole numbers, of texts. -/
namespace K39
open PySem PySem.Spec PyProof.Rows L2

/-- the set as it is made -/
abbrev set0 (w : World) : Obj := { cls := .type "set", dict := none, data := .set #[] 0 (.fresh 0 0 (!w.params.followText "set-order")) }

/-! ### flat keys -/
def Sca (v : Value) : Prop := (∃ i t, v = .int i t) ∨ ∃ c, v = .bool c
def FlK (P : Program) (w : World) (h : Heap) (q : NestedKey) (b : Addr) : Prop :=
  (nestedKind P w).is h q b ∧ ∃ o items n, h.get? b = some o ∧ o.cls = .type "tuple" ∧ o.data = .seq items n ∧ ∀ v ∈ items.toList, Sca v
section
variable {P : Program} {w : World} {A : Around} {E : Value → Shared → Prop} {s : Shared}
theorem FlK.at {h h' : Heap} {q : NestedKey} {b : Addr} (x : FlK P w h q b) (k : ∀ c o vs n, h.get? c = some o → o.data = .seq vs n → h'.get? c = some o) : FlK P w h' q b := by
  obtain ⟨⟨y, d⟩, o, items, n, ho, hc, hd, hi⟩ := x
  exact ⟨⟨NestedIs.at k q _ y, d⟩, o, items, n, k _ _ _ _ ho hd, hc, hd, hi⟩
theorem FlK.keep {h h' : Heap} {q : NestedKey} {b : Addr} (x : FlK P w h q b) (k : ∀ c o, h.get? c = some o → h'.get? c = some o) : FlK P w h' q b := x.at fun c o _ _ e _ => k c o e
theorem FlK.same {h h' : Heap} {q : NestedKey} {a b : Addr} {o : Obj} {es : Array (Int × Value)} {ep : Nat} {t : SetTable} (x : FlK P w h q b) (ho : h.get? a = some o) (hd : o.data = .set es ep t) (hs : Heap.SameBut a h h') : FlK P w h' q b :=
  x.at fun c u vs n e1 e2 => by
    refine (hs.2 c fun z => ?_).trans e1
    rw [z, ho] at e1; cases e1; rw [hd] at e2; cases e2
theorem sca_class {v : Value} (h : Sca v) (n : Nat) : ofAClassStatement n v = pure false := by
  rcases h with ⟨i, t, rfl⟩ | ⟨c, rfl⟩ <;> cases n <;> rfl
theorem sca_hash {v : Value} (h : Sca v) (n : Nat) : hashByValue n v = pure true := by
  rcases h with ⟨i, t, rfl⟩ | ⟨c, rfl⟩ <;> cases n <;> rfl
theorem flat_class {q : NestedKey} {b : Addr} {Q : Bool → Shared → Prop} (hk : FlK P w s.heap q b) (h : Q false s) : wpAny (model P w) A (ofAClassStatement 8 (.ref b)) Q E s := by
  obtain ⟨_, o, items, n, ho, hc, hd, hi⟩ := hk
  have hT : s.TypeIs (.ref b) "tuple" := ⟨o, ho, hc⟩
  unfold ofAClassStatement; refine wpAny_bind (wpAny_typeOf hT ?_); dsimp only
  have e : (("tuple" : String) == "tuple") = true := by decide
  simp only [e, if_true, Bool.not_true, Bool.false_eq_true, if_false]
  try (refine wpAny_bind (wpAny_pure ?_))
  try (simp only [Bool.not_true, Bool.false_eq_true, if_false])
  show wpAny (model P w) A (seqItems? (.ref b) >>= _) Q E s
  refine wpAny_bind (wpAny_seqItems (ho := ho) (hd := hd) ?_)
  dsimp only; refine wpAny_bind ?_; show wpAny (model P w) A (forIn items _ _) _ E s
  rw [← Array.forIn_toList]
  refine wpAny_forIn_list _ (fun rest r s' => r.1 = none ∧ s' = s ∧ ∀ v ∈ rest, Sca v) _ ?_ ?_ _ _ ⟨rfl, rfl, hi⟩
  · rintro v rest r s' ⟨hr, rfl, ha⟩
    rw [sca_class (ha v List.mem_cons_self)]
    refine wpAny_bind (wpAny_pure ?_); simp only [Bool.false_eq_true, if_false]
    exact wpAny_pure ⟨rfl, rfl, fun u z => ha u (List.mem_cons_of_mem _ z)⟩
  · rintro ⟨r1, r2⟩ s' ⟨hr, rfl, _⟩
    simp only at hr; subst hr
    exact wpAny_pure h
theorem flat_hash {q : NestedKey} {b : Addr} {Q : Bool → Shared → Prop} (hk : FlK P w s.heap q b) (h : Q true s) : wpAny (model P w) A (hashByValue 8 (.ref b)) Q E s := by
  obtain ⟨_, o, items, n, ho, hc, hd, hi⟩ := hk
  have hT : s.TypeIs (.ref b) "tuple" := ⟨o, ho, hc⟩
  unfold hashByValue; refine wpAny_bind (wpAny_specialOf hT F.slot_tuple_hash.lookup ?_)
  show wpAny (model P w) A (seqItems? (.ref b) >>= _) Q E s
  refine wpAny_bind (wpAny_seqItems (ho := ho) (hd := hd) ?_)
  refine wpAny_bind ?_; show wpAny (model P w) A (forIn items _ _) _ E s
  rw [← Array.forIn_toList]
  refine wpAny_forIn_list _ (fun rest r s' => r.1 = none ∧ s' = s ∧ ∀ v ∈ rest, Sca v) _ ?_ ?_ _ _ ⟨rfl, rfl, hi⟩
  · rintro v rest r s' ⟨hr, rfl, ha⟩
    rw [sca_hash (ha v List.mem_cons_self)]
    refine wpAny_bind (wpAny_pure ?_); simp only [Bool.not_true, Bool.false_eq_true, if_false]
    exact wpAny_pure ⟨rfl, rfl, fun u z => ha u (List.mem_cons_of_mem _ z)⟩
  · rintro ⟨r1, r2⟩ s' ⟨hr, rfl, _⟩
    simp only at hr; subst hr
    exact wpAny_pure h
theorem flat_seen {q : NestedKey} {b : Addr} {Q : Bool → Shared → Prop} (hk : FlK P w s.heap q b) {ys : List Value} (hy : ∀ y ∈ ys, ∃ r c, y = Value.ref c ∧ FlK P w s.heap r c) (h : Q false s) :
    wpAny (model P w) A (searchCouldBeSeen (.ref b) ys) Q E s := by
  unfold searchCouldBeSeen; refine wpAny_bind ?_
  refine wpAny_forIn_list _ (fun rest r s' => r.1 = none ∧ s' = s ∧ ∀ y ∈ rest, ∃ r c, y = Value.ref c ∧ FlK P w s.heap r c) _ ?_ ?_ _ _ ⟨rfl, rfl, hy⟩
  · rintro v rest r s' ⟨hr, rfl, ha⟩
    obtain ⟨r', c, rfl, hc⟩ := ha v List.mem_cons_self
    have more : ∀ y ∈ rest, ∃ r c, y = Value.ref c ∧ FlK P w s'.heap r c := fun u z => ha u (List.mem_cons_of_mem _ z)
    dsimp only
    by_cases hv : (b == c || (carriedByValue (.ref b) && carriedByValue (.ref c))) = true
    · exact wp_if_pos hv (wpAny_pure ⟨rfl, rfl, more⟩)
    · refine wp_if_neg hv (wpAny_bind ((nestedKind P w).quiet hk.1 ?_))
      simp only [Bool.not_true, Bool.false_eq_true, if_false]; refine wpAny_bind ((nestedKind P w).quiet hc.1 ?_)
      simp only [Bool.not_true, Bool.false_eq_true, if_false]; refine wpAny_bind (flat_class hk ?_)
      simp only [Bool.false_eq_true, if_false]; refine wpAny_bind (flat_class hc ?_)
      simp only [Bool.false_eq_true, if_false]
      exact wpAny_pure ⟨rfl, rfl, more⟩
  · rintro ⟨r1, r2⟩ s' ⟨hr, rfl, _⟩
    simp only at hr; subst hr
    exact wpAny_pure h
end

/-! ### the set of flat tuples -/
abbrev KA := Addr × NestedKey
def rowN (w : World) (p : KA) : Int × Value := (p.2.hash w, .ref p.1)
structure SetN (P : Program) (w : World) (h : Heap) (a : Addr) (L : List KA) (es : Array (Int × Value)) (ep : Nat) (t : SetTable) : Prop where
  ob : ∃ o, h.get? a = some o ∧ o.ExactSet ∧ o.data = .set es ep t
  rows : es.toList = L.map (rowN w)
  tab : TabOk t (L.map fun p => p.2.hash w)
  nd : (L.map (·.2)).Nodup
  key : ∀ p ∈ L, FlK P w h p.2 p.1
  plain : t.plain = true
  led : w.params.followText "set-order" = true ∨ t.led = true
  room : L.length * 5 < t.mask * 3
  few : L.length < 64
section
variable {P : Program} {w : World} {A : Around} {E : Value → Shared → Prop} {s : Shared} {a : Addr} {L : List KA} {es : Array (Int × Value)} {ep : Nat} {t : SetTable}
theorem rows_size (h : es.toList = L.map (rowN w)) : es.size = L.length := by
  have := congrArg List.length h
  rwa [Array.length_toList, List.length_map] at this
theorem fits_of (hs : t.place.size = es.size) (hd : t.dummies = #[]) (hl : es.size ≤ t.mask) : t.fits es.size = true := by
  unfold SetTable.fits SetTable.fill; rw [hd, Bool.and_eq_true, beq_iff_eq, decide_eq_true_eq]
  exact ⟨hs, by show t.place.size + 0 ≤ t.mask; omega⟩
theorem SetN.psize (R : SetN P w s.heap a L es ep t) : t.place.size = es.size := by
  have := R.tab.sz
  rw [List.length_map] at this
  rw [this, rows_size R.rows]
theorem SetN.fits (R : SetN P w s.heap a L es ep t) : t.fits es.size = true := fits_of R.psize R.tab.dm (by have := R.room; have := rows_size R.rows; omega)
theorem SetN.entry (R : SetN P w s.heap a L es ep t) {i : Nat} {p : KA} (h : L[i]? = some p) : es[i]? = some (rowN w p) := by
  rw [← Array.getElem?_toList, R.rows, List.getElem?_map, h]; rfl
theorem SetN.gone (R : SetN P w s.heap a L es ep t) : ¬ t.gaveWay = true := by
  unfold SetTable.gaveWay; rw [mask_odd R.tab.mok]; decide

/-- the search from the c-th step on -/
theorem seek (R : SetN P w s.heap a L es ep t) {x : Addr} {q : NestedKey} (hx : FlK P w s.heap q x) (hu : A.units + 8 < cLine) {hv : Int} (ev : hv = q.hash w) {K : Nat} (hKf : K < 10 * SetTable.turns t.mask)
    (hK : way t.mask hv K ∉ t.place.toList) (hKb : ∀ c, c < K → way t.mask hv c ∈ t.place.toList) {Q : SetFound → Shared → Prop}
    (hin : q ∈ L.map (·.2) → Q (.there none) s) (hout : q ∉ L.map (·.2) → Q (.free (way t.mask hv K) false) s) :
    ∀ (f c : Nat) (stand : Option SetTable.Probe), stand.getD (t.probeStart hv) = nth t.mask (t.probeStart hv) c → c ≤ K → K - c < f →
      (∀ (i : Nat) p, L[i]? = some p → p.2 = q → ∃ d, c ≤ d ∧ d < K ∧ t.place.toList[i]? = some (way t.mask hv d)) →
      wpAny (model P w) A (setSearchFrom a (.ref x) hv true f stand) Q E s := by
  intro f
  induction f with
  | zero => intro c _ _ _ h; exact absurd h (Nat.not_lt_zero _)
  | succ f ih =>
    intro c stand hst hc hf hre
    obtain ⟨o, ho, hex, hd⟩ := R.ob
    have st0 : t.probeStart hv = runAt t.mask (SetTable.bits hv % (t.mask + 1)) (SetTable.bits hv) := rfl
    have dum : ∀ (n : Nat) (p : SetTable.Probe), p.dummy = none → (nth t.mask p n).dummy = none := by
      intro n
      induction n with
      | zero => exact fun p h => h
      | succ n ihn => exact fun p h => ihn _ (by unfold adv; split <;> exact h)
    have wj : ∀ d, (nth t.mask (t.probeStart hv) d).j = way t.mask hv d := fun d => rfl
    have sh : ∀ d, nth t.mask (nth t.mask (t.probeStart hv) c) d = nth t.mask (t.probeStart hv) (c + d) := fun d => (nth_add t.mask c _ d).symm
    have hh : ∀ (i : Nat) p, L[i]? = some p → (es[i]?.map (·.1)).getD 0 = p.2.hash w := fun i p e => by rw [R.entry e]; rfl
    have spec := go_spec t R.tab.ris R.tab.dm (fun i => (es[i]?.map (·.1)).getD 0) hv (10 * SetTable.turns t.mask) (K - c) (nth t.mask (t.probeStart hv) c) (dum c _ rfl) (by omega)
      (fun d hdK => by rw [sh, wj]; exact hKb _ (by omega)) (by rw [sh, wj, show c + (K - c) = K by omega]; exact hK)
    rw [setSearchFrom_succ]
    refine wpAny_bind (wpAny_setState_of (ho := ho) (hd := hd) (hf := R.fits) ?_)
    dsimp only
    refine wp_if_neg R.gone ?_
    try (refine wpAny_bind (wpAny_pure ?_))
    rcases spec with ⟨d, i, hdK, hi, hheq, hno, hpr⟩ | ⟨hno, hpr⟩
    · have pr : t.probe (fun i => (es[i]?.map (·.1)).getD 0) hv (stand.getD (t.probeStart hv)) = some (.candidate (way t.mask hv (c + d)) i (nth t.mask (t.probeStart hv) (c + (d + 1)))) := by
        rw [hst]; unfold SetTable.probe; rw [← sh, ← wj, ← sh]; exact hpr
      rw [pr]; dsimp only
      rw [sh, wj] at hi
      have hil : i < L.length := by
        have h1 : i < t.place.toList.length := (List.getElem?_eq_some_iff.mp hi).1
        rw [Array.length_toList, R.psize, rows_size R.rows] at h1
        exact h1
      obtain ⟨p, hp⟩ : ∃ p, L[i]? = some p := ⟨_, List.getElem?_eq_getElem hil⟩
      have hmem : p ∈ L := List.mem_of_getElem? hp
      have rest : wpAny (model P w) A (searchRest a (.ref x) hv true f es t (way t.mask hv (c + d)) i (nth t.mask (t.probeStart hv) (c + (d + 1)))) Q E s := by
        unfold searchRest; rw [R.entry hp]; dsimp only [rowN]
        refine wpAny_bind (wpAny_holding ((nestedKind P w).eqBool hu (R.key p hmem).1 hx.1 ?_))
        refine wpAny_bind (wpAny_setState_of (ho := ho) (hd := hd) (hf := R.fits) ?_)
        dsimp only
        by_cases hkk : p.2 = q
        · exact wp_if_pos (by simp [hkk]) (wpAny_pure (hin (List.mem_map.mpr ⟨p, hmem, hkk⟩)))
        · refine wp_if_neg (by simp [hkk]) ?_
          try (refine wpAny_bind (wpAny_pure ?_))
          rw [sameMem]; dsimp only
          have hsl : t.slot (way t.mask hv (c + d)) = .live i := slot_live R.tab.ris hi
          simp only [if_true, hsl, R.entry hp, rowN]
          refine wpAny_bind (wpAny_isSame_ref_self (wpAny_bind (wpAny_pure ?_)))
          simp only [if_true]; refine wp_if_neg (by simp [hkk]) ?_
          refine ih (c + (d + 1)) _ rfl (by omega) (by omega) fun i0 p0 h0 hk0 => ?_
          obtain ⟨d', a1, a2, a3⟩ := hre i0 p0 h0 hk0
          refine ⟨d', ?_, a2, a3⟩
          have hq : (es[i0]?.map (·.1)).getD 0 = hv := by rw [hh i0 p0 h0, hk0, ev]
          by_cases z : d' < c + d
          · exact absurd hq (hno (d' - c) i0 (by omega) (by rw [sh, wj, show c + (d' - c) = d' by omega]; exact a3))
          · by_cases y : d' = c + d
            · rw [y] at a3
              have s0 := slot_live R.tab.ris a3
              rw [hsl] at s0
              injection s0 with s0
              rw [← s0, hp] at h0
              exact absurd ((congrArg Prod.snd (Option.some.inj h0)).trans hk0) hkk
            · omega
      by_cases hl : t.led = true
      · refine wp_if_neg (by simp [hl]) ?_
        try (refine wpAny_bind (wpAny_pure ?_))
        exact rest
      · refine wp_if_pos (by simp [hl]) ?_
        refine wpAny_bind (flat_seen hx (fun y hy => ?_) ?_)
        · obtain ⟨e, he, ee⟩ := List.mem_map.mp hy
          have he1 : e ∈ es ∧ e.1 = hv := by simpa using he
          have he2 : e ∈ es.toList := by simpa using he1.1
          rw [R.rows] at he2
          obtain ⟨p2, hp2, e2⟩ := List.mem_map.mp he2
          exact ⟨p2.2, p2.1, by rw [← ee, ← e2]; rfl, R.key p2 hp2⟩
        · refine wp_if_neg (by decide) ?_
          try (refine wpAny_bind (wpAny_pure ?_))
          exact rest
    · have pr : t.probe (fun i => (es[i]?.map (·.1)).getD 0) hv (stand.getD (t.probeStart hv)) = some (.empty (way t.mask hv K) none) := by
        rw [hst]; unfold SetTable.probe; rw [← wj, show K = c + (K - c) by omega, ← sh]; exact hpr
      rw [pr]; dsimp only
      refine wpAny_pure (hout fun hm => ?_)
      obtain ⟨p0, h0, hk0⟩ := List.mem_map.mp hm
      obtain ⟨i0, hi0⟩ := List.mem_iff_getElem?.mp h0
      obtain ⟨d', a1, a2, a3⟩ := hre i0 p0 hi0 hk0
      exact hno (d' - c) i0 (by omega) (by rw [sh, wj, show c + (d' - c) = d' by omega]; exact a3) (by rw [hh i0 p0 hi0, hk0, ev])
end

/-! ### the table laid anew, one put in -/
theorem ord_rows {β : Type} (f : β → Int × Value) (L : List β) (es : Array (Int × Value)) (order : Array Nat) (hr : es.toList = L.map f) (hp : order.toList.Perm (List.range L.length)) :
    ∃ L2 : List β, (order.filterMap (es[·]?)).toList = L2.map f ∧ L2.Perm L ∧ (L2.map fun p => (f p).1) = order.toList.map fun i => (es.map (·.1)).getD i 0 := by
  have ent : ∀ i : Nat, es[i]? = (L[i]?).map f := fun i => by rw [← Array.getElem?_toList, hr, List.getElem?_map]
  have all : (List.range L.length).filterMap (fun i => L[i]?) = L := by
    have go : ∀ n, n ≤ L.length → (List.range n).filterMap (fun i => L[i]?) = L.take n := by
      intro n
      induction n with
      | zero => exact fun _ => rfl
      | succ n ih =>
        intro hn
        rw [List.range_succ, List.filterMap_append, ih (by omega), List.take_succ, List.getElem?_eq_getElem hn]
        rw [List.filterMap_cons_some (List.getElem?_eq_getElem hn)]; rfl
    rw [go _ (Nat.le_refl _), List.take_length]
  refine ⟨order.toList.filterMap fun i => L[i]?, ?_, ?_, ?_⟩
  · rw [Array.toList_filterMap, List.map_filterMap]
    exact congrArg (fun g => List.filterMap g order.toList) (funext ent)
  · have h1 := hp.filterMap (fun i => L[i]?)
    rwa [all] at h1
  · have hlt : ∀ i ∈ order.toList, i < L.length := fun i hi => List.mem_range.mp (hp.mem_iff.mp hi)
    clear hp
    revert hlt
    generalize order.toList = l
    intro hlt
    induction l with
    | nil => rfl
    | cons i l ih =>
      have hi := hlt i List.mem_cons_self
      rw [List.filterMap_cons_some (List.getElem?_eq_getElem hi), List.map_cons, List.map_cons, ih fun j hj => hlt j (List.mem_cons_of_mem _ hj)]
      congr 1
      have : (es.map (·.1))[i]? = some (f L[i]).1 := by rw [Array.getElem?_map, ent i, List.getElem?_eq_getElem hi]; rfl
      simp [Array.getD_eq_getD_getElem?, this]
section
variable {P : Program} {w : World} {A : Around} {E : Value → Shared → Prop} {s : Shared} {a : Addr} {L : List KA} {es : Array (Int × Value)} {ep : Nat} {t : SetTable}
theorem relay_n {o : Obj} (ho : s.heap.get? a = some o) (hex : o.ExactSet) (hd : o.data = .set es ep t) (hrows : es.toList = L.map (rowN w)) (hsz : t.place.size = es.size) (hdm : t.dummies = #[]) (hfl : es.size ≤ t.mask)
    (nd : (L.map (·.2)).Nodup) (key : ∀ p ∈ L, FlK P w s.heap p.2 p.1) (pl : t.plain = true) (ld : w.params.followText "set-order" = true ∨ t.led = true) (few : L.length < 64) {wanted M : Nat}
    (hw : SetTable.sizeAbove wanted - 1 = M) (hM : MaskOk M) (hw2 : SetTable.sizeAbove wanted ≤ 128) (hn : L.length * 5 < M * 3) {Q : Unit → Shared → Prop}
    (hQ : ∀ h' L' es' ep' t', Heap.SameBut a s.heap h' → SetN P w h' a L' es' ep' t' → L'.Perm L → Q () { s with heap := h' }) : wpAny (model P w) A (setRelay a wanted) Q E s := by
  have hsl := rows_size hrows
  obtain ⟨t', order, e, hp, T, em, el, ep1, ed⟩ := relaid_ok t (hs := es.map (·.1)) (wanted := wanted) hw hM (by rw [Array.size_map, hsl]; omega)
  rw [Array.size_map, hsl] at hp
  obtain ⟨L2, r1, r2, r3⟩ := ord_rows (rowN w) L es order hrows hp
  rw [← r3] at T
  have hs2 : (order.filterMap (es[·]?)).size = es.size := by rw [rows_size r1, r2.length_eq, hsl]
  rw [setRelay_eq]; refine wpAny_bind (wpAny_setState_of (ho := ho) (hd := hd) (hf := fits_of hsz hdm hfl) ?_)
  dsimp only
  refine wp_if_neg (by rw [sizeLine_eq]; omega) ?_
  try (refine wpAny_bind (wpAny_pure ?_))
  rw [e]; dsimp only
  refine wpAny_bind ?_
  refine wp_if_neg (by rw [hs2]; simp) ?_
  try (refine wpAny_bind (wpAny_pure ?_))
  refine wpAny_pure ?_
  dsimp only
  refine wpAny_storeSet_of (ho := ho) (hd := hd) ?_ (by rw [hs2, hsl, sizeLine_eq]; omega)
  have sb : Heap.SameBut a s.heap (s.heap.update a (Obj.putSet (order.filterMap (es[·]?)) t')) := Heap.SameBut.update ..
  refine hQ _ L2 (order.filterMap (es[·]?)) (ep + 1) t' sb ⟨⟨_, store_at ho hd, ⟨hex.1, hex.2.1, hex.2.2⟩, rfl⟩, r1, T, (r2.map (·.2)).nodup_iff.mpr nd, fun p hpm => (key p (r2.mem_iff.mp hpm)).same ho hd sb, by rw [ep1]; exact pl, by rw [el]; exact ld, ?_, by rw [r2.length_eq]; exact few⟩ r2
  rw [r2.length_eq, em]; exact hn
/-- one more put in -/
theorem add_n (R : SetN P w s.heap a L es ep t) {x : Addr} {q : NestedKey} (hx : FlK P w s.heap q x) (hu : A.units + 8 < cLine) (hfew : q ∈ L.map (·.2) ∨ L.length + 1 < 64) {Q : Bool → Shared → Prop}
    (hQ : ∀ b h' L' es' ep' t', Heap.SameBut a s.heap h' → SetN P w h' a L' es' ep' t' → (q ∈ L.map (·.2) → L' = L) → (q ∉ L.map (·.2) → L'.Perm ((x, q) :: L)) → Q b { s with heap := h' }) :
    wpAny (model P w) A (setAddHashed a (.ref x) (q.hash w)) Q E s := by
  obtain ⟨o, ho, hex, hd⟩ := R.ob
  have hsl := rows_size R.rows
  have hroom := R.room
  obtain ⟨hv, ehv⟩ : ∃ hv, hv = q.hash w := ⟨_, rfl⟩
  rw [← ehv]
  unfold setAddHashed; refine wpAny_holding ?_
  rw [show (100000 : Nat) = 99999 + 1 from rfl, setAddHashedIn_succ]; refine wpAny_bind (wpAny_setState_of (ho := ho) (hd := hd) (hf := R.fits) ?_)
  dsimp only
  refine wp_if_neg (by simp [byScan, Value.scannable]) ?_
  try (refine wpAny_bind (wpAny_pure ?_))
  obtain ⟨K, hKf, hK, hb⟩ := R.tab.first (by rw [List.length_map]; omega) hv
  have hbig : K < 100000 := by
    have : 10 * SetTable.turns t.mask ≤ 1420 := by
      unfold SetTable.turns
      rcases R.tab.mok with e | e | e <;> rw [e] <;> decide
    omega
  have find := fun (Q' : SetFound → Shared → Prop) (h1 : q ∈ L.map (·.2) → Q' (.there none) s) (h2 : q ∉ L.map (·.2) → Q' (.free (way t.mask hv K) false) s) =>
    seek (E := E) R hx hu ehv hKf hK hb h1 h2 100000 0 none rfl (Nat.zero_le _) (by omega) fun i p hp hk => by
      have hi : (L.map fun p => p.2.hash w)[i]? = some hv := by rw [List.getElem?_map, hp, ehv, ← hk]; rfl
      have hil : i < t.place.toList.length := by
        rw [Array.length_toList, R.psize, hsl]; exact (List.getElem?_eq_some_iff.mp hp).1
      obtain ⟨c, hc, e⟩ := R.tab.before hK hi (List.getElem?_eq_getElem hil)
      exact ⟨c, Nat.zero_le _, hc, by rw [List.getElem?_eq_getElem hil, e]⟩
  refine wpAny_bind ?_
  unfold setSearch; refine find _ (fun hm => ?_) fun hm => ?_
  · dsimp only
    exact wpAny_pure (hQ false s.heap L es ep t (Heap.SameBut.refl a s.heap) R (fun _ => rfl) fun z => absurd hm z)
  · dsimp only
    refine wpAny_bind (wpAny_setState_of (ho := ho) (hd := hd) (hf := R.fits) ?_)
    dsimp only
    obtain ⟨q1, q2, q3, q4, q5, q6, q7, q8, q9⟩ := R.tab.put hK hb
    have hp1 : (t.put (way t.mask hv K)).1.plain = true := by rw [q6]; exact R.plain
    generalize hpt : t.put (way t.mask hv K) = pt at q1 q3 q4 q5 q6 q7 q8 q9 hp1 ⊢
    obtain ⟨t1, j⟩ := pt
    dsimp only at q1 q3 q4 q5 q6 q7 q8 q9 hp1 ⊢
    subst q1
    first
      | (refine wpAny_bind ?_; refine wp_if_pos hp1 ?_; refine flat_hash hx ?_)
      | refine wp_if_pos hp1 (wpAny_bind (flat_hash hx ?_))
    simp only [if_true]
    have hin : (SetTable.insertAt es (SetTable.below t.place (way t.mask hv K)) (hv, Value.ref x)).toList = (L.take (SetTable.below t.place (way t.mask hv K)) ++ (x, q) :: L.drop (SetTable.below t.place (way t.mask hv K))).map (rowN w) := by
      rw [SetTable.toList_insertAt, R.rows, List.map_append, List.map_cons, List.map_take, List.map_drop, ehv]; rfl
    generalize SetTable.below t.place (way t.mask hv K) = j at q2 q3 hin ⊢
    have pm := put_perm L j (x, q)
    have hlen : (L.take j ++ (x, q) :: L.drop j).length = L.length + 1 := pm.length_eq
    have hfew' : L.length + 1 < 64 := hfew.resolve_left hm
    have hhs : (L.take j ++ (x, q) :: L.drop j).map (fun p => p.2.hash w) = (L.map fun p => p.2.hash w).take j ++ hv :: (L.map fun p => p.2.hash w).drop j := by
      rw [List.map_append, List.map_cons, List.map_take, List.map_drop, ehv]
    rw [← hhs] at q3
    have nd1 : ((L.take j ++ (x, q) :: L.drop j).map (·.2)).Nodup := (pm.map (·.2)).nodup_iff.mpr (by rw [List.map_cons]; exact List.nodup_cons.mpr ⟨hm, R.nd⟩)
    have hes : (SetTable.insertAt es j (hv, Value.ref x)).size = L.length + 1 := by rw [rows_size hin, hlen]
    generalize SetTable.insertAt es j (hv, Value.ref x) = es1 at hin hes ⊢
    generalize L.take j ++ (x, q) :: L.drop j = L1 at pm hlen q3 nd1 hin
    refine wpAny_bind (wpAny_storeSet_of (ho := ho) (hd := hd) ?_ (by rw [hes, sizeLine_eq]; omega))
    have sb : Heap.SameBut a s.heap (s.heap.update a (Obj.putSet es1 t1)) := Heap.SameBut.update ..
    have ho1 := store_at (es' := es1) (t' := t1) ho hd
    generalize s.heap.update a (Obj.putSet es1 t1) = h1 at sb ho1 ⊢
    have key1 : ∀ p ∈ L1, FlK P w h1 p.2 p.1 := fun p hp => by
      rcases List.mem_cons.mp (pm.mem_iff.mp hp) with e | hp
      · rw [e]; exact hx.same ho hd sb
      · exact (R.key p hp).same ho hd sb
    have ld1 : w.params.followText "set-order" = true ∨ t1.led = true := by rw [q5]; exact R.led
    by_cases hf : t1.tooFull = true
    · first
        | (refine wpAny_bind ?_; refine wp_if_pos (by simp [hf]) ?_)
        | (refine wp_if_pos (by simp [hf]) ?_; refine wpAny_bind ?_)
      have hfull : (L.length + 1) * 5 ≥ t1.mask * 3 := by
        have h := hf
        unfold SetTable.tooFull at h; rw [decide_eq_true_eq, q9, List.length_map] at h
        exact h
      rw [hsl]
      have hsz1 : t1.place.size = es1.size := by
        have h := q3.sz
        rw [List.length_map, hlen] at h
        rw [h, hes]
      have two : (t.mask = 7 ∧ L.length = 4) ∨ (t.mask = 31 ∧ L.length = 18) := by
        rcases R.tab.mok with e | e | e <;> rw [q4, e] at hfull <;> rw [e] at hroom <;> rw [e] <;> omega
      have go : ∀ M, SetTable.sizeAbove (SetTable.grown (L.length + 1)) - 1 = M → MaskOk M → SetTable.sizeAbove (SetTable.grown (L.length + 1)) ≤ 128 → (L.length + 1) * 5 < M * 3 →
          wpAny (model P w) A (setRelay a (SetTable.grown (L.length + 1))) (fun _ s' => wpAny (model P w) A (pure true) Q E s') E { s with heap := h1 } := fun M g1 g2 g3 g4 => by
        refine relay_n (s := { s with heap := h1 }) ho1 ⟨hex.1, hex.2.1, hex.2.2⟩ rfl hin hsz1 q3.dm (by rw [hes, q4]; rcases two with ⟨e, e2⟩ | ⟨e, e2⟩ <;> omega) nd1 key1 hp1 ld1 (by rw [hlen]; exact hfew') g1 g2 g3 (by rw [hlen]; exact g4) ?_
        intro h2 L2 es2 ep2 t2 sb2 R2 pm2
        exact wpAny_pure (hQ true h2 L2 es2 ep2 t2 (sb.trans sb2) R2 (fun z => absurd z hm) fun _ => pm2.trans pm)
      rcases two with ⟨_, e2⟩ | ⟨_, e2⟩
      · exact go 31 (by rw [e2, size_20]) (.inr (.inl rfl)) (by rw [e2, size_20]; decide) (by omega)
      · exact go 127 (by rw [e2, size_76]) (.inr (.inr rfl)) (by rw [e2, size_76]; decide) (by omega)
    · first
        | refine wp_if_neg (by simp [hf]) ?_
        | (refine wpAny_bind ?_; refine wp_if_neg (by simp [hf]) ?_; refine wpAny_pure ?_)
      refine wpAny_pure (hQ true h1 L1 es1 (ep + 1) t1 sb ⟨⟨_, ho1, ⟨hex.1, hex.2.1, hex.2.2⟩, rfl⟩, hin, q3, nd1, key1, hp1, ld1, ?_, by rw [hlen]; exact hfew'⟩ (fun z => absurd z hm) fun _ => pm)
      have h := hf
      unfold SetTable.tooFull at h; rw [decide_eq_true_eq, q9, List.length_map] at h
      rw [hlen]; omega

/-! ### set.update's loop; set(xs) -/
theorem set_loop {I S : Addr} {fp wr : List Addr} {G : Array GenState → Array GenState → Prop} {n : Nat} {Pv : Nat → Value → Prop} {St : Nat → Shared → Prop} {R : Result → Shared → Prop}
    (W : WalksS P w A.in1 I fp wr G n Pv St) (hSf : S ∉ fp) (h0 : Heap) (hS0 : h0.get? S = none) (hw0 : ∀ b ∈ wr, h0.get? b = none) (Iv : Nat → Heap → Prop)
    (keep : ∀ i h h', Iv i h → (∀ o, h.get? S = some o → h'.get? S = some o) → (∀ b o, h0.get? b = some o → h'.get? b = some o) → Iv i h')
    (step : ∀ i v (s : Shared) (E : Value → Shared → Prop) (Q : Bool → Shared → Prop), i < n → Pv i v → Iv i s.heap → (∀ b o, h0.get? b = some o → s.heap.get? b = some o) →
      (∀ b h' tk, s.toks ≤ tk → Heap.SameBut S s.heap h' → Iv (i + 1) h' → Q b { s with heap := h', toks := tk }) → wpAny (model P w) A.in1 (setAdd S v) Q E s) :
    ∀ (k i : Nat) (s : Shared), n - i = k → i ≤ n → St i s → (∀ b o, h0.get? b = some o → s.heap.get? b = some o) → Iv i s.heap →
      (∀ s', Moved (S :: wr) G s s' → Iv n s'.heap → (∀ b o, h0.get? b = some o → s'.heap.get? b = some o) → R (.ok (.ret .none)) s') →
      codeAny (model P w) A (.builtin "set.update.loop" ⟨[.ref S, .ref I], []⟩) R s := by
  have hSw : S ∉ wr := fun h => hSf (W.sub _ h)
  have hsub : ∀ b ∈ wr, b ∈ S :: wr := fun b hb => List.mem_cons_of_mem _ hb
  have keepM : ∀ {s s' : Shared}, Moved wr G s s' → (∀ b o, h0.get? b = some o → s.heap.get? b = some o) → ∀ b o, h0.get? b = some o → s'.heap.get? b = some o := fun hm hkp b o e =>
    hm.heap b o (fun hb => by rw [hw0 b hb] at e; cases e) (hkp b o e)
  intro k
  induction k with
  | zero =>
    intro i s hk' hi hst hkp hI hR
    obtain rfl : i = n := by omega
    refine codeAny_builtin F.entry_set_update_loop ?_; rw [Around.under_plainId F.plain_set_update_loop _]
    show wpAny (model P w) A.in1 (pyNext (.ref I) >>= _) _ _ s
    refine wpAny_bind (W.done s _ _ hst fun s' hm => ?_)
    show wpAny (model P w) A.in1 (ret Value.none) _ _ s'
    exact wpAny_pure (hR s' (hm.mono hsub) (keep _ _ _ hI (fun o e => hm.heap S o hSw e) (keepM hm hkp)) (keepM hm hkp))
  | succ k ih =>
    intro i s hk' hi hst hkp hI hR
    have hlt : i < n := by omega
    refine codeAny_builtin F.entry_set_update_loop ?_; rw [Around.under_plainId F.plain_set_update_loop _]
    show wpAny (model P w) A.in1 (pyNext (.ref I) >>= _) _ _ s
    refine wpAny_bind (W.item i s _ _ hlt hst fun v s' hP hst' hm => ?_)
    have hkp' := keepM hm hkp
    show wpAny (model P w) A.in1 (holding [v] (setAdd S v) >>= _) _ _ s'
    refine wpAny_bind (wpAny_holding (step i v s' _ _ hlt hP (keep _ _ _ hI (fun o e => hm.heap S o hSw e) hkp') hkp' fun b h' tk ht hsb hI2 => ?_))
    have hkp2 : ∀ b o, h0.get? b = some o → h'.get? b = some o := fun b o e => (hsb.2 b (fun z => by rw [z, hS0] at e; cases e)).trans (hkp' b o e)
    refine wpAny_pure ⟨plainId_quiet F.plain_set_update_loop _, ih (i + 1) _ (by omega) hlt (W.frame _ s' _ _ hst' ht fun b hb o e => (hsb.2 b fun z => hSf (z ▸ hb)).trans e) hkp2 hI2 fun s'' hm'' hI'' hkp'' => ?_⟩
    exact hR s'' (Moved.trans W.gtrans ((hm.mono hsub).then_heap ht fun b o hb e => (hsb.2 b fun z => hb (z ▸ List.mem_cons_self)).trans e) hm'') hI'' hkp''
/-- set(xs), xs a list -/
theorem set_list_any {l : Addr} {items : Array Value} (Iv : Nat → Heap → Prop) {Q : Value → Shared → Prop} (hh : A.handled = none) (hl : s.heap.IsList l items)
    (first : ∀ h : Heap, h.get? s.heap.objs.size = some (set0 w) → (∀ b o, s.heap.get? b = some o → h.get? b = some o) → Iv 0 h)
    (keep : ∀ i h h', Iv i h → (∀ o, h.get? s.heap.objs.size = some o → h'.get? s.heap.objs.size = some o) → (∀ b o, s.heap.get? b = some o → h'.get? b = some o) → Iv i h')
    (step : ∀ i v (s' : Shared) (E : Value → Shared → Prop) (Q : Bool → Shared → Prop), i < items.size → items[i]? = some v → Iv i s'.heap → (∀ b o, s.heap.get? b = some o → s'.heap.get? b = some o) →
      (∀ b h' tk, s'.toks ≤ tk → Heap.SameBut s.heap.objs.size s'.heap h' → Iv (i + 1) h' → Q b { s' with heap := h', toks := tk }) → wpAny (model P w) A.in1.in1.in1 (setAdd s.heap.objs.size v) Q E s')
    (h : ∀ (h' : Heap) (tk : Nat), Iv items.size h' → (∀ b o, s.heap.get? b = some o → h'.get? b = some o) → Q (.ref s.heap.objs.size) { s with heap := h', toks := tk }) :
    wpAny (model P w) A (call (.type "set") [.ref l]) Q E s := by
  obtain ⟨c, tl, hmro⟩ := F.called_set.mro
  have hmade := F.called_set.made
  have hsub := F.called_set.sub
  refine wpAny_call (codeAny_of_tree ?_)
  show wpAny (model P w) _ (callAny (.type "set") _) _ _ _
  refine wpAny_pure ⟨Code.quiet_builtin _ (by decide +kernel), codeAny_builtin F.entry_type_call ?_⟩
  rw [Around.under_plain (weight_type_call_type "set" [.ref l] []) rfl]
  have h1 := F.called_set.notType
  have h2 := F.called_set.canCreate
  have hct := F.typeCall_set_1 (.ref l)
  repeat (any_goals (first | assumption | wp_step))

  refine codeAny_mono (code_set_led1 (.ref l) (E := E) (Q₁ := fun obj s₁ => obj = .ref s.heap.objs.size ∧ s₁ = { s with heap := s.heap.push (set0 w) }) ⟨rfl, rfl⟩) fun r s₁ hr => ?_
  match r, hr with
  | .error e, hr => exact hr
  | .ok (.ret obj), hr =>
      obtain ⟨rfl, rfl⟩ := hr
      have hS : (s.heap.push (set0 w)).get? s.heap.objs.size = some (set0 w) := Heap.get?_push_size _ rfl
      have hT : Shared.TypeIs { s with heap := s.heap.push (set0 w) } (.ref s.heap.objs.size) "set" := ⟨_, hS, rfl⟩
      have hli := F.called_set.init.lookup
      have hbi := F.called_set.init.bind (.ref s.heap.objs.size)
      repeat (any_goals (first | assumption | wp_step))

      refine codeAny_mono (codeAny_call_builtin (R := wants (fun r s₂ => r = .none ∧ ∃ h' tk, s₂ = { s with heap := h', toks := tk } ∧ Iv items.size h' ∧ (∀ b o, s.heap.get? b = some o → h'.get? b = some o)) E) F.called_set.init.plain F.entry_set_init (check_set_init_1 hT ?_)) fun r₂ s₂ hr₂ => ?_
      · obtain ⟨ol, hol, hcl, nl, hdl⟩ := hl
        obtain ⟨ocls, odict, odata, oslots⟩ := ol
        simp only at hcl hdl
        subst hcl; subst hdl
        have hol' : (s.heap.push (set0 w)).get? l = some { cls := .type "list", dict := odict, data := .seq items nl, slots := oslots } := Heap.get?_push_of_some _ hol
        have hsls := F.sub_list_set
        have hslf := F.sub_list_frozenset
        have hne : (Value.type "list" == Value.type "dict") = false := by decide
        have hl1 : (s.heap.push (set0 w)).IsList l items := ⟨_, hol', rfl, nl, rfl⟩
        unfold Builtin.«set.__init__» noKeywords Builtin.Frozenset.updateFrom
        generalize hPI : pyIter = PI
        wp_walk
        subst hPI

        refine wpAny_pyIter_list hl1 (wpAny_bind (wpAny_runValue ?_))
        have hlS : l < s.heap.objs.size := Heap.lt_size hol
        have hh3 : A.in1.in1.in1.handled = none := by simp [hh]
        have hneI : l ≠ (s.heap.push (set0 w)).objs.size := by rw [Heap.size_push]; exact Nat.ne_of_lt (Nat.lt_succ_of_lt hlS)
        have hSf : s.heap.objs.size ∉ [(s.heap.push (set0 w)).objs.size, l] := by
          rw [Heap.size_push]; simp only [List.mem_cons, List.mem_singleton, List.not_mem_nil, or_false, not_or]; exact ⟨Nat.ne_of_lt (Nat.lt_succ_self _), Nat.ne_of_gt hlS⟩
        have none_of : ∀ b, s.heap.objs.size ≤ b → s.heap.get? b = none := fun b hb => by
          cases q : s.heap.get? b with
          | none => rfl
          | some o => exact absurd (Nat.lt_of_lt_of_le (Heap.lt_size q) hb) (Nat.lt_irrefl _)
        refine set_loop ((Walks.list hh3 _ l hneI items).toS) hSf s.heap (none_of _ (Nat.le_refl _)) (fun b hb => none_of b (by rw [List.mem_singleton.mp hb, Heap.size_push]; exact Nat.le_succ _)) Iv keep
          (fun i v s' E' Q' hi hv => step i v s' E' Q' hi hv) (items.size - 0) 0 _ (by omega) (Nat.zero_le _)
          ⟨⟨_, Heap.get?_push_size _ rfl, rfl, rfl⟩, (hl1.push _)⟩ (fun b o e => Heap.get?_push_of_some _ (Heap.get?_push_of_some _ e)) ?hS0 ?hR
        case hS0 => exact first _ (Heap.get?_push_of_some _ hS) fun b o e => Heap.get?_push_of_some _ (Heap.get?_push_of_some _ e)
        case hR =>
          intro s' hm hI hkp
          obtain ⟨h', g2, d', tk', os'⟩ := s'
          obtain rfl : g2 = s.gens := hm.gens
          obtain rfl : d' = s.drawn := hm.drawn
          obtain rfl : os' = s.os := hm.os
          show wpAny (model P w) _ _ _ _ _
          refine wpAny_pure ?_
          show wpAny (model P w) _ (ret Value.none) _ _ _
          exact wpAny_pure ⟨rfl, h', tk', rfl, hI, hkp⟩
      · match r₂, hr₂ with
        | .error e, hr₂ => exact hr₂
        | .ok (.ret r), hr₂ =>
            obtain ⟨rfl, h', tk, rfl, hI, hk'⟩ := hr₂
            repeat (any_goals (first | assumption | wp_step))
            exact h _ _ hI hk'
end
end K39
end Text_K39S

section Text_K39U
set_option Elab.async false set_option linter.all false set_option maxRecDepth 100000 set_option maxHeartbeats 4000000
/-! set(xs), sorted(set), len(set), as calls. -/
namespace K39
open PySem PySem.Spec PyProof.Rows L2

theorem eD_inj {a b : Nd} (h : nk (eD a) = nk (eD b)) : a = b := cD.inj a b h
section
variable {X : Cx} {pins : List (Addr × Obj)} {σ : L2.St} {H : Hp} {s : Shared}
theorem Dt.flat (I : Inv X pins σ H s) {b : Addr} {k : Nd} (h : Dt X.K H (.ref b) (eD k)) : FlK X.prog X.w s.heap (nk (eD k)) b := by
  refine ⟨Dt.key (E := cD) I h, ?_⟩
  obtain ⟨p, e, hs⟩ := h.nd
  cases e
  obtain ⟨its, rv, ⟨o, ho, hc, n, hd⟩, _⟩ := I.tuple hs
  refine ⟨o, its.toArray, n, ho, hc, hd, ?_⟩
  cases rv with
  | cons r1 rv =>
    cases rv with
    | cons r2 rv =>
      cases rv with
      | cons r3 rv =>
        cases rv
        obtain ⟨t1, rfl⟩ := r1
        obtain ⟨t2, rfl⟩ := r2
        cases r3
        intro v hv
        simp only [List.mem_cons, List.not_mem_nil, or_false] at hv
        rcases hv with rfl | rfl | rfl
        · exact .inl ⟨_, _, rfl⟩
        · exact .inl ⟨_, _, rfl⟩
        · exact .inr ⟨_, rfl⟩
/-- the set, without its keys' own places -/
def SetN0 (w : World) (h : Heap) (a : Addr) (L : List KA) : Prop :=
  ∃ (es : Array (Int × Value)) (ep : Nat) (t : SetTable), (∃ o, h.get? a = some o ∧ o.ExactSet ∧ o.data = .set es ep t) ∧ es.toList = L.map (rowN w) ∧ TabOk t (L.map fun p => p.2.hash w) ∧ (L.map (·.2)).Nodup ∧ t.plain = true ∧
    (w.params.followText "set-order" = true ∨ t.led = true) ∧ L.length * 5 < t.mask * 3 ∧ L.length < 64
def SetNO (w : World) (a : Addr) (L : List KA) : HO := .ext fun h => SetN0 w h a L
theorem SetN.n0 {P : Program} {w : World} {h : Heap} {a : Addr} {L : List KA} {es : Array (Int × Value)} {ep : Nat} {t : SetTable} (R : SetN P w h a L es ep t) : SetN0 w h a L := ⟨es, ep, t, R.ob, R.rows, R.tab, R.nd, R.plain, R.led, R.room, R.few⟩
theorem SetN0.ok {P : Program} {w : World} {H : Hp} {h : Heap} {a : Addr} {L : List KA} (R : SetN0 w h a L) : ObjOk P w H h a (SetNO w a L) := by
  obtain ⟨es, ep, t, ⟨o, ho, r⟩, q⟩ := id R
  exact ⟨R, ⟨o, ho⟩, fun h1 h2 ⟨es', ep', t', ⟨o', ho', r'⟩, q'⟩ k => ⟨es', ep', t', ⟨o', k o' ho', r'⟩, q'⟩⟩
/-- a list within another isn't longer, if none stands twice -/
theorem nodup_len {α : Type} [DecidableEq α] : ∀ (l D : List α), l.Nodup → (∀ x ∈ l, x ∈ D) → l.length ≤ D.length
  | [], _, _, _ => Nat.zero_le _
  | x :: l, D, hn, hs => by
    obtain ⟨h1, h2⟩ := List.nodup_cons.mp hn
    have hx := hs x List.mem_cons_self
    have ih := nodup_len l (D.erase x) h2 fun y hy => (List.mem_erase_of_ne (show y ≠ x from fun e => h1 (by rw [← e]; exact hy))).mpr (hs y (List.mem_cons_of_mem _ hy))
    rw [List.length_erase_of_mem hx] at ih
    have := List.length_pos_of_mem hx
    rw [List.length_cons]; omega

/-- what stands at each item -/
def NdAt (K : PySem.W.Frag) (H : Hp) (L : List KA) : Prop := ∀ p ∈ L, ∃ k : Nd, p.2 = nk (eD k) ∧ Dt K H (.ref p.1) (eD k)
/-- set(xs), xs a list of marked pairs -/
def rSetN (K : PySem.W.Frag) (w : World) : List V → Hp → VK → Prop := fun vs H Q => ∃ (l : Addr) (xs : List V) (ks D : List Nd), vs = [.ref l] ∧ SqL K H l xs ∧ DtAll K H xs (ks.map eD) ∧ D.length < 64 ∧ (∀ k ∈ ks, k ∈ D) ∧
  ∀ a L, H a = none → NdAt K H L → (∀ k, k ∈ ks ↔ nk (eD k) ∈ L.map (·.2)) → Q (.ref a) (upd H a (SetNO w a L))
theorem dt_refs (I : Inv X pins σ H s) : ∀ {ks : List Nd} {xs : List V} {us : List Value}, DtAll X.K H xs (ks.map eD) → Vals xs us → ∃ L : List KA, us = L.map (fun p => Value.ref p.1) ∧ L.map (·.2) = ks.map (fun k => nk (eD k)) ∧ (∀ p ∈ L, FlK X.prog X.w s.heap p.2 p.1) ∧ NdAt X.K H L
  | [], _, _, h, r => by
    have h' : DtAll X.K H _ [] := h
    cases h'; cases r
    exact ⟨[], rfl, rfl, (fun p hp => nomatch hp), fun p hp => nomatch hp⟩
  | k :: ks, _, _, h, r => by
    have h' : DtAll X.K H _ (eD k :: ks.map eD) := h
    cases h' with
    | cons h1 h2 =>
      cases r with
      | cons r1 r2 =>
        obtain ⟨L, e1, e2, e3, e4⟩ := dt_refs I h2 r2
        obtain ⟨p, rfl, _⟩ := id h1.nd
        cases r1
        refine ⟨(p, nk (eD k)) :: L, by rw [e1]; rfl, by rw [List.map_cons, List.map_cons, e2], fun q hq => ?_, fun q hq => ?_⟩
        · rcases List.mem_cons.mp hq with e | hq
          · rw [e]; exact h1.flat I
          · exact e3 q hq
        · rcases List.mem_cons.mp hq with e | hq
          · rw [e]; exact ⟨k, rfl, h1⟩
          · exact e4 q hq
theorem cr_setN (hc : X.calm = true) (hu : X.A.units + 64 < cLine) : CallR X (.type "set") (rSetN X.K X.w) := by
  intro pins s σ H vs us Q I r h
  obtain ⟨l, xs, ks, D, rfl, hl, hd, hD, hin, q⟩ := h
  obtain rfl := Vals.ref1 r
  obtain ⟨its, rv, pl, hz⟩ := I.list hl
  obtain ⟨L0, e1, e2, e3, e4⟩ := dt_refs I hd rv
  have sz : its.toArray.size = L0.length := by rw [List.size_toArray, e1, List.length_map]
  have hn : H s.heap.objs.size = none := I.hok.fresh (Nat.le_refl _)
  have dist : ∀ L : List KA, (L.map (·.2)).Nodup → (∀ p ∈ L, p ∈ L0) → L.length ≤ D.length := fun L nd sub => by
    have := nodup_len (L.map (·.2)) (D.map fun k => nk (eD k)) nd fun x hx => by
      obtain ⟨p, hp, rfl⟩ := List.mem_map.mp hx
      have : p.2 ∈ L0.map (·.2) := List.mem_map.mpr ⟨p, sub p hp, rfl⟩
      rw [e2] at this
      obtain ⟨k, hk, e⟩ := List.mem_map.mp this
      exact List.mem_map.mpr ⟨k, hin k hk, e⟩
    simpa using this
  have bd : ∀ L : List KA, ∀ q, (L.map (·.2)).Nodup → (∀ p ∈ L, p ∈ L0) → (∃ p ∈ L0, p.2 = q) → q ∉ L.map (·.2) → L.length + 1 < 64 := fun L q nd sub ⟨p, hp, e⟩ hq => by
    have := dist (p :: L) (by rw [List.map_cons]; exact List.nodup_cons.mpr ⟨by rw [e]; exact hq, nd⟩) fun p' h => by
      rcases List.mem_cons.mp h with e | h
      · rw [e]; exact hp
      · exact sub p' h
    rw [List.length_cons] at this
    omega
  let Iv : Nat → Heap → Prop := fun i h => ∃ L es ep t, SetN X.prog X.w h s.heap.objs.size L es ep t ∧ (∀ p ∈ L, p ∈ L0) ∧ ∀ p ∈ L0.take i, p.2 ∈ L.map (·.2)
  refine set_list_any (P := X.prog) (w := X.w) Iv (I.ok.hd hc) pl.isList (fun h g k => ?_) (fun i h h' ⟨L, es, ep, t, R, a1, a2⟩ k1 k2 => ?_) (fun i v s' E Q' hi hv ⟨L, es, ep, t, R, a1, a2⟩ kp st => ?_) fun h' tk ⟨L, es, ep, t, R, a1, a2⟩ kp => ?_
  · refine ⟨[], #[], 0, _, ⟨⟨_, g, ⟨rfl, rfl, rfl⟩, rfl⟩, rfl, ⟨List.Pairwise.nil, rfl, rfl, .inl rfl, fun x hx => (by cases hx), fun i h j hi => (by simp at hi)⟩, List.nodup_nil, (fun p hp => nomatch hp), rfl, ?_, by show 0 * 5 < 7 * 3; decide, by show 0 < 64; decide⟩, (fun p hp => nomatch hp), fun p hp => by simp at hp⟩
    show _ ∨ (!X.w.params.followText "set-order") = true
    cases X.w.params.followText "set-order" <;> simp
  · obtain ⟨o, ho, r⟩ := R.ob
    exact ⟨L, es, ep, t, ⟨⟨o, k1 o ho, r⟩, R.rows, R.tab, R.nd, fun p hp => (e3 p (a1 p hp)).keep k2, R.plain, R.led, R.room, R.few⟩, a1, a2⟩
  · rw [sz] at hi
    have hp : L0[i]? = some L0[i] := List.getElem?_eq_getElem hi
    generalize L0[i] = p at hp
    have ev : v = Value.ref p.1 := by
      have e5 : its[i]? = some v := by rw [← List.getElem?_toArray]; exact hv
      rw [e1, List.getElem?_map, hp] at e5
      exact (Option.some.inj e5).symm
    subst ev
    have hm : p ∈ L0 := List.mem_of_getElem? hp
    have hx : FlK X.prog X.w s'.heap p.2 p.1 := (e3 p hm).keep kp
    unfold setAdd; refine wpAny_holding (wpAny_bind ((nestedKind X.prog X.w).pyHash (by show X.A.units + 1 + 1 + 1 + 8 < cLine; omega) hx.1 ?_))
    refine add_n (s := { s' with toks := s'.toks + (nestedKind X.prog X.w).draws p.2 }) ⟨R.ob, R.rows, R.tab, R.nd, R.key, R.plain, R.led, R.room, R.few⟩ hx (by show X.A.units + 1 + 1 + 1 + 8 < cLine; omega) ?_ fun b h' L' es' ep' t' sb R' c1 c2 => ?_
    · by_cases z : p.2 ∈ L.map (·.2)
      · exact .inl z
      · exact .inr (bd L p.2 R.nd a1 ⟨p, hm, rfl⟩ z)
    · refine st b h' _ (Nat.le_add_right _ _) sb ⟨L', es', ep', t', R', ?_, fun y hy => ?_⟩
      · by_cases z : p.2 ∈ L.map (·.2)
        · rw [c1 z]; exact a1
        · intro y hy
          rcases List.mem_cons.mp ((c2 z).mem_iff.mp hy) with e | hy
          · rw [e]; exact hm
          · exact a1 y hy
      · rw [List.take_succ, hp] at hy
        by_cases z : p.2 ∈ L.map (·.2)
        · rw [c1 z]
          rcases List.mem_append.mp hy with hy | hy
          · exact a2 y hy
          · rw [show y = p by simpa using hy]; exact z
        · rw [((c2 z).map (·.2)).mem_iff, List.map_cons]
          rcases List.mem_append.mp hy with hy | hy
          · exact List.mem_cons_of_mem _ (a2 y hy)
          · rw [show y = p by simpa using hy]; exact List.mem_cons_self
  · rw [sz, List.take_length] at a2
    refine ⟨.ref s.heap.objs.size, upd H s.heap.objs.size (SetNO X.w s.heap.objs.size L), I.laid (t' := tk) kp (Nat.le_refl _) R.n0.ok, rfl, q _ L hn (fun p hp => e4 p (a1 p hp)) fun k => ⟨fun hk => ?_, fun hk => ?_⟩⟩
    · have : nk (eD k) ∈ L0.map (·.2) := by rw [e2]; exact List.mem_map.mpr ⟨k, hk, rfl⟩
      obtain ⟨p, hp, e⟩ := List.mem_map.mp this
      rw [← e]; exact a2 p hp
    · obtain ⟨p, hp, e⟩ := List.mem_map.mp hk
      have : p.2 ∈ L0.map (·.2) := List.mem_map.mpr ⟨p, a1 p hp, rfl⟩
      rw [e2] at this
      obtain ⟨k', hk', e'⟩ := List.mem_map.mp this
      rw [← eD_inj (e'.trans e)]
      exact hk'

/-- what the marked pairs at these places are -/
theorem ndAt_list {K : PySem.W.Frag} : ∀ {L : List KA}, NdAt K H L → ∃ ks : List Nd, L.map (·.2) = ks.map (fun k => nk (eD k)) ∧ DtAll K H (L.map fun p => V.ref p.1) (ks.map eD)
  | [], _ => ⟨[], rfl, .nil⟩
  | p :: L, h => by
    obtain ⟨k, e, d⟩ := h p List.mem_cons_self
    obtain ⟨ks, e2, d2⟩ := ndAt_list fun q hq => h q (List.mem_cons_of_mem _ hq)
    exact ⟨k :: ks, by rw [List.map_cons, List.map_cons, e, e2], .cons d d2⟩
/-- sorted(set) -/
def rSortedN (K : PySem.W.Frag) (w : World) : List V → Hp → VK → Prop := fun vs H Q => ∃ (a : Addr) (L : List KA), vs = [.ref a] ∧ H a = some (SetNO w a L) ∧ NdAt K H L ∧
  ∀ p ys (ks : List Nd), H p = none → DtAll K H ys (ks.map eD) → ks.Nodup → ks.length < 64 → (∀ k, k ∈ ks ↔ nk (eD k) ∈ L.map (·.2)) → Q (.ref p) (upd H p (.lst ys))
theorem perm_lift {α β : Type} (f : α → β) : ∀ (L : List α) {vs : List β}, vs.Perm (L.map f) → ∃ L1 : List α, L1.Perm L ∧ vs = L1.map f := by
  intro L vs h
  generalize hM : L.map f = M at h
  induction h generalizing L with
  | nil => exact ⟨L, .refl _, hM.symm⟩
  | @cons x l1 l2 _ ih =>
    cases L with
    | nil => simp at hM
    | cons a L =>
      simp only [List.map_cons, List.cons.injEq] at hM
      obtain ⟨L1, p, e⟩ := ih L hM.2
      exact ⟨a :: L1, p.cons _, by rw [List.map_cons, e, hM.1]⟩
  | swap x y l =>
    match L, hM with
    | a :: b :: L, hM =>
      simp only [List.map_cons, List.cons.injEq] at hM
      exact ⟨b :: a :: L, .swap _ _ _, by rw [List.map_cons, List.map_cons, hM.1, hM.2.1, hM.2.2]⟩
  | trans _ _ ih1 ih2 =>
    obtain ⟨L1, p1, e1⟩ := ih2 L hM
    obtain ⟨L2, p2, e2⟩ := ih1 L1 e1.symm
    exact ⟨L2, p2.trans p1, e2⟩
theorem dt_int3 (k : Nd) : ∃ x y : Int, eD k = .tuple [.int x, .int y, .bool k.2.2] := ⟨_, _, rfl⟩
theorem eD_alike (ks : List Nd) : PySem.W.AllAlike (ks.map eD) := by
  intro a ha b hb
  obtain ⟨x, _, rfl⟩ := List.mem_map.mp ha
  obtain ⟨y, _, rfl⟩ := List.mem_map.mp hb
  rfl
theorem eD_sortable (ks : List Nd) : PySem.W.Sortable (ks.map eD) := by
  refine .inl fun a ha => ?_
  obtain ⟨x, _, rfl⟩ := List.mem_map.mp ha
  exact ⟨_, _, rfl⟩
theorem eD_depth (k : Nd) : (eD k).depth ≤ 32 := by
  simp [eD, PyData.depth, PyData.depthAll]
theorem vals_of_dt {us : List Value} : ∀ {L : List KA}, Vals (L.map fun p => V.ref p.1) us → us = L.map fun p => Value.ref p.1
  | [], .nil => rfl
  | p :: L, .cons r t => by cases r; rw [vals_of_dt t]; rfl
theorem vals_dt : ∀ (L : List KA), Vals (L.map fun p => V.ref p.1) (L.map fun p => Value.ref p.1)
  | [] => .nil
  | p :: L => .cons rfl (vals_dt L)
end
mutual
theorem Dt.bare {K : PySem.W.Frag} {H : Hp} {h : Heap} : ∀ (d : PyData) (v : V) (u : Value) (as : List Addr), Dt K H v d → Reads h u d as → as = []
  | .none, _, _, _, _, r => by cases r; rfl
  | .bool _, _, _, _, _, r => by cases r; rfl
  | .int _, _, _, _, _, r => by cases r; rfl
  | .str _, _, _, _, _, r => by cases r; rfl
  | .tuple ds, _, _, _, h, r => by
    cases h with
    | tup _ ha =>
      cases r with
      | tuple _ _ _ q => exact DtAll.bare ds _ _ _ ha q
  | .list _, _, _, _, h, _ => by cases h
  | .dict _, _, _, _, h, _ => by cases h
theorem DtAll.bare {K : PySem.W.Frag} {H : Hp} {h : Heap} : ∀ (ds : List PyData) (vs : List V) (us : List Value) (as : List Addr), DtAll K H vs ds → ReadsAll h us ds as → as = []
  | [], _, _, _, _, r => by cases r; rfl
  | d :: ds, _, _, _, h, r => by
    cases h with
    | cons h1 h2 =>
      cases r with
      | cons r1 r2 => rw [Dt.bare d _ _ _ h1 r1, DtAll.bare ds _ _ _ h2 r2]; rfl
end
theorem zip_bare {X : Cx} {pins : List (Addr × Obj)} {σ : L2.St} {H : Hp} {s : Shared} (I : Inv X pins σ H s) : ∀ {xs : List V} {ds : List PyData} {us : List Value}, DtAll X.K H xs ds → Vals xs us → PySem.W.EachIs (fun (u : Value) (b : V × PyData) => Reads s.heap u b.2 []) us (xs.zip ds)
  | [], _, _, h, r => by cases h; cases r; exact .nil
  | x :: _, _, _, h, r => by
    cases h with
    | cons h1 h2 =>
      cases r with
      | cons r1 r2 =>
        obtain ⟨as, q⟩ := Dp.reads I _ _ _ h1.dp r1
        have := Dt.bare _ _ _ _ h1 q
        subst this
        exact .cons q (zip_bare I h2 r2)
section
variable {X : Cx}
theorem un_laid2 {fs ex : List Addr} {H : Hp} {h h' : Heap} {a : Addr} {o : HO} (k : ∀ b u, h.get? b = some u → h'.get? b = some u) (hp : h.get? a = none) (hn : H a = none) : Un fs ex H (upd H a o) h h' where
  keep := fun b u q _ _ _ => k b u q
  slot := fun b u q _ _ _ => ⟨u.slots, k b u q⟩
  free := fun b u q n _ => by rw [upd_ne (fun z => by rw [z, hp] at q; cases q)]; exact n
  there := fun b u q _ => ⟨u, k b u q⟩
  tups := fun b xs q => Same.new hn _ _ q
  frzs := fun b u xs q => Same.new hn _ _ q
  tbls := fun b ps q => ⟨#[], by rw [Same.new hn _ _ q]; simp⟩
theorem hok_laid2 {P : Program} {w : World} {H : Hp} {h h' : Heap} {a : Addr} {o : HO} (x : HOk P w H h) (k : ∀ b u, h.get? b = some u → h'.get? b = some u) (hn : H a = none) (new : ObjOk P w (upd H a o) h' a o) : HOk P w (upd H a o) h' := fun b u e => by
  by_cases hb : b = a
  · subst hb; rw [upd_same] at e; cases e; exact new
  · rw [upd_ne hb] at e
    exact (x b u e).stay (fun c v _ q => k c v q) (fun c q => Same.new hn _ _ q) fun c xs q => Same.new hn _ _ q
/-- sorted(what is collected so) -/
theorem sorted_of {pins : List (Addr × Obj)} {σ : L2.St} {H : Hp} {s : Shared} {a : Addr} {Q : VK} (I : Inv X pins σ H s) (hu : X.A.units + 64 < cLine)
    (col : ∀ (R : List Value → Shared → Prop), (∀ s1 us xs ds, (∀ b o, s.heap.get? b = some o → s1.heap.get? b = some o) → s1.gens = s.gens → s1.os = s.os →
      Vals xs us → DtAll X.K H xs ds → PySem.W.AllAlike ds → PySem.W.Sortable ds → (∀ d ∈ ds, d.depth ≤ 32) → ds.length ≤ sizeLine → (∀ p ys, H p = none → DtAll X.K H ys (ds.mergeSort dLe) → Q (.ref p) (upd H p (.lst ys))) → R us s1) →
      wpAny (model X.prog X.w) X.A.in1 (collect (.ref a)) R X.xe s) : wpAny (model X.prog X.w) X.A (call (.builtin "sorted") [.ref a]) (EP X pins σ Q) X.xe s := by
  refine Calls.call_function_entry kind_sorted plain_sorted entry_sorted (args_sorted1 _) ?_
  unfold Builtin.«sorted»; refine wpAny_bind (m := checkCount "sorted" 1 1 _) (wpAny_pure ?_)
  refine wpAny_bind (col _ fun s1 us xs ds k1 g1 o1 rv dk al so dp ln q => ?_)
  have lx : xs.length = ds.length := dk.length
  have lu : us.length = ds.length := by rw [← lx]; exact rv.length.symm
  refine wpAny_bind (wpAny_newList ?_ (by rw [lu]; exact ln))
  have hoL : (s1.heap.push (seqObj "list" us.toArray 0)).get? s1.heap.objs.size = some (seqObj "list" us.toArray 0) := Heap.get?_push_size _ rfl
  have em : (xs.zip ds).map Prod.snd = ds := zip_snd dk
  have rd2 : PySem.W.EachIs (fun (u : Value) (b : V × PyData) => ∃ as, Reads (s1.heap.push (seqObj "list" us.toArray 0)) u b.2 as ∧ s1.heap.objs.size ∉ as) us (xs.zip ds) :=
    (zip_bare I dk rv).mono fun u b r => ⟨[], PyProof.Rows.Reads.keeps (fun c o' e => Heap.get?_push_of_some _ (k1 c o' e)) r, fun hm => nomatch hm⟩
  have hlz : (xs.zip ds).length = ds.length := by rw [List.length_zip, lx]; omega
  have hg := PySem.W.list_sort_data (prog := X.prog) (w := X.w) (A := X.A.in1) (E := X.xe) (s := { s1 with heap := s1.heap.push (seqObj "list" us.toArray 0) }) (R := fun u (b : V × PyData) => RelV b.1 u) (enc := Prod.snd)
    (bs := xs.zip ds) hoL (zip_rel dk rv) rd2 (by rw [em]; exact al) (by rw [em]; exact so) (by rw [hlz]; exact ln) (fun b hb => by
      have := dp b.2 (by rw [← em]; exact List.mem_map.mpr ⟨b, hb, rfl⟩)
      show X.A.units + 1 + 1 + _ < _
      omega) (Q := fun _ s' => EP X pins σ Q (.ref s1.heap.objs.size) s') fun out ho2 e2 => ?_
  · exact wpAny_bind (wpAny_holding (wpAny_mono hg (fun _ s' x => wpAny_pure ⟨_, rfl, x⟩) fun _ _ e => e))
  · have hv := each_vals e2
    have psrt := List.mergeSort_perm (xs.zip ds) (PySem.W.dataLe false Prod.snd)
    have hd2 := dt_all_of _ fun b hb => zip_dt dk b (psrt.mem_iff.mp hb)
    have es : ((xs.zip ds).mergeSort (PySem.W.dataLe false Prod.snd)).map Prod.snd = ds.mergeSort dLe := by
      rw [PySem.W.sort_maps (r := PySem.W.dataLe false Prod.snd) (s := dLe) Prod.snd (fun a _ b _ => rfl), em]
    rw [es] at hd2
    have hlen : (((xs.zip ds).mergeSort (PySem.W.dataLe false Prod.snd)).map Prod.fst).length ≤ sizeLine := by rw [List.length_map, psrt.length_eq, hlz]; exact ln
    generalize ((xs.zip ds).mergeSort (PySem.W.dataLe false Prod.snd)).map Prod.fst = ys at hv hd2 hlen
    obtain ⟨ep', he'⟩ := sortedHeap_at (vs := us) (out := out.toArray) hoL
    have hp0 : s.heap.get? s1.heap.objs.size = none := by
      cases q0 : s.heap.get? s1.heap.objs.size with
      | none => rfl
      | some o => exact absurd (Heap.lt_size (k1 _ _ q0)) (Nat.lt_irrefl _)
    have hn : H s1.heap.objs.size = none := (I.hok.kept k1).fresh (Nat.le_refl _)
    have kp : ∀ b u, s.heap.get? b = some u → (sortedHeap (s1.heap.push (seqObj "list" us.toArray 0)) s1.heap.objs.size us out.toArray).get? b = some u := fun b u e => by
      have q1 := k1 b u e
      have hlt := Heap.lt_size q1
      rw [sortedHeap_old (Nat.ne_of_lt hlt) (by rw [size_push']; exact Nat.lt_succ_of_lt hlt)]
      exact Heap.get?_push_of_some _ q1
    have J : Inv X pins σ (upd H s1.heap.objs.size (.lst ys)) { s with heap := sortedHeap (s1.heap.push (seqObj "list" us.toArray 0)) s1.heap.objs.size us out.toArray, gens := s1.gens, drawn := s1.drawn, toks := s1.toks } :=
      I.call (ch := []) (un_laid2 kp hp0 hn) (hok_laid2 I.hok kp hn ⟨hlen, out, ep', hv, he'⟩) (by rw [g1]; exact I.bare) (fun _ z => nomatch z)
    have e : ({ s1 with heap := sortedHeap (s1.heap.push (seqObj "list" us.toArray 0)) s1.heap.objs.size us out.toArray } : Shared) = { s with heap := sortedHeap (s1.heap.push (seqObj "list" us.toArray 0)) s1.heap.objs.size us out.toArray, gens := s1.gens, drawn := s1.drawn, toks := s1.toks } := by
      cases s1; cases s; cases o1; rfl
    show EP X pins σ Q (.ref s1.heap.objs.size) _
    rw [e]
    exact ⟨.ref s1.heap.objs.size, _, J, rfl, q _ _ hn hd2⟩
theorem cr_sortedN (hc : X.calm = true) (hu : X.A.units + 64 < cLine) : CallR X (.builtin "sorted") (rSortedN X.K X.w) := by
  intro pins s σ H vs us Q I r h
  obtain ⟨a, L, rfl, ha, hL, q⟩ := h
  obtain rfl := Vals.ref1 r
  obtain ⟨es, ep, t, ⟨o, ho, hex, hd⟩, hrows, htab, hnd, hpl, hled, hroom, hfew⟩ := (show SetN0 X.w s.heap a L from (I.hok a _ ha).1)
  have hsz : es.size = L.length := rows_size hrows
  have hps : t.place.size = es.size := by have := htab.sz; rw [List.length_map] at this; rw [this, hsz]
  refine sorted_of I hu fun R hR => collect_set (A := X.A.in1) (I.ok.hd hc) ⟨o, ho, hex.1, hd⟩ (fits_of hps htab.dm (by omega)) (by unfold scanBound; omega) htab.ris hled fun s1 vs1 k1 hz g1 o1 pm => ?_
  have pm2 : vs1.Perm (L.map fun p => Value.ref p.1) := by
    rw [hrows, List.map_map] at pm
    exact pm
  obtain ⟨L1, pL, rfl⟩ := perm_lift _ L pm2
  obtain ⟨ks, ek, dk⟩ := ndAt_list fun p hp => hL p (pL.mem_iff.mp hp)
  have lk : ks.length = L.length := by
    have := congrArg List.length ek
    rw [List.length_map, List.length_map] at this
    rw [← this, pL.length_eq]
  have nk1 : (ks.map fun k => nk (eD k)).Nodup := by rw [← ek]; exact (pL.map (·.2)).nodup_iff.mpr hnd
  have nks : ks.Nodup := List.Pairwise.of_map (fun k => nk (eD k)) (fun a b hne e => hne (congrArg (fun k => nk (eD k)) e)) nk1
  refine hR s1 _ _ _ k1 g1 o1 (vals_dt L1) dk (eD_alike ks) (eD_sortable ks) (fun d hd => by obtain ⟨k, _, rfl⟩ := List.mem_map.mp hd; exact eD_depth k) (by rw [List.length_map, sizeLine_eq]; omega) fun p ys hp hy => ?_
  obtain ⟨ks', pk, ek'⟩ := perm_lift eD ks (List.mergeSort_perm (ks.map eD) dLe)
  rw [ek'] at hy
  refine q p ys ks' hp hy (pk.nodup_iff.mpr nks) (by rw [pk.length_eq]; omega) fun k => ?_
  rw [pk.mem_iff, ← (pL.map (·.2)).mem_iff, ek]
  constructor
  · exact fun hk => List.mem_map.mpr ⟨k, hk, rfl⟩
  · intro hk
    obtain ⟨k', hk', e'⟩ := List.mem_map.mp hk
    rw [← eD_inj e']; exact hk'

/-! ### dicts with tuple keys: their keys, listed and sorted -/
section
variable {κ : Type} [DecidableEq κ] {E : Enc κ}
theorem nde_refs {K : PySem.W.Frag} {H : Hp} : ∀ {kvs : List (κ × V)} {xs : List (NestedKey × Addr × Value)}, Paired (NDe K H E) kvs xs → DtAll K H (xs.map fun x => V.ref x.2.1) (kvs.map fun p => E.e p.1)
  | _, _, .nil => .nil
  | _, _, .cons h t => .cons h.2.1 (nde_refs t)
theorem vals_xs : ∀ (xs : List (NestedKey × Addr × Value)), Vals (xs.map fun x => V.ref x.2.1) (xs.map fun x => Value.ref x.2.1)
  | [] => .nil
  | x :: xs => .cons rfl (vals_xs xs)
theorem items_keys {n : Nat} {w : World} {es : Array DictEntry} {xs : List (NestedKey × Addr × Value)} {acc : Array Value} (he : es.toList = xs.map (entN w)) (hn : n = es.size) (it : ItemsOf (fun i v => ∃ en : DictEntry, es[i]? = some en ∧ v = en.key) acc n) :
    acc.toList = xs.map fun x => Value.ref x.2.1 := by
  have l1 : es.size = xs.length := by have := congrArg List.length he; rwa [Array.length_toList, List.length_map] at this
  apply List.ext_getElem?
  intro j
  rw [List.getElem?_map]
  by_cases hj : j < xs.length
  · have ha : j < acc.toList.length := by rw [Array.length_toList, it.1, hn, l1]; exact hj
    obtain ⟨en, e1, e2⟩ := it.2 j acc.toList[j] (by rw [← Array.getElem?_toList]; exact List.getElem?_eq_getElem ha)
    rw [← Array.getElem?_toList, he, List.getElem?_map, List.getElem?_eq_getElem hj] at e1
    rw [List.getElem?_eq_getElem ha, e2, List.getElem?_eq_getElem hj, ← Option.some.inj e1]; rfl
  · rw [List.getElem?_eq_none (by rw [Array.length_toList, it.1, hn, l1]; omega), List.getElem?_eq_none (by omega)]; rfl
def rNdSorted (w : World) (K : PySem.W.Frag) (E : Enc κ) : List V → Hp → VK → Prop := fun vs H Q => ∃ (d : Addr) (kvs : List (κ × V)), vs = [.ref d] ∧ ND w K H E d kvs ∧
  PySem.W.AllAlike (kvs.map fun p => E.e p.1) ∧ PySem.W.Sortable (kvs.map fun p => E.e p.1) ∧ (∀ d ∈ kvs.map (fun p => E.e p.1), d.depth ≤ 32) ∧
  ∀ p ys, H p = none → DtAll K H ys ((kvs.map fun p => E.e p.1).mergeSort dLe) → Q (.ref p) (upd H p (.lst ys))
theorem cr_ndSorted (hc : X.calm = true) (hu : X.A.units + 64 < cLine) (E : Enc κ) : CallR X (.builtin "sorted") (rNdSorted X.w X.K E) := by
  intro pins s σ H vs us Q I r h
  obtain ⟨d, kvs, rfl, ⟨xs, ep, h1, h2, h3, h4, h5⟩, al, so, dp, q⟩ := h
  obtain rfl := Vals.ref1 r
  obtain ⟨o, es, e1, e2, e3, e4⟩ := (I.hok d _ h1).1
  have l2 : kvs.length = xs.length := Paired.length h4
  have l1 : es.size = xs.length := by have := congrArg List.length e4; rwa [Array.length_toList, List.length_map] at this
  refine sorted_of I hu fun R hR => PySem.W.kdu_collect (A := X.A.in1) (kdl_raw h2 e2 e3) (I.ok.hd hc) e1 (by omega) fun h' tk acc kp it => ?_
  rw [items_keys e4 rfl it]
  exact hR { s with heap := h', toks := tk } _ _ _ kp rfl rfl (vals_xs xs) (nde_refs h4) al so dp (by rw [List.length_map]; exact h3) q
def rNdList (w : World) (K : PySem.W.Frag) (E : Enc κ) : List V → Hp → VK → Prop := fun vs H Q => ∃ (d : Addr) (kvs : List (κ × V)), vs = [.ref d] ∧ ND w K H E d kvs ∧
  ∀ p ys, H p = none → DtAll K H ys (kvs.map fun p => E.e p.1) → Q (.ref p) (upd H p (.lst ys))
theorem cr_ndList (hc : X.calm = true) (E : Enc κ) : CallR X (.type "list") (rNdList X.w X.K E) := by
  intro pins s σ H vs us Q I r h
  obtain ⟨d, kvs, rfl, ⟨xs, ep, h1, h2, h3, h4, h5⟩, q⟩ := h
  obtain rfl := Vals.ref1 r
  obtain ⟨o, es, e1, e2, e3, e4⟩ := (I.hok d _ h1).1
  have l2 : kvs.length = xs.length := Paired.length h4
  have l1 : es.size = xs.length := by have := congrArg List.length e4; rwa [Array.length_toList, List.length_map] at this
  refine PySem.W.kdl_call (kdl_raw h2 e2 e3) (I.ok.hd hc) e1 (by omega) fun h' tk acc c kp e it => ?_
  have ea := items_keys e4 rfl it
  refine ⟨.ref s.heap.objs.size, _, I.laid (t' := tk) (o := .lst (xs.map fun x => V.ref x.2.1)) kp (Nat.le_refl _) ⟨by rw [List.length_map]; omega, acc.toList, c, by rw [ea]; exact vals_xs xs, by rw [Array.toArray_toList]; exact e⟩, rfl, q _ _ (I.hok.fresh (Nat.le_refl _)) (nde_refs h4)⟩
def rNdLen (w : World) (K : PySem.W.Frag) (E : Enc κ) : List V → Hp → VK → Prop := fun vs H Q => ∃ (d : Addr) (kvs : List (κ × V)), vs = [.ref d] ∧ ND w K H E d kvs ∧ Q (.int (kvs.length : Nat)) H
theorem cr_ndLen (E : Enc κ) : CallR X (.builtin "len") (rNdLen X.w X.K E) := by
  intro pins s σ H vs us Q I r h
  obtain ⟨d, kvs, rfl, ⟨xs, ep, h1, h2, h3, h4, h5⟩, q⟩ := h
  obtain rfl := Vals.ref1 r
  have l2 : kvs.length = xs.length := Paired.length h4
  refine call_len_dictH h2 (ND.raw I h1 h4 h5) (by rw [sizeLine_eq] at h3; omega) ⟨.int (kvs.length : Nat), H, ?_, ⟨_, by rw [l2]⟩, q⟩
  exact I.tok _
end
end
end K39
end Text_K39U

section Text_K39V
set_option Elab.async false set_option linter.all false set_option maxRecDepth 100000 set_option maxHeartbeats 4000000
/-! Dicts with tuple keys: walked, get, update, dict(pairs), == {}; sets of whole numbers and of texts. -/
namespace K39
open PySem PySem.Spec PyProof.Rows L2

section
variable {X : Cx} {κ : Type} [DecidableEq κ] {E : Enc κ}

/-! ### for k in d -/
def Itn (w : World) (d : Addr) (xs : List (NestedKey × Addr × Value)) (ep : Nat) : It :=
  ⟨fun i H => H d = some (NDo w d xs ep) ∧ i < xs.length, fun i H v H' => H' = H ∧ ∃ x, xs[i]? = some x ∧ v = .ref x.2.1, fun i H => H d = some (NDo w d xs ep) ∧ xs.length ≤ i⟩
theorem turn_nd {P : Program} {K : PySem.W.Frag} {w : World} {tg : Expr} {d : Addr} {xs : List (NestedKey × Addr × Value)} {ep : Nat} (it : Addr) (hd : (d == sysModules) = false) :
    Turn P w K tg (Itn w d xs ep) [it] it (fun i h => h.IsKeyIter it d i xs.length ep) where
  mem := by simp
  obj := fun i h st b hb => by
    obtain rfl : b = it := by simpa using hb
    obtain ⟨oi, e, c, dd⟩ := st
    exact ⟨oi, e, fun v z => by rw [dd] at z; cases z⟩
  keep := fun i h h' st k => st.at fun oi e => k it (by simp) oi e
  item := by
    intro X hP hw hK hc i pins s σ H E I hf st hg
    subst hP hw hK
    obtain ⟨hd1, hi⟩ := hg
    obtain ⟨f0, f1, f2, f3, f4, f5⟩ := hf it (by simp)
    obtain ⟨o, es, e1, e2, e3, e4⟩ := (I.hok d _ hd1).1
    have hx : xs[i]? = some xs[i] := List.getElem?_eq_getElem hi
    have hen : es[i]? = some (entN X.w xs[i]) := by rw [← Array.getElem?_toList, e4, List.getElem?_map, hx]; rfl
    have hsz : es.size = xs.length := by have := congrArg List.length e4; rwa [Array.length_toList, List.length_map] at this
    refine next_key_item st e1 e3 hsz hen fun h' st' sb => ?_
    have I1 : Inv X pins σ H { s with heap := h' } := I.turned (t' := s.toks) (fun b ob hb e => (sb.2 b hb).trans e) f0 f1 f3 f4 f5
    obtain ⟨oi, e, c, dd⟩ := id st'
    exact ⟨.ref xs[i].2.1, rfl, go_of (s := { s with heap := h' }) e c dd (by decide) ⟨.ref xs[i].2.1, H, I1, rfl, ⟨rfl, _, hx, rfl⟩, st', fun b hb => (hf b hb).1⟩⟩
  done := by
    intro X hP hw hK hc i pins s σ H E I hf st hg
    subst hP hw hK
    obtain ⟨hd1, hi⟩ := hg
    obtain ⟨f0, f1, f2, f3, f4, f5⟩ := hf it (by simp)
    obtain ⟨o, es, e1, e2, e3, e4⟩ := (I.hok d _ hd1).1
    have hsz : es.size = xs.length := by have := congrArg List.length e4; rwa [Array.length_toList, List.length_map] at this
    exact next_key_end (I.ok.hd hc) st e1 e3 hsz hi fun h' eb => ⟨rfl, I.turned (t' := s.toks) (fun b ob hb e => eb b ob hb e) f0 f1 f3 f4 f5⟩
  self := fun A i s Q E st h => wpAny_pyIter_keyiter st h
/-- the walk over d's keys: the i-th key stands at a place of its own -/
def iNd (w : World) (K : PySem.W.Frag) (E : Enc κ) (td : TE) : TI := fun σ H R => td σ H fun v H1 => ∃ d kvs, v = .ref d ∧ ND w K H1 E d kvs ∧
  ∀ (J : It) (xs : List (NestedKey × Addr × Value)) (ep : Nat), Walk J kvs.length (fun H => H d = some (NDo w d xs ep)) (YAt (xs.map fun x => V.ref x.2.1)) → H1 d = some (NDo w d xs ep) →
    DtAll K H1 (xs.map fun x => V.ref x.2.1) (kvs.map fun p => E.e p.1) → R J H1
theorem pi_nd {tg e : Expr} {td : TE} (E : Enc κ) (he : PE X e td) : PI X tg e (iNd X.w X.K E td) := by
  refine ⟨fun pins s σ H R I h => ?_⟩
  refine thn (he.run pins s σ H _ I h) fun u s1 ⟨v, H1, I1, rx, d, kvs, ex, ⟨xs, ep, h1, h2, h3, h4, h5⟩, q⟩ => ?_
  subst ex
  obtain rfl : u = Value.ref d := rx
  obtain ⟨o, es, e1, e2, e3, e4⟩ := (I1.hok d _ h1).1
  have hl : kvs.length = xs.length := Paired.length h4
  have hsz : es.size = xs.length := by have := congrArg List.length e4; rwa [Array.length_toList, List.length_map] at this
  refine iter_keys h2 e1 e2 e3 (pi_one (tk := s1.toks) I1 _ (turn_nd (xs := xs) (ep := ep) _ h2) ⟨_, Heap.get?_push_size _ rfl, rfl, ?_⟩ (q (Itn X.w d xs ep) xs ep ⟨fun i H hi hg => ⟨hg, by omega⟩, fun H hg => ⟨hg, by omega⟩, fun i H x H' hi hg y => ⟨y.1, ?_⟩⟩ h1 (nde_refs h4)))
  · rw [hsz]; rfl
  · obtain ⟨_, z, hz, rfl⟩ := y
    rw [List.getElem?_map, hz]; rfl

/-! ### d.get(k, x) -/
def tNdGetD (w : World) (K : PySem.W.Frag) (E : Enc κ) (td ty tx : TE) : TE := fun σ H Q => td σ H fun x H1 => ∃ d, x = .ref d ∧ (∃ kvs, ND w K H1 E d kvs) ∧ ty σ H1 fun y H2 => tx σ H2 fun z H3 => ∃ k kvs, Dt K H3 y (E.e k) ∧ ND w K H3 E d kvs ∧ Q ((valV kvs k).getD z) H3
theorem nd_dict {pins : List (Addr × Obj)} {σ : L2.St} {H : Hp} {s : Shared} {d : Addr} {kvs : List (κ × V)} (I : Inv X pins σ H s) (h : ND X.w X.K H E d kvs) : s.TypeIs (.ref d) "dict" ∧ ∀ b, Value.ref d = .ref b → ∃ ob, s.heap.get? b = some ob ∧ ob.dict = none := by
  obtain ⟨xs, ep, h1, h2, h3, h4, h5⟩ := h
  obtain ⟨o, es, e1, e2, e3, e4⟩ := (I.hok d _ h1).1
  exact ⟨⟨o, e1, e2.1⟩, fun b z => by cases z; exact ⟨o, e1, e2.2.1⟩⟩
theorem pe_ndGetD {o e f : Expr} {apos cpos : Pos} {td ty tx : TE} (hu : X.A.units + 64 < cLine) (E : Enc κ) (ho : PE X o td) (he : PE X e ty) (hf : PE X f tx) (m : M2 X o "get" apos e f cpos) : PE X (.Call (.Attribute o "get" apos) [e, f] [] cpos) (tNdGetD X.w X.K E td ty tx) := by
  refine ⟨fun pins s σ H Q I h => ?_⟩
  refine wpAny_Call_method m.base m.few m.line PySem.F.plainAttrs_dict PySem.F.slot_dict_get PySem.F.type_dict_get (thn (ho.run pins s σ H _ I h) fun u s1 ⟨x, H1, I1, rx, d, ex, ⟨kv0, n0⟩, q1⟩ => ?_)
  subst ex
  obtain rfl : u = Value.ref d := rx
  obtain ⟨t1, t2⟩ := nd_dict I1 n0
  refine ⟨t1, t2, ?_⟩
  rw [m.trees]; refine Calls.callWith_builtin rfl (Calls.evalArgs_plain (Calls.spliced_cons (thn (he.run pins s1 σ H1 _ I1 q1) fun iv s2 ⟨y, H2, I2, ry, q2⟩ =>
    Calls.spliced_cons (thn (hf.run pins s2 σ H2 _ I2 q2) fun fv s3 ⟨z, H3, I3, rz, k, kvs, hk, ⟨xs, ep, h1, h2, h3, h4, h5⟩, q3⟩ => Calls.spliced_nil ?_))))
  obtain ⟨a, rfl⟩ := hk.ref
  obtain rfl : iv = Value.ref a := ry
  have r := ND.raw I3 h1 h4 h5
  refine call_meetsIn PySem.F.slot_dict_get r.typeIs PySem.F.entry_dict_get (PySem.F.args_dict_get_3 _ _ _) (meetsH_dict_get_default (nestedKind X.prog X.w) d a h2 fv) ⟨by show X.A.units + 1 + 8 < cLine; omega, _, xs, Dt.key I3 hk, r, ?_⟩
  have lo := NDe.look h4 k
  refine ⟨(valV kvs k).getD z, H3, I3.tok _, ?_, q3⟩
  exact lo.getD rz

/-! ### many stores -/
def putAll (kvs more : List (κ × V)) : List (κ × V) := more.foldl (fun acc p => putK acc p.1 p.2) kvs
theorem putAll_len : ∀ (more kvs : List (κ × V)), (putAll kvs more).length ≤ kvs.length + more.length
  | [], kvs => by simp [putAll]
  | p :: more, kvs => by
    have h1 := putAll_len more (putK kvs p.1 p.2)
    have h2 := length_putK kvs p.1 p.2
    rw [List.length_cons]
    show (putAll (putK kvs p.1 p.2) more).length ≤ _
    omega
theorem putAll_nodup : ∀ (more : List (κ × V)) {kvs : List (κ × V)}, (kvs.map (·.1)).Nodup → ((putAll kvs more).map (·.1)).Nodup
  | [], _, h => h
  | p :: more, kvs, h => putAll_nodup more (nodup_put h)
theorem NDe.putAll {K : PySem.W.Frag} {H : Hp} : ∀ {more : List (κ × V)} {ys : List (NestedKey × Addr × Value)}, Paired (NDe K H E) more ys → ∀ {kvs : List (κ × V)} {xs : List (NestedKey × Addr × Value)}, Paired (NDe K H E) kvs xs → Paired (NDe K H E) (putAll kvs more) (storedAllH xs ys)
  | _, _, .nil, _, _, h => h
  | _, _, .cons (a := p) (b := y) q t, kvs, xs, h => by
    have h2 : Paired (NDe K H E) (putK kvs p.1 p.2) (storedH xs y.1 y.2.1 y.2.2) := by
      rw [q.1]; exact NDe.put h q.2.1 q.2.2
    exact NDe.putAll t h2

/-! ### d.update(d2) -/
def tNdUpd (w : World) (K : PySem.W.Frag) (E : Enc κ) (td ty : TE) : TE := fun σ H Q => td σ H fun x H1 => ∃ d, x = .ref d ∧ (∃ kvs, ND w K H1 E d kvs) ∧ ty σ H1 fun y H2 => ∃ kvs o more, ND w K H2 E d kvs ∧ y = .ref o ∧ ND w K H2 E o more ∧ d ≠ o ∧
  (kvs ≠ [] ∨ more = []) ∧ kvs.length + more.length ≤ sizeLine ∧ ∀ o', ND w K (upd H2 d o') E d (putAll kvs more) → Q .non (upd H2 d o')
theorem pe_ndUpd {o e : Expr} {apos cpos : Pos} {td ty : TE} (hu : X.A.units + 64 < cLine) (E : Enc κ) (ho : PE X o td) (he : PE X e ty) (m : M1 X o "update" apos e cpos) : PE X (.Call (.Attribute o "update" apos) [e] [] cpos) (tNdUpd X.w X.K E td ty) := by
  refine ⟨fun pins s σ H Q I h => ?_⟩
  refine wpAny_Call_method m.base m.few m.line PySem.F.plainAttrs_dict PySem.F.slot_dict_update PySem.F.type_dict_update (thn (ho.run pins s σ H _ I h) fun u s1 ⟨x, H1, I1, rx, d, ex, ⟨kv0, n0⟩, q1⟩ => ?_)
  subst ex
  obtain rfl : u = Value.ref d := rx
  obtain ⟨t1, t2⟩ := nd_dict I1 n0
  refine ⟨t1, t2, ?_⟩
  rw [m.trees]; refine Calls.callWith_builtin rfl (Calls.evalArgs_plain (Calls.spliced_cons (thn (he.run pins s1 σ H1 _ I1 q1) fun iv s2 ⟨y, H2, I2, ry, kvs, o, more, N, ey, ⟨ys, ep', g1, g2, g3, g4, g5⟩, hne, hap, hz, q2⟩ => Calls.spliced_nil ?_)))
  subst ey
  obtain rfl : iv = Value.ref o := ry
  obtain ⟨xs, ep, h1, h2, h3, h4, h5⟩ := id N
  have l1 : kvs.length = xs.length := Paired.length h4
  have l2 : more.length = ys.length := Paired.length g4
  refine call_update_dictH (knd := nestedKind X.prog X.w) (by show X.A.units + 1 + 8 < cLine; omega) hne g2 (ND.raw I2 h1 h4 h5) (ND.raw I2 g1 g4 g5) ?_ (by rw [← l1, ← l2]; exact hz) fun h' hm' _ hs => ?_
  · rcases hap with z | z
    · left; intro e; rw [e] at l1; exact z (List.eq_nil_of_length_eq_zero l1)
    · right
      have : ys = [] := List.eq_nil_of_length_eq_zero (by rw [← l2, z]; rfl)
      rw [this]; exact ⟨(fun x hx => nomatch hx), List.nodup_nil⟩
  · obtain ⟨ob, es, ep2, e1, e2, e3, e4, _, _⟩ := id hm'
    have ok2 : ObjOk X.prog X.w (upd H2 d (NDo X.w d (storedAllH xs ys) ep2)) h' d (NDo X.w d (storedAllH xs ys) ep2) := ⟨⟨ob, es, e1, e2, e3, e4⟩, ⟨ob, e1⟩, fun h1 h2 ⟨o, es, a, b⟩ k => ⟨o, es, k _ a, b⟩⟩
    have t : TLe H2 (upd H2 d (NDo X.w d (storedAllH xs ys) ep2)) := N.tle
    refine ⟨.non, _, d_write (t' := s2.toks) I2 (by rw [h1]; exact True.intro) hs ⟨_, e1⟩ ok2, rfl, q2 _ ⟨_, ep2, upd_same, h2, ?_, Paired.mono (fun p x z => ⟨z.1, z.2.1.to t, z.2.2⟩) (NDe.putAll g4 h4), putAll_nodup _ h5⟩⟩
    have := putAll_len more kvs
    omega

/-! ### dict([(k, v), ..]) -/
def PairAts (K : PySem.W.Frag) (H : Hp) (E : Enc κ) (p : Addr) (kv : κ × V) : Prop := ∃ a, SqT K H p [.ref a, kv.2] ∧ Dt K H (.ref a) (E.e kv.1)
def rNdOf (w : World) (K : PySem.W.Frag) (E : Enc κ) : List V → Hp → VK → Prop := fun vs H Q => ∃ (a : Addr) (ps : List Addr) (kvs : List (κ × V)), vs = [.ref a] ∧ SqL K H a (ps.map V.ref) ∧ Paired (PairAts K H E) ps kvs ∧
  ∀ p o, H p = none → ND w K (upd H p o) E p (putAll [] kvs) → Q (.ref p) (upd H p o)
theorem pairAts_of {pins : List (Addr × Obj)} {σ : L2.St} {H : Hp} {s : Shared} (I : Inv X pins σ H s) : ∀ {ps : List Addr} {kvs : List (κ × V)}, Paired (PairAts X.K H E) ps kvs →
    ∃ xs : List (NestedKey × Addr × Value), Paired (NDe X.K H E) kvs xs ∧ xs.length = ps.length ∧ (∀ (j : Nat) (x : NestedKey × Addr × Value), xs[j]? = some x → ∃ p, ps[j]? = some p ∧ PairAt s.heap p (.ref x.2.1) x.2.2) ∧ ∀ x ∈ xs, NestedIs s.heap x.1 (.ref x.2.1) ∧ x.1.depth ≤ 8
  | _, _, .nil => ⟨[], .nil, rfl, (fun j x e => by simp at e), fun x hx => nomatch hx⟩
  | _, _, .cons (a := p) (b := kv) ⟨a, ht, hk⟩ t => by
    obtain ⟨xs, pr, hl, hp, hn⟩ := pairAts_of I t
    obtain ⟨its, rv, ⟨o, ho, hc, n, hd⟩, _⟩ := I.tuple ht
    obtain ⟨u, y, ei, ru, ry⟩ := vals2 rv
    subst ei
    obtain rfl : u = Value.ref a := ru
    have kk := Dt.key I hk
    refine ⟨(nk (E.e kv.1), a, y) :: xs, .cons ⟨rfl, hk, ry⟩ pr, by rw [List.length_cons, List.length_cons, hl], fun j x e => ?_, fun x hx => ?_⟩
    · cases j with
      | zero =>
        obtain rfl := Option.some.inj e
        exact ⟨p, rfl, .inl ⟨o, ho, hc, n, hd⟩⟩
      | succ j =>
        obtain ⟨b, e1, e2⟩ := hp j x (by simpa using e)
        exact ⟨b, by simpa using e1, e2⟩
    · rcases List.mem_cons.mp hx with e | hx
      · rw [e]; exact kk
      · exact hn x hx
theorem cr_ndOf (hc : X.calm = true) (hu : X.A.units + 64 < cLine) (E : Enc κ) : CallR X (.type "dict") (rNdOf X.w X.K E) := by
  intro pins s σ H vs us Q I r h
  obtain ⟨a, ps, kvs, rfl, hq, hp, q⟩ := h
  obtain rfl := Vals.ref1 r
  obtain ⟨its, rv, pl, hz⟩ := I.list hq
  have ei := refs_at rv
  subst ei
  rw [List.length_map] at hz
  obtain ⟨xs, pr, hl, hpr, hks⟩ := pairAts_of I hp
  have hlk : kvs.length = xs.length := Paired.length pr
  obtain ⟨o, n, ho, hcl, hdi, hdat⟩ := pl
  let prs : List (Value × Value) := xs.map fun x => (.ref x.2.1, x.2.2)
  have lp : prs.length = ps.length := by rw [List.length_map, hl]
  have items : PairItems s.heap (ps.map Value.ref).toArray (fun j => ps.getD j 0) prs := by
    refine ⟨by rw [List.size_toArray, List.length_map, lp], fun j k v hj => ?_⟩
    rw [List.getElem?_map] at hj
    obtain ⟨x, hx, ex⟩ := Option.map_eq_some_iff.mp hj
    obtain ⟨p, e1, e2⟩ := hpr j x hx
    cases ex
    refine ⟨by rw [List.getElem?_toArray, List.getElem?_map, e1]; simp [e1], ?_⟩
    show PairAt s.heap (ps.getD j 0) _ _
    rw [show ps.getD j 0 = p by simp [e1]]
    exact e2
  refine call_dict_pairsH (knd := nestedKind X.prog X.w) (ps := xs) (PairArg.list a (ps.map Value.ref).toArray (fun j => ps.getD j 0) prs) (I.ok.hd hc) (by show X.A.units + 1 + 1 + 8 < cLine; omega) ⟨⟨o, n, ho, hcl, hdi, hdat⟩, items⟩ ⟨by rw [lp, hl], fun i key v e => ?_⟩ (fun h' k x hx => ?_) (by rw [lp]; exact hz) fun h' tk hm' k => ?_
  · rw [show PairRel prs i key v = (prs[i]? = some (key, v)) from rfl, List.getElem?_map] at e
    obtain ⟨x, hx, ex⟩ := Option.map_eq_some_iff.mp e
    cases ex
    exact ⟨x.1, x.2.1, hx, rfl⟩
  · have hs := hks x hx
    refine ⟨NestedIs.at (fun b ob vs n hb _ => k b ob (Nat.ne_of_lt (Heap.lt_size hb)) (by simp) hb) _ _ hs.1, hs.2⟩
  · obtain ⟨ob, es, ep2, e1, e2, e3, e4, _, _⟩ := id hm'
    have hn : H s.heap.objs.size = none := I.hok.fresh (Nat.le_refl _)
    have ne : (s.heap.objs.size == sysModules) = false := beq_eq_false_iff_ne.mpr (Ne.symm (Nat.ne_of_lt I.big))
    have ok2 : ObjOk X.prog X.w (upd H s.heap.objs.size (NDo X.w s.heap.objs.size (storedAllH [] xs) ep2)) h' s.heap.objs.size (NDo X.w s.heap.objs.size (storedAllH [] xs) ep2) := ⟨⟨ob, es, e1, e2, e3, e4⟩, ⟨ob, e1⟩, fun h1 h2 ⟨o, es, a, b⟩ k => ⟨o, es, k _ a, b⟩⟩
    refine ⟨.ref s.heap.objs.size, _, I.laid (t' := tk) (fun b u e => k b u (by simp) e) (Nat.le_refl _) ok2, rfl, q _ _ hn ⟨_, ep2, upd_same, ne, ?_, Paired.mono (fun p x z => ⟨z.1, z.2.1.to (TLe.new hn), z.2.2⟩) (NDe.putAll pr .nil), putAll_nodup _ List.nodup_nil⟩⟩
    have := putAll_len kvs []
    rw [List.length_nil] at this
    omega

/-! ### d == {} -/
theorem same_sizes {P : Program} {w : World} {A : Around} {E : Value → Shared → Prop} {s : Shared} {nm : String} {a b : Addr} {oa ob : Obj} {es es' : Array DictEntry} {ep ep' : Nat} {Q : Bool → Shared → Prop} (ha : (a == sysModules) = false) (hb : (b == sysModules) = false)
    (ga : s.heap.get? a = some oa) (gb : s.heap.get? b = some ob) (da : oa.data = .dict es ep) (db : ob.data = .dict es' ep') (hz : es'.size = 0) (h : Q (decide (es.size = 0)) s) : wpAny (model P w) A (Builtin.Dict.samePairs nm a b) Q E s := by
  unfold Builtin.Dict.samePairs Builtin.Dict.showsAll
  rw [if_neg (show ¬ (a == sysModules) = true by rw [ha]; exact Bool.false_ne_true), if_neg (show ¬ (b == sysModules) = true by rw [hb]; exact Bool.false_ne_true)]
  refine wpAny_bind (wpAny_pure (wpAny_bind (wpAny_pure (wpAny_bind (wpAny_dictEntries ga da ?_)))))
  dsimp only
  refine wpAny_bind (wpAny_dictEntries gb db ?_)
  by_cases hsz : es.size = es'.size
  · have h0 : es.size = 0 := hsz.trans hz
    rw [if_neg (by rw [hsz]; simp)]
    refine wpAny_bind (wpAny_dictEpoch ga da (wpAny_bind ?_))
    rw [Std.Legacy.Range.forIn_eq_forIn_range']; simp only [Std.Legacy.Range.size, Nat.sub_zero, Nat.add_sub_cancel, Nat.div_one]
    rw [h0]
    refine wpAny_pure (wpAny_pure ?_)
    simpa [h0] using h
  · rw [if_pos (by simpa using hsz)]
    rw [decide_eq_false (by omega)] at h
    exact wpAny_bind (wpAny_rule (wpAny_pure h))
/-- d == {} -/
def rNdEq0 (w : World) (K : PySem.W.Frag) (E : Enc κ) : R2 := fun x y H Q => ∃ d kvs b o, x = .ref d ∧ ND w K H E d kvs ∧ y = .ref b ∧ H b = some o ∧ o = .dK [] ∧ b ≠ d ∧ Q (.bl kvs.isEmpty) H
theorem op_ndEq0 (hu : X.A.units + 64 < cLine) (E : Enc κ) : OpR X (compareOp .Eq) (rNdEq0 X.w X.K E) := by
  intro pins s σ H x y v u Q I rx ry h
  obtain ⟨d, kvs, b, ho, rfl, N, rfl, hb, rfl, hne, q⟩ := h
  obtain ⟨xs, ep, h1, h2, h3, h4, h5⟩ := id N
  obtain rfl : v = Value.ref d := rx
  obtain rfl : u = Value.ref b := ry
  obtain ⟨o, es, e1, e2, e3, e4⟩ := (I.hok d _ h1).1
  obtain ⟨z, hs, vs, rel, dd⟩ := dk_rd I.hok (.inl hb : Rd H b (.dK []))
  cases rel
  obtain ⟨ob, es', ep', g1, g2, g3, g4⟩ := id dd
  have hz : es'.size = 0 := by
    have := g4.2.1.length
    simpa using this
  have hl : kvs.length = xs.length := Paired.length h4
  have hsz : es.size = xs.length := by have := congrArg List.length e4; rwa [Array.length_toList, List.length_map] at this
  have td : s.TypeIs (.ref d) "dict" := ⟨o, e1, e2.1⟩
  have tb : s.TypeIs (.ref b) "dict" := ⟨ob, g1, g2.1⟩
  refine wpAny_richCompare_same_room (op := .Eq) td tb PySem.F.slot_dict_eq (wpAny_call_entry PySem.F.slot_dict_eq td PySem.F.entry_dict_eq ?_ (PySem.F.args_dict_eq_2 _ _)) (by omega)
  show wpAny (model X.prog X.w) _ (Builtin.Dict.dictSlotArgs "__eq__" ⟨[.ref d, .ref b], []⟩ >>= _) _ _ s
  refine wpAny_bind ?_
  unfold Builtin.Dict.dictSlotArgs; refine wpAny_bind (wpAny_notOrdered_dict td ?_)
  show wpAny (model X.prog X.w) _ (pure (Value.ref d, Value.ref b)) _ _ s
  refine wpAny_pure (wpAny_bind (wpAny_isInstance (T := "dict") tb PySem.F.sub_dict_dict ?_))
  simp only [Bool.not_true, Bool.false_eq_true, if_false]
  refine wpAny_bind (wpAny_pure (wpAny_bind (wpAny_pure (wpAny_bind (same_sizes h2 hs e1 g1 e3 g3 hz (wpAny_pure ⟨_, rfl, (fun x => nomatch x), ?_⟩))))))
  refine ⟨.bl kvs.isEmpty, H, I, ?_, q⟩
  have : decide (es.size = 0) = kvs.isEmpty := by
    rw [hsz, ← hl]
    cases kvs <;> simp
  rw [this]
  cases kvs.isEmpty <;> rfl

/-! ### set(xs) of whole numbers -/
def rSetI (w : World) (K : PySem.W.Frag) : List V → Hp → VK → Prop := fun vs H Q => ∃ (l : Addr) (ns : List Int), vs = [.ref l] ∧ SqL K H l (ns.map V.int) ∧ ns.length + 1 < scanBound ∧
  ∀ a c, H a = none → c ≤ ns.length → Q (.ref a) (upd H a (SetO w a (fun j => decide (j ∈ ns)) c))
theorem cr_setI (hc : X.calm = true) : CallR X (.type "set") (rSetI X.w X.K) := by
  intro pins s σ H vs us Q I r h
  obtain ⟨l, ns, rfl, hl, hb, q⟩ := h
  obtain rfl := Vals.ref1 r
  obtain ⟨its, rv, pl, hz⟩ := I.list hl
  have sz : its.toArray.size = ns.length := by rw [List.size_toArray, ← rv.length, List.length_map]
  have hn : H s.heap.objs.size = none := I.hok.fresh (Nat.le_refl _)
  let Iv : Nat → Heap → Prop := fun i h => ∃ c, c ≤ i ∧ SetR X.w h s.heap.objs.size (fun j => decide (j ∈ ns.take i)) c
  refine set_list_any (P := X.prog) (w := X.w) Iv (I.ok.hd hc) pl.isList (fun h g k => ⟨0, Nat.le_refl _, setR_new_at g⟩) (fun i h h' ⟨c, a1, a2⟩ k1 k2 => ⟨c, a1, a2.at k1⟩) (fun i v s' E' Q' hi hv ⟨c, a1, a2⟩ kp st => ?_) fun h' tk ⟨c, a1, a2⟩ kp => ?_
  · have hi2 : i < ns.length := by rw [← sz]; exact hi
    obtain ⟨a, ha⟩ : ∃ a, ns[i]? = some a := ⟨_, List.getElem?_eq_getElem hi2⟩
    have hx : (ns.map V.int)[i]? = some (V.int a) := by rw [List.getElem?_map, ha]; rfl
    obtain ⟨u, hu', ru⟩ := rv.get hx
    have e5 : its[i]? = some v := by rw [← List.getElem?_toArray]; exact hv
    rw [hu'] at e5
    obtain rfl := Option.some.inj e5
    obtain ⟨t, rfl⟩ := ru
    unfold setAdd; refine wpAny_holding (wpAny_bind ((intKind X.prog X.w).pyHash (k := a) (intKind_is _ _ _ _) ?_))
    refine setR_add_hashed (s := { s' with toks := s'.toks + 1 }) a2 (by omega) fun h' sb R' => ?_
    refine st _ h' _ (Nat.le_succ _) sb ⟨_, ?_, R'.congr fun j => ?_⟩
    · split <;> omega
    · rw [take_one ha]; simp [List.mem_append]
  · rw [sz] at a1 a2
    rw [List.take_length] at a2
    exact ⟨.ref s.heap.objs.size, _, I.laid (t' := tk) kp (Nat.le_refl _) (setO_new a2), rfl, q _ c hn a1⟩

/-! ### len(set(xs)) of like texts -/
def SetX (P : Program) (w : World) (a : Addr) (n : Nat) : HO := .ext fun h => ∃ S, h.SetOf (PySem.strKind P w) a S n
def rSetX (P : Program) (w : World) (K : PySem.W.Frag) : List V → Hp → VK → Prop := fun vs H Q => ∃ (l : Addr) (n : Nat) (x : Str), vs = [.ref l] ∧ SqL K H l ((List.replicate (n + 1) x).map V.str) ∧
  ∀ a, H a = none → Q (.ref a) (upd H a (SetX P w a 1))
theorem cr_setX (hc : X.calm = true) : CallR X (.type "set") (rSetX X.prog X.w X.K) := by
  intro pins s σ H vs us Q I r h
  obtain ⟨l, n, x, rfl, hl, q⟩ := h
  obtain rfl := Vals.ref1 r
  obtain ⟨its, rv, pl, hz⟩ := I.list hl
  have sz : its.toArray.size = n + 1 := by rw [List.size_toArray, ← rv.length, List.length_map, List.length_replicate]
  have hn : H s.heap.objs.size = none := I.hok.fresh (Nat.le_refl _)
  let Iv : Nat → Heap → Prop := fun i h => h.SetOf (PySem.strKind X.prog X.w) s.heap.objs.size (fun k => decide (0 < i) && decide (k = x)) (min i 1)
  refine set_list_any (P := X.prog) (w := X.w) Iv (I.ok.hd hc) pl.isList (fun h g k => ?_) (fun i h h' ⟨o, es, ep, t, ho, r⟩ k1 k2 => ⟨o, es, ep, t, k1 o ho, r⟩) (fun i v s' E' Q' hi hv a2 kp st => ?_) fun h' tk a2 kp => ?_
  · exact PyProof.Rows.SetOf_congr ((PyProof.Rows.setObjOf_fresh (knd := PySem.strKind X.prog X.w) _).setOf g (by unfold scanBound; omega)) (fun _ => rfl) rfl
  · have hi2 : i < n + 1 := by rw [← sz]; exact hi
    have hx : ((List.replicate (n + 1) x).map V.str)[i]? = some (V.str x) := by rw [List.getElem?_map, List.getElem?_replicate, if_pos hi2]; rfl
    obtain ⟨u, hu', ru⟩ := rv.get hx
    have e5 : its[i]? = some v := by rw [← List.getElem?_toArray]; exact hv
    rw [hu'] at e5
    obtain rfl := Option.some.inj e5
    obtain ⟨t, rfl⟩ := ru
    unfold setAdd; refine wpAny_holding (wpAny_bind ((PySem.strKind X.prog X.w).pyHash (k := x) (strKind_is _ _ _ _) ?_))
    refine wpAny_setAddHashed_of (knd := PySem.strKind X.prog X.w) (s := { s' with toks := s'.toks + 1 }) (strKind_is _ _ _ _) rfl a2 (by unfold scanBound; omega) fun h' sb R' => ?_
    refine st _ h' _ (Nat.le_succ _) sb (PyProof.Rows.SetOf_congr R' (fun k => ?_) ?_)
    · by_cases z : k = x <;> by_cases y : 0 < i <;> simp [z, y]
    · by_cases y : 0 < i
      · simp [y]; omega
      · have : i = 0 := by omega
        subst this; simp
  · rw [sz] at a2
    have a3 : h'.SetOf (PySem.strKind X.prog X.w) s.heap.objs.size (fun k => decide (0 < n + 1) && decide (k = x)) 1 := PyProof.Rows.SetOf_congr a2 (fun _ => rfl) (by omega)
    have okx : ObjOk X.prog X.w (upd H s.heap.objs.size (SetX X.prog X.w s.heap.objs.size 1)) h' s.heap.objs.size (SetX X.prog X.w s.heap.objs.size 1) := by
      obtain ⟨o, es, ep, t, ho, r⟩ := id a3
      exact ⟨⟨_, a3⟩, ⟨o, ho⟩, fun h1 h2 ⟨S, o, es, ep, t, ho, r⟩ k => ⟨S, o, es, ep, t, k o ho, r⟩⟩
    exact ⟨.ref s.heap.objs.size, _, I.laid (t' := tk) kp (Nat.le_refl _) okx, rfl, q _ hn⟩
def rLenX (P : Program) (w : World) : List V → Hp → VK → Prop := fun vs H Q => ∃ (a : Addr) (n : Nat), vs = [.ref a] ∧ H a = some (SetX P w a n) ∧ n < 64 ∧ Q (.int (n : Nat)) H
theorem cr_lenX : CallR X (.builtin "len") (rLenX X.prog X.w) := by
  intro pins s σ H vs us Q I r h
  obtain ⟨a, n, rfl, ha, hz, q⟩ := h
  obtain rfl := Vals.ref1 r
  obtain ⟨S, o, es, ep, t, ho, hex, hd, _, _, _, hf, hn⟩ := (I.hok a _ ha).1
  exact call_len_set ho hex hd hf (by rw [hn]; omega) ⟨.int (n : Nat), H, I.tok _, ⟨_, by rw [hn]⟩, q⟩
end
end K39
end Text_K39V

section Text_K39W
set_option Elab.async false set_option linter.all false set_option maxRecDepth 100000 set_option maxHeartbeats 4000000
/-! Smaller rules: (*t, x), any of whole numbers, min([], default=None), repr, xs[i] += n, t == (). -/
namespace K39
open PySem PySem.Spec PyProof.Rows L2

section
variable {X : Cx}
/-- (*t, ..) -/
def tStar (K : PySem.W.Frag) (te : TE) (t : TA) : TA := fun σ H Q => te σ H fun v H1 => ∃ a ws, v = .ref a ∧ SqT K H1 a ws ∧ t σ H1 fun vs H2 => Q (ws ++ vs) H2
theorem vals_app : ∀ {ws vs : List V} {a b : List Value}, Vals ws a → Vals vs b → Vals (ws ++ vs) (a ++ b)
  | _, _, _, _, .nil, q => q
  | _, _, _, _, .cons h t, q => .cons h (vals_app t q)
theorem pa_star {e : Expr} {p : Pos} {es : List Expr} {te : TE} {t : TA} (he : PE X e te) (ha : PA X es t) (hs : starEach (.Starred e p :: es) X.env = (true, eval e X.env) :: starEach es X.env := by rfl) : PA X (.Starred e p :: es) (tStar X.K te t) := by
  refine ⟨fun pos pins s σ H Q I h => ?_⟩
  refine PySem.W.items_star (thn (he.run pins s σ H _ I h) fun v s1 ⟨x, H1, I1, rx, a, ws, ex, hq, q1⟩ => ?_) hs
  subst ex
  obtain rfl : v = Value.ref a := rx
  obtain ⟨its, rv, ⟨o, ho, hc, n, hd⟩, hz⟩ := I1.tuple hq
  have hT : s1.TypeIs (.ref a) "tuple" := ⟨o, ho, hc⟩
  have lz : its.toArray.size ≤ sizeLine := by rw [List.size_toArray, ← rv.length]; exact hz
  unfold PySem.W.StarOf notIterableAtAll
  refine wpAny_bind (wpAny_specialOf hT PySem.F.slot_tuple_iter.lookup (wpAny_pure ⟨rfl, ?_⟩))
  refine wpAny_collect_seq a (.inr rfl) ho hc hd (fun h' hk => ?_) lz
  have I2 : Inv X pins σ H1 { s1 with heap := h' } := I1.kept (t' := s1.toks) hk
  exact thn (ha.run pos pins _ σ H1 _ I2 q1) fun us s2 ⟨vs, H2, I2, r2, q2⟩ => ⟨ws ++ vs, H2, I2, vals_app (by simpa using rv) r2, q2⟩

/-- any(xs), xs whole numbers -/
def rAnyI (K : PySem.W.Frag) : List V → Hp → VK → Prop := fun vs H Q => ∃ (a : Addr) (ns : List Int), vs = [V.ref a] ∧ SqL K H a (ns.map V.int) ∧ Q (.bl (ns.any fun n => n != 0)) H
theorem range_any : ∀ ns : List Int, (List.range ns.length).any (fun i => ns.getD i 0 != 0) = ns.any fun n => n != 0
  | [] => rfl
  | n :: ns => by
    rw [List.length_cons, List.range_succ_eq_map, List.any_cons, List.any_map, List.any_cons, ← range_any ns]
    rfl
theorem cr_anyI (hc : X.calm = true) : CallR X (.builtin "any") (rAnyI X.K) := by
  intro pins s σ H vs us Q I r h
  obtain ⟨a, ns, rfl, hs, q⟩ := h
  obtain ⟨its, rv, hl, _⟩ := I.list hs
  obtain rfl := Vals.ref1 r
  refine call_any_walk (iter_any hl.isList fun s₂ e2 st hne => ?_)
  subst e2
  refine ⟨_, _, _, _, _, _, fun i => ns.getD i 0 != 0, rfl, Walks.list (A := X.A.in1) (I.ok.hd hc) _ a hne its.toArray, st, (fun i v s E Q hv hq => ?_), fun h' tk hk => ?_⟩
  · have hv' : its[i]? = some v := by simpa using hv
    have hi : i < ns.length := by
      have := (List.getElem?_eq_some_iff.mp hv').1
      rw [← rv.length, List.length_map] at this
      exact this
    have hx : (ns.map V.int)[i]? = some (V.int ns[i]) := by rw [List.getElem?_map, List.getElem?_eq_getElem hi]; rfl
    obtain ⟨u, hu', ru⟩ := rv.get hx
    rw [hv'] at hu'
    obtain rfl := Option.some.inj hu'
    obtain ⟨t, rfl⟩ := ru
    refine PySem.P.truthy_int ?_
    have : ns.getD i 0 = ns[i] := by rw [List.getD_eq_getElem?_getD, List.getElem?_eq_getElem hi]; rfl
    rw [← this]; exact hq
  · refine ⟨.bl _, H, I.kept fun b o eo => hk b o (fun hmem => ?_) (Heap.get?_push_of_some _ eo), ?_, q⟩
    · rcases List.mem_cons.mp hmem with e1 | hmem
      · exact absurd (e1 ▸ Heap.lt_size eo) (Nat.lt_irrefl _)
      · cases hmem
    · show Value.bool _ = Value.bool _
      rw [← range_any, List.size_toArray, ← rv.length, List.length_map]

/-- min([], default=None) -/
theorem cr_min0 (hc : X.calm = true) (hu : X.A.units + 64 < cLine) : CallRK X (.builtin "min") [("default" : Str)] (fun vs zs H Q => ∃ a, vs = [V.ref a] ∧ SqL X.K H a [] ∧ zs = [V.non] ∧ Q .non H) := by
  intro pins s σ H vs zs us ws Q I r rz h
  obtain ⟨a, rfl, hs, rfl, q⟩ := h
  obtain ⟨its, rv, hl, _⟩ := I.list hs
  obtain rfl := Vals.ref1 r
  obtain ⟨u, rfl, ru⟩ := vals1 rz
  obtain rfl : u = Value.none := ru
  cases rv
  refine PySem.W.min_list_default (xs := []) (as := []) (d := Value.none) (I.ok.hd hc) hl.isList .nil ?_ (by simp [PyData.depthAll]; omega) (fun _ h' tk k => ⟨.non, H, I.kept k, rfl, q⟩) fun y ys i v h' tk bs e => nomatch e
  exact ⟨(fun x hx => nomatch hx), fun x hx => nomatch hx⟩

/-- repr of None, of a truth value -/
theorem cr_reprN : CallR X (.builtin "repr") (fun xs H Q => xs = [.non] ∧ Q (.str "None") H) := by
  intro pins s σ H xs us Q I r h
  obtain ⟨rfl, q⟩ := h
  obtain ⟨u, rfl, ru⟩ := vals1 r
  obtain rfl : u = Value.none := ru
  exact PySem.P.repr_of_none ⟨.str _, H, I.tok _, ⟨_, rfl⟩, q⟩
theorem cr_reprB : CallR X (.builtin "repr") (fun xs H Q => ∃ b : Bool, xs = [.bl b] ∧ Q (.str (if b then "True" else "False")) H) := by
  intro pins s σ H xs us Q I r h
  obtain ⟨b, rfl, q⟩ := h
  obtain ⟨u, rfl, ru⟩ := vals1 r
  obtain rfl : u = Value.bool b := ru
  exact PySem.P.repr_of_bool ⟨.str _, H, I.tok _, ⟨_, rfl⟩, q⟩
/-- repr of None, a truth value, a whole number -/
def rRepr : List V → Hp → VK → Prop := fun xs H Q => (xs = [.non] ∧ Q (.str "None") H) ∨ (∃ b : Bool, xs = [.bl b] ∧ Q (.str (if b then "True" else "False")) H) ∨ ∃ i : Int, xs = [.int i] ∧ i.natAbs.log2 < 1920 ∧ Q (.str (toString i)) H
theorem cr_repr : CallR X (.builtin "repr") rRepr := by
  intro pins s σ H xs us Q I r h
  rcases h with h | h | h
  · exact cr_reprN pins s σ H xs us Q I r h
  · exact cr_reprB pins s σ H xs us Q I r h
  · exact SkE.call_repr_int pins s σ H xs us Q I r h

/-- xs[i], read for += -/
theorem pget_list : PGet X (fun x y H Q => ∃ (p : Addr) (xs : List V) (i : Nat) (v : V), x = .ref p ∧ y = .int (i : Int) ∧ SqL X.K H p xs ∧ xs[i]? = some v ∧ Q v H) := by
  intro pins s σ H x y v u Q I rx ry h
  obtain ⟨p, xs, i, z, rfl, rfl, hq, he, q⟩ := h
  obtain rfl : v = Value.ref p := rx
  obtain ⟨t, rfl⟩ := ry
  obtain ⟨its, r, pl, hz⟩ := I.list hq
  obtain ⟨w, ew, rw'⟩ := r.get he
  have hlt := (List.getElem?_eq_some_iff.mp he).1
  have hn := line63
  exact wpAny_getItem_list pl.isList (by omega) (by omega) (by simpa using ew) ⟨z, H, I, rw', q⟩

/-- t == () -/
theorem op_tup0 (hu : X.A.units + 64 < cLine) : OpR X (compareOp .Eq) (fun x y H Q => ∃ a b xs, x = .ref a ∧ y = .ref b ∧ SqT X.K H a xs ∧ SqT X.K H b [] ∧ Q (.bl xs.isEmpty) H) := by
  intro pins s σ H x y v u Q I rx ry h
  obtain ⟨a, b, xs, rfl, rfl, h1, h2, q⟩ := h
  obtain rfl : v = Value.ref a := rx
  obtain rfl : u = Value.ref b := ry
  obtain ⟨i1, r1, p1, _⟩ := I.tuple h1
  obtain ⟨i2, r2, p2, _⟩ := I.tuple h2
  cases r2
  refine SeqAt.eq_tupleAt (e := fun _ => true) p1 p2 (by omega) (fun j _ h => absurd h (Nat.not_lt_zero _)) ⟨.bl xs.isEmpty, H, I, ?_, q⟩
  cases r1 <;> rfl
end
end K39
end Text_K39W

section Text_K39Z
set_option Elab.async false set_option linter.all false set_option maxRecDepth 100000 set_option maxHeartbeats 4000000
/-! zip of two texts; either of two rules. -/
namespace K39
open PySem PySem.Spec PyProof.Rows L2

def ItzS (a b : Str) : It :=
  ⟨fun i _ => i < a.cps.size ∧ i < b.cps.size, fun i H v H' => ∃ T x y, v = .ref T ∧ H T = none ∧ H' = upd H T (.tup [.str (sg x), .str (sg y)]) ∧ a.cps[i]? = some x ∧ b.cps[i]? = some y, fun i _ => a.cps.size ≤ i ∨ b.cps.size ≤ i⟩
abbrev five (z TI TO i1 i2 : Addr) : List Addr := [z, TI, TO, i1, i2]
theorem five_cases {z TI TO i1 i2 c : Addr} (h : c ∈ five z TI TO i1 i2) : c = z ∨ c = TI ∨ c = TO ∨ c = i1 ∨ c = i2 := by simpa using h
theorem turn_zipS {P : Program} {w : World} {K : PySem.W.Frag} {elts : List Expr} {kk : Nat} {tpos : Pos} {a b : Str} {t1 t2 : Tok} {z TI TO i1 i2 : Addr} (D : ZipSep2 z TI TO i1 i2 [i1] [i2]) :
    Turn P w K (.Tuple elts kk tpos) (ItzS a b) (five z TI TO i1 i2) z (fun i h => (IsZip h z TI TO .none ∧ IsTupOf2 h TI (.ref i1) (.ref i2) ∧ (∃ x y, IsTupOf2 h TO x y) ∧ h.IsStrIter i1 (strIterType a) a t1 i ∧ h.IsStrIter i2 (strIterType b) b t2 i) ∧ i ≤ a.cps.size ∧ i ≤ b.cps.size) where
  mem := by simp
  obj := fun i h st c hc => by
    obtain ⟨⟨hz, hTI, ⟨x, y, hTO⟩, ⟨o1, e1, _, d1⟩, ⟨o2, e2, _, d2⟩⟩, _⟩ := st
    rcases five_cases hc with q | q | q | q | q <;> rw [q]
    · exact ⟨_, hz, fun v q => nomatch q⟩
    · exact ⟨_, hTI, fun v q => nomatch q⟩
    · exact ⟨_, hTO, fun v q => nomatch q⟩
    · exact ⟨o1, e1, fun v q => by rw [d1] at q; cases q⟩
    · exact ⟨o2, e2, fun v q => by rw [d2] at q; cases q⟩
  keep := fun i h h' st k => by
    obtain ⟨⟨hz, hTI, ⟨x, y, hTO⟩, ⟨o1, e1, r1⟩, ⟨o2, e2, r2⟩⟩, l⟩ := st
    exact ⟨⟨k z (by simp) _ hz, k TI (by simp) _ hTI, ⟨x, y, k TO (by simp) _ hTO⟩, ⟨o1, k i1 (by simp) _ e1, r1⟩, ⟨o2, k i2 (by simp) _ e2, r2⟩⟩, l⟩
  item := by
    intro X hP hw hK hc i pins s σ H E I hf st hg
    subst hP hw hK
    obtain ⟨⟨hz, hTI, ⟨x0, y0, hTO⟩, h1, h2⟩, hle1, hle2⟩ := st
    have hzl : z < s.heap.objs.size := Heap.lt_size hz
    refine wpAny_pyNext_zipD2_item (St1 := fun i h => h.IsStrIter i1 (strIterType a) a t1 i) (St2 := fun i h => h.IsStrIter i2 (strIterType b) b t2 i) D (Draws.text (A := X.A.in1) (I.ok.hd hc) i1 a t1) (Draws.text (A := X.A.in1) (I.ok.hd hc) i2 b t2) hz hTI hTO h1 h2 hg.1 hg.2 fun x1 x2 h' tk p1 p2 z' TO' h1' h2' hT hsz hk => ?_
    obtain ⟨c1, u1, e1, rfl⟩ := p1
    obtain ⟨c2, u2, e2, rfl⟩ := p2
    refine ⟨_, rfl, wpAny_letOwnedTupleGo_zip (s := { s with heap := h', toks := tk }) z' fun h'' z'' sb => ?_⟩
    have hT2 : h''.get? s.heap.objs.size = some { cls := .type "tuple", data := .seq #[.str ⟨#[c1]⟩ u1, .str ⟨#[c2]⟩ u2] } := (sb.2 _ (Nat.ne_of_gt hzl)).trans hT
    have new : ObjOk X.prog X.w (upd H s.heap.objs.size (.tup [.str (sg c1), .str (sg c2)])) h'' s.heap.objs.size (.tup [.str (sg c1), .str (sg c2)]) :=
      ⟨by show 2 ≤ sizeLine; decide, _, .cons ⟨u1, rfl⟩ (.cons ⟨u2, rfl⟩ .nil), ⟨_, hT2, rfl, _, rfl⟩⟩
    have old : ∀ c o, c ∉ five z TI TO i1 i2 → s.heap.get? c = some o → h''.get? c = some o := fun c o hb q =>
      (sb.2 c (fun q' => hb (by simp [q']))).trans (hk c o (fun q' => hb (by simp [q'])) (fun q' => hb (by simp [q'])) (fun q' => hb (by simp [q'])) (fun q' => hb (by simp [q'])) q)
    have I1 : Inv X pins σ (upd H s.heap.objs.size (.tup [.str (sg c1), .str (sg c2)])) { s with heap := h'', toks := tk } := I.turnedNew (t' := tk) (ch := five z TI TO i1 i2) old hf (Nat.le_refl _) new
    refine ⟨.ref s.heap.objs.size, _, I1, rfl, ⟨_, c1, c2, rfl, I.hok.fresh (Nat.le_refl _), rfl, e1, e2⟩, ⟨⟨z'', ?_, ⟨.str ⟨#[c1]⟩ u1, .str ⟨#[c2]⟩ u2, ?_⟩, ?_, ?_⟩, hg.1, hg.2⟩, fun c hcm => ?_⟩
    · exact (sb.2 _ D.TIz).trans (hk _ _ D.TIz D.TITO D.TIi1 D.TIi2 hTI)
    · exact (sb.2 _ D.TOz).trans TO'
    · obtain ⟨o, ho, r⟩ := h1'
      exact ⟨o, (sb.2 _ D.zi1.symm).trans ho, r⟩
    · obtain ⟨o, ho, r⟩ := h2'
      exact ⟨o, (sb.2 _ D.zi2.symm).trans ho, r⟩
    · have hlt : c < s.heap.objs.size := by
        rcases five_cases hcm with q | q | q | q | q <;> rw [q]
        · exact hzl
        · exact Heap.lt_size hTI
        · exact Heap.lt_size hTO
        · obtain ⟨_, e1, _⟩ := h1; exact Heap.lt_size e1
        · obtain ⟨_, e2, _⟩ := h2; exact Heap.lt_size e2
      rw [upd_ne (Nat.ne_of_lt hlt)]
      exact (hf c hcm).1
  done := by
    intro X hP hw hK hc i pins s σ H E I hf st hg
    subst hP hw hK
    obtain ⟨⟨hz, hTI, ⟨x0, y0, hTO⟩, h1, h2⟩, hle1, hle2⟩ := st
    have hg' : a.cps.size ≤ i ∨ b.cps.size ≤ i := hg
    exact wpAny_pyNext_zipD2_end (St1 := fun i h => h.IsStrIter i1 (strIterType a) a t1 i) (St2 := fun i h => h.IsStrIter i2 (strIterType b) b t2 i) D (Draws.text (A := X.A.in1) (I.ok.hd hc) i1 a t1) (Draws.text (A := X.A.in1) (I.ok.hd hc) i2 b t2) hz hTI hTO h1 h2 hle1 hle2 (by omega) fun h' tk hk => ⟨rfl, I.turnedL (t' := tk) (ch := five z TI TO i1 i2) (fun c o hb q =>
      hk c o (fun q' => hb (by simp [q'])) (fun q' => hb (by simp [q'])) (fun q' => hb (by simp [q'])) (fun q' => hb (by simp [q'])) q) hf⟩
  self := fun A i s Q E st h => wpAny_pyIter_zip st.1.1 h
section
variable {X : Cx}
def iZipS (ta : TA) : TI := fun σ H R => ta σ H fun vs H1 => ∃ a b, vs = [.str a, .str b] ∧ R (ItzS a b) H1
theorem pi_zipS {e e2 : Expr} {ta : TA} {p pos tpos : Pos} {elts : List Expr} {kk : Nat} (hg : Gl X "zip") (hm : X.mg "zip" = none) (ha : PA X [e, e2] ta)
    (hs : starEach [e, e2] X.env = (false, eval e X.env) :: starEach [e2] X.env := by rfl) (hpl : (backTo pos (starEach [e2] X.env)).any (·.1) = false := by rfl) :
    PI X (.Tuple elts kk tpos) (.Call (.Name "zip" p) [e, e2] [] pos) (iZipS ta) := by
  refine ⟨fun pins s σ H R I h => ?_⟩
  refine Call_ (ld_blt I hg hm PyProof.Rows.boot_zip (PyProof.Rows.callWith_type1 (thn (ha.run pos pins s σ H _ I h) fun us s1 ⟨vs, H1, I1, r1, q1⟩ => ?_) hs hpl))
  obtain ⟨a, b, ex, q⟩ := q1
  subst ex
  obtain ⟨u1, u2, rfl, ⟨t1, rfl⟩, ⟨t2, rfl⟩⟩ := vals2 r1
  have n0 := s1.heap.objs.size
  refine zip_begins2 (begins_text a t1) (begins_text b t2) trivial trivial fun h' hz hTI hTO h1 h2 hsz hk => wpAny_pyIter_zip hz ?_
  have I2 : Inv X pins σ H1 { s1 with heap := h' } := I1.kept (t' := s1.toks) hk
  have ge : ∀ c, c ∈ five (s1.heap.objs.size + 4) (s1.heap.objs.size + 2) (s1.heap.objs.size + 3) s1.heap.objs.size (s1.heap.objs.size + 1) → s1.heap.objs.size ≤ c := fun c hc => by
    rcases five_cases hc with q | q | q | q | q <;> rw [q]
    · exact Nat.le_add_right _ _
    · exact Nat.le_add_right _ _
    · exact Nat.le_add_right _ _
    · exact Nat.le_refl _
    · exact Nat.le_add_right _ _
  have sep : ZipSep2 (s1.heap.objs.size + 4) (s1.heap.objs.size + 2) (s1.heap.objs.size + 3) s1.heap.objs.size (s1.heap.objs.size + 1) [s1.heap.objs.size] [s1.heap.objs.size + 1] := by
    have hlt : ∀ m k : Nat, m ≠ k → s1.heap.objs.size + m ≠ s1.heap.objs.size + k := fun m k h e => h (Nat.add_left_cancel e)
    exact ⟨hlt 2 4 (by decide), hlt 3 4 (by decide), hlt 2 3 (by decide), hlt 2 0 (by decide), by simp, by simpa using hlt 4 0 (by decide), by simpa using hlt 3 0 (by decide), hlt 2 1 (by decide), by simp, by simpa using hlt 4 1 (by decide), by simpa using hlt 3 1 (by decide), by simpa using hlt 0 1 (by decide), by simpa using hlt 1 0 (by decide)⟩
  exact ⟨_, five (s1.heap.objs.size + 4) (s1.heap.objs.size + 2) (s1.heap.objs.size + 3) s1.heap.objs.size (s1.heap.objs.size + 1), _, _, H1, rfl, I2, turn_zipS sep, ⟨⟨hz, hTI, ⟨_, _, hTO⟩, ⟨_, h1, rfl, rfl⟩, ⟨_, h2, rfl, rfl⟩⟩, Nat.zero_le _, Nat.zero_le _⟩, (fun c hc => I1.fpOk (ge c hc) (I1.hok.fresh (ge c hc))), q⟩
theorem walk_zipS {a b : Str} {n : Nat} (hn : n = min a.cps.size b.cps.size) : Walk (ItzS a b) n (fun _ => True) (YPair (fun i => (a.cps[i]?).map fun c => V.str (sg c)) (fun i => (b.cps[i]?).map fun c => V.str (sg c))) :=
  ⟨fun i H hi _ => ⟨by omega, by omega⟩, fun H _ => by show _ ∨ _; omega, fun i H x H' _ _ ⟨T, c, d, e1, e2, e3, e4, e5⟩ => ⟨T, _, _, e1, e2, e3, by simp [e4], by simp [e5]⟩⟩
theorem PI_or {tg e : Expr} {a b : TI} (h1 : PI X tg e a) (h2 : PI X tg e b) : PI X tg e (fun σ H R => a σ H R ∨ b σ H R) := ⟨fun pins s σ H R I h => h.elim (h1.run pins s σ H R I) (h2.run pins s σ H R I)⟩
theorem PE_or {e : Expr} {a b : TE} (h1 : PE X e a) (h2 : PE X e b) : PE X e (fun σ H Q => a σ H Q ∨ b σ H Q) := ⟨fun pins s σ H Q I h => h.elim (h1.run pins s σ H Q I) (h2.run pins s σ H Q I)⟩
end
end K39
end Text_K39Z

section Text_K39Y
set_option Elab.async false set_option linter.all false set_option maxRecDepth 100000 set_option maxHeartbeats 4000000
/-! list(zip(a tuple, a list)): a new list of new pairs. -/
namespace K39
open PySem PySem.Spec PyProof.Rows L2

theorem zip_len_none : typeLookup (.type "zip") "__len__" = pure none := am_miss_of_fast (by decide +kernel)
theorem zip_hint_none : typeLookup (.type "zip") "__length_hint__" = pure none := am_miss_of_fast (by decide +kernel)

section
variable {prog : Program} {w : World} {A : Around} {E : Value → Shared → Prop} {s : Shared} {z TI TO i1 i2 : Addr} {fp1 fp2 : List Addr} {n1 n2 i : Nat} {P1 P2 : Nat → Value → Prop} {St1 St2 : Nat → Heap → Prop} {a1 a2 : Value}

theorem zipH_item {T : Addr} {f : Bool} {oT : Obj} {Q : Value → Shared → Prop} (S : ZipSep2 z TI TO i1 i2 fp1 fp2) (D1 : Draws prog w A i1 fp1 n1 P1 St1) (D2 : Draws prog w A i2 fp2 n2 P2 St2)
    (hz : IsZipHeld s.heap z TI TO T f) (hT : s.heap.get? T = some oT) (hTI : IsTupOf2 s.heap TI (.ref i1) (.ref i2)) (st1 : St1 i s.heap) (st2 : St2 i s.heap) (hlt1 : i < n1) (hlt2 : i < n2)
    (hQ : ∀ x1 x2 h' tk, P1 i x1 → P2 i x2 → IsZipHeld h' z TI TO T true → St1 (i + 1) h' → St2 (i + 1) h' → IsTupOf2 h' s.heap.objs.size x1 x2 → h'.objs.size = s.heap.objs.size + 1 →
      (∀ c o, c ≠ z → c ≠ i1 → c ≠ i2 → s.heap.get? c = some o → h'.get? c = some o) → Q (.ref s.heap.objs.size) { s with heap := h', toks := tk }) :
    wpAny (model prog w) A (Builtin.«zip.__next__» ⟨[.ref z], []⟩) (fun fin s' => ∃ v, fin = .done (.ret v) ∧ Q v s') E s := by
  obtain ⟨hp, g, d, tk0, os⟩ := s
  show wpAny _ _ (field (.ref z) 2 >>= _) _ _ _
  refine wpAny_bind (wpAny_field hz rfl (x := .bool false) rfl ?_)
  show wpAny _ _ (field (.ref z) 3 >>= _) _ _ _
  refine wpAny_bind (wpAny_field hz rfl (x := .ref TI) rfl ?_)
  refine wpAny_bind (wpAny_seqItems hTI rfl ?_)
  show wpAny _ _ (Builtin.SmallTypes.ownedTupleIsFree (.ref z) >>= _) _ _ _
  refine wpAny_bind (wpAny_tupleHeld_zip hz hT fun g0 hz0 hs0 => ?_)
  simp only [Bool.false_eq_true, if_false]
  replace hs0 : Heap.SameBut z hp g0 := hs0
  refine wpAny_bind ?_
  rw [← Array.forIn_toList]
  simp only [List.forIn_cons, List.forIn_nil]
  refine wpAny_bind (wpAny_bind (wpAny_holding ?_))
  show wpAny _ _ (Builtin.SmallTypes.nextOf (.ref i1) >>= _) _ _ ⟨g0, g, d, tk0, os⟩
  refine wpAny_bind (D1.item i _ _ _ hlt1 (D1.over st1 hs0 S.zf1) fun x1 p1 tk1 hx1 sn1 hp1 => wpAny_pure ?_)
  replace hp1 : Heap.SameBut i1 g0 p1 := hp1
  refine wpAny_pure ?_
  refine wpAny_bind (wpAny_bind (wpAny_holding ?_))
  show wpAny _ _ (Builtin.SmallTypes.nextOf (.ref i2) >>= _) _ _ ⟨p1, g, d, tk1, os⟩
  refine wpAny_bind (D2.item i _ _ _ hlt2 (D2.over (D2.over st2 hs0 S.zf2) hp1 S.sep1_2) fun x2 p2 tk2 hx2 sn2 hp2 => wpAny_pure ?_)
  replace hp2 : Heap.SameBut i2 p1 p2 := hp2
  refine wpAny_pure (wpAny_pure ?_)
  show wpAny _ _ (newTuple [x1, x2] >>= _) _ _ _
  refine wpAny_bind (wpAny_newTuple ?_)
  have hsz : p2.objs.size = hp.objs.size := by rw [hp2.1, hp1.1, hs0.1]
  have hzz : IsZipHeld p2 z TI TO T true := hp2.extBut _ _ S.zi2 (hp1.extBut _ _ S.zi1 hz0)
  have hkk : ∀ c o, c ≠ z → c ≠ i1 → c ≠ i2 → hp.get? c = some o → p2.get? c = some o := fun c o cz c1 c2 e => hp2.extBut _ _ c2 (hp1.extBut _ _ c1 (hs0.extBut _ _ cz e))
  have hj1 : St1 (i + 1) p2 := D1.over sn1 hp2 S.sep2_1
  have up : ∀ c o, p2.get? c = some o → (p2.push { cls := .type "tuple", data := .seq #[x1, x2] }).get? c = some o := fun c o e => Heap.get?_push_of_some _ e
  have hT8 : IsTupOf2 (p2.push { cls := .type "tuple", data := .seq #[x1, x2] }) p2.objs.size x1 x2 := Heap.get?_push_size _ rfl
  have hz8 : (p2.push { cls := .type "tuple", data := .seq #[x1, x2] }).objs.size = p2.objs.size + 1 := Heap.size_push ..
  rw [hsz] at hT8 hz8
  refine wpAny_pure ⟨_, rfl, ?_⟩
  show Q (.ref p2.objs.size) ⟨p2.push { cls := .type "tuple", data := .seq #[x1, x2] }, g, d, tk2, os⟩
  rw [hsz]
  exact hQ x1 x2 _ tk2 hx1 hx2 (up _ _ hzz) (D1.frame _ _ _ hj1 fun b _ o e => up b o e) (D2.frame _ _ _ sn2 fun b _ o e => up b o e) hT8 hz8 fun c o cz c1 c2 e => up c o (hkk c o cz c1 c2 e)

theorem zipH_end {T : Addr} {f : Bool} {oT : Obj} {Q : Fin → Shared → Prop} (S : ZipSep2 z TI TO i1 i2 fp1 fp2) (D1 : Draws prog w A i1 fp1 n1 P1 St1) (D2 : Draws prog w A i2 fp2 n2 P2 St2)
    (hz : IsZipHeld s.heap z TI TO T f) (hT : s.heap.get? T = some oT) (hTI : IsTupOf2 s.heap TI (.ref i1) (.ref i2)) (st1 : St1 i s.heap) (hi1 : i = n1)
    (hE : ∀ h' tk e, (∀ c o, c ≠ z → c ≠ i1 → c ≠ i2 → s.heap.get? c = some o → h'.get? c = some o) → (∃ o, h'.get? e = some o ∧ o.cls = .type "StopIteration") → E (.ref e) { s with heap := h', toks := tk }) :
    wpAny (model prog w) A (Builtin.«zip.__next__» ⟨[.ref z], []⟩) Q E s := by
  obtain ⟨hp, g, d, tk0, os⟩ := s
  show wpAny _ _ (field (.ref z) 2 >>= _) _ _ _
  refine wpAny_bind (wpAny_field hz rfl (x := .bool false) rfl ?_)
  show wpAny _ _ (field (.ref z) 3 >>= _) _ _ _
  refine wpAny_bind (wpAny_field hz rfl (x := .ref TI) rfl ?_)
  refine wpAny_bind (wpAny_seqItems hTI rfl ?_)
  show wpAny _ _ (Builtin.SmallTypes.ownedTupleIsFree (.ref z) >>= _) _ _ _
  refine wpAny_bind (wpAny_tupleHeld_zip hz hT fun g0 hz0 hs0 => ?_)
  simp only [Bool.false_eq_true, if_false]
  replace hs0 : Heap.SameBut z hp g0 := hs0
  refine wpAny_bind ?_
  rw [← Array.forIn_toList]
  simp only [List.forIn_cons, List.forIn_nil]
  refine wpAny_bind (wpAny_bind (wpAny_holding ?_))
  show wpAny _ _ (Builtin.SmallTypes.nextOf (.ref i1) >>= _) _ _ ⟨g0, g, d, tk0, os⟩
  refine wpAny_bind (D1.done ⟨g0, g, d, tk0, os⟩ _ _ (by rw [← hi1]; exact (D1.over st1 hs0 S.zf1)) fun q e hq he => ?_)
  replace hq : Heap.ExtBut i1 g0 q := hq
  exact hE q tk0 e (fun c o cz c1 c2 x => hq _ _ c1 (hs0.extBut _ _ cz x)) he
end

section
variable {prog : Program} {w : World} {A : Around} {E : Value → Shared → Prop} {s : Shared} {z TI TO i1 i2 : Addr} {fp1 fp2 : List Addr} {n1 n2 i : Nat} {P1 P2 : Nat → Value → Prop} {St1 St2 : Nat → Heap → Prop} {a1 a2 : Value}
theorem pyNextH_item {T : Addr} {f : Bool} {oT : Obj} {Q : Option Value → Shared → Prop} (S : ZipSep2 z TI TO i1 i2 fp1 fp2) (D1 : Draws prog w A.in1 i1 fp1 n1 P1 St1) (D2 : Draws prog w A.in1 i2 fp2 n2 P2 St2)
    (hz : IsZipHeld s.heap z TI TO T f) (hT : s.heap.get? T = some oT) (hTI : IsTupOf2 s.heap TI (.ref i1) (.ref i2)) (st1 : St1 i s.heap) (st2 : St2 i s.heap) (hlt1 : i < n1) (hlt2 : i < n2)
    (hQ : ∀ x1 x2 h' tk, P1 i x1 → P2 i x2 → IsZipHeld h' z TI TO T true → St1 (i + 1) h' → St2 (i + 1) h' → IsTupOf2 h' s.heap.objs.size x1 x2 → h'.objs.size = s.heap.objs.size + 1 →
      (∀ c o, c ≠ z → c ≠ i1 → c ≠ i2 → s.heap.get? c = some o → h'.get? c = some o) → Q (some (.ref s.heap.objs.size)) { s with heap := h', toks := tk }) :
    wpAny (model prog w) A (pyNext (.ref z)) Q E s := by
  have hTy : s.TypeIs (.ref z) "zip" := ⟨_, hz, rfl⟩
  unfold pyNext
  exact wpAny_bind (wpAny_attempt (wpAny_callSpecial?_slot (name := Str.ofString "__next__") hTy F.slot_zip_next
    (wpAny_call_entry F.slot_zip_next hTy F.entry_zip_next
      (zipH_item S D1 D2 hz hT hTI st1 st2 hlt1 hlt2 fun x1 x2 h' tk y1 y2 b1 d1 d2 b5 b6 b7 => wpAny_pure (hQ x1 x2 h' tk y1 y2 b1 d1 d2 b5 b6 b7)) (F.args_zip_next_1 _))))
theorem pyNextH_end {T : Addr} {f : Bool} {oT : Obj} {Q : Option Value → Shared → Prop} (S : ZipSep2 z TI TO i1 i2 fp1 fp2) (D1 : Draws prog w A.in1 i1 fp1 n1 P1 St1) (D2 : Draws prog w A.in1 i2 fp2 n2 P2 St2)
    (hz : IsZipHeld s.heap z TI TO T f) (hT : s.heap.get? T = some oT) (hTI : IsTupOf2 s.heap TI (.ref i1) (.ref i2)) (st1 : St1 i s.heap) (hi1 : i = n1)
    (hQ : ∀ h' tk, (∀ c o, c ≠ z → c ≠ i1 → c ≠ i2 → s.heap.get? c = some o → h'.get? c = some o) → Q none { s with heap := h', toks := tk }) : wpAny (model prog w) A (pyNext (.ref z)) Q E s := by
  have hTy : s.TypeIs (.ref z) "zip" := ⟨_, hz, rfl⟩
  unfold pyNext
  refine wpAny_bind (wpAny_attempt (wpAny_callSpecial?_slot (name := Str.ofString "__next__") hTy F.slot_zip_next
    (wpAny_call_entry F.slot_zip_next hTy F.entry_zip_next (zipH_end S D1 D2 hz hT hTI st1 hi1 fun h' tk e hk he => ?_) (F.args_zip_next_1 _))))
  obtain ⟨o, ho, hc⟩ := he
  refine wpAny_bind (wpAny_isInstance (T := "StopIteration") (b := true) ⟨o, ho, hc⟩ isSubtype_stop ?_)
  exact wpAny_pure (hQ _ _ hk)
end

/-- pairs made one behind the other -/
structure MadeP (P1 P2 : Nat → Value → Prop) (lo : Addr) (h : Heap) (as : List Addr) : Prop where
  rise : as.Pairwise (· < ·)
  above : ∀ a ∈ as, lo < a
  pairs : ∀ (j : Nat) (a : Addr), as[j]? = some a → ∃ x y, P1 j x ∧ P2 j y ∧ IsTupOf2 h a x y
theorem MadeP.there {P1 P2 : Nat → Value → Prop} {lo : Addr} {h : Heap} {as : List Addr} (g : MadeP P1 P2 lo h as) {a : Addr} (ha : a ∈ as) : a < h.objs.size := by
  obtain ⟨j, hj⟩ := List.mem_iff_getElem?.mp ha
  obtain ⟨_, _, _, _, e⟩ := g.pairs j a hj
  exact Heap.lt_size e
section
variable {prog : Program} {w : World} {A : Around} {s : Shared} {R : Result → Shared → Prop} {z TI TO i1 i2 : Addr} {fp1 fp2 : List Addr} {n : Nat} {P1 P2 : Nat → Value → Prop} {St1 St2 : Nat → Heap → Prop}
def ZSt (z TI TO i1 i2 : Addr) (hi S : Addr) (St1 St2 : Nat → Heap → Prop) (i : Nat) (h : Heap) : Prop :=
  IsTupOf2 h TI (.ref i1) (.ref i2) ∧ St1 i h ∧ St2 i h ∧ ((IsZip h z TI TO .none ∧ ∃ x y, IsTupOf2 h TO x y) ∨ ∃ T f oT, IsZipHeld h z TI TO T f ∧ h.get? T = some oT ∧ hi < T ∧ T ≠ S)

theorem loopZ {S hi : Addr} (Sp : ZipSep2 z TI TO i1 i2 fp1 fp2) (D1 : Draws prog w A.in1.in1 i1 fp1 n P1 St1) (D2 : Draws prog w A.in1.in1 i2 fp2 n P2 St2) (big : ∀ c, c = z ∨ c = TI ∨ c = TO ∨ c = i1 ∨ c = i2 → c ≤ hi)
    (so : ∀ c, c = z ∨ c = TI ∨ c = TO ∨ c = i1 ∨ c = i2 ∨ c ∈ fp1 ∨ c ∈ fp2 → c ≠ S) (hS0 : S ≤ hi) (hn : n ≤ sizeLine) (res : Value) {h₁ : Heap}
    (hR : ∀ h' tk acc c as, (∀ b o, b ≠ S → b ≠ z → b ≠ TO → b ≠ i1 → b ≠ i2 → h₁.get? b = some o → h'.get? b = some o) → h'.get? S = some { cls := .type "list", dict := none, data := .seq acc c, slots := #[] } → as.length = n → MadeP P1 P2 hi h' as →
      acc.toList = as.map Value.ref → R (.ok (.ret res)) { s with heap := h', toks := tk }) :
    ∀ (k i : Nat) (h : Heap) (tk c : Nat) (acc : Array Value) (as : List Addr), n - i = k → i ≤ n → ZSt z TI TO i1 i2 hi S St1 St2 i h → (∀ b o, b ≠ S → b ≠ z → b ≠ TO → b ≠ i1 → b ≠ i2 → h₁.get? b = some o → h.get? b = some o) →
      h.get? S = some { cls := .type "list", dict := none, data := .seq acc c, slots := #[] } → acc.toList = as.map Value.ref → as.length = i → MadeP P1 P2 hi h as → hi < h.objs.size →
      codeAny (model prog w) A (.builtin "list.extend.loop" ⟨[.ref S, .ref z, res], []⟩) R { s with heap := h, toks := tk } := by
  have zS : z ≠ S := so z (.inl rfl)
  have TIS : TI ≠ S := so TI (.inr (.inl rfl))
  have TOS : TO ≠ S := so TO (.inr (.inr (.inl rfl)))
  have i1S : i1 ≠ S := so i1 (.inr (.inr (.inr (.inl rfl))))
  have i2S : i2 ≠ S := so i2 (.inr (.inr (.inr (.inr (.inl rfl)))))
  have gt : ∀ {b c : Addr}, hi < b → c = z ∨ c = TI ∨ c = TO ∨ c = i1 ∨ c = i2 → b ≠ c := fun hb hc => Nat.ne_of_gt (Nat.lt_of_le_of_lt (big _ hc) hb)
  intro k
  induction k with
  | zero =>
    intro i h tk c acc as hk hi' hst hkeep hS hacc hal hG hIs
    have hin : i = n := by omega
    refine codeAny_builtin PySem.F.entry_extend_loop ?_
    rw [Around.under_plainId PySem.F.plain_extend_loop _]
    show wpAny _ A.in1 (pyNext (.ref z) >>= _) _ _ _
    obtain ⟨hTI, st1, st2, hz⟩ := hst
    have fin : ∀ h' tk', (∀ c o, c ≠ z → c ≠ TO → c ≠ i1 → c ≠ i2 → h.get? c = some o → h'.get? c = some o) → R (.ok (.ret res)) { s with heap := h', toks := tk' } := fun h' tk' he =>
      hR h' tk' acc c as (fun b o h1 h2 h3 h4 h5 e => he b o h2 h3 h4 h5 (hkeep b o h1 h2 h3 h4 h5 e)) (he S _ zS.symm TOS.symm i1S.symm i2S.symm hS) (by omega) ⟨hG.rise, hG.above, fun j a hj => by
        obtain ⟨x, y, e1, e2, e3⟩ := hG.pairs j a hj
        have ab := hG.above a (List.mem_of_getElem? hj)
        exact ⟨x, y, e1, e2, he a _ (gt ab (.inl rfl)) (gt ab (.inr (.inr (.inl rfl)))) (gt ab (.inr (.inr (.inr (.inl rfl))))) (gt ab (.inr (.inr (.inr (.inr rfl))))) e3⟩⟩ hacc
    rcases hz with ⟨hz, x, y, hTO⟩ | ⟨T, f, oT, hz, hT, r1, r2⟩
    · exact wpAny_bind (wpAny_pyNext_zipD2_end (s := { s with heap := h, toks := tk }) (A := A.in1) Sp D1 D2 hz hTI hTO st1 st2 hi' hi' (.inl hin) fun h' tk' he => wpAny_pure (fin h' tk' he))
    · exact wpAny_bind (pyNextH_end (s := { s with heap := h, toks := tk }) (A := A.in1) Sp D1 D2 hz hT hTI st1 hin fun h' tk' he => wpAny_pure (fin h' tk' fun c o c1 _ c3 c4 e => he c o c1 c3 c4 e))
  | succ k ih =>
    intro i h tk c acc as hk hi' hst hkeep hS hacc hal hG hIs
    have hlt : i < n := by omega
    have hsz : acc.size = i := by rw [← Array.length_toList, hacc, List.length_map, hal]
    refine codeAny_builtin PySem.F.entry_extend_loop ?_
    rw [Around.under_plainId PySem.F.plain_extend_loop _]
    show wpAny _ A.in1 (pyNext (.ref z) >>= _) _ _ _
    obtain ⟨hTI, st1, st2, hz⟩ := hst
    have hSl : S < h.objs.size := Heap.lt_size hS
    have go : ∀ x y h' tk', P1 i x → P2 i y → IsTupOf2 h' TI (.ref i1) (.ref i2) → St1 (i + 1) h' → St2 (i + 1) h' → (∃ T f oT, IsZipHeld h' z TI TO T f ∧ h'.get? T = some oT ∧ hi < T ∧ T ≠ S) → IsTupOf2 h' h.objs.size x y → h'.objs.size = h.objs.size + 1 →
        (∀ c o, c ≠ z → c ≠ TO → c ≠ i1 → c ≠ i2 → h.get? c = some o → h'.get? c = some o) →
        wpAny (model prog w) A.in1 (updateSeq S (·.push (Value.ref h.objs.size)) >>= fun _ => again (.builtin "list.extend.loop" ⟨[.ref S, .ref z, res], []⟩)) (fun fin s' => match fin with | .done f => R (.ok f) s' | .again c' => c'.quiet = true ∧ codeAny (model prog w) A c' R s') (fun e s' => R (.error e) s') { s with heap := h', toks := tk' } := by
      intro x y h' tk' px py hTI' st1' st2' ⟨T, f, oT, hz', hT', r1, r2⟩ ht hzz he
      have hS' := he S _ zS.symm TOS.symm i1S.symm i2S.symm hS
      have up : ∀ b o, b ≠ S → h'.get? b = some o → (h'.update S (Obj.mapSeq (·.push (Value.ref h.objs.size)))).get? b = some o := fun b o hb e => (Heap.get?_update_other _ _ (Ne.symm hb)).trans e
      refine wpAny_bind ?_
      refine wpAny_updateSeq hS' rfl (wpAny_pure ⟨plainId_quiet PySem.F.plain_extend_loop _, ih (i + 1) _ tk' _ (acc.push (Value.ref h.objs.size)) (as ++ [h.objs.size]) (by omega) hlt
        ⟨up _ _ TIS hTI', D1.frame _ _ _ st1' fun b hb o e => up b o (so b (.inr (.inr (.inr (.inr (.inr (.inl hb))))))) e, D2.frame _ _ _ st2' fun b hb o e => up b o (so b (.inr (.inr (.inr (.inr (.inr (.inr hb))))))) e, .inr ⟨T, f, oT, up _ _ zS hz', up _ _ r2 hT', r1, r2⟩⟩
        (fun b o h1 h2 h3 h4 h5 e => up b o h1 (he b o h2 h3 h4 h5 (hkeep b o h1 h2 h3 h4 h5 e))) (Heap.get?_update_self _ hS' rfl) (by rw [Array.toList_push, hacc, List.map_append]; rfl) (by rw [List.length_append, hal]; rfl) ⟨?_, ?_, ?_⟩ ?_⟩) (by rw [hsz]; omega) (by show (acc.push (Value.ref h.objs.size)).size ≤ sizeLine + 1; rw [Array.size_push, hsz]; omega)
      · refine List.pairwise_append.mpr ⟨hG.rise, List.pairwise_singleton _ _, fun a ha b hb => ?_⟩
        rw [List.mem_singleton.mp hb]
        exact hG.there ha
      · intro a ha
        rcases List.mem_append.mp ha with ha | ha
        · exact hG.above a ha
        · rw [List.mem_singleton.mp ha]; exact hIs
      · intro j b hj
        rcases Nat.lt_trichotomy j as.length with h1 | h1 | h1
        · rw [List.getElem?_append_left h1] at hj
          obtain ⟨x, y, e1, e2, e3⟩ := hG.pairs j b hj
          have ab := hG.above b (List.mem_of_getElem? hj)
          exact ⟨x, y, e1, e2, up b _ (Nat.ne_of_gt (Nat.lt_of_le_of_lt hS0 ab)) (he b _ (gt ab (.inl rfl)) (gt ab (.inr (.inr (.inl rfl)))) (gt ab (.inr (.inr (.inr (.inl rfl))))) (gt ab (.inr (.inr (.inr (.inr rfl))))) e3)⟩
        · subst h1
          have hb : h.objs.size = b := by simpa using hj
          subst hb
          exact ⟨x, y, by rw [hal]; exact px, by rw [hal]; exact py, up _ _ (Nat.ne_of_gt hSl) ht⟩
        · have hnone : (as ++ [h.objs.size])[j]? = none := List.getElem?_eq_none (by rw [List.length_append, List.length_singleton]; omega)
          rw [hnone] at hj; cases hj
      · have e : (h'.update S (Obj.mapSeq (·.push (Value.ref h.objs.size)))).get? h.objs.size = _ := up _ _ (Nat.ne_of_gt hSl) ht
        exact Nat.lt_trans hIs (Heap.lt_size e)
    rcases hz with ⟨hz, x, y, hTO⟩ | ⟨T, f, oT, hz, hT, r1, r2⟩
    · refine wpAny_bind (wpAny_pyNext_zipD2_item (s := { s with heap := h, toks := tk }) (A := A.in1) Sp D1 D2 hz hTI hTO st1 st2 hlt hlt fun x1 x2 h' tk' p1 p2 z' TO' q1 q2 ht hzz he => ?_)
      exact go x1 x2 h' tk' p1 p2 (he _ _ Sp.TIz Sp.TITO Sp.TIi1 Sp.TIi2 hTI) q1 q2 ⟨_, false, _, z', ht, hIs, Nat.ne_of_gt hSl⟩ ht hzz he
    · refine wpAny_bind (pyNextH_item (s := { s with heap := h, toks := tk }) (A := A.in1) Sp D1 D2 hz hT hTI st1 st2 hlt hlt fun x1 x2 h' tk' p1 p2 z' q1 q2 ht hzz he => ?_)
      exact go x1 x2 h' tk' p1 p2 (he _ _ Sp.TIz Sp.TIi1 Sp.TIi2 hTI) q1 q2 ⟨T, true, oT, z', he _ _ (gt r1 (.inl rfl)) (gt r1 (.inr (.inr (.inr (.inl rfl))))) (gt r1 (.inr (.inr (.inr (.inr rfl))))) hT, r1, r2⟩ ht hzz fun c o c1 _ c3 c4 e => he c o c1 c3 c4 e
end

section
variable {prog : Program} {w : World} {A : Around} {E : Value → Shared → Prop} {s : Shared} {z TI TO i1 i2 : Addr} {fp1 fp2 : List Addr} {n : Nat} {P1 P2 : Nat → Value → Prop} {St1 St2 : Nat → Heap → Prop}
theorem extZ {R : Result → Shared → Prop} {S : Addr} (Sp : ZipSep2 z TI TO i1 i2 fp1 fp2) (D1 : Draws prog w A.in1.in1 i1 fp1 n P1 St1) (D2 : Draws prog w A.in1.in1 i2 fp2 n P2 St2) (big : ∀ c, c = z ∨ c = TI ∨ c = TO ∨ c = i1 ∨ c = i2 ∨ c ∈ fp1 ∨ c ∈ fp2 → c < S)
    (hz : IsZip s.heap z TI TO .none) (hTI : IsTupOf2 s.heap TI (.ref i1) (.ref i2)) (hTO : ∃ x y, IsTupOf2 s.heap TO x y) (st1 : St1 0 s.heap) (st2 : St2 0 s.heap) (res : Value) (c₀ : Nat) (hS : s.heap.get? S = some { cls := .type "list", data := .seq #[] c₀ })
    (hR : ∀ h' tk acc c as, (∀ b o, b ≠ S → b ≠ z → b ≠ TO → b ≠ i1 → b ≠ i2 → s.heap.get? b = some o → h'.get? b = some o) → h'.get? S = some { cls := .type "list", dict := none, data := .seq acc c, slots := #[] } → as.length = n → MadeP P1 P2 S h' as →
      acc.toList = as.map Value.ref → R (.ok (.ret res)) { s with heap := h', toks := tk }) (hn : n ≤ sizeLine) :
    wpAny (model prog w) A.in1 (Builtin.List.listExtendWith (.ref S) (.ref z) res)
      (fun fin s' => match fin with | .done f => R (.ok f) s' | .again c' => c'.quiet = true ∧ codeAny (model prog w) A c' R s') (fun e s' => R (.error e) s') s := by
  have zS : S ≠ z := Nat.ne_of_gt (big z (.inl rfl))
  have hTy : s.TypeIs (.ref z) "zip" := ⟨_, hz, rfl⟩
  unfold Builtin.List.listExtendWith
  refine wpAny_bind (wpAny_typeOf (T := "zip") hTy ?_)
  have h1 : Builtin.List.listSameRef (.ref S) (.ref z) = false := by simp [Builtin.List.listSameRef, zS]
  have h2 : (Value.type "zip" == Value.type "list") = false := by decide
  have h3 : (Value.type "zip" == Value.type "tuple") = false := by decide
  simp only [h1, h2, h3, Bool.or_false, Bool.false_eq_true, if_false]
  refine wpAny_bind (wpAny_pyIter_zip hz ?_)
  refine wpAny_bind (wpAny_holding ?_)
  unfold Builtin.List.listLengthHint
  refine wpAny_bind (wpAny_specialOf hTy zip_len_none ?_)
  show wpAny _ A.in1 (specialOf (Value.ref z) (Str.ofString "__length_hint__") >>= _) _ _ _
  refine wpAny_bind (wpAny_specialOf hTy zip_hint_none ?_)
  refine wpAny_pure ?_
  show wpAny _ A.in1 (rule "list.extend.makes-room" >>= fun _ => Builtin.List.listTouch (.ref S) >>= fun _ =>
    again (.builtin "list.extend.loop" ⟨[.ref S, .ref z, res], []⟩)) _ _ _
  refine wpAny_bind (wpAny_rule ?_)
  refine wpAny_bind ?_
  show wpAny _ A.in1 (updateSeq S (·.push .none) >>= fun _ => updateSeq S (·.pop)) _ _ _
  refine wpAny_bind (wpAny_updateSeq hS rfl ?_)
  have hS₂ := Heap.get?_update_self (Obj.mapSeq (·.push Value.none)) hS rfl
  refine wpAny_updateSeq (hz := by seq_fits) hS₂ rfl ?_
  have hS₃ := Heap.get?_update_self (Obj.mapSeq (·.pop)) hS₂ rfl
  have oth : ∀ b o, b ≠ S → s.heap.get? b = some o → ((s.heap.update S (Obj.mapSeq (·.push Value.none))).update S (Obj.mapSeq (·.pop))).get? b = some o :=
    fun b o hb e => (Heap.get?_update_other _ _ (Ne.symm hb)).trans ((Heap.get?_update_other _ _ (Ne.symm hb)).trans e)
  have ne : ∀ c, c = z ∨ c = TI ∨ c = TO ∨ c = i1 ∨ c = i2 ∨ c ∈ fp1 ∨ c ∈ fp2 → c ≠ S := fun c hc => Nat.ne_of_lt (big c hc)
  obtain ⟨x, y, hTO⟩ := hTO
  refine wpAny_pure ⟨plainId_quiet PySem.F.plain_extend_loop _, ?_⟩
  exact loopZ (s := s) (h₁ := s.heap) (hi := S) Sp D1 D2 (fun c hc => Nat.le_of_lt (big c (by rcases hc with q | q | q | q | q <;> simp [q]))) (fun c hc => Nat.ne_of_lt (big c hc)) (Nat.le_refl _) hn res hR n 0 _ s.toks _ #[] [] (Nat.sub_zero _) (Nat.zero_le _)
    ⟨oth _ _ (ne TI (.inr (.inl rfl))) hTI, D1.frame _ _ _ st1 fun b hb o e => oth b o (ne b (.inr (.inr (.inr (.inr (.inr (.inl hb))))))) e, D2.frame _ _ _ st2 fun b hb o e => oth b o (ne b (.inr (.inr (.inr (.inr (.inr (.inr hb))))))) e,
      .inl ⟨oth _ _ (ne z (.inl rfl)) hz, x, y, oth _ _ (ne TO (.inr (.inr (.inl rfl)))) hTO⟩⟩ (fun b o q1 _ _ _ _ e => oth b o q1 e) hS₃ rfl rfl ⟨List.Pairwise.nil, (fun _ ha => nomatch ha), (fun j a hj => by simp at hj)⟩ (Heap.lt_size hS₃)
theorem initZ {R : Result → Shared → Prop} {S : Addr} (Sp : ZipSep2 z TI TO i1 i2 fp1 fp2) (D1 : Draws prog w A.in1.in1 i1 fp1 n P1 St1) (D2 : Draws prog w A.in1.in1 i2 fp2 n P2 St2) (big : ∀ c, c = z ∨ c = TI ∨ c = TO ∨ c = i1 ∨ c = i2 ∨ c ∈ fp1 ∨ c ∈ fp2 → c < S)
    (hz : IsZip s.heap z TI TO .none) (hTI : IsTupOf2 s.heap TI (.ref i1) (.ref i2)) (hTO : ∃ x y, IsTupOf2 s.heap TO x y) (st1 : St1 0 s.heap) (st2 : St2 0 s.heap) (hS : s.heap.get? S = some { cls := .type "list", data := .seq #[] })
    (hR : ∀ h' tk acc c as, (∀ b o, b ≠ S → b ≠ z → b ≠ TO → b ≠ i1 → b ≠ i2 → s.heap.get? b = some o → h'.get? b = some o) → h'.get? S = some { cls := .type "list", dict := none, data := .seq acc c, slots := #[] } → as.length = n → MadeP P1 P2 S h' as →
      acc.toList = as.map Value.ref → R (.ok (.ret .none)) { s with heap := h', toks := tk }) (hn : n ≤ sizeLine) :
    wpAny (model prog w) A.in1 (Builtin.«list.__init__» ⟨[.ref S, .ref z], []⟩)
      (fun fin s' => match fin with | .done f => R (.ok f) s' | .again c' => c'.quiet = true ∧ codeAny (model prog w) A c' R s') (fun e s' => R (.error e) s') s := by
  show wpAny _ _ (do let old ← Builtin.List.listItems (.ref S); Builtin.List.listUpdate (.ref S) (fun _ => #[]); letGo old.toList.reverse; Builtin.List.listExtendWith (.ref S) (.ref z) .none) _ _ s
  refine wpAny_bind ?_
  unfold Builtin.List.listItems
  refine wpAny_bind (wpAny_seqItems hS rfl (wpAny_pure ?_))
  show wpAny _ _ (updateSeq S (fun _ => #[]) >>= fun _ => letGo (#[] : Array Value).toList.reverse >>= fun _ => Builtin.List.listExtendWith (.ref S) (.ref z) .none) _ _ s
  refine wpAny_bind (wpAny_updateSeq hS rfl ?_)
  have hS₂ := Heap.get?_update_self (Obj.mapSeq (fun _ => (#[] : Array Value))) hS rfl
  have oth : ∀ b o, b ≠ S → s.heap.get? b = some o → (s.heap.update S (Obj.mapSeq (fun _ => (#[] : Array Value)))).get? b = some o :=
    fun b o hb e => (Heap.get?_update_other _ _ (Ne.symm hb)).trans e
  have ne : ∀ c, c = z ∨ c = TI ∨ c = TO ∨ c = i1 ∨ c = i2 ∨ c ∈ fp1 ∨ c ∈ fp2 → c ≠ S := fun c hc => Nat.ne_of_lt (big c hc)
  refine wpAny_bind (wpAny_letGo ?_)
  obtain ⟨x, y, hTO⟩ := hTO
  exact extZ Sp D1 D2 big (oth _ _ (ne z (.inl rfl)) hz) (oth _ _ (ne TI (.inr (.inl rfl))) hTI) ⟨x, y, oth _ _ (ne TO (.inr (.inr (.inl rfl)))) hTO⟩
    (D1.frame _ _ _ st1 fun b hb o e => oth b o (ne b (.inr (.inr (.inr (.inr (.inr (.inl hb))))))) e) (D2.frame _ _ _ st2 fun b hb o e => oth b o (ne b (.inr (.inr (.inr (.inr (.inr (.inr hb))))))) e) .none _ hS₂
    (fun h' tk acc c as hk hS' hl hG hacc => hR h' tk acc c as (fun b o q1 q2 q3 q4 q5 e => hk b o q1 q2 q3 q4 q5 (oth b o q1 e)) hS' hl hG hacc) hn
theorem callZ {Q : Value → Shared → Prop} (Sp : ZipSep2 z TI TO i1 i2 fp1 fp2) (D1 : Draws prog w A.in1.in1.in1 i1 fp1 n P1 St1) (D2 : Draws prog w A.in1.in1.in1 i2 fp2 n P2 St2) (big : ∀ c, c = z ∨ c = TI ∨ c = TO ∨ c = i1 ∨ c = i2 ∨ c ∈ fp1 ∨ c ∈ fp2 → c < s.heap.objs.size)
    (hz : IsZip s.heap z TI TO .none) (hTI : IsTupOf2 s.heap TI (.ref i1) (.ref i2)) (hTO : ∃ x y, IsTupOf2 s.heap TO x y) (st1 : St1 0 s.heap) (st2 : St2 0 s.heap) (hn : n ≤ sizeLine)
    (hQ : ∀ h' tk acc c as, (∀ b o, b ≠ z → b ≠ TO → b ≠ i1 → b ≠ i2 → s.heap.get? b = some o → h'.get? b = some o) → h'.get? s.heap.objs.size = some { cls := .type "list", dict := none, data := .seq acc c, slots := #[] } → as.length = n → MadeP P1 P2 s.heap.objs.size h' as →
      acc.toList = as.map Value.ref → Q (.ref s.heap.objs.size) { s with heap := h', toks := tk }) :
    wpAny (model prog w) A (call (.type "list") [.ref z]) Q E s := by
  refine callType_codes (Q₁ := fun obj s₁ => obj = .ref s.heap.objs.size ∧ s₁ = { s with heap := s.heap.push { cls := .type "list", data := .seq #[] } }) PySem.F.called_list (PySem.F.typeCall_list_1 _) PySem.F.entry_list_init
    (code_list_new _ ⟨rfl, rfl⟩) fun obj s₁ h₁ => ?_
  obtain ⟨rfl, rfl⟩ := h₁
  have hS : (s.heap.push { cls := .type "list", data := .seq #[] }).get? s.heap.objs.size = some { cls := .type "list", data := .seq #[] } := Heap.get?_push_size _ rfl
  have up : ∀ b o, s.heap.get? b = some o → (s.heap.push { cls := .type "list", data := .seq #[] }).get? b = some o := fun b o e => Heap.get?_push_of_some _ e
  obtain ⟨x, y, hTO⟩ := hTO
  refine ⟨⟨_, hS, rfl⟩, PySem.F.args_list_init_2 _ _, initZ (A := A.in1) Sp D1 D2 big (up _ _ hz) (up _ _ hTI) ⟨x, y, up _ _ hTO⟩ (D1.frame _ _ _ st1 fun b hb o e => up b o e) (D2.frame _ _ _ st2 fun b hb o e => up b o e) hS (fun h' tk acc c as hk hS' hl hG hacc => ?_) hn⟩
  exact ⟨rfl, hQ h' tk acc c as (fun b o q2 q3 q4 q5 e => hk b o (Nat.ne_of_lt (Heap.lt_size e)) q2 q3 q4 q5 (up b o e)) hS' hl hG hacc⟩
end

theorem two_off {x p q : Addr} (h1 : x ≠ p) (h2 : x ≠ q) : x ∉ [p, q] := fun h => by
  rcases List.mem_cons.mp h with e | e
  · exact h1 e
  · exact h2 (List.mem_singleton.mp e)
theorem vals_refs : ∀ as : List Addr, Vals (as.map V.ref) (as.map Value.ref)
  | [] => .nil
  | _ :: l => .cons rfl (vals_refs l)
/-- new pairs, tracked -/
def layZ (H : Hp) : List (Addr × V × V) → Hp
  | [] => H
  | q :: l => upd (layZ H l) q.1 (.tup [q.2.1, q.2.2])
theorem layZ_off {H : Hp} {b : Addr} : ∀ {l : List (Addr × V × V)}, (∀ q ∈ l, q.1 ≠ b) → layZ H l b = H b
  | [], _ => rfl
  | q :: l, h => by
    show upd (layZ H l) q.1 _ b = _
    rw [upd_ne (fun e => h q List.mem_cons_self e.symm), layZ_off fun r hr => h r (List.mem_cons_of_mem _ hr)]
theorem layZ_on {H : Hp} : ∀ {l : List (Addr × V × V)} {q : Addr × V × V}, (l.map (·.1)).Nodup → q ∈ l → layZ H l q.1 = some (.tup [q.2.1, q.2.2])
  | r :: l, q, hn, h => by
    rw [List.map_cons, List.nodup_cons] at hn
    rcases List.mem_cons.mp h with e | e
    · subst e; exact upd_same
    · have ne : q.1 ≠ r.1 := fun e' => hn.1 (by rw [← e']; exact List.mem_map.mpr ⟨q, e, rfl⟩)
      show upd (layZ H l) r.1 _ q.1 = _
      rw [upd_ne ne]; exact layZ_on hn.2 e
theorem layZ_cases {H : Hp} {b : Addr} {o : HO} : ∀ {l : List (Addr × V × V)}, layZ H l b = some o → (∃ q ∈ l, q.1 = b ∧ o = .tup [q.2.1, q.2.2]) ∨ (H b = some o)
  | [], h => .inr h
  | q :: l, h => by
    by_cases e : b = q.1
    · subst e
      have h' : upd (layZ H l) q.1 (.tup [q.2.1, q.2.2]) q.1 = some o := h
      rw [upd_same] at h'
      exact .inl ⟨q, List.mem_cons_self, rfl, (Option.some.inj h').symm⟩
    · have h' : upd (layZ H l) q.1 (.tup [q.2.1, q.2.2]) b = some o := h
      rw [upd_ne e] at h'
      rcases layZ_cases h' with ⟨r, hr, x⟩ | x
      · exact .inl ⟨r, List.mem_cons_of_mem _ hr, x⟩
      · exact .inr x
/-- many objects laid at once -/
theorem inv_many {X : Cx} {pins : List (Addr × Obj)} {σ : L2.St} {H H' : Hp} {s : Shared} {h' : Heap} {t' : Nat} {ch : List Addr} (I : Inv X pins σ H s) (k : ∀ b o, b ∉ ch → s.heap.get? b = some o → h'.get? b = some o) (hf : ∀ b ∈ ch, FpOk X pins H b)
    (old : ∀ b, b < s.heap.objs.size → H' b = H b) (new : ∀ b o, s.heap.objs.size ≤ b → H' b = some o → ObjOk X.prog X.w H' h' b o) : Inv X pins σ H' { s with heap := h', toks := t' } := by
  have lt : ∀ {b : Addr} {u : HO}, H b = some u → b < s.heap.objs.size := fun {b u} e => (I.hok b u e).lt
  have nit : ∀ b u, H b = some u → b ∉ ch := fun b u e z => by
    have q := (hf b z).1
    rw [q] at e; cases e
  refine I.step (g' := s.gens) (d' := s.drawn) (ch := ch) (fun b hb => ⟨(hf b hb).2.2.2.1, (hf b hb).2.1, (hf b hb).2.2.2.2.1, (hf b hb).2.2.2.2.2⟩) (fun b o _ _ hc e _ => k b o hc e) (fun b o _ _ hc e _ => ⟨o.slots, k b o hc e⟩)
    (fun b o _ e n => ?_) (fun b o hc e => ⟨o, k b o hc e⟩) (fun b xs e => ?_) (fun b o u e => ?_) (fun b ps e => ⟨#[], ?_⟩) (fun m hm => ?_) (fun b u e => ?_) I.bare
  · rw [old b (Heap.lt_size e)]; exact n
  · rw [old b (lt e)]; exact e
  · rw [old b (lt e)]; exact e
  · rw [old b (lt e), e]; simp
  · obtain ⟨o, es, ep, ho, r⟩ := hm
    exact ⟨o, es, ep, k _ o (fun z => (hf _ z).2.1 rfl) ho, r⟩
  · by_cases hb : b < s.heap.objs.size
    · rw [old b hb] at e
      refine (I.hok b u e).stay (fun c v hc q => k c v ?_ q) (fun c q => by rw [old c (lt q)]; exact q) fun c xs q => by rw [old c (lt q)]; exact q
      rcases hc with z | z
      · rw [z]; exact nit b u e
      · exact nit c _ z
    · exact new b u (Nat.le_of_not_lt hb) e
section
variable {X : Cx}
/-- list(zip(t, l)) where t is a tuple and l a list of one length -/
def tListZip (K : PySem.W.Frag) (ta : TA) : TE := fun σ H Q => ta σ H fun vs H1 => ∃ (a b : Addr) (xs ys : List V), vs = [.ref a, .ref b] ∧ SqT K H1 a xs ∧ SqL K H1 b ys ∧ xs.length = ys.length ∧
  ∀ (D : Addr) (as : List Addr) (H2 : Hp), Same H1 H2 → H1 D = none → H2 D = some (.lst (as.map V.ref)) → as.length = xs.length → (∀ (j : Nat) (T : Addr), as[j]? = some T → ∃ x y, xs[j]? = some x ∧ ys[j]? = some y ∧ H2 T = some (.tup [x, y])) → Q (.ref D) H2
theorem pe_listZip {e e2 : Expr} {ta : TA} {p p2 pos pos2 : Pos} (hc : X.calm = true) (hg : Gl X "list") (hm : X.mg "list" = none) (hg2 : Gl X "zip") (hm2 : X.mg "zip" = none) (ha : PA X [e, e2] ta)
    (hs : starEach [e, e2] X.env = (false, eval e X.env) :: starEach [e2] X.env := by rfl) (hpl : (backTo pos2 (starEach [e2] X.env)).any (·.1) = false := by rfl)
    (na : starEach [.Call (.Name "zip" p2) [e, e2] [] pos2] X.env = (false, eval (.Call (.Name "zip" p2) [e, e2] [] pos2) X.env) :: starEach [] X.env := by rfl) :
    PE X (.Call (.Name "list" p) [.Call (.Name "zip" p2) [e, e2] [] pos2] [] pos) (tListZip X.K ta) := by
  refine ⟨fun pins s σ H R I h => ?_⟩
  refine Call_ (ld_blt I hg hm PyProof.Rows.boot_list (PyProof.Rows.callWith_type1 (args_cons ?_ na) na))
  refine Call_ (ld_blt I hg2 hm2 PyProof.Rows.boot_zip (PyProof.Rows.callWith_type1 (thn (ha.run pos2 pins s σ H _ I h) fun us s1 ⟨vs, H1, I1, r1, q1⟩ => ?_) hs hpl))
  obtain ⟨a, b, xs, ys, ex, qa, qb, hl, q⟩ := q1
  subst ex
  obtain ⟨u1, u2, rfl, rfl, rfl⟩ := vals2 r1
  obtain ⟨its, rv, p1, lz⟩ := I1.tuple qa
  obtain ⟨its2, rv2, p2', _⟩ := I1.list qb
  have l1 := rv.length
  have l2 := rv2.length
  refine zip_begins2 (begins_tuple a its.toArray) (begins_list b its2.toArray) (show s1.heap.IsTuple a its.toArray from p1) p2'.isList fun h' hz hTI hTO h1 h2 hsz hk => ?_
  refine args_nil ?_
  have hn : ∀ c, c ∈ five (s1.heap.objs.size + 4) (s1.heap.objs.size + 2) (s1.heap.objs.size + 3) s1.heap.objs.size (s1.heap.objs.size + 1) → s1.heap.objs.size ≤ c ∧ c < h'.objs.size := fun c hc => by
    rw [hsz]
    rcases five_cases hc with q | q | q | q | q <;> rw [q]
    · exact ⟨Nat.le_add_right _ _, Nat.lt_succ_self _⟩
    · exact ⟨Nat.le_add_right _ _, Nat.add_lt_add_left (by decide) _⟩
    · exact ⟨Nat.le_add_right _ _, Nat.add_lt_add_left (by decide) _⟩
    · exact ⟨Nat.le_refl _, Nat.lt_add_of_pos_right (by decide)⟩
    · exact ⟨Nat.le_add_right _ _, Nat.add_lt_add_left (by decide) _⟩
  have la : a < s1.heap.objs.size := p1.lt
  have lb : b < s1.heap.objs.size := p2'.lt
  have hlt : ∀ m k : Nat, m ≠ k → s1.heap.objs.size + m ≠ s1.heap.objs.size + k := fun m k h e => h (Nat.add_left_cancel e)
  have ga : ∀ m : Nat, s1.heap.objs.size + m ≠ a := fun m => Nat.ne_of_gt (Nat.lt_of_lt_of_le la (Nat.le_add_right _ _))
  have gb : ∀ m : Nat, s1.heap.objs.size + m ≠ b := fun m => Nat.ne_of_gt (Nat.lt_of_lt_of_le lb (Nat.le_add_right _ _))
  have sep : ZipSep2 (s1.heap.objs.size + 4) (s1.heap.objs.size + 2) (s1.heap.objs.size + 3) s1.heap.objs.size (s1.heap.objs.size + 1) [s1.heap.objs.size, a] [s1.heap.objs.size + 1, b] :=
    ⟨hlt 2 4 (by decide), hlt 3 4 (by decide), hlt 2 3 (by decide), hlt 2 0 (by decide), by simp, two_off (hlt 4 0 (by decide)) (ga 4), two_off (hlt 3 0 (by decide)) (ga 3), hlt 2 1 (by decide), by simp, two_off (hlt 4 1 (by decide)) (gb 4), two_off (hlt 3 1 (by decide)) (gb 3), two_off (hlt 0 1 (by decide)) (gb 0), two_off (hlt 1 0 (by decide)) (ga 1)⟩
  have I2 : Inv X pins σ H1 { s1 with heap := h' } := I1.kept (t' := s1.toks) hk
  have sa : its.toArray.size = its2.toArray.size := by simp; omega
  have D2 := Draws.list (prog := X.prog) (w := X.w) (A := X.A.in1.in1.in1) (I2.ok.hd hc) (s1.heap.objs.size + 1) b (gb 1).symm its2.toArray
  rw [← sa] at D2
  refine callZ (s := { s1 with heap := h' }) sep (Draws.tuple (A := X.A.in1.in1.in1) (I2.ok.hd hc) s1.heap.objs.size a (ga 0).symm its.toArray) D2 (fun c hc => ?_) hz hTI ⟨_, _, hTO⟩ ⟨⟨_, h1, rfl, rfl⟩, (show s1.heap.IsTuple a its.toArray from p1).at fun o e => hk _ o e⟩ ⟨⟨_, h2, rfl, rfl⟩, p2'.isList.at fun o e => hk _ o e⟩ (by simp; omega) fun h2 tk acc c as hkk hS hln made hacc => ?_
  · have : c ∈ five (s1.heap.objs.size + 4) (s1.heap.objs.size + 2) (s1.heap.objs.size + 3) s1.heap.objs.size (s1.heap.objs.size + 1) ∨ c = a ∨ c = b := by
      simp at hc ⊢
      rcases hc with q | q | q | q | q | (q | q) | (q | q) <;> simp [q]
    show c < h'.objs.size
    rcases this with q | q | q
    · exact (hn c q).2
    · rw [q]; exact Nat.lt_of_lt_of_le la (by rw [hsz]; exact Nat.le_add_right _ _)
    · rw [q]; exact Nat.lt_of_lt_of_le lb (by rw [hsz]; exact Nat.le_add_right _ _)
  · have l3 : as.length = xs.length := by rw [hln]; simp; omega
    have dl : h'.objs.size = s1.heap.objs.size + 5 := hsz
    generalize hD : ({ s1 with heap := h' } : Shared).heap.objs.size = D at hS made ⊢
    have hD' : h'.objs.size = D := hD
    let tr : List (Addr × V × V) := as.zip (xs.zip ys)
    have trm : tr.map (·.1) = as := by
      show (as.zip (xs.zip ys)).map Prod.fst = as
      rw [List.map_fst_zip]; rw [List.length_zip]; omega
    have nd : (tr.map (·.1)).Nodup := by
      rw [trm]; exact made.rise.imp fun h => Nat.ne_of_lt h
    have trg : ∀ q ∈ tr, ∃ j, as[j]? = some q.1 ∧ xs[j]? = some q.2.1 ∧ ys[j]? = some q.2.2 := fun q hq => by
      obtain ⟨j, hj⟩ := List.mem_iff_getElem?.mp hq
      have hj' : (as.zip (xs.zip ys))[j]? = some q := hj
      rw [List.getElem?_zip_eq_some] at hj'
      obtain ⟨e1, e2⟩ := hj'
      rw [List.getElem?_zip_eq_some] at e2
      exact ⟨j, e1, e2⟩
    have ab : ∀ q ∈ tr, D < q.1 := fun q hq => by
      obtain ⟨j, e, _⟩ := trg q hq
      exact made.above _ (List.mem_of_getElem? e)
    have nD : H1 D = none := I2.hok.fresh (Nat.le_of_eq hD)
    let H2 : Hp := upd (layZ H1 tr) D (.lst (as.map V.ref))
    have e2 : ∀ b, b < D → H2 b = H1 b := fun b hb => by
      show upd (layZ H1 tr) D _ b = _
      rw [upd_ne (Nat.ne_of_lt hb), layZ_off fun q hq => Nat.ne_of_gt (Nat.lt_trans hb (ab q hq))]
    have on : ∀ q ∈ tr, H2 q.1 = some (.tup [q.2.1, q.2.2]) := fun q hq => by
      show upd (layZ H1 tr) D _ q.1 = _
      rw [upd_ne (Nat.ne_of_gt (ab q hq)), layZ_on nd hq]
    have I3 : Inv X pins σ H2 { s1 with heap := h2, toks := tk } := by
      refine inv_many (s := { s1 with heap := h' }) (ch := five (s1.heap.objs.size + 4) (s1.heap.objs.size + 2) (s1.heap.objs.size + 3) s1.heap.objs.size (s1.heap.objs.size + 1)) I2 (fun b o hb e => hkk b o (fun z => hb (by simp [z])) (fun z => hb (by simp [z])) (fun z => hb (by simp [z])) (fun z => hb (by simp [z])) e)
        (fun c hcm => I1.fpOk (hn c hcm).1 (I1.hok.fresh (hn c hcm).1)) (fun b hb => e2 b (by rw [← hD']; exact hb)) (fun b o hb e => ?_)
      have hb' : D ≤ b := by rw [← hD']; exact hb
      by_cases hbD : b = D
      · subst hbD
        have e' : upd (layZ H1 tr) b (.lst (as.map V.ref)) b = some o := e
        rw [upd_same] at e'
        obtain rfl := Option.some.inj e'
        refine ⟨by rw [List.length_map]; omega, acc.toList, c, ?_, by rw [Array.toArray_toList]; exact hS⟩
        rw [hacc]
        exact vals_refs as
      · have e' : upd (layZ H1 tr) D (.lst (as.map V.ref)) b = some o := e
        rw [upd_ne hbD] at e'
        rcases layZ_cases e' with ⟨q, hq, rfl, rfl⟩ | z
        · obtain ⟨j, e1, e3, e4⟩ := trg q hq
          obtain ⟨u, v, p1', p2'', ht⟩ := made.pairs j _ e1
          obtain ⟨u', hu, ru⟩ := rv.get e3
          obtain ⟨v', hv, rv'⟩ := rv2.get e4
          have eu : u' = u := by
            have p : its.toArray[j]? = some u := p1'
            rw [List.getElem?_toArray, hu] at p; exact Option.some.inj p
          have ev : v' = v := by
            have p : its2.toArray[j]? = some v := p2''
            rw [List.getElem?_toArray, hv] at p; exact Option.some.inj p
          subst eu ev
          exact ⟨by show 2 ≤ sizeLine; decide, [_, _], .cons ru (.cons rv' .nil), ⟨_, ht, rfl, _, rfl⟩⟩
        · exact absurd (Nat.lt_of_lt_of_le (I2.hok.lt z) (Nat.le_of_eq hD')) (Nat.not_lt.mpr hb')
    refine ⟨.ref D, H2, I3, rfl, q D as H2 (fun b o e => ?_) nD ?_ l3 fun j T hj => ?_⟩
    · rw [e2 b (Nat.lt_of_lt_of_le (I2.hok.lt e) (Nat.le_of_eq hD'))]; exact e
    · show upd (layZ H1 tr) D _ D = _
      rw [upd_same]
    · have hjl : j < as.length := by
        rcases Nat.lt_or_ge j as.length with h | h
        · exact h
        · rw [List.getElem?_eq_none h] at hj; cases hj
      have hx : xs[j]? = some (xs[j]'(by omega)) := List.getElem?_eq_getElem _
      have hy : ys[j]? = some (ys[j]'(by omega)) := List.getElem?_eq_getElem _
      refine ⟨_, _, hx, hy, on (T, _, _) (List.mem_of_getElem? (i := j) ?_)⟩
      show (as.zip (xs.zip ys))[j]? = _
      rw [List.getElem?_zip_eq_some]
      refine ⟨hj, ?_⟩
      show (xs.zip ys)[j]? = some (_, _)
      rw [List.getElem?_zip_eq_some]
      exact ⟨hx, hy⟩
end
end K39
end Text_K39Y

section Text_K39P
set_option Elab.async false set_option linter.all false set_option maxRecDepth 100000 set_option maxHeartbeats 4000000
/-! Names: what the small tests answer for what is as expected. -/
namespace K39
open PySem PySem.Spec PyProof.Rows L2

/-! ### isinstance, as it is asked here -/
inductive IsA (K : PySem.W.Frag) (H : Hp) : V → V → Bool → Prop
  | intI (i : Int) : IsA K H (.int i) (.ty "int") true
  | intB (i : Int) : IsA K H (.int i) (.ty "bool") false
  | strS (z : Str) : IsA K H (.str z) (.ty "str") true
  | tupT {a : Addr} {ys : List V} (h : SqT K H a ys) : IsA K H (.ref a) (.ty "tuple") true
  | own {a C : Addr} (h : TyX K H (.ref a) (.ref C)) : IsA K H (.ref a) (.ref C) true
theorem sqt_ty {K : PySem.W.Frag} {H : Hp} {a : Addr} {ys : List V} (h : SqT K H a ys) : TyX K H (.ref a) (.type "tuple") := by
  rcases h with (h | ⟨o, h⟩) | ⟨o, its, n, h1, h2, _⟩
  · exact .base (.tup h)
  · exact .fTuple h
  · exact .kTuple h1 h2
section
variable {X : Cx}
def rIs (K : PySem.W.Frag) : List V → Hp → VK → Prop := fun xs H Q => ∃ x c b, xs = [x, c] ∧ IsA K H x c b ∧ Q (.bl b) H
def rLenQ (K : PySem.W.Frag) : List V → Hp → VK → Prop := fun xs H Q => ∃ p ys, xs = [.ref p] ∧ (SqL K H p ys ∨ SqT K H p ys) ∧ Q (.int ys.length) H
theorem cr_lenQ : CallR X (.builtin "len") (rLenQ X.K) := call_len_seq
theorem cr_is : CallR X (.builtin "isinstance") (rIs X.K) := by
  intro pins s σ H xs us Q I r h
  obtain ⟨x, c, b, rfl, d, q⟩ := h
  refine call_isi pins s σ H _ us Q I r ?_
  cases d with
  | intI i => exact ⟨_, _, _, _, _, rfl, .ty _, .base (.int i), kit_ty (by decide +kernel), q⟩
  | intB i => exact ⟨_, _, _, _, _, rfl, .ty _, .base (.int i), kit_ty (by decide +kernel), q⟩
  | strS z => exact ⟨_, _, _, _, _, rfl, .ty _, .base (.str z), kit_ty (by decide +kernel), q⟩
  | tupT h => exact ⟨_, _, _, _, _, rfl, .ty _, sqt_ty h, kit_ty (by decide +kernel), q⟩
  | @own a C h => exact ⟨_, _, _, _, true, rfl, .own _, h, (by unfold PySem.W.kitOne; rw [if_pos (beq_self_eq_true _)]), q⟩
end
theorem iteTr {A B : Prop} {c : Prop} [Decidable c] (hc : c) (h : A) : if c then A else B := by rw [if_pos hc]; exact h
theorem iteFr {A B : Prop} {c : Prop} [Decidable c] (hc : ¬ c) (h : B) : if c then A else B := by rw [if_neg hc]; exact h

abbrev G200 : Int := 10 ^ 200 - 1
variable {P : Program} {w : World} {K : PySem.W.Frag} {mg : Str → Option Value} {base : Heap}
def sp_is_integer (w : World) (K : PySem.W.Frag) : Sp := fun vs H Q E => ∃ i : Int, vs = [.int i] ∧ -G200 ≤ i ∧ i ≤ G200 ∧ Q (.bl true) H
abbrev N_is_integer : List Str := ["value"]
theorem sc_is_integer : FnScope N_is_integer ["value"] (defScope s_is_integer) := ⟨rfl, rfl, rfl, by decide +kernel, rfl, by decide +kernel, by decide +kernel⟩
theorem p_is_integer (T : Tx K mg) : Fn P w K mg base 1 "is_integer" (sp_is_integer w K) := by
  refine fn_mk T.d_is_integer T.g_is_integer sc_is_integer (fun _ _ _ _ _ _ us h => by match us, h with | [_], _ => rfl) (fun vs H Q E ⟨i, e, h1, h2, q⟩ => by rw [e]; rfl) fun cdv A outer s H vs Q E hr ⟨i, e, h1, h2, q⟩ => ?_
  subst e
  have hu := hr.units
  have nd := sc_is_integer.nd
  refine ⟨_, (pss_one (ps_ret (pe_and (pe_callB cr_is (by rfl) T.b_isinstance (by decide +kernel) (pa_cons (pv 0) (pa_cons (pty (n := "int") T.b_int (by decide +kernel)) pa_nil))) (pe_and (pe_not (pe_callB cr_is (by rfl) T.b_isinstance (by decide +kernel) (pa_cons (pv 0) (pa_cons (pty (n := "bool") T.b_bool (by decide +kernel)) pa_nil)))) (pe_one (pe_chain op_le op_le (pe_un un_neg (pgi T.i_GREATEST)) (pv 0) (pgi T.i_GREATEST))))))), ?_⟩
  refine ⟨_, rfl, _, _, _, rfl, .intI i, true, rfl, iteT ⟨_, rfl, _, _, _, rfl, .intB i, false, rfl, true, rfl, iteT ?_⟩⟩
  refine ⟨_, rfl, _, rfl, _, _, rfl, rfl, _, rfl, iteTr (decide_eq_true h1) ⟨_, _, rfl, rfl, ?_⟩⟩
  show Q (.bl (decide (_ ≤ _))) H
  rw [decide_eq_true h2]; exact q
def sp_is_integer_within (w : World) (K : PySem.W.Frag) : Sp := fun vs H Q E => ∃ i lo hi : Int, vs = [.int i, .int lo, .int hi] ∧ lo ≤ i ∧ i ≤ hi ∧ -G200 ≤ i ∧ i ≤ G200 ∧ Q (.bl true) H
abbrev N_is_integer_within : List Str := ["value", "low", "high"]
theorem sc_is_integer_within : FnScope N_is_integer_within ["value", "low", "high"] (defScope s_is_integer_within) := ⟨rfl, rfl, rfl, by decide +kernel, rfl, by decide +kernel, by decide +kernel⟩
theorem p_is_integer_within (T : Tx K mg) : Fn P w K mg base 2 "is_integer_within" (sp_is_integer_within w K) := by
  refine fn_mk T.d_is_integer_within T.g_is_integer_within sc_is_integer_within (fun _ _ _ _ _ _ us h => by match us, h with | [_, _, _], _ => rfl) (fun vs H Q E ⟨i, lo, hi, e, h1, h2, h3, h4, q⟩ => by rw [e]; rfl) fun cdv A outer s H vs Q E hr ⟨i, lo, hi, e, h1, h2, h3, h4, q⟩ => ?_
  subst e
  have hu := hr.units
  have nd := sc_is_integer_within.nd
  refine ⟨_, (pss_one (ps_ret (pe_and (cg (p_is_integer T) hr (pa_cons (pv 0) pa_nil)) (pe_one (pe_chain op_le op_le (pv 1) (pv 0) (pv 2)))))), ?_⟩
  refine ⟨_, rfl, i, rfl, h3, h4, true, rfl, iteT ?_⟩
  refine ⟨_, rfl, _, rfl, _, _, rfl, rfl, _, rfl, iteTr (decide_eq_true h1) ⟨_, rfl, _, _, rfl, rfl, ?_⟩⟩
  show Q (.bl (decide (_ ≤ _))) H
  rw [decide_eq_true h2]; exact q
theorem turn_name {i : Nat} {te : TE} {τ : L2.St} {vs : List Nat} {x : V} {H : Hp} {R : V → Hp → Prop} (hw : wipe (τ.set i (some x)) vs = τ) (h : ∀ C : V → Hp → Prop, (∀ y H', Same H H' → R y H' → C y H') → te (τ.set i (some x)) H C) : Turns (gName i) tYes te τ vs x H true R :=
  fun C1 C2 _ c2 => ⟨hw, show (if true = true then te (τ.set i (some x)) H C2 else C1 H) from by rw [if_pos rfl]; exact h C2 (c2 rfl)⟩
theorem tg2 {K : PySem.W.Frag} {H : Hp} {σ : L2.St} {i j : Nat} {a : Addr} {x y : V} {Q : L2.St → Hp → Prop} (h : SqT K H a [x, y]) (q : Q ((σ.set i (some x)).set j (some y)) H) : gTup K 2 (gCons (gName i) (gCons (gName j) gNil)) (.ref a) σ H Q :=
  ⟨a, _, rfl, h, rfl, _, _, rfl, _, _, rfl, rfl, q⟩
theorem tg3 {K : PySem.W.Frag} {H : Hp} {σ : L2.St} {i j k : Nat} {a : Addr} {x y z : V} {Q : L2.St → Hp → Prop} (h : SqT K H a [x, y, z]) (q : Q (((σ.set i (some x)).set j (some y)).set k (some z)) H) : gTup K 3 (gCons (gName i) (gCons (gName j) (gCons (gName k) gNil))) (.ref a) σ H Q :=
  ⟨a, _, rfl, h, rfl, _, _, rfl, _, _, rfl, _, _, rfl, rfl, q⟩
section
variable {K : PySem.W.Frag} {i j k : Nat} {te : TE} {tt : TT} {τ : L2.St} {vs : List Nat} {a : Addr} {x y z : V} {H : Hp} {b : Bool} {R : V → Hp → Prop}
theorem yes_if {σ : L2.St} {C1 : Hp → Prop} {C2 : V → Hp → Prop} (h : te σ H C2) : tYes σ H fun b H3 => if b = true then te σ H3 C2 else C1 H3 := show (if true = true then te σ H C2 else C1 H) from by rw [if_pos rfl]; exact h
theorem turn_nameT (hw : wipe (τ.set i (some x)) vs = τ) (h : ∀ (C1 : Hp → Prop) (C2 : V → Hp → Prop), (b = false → ∀ H', Same H H' → C1 H') → (b = true → ∀ y H', Same H H' → R y H' → C2 y H') → tt (τ.set i (some x)) H fun b H3 => if b = true then te (τ.set i (some x)) H3 C2 else C1 H3) : Turns (gName i) tt te τ vs x H b R :=
  fun C1 C2 c1 c2 => ⟨hw, h C1 C2 c1 c2⟩
theorem turn_2T (hs : SqT K H a [x, y]) (hw : wipe ((τ.set i (some x)).set j (some y)) vs = τ) (h : ∀ (C1 : Hp → Prop) (C2 : V → Hp → Prop), (b = false → ∀ H', Same H H' → C1 H') → (b = true → ∀ y H', Same H H' → R y H' → C2 y H') → tt ((τ.set i (some x)).set j (some y)) H fun b H3 => if b = true then te ((τ.set i (some x)).set j (some y)) H3 C2 else C1 H3) :
    Turns (gTup K 2 (gCons (gName i) (gCons (gName j) gNil))) tt te τ vs (.ref a) H b R := fun C1 C2 c1 c2 => tg2 hs ⟨hw, h C1 C2 c1 c2⟩
theorem turn_3T (hs : SqT K H a [x, y, z]) (hw : wipe (((τ.set i (some x)).set j (some y)).set k (some z)) vs = τ) (h : ∀ (C1 : Hp → Prop) (C2 : V → Hp → Prop), (b = false → ∀ H', Same H H' → C1 H') → (b = true → ∀ y H', Same H H' → R y H' → C2 y H') → tt (((τ.set i (some x)).set j (some y)).set k (some z)) H fun b H3 => if b = true then te (((τ.set i (some x)).set j (some y)).set k (some z)) H3 C2 else C1 H3) :
    Turns (gTup K 3 (gCons (gName i) (gCons (gName j) (gCons (gName k) gNil)))) tt te τ vs (.ref a) H b R := fun C1 C2 c1 c2 => tg3 hs ⟨hw, h C1 C2 c1 c2⟩
theorem turn_2 (hs : SqT K H a [x, y]) (hw : wipe ((τ.set i (some x)).set j (some y)) vs = τ) (h : ∀ C : V → Hp → Prop, (∀ y H', Same H H' → R y H' → C y H') → te ((τ.set i (some x)).set j (some y)) H C) :
    Turns (gTup K 2 (gCons (gName i) (gCons (gName j) gNil))) tYes te τ vs (.ref a) H true R := turn_2T hs hw fun C1 C2 _ c2 => yes_if (h C2 (c2 rfl))
theorem turn_3 (hs : SqT K H a [x, y, z]) (hw : wipe (((τ.set i (some x)).set j (some y)).set k (some z)) vs = τ) (h : ∀ C : V → Hp → Prop, (∀ y H', Same H H' → R y H' → C y H') → te (((τ.set i (some x)).set j (some y)).set k (some z)) H C) :
    Turns (gTup K 3 (gCons (gName i) (gCons (gName j) (gCons (gName k) gNil)))) tYes te τ vs (.ref a) H true R := turn_3T hs hw fun C1 C2 _ c2 => yes_if (h C2 (c2 rfl))
end
theorem signs_lt {c d : Nat} (h : c < d) : PySem.W.dataLt (.str (sg c)) (.str (sg d)) = true := by
  simp [PySem.W.dataLt, PySem.W.keyToks, PyProof.Rows.lexLt, PyProof.Rows.itemLt, sg, List.cons_lt_cons_iff, h]
theorem all_bl {α : Type} {as : List α} {k : α → Bool} {ys : List V} {H : Hp} (h : PAll (fun _ y _ => y = .bl true) (as.filter k) ys H) : ∃ bs : List Bool, ys = bs.map V.bl ∧ bs.all id = true := by
  revert h
  generalize as.filter k = l
  intro h
  induction h with
  | nil => exact ⟨[], rfl, rfl⟩
  | cons h _ ih =>
    obtain ⟨bs, e1, e2⟩ := ih
    exact ⟨true :: bs, by rw [h, e1]; rfl, by simpa using e2⟩
theorem le_sign {a b : Nat} (h : a ≤ b) : V.bl (!decide ((⟨#[b]⟩ : Str).cps.toList < (⟨#[a]⟩ : Str).cps.toList)) = .bl true := by
  have : ¬ ([b] < [a]) := by simp [List.cons_lt_cons_iff]; omega
  exact congrArg V.bl (by simpa using this)
def sp_are_small (w : World) (K : PySem.W.Frag) : Sp := fun vs H Q E => ∃ z : Str, vs = [.str z] ∧ z.cps.size < sizeLine ∧ (∀ c ∈ z.cps.toList, 97 ≤ c ∧ c ≤ 122) ∧ ∀ H', Same H H' → Q (.bl true) H'
abbrev N_are_small : List Str := ["text", "sign"]
theorem sc_are_small : FnScope N_are_small ["text"] (defScope s_are_small) := ⟨rfl, rfl, rfl, by decide +kernel, rfl, by decide +kernel, by decide +kernel⟩
theorem p_are_small (T : Tx K mg) : Fn P w K mg base 1 "are_small" (sp_are_small w K) := by
  refine fn_mk T.d_are_small T.g_are_small sc_are_small (fun _ _ _ _ _ _ us h => by match us, h with | [_], _ => rfl) (fun vs H Q E ⟨z, e, hz, hc, q⟩ => by rw [e]; rfl) fun cdv A outer s H vs Q E hr ⟨z, e, hz, hc, q⟩ => ?_
  subst e
  have hu := hr.units
  have nd := sc_are_small.nd
  refine ⟨_, (pss_one (ps_ret (pe_callB (cr_all rfl) (by rfl) T.b_all (by decide +kernel) (pa_cons (pe_lc (own := [("sign", 1)]) rfl nd (pi_str (pv 0)) (blkOk_by (N := N_are_small) (sc := defScope s_are_small) (by decide +kernel)) (fun _ _ _ _ _ => (pg_name (i := 1) nd rfl (Or.inl rfl) (Or.inr rfl))) (fun _ _ _ _ _ => pts_nil) (fun _ _ _ _ _ => (pe_chain op_le_str op_le_str pe_str (pv 1) pe_str))) pa_nil)))), ?_⟩
  refine ⟨_, rfl, _, rfl, fun D hD => ?_⟩
  refine comp_it walk_str grows_str z.cps.toList (by simp) hz (fun _ => true) (fun _ y _ => y = .bl true) (fun a y H H' _ h => h) hD (fun _ _ => trivial) (fun i x a H' H2 ha sm y => turn_name rfl fun C c2 => ?_) fun ys H' sm hy pa => ?_
  · obtain ⟨rfl, c, hc1, rfl⟩ := y
    have hm := hc c (by rw [← Array.getElem?_toList] at hc1; exact List.mem_of_getElem? hc1)
    refine ⟨_, rfl, _, _, rfl, rfl, true, le_sign hm.1, ?_⟩
    exact iteT ⟨_, _, rfl, rfl, c2 _ _ (Same.refl _) (le_sign hm.2)⟩
  · obtain ⟨bs, rfl, eb⟩ := all_bl pa
    refine ⟨_, bs, rfl, SqL.of hy, ?_⟩
    rw [eb]; exact q _ sm
theorem walk_zipT {K : PySem.W.Frag} {a b : Addr} {xs ys : List V} {n : Nat} (hn : n = min xs.length ys.length) : Walk (RZ.ItzT K a b) n (fun H => SqT K H a xs ∧ SqT K H b ys) (YPair (fun i => xs[i]?) (fun i => ys[i]?)) :=
  ⟨fun i H hi g => ⟨xs, ys, xs[i]'(by omega), ys[i]'(by omega), g.1, g.2, List.getElem?_eq_getElem _, List.getElem?_eq_getElem _⟩, fun H g => ⟨xs, ys, g.1, g.2, by omega⟩, fun i H v H' _ g ⟨T, x, y, e1, e2, e3, e4, e5⟩ => ⟨T, x, y, e1, e2, e3, e4 _ g.1, e5 _ g.2⟩⟩
theorem cutV_whole {xs : List V} {lo hi : Option Int} (h : HT.sIx xs.length 0 lo = 0 ∧ HT.sIx xs.length xs.length hi = xs.length) : cutV xs lo hi = xs := by
  unfold cutV; rw [h.1, h.2]; simp
theorem slA {a : Addr} {xs : List V} {lo hi : Option Int} {H : Hp} {Q : VK} (hs : SqT K H a xs) (h : ∀ p H', Same H H' → SqT K H' p (cutV xs lo hi) → Q (.ref p) H') : rSlA K (.ref a) lo hi H Q :=
  ⟨a, xs, rfl, hs, fun e => h a H (Same.refl H) (by rw [cutV_whole e]; exact hs), fun _ p np => h p _ (Same.new np) (SqT.of upd_same)⟩
theorem cutV1 (xs : List V) : cutV xs (some 1) none = xs.drop 1 := by
  show ((xs.drop (HT.sIx xs.length 0 (some ((1 : Nat) : Int)))).take (HT.sIx xs.length xs.length none - HT.sIx xs.length 0 (some ((1 : Nat) : Int)))) = _
  rw [HT.sIx_nat, HT.sIx_none]
  cases xs with
  | nil => simp
  | cons a l => have : min 1 (a :: l).length = 1 := by simp
                rw [this]; simp
theorem cut1 (z : Str) : (cutS z (some 1) none).cps.toList = z.cps.toList.drop 1 := by
  show (((z.cps.toList.drop (HT.sIx z.length 0 (some ((1 : Nat) : Int)))).take (HT.sIx z.length z.length none - HT.sIx z.length 0 (some ((1 : Nat) : Int)))).toArray).toList = _
  rw [HT.sIx_nat, HT.sIx_none]
  have hl : z.length = z.cps.toList.length := by simp [Str.length]
  rw [hl]
  cases h : z.cps.toList with
  | nil => simp
  | cons a l =>
    have : min 1 (a :: l).length = 1 := by simp
    rw [this]; simp
theorem pw_next {α : Type} {r : α → α → Prop} {l : List α} {i : Nat} {a b : α} (h : l.Pairwise r) (ha : l[i]? = some a) (hb : (l.drop 1)[i]? = some b) : r a b := by
  rw [List.getElem?_drop] at hb
  obtain ⟨h1, e1⟩ := List.getElem?_eq_some_iff.mp ha
  obtain ⟨h2, e2⟩ := List.getElem?_eq_some_iff.mp hb
  rw [← e1, ← e2]
  exact List.pairwise_iff_getElem.mp h _ _ h1 h2 (by omega)
def sp_is_ascending (w : World) (K : PySem.W.Frag) : Sp := fun vs H Q E => ∃ v, vs = [v] ∧ ((∃ a xs ds, v = .ref a ∧ SqT K H a xs ∧ xs.length < sizeLine ∧ DtAll K H xs ds ∧ PySem.W.AllAlike ds ∧ (∀ d ∈ ds, d ≠ .none ∧ d.depth ≤ 32) ∧ ds.Pairwise (fun d e => PySem.W.dataLt d e = true)) ∨ ∃ z : Str, v = .str z ∧ z.cps.size < sizeLine ∧ z.cps.toList.Pairwise (· < ·)) ∧ ∀ H', Same H H' → Q (.bl true) H'
abbrev N_is_ascending : List Str := ["values", "one", "other"]
theorem sc_is_ascending : FnScope N_is_ascending ["values"] (defScope s_is_ascending) := ⟨rfl, rfl, rfl, by decide +kernel, rfl, by decide +kernel, by decide +kernel⟩
theorem p_is_ascending (T : Tx K mg) : Fn P w K mg base 1 "is_ascending" (sp_is_ascending w K) := by
  refine fn_mk T.d_is_ascending T.g_is_ascending sc_is_ascending (fun _ _ _ _ _ _ us h => by match us, h with | [_], _ => rfl) (fun vs H Q E ⟨v, e, h, q⟩ => by rw [e]; rfl) fun cdv A outer s H vs Q E hr ⟨v, e, h, q⟩ => ?_
  subst e
  have hu := hr.units
  have nd := sc_is_ascending.nd
  refine ⟨_, (pss_one (ps_ret (pe_callB (cr_all rfl) (by rfl) T.b_all (by decide +kernel) (pa_cons (pe_lc (own := [("one", 1), ("other", 2)]) rfl nd (PI_or (pi_zipS (by rfl) T.b_zip (pa_cons (pv 0) (pa_cons (pe_slice sl_str (pv 0) (po_some pe_int) po_none) pa_nil))) (RZ.pi_zipA (by rfl) T.b_zip (pa_cons (pv 0) (pa_cons (pe_slice sl_tupA (pv 0) (po_some pe_int) po_none) pa_nil)))) (blkOk_by (N := N_is_ascending) (sc := defScope s_is_ascending) (by decide +kernel)) (fun _ _ _ _ _ => (show PG _ _ (gTup K 2 (gCons (gName 1) (gCons (gName 2) gNil))) from pg_tup rfl (pgs_cons (pg_name (i := 1) nd rfl (Or.inl rfl) (Or.inr rfl)) (pgs_cons (pg_name (i := 2) nd rfl (Or.inl rfl) (Or.inr rfl)) pgs_nil)))) (fun _ _ _ _ _ => pts_nil) (fun _ _ _ _ _ => (pe_cmpR (show OpR _ _ (rLtD K) from (op_ltD hu)) (pv 1) (pv 2) (nomark _)))) pa_nil)))), ?_⟩
  rcases h with ⟨a, xs, ds, rfl, hs, hz, hd, al, dp, pw⟩ | ⟨z, rfl, hz, pw⟩
  · refine .inr ⟨_, rfl, _, rfl, 1, rfl, ?_⟩
    dsimp only [tNoPart]
    refine slA hs fun p H1 s1 hp => ?_
    rw [cutV1] at hp
    refine ⟨a, p, xs, xs.drop 1, rfl, .inr ⟨SqT.tle s1.tle hs, hp, fun D hD => ?_⟩⟩
    refine comp_it (walk_zipT (xs := xs) (ys := xs.drop 1) rfl) grows_pair (xs.zip (xs.drop 1)) (by rw [List.length_zip]) (by omega) (fun _ => true) (fun _ y _ => y = .bl true) (fun a y H H' _ h => h) hD (fun H' sm => ⟨SqT.tle (s1.trans sm).tle hs, SqT.tle sm.tle hp⟩) (fun i x a H' H2 ha sm y => ?_) fun ys H' sm hy pa => ?_
    · obtain ⟨t, c, d, rfl, ht, rfl, e1, e2⟩ := y
      obtain ⟨c1, ec, dc⟩ := hd.get' e1
      obtain ⟨d1, ed, dd⟩ := (hd.drop 1).get' e2
      have lt := pw_next pw ec ed
      have mc := List.mem_of_getElem? ec
      have md := List.mem_of_getElem? ed
      have k : Same H (upd H' t (.tup [c, d])) := (s1.trans sm).trans (Same.new ht)
      exact turn_2 (SqT.of upd_same) rfl fun C c2 => ⟨_, rfl, _, rfl, c1, d1, dc.same k, dd.same k, al _ mc _ (List.mem_of_mem_drop md), (dp _ mc).1, by have := (dp _ mc).2; omega, c2 _ _ (Same.refl _) (congrArg V.bl lt)⟩
    · obtain ⟨bs, rfl, eb⟩ := all_bl pa
      refine ⟨_, bs, rfl, SqL.of hy, ?_⟩
      rw [eb]; exact q _ (s1.trans sm)
  · have hl : z.length ≤ sizeLine := Nat.le_of_lt hz
    refine .inl ⟨_, rfl, _, rfl, _, rfl, z, rfl, hl, _, _, rfl, fun D hD => ?_⟩
    refine comp_it (walk_zipS rfl) grows_pair (z.cps.toList.zip (z.cps.toList.drop 1)) (by rw [List.length_zip, ← cut1]; simp) (by omega) (fun _ => true) (fun _ y _ => y = .bl true) (fun a y H H' _ h => h) hD (fun _ _ => trivial) (fun i x a H' H2 ha sm y => ?_) fun ys H' sm hy pa => ?_
    · obtain ⟨t, c, d, rfl, ht, rfl, e1, e2⟩ := y
      obtain ⟨c1, ec, rfl⟩ := Option.map_eq_some_iff.mp e1
      obtain ⟨d1, ed, rfl⟩ := Option.map_eq_some_iff.mp e2
      have lt : c1 < d1 := pw_next pw (by rw [Array.getElem?_toList]; exact ec) (by rw [← cut1, Array.getElem?_toList]; exact ed)
      exact turn_2 (SqT.of upd_same) rfl fun C c2 => ⟨_, rfl, _, rfl, .str _, .str _, .str _, .str _, rfl, nofun, by simp [PyData.depth], c2 _ _ (Same.refl _) (congrArg V.bl (signs_lt lt))⟩
    · obtain ⟨bs, rfl, eb⟩ := all_bl pa
      refine ⟨_, bs, rfl, SqL.of hy, ?_⟩
      rw [eb]; exact q _ sm
end K39
end Text_K39P

section Text_K39P2
set_option Elab.async false set_option linter.all false set_option maxRecDepth 100000 set_option maxHeartbeats 4000000
/-! Names and readers' tests. -/
namespace K39
open PySem PySem.Spec PyProof.Rows L2
variable {P : Program} {w : World} {K : PySem.W.Frag} {mg : Str → Option Value} {base : Heap}
/-- a text by its signs' codes -/
abbrev tx (L : List Nat) : Str := ⟨L.toArray⟩
structure LetOk (L : List Nat) : Prop where
  one : 1 ≤ L.length
  four : L.length ≤ 4
  small : ∀ c ∈ L, 97 ≤ c ∧ c ≤ 122
  asc : L.Pairwise (· < ·)
theorem tx_len (L : List Nat) : (tx L).length = L.length := by simp [Str.length, tx]
theorem line4 : 4 < sizeLine := by decide
def sp_is_letters (w : World) (K : PySem.W.Frag) : Sp := fun vs H Q E => ∃ L : List Nat, vs = [.str (tx L)] ∧ LetOk L ∧ ∀ H', Same H H' → Q (.bl true) H'
abbrev N_is_letters : List Str := ["value"]
theorem sc_is_letters : FnScope N_is_letters ["value"] (defScope s_is_letters) := ⟨rfl, rfl, rfl, by decide +kernel, rfl, by decide +kernel, by decide +kernel⟩
theorem p_is_letters (T : Tx K mg) : Fn P w K mg base 2 "is_letters" (sp_is_letters w K) := by
  refine fn_mk T.d_is_letters T.g_is_letters sc_is_letters (fun _ _ _ _ _ _ us h => by match us, h with | [_], _ => rfl) (fun vs H Q E ⟨L, e, h, q⟩ => by rw [e]; rfl) fun cdv A outer s H vs Q E hr ⟨L, e, h, q⟩ => ?_
  subst e
  have hu := hr.units
  have nd := sc_is_letters.nd
  refine ⟨_, (pss_cons (ps_if (PW.pt (pw_or (pt_not (pt_val (pe_callB cr_is (by rfl) T.b_isinstance (by decide +kernel) (pa_cons (pv 0) (pa_cons (pty (n := "str") T.b_str (by decide +kernel)) pa_nil))))) (pw_or1 (pt_not (pt_chain op_le op_le pe_int (pe_callB call_len_str (by rfl) T.b_len (by decide +kernel) (pa_cons (pv 0) pa_nil)) (pgi T.i_MOST_LETTERS)))))) (pss_one (ps_ret pe_bl)) pss_nil)
      (pss_one (ps_ret (pe_and (cg (p_are_small T) hr (pa_cons (pv 0) pa_nil)) (pe_one (cg (p_is_ascending T) hr (pa_cons (pv 0) pa_nil))))))), ?_⟩
  have hl : (tx L).length = L.length := tx_len L
  have hz := line4
  have h1 := h.one
  have h4 := h.four
  have hs : (tx L).cps.size < sizeLine := by simp only [tx, List.size_toArray]; omega
  refine ⟨_, rfl, _, _, _, rfl, .strS _, true, rfl, iteF ?_⟩
  refine ⟨_, rfl, _, rfl, by rw [hl]; omega, _, _, rfl, rfl, _, rfl, iteTr (decide_eq_true (by rw [hl]; omega)) ⟨_, _, rfl, rfl, _, rfl, iteFr ?_ ?_⟩⟩
  · rw [decide_eq_true (by rw [hl]; omega)]; decide
  · exact ⟨_, rfl, _, rfl, hs, (fun c hc => h.small c (by simpa using hc)), fun H1 s1 => ⟨true, rfl, iteT ⟨_, rfl, _, rfl, .inr ⟨_, rfl, hs, by simpa using h.asc⟩, fun H2 s2 => q _ (s1.trans s2)⟩⟩⟩
def sp_is_text_within (w : World) (K : PySem.W.Frag) : Sp := fun vs H Q E => ∃ z t : Str, vs = [.str z, .str t] ∧ t.cps.size < sizeLine ∧ (∀ c ∈ t.cps.toList, c ∈ z.cps.toList) ∧ ∀ H', Same H H' → Q (.bl true) H'
abbrev N_is_text_within : List Str := ["letters", "value", "sign"]
theorem sc_is_text_within : FnScope N_is_text_within ["letters", "value"] (defScope s_is_text_within) := ⟨rfl, rfl, rfl, by decide +kernel, rfl, by decide +kernel, by decide +kernel⟩
theorem p_is_text_within (T : Tx K mg) : Fn P w K mg base 1 "is_text_within" (sp_is_text_within w K) := by
  refine fn_mk T.d_is_text_within T.g_is_text_within sc_is_text_within (fun _ _ _ _ _ _ us h => by match us, h with | [_, _], _ => rfl) (fun vs H Q E ⟨z, t, e, hz, hc, q⟩ => by rw [e]; rfl) fun cdv A outer s H vs Q E hr ⟨z, t, e, hz, hc, q⟩ => ?_
  subst e
  have hu := hr.units
  have nd := sc_is_text_within.nd
  refine ⟨_, (pss_one (ps_ret (pe_and (pe_callB cr_is (by rfl) T.b_isinstance (by decide +kernel) (pa_cons (pv 1) (pa_cons (pty (n := "str") T.b_str (by decide +kernel)) pa_nil))) (pe_one (pe_callB (cr_all rfl) (by rfl) T.b_all (by decide +kernel) (pa_cons (pe_lc (own := [("sign", 2)]) rfl nd (pi_str (pv 1)) (blkOk_by (N := N_is_text_within) (sc := defScope s_is_text_within) (by decide +kernel)) (fun _ _ _ _ _ => (pg_name (i := 2) nd rfl (Or.inl rfl) (Or.inr rfl))) (fun _ _ _ _ _ => pts_nil) (fun _ _ _ _ _ => (pe_cmpR op_in_sign (pv 2) (pv 0) rfl))) pa_nil)))))), ?_⟩
  refine ⟨_, rfl, _, _, _, rfl, .strS _, true, rfl, iteT ⟨_, rfl, _, rfl, fun D hD => ?_⟩⟩
  refine comp_it walk_str grows_str t.cps.toList (by simp) hz (fun _ => true) (fun _ y _ => y = .bl true) (fun a y H H' _ h => h) hD (fun _ _ => trivial) (fun i x a H' H2 ha sm y => turn_name rfl fun C c2 => ?_) fun ys H' sm hy pa => ?_
  · obtain ⟨rfl, c, hc1, rfl⟩ := y
    have hm := hc c (by rw [← Array.getElem?_toList] at hc1; exact List.mem_of_getElem? hc1)
    exact ⟨_, rfl, _, rfl, c, z, rfl, rfl, c2 _ _ (Same.refl _) (congrArg V.bl (decide_eq_true hm))⟩
  · obtain ⟨bs, rfl, eb⟩ := all_bl pa
    refine ⟨_, bs, rfl, SqL.of hy, ?_⟩
    rw [eb]; exact q _ sm
def sp_require_letters (w : World) (K : PySem.W.Frag) : Sp := fun vs H Q E => ∃ L : List Nat, vs = [.str (tx L)] ∧ LetOk L ∧ ∀ H', Same H H' → Q .non H'
abbrev N_require_letters : List Str := ["value"]
theorem sc_require_letters : FnScope N_require_letters ["value"] (defScope s_require_letters) := ⟨rfl, rfl, rfl, by decide +kernel, rfl, by decide +kernel, by decide +kernel⟩
theorem p_require_letters (T : Tx K mg) : Fn P w K mg base 3 "require_letters" (sp_require_letters w K) := by
  refine fn_mk T.d_require_letters T.g_require_letters sc_require_letters (fun _ _ _ _ _ _ us h => by match us, h with | [_], _ => rfl) (fun vs H Q E ⟨L, e, h, q⟩ => by rw [e]; rfl) fun cdv A outer s H vs Q E hr ⟨L, e, h, q⟩ => ?_
  subst e
  have hu := hr.units
  have nd := sc_require_letters.nd
  refine ⟨_, (pss_one (ps_if (pt_not (pt_val (cg (p_is_letters T) hr (pa_cons (pv 0) pa_nil)))) (pss_one ps_never) pss_nil)), ?_⟩
  exact ⟨_, rfl, L, rfl, h, fun H1 s1 => ⟨true, rfl, iteF (q _ s1)⟩⟩
theorem int_lt {a b : Int} (h : a < b) : PySem.W.dataLt (.int a) (.int b) = true := by
  simp [PySem.W.dataLt, PySem.W.keyToks, PyProof.Rows.lexLt, PyProof.Rows.itemLt, h]
theorem nats_alike (l : List Nat) : PySem.W.AllAlike (l.map eN) := by
  intro a ha b hb
  obtain ⟨x, _, rfl⟩ := List.mem_map.mp ha
  obtain ⟨y, _, rfl⟩ := List.mem_map.mp hb
  rfl
theorem nats_plain (l : List Nat) : ∀ d ∈ l.map eN, d ≠ .none ∧ d.depth ≤ 32 := by
  intro a ha
  obtain ⟨x, _, rfl⟩ := List.mem_map.mp ha
  exact ⟨nofun, by simp [PyData.depth]⟩
theorem nats_pw {l : List Nat} (h : l.Pairwise (· < ·)) : (l.map eN).Pairwise fun d e => PySem.W.dataLt d e = true := by
  rw [List.pairwise_map]
  exact h.imp fun h => int_lt (by omega)
theorem g60 : (60 : Int) ≤ G200 := by decide +kernel
theorem g0 : -G200 ≤ 0 := by decide +kernel
theorem sz60 : 4000 < sizeLine := by decide
theorem Dt.sq {H : Hp} {v : V} {l : List PyData} (h : Dt K H v (.tuple l)) : ∃ a xs, v = .ref a ∧ SqT K H a xs ∧ DtAll K H xs l := h.tuple
def sp_is_number_set (w : World) (K : PySem.W.Frag) : Sp := fun vs H Q E => ∃ (v : V) (l : List Nat) (n : Nat), vs = [v, .int (n : Int)] ∧ Dt K H v (eNs l) ∧ l.length ≤ 60 ∧ n ≤ 60 ∧ l.Pairwise (· < ·) ∧ (∀ p ∈ l, p < n) ∧ ∀ H', Same H H' → Q (.bl true) H'
abbrev N_is_number_set : List Str := ["value", "size", "number"]
theorem sc_is_number_set : FnScope N_is_number_set ["value", "size"] (defScope s_is_number_set) := ⟨rfl, rfl, rfl, by decide +kernel, rfl, by decide +kernel, by decide +kernel⟩
theorem p_is_number_set (T : Tx K mg) : Fn P w K mg base 3 "is_number_set" (sp_is_number_set w K) := by
  refine fn_mk T.d_is_number_set T.g_is_number_set sc_is_number_set (fun _ _ _ _ _ _ us h => by match us, h with | [_, _], _ => rfl) (fun vs H Q E ⟨v, l, n, e, hd, hl, hn, pw, lt, q⟩ => by rw [e]; rfl) fun cdv A outer s H vs Q E hr ⟨v, l, n, e, hd, hl, hn, pw, lt, q⟩ => ?_
  subst e
  have hu := hr.units
  have nd := sc_is_number_set.nd
  refine ⟨_, (pss_cons (ps_if (PW.pt (pw_or (pt_not (pt_val (pe_callB cr_is (by rfl) T.b_isinstance (by decide +kernel) (pa_cons (pv 0) (pa_cons (pty (n := "tuple") T.b_tuple (by decide +kernel)) pa_nil))))) (pw_or1 (pt_not (pt_val (pe_callB (cr_all rfl) (by rfl) T.b_all (by decide +kernel) (pa_cons (pe_lc (own := [("number", 2)]) rfl nd (pi_tup (pv 0)) (blkOk_by (N := N_is_number_set) (sc := defScope s_is_number_set) (by decide +kernel)) (fun _ _ _ _ _ => (pg_name (i := 2) nd rfl (Or.inl rfl) (Or.inr rfl))) (fun _ _ _ _ _ => pts_nil) (fun _ _ _ _ _ => (cg (p_is_integer_within T) hr (pa_cons (pv 2) (pa_cons pe_int (pa_cons (pe_op op_sub (pv 1) pe_int) pa_nil)))))) pa_nil))))))) (pss_one (ps_ret pe_bl)) pss_nil)
      (pss_one (ps_ret (cg (p_is_ascending T) hr (pa_cons (pv 0) pa_nil))))), ?_⟩
  obtain ⟨a, xs, rfl, hs, da⟩ := hd.tuple
  have lx : xs.length = l.length := by rw [da.length, List.length_map]
  have l6 := sz60
  refine ⟨_, rfl, _, _, _, rfl, .tupT hs, true, rfl, iteF ?_⟩
  refine ⟨_, rfl, a, rfl, ⟨_, hs⟩, fun D hD => ?_⟩
  refine comp_it (walk_tup (xs := xs)) grows_at l lx.symm (by omega) (fun _ => true) (fun _ y _ => y = .bl true) (fun a y H H' _ h => h) hD (fun H' sm => SqT.tle sm.tle hs) (fun i x p H' H2 hp sm y => turn_name rfl fun C c2 => ?_) fun ys H' sm hy pa => ?_
  · obtain ⟨rfl, hx⟩ := y
    obtain ⟨d, hd1, hd2⟩ := da.get' hx
    rw [List.getElem?_map, hp] at hd1
    obtain rfl := Option.some.inj hd1
    cases hd2
    have := lt p (List.mem_of_getElem? hp)
    have := g60
    have := g0
    exact ⟨_, rfl, _, rfl, _, _, rfl, rfl, _, _, _, rfl, by omega, by omega, by omega, by omega, c2 _ _ (Same.refl _) rfl⟩
  · obtain ⟨bs, rfl, eb⟩ := all_bl pa
    refine ⟨_, bs, rfl, SqL.of hy, ?_⟩
    rw [eb]
    exact ⟨true, rfl, iteF ⟨_, rfl, _, rfl, .inl ⟨a, xs, _, rfl, SqT.tle sm.tle hs, by omega, da.same sm, nats_alike l, nats_plain l, nats_pw pw⟩, fun H2 s2 => q _ (sm.trans s2)⟩⟩
def sp_is_letter_of (w : World) (K : PySem.W.Frag) : Sp := fun vs H Q E => ∃ (L : List Nat) (c : Nat), vs = [.str (tx L), .str (sg c)] ∧ c ∈ L ∧ ∀ H', Same H H' → Q (.bl true) H'
abbrev N_is_letter_of : List Str := ["letters", "value"]
theorem sc_is_letter_of : FnScope N_is_letter_of ["letters", "value"] (defScope s_is_letter_of) := ⟨rfl, rfl, rfl, by decide +kernel, rfl, by decide +kernel, by decide +kernel⟩
theorem p_is_letter_of (T : Tx K mg) : Fn P w K mg base 2 "is_letter_of" (sp_is_letter_of w K) := by
  refine fn_mk T.d_is_letter_of T.g_is_letter_of sc_is_letter_of (fun _ _ _ _ _ _ us h => by match us, h with | [_, _], _ => rfl) (fun vs H Q E ⟨L, c, e, hc, q⟩ => by rw [e]; rfl) fun cdv A outer s H vs Q E hr ⟨L, c, e, hc, q⟩ => ?_
  subst e
  have hu := hr.units
  have nd := sc_is_letter_of.nd
  refine ⟨_, (pss_one (ps_ret (pe_and (cg (p_is_text_within T) hr (pa_cons (pv 0) (pa_cons (pv 1) pa_nil))) (pe_one (pe_cmpR op_eq (pe_callB call_len_str (by rfl) T.b_len (by decide +kernel) (pa_cons (pv 1) pa_nil)) pe_int (nomark _)))))), ?_⟩
  have l6 := sz60
  have hs : (sg c).cps.size = 1 := rfl
  refine ⟨_, rfl, _, rfl, _, _, rfl, by omega, by simpa using hc, fun H1 s1 => ⟨true, rfl, iteT ⟨_, rfl, _, rfl, by show 1 ≤ sizeLine; omega, rfl, q _ s1⟩⟩⟩
def sp_is_arrow (w : World) (K : PySem.W.Frag) : Sp := fun vs H Q E => ∃ (v : V) (L : List Nat) (n : Nat) (a : Arr), vs = [.str (tx L), .int (n : Int), v] ∧ Dt K H v (eA a) ∧ n ≤ 60 ∧ a.1 < n ∧ a.2.1 ∈ L ∧ a.2.2 < n ∧ ∀ H', Same H H' → Q (.bl true) H'
abbrev N_is_arrow : List Str := ["letters", "size", "value"]
theorem sc_is_arrow : FnScope N_is_arrow ["letters", "size", "value"] (defScope s_is_arrow) := ⟨rfl, rfl, rfl, by decide +kernel, rfl, by decide +kernel, by decide +kernel⟩
theorem p_is_arrow (T : Tx K mg) : Fn P w K mg base 3 "is_arrow" (sp_is_arrow w K) := by
  refine fn_mk T.d_is_arrow T.g_is_arrow sc_is_arrow (fun _ _ _ _ _ _ us h => by match us, h with | [_, _, _], _ => rfl) (fun vs H Q E ⟨v, L, n, a, e, hd, hn, h1, h2, h3, q⟩ => by rw [e]; rfl) fun cdv A outer s H vs Q E hr ⟨v, L, n, a, e, hd, hn, h1, h2, h3, q⟩ => ?_
  subst e
  have hu := hr.units
  have nd := sc_is_arrow.nd
  refine ⟨_, (pss_cons (ps_if (PW.pt (pw_or (pt_not (pt_val (pe_callB cr_is (by rfl) T.b_isinstance (by decide +kernel) (pa_cons (pv 2) (pa_cons (pty (n := "tuple") T.b_tuple (by decide +kernel)) pa_nil))))) (pw_or (pt_cmpR op_ne (pe_callB cr_lenQ (by rfl) T.b_len (by decide +kernel) (pa_cons (pv 2) pa_nil)) pe_int (nomark _)) (pw_or1 (pt_not (pt_val (cg (p_is_letter_of T) hr (pa_cons (pv 0) (pa_cons (pe_ix ix_tup (pv 2) pe_int (fun _ _ => rfl)) pa_nil))))))))) (pss_one (ps_ret pe_bl)) pss_nil)
      (pss_one (ps_ret (pe_and (cg (p_is_integer_within T) hr (pa_cons (pe_ix ix_tup (pv 2) pe_int (fun _ _ => rfl)) (pa_cons pe_int (pa_cons (pe_op op_sub (pv 1) pe_int) pa_nil)))) (pe_one (cg (p_is_integer_within T) hr (pa_cons (pe_ix ix_tup (pv 2) pe_int (fun _ _ => rfl)) (pa_cons pe_int (pa_cons (pe_op op_sub (pv 1) pe_int) pa_nil))))))))), ?_⟩
  obtain ⟨p, rfl, hs⟩ := hd.arr
  have := g60
  have := g0
  refine ⟨_, rfl, _, _, _, rfl, .tupT hs, true, rfl, iteF ⟨_, rfl, p, _, rfl, .inr hs, rfl, false, rfl, iteF ?_⟩⟩
  refine ⟨_, rfl, _, rfl, p, _, _, _, rfl, rfl, hs, (atI_nat (j := 1) rfl), _, _, rfl, h2, fun H1 s1 => ⟨true, rfl, iteF ?_⟩⟩
  have hs1 := SqT.tle s1.tle hs
  refine ⟨_, rfl, p, _, _, _, rfl, rfl, hs1, (atI_nat (j := 0) rfl), _, rfl, _, _, rfl, rfl, _, _, _, rfl, by omega, by omega, by omega, by omega, true, rfl, iteT ?_⟩
  exact ⟨_, rfl, p, _, _, _, rfl, rfl, hs1, (atI_nat (j := 2) rfl), _, rfl, _, _, rfl, rfl, _, _, _, rfl, by omega, by omega, by omega, by omega, q _ s1⟩
/-- the order of arrows -/
def aLt (a b : Arr) : Prop := PySem.W.dataLt (eA a) (eA b) = true
theorem eA_alike (l : List Arr) : PySem.W.AllAlike (l.map eA) := by
  intro a ha b hb
  obtain ⟨x, _, rfl⟩ := List.mem_map.mp ha
  obtain ⟨y, _, rfl⟩ := List.mem_map.mp hb
  rfl
theorem eA_plain (l : List Arr) : ∀ d ∈ l.map eA, d ≠ .none ∧ d.depth ≤ 32 := by
  intro a ha
  obtain ⟨x, _, rfl⟩ := List.mem_map.mp ha
  exact ⟨nofun, by simp [PyData.depth, PyData.depthAll]⟩
def sp_are_arrows (w : World) (K : PySem.W.Frag) : Sp := fun vs H Q E => ∃ (v : V) (L : List Nat) (n : Nat) (as : List Arr), vs = [.str (tx L), .int (n : Int), v] ∧ Dt K H v (.tuple (as.map eA)) ∧ as.length ≤ 4000 ∧ n ≤ 60 ∧ (∀ a ∈ as, a.1 < n ∧ a.2.1 ∈ L ∧ a.2.2 < n) ∧ as.Pairwise aLt ∧ ∀ H', Same H H' → Q (.bl true) H'
abbrev N_are_arrows : List Str := ["letters", "size", "value", "arrow"]
theorem sc_are_arrows : FnScope N_are_arrows ["letters", "size", "value"] (defScope s_are_arrows) := ⟨rfl, rfl, rfl, by decide +kernel, rfl, by decide +kernel, by decide +kernel⟩
theorem p_are_arrows (T : Tx K mg) : Fn P w K mg base 4 "are_arrows" (sp_are_arrows w K) := by
  refine fn_mk T.d_are_arrows T.g_are_arrows sc_are_arrows (fun _ _ _ _ _ _ us h => by match us, h with | [_, _, _], _ => rfl) (fun vs H Q E ⟨v, L, n, as, e, hd, hl, hn, ok, pw, q⟩ => by rw [e]; rfl) fun cdv A outer s H vs Q E hr ⟨v, L, n, as, e, hd, hl, hn, ok, pw, q⟩ => ?_
  subst e
  have hu := hr.units
  have nd := sc_are_arrows.nd
  refine ⟨_, (pss_cons (ps_if (PW.pt (pw_or (pt_not (pt_val (pe_callB cr_is (by rfl) T.b_isinstance (by decide +kernel) (pa_cons (pv 2) (pa_cons (pty (n := "tuple") T.b_tuple (by decide +kernel)) pa_nil))))) (pw_or1 (pt_not (pt_val (pe_callB (cr_all rfl) (by rfl) T.b_all (by decide +kernel) (pa_cons (pe_lc (own := [("arrow", 3)]) rfl nd (pi_tup (pv 2)) (blkOk_by (N := N_are_arrows) (sc := defScope s_are_arrows) (by decide +kernel)) (fun _ _ _ _ _ => (pg_name (i := 3) nd rfl (Or.inl rfl) (Or.inr rfl))) (fun _ _ _ _ _ => pts_nil) (fun _ _ _ _ _ => (cg (p_is_arrow T) hr (pa_cons (pv 0) (pa_cons (pv 1) (pa_cons (pv 3) pa_nil)))))) pa_nil))))))) (pss_one (ps_ret pe_bl)) pss_nil)
      (pss_one (ps_ret (cg (p_is_ascending T) hr (pa_cons (pv 2) pa_nil))))), ?_⟩
  obtain ⟨a, xs, rfl, hs, da⟩ := hd.tuple
  have lx : xs.length = as.length := by rw [da.length, List.length_map]
  have l6 := sz60
  refine ⟨_, rfl, _, _, _, rfl, .tupT hs, true, rfl, iteF ?_⟩
  refine ⟨_, rfl, a, rfl, ⟨_, hs⟩, fun D hD => ?_⟩
  refine comp_it (walk_tup (xs := xs)) grows_at as lx.symm (by omega) (fun _ => true) (fun _ y _ => y = .bl true) (fun a y H H' _ h => h) hD (fun H' sm => SqT.tle sm.tle hs) (fun i x p H' H2 hp sm y => turn_name rfl fun C c2 => ?_) fun ys H' sm hy pa => ?_
  · obtain ⟨rfl, hx⟩ := y
    obtain ⟨d, hd1, hd2⟩ := da.get' hx
    rw [List.getElem?_map, hp] at hd1
    obtain rfl := Option.some.inj hd1
    have := ok p (List.mem_of_getElem? hp)
    exact ⟨_, rfl, _, rfl, _, rfl, _, L, n, p, rfl, hd2.same sm, hn, this.1, this.2.1, this.2.2, fun H3 s3 => c2 _ _ s3 rfl⟩
  · obtain ⟨bs, rfl, eb⟩ := all_bl pa
    refine ⟨_, bs, rfl, SqL.of hy, ?_⟩
    rw [eb]
    exact ⟨true, rfl, iteF ⟨_, rfl, _, rfl, .inl ⟨a, xs, _, rfl, SqT.tle sm.tle hs, by omega, da.same sm, eA_alike as, eA_plain as, by rw [List.pairwise_map]; exact pw⟩, fun H2 s2 => q _ (sm.trans s2)⟩⟩
end K39
end Text_K39P2

section Text_K39Q
set_option Elab.async false set_option linter.all false set_option maxRecDepth 100000 set_option maxHeartbeats 4000000
/-! Readers: their moves. -/
namespace K39
open PySem PySem.Spec PyProof.Rows L2
variable {P : Program} {w : World} {K : PySem.W.Frag} {mg : Str → Option Value} {base : Heap}
/-- a reader, as data -/
structure Rd where
  L : List Nat
  n : Nat
  fs : List Nat
  ls : List Nat
  ar : List Arr
/-- where c leads from p -/
def mvs (as : List Arr) (c p : Nat) : List Nat := (as.filter fun a => a.1 == p && a.2.1 == c).map (·.2.2)
theorem mvs_snoc (as : List Arr) (a : Arr) (c p : Nat) : mvs (as ++ [a]) c p = if a.1 = p ∧ a.2.1 = c then mvs as c p ++ [a.2.2] else mvs as c p := by
  unfold mvs
  rw [List.filter_append, List.map_append]
  by_cases h : a.1 = p ∧ a.2.1 = c
  · rw [if_pos h]; simp [h.1, h.2]
  · rw [if_neg h]
    have : ([a].filter fun a => a.1 == p && a.2.1 == c) = [] := by
      simp only [List.filter_cons, List.filter_nil]
      rw [if_neg]
      simpa using h
    rw [this]; simp

/-! ### a dict comprehension -/
section
variable {X : Cx}
theorem sw_trueD {kx vx : Expr} {gs : List Comprehension} {scope : Scope} {pos py : Pos} {y : Str} {l : Nat} {env : Env} (hk : env.scope.kind = .function) (hy : env.scope.names.lookup y = some .local) (hl : (py.line == pos.line) = true)
    (ha : (scope.names.any fun (n, k) => n == y && (k == .local || k == .cell)) = false) : swapsWith (.DictComp kx vx gs scope pos) (some (.Name y py)) l env = pure true := by
  have ky : env.kindOf y = some .local := hy
  have hb : env.blockKind = .function := by unfold Env.blockKind; rw [hk]; rfl
  unfold swapsWith; simp only [hb, ky, ha, Expr.pos, hl]; rfl
theorem ps_setDc {i : Nat} {y : Str} {py : Pos} {kx vx tg iter : Expr} {ifs : List Expr} {scope : Scope} {own : List (Str × Nat)} {pos spos : Pos} {wi : TI} {g : TG} {tt : TT} {tk tv : TE} (hc : X.calm = true) (hN : X.N.Nodup) (hy : X.N[i]? = some y)
    (hyl : X.env.scope.names.lookup y = some .local) (hsw : swapsWith (.DictComp kx vx [⟨tg, iter, ifs, 0⟩] scope pos) (some (.Name y py)) spos.line X.env = pure true) (hi : PI X tg iter wi) (ok : BlkOk X.N X.env.scope scope own)
    (hg : ∀ (s : Shared) (H : Hp) (C : Addr) (cl : List (Str × Addr)) (fp : List Addr), PG (X.blk s H scope (compEnvC scope cl C X.env) fp) tg g)
    (ht : ∀ (s : Shared) (H : Hp) (C : Addr) (cl : List (Str × Addr)) (fp : List Addr), PTs (X.blk s H scope (compEnvC scope cl C X.env) fp) ifs tt)
    (hk : ∀ (s : Shared) (H : Hp) (C : Addr) (cl : List (Str × Addr)) (fp : List Addr), PE (X.blk s H scope (compEnvC scope cl C X.env) fp) kx tk)
    (he : ∀ (s : Shared) (H : Hp) (C : Addr) (cl : List (Str × Addr)) (fp : List Addr), PE (X.blk s H scope (compEnvC scope cl C X.env) fp) vx tv) (hs : ∀ x, foldedSetIterable iter X.env x = pure x := by intro _; rfl) :
    PS X (.Assign [.Name y py] (.DictComp kx vx [⟨tg, iter, ifs, 0⟩] scope pos) spos) (tAsg (tDc wi g tt tk tv (own.map (·.2))) (gName i)) := by
  refine ⟨fun pins s σ H D I h => ?_⟩
  rw [exec_Assign_Name_used _ _ _ _ hsw]; refine wpAny_bind (wpAny_standAt (wpAny_bind ?_))
  show wpAny (model X.prog X.w) X.A (do let _ ← comprehension (.DictComp kx vx [⟨tg, iter, ifs, 0⟩] scope pos) scope X.env (firstIterPos [⟨tg, iter, ifs, 0⟩] pos) newDict false (eval iter X.env) (some (assign (.Name y py) X.env))) _ _ s
  have h : tDc wi g tt tk tv (own.map (·.2)) σ H (fun x H1 => gName i x σ H1 D.nx) := h
  refine wpAny_bind (thn (dc_core (Qf := fun _ s' => SP X pins D .next s') hc hN I hi ok hg ht hk he hs h fun L C s' m H' I' q hn f => ?_) fun _ s' hq => wpAny_pure (wpAny_pure hq))
  show wpAny (model X.prog X.w) _ (assign (.Name y py) X.env (.ref L)) _ _ _
  refine wpAny_assign_Name (store_ok2 (v := V.ref L) I' hN hy (.inl hyl) rfl (fun s2 I2 ⟨a, sb, ha⟩ => ?_) (.inr hyl))
  obtain ⟨f0, f1, f2, f3, f4, f5⟩ := f
  have haC : C ≠ a := ha.elim (fun z => by rw [z]; exact f1) fun z e => f4 y a z e.symm
  exact ⟨m, hn.sameBut sb haC, fun h3 sb3 => ⟨_, H', I2.turned (t' := s2.toks) (fun b o hb e => (sb3.2 b hb).trans e) f0 f1 f3 f4 f5, q⟩⟩
end
theorem dc_it {J : It} {n : Nat} {G : Hp → Prop} {Y : Nat → Hp → V → Hp → Prop} (w : Walk J n G Y) {g : TG} {tt : TT} {tk tv : TE} {vs : List Nat} {σ : L2.St} {H1 : Hp} {D : Addr} {Qd : Hp → Prop} (Pv : Nat → Hp → Prop) (h0 : Pv 0 (upd H1 D (.dK []))) (hG : ∀ i H, i ≤ n → Pv i H → G H)
    (hs : ∀ i x H H', i < n → Pv i H → Y i H x H' → g x (wipe σ vs) H' fun σ2 H2 => wipe σ2 vs = wipe σ vs ∧ tt σ2 H2 fun b H3 =>
      if b = true then tk σ2 H3 fun y H4 => tv σ2 H4 fun z H5 => ∃ kvs k, y = kV k ∧ H5 D = some (.dK kvs) ∧ kvs.length < sizeLine ∧ Pv (i + 1) (upd H5 D (.dK (putK kvs k z))) else Pv (i + 1) H3) (hd : ∀ H, Pv n H → Qd H) :
    ∃ W : Nat → Nat → Hp → Prop, (∃ m, W 0 m (upd H1 D (.dK []))) ∧ ∀ i m H, W i m H →
      (J.stop i H ∧ Qd H) ∨ (J.go i H ∧ ∃ Nx : Hp → Prop, (∀ H', Nx H' → ∃ m', m' < m ∧ W (i + 1) m' H') ∧ ∀ x H', J.yld i H x H' → g x (wipe σ vs) H' fun σ2 H2 => wipe σ2 vs = wipe σ vs ∧ tt σ2 H2 fun b H3 =>
        if b = true then tk σ2 H3 fun y H4 => tv σ2 H4 fun z H5 => ∃ kvs k, y = kV k ∧ H5 D = some (.dK kvs) ∧ kvs.length < sizeLine ∧ Nx (upd H5 D (.dK (putK kvs k z))) else Nx H3) := by
  refine ⟨fun i m H => m = n - i ∧ i ≤ n ∧ Pv i H, ⟨n, by simp, Nat.zero_le _, h0⟩, ?_⟩
  rintro i m H ⟨rfl, hi, p⟩
  have q := hG i H hi p
  by_cases hlt : i < n
  · exact .inr ⟨w.goes i H hlt q, Pv (i + 1), fun H' p' => ⟨n - (i + 1), by omega, rfl, hlt, p'⟩, fun x H' y => hs i x H H' hlt p (w.yields i H x H' hlt q y)⟩
  · obtain rfl : i = n := by omega
    exact .inl ⟨w.stops H q, hd H p⟩
theorem putK_new {kvs : List (Key × V)} {k : Key} {z : V} (h : k ∉ kvs.map (·.1)) : putK kvs k z = kvs ++ [(k, z)] := by
  unfold putK
  rw [if_neg]
  simp only [List.any_eq_true, not_exists, not_and, decide_eq_true_eq]
  exact fun p hp e => h (List.mem_map.mpr ⟨p, hp, e⟩)

theorem tYes_if {σ : L2.St} {H : Hp} {A B : Hp → Prop} (h : A H) : tYes σ H fun b H3 => if b = true then A H3 else B H3 := show (if true = true then A H else B H) from by rw [if_pos rfl]; exact h
theorem none_of_same {H H' : Hp} {p : Addr} (s : Same H H') (h : H' p = none) : H p = none := by
  cases q : H p with
  | none => rfl
  | some o => rw [s p o q] at h; cases h
theorem filt {α : Type} (l : List α) : l.filter (fun _ => true) = l := List.filter_eq_self.mpr fun _ _ => rfl
theorem range_get {n j p : Nat} (h : (List.range n)[j]? = some p) : j < n ∧ p = j := by
  have hj : j < n := by have := (List.getElem?_eq_some_iff.mp h).1; simpa using this
  rw [List.getElem?_range hj] at h
  exact ⟨hj, (Option.some.inj h).symm⟩
theorem nodup_idx {α : Type} {l : List α} (h : l.Nodup) {i j : Nat} {a : α} (hi : l[i]? = some a) (hj : l[j]? = some a) : i = j := by
  obtain ⟨h1, e1⟩ := List.getElem?_eq_some_iff.mp hi
  obtain ⟨h2, e2⟩ := List.getElem?_eq_some_iff.mp hj
  rcases Nat.lt_trichotomy i j with k | k | k
  · exact absurd (e1.trans e2.symm) (List.pairwise_iff_getElem.mp h _ _ h1 h2 k)
  · exact k
  · exact absurd (e2.trans e1.symm) (List.pairwise_iff_getElem.mp h _ _ h2 h1 k)
/-! ### lists in lists -/
abbrev Ent := Nat × Addr × List Addr
structure Grid (H : Hp) (es : List Ent) (f : Nat → Nat → List Nat) : Prop where
  out : ∀ e ∈ es, H e.2.1 = some (.lst (e.2.2.map V.ref))
  cell : ∀ e ∈ es, ∀ (p : Nat) (i : Addr), e.2.2[p]? = some i → H i = some (.lst ((f e.1 p).map fun n : Nat => V.int (n : Int)))
  apart : ∀ e ∈ es, ∀ e' ∈ es, ∀ i ∈ e'.2.2, e.2.1 ≠ i
  one : ∀ e ∈ es, ∀ e' ∈ es, ∀ (p p' : Nat) (i : Addr), e.2.2[p]? = some i → e'.2.2[p']? = some i → e = e' ∧ p = p'
abbrev keyc (c : Nat) : Key := Sum.inr (sg c)
abbrev grK (es : List Ent) : List (Key × V) := es.map fun e => (keyc e.1, V.ref e.2.1)
theorem Grid.dict {H : Hp} {es : List Ent} {f : Nat → Nat → List Nat} {D : Addr} {kvs : List (Key × V)} {o : HO} (g : Grid H es f) (hD : H D = some (.dK kvs)) : Grid (upd H D o) es f :=
  ⟨fun e he => by rw [upd_ne (ne_of (g.out e he) hD (by intro z; cases z))]; exact g.out e he, fun e he p i h => by rw [upd_ne (ne_of (g.cell e he p i h) hD (by intro z; cases z))]; exact g.cell e he p i h, g.apart, g.one⟩
theorem Grid.same {H H' : Hp} {es : List Ent} {f : Nat → Nat → List Nat} (g : Grid H es f) (s : Same H H') : Grid H' es f :=
  ⟨fun e he => s _ _ (g.out e he), fun e he p i h => s _ _ (g.cell e he p i h), g.apart, g.one⟩
theorem Grid.add {H2 H3 : Hp} {es : List Ent} {c : Nat} {D2 : Addr} {is : List Addr} (g : Grid H2 es (fun _ _ => [])) (s3 : Same H2 H3) (hD2 : H2 D2 = none) (f2 : H3 D2 = some (.lst (is.map V.ref)))
    (f3 : ∀ i ∈ is, H3 i = some (.lst []) ∧ H2 i = none ∧ i ≠ D2) (f4 : is.Nodup) : Grid H3 (es ++ [(c, D2, is)]) (fun _ _ => []) := by
  have mem : ∀ e, e ∈ es ++ [(c, D2, is)] → e ∈ es ∨ e = (c, D2, is) := fun e he => by simpa using he
  refine ⟨fun e he => ?_, fun e he p i hp => ?_, fun e he e' he' i hi => ?_, fun e he e' he' p p' i hp hp' => ?_⟩
  · rcases mem e he with h | rfl
    · exact s3 _ _ (g.out e h)
    · exact f2
  · rcases mem e he with h | rfl
    · exact s3 _ _ (g.cell e h p i hp)
    · exact (f3 i (List.mem_of_getElem? hp)).1
  · rcases mem e he with h | rfl <;> rcases mem e' he' with h' | rfl
    · exact g.apart e h e' h' i hi
    · exact ne_of_none (g.out e h) (f3 i hi).2.1
    · obtain ⟨p, hp⟩ := List.mem_iff_getElem?.mp hi
      exact (ne_of_none (g.cell e' h' p i hp) hD2).symm
    · exact (f3 i hi).2.2.symm
  · rcases mem e he with h | rfl <;> rcases mem e' he' with h' | rfl
    · exact g.one e h e' h' p p' i hp hp'
    · exact absurd rfl (ne_of_none (g.cell e h p i hp) (f3 i (List.mem_of_getElem? hp')).2.1)
    · exact absurd rfl (ne_of_none (g.cell e' h' p' i hp') (f3 i (List.mem_of_getElem? hp)).2.1)
    · exact ⟨rfl, nodup_idx f4 hp hp'⟩
/-- one more in a cell -/
theorem Grid.put {H : Hp} {es : List Ent} {f : Nat → Nat → List Nat} (g : Grid H es f) (nd : (es.map (·.1)).Nodup) {e : Ent} (he : e ∈ es) {p : Nat} {i : Addr} (hp : e.2.2[p]? = some i) {x : Nat} {f' : Nat → Nat → List Nat} (h1 : f' e.1 p = f e.1 p ++ [x]) (h2 : ∀ c p', ¬ (c = e.1 ∧ p' = p) → f' c p' = f c p') :
    Grid (upd H i (.lst ((f e.1 p).map (fun n : Nat => V.int (n : Int)) ++ [.int (x : Int)]))) es f' := by
  refine ⟨fun e' he' => ?_, fun e' he' p' i' hp' => ?_, g.apart, g.one⟩
  · rw [upd_ne (g.apart e' he' e he i (List.mem_of_getElem? hp))]; exact g.out e' he'
  · by_cases z : i' = i
    · subst z
      obtain ⟨rfl, rfl⟩ := g.one e' he' e he p' p i' hp' hp
      rw [upd_same, h1, List.map_append]; rfl
    · have hne : ¬ (e'.1 = e.1 ∧ p' = p) := fun ⟨a, b⟩ => z (by
        obtain ⟨k, hk⟩ := List.mem_iff_getElem?.mp he'
        obtain ⟨m, hm⟩ := List.mem_iff_getElem?.mp he
        have h3 : (es.map (·.1))[k]? = some e.1 := by rw [List.getElem?_map, hk, ← a]; rfl
        have h4 : (es.map (·.1))[m]? = some e.1 := by rw [List.getElem?_map, hm]; rfl
        have := nodup_idx nd h3 h4
        subst this
        rw [hk] at hm
        obtain rfl := Option.some.inj hm
        subst b
        rw [hp] at hp'; exact (Option.some.inj hp').symm)
      rw [upd_ne z, h2 _ _ hne]
      exact g.cell e' he' p' i' hp'
theorem valV_gr {es : List Ent} (nd : (es.map (·.1)).Nodup) {e : Ent} (he : e ∈ es) : valV (grK es) (keyc e.1) = some (.ref e.2.1) := by
  induction es with
  | nil => cases he
  | cons a es ih =>
    rw [List.map_cons, List.nodup_cons] at nd
    rcases List.mem_cons.mp he with rfl | he
    · exact valV_pos rfl
    · refine (valV_neg fun z => nd.1 ?_).trans (ih nd.2 he)
      have : a.1 = e.1 := by
        have := congrArg (fun k : Key => match k with | .inr s => s.cps[0]? | _ => none) z
        simpa [keyc, sg] using this
      rw [this]; exact List.mem_map.mpr ⟨e, he, rfl⟩
theorem keyc_inj {a b : Nat} (h : keyc a = keyc b) : a = b := by
  have := congrArg (fun k : Key => match k with | .inr s => s.cps[0]? | _ => none) h
  simpa [keyc, sg] using this
/-- the moves' dict -/
def Mvs (K : PySem.W.Frag) (H : Hp) (dm : Addr) (L : List Nat) (n : Nat) (as : List Arr) : Prop :=
  ∃ vs : List V, H dm = some (.dK ((L.zip vs).map fun p => (keyc p.1, p.2))) ∧ Paired (fun c v => Dt K H v (.tuple ((List.range n).map fun p => eNs (mvs as c p)))) L vs
def sp_moves_of (w : World) (K : PySem.W.Frag) : Sp := fun vs H Q E => ∃ (v : V) (L : List Nat) (n : Nat) (as : List Arr), vs = [.str (tx L), .int (n : Int), v] ∧ LetOk L ∧ Dt K H v (.tuple (as.map eA)) ∧ as.length ≤ 4000 ∧ n ≤ 60 ∧ (∀ a ∈ as, a.1 < n ∧ a.2.1 ∈ L ∧ a.2.2 < n) ∧
   ∀ dm H', Same H H' → Mvs K H' dm L n as → Q (.ref dm) H'
abbrev N_moves_of : List Str := ["letters", "size", "arrows", "letter", "state", "found", "other", "rows", "others"]
theorem sc_moves_of : FnScope N_moves_of ["letters", "size", "arrows"] (defScope s_moves_of) := ⟨rfl, rfl, rfl, by decide +kernel, rfl, by decide +kernel, by decide +kernel⟩
theorem p_moves_of (T : Tx K mg) : Fn P w K mg base 1 "moves_of" (sp_moves_of w K) := by
  refine fn_mk T.d_moves_of T.g_moves_of sc_moves_of (fun _ _ _ _ _ _ us h => by match us, h with | [_, _, _], _ => rfl) (fun vs H Q E ⟨v, L, n, as, e, hL, hd, hl, hn, ok, q⟩ => by rw [e]; rfl) fun cdv A outer s H vs Q E hr ⟨v, L, n, as, e, hL, hd, hl, hn, ok, q⟩ => ?_
  subst e
  have hu := hr.units
  have hu1 := hu_of hr
  have nd := sc_moves_of.nd
  refine ⟨_, (pss_cons (ps_setDc (i := 5) (own := [("letter", 3)]) rfl nd rfl rfl (sw_trueD rfl rfl rfl (by decide +kernel)) (pi_str (pv 0)) (blkOk_by (N := N_moves_of) (sc := defScope s_moves_of) (by decide +kernel)) (fun _ _ _ _ _ => (pg_name (i := 3) nd rfl (Or.inl rfl) (Or.inr rfl))) (fun _ _ _ _ _ => pts_nil) (fun _ _ _ _ _ => (pv 3)) (fun _ _ _ _ _ => (pe_lc (own := [("state", 4)]) rfl nd (pi_range1 (by rfl) T.b_range (pa_cons (pv 1) pa_nil)) (blkOk_by (by rfl)) (fun _ _ _ _ _ => (pg_name (i := 4) nd rfl (Or.inl rfl) (Or.inr rfl))) (fun _ _ _ _ _ => pts_nil) (fun _ _ _ _ _ => (pe_lst pa_nil)))))
      (pss_cons (ps_for PassesOwn.never rfl (pi_tup (pv 2)) (pg_tup rfl (pgs_cons (pg_name (i := 4) nd rfl (Or.inl rfl)) (pgs_cons (pg_name (i := 3) nd rfl (Or.inl rfl)) (pgs_cons (pg_name (i := 6) nd rfl (Or.inl rfl)) pgs_nil))))
        (pss_one (ps_expr (pe_bm PySem.F.plainAttrs_list PySem.F.slot_list_append PySem.F.type_list_append mt_append (pe_ix ix_list (pe_dget hu1 (pv 5) (pv 3) (fun _ _ => rfl)) (pv 4) (fun _ _ => rfl)) (pa_cons (pv 6) pa_nil)))))
      (pss_one (ps_ret (pe_lock (pe_dc (own := [("letter", 3), ("rows", 7)]) rfl nd (pi_items (pv 5)) (blkOk_by (N := N_moves_of) (sc := defScope s_moves_of) (by decide +kernel)) (fun _ _ _ _ _ => (show PG _ _ (gTup K 2 (gCons (gName 3) (gCons (gName 7) gNil))) from pg_tup rfl (pgs_cons (pg_name (i := 3) nd rfl (Or.inl rfl) (Or.inr rfl)) (pgs_cons (pg_name (i := 7) nd rfl (Or.inl rfl) (Or.inr rfl)) pgs_nil)))) (fun _ _ _ _ _ => pts_nil) (fun _ _ _ _ _ => (pv 3)) (fun _ _ _ _ _ => (show PE _ _ (tThen _ (kTup K)) from (pe_tupleOf (by rfl) T.b_tuple (pe_lc (own := [("others", 8)]) rfl nd (show PI _ _ _ (iList K _) from pi_list (pv 7)) (blkOk_by (by rfl)) (fun _ _ _ _ _ => (pg_name (i := 8) nd rfl (Or.inl rfl) (Or.inr rfl))) (fun _ _ _ _ _ => pts_nil) (fun _ _ _ _ _ => (show PE _ _ (tThen _ (kTup K)) from (pe_tupleOf (by rfl) T.b_tuple (pv 8)))))))))))))), ?_⟩
  obtain ⟨a, xs, rfl, hs, da⟩ := hd.tuple
  have lx : xs.length = as.length := by rw [da.length, List.length_map]
  have l6 := sz60
  have l4 := line4
  have Lnd : L.Nodup := hL.asc.imp fun h e => by omega
  refine ⟨_, rfl, _, rfl, fun D hD => ?_⟩
  refine dc_it walk_str (fun i H' => Same H H' ∧ ∃ es : List Ent, es.map (·.1) = L.take i ∧ H' D = some (.dK (grK es)) ∧ Grid H' es (fun _ _ => []) ∧ ∀ e ∈ es, e.2.2.length = n ∧ ∀ i ∈ e.2.2, H i = none) ⟨Same.new hD, [], rfl, upd_same, ⟨(fun e he => nomatch he), (fun e he => nomatch he), (fun e he => nomatch he), fun e he => nomatch he⟩, fun e he => nomatch he⟩ (fun _ _ _ _ => trivial) (fun i x H1 H2 hi ⟨sm, es, e1, e2, e3, e4⟩ y => ?_) fun H1 ⟨sm, es, e1, e2, e3, e4⟩ => ?_
  · obtain ⟨rfl, c, hc, rfl⟩ := y
    refine ⟨rfl, tYes_if ⟨_, rfl, ⟨_, rfl, _, rfl, by omega, by omega, fun D2 hD2 => ?_⟩⟩⟩
    have D2D : D ≠ D2 := fun z => by rw [← z, e2] at hD2; cases hD2
    refine lc_it walk_range (fun j H3 => Same H2 H3 ∧ ∃ is : List Addr, is.length = j ∧ H3 D2 = some (.lst (is.map V.ref)) ∧ (∀ i ∈ is, H3 i = some (.lst []) ∧ H2 i = none ∧ i ≠ D2) ∧ is.Nodup) ⟨Same.new hD2, [], rfl, upd_same, (fun i hi => nomatch hi), List.nodup_nil⟩ (fun _ _ _ _ => trivial) (fun j x H3 H4 hj ⟨s3, is, f1, f2, f3, f4⟩ y => ?_) fun H3 ⟨s3, is, f1, f2, f3, f4⟩ => ?_
    · obtain ⟨rfl, rfl⟩ := y
      refine ⟨rfl, tYes_if ⟨by show 0 ≤ sizeLine; omega, fun p np => ?_⟩⟩
      have pD2 : D2 ≠ p := ne_of_none f2 np
      refine ⟨_, by rw [upd_ne pD2]; exact f2, by rw [List.length_map]; omega, (s3.put ?_).put hD2, is ++ [p], by rw [List.length_append, f1]; rfl, by rw [upd_same, List.map_append]; rfl, fun i hi => ?_, ?_⟩
      · exact none_of_same s3 np
      · rcases List.mem_append.mp hi with hi | hi
        · obtain ⟨g1, g2, g3⟩ := f3 i hi
          exact ⟨by rw [upd_ne g3, upd_ne (ne_of_none g1 np)]; exact g1, g2, g3⟩
        · obtain rfl : i = p := by simpa using hi
          exact ⟨by rw [upd_ne (Ne.symm pD2), upd_same], none_of_same s3 np, Ne.symm pD2⟩
      · rw [List.nodup_append]
        refine ⟨f4, by simp, fun x hx y hy z => ?_⟩
        obtain rfl : y = p := by simpa using hy
        rw [z, ] at hx
        have := (f3 _ hx).1
        rw [np] at this; cases this
    · have s12 := sm.trans s3
      have nk : keyc c ∉ (grK es).map (·.1) := fun hm => by
        rw [List.map_map] at hm
        obtain ⟨e, he, ee⟩ := List.mem_map.mp hm
        have hc1 : c ∈ L.take i := by rw [← e1]; exact List.mem_map.mpr ⟨e, he, keyc_inj ee⟩
        have hc2 : L[i]? = some c := by rw [← hc]; simp
        obtain ⟨k, hk⟩ := List.mem_iff_getElem?.mp hc1
        rw [List.getElem?_take] at hk
        split at hk
        · have := nodup_idx Lnd hk hc2
          omega
        · cases hk
      have h3D : H3 D = some (.dK (grK es)) := s3 _ _ e2
      have el : es.length ≤ i := by have := congrArg List.length e1; rw [List.length_map, List.length_take] at this; omega
      have iL : i < L.length := by simpa using hi
      have := hL.four
      refine ⟨grK es, keyc c, rfl, h3D, by rw [List.length_map]; omega, ?_⟩
      rw [putK_new nk]
      refine ⟨s12.put hD, es ++ [(c, D2, is)], ?_, by rw [upd_same]; simp [grK], (Grid.add e3 s3 hD2 f2 f3 f4).dict h3D, fun e he => ?_⟩
      · rw [List.map_append, e1, take_one (show L[i]? = some c by rw [← hc]; simp)]; rfl
      · rcases List.mem_append.mp he with h | h
        · exact e4 e h
        · obtain rfl : e = (c, D2, is) := by simpa using h
          exact ⟨by simpa using f1, fun i hi => none_of_same sm (f3 i hi).2.1⟩
  · have eL : es.map (·.1) = L := by rw [e1]; exact List.take_of_length_le (by simp)
    have nd' : (es.map (·.1)).Nodup := by rw [eL]; exact Lnd
    refine ⟨_, rfl, a, rfl, ⟨_, SqT.tle sm.tle hs⟩, ?_⟩
    refine for_it (walk_tup (xs := xs)) (fun i σ H' => Same H H' ∧ H' D = some (.dK (grK es)) ∧ Grid H' es (mvs (as.take i)) ∧ ∃ o3 o4 o6, σ = [some (.str (tx L)), some (.int (n : Int)), some (.ref a), o3, o4, some (.ref D), o6, none, none]) ⟨sm, e2, e3, none, none, none, rfl⟩ (fun i σ H' _ h => SqT.tle h.1.tle hs) (fun i x σ H2 H3 hi ⟨s2, h2, g, o3, o4, o6, eσ⟩ y => ?_) fun σ H2 ⟨s2, h2, g, o3, o4, o6, eσ⟩ => ?_
    · obtain ⟨rfl, hx⟩ := y
      subst eσ
      obtain ⟨d, hd1, hd2⟩ := da.get' hx
      rw [List.getElem?_map] at hd1
      obtain ⟨ar, har, rfl⟩ := Option.map_eq_some_iff.mp hd1
      obtain ⟨p, rfl, hp⟩ := (hd2.same s2).arr
      have oka := ok ar (List.mem_of_getElem? har)
      obtain ⟨e, he, ee⟩ := List.mem_map.mp (show ar.2.1 ∈ es.map (·.1) by rw [eL]; exact oka.2.1)
      obtain ⟨i0, hi0⟩ : ∃ i0, e.2.2[ar.1]? = some i0 := ⟨_, List.getElem?_eq_getElem (by rw [(e4 e he).1]; exact oka.1)⟩
      have hc0 := g.cell e he _ _ hi0
      have hv := valV_gr nd' he
      rw [ee] at hv
      refine tg3 hp ⟨_, rfl, _, rfl, D, _, rfl, .inl ⟨_, keyc ar.2.1, .inl h2, rfl, hv.symm⟩, ?_⟩
      refine ⟨_, rfl, e.2.1, _, _, .ref i0, rfl, rfl, SqL.of (g.out e he), atI_nat (j := ar.1) (by rw [List.getElem?_map, hi0]; rfl), .inl ⟨rfl, _, SqL.of hc0⟩, _, rfl, i0, _, _, rfl, rfl, hc0, ?_, ?_⟩
      · have : (mvs (as.take i) e.1 ar.1).length ≤ as.length := by
          unfold mvs
          rw [List.length_map]
          refine Nat.le_trans (List.length_filter_le ..) ?_
          rw [List.length_take]; omega
        rw [List.length_map]; omega
      · have hcD : i0 ≠ D := ne_of hc0 h2 (by intro z; cases z)
        refine ⟨?_, by rw [upd_ne (Ne.symm hcD)]; exact h2, g.put nd' he hi0 ?_ ?_, _, _, _, rfl⟩
        · exact s2.put ((e4 e he).2 i0 (List.mem_of_getElem? hi0))
        · rw [take_one har, mvs_snoc, if_pos ⟨rfl, ee.symm⟩]
        · intro c p' hne
          rw [take_one har, mvs_snoc, if_neg]
          intro ⟨b1, b2⟩
          exact hne ⟨by rw [ee, b2], b1.symm⟩
    · subst eσ
      rw [lx, List.take_length] at g
      refine ⟨D, _, h2, trivial, fun od => ?_⟩
      refine ⟨_, rfl, D, od, _, rfl, upd_same, fun dm hdm => ?_⟩
      have gF : Grid (upd H2 D (.frz od (.dK (grK es)))) es (mvs as) := g.dict h2
      have dmD : D ≠ dm := fun z => by rw [← z, upd_same] at hdm; cases hdm
      refine dc_it walk_items (fun i H3 => Same (upd H2 D (.frz od (.dK (grK es)))) H3 ∧ ∃ vs : List V, vs.length = i ∧ H3 dm = some (.dK (((L.take i).zip vs).map fun p => (keyc p.1, p.2))) ∧ Paired (fun c v => Dt K H3 v (.tuple ((List.range n).map fun p => eNs (mvs as c p)))) (L.take i) vs)
        ⟨Same.new hdm, [], rfl, by rw [upd_same]; rfl, .nil⟩ (fun i H3 _ h => h.1 _ _ upd_same) (fun i x H3 H4 hi ⟨s3, vs, f1, f2, f3⟩ y => ?_) fun H3 ⟨s3, vs, f1, f2, f3⟩ => ?_
      · obtain ⟨t, kx, vx, rfl, ht, rfl, y1, y2⟩ := y
        have ge : (grK es)[i]? = (es[i]?).map fun e => (keyc e.1, V.ref e.2.1) := by rw [List.getElem?_map]
        dsimp only at y1 y2
        rw [ge] at y1 y2
        cases hei : es[i]? with
        | none => rw [hei] at y1; cases y1
        | some e =>
          rw [hei] at y1 y2
          cases y1; cases y2
          have he : e ∈ es := List.mem_of_getElem? hei
          have s6 : Same H3 (upd H3 t (.tup [kV (keyc e.1), V.ref e.2.1])) := Same.new ht
          have sF := s3.trans s6
          have g4 := gF.same sF
          have il : i < L.length := by
            have := (List.getElem?_eq_some_iff.mp hei).1
            have e5 := congrArg List.length eL
            rw [List.length_map] at e5
            omega
          have hLi : L[i]? = some e.1 := by rw [← eL, List.getElem?_map, hei]; rfl
          refine tg2 (SqT.of upd_same) ⟨rfl, tYes_if ⟨_, rfl, ?_⟩⟩
          refine ⟨_, rfl, e.2.1, rfl, ⟨_, SqL.of (g4.out e he)⟩, fun D3 hD3 => ?_⟩
          have ln : e.2.2.length = n := (e4 e he).1
          refine comp_it (walk_list (xs := e.2.2.map V.ref)) grows_at (List.range n) (by rw [List.length_range, List.length_map, ln]) (by rw [List.length_map]; omega) (fun _ => true) (fun p y H => Dt K H y (eNs (mvs as e.1 p))) (fun p y H H' k h => h.to k) hD3 (fun H' sm' => SqL.of (sm' _ _ (g4.out e he))) (fun j x p H' H5 hp sm' y => turn_name rfl fun C c2 => ?_) fun ys H5 sm' hy pa => ?_
          · obtain ⟨rfl, hx⟩ := y
            obtain ⟨jn, rfl⟩ := range_get hp
            rw [List.getElem?_map] at hx
            obtain ⟨i0, hi0, rfl⟩ := Option.map_eq_some_iff.mp hx
            exact ⟨_, rfl, .inl ⟨i0, _, rfl, SqL.of (sm' _ _ (g4.cell e he _ i0 hi0)), fun q nq => c2 _ _ (Same.new nq) (Dt.ofNs (SqT.of upd_same))⟩⟩
          · have lys : ys.length ≤ sizeLine := by
              have := Paired.length pa
              rw [filt, List.length_range] at this
              omega
            refine .inl ⟨D3, ys, rfl, SqL.of hy, fun q nq => ?_⟩
            have s5 := (sF.trans sm').trans (Same.new (o := .tup ys) nq)
            have h5dm : (upd H5 q (.tup ys)) dm = some (.dK (((L.take i).zip vs).map fun p => (keyc p.1, p.2))) := by
              rw [upd_ne (ne_of_none (sm' _ _ (s6 _ _ f2)) nq)]
              exact sm' _ _ (s6 _ _ f2)
            have := hL.four
            have lz : (((L.take i).zip vs).map fun p => (keyc p.1, p.2)).length ≤ i := by rw [List.length_map, List.length_zip]; omega
            refine ⟨_, keyc e.1, rfl, h5dm, by omega, ?_⟩
            have nk : keyc e.1 ∉ (((L.take i).zip vs).map fun p : Nat × V => (keyc p.1, p.2)).map (·.1) := fun hm => by
              rw [List.map_map] at hm
              obtain ⟨z, hz, ez⟩ := List.mem_map.mp hm
              have h1 : z.1 ∈ L.take i := (List.of_mem_zip hz).1
              rw [keyc_inj ez] at h1
              obtain ⟨k, hk⟩ := List.mem_iff_getElem?.mp h1
              rw [List.getElem?_take] at hk
              split at hk
              · have := nodup_idx Lnd hk hLi
                omega
              · cases hk
            rw [putK_new nk]
            have hdm2 : ∀ o : HO, TLe (upd H5 q (.tup ys)) (upd (upd H5 q (.tup ys)) dm o) := fun o => TLe.dK h5dm
            refine ⟨s5.put hdm, vs ++ [.ref q], by rw [List.length_append, f1]; rfl, ?_, ?_⟩
            · rw [upd_same, take_one hLi, List.zip_append (by rw [f1, List.length_take]; omega), List.map_append]; rfl
            · rw [take_one hLi]
              refine paired_append (Paired.mono (fun c v h => h.to (((s6.trans (sm'.trans (Same.new nq))).tle).trans (hdm2 _))) f3) (.cons ?_ .nil)
              refine Dt.to (K := K) ?_ (hdm2 _)
              have pd := DtAll.of (K := K) (fun p => eNs (mvs as e.1 p)) (as := List.range n) (vs := ys) (H := H5) (by rw [filt] at pa; exact pa)
              exact .tup (SqT.of upd_same) (pd.same (Same.new nq))
      · have len : (grK es).length = L.length := by rw [List.length_map, ← eL, List.length_map]
        rw [len, List.take_length] at f2 f3
        refine ⟨s3 _ _ upd_same, q dm _ ?_ ⟨vs, ?_, ?_⟩⟩
        · exact fun b o e => by rw [upd_ne (ne_of_none e hD)]; exact s3 _ _ (by rw [upd_ne (ne_of_none e hD)]; exact s2 _ _ e)
        · rw [upd_ne (Ne.symm dmD)]; exact f2
        · exact Paired.mono (fun c v h => h.to (TLe.frz (s3 _ _ upd_same))) f3
end K39
end Text_K39Q

section Text_K39Q2
set_option Elab.async false set_option linter.all false set_option maxRecDepth 100000 set_option maxHeartbeats 4000000
/-! Readers made. -/
namespace K39
open PySem PySem.Spec PyProof.Rows L2
variable {P : Program} {w : World} {K : PySem.W.Frag} {mg : Str → Option Value} {base : Heap}

/-! ### sorting data -/
def srtBy {α : Type} (e : α → PyData) (l : List α) : List α := l.mergeSort fun a b => dLe (e a) (e b)
section
variable {α : Type} {e : α → PyData} {l : List α}
theorem srtBy_map : (srtBy e l).map e = (l.map e).mergeSort dLe := PySem.W.sort_maps e fun _ _ _ _ => rfl
theorem srtBy_perm : (srtBy e l).Perm l := List.mergeSort_perm ..
theorem dLe_def (a b : PyData) : dLe a b = !PySem.W.dataLt b a := rfl
theorem srtBy_asc (inj : ∀ a b, PySem.W.keyToks (e a) = PySem.W.keyToks (e b) → a = b) (h : l.Nodup) : (srtBy e l).Pairwise fun a b => PySem.W.dataLt (e a) (e b) = true := by
  have hs : (srtBy e l).Pairwise fun a b => dLe (e a) (e b) = true := List.pairwise_mergeSort (fun a b c => dLe_total.trans (e a) (e b) (e c)) (fun a b => by rcases dLe_total.total (e a) (e b) with h | h <;> simp [h]) l
  have hn : (srtBy e l).Nodup := srtBy_perm.nodup_iff.mpr h
  refine (hs.and hn).imp fun {a b} ⟨h1, h2⟩ => ?_
  rw [dLe_def, Bool.not_eq_true'] at h1
  cases q : PySem.W.dataLt (e a) (e b) with
  | true => rfl
  | false => exact absurd (inj a b (PyProof.Rows.lex_total _ _ q h1)) h2
end
theorem eA_toks (a b : Arr) (h : PySem.W.keyToks (eA a) = PySem.W.keyToks (eA b)) : a = b := by
  obtain ⟨a1, a2, a3⟩ := a
  obtain ⟨b1, b2, b3⟩ := b
  simp [eA, PySem.W.keyToks, PySem.W.keyToksAll, sg] at h
  obtain ⟨h1, h2, h3⟩ := h
  rw [show a1 = b1 by omega, h2, show a3 = b3 by omega]
theorem eN_toks (a b : Nat) (h : PySem.W.keyToks (eN a) = PySem.W.keyToks (eN b)) : a = b := by
  simp [eN, PySem.W.keyToks] at h
  omega
theorem aLt_ne {a b : Arr} (h : aLt a b) : a ≠ b := fun e => by
  rw [e] at h
  have : PySem.W.dataLt (eA b) (eA b) = false := lex_irrefl _
  rw [show PySem.W.dataLt (eA b) (eA b) = true from h] at this
  cases this
/-- arrows sorted, states sorted -/
abbrev srtA (l : List Arr) : List Arr := srtBy eA l
abbrev srtN (l : List Nat) : List Nat := srtBy eN l
theorem srtN_asc {l : List Nat} (h : l.Nodup) : (srtN l).Pairwise (· < ·) := (srtBy_asc eN_toks h).imp fun {a b} h => by
  rw [PySem.W.dataLt_int] at h
  have := of_decide_eq_true h
  omega

theorem putF_new {f : Str} {v : V} : ∀ {fs : List (Str × V)} (names : List Str), fs.map (·.1) = names → f ∉ names → putF f v fs = fs ++ [(f, v)]
  | [], _, _, _ => rfl
  | (g, x) :: r, _, rfl, h => by
    have h1 : g ≠ f := fun e => h (by rw [List.map_cons, e]; exact List.mem_cons_self)
    show (if g = f then (g, v) :: r else (g, x) :: putF f v r) = _
    rw [if_neg h1, putF_new (r.map (·.1)) rfl fun m => h (List.mem_cons_of_mem _ m)]; rfl
/-! ### readers -/
structure Rd.Ok (R : Rd) : Prop where
  lets : LetOk R.L
  n1 : 1 ≤ R.n
  n60 : R.n ≤ 60
  fs : R.fs.Pairwise (· < ·)
  fsn : ∀ p ∈ R.fs, p < R.n
  ls : R.ls.Pairwise (· < ·)
  lsn : ∀ p ∈ R.ls, p < R.n
  arn : ∀ a ∈ R.ar, a.1 < R.n ∧ a.2.1 ∈ R.L ∧ a.2.2 < R.n
  ar : R.ar.Pairwise aLt
  arl : R.ar.length ≤ 4000
theorem asc_len {l : List Nat} {n : Nat} (h : l.Pairwise (· < ·)) (hn : ∀ p ∈ l, p < n) : l.length ≤ n := by
  have := nodup_len l (List.range n) (h.imp fun h => by omega) fun x hx => List.mem_range.mpr (hn x hx)
  rwa [List.length_range] at this
abbrev rdFs (R : Rd) (sl : Addr) (fv lv av : V) (dm : Addr) : List (Str × V) := [("own_letters", .str (tx R.L)), ("own_size", .int (R.n : Int)), ("own_states", .ref sl), ("own_firsts", fv), ("own_lasts", lv), ("own_arrows", av), ("own_moves", .ref dm)]
/-- a reader at a -/
def Rdr (K : PySem.W.Frag) (H : Hp) (a : Addr) (R : Rd) : Prop := ∃ dx sl fv lv av dm, H a = some (.ins (He.ga K "Reader") dx (rdFs R sl fv lv av dm)) ∧ Dt K H fv (eNs R.fs) ∧ Dt K H lv (eNs R.ls) ∧ Dt K H av (.tuple (R.ar.map eA)) ∧ Mvs K H dm R.L R.n R.ar
theorem Mvs.same {H H' : Hp} {dm : Addr} {L : List Nat} {n : Nat} {as : List Arr} (h : Mvs K H dm L n as) (s : Same H H') : Mvs K H' dm L n as := by
  obtain ⟨vs, h1, h2⟩ := h
  exact ⟨vs, s _ _ h1, Paired.mono (fun _ _ h => h.same s) h2⟩
theorem Rdr.same {H H' : Hp} {a : Addr} {R : Rd} (h : Rdr K H a R) (s : Same H H') : Rdr K H' a R := by
  obtain ⟨dx, sl, fv, lv, av, dm, h1, h2, h3, h4, h5⟩ := h
  exact ⟨dx, sl, fv, lv, av, dm, s _ _ h1, h2.same s, h3.same s, h4.same s, h5.same s⟩
def sp_Reader_init (w : World) (K : PySem.W.Frag) : Sp := fun vs H Q E => ∃ (a dx C : Addr) (R : Rd) (fv lv av : V), vs = [.ref a, .str (tx R.L), .int (R.n : Int), fv, lv, av] ∧ C = He.ga K "Reader" ∧ H a = some (.ins C dx []) ∧ R.Ok ∧ Dt K H fv (eNs R.fs) ∧ Dt K H lv (eNs R.ls) ∧ Dt K H av (.tuple (R.ar.map eA)) ∧
   ∀ H', SameX a H H' → Rdr K H' a R → Q .non H'
abbrev N_Reader_init : List Str := ["self", "letters", "size", "firsts", "lasts", "arrows"]
theorem sc_Reader_init : FnScope N_Reader_init ["self", "letters", "size", "firsts", "lasts", "arrows"] (defScope s_Reader_init) := ⟨rfl, rfl, rfl, by decide +kernel, rfl, by decide +kernel, by decide +kernel⟩
theorem p_Reader_init (T : Tx K mg) : FnR P w K mg base CX0 5 (He.ma K (He.ga K "Reader") "__init__") (sp_Reader_init w K) ∧ PySem.W.keepIn K (.ref (He.ma K (He.ga K "Reader") "__init__")) = true := by
  refine fnr_mk T.d_Reader_init sc_Reader_init (fun _ _ _ _ _ _ us h => by match us, h with | [_, _, _, _, _, _], _ => rfl) (fun vs H Q E ⟨a, dx, C, R, fv, lv, av, e, eC, ha, ok, d1, d2, d3, q⟩ => by rw [e]; rfl) fun cdv A outer s H vs Q E hr ⟨a, dx, C, R, fv, lv, av, e, eC, ha, ok, d1, d2, d3, q⟩ => ?_
  subst e
  have hu := hr.units
  have hu1 := hu_of hr
  have nd := sc_Reader_init.nd
  refine ⟨_, (pss_cons (ps_expr (cg (p_require_letters T) hr (pa_cons (pv 1) pa_nil)))
      (pss_cons (ps_if (pt_not (pt_val (cg (p_is_integer_within T) hr (pa_cons (pv 2) (pa_cons pe_int (pa_cons (pgi T.i_MAX_STATES) pa_nil)))))) (pss_one ps_never) pss_nil)
      (pss_cons (ps_if (PW.pt (pw_or (pt_not (pt_val (cg (p_is_number_set T) hr (pa_cons (pv 3) (pa_cons (pv 2) pa_nil))))) (pw_or (pt_not (pt_val (cg (p_is_number_set T) hr (pa_cons (pv 4) (pa_cons (pv 2) pa_nil))))) (pw_or1 (pt_not (pt_val (cg (p_are_arrows T) hr (pa_cons (pv 1) (pa_cons (pv 2) (pa_cons (pv 5) pa_nil)))))))))) (pss_one ps_never) pss_nil)
      (pss_cons (ps_fld (pv 0) (pv 1) rfl)
      (pss_cons (ps_fld (pv 0) (pv 2) rfl)
      (pss_cons (ps_fld (pv 0) (pe_listRg rfl (by rfl) T.b_list (prg_1 (by rfl) T.b_range (pv 2))) rfl)
      (pss_cons (ps_fld (pv 0) (pv 3) rfl)
      (pss_cons (ps_fld (pv 0) (pv 4) rfl)
      (pss_cons (ps_fld (pv 0) (pv 5) rfl)
      (pss_one (ps_fld (pv 0) (cg (p_moves_of T) hr (pa_cons (pv 1) (pa_cons (pv 2) (pa_cons (pv 5) pa_nil)))) rfl))))))))))), ?_⟩
  subst eC
  have g6 := g60
  have g00 := g0
  have n1 := ok.n1
  have n6 := ok.n60
  have lf := asc_len ok.fs ok.fsn
  have ll := asc_len ok.ls ok.lsn
  refine ⟨_, rfl, R.L, rfl, ok.lets, fun H1 s1 => ?_⟩
  refine ⟨_, rfl, _, _, _, rfl, by omega, by omega, by omega, by omega, true, rfl, iteF ?_⟩
  refine ⟨_, rfl, _, rfl, fv, R.fs, R.n, rfl, d1.same s1, by omega, n6, ok.fs, ok.fsn, fun H2 s2 => ⟨true, rfl, iteF ?_⟩⟩
  have s2' := s1.trans s2
  refine ⟨_, rfl, _, rfl, lv, R.ls, R.n, rfl, d2.same s2', by omega, n6, ok.ls, ok.lsn, fun H3 s3 => ⟨true, rfl, iteF ?_⟩⟩
  have s3' := s2'.trans s3
  refine ⟨_, rfl, _, rfl, _, rfl, av, R.L, R.n, R.ar, rfl, d3.same s3', ok.arl, n6, ok.arn, ok.ar, fun H4 s4 => ⟨true, rfl, iteF ?_⟩⟩
  have s4' := s3'.trans s4
  have h4 := s4' _ _ ha
  have tI : ∀ (H' : Hp) (fs : List (Str × V)) (o : HO), TLe (upd H' a (.ins (He.ga K "Reader") dx fs)) (upd (upd H' a (.ins (He.ga K "Reader") dx fs)) a o) := fun H' fs o => TLe.ins upd_same
  refine ⟨_, rfl, _, rfl, a, _, dx, _, rfl, h4, T.c_Reader, T.n_Reader_own_letters, by simp, ?_⟩
  rw [putF_new [] rfl (by decide)]
  refine ⟨_, rfl, _, rfl, a, _, dx, _, rfl, upd_same, T.c_Reader, T.n_Reader_own_size, by simp, ?_⟩
  rw [putF_new ["own_letters"] rfl (by decide)]
  refine ⟨_, rfl, _, rfl, RgOk.of_le (by omega) (by omega) (by omega) (by omega), fun sl nsl => ?_⟩
  have asl : a ≠ sl := fun z => by rw [← z, upd_same] at nsl; cases nsl
  refine ⟨_, rfl, a, _, dx, _, rfl, by rw [upd_ne asl, upd_same], T.c_Reader, T.n_Reader_own_states, by simp, ?_⟩
  rw [putF_new ["own_letters", "own_size"] rfl (by decide)]
  refine ⟨_, rfl, _, rfl, a, _, dx, _, rfl, upd_same, T.c_Reader, T.n_Reader_own_firsts, by simp, ?_⟩
  rw [putF_new ["own_letters", "own_size", "own_states"] rfl (by decide)]
  refine ⟨_, rfl, _, rfl, a, _, dx, _, rfl, upd_same, T.c_Reader, T.n_Reader_own_lasts, by simp, ?_⟩
  rw [putF_new ["own_letters", "own_size", "own_states", "own_firsts"] rfl (by decide)]
  refine ⟨_, rfl, _, rfl, a, _, dx, _, rfl, upd_same, T.c_Reader, T.n_Reader_own_arrows, by simp, ?_⟩
  rw [putF_new ["own_letters", "own_size", "own_states", "own_firsts", "own_lasts"] rfl (by decide)]
  have nsl' : H4 sl = none := by rwa [upd_ne (Ne.symm asl), upd_ne (Ne.symm asl)] at nsl
  have sx : ∀ o1 o2 o3 o4 o5 o6 o7 : HO, SameX a H (upd (upd (upd (upd (upd (upd (upd H4 a o1) a o2) sl o3) a o4) a o5) a o6) a o7) := fun _ _ _ _ _ _ _ => ((((SameX.new (s4'.x.put.put) (none_of_same s4' nsl')).put).put).put).put
  refine ⟨_, rfl, _, rfl, _, rfl, av, R.L, R.n, R.ar, rfl, ok.lets, d3.to ((sx _ _ _ _ _ _ _).tle (by intro xs z; rw [ha] at z; cases z) (by intro o u z; rw [ha] at z; cases z)), ok.arl, n6, ok.arn, fun dm H8 s8 hm => ?_⟩
  have h8 := s8 a _ upd_same
  refine ⟨_, rfl, a, _, dx, _, rfl, h8, T.c_Reader, T.n_Reader_own_moves, by simp, ?_⟩
  rw [putF_new ["own_letters", "own_size", "own_states", "own_firsts", "own_lasts", "own_arrows"] rfl (by decide)]
  have sx8 : ∀ o : HO, SameX a H (upd H8 a o) := fun o => ((sx _ _ _ _ _ _ _).trans s8.x).put
  have t8 : ∀ o : HO, TLe H (upd H8 a o) := fun o => (sx8 o).tle (by intro xs z; rw [ha] at z; cases z) (by intro o u z; rw [ha] at z; cases z)
  refine q _ (sx8 _) ⟨dx, sl, fv, lv, av, dm, upd_same, d1.to (t8 _), d2.to (t8 _), d3.to (t8 _), ?_⟩
  obtain ⟨ms, m1, m2⟩ := hm
  exact ⟨ms, by rw [upd_ne (ne_of m1 h8 (by intro z; cases z))]; exact m1, Paired.mono (fun _ _ h => h.to (TLe.ins h8)) m2⟩
theorem make_same {H H' : Hp} {x dx : Addr} {o1 o2 : HO} (s : SameX x (upd (upd H dx o1) x o2) H') (nx : H x = none) (ndx : H dx = none) : Same H H' := fun b o e =>
  s b o (by rw [upd_ne (ne_of_none e nx), upd_ne (ne_of_none e ndx)]; exact e) (ne_of_none e nx)
theorem make_tle {H : Hp} {x dx : Addr} {o1 o2 : HO} (nx : H x = none) (ndx : H dx = none) : Same H (upd (upd H dx o1) x o2) := fun b o e => by
  rw [upd_ne (ne_of_none e nx), upd_ne (ne_of_none e ndx)]; exact e
def sp_require_reader (w : World) (K : PySem.W.Frag) : Sp := fun vs H Q E => ∃ (a : Addr) (R : Rd), vs = [.ref a] ∧ Rdr K H a R ∧ Q .non H
abbrev N_require_reader : List Str := ["value"]
theorem sc_require_reader : FnScope N_require_reader ["value"] (defScope s_require_reader) := ⟨rfl, rfl, rfl, by decide +kernel, rfl, by decide +kernel, by decide +kernel⟩
theorem p_require_reader (T : Tx K mg) : Fn P w K mg base 1 "require_reader" (sp_require_reader w K) := by
  refine fn_mk T.d_require_reader T.g_require_reader sc_require_reader (fun _ _ _ _ _ _ us h => by match us, h with | [_], _ => rfl) (fun vs H Q E ⟨a, R, e, h, q⟩ => by rw [e]; rfl) fun cdv A outer s H vs Q E hr ⟨a, R, e, h, q⟩ => ?_
  subst e
  have hu := hr.units
  have hu1 := hu_of hr
  have nd := sc_require_reader.nd
  refine ⟨_, (pss_one (ps_if (pt_not (pt_val (pe_callB cr_is (by rfl) T.b_isinstance (by decide +kernel) (pa_cons (pv 0) (pa_cons (pgc T.g_Reader) pa_nil))))) (pss_one ps_never) pss_nil)), ?_⟩
  obtain ⟨dx, sl, fv, lv, av, dm, h1, h2, h3, h4, h5⟩ := h
  exact ⟨_, rfl, _, _, _, rfl, .own (T.isReader h1), true, rfl, iteF q⟩
/-- the arrows turned -/
abbrev swA (a : Arr) : Arr := (a.2.2, a.2.1, a.1)
def Rd.flip (R : Rd) : Rd := ⟨R.L, R.n, R.ls, R.fs, srtA (R.ar.map swA)⟩
theorem swA_inj (a b : Arr) (h : swA a = swA b) : a = b := by
  obtain ⟨a1, a2, a3⟩ := a
  obtain ⟨b1, b2, b3⟩ := b
  simp [swA] at h
  rw [h.1, h.2.1, h.2.2]
theorem Rd.Ok.nd {R : Rd} (h : R.Ok) : R.ar.Nodup := h.ar.imp aLt_ne
theorem Rd.Ok.flip {R : Rd} (h : R.Ok) : R.flip.Ok where
  lets := h.lets
  n1 := h.n1
  n60 := h.n60
  fs := h.ls
  fsn := h.lsn
  ls := h.fs
  lsn := h.fsn
  arn := fun a ha => by
    obtain ⟨b, hb, rfl⟩ := List.mem_map.mp (srtBy_perm.mem_iff.mp ha)
    have := h.arn b hb
    exact ⟨this.2.2, this.2.1, this.1⟩
  ar := srtBy_asc eA_toks (nodup_map swA swA_inj h.nd)
  arl := by
    show (srtA (R.ar.map swA)).length ≤ 4000
    rw [srtBy_perm.length_eq, List.length_map]; exact h.arl
theorem eA_sortable (l : List Arr) : PySem.W.Sortable (l.map eA) := by
  refine .inl fun a ha => ?_
  obtain ⟨x, _, rfl⟩ := List.mem_map.mp ha
  exact ⟨_, _, rfl⟩
theorem eA_depth (l : List Arr) : ∀ d ∈ l.map eA, d.depth ≤ 32 := fun d hd => (eA_plain l d hd).2
def sp_turned_of (w : World) (K : PySem.W.Frag) : Sp := fun vs H Q E => ∃ (a : Addr) (R : Rd), vs = [.ref a] ∧ R.Ok ∧ Rdr K H a R ∧ ∀ b H', Same H H' → Rdr K H' b R.flip → Q (.ref b) H'
abbrev N_turned_of : List Str := ["reader", "arrows", "state", "letter", "there"]
theorem sc_turned_of : FnScope N_turned_of ["reader"] (defScope s_turned_of) := ⟨rfl, rfl, rfl, by decide +kernel, rfl, by decide +kernel, by decide +kernel⟩
theorem p_turned_of (T : Tx K mg) : Fn P w K mg base 7 "turned_of" (sp_turned_of w K) := by
  refine fn_mk T.d_turned_of T.g_turned_of sc_turned_of (fun _ _ _ _ _ _ us h => by match us, h with | [_], _ => rfl) (fun vs H Q E ⟨a, R, e, ok, h, q⟩ => by rw [e]; rfl) fun cdv A outer s H vs Q E hr ⟨a, R, e, ok, h, q⟩ => ?_
  subst e
  have hu := hr.units
  have hu1 := hu_of hr
  have nd := sc_turned_of.nd
  refine ⟨_, (pss_cons (ps_set (i := 1) nd rfl (Or.inl rfl) (pe_tupleOf (by rfl) T.b_tuple (pe_callB (cr_sortedD hu) (by rfl) T.b_sorted (by decide +kernel) (pa_cons (pe_lc (own := [("state", 2), ("letter", 3), ("there", 4)]) rfl nd (pi_tup (pe_fld (pv 0) rfl)) (blkOk_by (N := N_turned_of) (sc := defScope s_turned_of) (by decide +kernel)) (fun _ _ _ _ _ => (show PG _ _ (gTup K 3 (gCons (gName 2) (gCons (gName 3) (gCons (gName 4) gNil)))) from pg_tup rfl (pgs_cons (pg_name (i := 2) nd rfl (Or.inl rfl) (Or.inr rfl)) (pgs_cons (pg_name (i := 3) nd rfl (Or.inl rfl) (Or.inr rfl)) (pgs_cons (pg_name (i := 4) nd rfl (Or.inl rfl) (Or.inr rfl)) pgs_nil))))) (fun _ _ _ _ _ => pts_nil) (fun _ _ _ _ _ => (pe_tup (pa_cons (pv 4) (pa_cons (pv 3) (pa_cons (pv 2) pa_nil)))))) pa_nil))))
      (pss_one (ps_ret (StX.pe_makeR T.k_Reader (p_Reader_init T).1 (hr.mono (by decide)) (by rfl) T.g_Reader pass0 (pa_cons (pe_fld (pv 0) rfl) (pa_cons (pe_fld (pv 0) rfl) (pa_cons (pe_fld (pv 0) rfl) (pa_cons (pe_fld (pv 0) rfl) (pa_cons (pv 1) pa_nil))))))))), ?_⟩
  have l6 := sz60
  obtain ⟨dx, sl, fv, lv, av, dm, h1, h2, h3, h4, h5⟩ := id h
  obtain ⟨p, xs, rfl, hs, da⟩ := h4.tuple
  have lx : xs.length = R.ar.length := by rw [da.length, List.length_map]
  have al := ok.arl
  refine ⟨_, rfl, a, _, dx, _, _, rfl, h1, T.c_Reader, T.n_Reader_own_arrows, rfl, p, rfl, ⟨_, hs⟩, fun D hD => ?_⟩
  refine comp_it (walk_tup (xs := xs)) grows_at R.ar lx.symm (by omega) (fun _ => true) (fun r y H => Dt K H y (eA (swA r))) (fun p y H H' k h => h.to k) hD (fun H' sm' => SqT.tle sm'.tle hs) (fun j x r H' H5 hp sm' y => ?_) fun ys H5 sm' hy pa => ?_
  · obtain ⟨rfl, hx⟩ := y
    obtain ⟨d, hd1, hd2⟩ := da.get' hx
    rw [List.getElem?_map, hp] at hd1
    obtain rfl := Option.some.inj hd1
    obtain ⟨t, rfl, ht⟩ := (hd2.same sm').arr
    exact turn_3 ht rfl fun C c2 => ⟨_, rfl, _, rfl, _, rfl, by show 3 ≤ sizeLine; omega, fun q nq => c2 _ _ (Same.new nq) (Dt.ofArr (SqT.of upd_same))⟩
  · rw [filt] at pa
    have pd := DtAll.of (K := K) (fun r => eA (swA r)) pa
    have em : (R.ar.map fun r => eA (swA r)) = (R.ar.map swA).map eA := by rw [List.map_map]; rfl
    rw [em] at pd
    refine ⟨D, ys, _, rfl, SqL.of hy, pd, eA_alike _, eA_sortable _, eA_depth _, fun p2 zs np2 hz => ?_⟩
    rw [← srtBy_map] at hz
    refine .inl ⟨p2, zs, rfl, SqL.of upd_same, fun t nt => ?_⟩
    have sF := (sm'.trans (Same.new (o := .lst zs) np2)).trans (Same.new (o := .tup zs) nt)
    have hF := h.same sF
    obtain ⟨dx', sl', fv', lv', av', dm', g1, g2, g3, g4, g5⟩ := id hF
    refine ⟨_, rfl, a, _, dx', _, _, rfl, g1, T.c_Reader, T.n_Reader_own_letters, rfl, _, rfl, a, _, dx', _, _, rfl, g1, T.c_Reader, T.n_Reader_own_size, rfl, _, rfl, a, _, dx', _, _, rfl, g1, T.c_Reader, T.n_Reader_own_lasts, rfl, _, rfl, a, _, dx', _, _, rfl, g1, T.c_Reader, T.n_Reader_own_firsts, rfl, _, rfl, ?_⟩
    intro x dx2 nx ndx nex
    have k := make_tle (o1 := .own x) (o2 := .ins (He.ga K "Reader") dx2 []) nx ndx
    exact ⟨x, dx2, _, R.flip, _, _, _, rfl, rfl, upd_same, ok.flip, g3.same k, g2.same k, (Dt.tup (SqT.of upd_same) (hz.same ((Same.new np2).trans (Same.new nt)))).same k, fun H' sx hr => ⟨rfl, q x H' (sF.trans (make_same sx nx ndx)) hr⟩⟩
def sp_require_size (w : World) (K : PySem.W.Frag) : Sp := fun vs H Q E => ∃ i : Int, vs = [.int i] ∧ i ≤ 60 ∧ Q .non H
abbrev N_require_size : List Str := ["size"]
theorem sc_require_size : FnScope N_require_size ["size"] (defScope s_require_size) := ⟨rfl, rfl, rfl, by decide +kernel, rfl, by decide +kernel, by decide +kernel⟩
theorem p_require_size (T : Tx K mg) : Fn P w K mg base 1 "require_size" (sp_require_size w K) := by
  refine fn_mk T.d_require_size T.g_require_size sc_require_size (fun _ _ _ _ _ _ us h => by match us, h with | [_], _ => rfl) (fun vs H Q E ⟨i, e, h, q⟩ => by rw [e]; rfl) fun cdv A outer s H vs Q E hr ⟨i, e, h, q⟩ => ?_
  subst e
  have hu := hr.units
  have hu1 := hu_of hr
  have nd := sc_require_size.nd
  refine ⟨_, (pss_one (ps_if (pt_cmpR op_gt (pv 0) (pgi T.i_MAX_STATES) (nomark _)) (pss_one ps_never) pss_nil)), ?_⟩
  exact ⟨_, rfl, _, _, rfl, rfl, _, rfl, iteFr (by rw [decide_eq_false (by omega)]; exact Bool.false_ne_true) q⟩
end K39
end Text_K39Q2

section Text_K39Q3
set_option Elab.async false set_option linter.all false set_option maxRecDepth 100000 set_option maxHeartbeats 4000000
/-! Two readers as one; rows. -/
namespace K39
open PySem PySem.Spec PyProof.Rows L2
variable {P : Program} {w : World} {K : PySem.W.Frag} {mg : Str → Option Value} {base : Heap}

/-- a comprehension with two clauses -/
theorem comp2_it {α γ : Type} {J : It} {n : Nat} {G : Hp → Prop} {Y : Nat → Hp → V → Hp → Prop} (w : Walk J n G Y) (gr : Grows Y) (as : List α) (hn : as.length = n) (bs : α → List γ) (R : γ → V → Hp → Prop) (hz : (as.flatMap bs).length < sizeLine)
    (st : ∀ a y H H', TLe H H' → R a y H → R a y H') {g : TG} {tt : TT} {wi1 : TI} {g1 : TG} {tt1 : TT} {te : TE} {vs vs1 : List Nat} {σ : L2.St} {H1 : Hp} {D : Addr} {Qd : Hp → Prop} (hD : H1 D = none)
    (hG : ∀ H, Same H1 H → G H)
    (hs : ∀ i x a H H', as[i]? = some a → Same H1 H → Y i H x H' → ∀ (Nx : Hp → Prop) (acc : List V), H' D = some (.lst acc) → acc.length + (bs a).length < sizeLine → (∀ ys H5, SameX D H' H5 → H5 D = some (.lst (acc ++ ys)) → PAll R (bs a) ys H5 → Nx H5) →
      g x (wipe σ vs) H' fun σ2 H2 => wipe σ2 vs = wipe σ vs ∧ tt σ2 H2 fun b H3 => if b = true then wi1 σ2 H3 fun J1 H4 => ∃ W1 : Nat → Nat → Hp → Prop, (∃ m, W1 0 m H4) ∧ ∀ j k H, W1 j k H →
        (J1.stop j H ∧ Nx H) ∨ (J1.go j H ∧ ∃ Nx1 : Hp → Prop, (∀ H', Nx1 H' → ∃ k', k' < k ∧ W1 (j + 1) k' H') ∧ ∀ x H', J1.yld j H x H' → g1 x (wipe σ2 vs1) H' fun σ3 H5 => wipe σ3 vs1 = wipe σ2 vs1 ∧ tt1 σ3 H5 fun b H6 =>
          if b = true then te σ3 H6 fun y H7 => ∃ acc, H7 D = some (.lst acc) ∧ acc.length < sizeLine ∧ Nx1 (upd H7 D (.lst (acc ++ [y]))) else Nx1 H6) else Nx H3)
    (hd : ∀ ys H, Same H1 H → H D = some (.lst ys) → PAll R (as.flatMap bs) ys H → Qd H) :
    ∃ W : Nat → Nat → Hp → Prop, (∃ m, W 0 m (upd H1 D (.lst []))) ∧ ∀ i m H, W i m H →
      (J.stop i H ∧ Qd H) ∨ (J.go i H ∧ ∃ Nx : Hp → Prop, (∀ H', Nx H' → ∃ m', m' < m ∧ W (i + 1) m' H') ∧ ∀ x H', J.yld i H x H' → g x (wipe σ vs) H' fun σ2 H2 => wipe σ2 vs = wipe σ vs ∧ tt σ2 H2 fun b H3 =>
        if b = true then wi1 σ2 H3 fun J1 H4 => ∃ W1 : Nat → Nat → Hp → Prop, (∃ m, W1 0 m H4) ∧ ∀ j k H, W1 j k H →
          (J1.stop j H ∧ Nx H) ∨ (J1.go j H ∧ ∃ Nx1 : Hp → Prop, (∀ H', Nx1 H' → ∃ k', k' < k ∧ W1 (j + 1) k' H') ∧ ∀ x H', J1.yld j H x H' → g1 x (wipe σ2 vs1) H' fun σ3 H5 => wipe σ3 vs1 = wipe σ2 vs1 ∧ tt1 σ3 H5 fun b H6 =>
            if b = true then te σ3 H6 fun y H7 => ∃ acc, H7 D = some (.lst acc) ∧ acc.length < sizeLine ∧ Nx1 (upd H7 D (.lst (acc ++ [y]))) else Nx1 H6) else Nx H3) := by
  let Pv : Nat → Hp → Prop := fun i H => Same H1 H ∧ ∃ ys, H D = some (.lst ys) ∧ PAll R ((as.take i).flatMap bs) ys H
  refine ⟨fun i m H => m = n - i ∧ i ≤ n ∧ Pv i H, ⟨n, by simp, Nat.zero_le _, Same.new hD, [], upd_same, .nil⟩, ?_⟩
  rintro i m H ⟨rfl, hi, sm, ys, hy, pa⟩
  by_cases hlt : i < n
  · refine .inr ⟨w.goes i H hlt (hG H sm), Pv (i + 1), fun H' p' => ⟨n - (i + 1), by omega, rfl, hlt, p'⟩, fun x H' y0 => ?_⟩
    have y := w.yields i H x H' hlt (hG H sm) y0
    have ha : as[i]? = some as[i] := List.getElem?_eq_getElem (by omega)
    have s1 : Same H H' := gr i H x H' y
    have tot : ((as.take (i + 1)).flatMap bs).length ≤ (as.flatMap bs).length := by
      conv => rhs; rw [← List.take_append_drop (i + 1) as, List.flatMap_append, List.length_append]
      omega
    have cut : (as.take (i + 1)).flatMap bs = (as.take i).flatMap bs ++ bs as[i] := by rw [take_one ha, List.flatMap_append]; simp
    refine hs i x as[i] H H' ha sm y (Pv (i + 1)) ys (s1 _ _ hy) ?_ fun zs H5 s5 h5 p5 => ?_
    · rw [cut, List.length_append] at tot
      have := Paired.length pa
      omega
    · have k : TLe H H5 := s1.tle.trans (s5.tle (by intro xs z; rw [s1 _ _ hy] at z; cases z) (by intro o u z; rw [s1 _ _ hy] at z; cases z))
      refine ⟨fun b o e => s5 b o (s1 _ _ (sm _ _ e)) (ne_of_none e hD), ys ++ zs, h5, ?_⟩
      rw [cut]
      exact paired_append (PAll.to (fun a y => st a y _ _ k) pa) p5
  · obtain rfl : i = n := by omega
    rw [List.take_of_length_le (by omega)] at pa
    exact .inl ⟨w.stops H (hG H sm), hd ys H sm hy pa⟩
theorem SameX.to {p : Addr} {H H' : Hp} {xs : List V} (s : SameX p H H') (h : H p = some (.lst xs)) : TLe H H' := s.tle (by intro xs z; rw [h] at z; cases z) (by intro o u z; rw [h] at z; cases z)
theorem paired_map {α β γ : Type} {F : β → γ → Prop} (f : α → β) : ∀ {as : List α} {ys : List γ}, Paired (fun a y => F (f a) y) as ys → Paired F (as.map f) ys
  | _, _, .nil => .nil
  | _, _, .cons h t => .cons h (paired_map f t)
def pairNs (ps qs : List Nat) (m : Nat) : List Nat := ps.flatMap fun p => qs.map fun q => p * m + q
theorem pairNs_len (qs : List Nat) (m : Nat) : ∀ ps : List Nat, (pairNs ps qs m).length = ps.length * qs.length
  | [] => by simp [pairNs]
  | p :: ps => by
    have := pairNs_len qs m ps
    unfold pairNs at this ⊢
    rw [List.flatMap_cons, List.length_append, this, List.length_map, List.length_cons, Nat.succ_mul]; omega
theorem Mvs.get {H : Hp} {dm : Addr} {L : List Nat} {n : Nat} {as : List Arr} (h : Mvs K H dm L n as) {c : Nat} (hc : c ∈ L) : ∃ kvs v, H dm = some (.dK kvs) ∧ valV kvs (keyc c) = some v ∧ Dt K H v (.tuple ((List.range n).map fun p => eNs (mvs as c p))) := by
  obtain ⟨vs, h1, h2⟩ := h
  suffices ∃ v, valV ((L.zip vs).map fun p => (keyc p.1, p.2)) (keyc c) = some v ∧ Dt K H v (.tuple ((List.range n).map fun p => eNs (mvs as c p))) from let ⟨v, e1, e2⟩ := this; ⟨_, v, h1, e1, e2⟩
  clear h1
  induction h2 with
  | nil => cases hc
  | @cons a v l1 l2 hd _ ih =>
    by_cases e : a = c
    · subst e; exact ⟨v, valV_pos rfl, hd⟩
    · rcases List.mem_cons.mp hc with z | z
      · exact absurd z.symm e
      · obtain ⟨u, e1, e2⟩ := ih z
        exact ⟨u, (valV_neg fun k => e (keyc_inj k)).trans e1, e2⟩
def sp_pairs_of (w : World) (K : PySem.W.Frag) : Sp := fun vs H Q E => ∃ (v u : V) (ps qs : List Nat) (m : Nat), vs = [v, u, .int (m : Int)] ∧ Dt K H v (eNs ps) ∧ Dt K H u (eNs qs) ∧ m ≤ 60 ∧ ps.length * qs.length ≤ 4000 ∧ (∀ p ∈ ps, p < 60) ∧ ∀ x H', Same H H' → Dt K H' x (eNs (pairNs ps qs m)) → Q x H'
abbrev N_pairs_of : List Str := ["ones", "others", "size", "one", "other"]
theorem sc_pairs_of : FnScope N_pairs_of ["ones", "others", "size"] (defScope s_pairs_of) := ⟨rfl, rfl, rfl, by decide +kernel, rfl, by decide +kernel, by decide +kernel⟩
theorem p_pairs_of (T : Tx K mg) : Fn P w K mg base 1 "pairs_of" (sp_pairs_of w K) := by
  refine fn_mk T.d_pairs_of T.g_pairs_of sc_pairs_of (fun _ _ _ _ _ _ us h => by match us, h with | [_, _, _], _ => rfl) (fun vs H Q E ⟨v, u, ps, qs, m, e, d1, d2, hm, hl, hp, q⟩ => by rw [e]; rfl) fun cdv A outer s H vs Q E hr ⟨v, u, ps, qs, m, e, d1, d2, hm, hl, hp, q⟩ => ?_
  subst e
  have hu := hr.units
  have hu1 := hu_of hr
  have nd := sc_pairs_of.nd
  refine ⟨_, (pss_one (ps_ret (pe_tupleOf (by rfl) T.b_tuple (pe_lc2 (own := [("one", 3), ("other", 4)]) (vs1 := [4]) rfl nd (pi_tup (pv 0)) (blkOk_by (N := N_pairs_of) (sc := defScope s_pairs_of) (by decide +kernel)) (by decide) (fun _ _ _ _ _ => (pg_name (i := 3) nd rfl (Or.inl rfl) (Or.inr rfl))) (fun _ _ _ _ _ => pts_nil) (fun _ _ _ _ _ => (show PI _ _ _ (iTup K _) from pi_tup (pv 1))) (fun _ _ _ _ _ => (pg_name (i := 4) nd rfl (Or.inl rfl) (Or.inr rfl))) (fun _ _ _ _ _ => pts_nil) (fun _ _ _ _ _ => (pe_op op_add (pe_op op_mul (pv 3) (pv 2)) (pv 4))))))), ?_⟩
  have l6 := sz60
  obtain ⟨a, xs, rfl, hs, da⟩ := d1.tuple
  obtain ⟨b, ys, rfl, hs2, db⟩ := d2.tuple
  have lx : xs.length = ps.length := by rw [da.length, List.length_map]
  have ly : ys.length = qs.length := by rw [db.length, List.length_map]
  refine ⟨_, rfl, a, rfl, ⟨_, hs⟩, fun D hD => ?_⟩
  have lz := pairNs_len qs m ps
  refine comp2_it (walk_tup (xs := xs)) grows_at ps lx.symm (fun p => qs.map fun q => p * m + q) (fun z y H => Dt K H y (eN z)) (by show (pairNs ps qs m).length < _; omega) (fun a y H H' k h => h.to k) hD (fun H' sm => SqT.tle sm.tle hs) (fun i x p H' H2 hpi sm y Nx acc hacc hlen hnx => ?_) fun zs H5 sm hy pa => ?_
  · obtain ⟨rfl, hx⟩ := y
    obtain ⟨d, hd1, hd2⟩ := da.get' hx
    rw [List.getElem?_map, hpi] at hd1
    obtain rfl := Option.some.inj hd1
    cases hd2
    have p60 := hp p (List.mem_of_getElem? hpi)
    have hsb : SqT K H2 b ys := SqT.tle sm.tle hs2
    refine ⟨rfl, tYes_if ⟨_, rfl, b, rfl, ⟨_, hsb⟩, ?_⟩⟩
    refine in_it (walk_tup (xs := ys)) grows_at qs ly.symm (fun _ => true) (fun q y H => Dt K H y (eN (p * m + q))) (fun a y H H' k h => h.to k) hacc (by rw [List.length_map] at hlen; omega) (fun H' sx => SqT.tle (sx.to hacc) hsb) (fun j x q0 H' H3 hq sx y => turn_name rfl fun C c2 => ?_) fun zs H5 sx h5 p5 => ?_
    · obtain ⟨rfl, hx⟩ := y
      obtain ⟨d, hd1, hd2⟩ := db.get' hx
      rw [List.getElem?_map, hq] at hd1
      obtain rfl := Option.some.inj hd1
      cases hd2
      refine ⟨_, rfl, _, rfl, _, _, rfl, rfl, .inl ⟨by omega, by omega⟩, _, rfl, _, _, rfl, rfl, c2 _ _ (Same.refl _) ?_⟩
      show Dt K H3 (.int ((p : Int) * (m : Int) + (q0 : Int))) _
      have : ((p : Int) * (m : Int) + (q0 : Int)) = ((p * m + q0 : Nat) : Int) := by simp
      rw [this]; exact .int _
    · rw [filt] at p5
      exact hnx zs H5 sx h5 (paired_map _ p5)
  · have pd := DtAll.of (K := K) eN pa
    exact .inl ⟨D, zs, rfl, SqL.of hy, fun t nt => q _ _ (sm.trans (Same.new nt)) (.tup (SqT.of upd_same) (pd.same (Same.new nt)))⟩
def Rd.both (A B : Rd) : Rd := ⟨A.L, A.n * B.n, pairNs A.fs B.fs B.n, pairNs A.ls B.ls B.n, srtA (A.ar.flatMap fun a => (List.range B.n).flatMap fun q => (mvs B.ar a.2.1 q).map fun l => (a.1 * B.n + q, a.2.1, a.2.2 * B.n + l))⟩
def sp_both_of (w : World) (K : PySem.W.Frag) : Sp := fun vs H Q E => ∃ (a b : Addr) (A B : Rd), vs = [.ref a, .ref b] ∧ A.Ok ∧ B.Ok ∧ A.L = B.L ∧ (A.both B).Ok ∧ A.fs.length * B.fs.length ≤ 4000 ∧ A.ls.length * B.ls.length ≤ 4000 ∧ Rdr K H a A ∧ Rdr K H b B ∧ ∀ c H', Same H H' → Rdr K H' c (A.both B) → Q (.ref c) H'
abbrev N_both_of : List Str := ["one", "other", "size", "found", "state", "letter", "there", "moves", "second", "firsts", "lasts", "last"]
theorem sc_both_of : FnScope N_both_of ["one", "other"] (defScope s_both_of) := ⟨rfl, rfl, rfl, by decide +kernel, rfl, by decide +kernel, by decide +kernel⟩
theorem p_both_of (T : Tx K mg) : Fn P w K mg base 7 "both_of" (sp_both_of w K) := by
  refine fn_mk T.d_both_of T.g_both_of sc_both_of (fun _ _ _ _ _ _ us h => by match us, h with | [_, _], _ => rfl) (fun vs H Q E ⟨a, b, A, B, e, okA, okB, eL, ok, lf, ll, hA, hB, q⟩ => by rw [e]; rfl) fun cdv A outer s H vs Q E hr ⟨a, b, A, B, e, okA, okB, eL, ok, lf, ll, hA, hB, q⟩ => ?_
  subst e
  have hu := hr.units
  have hu1 := hu_of hr
  have nd := sc_both_of.nd
  refine ⟨_, (pss_cons (ps_set (i := 2) nd rfl (Or.inr rfl) (pe_fld (pv 1) rfl))
      (pss_cons (ps_expr (cg (p_require_size T) hr (pa_cons (pe_op op_mul (pe_fld (pv 0) rfl) (pv 2)) pa_nil)))
      (pss_cons (ps_set (i := 3) nd rfl (Or.inl rfl) (pe_lst pa_nil))
      (pss_cons (ps_for PassesOwn.never rfl (pi_tup (pe_fld (pv 0) rfl)) (pg_tup rfl (pgs_cons (pg_name (i := 4) nd rfl (Or.inr rfl)) (pgs_cons (pg_name (i := 5) nd rfl (Or.inr rfl)) (pgs_cons (pg_name (i := 6) nd rfl (Or.inr rfl)) pgs_nil))))
        (pss_cons (ps_set (i := 7) nd rfl (Or.inl rfl) (pe_dget hu1 (pe_fld (pv 1) rfl) (pv 5) (fun _ _ => rfl)))
        (pss_one (ps_for PassesOwn.never rfl (pi_range1 (by rfl) T.b_range (pa_cons (pv 2) pa_nil)) (pg_name (i := 8) nd rfl (Or.inr rfl))
          (pss_one (ps_expr (pe_bm PySem.F.plainAttrs_list PySem.F.slot_list_extend PySem.F.type_list_extend mt_extend (pv 3) (pa_cons (pe_lc (own := [("last", 11)]) rfl nd (pi_tup (pe_ix ix_tup (pv 7) (pv 8) (fun _ _ => rfl))) (blkOk_by (N := N_both_of) (sc := defScope s_both_of) (by decide +kernel)) (fun _ _ _ _ _ => (pg_name (i := 11) nd rfl (Or.inl rfl) (Or.inr rfl))) (fun _ _ _ _ _ => pts_nil) (fun _ _ _ _ _ => (pe_tup (pa_cons (pe_op op_add (pe_op op_mul (pv 4) (pv 2)) (pv 8)) (pa_cons (pv 5) (pa_cons (pe_op op_add (pe_op op_mul (pv 6) (pv 2)) (pv 11)) pa_nil)))))) pa_nil))))))))
      (pss_cons (ps_par (i := 9) (j := 10) (by rfl) nd rfl rfl (by decide) rfl rfl (pa_cons (cg (p_pairs_of T) hr (pa_cons (pe_fld (pv 0) rfl) (pa_cons (pe_fld (pv 1) rfl) (pa_cons (pv 2) pa_nil)))) (pa_cons (cg (p_pairs_of T) hr (pa_cons (pe_fld (pv 0) rfl) (pa_cons (pe_fld (pv 1) rfl) (pa_cons (pv 2) pa_nil)))) pa_nil)) (by rfl))
      (pss_one (ps_ret (StX.pe_makeR T.k_Reader (p_Reader_init T).1 (hr.mono (by decide)) (by rfl) T.g_Reader pass0 (pa_cons (pe_fld (pv 0) rfl) (pa_cons (pe_op op_mul (pe_fld (pv 0) rfl) (pv 2)) (pa_cons (pv 9) (pa_cons (pv 10) (pa_cons (pe_tupleOf (by rfl) T.b_tuple (pe_callB (cr_sortedD hu) (by rfl) T.b_sorted (by decide +kernel) (pa_cons (pv 3) pa_nil))) pa_nil))))))))))))), ?_⟩
  have l6 := sz60
  obtain ⟨dxA, slA, fvA, lvA, avA, dmA, a1, a2, a3, a4, a5⟩ := id hA
  obtain ⟨dxB, slB, fvB, lvB, avB, dmB, b1, b2, b3, b4, b5⟩ := id hB
  obtain ⟨p, xs, rfl, hs, da⟩ := a4.tuple
  have lx : xs.length = A.ar.length := by rw [da.length, List.length_map]
  have nA := okA.n60
  have nB := okB.n60
  have nAB : A.n * B.n ≤ 60 := ok.n60
  refine ⟨_, rfl, b, _, dxB, _, _, rfl, b1, T.c_Reader, T.n_Reader_own_size, rfl, ?_⟩
  refine ⟨_, rfl, a, _, dxA, _, _, rfl, a1, T.c_Reader, T.n_Reader_own_size, rfl, _, rfl, _, _, rfl, rfl, .inl ⟨by omega, by omega⟩, _, rfl, by exact_mod_cast nAB, ?_⟩
  refine ⟨by show 0 ≤ sizeLine; omega, fun F nF => ?_⟩
  let fa : Arr → List Arr := fun a => (List.range B.n).flatMap fun q => (mvs B.ar a.2.1 q).map fun l => (a.1 * B.n + q, a.2.1, a.2.2 * B.n + l)
  have arl : (A.ar.flatMap fa).length ≤ 4000 := by
    have := ok.arl
    rwa [show (A.both B).ar = srtA (A.ar.flatMap fa) from rfl, srtBy_perm.length_eq] at this
  let σo : Option V → Option V → Option V → Option V → Option V → L2.St := fun o4 o5 o6 o7 o8 => [some (.ref a), some (.ref b), some (.int (B.n : Int)), some (.ref F), o4, o5, o6, o7, o8, none, none, none]
  have tF : ∀ {H' : Hp} {ys : List V} {o : HO}, H' F = some (.lst ys) → TLe H' (upd H' F o) := fun h => TLe.lst h
  have s0 : Same H (upd H F (.lst [])) := Same.new nF
  refine ⟨_, rfl, a, _, dxA, _, _, rfl, s0 _ _ a1, T.c_Reader, T.n_Reader_own_arrows, rfl, p, rfl, ⟨_, SqT.tle s0.tle hs⟩, ?_⟩
  refine for_it (walk_tup (xs := xs)) (fun i σ H' => Same H H' ∧ (∃ ys, H' F = some (.lst ys) ∧ DtAll K H' ys (((A.ar.take i).flatMap fa).map eA)) ∧ ∃ o4 o5 o6 o7 o8, σ = σo o4 o5 o6 o7 o8) ⟨s0, ⟨[], upd_same, .nil⟩, none, none, none, none, none, rfl⟩ (fun i σ H' _ h => SqT.tle h.1.tle hs) (fun i x σ H2 H3 hi ⟨s2, ⟨ys, h2, d2⟩, o4, o5, o6, o7, o8, eσ⟩ y => ?_) fun σ H2 ⟨s2, ⟨ys, h2, d2⟩, o4, o5, o6, o7, o8, eσ⟩ => ?_
  · obtain ⟨rfl, hx⟩ := y
    subst eσ
    obtain ⟨d, hd1, hd2⟩ := da.get' hx
    rw [List.getElem?_map] at hd1
    obtain ⟨ar, har, rfl⟩ := Option.map_eq_some_iff.mp hd1
    obtain ⟨t, rfl, ht⟩ := (hd2.same s2).arr
    have oka := okA.arn ar (List.mem_of_getElem? har)
    obtain ⟨kvs, mv, m1, m2, m3⟩ := (b5.same s2).get (show ar.2.1 ∈ B.L by rw [← eL]; exact oka.2.1)
    obtain ⟨mvA, ms, rfl, hms, dms⟩ := m3.tuple
    have cut : (A.ar.take (i + 1)).flatMap fa = (A.ar.take i).flatMap fa ++ fa ar := by rw [take_one har, List.flatMap_append]; simp
    have tot : ((A.ar.take i).flatMap fa).length + (fa ar).length ≤ 4000 := by
      have e1 : ((A.ar.take (i + 1)).flatMap fa).length ≤ (A.ar.flatMap fa).length := by
        conv => rhs; rw [← List.take_append_drop (i + 1) A.ar, List.flatMap_append, List.length_append]
        omega
      rw [cut, List.length_append] at e1
      omega
    refine tg3 ht ⟨_, rfl, b, _, dxB, _, _, rfl, s2 _ _ b1, T.c_Reader, T.n_Reader_own_moves, rfl, _, rfl, dmB, _, rfl, .inl ⟨_, keyc ar.2.1, .inl m1, rfl, m2.symm⟩, ?_⟩
    refine ⟨_, rfl, _, rfl, by omega, by omega, ?_⟩
    let gq : Nat → List Arr := fun q => (mvs B.ar ar.2.1 q).map fun l => (ar.1 * B.n + q, ar.2.1, ar.2.2 * B.n + l)
    have gfa : fa ar = (List.range B.n).flatMap gq := rfl
    let σ1 : Option V → L2.St := fun o => [some (.ref a), some (.ref b), some (.int (B.n : Int)), some (.ref F), some (.int (ar.1 : Int)), some (.str (sg ar.2.1)), some (.int (ar.2.2 : Int)), some (.ref mvA), o, none, none, none]
    refine for_it walk_range (fun j σ H' => Same H H' ∧ TLe H3 H' ∧ (∃ ys, H' F = some (.lst ys) ∧ DtAll K H' ys (((A.ar.take i).flatMap fa ++ ((List.range B.n).take j).flatMap gq).map eA)) ∧ ∃ o, σ = σ1 o)
      ⟨s2, TLe.refl _, ⟨ys, h2, by simpa using d2⟩, _, rfl⟩ (fun _ _ _ _ _ => trivial) (fun j x σ H4 H5 hj ⟨s4, t4, ⟨ys, h4, d4⟩, o, eσ⟩ y => ?_) fun σ H4 ⟨s4, t4, ⟨ys, h4, d4⟩, o, eσ⟩ => ?_
    · obtain ⟨rfl, rfl⟩ := y
      subst eσ
      have jn : j < B.n := by simpa using hj
      have cut2 : (List.range B.n).take (j + 1) = (List.range B.n).take j ++ [j] := take_one (by rw [List.getElem?_range jn])
      have tot2 : (((List.range B.n).take j).flatMap gq).length + (gq j).length ≤ (fa ar).length := by
        have : (((List.range B.n).take (j + 1)).flatMap gq).length ≤ ((List.range B.n).flatMap gq).length := by
          conv => rhs; rw [← List.take_append_drop (j + 1) (List.range B.n), List.flatMap_append, List.length_append]
          omega
        rw [cut2, List.flatMap_append, List.length_append] at this
        rw [gfa]; simpa using this
      obtain ⟨rv, hr1, hr2⟩ := dms.get (show ((List.range B.n).map fun p => eNs (mvs B.ar ar.2.1 p))[j]? = some (eNs (mvs B.ar ar.2.1 j)) by rw [List.getElem?_map, List.getElem?_range jn]; rfl)
      obtain ⟨ra, rxs, rfl, hrs, drs⟩ := (hr2.to t4).tuple
      have lr : rxs.length = (mvs B.ar ar.2.1 j).length := by rw [drs.length, List.length_map]
      have lg : (gq j).length = (mvs B.ar ar.2.1 j).length := by simp [gq]
      refine ⟨_, rfl, .inl ⟨rfl, _, SqL.of h4⟩, _, rfl, _, rfl, mvA, _, _, .ref ra, rfl, rfl, SqT.tle t4 hms, (by rw [Int.zero_add]; exact atI_nat (j := j) hr1), ra, rfl, ⟨_, hrs⟩, fun D hD => ?_⟩
      have b1 := oka.1
      have b3 := oka.2.2
      have m1 : ar.1 * B.n ≤ 60 * 60 := Nat.mul_le_mul (by omega) nB
      refine comp_it (walk_tup (xs := rxs)) grows_at (mvs B.ar ar.2.1 j) lr.symm (by omega) (fun _ => true) (fun l y H => Dt K H y (eA (ar.1 * B.n + j, ar.2.1, ar.2.2 * B.n + l))) (fun l y H H' k h => h.to k) hD (fun H' sm => SqT.tle sm.tle hrs) (fun l x l0 H' H6 hl sm y => turn_name rfl fun C c2 => ?_) fun zs H6 sm hz pa => ?_
      · obtain ⟨rfl, hx⟩ := y
        obtain ⟨d, hd1, hd2⟩ := drs.get' hx
        rw [List.getElem?_map, hl] at hd1
        obtain rfl := Option.some.inj hd1
        cases hd2
        refine ⟨_, rfl, _, rfl, _, _, rfl, rfl, .inl ⟨by omega, by omega⟩, _, rfl, _, _, rfl, rfl, _, rfl, _, rfl, _, rfl, _, _, rfl, rfl, .inl ⟨by omega, by omega⟩, _, rfl, _, _, rfl, rfl, by show 3 ≤ sizeLine; omega, fun t nt => c2 _ _ (Same.new nt) (Dt.ofArr ?_)⟩
        refine SqT.of ?_
        rw [upd_same]
        simp
      · rw [filt] at pa
        have pd := DtAll.of (K := K) (fun l => eA (ar.1 * B.n + j, ar.2.1, ar.2.2 * B.n + l)) pa
        have em : ((mvs B.ar ar.2.1 j).map fun l => eA (ar.1 * B.n + j, ar.2.1, ar.2.2 * B.n + l)) = (gq j).map eA := by rw [List.map_map]; rfl
        rw [em] at pd
        have lz := pd.length
        rw [List.length_map] at lz
        have ly := d4.length
        rw [List.length_map, List.length_append] at ly
        refine ⟨F, D, ys, zs, rfl, rfl, sm _ _ h4, hz, by omega, ?_⟩
        have hF6 := sm _ _ h4
        have tF6 : TLe H6 (upd H6 F (.lst (ys ++ zs))) := TLe.lst hF6
        refine ⟨(s4.trans sm).put nF, t4.trans (sm.tle.trans tF6), ⟨ys ++ zs, upd_same, ?_⟩, _, rfl⟩
        rw [cut2, List.flatMap_append, ← List.append_assoc, List.map_append]
        exact ((d4.same sm).to tF6).append (by simpa using pd.to tF6)
    · subst eσ
      refine ⟨s4, ⟨ys, h4, ?_⟩, _, _, _, _, _, rfl⟩
      rw [cut, gfa]
      have : (List.range B.n).take ((B.n : Int)).toNat = List.range B.n := List.take_of_length_le (by simp)
      rw [this] at d4
      exact d4
  · subst eσ
    rw [lx, List.take_length] at d2
    obtain ⟨dxA, slA, fvA, lvA, avA, dmA, a1, a2, a3, a4, a5⟩ := id (hA.same s2)
    obtain ⟨dxB, slB, fvB, lvB, avB, dmB, b1, b2, b3, b4, b5⟩ := id (hB.same s2)
    refine ⟨_, rfl, a, _, dxA, _, _, rfl, a1, T.c_Reader, T.n_Reader_own_firsts, rfl, _, rfl, b, _, dxB, _, _, rfl, b1, T.c_Reader, T.n_Reader_own_firsts, rfl, _, rfl, _, _, A.fs, B.fs, B.n, rfl, a2, b2, nB, lf, (fun p hp => by have := okA.fsn p hp; omega), fun fv H3 s3 hfv => ?_⟩
    refine ⟨_, rfl, a, _, dxA, _, _, rfl, s3 _ _ a1, T.c_Reader, T.n_Reader_own_lasts, rfl, _, rfl, b, _, dxB, _, _, rfl, s3 _ _ b1, T.c_Reader, T.n_Reader_own_lasts, rfl, _, rfl, _, _, A.ls, B.ls, B.n, rfl, a3.same s3, b3.same s3, nB, ll, (fun p hp => by have := okA.lsn p hp; omega), fun lv H4 s4 hlv => ?_⟩
    refine ⟨_, _, rfl, ?_⟩
    have s34 := s3.trans s4
    refine ⟨_, rfl, a, _, dxA, _, _, rfl, s34 _ _ a1, T.c_Reader, T.n_Reader_own_letters, rfl, _, rfl, a, _, dxA, _, _, rfl, s34 _ _ a1, T.c_Reader, T.n_Reader_own_size, rfl, _, rfl, _, _, rfl, rfl, .inl ⟨by omega, by omega⟩, _, rfl, _, rfl, _, rfl, F, ys, _, rfl, SqL.of (s34 _ _ h2), d2.same s34, eA_alike _, eA_sortable _, eA_depth _, fun p2 zs np2 hz => ?_⟩
    rw [← srtBy_map] at hz
    refine .inl ⟨p2, zs, rfl, SqL.of upd_same, fun t nt x dx2 nx ndx nex => ?_⟩
    have sF := (s34.trans (Same.new (o := .lst zs) np2)).trans (Same.new (o := .tup zs) nt)
    have s45 : Same H4 (upd (upd H4 p2 (.lst zs)) t (.tup zs)) := (Same.new (o := .lst zs) np2).trans (Same.new (o := .tup zs) nt)
    have k := make_tle (o1 := .own x) (o2 := .ins (He.ga K "Reader") dx2 []) nx ndx
    refine ⟨x, dx2, _, A.both B, _, _, _, ?_, rfl, upd_same, ok, (hfv.same (s4.trans s45)).same k, (hlv.same s45).same k, (Dt.tup (SqT.of upd_same) (hz.same s45)).same k, fun H' sx hr => ⟨rfl, q x H' (s2.trans (sF.trans (make_same sx nx ndx))) hr⟩⟩
    show [V.ref x, V.str (tx A.L), V.int ((A.n : Int) * (B.n : Int)), fv, lv, V.ref t] = [V.ref x, V.str (tx A.L), V.int ((A.n * B.n : Nat) : Int), fv, lv, V.ref t]
    rw [Int.natCast_mul]
/-- the first row -/
def row0 (R : Rd) (p : Nat) : Int := if p ∈ R.fs then 1 else 0
/-- one pace on -/
def pace (R : Rd) (f : Nat → Int) (p : Nat) : Int := ((R.ar.filter fun a => a.2.2 == p).map fun a => f a.1).sum
/-- what a row counts at the end -/
def endR (R : Rd) (f : Nat → Int) : Int := (R.ls.map f).sum
abbrev rowV (n : Nat) (f : Nat → Int) : List V := (List.range n).map fun p => V.int (f p)
theorem inV_nats (p : Nat) (l : List Nat) : inV (.int (p : Int)) (l.map fun n : Nat => V.int (n : Int)) = decide (p ∈ l) := by
  unfold inV
  induction l with
  | nil => simp
  | cons a l ih =>
    rw [List.map_cons, List.any_cons, ih]
    have : eqV (.int (a : Int)) (.int (p : Int)) = decide (p = a) := by
      show ((a : Int) == (p : Int)) = _
      by_cases h : p = a
      · subst h; simp
      · have : (a : Int) ≠ (p : Int) := by omega
        simp [h, this]
    rw [this]
    by_cases h : p = a <;> simp [h]
theorem flat_nats (l : List Nat) : (l.map fun n : Nat => V.int (n : Int)).all flatV = true := by simp [flatV]
theorem rows_of {n : Nat} {f : Nat → Int} {ys : List V} {H : Hp} (h : PAll (fun p y _ => y = .int (f p)) (List.range n) ys H) : ys = rowV n f := by
  revert h
  unfold rowV
  generalize List.range n = l
  intro h
  induction h with
  | nil => rfl
  | cons h _ ih => rw [h, ih]; rfl
theorem rowV_get {n : Nat} {f : Nat → Int} {p : Nat} (h : p < n) : (rowV n f)[p]? = some (.int (f p)) := by
  rw [List.getElem?_map, List.getElem?_range h]; rfl
def paceK (as : List Arr) (f : Nat → Int) (p : Nat) : Int := ((as.filter fun a => a.2.2 == p).map fun a => f a.1).sum
theorem paceK_snoc (as : List Arr) (a : Arr) (f : Nat → Int) (p : Nat) : paceK (as ++ [a]) f p = paceK as f p + if p = a.2.2 then f a.1 else 0 := by
  unfold paceK
  rw [List.filter_append, List.map_append, List.sum_append]
  by_cases h : p = a.2.2
  · subst h; simp
  · have : ¬ a.2.2 = p := fun e => h e.symm
    simp [h, this]
theorem rowV_set {n : Nat} {f g : Nat → Int} {p : Nat} (h : ∀ q, q ≠ p → g q = f q) : (rowV n f).set p (.int (g p)) = rowV n g := by
  apply List.ext_getElem?
  intro i
  rw [List.getElem?_set]
  by_cases hi : i < n
  · by_cases e : p = i
    · subst e; rw [if_pos rfl, if_pos (by simpa [rowV] using hi), rowV_get hi]
    · rw [if_neg e, rowV_get hi, rowV_get hi, h i (Ne.symm e)]
  · have l : (rowV n f).length = n := by simp [rowV]
    have l2 : (rowV n g).length = n := by simp [rowV]
    rw [List.getElem?_eq_none (show (rowV n g).length ≤ i by omega)]
    split
    · rw [if_neg (by omega)]
    · exact List.getElem?_eq_none (by omega)
def sp_first_row_of (w : World) (K : PySem.W.Frag) : Sp := fun vs H Q E => ∃ (a : Addr) (R : Rd), vs = [.ref a] ∧ R.n ≤ 60 ∧ Rdr K H a R ∧ ∀ b H', Same H H' → SqT K H' b (rowV R.n (row0 R)) → Q (.ref b) H'
abbrev N_first_row_of : List Str := ["reader", "state"]
theorem sc_first_row_of : FnScope N_first_row_of ["reader"] (defScope s_first_row_of) := ⟨rfl, rfl, rfl, by decide +kernel, rfl, by decide +kernel, by decide +kernel⟩
theorem p_first_row_of (T : Tx K mg) : Fn P w K mg base 1 "first_row_of" (sp_first_row_of w K) := by
  refine fn_mk T.d_first_row_of T.g_first_row_of sc_first_row_of (fun _ _ _ _ _ _ us h => by match us, h with | [_], _ => rfl) (fun vs H Q E ⟨a, R, e, hn, h, q⟩ => by rw [e]; rfl) fun cdv A outer s H vs Q E hr ⟨a, R, e, hn, h, q⟩ => ?_
  subst e
  have hu := hr.units
  have hu1 := hu_of hr
  have nd := sc_first_row_of.nd
  refine ⟨_, (pss_one (ps_ret (pe_tupleOf (by rfl) T.b_tuple (pe_lc (own := [("state", 1)]) rfl nd (pi_range1 (by rfl) T.b_range (pa_cons (pe_fld (pv 0) rfl) pa_nil)) (blkOk_by (N := N_first_row_of) (sc := defScope s_first_row_of) (by decide +kernel)) (fun _ _ _ _ _ => (pg_name (i := 1) nd rfl (Or.inl rfl) (Or.inr rfl))) (fun _ _ _ _ _ => pts_nil) (fun _ _ _ _ _ => (pe_callTy call_int1 (by rfl) T.b_int (by decide +kernel) (pa_cons (pe_cmpR (show OpR _ _ (rIn K false) from op_in_seq) (pv 1) (show PE _ _ (tFld K _ "own_firsts") from (pe_fld (pv 0) rfl)) rfl) pa_nil))))))), ?_⟩
  have l6 := sz60
  obtain ⟨dx, sl, fv, lv, av, dm, h1, h2, h3, h4, h5⟩ := id h
  obtain ⟨fp, rfl, hfs⟩ := h2.ns
  refine ⟨_, rfl, a, _, dx, _, _, rfl, h1, T.c_Reader, T.n_Reader_own_size, rfl, _, rfl, by omega, by omega, fun D hD => ?_⟩
  refine comp_it walk_range grows_fn (List.range R.n) (by simp) (by omega) (fun _ => true) (fun p y H => y = .int (row0 R p)) (fun l y H H' k h => h) hD (fun H' sm => trivial) (fun j x p H' H5 hp sm y => turn_name rfl fun C c2 => ?_) fun ys H5 sm hy pa => ?_
  · obtain ⟨rfl, rfl⟩ := y
    obtain ⟨jn, rfl⟩ := range_get hp
    refine ⟨_, rfl, _, rfl, a, _, dx, _, _, rfl, sm _ _ h1, T.c_Reader, T.n_Reader_own_firsts, rfl, fp, _, rfl, .inr (SqT.tle sm.tle hfs), rfl, flat_nats _, .inr ⟨_, rfl, c2 _ _ (Same.refl _) ?_⟩⟩
    simp only [Bool.false_eq_true, if_false, Int.zero_add, inV_nats]
    unfold row0
    by_cases z : p ∈ R.fs <;> simp [z]
  · rw [filt] at pa
    rw [rows_of pa] at hy
    exact .inl ⟨D, _, rfl, SqL.of hy, fun t nt => q t _ (sm.trans (Same.new nt)) (SqT.of upd_same)⟩
def sp_stepped (w : World) (K : PySem.W.Frag) : Sp := fun vs H Q E => ∃ (a b : Addr) (R : Rd) (f : Nat → Int), vs = [.ref a, .ref b] ∧ R.n ≤ 60 ∧ (∀ a ∈ R.ar, a.1 < R.n ∧ a.2.2 < R.n) ∧ Rdr K H a R ∧ SqT K H b (rowV R.n f) ∧ ∀ c H', Same H H' → SqT K H' c (rowV R.n (pace R f)) → Q (.ref c) H'
abbrev N_stepped : List Str := ["reader", "row", "found", "state", "letter", "target"]
theorem sc_stepped : FnScope N_stepped ["reader", "row"] (defScope s_stepped) := ⟨rfl, rfl, rfl, by decide +kernel, rfl, by decide +kernel, by decide +kernel⟩
theorem p_stepped (T : Tx K mg) : Fn P w K mg base 1 "stepped" (sp_stepped w K) := by
  refine fn_mk T.d_stepped T.g_stepped sc_stepped (fun _ _ _ _ _ _ us h => by match us, h with | [_, _], _ => rfl) (fun vs H Q E ⟨a, b, R, f, e, hn, ok, h, hb, q⟩ => by rw [e]; rfl) fun cdv A outer s H vs Q E hr ⟨a, b, R, f, e, hn, ok, h, hb, q⟩ => ?_
  subst e
  have hu := hr.units
  have hu1 := hu_of hr
  have nd := sc_stepped.nd
  refine ⟨_, (pss_cons (ps_set (i := 2) nd rfl (Or.inl rfl) (pe_op op_rep (pe_lst (pa_cons pe_int pa_nil)) (pe_fld (pv 0) rfl)))
      (pss_cons (ps_for PassesOwn.never rfl (pi_tup (pe_fld (pv 0) rfl)) (pg_tup rfl (pgs_cons (pg_name (i := 3) nd rfl (Or.inl rfl)) (pgs_cons (pg_name (i := 4) nd rfl (Or.inl rfl)) (pgs_cons (pg_name (i := 5) nd rfl (Or.inl rfl)) pgs_nil))))
        (pss_one (ps_augS (pv 2) (pv 5) pget_list (pe_ix ix_tup (pv 1) (pv 3) (fun _ _ => rfl)) ip_add set_list)))
      (pss_one (ps_ret (pe_tupleOf (by rfl) T.b_tuple (pv 2)))))), ?_⟩
  have l6 := sz60
  obtain ⟨dx, sl, fv, lv, av, dm, h1, h2, h3, h4, h5⟩ := id h
  obtain ⟨p, xs, rfl, hs, da⟩ := h4.tuple
  have lx : xs.length = R.ar.length := by rw [da.length, List.length_map]
  refine ⟨by show 1 ≤ sizeLine; omega, fun z0 nz => ?_⟩
  have s1 : Same H (upd H z0 (.lst [.int 0])) := Same.new nz
  refine ⟨_, rfl, a, _, dx, _, _, rfl, s1 _ _ h1, T.c_Reader, T.n_Reader_own_size, rfl, z0, _, _, rfl, rfl, upd_same, by omega, by omega, by simp; omega, fun F nF => ?_⟩
  have e0 : (List.replicate ((R.n : Int)).toNat [V.int 0]).flatten = rowV R.n (paceK [] f) := by
    rw [Int.toNat_natCast]
    unfold rowV paceK
    generalize R.n = n
    induction n with
    | zero => rfl
    | succ n ih => rw [List.replicate_succ', List.flatten_append, ih, List.range_succ, List.map_append]; rfl
  rw [e0]
  have s2 : Same H (upd (upd H z0 (.lst [.int 0])) F (.lst (rowV R.n (paceK [] f)))) := s1.trans (Same.new nF)
  have nFH : H F = none := none_of_same s1 nF
  refine ⟨_, rfl, a, _, dx, _, _, rfl, s2 _ _ h1, T.c_Reader, T.n_Reader_own_arrows, rfl, p, rfl, ⟨_, SqT.tle s2.tle hs⟩, ?_⟩
  refine for_it (walk_tup (xs := xs)) (fun i σ H' => Same H H' ∧ H' F = some (.lst (rowV R.n (paceK (R.ar.take i) f))) ∧ ∃ o3 o4 o5, σ = [some (.ref a), some (.ref b), some (.ref F), o3, o4, o5]) ⟨s2, upd_same, none, none, none, rfl⟩ (fun i σ H' _ h => SqT.tle h.1.tle hs) (fun i x σ H2 H3 hi ⟨s2, h2, o3, o4, o5, eσ⟩ y => ?_) fun σ H2 ⟨s2, h2, o3, o4, o5, eσ⟩ => ?_
  · obtain ⟨rfl, hx⟩ := y
    subst eσ
    obtain ⟨d, hd1, hd2⟩ := da.get' hx
    rw [List.getElem?_map] at hd1
    obtain ⟨ar, har, rfl⟩ := Option.map_eq_some_iff.mp hd1
    obtain ⟨t, rfl, ht⟩ := (hd2.same s2).arr
    have oka := ok ar (List.mem_of_getElem? har)
    have lr : (rowV R.n (paceK (R.ar.take i) f)).length = R.n := by simp [rowV]
    refine tg3 ht ⟨_, rfl, _, rfl, F, _, ar.2.2, _, rfl, rfl, SqL.of h2, rowV_get oka.2, ?_⟩
    refine ⟨_, rfl, _, rfl, b, _, _, _, rfl, rfl, SqT.tle s2.tle hb, atI_nat (rowV_get oka.1), _, _, rfl, rfl, F, _, _, ar.2.2, rfl, rfl, h2, ?_, ?_⟩
    · rw [lr]; unfold ixN; rw [if_pos (by omega), if_pos (by omega)]; simp
    · refine ⟨s2.put nFH, ?_, _, _, _, rfl⟩
      have hg : paceK (R.ar.take (i + 1)) f ar.2.2 = paceK (R.ar.take i) f ar.2.2 + f ar.1 := by rw [take_one har, paceK_snoc, if_pos rfl]
      rw [upd_same]
      show some (HO.lst ((rowV R.n (paceK (R.ar.take i) f)).set ar.2.2 (.int (paceK (R.ar.take i) f ar.2.2 + f ar.1)))) = _
      rw [← hg, rowV_set fun q hq => by rw [take_one har, paceK_snoc, if_neg hq, Int.add_zero]]
  · subst eσ
    rw [lx, List.take_length] at h2
    exact ⟨_, rfl, .inl ⟨F, _, rfl, SqL.of h2, fun t nt => q t _ (s2.trans (Same.new nt)) (SqT.of upd_same)⟩⟩
theorem pall_map {l : List Nat} {f : Nat → Int} {ys : List V} {H : Hp} (pa : PAll (fun p y _ => y = .int (f p)) l ys H) : ys = (l.map f).map V.int := by
  induction pa with
  | nil => rfl
  | cons h _ ih => rw [h, ih]; rfl
def sp_end_of (w : World) (K : PySem.W.Frag) : Sp := fun vs H Q E => ∃ (a b : Addr) (R : Rd) (f : Nat → Int), vs = [.ref a, .ref b] ∧ (∀ p ∈ R.ls, p < R.n) ∧ R.ls.length ≤ 60 ∧ Rdr K H a R ∧ SqT K H b (rowV R.n f) ∧ ∀ H', Same H H' → Q (.int (endR R f)) H'
abbrev N_end_of : List Str := ["reader", "row", "state"]
theorem sc_end_of : FnScope N_end_of ["reader", "row"] (defScope s_end_of) := ⟨rfl, rfl, rfl, by decide +kernel, rfl, by decide +kernel, by decide +kernel⟩
theorem p_end_of (T : Tx K mg) : Fn P w K mg base 1 "end_of" (sp_end_of w K) := by
  refine fn_mk T.d_end_of T.g_end_of sc_end_of (fun _ _ _ _ _ _ us h => by match us, h with | [_, _], _ => rfl) (fun vs H Q E ⟨a, b, R, f, e, hl, hn, h, hb, q⟩ => by rw [e]; rfl) fun cdv A outer s H vs Q E hr ⟨a, b, R, f, e, hl, hn, h, hb, q⟩ => ?_
  subst e
  have hu := hr.units
  have hu1 := hu_of hr
  have nd := sc_end_of.nd
  refine ⟨_, (pss_one (ps_ret (pe_callB (cr_sum rfl) (by rfl) T.b_sum (by decide +kernel) (pa_cons (pe_lc (own := [("state", 2)]) rfl nd (pi_tup (pe_fld (pv 0) rfl)) (blkOk_by (N := N_end_of) (sc := defScope s_end_of) (by decide +kernel)) (fun _ _ _ _ _ => (pg_name (i := 2) nd rfl (Or.inl rfl) (Or.inr rfl))) (fun _ _ _ _ _ => pts_nil) (fun _ _ _ _ _ => (pe_ix (show IxR _ (rIxT K) from ix_tup) (pv 1) (pv 2) (fun _ _ => rfl)))) pa_nil)))), ?_⟩
  have l6 := sz60
  obtain ⟨dx, sl, fv, lv, av, dm, h1, h2, h3, h4, h5⟩ := id h
  obtain ⟨lp, rfl, hls⟩ := h3.ns
  refine ⟨_, rfl, a, _, dx, _, _, rfl, h1, T.c_Reader, T.n_Reader_own_lasts, rfl, lp, rfl, ⟨_, hls⟩, fun D hD => ?_⟩
  refine comp_it (walk_tup (xs := R.ls.map fun n : Nat => V.int (n : Int))) grows_at R.ls (by simp) (by simp; omega) (fun _ => true) (fun p y H => y = .int (f p)) (fun l y H H' k h => h) hD (fun H' sm => SqT.tle sm.tle hls) (fun j x p H' H5 hp sm y => turn_name rfl fun C c2 => ?_) fun ys H5 sm hy pa => ?_
  · obtain ⟨rfl, hx⟩ := y
    rw [List.getElem?_map, hp] at hx
    obtain rfl := Option.some.inj hx
    exact ⟨_, rfl, _, rfl, b, _, _, _, rfl, rfl, SqT.tle sm.tle hb, atI_nat (rowV_get (hl p (List.mem_of_getElem? hp))), c2 _ _ (Same.refl _) rfl⟩
  · rw [filt] at pa
    rw [pall_map pa] at hy
    exact ⟨D, _, rfl, SqL.of hy, q _ sm⟩
end K39
end Text_K39Q3

section Text_K39Q4
set_option Elab.async false set_option linter.all false set_option maxRecDepth 100000 set_option maxHeartbeats 4000000
/-! Tallies. -/
namespace K39
open PySem PySem.Spec PyProof.Rows L2
variable {P : Program} {w : World} {K : PySem.W.Frag} {mg : Str → Option Value} {base : Heap}
theorem Rdr.sx {H H' : Hp} {a b C dx : Addr} {fs : List (Str × V)} {R : Rd} (h : Rdr K H b R) (s : SameX a H H') (ha : H a = some (.ins C dx fs)) (hl : fs.length ≠ 7) : Rdr K H' b R := by
  obtain ⟨d, sl, fv, lv, av, dm, h1, h2, h3, h4, ms, h5, h6⟩ := h
  have t : TLe H H' := s.tle (by intro xs z; rw [ha] at z; cases z) (by intro o u z; rw [ha] at z; cases z)
  refine ⟨d, sl, fv, lv, av, dm, s _ _ h1 ?_, h2.to t, h3.to t, h4.to t, ms, s _ _ h5 (ne_of h5 ha (by intro z; cases z)), Paired.mono (fun _ _ h => h.to t) h6⟩
  intro z
  subst z
  rw [ha] at h1
  injection h1 with h1
  injection h1 with _ _ h1
  rw [h1] at hl
  exact hl rfl
/-- one part of a tally: a number and a reader -/
def PtV (K : PySem.W.Frag) (H : Hp) (p : Int × Rd) (v : V) : Prop := ∃ t a, v = .ref t ∧ SqT K H t [.int p.1, .ref a] ∧ Rdr K H a p.2
def Prts (K : PySem.W.Frag) (H : Hp) (v : V) (ps : List (Int × Rd)) : Prop := ∃ t vs, v = .ref t ∧ SqT K H t vs ∧ Paired (fun p v => PtV K H p v) ps vs
theorem Prts.same {H H' : Hp} {v : V} {ps : List (Int × Rd)} (h : Prts K H v ps) (s : Same H H') : Prts K H' v ps := by
  obtain ⟨t, vs, e, h1, h2⟩ := h
  exact ⟨t, vs, e, SqT.tle s.tle h1, Paired.mono (fun _ _ ⟨t, a, e, h1, h2⟩ => ⟨t, a, e, SqT.tle s.tle h1, h2.same s⟩) h2⟩
theorem Prts.sx {H H' : Hp} {v : V} {ps : List (Int × Rd)} {a C dx : Addr} {fs : List (Str × V)} (h : Prts K H v ps) (s : SameX a H H') (ha : H a = some (.ins C dx fs)) (hl : fs.length ≠ 7) : Prts K H' v ps := by
  have k : TLe H H' := s.tle (by intro xs z; rw [ha] at z; cases z) (by intro o u z; rw [ha] at z; cases z)
  obtain ⟨t, vs, e, h1, h2⟩ := h
  exact ⟨t, vs, e, SqT.tle k h1, Paired.mono (fun _ _ ⟨t, a, e, h1, h2⟩ => ⟨t, a, e, SqT.tle k h1, h2.sx s ha hl⟩) h2⟩
def wid (ps : List (Int × Rd)) : Nat := (ps.map fun p => p.2.n).sum
structure PsOk (L : List Nat) (ps : List (Int × Rd)) : Prop where
  ne : ps ≠ []
  len : ps.length ≤ 60
  one : ∀ p ∈ ps, -1 ≤ p.1 ∧ p.1 ≤ 1
  ok : ∀ p ∈ ps, p.2.Ok
  lets : ∀ p ∈ ps, p.2.L = L
  wid : wid ps ≤ 200
theorem one200 : (1 : Int) ≤ G200 := by decide +kernel
theorem sames {l : List (Int × Rd)} {L : List Nat} {ys : List V} {H : Hp} (pa : PAll (fun p y _ => y = .str (tx p.2.L)) l ys H) (h : ∀ p ∈ l, p.2.L = L) : ys = (List.replicate l.length (tx L)).map V.str := by
  induction pa with
  | nil => rfl
  | @cons a v l1 l2 e _ ih =>
    rw [e, h _ List.mem_cons_self, ih fun p hp => h p (List.mem_cons_of_mem _ hp)]; rfl
theorem ints_of {α : Type} {l : List α} {f : α → Int} {ys : List V} {H : Hp} (pa : PAll (fun p y _ => y = .int (f p)) l ys H) : ys = (l.map f).map V.int := by
  induction pa with
  | nil => rfl
  | cons h _ ih => rw [h, ih]; rfl
theorem paired_get' {α β : Type} {F : α → β → Prop} : ∀ {as : List α} {xs : List β} {i : Nat} {x : β}, Paired F as xs → xs[i]? = some x → ∃ a, as[i]? = some a ∧ F a x
  | _, _, i, a, .nil, e => by simp at e
  | _, _, 0, a, .cons h t, e => by simp at e; subst e; exact ⟨_, rfl, h⟩
  | _, _, i + 1, a, .cons h t, e => by
    obtain ⟨x, q, r⟩ := paired_get' (i := i) (x := a) t (by simpa using e)
    exact ⟨x, by simpa using q, r⟩
def sp_are_parts (w : World) (K : PySem.W.Frag) : Sp := fun vs H Q E => ∃ (v : V) (L : List Nat) (ps : List (Int × Rd)), vs = [v] ∧ Prts K H v ps ∧ PsOk L ps ∧ ∀ H', Same H H' → Q (.bl true) H'
abbrev N_are_parts : List Str := ["value", "part", "number", "reader"]
theorem sc_are_parts : FnScope N_are_parts ["value"] (defScope s_are_parts) := ⟨rfl, rfl, rfl, by decide +kernel, rfl, by decide +kernel, by decide +kernel⟩
theorem p_are_parts (T : Tx K mg) : Fn P w K mg base 2 "are_parts" (sp_are_parts w K) := by
  refine fn_mk T.d_are_parts T.g_are_parts sc_are_parts (fun _ _ _ _ _ _ us h => by match us, h with | [_], _ => rfl) (fun vs H Q E ⟨v, L, ps, e, h, ok, q⟩ => by rw [e]; rfl) fun cdv A outer s H vs Q E hr ⟨v, L, ps, e, h, ok, q⟩ => ?_
  subst e
  have hu := hr.units
  have hu1 := hu_of hr
  have nd := sc_are_parts.nd
  refine ⟨_, (pss_cons (ps_if (PW.pt (pw_or (pt_not (pt_val (pe_callB cr_is (by rfl) T.b_isinstance (by decide +kernel) (pa_cons (pv 0) (pa_cons (pty (n := "tuple") T.b_tuple (by decide +kernel)) pa_nil))))) (pw_or1 (pt_cmpR (op_tup0 hu) (pv 0) (pe_tup pa_nil) (nomark _))))) (pss_one (ps_ret pe_bl)) pss_nil)
      (pss_cons (ps_for PassesOwn.never rfl (pi_tup (pv 0)) (pg_name (i := 1) nd rfl (Or.inl rfl))
        (pss_cons (ps_if (PW.pt (pw_or (pt_not (pt_val (pe_callB cr_is (by rfl) T.b_isinstance (by decide +kernel) (pa_cons (pv 1) (pa_cons (pty (n := "tuple") T.b_tuple (by decide +kernel)) pa_nil))))) (pw_or1 (pt_cmpR op_ne (pe_callB cr_lenQ (by rfl) T.b_len (by decide +kernel) (pa_cons (pv 1) pa_nil)) pe_int (nomark _))))) (pss_one (ps_ret pe_bl)) pss_nil)
        (pss_one (ps_if (PW.pt (pw_or (pt_not (pt_val (cg (p_is_integer T) hr (pa_cons (pe_ix ix_tup (pv 1) pe_int (fun _ _ => rfl)) pa_nil)))) (pw_or1 (pt_not (pt_val (pe_callB cr_is (by rfl) T.b_isinstance (by decide +kernel) (pa_cons (pe_ix ix_tup (pv 1) pe_int (fun _ _ => rfl)) (pa_cons (pgc T.g_Reader) pa_nil)))))))) (pss_one (ps_ret pe_bl)) pss_nil))))
      (pss_one (ps_ret (pe_cmpR op_eq (pe_callB (show CallR _ _ (rLenX P w) from cr_lenX) (by rfl) T.b_len (by decide +kernel) (pa_cons (pe_callTy (show CallR _ _ (rSetX P w K) from cr_setX rfl) (by rfl) T.b_set (by decide +kernel) (pa_cons (pe_lc (own := [("number", 2), ("reader", 3)]) rfl nd (pi_tup (pv 0)) (blkOk_by (N := N_are_parts) (sc := defScope s_are_parts) (by decide +kernel)) (fun _ _ _ _ _ => (show PG _ _ (gTup K 2 (gCons (gName 2) (gCons (gName 3) gNil))) from pg_tup rfl (pgs_cons (pg_name (i := 2) nd rfl (Or.inl rfl) (Or.inr rfl)) (pgs_cons (pg_name (i := 3) nd rfl (Or.inl rfl) (Or.inr rfl)) pgs_nil)))) (fun _ _ _ _ _ => pts_nil) (fun _ _ _ _ _ => (show PE _ _ (tFld K _ "own_letters") from (pe_fld (pv 3) rfl)))) pa_nil)) pa_nil)) pe_int (nomark _)))))), ?_⟩
  have l6 := sz60
  have g1 := one200
  obtain ⟨t, ws, rfl, hs, pw⟩ := id h
  have lx : ws.length = ps.length := (Paired.length pw).symm
  have hne : ws.isEmpty = false := by
    cases ws with
    | nil => exact absurd (List.length_eq_zero_iff.mp lx.symm) ok.ne
    | cons _ _ => rfl
  refine ⟨_, rfl, _, _, _, rfl, .tupT hs, true, rfl, iteF ?_⟩
  refine ⟨_, rfl, by show 0 ≤ sizeLine; omega, fun e0 ne0 => ⟨t, e0, ws, rfl, rfl, SqT.tle (Same.new ne0).tle hs, SqT.of upd_same, ?_⟩⟩
  have s0 : Same H (upd H e0 (.tup [])) := Same.new ne0
  rw [hne]
  refine ⟨false, rfl, iteF ?_⟩
  refine ⟨_, rfl, t, rfl, ⟨_, SqT.tle s0.tle hs⟩, ?_⟩
  refine for_it (walk_tup (xs := ws)) (fun i σ H' => Same H H' ∧ ∃ o1 o2 o3, σ = [some (.ref t), o1, o2, o3]) ⟨s0, none, none, none, rfl⟩ (fun i σ H' _ h => SqT.tle h.1.tle hs) (fun i x σ H2 H3 hi ⟨s2, o1, o2, o3, eσ⟩ y => ?_) fun σ H2 ⟨s2, o1, o2, o3, eσ⟩ => ?_
  · obtain ⟨rfl, hx⟩ := y
    subst eσ
    obtain ⟨p, hp, t2, a, rfl, ht, hR⟩ := paired_get' pw hx
    have ht3 := SqT.tle s2.tle ht
    have o := ok.one p (List.mem_of_getElem? hp)
    have ⟨dx, sl, fv, lv, av, dm, h1, _⟩ := id (hR.same s2)
    refine ⟨_, rfl, _, _, _, rfl, .tupT ht3, true, rfl, iteF ⟨_, rfl, t2, _, rfl, .inr ht3, rfl, false, rfl, iteF ?_⟩⟩
    refine ⟨_, rfl, t2, _, _, _, rfl, rfl, ht3, (atI_nat (j := 0) rfl), _, rfl, by omega, by omega, true, rfl, iteF ?_⟩
    exact ⟨_, rfl, t2, _, _, _, rfl, rfl, ht3, (atI_nat (j := 1) rfl), _, _, _, rfl, .own (T.isReader h1), true, rfl, iteF ⟨s2, _, _, _, rfl⟩⟩
  · subst eσ
    refine ⟨_, rfl, t, rfl, ⟨_, SqT.tle s2.tle hs⟩, fun D hD => ?_⟩
    refine comp_it (walk_tup (xs := ws)) grows_at ps lx.symm (by have := ok.len; omega) (fun _ => true) (fun p y _ => y = .str (tx p.2.L)) (fun a y H H' _ h => h) hD (fun H' sm => SqT.tle (s2.trans sm).tle hs) (fun i x p H' H3 hp sm y => ?_) fun ys H' sm hy pa => ?_
    · obtain ⟨rfl, hx⟩ := y
      obtain ⟨p', hp', t2, a, rfl, ht, hR⟩ := paired_get' pw hx
      rw [hp] at hp'
      obtain rfl := Option.some.inj hp'
      obtain ⟨dx, sl, fv, lv, av, dm, h1, _⟩ := hR.same (s2.trans sm)
      exact turn_2 (SqT.tle (s2.trans sm).tle ht) rfl fun C c2 => ⟨_, rfl, a, _, dx, _, _, rfl, h1, T.c_Reader, T.n_Reader_own_letters, rfl, c2 _ _ (Same.refl _) rfl⟩
    · rw [filt] at pa
      rw [sames pa ok.lets] at hy
      obtain ⟨m, hm⟩ : ∃ m, ps.length = m + 1 := ⟨ps.length - 1, by have := List.length_pos_iff.mpr ok.ne; omega⟩
      rw [hm] at hy
      refine ⟨D, m, tx L, rfl, SqL.of hy, fun a na => ⟨a, 1, rfl, upd_same, by omega, ?_⟩⟩
      refine ⟨rfl, ?_⟩
      show Q (.bl (decide (V.int ((1 : Nat) : Int) = V.int 1))) _
      rw [show decide (V.int ((1 : Nat) : Int) = V.int 1) = true from by simp]
      exact q _ ((s2.trans sm).trans (Same.new na))
/-- a tally at y -/
abbrev tlFs (L : List Nat) (pv : V) (n : Int) : List (Str × V) := [("own_parts", pv), ("own_letters", .str (tx L)), ("own_width", .int n)]
def Tly (K : PySem.W.Frag) (H : Hp) (y : Addr) (L : List Nat) (ps : List (Int × Rd)) : Prop := ∃ dx pv, H y = some (.ins (He.ga K "Tally") dx (tlFs L pv (wid ps : Int))) ∧ Prts K H pv ps
theorem Tly.same {H H' : Hp} {y : Addr} {L : List Nat} {ps : List (Int × Rd)} (h : Tly K H y L ps) (s : Same H H') : Tly K H' y L ps := by
  obtain ⟨dx, pv, h1, h2⟩ := h
  exact ⟨dx, pv, s _ _ h1, h2.same s⟩
theorem wid_sum (ps : List (Int × Rd)) : (ps.map fun p => ((p.2.n : Nat) : Int)).sum = (wid ps : Int) := by
  unfold wid
  induction ps with
  | nil => rfl
  | cons p l ih => rw [List.map_cons, List.sum_cons, ih, List.map_cons, List.sum_cons]; push_cast; rfl
def sp_Tally_init (w : World) (K : PySem.W.Frag) : Sp := fun vs H Q E => ∃ (a dx C : Addr) (L : List Nat) (ps : List (Int × Rd)) (pp : V), vs = [.ref a, pp] ∧ C = He.ga K "Tally" ∧ H a = some (.ins C dx []) ∧ Prts K H pp ps ∧ PsOk L ps ∧ ∀ H', SameX a H H' → Tly K H' a L ps → Q .non H'
abbrev N_Tally_init : List Str := ["self", "parts", "number", "reader"]
theorem sc_Tally_init : FnScope N_Tally_init ["self", "parts"] (defScope s_Tally_init) := ⟨rfl, rfl, rfl, by decide +kernel, rfl, by decide +kernel, by decide +kernel⟩
theorem p_Tally_init (T : Tx K mg) : FnR P w K mg base CX0 3 (He.ma K (He.ga K "Tally") "__init__") (sp_Tally_init w K) ∧ PySem.W.keepIn K (.ref (He.ma K (He.ga K "Tally") "__init__")) = true := by
  refine fnr_mk T.d_Tally_init sc_Tally_init (fun _ _ _ _ _ _ us h => by match us, h with | [_, _], _ => rfl) (fun vs H Q E ⟨a, dx, C, L, ps, pp, e, eC, ha, h, ok, q⟩ => by rw [e]; rfl) fun cdv A outer s H vs Q E hr ⟨a, dx, C, L, ps, pp, e, eC, ha, h, ok, q⟩ => ?_
  subst e
  have hu := hr.units
  have hu1 := hu_of hr
  have nd := sc_Tally_init.nd
  refine ⟨_, (pss_cons (ps_if (pt_not (pt_val (cg (p_are_parts T) hr (pa_cons (pv 1) pa_nil)))) (pss_one ps_never) pss_nil)
      (pss_cons (ps_fld (pv 0) (pv 1) rfl)
      (pss_cons (ps_fld (pv 0) (pe_fld (pe_ix ix_tup (pe_ix ix_tup (pv 1) pe_int (fun _ _ => rfl)) pe_int (fun _ _ => rfl)) rfl) rfl)
      (pss_cons (ps_fld (pv 0) (pe_callB (cr_sum rfl) (by rfl) T.b_sum (by decide +kernel) (pa_cons (pe_lc (own := [("number", 2), ("reader", 3)]) rfl nd (pi_tup (pv 1)) (blkOk_by (N := N_Tally_init) (sc := defScope s_Tally_init) (by decide +kernel)) (fun _ _ _ _ _ => (show PG _ _ (gTup K 2 (gCons (gName 2) (gCons (gName 3) gNil))) from pg_tup rfl (pgs_cons (pg_name (i := 2) nd rfl (Or.inl rfl) (Or.inr rfl)) (pgs_cons (pg_name (i := 3) nd rfl (Or.inl rfl) (Or.inr rfl)) pgs_nil)))) (fun _ _ _ _ _ => pts_nil) (fun _ _ _ _ _ => (show PE _ _ (tFld K _ "own_size") from (pe_fld (pv 3) rfl)))) pa_nil)) rfl)
      (pss_one (ps_if (pt_cmpR op_gt (pe_fld (pv 0) rfl) (pgi T.i_MAX_WIDTH) (nomark _)) (pss_one ps_never) pss_nil)))))), ?_⟩
  subst eC
  have l6 := sz60
  refine ⟨_, rfl, pp, L, ps, rfl, h, ok, fun H1 s1 => ⟨true, rfl, iteF ?_⟩⟩
  have a1 := s1 _ _ ha
  have p1 := h.same s1
  refine ⟨_, rfl, _, rfl, a, _, dx, _, rfl, a1, T.c_Tally, T.n_Tally_own_parts, by simp, ?_⟩
  rw [putF_new [] rfl (by decide)]
  have x1 : ∀ o, SameX a H1 (upd H1 a o) := fun o => (SameX.refl a H1).put
  have p2 := p1.sx (x1 (.ins (He.ga K "Tally") dx (([] : List (Str × V)) ++ ([("own_parts", pp)] : List (Str × V))))) a1 (by decide)
  obtain ⟨t, ws, rfl, hs, pw⟩ := id p2
  obtain ⟨p, ps', eps⟩ : ∃ p ps', ps = p :: ps' := by
    cases ps with
    | nil => exact absurd rfl ok.ne
    | cons p l => exact ⟨p, l, rfl⟩
  obtain ⟨x, hx, t2, ar, rfl, ht, hR⟩ := paired_get pw (i := 0) (a := p) (by rw [eps]; rfl)
  obtain ⟨dr, sl, fv, lv, av, dm, r1, _⟩ := id hR
  have eL : p.2.L = L := ok.lets p (by rw [eps]; exact List.mem_cons_self)
  refine ⟨_, rfl, t, _, _, _, rfl, rfl, hs, (atI_nat (j := 0) hx), t2, _, _, _, rfl, rfl, ht, (atI_nat (j := 1) rfl), ar, _, dr, _, _, rfl, r1, T.c_Reader, T.n_Reader_own_letters, rfl, ?_⟩
  refine ⟨_, rfl, a, _, dx, _, rfl, upd_same, T.c_Tally, T.n_Tally_own_letters, by simp, ?_⟩
  rw [putF_new ["own_parts"] rfl (by decide), eL]
  have x2 : ∀ o o', SameX a H1 (upd (upd H1 a o) a o') := fun o o' => ((SameX.refl a H1).put).put
  obtain ⟨t', ws', et, hs, pw⟩ := p1.sx (x2 (.ins (He.ga K "Tally") dx (([] : List (Str × V)) ++ ([("own_parts", .ref t)] : List (Str × V)))) (.ins (He.ga K "Tally") dx (([] : List (Str × V)) ++ ([("own_parts", .ref t)] : List (Str × V)) ++ ([("own_letters", .str (tx L))] : List (Str × V))))) a1 (by decide)
  obtain rfl : t = t' := by injection et
  have lx : ws'.length = ps.length := (Paired.length pw).symm
  refine ⟨_, rfl, t, rfl, ⟨_, hs⟩, fun D hD => ?_⟩
  have nD : H1 D = none := by
    rw [upd_ne (ne_of_none upd_same hD).symm, upd_ne (ne_of_none upd_same hD).symm] at hD; exact hD
  refine comp_it (walk_tup (xs := ws')) grows_at ps lx.symm (by have := ok.len; omega) (fun _ => true) (fun p y _ => y = .int ((p.2.n : Nat) : Int)) (fun a y H H' _ h => h) hD (fun H' sm => SqT.tle sm.tle hs) (fun i x p H' H3 hp sm y => ?_) fun ys H' sm hy pa => ?_
  · obtain ⟨rfl, hx⟩ := y
    obtain ⟨p', hp', t2, b, rfl, ht, hR⟩ := paired_get' pw hx
    rw [hp] at hp'
    obtain rfl := Option.some.inj hp'
    obtain ⟨dr, sl, fv, lv, av, dm, r1, _⟩ := hR.same sm
    exact turn_2 (SqT.tle sm.tle ht) rfl fun C c2 => ⟨_, rfl, b, _, dr, _, _, rfl, r1, T.c_Reader, T.n_Reader_own_size, rfl, c2 _ _ (Same.refl _) rfl⟩
  · rw [filt] at pa
    rw [ints_of pa] at hy
    refine ⟨D, _, rfl, SqL.of hy, ?_⟩
    rw [wid_sum]
    have a5 := sm _ _ upd_same
    refine ⟨_, rfl, a, _, dx, _, rfl, a5, T.c_Tally, T.n_Tally_own_width, by simp, ?_⟩
    rw [putF_new ["own_parts", "own_letters"] rfl (by decide)]
    refine ⟨_, rfl, a, _, dx, _, _, rfl, upd_same, T.c_Tally, T.n_Tally_own_width, rfl, ?_⟩
    have w2 := ok.wid
    refine ⟨_, _, rfl, rfl, ⟨decide ((wid ps : Int) > 200), rfl, ?_⟩⟩
    rw [decide_eq_false (by omega)]
    refine iteF ?_
    have sx : ∀ o : HO, SameX a H (upd H' a o) := fun o => (s1.x.trans ((x2 _ _).trans sm.x)).put
    exact q _ (sx _) ⟨dx, _, upd_same, h.sx (sx _) ha (by decide)⟩
end K39
end Text_K39Q4

section Text_K39Q5
set_option Elab.async false set_option linter.all false set_option maxRecDepth 100000 set_option maxHeartbeats 4000000
/-! The walk of a tally. -/
namespace K39
open PySem PySem.Spec PyProof.Rows L2
variable {P : Program} {w : World} {K : PySem.W.Frag} {mg : Str → Option Value} {base : Heap}
/-- the row behind t paces -/
def fwd (R : Rd) : Nat → Nat → Int
  | 0 => row0 R
  | t + 1 => pace R (fwd R t)
def rowI (p : Int × Rd) (t : Nat) : List Int := (List.range p.2.n).map (fwd p.2 t)
def rowsI (ps : List (Int × Rd)) (t : Nat) : List Int := ps.flatMap fun p => rowI p t
abbrev rowsV (ps : List (Int × Rd)) (t : Nat) : List V := (rowsI ps t).map V.int
theorem rowI_V (p : Int × Rd) (t : Nat) : (rowI p t).map V.int = rowV p.2.n (fwd p.2 t) := by unfold rowI; rw [List.map_map]; rfl
theorem rowI_len (p : Int × Rd) (t : Nat) : (rowI p t).length = p.2.n := by simp [rowI]
theorem rowsI_len (t : Nat) : ∀ ps : List (Int × Rd), (rowsI ps t).length = wid ps
  | [] => rfl
  | p :: l => by
    have := rowsI_len t l
    unfold rowsI wid at this ⊢
    rw [List.flatMap_cons, List.length_append, this, rowI_len, List.map_cons, List.sum_cons]
theorem wid_take {ps : List (Int × Rd)} {i : Nat} {p : Int × Rd} (h : ps[i]? = some p) : wid (ps.take (i + 1)) = wid (ps.take i) + p.2.n := by
  rw [take_one h]; unfold wid; rw [List.map_append, List.sum_append]; simp
theorem cutV_nat (xs : List V) (a b : Nat) (h : b ≤ xs.length) : cutV xs (some (a : Int)) (some (b : Int)) = (xs.drop a).take (b - a) := by
  unfold cutV
  rw [HT.sIx_nat, HT.sIx_nat, Nat.min_eq_left h]
  by_cases ha : a ≤ xs.length
  · rw [Nat.min_eq_left ha]
  · rw [Nat.min_eq_right (by omega)]
    rw [List.drop_eq_nil_of_le (Nat.le_refl _), List.drop_eq_nil_of_le (by omega)]; simp
theorem rowsI_cut (t : Nat) {ps : List (Int × Rd)} {i : Nat} {p : Int × Rd} (h : ps[i]? = some p) : ((rowsI ps t).drop (wid (ps.take i))).take p.2.n = rowI p t := by
  have e : ps = ps.take i ++ (p :: ps.drop (i + 1)) := by
    have := List.take_append_drop i ps
    rw [List.drop_eq_getElem_cons (List.getElem?_eq_some_iff.mp h).1, (List.getElem?_eq_some_iff.mp h).2] at this
    exact this.symm
  have e2 : rowsI ps t = rowsI (ps.take i) t ++ (rowI p t ++ rowsI (ps.drop (i + 1)) t) := by
    conv => lhs; rw [e]
    unfold rowsI; rw [List.flatMap_append, List.flatMap_cons]
  rw [e2, ← rowsI_len t (ps.take i), List.drop_left, ← rowI_len p t, List.take_left]
theorem wid_le {ps : List (Int × Rd)} (i : Nat) : wid (ps.take i) ≤ wid ps := by
  have e : wid ps = wid (ps.take i) + wid (ps.drop i) := by
    conv => lhs; rw [← List.take_append_drop i ps]
    unfold wid; rw [List.map_append, List.sum_append]
  omega
/-- what the tally counts at length t -/
def tot (ps : List (Int × Rd)) (t : Nat) : Int := (ps.map fun p => p.1 * endR p.2 (fwd p.2 t)).sum
theorem ints_of' {l : List Int} {ys : List V} {H : Hp} (pa : PAll (fun z y _ => y = .int z) l ys H) : ys = l.map V.int := by
  have := ints_of (f := id) pa
  rwa [List.map_id] at this
def sp_Tally_first_one (w : World) (K : PySem.W.Frag) : Sp := fun vs H Q E => ∃ (y : Addr) (L : List Nat) (ps : List (Int × Rd)), vs = [.ref y] ∧ PsOk L ps ∧ Tly K H y L ps ∧ ∀ r H', Same H H' → SqT K H' r (rowsV ps 0) → Q (.ref r) H'
abbrev N_Tally_first_one : List Str := ["self", "part", "number"]
theorem sc_Tally_first_one : FnScope N_Tally_first_one ["self"] (defScope s_Tally_first_one) := ⟨rfl, rfl, rfl, by decide +kernel, rfl, by decide +kernel, by decide +kernel⟩
theorem p_Tally_first_one (T : Tx K mg) : FnR P w K mg base CX0 2 (He.ma K (He.ga K "Tally") "first_one") (sp_Tally_first_one w K) ∧ PySem.W.keepIn K (.ref (He.ma K (He.ga K "Tally") "first_one")) = true := by
  refine fnr_mk T.d_Tally_first_one sc_Tally_first_one (fun _ _ _ _ _ _ us h => by match us, h with | [_], _ => rfl) (fun vs H Q E ⟨y, L, ps, e, ok, h, q⟩ => by rw [e]; rfl) fun cdv A outer s H vs Q E hr ⟨y, L, ps, e, ok, h, q⟩ => ?_
  subst e
  have hu := hr.units
  have hu1 := hu_of hr
  have nd := sc_Tally_first_one.nd
  refine ⟨_, (pss_one (ps_ret (pe_tupleOf (by rfl) T.b_tuple (pe_lc2 (own := [("part", 1), ("number", 2)]) (vs1 := [2]) rfl nd (pi_tup (pe_fld (pv 0) rfl)) (blkOk_by (N := N_Tally_first_one) (sc := defScope s_Tally_first_one) (by decide +kernel)) (by decide) (fun _ _ _ _ _ => (pg_name (i := 1) nd rfl (Or.inl rfl) (Or.inr rfl))) (fun _ _ _ _ _ => pts_nil) (fun _ _ _ _ _ => (show PI _ _ _ (iTup K _) from pi_tup (cg (p_first_row_of T) hr (pa_cons (pe_ix (show IxR _ (rIxT K) from ix_tup) (pv 1) pe_int (fun _ _ => rfl)) pa_nil)))) (fun _ _ _ _ _ => (pg_name (i := 2) nd rfl (Or.inl rfl) (Or.inr rfl))) (fun _ _ _ _ _ => pts_nil) (fun _ _ _ _ _ => (pv 2)))))), ?_⟩
  have l6 := sz60
  obtain ⟨dx, pv, h1, h2⟩ := id h
  obtain ⟨t, ws, rfl, hs, pw⟩ := id h2
  have lx : ws.length = ps.length := (Paired.length pw).symm
  have wl := ok.wid
  refine ⟨_, rfl, y, _, dx, _, _, rfl, h1, T.c_Tally, T.n_Tally_own_parts, rfl, t, rfl, ⟨_, hs⟩, fun D hD => ?_⟩
  refine comp2_it (walk_tup (xs := ws)) grows_at ps lx.symm (fun p => rowI p 0) (fun z y _ => y = .int z) (by show (rowsI ps 0).length < _; rw [rowsI_len]; omega) (fun a y H H' k h => h) hD (fun H' sm => SqT.tle sm.tle hs) (fun i x p H' H2 hpi sm y Nx acc hacc hlen hnx => ?_) fun zs H5 sm hy pa => ?_
  · obtain ⟨rfl, hx⟩ := y
    obtain ⟨p', hp', t2, b, rfl, ht, hR⟩ := paired_get' pw hx
    rw [hpi] at hp'
    obtain rfl := Option.some.inj hp'
    have okp := ok.ok _ (List.mem_of_getElem? hpi)
    rw [rowI_len] at hlen
    refine ⟨rfl, tYes_if ⟨_, rfl, t2, _, _, _, rfl, rfl, SqT.tle sm.tle ht, (atI_nat (j := 1) rfl), b, p.2, rfl, okp.n60, hR.same sm, fun c H4 s4 hc => ?_⟩⟩
    refine ⟨c, rfl, ⟨_, hc⟩, ?_⟩
    have hacc4 := s4 _ _ hacc
    refine in_it (walk_tup (xs := rowV p.2.n (row0 p.2))) grows_at (rowI p 0) (by simp [rowI]) (fun _ => true) (fun z y _ => y = .int z) (fun a y H H' k h => h) hacc4 (by simp; omega) (fun H' sx => SqT.tle (sx.to hacc4) hc) (fun j x q0 H' H3 hq sx y => turn_name rfl fun C c2 => ?_) fun zs H5 sx h5 p5 => ?_
    · obtain ⟨rfl, hx⟩ := y
      have e2 : ((rowI p 0).map V.int)[j]? = some x := by rw [rowI_V]; exact hx
      rw [List.getElem?_map, hq] at e2
      exact ⟨_, rfl, c2 _ _ (Same.refl _) (Option.some.inj e2).symm⟩
    · rw [filt] at p5
      exact hnx zs H5 (s4.x.trans sx) h5 p5
  · have pa' : PAll (fun z y _ => y = .int z) (rowsI ps 0) zs H5 := pa
    rw [ints_of' pa'] at hy
    exact .inl ⟨D, _, rfl, SqL.of hy, fun t nt => q t _ (sm.trans (Same.new nt)) (SqT.of upd_same)⟩
def sp_Tally_pieces (w : World) (K : PySem.W.Frag) : Sp := fun vs H Q E => ∃ (y r : Addr) (L : List Nat) (ps : List (Int × Rd)) (t : Nat), vs = [.ref y, .ref r] ∧ PsOk L ps ∧ Tly K H y L ps ∧ SqT K H r (rowsV ps t) ∧ ∀ b zs H', Same H H' → SqL K H' b zs → Paired (fun p z => ∃ c, z = .ref c ∧ SqT K H' c (rowV p.2.n (fwd p.2 t))) ps zs → Q (.ref b) H'
abbrev N_Tally_pieces : List Str := ["self", "row", "found", "at", "number", "reader"]
theorem sc_Tally_pieces : FnScope N_Tally_pieces ["self", "row"] (defScope s_Tally_pieces) := ⟨rfl, rfl, rfl, by decide +kernel, rfl, by decide +kernel, by decide +kernel⟩
theorem p_Tally_pieces (T : Tx K mg) : FnR P w K mg base CX0 1 (He.ma K (He.ga K "Tally") "pieces") (sp_Tally_pieces w K) ∧ PySem.W.keepIn K (.ref (He.ma K (He.ga K "Tally") "pieces")) = true := by
  refine fnr_mk T.d_Tally_pieces sc_Tally_pieces (fun _ _ _ _ _ _ us h => by match us, h with | [_, _], _ => rfl) (fun vs H Q E ⟨y, r, L, ps, tt, e, ok, h, hr0, q⟩ => by rw [e]; rfl) fun cdv A outer s H vs Q E hr ⟨y, r, L, ps, tt, e, ok, h, hr0, q⟩ => ?_
  subst e
  have hu := hr.units
  have hu1 := hu_of hr
  have nd := sc_Tally_pieces.nd
  refine ⟨_, (pss_cons (ps_par (i := 2) (j := 3) (by rfl) nd rfl rfl (by decide) rfl rfl (pa_cons (pe_lst pa_nil) (pa_cons pe_int pa_nil)) (by rfl))
      (pss_cons (ps_for PassesOwn.never rfl (pi_tup (pe_fld (pv 0) rfl)) (pg_tup rfl (pgs_cons (pg_name (i := 4) nd rfl (Or.inl rfl)) (pgs_cons (pg_name (i := 5) nd rfl (Or.inl rfl)) pgs_nil)))
        (pss_cons (ps_expr (pe_bm PySem.F.plainAttrs_list PySem.F.slot_list_append PySem.F.type_list_append mt_append (pv 2) (pa_cons (pe_slice sl_tupA (pv 1) (po_some (pv 3)) (po_some (pe_op op_add (pv 3) (pe_fld (pv 5) rfl)))) pa_nil)))
        (pss_one (ps_aug (i := 3) nd rfl (Or.inl rfl) (pe_fld (pv 5) rfl) ip_add))))
      (pss_one (ps_ret (pv 2))))), ?_⟩
  have l6 := sz60
  obtain ⟨dx, pv, h1, h2⟩ := id h
  obtain ⟨t, ws, rfl, hs, pw⟩ := id h2
  have lx : ws.length = ps.length := (Paired.length pw).symm
  have wl := ok.wid
  have ll := ok.len
  refine ⟨by show 0 ≤ sizeLine; omega, fun F nF => ⟨_, _, rfl, ?_⟩⟩
  have s0 : Same H (upd H F (.lst [])) := Same.new nF
  refine ⟨_, rfl, y, _, dx, _, _, rfl, s0 _ _ h1, T.c_Tally, T.n_Tally_own_parts, rfl, t, rfl, ⟨_, SqT.tle s0.tle hs⟩, ?_⟩
  refine for_it (walk_tup (xs := ws)) (fun i σ H' => Same H H' ∧ (∃ zs, H' F = some (.lst zs) ∧ PAll (fun p z H' => ∃ c, z = .ref c ∧ SqT K H' c (rowV p.2.n (fwd p.2 tt))) (ps.take i) zs H') ∧ ∃ o4 o5, σ = [some (.ref y), some (.ref r), some (.ref F), some (.int ((wid (ps.take i) : Nat) : Int)), o4, o5])
    ⟨s0, ⟨[], upd_same, .nil⟩, none, none, rfl⟩ (fun i σ H' _ h => SqT.tle h.1.tle hs) (fun i x σ H2 H3 hi ⟨s2, ⟨zs, hz, pz⟩, o4, o5, eσ⟩ y => ?_) fun σ H2 ⟨s2, ⟨zs, hz, pz⟩, o4, o5, eσ⟩ => ?_
  · obtain ⟨rfl, hx⟩ := y
    subst eσ
    obtain ⟨p, hp, t2, b, rfl, ht, hR⟩ := paired_get' pw hx
    obtain ⟨dr, sl, fv, lv, av, dm, r1, _⟩ := hR.same s2
    have wt := wid_take hp
    have wb := wid_le (ps := ps) (i + 1)
    have lz : zs.length ≤ 60 := by
      have := Paired.length pz
      have : (ps.take i).length ≤ ps.length := by rw [List.length_take]; omega
      omega
    refine tg2 (SqT.tle s2.tle ht) ⟨_, rfl, .inl ⟨rfl, _, SqL.of hz⟩, _, rfl, _, rfl, _, rfl, _, rfl, _, rfl, b, _, dr, _, _, rfl, r1, T.c_Reader, T.n_Reader_own_size, rfl, _, _, rfl, rfl, _, rfl, ?_⟩
    refine slA (SqT.tle s2.tle hr0) fun c H4 s4 hc => ?_
    have ec : cutV (rowsV ps tt) (some ((wid (ps.take i) : Nat) : Int)) (some (((wid (ps.take i) : Nat) : Int) + (p.2.n : Int))) = rowV p.2.n (fwd p.2 tt) := by
      have e3 : (((wid (ps.take i) : Nat) : Int) + (p.2.n : Int)) = ((wid (ps.take i) + p.2.n : Nat) : Int) := by push_cast; rfl
      rw [e3, cutV_nat _ _ _ (by rw [List.length_map, rowsI_len]; omega), Nat.add_sub_cancel_left, ← List.map_drop, ← List.map_take, rowsI_cut tt hp, rowI_V]
    rw [ec] at hc
    have hz4 := s4 _ _ hz
    refine ⟨F, zs, _, rfl, rfl, hz4, by omega, ?_⟩
    have k4 : TLe H4 (upd H4 F (.lst (zs ++ [.ref c]))) := TLe.lst hz4
    have sF : Same H (upd H4 F (.lst (zs ++ [.ref c]))) := (s2.trans s4).put nF
    obtain ⟨dr', sl', fv', lv', av', dm', r1', _⟩ := hR.same sF
    refine ⟨_, rfl, _, rfl, b, _, dr', _, _, rfl, r1', T.c_Reader, T.n_Reader_own_size, rfl, _, _, rfl, rfl, sF, ⟨_, upd_same, ?_⟩, some (.int p.1), some (.ref b), ?_⟩
    · rw [take_one hp]
      exact paired_append (PAll.to (fun p z ⟨c, e, h⟩ => ⟨c, e, SqT.tle (s4.tle.trans k4) h⟩) pz) (.cons ⟨c, rfl, SqT.tle k4 hc⟩ .nil)
    · rw [wt]; rfl
  · subst eσ
    rw [lx, List.take_length] at pz
    exact ⟨_, rfl, q F zs H2 s2 (SqL.of hz) pz⟩
def sp_Tally_paced (w : World) (K : PySem.W.Frag) : Sp := fun vs H Q E => ∃ (y r : Addr) (L : List Nat) (ps : List (Int × Rd)) (t : Nat), vs = [.ref y, .ref r] ∧ PsOk L ps ∧ Tly K H y L ps ∧ SqT K H r (rowsV ps t) ∧ ∀ b H', Same H H' → SqT K H' b (rowsV ps (t + 1)) → Q (.ref b) H'
abbrev N_Tally_paced : List Str := ["self", "row", "pairs", "part", "piece", "number"]
theorem sc_Tally_paced : FnScope N_Tally_paced ["self", "row"] (defScope s_Tally_paced) := ⟨rfl, rfl, rfl, by decide +kernel, rfl, by decide +kernel, by decide +kernel⟩
theorem p_Tally_paced (T : Tx K mg) : FnR P w K mg base CX0 2 (He.ma K (He.ga K "Tally") "paced") (sp_Tally_paced w K) ∧ PySem.W.keepIn K (.ref (He.ma K (He.ga K "Tally") "paced")) = true := by
  refine fnr_mk T.d_Tally_paced sc_Tally_paced (fun _ _ _ _ _ _ us h => by match us, h with | [_, _], _ => rfl) (fun vs H Q E ⟨y, r, L, ps, tt, e, ok, h, hr0, q⟩ => by rw [e]; rfl) fun cdv A outer s H vs Q E hr ⟨y, r, L, ps, tt, e, ok, h, hr0, q⟩ => ?_
  subst e
  have hu := hr.units
  have hu1 := hu_of hr
  have nd := sc_Tally_paced.nd
  refine ⟨_, (pss_cons (ps_set (i := 2) nd rfl (Or.inl rfl) (pe_listZip rfl (by rfl) T.b_list (by rfl) T.b_zip (pa_cons (pe_fld (pv 0) rfl) (pa_cons (cm (pv 0) T.c_Tally T.m_Tally_pieces (p_Tally_pieces T).1 hr (pa_cons (pv 1) pa_nil)) pa_nil))))
      (pss_one (ps_ret (pe_tupleOf (by rfl) T.b_tuple (pe_lc2 (own := [("part", 3), ("piece", 4), ("number", 5)]) (vs1 := [5]) rfl nd (pi_list (pv 2)) (blkOk_by (N := N_Tally_paced) (sc := defScope s_Tally_paced) (by decide +kernel)) (by decide) (fun _ _ _ _ _ => (show PG _ _ (gTup K 2 (gCons (gName 3) (gCons (gName 4) gNil))) from pg_tup rfl (pgs_cons (pg_name (i := 3) nd rfl (Or.inl rfl) (Or.inr rfl)) (pgs_cons (pg_name (i := 4) nd rfl (Or.inl rfl) (Or.inr rfl)) pgs_nil)))) (fun _ _ _ _ _ => pts_nil) (fun _ _ _ _ _ => (show PI _ _ _ (iTup K _) from pi_tup (cg (p_stepped T) hr (pa_cons (pe_ix (show IxR _ (rIxT K) from ix_tup) (pv 3) pe_int (fun _ _ => rfl)) (pa_cons (pv 4) pa_nil))))) (fun _ _ _ _ _ => (pg_name (i := 5) nd rfl (Or.inl rfl) (Or.inr rfl))) (fun _ _ _ _ _ => pts_nil) (fun _ _ _ _ _ => (pv 5))))))), ?_⟩
  have l6 := sz60
  obtain ⟨dx, pv, h1, h2⟩ := id h
  obtain ⟨t, ws, rfl, hs, pw⟩ := id h2
  have lx : ws.length = ps.length := (Paired.length pw).symm
  have wl := ok.wid
  have ll := ok.len
  refine ⟨_, rfl, y, _, dx, _, _, rfl, h1, T.c_Tally, T.n_Tally_own_parts, rfl, _, rfl, y, dx, _, rfl, h1, rfl, _, rfl, y, r, L, ps, tt, rfl, ok, h, hr0, fun b zs H1 s1 hb pz => ?_⟩
  have lz : zs.length = ps.length := (Paired.length pz).symm
  refine ⟨t, b, ws, zs, rfl, SqT.tle s1.tle hs, hb, by omega, fun D as H2 s2 nD hD la pr => ?_⟩
  have sH := s1.trans s2
  refine ⟨_, rfl, D, rfl, ⟨_, SqL.of hD⟩, fun D2 nD2 => ?_⟩
  refine comp2_it (walk_list (xs := as.map V.ref)) grows_at ps (by rw [List.length_map]; omega) (fun p => rowI p (tt + 1)) (fun z y _ => y = .int z) (by show (rowsI ps (tt + 1)).length < _; rw [rowsI_len]; omega) (fun a y H H' k h => h) nD2 (fun H' sm => SqL.of (sm _ _ hD)) (fun i x p H' H3 hpi sm y Nx acc hacc hlen hnx => ?_) fun zs H5 sm hy pa => ?_
  · obtain ⟨rfl, hx⟩ := y
    rw [List.getElem?_map] at hx
    obtain ⟨T0, hT, rfl⟩ := Option.map_eq_some_iff.mp hx
    obtain ⟨v, z, e1, e2, e3⟩ := pr _ _ hT
    obtain ⟨p', hp', t2, b2, rfl, ht, hR⟩ := paired_get' pw e1
    rw [hpi] at hp'
    obtain rfl := Option.some.inj hp'
    obtain ⟨p', hp', c, rfl, hc⟩ := paired_get' pz e2
    rw [hpi] at hp'
    obtain rfl := Option.some.inj hp'
    have okp := ok.ok _ (List.mem_of_getElem? hpi)
    rw [rowI_len] at hlen
    refine tg2 (SqT.of (sm _ _ e3)) ⟨rfl, tYes_if ⟨_, rfl, t2, _, _, _, rfl, rfl, SqT.tle (sH.trans sm).tle ht, (atI_nat (j := 1) rfl), _, rfl, b2, c, p.2, _, rfl, okp.n60, fun a ha => ⟨(okp.arn a ha).1, (okp.arn a ha).2.2⟩, hR.same (sH.trans sm), SqT.tle (s2.trans sm).tle hc, fun c4 H4 s4 hc4 => ?_⟩⟩
    refine ⟨c4, rfl, ⟨_, hc4⟩, ?_⟩
    have hacc4 := s4 _ _ hacc
    refine in_it (walk_tup (xs := rowV p.2.n (pace p.2 (fwd p.2 tt)))) grows_at (rowI p (tt + 1)) (by simp [rowI]) (fun _ => true) (fun z y _ => y = .int z) (fun a y H H' k h => h) hacc4 (by simp; omega) (fun H' sx => SqT.tle (sx.to hacc4) hc4) (fun j x q0 H' H3 hq sx y => turn_name rfl fun C c2 => ?_) fun zs H5 sx h5 p5 => ?_
    · obtain ⟨rfl, hx⟩ := y
      have e2 : ((rowI p (tt + 1)).map V.int)[j]? = some x := by rw [rowI_V]; exact hx
      rw [List.getElem?_map, hq] at e2
      exact ⟨_, rfl, c2 _ _ (Same.refl _) (Option.some.inj e2).symm⟩
    · rw [filt] at p5
      exact hnx zs H5 (s4.x.trans sx) h5 p5
  · have pa' : PAll (fun z y _ => y = .int z) (rowsI ps (tt + 1)) zs H5 := pa
    rw [ints_of' pa'] at hy
    exact .inl ⟨D2, _, rfl, SqL.of hy, fun t nt => q t _ ((sH.trans sm).trans (Same.new nt)) (SqT.of upd_same)⟩
def sp_Tally_ended (w : World) (K : PySem.W.Frag) : Sp := fun vs H Q E => ∃ (y r : Addr) (L : List Nat) (ps : List (Int × Rd)) (t : Nat), vs = [.ref y, .ref r] ∧ PsOk L ps ∧ Tly K H y L ps ∧ SqT K H r (rowsV ps t) ∧ ∀ H', Same H H' → Q (.int (tot ps t)) H'
abbrev N_Tally_ended : List Str := ["self", "row", "pairs", "part", "piece"]
theorem sc_Tally_ended : FnScope N_Tally_ended ["self", "row"] (defScope s_Tally_ended) := ⟨rfl, rfl, rfl, by decide +kernel, rfl, by decide +kernel, by decide +kernel⟩
theorem p_Tally_ended (T : Tx K mg) : FnR P w K mg base CX0 2 (He.ma K (He.ga K "Tally") "ended") (sp_Tally_ended w K) ∧ PySem.W.keepIn K (.ref (He.ma K (He.ga K "Tally") "ended")) = true := by
  refine fnr_mk T.d_Tally_ended sc_Tally_ended (fun _ _ _ _ _ _ us h => by match us, h with | [_, _], _ => rfl) (fun vs H Q E ⟨y, r, L, ps, tt, e, ok, h, hr0, q⟩ => by rw [e]; rfl) fun cdv A outer s H vs Q E hr ⟨y, r, L, ps, tt, e, ok, h, hr0, q⟩ => ?_
  subst e
  have hu := hr.units
  have hu1 := hu_of hr
  have nd := sc_Tally_ended.nd
  refine ⟨_, (pss_cons (ps_set (i := 2) nd rfl (Or.inl rfl) (pe_listZip rfl (by rfl) T.b_list (by rfl) T.b_zip (pa_cons (pe_fld (pv 0) rfl) (pa_cons (cm (pv 0) T.c_Tally T.m_Tally_pieces (p_Tally_pieces T).1 hr (pa_cons (pv 1) pa_nil)) pa_nil))))
      (pss_one (ps_ret (pe_callB (cr_sum rfl) (by rfl) T.b_sum (by decide +kernel) (pa_cons (pe_lc (own := [("part", 3), ("piece", 4)]) rfl nd (pi_list (pv 2)) (blkOk_by (N := N_Tally_ended) (sc := defScope s_Tally_ended) (by decide +kernel)) (fun _ _ _ _ _ => (show PG _ _ (gTup K 2 (gCons (gName 3) (gCons (gName 4) gNil))) from pg_tup rfl (pgs_cons (pg_name (i := 3) nd rfl (Or.inl rfl) (Or.inr rfl)) (pgs_cons (pg_name (i := 4) nd rfl (Or.inl rfl) (Or.inr rfl)) pgs_nil)))) (fun _ _ _ _ _ => pts_nil) (fun _ _ _ _ _ => (pe_op op_mul (pe_ix (show IxR _ (rIxT K) from ix_tup) (pv 3) pe_int (fun _ _ => rfl)) (cg (p_end_of T) hr (pa_cons (pe_ix (show IxR _ (rIxT K) from ix_tup) (pv 3) pe_int (fun _ _ => rfl)) (pa_cons (pv 4) pa_nil)))))) pa_nil))))), ?_⟩
  have l6 := sz60
  obtain ⟨dx, pv, h1, h2⟩ := id h
  obtain ⟨t, ws, rfl, hs, pw⟩ := id h2
  have lx : ws.length = ps.length := (Paired.length pw).symm
  have wl := ok.wid
  have ll := ok.len
  refine ⟨_, rfl, y, _, dx, _, _, rfl, h1, T.c_Tally, T.n_Tally_own_parts, rfl, _, rfl, y, dx, _, rfl, h1, rfl, _, rfl, y, r, L, ps, tt, rfl, ok, h, hr0, fun b zs H1 s1 hb pz => ?_⟩
  have lz : zs.length = ps.length := (Paired.length pz).symm
  refine ⟨t, b, ws, zs, rfl, SqT.tle s1.tle hs, hb, by omega, fun D as H2 s2 nD hD la pr => ?_⟩
  have sH := s1.trans s2
  refine ⟨_, rfl, D, rfl, ⟨_, SqL.of hD⟩, fun D2 nD2 => ?_⟩
  refine comp_it (walk_list (xs := as.map V.ref)) grows_at ps (by rw [List.length_map]; omega) (by rw [List.length_map]; omega) (fun _ => true) (fun p y _ => y = .int (p.1 * endR p.2 (fwd p.2 tt))) (fun a y H H' k h => h) nD2 (fun H' sm => SqL.of (sm _ _ hD)) (fun i x p H' H3 hpi sm y => ?_) fun zs H5 sm hy pa => ?_
  · obtain ⟨rfl, hx⟩ := y
    rw [List.getElem?_map] at hx
    obtain ⟨T0, hT, rfl⟩ := Option.map_eq_some_iff.mp hx
    obtain ⟨v, z, e1, e2, e3⟩ := pr _ _ hT
    obtain ⟨p', hp', t2, b2, rfl, ht, hR⟩ := paired_get' pw e1
    rw [hpi] at hp'
    obtain rfl := Option.some.inj hp'
    obtain ⟨p', hp', c, rfl, hc⟩ := paired_get' pz e2
    rw [hpi] at hp'
    obtain rfl := Option.some.inj hp'
    have okp := ok.ok _ (List.mem_of_getElem? hpi)
    have o1 := ok.one _ (List.mem_of_getElem? hpi)
    have ln := asc_len okp.ls okp.lsn
    have n6 := okp.n60
    have ht3 := SqT.tle (sH.trans sm).tle ht
    exact turn_2 (SqT.of (sm _ _ e3)) rfl fun C c2 => ⟨_, rfl, t2, _, _, _, rfl, rfl, ht3, (atI_nat (j := 0) rfl), _, rfl, t2, _, _, _, rfl, rfl, ht3, (atI_nat (j := 1) rfl), _, rfl, b2, c, p.2, _, rfl, okp.lsn, by omega, hR.same (sH.trans sm), SqT.tle (s2.trans sm).tle hc, fun H4 s4 => ⟨_, _, rfl, rfl, .inl ⟨by omega, by omega⟩, c2 _ _ s4 rfl⟩⟩
  · rw [filt] at pa
    rw [ints_of pa] at hy
    exact ⟨D2, _, rfl, SqL.of hy, q _ (sH.trans sm)⟩
end K39
end Text_K39Q5

section Text_K39Q6
set_option Elab.async false set_option linter.all false set_option maxRecDepth 100000 set_option maxHeartbeats 4000000
/-! Totals, and the within tally. -/
namespace K39
open PySem PySem.Spec PyProof.Rows L2
variable {P : Program} {w : World} {K : PySem.W.Frag} {mg : Str → Option Value} {base : Heap}
def sp_Tally_totals_below (w : World) (K : PySem.W.Frag) : Sp := fun vs H Q E => ∃ (y : Addr) (L : List Nat) (ps : List (Int × Rd)) (n : Nat), vs = [.ref y, .int (n : Int)] ∧ n ≤ 400 ∧ PsOk L ps ∧ Tly K H y L ps ∧ ∀ b H', Same H H' → SqL K H' b (((List.range n).map (tot ps)).map V.int) → Q (.ref b) H'
abbrev N_Tally_totals_below : List Str := ["self", "size", "found", "row", "length"]
theorem sc_Tally_totals_below : FnScope N_Tally_totals_below ["self", "size"] (defScope s_Tally_totals_below) := ⟨rfl, rfl, rfl, by decide +kernel, rfl, by decide +kernel, by decide +kernel⟩
theorem p_Tally_totals_below (T : Tx K mg) : FnR P w K mg base CX0 3 (He.ma K (He.ga K "Tally") "totals_below") (sp_Tally_totals_below w K) ∧ PySem.W.keepIn K (.ref (He.ma K (He.ga K "Tally") "totals_below")) = true := by
  refine fnr_mk T.d_Tally_totals_below sc_Tally_totals_below (fun _ _ _ _ _ _ us h => by match us, h with | [_, _], _ => rfl) (fun vs H Q E ⟨y, L, ps, n, e, hn, ok, h, q⟩ => by rw [e]; rfl) fun cdv A outer s H vs Q E hr ⟨y, L, ps, n, e, hn, ok, h, q⟩ => ?_
  subst e
  have hu := hr.units
  have hu1 := hu_of hr
  have nd := sc_Tally_totals_below.nd
  refine ⟨_, (pss_cons (ps_par (i := 2) (j := 3) (by rfl) nd rfl rfl (by decide) rfl rfl (pa_cons (pe_lst pa_nil) (pa_cons (cm0 (pv 0) T.c_Tally T.m_Tally_first_one (p_Tally_first_one T).1 hr) pa_nil)) (by rfl))
      (pss_cons (ps_for PassesOwn.never rfl (pi_range1 (by rfl) T.b_range (pa_cons (pv 1) pa_nil)) (pg_name (i := 4) nd rfl (Or.inl rfl))
        (pss_cons (ps_expr (pe_bm PySem.F.plainAttrs_list PySem.F.slot_list_append PySem.F.type_list_append mt_append (pv 2) (pa_cons (cm (pv 0) T.c_Tally T.m_Tally_ended (p_Tally_ended T).1 hr (pa_cons (pv 3) pa_nil)) pa_nil)))
        (pss_one (ps_set (i := 3) nd rfl (Or.inl rfl) (cm (pv 0) T.c_Tally T.m_Tally_paced (p_Tally_paced T).1 hr (pa_cons (pv 3) pa_nil))))))
      (pss_one (ps_ret (pv 2))))), ?_⟩
  have l6 := sz60
  obtain ⟨dx, pv, h1, h2⟩ := id h
  refine ⟨by show 0 ≤ sizeLine; omega, fun F nF => ?_⟩
  have s0 : Same H (upd H F (.lst [])) := Same.new nF
  refine ⟨_, rfl, y, dx, _, rfl, s0 _ _ h1, rfl, y, L, ps, rfl, ok, h.same s0, fun r H1 s1 hr0 => ⟨_, _, rfl, ?_⟩⟩
  have sH := s0.trans s1
  have nH : H F = none := nF
  refine ⟨_, rfl, _, rfl, by omega, by omega, ?_⟩
  refine for_it walk_range (fun i σ H' => Same H H' ∧ H' F = some (.lst (((List.range i).map (tot ps)).map V.int)) ∧ ∃ r o4, σ = [some (.ref y), some (.int (n : Int)), some (.ref F), some (.ref r), o4] ∧ SqT K H' r (rowsV ps i)) ⟨sH, s1 _ _ upd_same, r, none, rfl, hr0⟩ (fun _ _ _ _ _ => trivial) (fun i x σ H2 H3 hi ⟨s2, hF, r2, o4, eσ, hr2⟩ yy => ?_) fun σ H2 ⟨s2, hF, r2, o4, eσ, hr2⟩ => ?_
  · obtain ⟨rfl, rfl⟩ := yy
    subst eσ
    have hi' : i < n := by simpa using hi
    refine ⟨_, rfl, .inl ⟨rfl, _, SqL.of hF⟩, _, rfl, y, dx, _, rfl, s2 _ _ h1, rfl, _, rfl, y, r2, L, ps, i, rfl, ok, h.same s2, hr2, fun H4 s4 => ?_⟩
    have hF4 := s4 _ _ hF
    refine ⟨F, _, _, rfl, rfl, hF4, by simp; omega, ?_⟩
    have k4 : TLe H4 (upd H4 F (.lst (((List.range i).map (tot ps)).map V.int ++ [.int (tot ps i)]))) := TLe.lst hF4
    have sF : Same H (upd H4 F (.lst (((List.range i).map (tot ps)).map V.int ++ [.int (tot ps i)]))) := (s2.trans s4).put nH
    refine ⟨_, rfl, y, dx, _, rfl, sF _ _ h1, rfl, _, rfl, y, r2, L, ps, i, rfl, ok, h.same sF, SqT.tle (s4.tle.trans k4) hr2, fun b H6 s6 hb => ⟨sF.trans s6, ?_, b, _, rfl, hb⟩⟩
    rw [s6 _ _ upd_same, List.range_succ, List.map_append, List.map_append]; rfl
  · subst eσ
    have e0 : ((n : Int) - 0).toNat = n := by omega
    refine ⟨_, rfl, q F _ s2 (SqL.of ?_)⟩
    simpa using hF
def sp_length_of (w : World) (K : PySem.W.Frag) : Sp := fun vs H Q E => ∃ (y : Addr) (L : List Nat) (ps : List (Int × Rd)), vs = [.ref y] ∧ PsOk L ps ∧ Tly K H y L ps ∧ ∀ v H', Same H H' → ((v = .non ∧ ∀ t, t < wid ps → tot ps t = 0) ∨ ∃ t : Nat, v = .int (t : Int) ∧ t < wid ps ∧ tot ps t ≠ 0) → Q v H'
abbrev N_length_of : List Str := ["tally", "row", "length"]
theorem sc_length_of : FnScope N_length_of ["tally"] (defScope s_length_of) := ⟨rfl, rfl, rfl, by decide +kernel, rfl, by decide +kernel, by decide +kernel⟩
theorem p_length_of (T : Tx K mg) : Fn P w K mg base 3 "length_of" (sp_length_of w K) := by
  refine fn_mk T.d_length_of T.g_length_of sc_length_of (fun _ _ _ _ _ _ us h => by match us, h with | [_], _ => rfl) (fun vs H Q E ⟨y, L, ps, e, ok, h, q⟩ => by rw [e]; rfl) fun cdv A outer s H vs Q E hr ⟨y, L, ps, e, ok, h, q⟩ => ?_
  subst e
  have hu := hr.units
  have hu1 := hu_of hr
  have nd := sc_length_of.nd
  refine ⟨_, (pss_cons (ps_set (i := 1) nd rfl (Or.inl rfl) (cm0 (pv 0) T.c_Tally T.m_Tally_first_one (p_Tally_first_one T).1 hr))
      (pss_cons (ps_for PassesOwn.never rfl (pi_range1 (by rfl) T.b_range (pa_cons (pe_fld (pv 0) rfl) pa_nil)) (pg_name (i := 2) nd rfl (Or.inl rfl))
        (pss_cons (ps_if (pt_cmpR op_ne (cm (pv 0) T.c_Tally T.m_Tally_ended (p_Tally_ended T).1 hr (pa_cons (pv 1) pa_nil)) pe_int (nomark _)) (pss_one (ps_ret (pv 2))) pss_nil)
        (pss_one (ps_set (i := 1) nd rfl (Or.inl rfl) (cm (pv 0) T.c_Tally T.m_Tally_paced (p_Tally_paced T).1 hr (pa_cons (pv 1) pa_nil))))))
      (pss_one (ps_ret pe_non)))), ?_⟩
  have l6 := sz60
  have wl := ok.wid
  obtain ⟨dx, pv, h1, h2⟩ := id h
  refine ⟨_, rfl, y, dx, _, rfl, h1, rfl, y, L, ps, rfl, ok, h, fun r H1 s1 hr0 => ?_⟩
  refine ⟨_, rfl, y, _, dx, _, _, rfl, s1 _ _ h1, T.c_Tally, T.n_Tally_own_width, rfl, _, rfl, by omega, by omega, ?_⟩
  refine for_it walk_range (fun i σ H' => Same H H' ∧ (∀ t, t < i → tot ps t = 0) ∧ ∃ r o2, σ = [some (.ref y), some (.ref r), o2] ∧ SqT K H' r (rowsV ps i)) ⟨s1, (fun _ h => absurd h (by omega)), r, none, rfl, hr0⟩ (fun _ _ _ _ _ => trivial) (fun i x σ H2 H3 hi ⟨s2, hz, r2, o2, eσ, hr2⟩ yy => ?_) fun σ H2 ⟨s2, hz, r2, o2, eσ, hr2⟩ => ?_
  · obtain ⟨rfl, rfl⟩ := yy
    subst eσ
    have hi' : i < wid ps := by simpa using hi
    refine ⟨_, rfl, y, dx, _, rfl, s2 _ _ h1, rfl, _, rfl, y, r2, L, ps, i, rfl, ok, h.same s2, hr2, fun H4 s4 => ⟨rfl, _, rfl, ?_⟩⟩
    by_cases z : tot ps i = 0
    · rw [z]
      refine iteF ⟨_, rfl, y, dx, _, rfl, (s2.trans s4) _ _ h1, rfl, _, rfl, y, r2, L, ps, i, rfl, ok, h.same (s2.trans s4), SqT.tle s4.tle hr2, fun b H6 s6 hb => ⟨(s2.trans s4).trans s6, fun t ht => ?_, b, _, rfl, hb⟩⟩
      rcases Nat.lt_succ_iff_lt_or_eq.mp ht with h | h
      · exact hz t h
      · rw [h]; exact z
    · rw [show (!decide (V.int (tot ps i) = V.int 0)) = true from by simp [z]]
      refine iteT ⟨_, rfl, q _ _ (s2.trans s4) (.inr ⟨i, by simp, hi', z⟩)⟩
  · subst eσ
    exact q _ _ s2 (.inl ⟨rfl, fun t ht => hz t (by simpa using ht)⟩)
end K39
end Text_K39Q6

section Text_K39X
set_option Elab.async false set_option linter.all false set_option maxRecDepth 100000 set_option maxHeartbeats 4000000
/-! enumerate(a tuple). -/
namespace K39
open PySem PySem.Spec PyProof.Rows L2

theorem enumT_new {v : Value} {o : Obj} {H : Heap → Prop} (B : Begins v o H) :
    Meets (Builtin.«enumerate.__new__» ⟨[.type "enumerate", v], []⟩) (fun _ R s => H s.heap ∧ R (.ok (.ret (.ref (s.heap.push o).objs.size))) { s with heap := (s.heap.push o).push { cls := .type "enumerate", data := .fields #[.none, .bool false, .ref s.heap.objs.size, rawInt 0, .none, .none] } }) :=
  .of_wp fun prog w A R s h => by
    obtain ⟨hp, g, d, tk, os⟩ := s; obtain ⟨h1, h⟩ := h
    have hsub := sub_enumerate
    have q1 : ∀ {A' : Around} {E : Value → Shared → Prop} {Q : Value → Shared → Prop}, Q (.ref hp.objs.size) ⟨hp.push o, g, d, tk, os⟩ → wpAny (model prog w) A' (pyIter v) Q E ⟨hp, g, d, tk, os⟩ := fun q => B.iter prog w _ _ ⟨hp, g, d, tk, os⟩ _ h1 q
    wp_walk using q1
    refine wpAny_stack_any fun st => wpAny_pure ?_
    split
    · rename_i c _ _ _ _ _
      cases (c == Value.type "enumerate")
      · wp_walk using q1
        exact ⟨_, rfl, h⟩
      · wp_walk using q1
        exact ⟨_, rfl, h⟩
    · wp_walk using q1
      exact ⟨_, rfl, h⟩
section
variable {prog : Program} {w : World} {A : Around} {E : Value → Shared → Prop} {s : Shared}
theorem call_enumT {v : Value} {o : Obj} {H : Heap → Prop} {Q : Value → Shared → Prop} (B : Begins v o H) (h1 : H s.heap)
    (h : ∀ h', IsEnum h' (s.heap.objs.size + 1) s.heap.objs.size 0 .none → h'.get? s.heap.objs.size = some o → h'.objs.size = s.heap.objs.size + 2 → (∀ b o, s.heap.get? b = some o → h'.get? b = some o) → Q (.ref (s.heap.objs.size + 1)) { s with heap := h' }) :
    wpAny (model prog w) A (call (.type "enumerate") [v]) Q E s := by
  refine callType_new F.called_enumerate (by decide) (F.typeCall_enumerate_1 _) (F.newCall_enumerate_1 _) (fun obj => F.args_object_init_2 obj _) F.entry_enumerate_new (enumT_new B) ⟨h1, ?_⟩
  have hz : (s.heap.push o).objs.size = s.heap.objs.size + 1 := Heap.size_push ..
  show _ ∧ _
  rw [hz]
  have he : IsEnum ((s.heap.push o).push { cls := .type "enumerate", data := .fields #[.none, .bool false, .ref s.heap.objs.size, rawInt 0, .none, .none] }) (s.heap.objs.size + 1) s.heap.objs.size 0 .none := by
    have := Heap.get?_push_size (s.heap.push o) (o := { cls := .type "enumerate", data := .fields #[.none, .bool false, .ref s.heap.objs.size, rawInt 0, .none, .none] }) rfl
    rw [hz] at this; exact this
  refine ⟨⟨_, he, rfl⟩, h _ he (Heap.get?_push_of_some _ (Heap.get?_push_size _ B.free)) (by rw [Heap.size_push, hz]) fun b o x => Heap.get?_push_of_some _ (Heap.get?_push_of_some _ x)⟩
end
section
variable {prog : Program} {w : World} {A : Around} {E : Value → Shared → Prop} {s : Shared}
theorem enumT_end {e it a : Addr} {i : Nat} {c : Int} {its : Array Value} {old : Value} {Q : Option Value → Shared → Prop} (hh : A.handled = none) (he : IsEnum s.heap e it c old) (hit : s.heap.IsTupleIter it a i) (ht : s.heap.IsTuple a its) (hx : its[i]? = none)
    (hQ : ∀ h', Heap.ExtBut it s.heap h' → Q none { s with heap := h' }) : wpAny (model prog w) A (pyNext (.ref e)) Q E s := by
  have hT : s.TypeIs (.ref e) "enumerate" := ⟨_, he, rfl⟩
  unfold pyNext
  refine wpAny_bind (wpAny_attempt (wpAny_callSpecial?_slot (name := Str.ofString "__next__") hT F.slot_enumerate_next (wpAny_call_entry F.slot_enumerate_next hT F.entry_enumerate_next ?_ (F.args_enumerate_next_1 _))))
  show wpAny _ _ (field (.ref e) 2 >>= _) _ _ _
  refine wpAny_bind (wpAny_field he rfl (x := .ref it) rfl ?_)
  refine wpAny_bind (wpAny_nextOf_tuple_end hh hit ht hx fun h' x he' hx' => ?_)
  obtain ⟨o, ho, hc⟩ := hx'
  refine wpAny_bind (wpAny_isInstance (T := "StopIteration") (b := true) ⟨o, ho, hc⟩ isSubtype_stop ?_)
  exact wpAny_pure (hQ _ he')
end
def IteT (K : PySem.W.Frag) (a : Addr) : It :=
  ⟨fun i H => ∃ (xs : List V) (x : V), SqT K H a xs ∧ xs[i]? = some x, fun i H v H' => ∃ T x, v = .ref T ∧ H T = none ∧ H' = upd H T (.tup [.int (i : Nat), x]) ∧ ∀ xs, SqT K H a xs → xs[i]? = some x, fun i H => ∃ xs : List V, SqT K H a xs ∧ xs.length ≤ i⟩
theorem turn_enumT {P : Program} {w : World} {K : PySem.W.Frag} {elts : List Expr} {kk : Nat} {tpos : Pos} (a e it : Addr) (ha1 : a ≠ e) (ha2 : a ≠ it) :
    Turn P w K (.Tuple elts kk tpos) (IteT K a) [e, it] e (fun i h => (∃ old, IsEnum h e it ((i : Nat) : Int) old) ∧ h.IsTupleIter it a i ∧ e ≠ it) where
  mem := by simp
  obj := fun i h st b hb => by
    obtain ⟨⟨old, he⟩, ⟨o, ho, hc, hd⟩, _⟩ := st
    have e' : b = e ∨ b = it := by simpa using hb
    rcases e' with z | z
    · rw [z]; exact ⟨_, he, fun v q => nomatch q⟩
    · rw [z]; exact ⟨o, ho, fun v q => by rw [hd] at q; cases q⟩
  keep := fun i h h' st k => let ⟨⟨old, he⟩, hi, hne⟩ := st; ⟨⟨old, k e (by simp) _ he⟩, hi.at fun o q => k it (by simp) o q, hne⟩
  item := by
    intro X hP hw hK hc i pins s σ H E I hf st hg
    subst hP hw hK
    obtain ⟨⟨old, he⟩, hit, hne⟩ := st
    obtain ⟨xs, x, hq, hx⟩ := hg
    obtain ⟨its, rv, p, hz⟩ := I.tuple hq
    obtain ⟨u, hu, ru⟩ := rv.get hx
    have hel : e < s.heap.objs.size := Heap.lt_size he
    have hil : it < s.heap.objs.size := by obtain ⟨_, q, _⟩ := hit; exact Heap.lt_size q
    have hi : i < its.toArray.size := by
      have := (List.getElem?_eq_some_iff.mp hu).1
      simpa using this
    refine wpAny_pyNext_enum_itemD (Draws.tuple (A := X.A.in1) (I.ok.hd hc) it a ha2 its.toArray) he ⟨hit, (show s.heap.IsTuple a its.toArray from p)⟩ hi hne (two_off hne (Ne.symm ha1)) fun x' h' tk hp ho hit' hT hsz hk => ?_
    have ex : x' = u := by rw [List.getElem?_toArray, hu] at hp; exact (Option.some.inj hp).symm
    subst ex
    refine ⟨_, rfl, wpAny_letOwnedTupleGo_enum (s := { s with heap := h', toks := tk + 1 }) ho fun h'' he' sb => ?_⟩
    have hT2 : h''.get? s.heap.objs.size = some { cls := .type "tuple", data := .seq #[.int i tk, x'] } := (sb.2 _ (Nat.ne_of_gt hel)).trans hT
    have new : ObjOk X.prog X.w (upd H s.heap.objs.size (.tup [.int (i : Nat), x])) h'' s.heap.objs.size (.tup [.int (i : Nat), x]) := ⟨by show 2 ≤ sizeLine; decide, [.int i tk, x'], .cons ⟨_, rfl⟩ (.cons ru .nil), ⟨_, hT2, rfl, _, rfl⟩⟩
    have I1 : Inv X pins σ (upd H s.heap.objs.size (.tup [.int (i : Nat), x])) { s with heap := h'', toks := tk + 1 } :=
      I.turnedNew (ch := [e, it]) (fun b ob hb q => (sb.2 b (fun z => hb (by simp [z]))).trans (hk b ob (fun z => hb (by simp [z])) (fun z => hb (by simp [z])) q)) hf (Nat.le_refl _) new
    refine ⟨.ref s.heap.objs.size, _, I1, rfl, ⟨_, x, rfl, I.hok.fresh (Nat.le_refl _), rfl, fun ys hy => by rw [I.tuple_inj hy hq]; exact hx⟩, ⟨⟨x', ?_⟩, hit'.1.at fun o q => (sb.2 it (Ne.symm hne)).trans q, hne⟩, fun b hb => ?_⟩
    · have e1 : ((i + 1 : Nat) : Int) = (i : Int) + 1 := by omega
      rw [e1]; exact he'
    · have hb' : b < s.heap.objs.size := by
        have e' : b = e ∨ b = it := by simpa using hb
        rcases e' with z | z
        · rw [z]; exact hel
        · rw [z]; exact hil
      rw [upd_ne (Nat.ne_of_lt hb')]
      exact (hf b hb).1
  done := by
    intro X hP hw hK hc i pins s σ H E I hf st hg
    subst hP hw hK
    obtain ⟨⟨old, he⟩, hit, hne⟩ := st
    obtain ⟨xs, hq, hx⟩ := hg
    obtain ⟨its, rv, p, hz⟩ := I.tuple hq
    obtain ⟨f0, f1, f2, f3, f4, f5⟩ := hf it (by simp)
    have hl := rv.length
    exact enumT_end (I.ok.hd hc) he hit (show s.heap.IsTuple a its.toArray from p) (by simp; omega) fun h' eb => ⟨rfl, I.turned (t' := s.toks) (fun b o hb q => eb b o hb q) f0 f1 f3 f4 f5⟩
  self := fun A i s Q E st h => let ⟨⟨_, he⟩, _⟩ := st; wpAny_pyIter_enum he h
def iEnumT (K : PySem.W.Frag) (ta : TA) : TI := fun σ H R => ta σ H fun vs H1 => ∃ a xs, vs = [.ref a] ∧ SqT K H1 a xs ∧ R (IteT K a) H1
theorem pi_enumT {X : Cx} {e : Expr} {ta : TA} {p pos tpos : Pos} {elts : List Expr} {kk : Nat} (hg : Gl X "enumerate") (hm : X.mg "enumerate" = none) (ha : PA X [e] ta) (hs : starEach [e] X.env = [(false, eval e X.env)] := by rfl) :
    PI X (.Tuple elts kk tpos) (.Call (.Name "enumerate" p) [e] [] pos) (iEnumT X.K ta) := by
  refine ⟨fun pins s σ H R I h => ?_⟩
  refine Call_ (ld_blt I hg hm boot_enumerate (PyProof.Rows.callWith_type1 (thn (ha.run pos pins s σ H _ I h) fun us s1 ⟨vs, H1, I1, r1, q1⟩ => ?_) hs rfl))
  obtain ⟨a, xs, ex, hq, q⟩ := q1
  subst ex
  obtain rfl := Vals.ref1 r1
  obtain ⟨its, rv, p', hz⟩ := I1.tuple hq
  refine call_enumT (begins_tuple a its.toArray) (show s1.heap.IsTuple a its.toArray from p') fun h' he hit hsz hk => wpAny_pyIter_enum he ?_
  have I2 : Inv X pins σ H1 { s1 with heap := h' } := I1.kept (t' := s1.toks) hk
  have la : a < s1.heap.objs.size := p'.lt
  refine ⟨s1.heap.objs.size + 1, [s1.heap.objs.size + 1, s1.heap.objs.size], _, _, H1, rfl, I2, turn_enumT a (s1.heap.objs.size + 1) s1.heap.objs.size (Nat.ne_of_lt (Nat.lt_succ_of_lt la)) (Nat.ne_of_lt la), ⟨⟨.none, he⟩, ⟨_, hit, rfl, rfl⟩, Nat.succ_ne_self _⟩, fun b hb => ?_, q⟩
  have e' : b = s1.heap.objs.size + 1 ∨ b = s1.heap.objs.size := by simpa using hb
  have hle : s1.heap.objs.size ≤ b := by
    rcases e' with z | z
    · rw [z]; exact Nat.le_add_right _ _
    · rw [z]; exact Nat.le_refl _
  exact I1.fpOk hle (I1.hok.fresh hle)
theorem walk_enumT {K : PySem.W.Frag} {a : Addr} {xs : List V} : Walk (IteT K a) xs.length (fun H => SqT K H a xs) (YPair (fun i => some (.int (i : Nat))) (fun i => xs[i]?)) := by
  refine ⟨fun i _ hi q => ⟨xs, xs[i], q, by simp [hi]⟩, fun _ q => ⟨xs, q, Nat.le_refl _⟩, fun i H v H' _ q y => ?_⟩
  obtain ⟨T, x, e1, e2, e3, e4⟩ := y
  exact ⟨T, .int (i : Nat), x, e1, e2, e3, rfl, e4 xs q⟩
end K39
end Text_K39X

section Text_K39Q7
set_option Elab.async false set_option linter.all false set_option maxRecDepth 100000 set_option maxHeartbeats 4000000
/-! Twins: pairs of states. -/
namespace K39
open PySem PySem.Spec PyProof.Rows L2
variable {P : Program} {w : World} {K : PySem.W.Frag} {mg : Str → Option Value} {base : Heap}
theorem cutVn (xs : List V) (n : Nat) : cutV xs (some (n : Int)) none = xs.drop n := by
  unfold cutV
  rw [HT.sIx_nat, HT.sIx_none]
  by_cases h : n ≤ xs.length
  · rw [Nat.min_eq_left h, List.take_of_length_le (by rw [List.length_drop]; omega)]
  · rw [Nat.min_eq_right (by omega), List.drop_eq_nil_of_le (Nat.le_refl _), List.drop_eq_nil_of_le (by omega)]; simp
/-- each with itself and those behind it -/
def prsI (l : List Nat) : List (Nat × Nat) := l.zipIdx.flatMap fun p => (l.drop p.2).map fun q => (p.1, q)
theorem prsI_len (l : List Nat) : (prsI l).length ≤ l.length * l.length := by
  unfold prsI
  rw [List.length_flatMap]
  have : ∀ m : List (Nat × Nat), (m.map fun p => ((l.drop p.2).map fun q => (p.1, q)).length).sum ≤ m.length * l.length := fun m => by
    induction m with
    | nil => simp
    | cons p m ih =>
      rw [List.map_cons, List.sum_cons, List.length_cons, Nat.succ_mul]
      have : ((l.drop p.2).map fun q => (p.1, q)).length ≤ l.length := by simp
      omega
  have h := this l.zipIdx
  rwa [List.length_zipIdx] at h
def sp_pairs_among (w : World) (K : PySem.W.Frag) : Sp := fun vs H Q E => ∃ (v : V) (l : List Nat), vs = [v] ∧ Dt K H v (eNs l) ∧ l.length ≤ 60 ∧ ∀ b ys H', Same H H' → H' b = some (.lst ys) → DtAll K H' ys ((prsI l).map eP) → Q (.ref b) H'
abbrev N_pairs_among : List Str := ["states", "at", "one", "other"]
theorem sc_pairs_among : FnScope N_pairs_among ["states"] (defScope s_pairs_among) := ⟨rfl, rfl, rfl, by decide +kernel, rfl, by decide +kernel, by decide +kernel⟩
theorem p_pairs_among (T : Tx K mg) : Fn P w K mg base 1 "pairs_among" (sp_pairs_among w K) := by
  refine fn_mk T.d_pairs_among T.g_pairs_among sc_pairs_among (fun _ _ _ _ _ _ us h => by match us, h with | [_], _ => rfl) (fun vs H Q E ⟨v, l, e, hd, hl, q⟩ => by rw [e]; rfl) fun cdv A outer s H vs Q E hr ⟨v, l, e, hd, hl, q⟩ => ?_
  subst e
  have hu := hr.units
  have hu1 := hu_of hr
  have nd := sc_pairs_among.nd
  refine ⟨_, (pss_one (ps_ret (pe_lc2 (own := [("at", 1), ("one", 2), ("other", 3)]) (vs1 := [3]) rfl nd (pi_enumT (by rfl) T.b_enumerate (pa_cons (pv 0) pa_nil)) (blkOk_by (N := N_pairs_among) (sc := defScope s_pairs_among) (by decide +kernel)) (by decide) (fun _ _ _ _ _ => (show PG _ _ (gTup K 2 (gCons (gName 1) (gCons (gName 2) gNil))) from pg_tup rfl (pgs_cons (pg_name (i := 1) nd rfl (Or.inl rfl) (Or.inr rfl)) (pgs_cons (pg_name (i := 2) nd rfl (Or.inl rfl) (Or.inr rfl)) pgs_nil)))) (fun _ _ _ _ _ => pts_nil) (fun _ _ _ _ _ => (show PI _ _ _ (iTup K _) from pi_tup (pe_slice (show SlR _ (rSlA K) from sl_tupA) (pv 0) (po_some (pv 1)) po_none))) (fun _ _ _ _ _ => (pg_name (i := 3) nd rfl (Or.inl rfl) (Or.inr rfl))) (fun _ _ _ _ _ => pts_nil) (fun _ _ _ _ _ => (pe_tup (pa_cons (pv 2) (pa_cons (pv 3) pa_nil))))))), ?_⟩
  have l6 := sz60
  obtain ⟨a, rfl, hs⟩ := hd.ns
  have lm : l.length * l.length ≤ 60 * 60 := Nat.mul_le_mul hl hl
  have lp := prsI_len l
  refine ⟨_, rfl, a, _, rfl, hs, fun D hD => ?_⟩
  refine comp2_it (walk_enumT (xs := l.map fun n : Nat => V.int (n : Int))) grows_pair l.zipIdx (by simp) (fun p => (l.drop p.2).map fun q => (p.1, q)) (fun z y H => Dt K H y (eP z)) (by show (prsI l).length < _; omega) (fun a y H H' k h => h.to k) hD (fun H' sm => SqT.tle sm.tle hs) (fun i x p H' H2 hpi sm y Nx acc hacc hlen hnx => ?_) fun zs H5 sm hy pa => ?_
  · obtain ⟨t, c, d, rfl, ht, rfl, e1, e2⟩ := y
    rw [List.getElem?_zipIdx] at hpi
    obtain ⟨p0, hp0, rfl⟩ := Option.map_eq_some_iff.mp hpi
    obtain rfl := Option.some.inj e1
    have e3 : (l.map fun n : Nat => V.int (n : Int))[i]? = some d := e2
    rw [List.getElem?_map, hp0] at e3
    obtain rfl := Option.some.inj e3
    have sT : Same H' (upd H' t (.tup [.int (i : Nat), .int (p0 : Int)])) := Same.new ht
    refine tg2 (SqT.of upd_same) ⟨rfl, tYes_if ?_⟩
    refine ⟨_, rfl, _, rfl, _, rfl, ?_⟩
    dsimp only [tNoPart]
    refine slA (SqT.tle (sm.trans sT).tle hs) fun b H3 s3 hb => ?_
    rw [Nat.zero_add] at *
    rw [cutVn] at hb
    refine ⟨b, rfl, ⟨_, hb⟩, ?_⟩
    have s4 := sT.trans s3
    have hacc4 := s3 _ _ hacc
    refine in_it (walk_tup (xs := (l.map fun n : Nat => V.int (n : Int)).drop i)) grows_at ((l.drop i).map fun q => (p0, q)) (by simp) (fun _ => true) (fun z y H => Dt K H y (eP z)) (fun a y H H' k h => h.to k) hacc4 (by simp at hlen ⊢; omega) (fun H' sx => SqT.tle (sx.to hacc4) hb) (fun j x q0 H' H3 hq sx y => turn_name rfl fun C c2 => ?_) fun zs H5 sx h5 p5 => ?_
    · obtain ⟨rfl, hx⟩ := y
      rw [← List.map_drop, List.getElem?_map] at hx
      rw [List.getElem?_map] at hq
      obtain ⟨q1, hq1, rfl⟩ := Option.map_eq_some_iff.mp hq
      rw [hq1] at hx
      obtain rfl := Option.some.inj hx
      exact ⟨_, rfl, _, rfl, by show 2 ≤ sizeLine; omega, fun t nt => c2 _ _ (Same.new nt) (Dt.ofPrs (SqT.of upd_same))⟩
    · rw [filt] at p5
      exact hnx zs H5 (s3.x.trans sx) h5 p5
  · have pd := DtAll.of (K := K) eP pa
    exact q D zs H5 sm hy pd
def ordP (p q : Nat) : Nat × Nat := if p ≤ q then (p, q) else (q, p)
def sp_ordered (w : World) (K : PySem.W.Frag) : Sp := fun vs H Q E => ∃ p q : Nat, vs = [.int (p : Int), .int (q : Int)] ∧ ∀ b H', Same H H' → Dt K H' (.ref b) (eP (ordP p q)) → Q (.ref b) H'
abbrev N_ordered : List Str := ["one", "other"]
theorem sc_ordered : FnScope N_ordered ["one", "other"] (defScope s_ordered) := ⟨rfl, rfl, rfl, by decide +kernel, rfl, by decide +kernel, by decide +kernel⟩
theorem p_ordered (T : Tx K mg) : Fn P w K mg base 1 "ordered" (sp_ordered w K) := by
  refine fn_mk T.d_ordered T.g_ordered sc_ordered (fun _ _ _ _ _ _ us h => by match us, h with | [_, _], _ => rfl) (fun vs H Q E ⟨p, q', e, q⟩ => by rw [e]; rfl) fun cdv A outer s H vs Q E hr ⟨p, q', e, q⟩ => ?_
  subst e
  have hu := hr.units
  have hu1 := hu_of hr
  have nd := sc_ordered.nd
  refine ⟨_, (pss_one (ps_ret (pe_ifExp (pt_cmpR op_le (pv 0) (pv 1) (nomark _)) (pe_tup (pa_cons (pv 0) (pa_cons (pv 1) pa_nil))) (pe_tup (pa_cons (pv 1) (pa_cons (pv 0) pa_nil)))))), ?_⟩
  have l6 := sz60
  refine ⟨_, rfl, _, rfl, _, _, rfl, rfl, ⟨decide ((p : Int) ≤ q'), rfl, ?_⟩⟩
  unfold ordP at q
  by_cases h : p ≤ q'
  · rw [decide_eq_true (by omega)]
    rw [if_pos h] at q
    exact iteT ⟨_, rfl, _, rfl, by show 2 ≤ sizeLine; omega, fun t nt => q t _ (Same.new nt) (Dt.ofPrs (SqT.of upd_same))⟩
  · rw [decide_eq_false (by omega)]
    rw [if_neg h] at q
    exact iteF ⟨_, rfl, _, rfl, by show 2 ≤ sizeLine; omega, fun t nt => q t _ (Same.new nt) (Dt.ofPrs (SqT.of upd_same))⟩
/-- a Twins at y -/
abbrev twFs (rd fa b : Addr) : List (Str × V) := [("own_reader", .ref rd), ("own_far", .ref fa), ("own_backs", .ref b)]
def Twn (w : World) (K : PySem.W.Frag) (H : Hp) (y rd fa b : Addr) (R : Rd) (kvs : List (Nd × V)) : Prop := ∃ dx, H y = some (.ins (He.ga K "Twins") dx (twFs rd fa b)) ∧ Rdr K H rd R ∧ Rdr K H b R.flip ∧ ND w K H cD fa kvs
theorem Twn.same {H H' : Hp} {y rd fa b : Addr} {R : Rd} {kvs : List (Nd × V)} (h : Twn w K H y rd fa b R kvs) (s : Same H H') : Twn w K H' y rd fa b R kvs := by
  obtain ⟨dx, h1, h2, h3, h4⟩ := h
  exact ⟨dx, s _ _ h1, h2.same s, h3.same s, h4.same s⟩
def lastNd (R : Rd) : List Nd := (prsI R.ls).map fun p => (p.1, p.2, true)
def begNd (R : Rd) : List Nd := (prsI R.fs).map fun p => (p.1, p.2, decide (p.1 ≠ p.2))
def sp_Twins_last_ones (w : World) (K : PySem.W.Frag) : Sp := fun vs H Q E => ∃ (y rd fa b : Addr) (R : Rd) (kvs : List (Nd × V)), vs = [.ref y] ∧ R.ls.length ≤ 60 ∧ Twn w K H y rd fa b R kvs ∧ ∀ c ys H', Same H H' → H' c = some (.lst ys) → DtAll K H' ys ((lastNd R).map eD) → Q (.ref c) H'
abbrev N_Twins_last_ones : List Str := ["self", "one", "other"]
theorem sc_Twins_last_ones : FnScope N_Twins_last_ones ["self"] (defScope s_Twins_last_ones) := ⟨rfl, rfl, rfl, by decide +kernel, rfl, by decide +kernel, by decide +kernel⟩
theorem p_Twins_last_ones (T : Tx K mg) : FnR P w K mg base CX0 2 (He.ma K (He.ga K "Twins") "last_ones") (sp_Twins_last_ones w K) ∧ PySem.W.keepIn K (.ref (He.ma K (He.ga K "Twins") "last_ones")) = true := by
  refine fnr_mk T.d_Twins_last_ones sc_Twins_last_ones (fun _ _ _ _ _ _ us h => by match us, h with | [_], _ => rfl) (fun vs H Q E ⟨y, rd, fa, b, R, kvs, e, hl, h, q⟩ => by rw [e]; rfl) fun cdv A outer s H vs Q E hr ⟨y, rd, fa, b, R, kvs, e, hl, h, q⟩ => ?_
  subst e
  have hu := hr.units
  have hu1 := hu_of hr
  have nd := sc_Twins_last_ones.nd
  refine ⟨_, (pss_one (ps_ret (pe_lc (own := [("one", 1), ("other", 2)]) rfl nd (pi_list (cg (p_pairs_among T) hr (pa_cons (pe_fld (pe_fld (pv 0) rfl) rfl) pa_nil))) (blkOk_by (N := N_Twins_last_ones) (sc := defScope s_Twins_last_ones) (by decide +kernel)) (fun _ _ _ _ _ => (show PG _ _ (gTup K 2 (gCons (gName 1) (gCons (gName 2) gNil))) from pg_tup rfl (pgs_cons (pg_name (i := 1) nd rfl (Or.inl rfl) (Or.inr rfl)) (pgs_cons (pg_name (i := 2) nd rfl (Or.inl rfl) (Or.inr rfl)) pgs_nil)))) (fun _ _ _ _ _ => pts_nil) (fun _ _ _ _ _ => (pe_tup (pa_cons (pv 1) (pa_cons (pv 2) (pa_cons pe_bl pa_nil)))))))), ?_⟩
  have l6 := sz60
  have lm : R.ls.length * R.ls.length ≤ 60 * 60 := Nat.mul_le_mul hl hl
  have lp := prsI_len R.ls
  obtain ⟨dx, h1, h2, h3, h4⟩ := id h
  obtain ⟨dr, sl, fv, lv, av, dm, r1, r2, r3, _⟩ := id h2
  refine ⟨_, rfl, y, _, dx, _, _, rfl, h1, T.c_Twins, T.n_Twins_own_reader, rfl, rd, _, dr, _, _, rfl, r1, T.c_Reader, T.n_Reader_own_lasts, rfl, lv, R.ls, rfl, r3, hl, fun c ys H1 s1 hc dy => ?_⟩
  refine ⟨c, rfl, ⟨_, SqL.of hc⟩, fun D hD => ?_⟩
  have ly : ys.length = (prsI R.ls).length := by rw [dy.length, List.length_map]
  refine comp_it (walk_list (xs := ys)) grows_at (prsI R.ls) ly.symm (by omega) (fun _ => true) (fun p y H => Dt K H y (eD (p.1, p.2, true))) (fun a y H H' k h => h.to k) hD (fun H' sm => SqL.of (sm _ _ hc)) (fun i x p H' H3 hp sm y => ?_) fun zs H5 sm hy pa => ?_
  · obtain ⟨rfl, hx⟩ := y
    obtain ⟨d, hd1, hd2⟩ := dy.get' hx
    rw [List.getElem?_map, hp] at hd1
    obtain rfl := Option.some.inj hd1
    obtain ⟨t, rfl, ht⟩ := (hd2.same sm).prs
    exact turn_2 ht rfl fun C c2 => ⟨_, rfl, _, rfl, by show 3 ≤ sizeLine; omega, fun t nt => c2 _ _ (Same.new nt) (Dt.ofNd (a := (p.1, p.2, true)) (SqT.of upd_same))⟩
  · rw [filt] at pa
    have pd := DtAll.of (K := K) (fun p : Nat × Nat => eD (p.1, p.2, true)) pa
    refine q D zs H5 (s1.trans sm) hy ?_
    unfold lastNd; rw [List.map_map]; exact pd
def sp_Twins_begun (w : World) (K : PySem.W.Frag) : Sp := fun vs H Q E => ∃ (y rd fa b : Addr) (R : Rd) (kvs : List (Nd × V)), vs = [.ref y] ∧ R.fs.length ≤ 60 ∧ Twn w K H y rd fa b R kvs ∧ ∀ c ys H', Same H H' → H' c = some (.lst ys) → DtAll K H' ys ((begNd R).map eD) → Q (.ref c) H'
abbrev N_Twins_begun : List Str := ["self", "one", "other"]
theorem sc_Twins_begun : FnScope N_Twins_begun ["self"] (defScope s_Twins_begun) := ⟨rfl, rfl, rfl, by decide +kernel, rfl, by decide +kernel, by decide +kernel⟩
theorem p_Twins_begun (T : Tx K mg) : FnR P w K mg base CX0 2 (He.ma K (He.ga K "Twins") "begun") (sp_Twins_begun w K) ∧ PySem.W.keepIn K (.ref (He.ma K (He.ga K "Twins") "begun")) = true := by
  refine fnr_mk T.d_Twins_begun sc_Twins_begun (fun _ _ _ _ _ _ us h => by match us, h with | [_], _ => rfl) (fun vs H Q E ⟨y, rd, fa, b, R, kvs, e, hl, h, q⟩ => by rw [e]; rfl) fun cdv A outer s H vs Q E hr ⟨y, rd, fa, b, R, kvs, e, hl, h, q⟩ => ?_
  subst e
  have hu := hr.units
  have hu1 := hu_of hr
  have nd := sc_Twins_begun.nd
  refine ⟨_, (pss_one (ps_ret (pe_lc (own := [("one", 1), ("other", 2)]) rfl nd (pi_list (cg (p_pairs_among T) hr (pa_cons (pe_fld (pe_fld (pv 0) rfl) rfl) pa_nil))) (blkOk_by (N := N_Twins_begun) (sc := defScope s_Twins_begun) (by decide +kernel)) (fun _ _ _ _ _ => (show PG _ _ (gTup K 2 (gCons (gName 1) (gCons (gName 2) gNil))) from pg_tup rfl (pgs_cons (pg_name (i := 1) nd rfl (Or.inl rfl) (Or.inr rfl)) (pgs_cons (pg_name (i := 2) nd rfl (Or.inl rfl) (Or.inr rfl)) pgs_nil)))) (fun _ _ _ _ _ => pts_nil) (fun _ _ _ _ _ => (pe_tup (pa_cons (pv 1) (pa_cons (pv 2) (pa_cons (pe_cmpR op_ne (pv 1) (pv 2) (nomark _)) pa_nil)))))))), ?_⟩
  have l6 := sz60
  have lm : R.fs.length * R.fs.length ≤ 60 * 60 := Nat.mul_le_mul hl hl
  have lp := prsI_len R.fs
  obtain ⟨dx, h1, h2, h3, h4⟩ := id h
  obtain ⟨dr, sl, fv, lv, av, dm, r1, r2, r3, _⟩ := id h2
  refine ⟨_, rfl, y, _, dx, _, _, rfl, h1, T.c_Twins, T.n_Twins_own_reader, rfl, rd, _, dr, _, _, rfl, r1, T.c_Reader, T.n_Reader_own_firsts, rfl, fv, R.fs, rfl, r2, hl, fun c ys H1 s1 hc dy => ?_⟩
  refine ⟨c, rfl, ⟨_, SqL.of hc⟩, fun D hD => ?_⟩
  have ly : ys.length = (prsI R.fs).length := by rw [dy.length, List.length_map]
  refine comp_it (walk_list (xs := ys)) grows_at (prsI R.fs) ly.symm (by omega) (fun _ => true) (fun p y H => Dt K H y (eD (p.1, p.2, decide (p.1 ≠ p.2)))) (fun a y H H' k h => h.to k) hD (fun H' sm => SqL.of (sm _ _ hc)) (fun i x p H' H3 hp sm y => ?_) fun zs H5 sm hy pa => ?_
  · obtain ⟨rfl, hx⟩ := y
    obtain ⟨d, hd1, hd2⟩ := dy.get' hx
    rw [List.getElem?_map, hp] at hd1
    obtain rfl := Option.some.inj hd1
    obtain ⟨t, rfl, ht⟩ := (hd2.same sm).prs
    refine turn_2 ht rfl fun C c2 => ⟨_, rfl, _, rfl, _, rfl, _, rfl, rfl, by show 3 ≤ sizeLine; omega, fun t nt => c2 _ _ (Same.new nt) (Dt.ofNd (a := (p.1, p.2, decide (p.1 ≠ p.2))) (SqT.of ?_))⟩
    rw [upd_same]
    by_cases z : p.1 = p.2
    · simp [z]
    · simp [z]; omega
  · rw [filt] at pa
    have pd := DtAll.of (K := K) (fun p : Nat × Nat => eD (p.1, p.2, decide (p.1 ≠ p.2))) pa
    refine q D zs H5 (s1.trans sm) hy ?_
    unfold begNd; rw [List.map_map]; exact pd
def sp_Twins_far (w : World) (K : PySem.W.Frag) : Sp := fun vs H Q E => ∃ (y rd fa b c : Addr) (R : Rd) (kvs : List (Nd × V)) (ys : List V) (ks : List Nd), vs = [.ref y, .ref c] ∧ ks.length ≤ 4000 ∧ Twn w K H y rd fa b R kvs ∧ H c = some (.lst ys) ∧ DtAll K H ys (ks.map eD) ∧ (∀ k ∈ ks, valV kvs k = none) ∧ ∀ H', Same H H' → Q .non H'
abbrev N_Twins_far : List Str := ["self", "nodes", "node"]
theorem sc_Twins_far : FnScope N_Twins_far ["self", "nodes"] (defScope s_Twins_far) := ⟨rfl, rfl, rfl, by decide +kernel, rfl, by decide +kernel, by decide +kernel⟩
theorem p_Twins_far (T : Tx K mg) : FnR P w K mg base CX0 1 (He.ma K (He.ga K "Twins") "far") (sp_Twins_far w K) ∧ PySem.W.keepIn K (.ref (He.ma K (He.ga K "Twins") "far")) = true := by
  refine fnr_mk T.d_Twins_far sc_Twins_far (fun _ _ _ _ _ _ us h => by match us, h with | [_, _], _ => rfl) (fun vs H Q E ⟨y, rd, fa, b, c, R, kvs, ys, ks, e, hl, h, hc, dy, hk, q⟩ => by rw [e]; rfl) fun cdv A outer s H vs Q E hr ⟨y, rd, fa, b, c, R, kvs, ys, ks, e, hl, h, hc, dy, hk, q⟩ => ?_
  subst e
  have hu := hr.units
  have hu1 := hu_of hr
  have nd := sc_Twins_far.nd
  refine ⟨_, (pss_one (ps_ret (pe_callBK (cr_min0 rfl hu) (by rfl) T.b_min (by decide +kernel) (pa_cons (pe_lc (own := [("node", 2)]) rfl nd (pi_list (pv 1)) (blkOk_by (N := N_Twins_far) (sc := defScope s_Twins_far) (by decide +kernel)) (fun _ _ _ _ _ => (pg_name (i := 2) nd rfl (Or.inl rfl) (Or.inr rfl))) (fun _ _ _ _ _ => (pts_one (pt_cmpR (show OpR _ _ (rNdIn w K cD false) from (op_ndIn hu cD)) (pv 2) (show PE _ _ (tFld K _ "own_far") from (pe_fld (pv 0) rfl)) rfl))) (fun _ _ _ _ _ => (show PE _ _ (tNdGet w K cD _ _) from (pe_ndGet hu cD (show PE _ _ (tFld K _ "own_far") from (pe_fld (pv 0) rfl)) (pv 2) (fun _ _ => rfl))))) pa_nil) (pk_cons pe_non pk_nil)))), ?_⟩
  have l6 := sz60
  obtain ⟨dx, h1, h2, h3, h4⟩ := id h
  refine ⟨_, rfl, c, rfl, ⟨_, SqL.of hc⟩, fun D hD => ?_⟩
  have ly : ys.length = ks.length := by rw [dy.length, List.length_map]
  refine comp_it (walk_list (xs := ys)) grows_at ks ly.symm (by omega) (fun _ => false) (fun p y H => True) (fun a y H H' k h => h) hD (fun H' sm => SqL.of (sm _ _ hc)) (fun i x p H' H3 hp sm y => ?_) fun zs H5 sm hy pa => ?_
  · obtain ⟨rfl, hx⟩ := y
    obtain ⟨d, hd1, hd2⟩ := dy.get' hx
    rw [List.getElem?_map, hp] at hd1
    obtain rfl := Option.some.inj hd1
    refine turn_nameT rfl fun C1 C2 c1 _ => ⟨_, rfl, _, rfl, y, _, dx, _, _, rfl, sm _ _ h1, T.c_Twins, T.n_Twins_own_far, rfl, p, fa, kvs, hd2.same sm, rfl, h4.same sm, _, rfl, ?_⟩
    rw [hk p (List.mem_of_getElem? hp)]
    exact iteF (c1 rfl _ (Same.refl _))
  · have e0 : ks.filter (fun _ => false) = [] := by simp
    rw [e0] at pa
    cases pa
    exact ⟨D, rfl, SqL.of hy, rfl, q _ sm⟩
end K39
end Text_K39Q7

section Text_K39Q8
set_option Elab.async false set_option linter.all false set_option maxRecDepth 100000 set_option maxHeartbeats 4000000
/-! Twins: what leads to a pair. -/
namespace K39
open PySem PySem.Spec PyProof.Rows L2
variable {P : Program} {w : World} {K : PySem.W.Frag} {mg : Str → Option Value} {base : Heap}
def prsM (B : Rd) (k : Nd) (c : Nat) : List (Nat × Nat) := (mvs B.ar c k.1).flatMap fun f => (mvs B.ar c k.2.1).map fun g => ordP f g
def backsC (B : Rd) (k : Nd) (c : Nat) : List Nd := (if k.2.2 then (prsM B k c).map fun z => (z.1, z.2, true) else []) ++ (if k.1 ≠ k.2.1 ∨ k.2.2 = false then ((prsM B k c).filter fun z => z.1 == z.2).map fun z => (z.1, z.2, false) else [])
def backs (B : Rd) (k : Nd) : List Nd := B.L.flatMap (backsC B k)
theorem prsM_len {B : Rd} {k : Nd} {c m : Nat} (hm : ∀ c p, (mvs B.ar c p).length ≤ m) : (prsM B k c).length ≤ m * m := by
  unfold prsM
  rw [List.length_flatMap]
  have : ∀ l : List Nat, (l.map fun f => ((mvs B.ar c k.2.1).map fun g => ordP f g).length).sum ≤ l.length * m := fun l => by
    induction l with
    | nil => simp
    | cons p l ih =>
      rw [List.map_cons, List.sum_cons, List.length_cons, Nat.succ_mul]
      have : ((mvs B.ar c k.2.1).map fun q => ordP p q).length ≤ m := by rw [List.length_map]; exact hm _ _
      omega
  exact Nat.le_trans (this _) (Nat.mul_le_mul_right _ (hm _ _))
theorem backsC_len {B : Rd} {k : Nd} {c m : Nat} (hm : ∀ c p, (mvs B.ar c p).length ≤ m) : (backsC B k c).length ≤ 2 * (m * m) := by
  have h := prsM_len (k := k) (c := c) hm
  have h2 : ((prsM B k c).filter fun z => z.1 == z.2).length ≤ (prsM B k c).length := List.length_filter_le ..
  unfold backsC
  rw [List.length_append]
  split <;> split <;> simp <;> omega
def sp_Twins_backs (w : World) (K : PySem.W.Frag) : Sp := fun vs H Q E => ∃ (y rd fa b : Addr) (R : Rd) (kvs : List (Nd × V)) (v : V) (k : Nd), vs = [.ref y, v] ∧ Dt K H v (eD k) ∧ k.1 < R.n ∧ k.2.1 < R.n ∧ (∀ c p, (mvs R.flip.ar c p).length ≤ 6) ∧ R.L.length ≤ 4 ∧ Twn w K H y rd fa b R kvs ∧
   ∀ c ys H', Same H H' → H c = none → H' c = some (.lst ys) → DtAll K H' ys ((backs R.flip k).map eD) → Q (.ref c) H'
abbrev N_Twins_backs : List Str := ["self", "node", "one", "other", "was_unlike", "found", "moves", "pairs", "first", "second", "pair"]
theorem sc_Twins_backs : FnScope N_Twins_backs ["self", "node"] (defScope s_Twins_backs) := ⟨rfl, rfl, rfl, by decide +kernel, rfl, by decide +kernel, by decide +kernel⟩
theorem p_Twins_backs (T : Tx K mg) : FnR P w K mg base CX0 2 (He.ma K (He.ga K "Twins") "backs") (sp_Twins_backs w K) ∧ PySem.W.keepIn K (.ref (He.ma K (He.ga K "Twins") "backs")) = true := by
  refine fnr_mk T.d_Twins_backs sc_Twins_backs (fun _ _ _ _ _ _ us h => by match us, h with | [_, _], _ => rfl) (fun vs H Q E ⟨y, rd, fa, b, R, kvs, v, k, e, dk, k1, k2, hm, hL, h, q⟩ => by rw [e]; rfl) fun cdv A outer s H vs Q E hr ⟨y, rd, fa, b, R, kvs, v, k, e, dk, k1, k2, hm, hL, h, q⟩ => ?_
  subst e
  have hu := hr.units
  have hu1 := hu_of hr
  have nd := sc_Twins_backs.nd
  refine ⟨_, (pss_cons (ps_asg (pv 1) (pg_tup rfl (pgs_cons (pg_name (i := 2) nd rfl (Or.inl rfl)) (pgs_cons (pg_name (i := 3) nd rfl (Or.inr rfl)) (pgs_cons (pg_name (i := 4) nd rfl (Or.inl rfl)) pgs_nil)))))
      (pss_cons (ps_set (i := 5) nd rfl (Or.inl rfl) (pe_lst pa_nil))
      (pss_cons (ps_lock (ps_for PassesOwn.never rfl (pi_values (pe_fld (pe_fld (pv 0) rfl) rfl)) (pg_name (i := 6) nd rfl (Or.inr rfl))
        (pss_cons (ps_setLc2 (i := 7) (own := [("first", 8), ("second", 9)]) (vs1 := [9]) rfl nd rfl rfl (sw_true rfl rfl rfl (by decide +kernel)) (pi_tup (pe_ix ix_tup (pv 6) (pv 2) (fun _ _ => rfl))) (blkOk_by (N := N_Twins_backs) (sc := defScope s_Twins_backs) (by decide +kernel)) (by decide) (fun _ _ _ _ _ => (pg_name (i := 8) nd rfl (Or.inl rfl) (Or.inr rfl))) (fun _ _ _ _ _ => pts_nil) (fun _ _ _ _ _ => (show PI _ _ _ (iTup K _) from pi_tup (pe_ix (show IxR _ (rIxT K) from ix_tup) (pv 6) (pv 3) (fun _ _ => rfl)))) (fun _ _ _ _ _ => (pg_name (i := 9) nd rfl (Or.inl rfl) (Or.inr rfl))) (fun _ _ _ _ _ => pts_nil) (fun _ _ _ _ _ => (cg (p_ordered T) hr (pa_cons (pv 8) (pa_cons (pv 9) pa_nil)))))
        (pss_cons (ps_if (pt_val (pv 4)) (pss_one (ps_expr (pe_bm PySem.F.plainAttrs_list PySem.F.slot_list_extend PySem.F.type_list_extend mt_extend (pv 5) (pa_cons (pe_lc (own := [("pair", 10)]) rfl nd (pi_list (pv 7)) (blkOk_by (N := N_Twins_backs) (sc := defScope s_Twins_backs) (by decide +kernel)) (fun _ _ _ _ _ => (pg_name (i := 10) nd rfl (Or.inl rfl) (Or.inr rfl))) (fun _ _ _ _ _ => pts_nil) (fun _ _ _ _ _ => (pe_tup (show PA _ _ (tStar K _ _) from pa_star (pv 10) (pa_cons pe_bl pa_nil))))) pa_nil)))) pss_nil)
        (pss_one (ps_if (PW.pt (pw_or (pt_cmpR op_ne (pv 2) (pv 3) (nomark _)) (pw_or1 (pt_not (pt_val (pv 4)))))) (pss_one (ps_expr (pe_bm PySem.F.plainAttrs_list PySem.F.slot_list_extend PySem.F.type_list_extend mt_extend (pv 5) (pa_cons (pe_lc (own := [("pair", 10)]) rfl nd (pi_list (pv 7)) (blkOk_by (N := N_Twins_backs) (sc := defScope s_Twins_backs) (by decide +kernel)) (fun _ _ _ _ _ => (pg_name (i := 10) nd rfl (Or.inl rfl) (Or.inr rfl))) (fun _ _ _ _ _ => (pts_one (pt_cmpR op_eq (pe_ix (show IxR _ (rIxT K) from ix_tup) (pv 10) pe_int (fun _ _ => rfl)) (pe_ix (show IxR _ (rIxT K) from ix_tup) (pv 10) pe_int (fun _ _ => rfl)) (nomark _)))) (fun _ _ _ _ _ => (pe_tup (show PA _ _ (tStar K _ _) from pa_star (pv 10) (pa_cons pe_bl pa_nil))))) pa_nil)))) pss_nil))))))
      (pss_one (ps_ret (pv 5)))))), ?_⟩
  have l6 := sz60
  obtain ⟨p, q', u⟩ := k
  have k1' : p < R.flip.n := k1
  have k2' : q' < R.flip.n := k2
  obtain ⟨dx, h1, h2, h3, h4⟩ := id h
  obtain ⟨dr, sl, fv, lv, av, dm, r1, r2, r3, r4, r5⟩ := id h3
  obtain ⟨ms, m1, m2⟩ := id r5
  have lms : ms.length = R.L.length := (Paired.length m2).symm
  obtain ⟨tn, rfl, htn⟩ := dk.nd
  refine ⟨_, rfl, tg3 htn ?_⟩
  refine ⟨by show 0 ≤ sizeLine; omega, fun F nF => ?_⟩
  have s0 : Same H (upd H F (.lst [])) := Same.new nF
  refine ⟨dm, _, s0 _ _ m1, trivial, fun od => ?_⟩
  generalize hHl : upd (upd H F (.lst [])) dm (.frz od (.dK ((R.flip.L.zip ms).map fun p => (keyc p.1, p.2)))) = Hl
  have dF : dm ≠ F := ne_of_none m1 nF
  have lk : ∀ c o, H c = some o → c ≠ dm → Hl c = some o := fun c o e n => by rw [← hHl, upd_ne n]; exact s0 _ _ e
  have tl : TLe H Hl := by rw [← hHl]; exact s0.tle.trans (TLe.dK (s0 _ _ m1))
  have hF0 : Hl F = some (.lst []) := by rw [← hHl, upd_ne (Ne.symm dF), upd_same]
  have hdm : Hl dm = some (.frz od (.dK ((R.flip.L.zip ms).map fun p => (keyc p.1, p.2)))) := by rw [← hHl, upd_same]
  have y1 := lk _ _ h1 (ne_of h1 m1 (by intro z; cases z))
  have b1 := lk _ _ r1 (ne_of r1 m1 (by intro z; cases z))
  refine ⟨_, rfl, y, _, dx, _, _, rfl, y1, T.c_Twins, T.n_Twins_own_backs, rfl, b, _, dr, _, _, rfl, b1, T.c_Reader, T.n_Reader_own_moves, rfl, dm, od, _, rfl, hdm, ?_⟩
  refine for_it walk_values (fun i σ H' => SameX F Hl H' ∧ (∃ ys, H' F = some (.lst ys) ∧ DtAll K H' ys (((R.L.take i).flatMap (backsC R.flip (p, q', u))).map eD)) ∧ ∃ o6 o7, σ = [some (.ref y), some (.ref tn), some (.int (p : Int)), some (.int (q' : Int)), some (.bl u), some (.ref F), o6, o7, none, none, none])
    ⟨SameX.refl _ _, ⟨[], hF0, .nil⟩, none, none, rfl⟩ (fun i σ H' _ h => h.1 _ _ hdm dF) (fun i x σ H2 H3 hi ⟨s2, ⟨ys, hF, dys⟩, o6, o7, eσ⟩ yy => ?_) fun σ H2 ⟨s2, ⟨ys, hF, dys⟩, o6, o7, eσ⟩ => ?_
  · obtain ⟨rfl, kk, hkk⟩ := yy
    subst eσ
    rw [List.getElem?_map] at hkk
    obtain ⟨⟨c, mv⟩, hz, ez⟩ := Option.map_eq_some_iff.mp hkk
    rw [List.getElem?_zip_eq_some] at hz
    obtain ⟨hc, hmv⟩ := hz
    obtain ⟨rfl, rfl⟩ : keyc c = kk ∧ mv = x := by simpa using ez
    obtain ⟨mv', hmv', dmv⟩ := paired_get m2 hc
    rw [hmv] at hmv'
    obtain rfl := Option.some.inj hmv'
    have t2 : TLe Hl H3 := s2.to hF0
    have dmv3 := dmv.to (tl.trans t2)
    obtain ⟨ma, rows, rfl, hrows, drows⟩ := dmv3.tuple
    obtain ⟨r1v, hr1, d1⟩ := drows.get (show ((List.range R.flip.n).map fun p => eNs (mvs R.flip.ar c p))[p]? = some (eNs (mvs R.flip.ar c p)) by rw [List.getElem?_map, List.getElem?_range k1']; rfl)
    obtain ⟨r2v, hr2, d2⟩ := drows.get (show ((List.range R.flip.n).map fun p => eNs (mvs R.flip.ar c p))[q']? = some (eNs (mvs R.flip.ar c q')) by rw [List.getElem?_map, List.getElem?_range k2']; rfl)
    obtain ⟨a1, rfl, ha1⟩ := d1.ns
    obtain ⟨a2, rfl, ha2⟩ := d2.ns
    generalize hprs : prsM R.flip (p, q', u) c = prs
    generalize hprev : (R.L.take i).flatMap (backsC R.flip (p, q', u)) = prev at dys
    have cut : (R.L.take (i + 1)).flatMap (backsC R.flip (p, q', u)) = prev ++ backsC R.flip (p, q', u) c := by rw [take_one (show R.L[i]? = some c from hc), List.flatMap_append, hprev]; simp
    have lprs : prs.length ≤ 36 := by rw [← hprs]; exact prsM_len hm
    have lys : ys.length ≤ 400 := by
      have e1 := dys.length
      rw [List.length_map] at e1
      have e2 : ∀ l : List Nat, (l.flatMap (backsC R.flip (p, q', u))).length ≤ l.length * 72 := fun l => by
        induction l with
        | nil => simp
        | cons a l ih =>
          rw [List.flatMap_cons, List.length_append, List.length_cons, Nat.succ_mul]
          have := backsC_len (B := R.flip) (k := (p, q', u)) (c := a) hm
          omega
      have e3 := e2 (R.L.take i)
      rw [hprev] at e3
      have e4 : (R.L.take i).length ≤ 4 := by rw [List.length_take]; omega
      omega
    refine ⟨_, rfl, _, rfl, ma, _, _, _, rfl, rfl, hrows, atI_nat hr1, a1, rfl, ⟨_, ha1⟩, fun D7 hD7 => ?_⟩
    refine comp2_it (walk_tup (xs := (mvs R.flip.ar c p).map fun n : Nat => V.int (n : Int))) grows_at (mvs R.flip.ar c p) (by simp) (fun f => (mvs R.flip.ar c q').map fun g => ordP f g) (fun z y H => Dt K H y (eP z)) (by show (prsM R.flip (p, q', u) c).length < _; rw [hprs]; omega) (fun a y H H' k h => h.to k) hD7 (fun H' sm => SqT.tle sm.tle ha1) (fun j x f H4 H5 hpj sm yy Nx acc hacc hlen hnx => ?_) fun pys H4 sm4 hpy pa => ?_
    · obtain ⟨rfl, hx⟩ := yy
      rw [List.getElem?_map, hpj] at hx
      obtain rfl := Option.some.inj hx
      refine ⟨rfl, tYes_if ⟨_, rfl, _, rfl, ma, _, _, _, rfl, rfl, SqT.tle sm.tle hrows, atI_nat hr2, a2, rfl, ⟨_, SqT.tle sm.tle ha2⟩, ?_⟩⟩
      refine in_it (walk_tup (xs := (mvs R.flip.ar c q').map fun n : Nat => V.int (n : Int))) grows_at ((mvs R.flip.ar c q').map fun g => ordP f g) (by simp) (fun _ => true) (fun z y H => Dt K H y (eP z)) (fun a y H H' k h => h.to k) hacc (by simp at hlen ⊢; omega) (fun H' sx => SqT.tle (sx.to hacc) (SqT.tle sm.tle ha2)) (fun j x z H6 H7 hz sx yy => turn_name rfl fun C c2 => ?_) fun zs H6 sx h6 p6 => ?_
      · obtain ⟨rfl, hx⟩ := yy
        rw [List.getElem?_map] at hx hz
        obtain ⟨g, hg, rfl⟩ := Option.map_eq_some_iff.mp hz
        rw [hg] at hx
        obtain rfl := Option.some.inj hx
        exact ⟨_, rfl, _, rfl, f, g, rfl, fun b H8 s8 hb => c2 _ _ s8 hb⟩
      · rw [filt] at p6
        exact hnx zs H6 sx h6 p6
    have pa' : PAll (fun z y H => Dt K H y (eP z)) prs pys H4 := by rw [← hprs]; exact pa
    have dp := DtAll.of (K := K) eP pa'
    have lpy : pys.length = prs.length := by rw [dp.length, List.length_map]
    have hF4 := sm4 _ _ hF
    have s24 := s2.trans sm4.x
    have d4 := dys.same sm4
    refine ⟨_, rfl, u, rfl, ?_⟩
    cases u with
    | true =>
      refine iteT ?_
      refine ⟨_, rfl, .inl ⟨rfl, _, SqL.of hF4⟩, _, rfl, D7, rfl, ⟨_, SqL.of hpy⟩, fun D hD => ?_⟩
      refine comp_it (walk_list (xs := pys)) grows_at prs lpy.symm (by omega) (fun _ => true) (fun z y H => Dt K H y (eD (z.1, z.2, true))) (fun a y H H' k h => h.to k) hD (fun H' sm => SqL.of (sm _ _ hpy)) (fun j x z H8 H9 hp sm y => ?_) fun zs1 H8 sm hz pz => ?_
      · obtain ⟨rfl, hx⟩ := y
        obtain ⟨d, hd1, hd2⟩ := dp.get' hx
        rw [List.getElem?_map, hp] at hd1
        obtain rfl := Option.some.inj hd1
        obtain ⟨t, rfl, ht⟩ := (hd2.same sm).prs
        exact turn_name rfl fun C c2 => ⟨_, rfl, t, _, rfl, ht, by show 3 ≤ sizeLine; omega, fun t nt => c2 _ _ (Same.new nt) (Dt.ofNd (a := (z.1, z.2, true)) (SqT.of upd_same))⟩
      rw [filt] at pz
      have pd1 := DtAll.of (K := K) (fun z : Nat × Nat => eD (z.1, z.2, true)) pz
      have lz1 := pd1.length
      rw [List.length_map] at lz1
      have hF8 := sm _ _ hF4
      refine ⟨F, D, ys, zs1, rfl, rfl, hF8, hz, by omega, ?_⟩
      have t8 : TLe H8 (upd H8 F (.lst (ys ++ zs1))) := TLe.lst hF8
      have sx8 : SameX F Hl (upd H8 F (.lst (ys ++ zs1))) := (s24.trans sm.x).put
      have d8 : DtAll K (upd H8 F (.lst (ys ++ zs1))) (ys ++ zs1) ((prev ++ prs.map fun z => (z.1, z.2, true)).map eD) := by
        rw [List.map_append, List.map_map]
        exact ((d4.same sm).to t8).append (pd1.to t8)
      refine ⟨_, rfl, _, rfl, rfl, _, rfl, ?_⟩
      have hpy8 : (upd H8 F (.lst (ys ++ zs1))) D7 = some (.lst pys) := by rw [upd_ne (by intro z; subst z; rw [hF] at hD7; cases hD7)]; exact sm _ _ hpy
      have dp8 := (dp.same sm).to t8
      have hF9 : (upd H8 F (.lst (ys ++ zs1))) F = some (.lst (ys ++ zs1)) := upd_same
      by_cases hpq : p = q'
      · rw [show (!decide (V.int (p : Int) = V.int (q' : Int))) = false from by simp [hpq]]
        refine iteF ⟨_, rfl, true, rfl, iteF ?_⟩
        refine ⟨sx8, ⟨_, hF9, ?_⟩, _, _, rfl⟩
        rw [cut]
        have hb : backsC R.flip (p, q', true) c = prs.map fun z => (z.1, z.2, true) := by unfold backsC; rw [hprs]; simp [hpq]
        rw [hb]
        exact d8
      · rw [show (!decide (V.int (p : Int) = V.int (q' : Int))) = true from by simp; omega]
        have hb : backsC R.flip (p, q', true) c = (prs.map fun z => (z.1, z.2, true)) ++ ((prs.filter fun z => z.1 == z.2).map fun z => (z.1, z.2, false)) := by unfold backsC; rw [hprs]; simp [hpq]
        refine iteT ?_
        refine ⟨_, rfl, .inl ⟨rfl, _, SqL.of hF9⟩, _, rfl, D7, rfl, ⟨_, SqL.of hpy8⟩, fun D hD => ?_⟩
        refine comp_it (walk_list (xs := pys)) grows_at prs lpy.symm (by omega) (fun z => z.1 == z.2) (fun z y H => Dt K H y (eD (z.1, z.2, false))) (fun a y H H' k h => h.to k) hD (fun H' sm => SqL.of (sm _ _ hpy8)) (fun j x z H8 H9 hp sm y => ?_) fun zs H8 sm hz pz => ?_
        · obtain ⟨rfl, hx⟩ := y
          obtain ⟨d, hd1, hd2⟩ := dp8.get' hx
          rw [List.getElem?_map, hp] at hd1
          obtain rfl := Option.some.inj hd1
          obtain ⟨t, rfl, ht⟩ := (hd2.same sm).prs
          refine turn_nameT rfl fun C1 C2 c1 c2 => ⟨_, rfl, t, _, _, _, rfl, rfl, ht, (atI_nat (j := 0) rfl), _, rfl, t, _, _, _, rfl, rfl, ht, (atI_nat (j := 1) rfl), rfl, _, rfl, ?_⟩
          by_cases hzz : z.1 = z.2
          · rw [show decide (V.int (z.1 : Int) = V.int (z.2 : Int)) = true from by simp [hzz]]
            exact iteT ⟨_, rfl, t, _, rfl, ht, by show 3 ≤ sizeLine; omega, fun t nt => c2 (by simp [hzz]) _ _ (Same.new nt) (Dt.ofNd (a := (z.1, z.2, false)) (SqT.of upd_same))⟩
          · rw [show decide (V.int (z.1 : Int) = V.int (z.2 : Int)) = false from by simp; omega]
            exact iteF (c1 (by simp [hzz]) _ (Same.refl _))
        have pd2 := DtAll.of (K := K) (fun z : Nat × Nat => eD (z.1, z.2, false)) pz
        have lz2 := pd2.length
        rw [List.length_map] at lz2
        have lz3 : (prs.filter fun z => z.1 == z.2).length ≤ prs.length := List.length_filter_le ..
        have hF8 := sm _ _ hF9
        refine ⟨F, D, (ys ++ zs1), zs, rfl, rfl, hF8, hz, by first | omega | (rw [List.length_append]; omega), ?_⟩
        have t8 : TLe H8 (upd H8 F (.lst ((ys ++ zs1) ++ zs))) := TLe.lst hF8
        have sx9 : SameX F Hl (upd H8 F (.lst ((ys ++ zs1) ++ zs))) := (sx8.trans sm.x).put
        refine ⟨sx9, ⟨_, upd_same, ?_⟩, _, _, rfl⟩
        rw [cut, hb, ← List.append_assoc, List.map_append, List.map_map]
        exact ((d8.same sm).to t8).append (pd2.to t8)
    | false =>
      refine iteF ?_
      refine ⟨_, rfl, _, rfl, rfl, _, rfl, ?_⟩
      have hb : backsC R.flip (p, q', false) c = (prs.filter fun z => z.1 == z.2).map fun z => (z.1, z.2, false) := by unfold backsC; rw [hprs]; simp
      by_cases hpq : p = q'
      · rw [show (!decide (V.int (p : Int) = V.int (q' : Int))) = false from by simp [hpq]]
        refine iteF ⟨_, rfl, false, rfl, iteT ?_⟩
        refine ⟨_, rfl, .inl ⟨rfl, _, SqL.of hF4⟩, _, rfl, D7, rfl, ⟨_, SqL.of hpy⟩, fun D hD => ?_⟩
        refine comp_it (walk_list (xs := pys)) grows_at prs lpy.symm (by omega) (fun z => z.1 == z.2) (fun z y H => Dt K H y (eD (z.1, z.2, false))) (fun a y H H' k h => h.to k) hD (fun H' sm => SqL.of (sm _ _ hpy)) (fun j x z H8 H9 hp sm y => ?_) fun zs H8 sm hz pz => ?_
        · obtain ⟨rfl, hx⟩ := y
          obtain ⟨d, hd1, hd2⟩ := dp.get' hx
          rw [List.getElem?_map, hp] at hd1
          obtain rfl := Option.some.inj hd1
          obtain ⟨t, rfl, ht⟩ := (hd2.same sm).prs
          refine turn_nameT rfl fun C1 C2 c1 c2 => ⟨_, rfl, t, _, _, _, rfl, rfl, ht, (atI_nat (j := 0) rfl), _, rfl, t, _, _, _, rfl, rfl, ht, (atI_nat (j := 1) rfl), rfl, _, rfl, ?_⟩
          by_cases hzz : z.1 = z.2
          · rw [show decide (V.int (z.1 : Int) = V.int (z.2 : Int)) = true from by simp [hzz]]
            exact iteT ⟨_, rfl, t, _, rfl, ht, by show 3 ≤ sizeLine; omega, fun t nt => c2 (by simp [hzz]) _ _ (Same.new nt) (Dt.ofNd (a := (z.1, z.2, false)) (SqT.of upd_same))⟩
          · rw [show decide (V.int (z.1 : Int) = V.int (z.2 : Int)) = false from by simp; omega]
            exact iteF (c1 (by simp [hzz]) _ (Same.refl _))
        have pd2 := DtAll.of (K := K) (fun z : Nat × Nat => eD (z.1, z.2, false)) pz
        have lz2 := pd2.length
        rw [List.length_map] at lz2
        have lz3 : (prs.filter fun z => z.1 == z.2).length ≤ prs.length := List.length_filter_le ..
        have hF8 := sm _ _ hF4
        refine ⟨F, D, ys, zs, rfl, rfl, hF8, hz, by first | omega | (rw [List.length_append]; omega), ?_⟩
        have t8 : TLe H8 (upd H8 F (.lst (ys ++ zs))) := TLe.lst hF8
        have sx9 : SameX F Hl (upd H8 F (.lst (ys ++ zs))) := (s24.trans sm.x).put
        refine ⟨sx9, ⟨_, upd_same, ?_⟩, _, _, rfl⟩
        rw [cut, hb, List.map_append, List.map_map]
        exact ((d4.same sm).to t8).append (pd2.to t8)
      · rw [show (!decide (V.int (p : Int) = V.int (q' : Int))) = true from by simp; omega]
        refine iteT ?_
        refine ⟨_, rfl, .inl ⟨rfl, _, SqL.of hF4⟩, _, rfl, D7, rfl, ⟨_, SqL.of hpy⟩, fun D hD => ?_⟩
        refine comp_it (walk_list (xs := pys)) grows_at prs lpy.symm (by omega) (fun z => z.1 == z.2) (fun z y H => Dt K H y (eD (z.1, z.2, false))) (fun a y H H' k h => h.to k) hD (fun H' sm => SqL.of (sm _ _ hpy)) (fun j x z H8 H9 hp sm y => ?_) fun zs H8 sm hz pz => ?_
        · obtain ⟨rfl, hx⟩ := y
          obtain ⟨d, hd1, hd2⟩ := dp.get' hx
          rw [List.getElem?_map, hp] at hd1
          obtain rfl := Option.some.inj hd1
          obtain ⟨t, rfl, ht⟩ := (hd2.same sm).prs
          refine turn_nameT rfl fun C1 C2 c1 c2 => ⟨_, rfl, t, _, _, _, rfl, rfl, ht, (atI_nat (j := 0) rfl), _, rfl, t, _, _, _, rfl, rfl, ht, (atI_nat (j := 1) rfl), rfl, _, rfl, ?_⟩
          by_cases hzz : z.1 = z.2
          · rw [show decide (V.int (z.1 : Int) = V.int (z.2 : Int)) = true from by simp [hzz]]
            exact iteT ⟨_, rfl, t, _, rfl, ht, by show 3 ≤ sizeLine; omega, fun t nt => c2 (by simp [hzz]) _ _ (Same.new nt) (Dt.ofNd (a := (z.1, z.2, false)) (SqT.of upd_same))⟩
          · rw [show decide (V.int (z.1 : Int) = V.int (z.2 : Int)) = false from by simp; omega]
            exact iteF (c1 (by simp [hzz]) _ (Same.refl _))
        have pd2 := DtAll.of (K := K) (fun z : Nat × Nat => eD (z.1, z.2, false)) pz
        have lz2 := pd2.length
        rw [List.length_map] at lz2
        have lz3 : (prs.filter fun z => z.1 == z.2).length ≤ prs.length := List.length_filter_le ..
        have hF8 := sm _ _ hF4
        refine ⟨F, D, ys, zs, rfl, rfl, hF8, hz, by first | omega | (rw [List.length_append]; omega), ?_⟩
        have t8 : TLe H8 (upd H8 F (.lst (ys ++ zs))) := TLe.lst hF8
        have sx9 : SameX F Hl (upd H8 F (.lst (ys ++ zs))) := (s24.trans sm.x).put
        refine ⟨sx9, ⟨_, upd_same, ?_⟩, _, _, rfl⟩
        rw [cut, hb, List.map_append, List.map_map]
        exact ((d4.same sm).to t8).append (pd2.to t8)
  · subst eσ
    have e1 : ((R.flip.L.zip ms).map fun p => (keyc p.1, p.2)).length = R.L.length := by
      rw [List.length_map, List.length_zip]; show min R.L.length ms.length = _; omega
    rw [e1, List.take_length] at dys
    have hd2 := s2 _ _ hdm dF
    refine ⟨hd2, _, rfl, ?_⟩
    have back : Same H (upd H2 dm (.dK ((R.flip.L.zip ms).map fun p => (keyc p.1, p.2)))) := fun c o e => by
      by_cases z : c = dm
      · rw [z, upd_same, ← m1, ← z]; exact e
      · rw [upd_ne z]; exact s2 _ _ (lk _ _ e z) (ne_of_none e nF)
    refine q F ys _ back nF ?_ (dys.to (TLe.frz hd2))
    rw [upd_ne (Ne.symm dF)]; exact hF
end K39
end Text_K39Q8

section Text_K39Q9
set_option Elab.async false set_option linter.all false set_option maxRecDepth 100000 set_option maxHeartbeats 4000000
/-! Twins: the table of pairs. -/
namespace K39
open PySem PySem.Spec PyProof.Rows L2
variable {P : Program} {w : World} {K : PySem.W.Frag} {mg : Str → Option Value} {base : Heap}
theorem eDs_shaped (ks : List Nd) : SeqAt.shaped (.list (ks.map eD)) = true := by
  have h : PyData.canLayAll0 (ks.map eD) = true ∧ PyData.depthAll (ks.map eD) ≤ 1 := by
    induction ks with
    | nil => exact ⟨rfl, by simp [PyData.depthAll]⟩
    | cons k l ih => exact ⟨by simp [PyData.canLayAll0, PyData.canLay0, ih.1], by simp [PyData.depthAll, PyData.depth, ih.2]⟩
  unfold SeqAt.shaped
  simp only [PyData.canLay0, PyData.depth, h.1, Bool.true_and, decide_eq_true_eq]
  exact decide_eq_true (Nat.le_trans (Nat.succ_le_succ h.2) (show 2 ≤ 64 by decide))
theorem eDs_nil (ks : List Nd) : (!PyData.eqv (.list (ks.map eD)) (.list [])) = !ks.isEmpty := by
  cases ks with
  | nil => rfl
  | cons k l => rfl
theorem DtAll.dps {H : Hp} {xs : List V} {ds : List PyData} (h : DtAll K H xs ds) : DpAll K H xs ds := DtAll.dp ds xs h
/-- what G must know for the table to end with G's pairs only -/
structure FarOk (R : Rd) (D : List Nd) (G : Nd → Prop) : Prop where
  few : D.length < 64
  mem : ∀ k, G k → k ∈ D
  lt1 : ∀ k, G k → k.1 < R.n
  lt2 : ∀ k, G k → k.2.1 < R.n
  mv : ∀ c p, (mvs R.flip.ar c p).length ≤ 6
  lets : R.L.length ≤ 4
  step : ∀ k, G k → ∀ m ∈ backs R.flip k, G m
theorem backs_len {B : Rd} {k : Nd} (hm : ∀ c p, (mvs B.ar c p).length ≤ 6) (hL : B.L.length ≤ 4) : (backs B k).length ≤ 288 := by
  have e2 : ∀ l : List Nat, (l.flatMap (backsC B k)).length ≤ l.length * 72 := fun l => by
    induction l with
    | nil => simp
    | cons a l ih =>
      rw [List.flatMap_cons, List.length_append, List.length_cons, Nat.succ_mul]
      have := backsC_len (B := B) (k := k) (c := a) hm
      omega
  have := e2 B.L
  unfold backs
  omega
theorem Rdr.sxE {H H' : Hp} {a b : Addr} {R : Rd} {φ : Heap → Prop} (h : Rdr K H b R) (s : SameX a H H') (ha : H a = some (.ext φ)) : Rdr K H' b R := by
  obtain ⟨d, sl, fv, lv, av, dm, h1, h2, h3, h4, ms, h5, h6⟩ := h
  have t : TLe H H' := s.tle (by intro xs z; rw [ha] at z; cases z) (by intro o u z; rw [ha] at z; cases z)
  exact ⟨d, sl, fv, lv, av, dm, s _ _ h1 (ne_of h1 ha (by intro z; cases z)), h2.to t, h3.to t, h4.to t, ms, s _ _ h5 (ne_of h5 ha (by intro z; cases z)), Paired.mono (fun _ _ h => h.to t) h6⟩
theorem Twn.put {H H' : Hp} {y rd fa b : Addr} {R : Rd} {kvs kvs' : List (Nd × V)} (h : Twn w K H y rd fa b R kvs) (s : SameX fa H H') (n : ND w K H' cD fa kvs') : Twn w K H' y rd fa b R kvs' := by
  obtain ⟨dx, h1, h2, h3, h4⟩ := h
  obtain ⟨φ, q⟩ := h4.at
  exact ⟨dx, s _ _ h1 (ne_of h1 q (by intro z; cases z)), h2.sxE s q, h3.sxE s q, n⟩
def miss (D : List Nd) (kvs : List (Nd × V)) : Nat := (D.filter fun k => (valV kvs k).isNone).length
theorem filter_le {α : Type} {p q : α → Bool} : ∀ {l : List α}, (∀ a ∈ l, p a = true → q a = true) → (l.filter p).length ≤ (l.filter q).length
  | [], _ => Nat.le_refl _
  | a :: l, h => by
    have ih := filter_le (p := p) (q := q) (l := l) fun b hb => h b (List.mem_cons_of_mem _ hb)
    rw [List.filter_cons, List.filter_cons]
    by_cases hp : p a = true
    · rw [if_pos hp, if_pos (h a List.mem_cons_self hp)]; simp; exact ih
    · rw [if_neg hp]; split <;> simp <;> omega
theorem filter_lt {α : Type} {p q : α → Bool} : ∀ {l : List α} {a : α}, (∀ a ∈ l, p a = true → q a = true) → a ∈ l → q a = true → p a = false → (l.filter p).length < (l.filter q).length
  | b :: l, a, h, ha, hq, hp => by
    have h' : ∀ c ∈ l, p c = true → q c = true := fun c hc => h c (List.mem_cons_of_mem _ hc)
    rw [List.filter_cons, List.filter_cons]
    rcases List.mem_cons.mp ha with e | e
    · subst e
      rw [if_neg (by simp [hp]), if_pos hq]
      have := filter_le h'
      simp; omega
    · have ih := filter_lt h' e hq hp
      by_cases hb : p b = true
      · rw [if_pos hb, if_pos (h b List.mem_cons_self hb)]; simp; exact ih
      · rw [if_neg hb]; split <;> simp <;> omega
def keysG (G : Nd → Prop) (kvs : List (Nd × V)) : Prop := ∀ k, valV kvs k ≠ none → G k
theorem val_mem {κ : Type} [DecidableEq κ] {kvs : List (κ × V)} {k : κ} (h : k ∈ kvs.map (·.1)) : valV kvs k ≠ none := by
  induction kvs with
  | nil => simp at h
  | cons p l ih =>
    by_cases e : p.1 = k
    · rw [valV_pos e]; nofun
    · rw [valV_neg e]
      refine ih ?_
      rcases List.mem_cons.mp h with z | z
      · exact absurd z.symm e
      · exact z
theorem nd_few {H : Hp} {fa : Addr} {kvs : List (Nd × V)} {R : Rd} {D : List Nd} {G : Nd → Prop} (h : ND w K H cD fa kvs) (fo : FarOk R D G) (kg : keysG G kvs) : kvs.length < 64 := by
  have h1 := nodup_len _ D h.nd fun k hk => fo.mem k (kg k (val_mem hk))
  rw [List.length_map] at h1
  have := fo.few
  omega
def sp_Twins_fill (w : World) (K : PySem.W.Frag) : Sp := fun vs H Q E => ∃ (y rd fa b c : Addr) (R : Rd) (kvs : List (Nd × V)) (ys : List V) (ks D : List Nd) (G : Nd → Prop), vs = [.ref y, .ref c] ∧ FarOk R D G ∧ H c = some (.lst ys) ∧ DtAll K H ys (ks.map eD) ∧ (∀ k ∈ ks, G k) ∧ Twn w K H y rd fa b R kvs ∧ keysG G kvs ∧
   ∀ kvs' H', SameX fa H H' → Twn w K H' y rd fa b R kvs' → keysG G kvs' → Q .non H'
abbrev N_Twins_fill : List Str := ["self", "layer", "length", "node", "back"]
theorem sc_Twins_fill : FnScope N_Twins_fill ["self", "layer"] (defScope s_Twins_fill) := ⟨rfl, rfl, rfl, by decide +kernel, rfl, by decide +kernel, by decide +kernel⟩
theorem p_Twins_fill (T : Tx K mg) : FnR P w K mg base CX0 3 (He.ma K (He.ga K "Twins") "fill") (sp_Twins_fill w K) ∧ PySem.W.keepIn K (.ref (He.ma K (He.ga K "Twins") "fill")) = true := by
  refine fnr_mk T.d_Twins_fill sc_Twins_fill (fun _ _ _ _ _ _ us h => by match us, h with | [_, _], _ => rfl) (fun vs H Q E ⟨y, rd, fa, b, c, R, kvs, ys, ks, D, G, e, fo, hc, dy, gk, h, kg, q⟩ => by rw [e]; rfl) fun cdv A outer s H vs Q E hr ⟨y, rd, fa, b, c, R, kvs, ys, ks, D, G, e, fo, hc, dy, gk, h, kg, q⟩ => ?_
  subst e
  have hu := hr.units
  have hu1 := hu_of hr
  have nd := sc_Twins_fill.nd
  refine ⟨_, (pss_cons (ps_set (i := 2) nd rfl (Or.inl rfl) pe_int)
      (pss_one (ps_while PassesOwn.never (pt_cmpR (op_neD hu) (pv 1) (pe_lst pa_nil) (nomark _))
        (pss_cons (ps_setLc (i := 1) (own := [("node", 3)]) rfl nd rfl rfl (sw_true rfl rfl rfl (by decide +kernel)) (pi_list (pe_callB (cr_sortedN rfl hu) (by rfl) T.b_sorted (by decide +kernel) (pa_cons (pe_callTy (cr_setN rfl hu) (by rfl) T.b_set (by decide +kernel) (pa_cons (pv 1) pa_nil)) pa_nil))) (blkOk_by (N := N_Twins_fill) (sc := defScope s_Twins_fill) (by decide +kernel)) (fun _ _ _ _ _ => (pg_name (i := 3) nd rfl (Or.inl rfl) (Or.inr rfl))) (fun _ _ _ _ _ => (pts_one (pt_cmpR (show OpR _ _ (rNdIn w K cD true) from (op_ndNotIn hu cD)) (pv 3) (show PE _ _ (tFld K _ "own_far") from (pe_fld (pv 0) rfl)) rfl))) (fun _ _ _ _ _ => (pv 3)))
        (pss_cons (ps_for PassesOwn.never rfl (pi_list (pv 1)) (pg_name (i := 3) nd rfl (Or.inl rfl))
          (pss_one (ps_asg (pv 2) (pg_sub (pe_fld (pv 0) rfl) (pv 3) (set_nd hu cD)))))
        (pss_cons (ps_setLc2 (i := 1) (own := [("node", 3), ("back", 4)]) (vs1 := [4]) rfl nd rfl rfl (sw_true rfl rfl rfl (by decide +kernel)) (pi_list (pv 1)) (blkOk_by (N := N_Twins_fill) (sc := defScope s_Twins_fill) (by decide +kernel)) (by decide) (fun _ _ _ _ _ => (pg_name (i := 3) nd rfl (Or.inl rfl) (Or.inr rfl))) (fun _ _ _ _ _ => pts_nil) (fun _ _ _ _ _ => (show PI _ _ _ (iList K _) from pi_list (show PE _ _ (tMethR (He.ga K "Twins") "backs" (sp_Twins_backs w K) E0 _ _) from cm (pv 0) T.c_Twins T.m_Twins_backs (p_Twins_backs T).1 hr (pa_cons (pv 3) pa_nil)))) (fun _ _ _ _ _ => (pg_name (i := 4) nd rfl (Or.inl rfl) (Or.inr rfl))) (fun _ _ _ _ _ => pts_nil) (fun _ _ _ _ _ => (pv 4)))
        (pss_one (ps_aug (i := 2) nd rfl (Or.inl rfl) pe_int ip_add)))))))), ?_⟩
  have l6 := sz60
  have l20 : 20000 < sizeLine := by decide
  refine ⟨fun m σ H' => ∃ (c : Addr) (ys : List V) (ks : List Nd) (kvs' : List (Nd × V)) (len : Int) (o3 o4 : Option V), σ = [some (.ref y), some (.ref c), some (.int len), o3, o4] ∧ H' c = some (.lst ys) ∧ DtAll K H' ys (ks.map eD) ∧ (∀ k ∈ ks, G k) ∧ SameX fa H H' ∧ Twn w K H' y rd fa b R kvs' ∧ keysG G kvs' ∧ m = 2 * miss D kvs' + (if ks.isEmpty then 0 else 1),
    ⟨_, c, ys, ks, kvs, 0, none, none, rfl, hc, dy, gk, SameX.refl _ _, h, kg, rfl⟩, ?_⟩
  rintro m σ H1 ⟨c, ys, ks, kvs, len, o3, o4, rfl, hc, dy, gk, sx, h, kg, rfl⟩
  refine ⟨_, rfl, by show 0 ≤ sizeLine; omega, fun e0 ne0 => ?_⟩
  have s0 : Same H1 (upd H1 e0 (.lst [])) := Same.new ne0
  refine ⟨.list (ks.map eD), .list [], .lst (SqL.of (s0 _ _ hc)) (dy.same s0).dps, .lst (SqL.of upd_same) .nil, eDs_shaped ks, rfl, ?_⟩
  rw [eDs_nil]
  refine ⟨_, rfl, ?_⟩
  have h0 := h.same s0
  have sx0 : SameX fa H (upd H1 e0 (.lst [])) := sx.trans s0.x
  by_cases hks : ks = []
  · subst hks
    exact iteF (q kvs _ sx0 h0 kg)
  have hke : ks.isEmpty = false := by
    cases ks with
    | nil => exact absurd rfl hks
    | cons _ _ => rfl
  rw [hke]
  refine iteT ⟨_, fun σ' H' hN => hN, ?_⟩
  refine ⟨_, rfl, c, ys, ks, D, rfl, SqL.of (s0 _ _ hc), dy.same s0, fo.few, fun k hk => fo.mem k (gk k hk), fun a L na hL hm => ?_⟩
  have s1 : Same (upd H1 e0 (.lst [])) (upd (upd H1 e0 (.lst [])) a (SetNO w a L)) := Same.new na
  refine ⟨a, L, rfl, upd_same, ?_, fun p zs ls np dz nl ll hml => ?_⟩
  · intro p hp
    obtain ⟨k, e1, e2⟩ := hL p hp
    exact ⟨k, e1, e2.same s1⟩
  have nfa : ∀ {c : Addr}, H c = none → c ≠ fa → True := fun _ _ => trivial
  have s2 : Same (upd H1 e0 (.lst [])) (upd (upd (upd H1 e0 (.lst [])) a (SetNO w a L)) p (.lst zs)) := s1.trans (Same.new np)
  let H2 : Hp := upd (upd (upd H1 e0 (.lst [])) a (SetNO w a L)) p (.lst zs)
  have s2 : Same (upd H1 e0 (.lst [])) H2 := s2
  have hz2 : H2 p = some (.lst zs) := upd_same
  have dz2 : DtAll K H2 zs (ls.map eD) := dz.same (Same.new np)
  have h2 := h0.same s2
  have sx2 : SameX fa H H2 := sx0.trans s2.x
  have gl : ∀ k ∈ ls, G k := fun k hk => by
    have := (hm k).mpr ((hml k).mp hk)
    exact gk k this
  have lz : zs.length = ls.length := by rw [dz2.length, List.length_map]
  obtain ⟨dx, t1, t2, t3, t4⟩ := id h2
  refine ⟨p, rfl, ⟨_, SqL.of hz2⟩, fun D1 nD1 => ?_⟩
  refine comp_it (walk_list (xs := zs)) grows_at ls lz.symm (by omega) (fun k => (valV kvs k).isNone) (fun k y H => Dt K H y (eD k)) (fun a y H H' k h => h.to k) nD1 (fun H' sm => SqL.of (sm _ _ hz2)) (fun i x k H' H3 hp sm y => ?_) fun ws H3 sm hy pa => ?_
  · obtain ⟨rfl, hx⟩ := y
    obtain ⟨d, hd1, hd2⟩ := dz2.get' hx
    rw [List.getElem?_map, hp] at hd1
    obtain rfl := Option.some.inj hd1
    refine turn_nameT rfl fun C1 C2 c1 c2 => ⟨_, rfl, _, rfl, y, _, dx, _, _, rfl, sm _ _ t1, T.c_Twins, T.n_Twins_own_far, rfl, k, fa, kvs, hd2.same sm, rfl, t4.same sm, _, rfl, ?_⟩
    cases hv : valV kvs k with
    | none => exact iteT ⟨_, rfl, c2 (by rw [hv]; rfl) _ _ (Same.refl _) (hd2.same sm)⟩
    | some v => exact iteF (c1 (by rw [hv]; rfl) _ (Same.refl _))
  have pd := DtAll.of (K := K) eD pa
  generalize hls : ls.filter (fun k => (valV kvs k).isNone) = ms at pd
  have gm : ∀ k ∈ ms, G k := fun k hk => gl k (by rw [← hls] at hk; exact (List.mem_filter.mp hk).1)
  have nm : ∀ k ∈ ms, valV kvs k = none := fun k hk => by
    rw [← hls] at hk
    have := (List.mem_filter.mp hk).2
    simpa using this
  have lw : ws.length = ms.length := by rw [pd.length, List.length_map]
  have lms : ms.length < 64 := by
    have e1 : ms.length ≤ ls.length := by rw [← hls]; exact List.length_filter_le ..
    omega
  have sx3 := sx2.trans sm.x
  have h3 := h2.same sm
  have nfa : D1 ≠ fa := by
    obtain ⟨φ, qf⟩ := t4.at
    exact (ne_of_none qf nD1).symm
  -- the table grows
  refine ⟨_, rfl, D1, rfl, ⟨_, SqL.of hy⟩, ?_⟩
  refine for_it (walk_list (xs := ws)) (fun i σ H' => ∃ (kvs' : List (Nd × V)) (o3 o4 : Option V), SameX fa H H' ∧ H' D1 = some (.lst ws) ∧ DtAll K H' ws (ms.map eD) ∧ Twn w K H' y rd fa b R kvs' ∧ keysG G kvs' ∧ (∀ k, valV kvs k ≠ none → valV kvs' k ≠ none) ∧ (∀ k ∈ ms.take i, valV kvs' k ≠ none) ∧ σ = [some (.ref y), some (.ref D1), some (.int len), o3, o4])
    ⟨kvs, _, _, sx3, hy, pd, h3, kg, fun _ h => h, fun _ h => by simp at h, rfl⟩ (fun i σ H' _ h => SqL.of h.choose_spec.choose_spec.choose_spec.2.1) (fun i x σ H4 H5 hi ⟨kvs', o3, o4, sx4, hw, dw, h4, kg4, mono, done, eσ⟩ yy => ?_) fun σ H4 ⟨kvs', o3, o4, sx4, hw, dw, h4, kg4, mono, done, eσ⟩ => ?_
  · obtain ⟨rfl, hx⟩ := yy
    subst eσ
    obtain ⟨d, hd1, hd2⟩ := dw.get' hx
    rw [List.getElem?_map] at hd1
    obtain ⟨k, hk, rfl⟩ := Option.map_eq_some_iff.mp hd1
    obtain ⟨dx', u1, u2, u3, u4⟩ := id h4
    have few := nd_few u4 fo kg4
    refine ⟨_, rfl, _, rfl, y, _, dx', _, _, rfl, u1, T.c_Twins, T.n_Twins_own_far, rfl, _, rfl, k, fa, kvs', hd2, rfl, u4, by omega, fun o' hn => ?_⟩
    have x5 : SameX fa H5 (upd H5 fa o') := (SameX.refl _ _).put
    have t5 : TLe H5 (upd H5 fa o') := u4.tle
    refine ⟨putK kvs' k (.int len), _, _, sx4.trans x5, by rw [upd_ne nfa]; exact hw, dw.to t5, h4.put x5 hn, fun j hj => ?_, fun j hj => ?_, fun j hj => ?_, rfl⟩
    · rw [valV_put] at hj
      by_cases z : j = k
      · rw [z]; exact gm k (List.mem_of_getElem? hk)
      · rw [if_neg z] at hj; exact kg4 j hj
    · rw [valV_put]; split
      · nofun
      · exact mono j hj
    · rw [valV_put]; split
      · nofun
      · rename_i z
        rw [take_one hk] at hj
        rcases List.mem_append.mp hj with hj | hj
        · exact done j hj
        · exact absurd (List.mem_singleton.mp hj) z
  subst eσ
  rw [lw, List.take_length] at done
  -- the next layer
  refine ⟨_, rfl, D1, rfl, ⟨_, SqL.of hw⟩, fun D2 nD2 => ?_⟩
  have hback : (ms.flatMap (backs R.flip)).length ≤ ms.length * 288 := by
    have : ∀ l : List Nd, (l.flatMap (backs R.flip)).length ≤ l.length * 288 := fun l => by
      induction l with
      | nil => simp
      | cons k l ih =>
        rw [List.flatMap_cons, List.length_append, List.length_cons, Nat.succ_mul]
        have := backs_len (B := R.flip) (k := k) fo.mv fo.lets
        omega
    exact this ms
  refine comp2_it (walk_list (xs := ws)) grows_at ms lw.symm (backs R.flip) (fun z y H => Dt K H y (eD z)) (by omega) (fun a y H H' k h => h.to k) nD2 (fun H' sm => SqL.of (sm _ _ hw)) (fun i x k H' H5 hpi sm yy Nx acc hacc hlen hnx => ?_) fun vs H5 sm5 hv5 pa5 => ?_
  · obtain ⟨rfl, hx⟩ := yy
    obtain ⟨d, hd1, hd2⟩ := dw.get' hx
    rw [List.getElem?_map, hpi] at hd1
    obtain rfl := Option.some.inj hd1
    have gk1 := gm k (List.mem_of_getElem? hpi)
    have h5 := h4.same sm
    obtain ⟨dx', u1, u2, u3, u4⟩ := id h5
    refine ⟨rfl, tYes_if ⟨_, rfl, y, dx', _, rfl, u1, rfl, _, rfl, y, rd, fa, b, R, kvs', x, k, rfl, hd2.same sm, fo.lt1 k gk1, fo.lt2 k gk1, fo.mv, fo.lets, h5, fun c bs H6 s6 nc6 hc6 db => ?_⟩⟩
    refine ⟨c, rfl, ⟨_, SqL.of hc6⟩, ?_⟩
    have hacc6 := s6 _ _ hacc
    have cD2 : c ≠ D2 := by
      intro z; subst z; rw [nc6] at hacc; cases hacc
    have lb : bs.length = (backs R.flip k).length := by rw [db.length, List.length_map]
    refine in_it (walk_list (xs := bs)) grows_at (backs R.flip k) lb.symm (fun _ => true) (fun z y H => Dt K H y (eD z)) (fun a y H H' k h => h.to k) hacc6 (by omega) (fun H' sx => SqL.of (sx _ _ hc6 cD2)) (fun j x z H7 H8 hz sx yy => turn_name rfl fun C c2 => ?_) fun zs H7 sx h7 p7 => ?_
    · obtain ⟨rfl, hx⟩ := yy
      obtain ⟨d, hd1, hd2⟩ := db.get' hx
      rw [List.getElem?_map, hz] at hd1
      obtain rfl := Option.some.inj hd1
      exact ⟨_, rfl, c2 _ _ (Same.refl _) (hd2.to (sx.to hacc6))⟩
    · rw [filt] at p7
      exact hnx zs H7 (s6.x.trans sx) h7 p7
  have pd5 := DtAll.of (K := K) eD pa5
  refine ⟨_, rfl, _, _, rfl, rfl, ⟨_, ?_, D2, vs, ms.flatMap (backs R.flip), kvs', len + 1, _, _, rfl, hv5, pd5, fun k hk => ?_, sx4.trans sm5.x, h4.same sm5, kg4, rfl⟩⟩
  · have hle : miss D kvs' ≤ miss D kvs := filter_le fun k _ hk => by
      have hk' : valV kvs' k = none := by simpa using hk
      cases hv : valV kvs k with
      | none => rfl
      | some v => exact absurd hk' (mono k (by rw [hv]; nofun))
    by_cases hms : ms = []
    · rw [hms]; show 2 * miss D kvs' + 0 < 2 * miss D kvs + 1; omega
    · obtain ⟨k0, l0, e0⟩ : ∃ k0 l0, ms = k0 :: l0 := by
        cases ms with
        | nil => exact absurd rfl hms
        | cons k0 l0 => exact ⟨k0, l0, rfl⟩
      have k0m : k0 ∈ ms := by rw [e0]; exact List.mem_cons_self
      have hlt : miss D kvs' < miss D kvs := filter_lt (a := k0) (fun k _ hk => by
        have hk' : valV kvs' k = none := by simpa using hk
        cases hv : valV kvs k with
        | none => rfl
        | some v => exact absurd hk' (mono k (by rw [hv]; nofun))) (fo.mem k0 (gm k0 k0m)) (by rw [nm k0 k0m]; rfl) (by
          cases hv : valV kvs' k0 with
          | none => exact absurd hv (done k0 k0m)
          | some v => rfl)
      show 2 * miss D kvs' + (if (ms.flatMap (backs R.flip)).isEmpty then 0 else 1) < 2 * miss D kvs + 1
      split <;> omega
  · obtain ⟨k0, h0, h1⟩ := List.mem_flatMap.mp hk
    exact fo.step k0 (gm k0 h0) k h1
end K39
end Text_K39Q9

section Text_K39Q10
set_option Elab.async false set_option linter.all false set_option maxRecDepth 100000 set_option maxHeartbeats 4000000
/-! Lone readers. -/
namespace K39
open PySem PySem.Spec PyProof.Rows L2
variable {P : Program} {w : World} {K : PySem.W.Frag} {mg : Str → Option Value} {base : Heap}
/-- a reader of which the table shows that no text has two ways -/
structure LoneOk (R : Rd) : Prop where
  ok : R.Ok
  far : ∃ (D : List Nd) (G : Nd → Prop), FarOk R D G ∧ (∀ k ∈ lastNd R, G k) ∧ ∀ k ∈ begNd R, ¬ G k
def sp_Twins_init (w : World) (K : PySem.W.Frag) : Sp := fun vs H Q E => ∃ (a dx C r : Addr) (R : Rd) (D : List Nd) (G : Nd → Prop), vs = [.ref a, .ref r] ∧ C = He.ga K "Twins" ∧ H a = some (.ins C dx []) ∧ R.Ok ∧ Rdr K H r R ∧ FarOk R D G ∧ (∀ k ∈ lastNd R, G k) ∧ ∀ fa b kvs H', SameX a H H' → Twn w K H' a r fa b R kvs → keysG G kvs → Q .non H'
abbrev N_Twins_init : List Str := ["self", "reader"]
theorem sc_Twins_init : FnScope N_Twins_init ["self", "reader"] (defScope s_Twins_init) := ⟨rfl, rfl, rfl, by decide +kernel, rfl, by decide +kernel, by decide +kernel⟩
theorem p_Twins_init (T : Tx K mg) : FnR P w K mg base CX0 8 (He.ma K (He.ga K "Twins") "__init__") (sp_Twins_init w K) ∧ PySem.W.keepIn K (.ref (He.ma K (He.ga K "Twins") "__init__")) = true := by
  refine fnr_mk T.d_Twins_init sc_Twins_init (fun _ _ _ _ _ _ us h => by match us, h with | [_, _], _ => rfl) (fun vs H Q E ⟨a, dx, C, r, R, D, G, e, eC, ha, ok, hr0, fo, gl, q⟩ => by rw [e]; rfl) fun cdv A outer s H vs Q E hr ⟨a, dx, C, r, R, D, G, e, eC, ha, ok, hr0, fo, gl, q⟩ => ?_
  subst e
  have hu := hr.units
  have hu1 := hu_of hr
  have nd := sc_Twins_init.nd
  refine ⟨_, (pss_cons (ps_fld (pv 0) (pv 1) rfl)
      (pss_cons (ps_fld (pv 0) (pe_ndNew cD) rfl)
      (pss_cons (ps_fld (pv 0) (cg (p_turned_of T) hr (pa_cons (pv 1) pa_nil)) rfl)
      (pss_one (ps_expr (cm (pv 0) T.c_Twins T.m_Twins_fill (p_Twins_fill T).1 hr (pa_cons (cm0 (pv 0) T.c_Twins T.m_Twins_last_ones (p_Twins_last_ones T).1 hr) pa_nil))))))), ?_⟩
  subst eC
  have l6 := sz60
  have ll := asc_len ok.ls ok.lsn
  have n6 := ok.n60
  refine ⟨_, rfl, _, rfl, a, _, dx, _, rfl, ha, T.c_Twins, T.n_Twins_own_reader, by simp, ?_⟩
  rw [putF_new [] rfl (by decide)]
  refine fun fa o nfa hn => ?_
  have afa : a ≠ fa := (ne_of_none upd_same nfa)
  refine ⟨_, rfl, a, _, dx, _, rfl, by rw [upd_ne afa, upd_same], T.c_Twins, T.n_Twins_own_far, by simp, ?_⟩
  rw [putF_new ["own_reader"] rfl (by decide)]
  have nH : H fa = none := by rwa [upd_ne (Ne.symm afa)] at nfa
  have x1 : SameX a H (upd H a (.ins (He.ga K "Twins") dx (([] : List (Str × V)) ++ ([("own_reader", .ref r)] : List (Str × V))))) := (SameX.refl _ _).put
  have x3 : ∀ o', SameX a H (upd (upd (upd H a (.ins (He.ga K "Twins") dx (([] : List (Str × V)) ++ ([("own_reader", .ref r)] : List (Str × V))))) fa o) a o') := fun o' => (x1.new nH).put
  have hn3 : ∀ (fs : List (Str × V)), ND w K (upd (upd (upd H a (.ins (He.ga K "Twins") dx (([] : List (Str × V)) ++ ([("own_reader", .ref r)] : List (Str × V))))) fa o) a (.ins (He.ga K "Twins") dx fs)) cD fa [] := fun fs =>
    hn.to (TLe.ins (by rw [upd_ne afa, upd_same])) (by rw [upd_ne (Ne.symm afa)])
  refine ⟨_, rfl, r, R, rfl, ok, hr0.sx (x3 _) ha (by decide), fun b H4 s4 hb => ?_⟩
  have a4 := s4 _ _ (upd_same (H := upd (upd H a (.ins (He.ga K "Twins") dx (([] : List (Str × V)) ++ ([("own_reader", .ref r)] : List (Str × V))))) fa o) (a := a) (o := .ins (He.ga K "Twins") dx (([] : List (Str × V)) ++ ([("own_reader", .ref r)] : List (Str × V)) ++ ([("own_far", .ref fa)] : List (Str × V)))))
  refine ⟨_, rfl, a, _, dx, _, rfl, a4, T.c_Twins, T.n_Twins_own_backs, by simp, ?_⟩
  rw [putF_new ["own_reader", "own_far"] rfl (by decide)]
  have x4 : ∀ o', SameX a H (upd H4 a o') := fun o' => ((x3 _).trans s4.x).put
  have n4 := (hn3 _).same s4
  have tw : Twn w K (upd H4 a (.ins (He.ga K "Twins") dx (twFs r fa b))) a r fa b R [] :=
    ⟨dx, upd_same, hr0.sx (x4 _) ha (by decide), hb.sx (SameX.refl a H4).put a4 (by simp), n4.to (TLe.ins a4) (by rw [upd_ne (Ne.symm afa)])⟩
  refine ⟨_, rfl, a, dx, _, rfl, upd_same, rfl, _, rfl, a, dx, _, rfl, upd_same, rfl, a, r, fa, b, R, [], rfl, by omega, tw, fun c ys H5 s5 hc dy => ?_⟩
  refine ⟨a, r, fa, b, c, R, [], ys, lastNd R, D, G, rfl, fo, hc, dy, gl, tw.same s5, (fun k h => absurd rfl h), fun kvs' H6 s6 tw6 kg => ?_⟩
  refine q fa b kvs' H6 (fun z u e n => ?_) tw6 kg
  exact s6 _ _ (s5 _ _ (x4 _ _ _ e n)) (ne_of_none e nH)
def sp_Twins_told (w : World) (K : PySem.W.Frag) : Sp := fun vs H Q E => ∃ (y rd fa b : Addr) (R : Rd) (kvs : List (Nd × V)), vs = [.ref y] ∧ R.fs.length ≤ 60 ∧ Twn w K H y rd fa b R kvs ∧ (∀ k ∈ begNd R, valV kvs k = none) ∧ ∀ H', Same H H' → Q .non H'
abbrev N_Twins_told : List Str := ["self", "nodes", "found", "left", "letter", "later"]
theorem sc_Twins_told : FnScope N_Twins_told ["self"] (defScope s_Twins_told) := ⟨rfl, rfl, rfl, by decide +kernel, rfl, by decide +kernel, by decide +kernel⟩
theorem p_Twins_told (T : Tx K mg) : FnR P w K mg base CX0 3 (He.ma K (He.ga K "Twins") "told") (sp_Twins_told w K) ∧ PySem.W.keepIn K (.ref (He.ma K (He.ga K "Twins") "told")) = true := by
  refine fnr_mk T.d_Twins_told sc_Twins_told (fun _ _ _ _ _ _ us h => by match us, h with | [_], _ => rfl) (fun vs H Q E ⟨y, rd, fa, b, R, kvs, e, hl, h, hb, q⟩ => by rw [e]; rfl) fun cdv A outer s H vs Q E hr ⟨y, rd, fa, b, R, kvs, e, hl, h, hb, q⟩ => ?_
  subst e
  have hu := hr.units
  have hu1 := hu_of hr
  have nd := sc_Twins_told.nd
  refine ⟨_, (pss_cons (ps_par (i := 1) (j := 2) (by rfl) nd rfl rfl (by decide) rfl rfl (pa_cons (cm0 (pv 0) T.c_Twins T.m_Twins_begun (p_Twins_begun T).1 hr) (pa_cons pe_str pa_nil)) (by rfl))
      (pss_cons (ps_set (i := 3) nd rfl (Or.inl rfl) (cm (pv 0) T.c_Twins T.m_Twins_far (p_Twins_far T).1 hr (pa_cons (pv 1) pa_nil)))
      (pss_cons (ps_if (pt_cmpR op_isN (pv 3) pe_non (nomark _)) (pss_one (ps_ret pe_non)) pss_nil)
      (pss_cons ps_never (pss_one ps_never))))), ?_⟩
  have l6 := sz60
  have lm : R.fs.length * R.fs.length ≤ 60 * 60 := Nat.mul_le_mul hl hl
  have lp := prsI_len R.fs
  obtain ⟨dx, h1, h2, h3, h4⟩ := id h
  refine ⟨_, rfl, y, dx, _, rfl, h1, rfl, y, rd, fa, b, R, kvs, rfl, hl, h, fun c ys H1 s1 hc dy => ⟨_, _, rfl, ?_⟩⟩
  refine ⟨_, rfl, y, dx, _, rfl, s1 _ _ h1, rfl, _, rfl, y, rd, fa, b, c, R, kvs, ys, begNd R, rfl, by unfold begNd; rw [List.length_map]; omega, h.same s1, hc, dy, hb, fun H2 s2 => ?_⟩
  exact ⟨_, rfl, rfl, true, by simp, iteT (q _ (s1.trans s2))⟩
def sp_two_of (w : World) (K : PySem.W.Frag) : Sp := fun vs H Q E => ∃ (r : Addr) (R : Rd), vs = [.ref r] ∧ LoneOk R ∧ Rdr K H r R ∧ ∀ H', Same H H' → Q .non H'
abbrev N_two_of : List Str := ["reader"]
theorem sc_two_of : FnScope N_two_of ["reader"] (defScope s_two_of) := ⟨rfl, rfl, rfl, by decide +kernel, rfl, by decide +kernel, by decide +kernel⟩
theorem p_two_of (T : Tx K mg) : Fn P w K mg base 10 "two_of" (sp_two_of w K) := by
  refine fn_mk T.d_two_of T.g_two_of sc_two_of (fun _ _ _ _ _ _ us h => by match us, h with | [_], _ => rfl) (fun vs H Q E ⟨r, R, e, lo, h, q⟩ => by rw [e]; rfl) fun cdv A outer s H vs Q E hr ⟨r, R, e, lo, h, q⟩ => ?_
  subst e
  have hu := hr.units
  have hu1 := hu_of hr
  have nd := sc_two_of.nd
  refine ⟨_, (pss_one (ps_ret (cm0 (StX.pe_makeR T.k_Twins (p_Twins_init T).1 (hr.mono (by decide)) (by rfl) T.g_Twins pass0 (pa_cons (pv 0) pa_nil)) T.c_Twins T.m_Twins_told (p_Twins_told T).1 hr))), ?_⟩
  obtain ⟨D, G, fo, gl, gb⟩ := lo.far
  have lf := asc_len lo.ok.fs lo.ok.fsn
  have n6 := lo.ok.n60
  refine ⟨_, rfl, fun x dx nx ndx nex => ?_⟩
  have k := make_tle (o1 := .own x) (o2 := .ins (He.ga K "Twins") dx []) nx ndx
  refine ⟨x, dx, _, r, R, D, G, rfl, rfl, upd_same, lo.ok, h.same k, fo, gl, fun fa b kvs H' sx tw kg => ⟨rfl, ?_⟩⟩
  have sm := make_same sx nx ndx
  obtain ⟨dx', t1, t2⟩ := id tw
  refine ⟨x, dx', _, rfl, t1, rfl, x, r, fa, b, R, kvs, rfl, by omega, tw, fun k hk => ?_, fun H2 s2 => q _ (sm.trans s2)⟩
  cases hv : valV kvs k with
  | none => rfl
  | some v => exact absurd (kg k (by rw [hv]; nofun)) (gb k hk)
def sp_require_lone (w : World) (K : PySem.W.Frag) : Sp := fun vs H Q E => ∃ (r : Addr) (R : Rd), vs = [.ref r] ∧ LoneOk R ∧ Rdr K H r R ∧ ∀ H', Same H H' → Q .non H'
abbrev N_require_lone : List Str := ["reader", "text"]
theorem sc_require_lone : FnScope N_require_lone ["reader"] (defScope s_require_lone) := ⟨rfl, rfl, rfl, by decide +kernel, rfl, by decide +kernel, by decide +kernel⟩
theorem p_require_lone (T : Tx K mg) : Fn P w K mg base 11 "require_lone" (sp_require_lone w K) := by
  refine fn_mk T.d_require_lone T.g_require_lone sc_require_lone (fun _ _ _ _ _ _ us h => by match us, h with | [_], _ => rfl) (fun vs H Q E ⟨r, R, e, lo, h, q⟩ => by rw [e]; rfl) fun cdv A outer s H vs Q E hr ⟨r, R, e, lo, h, q⟩ => ?_
  subst e
  have hu := hr.units
  have hu1 := hu_of hr
  have nd := sc_require_lone.nd
  refine ⟨_, (pss_cons (ps_set (i := 1) nd rfl (Or.inl rfl) (cg (p_two_of T) hr (pa_cons (pv 0) pa_nil)))
      (pss_one (ps_if (pt_cmpR op_notN (pv 1) pe_non (nomark _)) (pss_one ps_never) pss_nil))), ?_⟩
  refine ⟨_, rfl, r, R, rfl, lo, h, fun H1 s1 => ?_⟩
  exact ⟨_, rfl, rfl, false, by simp, iteF (q _ s1)⟩
end K39
end Text_K39Q10

section Text_K39Q11
set_option Elab.async false set_option linter.all false set_option maxRecDepth 100000 set_option maxHeartbeats 4000000
/-! What a reader has beside another. -/
namespace K39
open PySem PySem.Spec PyProof.Rows L2
variable {P : Program} {w : World} {K : PySem.W.Frag} {mg : Str → Option Value} {base : Heap}
/-- two readers of which the tally may be made -/
structure BothOk (A B : Rd) : Prop where
  oa : A.Ok
  ob : B.Ok
  lets : A.L = B.L
  ok : (A.both B).Ok
  lf : A.fs.length * B.fs.length ≤ 4000
  ll : A.ls.length * B.ls.length ≤ 4000
def wps (A B : Rd) : List (Int × Rd) := [(1, A), (-1, A.both B)]
theorem BothOk.ps {A B : Rd} (h : BothOk A B) : PsOk A.L (wps A B) where
  ne := by simp [wps]
  len := by simp [wps]
  one := by simp [wps]
  ok := by
    intro p hp
    simp [wps] at hp
    rcases hp with rfl | rfl
    · exact h.oa
    · exact h.ok
  lets := by
    intro p hp
    simp [wps] at hp
    rcases hp with rfl | rfl <;> rfl
  wid := by
    have h1 := h.oa.n60
    have h2 := h.ok.n60
    simp [wps, wid]; omega
def sp_within_tally (w : World) (K : PySem.W.Frag) : Sp := fun vs H Q E => ∃ (a b : Addr) (A B : Rd), vs = [.ref a, .ref b] ∧ BothOk A B ∧ Rdr K H a A ∧ Rdr K H b B ∧ ∀ y H', Same H H' → Tly K H' y A.L (wps A B) → Q (.ref y) H'
abbrev N_within_tally : List Str := ["one", "other"]
theorem sc_within_tally : FnScope N_within_tally ["one", "other"] (defScope s_within_tally) := ⟨rfl, rfl, rfl, by decide +kernel, rfl, by decide +kernel, by decide +kernel⟩
theorem p_within_tally (T : Tx K mg) : Fn P w K mg base 8 "within_tally" (sp_within_tally w K) := by
  refine fn_mk T.d_within_tally T.g_within_tally sc_within_tally (fun _ _ _ _ _ _ us h => by match us, h with | [_, _], _ => rfl) (fun vs H Q E ⟨a, b, A, B, e, ok, hA, hB, q⟩ => by rw [e]; rfl) fun cdv A outer s H vs Q E hr ⟨a, b, A, B, e, ok, hA, hB, q⟩ => ?_
  subst e
  have hu := hr.units
  have hu1 := hu_of hr
  have nd := sc_within_tally.nd
  refine ⟨_, (pss_one (ps_ret (StX.pe_makeR T.k_Tally (p_Tally_init T).1 (hr.mono (by decide)) (by rfl) T.g_Tally pass0 (pa_cons (pe_tup (pa_cons (pe_tup (pa_cons pe_int (pa_cons (pv 0) pa_nil))) (pa_cons (pe_tup (pa_cons (pe_un un_neg pe_int) (pa_cons (cg (p_both_of T) hr (pa_cons (pv 0) (pa_cons (pv 1) pa_nil))) pa_nil))) pa_nil))) pa_nil)))), ?_⟩
  have l6 := sz60
  refine ⟨_, rfl, by show 2 ≤ sizeLine; omega, fun t1 n1 => ?_⟩
  have s1 : Same H (upd H t1 (.tup [.int 1, .ref a])) := Same.new n1
  refine ⟨_, rfl, _, rfl, _, rfl, a, b, A, B, rfl, ok.oa, ok.ob, ok.lets, ok.ok, ok.lf, ok.ll, hA.same s1, hB.same s1, fun c H2 s2 hc => ?_⟩
  refine ⟨by show 2 ≤ sizeLine; omega, fun t2 n2 => ?_⟩
  refine ⟨by show 2 ≤ sizeLine; omega, fun t3 n3 => ?_⟩
  refine fun y dy ny ndy nye => ?_
  have s23 : Same H2 (upd (upd H2 t2 (.tup [.int (-1), .ref c])) t3 (.tup [.ref t1, .ref t2])) := (Same.new n2).trans (Same.new n3)
  have k := make_tle (o1 := .own y) (o2 := .ins (He.ga K "Tally") dy []) ny ndy
  have sB := s23.trans k
  have sA := (s1.trans s2).trans sB
  have e1 : SqT K (upd (upd (upd (upd H2 t2 (.tup [.int (-1), .ref c])) t3 (.tup [.ref t1, .ref t2])) dy (.own y)) y (.ins (He.ga K "Tally") dy [])) t1 [.int 1, .ref a] := SqT.tle (s2.trans sB).tle (SqT.of upd_same)
  have e2 : SqT K (upd (upd (upd (upd H2 t2 (.tup [.int (-1), .ref c])) t3 (.tup [.ref t1, .ref t2])) dy (.own y)) y (.ins (He.ga K "Tally") dy [])) t2 [.int (-1), .ref c] := SqT.tle ((Same.new n3).trans k).tle (SqT.of upd_same)
  have e3 : SqT K (upd (upd (upd (upd H2 t2 (.tup [.int (-1), .ref c])) t3 (.tup [.ref t1, .ref t2])) dy (.own y)) y (.ins (He.ga K "Tally") dy [])) t3 [.ref t1, .ref t2] := SqT.tle k.tle (SqT.of upd_same)
  refine ⟨y, dy, _, A.L, wps A B, .ref t3, rfl, rfl, upd_same, ⟨t3, _, rfl, e3, .cons ⟨t1, a, rfl, e1, hA.same sA⟩ (.cons ⟨t2, c, rfl, e2, hc.same sB⟩ .nil)⟩, ok.ps, fun H' sx hy => ⟨rfl, q y H' ?_ hy⟩⟩
  exact ((s1.trans s2).trans s23).trans (make_same sx ny ndy)
def sp_require_two (w : World) (K : PySem.W.Frag) : Sp := fun vs H Q E => ∃ (a b : Addr) (A B : Rd), vs = [.ref a, .ref b] ∧ A.L = B.L ∧ Rdr K H a A ∧ Rdr K H b B ∧ Q .non H
abbrev N_require_two : List Str := ["one", "other"]
theorem sc_require_two : FnScope N_require_two ["one", "other"] (defScope s_require_two) := ⟨rfl, rfl, rfl, by decide +kernel, rfl, by decide +kernel, by decide +kernel⟩
theorem p_require_two (T : Tx K mg) : Fn P w K mg base 2 "require_two" (sp_require_two w K) := by
  refine fn_mk T.d_require_two T.g_require_two sc_require_two (fun _ _ _ _ _ _ us h => by match us, h with | [_, _], _ => rfl) (fun vs H Q E ⟨a, b, A, B, e, eL, hA, hB, q⟩ => by rw [e]; rfl) fun cdv A outer s H vs Q E hr ⟨a, b, A, B, e, eL, hA, hB, q⟩ => ?_
  subst e
  have hu := hr.units
  have hu1 := hu_of hr
  have nd := sc_require_two.nd
  refine ⟨_, (pss_cons (ps_expr (cg (p_require_reader T) hr (pa_cons (pv 0) pa_nil)))
      (pss_cons (ps_expr (cg (p_require_reader T) hr (pa_cons (pv 1) pa_nil)))
      (pss_one (ps_if (pt_cmpR op_ne (pe_fld (pv 0) rfl) (pe_fld (pv 1) rfl) (nomark _)) (pss_one ps_never) pss_nil)))), ?_⟩
  refine ⟨_, rfl, a, A, rfl, hA, _, rfl, b, B, rfl, hB, ?_⟩
  obtain ⟨dx, sl, fv, lv, av, dm, h1, _⟩ := id hA
  obtain ⟨dx2, sl2, fv2, lv2, av2, dm2, h2, _⟩ := id hB
  refine ⟨_, rfl, a, _, dx, _, _, rfl, h1, T.c_Reader, T.n_Reader_own_letters, rfl, _, rfl, b, _, dx2, _, _, rfl, h2, T.c_Reader, T.n_Reader_own_letters, rfl, ?_⟩
  refine ⟨rfl, false, by simp [eL], iteF q⟩
def sp_require_pair (w : World) (K : PySem.W.Frag) : Sp := fun vs H Q E => ∃ (a b : Addr) (A B : Rd), vs = [.ref a, .ref b] ∧ A.L = B.L ∧ LoneOk B ∧ Rdr K H a A ∧ Rdr K H b B ∧ ∀ H', Same H H' → Q .non H'
abbrev N_require_pair : List Str := ["one", "other"]
theorem sc_require_pair : FnScope N_require_pair ["one", "other"] (defScope s_require_pair) := ⟨rfl, rfl, rfl, by decide +kernel, rfl, by decide +kernel, by decide +kernel⟩
theorem p_require_pair (T : Tx K mg) : Fn P w K mg base 12 "require_pair" (sp_require_pair w K) := by
  refine fn_mk T.d_require_pair T.g_require_pair sc_require_pair (fun _ _ _ _ _ _ us h => by match us, h with | [_, _], _ => rfl) (fun vs H Q E ⟨a, b, A, B, e, eL, lo, hA, hB, q⟩ => by rw [e]; rfl) fun cdv A outer s H vs Q E hr ⟨a, b, A, B, e, eL, lo, hA, hB, q⟩ => ?_
  subst e
  have hu := hr.units
  have hu1 := hu_of hr
  have nd := sc_require_pair.nd
  refine ⟨_, (pss_cons (ps_expr (cg (p_require_two T) hr (pa_cons (pv 0) (pa_cons (pv 1) pa_nil))))
      (pss_one (ps_expr (cg (p_require_lone T) hr (pa_cons (pv 1) pa_nil))))), ?_⟩
  exact ⟨_, rfl, _, rfl, a, b, A, B, rfl, eL, hA, hB, _, rfl, b, B, rfl, lo, hB, fun H1 s1 => q _ s1⟩
def sp_is_within_of (w : World) (K : PySem.W.Frag) : Sp := fun vs H Q E => ∃ (a b : Addr) (A B : Rd), vs = [.ref a, .ref b] ∧ BothOk A B ∧ Rdr K H a A ∧ Rdr K H b B ∧ ∀ k H', Same H H' → (k = true ↔ ∀ t, t < wid (wps A B) → tot (wps A B) t = 0) → Q (.bl k) H'
abbrev N_is_within_of : List Str := ["one", "other"]
theorem sc_is_within_of : FnScope N_is_within_of ["one", "other"] (defScope s_is_within_of) := ⟨rfl, rfl, rfl, by decide +kernel, rfl, by decide +kernel, by decide +kernel⟩
theorem p_is_within_of (T : Tx K mg) : Fn P w K mg base 9 "is_within_of" (sp_is_within_of w K) := by
  refine fn_mk T.d_is_within_of T.g_is_within_of sc_is_within_of (fun _ _ _ _ _ _ us h => by match us, h with | [_, _], _ => rfl) (fun vs H Q E ⟨a, b, A, B, e, ok, hA, hB, q⟩ => by rw [e]; rfl) fun cdv A outer s H vs Q E hr ⟨a, b, A, B, e, ok, hA, hB, q⟩ => ?_
  subst e
  have hu := hr.units
  have hu1 := hu_of hr
  have nd := sc_is_within_of.nd
  refine ⟨_, (pss_one (ps_ret (pe_cmpR op_isN (cg (p_length_of T) hr (pa_cons (cg (p_within_tally T) hr (pa_cons (pv 0) (pa_cons (pv 1) pa_nil))) pa_nil)) pe_non (nomark _)))), ?_⟩
  refine ⟨_, rfl, _, rfl, a, b, A, B, rfl, ok, hA, hB, fun y H1 s1 hy => ?_⟩
  refine ⟨y, A.L, wps A B, rfl, ok.ps, hy, fun v H2 s2 hv => ⟨rfl, q _ _ (s1.trans s2) ?_⟩⟩
  rcases hv with ⟨rfl, hz⟩ | ⟨t, rfl, ht, hz⟩
  · simp; exact hz
  · simp; exact ⟨t, ht, hz⟩
def sp_is_within (w : World) (K : PySem.W.Frag) : Sp := fun vs H Q E => ∃ (a b : Addr) (A B : Rd), vs = [.ref a, .ref b] ∧ BothOk A B ∧ LoneOk B ∧ Rdr K H a A ∧ Rdr K H b B ∧ ∀ k H', Same H H' → (k = true ↔ ∀ t, t < wid (wps A B) → tot (wps A B) t = 0) → Q (.bl k) H'
abbrev N_is_within : List Str := ["one", "other"]
theorem sc_is_within : FnScope N_is_within ["one", "other"] (defScope s_is_within) := ⟨rfl, rfl, rfl, by decide +kernel, rfl, by decide +kernel, by decide +kernel⟩
theorem p_is_within (T : Tx K mg) : Fn P w K mg base 13 "is_within" (sp_is_within w K) := by
  refine fn_mk T.d_is_within T.g_is_within sc_is_within (fun _ _ _ _ _ _ us h => by match us, h with | [_, _], _ => rfl) (fun vs H Q E ⟨a, b, A, B, e, ok, lo, hA, hB, q⟩ => by rw [e]; rfl) fun cdv A outer s H vs Q E hr ⟨a, b, A, B, e, ok, lo, hA, hB, q⟩ => ?_
  subst e
  have hu := hr.units
  have hu1 := hu_of hr
  have nd := sc_is_within.nd
  refine ⟨_, (pss_cons (ps_expr (cg (p_require_pair T) hr (pa_cons (pv 0) (pa_cons (pv 1) pa_nil))))
      (pss_one (ps_ret (cg (p_is_within_of T) hr (pa_cons (pv 0) (pa_cons (pv 1) pa_nil)))))), ?_⟩
  refine ⟨_, rfl, _, rfl, a, b, A, B, rfl, ok.lets, lo, hA, hB, fun H1 s1 => ?_⟩
  exact ⟨_, rfl, _, rfl, a, b, A, B, rfl, ok, hA.same s1, hB.same s1, fun k H2 s2 hk => q k _ (s1.trans s2) hk⟩
def lateI (ps : List (Int × Rd)) : List Int := ((List.range (2 * wid ps)).map (tot ps)).drop (wid ps)
def sp_late_totals (w : World) (K : PySem.W.Frag) : Sp := fun vs H Q E => ∃ (y : Addr) (L : List Nat) (ps : List (Int × Rd)), vs = [.ref y] ∧ PsOk L ps ∧ Tly K H y L ps ∧ ∀ b H', Same H H' → SqL K H' b ((lateI ps).map V.int) → Q (.ref b) H'
abbrev N_late_totals : List Str := ["tally"]
theorem sc_late_totals : FnScope N_late_totals ["tally"] (defScope s_late_totals) := ⟨rfl, rfl, rfl, by decide +kernel, rfl, by decide +kernel, by decide +kernel⟩
theorem p_late_totals (T : Tx K mg) : Fn P w K mg base 4 "late_totals" (sp_late_totals w K) := by
  refine fn_mk T.d_late_totals T.g_late_totals sc_late_totals (fun _ _ _ _ _ _ us h => by match us, h with | [_], _ => rfl) (fun vs H Q E ⟨y, L, ps, e, ok, h, q⟩ => by rw [e]; rfl) fun cdv A outer s H vs Q E hr ⟨y, L, ps, e, ok, h, q⟩ => ?_
  subst e
  have hu := hr.units
  have hu1 := hu_of hr
  have nd := sc_late_totals.nd
  refine ⟨_, (pss_one (ps_ret (pe_slice sl_list (cm (pv 0) T.c_Tally T.m_Tally_totals_below (p_Tally_totals_below T).1 hr (pa_cons (pe_op op_mul pe_int (pe_fld (pv 0) rfl)) pa_nil)) (po_some (pe_fld (pv 0) rfl)) po_none))), ?_⟩
  have wl := ok.wid
  obtain ⟨dx, pv, h1, h2⟩ := id h
  refine ⟨_, rfl, y, dx, _, rfl, h1, rfl, _, rfl, y, _, dx, _, _, rfl, h1, T.c_Tally, T.n_Tally_own_width, rfl, _, _, rfl, rfl, .inl ⟨by omega, by omega⟩, y, L, ps, 2 * wid ps, ?_, by omega, ok, h, fun b H1 s1 hb => ?_⟩
  · show [V.ref y, V.int (2 * ((wid ps : Nat) : Int))] = _
    push_cast; rfl
  refine ⟨_, rfl, y, _, dx, _, _, rfl, s1 _ _ h1, T.c_Tally, T.n_Tally_own_width, rfl, _, rfl, ?_⟩
  dsimp only [tNoPart]
  refine ⟨b, _, rfl, hb, fun p np => q p _ (s1.trans (Same.new np)) (SqL.of ?_)⟩
  rw [upd_same, cutVn, lateI, List.map_drop]
def isLate (A B : Rd) : Bool := (lateI (wps A B)).any fun n => n != 0
def sp_is_nearly_within (w : World) (K : PySem.W.Frag) : Sp := fun vs H Q E => ∃ (a b : Addr) (A B : Rd), vs = [.ref a, .ref b] ∧ BothOk A B ∧ LoneOk B ∧ Rdr K H a A ∧ Rdr K H b B ∧ ∀ H', Same H H' → Q (.bl (!isLate A B)) H'
abbrev N_is_nearly_within : List Str := ["one", "other"]
theorem sc_is_nearly_within : FnScope N_is_nearly_within ["one", "other"] (defScope s_is_nearly_within) := ⟨rfl, rfl, rfl, by decide +kernel, rfl, by decide +kernel, by decide +kernel⟩
theorem p_is_nearly_within (T : Tx K mg) : Fn P w K mg base 13 "is_nearly_within" (sp_is_nearly_within w K) := by
  refine fn_mk T.d_is_nearly_within T.g_is_nearly_within sc_is_nearly_within (fun _ _ _ _ _ _ us h => by match us, h with | [_, _], _ => rfl) (fun vs H Q E ⟨a, b, A, B, e, ok, lo, hA, hB, q⟩ => by rw [e]; rfl) fun cdv A outer s H vs Q E hr ⟨a, b, A, B, e, ok, lo, hA, hB, q⟩ => ?_
  subst e
  have hu := hr.units
  have hu1 := hu_of hr
  have nd := sc_is_nearly_within.nd
  refine ⟨_, (pss_cons (ps_expr (cg (p_require_pair T) hr (pa_cons (pv 0) (pa_cons (pv 1) pa_nil))))
      (pss_one (ps_ret (pe_not (pe_callB (cr_anyI rfl) (by rfl) T.b_any (by decide +kernel) (pa_cons (cg (p_late_totals T) hr (pa_cons (cg (p_within_tally T) hr (pa_cons (pv 0) (pa_cons (pv 1) pa_nil))) pa_nil)) pa_nil)))))), ?_⟩
  refine ⟨_, rfl, _, rfl, a, b, A, B, rfl, ok.lets, lo, hA, hB, fun H1 s1 => ?_⟩
  refine ⟨_, rfl, _, rfl, a, b, A, B, rfl, ok, hA.same s1, hB.same s1, fun y H2 s2 hy => ?_⟩
  refine ⟨y, A.L, wps A B, rfl, ok.ps, hy, fun c H3 s3 hc => ?_⟩
  exact ⟨c, _, rfl, hc, _, rfl, q _ ((s1.trans s2).trans s3)⟩
def restI (A B : Rd) : Int := ((List.range (wid (wps A B))).map (tot (wps A B))).sum
def sp_rest (w : World) (K : PySem.W.Frag) : Sp := fun vs H Q E => ∃ (a b : Addr) (A B : Rd), vs = [.ref a, .ref b] ∧ BothOk A B ∧ LoneOk A ∧ LoneOk B ∧ Rdr K H a A ∧ Rdr K H b B ∧ ∀ H', Same H H' → Q (if isLate A B then .non else .int (restI A B)) H'
abbrev N_rest : List Str := ["one", "other", "tally"]
theorem sc_rest : FnScope N_rest ["one", "other"] (defScope s_rest) := ⟨rfl, rfl, rfl, by decide +kernel, rfl, by decide +kernel, by decide +kernel⟩
theorem p_rest (T : Tx K mg) : Fn P w K mg base 13 "rest" (sp_rest w K) := by
  refine fn_mk T.d_rest T.g_rest sc_rest (fun _ _ _ _ _ _ us h => by match us, h with | [_, _], _ => rfl) (fun vs H Q E ⟨a, b, A, B, e, ok, loA, lo, hA, hB, q⟩ => by rw [e]; rfl) fun cdv A outer s H vs Q E hr ⟨a, b, A, B, e, ok, loA, lo, hA, hB, q⟩ => ?_
  subst e
  have hu := hr.units
  have hu1 := hu_of hr
  have nd := sc_rest.nd
  refine ⟨_, (pss_cons (ps_expr (cg (p_require_pair T) hr (pa_cons (pv 0) (pa_cons (pv 1) pa_nil))))
      (pss_cons (ps_expr (cg (p_require_lone T) hr (pa_cons (pv 0) pa_nil)))
      (pss_cons (ps_set (i := 2) nd rfl (Or.inl rfl) (cg (p_within_tally T) hr (pa_cons (pv 0) (pa_cons (pv 1) pa_nil))))
      (pss_one (ps_ret (pe_ifExp (pt_val (pe_callB (cr_anyI rfl) (by rfl) T.b_any (by decide +kernel) (pa_cons (cg (p_late_totals T) hr (pa_cons (pv 2) pa_nil)) pa_nil))) pe_non (pe_callB (cr_sum rfl) (by rfl) T.b_sum (by decide +kernel) (pa_cons (cm (pv 2) T.c_Tally T.m_Tally_totals_below (p_Tally_totals_below T).1 hr (pa_cons (pe_fld (pv 2) rfl) pa_nil)) pa_nil)))))))), ?_⟩
  have wl := ok.ps.wid
  refine ⟨_, rfl, _, rfl, a, b, A, B, rfl, ok.lets, lo, hA, hB, fun H1 s1 => ?_⟩
  refine ⟨_, rfl, a, A, rfl, loA, hA.same s1, fun H2 s2 => ?_⟩
  have s12 := s1.trans s2
  refine ⟨_, rfl, _, rfl, a, b, A, B, rfl, ok, hA.same s12, hB.same s12, fun y H3 s3 hy => ?_⟩
  have s13 := s12.trans s3
  refine ⟨_, rfl, y, A.L, wps A B, rfl, ok.ps, hy, fun c H4 s4 hc => ?_⟩
  have s14 := s13.trans s4
  refine ⟨c, _, rfl, hc, _, rfl, ?_⟩
  have q' := q _ s14
  unfold isLate at q
  cases hl : (lateI (wps A B)).any fun n => n != 0 with
  | true =>
    rw [hl] at q
    exact q _ s14
  | false =>
    rw [hl] at q
    obtain ⟨dx, pv, h1, h2⟩ := id (hy.same s4)
    refine ⟨_, rfl, y, dx, _, rfl, h1, rfl, _, rfl, y, _, dx, _, _, rfl, h1, T.c_Tally, T.n_Tally_own_width, rfl, y, A.L, wps A B, wid (wps A B), rfl, by omega, ok.ps, hy.same s4, fun d H5 s5 hd => ?_⟩
    exact ⟨d, _, rfl, hd, q _ (s14.trans s5)⟩
end K39
end Text_K39Q11

section Text_K39L1
set_option Elab.async false set_option linter.all false set_option maxRecDepth 100000 set_option maxHeartbeats 4000000
/-! The law's dice. -/
namespace K39
open PySem PySem.Spec PyProof.Rows L2
variable {P : Program} {w : World} {K : PySem.W.Frag} {mg : Str → Option Value} {base : Heap}
def CPowB (i j : Int) : Prop := 0 ≤ j ∧ (Builtin.Int.intBits i : Int) * j ≤ 2 ^ 27
theorem op_powB {X : Cx} : OpR X (binaryOp .Pow) (rI CPowB fun i j => .int (i ^ j.toNat)) := opI fun _ _ _ _ _ _ _ hc q => pow_int hc.1 hc.2 q
def PotAt (H : Hp) (p : Addr) : Prop := ∃ a b c : Int, H p = some (.lst [.int a, .int b, .int c])
theorem PotAt.tle {H : Hp} {p : Addr} {o : HO} (h : PotAt H p) : TLe H (upd H p o) := let ⟨_, _, _, h⟩ := h; TLe.lst h
theorem PotAt.to {H H' : Hp} {p : Addr} (h : PotAt H p) (s : SameX p H H') : TLe H H' := let ⟨_, _, _, h⟩ := h; s.to h
theorem PotAt.same {H H' : Hp} {p : Addr} (h : PotAt H p) (s : Same H H') : PotAt H' p := let ⟨a, b, c, h⟩ := h; ⟨a, b, c, s _ _ h⟩
theorem ix3 (n k : Nat) (h : k < n) : ixN n (k : Int) = some k := by unfold ixN; rw [if_pos (by omega), if_pos (by omega)]; simp
def sp_l_bit (w : World) (K : PySem.W.Frag) : Sp := fun vs H Q E => ∃ (p : Addr) (n : Nat), vs = [.ref p, .int (n : Int)] ∧ 0 < n ∧ n < 1000 ∧ PotAt H p ∧ ∀ (r : Nat) H', r < n → SameX p H H' → PotAt H' p → Q (.int (r : Int)) H'
abbrev N_l_bit : List Str := ["_law_pot_here", "_law_much", "_law_found", "_law_first", "_law_later"]
theorem sc_l_bit : FnScope N_l_bit ["_law_pot_here", "_law_much"] (defScope s_l_bit) := ⟨rfl, rfl, rfl, by decide +kernel, rfl, by decide +kernel, by decide +kernel⟩
theorem p_l_bit (T : Tx K mg) : Fn P w K mg base 1 "_law_bit" (sp_l_bit w K) := by
  refine fn_mk T.d_l_bit T.g_l_bit sc_l_bit (fun _ _ _ _ _ _ us h => by match us, h with | [_, _], _ => rfl) (fun vs H Q E ⟨p, n, e, h0, h1, ⟨a, b, c, hp⟩, q⟩ => by rw [e]; rfl) fun cdv A outer s H vs Q E hr ⟨p, n, e, h0, h1, ⟨a, b, c, hp⟩, q⟩ => ?_
  subst e
  have hu := hr.units
  have hu1 := hu_of hr
  have nd := sc_l_bit.nd
  refine ⟨_, (pss_cons (ps_if (pt_cmpR op_gt (pe_ix ix_list (pv 0) pe_int (fun _ _ => rfl)) pe_int (nomark _)) (pss_cons (ps_set (i := 2) nd rfl (Or.inl rfl) (pe_op op_mod (pe_callTy call_int1 (by rfl) T.b_int (by decide +kernel) (pa_cons (pe_ix ix_list (pv 0) pe_int (fun _ _ => rfl)) pa_nil)) (pv 1)))
        (pss_cons (ps_asg (pe_op op_fdivW (pe_ix ix_list (pv 0) pe_int (fun _ _ => rfl)) (pv 1)) (pg_sub (pv 0) pe_int set_list))
        (pss_one (ps_ret (pv 2))))) pss_nil)
      (pss_cons (ps_asg (pe_op op_add (pe_ix ix_list (pv 0) pe_int (fun _ _ => rfl)) pe_int) (pg_sub (pv 0) pe_int set_list))
      (pss_cons (ps_set (i := 3) nd rfl (Or.inl rfl) (pe_op op_mod (pe_callTy call_int1 (by rfl) T.b_int (by decide +kernel) (pa_cons (pe_op op_add (pe_ix ix_list (pv 0) pe_int (fun _ _ => rfl)) (pe_op op_mul pe_int (pe_ix ix_list (pv 0) pe_int (fun _ _ => rfl)))) pa_nil)) pe_int))
      (pss_cons (ps_set (i := 4) nd rfl (Or.inl rfl) (pe_op op_add (pe_op op_mul (pe_op op_mod (pe_callTy call_int1 (by rfl) T.b_int (by decide +kernel) (pa_cons (pe_op op_mul (pv 3) (pv 3)) pa_nil)) pe_int) (pv 3)) (pe_op op_mul pe_int (pe_ix ix_list (pv 0) pe_int (fun _ _ => rfl)))))
      (pss_one (ps_ret (pe_op op_mod (pe_callTy call_int1 (by rfl) T.b_int (by decide +kernel) (pa_cons (pe_op op_fdivW (pe_op op_mod (pe_callTy call_int1 (by rfl) T.b_int (by decide +kernel) (pa_cons (pv 4) pa_nil)) pe_int) pe_int) pa_nil)) (pv 1)))))))), ?_⟩
  have nat : ∀ (x : Int) (H' : Hp), SameX p H H' → PotAt H' p → Q (.int (x % (n : Int))) H' := fun x H' s hp => by
    have l1 := Int.emod_nonneg x (b := (n : Int)) (by omega)
    have l2 := Int.emod_lt_of_pos x (b := (n : Int)) (by omega)
    have := q (x % (n : Int)).toNat H' (by omega) s hp
    rwa [Int.toNat_of_nonneg l1] at this
  have lg : ((n : Int)).natAbs.log2 < 9000 := by
    have : (n : Int).natAbs = n := by simp
    rw [this]
    have := Nat.log2_lt (n := n) (k := 10) (by omega)
    omega
  refine ⟨_, rfl, p, _, _, _, rfl, rfl, SqL.of hp, (atI_nat (j := 0) rfl), _, _, rfl, rfl, ⟨decide (a > 0), rfl, ?_⟩⟩
  by_cases ha : a > 0
  · rw [decide_eq_true ha]
    refine iteT ?_
    refine ⟨_, rfl, p, _, _, _, rfl, rfl, SqL.of hp, (atI_nat (j := 0) rfl), .inl ⟨_, rfl, _, rfl, _, _, rfl, rfl, by omega, ?_⟩⟩
    refine ⟨_, rfl, p, _, _, _, rfl, rfl, SqL.of hp, (atI_nat (j := 0) rfl), _, rfl, _, _, rfl, rfl, ⟨by omega, lg⟩, _, rfl, p, _, _, _, rfl, rfl, hp, ix3 3 0 (by decide), ?_⟩
    exact ⟨_, rfl, nat _ _ (SameX.refl _ _).put ⟨_, _, _, upd_same⟩⟩
  · rw [decide_eq_false ha]
    refine iteF ?_
    refine ⟨_, rfl, p, _, _, _, rfl, rfl, SqL.of hp, (atI_nat (j := 2) rfl), _, _, rfl, rfl, _, rfl, p, _, _, _, rfl, rfl, hp, ix3 3 2 (by decide), ?_⟩
    have hp1 : (upd H p (.lst ([.int a, .int b, .int c].set 2 (.int (c + 1))))) p = some (.lst [.int a, .int b, .int (c + 1)]) := upd_same
    have f1 := Int.emod_nonneg (b + 1000453 * (c + 1)) (b := 2305843009213693951) (by omega)
    have f2 := Int.emod_lt_of_pos (b + 1000453 * (c + 1)) (b := 2305843009213693951) (by omega)
    refine ⟨_, rfl, p, _, _, _, rfl, rfl, SqL.of hp1, (atI_nat (j := 1) rfl), _, rfl, p, _, _, _, rfl, rfl, SqL.of hp1, (atI_nat (j := 2) rfl), _, _, rfl, rfl, .inl ⟨by omega, by omega⟩, _, _, rfl, rfl, .inl ⟨_, rfl, _, _, rfl, rfl, by omega, ?_⟩⟩
    refine ⟨_, rfl, _, rfl, _, _, rfl, rfl, .inl ⟨by omega, by omega⟩, .inl ⟨_, rfl, _, _, rfl, rfl, by omega, _, rfl, _, _, rfl, rfl, .inr ⟨by omega, by omega⟩, _, rfl, p, _, _, _, rfl, rfl, SqL.of hp1, (atI_nat (j := 2) rfl), _, _, rfl, rfl, .inl ⟨by omega, by omega⟩, _, _, rfl, rfl, ?_⟩⟩
    exact ⟨_, rfl, .inl ⟨_, rfl, _, _, rfl, rfl, by omega, _, _, rfl, rfl, ⟨by omega, by decide +kernel⟩, .inl ⟨_, rfl, _, rfl, _, _, rfl, rfl, by omega, nat _ _ (SameX.refl _ _).put ⟨_, _, _, hp1⟩⟩⟩⟩
def sp_l_pot (w : World) (K : PySem.W.Frag) : Sp := fun vs H Q E => ∃ (s : Addr) (ns : List Int) (n : Nat), vs = [.ref s, .int (n : Int)] ∧ SqL K H s (ns.map V.int) ∧ ∀ p H', Same H H' → H p = none → PotAt H' p → Q (.ref p) H'
abbrev N_l_pot : List Str := ["_law_script", "_law_at", "_law_cell", "_law_great", "_law_blend"]
theorem sc_l_pot : FnScope N_l_pot ["_law_script", "_law_at"] (defScope s_l_pot) := ⟨rfl, rfl, rfl, by decide +kernel, rfl, by decide +kernel, by decide +kernel⟩
theorem p_l_pot (T : Tx K mg) : Fn P w K mg base 1 "_law_pot" (sp_l_pot w K) := by
  refine fn_mk T.d_l_pot T.g_l_pot sc_l_pot (fun _ _ _ _ _ _ us h => by match us, h with | [_, _], _ => rfl) (fun vs H Q E ⟨s0, ns, n, e, hs, q⟩ => by rw [e]; rfl) fun cdv A outer s H vs Q E hr ⟨s0, ns, n, e, hs, q⟩ => ?_
  subst e
  have hu := hr.units
  have hu1 := hu_of hr
  have nd := sc_l_pot.nd
  refine ⟨_, (pss_cons (ps_set (i := 2) nd rfl (Or.inl rfl) (pe_ifExp (pt_cmpR op_lt (pv 1) (pe_callB cr_lenQ (by rfl) T.b_len (by decide +kernel) (pa_cons (pv 0) pa_nil)) (nomark _)) (pe_ix ix_list (pv 0) (pv 1) (fun _ _ => rfl)) (pe_op op_add (pe_op op_mul pe_int (pv 1)) pe_int)))
      (pss_cons (ps_set (i := 3) nd rfl (Or.inl rfl) (pe_op op_mod (pe_callTy call_int1 (by rfl) T.b_int (by decide +kernel) (pa_cons (pe_callB call_abs (by rfl) T.b_abs (by decide +kernel) (pa_cons (pv 2) pa_nil)) pa_nil)) (pe_op op_powB (pe_op op_pow pe_int pe_int) pe_int)))
      (pss_cons (ps_set (i := 4) nd rfl (Or.inl rfl) (pe_op op_add (pe_op op_add (pe_op op_add (pe_op op_mul (pe_op op_mod (pe_callTy call_int1 (by rfl) T.b_int (by decide +kernel) (pa_cons (pv 3) pa_nil)) pe_int) pe_int) (pe_op op_mul pe_int (pv 1))) (pe_op op_mul pe_int (pe_callTy call_int1 (by rfl) T.b_int (by decide +kernel) (pa_cons (pe_cmpR op_lt (pv 2) pe_int (nomark _)) pa_nil)))) pe_int))
      (pss_one (ps_ret (pe_lst (pa_cons (pe_callB (call_max2 rfl) (by rfl) T.b_max (by decide +kernel) (pa_cons pe_int (pa_cons (pe_op op_sub (pv 3) (pe_op op_pow pe_int pe_int)) pa_nil))) (pa_cons (pe_op op_mod (pe_callTy call_int1 (by rfl) T.b_int (by decide +kernel) (pa_cons (pv 4) pa_nil)) pe_int) (pa_cons pe_int pa_nil))))))))), ?_⟩
  have l6 := sz60
  refine ⟨_, rfl, _, rfl, s0, _, rfl, .inl hs, _, _, rfl, rfl, ⟨decide ((n : Int) < ((ns.map V.int).length : Nat)), rfl, ?_⟩⟩
  by_cases hn : n < ns.length
  · rw [decide_eq_true (by rw [List.length_map]; omega)]
    refine iteT ⟨_, rfl, _, rfl, s0, _, _, _, rfl, rfl, hs, atI_nat (j := n) (v := .int (ns[n])) (by rw [List.getElem?_map, List.getElem?_eq_getElem hn]; rfl), ?_⟩
    generalize ns[n] = cell
    refine ⟨_, rfl, _, rfl, .inl ⟨_, rfl, _, _, rfl, rfl, ⟨by decide, by decide, by decide⟩, _, _, rfl, rfl, ⟨by decide, by decide +kernel⟩, _, _, rfl, rfl, (show (0 : Int) < (10 ^ Int.toNat 61) ^ Int.toNat 11 by decide +kernel), ?_⟩⟩
    refine ⟨_, rfl, .inl ⟨_, rfl, _, _, rfl, rfl, by omega, _, _, rfl, rfl, .inr ⟨by omega, by omega⟩, _, rfl, _, _, rfl, rfl, .inl ⟨by omega, by omega⟩, _, _, rfl, rfl, _, rfl, _, _, rfl, rfl, .inr ⟨_, rfl, _, _, rfl, rfl, .inl ⟨by omega, by omega⟩, _, _, rfl, rfl, _, _, rfl, rfl, ?_⟩⟩⟩
    refine ⟨_, rfl, _, _, rfl, rfl, ⟨by decide, by decide, by decide⟩, _, _, rfl, rfl, _, _, rfl, _, rfl, .inl ⟨_, rfl, _, _, rfl, rfl, by omega, by show 3 ≤ sizeLine; omega, fun p np => q p _ (Same.new np) np ⟨_, _, _, upd_same⟩⟩⟩
  · rw [decide_eq_false (by rw [List.length_map]; omega)]
    refine iteF ⟨_, rfl, _, _, rfl, rfl, .inl ⟨by omega, by omega⟩, _, _, rfl, rfl, ?_⟩
    generalize (67 * (n : Int) + 37) = cell
    refine ⟨_, rfl, _, rfl, .inl ⟨_, rfl, _, _, rfl, rfl, ⟨by decide, by decide, by decide⟩, _, _, rfl, rfl, ⟨by decide, by decide +kernel⟩, _, _, rfl, rfl, (show (0 : Int) < (10 ^ Int.toNat 61) ^ Int.toNat 11 by decide +kernel), ?_⟩⟩
    refine ⟨_, rfl, .inl ⟨_, rfl, _, _, rfl, rfl, by omega, _, _, rfl, rfl, .inr ⟨by omega, by omega⟩, _, rfl, _, _, rfl, rfl, .inl ⟨by omega, by omega⟩, _, _, rfl, rfl, _, rfl, _, _, rfl, rfl, .inr ⟨_, rfl, _, _, rfl, rfl, .inl ⟨by omega, by omega⟩, _, _, rfl, rfl, _, _, rfl, rfl, ?_⟩⟩⟩
    refine ⟨_, rfl, _, _, rfl, rfl, ⟨by decide, by decide, by decide⟩, _, _, rfl, rfl, _, _, rfl, _, rfl, .inl ⟨_, rfl, _, _, rfl, rfl, by omega, by show 3 ≤ sizeLine; omega, fun p np => q p _ (Same.new np) np ⟨_, _, _, upd_same⟩⟩⟩
def sp_l_pick (w : World) (K : PySem.W.Frag) : Sp := fun vs H Q E => ∃ (p a : Addr) (ws : List V), vs = [.ref p, .ref a] ∧ H a = some (.lst ws) ∧ a ≠ p ∧ 0 < ws.length ∧ ws.length < 1000 ∧ PotAt H p ∧ ∀ (j : Nat) v H', ws[j]? = some v → SameX p H H' → PotAt H' p → Q v H'
abbrev N_l_pick : List Str := ["_law_pot_here", "_law_items"]
theorem sc_l_pick : FnScope N_l_pick ["_law_pot_here", "_law_items"] (defScope s_l_pick) := ⟨rfl, rfl, rfl, by decide +kernel, rfl, by decide +kernel, by decide +kernel⟩
theorem p_l_pick (T : Tx K mg) : Fn P w K mg base 2 "_law_pick" (sp_l_pick w K) := by
  refine fn_mk T.d_l_pick T.g_l_pick sc_l_pick (fun _ _ _ _ _ _ us h => by match us, h with | [_, _], _ => rfl) (fun vs H Q E ⟨p, a, ws, e, ha, ne, h0, h1, hp, q⟩ => by rw [e]; rfl) fun cdv A outer s H vs Q E hr ⟨p, a, ws, e, ha, ne, h0, h1, hp, q⟩ => ?_
  subst e
  have hu := hr.units
  have hu1 := hu_of hr
  have nd := sc_l_pick.nd
  refine ⟨_, (pss_one (ps_ret (pe_ix ix_seq (pv 1) (cg (p_l_bit T) hr (pa_cons (pv 0) (pa_cons (pe_callB cr_lenQ (by rfl) T.b_len (by decide +kernel) (pa_cons (pv 1) pa_nil)) pa_nil))) (fun _ _ => rfl)))), ?_⟩
  refine ⟨_, rfl, _, rfl, _, rfl, a, _, rfl, .inl (SqL.of ha), p, ws.length, rfl, h0, h1, hp, fun r H1 hr1 s1 p1 => ?_⟩
  exact .inl ⟨a, ws, _, _, rfl, rfl, SqL.of (s1 _ _ ha ne), atI_nat (List.getElem?_eq_getElem hr1), q r _ _ (List.getElem?_eq_getElem hr1) s1 p1⟩
end K39
end Text_K39L1

section Text_K39L2
set_option Elab.async false set_option linter.all false set_option maxRecDepth 100000 set_option maxHeartbeats 4000000
/-! Dealt things. -/
namespace K39
open PySem PySem.Spec PyProof.Rows L2
variable {P : Program} {w : World} {K : PySem.W.Frag} {mg : Str → Option Value} {base : Heap}
theorem perm_erase {α : Type} : ∀ {l : List α} {k : Nat} {y : α}, l[k]? = some y → (y :: l.eraseIdx k).Perm l
  | [], _, _, h => by simp at h
  | x :: l, 0, y, h => by simp at h; subst h; exact .refl _
  | x :: l, k + 1, y, h => by
    have h' : l[k]? = some y := by simpa using h
    exact (List.Perm.swap x y (l.eraseIdx k)).trans (List.Perm.cons x (perm_erase h'))
theorem PotAt.upd {H : Hp} {p q : Addr} {o : HO} (h : PotAt H p) (n : p ≠ q) : PotAt (L2.upd H q o) p := let ⟨a, b, c, h⟩ := h; ⟨a, b, c, by rw [upd_ne n]; exact h⟩
theorem map_eraseI {α β : Type} (f : α → β) : ∀ (l : List α) (j : Nat), (l.eraseIdx j).map f = (l.map f).eraseIdx j
  | [], _ => rfl
  | _ :: _, 0 => rfl
  | x :: l, j + 1 => by
    show f x :: (l.eraseIdx j).map f = f x :: (l.map f).eraseIdx j
    rw [map_eraseI f l j]
theorem eN_sortable (l : List Nat) : PySem.W.Sortable (l.map eN) := by
  refine .inr fun d hd => ?_
  obtain ⟨x, _, rfl⟩ := List.mem_map.mp hd
  exact ⟨nofun, nofun⟩
theorem cutVh (xs : List V) (n : Nat) : cutV xs none (some (n : Int)) = xs.take n := by
  unfold cutV
  rw [HT.sIx_nat, HT.sIx_none, List.drop_zero, Nat.sub_zero]
  by_cases h : n ≤ xs.length
  · rw [Nat.min_eq_left h]
  · rw [Nat.min_eq_right (by omega), List.take_length, List.take_of_length_le (by omega)]
def sp_l_dealt (w : World) (K : PySem.W.Frag) : Sp := fun vs H Q E => ∃ (p a : Addr) (ns : List Int), vs = [.ref p, .ref a] ∧ H a = some (.lst (ns.map V.int)) ∧ a ≠ p ∧ ns.length < 100 ∧ PotAt H p ∧ ∀ (b : Addr) (ms : List Int) H', SameX p H H' → PotAt H' p → H b = none → H' b = some (.lst (ms.map V.int)) → ms.Perm ns → Q (.ref b) H'
abbrev N_l_dealt : List Str := ["_law_pot_here", "_law_items", "_law_waits", "_law_turn"]
theorem sc_l_dealt : FnScope N_l_dealt ["_law_pot_here", "_law_items"] (defScope s_l_dealt) := ⟨rfl, rfl, rfl, by decide +kernel, rfl, by decide +kernel, by decide +kernel⟩
theorem p_l_dealt (T : Tx K mg) : Fn P w K mg base 2 "_law_dealt" (sp_l_dealt w K) := by
  refine fn_mk T.d_l_dealt T.g_l_dealt sc_l_dealt (fun _ _ _ _ _ _ us h => by match us, h with | [_, _], _ => rfl) (fun vs H Q E ⟨p, a, ns, e, ha, ne, hl, hp, q⟩ => by rw [e]; rfl) fun cdv A outer s H vs Q E hr ⟨p, a, ns, e, ha, ne, hl, hp, q⟩ => ?_
  subst e
  have hu := hr.units
  have hu1 := hu_of hr
  have nd := sc_l_dealt.nd
  refine ⟨_, (pss_cons (ps_set (i := 2) nd rfl (Or.inr rfl) (pe_callTy call_list_of (by rfl) T.b_list (by decide +kernel) (pa_cons (pv 1) pa_nil)))
      (pss_one (ps_ret (pe_lc (own := [("_law_turn", 3)]) rfl nd (pi_range1 (by rfl) T.b_range (pa_cons (pe_callB cr_lenQ (by rfl) T.b_len (by decide +kernel) (pa_cons (pv 1) pa_nil)) pa_nil)) (blkOk_by (N := N_l_dealt) (sc := defScope s_l_dealt) (by decide +kernel)) (fun _ _ _ _ _ => (pg_name (i := 3) nd rfl (Or.inl rfl) (Or.inr rfl))) (fun _ _ _ _ _ => pts_nil) (fun _ _ _ _ _ => (show PE _ _ (tBM K "list" rPopAt _ _) from pe_bm PySem.F.plainAttrs_list PySem.F.slot_list_pop PySem.F.type_list_pop mt_popAt (pv 2) (pa_cons (cg (p_l_bit T) hr (pa_cons (pv 0) (pa_cons (pe_callB (show CallR _ _ (rLenQ K) from cr_lenQ) (by rfl) T.b_len (by decide +kernel) (pa_cons (pv 2) pa_nil)) pa_nil))) pa_nil))))))), ?_⟩
  have l6 := sz60
  refine ⟨_, rfl, a, _, rfl, .inl (SqL.of ha), fun W nW => ?_⟩
  have s0 : Same H (upd H W (.lst (ns.map V.int))) := Same.new nW
  obtain ⟨x, y, z, hx⟩ := id hp
  have pW : p ≠ W := ne_of_none hx nW
  have ln : (ns.map V.int).length = ns.length := List.length_map ..
  refine ⟨_, rfl, a, _, rfl, .inl (SqL.of (s0 _ _ ha)), _, rfl, by omega, by omega, fun D nD => ?_⟩
  have nDH : H D = none := none_of_same s0 nD
  have WD : W ≠ D := ne_of_none (upd_same (H := H) (a := W)) nD
  have pD : p ≠ D := ne_of_none hx nDH
  refine lc_it walk_range (fun i H' => SameX p H H' ∧ PotAt H' p ∧ ∃ tk rs : List Int, H' W = some (.lst (rs.map V.int)) ∧ H' D = some (.lst (tk.map V.int)) ∧ (tk ++ rs).Perm ns ∧ tk.length = i)
    ⟨((s0.trans (Same.new nD)).x), (hp.same s0).same (Same.new nD), [], ns, by rw [upd_ne WD, upd_same], upd_same, .refl _, rfl⟩ (fun _ _ _ _ => trivial) (fun i x H1 H2 hi ⟨s1, p1, tk, rs, hW, hD, pm, lt⟩ yy => ?_) fun H1 ⟨s1, p1, tk, rs, hW, hD, pm, lt⟩ => ?_
  · obtain ⟨rfl, rfl⟩ := yy
    have li : i < ns.length := by omega
    have lr := pm.length_eq
    rw [List.length_append] at lr
    refine ⟨rfl, tYes_if ⟨_, rfl, .inl ⟨rfl, _, SqL.of hW⟩, _, rfl, _, rfl, W, _, rfl, .inl (SqL.of hW), p, (rs.map V.int).length, rfl, by rw [List.length_map]; omega, by rw [List.length_map]; omega, p1, fun r H3 hr s3 p3 => ?_⟩⟩
    have hr' : r < rs.length := by rwa [List.length_map] at hr
    have hW3 := s3 _ _ hW (Ne.symm pW)
    have hD3 := s3 _ _ hD (Ne.symm pD)
    have hy : rs[r]? = some rs[r] := List.getElem?_eq_getElem hr'
    refine ⟨W, _, _, r, .int rs[r], rfl, rfl, hW3, by omega, by omega, ?_, by rw [List.getElem?_map, hy]; rfl, _, by rw [upd_ne (Ne.symm WD)]; exact hD3, by rw [List.length_map]; omega, ?_⟩
    · rw [List.length_map]; exact (PySem.seqIndex_of (by omega) (by omega)).trans (by simp)
    · refine ⟨?_, ?_, tk ++ [rs[r]], rs.eraseIdx r, ?_, ?_, ?_, by simp; omega⟩
      · exact ((s1.trans s3).new nW).new nDH
      · exact (p3.upd pW).upd pD
      · rw [upd_ne WD, upd_same, map_eraseI]
      · rw [upd_same, List.map_append]; rfl
      · rw [List.append_assoc]
        exact (List.Perm.append_left tk (perm_erase hy)).trans pm
  · have lr := pm.length_eq
    rw [List.length_append] at lr
    have e0 : rs = [] := List.eq_nil_of_length_eq_zero (by simp at lt; omega)
    rw [e0, List.append_nil] at pm
    exact q D tk H1 s1 p1 nDH hD pm
def sp_l_some_of (w : World) (K : PySem.W.Frag) : Sp := fun vs H Q E => ∃ (p a : Addr) (ns : List Nat) (k : Nat), vs = [.ref p, .ref a, .int (k : Int)] ∧ H a = some (.lst (ns.map fun n : Nat => V.int (n : Int))) ∧ a ≠ p ∧ ns.Nodup ∧ k ≤ ns.length ∧ ns.length < 100 ∧ PotAt H p ∧
   ∀ (v : V) (l : List Nat) H', SameX p H H' → PotAt H' p → Dt K H' v (eNs l) → l.Pairwise (· < ·) → (∀ q ∈ l, q ∈ ns) → Q v H'
abbrev N_l_some_of : List Str := ["_law_pot_here", "_law_items", "_law_least", "_law_much"]
theorem sc_l_some_of : FnScope N_l_some_of ["_law_pot_here", "_law_items", "_law_least"] (defScope s_l_some_of) := ⟨rfl, rfl, rfl, by decide +kernel, rfl, by decide +kernel, by decide +kernel⟩
theorem p_l_some_of (T : Tx K mg) : Fn P w K mg base 3 "_law_some_of" (sp_l_some_of w K) := by
  refine fn_mk T.d_l_some_of T.g_l_some_of sc_l_some_of (fun _ _ _ _ _ _ us h => by match us, h with | [_, _, _], _ => rfl) (fun vs H Q E ⟨p, a, ns, k, e, ha, ne, nn, hk, hl, hp, q⟩ => by rw [e]; rfl) fun cdv A outer s H vs Q E hr ⟨p, a, ns, k, e, ha, ne, nn, hk, hl, hp, q⟩ => ?_
  subst e
  have hu := hr.units
  have hu1 := hu_of hr
  have nd := sc_l_some_of.nd
  refine ⟨_, (pss_cons (ps_set (i := 3) nd rfl (Or.inl rfl) (pe_op op_add (pv 2) (cg (p_l_bit T) hr (pa_cons (pv 0) (pa_cons (pe_op op_add (pe_op op_sub (pe_callB cr_lenQ (by rfl) T.b_len (by decide +kernel) (pa_cons (pv 1) pa_nil)) (pv 2)) pe_int) pa_nil)))))
      (pss_one (ps_ret (pe_tupleOf (by rfl) T.b_tuple (pe_callB (cr_sortedD hu) (by rfl) T.b_sorted (by decide +kernel) (pa_cons (pe_slice sl_list (cg (p_l_dealt T) hr (pa_cons (pv 0) (pa_cons (pv 1) pa_nil))) po_none (po_some (pv 3))) pa_nil)))))), ?_⟩
  have l6 := sz60
  have eI : (ns.map fun n : Nat => V.int (n : Int)) = (ns.map fun n : Nat => (n : Int)).map V.int := by rw [List.map_map]; rfl
  refine ⟨_, rfl, _, rfl, _, rfl, a, _, rfl, .inl (SqL.of ha), _, rfl, _, _, rfl, rfl, _, _, rfl, rfl, p, ns.length - k + 1, ?_, by omega, by omega, hp, fun r H1 hr1 s1 p1 => ?_⟩
  · rw [List.length_map]
    have : ((ns.length : Nat) : Int) - (k : Int) + 1 = ((ns.length - k + 1 : Nat) : Int) := by omega
    show [V.ref p, V.int (((ns.length : Nat) : Int) - (k : Int) + 1)] = _
    rw [this]
  have ha1 := s1 _ _ ha ne
  rw [eI] at ha1
  refine ⟨_, _, rfl, rfl, ?_⟩
  refine ⟨_, rfl, _, rfl, p, a, _, rfl, ha1, ne, by rw [List.length_map]; exact hl, p1, fun b ms H2 s2 p2 nb hb pm => ?_⟩
  obtain ⟨ls, pl, rfl⟩ := perm_lift (fun n : Nat => (n : Int)) ns pm
  dsimp only [tNoPart]
  refine ⟨_, rfl, _, rfl, b, _, rfl, SqL.of hb, fun c nc => ?_⟩
  have ek : ((k : Nat) : Int) + (r : Int) = ((k + r : Nat) : Int) := by push_cast; rfl
  have es : cutV ((ls.map fun n : Nat => (n : Int)).map V.int) none (some ((k : Nat) + (r : Int))) = (ls.take (k + r)).map fun n : Nat => V.int (n : Int) := by
    rw [ek, cutVh, ← List.map_take, ← List.map_take, List.map_map]; rfl
  rw [es]
  refine ⟨c, _, (ls.take (k + r)).map eN, rfl, SqL.of upd_same, dtNs' _, nats_alike _, eN_sortable _, fun d hd => (nats_plain _ d hd).2, fun p3 zs np3 hz => ?_⟩
  have nn2 : (ls.take (k + r)).Nodup := (List.Nodup.sublist (List.take_sublist _ _) (pl.nodup_iff.mpr nn))
  have e3 : ((ls.take (k + r)).map eN).mergeSort dLe = (srtN (ls.take (k + r))).map eN := srtBy_map.symm
  rw [e3] at hz
  have tp2 : TLe H1 H2 := p1.to s2
  refine .inl ⟨p3, zs, rfl, SqL.of upd_same, fun t nt => ?_⟩
  have sN : Same H2 (upd (upd (upd H2 c (.lst ((ls.take (k + r)).map fun n : Nat => V.int (n : Int)))) p3 (.lst zs)) t (.tup zs)) := ((Same.new nc).trans (Same.new np3)).trans (Same.new nt)
  refine q (.ref t) (srtN (ls.take (k + r))) _ ((s1.trans s2).trans sN.x) (p2.same sN) (.tup (SqT.of upd_same) ((hz.same (Same.new np3)).same (Same.new nt))) (srtN_asc nn2) fun x hx => ?_
  have h1 := (srtBy_perm (e := eN) (l := ls.take (k + r))).mem_iff.mp hx
  exact pl.mem_iff.mp (List.mem_of_mem_take h1)
end K39
end Text_K39L2

section Text_K39M
set_option Elab.async false set_option linter.all false set_option maxRecDepth 100000 set_option maxHeartbeats 4000000
/-! sorted(a list or a tuple). -/
namespace K39
open PySem PySem.Spec PyProof.Rows L2
section
variable {X : Cx}
def rSortedB (K : PySem.W.Frag) : List V → Hp → VK → Prop := fun vs H Q => ∃ (a : Addr) (xs : List V) (ds : List PyData), vs = [.ref a] ∧ (SqL K H a xs ∨ SqT K H a xs) ∧ DtAll K H xs ds ∧ PySem.W.AllAlike ds ∧ PySem.W.Sortable ds ∧ (∀ d ∈ ds, d.depth ≤ 32) ∧
  ∀ p ys, H p = none → DtAll K H ys (ds.mergeSort dLe) → Q (.ref p) (upd H p (.lst ys))
theorem cr_sortedB (hu : X.A.units + 64 < cLine) : CallR X (.builtin "sorted") (rSortedB X.K) := by
  intro pins s σ H vs us Q I r h
  obtain ⟨a, xs, ds, rfl, hs, hd, al, so, dp, q⟩ := h
  rcases hs with hs | hs
  · exact cr_sortedD hu pins s σ H _ us Q I r ⟨a, xs, ds, rfl, hs, hd, al, so, dp, q⟩
  obtain rfl := Vals.ref1 r
  obtain ⟨its, rv, pt, hz⟩ := I.tuple hs
  refine sorted_of I hu fun R hR => ?_
  obtain ⟨o, ho, hc, n, hd'⟩ := id pt
  have lz := rv.length
  refine wpAny_collect_seq (hsz := by simp; omega) a (.inr rfl) ho hc hd' fun h' k => ?_
  exact hR _ _ xs ds k rfl rfl (by simpa using rv) hd al so dp (by rw [← hd.length]; exact hz) q
end
end K39
end Text_K39M

section Text_K39L3
set_option Elab.async false set_option linter.all false set_option maxRecDepth 100000 set_option maxHeartbeats 4000000
/-! The law's own readers, told as dicts. -/
namespace K39
open PySem PySem.Spec PyProof.Rows L2
variable {P : Program} {w : World} {K : PySem.W.Frag} {mg : Str → Option Value} {base : Heap}
abbrev lK4 (L : List Nat) (n : Nat) (hv tv : V) : List (Key × V) := [(Sum.inr "signs", .str (tx L)), (Sum.inr "size", .int (n : Int)), (Sum.inr "heads", hv), (Sum.inr "tails", tv)]
abbrev lK5 (R : Rd) (hv tv av : V) : List (Key × V) := [(Sum.inr "signs", .str (tx R.L)), (Sum.inr "size", .int (R.n : Int)), (Sum.inr "heads", hv), (Sum.inr "tails", tv), (Sum.inr "links", av)]
theorem lK4_merge (L : List Nat) (n : Nat) (hv tv : V) : mergeK [] (lK4 L n hv tv) = lK4 L n hv tv := by
  rfl
theorem lK5_put (R : Rd) (hv tv av : V) : putK (lK4 R.L R.n hv tv) (Sum.inr "links") av = lK5 R hv tv av := by
  rfl
/-- a reader of the law's at d -/
def LRd (K : PySem.W.Frag) (H : Hp) (d : Addr) (R : Rd) : Prop := ∃ hv tv av, H d = some (.dK (lK5 R hv tv av)) ∧ Dt K H hv (eNs R.fs) ∧ Dt K H tv (eNs R.ls) ∧ Dt K H av (.tuple (R.ar.map eA))
theorem LRd.same {H H' : Hp} {d : Addr} {R : Rd} (h : LRd K H d R) (s : Same H H') : LRd K H' d R := by
  obtain ⟨hv, tv, av, h1, h2, h3, h4⟩ := h
  exact ⟨hv, tv, av, s _ _ h1, h2.same s, h3.same s, h4.same s⟩
/-- a list or a tuple of such data -/
def SeqD (K : PySem.W.Frag) (H : Hp) (v : V) (ds : List PyData) : Prop := ∃ a xs, v = .ref a ∧ (SqL K H a xs ∨ SqT K H a xs) ∧ DtAll K H xs ds
theorem SeqD.same {H H' : Hp} {v : V} {ds : List PyData} (h : SeqD K H v ds) (s : Same H H') : SeqD K H' v ds := by
  obtain ⟨a, xs, e, h1, h2⟩ := h
  exact ⟨a, xs, e, h1.imp (fun z => s.seq z) (fun z => SqT.tle s.tle z), h2.same s⟩
def mkR (L : List Nat) (n : Nat) (fs ls : List Nat) (ar : List Arr) : Rd := ⟨L, n, srtN fs, srtN ls, srtA ar⟩
def sp_l_told_reader (w : World) (K : PySem.W.Frag) : Sp := fun vs H Q E => ∃ (L : List Nat) (n : Nat) (x y z : V) (fs ls : List Nat) (ar : List Arr), vs = [.str (tx L), .int (n : Int), x, y, z] ∧ SeqD K H x (fs.map eN) ∧ SeqD K H y (ls.map eN) ∧ SeqD K H z (ar.map eA) ∧ ∀ d H', Same H H' → H d = none → LRd K H' d (mkR L n fs ls ar) → Q (.ref d) H'
abbrev N_l_told_reader : List Str := ["_law_signs_here", "_law_much", "_law_heads", "_law_tails", "_law_links", "_law_found"]
theorem sc_l_told_reader : FnScope N_l_told_reader ["_law_signs_here", "_law_much", "_law_heads", "_law_tails", "_law_links"] (defScope s_l_told_reader) := ⟨rfl, rfl, rfl, by decide +kernel, rfl, by decide +kernel, by decide +kernel⟩
theorem p_l_told_reader (T : Tx K mg) : Fn P w K mg base 1 "_law_told_reader" (sp_l_told_reader w K) := by
  refine fn_mk T.d_l_told_reader T.g_l_told_reader sc_l_told_reader (fun _ _ _ _ _ _ us h => by match us, h with | [_, _, _, _, _], _ => rfl) (fun vs H Q E ⟨L, n, x, y, z, fs, ls, ar, e, hx, hy, hz, q⟩ => by rw [e]; rfl) fun cdv A outer s H vs Q E hr ⟨L, n, x, y, z, fs, ls, ar, e, hx, hy, hz, q⟩ => ?_
  subst e
  have hu := hr.units
  have hu1 := hu_of hr
  have nd := sc_l_told_reader.nd
  refine ⟨_, (pss_cons (ps_set (i := 5) nd rfl (Or.inl rfl) (pe_disp (pps_cons pe_str (pv 0) (pps_cons pe_str (pv 1) (pps_cons pe_str (pe_tupleOf (by rfl) T.b_tuple (pe_callB (cr_sortedB hu) (by rfl) T.b_sorted (by decide +kernel) (pa_cons (pv 2) pa_nil))) (pps_cons pe_str (pe_tupleOf (by rfl) T.b_tuple (pe_callB (cr_sortedB hu) (by rfl) T.b_sorted (by decide +kernel) (pa_cons (pv 3) pa_nil))) pps_nil)))) (by rfl) (by rfl) (fun z => by cases z) (by decide)))
      (pss_cons (ps_dput hu1 (pv 5) pe_str (pe_tupleOf (by rfl) T.b_tuple (pe_callB (cr_sortedB hu) (by rfl) T.b_sorted (by decide +kernel) (pa_cons (pv 4) pa_nil))) rfl)
      (pss_one (ps_ret (pv 5))))), ?_⟩
  have l6 := sz60
  refine fun d nd => ?_
  have s0 : Same H (upd H d (.dK [])) := Same.new nd
  obtain ⟨a, xs, rfl, sx, dx⟩ := hx.same s0
  refine ⟨_, rfl, _, rfl, _, rfl, a, xs, _, rfl, sx, dx, nats_alike _, eN_sortable _, fun d hd => (nats_plain _ d hd).2, fun p1 ys1 np1 hy1 => .inl ⟨p1, ys1, rfl, SqL.of upd_same, fun t1 nt1 => ?_⟩⟩
  rw [← srtBy_map] at hy1
  have s1 : Same (upd H d (.dK [])) (upd (upd (upd H d (.dK [])) p1 (.lst ys1)) t1 (.tup ys1)) := (Same.new np1).trans (Same.new nt1)
  obtain ⟨b, zs, rfl, sy, dy⟩ := hy.same (s0.trans s1)
  refine ⟨_, rfl, b, zs, _, rfl, sy, dy, nats_alike _, eN_sortable _, fun d hd => (nats_plain _ d hd).2, fun p2 ys2 np2 hy2 => .inl ⟨p2, ys2, rfl, SqL.of upd_same, fun t2 nt2 => ?_⟩⟩
  rw [← srtBy_map] at hy2
  have s2 := (Same.new (o := .lst ys2) np2).trans (Same.new (o := .tup ys2) nt2)
  refine ⟨(s1.trans s2) _ _ upd_same, lK4 L n (.ref t1) (.ref t2), rfl, by simp, ?_⟩
  rw [lK4_merge]
  have e1 : Dt K _ (.ref t1) (eNs (srtN fs)) := .tup (SqT.of upd_same) ((hy1.same (Same.new np1)).same (Same.new nt1))
  have e2 : Dt K _ (.ref t2) (eNs (srtN ls)) := .tup (SqT.of upd_same) ((hy2.same (Same.new np2)).same (Same.new nt2))
  have sA := (s0.trans s1).trans s2
  have hd0 := (s1.trans s2) _ _ (upd_same (H := H) (a := d) (o := .dK []))
  have sB := sA.put (o := .dK (lK4 L n (.ref t1) (.ref t2))) nd
  obtain ⟨c, us, rfl, sz, dz⟩ := hz.same sB
  refine ⟨_, rfl, c, us, _, rfl, sz, dz, eA_alike _, eA_sortable _, eA_depth _, fun p3 ys3 np3 hy3 => .inl ⟨p3, ys3, rfl, SqL.of upd_same, fun t3 nt3 => ?_⟩⟩
  rw [← srtBy_map] at hy3
  have s3 := (Same.new (o := .lst ys3) np3).trans (Same.new (o := .tup ys3) nt3)
  have e3 : Dt K _ (.ref t3) (.tuple ((srtA ar).map eA)) := .tup (SqT.of upd_same) ((hy3.same (Same.new np3)).same (Same.new nt3))
  have hd3 := s3 _ _ (upd_same (a := d) (o := .dK (lK4 L n (.ref t1) (.ref t2))))
  refine ⟨_, rfl, d, _, rfl, .inl ⟨_, Sum.inr "links", hd3, rfl, by show 4 < sizeLine; omega, rfl⟩, _, rfl, ?_⟩
  have k4 := TLe.dK (o := .dK (lK4 L n (.ref t1) (.ref t2))) hd0
  have k5 := TLe.dK (o := .dK (putK (lK4 L n (.ref t1) (.ref t2)) (Sum.inr "links") (.ref t3))) hd3
  refine q d _ ((sB.trans s3).put nd) nd ⟨.ref t1, .ref t2, .ref t3, ?_, (e1.to ((s2.tle.trans k4).trans (s3.tle.trans k5))), e2.to (k4.trans (s3.tle.trans k5)), e3.to k5⟩
  rw [upd_same]; rfl
end K39
end Text_K39L3

section Text_K39L4
set_option Elab.async false set_option linter.all false set_option maxRecDepth 100000 set_option maxHeartbeats 4000000
/-! Readers made from the law's own. -/
namespace K39
open PySem PySem.Spec PyProof.Rows L2
variable {P : Program} {w : World} {K : PySem.W.Frag} {mg : Str → Option Value} {base : Heap}
def sp_l_made_reader (w : World) (K : PySem.W.Frag) : Sp := fun vs H Q E => ∃ (d : Addr) (R : Rd), vs = [.ref d] ∧ R.Ok ∧ LRd K H d R ∧ ∀ a H', Same H H' → Rdr K H' a R → Q (.ref a) H'
abbrev N_l_made_reader : List Str := ["_law_reader"]
theorem sc_l_made_reader : FnScope N_l_made_reader ["_law_reader"] (defScope s_l_made_reader) := ⟨rfl, rfl, rfl, by decide +kernel, rfl, by decide +kernel, by decide +kernel⟩
theorem p_l_made_reader (T : Tx K mg) : Fn P w K mg base 7 "_law_made_reader" (sp_l_made_reader w K) := by
  refine fn_mk T.d_l_made_reader T.g_l_made_reader sc_l_made_reader (fun _ _ _ _ _ _ us h => by match us, h with | [_], _ => rfl) (fun vs H Q E ⟨d, R, e, ok, h, q⟩ => by rw [e]; rfl) fun cdv A outer s H vs Q E hr ⟨d, R, e, ok, h, q⟩ => ?_
  subst e
  have hu := hr.units
  have hu1 := hu_of hr
  have nd := sc_l_made_reader.nd
  refine ⟨_, (pss_one (ps_ret (StX.pe_makeR T.k_Reader (p_Reader_init T).1 (hr.mono (by decide)) (by rfl) T.g_Reader pass0 (pa_cons (pe_dget hu1 (pv 0) pe_str (fun _ _ => rfl)) (pa_cons (pe_dget hu1 (pv 0) pe_str (fun _ _ => rfl)) (pa_cons (pe_dget hu1 (pv 0) pe_str (fun _ _ => rfl)) (pa_cons (pe_dget hu1 (pv 0) pe_str (fun _ _ => rfl)) (pa_cons (pe_dget hu1 (pv 0) pe_str (fun _ _ => rfl)) pa_nil)))))))), ?_⟩
  obtain ⟨hv, tv, av, h1, h2, h3, h4⟩ := id h
  refine ⟨_, rfl, d, _, rfl, .inl ⟨_, Sum.inr "signs", .inl h1, rfl, rfl⟩, _, rfl, d, _, rfl, .inl ⟨_, Sum.inr "size", .inl h1, rfl, rfl⟩, _, rfl, d, _, rfl, .inl ⟨_, Sum.inr "heads", .inl h1, rfl, rfl⟩, _, rfl, d, _, rfl, .inl ⟨_, Sum.inr "tails", .inl h1, rfl, rfl⟩, _, rfl, d, _, rfl, .inl ⟨_, Sum.inr "links", .inl h1, rfl, rfl⟩, fun x dx nx ndx nex => ?_⟩
  have k := make_tle (o1 := .own x) (o2 := .ins (He.ga K "Reader") dx []) nx ndx
  exact ⟨x, dx, _, R, _, _, _, rfl, rfl, upd_same, ok, h2.same k, h3.same k, h4.same k, fun H' sx hr => ⟨rfl, q x H' (make_same sx nx ndx) hr⟩⟩
def flipR (R : Rd) : Rd := mkR R.L R.n R.ls R.fs (R.ar.map swA)
def sp_l_flipped (w : World) (K : PySem.W.Frag) : Sp := fun vs H Q E => ∃ (d : Addr) (R : Rd), vs = [.ref d] ∧ R.ar.length ≤ 4000 ∧ LRd K H d R ∧ ∀ c H', Same H H' → H c = none → LRd K H' c (flipR R) → Q (.ref c) H'
abbrev N_l_flipped : List Str := ["_law_reader", "_law_links", "_law_here", "_law_sign", "_law_there"]
theorem sc_l_flipped : FnScope N_l_flipped ["_law_reader"] (defScope s_l_flipped) := ⟨rfl, rfl, rfl, by decide +kernel, rfl, by decide +kernel, by decide +kernel⟩
theorem p_l_flipped (T : Tx K mg) : Fn P w K mg base 2 "_law_flipped" (sp_l_flipped w K) := by
  refine fn_mk T.d_l_flipped T.g_l_flipped sc_l_flipped (fun _ _ _ _ _ _ us h => by match us, h with | [_], _ => rfl) (fun vs H Q E ⟨d, R, e, hl, h, q⟩ => by rw [e]; rfl) fun cdv A outer s H vs Q E hr ⟨d, R, e, hl, h, q⟩ => ?_
  subst e
  have hu := hr.units
  have hu1 := hu_of hr
  have nd := sc_l_flipped.nd
  refine ⟨_, (pss_cons (ps_setLc (i := 1) (own := [("_law_here", 2), ("_law_sign", 3), ("_law_there", 4)]) rfl nd rfl rfl (sw_true rfl rfl rfl (by decide +kernel)) (pi_tup (pe_dget hu1 (pv 0) pe_str (fun _ _ => rfl))) (blkOk_by (N := N_l_flipped) (sc := defScope s_l_flipped) (by decide +kernel)) (fun _ _ _ _ _ => (show PG _ _ (gTup K 3 (gCons (gName 2) (gCons (gName 3) (gCons (gName 4) gNil)))) from pg_tup rfl (pgs_cons (pg_name (i := 2) nd rfl (Or.inl rfl) (Or.inr rfl)) (pgs_cons (pg_name (i := 3) nd rfl (Or.inl rfl) (Or.inr rfl)) (pgs_cons (pg_name (i := 4) nd rfl (Or.inl rfl) (Or.inr rfl)) pgs_nil))))) (fun _ _ _ _ _ => pts_nil) (fun _ _ _ _ _ => (pe_tup (pa_cons (pv 4) (pa_cons (pv 3) (pa_cons (pv 2) pa_nil))))))
      (pss_one (ps_ret (cg (p_l_told_reader T) hr (pa_cons (pe_dget hu1 (pv 0) pe_str (fun _ _ => rfl)) (pa_cons (pe_dget hu1 (pv 0) pe_str (fun _ _ => rfl)) (pa_cons (pe_dget hu1 (pv 0) pe_str (fun _ _ => rfl)) (pa_cons (pe_dget hu1 (pv 0) pe_str (fun _ _ => rfl)) (pa_cons (pv 1) pa_nil))))))))), ?_⟩
  have l6 := sz60
  obtain ⟨hv, tv, av, h1, h2, h3, h4⟩ := id h
  obtain ⟨a, xs, rfl, hs, da⟩ := h4.tuple
  have lx : xs.length = R.ar.length := by rw [da.length, List.length_map]
  refine ⟨_, rfl, d, _, rfl, .inl ⟨_, Sum.inr "links", .inl h1, rfl, rfl⟩, a, rfl, ⟨_, hs⟩, fun D nD => ?_⟩
  refine comp_it (walk_tup (xs := xs)) grows_at R.ar lx.symm (by omega) (fun _ => true) (fun z y H => Dt K H y (eA (swA z))) (fun a y H H' k h => h.to k) nD (fun H' sm => SqT.tle sm.tle hs) (fun i x z H' H2 hp sm y => ?_) fun ys H2 sm hy pa => ?_
  · obtain ⟨rfl, hx⟩ := y
    obtain ⟨dd, hd1, hd2⟩ := da.get' hx
    rw [List.getElem?_map, hp] at hd1
    obtain rfl := Option.some.inj hd1
    obtain ⟨t, rfl, ht⟩ := (hd2.same sm).arr
    exact turn_3 ht rfl fun C c2 => ⟨_, rfl, _, rfl, _, rfl, by show 3 ≤ sizeLine; omega, fun t nt => c2 _ _ (Same.new nt) (Dt.ofArr (a := swA z) (SqT.of upd_same))⟩
  · rw [filt] at pa
    have pd := DtAll.of (K := K) (fun z : Arr => eA (swA z)) pa
    have h1' := sm _ _ h1
    obtain ⟨b1, xs1, rfl, hs1, d1⟩ := (h3.same sm).tuple
    obtain ⟨b2, xs2, rfl, hs2, d2⟩ := (h2.same sm).tuple
    refine ⟨_, rfl, d, _, rfl, .inl ⟨_, Sum.inr "signs", .inl h1', rfl, rfl⟩, _, rfl, d, _, rfl, .inl ⟨_, Sum.inr "size", .inl h1', rfl, rfl⟩, _, rfl, d, _, rfl, .inl ⟨_, Sum.inr "tails", .inl h1', rfl, rfl⟩, _, rfl, d, _, rfl, .inl ⟨_, Sum.inr "heads", .inl h1', rfl, rfl⟩, _, rfl, ?_⟩
    refine ⟨R.L, R.n, _, _, _, R.ls, R.fs, R.ar.map swA, rfl, ⟨b1, xs1, rfl, .inr hs1, d1⟩, ⟨b2, xs2, rfl, .inr hs2, d2⟩, ⟨D, ys, rfl, .inl (SqL.of hy), by rw [List.map_map]; exact pd⟩, fun c H3 s3 nc hc => q c H3 (sm.trans s3) (none_of_same sm nc) hc⟩
end K39
end Text_K39L4

section Text_K39L5
set_option Elab.async false set_option linter.all false set_option maxRecDepth 100000 set_option maxHeartbeats 4000000
/-! Plain readers. -/
namespace K39
open PySem PySem.Spec PyProof.Rows L2
variable {P : Program} {w : World} {K : PySem.W.Frag} {mg : Str → Option Value} {base : Heap}
/-- one head, and no two arrows with one state and sign -/
structure PlainR (L : List Nat) (m : Nat) (R : Rd) : Prop where
  ok : R.Ok
  lets : R.L = L
  few : R.n ≤ m
  head : ∃ h, R.fs = [h]
  one : ∀ a ∈ R.ar, ∀ b ∈ R.ar, a.1 = b.1 → a.2.1 = b.2.1 → a = b
/-- the links made so far: states below i, and state i with the first j signs -/
structure PlInv (L : List Nat) (n i j : Nat) (as : List Arr) : Prop where
  ok : ∀ a ∈ as, a.1 < n ∧ a.2.1 ∈ L ∧ a.2.2 < n ∧ (a.1 < i ∨ (a.1 = i ∧ a.2.1 ∈ L.take j))
  nd : as.Pairwise fun a b => ¬ (a.1 = b.1 ∧ a.2.1 = b.2.1)
theorem PlInv.next {L : List Nat} {n i j : Nat} {as : List Arr} (h : PlInv L n i j as) : PlInv L n i (j + 1) as :=
  ⟨fun a ha => ⟨(h.ok a ha).1, (h.ok a ha).2.1, (h.ok a ha).2.2.1, (h.ok a ha).2.2.2.imp id fun z => ⟨z.1, List.mem_of_mem_take (i := j) (by rw [List.take_take, Nat.min_eq_left (by omega)]; exact z.2)⟩⟩, h.nd⟩
theorem PlInv.row {L : List Nat} {n i j : Nat} {as : List Arr} (h : PlInv L n i j as) : PlInv L n (i + 1) 0 as :=
  ⟨fun a ha => ⟨(h.ok a ha).1, (h.ok a ha).2.1, (h.ok a ha).2.2.1, .inl (by rcases (h.ok a ha).2.2.2 with z | z <;> omega)⟩, h.nd⟩
theorem PlInv.add {L : List Nat} {n i j c r : Nat} {as : List Arr} (h : PlInv L n i j as) (hL : L.Nodup) (hc : L[j]? = some c) (hi : i < n) (hr : r < n) : PlInv L n i (j + 1) (as ++ [(i, c, r)]) := by
  have mc : c ∈ L := List.mem_of_getElem? hc
  have nc : c ∉ L.take j := fun z => by
    rw [List.mem_take_iff_getElem] at z
    obtain ⟨k, hk, e⟩ := z
    have e1 : L[k]? = some c := by rw [List.getElem?_eq_getElem (by omega), e]
    have := (List.getElem?_inj (i := k) (j := j) (by omega) hL).mp (e1.trans hc.symm)
    omega
  refine ⟨fun a ha => ?_, ?_⟩
  · rcases List.mem_append.mp ha with z | z
    · exact h.next.ok a z
    · obtain rfl := List.mem_singleton.mp z
      exact ⟨hi, mc, hr, .inr ⟨rfl, by rw [take_one hc]; simp⟩⟩
  · refine List.pairwise_append.mpr ⟨h.nd, List.pairwise_singleton _ _, fun a ha b hb z => ?_⟩
    obtain rfl := List.mem_singleton.mp hb
    rcases (h.ok a ha).2.2.2 with q | q
    · have := z.1; simp at this; omega
    · exact nc ((show a.2.1 = c from z.2) ▸ q.2)
theorem walk_strL {L : List Nat} : (tx L).cps.toList = L := by simp [tx]
def sp_l_plain_reader (w : World) (K : PySem.W.Frag) : Sp := fun vs H Q E => ∃ (p : Addr) (L : List Nat) (m : Nat), vs = [.ref p, .str (tx L), .int (m : Int)] ∧ LetOk L ∧ 1 ≤ m ∧ m ≤ 6 ∧ PotAt H p ∧ ∀ d R H', SameX p H H' → PotAt H' p → LRd K H' d R → PlainR L m R → Q (.ref d) H'
abbrev N_l_plain_reader : List Str := ["_law_pot_here", "_law_signs_here", "_law_most", "_law_count", "_law_links", "_law_spot", "_law_sign", "_law_heads"]
theorem sc_l_plain_reader : FnScope N_l_plain_reader ["_law_pot_here", "_law_signs_here", "_law_most"] (defScope s_l_plain_reader) := ⟨rfl, rfl, rfl, by decide +kernel, rfl, by decide +kernel, by decide +kernel⟩
theorem p_l_plain_reader (T : Tx K mg) : Fn P w K mg base 4 "_law_plain_reader" (sp_l_plain_reader w K) := by
  refine fn_mk T.d_l_plain_reader T.g_l_plain_reader sc_l_plain_reader (fun _ _ _ _ _ _ us h => by match us, h with | [_, _, _], _ => rfl) (fun vs H Q E ⟨p, L, m, e, hL, m1, m6, hp, q⟩ => by rw [e]; rfl) fun cdv A outer s H vs Q E hr ⟨p, L, m, e, hL, m1, m6, hp, q⟩ => ?_
  subst e
  have hu := hr.units
  have hu1 := hu_of hr
  have nd := sc_l_plain_reader.nd
  refine ⟨_, (pss_cons (ps_set (i := 3) nd rfl (Or.inl rfl) (pe_op op_add pe_int (cg (p_l_bit T) hr (pa_cons (pv 0) (pa_cons (pv 2) pa_nil)))))
      (pss_cons (ps_set (i := 4) nd rfl (Or.inl rfl) (pe_lst pa_nil))
      (pss_cons (ps_for PassesOwn.never rfl (pi_range1 (by rfl) T.b_range (pa_cons (pv 3) pa_nil)) (pg_name (i := 5) nd rfl (Or.inl rfl))
        (pss_one (ps_for PassesOwn.never rfl (pi_str (pv 1)) (pg_name (i := 6) nd rfl (Or.inl rfl))
          (pss_one (ps_if (pt_cmpR op_gt (cg (p_l_bit T) hr (pa_cons (pv 0) (pa_cons pe_int pa_nil))) pe_int (nomark _)) (pss_one (ps_expr (pe_bm PySem.F.plainAttrs_list PySem.F.slot_list_append PySem.F.type_list_append mt_append (pv 4) (pa_cons (pe_tup (pa_cons (pv 5) (pa_cons (pv 6) (pa_cons (cg (p_l_bit T) hr (pa_cons (pv 0) (pa_cons (pv 3) pa_nil))) pa_nil)))) pa_nil)))) pss_nil)))))
      (pss_cons (ps_set (i := 7) nd rfl (Or.inl rfl) (pe_tup (pa_cons (cg (p_l_bit T) hr (pa_cons (pv 0) (pa_cons (pv 3) pa_nil))) pa_nil)))
      (pss_one (ps_ret (cg (p_l_told_reader T) hr (pa_cons (pv 1) (pa_cons (pv 3) (pa_cons (pv 7) (pa_cons (cg (p_l_some_of T) hr (pa_cons (pv 0) (pa_cons (pe_listRg rfl (by rfl) T.b_list (prg_1 (by rfl) T.b_range (pv 3))) (pa_cons pe_int pa_nil)))) (pa_cons (pv 4) pa_nil)))))))))))), ?_⟩
  have l6 := sz60
  obtain ⟨x0, y0, z0, hx0⟩ := id hp
  refine ⟨_, rfl, _, rfl, p, m, rfl, by omega, by omega, hp, fun r H1 hr s1 p1 => ⟨_, _, rfl, rfl, ?_⟩⟩
  have en : (1 : Int) + (r : Int) = ((r + 1 : Nat) : Int) := by omega
  generalize hn : r + 1 = n at en
  refine ⟨by show 0 ≤ sizeLine; omega, fun F nF => ?_⟩
  have pF : p ≠ F := by
    obtain ⟨x1, y1, z1, hx1⟩ := id p1
    exact ne_of_none hx1 nF
  have nFH : H F = none := by
    cases q : H F with
    | none => rfl
    | some o => rw [s1 F o q (Ne.symm pF)] at nF; cases nF
  have sF : SameX p H (upd H1 F (.lst [])) := s1.trans (Same.new nF).x
  have pF1 : PotAt (upd H1 F (.lst [])) p := p1.upd pF
  have n0 : 0 < n := by omega
  have n6 : n ≤ 6 := by omega
  have lL : L.length ≤ 4 := hL.four
  have ndL : L.Nodup := hL.asc.imp Nat.ne_of_lt
  refine ⟨_, rfl, _, rfl, by omega, by omega, ?_⟩
  refine for_it walk_range (fun i σ H' => SameX p H H' ∧ PotAt H' p ∧ (∃ ys as, H' F = some (.lst ys) ∧ DtAll K H' ys (as.map eA) ∧ PlInv L n i 0 as ∧ as.length ≤ i * 4) ∧ ∃ o5 o6, σ = [some (.ref p), some (.str (tx L)), some (.int (m : Int)), some (.int ((1 : Int) + (r : Int))), some (.ref F), o5, o6, none])
    ⟨sF, pF1, ⟨[], [], upd_same, .nil, ⟨nofun, .nil⟩, by simp⟩, none, none, rfl⟩ (fun _ _ _ _ _ => trivial) (fun i x σ H2 H3 hi ⟨s2, p2, ⟨ys, as, hF, dy, inv, la⟩, o5, o6, eσ⟩ yy => ?_) fun σ H2 ⟨s2, p2, ⟨ys, as, hF, dy, inv, la⟩, o5, o6, eσ⟩ => ?_
  · obtain ⟨rfl, rfl⟩ := yy
    subst eσ
    have hin : i < n := by omega
    refine ⟨_, rfl, _, rfl, ?_⟩
    refine for_it walk_str (fun j σ H' => SameX p H H' ∧ PotAt H' p ∧ (∃ ys as, H' F = some (.lst ys) ∧ DtAll K H' ys (as.map eA) ∧ PlInv L n i j as ∧ as.length ≤ i * 4 + j) ∧ ∃ o6, σ = [some (.ref p), some (.str (tx L)), some (.int (m : Int)), some (.int ((1 : Int) + (r : Int))), some (.ref F), some (.int ((0 : Int) + (i : Int))), o6, none])
      ⟨s2, p2, ⟨ys, as, hF, dy, inv, la⟩, o6, rfl⟩ (fun _ _ _ _ _ => trivial) (fun j x σ H4 H5 hj ⟨s4, p4, ⟨ys, as, hF, dy, inv, la⟩, o6, eσ⟩ yy => ?_) fun σ H4 ⟨s4, p4, ⟨ys, as, hF, dy, inv, la⟩, o6, eσ⟩ => ?_
    · obtain ⟨rfl, c, hc, rfl⟩ := yy
      subst eσ
      have hcL : L[j]? = some c := by rw [← Array.getElem?_toList, walk_strL] at hc; exact hc
      have jL : j < L.length := (List.getElem?_eq_some_iff.mp hcL).1
      refine ⟨_, rfl, p, 6, rfl, by omega, by omega, p4, fun r2 H6 hr2 s6 p6 => ⟨_, _, rfl, rfl, ⟨decide ((r2 : Int) > 0), rfl, ?_⟩⟩⟩
      have hF6 := s6 _ _ hF (Ne.symm pF)
      have d6 := dy.to (p4.to s6)
      by_cases z : (r2 : Int) > 0
      · rw [decide_eq_true z]
        refine iteT ⟨_, rfl, .inl ⟨rfl, _, SqL.of hF6⟩, _, rfl, _, rfl, _, rfl, _, rfl, p, n, ?_, by omega, by omega, p6, fun r3 H7 hr3 s7 p7 => ⟨by show 3 ≤ sizeLine; omega, fun t nt => ?_⟩⟩
        · show [V.ref p, V.int ((1 : Int) + (r : Int))] = _
          rw [en]
        have hF7 := s7 _ _ hF6 (Ne.symm pF)
        have sT := Same.new (o := .tup [.int ((0 : Int) + (i : Int)), .str (sg c), .int (r3 : Int)]) nt
        have hF8 := sT _ _ hF7
        have ly := dy.length
        rw [List.length_map] at ly
        refine ⟨F, ys, _, rfl, rfl, hF8, by omega, ?_⟩
        have k8 := TLe.lst (o := .lst (ys ++ [.ref t])) hF8
        have e0 : (0 : Int) + (i : Int) = (i : Int) := by omega
        refine ⟨((s4.trans (s6.trans s7)).trans sT.x).new nFH, (p7.same sT).upd pF, ⟨ys ++ [.ref t], as ++ [(i, c, r3)], upd_same, ?_, inv.add ndL hcL hin hr3, by simp; omega⟩, _, rfl⟩
        rw [List.map_append]
        refine (((d6.to (p6.to s7)).same sT).to k8).append (.one (Dt.to (Dt.ofArr (a := (i, c, r3)) (SqT.of ?_)) k8))
        rw [upd_same, e0]
      · rw [decide_eq_false z]
        exact iteF ⟨s4.trans s6, p6, ⟨ys, as, hF6, d6, inv.next, by omega⟩, _, rfl⟩
    · subst eσ
      exact ⟨s4, p4, ⟨ys, as, hF, dy, inv.row, by simp at la; omega⟩, _, _, rfl⟩
  · subst eσ
    refine ⟨_, rfl, _, rfl, p, n, ?_, by omega, by omega, p2, fun rh H3 hrh s3 p3 => ⟨by show 1 ≤ sizeLine; omega, fun t nt => ?_⟩⟩
    · show [V.ref p, V.int ((1 : Int) + (r : Int))] = _
      rw [en]
    have sT := Same.new (o := .tup [.int (rh : Int)]) nt
    have p3' := p3.same sT
    refine ⟨_, rfl, _, rfl, _, rfl, _, rfl, _, rfl, _, rfl, RgOk.of_le (by omega) (by omega) (by omega) (by omega), fun g ng => ?_⟩
    have eg : rgV 0 ((1 : Int) + (r : Int)) = (List.range n).map fun k : Nat => V.int (k : Int) := by
      unfold rgV
      rw [en, Int.sub_zero, Int.toNat_natCast]
      refine List.map_congr_left fun k _ => ?_
      rw [Int.zero_add]
    rw [eg]
    have sG := Same.new (o := .lst ((List.range n).map fun k : Nat => V.int (k : Int))) ng
    have p4 := p3'.same sG
    have gp : g ≠ p := by
      obtain ⟨x1, y1, z1, hx1⟩ := id p3'
      exact (ne_of_none hx1 ng).symm
    refine ⟨p, g, List.range n, 1, rfl, upd_same, gp, List.nodup_range, by simp; omega, by simp; omega, p4, fun v l H5 s5 p5 dv pw mem => ?_⟩
    have hF3 := s3 _ _ hF (Ne.symm pF)
    have hF5 := s5 _ _ (sG _ _ (sT _ _ hF3)) (Ne.symm pF)
    have dF5 := ((((dy.to (p2.to s3)).same sT).same sG).to (p4.to s5))
    have ht5 : SqT K H5 t [.int (rh : Int)] := SqT.tle (p4.to s5) (SqT.tle sG.tle (SqT.of upd_same))
    obtain ⟨a1, xs1, rfl, hs1, dv1⟩ := dv.tuple
    refine ⟨_, rfl, L, n, .ref t, .ref a1, .ref F, [rh], l, as, ?_, ⟨t, _, rfl, .inr ht5, .one (.int _)⟩, ⟨a1, xs1, rfl, .inr hs1, dv1⟩, ⟨F, ys, rfl, .inl (SqL.of hF5), dF5⟩, fun d H6 s6 nd6 hd => ?_⟩
    · show [V.str (tx L), V.int ((1 : Int) + (r : Int)), _, _, _] = _
      rw [en]
    refine q d _ H6 ((((s2.trans s3).trans sT.x).trans sG.x).trans s5 |>.trans s6.x) (p5.same s6) hd ?_
    have ndA : as.Nodup := inv.nd.imp fun {a b} h e => h (by rw [e]; exact ⟨rfl, rfl⟩)
    have ndl : l.Nodup := pw.imp Nat.ne_of_lt
    have mA : ∀ a ∈ srtA as, a ∈ as := fun a ha => srtBy_perm.mem_iff.mp ha
    exact {
      ok := {
        lets := hL, n1 := n0, n60 := by show n ≤ 60; omega
        fs := srtN_asc (by simp)
        fsn := fun q hq => by
          have := srtBy_perm.mem_iff.mp hq
          rw [List.mem_singleton] at this
          rw [this]; exact hrh
        ls := srtN_asc ndl
        lsn := fun q hq => List.mem_range.mp (mem q (srtBy_perm.mem_iff.mp hq))
        arn := fun a ha => ⟨(inv.ok a (mA a ha)).1, (inv.ok a (mA a ha)).2.1, (inv.ok a (mA a ha)).2.2.1⟩
        ar := srtBy_asc eA_toks ndA
        arl := by
          show (srtA as).length ≤ 4000
          rw [srtBy_perm.length_eq]
          omega }
      lets := rfl
      few := by show n ≤ m; omega
      head := ⟨rh, by show srtN [rh] = [rh]; simp [srtBy]⟩
      one := fun a ha b hb e1 e2 => by
        have ha' := mA a ha
        have hb' := mA b hb
        rcases List.getElem_of_mem ha' with ⟨i, hi, rfl⟩
        rcases List.getElem_of_mem hb' with ⟨j, hj, rfl⟩
        rcases Nat.lt_trichotomy i j with h | h | h
        · exact absurd ⟨e1, e2⟩ (List.pairwise_iff_getElem.mp inv.nd i j hi hj h)
        · subst h; rfl
        · exact absurd ⟨e1.symm, e2.symm⟩ (List.pairwise_iff_getElem.mp inv.nd j i hj hi h) }
end K39
end Text_K39L5

section Text_K39L6
set_option Elab.async false set_option linter.all false set_option maxRecDepth 100000 set_option maxHeartbeats 4000000
/-! Sets of states. -/
namespace K39
open PySem PySem.Spec PyProof.Rows L2
variable {P : Program} {w : World} {K : PySem.W.Frag} {mg : Str → Option Value} {base : Heap}
theorem eNs_shaped (ks : List Nat) : SeqAt.shaped (.list (ks.map eN)) = true := by
  have h : PyData.canLayAll0 (ks.map eN) = true ∧ PyData.depthAll (ks.map eN) ≤ 1 := by
    induction ks with
    | nil => exact ⟨rfl, by simp [PyData.depthAll]⟩
    | cons k l ih => exact ⟨by simp [PyData.canLayAll0, PyData.canLay0, ih.1], by simp [PyData.depthAll, PyData.depth, ih.2]⟩
  unfold SeqAt.shaped
  simp only [PyData.canLay0, PyData.depth, h.1, Bool.true_and, decide_eq_true_eq]
  exact decide_eq_true (Nat.le_trans (Nat.succ_le_succ h.2) (show 2 ≤ 64 by decide))
theorem eNs_nil (ks : List Nat) : (!PyData.eqv (.list (ks.map eN)) (.list [])) = !ks.isEmpty := by
  cases ks with
  | nil => rfl
  | cons k l => rfl
def ends (R : Rd) (l : List Nat) : Bool := !(l.filter fun q => decide (q ∈ R.ls)).isEmpty
def sp_l_does_end (w : World) (K : PySem.W.Frag) : Sp := fun vs H Q E => ∃ (d : Addr) (R : Rd) (v : V) (l : List Nat), vs = [.ref d, v] ∧ LRd K H d R ∧ Dt K H v (eNs l) ∧ l.length ≤ 60 ∧ ∀ H', Same H H' → Q (.bl (ends R l)) H'
abbrev N_l_does_end : List Str := ["_law_reader", "_law_spots", "_law_spot"]
theorem sc_l_does_end : FnScope N_l_does_end ["_law_reader", "_law_spots"] (defScope s_l_does_end) := ⟨rfl, rfl, rfl, by decide +kernel, rfl, by decide +kernel, by decide +kernel⟩
theorem p_l_does_end (T : Tx K mg) : Fn P w K mg base 1 "_law_does_end" (sp_l_does_end w K) := by
  refine fn_mk T.d_l_does_end T.g_l_does_end sc_l_does_end (fun _ _ _ _ _ _ us h => by match us, h with | [_, _], _ => rfl) (fun vs H Q E ⟨d, R, v, l, e, h, hv, hl, q⟩ => by rw [e]; rfl) fun cdv A outer s H vs Q E hr ⟨d, R, v, l, e, h, hv, hl, q⟩ => ?_
  subst e
  have hu := hr.units
  have hu1 := hu_of hr
  have nd := sc_l_does_end.nd
  refine ⟨_, (pss_one (ps_ret (pe_cmpR (op_neD hu) (pe_lc (own := [("_law_spot", 2)]) rfl nd (pi_tup (pv 1)) (blkOk_by (N := N_l_does_end) (sc := defScope s_l_does_end) (by decide +kernel)) (fun _ _ _ _ _ => (pg_name (i := 2) nd rfl (Or.inl rfl) (Or.inr rfl))) (fun _ _ _ _ _ => (pts_one (pt_cmpR (show OpR _ _ (rIn K false) from op_in_seq) (pv 2) (pe_dget hu1 (pv 0) pe_str (fun _ _ => rfl)) rfl))) (fun _ _ _ _ _ => (pv 2))) (pe_lst pa_nil) (nomark _)))), ?_⟩
  have l6 := sz60
  obtain ⟨hv', tv, av, h1, h2, h3, h4⟩ := id h
  obtain ⟨a, rfl, hs⟩ := hv.ns
  obtain ⟨b, rfl, hb⟩ := h3.ns
  refine ⟨_, rfl, a, rfl, ⟨_, hs⟩, fun D nD => ?_⟩
  refine comp_it (walk_tup (xs := l.map fun n : Nat => V.int (n : Int))) grows_at l (by simp) (by simp; omega) (fun z => decide (z ∈ R.ls)) (fun z y _ => y = .int (z : Int)) (fun a y H H' k h => h) nD (fun H' sm => SqT.tle sm.tle hs) (fun i x z H' H2 hp sm y => ?_) fun ys H2 sm hy pa => ?_
  · obtain ⟨rfl, hx⟩ := y
    rw [List.getElem?_map, hp] at hx
    obtain rfl := Option.some.inj hx
    refine turn_nameT rfl fun C1 C2 c1 c2 => ⟨_, rfl, _, rfl, d, _, rfl, .inl ⟨_, Sum.inr "tails", .inl (sm _ _ h1), rfl, rfl⟩, b, _, rfl, .inr (SqT.tle sm.tle hb), rfl, flat_nats _, _, rfl, ?_⟩
    rw [inV_nats]
    by_cases hz : z ∈ R.ls
    · simp only [hz, decide_true]
      exact iteT ⟨_, rfl, c2 (by simp [hz]) _ _ (Same.refl _) rfl⟩
    · simp only [hz, decide_false]
      exact iteF (c1 (by simp [hz]) _ (Same.refl _))
  · have ey := ints_of (f := fun n : Nat => (n : Int)) pa
    have dy : DtAll K H2 ys ((l.filter fun z => decide (z ∈ R.ls)).map eN) := by
      rw [ey, List.map_map]; exact dtNs' _
    refine ⟨by show 0 ≤ sizeLine; omega, fun e0 ne0 => ?_⟩
    have s0 := Same.new (o := .lst []) ne0
    refine ⟨.list ((l.filter fun z => decide (z ∈ R.ls)).map eN), .list [], .lst (SqL.of (s0 _ _ hy)) (dy.same s0).dps, .lst (SqL.of upd_same) .nil, eNs_shaped _, rfl, ?_⟩
    rw [eNs_nil]
    exact q _ (sm.trans s0)
end K39
end Text_K39L6

section Text_K39L7
set_option Elab.async false set_option linter.all false set_option maxRecDepth 100000 set_option maxHeartbeats 4000000
/-! Where a set of states goes. -/
namespace K39
open PySem PySem.Spec PyProof.Rows L2
variable {P : Program} {w : World} {K : PySem.W.Frag} {mg : Str → Option Value} {base : Heap}
def hits (R : Rd) (l : List Nat) (c : Nat) : List Arr := R.ar.filter fun a => decide (a.2.1 = c) && decide (a.1 ∈ l)
/-- where l goes by c, in order -/
def IsGone (R : Rd) (l : List Nat) (c : Nat) (m : List Nat) : Prop := m.Pairwise (· < ·) ∧ ∀ q, q ∈ m ↔ ∃ a ∈ hits R l c, a.2.2 = q
theorem sg_eq {c d : Nat} : (V.str (sg c) = V.str (sg d)) ↔ c = d := by
  constructor
  · intro h; injection h with h; injection h with h; simpa using h
  · rintro rfl; rfl
def sp_l_gone_set (w : World) (K : PySem.W.Frag) : Sp := fun vs H Q E => ∃ (d : Addr) (R : Rd) (v : V) (l : List Nat) (c : Nat), vs = [.ref d, v, .str (sg c)] ∧ LRd K H d R ∧ Dt K H v (eNs l) ∧ R.ar.length ≤ 4000 ∧ (hits R l c).length < 60 ∧ ∀ x m H', Same H H' → Dt K H' x (eNs m) → IsGone R l c m → Q x H'
abbrev N_l_gone_set : List Str := ["_law_reader", "_law_spots", "_law_sign", "_law_here", "_law_mark", "_law_there"]
theorem sc_l_gone_set : FnScope N_l_gone_set ["_law_reader", "_law_spots", "_law_sign"] (defScope s_l_gone_set) := ⟨rfl, rfl, rfl, by decide +kernel, rfl, by decide +kernel, by decide +kernel⟩
theorem p_l_gone_set (T : Tx K mg) : Fn P w K mg base 1 "_law_gone_set" (sp_l_gone_set w K) := by
  refine fn_mk T.d_l_gone_set T.g_l_gone_set sc_l_gone_set (fun _ _ _ _ _ _ us h => by match us, h with | [_, _, _], _ => rfl) (fun vs H Q E ⟨d, R, v, l, c, e, h, hv, hl, hh, q⟩ => by rw [e]; rfl) fun cdv A outer s H vs Q E hr ⟨d, R, v, l, c, e, h, hv, hl, hh, q⟩ => ?_
  subst e
  have hu := hr.units
  have hu1 := hu_of hr
  have nd := sc_l_gone_set.nd
  refine ⟨_, (pss_one (ps_ret (pe_tupleOf (by rfl) T.b_tuple (pe_callB (cr_sortedSet rfl) (by rfl) T.b_sorted (by decide +kernel) (pa_cons (pe_callTy (cr_setI rfl) (by rfl) T.b_set (by decide +kernel) (pa_cons (pe_lc (own := [("_law_here", 3), ("_law_mark", 4), ("_law_there", 5)]) rfl nd (pi_tup (pe_dget hu1 (pv 0) pe_str (fun _ _ => rfl))) (blkOk_by (N := N_l_gone_set) (sc := defScope s_l_gone_set) (by decide +kernel)) (fun _ _ _ _ _ => (show PG _ _ (gTup K 3 (gCons (gName 3) (gCons (gName 4) (gCons (gName 5) gNil)))) from pg_tup rfl (pgs_cons (pg_name (i := 3) nd rfl (Or.inl rfl) (Or.inr rfl)) (pgs_cons (pg_name (i := 4) nd rfl (Or.inl rfl) (Or.inr rfl)) (pgs_cons (pg_name (i := 5) nd rfl (Or.inl rfl) (Or.inr rfl)) pgs_nil))))) (fun _ _ _ _ _ => (pts_one (PW.pt (pw_and (pt_cmpR op_eq (pv 4) (pv 2) (nomark _)) (pw_and1 (pt_cmpR (show OpR _ _ (rIn K false) from op_in_seq) (pv 3) (pv 1) rfl)))))) (fun _ _ _ _ _ => (pv 5))) pa_nil)) pa_nil))))), ?_⟩
  have l6 := sz60
  obtain ⟨hv', tv, av, h1, h2, h3, h4⟩ := id h
  obtain ⟨a, rfl, hs⟩ := hv.ns
  obtain ⟨b, xs, rfl, hb, db⟩ := h4.tuple
  have lx : xs.length = R.ar.length := by rw [db.length, List.length_map]
  refine ⟨_, rfl, d, _, rfl, .inl ⟨_, Sum.inr "links", .inl h1, rfl, rfl⟩, b, rfl, ⟨_, hb⟩, fun D nD => ?_⟩
  refine comp_it (walk_tup (xs := xs)) grows_at R.ar lx.symm (by omega) (fun a => decide (a.2.1 = c) && decide (a.1 ∈ l)) (fun z y _ => y = .int (z.2.2 : Int)) (fun a y H H' k h => h) nD (fun H' sm => SqT.tle sm.tle hb) (fun i x z H' H2 hp sm y => ?_) fun ys H2 sm hy pa => ?_
  · obtain ⟨rfl, hx⟩ := y
    obtain ⟨dd, hd1, hd2⟩ := db.get' hx
    rw [List.getElem?_map, hp] at hd1
    obtain rfl := Option.some.inj hd1
    obtain ⟨t, rfl, ht⟩ := (hd2.same sm).arr
    refine turn_3T ht rfl fun C1 C2 c1 c2 => ⟨_, rfl, _, rfl, rfl, _, rfl, ?_⟩
    by_cases hz : z.2.1 = c
    · rw [show decide (V.str (sg z.2.1) = V.str (sg c)) = true from decide_eq_true (sg_eq.mpr hz)]
      refine iteT ⟨_, rfl, _, rfl, a, _, rfl, .inr (SqT.tle sm.tle hs), rfl, flat_nats _, _, rfl, ?_⟩
      rw [inV_nats]
      by_cases hy : z.1 ∈ l
      · simp only [hy, decide_true]
        exact iteT ⟨_, rfl, c2 (by simp [hz, hy]) _ _ (Same.refl _) rfl⟩
      · simp only [hy, decide_false]
        exact iteF (c1 (by simp [hy]) _ (Same.refl _))
    · rw [show decide (V.str (sg z.2.1) = V.str (sg c)) = false from decide_eq_false fun h => hz (sg_eq.mp h)]
      exact iteF (c1 (by simp [hz]) _ (Same.refl _))
  · have ey := ints_of (f := fun z : Arr => (z.2.2 : Int)) pa
    rw [ey] at hy
    have lh : ((hits R l c).map fun z : Arr => (z.2.2 : Int)).length < 60 := by rw [List.length_map]; exact hh
    refine ⟨D, _, rfl, SqL.of hy, by show ((hits R l c).map fun z : Arr => (z.2.2 : Int)).length + 1 < scanBound; unfold scanBound; omega, fun s1 n1 ns1 hn1 => ?_⟩
    refine ⟨s1, _, _, rfl, upd_same, ?_, fun ns p pw hm ln np => ?_⟩
    · have : n1 ≤ ((hits R l c).map fun z : Arr => (z.2.2 : Int)).length := hn1
      omega
    have mem : ∀ k : Int, k ∈ ns ↔ ∃ z ∈ hits R l c, (z.2.2 : Int) = k := fun k => (hm k).trans (by
      rw [decide_eq_true_iff]
      exact List.mem_map)
    have en : ns = (ns.map Int.toNat).map fun n : Nat => (n : Int) := by
      rw [List.map_map]
      refine (List.map_id ns).symm.trans (List.map_congr_left fun k hk => ?_)
      obtain ⟨z, _, e⟩ := (mem k).mp hk
      show k = ((k.toNat : Nat) : Int)
      omega
    have ev : ns.map V.int = (ns.map Int.toNat).map fun n : Nat => V.int (n : Int) := by
      conv => lhs; rw [en]
      rw [List.map_map]; rfl
    rw [ev]
    refine .inl ⟨p, _, rfl, SqL.of upd_same, fun t nt => q (.ref t) (ns.map Int.toNat) _ (((sm.trans (Same.new ns1)).trans (Same.new np)).trans (Same.new nt)) (Dt.ofNs (SqT.of upd_same)) ⟨?_, fun k => ?_⟩⟩
    · have pw2 := pw
      rw [en, List.pairwise_map] at pw2
      exact pw2.imp fun h => by omega
    · constructor
      · intro hk
        obtain ⟨j, hj, e⟩ := List.mem_map.mp hk
        obtain ⟨z, hz, e2⟩ := (mem j).mp hj
        exact ⟨z, hz, by omega⟩
      · rintro ⟨z, hz, rfl⟩
        exact List.mem_map.mpr ⟨(z.2.2 : Int), (mem _).mpr ⟨z, hz, rfl⟩, by simp⟩
end K39
end Text_K39L7

section Text_K39N1
set_option autoImplicit false set_option linter.all false
/-! Ways and texts. -/
namespace K39
/-- sums over lists -/
abbrev ls_ {α : Type} (l : List α) (f : α → Int) : Int := (l.map f).sum
section
variable {α β : Type}
theorem ls_nil (f : α → Int) : ls_ [] f = 0 := rfl
theorem ls_cons (a : α) (l : List α) (f : α → Int) : ls_ (a :: l) f = f a + ls_ l f := by simp [ls_]
theorem ls_app (l m : List α) (f : α → Int) : ls_ (l ++ m) f = ls_ l f + ls_ m f := by
  induction l with
  | nil => simp [ls_]
  | cons a l ih => rw [List.cons_append, ls_cons, ls_cons, ih]; omega
theorem ls_congr {l : List α} {f g : α → Int} (h : ∀ a ∈ l, f a = g a) : ls_ l f = ls_ l g := by
  induction l with
  | nil => rfl
  | cons a l ih => rw [ls_cons, ls_cons, h a List.mem_cons_self, ih fun b hb => h b (List.mem_cons_of_mem _ hb)]
theorem ls_zero {l : List α} {f : α → Int} (h : ∀ a ∈ l, f a = 0) : ls_ l f = 0 := by
  induction l with
  | nil => rfl
  | cons a l ih => rw [ls_cons, h a List.mem_cons_self, ih fun b hb => h b (List.mem_cons_of_mem _ hb)]; rfl
theorem ls_add (l : List α) (f g : α → Int) : ls_ l (fun a => f a + g a) = ls_ l f + ls_ l g := by
  induction l with
  | nil => rfl
  | cons a l ih => rw [ls_cons, ls_cons, ls_cons, ih]; omega
theorem ls_mul (c : Int) (l : List α) (f : α → Int) : ls_ l (fun a => c * f a) = c * ls_ l f := by
  induction l with
  | nil => simp [ls_]
  | cons a l ih => rw [ls_cons, ls_cons, ih, Int.mul_add]
theorem ls_mulr (c : Int) (l : List α) (f : α → Int) : ls_ l (fun a => f a * c) = ls_ l f * c := by
  rw [Int.mul_comm _ c, ← ls_mul]
  exact ls_congr fun a _ => Int.mul_comm _ _
theorem ls_nonneg {l : List α} {f : α → Int} (h : ∀ a ∈ l, 0 ≤ f a) : 0 ≤ ls_ l f := by
  induction l with
  | nil => exact Int.le_refl _
  | cons a l ih =>
    rw [ls_cons]
    have := h a List.mem_cons_self
    have := ih fun b hb => h b (List.mem_cons_of_mem _ hb)
    omega
theorem ls_one {l : List α} {f : α → Int} (h : ∀ a ∈ l, 0 ≤ f a) {a : α} (ha : a ∈ l) : f a ≤ ls_ l f := by
  induction l with
  | nil => cases ha
  | cons b l ih =>
    rw [ls_cons]
    have h0 := h b List.mem_cons_self
    have h1 := ls_nonneg fun c hc => h c (List.mem_cons_of_mem _ hc)
    rcases List.mem_cons.mp ha with e | e
    · subst e; omega
    · have := ih (fun c hc => h c (List.mem_cons_of_mem _ hc)) e
      omega
theorem ls_pos {l : List α} {f : α → Int} (h : ∀ a ∈ l, 0 ≤ f a) : 0 < ls_ l f ↔ ∃ a ∈ l, 0 < f a := by
  constructor
  · intro p
    apply Classical.byContradiction
    intro q
    rw [ls_zero fun a ha => ?_] at p
    · omega
    · have := h a ha
      have : ¬ 0 < f a := fun z => q ⟨a, ha, z⟩
      omega
  · intro ⟨a, ha, p⟩
    have := ls_one h ha
    omega
theorem ls_swap (l : List α) (m : List β) (f : α → β → Int) : ls_ l (fun a => ls_ m (f a)) = ls_ m (fun b => ls_ l fun a => f a b) := by
  induction l with
  | nil => exact (ls_zero fun _ _ => rfl).symm
  | cons a l ih => rw [ls_cons, ih, ← ls_add]; exact ls_congr fun b _ => (ls_cons a l fun a => f a b).symm
theorem ls_flat (l : List α) (g : α → List β) (f : β → Int) : ls_ (l.flatMap g) f = ls_ l fun a => ls_ (g a) f := by
  induction l with
  | nil => rfl
  | cons a l ih => rw [List.flatMap_cons, ls_app, ls_cons, ih]
theorem ls_map (l : List α) (g : α → β) (f : β → Int) : ls_ (l.map g) f = ls_ l fun a => f (g a) := by
  induction l with
  | nil => rfl
  | cons a l ih => rw [List.map_cons, ls_cons, ls_cons, ih]
theorem ls_perm {l m : List α} (h : l.Perm m) (f : α → Int) : ls_ l f = ls_ m f := by
  induction h with
  | nil => rfl
  | cons a _ ih => rw [ls_cons, ls_cons, ih]
  | swap a b l => rw [ls_cons, ls_cons, ls_cons, ls_cons]; omega
  | trans _ _ h1 h2 => exact h1.trans h2
theorem ls_filter (l : List α) (p : α → Bool) (f : α → Int) : ls_ (l.filter p) f = ls_ l fun a => if p a then f a else 0 := by
  induction l with
  | nil => rfl
  | cons a l ih =>
    rw [List.filter_cons, ls_cons]
    by_cases h : p a = true
    · rw [if_pos h, if_pos h, ls_cons, ih]
    · rw [if_neg h, if_neg h, ih]; omega
/-- one of different things -/
theorem ls_pick [DecidableEq α] {l : List α} (h : l.Nodup) {a : α} (ha : a ∈ l) (f : α → Int) : ls_ l (fun b => if b = a then f b else 0) = f a := by
  induction l with
  | nil => cases ha
  | cons b l ih =>
    rw [ls_cons]
    obtain ⟨h1, h2⟩ := List.nodup_cons.mp h
    rcases List.mem_cons.mp ha with e | e
    · subst e
      rw [if_pos rfl, ls_zero]
      · omega
      · intro c hc
        exact if_neg (by intro z; exact h1 (z ▸ hc))
    · rw [if_neg (by intro z; exact h1 (z ▸ e)), ih h2 e]; omega
theorem ls_none [DecidableEq α] {l : List α} {a : α} (ha : a ∉ l) (f : α → Int) : ls_ l (fun b => if b = a then f b else 0) = 0 :=
  ls_zero fun b hb => if_neg (by intro z; exact ha (z ▸ hb))
theorem sm_ls (f : Nat → Int) : ∀ n, sm f n = ls_ (List.range n) f
  | 0 => rfl
  | n + 1 => by
    show sm f n + f n = _
    rw [List.range_succ, ls_app, sm_ls f n, ls_cons, ls_nil]; omega
end
/-- the ways from p to the end by the text -/
def en (R : Rd) : List Nat → Nat → Int
  | [], p => if p ∈ R.ls then 1 else 0
  | c :: t, p => ls_ (mvs R.ar c p) (en R t)
/-- the ways of the text -/
def W (R : Rd) (t : List Nat) : Int := ls_ R.fs (en R t)
theorem en_nonneg (R : Rd) : ∀ t p, 0 ≤ en R t p
  | [], p => by
    show (0 : Int) ≤ if p ∈ R.ls then 1 else 0
    split <;> decide
  | c :: t, p => ls_nonneg fun q _ => en_nonneg R t q
theorem W_nonneg (R : Rd) (t : List Nat) : 0 ≤ W R t := ls_nonneg fun q _ => en_nonneg R t q
/-- ways of a length -/
def bk (R : Rd) : Nat → Nat → Int
  | 0, p => if p ∈ R.ls then 1 else 0
  | k + 1, p => ls_ (R.ar.filter fun a => a.1 == p) fun a => bk R k a.2.2
/-- texts of a length -/
def texts (L : List Nat) : Nat → List (List Nat)
  | 0 => [[]]
  | k + 1 => L.flatMap fun c => (texts L k).map fun t => c :: t
theorem texts_len {L : List Nat} : ∀ {k : Nat} {t : List Nat}, t ∈ texts L k → t.length = k ∧ ∀ c ∈ t, c ∈ L
  | 0, t, h => by
    rw [List.mem_singleton.mp h]; simp
  | k + 1, t, h => by
    obtain ⟨c, hc, h2⟩ := List.mem_flatMap.mp h
    obtain ⟨u, hu, rfl⟩ := List.mem_map.mp h2
    obtain ⟨e1, e2⟩ := texts_len hu
    refine ⟨by simp [e1], fun d hd => ?_⟩
    rcases List.mem_cons.mp hd with z | z
    · exact z ▸ hc
    · exact e2 d z
theorem texts_mem {L : List Nat} : ∀ {t : List Nat}, (∀ c ∈ t, c ∈ L) → t ∈ texts L t.length
  | [], _ => List.mem_singleton.mpr rfl
  | c :: t, h => List.mem_flatMap.mpr ⟨c, h c List.mem_cons_self, List.mem_map.mpr ⟨t, texts_mem fun d hd => h d (List.mem_cons_of_mem _ hd), rfl⟩⟩
theorem ls_texts (L : List Nat) (k : Nat) (f : List Nat → Int) : ls_ (texts L (k + 1)) f = ls_ L fun c => ls_ (texts L k) fun t => f (c :: t) := by
  show ls_ (L.flatMap fun c => (texts L k).map fun t => c :: t) f = _
  rw [ls_flat]
  exact ls_congr fun c _ => ls_map _ _ _
/-- what a sum over arrows is by signs -/
theorem ls_signs {L : List Nat} (hL : L.Nodup) (as : List Arr) (h : ∀ a ∈ as, a.2.1 ∈ L) (f : Arr → Int) : ls_ as f = ls_ L fun c => ls_ (as.filter fun a => a.2.1 == c) f := by
  have e : ls_ L (fun c => ls_ (as.filter fun a => a.2.1 == c) f) = ls_ as fun a => ls_ L fun c => if c = a.2.1 then f a else 0 := by
    rw [← ls_swap]
    refine ls_congr fun c _ => ?_
    rw [ls_filter]
    refine ls_congr fun a _ => ?_
    by_cases z : a.2.1 = c
    · simp [z]
    · rw [if_neg (by simpa using z), if_neg (Ne.symm z)]
  rw [e]
  exact ls_congr fun a ha => (ls_pick hL (h a ha) fun _ => f a).symm
theorem mvs_ls (as : List Arr) (c p : Nat) (f : Nat → Int) : ls_ (mvs as c p) f = ls_ as fun a => if a.1 = p ∧ a.2.1 = c then f a.2.2 else 0 := by
  unfold mvs
  rw [ls_map, ls_filter]
  refine ls_congr fun a _ => ?_
  by_cases h : a.1 = p ∧ a.2.1 = c
  · rw [if_pos h, if_pos (by simpa using h)]
  · rw [if_neg h, if_neg (by simpa using h)]
theorem mvs_mem {as : List Arr} {c p q : Nat} : q ∈ mvs as c p ↔ (p, c, q) ∈ as := by
  unfold mvs
  rw [List.mem_map]
  constructor
  · rintro ⟨a, h, e⟩
    rw [List.mem_filter] at h
    obtain ⟨h1, h2⟩ := h
    simp at h2
    obtain ⟨a1, a2, a3⟩ := a
    simp at h2 e
    rw [← h2.1, ← h2.2, ← e]; exact h1
  · intro h
    exact ⟨(p, c, q), by rw [List.mem_filter]; exact ⟨h, by simp⟩, rfl⟩
theorem bk_texts {R : Rd} {L : List Nat} (hL : L.Nodup) (h : ∀ a ∈ R.ar, a.2.1 ∈ L) : ∀ k p, bk R k p = ls_ (texts L k) fun t => en R t p
  | 0, p => by
    show _ = ls_ [[]] _
    rw [ls_cons, ls_nil, Int.add_zero]; rfl
  | k + 1, p => by
    rw [ls_texts]
    show ls_ (R.ar.filter fun a => a.1 == p) _ = _
    rw [ls_signs hL (R.ar.filter fun a => a.1 == p) fun a ha => h a (List.mem_filter.mp ha).1]
    refine ls_congr fun c _ => ?_
    have e : ls_ (texts L k) (fun t => en R (c :: t) p) = ls_ (mvs R.ar c p) fun q => ls_ (texts L k) fun t => en R t q := by
      rw [ls_swap]; rfl
    rw [e, mvs_ls, ls_filter, ls_filter]
    refine ls_congr fun a _ => ?_
    rw [← bk_texts hL h k a.2.2]
    by_cases z1 : a.1 = p
    · by_cases z2 : a.2.1 = c
      · simp [z1, z2]
      · simp [z1, z2]
    · simp [z1]
/-- rows forward, rows back -/
theorem sm_ite {l : List Nat} {n : Nat} (hl : l.Nodup) (hn : ∀ p ∈ l, p < n) (g : Nat → Int) : sm (fun p => g p * if p ∈ l then 1 else 0) n = ls_ l g := by
  rw [sm_ls]
  induction l with
  | nil => exact ls_zero fun p _ => by simp
  | cons a l ih =>
    obtain ⟨h1, h2⟩ := List.nodup_cons.mp hl
    rw [ls_cons, ← ih h2 fun p hp => hn p (List.mem_cons_of_mem _ hp)]
    have e := ls_pick (List.nodup_range (n := n)) (List.mem_range.mpr (hn a List.mem_cons_self)) g
    rw [← e, ← ls_add]
    refine ls_congr fun p _ => ?_
    by_cases z : p = a
    · subst z; simp [h1]
    · simp [z]
theorem sm_arr (f g : Nat → Int) (n : Nat) (as : List Arr) (h : ∀ a ∈ as, a.1 < n ∧ a.2.2 < n) : sm (fun p => ls_ (as.filter fun a => a.2.2 == p) (fun a => f a.1) * g p) n = sm (fun p => f p * ls_ (as.filter fun a => a.1 == p) fun a => g a.2.2) n := by
  have e1 : sm (fun p => ls_ (as.filter fun a => a.2.2 == p) (fun a => f a.1) * g p) n = ls_ as fun a => f a.1 * g a.2.2 := by
    rw [sm_ls]
    have : ls_ (List.range n) (fun p => ls_ (as.filter fun a => a.2.2 == p) (fun a => f a.1) * g p) = ls_ as fun a => ls_ (List.range n) fun p => if p = a.2.2 then f a.1 * g p else 0 := by
      rw [← ls_swap]
      refine ls_congr fun p _ => ?_
      rw [ls_filter, ← ls_mulr]
      refine ls_congr fun a _ => ?_
      by_cases z : a.2.2 = p
      · simp [z]
      · rw [if_neg (by simpa using z), if_neg (Ne.symm z), Int.zero_mul]
    rw [this]
    exact ls_congr fun a ha => ls_pick List.nodup_range (List.mem_range.mpr (h a ha).2) fun p => f a.1 * g p
  have e2 : sm (fun p => f p * ls_ (as.filter fun a => a.1 == p) fun a => g a.2.2) n = ls_ as fun a => f a.1 * g a.2.2 := by
    rw [sm_ls]
    have : ls_ (List.range n) (fun p => f p * ls_ (as.filter fun a => a.1 == p) fun a => g a.2.2) = ls_ as fun a => ls_ (List.range n) fun p => if p = a.1 then f p * g a.2.2 else 0 := by
      rw [← ls_swap]
      refine ls_congr fun p _ => ?_
      rw [ls_filter, ← ls_mul]
      refine ls_congr fun a _ => ?_
      by_cases z : a.1 = p
      · simp [z]
      · rw [if_neg (by simpa using z), if_neg (Ne.symm z), Int.mul_zero]
    rw [this]
    exact ls_congr fun a ha => ls_pick List.nodup_range (List.mem_range.mpr (h a ha).1) fun p => f p * g a.2.2
  rw [e1, e2]
/-- what the counting needs to know of a reader -/
structure RdF (R : Rd) : Prop where
  L : R.L.Nodup
  fs : R.fs.Nodup
  fsn : ∀ p ∈ R.fs, p < R.n
  ls : R.ls.Nodup
  lsn : ∀ p ∈ R.ls, p < R.n
  arn : ∀ a ∈ R.ar, a.1 < R.n ∧ a.2.1 ∈ R.L ∧ a.2.2 < R.n
theorem RdF.turn {R : Rd} (h : RdF R) (f : Nat → Int) (i : Nat) : sm (fun p => pace R f p * bk R i p) R.n = sm (fun p => f p * bk R (i + 1) p) R.n :=
  sm_arr f (bk R i) R.n R.ar fun a ha => ⟨(h.arn a ha).1, (h.arn a ha).2.2⟩
theorem RdF.fwd {R : Rd} (h : RdF R) : ∀ i k, endR R (fwd R (k + i)) = sm (fun p => K39.fwd R k p * bk R i p) R.n
  | 0, k => (sm_ite h.ls h.lsn (K39.fwd R k)).symm
  | i + 1, k => by
    rw [show k + (i + 1) = k + 1 + i by omega, h.fwd i (k + 1)]
    exact h.turn (K39.fwd R k) i
theorem RdF.end_ {R : Rd} (h : RdF R) (k : Nat) : endR R (K39.fwd R k) = ls_ (texts R.L k) (W R) := by
  have e := h.fwd k 0
  rw [Nat.zero_add] at e
  rw [e]
  have e2 : sm (fun p => K39.fwd R 0 p * bk R k p) R.n = sm (fun p => bk R k p * if p ∈ R.fs then 1 else 0) R.n := sm_congr fun p _ => Int.mul_comm _ _
  rw [e2, sm_ite h.fs h.fsn, ls_congr fun p _ => bk_texts h.L (fun a ha => (h.arn a ha).2.1) k p, ls_swap]; rfl
/-- sums of two widths -/
theorem sm_two (f g : Nat → Int) (m : Nat) : ∀ n, sm (fun j => if j < m then f j else g (j - m)) (m + n) = sm f m + sm g n
  | 0 => by
    show sm _ m = sm f m + 0
    rw [Int.add_zero]; exact sm_congr fun i hi => if_pos hi
  | n + 1 => by
    show sm (fun j => if j < m then f j else g (j - m)) (m + n) + (if m + n < m then f (m + n) else g (m + n - m)) = sm f m + (sm g n + g n)
    rw [sm_two f g m n, if_neg (by omega), show m + n - m = n by omega]; omega
theorem Ranked.add {D E : Nat} {u v : Nat → Int} (h1 : Ranked D u) (h2 : Ranked E v) : Ranked (D + E) fun k => u k + v k := by
  obtain ⟨f, w, h1⟩ := h1
  obtain ⟨g, x, h2⟩ := h2
  refine ⟨fun k j => if j < D then f k j else g k (j - D), fun i j => if j < D then w i j else x i (j - D), fun k i => ?_⟩
  show u (k + i) + v (k + i) = _
  rw [h1, h2, ← sm_two]
  exact sm_congr fun j _ => by dsimp only; split <;> rfl
theorem Ranked.mul {D : Nat} {u : Nat → Int} (c : Int) (h1 : Ranked D u) : Ranked D fun k => c * u k := by
  obtain ⟨f, w, h1⟩ := h1
  refine ⟨fun k j => c * f k j, w, fun k i => ?_⟩
  show c * u (k + i) = _
  rw [h1, ← sm_mul]
  exact sm_congr fun j _ => by rw [Int.mul_assoc]
theorem RdF.rank {R : Rd} (h : RdF R) : Ranked R.n fun k => endR R (K39.fwd R k) := ⟨K39.fwd R, bk R, fun k i => h.fwd i k⟩
theorem tot_rank : ∀ {ps : List (Int × Rd)}, (∀ p ∈ ps, RdF p.2) → Ranked (wid ps) (tot ps)
  | [], _ => ⟨fun _ _ => 0, fun _ _ => 0, fun _ _ => rfl⟩
  | p :: ps, h => by
    have e : tot (p :: ps) = fun t => p.1 * endR p.2 (fwd p.2 t) + tot ps t := by
      funext t; simp [tot]
    have e2 : wid (p :: ps) = p.2.n + wid ps := by simp [wid]
    rw [e, e2]
    exact ((h p List.mem_cons_self).rank.mul p.1).add (tot_rank fun q hq => h q (List.mem_cons_of_mem _ hq))
end K39
end Text_K39N1

section Text_K39N2
set_option autoImplicit false set_option linter.all false
/-! Lone readers, pairs of readers. -/
namespace K39
section
variable {α : Type}
theorem ls_le_one [DecidableEq α] {l : List α} {f : α → Int} (hl : l.Nodup) (h0 : ∀ a ∈ l, 0 ≤ f a) (h1 : ∀ a ∈ l, f a ≤ 1) (h2 : ∀ a ∈ l, ∀ b ∈ l, 0 < f a → 0 < f b → a = b) : ls_ l f ≤ 1 := by
  by_cases e : ∃ a ∈ l, 0 < f a
  · obtain ⟨a, ha, p⟩ := e
    rw [ls_congr (g := fun b => if b = a then f b else 0) fun b hb => ?_, ls_pick hl ha]
    · exact h1 a ha
    · by_cases z : b = a
      · rw [if_pos z]
      · rw [if_neg z]
        have := h0 b hb
        have : ¬ 0 < f b := fun q => z (h2 b hb a ha q p)
        omega
  · rw [ls_zero fun a ha => ?_]
    · decide
    · have := h0 a ha
      have : ¬ 0 < f a := fun q => e ⟨a, ha, q⟩
      omega
theorem ls_two [DecidableEq α] {l : List α} {f : α → Int} (h0 : ∀ a ∈ l, 0 ≤ f a) {a b : α} (ha : a ∈ l) (hb : b ∈ l) (ne : a ≠ b) : f a + f b ≤ ls_ l f := by
  induction l with
  | nil => cases ha
  | cons c l ih =>
    rw [ls_cons]
    have hc := h0 c List.mem_cons_self
    have ht : ∀ a ∈ l, 0 ≤ f a := fun a z => h0 a (List.mem_cons_of_mem _ z)
    rcases List.mem_cons.mp ha with e | e
    · rcases List.mem_cons.mp hb with e' | e'
      · exact absurd (e.trans e'.symm) ne
      · subst e
        have := ls_one ht e'
        omega
    · rcases List.mem_cons.mp hb with e' | e'
      · subst e'
        have := ls_one ht e
        omega
      · have := ih ht e e'
        omega
end
/-- why no text has two ways -/
def LoneC (R : Rd) : Prop := ∃ P G : Nat → Nat → Prop, (∀ p ∈ R.fs, ∀ q ∈ R.fs, P p q) ∧ (∀ p q c p' q', P p q → (p, c, p') ∈ R.ar → (q, c, q') ∈ R.ar → P p' q') ∧
  (∀ p ∈ R.ls, ∀ q ∈ R.ls, G p q) ∧ (∀ p q c p' q', G p' q' → (p, c, p') ∈ R.ar → (q, c, q') ∈ R.ar → G p q) ∧ ∀ p q, P p q → G p q → p = q
theorem mvs_nodup {as : List Arr} (h : as.Nodup) (c p : Nat) : (mvs as c p).Nodup := by
  unfold mvs
  unfold List.Nodup
  rw [List.pairwise_map]
  refine List.Pairwise.imp_of_mem ?_ (List.Pairwise.sublist List.filter_sublist h)
  intro a b ha hb ne e
  have h1 := (List.mem_filter.mp ha).2
  have h2 := (List.mem_filter.mp hb).2
  simp at h1 h2
  exact ne (Prod.ext (h1.1.trans h2.1.symm) (Prod.ext (h1.2.trans h2.2.symm) e))
theorem en_step (R : Rd) (c : Nat) (t : List Nat) {p q : Nat} (h : (p, c, q) ∈ R.ar) : en R t q ≤ en R (c :: t) p :=
  ls_one (fun q _ => en_nonneg R t q) (mvs_mem.mpr h)
theorem en_pos (R : Rd) (c : Nat) (t : List Nat) (p : Nat) : 0 < en R (c :: t) p ↔ ∃ q, (p, c, q) ∈ R.ar ∧ 0 < en R t q := by
  show 0 < ls_ (mvs R.ar c p) (en R t) ↔ _
  rw [ls_pos fun q _ => en_nonneg R t q]
  exact ⟨fun ⟨q, h1, h2⟩ => ⟨q, mvs_mem.mp h1, h2⟩, fun ⟨q, h1, h2⟩ => ⟨q, mvs_mem.mpr h1, h2⟩⟩
theorem en_nil_pos (R : Rd) (p : Nat) : 0 < en R [] p ↔ p ∈ R.ls := by
  show (0 : Int) < (if p ∈ R.ls then 1 else 0) ↔ _
  by_cases h : p ∈ R.ls
  · simp [h]
  · simp [h]
theorem W_pos (R : Rd) (t : List Nat) : 0 < W R t ↔ ∃ p ∈ R.fs, 0 < en R t p := ls_pos fun q _ => en_nonneg R t q
theorem LoneC.w {R : Rd} (h : LoneC R) (ha : R.ar.Nodup) (hf : R.fs.Nodup) (t : List Nat) : W R t ≤ 1 := by
  obtain ⟨P, G, h1, h2, h3, h4, h5⟩ := h
  have co : ∀ t p q, 0 < en R t p → 0 < en R t q → G p q := by
    intro t
    induction t with
    | nil => exact fun p q a b => h3 p ((en_nil_pos R p).mp a) q ((en_nil_pos R q).mp b)
    | cons c t ih =>
      intro p q a b
      obtain ⟨p', a1, a2⟩ := (en_pos R c t p).mp a
      obtain ⟨q', b1, b2⟩ := (en_pos R c t q).mp b
      exact h4 p q c p' q' (ih p' q' a2 b2) a1 b1
  have main : ∀ t (l : List Nat), l.Nodup → (∀ p ∈ l, ∀ q ∈ l, P p q) → ls_ l (en R t) ≤ 1 := by
    intro t
    induction t with
    | nil =>
      intro l hl hp
      refine ls_le_one hl (fun p _ => en_nonneg R _ p) (fun p _ => ?_) fun p hp' q hq a b => h5 p q (hp p hp' q hq) (co [] p q a b)
      show (if p ∈ R.ls then (1 : Int) else 0) ≤ 1
      split <;> decide
    | cons c t ih =>
      intro l hl hp
      refine ls_le_one hl (fun p _ => en_nonneg R _ p) (fun p hp' => ?_) fun p hp' q hq a b => h5 p q (hp p hp' q hq) (co (c :: t) p q a b)
      exact ih (mvs R.ar c p) (mvs_nodup ha c p) fun x hx y hy => h2 p p c x y (hp p hp' p hp') (mvs_mem.mp hx) (mvs_mem.mp hy)
  exact main t R.fs hf h1
/-! ### the pairs that end -/
def EndG (R : Rd) (k : Nd) : Prop := k.1 < R.n ∧ k.2.1 < R.n ∧ k.1 ≤ k.2.1 ∧ ∃ t, if k.2.2 then 0 < en R t k.1 ∧ 0 < en R t k.2.1 else k.1 = k.2.1 ∧ 2 ≤ en R t k.1
theorem prsI_mem {l : List Nat} {p q : Nat} (h : (p, q) ∈ prsI l) : p ∈ l ∧ q ∈ l := by
  unfold prsI at h
  obtain ⟨⟨a, i⟩, h1, h2⟩ := List.mem_flatMap.mp h
  obtain ⟨b, h3, h4⟩ := List.mem_map.mp h2
  cases h4
  exact ⟨List.mem_of_getElem? (List.mem_zipIdx_iff_getElem?.mp h1), List.mem_of_mem_drop h3⟩
theorem prsI_le {l : List Nat} (hl : l.Pairwise (· < ·)) {p q : Nat} (h : (p, q) ∈ prsI l) : p ≤ q := by
  unfold prsI at h
  obtain ⟨⟨a, i⟩, h1, h2⟩ := List.mem_flatMap.mp h
  obtain ⟨b, h3, h4⟩ := List.mem_map.mp h2
  cases h4
  have h1 := List.mem_zipIdx_iff_getElem?.mp h1
  dsimp only at h1 h3
  obtain ⟨hi, e⟩ := List.getElem?_eq_some_iff.mp h1
  rw [List.drop_eq_getElem_cons hi, e] at h3
  rcases List.mem_cons.mp h3 with z | z
  · omega
  · have hd : (l.drop i).Pairwise (· < ·) := hl.sublist (List.drop_sublist i l)
    rw [List.drop_eq_getElem_cons hi, e] at hd
    have := (List.pairwise_cons.mp hd).1 q z
    omega
theorem EndG.last {R : Rd} (hl : R.ls.Pairwise (· < ·)) (hn : ∀ p ∈ R.ls, p < R.n) : ∀ k ∈ lastNd R, EndG R k := by
  intro k hk
  obtain ⟨⟨p, q⟩, h1, rfl⟩ := List.mem_map.mp hk
  obtain ⟨a, b⟩ := prsI_mem h1
  exact ⟨hn p a, hn q b, prsI_le hl h1, [], (en_nil_pos R p).mpr a, (en_nil_pos R q).mpr b⟩
theorem EndG.beg {R : Rd} (hw : ∀ t, W R t ≤ 1) : ∀ k ∈ begNd R, ¬ EndG R k := by
  intro k hk ⟨_, _, _, t, h⟩
  obtain ⟨⟨p, q⟩, h1, rfl⟩ := List.mem_map.mp hk
  obtain ⟨a, b⟩ := prsI_mem h1
  have w := hw t
  dsimp only at h
  by_cases e : p = q
  · rw [if_neg (by simp [e])] at h
    have := ls_one (f := en R t) (fun q _ => en_nonneg R t q) a
    unfold W at w
    omega
  · rw [if_pos (by simp [e])] at h
    have := ls_two (f := en R t) (fun q _ => en_nonneg R t q) a b e
    unfold W at w
    omega
theorem EndG.step {R B : Rd} (hB : ∀ c p q, q ∈ mvs B.ar c p → (q, c, p) ∈ R.ar) (hn : ∀ a ∈ R.ar, a.1 < R.n) {k : Nd} (hk : EndG R k) : ∀ m ∈ backs B k, EndG R m := by
  intro m hm
  obtain ⟨k1, k2, k3, t, h⟩ := hk
  obtain ⟨c, _, hc⟩ := List.mem_flatMap.mp hm
  have pr : ∀ z ∈ prsM B k c, ∃ f g, (f, c, k.1) ∈ R.ar ∧ (g, c, k.2.1) ∈ R.ar ∧ z = ordP f g := by
    intro z hz
    obtain ⟨f, hf, h2⟩ := List.mem_flatMap.mp hz
    obtain ⟨g, hg, rfl⟩ := List.mem_map.mp h2
    exact ⟨f, g, hB c k.1 f hf, hB c k.2.1 g hg, rfl⟩
  unfold backsC at hc
  rcases List.mem_append.mp hc with hc | hc
  · by_cases e : k.2.2 = true
    · rw [if_pos e] at hc h
      obtain ⟨z, hz, rfl⟩ := List.mem_map.mp hc
      obtain ⟨f, g, a1, a2, rfl⟩ := pr z hz
      have n1 := hn _ a1
      have n2 := hn _ a2
      have e1 := en_step R c t a1
      have e2 := en_step R c t a2
      unfold ordP
      by_cases o : f ≤ g
      · rw [if_pos o]
        exact ⟨n1, n2, o, c :: t, by show 0 < en R (c :: t) f ∧ 0 < en R (c :: t) g; omega⟩
      · rw [if_neg o]
        exact ⟨n2, n1, by show g ≤ f; omega, c :: t, by show 0 < en R (c :: t) g ∧ 0 < en R (c :: t) f; omega⟩
    · rw [if_neg e] at hc; cases hc
  · by_cases e : k.1 ≠ k.2.1 ∨ k.2.2 = false
    · rw [if_pos e] at hc
      obtain ⟨z, hz, rfl⟩ := List.mem_map.mp hc
      obtain ⟨hz, hq⟩ := List.mem_filter.mp hz
      obtain ⟨f, g, a1, a2, rfl⟩ := pr z hz
      have n1 := hn _ a1
      have n2 := hn _ a2
      have fg : f = g := by
        unfold ordP at hq
        split at hq
        · simpa using hq
        · have : g = f := by simpa using hq
          exact this.symm
      subst fg
      have oo : ordP f f = (f, f) := if_pos (Nat.le_refl f)
      rw [oo]
      refine ⟨n1, n1, Nat.le_refl _, c :: t, ?_⟩
      show f = f ∧ 2 ≤ en R (c :: t) f
      refine ⟨rfl, ?_⟩
      by_cases e2 : k.2.2 = true
      · rw [if_pos e2] at h
        have ne : k.1 ≠ k.2.1 := by
          rcases e with z | z
          · exact z
          · rw [e2] at z; cases z
        have := ls_two (l := mvs R.ar c f) (f := en R t) (fun q _ => en_nonneg R t q) (mvs_mem.mpr a1) (mvs_mem.mpr a2) ne
        show 2 ≤ ls_ (mvs R.ar c f) (en R t)
        omega
      · rw [if_neg e2] at h
        have := en_step R c t a1
        omega
    · rw [if_neg e] at hc; cases hc
/-- all that may be in it -/
def allNd (n : Nat) : List Nd := (List.range n).flatMap fun p => ((List.range n).filter fun q => decide (p ≤ q)).flatMap fun q => if p = q then [(p, q, true), (p, q, false)] else [(p, q, true)]
theorem EndG.all {R : Rd} {k : Nd} (h : EndG R k) : k ∈ allNd R.n := by
  obtain ⟨k1, k2, k3, t, h⟩ := h
  obtain ⟨p, q, f⟩ := k
  refine List.mem_flatMap.mpr ⟨p, List.mem_range.mpr k1, List.mem_flatMap.mpr ⟨q, List.mem_filter.mpr ⟨List.mem_range.mpr k2, by simpa using k3⟩, ?_⟩⟩
  by_cases e : p = q
  · rw [if_pos e]; cases f <;> simp
  · rw [if_neg e]
    cases f
    · simp at h; exact absurd h.1 e
    · simp
theorem allNd_len {n : Nat} (h : n ≤ 6) : (allNd n).length < 64 := by
  match n, h with
  | 0, _ => decide
  | 1, _ => decide
  | 2, _ => decide
  | 3, _ => decide
  | 4, _ => decide
  | 5, _ => decide
  | 6, _ => decide
/-! ### two readers at once -/
def bothAr (A B : Rd) : List Arr := A.ar.flatMap fun a => (List.range B.n).flatMap fun q => (mvs B.ar a.2.1 q).map fun l => (a.1 * B.n + q, a.2.1, a.2.2 * B.n + l)
theorem pair_inj {m p q p' q' : Nat} (hq : q < m) (hq' : q' < m) (h : p * m + q = p' * m + q') : p = p' ∧ q = q' := by
  have hm : 0 < m := by omega
  have e1 : (p * m + q) / m = p := by rw [Nat.mul_comm, Nat.mul_add_div hm, Nat.div_eq_of_lt hq, Nat.add_zero]
  have e2 : (p' * m + q') / m = p' := by rw [Nat.mul_comm, Nat.mul_add_div hm, Nat.div_eq_of_lt hq', Nat.add_zero]
  have e : p = p' := by rw [← e1, ← e2, h]
  subst e
  exact ⟨rfl, by omega⟩
theorem pairNs_mem {ps qs : List Nat} {m p q : Nat} (h : ∀ q ∈ qs, q < m) (hq : q < m) : p * m + q ∈ pairNs ps qs m ↔ p ∈ ps ∧ q ∈ qs := by
  unfold pairNs
  rw [List.mem_flatMap]
  constructor
  · rintro ⟨a, ha, h2⟩
    obtain ⟨b, hb, e⟩ := List.mem_map.mp h2
    obtain ⟨rfl, rfl⟩ := pair_inj (h b hb) hq e
    exact ⟨ha, hb⟩
  · exact fun ⟨h1, h2⟩ => ⟨p, h1, List.mem_map.mpr ⟨q, h2, rfl⟩⟩
structure IsBoth (A B C : Rd) : Prop where
  fs : C.fs = pairNs A.fs B.fs B.n
  ls : C.ls = pairNs A.ls B.ls B.n
  ar : C.ar.Perm (bothAr A B)
theorem IsBoth.en {A B C : Rd} (h : IsBoth A B C) (hB : RdF B) : ∀ (t : List Nat) (p q : Nat), q < B.n → en C t (p * B.n + q) = en A t p * en B t q
  | [], p, q, hq => by
    show (if p * B.n + q ∈ C.ls then (1 : Int) else 0) = (if p ∈ A.ls then (1 : Int) else 0) * (if q ∈ B.ls then (1 : Int) else 0)
    rw [h.ls]
    by_cases h1 : p ∈ A.ls <;> by_cases h2 : q ∈ B.ls <;> simp [pairNs_mem hB.lsn hq, h1, h2]
  | c :: t, p, q, hq => by
    show ls_ (mvs C.ar c (p * B.n + q)) (K39.en C t) = ls_ (mvs A.ar c p) (K39.en A t) * ls_ (mvs B.ar c q) (K39.en B t)
    rw [mvs_ls, ls_perm h.ar, ← ls_mulr, mvs_ls]
    unfold bothAr
    rw [ls_flat]
    refine ls_congr fun a ha => ?_
    rw [ls_flat]
    by_cases e : a.1 = p ∧ a.2.1 = c
    · rw [if_pos e]
      obtain ⟨e1, e2⟩ := e
      have ek : ls_ (List.range B.n) (fun q' => ls_ ((mvs B.ar a.2.1 q').map fun l => (a.1 * B.n + q', a.2.1, a.2.2 * B.n + l)) fun a => if a.1 = p * B.n + q ∧ a.2.1 = c then K39.en C t a.2.2 else 0) = ls_ (List.range B.n) fun q' => if q' = q then ls_ (mvs B.ar c q') (fun l => K39.en A t a.2.2 * K39.en B t l) else 0 := by
        refine ls_congr fun q' hq' => ?_
        rw [ls_map]
        by_cases z : q' = q
        · rw [if_pos z, e2]
          refine ls_congr fun l hl => ?_
          rw [if_pos ⟨by show a.1 * B.n + q' = _; rw [e1, z], rfl⟩]
          exact h.en hB t a.2.2 l (hB.arn _ (mvs_mem.mp hl)).2.2
        · rw [if_neg z]
          refine ls_zero fun l hl => if_neg fun y => z ?_
          exact (pair_inj (List.mem_range.mp hq') hq y.1).2
      rw [ek, ls_pick List.nodup_range (List.mem_range.mpr hq) fun q' => ls_ (mvs B.ar c q') (fun l => K39.en A t a.2.2 * K39.en B t l), ls_mul]
    · rw [if_neg e]
      refine ls_zero fun q' hq' => ?_
      rw [ls_map]
      refine ls_zero fun l hl => if_neg fun y => e ⟨?_, y.2⟩
      exact (pair_inj (List.mem_range.mp hq') hq y.1).1
theorem IsBoth.w {A B C : Rd} (h : IsBoth A B C) (hB : RdF B) (t : List Nat) : W C t = W A t * W B t := by
  unfold W
  rw [h.fs]
  unfold pairNs
  rw [ls_flat, ← ls_mulr]
  refine ls_congr fun p _ => ?_
  rw [ls_map, ← ls_mul]
  exact ls_congr fun q hq => h.en hB t p q (hB.fsn q hq)
/-- what the tally counts -/
theorem IsBoth.tot {A B C : Rd} (h : IsBoth A B C) (hA : RdF A) (hB : RdF B) (hC : RdF C) (hL : C.L = A.L) (k : Nat) : tot [(1, A), (-1, C)] k = ls_ (texts A.L k) fun t => W A t * (1 - W B t) := by
  have e : K39.tot [(1, A), (-1, C)] k = endR A (fwd A k) - endR C (fwd C k) := by
    simp [K39.tot]; omega
  rw [e, hA.end_, hC.end_, hL, Int.sub_eq_add_neg, ← Int.one_mul (-_), Int.mul_neg, ← Int.neg_mul, ← ls_mul, ← ls_add]
  refine ls_congr fun t _ => ?_
  rw [h.w hB, Int.mul_sub]; omega
end K39
end Text_K39N2

section Text_K39L8
set_option Elab.async false set_option linter.all false set_option maxRecDepth 100000 set_option maxHeartbeats 4000000
/-! Any reader. -/
namespace K39
open PySem PySem.Spec PyProof.Rows L2
variable {P : Program} {w : World} {K : PySem.W.Frag} {mg : Str → Option Value} {base : Heap}
theorem mkR_ok {L : List Nat} {n : Nat} {fs ls : List Nat} {ar : List Arr} (hL : LetOk L) (n1 : 1 ≤ n) (n60 : n ≤ 60) (f1 : fs.Nodup) (f2 : ∀ p ∈ fs, p < n) (l1 : ls.Nodup) (l2 : ∀ p ∈ ls, p < n) (a1 : ar.Nodup)
    (a2 : ∀ a ∈ ar, a.1 < n ∧ a.2.1 ∈ L ∧ a.2.2 < n) (a3 : ar.length ≤ 4000) : (mkR L n fs ls ar).Ok where
  lets := hL
  n1 := n1
  n60 := n60
  fs := srtN_asc f1
  fsn := fun q hq => f2 q (srtBy_perm.mem_iff.mp hq)
  ls := srtN_asc l1
  lsn := fun q hq => l2 q (srtBy_perm.mem_iff.mp hq)
  arn := fun a ha => a2 a (srtBy_perm.mem_iff.mp ha)
  ar := srtBy_asc eA_toks a1
  arl := by
    show (srtA ar).length ≤ 4000
    rw [srtBy_perm.length_eq]; exact a3
theorem PotAt.ne_nd {κ : Type} [DecidableEq κ] {H : Hp} {p d : Addr} {E : Enc κ} {kvs : List (κ × V)} (h : PotAt H p) (n : ND w K H E d kvs) : d ≠ p := by
  obtain ⟨a, b, c, h⟩ := h
  obtain ⟨φ, q⟩ := n.at
  intro z; subst z; rw [h] at q; cases q
theorem ND.sx {κ : Type} [DecidableEq κ] {H H' : Hp} {p d : Addr} {E : Enc κ} {kvs : List (κ × V)} (n : ND w K H E d kvs) (h : PotAt H p) (s : SameX p H H') : ND w K H' E d kvs := by
  obtain ⟨φ, q⟩ := n.at
  exact n.to (h.to s) (by rw [q, s _ _ q (h.ne_nd n)])
theorem PotAt.ne_new {H : Hp} {p q : Addr} (h : PotAt H p) (n : H q = none) : p ≠ q := by
  obtain ⟨a, b, c, h⟩ := h
  exact ne_of_none h n
theorem Same.none {H H' : Hp} {a : Addr} (s : Same H H') (h : H' a = none) : H a = none := none_of_same s h
theorem SameX.none {p : Addr} {H H' : Hp} {a : Addr} (s : SameX p H H') (h : H' a = none) (n : a ≠ p) : H a = none := by
  cases q : H a with
  | none => rfl
  | some o => rw [s a o q n] at h; cases h
/-- arrows that may stand in a reader of n states -/
abbrev ArN (L : List Nat) (n : Nat) (a : Arr) : Prop := a.1 < n ∧ a.2.1 ∈ L ∧ a.2.2 < n
theorem keys_in_put {κ : Type} [DecidableEq κ] {kvs : List (κ × V)} {k : κ} {v : V} : ∀ x ∈ (putK kvs k v).map (·.1), x = k ∨ x ∈ kvs.map (·.1) := by
  intro x hx
  unfold putK at hx
  obtain ⟨y, hy, rfl⟩ := List.mem_map.mp hx
  split at hy
  · obtain ⟨z, hz, rfl⟩ := List.mem_map.mp hy
    refine .inr (List.mem_map.mpr ⟨z, hz, ?_⟩)
    split <;> rfl
  · rcases List.mem_append.mp hy with z | z
    · exact .inr (List.mem_map.mpr ⟨y, z, rfl⟩)
    · rw [List.mem_singleton.mp z]; exact .inl rfl
def sp_l_any_reader (w : World) (K : PySem.W.Frag) : Sp := fun vs H Q E => ∃ (p : Addr) (L : List Nat) (m : Nat), vs = [.ref p, .str (tx L), .int (m : Int)] ∧ LetOk L ∧ 1 ≤ m ∧ m ≤ 6 ∧ PotAt H p ∧ ∀ d R H', SameX p H H' → PotAt H' p → LRd K H' d R → R.Ok → R.L = L → R.n ≤ m → Q (.ref d) H'
abbrev N_l_any_reader : List Str := ["_law_pot_here", "_law_signs_here", "_law_most", "_law_count", "_law_links", "_law_spot", "_law_sign", "_law_turn", "_law_heads", "_law_tails"]
theorem sc_l_any_reader : FnScope N_l_any_reader ["_law_pot_here", "_law_signs_here", "_law_most"] (defScope s_l_any_reader) := ⟨rfl, rfl, rfl, by decide +kernel, rfl, by decide +kernel, by decide +kernel⟩
theorem p_l_any_reader (T : Tx K mg) : Fn P w K mg base 4 "_law_any_reader" (sp_l_any_reader w K) := by
  refine fn_mk T.d_l_any_reader T.g_l_any_reader sc_l_any_reader (fun _ _ _ _ _ _ us h => by match us, h with | [_, _, _], _ => rfl) (fun vs H Q E ⟨p, L, m, e, hL, m1, m6, hp, q⟩ => by rw [e]; rfl) fun cdv A outer s H vs Q E hr ⟨p, L, m, e, hL, m1, m6, hp, q⟩ => ?_
  subst e
  have hu := hr.units
  have hu1 := hu_of hr
  have nd := sc_l_any_reader.nd
  refine ⟨_, (pss_cons (ps_set (i := 3) nd rfl (Or.inl rfl) (pe_op op_add pe_int (cg (p_l_bit T) hr (pa_cons (pv 0) (pa_cons (pv 2) pa_nil)))))
      (pss_cons (ps_set (i := 4) nd rfl (Or.inl rfl) (pe_ndNew cA))
      (pss_cons (ps_for PassesOwn.never rfl (pi_range1 (by rfl) T.b_range (pa_cons (pv 3) pa_nil)) (pg_name (i := 5) nd rfl (Or.inl rfl))
        (pss_one (ps_for PassesOwn.never rfl (pi_str (pv 1)) (pg_name (i := 6) nd rfl (Or.inl rfl))
          (pss_one (ps_for PassesOwn.never rfl (pi_range1 (by rfl) T.b_range (pa_cons (cg (p_l_pick T) hr (pa_cons (pv 0) (pa_cons (pe_lst (pa_cons pe_int (pa_cons pe_int (pa_cons pe_int (pa_cons pe_int (pa_cons pe_int pa_nil)))))) pa_nil))) pa_nil)) (pg_name (i := 7) nd rfl (Or.inl rfl))
            (pss_one (ps_asg pe_bl (pg_sub (pv 4) (pe_tup (pa_cons (pv 5) (pa_cons (pv 6) (pa_cons (cg (p_l_bit T) hr (pa_cons (pv 0) (pa_cons (pv 3) pa_nil))) pa_nil)))) (set_nd hu cA)))))))))
      (pss_cons (ps_set (i := 8) nd rfl (Or.inl rfl) (cg (p_l_some_of T) hr (pa_cons (pv 0) (pa_cons (pe_listRg rfl (by rfl) T.b_list (prg_1 (by rfl) T.b_range (pv 3))) (pa_cons (pe_callB (call_min2 rfl) (by rfl) T.b_min (by decide +kernel) (pa_cons pe_int (pa_cons (cg (p_l_bit T) hr (pa_cons (pv 0) (pa_cons pe_int pa_nil))) pa_nil))) pa_nil)))))
      (pss_cons (ps_set (i := 9) nd rfl (Or.inl rfl) (cg (p_l_some_of T) hr (pa_cons (pv 0) (pa_cons (pe_listRg rfl (by rfl) T.b_list (prg_1 (by rfl) T.b_range (pv 3))) (pa_cons (pe_callB (call_min2 rfl) (by rfl) T.b_min (by decide +kernel) (pa_cons pe_int (pa_cons (cg (p_l_bit T) hr (pa_cons (pv 0) (pa_cons pe_int pa_nil))) pa_nil))) pa_nil)))))
      (pss_one (ps_ret (cg (p_l_told_reader T) hr (pa_cons (pv 1) (pa_cons (pv 3) (pa_cons (pv 8) (pa_cons (pv 9) (pa_cons (pe_callTy (cr_ndList rfl cA) (by rfl) T.b_list (by decide +kernel) (pa_cons (pv 4) pa_nil)) pa_nil))))))))))))), ?_⟩
  have l6 := sz60
  refine ⟨_, rfl, _, rfl, p, m, rfl, by omega, by omega, hp, fun r H1 hr s1 p1 => ⟨_, _, rfl, rfl, ?_⟩⟩
  have en : (1 : Int) + (r : Int) = ((r + 1 : Nat) : Int) := by omega
  generalize hn : r + 1 = n at en
  refine fun F oF nF ndF => ?_
  have pF : p ≠ F := p1.ne_new nF
  have nFH : H F = none := s1.none nF (Ne.symm pF)
  have sF : SameX p H (upd H1 F oF) := s1.trans (Same.new nF).x
  have pF1 : PotAt (upd H1 F oF) p := p1.upd pF
  have n0 : 0 < n := by omega
  have n6 : n ≤ 6 := by omega
  have lL : L.length ≤ 4 := hL.four
  refine ⟨_, rfl, _, rfl, by omega, by omega, ?_⟩
  refine for_it walk_range (fun i σ H' => SameX p H H' ∧ PotAt H' p ∧ (∃ kvs, ND w K H' cA F kvs ∧ (∀ a ∈ kvs.map (·.1), ArN L n a) ∧ kvs.length ≤ i * 8) ∧ ∃ o5 o6 o7, σ = [some (.ref p), some (.str (tx L)), some (.int (m : Int)), some (.int ((1 : Int) + (r : Int))), some (.ref F), o5, o6, o7, none, none])
    ⟨sF, pF1, ⟨[], ndF, nofun, by simp⟩, none, none, none, rfl⟩ (fun _ _ _ _ _ => trivial) (fun i x σ H2 H3 hi ⟨s2, p2, ⟨kvs, hN, inv, la⟩, o5, o6, o7, eσ⟩ yy => ?_) fun σ H2 ⟨s2, p2, ⟨kvs, hN, inv, la⟩, o5, o6, o7, eσ⟩ => ?_
  · obtain ⟨rfl, rfl⟩ := yy
    subst eσ
    have hin : i < n := by omega
    refine ⟨_, rfl, _, rfl, ?_⟩
    refine for_it walk_str (fun j σ H' => SameX p H H' ∧ PotAt H' p ∧ (∃ kvs, ND w K H' cA F kvs ∧ (∀ a ∈ kvs.map (·.1), ArN L n a) ∧ kvs.length ≤ i * 8 + j * 2) ∧ ∃ o6 o7, σ = [some (.ref p), some (.str (tx L)), some (.int (m : Int)), some (.int ((1 : Int) + (r : Int))), some (.ref F), some (.int ((0 : Int) + (i : Int))), o6, o7, none, none])
      ⟨s2, p2, ⟨kvs, hN, inv, by omega⟩, o6, o7, rfl⟩ (fun _ _ _ _ _ => trivial) (fun j x σ H4 H5 hj ⟨s4, p4, ⟨kvs, hN, inv, la⟩, o6, o7, eσ⟩ yy => ?_) fun σ H4 ⟨s4, p4, ⟨kvs, hN, inv, la⟩, o6, o7, eσ⟩ => ?_
    · obtain ⟨rfl, c, hc, rfl⟩ := yy
      subst eσ
      have hcL : L[j]? = some c := by rw [← Array.getElem?_toList, walk_strL] at hc; exact hc
      have mc : c ∈ L := List.mem_of_getElem? hcL
      have jL : j < L.length := (List.getElem?_eq_some_iff.mp hcL).1
      refine ⟨_, rfl, by show 5 ≤ sizeLine; omega, fun g ng => ?_⟩
      have sg1 := Same.new (o := .lst [V.int 0, .int 1, .int 1, .int 1, .int 2]) ng
      have pg := p4.same sg1
      refine ⟨p, g, _, rfl, upd_same, (p4.ne_new ng).symm, by simp, by simp, pg, fun k v H6 hv s6 p6 => ?_⟩
      obtain ⟨t, ht, rfl⟩ : ∃ t : Nat, t ≤ 2 ∧ v = .int (t : Int) := by
        have hm := List.mem_of_getElem? hv
        simp at hm
        rcases hm with rfl | rfl | rfl
        · exact ⟨0, by omega, rfl⟩
        · exact ⟨1, by omega, rfl⟩
        · exact ⟨2, by omega, rfl⟩
      refine ⟨_, rfl, by omega, by omega, ?_⟩
      refine for_it walk_range (fun k σ H' => SameX p H H' ∧ PotAt H' p ∧ (∃ kvs, ND w K H' cA F kvs ∧ (∀ a ∈ kvs.map (·.1), ArN L n a) ∧ kvs.length ≤ i * 8 + j * 2 + k) ∧ ∃ o7, σ = [some (.ref p), some (.str (tx L)), some (.int (m : Int)), some (.int ((1 : Int) + (r : Int))), some (.ref F), some (.int ((0 : Int) + (i : Int))), some (.str (sg c)), o7, none, none])
        ⟨(s4.trans sg1.x).trans s6, p6, ⟨kvs, (hN.same sg1).sx pg s6, inv, by omega⟩, o7, rfl⟩ (fun _ _ _ _ _ => trivial) (fun k x σ H7 H8 hk ⟨s7, p7, ⟨kvs, hN, inv, la⟩, o7, eσ⟩ yy => ?_) fun σ H7 ⟨s7, p7, ⟨kvs, hN, inv, la⟩, o7, eσ⟩ => ?_
      · obtain ⟨rfl, rfl⟩ := yy
        subst eσ
        refine ⟨_, rfl, _, rfl, _, rfl, _, rfl, _, rfl, p, n, ?_, by omega, by omega, p7, fun r3 H8 hr3 s8 p8 => ⟨by show 3 ≤ sizeLine; omega, fun t1 nt => ?_⟩⟩
        · show [V.ref p, V.int ((1 : Int) + (r : Int))] = _
          rw [en]
        have sT := Same.new (o := .tup [.int ((0 : Int) + (i : Int)), .str (sg c), .int (r3 : Int)]) nt
        have e0 : (0 : Int) + (i : Int) = (i : Int) := by omega
        refine ⟨(i, c, r3), F, kvs, ?_, rfl, (hN.sx p7 s8).same sT, by omega, fun o' hn' => ?_⟩
        · refine Dt.ofArr (a := (i, c, r3)) (SqT.of ?_)
          rw [upd_same, e0]
        have h8 := length_putK kvs (i, c, r3) (V.bl true)
        refine ⟨((s7.trans s8).trans sT.x).new nFH, (p8.same sT).upd pF, ⟨_, hn', fun a ha => ?_, by omega⟩, _, rfl⟩
        rcases keys_in_put a ha with z | z
        · rw [z]; exact ⟨hin, mc, hr3⟩
        · exact inv a z
      · subst eσ
        exact ⟨s7, p7, ⟨kvs, hN, inv, by omega⟩, _, _, rfl⟩
    · subst eσ
      exact ⟨s4, p4, ⟨kvs, hN, inv, by have := tx_len L; simp at la; omega⟩, _, _, _, rfl⟩
  · subst eσ
    have eg : rgV 0 ((1 : Int) + (r : Int)) = (List.range n).map fun k : Nat => V.int (k : Int) := by
      unfold rgV
      rw [en, Int.sub_zero, Int.toNat_natCast]
      refine List.map_congr_left fun k _ => ?_
      rw [Int.zero_add]
    have mn : ∀ b : Nat, ∃ c : Nat, c ≤ 1 ∧ (if (b : Int) < 1 then (b : Int) else 1) = (c : Int) := fun b => by
      by_cases z : (b : Int) < 1
      · rw [if_pos z]; exact ⟨b, by omega, rfl⟩
      · rw [if_neg z]; exact ⟨1, by omega, rfl⟩
    refine ⟨_, rfl, _, rfl, _, rfl, RgOk.of_le (by omega) (by omega) (by omega) (by omega), fun g ng => ?_⟩
    rw [eg]
    have sG := Same.new (o := .lst ((List.range n).map fun k : Nat => V.int (k : Int))) ng
    have p3 := p2.same sG
    refine ⟨_, rfl, p, 9, rfl, by omega, by omega, p3, fun b H3 hb s3 p4 => ⟨_, _, rfl, ?_⟩⟩
    obtain ⟨c1, hc1, ec1⟩ := mn b
    rw [ec1]
    refine ⟨p, g, List.range n, c1, rfl, s3 _ _ upd_same (p2.ne_new ng).symm, (p2.ne_new ng).symm, List.nodup_range, by simp; omega, by simp; omega, p4, fun v1 l1 H5 s5 p5 dv1 pw1 mem1 => ?_⟩
    refine ⟨_, rfl, _, rfl, _, rfl, RgOk.of_le (by omega) (by omega) (by omega) (by omega), fun g2 ng2 => ?_⟩
    rw [eg]
    have sG2 := Same.new (o := .lst ((List.range n).map fun k : Nat => V.int (k : Int))) ng2
    have p6 := p5.same sG2
    refine ⟨_, rfl, p, 9, rfl, by omega, by omega, p6, fun b2 H6 hb2 s6 p7 => ⟨_, _, rfl, ?_⟩⟩
    obtain ⟨c2, hc2, ec2⟩ := mn b2
    rw [ec2]
    refine ⟨p, g2, List.range n, c2, rfl, s6 _ _ upd_same (p5.ne_new ng2).symm, (p5.ne_new ng2).symm, List.nodup_range, by simp; omega, by simp; omega, p7, fun v2 l2 H8 s8 p8 dv2 pw2 mem2 => ?_⟩
    have hN8 := (((((hN.same sG).sx p3 s3).sx p4 s5).same sG2).sx p6 s6).sx p7 s8
    have dv18 := ((dv1.same sG2).to (p6.to s6)).to (p7.to s8)
    refine ⟨_, rfl, _, rfl, _, rfl, _, rfl, _, rfl, F, kvs, rfl, hN8, fun z ys nz dz => ?_⟩
    have sZ := Same.new (o := .lst ys) nz
    obtain ⟨a1, xs1, rfl, hs1, dd1⟩ := (dv18.same sZ).tuple
    obtain ⟨a2, xs2, rfl, hs2, dd2⟩ := (dv2.same sZ).tuple
    have ek : (kvs.map fun p => cA.e p.1) = (kvs.map (·.1)).map eA := by rw [List.map_map]; rfl
    rw [ek] at dz
    refine ⟨L, n, .ref a1, .ref a2, .ref z, l1, l2, kvs.map (·.1), ?_, ⟨a1, xs1, rfl, .inr hs1, dd1⟩, ⟨a2, xs2, rfl, .inr hs2, dd2⟩, ⟨z, ys, rfl, .inl (SqL.of upd_same), dz.same sZ⟩, fun d H9 s9 nd9 hd => ?_⟩
    · show [V.str (tx L), V.int ((1 : Int) + (r : Int)), _, _, _] = _
      rw [en]
    obtain ⟨xs, ep, g1, g2, g3, g4, g5⟩ := id hN8
    refine q d _ H9 ((((((s2.trans sG.x).trans s3).trans s5).trans sG2.x).trans s6).trans s8 |>.trans sZ.x |>.trans s9.x) ((p8.same sZ).same s9) hd ?_ rfl (by show n ≤ m; omega)
    exact mkR_ok hL n0 (by omega) (pw1.imp Nat.ne_of_lt) (fun x hx => List.mem_range.mp (mem1 x hx)) (pw2.imp Nat.ne_of_lt) (fun x hx => List.mem_range.mp (mem2 x hx)) g5 inv (by rw [List.length_map]; omega)
end K39
end Text_K39L8

section Text_K39L9
set_option Elab.async false set_option linter.all false set_option maxRecDepth 100000 set_option maxHeartbeats 4000000
/-! Readers with their states renumbered. -/
namespace K39
open PySem PySem.Spec PyProof.Rows L2
variable {P : Program} {w : World} {K : PySem.W.Frag} {mg : Str → Option Value} {base : Heap}
/-- an arrow with its states renumbered -/
abbrev renA (o : Nat → Nat) (a : Arr) : Arr := (o a.1, a.2.1, o a.2.2)
def renR (o : Nat → Nat) (R : Rd) : Rd := mkR R.L R.n (R.fs.map o) (R.ls.map o) (R.ar.map (renA o))
def sp_l_renumbered (w : World) (K : PySem.W.Frag) : Sp := fun vs H Q E => ∃ (p d : Addr) (R : Rd), vs = [.ref p, .ref d] ∧ R.Ok ∧ PotAt H p ∧ LRd K H d R ∧ ∀ (o : Nat → Nat) c H', SameX p H H' → PotAt H' p → LRd K H' c (renR o R) → (∀ i, i < R.n → o i < R.n) → (∀ i j, i < R.n → j < R.n → o i = o j → i = j) → Q (.ref c) H'
abbrev N_l_renumbered : List Str := ["_law_pot_here", "_law_reader", "_law_order", "_law_links", "_law_heads", "_law_tails", "_law_here", "_law_sign", "_law_there", "_law_spot"]
theorem sc_l_renumbered : FnScope N_l_renumbered ["_law_pot_here", "_law_reader"] (defScope s_l_renumbered) := ⟨rfl, rfl, rfl, by decide +kernel, rfl, by decide +kernel, by decide +kernel⟩
theorem p_l_renumbered (T : Tx K mg) : Fn P w K mg base 3 "_law_renumbered" (sp_l_renumbered w K) := by
  refine fn_mk T.d_l_renumbered T.g_l_renumbered sc_l_renumbered (fun _ _ _ _ _ _ us h => by match us, h with | [_, _], _ => rfl) (fun vs H Q E ⟨p, d, R, e, ok, hp, h, q⟩ => by rw [e]; rfl) fun cdv A outer s H vs Q E hr ⟨p, d, R, e, ok, hp, h, q⟩ => ?_
  subst e
  have hu := hr.units
  have hu1 := hu_of hr
  have nd := sc_l_renumbered.nd
  refine ⟨_, (pss_cons (ps_set (i := 2) nd rfl (Or.inr rfl) (cg (p_l_dealt T) hr (pa_cons (pv 0) (pa_cons (pe_listRg rfl (by rfl) T.b_list (prg_1 (by rfl) T.b_range (pe_dget hu1 (pv 1) pe_str (fun _ _ => rfl)))) pa_nil))))
      (pss_cons (ps_setLc (i := 3) (own := [("_law_here", 6), ("_law_sign", 7), ("_law_there", 8)]) rfl nd rfl rfl (sw_true rfl rfl rfl (by decide +kernel)) (pi_tup (pe_dget hu1 (pv 1) pe_str (fun _ _ => rfl))) (blkOk_by (N := N_l_renumbered) (sc := defScope s_l_renumbered) (by decide +kernel)) (fun _ _ _ _ _ => (show PG _ _ (gTup K 3 (gCons (gName 6) (gCons (gName 7) (gCons (gName 8) gNil)))) from pg_tup rfl (pgs_cons (pg_name (i := 6) nd rfl (Or.inl rfl) (Or.inr rfl)) (pgs_cons (pg_name (i := 7) nd rfl (Or.inl rfl) (Or.inr rfl)) (pgs_cons (pg_name (i := 8) nd rfl (Or.inl rfl) (Or.inr rfl)) pgs_nil))))) (fun _ _ _ _ _ => pts_nil) (fun _ _ _ _ _ => (pe_tup (pa_cons (pe_ix (show IxR _ (rIxL K) from ix_list) (pv 2) (pv 6) (fun _ _ => rfl)) (pa_cons (pv 7) (pa_cons (pe_ix (show IxR _ (rIxL K) from ix_list) (pv 2) (pv 8) (fun _ _ => rfl)) pa_nil))))))
      (pss_cons (ps_par (i := 4) (j := 5) (by rfl) nd rfl rfl (by decide) rfl rfl (pa_cons (pe_lc (own := [("_law_spot", 9)]) rfl nd (pi_tup (pe_dget hu1 (pv 1) pe_str (fun _ _ => rfl))) (blkOk_by (N := N_l_renumbered) (sc := defScope s_l_renumbered) (by decide +kernel)) (fun _ _ _ _ _ => (pg_name (i := 9) nd rfl (Or.inl rfl) (Or.inr rfl))) (fun _ _ _ _ _ => pts_nil) (fun _ _ _ _ _ => (pe_ix (show IxR _ (rIxL K) from ix_list) (pv 2) (pv 9) (fun _ _ => rfl)))) (pa_cons (pe_lc (own := [("_law_spot", 9)]) rfl nd (pi_tup (pe_dget hu1 (pv 1) pe_str (fun _ _ => rfl))) (blkOk_by (N := N_l_renumbered) (sc := defScope s_l_renumbered) (by decide +kernel)) (fun _ _ _ _ _ => (pg_name (i := 9) nd rfl (Or.inl rfl) (Or.inr rfl))) (fun _ _ _ _ _ => pts_nil) (fun _ _ _ _ _ => (pe_ix (show IxR _ (rIxL K) from ix_list) (pv 2) (pv 9) (fun _ _ => rfl)))) pa_nil)) (by rfl))
      (pss_one (ps_ret (cg (p_l_told_reader T) hr (pa_cons (pe_dget hu1 (pv 1) pe_str (fun _ _ => rfl)) (pa_cons (pe_dget hu1 (pv 1) pe_str (fun _ _ => rfl)) (pa_cons (pv 4) (pa_cons (pv 5) (pa_cons (pv 3) pa_nil))))))))))), ?_⟩
  have l6 := sz60
  have n6 := ok.n60
  obtain ⟨hv, tv, av, h1, h2, h3, h4⟩ := id h
  refine ⟨_, rfl, _, rfl, d, _, rfl, .inl ⟨_, Sum.inr "size", .inl h1, rfl, rfl⟩, _, rfl, RgOk.of_le (by omega) (by omega) (by omega) (by omega), fun g ng => ?_⟩
  have eg : rgV 0 (R.n : Int) = ((List.range R.n).map fun k : Nat => (k : Int)).map V.int := by
    unfold rgV
    rw [Int.sub_zero, Int.toNat_natCast, List.map_map]
    refine List.map_congr_left fun k _ => ?_
    rw [Int.zero_add]; rfl
  rw [eg]
  have sG := Same.new (o := .lst (((List.range R.n).map fun k : Nat => (k : Int)).map V.int)) ng
  refine ⟨p, g, _, rfl, upd_same, (hp.ne_new ng).symm, by simp; omega, hp.same sG, fun b ms H1 s1 p1 nb hb pm => ?_⟩
  obtain ⟨os, pl, rfl⟩ := perm_lift (fun n : Nat => (n : Int)) (List.range R.n) pm
  have lo : os.length = R.n := by rw [pl.length_eq, List.length_range]
  have no : os.Nodup := pl.nodup_iff.mpr List.nodup_range
  have s01 : SameX p H H1 := sG.x.trans s1
  have dp : d ≠ p := by
    obtain ⟨x, y, z, hx⟩ := id hp
    exact ne_of h1 hx (by intro z; cases z)
  have t01 : TLe H H1 := hp.to s01
  have h1' := s01 _ _ h1 dp
  have h2' := h2.to t01
  have h3' := h3.to t01
  have h4' := h4.to t01
  have oi : ∀ i, i < R.n → os[i]? = some (os.getD i 0) := fun i hi => by
    rw [List.getD_eq_getElem?_getD, List.getElem?_eq_getElem (by omega)]; rfl
  have oV : ∀ i, i < R.n → atI ((os.map fun n : Nat => (n : Int)).map V.int) (i : Int) = some (.int ((os.getD i 0 : Nat) : Int)) := fun i hi => by
    refine atI_nat ?_
    rw [List.getElem?_map, List.getElem?_map, oi i hi]; rfl
  obtain ⟨a, xs, rfl, hs, da⟩ := h4'.tuple
  have lx : xs.length = R.ar.length := by rw [da.length, List.length_map]
  refine ⟨_, rfl, d, _, rfl, .inl ⟨_, Sum.inr "links", .inl h1', rfl, rfl⟩, a, rfl, ⟨_, hs⟩, fun D nD => ?_⟩
  have arl := ok.arl
  refine comp_it (walk_tup (xs := xs)) grows_at R.ar lx.symm (by omega) (fun _ => true) (fun z y H => Dt K H y (eA (renA (fun i => os.getD i 0) z))) (fun a y H H' k h => h.to k) nD (fun H' sm => SqT.tle sm.tle hs) (fun i x z H' H2 hp sm y => ?_) fun ys H2 sm hy pa => ?_
  · obtain ⟨rfl, hx⟩ := y
    obtain ⟨dd, hd1, hd2⟩ := da.get' hx
    rw [List.getElem?_map, hp] at hd1
    obtain rfl := Option.some.inj hd1
    obtain ⟨t, rfl, ht⟩ := (hd2.same sm).arr
    have zn := ok.arn z (List.mem_of_getElem? hp)
    have hbb : SqL K H2 b ((os.map fun n : Nat => (n : Int)).map V.int) := SqL.of (sm _ _ hb)
    exact turn_3 ht rfl fun C c2 => ⟨_, rfl, _, rfl, b, _, _, _, rfl, rfl, hbb, oV z.1 zn.1, _, rfl, _, rfl, _, rfl, b, _, _, _, rfl, rfl, hbb, oV z.2.2 zn.2.2, by show 3 ≤ sizeLine; omega, fun t nt => c2 _ _ (Same.new nt) (Dt.ofArr (a := renA (fun i => os.getD i 0) z) (SqT.of upd_same))⟩
  rw [filt] at pa
  have pd := DtAll.of (K := K) (fun z : Arr => eA (renA (fun i => os.getD i 0) z)) pa
  have comp2 : ∀ (l : List Nat) (v : V) (H3 : Hp), (∀ x ∈ l, x < R.n) → True := fun _ _ _ _ => trivial
  obtain ⟨a2, xs2, rfl, hs2, da2⟩ := (h2'.same sm).tuple
  have lx2 : xs2.length = R.fs.length := by rw [da2.length, List.length_map]
  have lf := asc_len ok.fs ok.fsn
  have ll := asc_len ok.ls ok.lsn
  have h1b := sm _ _ h1'
  refine ⟨_, rfl, d, _, rfl, .inl ⟨_, Sum.inr "heads", .inl h1b, rfl, rfl⟩, a2, rfl, ⟨_, hs2⟩, fun D2 nD2 => ?_⟩
  refine comp_it (walk_tup (xs := xs2)) grows_at R.fs lx2.symm (by omega) (fun _ => true) (fun z y H => y = .int ((os.getD z 0 : Nat) : Int)) (fun a y H H' k h => h) nD2 (fun H' sm => SqT.tle sm.tle hs2) (fun i x z H' H3 hp sm3 y => ?_) fun ys2 H3 sm3 hy2 pa2 => ?_
  · obtain ⟨rfl, hx⟩ := y
    obtain ⟨dd, hd1, hd2⟩ := da2.get' hx
    rw [List.getElem?_map, hp] at hd1
    obtain rfl := Option.some.inj hd1
    cases hd2
    have zn := ok.fsn z (List.mem_of_getElem? hp)
    exact turn_name rfl fun C c2 => ⟨_, rfl, _, rfl, b, _, _, _, rfl, rfl, SqL.of (sm3 _ _ (sm _ _ hb)), oV z zn, c2 _ _ (Same.refl _) rfl⟩
  rw [filt] at pa2
  have e2 := ints_of (f := fun z : Nat => ((os.getD z 0 : Nat) : Int)) pa2
  obtain ⟨a3, xs3, rfl, hs3, da3⟩ := ((h3'.same sm).same sm3).tuple
  have lx3 : xs3.length = R.ls.length := by rw [da3.length, List.length_map]
  have h1c := sm3 _ _ h1b
  refine ⟨_, rfl, d, _, rfl, .inl ⟨_, Sum.inr "tails", .inl h1c, rfl, rfl⟩, a3, rfl, ⟨_, hs3⟩, fun D3 nD3 => ?_⟩
  refine comp_it (walk_tup (xs := xs3)) grows_at R.ls lx3.symm (by omega) (fun _ => true) (fun z y H => y = .int ((os.getD z 0 : Nat) : Int)) (fun a y H H' k h => h) nD3 (fun H' sm => SqT.tle sm.tle hs3) (fun i x z H' H4 hp sm4 y => ?_) fun ys3 H4 sm4 hy3 pa3 => ?_
  · obtain ⟨rfl, hx⟩ := y
    obtain ⟨dd, hd1, hd2⟩ := da3.get' hx
    rw [List.getElem?_map, hp] at hd1
    obtain rfl := Option.some.inj hd1
    cases hd2
    have zn := ok.lsn z (List.mem_of_getElem? hp)
    exact turn_name rfl fun C c2 => ⟨_, rfl, _, rfl, b, _, _, _, rfl, rfl, SqL.of (sm4 _ _ (sm3 _ _ (sm _ _ hb))), oV z zn, c2 _ _ (Same.refl _) rfl⟩
  rw [filt] at pa3
  have e3 := ints_of (f := fun z : Nat => ((os.getD z 0 : Nat) : Int)) pa3
  have h1d := sm4 _ _ h1c
  have dN : ∀ (l : List Nat) (H : Hp), DtAll K H (l.map fun z : Nat => V.int ((os.getD z 0 : Nat) : Int)) ((l.map fun i => os.getD i 0).map eN) := fun l H => by
    have := dtNs' (K := K) (H := H) (l.map fun i => os.getD i 0)
    rw [List.map_map] at this
    exact this
  refine ⟨_, _, rfl, ?_⟩
  refine ⟨_, rfl, d, _, rfl, .inl ⟨_, Sum.inr "signs", .inl h1d, rfl, rfl⟩, _, rfl, d, _, rfl, .inl ⟨_, Sum.inr "size", .inl h1d, rfl, rfl⟩, _, rfl, _, rfl, _, rfl, ?_⟩
  refine ⟨R.L, R.n, _, _, _, R.fs.map fun i => os.getD i 0, R.ls.map fun i => os.getD i 0, R.ar.map (renA fun i => os.getD i 0), rfl, ⟨D2, ys2, rfl, .inl (SqL.of (sm4 _ _ hy2)), by rw [e2, List.map_map]; exact dN _ _⟩, ⟨D3, ys3, rfl, .inl (SqL.of hy3), by rw [e3, List.map_map]; exact dN _ _⟩, ⟨D, ys, rfl, .inl (SqL.of (sm4 _ _ (sm3 _ _ hy))), by rw [List.map_map]; exact (pd.same sm3).same sm4⟩, fun c H5 s5 nc hc => ?_⟩
  refine q (fun i => os.getD i 0) c H5 ((((s01.trans sm.x).trans sm3.x).trans sm4.x).trans s5.x) ((((p1.same sm).same sm3).same sm4).same s5) hc (fun i hi => ?_) fun i j hi hj e => ?_
  · exact List.mem_range.mp (pl.mem_iff.mp (List.mem_of_getElem? (oi i hi)))
  · have e1 := oi i hi
    have e2 := oi j hj
    rw [show os.getD i 0 = os.getD j 0 from e, ← e2] at e1
    exact (List.getElem?_inj (by omega) no).mp e1
end K39
end Text_K39L9

section Text_K39L10
set_option Elab.async false set_option linter.all false set_option maxRecDepth 100000 set_option maxHeartbeats 4000000
/-! Pairs of readers, as the law makes them. -/
namespace K39
open PySem PySem.Spec PyProof.Rows L2
variable {P : Program} {w : World} {K : PySem.W.Frag} {mg : Str → Option Value} {base : Heap}
abbrev pairF (B : Rd) (a b : Arr) : Arr := (a.1 * B.n + b.1, a.2.1, a.2.2 * B.n + b.2.2)
def pairOne (B : Rd) (a : Arr) : List Arr := (B.ar.filter fun b => decide (b.2.1 = a.2.1)).map (pairF B a)
def pairAr (A B : Rd) : List Arr := A.ar.flatMap (pairOne B)
def pairR (A B : Rd) : Rd := mkR A.L (A.n * B.n) (pairNs A.fs B.fs B.n) (pairNs A.ls B.ls B.n) (pairAr A B)
theorem flatMap_take {α β : Type} {l : List α} {f : α → List β} {i : Nat} {a : α} (h : l[i]? = some a) : (l.take (i + 1)).flatMap f = (l.take i).flatMap f ++ f a := by
  rw [take_one h, List.flatMap_append]; simp
theorem flatMap_le {α β : Type} (l : List α) (f : α → List β) (i : Nat) : ((l.take i).flatMap f).length ≤ (l.flatMap f).length := by
  conv => rhs; rw [← List.take_append_drop i l, List.flatMap_append, List.length_append]
  omega
def sp_l_pair_reader (w : World) (K : PySem.W.Frag) : Sp := fun vs H Q E => ∃ (d1 d2 : Addr) (A B : Rd), vs = [.ref d1, .ref d2] ∧ A.Ok ∧ B.Ok ∧ A.n * B.n ≤ 60 ∧ (pairAr A B).length ≤ 4000 ∧ LRd K H d1 A ∧ LRd K H d2 B ∧ ∀ c H', Same H H' → H c = none → LRd K H' c (pairR A B) → Q (.ref c) H'
abbrev N_l_pair_reader : List Str := ["_law_one", "_law_two", "_law_much", "_law_links", "_law_here", "_law_sign", "_law_there", "_law_some", "_law_heads", "_law_tails", "_law_spot", "_law_near", "_law_mark", "_law_far"]
theorem sc_l_pair_reader : FnScope N_l_pair_reader ["_law_one", "_law_two"] (defScope s_l_pair_reader) := ⟨rfl, rfl, rfl, by decide +kernel, rfl, by decide +kernel, by decide +kernel⟩
theorem p_l_pair_reader (T : Tx K mg) : Fn P w K mg base 2 "_law_pair_reader" (sp_l_pair_reader w K) := by
  refine fn_mk T.d_l_pair_reader T.g_l_pair_reader sc_l_pair_reader (fun _ _ _ _ _ _ us h => by match us, h with | [_, _], _ => rfl) (fun vs H Q E ⟨d1, d2, A, B, e, okA, okB, nAB, lar, hA, hB, q⟩ => by rw [e]; rfl) fun cdv A outer s H vs Q E hr ⟨d1, d2, A, B, e, okA, okB, nAB, lar, hA, hB, q⟩ => ?_
  subst e
  have hu := hr.units
  have hu1 := hu_of hr
  have nd := sc_l_pair_reader.nd
  refine ⟨_, (pss_cons (ps_asg (pe_tup (pa_cons (pe_dget hu1 (pv 1) pe_str (fun _ _ => rfl)) (pa_cons (pe_lst pa_nil) pa_nil))) (pg_tup rfl (pgs_cons (pg_name (i := 2) nd rfl (Or.inr rfl)) (pgs_cons (pg_name (i := 3) nd rfl (Or.inl rfl)) pgs_nil))))
      (pss_cons (ps_for PassesOwn.never rfl (pi_tup (pe_dget hu1 (pv 0) pe_str (fun _ _ => rfl))) (pg_tup rfl (pgs_cons (pg_name (i := 4) nd rfl (Or.inr rfl)) (pgs_cons (pg_name (i := 5) nd rfl (Or.inr rfl)) (pgs_cons (pg_name (i := 6) nd rfl (Or.inr rfl)) pgs_nil))))
        (pss_cons (ps_setLc (i := 7) (own := [("_law_near", 11), ("_law_mark", 12), ("_law_far", 13)]) rfl nd rfl rfl (sw_true rfl rfl rfl (by decide +kernel)) (pi_tup (pe_dget hu1 (pv 1) pe_str (fun _ _ => rfl))) (blkOk_by (N := N_l_pair_reader) (sc := defScope s_l_pair_reader) (by decide +kernel)) (fun _ _ _ _ _ => (show PG _ _ (gTup K 3 (gCons (gName 11) (gCons (gName 12) (gCons (gName 13) gNil)))) from pg_tup rfl (pgs_cons (pg_name (i := 11) nd rfl (Or.inl rfl) (Or.inr rfl)) (pgs_cons (pg_name (i := 12) nd rfl (Or.inl rfl) (Or.inr rfl)) (pgs_cons (pg_name (i := 13) nd rfl (Or.inl rfl) (Or.inr rfl)) pgs_nil))))) (fun _ _ _ _ _ => (pts_one (pt_cmpR op_eq (pv 12) (pv 5) (nomark _)))) (fun _ _ _ _ _ => (pe_tup (pa_cons (pv 11) (pa_cons (pv 13) pa_nil)))))
        (pss_one (ps_set (i := 3) nd rfl (Or.inl rfl) (pe_op op_cat (pv 3) (pe_lc (own := [("_law_near", 11), ("_law_far", 13)]) rfl nd (pi_list (pv 7)) (blkOk_by (N := N_l_pair_reader) (sc := defScope s_l_pair_reader) (by decide +kernel)) (fun _ _ _ _ _ => (show PG _ _ (gTup K 2 (gCons (gName 11) (gCons (gName 13) gNil))) from pg_tup rfl (pgs_cons (pg_name (i := 11) nd rfl (Or.inl rfl) (Or.inr rfl)) (pgs_cons (pg_name (i := 13) nd rfl (Or.inl rfl) (Or.inr rfl)) pgs_nil)))) (fun _ _ _ _ _ => pts_nil) (fun _ _ _ _ _ => (pe_tup (pa_cons (pe_op op_add (pe_op op_mul (pv 4) (pv 2)) (pv 11)) (pa_cons (pv 5) (pa_cons (pe_op op_add (pe_op op_mul (pv 6) (pv 2)) (pv 13)) pa_nil)))))))))))
      (pss_cons (ps_par (i := 8) (j := 9) (by rfl) nd rfl rfl (by decide) rfl rfl (pa_cons (pe_lst pa_nil) (pa_cons (pe_lst pa_nil) pa_nil)) (by rfl))
      (pss_cons (ps_for PassesOwn.never rfl (pi_tup (pe_dget hu1 (pv 0) pe_str (fun _ _ => rfl))) (pg_name (i := 10) nd rfl (Or.inr rfl))
        (pss_one (ps_set (i := 8) nd rfl (Or.inl rfl) (pe_op op_cat (pv 8) (pe_lc (own := [("_law_near", 11)]) rfl nd (pi_tup (pe_dget hu1 (pv 1) pe_str (fun _ _ => rfl))) (blkOk_by (N := N_l_pair_reader) (sc := defScope s_l_pair_reader) (by decide +kernel)) (fun _ _ _ _ _ => (pg_name (i := 11) nd rfl (Or.inl rfl) (Or.inr rfl))) (fun _ _ _ _ _ => pts_nil) (fun _ _ _ _ _ => (pe_op op_add (pe_op op_mul (pv 10) (pv 2)) (pv 11))))))))
      (pss_cons (ps_for PassesOwn.never rfl (pi_tup (pe_dget hu1 (pv 0) pe_str (fun _ _ => rfl))) (pg_name (i := 10) nd rfl (Or.inr rfl))
        (pss_one (ps_set (i := 9) nd rfl (Or.inl rfl) (pe_op op_cat (pv 9) (pe_lc (own := [("_law_near", 11)]) rfl nd (pi_tup (pe_dget hu1 (pv 1) pe_str (fun _ _ => rfl))) (blkOk_by (N := N_l_pair_reader) (sc := defScope s_l_pair_reader) (by decide +kernel)) (fun _ _ _ _ _ => (pg_name (i := 11) nd rfl (Or.inl rfl) (Or.inr rfl))) (fun _ _ _ _ _ => pts_nil) (fun _ _ _ _ _ => (pe_op op_add (pe_op op_mul (pv 10) (pv 2)) (pv 11))))))))
      (pss_one (ps_ret (cg (p_l_told_reader T) hr (pa_cons (pe_dget hu1 (pv 0) pe_str (fun _ _ => rfl)) (pa_cons (pe_op op_mul (pe_dget hu1 (pv 0) pe_str (fun _ _ => rfl)) (pv 2)) (pa_cons (pv 8) (pa_cons (pv 9) (pa_cons (pv 3) pa_nil))))))))))))), ?_⟩
  have l6 := sz60
  have nA := okA.n60
  have nB := okB.n60
  have aA := okA.arl
  have aB := okB.arl
  have lfA := asc_len okA.fs okA.fsn
  have llA := asc_len okA.ls okA.lsn
  have lfB := asc_len okB.fs okB.fsn
  have llB := asc_len okB.ls okB.lsn
  obtain ⟨hvA, tvA, avA, a1, a2, a3, a4⟩ := id hA
  obtain ⟨hvB, tvB, avB, b1, b2, b3, b4⟩ := id hB
  refine ⟨_, rfl, d2, _, rfl, .inl ⟨_, Sum.inr "size", .inl b1, rfl, rfl⟩, by show 0 ≤ sizeLine; omega, fun E nE => ⟨by show 2 ≤ sizeLine; omega, fun t nt => ?_⟩⟩
  have s0 : Same H (upd (upd H E (.lst [])) t (.tup [.int (B.n : Int), .ref E])) := (Same.new nE).trans (Same.new nt)
  refine ⟨t, _, rfl, SqT.of upd_same, rfl, _, _, rfl, _, _, rfl, rfl, ?_⟩
  have hE0 : upd (upd H E (.lst [])) t (.tup [.int (B.n : Int), .ref E]) E = some (.lst []) := by
    rw [upd_ne (ne_of_none (upd_same (H := H) (a := E)) nt), upd_same]
  obtain ⟨p, xs, rfl, hs, da⟩ := a4.tuple
  have lx : xs.length = A.ar.length := by rw [da.length, List.length_map]
  refine ⟨_, rfl, d1, _, rfl, .inl ⟨_, Sum.inr "links", .inl (s0 _ _ a1), rfl, rfl⟩, p, rfl, ⟨_, SqT.tle s0.tle hs⟩, ?_⟩
  refine for_it (walk_tup (xs := xs)) (fun i σ H' => Same H H' ∧ ∃ (F : Addr) (ys : List V) (o4 o5 o6 o7 : Option V), H' F = some (.lst ys) ∧ DtAll K H' ys (((A.ar.take i).flatMap (pairOne B)).map eA) ∧ σ = [some (.ref d1), some (.ref d2), some (.int (B.n : Int)), some (.ref F), o4, o5, o6, o7, none, none, none, none, none, none])
    ⟨s0, E, [], none, none, none, none, hE0, .nil, rfl⟩ (fun i σ H' _ h => SqT.tle h.1.tle hs) (fun i x σ H2 H3 hi ⟨s2, F, ys, o4, o5, o6, o7, hF, dF, eσ⟩ y => ?_) fun σ H2 ⟨s2, F, ys, o4, o5, o6, o7, hF, dF, eσ⟩ => ?_
  · obtain ⟨rfl, hx⟩ := y
    subst eσ
    obtain ⟨d, hd1, hd2⟩ := da.get' hx
    rw [List.getElem?_map] at hd1
    obtain ⟨ar, har, rfl⟩ := Option.map_eq_some_iff.mp hd1
    obtain ⟨t, rfl, ht⟩ := (hd2.same s2).arr
    have oka := okA.arn ar (List.mem_of_getElem? har)
    have cut := flatMap_take (f := pairOne B) har
    have tot := flatMap_le A.ar (pairOne B) (i + 1)
    rw [cut, List.length_append] at tot
    have lar' : (A.ar.flatMap (pairOne B)).length ≤ 4000 := lar
    obtain ⟨pb, zs, rfl, hzs, db⟩ := (b4.same s2).tuple
    have lz : zs.length = B.ar.length := by rw [db.length, List.length_map]
    refine tg3 ht ⟨_, rfl, d2, _, rfl, .inl ⟨_, Sum.inr "links", .inl (s2 _ _ b1), rfl, rfl⟩, pb, rfl, ⟨_, hzs⟩, fun D nD => ?_⟩
    refine comp_it (walk_tup (xs := zs)) grows_at B.ar lz.symm (by omega) (fun b => decide (b.2.1 = ar.2.1)) (fun b y H => Dt K H y (eP (b.1, b.2.2))) (fun l y H H' k h => h.to k) nD (fun H' sm => SqT.tle sm.tle hzs) (fun j x b H' H6 hb sm y => ?_) fun ws H4 sm hw pw => ?_
    · obtain ⟨rfl, hx⟩ := y
      obtain ⟨dd, hd1, hd2⟩ := db.get' hx
      rw [List.getElem?_map, hb] at hd1
      obtain rfl := Option.some.inj hd1
      obtain ⟨tb, rfl, htb⟩ := (hd2.same sm).arr
      refine turn_3T htb rfl fun C1 C2 c1 c2 => ⟨_, rfl, _, rfl, rfl, _, rfl, ?_⟩
      by_cases hz : b.2.1 = ar.2.1
      · rw [show decide (V.str (sg b.2.1) = V.str (sg ar.2.1)) = true from decide_eq_true (sg_eq.mpr hz)]
        exact iteT ⟨_, rfl, _, rfl, by show 2 ≤ sizeLine; omega, fun t nt => c2 (decide_eq_true hz) _ _ (Same.new nt) (Dt.ofPrs (SqT.of upd_same))⟩
      · rw [show decide (V.str (sg b.2.1) = V.str (sg ar.2.1)) = false from decide_eq_false fun h => hz (sg_eq.mp h)]
        exact iteF (c1 (decide_eq_false hz) _ (Same.refl _))
    have pd := DtAll.of (K := K) (fun b : Arr => eP (b.1, b.2.2)) pw
    generalize hms : (B.ar.filter fun b => decide (b.2.1 = ar.2.1)) = ms at pd
    have lw : ws.length = ms.length := by rw [pd.length, List.length_map]
    have lp : (pairOne B ar).length = ms.length := by unfold pairOne; rw [List.length_map, hms]
    have hF4 := sm _ _ hF
    refine ⟨_, rfl, _, rfl, D, rfl, ⟨_, SqL.of hw⟩, fun D2 nD2 => ?_⟩
    refine comp_it (walk_list (xs := ws)) grows_at ms lw.symm (by omega) (fun _ => true) (fun b y H => Dt K H y (eA (pairF B ar b))) (fun l y H H' k h => h.to k) nD2 (fun H' sm => SqL.of (sm _ _ hw)) (fun j x b H' H6 hb sm y => ?_) fun us H5 sm5 hu5 pu => ?_
    · obtain ⟨rfl, hx⟩ := y
      obtain ⟨dd, hd1, hd2⟩ := pd.get' hx
      rw [List.getElem?_map, hb] at hd1
      obtain rfl := Option.some.inj hd1
      obtain ⟨tb, rfl, htb⟩ := (hd2.same sm).prs
      have mb : b ∈ B.ar := by
        have := List.mem_of_getElem? hb
        rw [← hms] at this
        exact (List.mem_filter.mp this).1
      have okb := okB.arn b mb
      have m1 : ar.1 * B.n ≤ 60 * 60 := Nat.mul_le_mul (by omega) nB
      have c1 := oka.1
      have c3 := oka.2.2
      refine turn_2 htb rfl fun C c2 => ?_
      refine ⟨_, rfl, _, rfl, _, _, rfl, rfl, .inl ⟨by omega, by omega⟩, _, rfl, _, _, rfl, rfl, _, rfl, _, rfl, _, rfl, _, _, rfl, rfl, .inl ⟨by omega, by omega⟩, _, rfl, _, _, rfl, rfl, by show 3 ≤ sizeLine; omega, fun t nt => c2 _ _ (Same.new nt) (Dt.ofArr ?_)⟩
      refine SqT.of ?_
      rw [upd_same]
      simp
    rw [filt] at pu
    have pd2 := DtAll.of (K := K) (fun b => eA (pairF B ar b)) pu
    have hF5 := sm5 _ _ hF4
    have lu : us.length = ms.length := by rw [pd2.length, List.length_map]
    have ly : ys.length = ((A.ar.take i).flatMap (pairOne B)).length := by rw [dF.length, List.length_map]
    refine ⟨F, D2, ys, us, rfl, rfl, hF5, hu5, by omega, fun G nG => ?_⟩
    have sG := Same.new (o := .lst (ys ++ us)) nG
    refine ⟨((s2.trans sm).trans sm5).trans sG, G, ys ++ us, _, _, _, _, upd_same, ?_, rfl⟩
    rw [cut, List.map_append]
    refine (((dF.same sm).same sm5).same sG).append ?_
    unfold pairOne
    rw [hms, List.map_map]
    exact pd2.same sG
  subst eσ
  rw [lx, List.take_length] at dF
  have heads : True := trivial
  refine ⟨by show 0 ≤ sizeLine; omega, fun G1 nG1 => ⟨by show 0 ≤ sizeLine; omega, fun G2 nG2 => ⟨_, _, rfl, ?_⟩⟩⟩
  have s12 : Same H2 (upd (upd H2 G1 (.lst [])) G2 (.lst [])) := (Same.new nG1).trans (Same.new nG2)
  have g1 : upd (upd H2 G1 (.lst [])) G2 (.lst []) G1 = some (.lst []) := by
    rw [upd_ne (ne_of_none (upd_same (H := H2) (a := G1)) nG2), upd_same]
  have s3 := s2.trans s12
  obtain ⟨ph, hxs, rfl, hhs, dh⟩ := (a2.same s3).tuple
  have lhx : hxs.length = A.fs.length := by rw [dh.length, List.length_map]
  have nums : ∀ (l : List Nat) (H : Hp), DtAll K H (l.map fun z : Nat => V.int (z : Int)) (l.map eN) := fun l H => dtNs' l
  have pairCut : ∀ (l m : List Nat) (i x : Nat), l[i]? = some x → pairNs (l.take (i + 1)) m B.n = pairNs (l.take i) m B.n ++ m.map fun q => x * B.n + q := fun l m i x h => flatMap_take (f := fun p => m.map fun q => p * B.n + q) h
  refine ⟨_, rfl, d1, _, rfl, .inl ⟨_, Sum.inr "heads", .inl (s3 _ _ a1), rfl, rfl⟩, ph, rfl, ⟨_, hhs⟩, ?_⟩
  refine for_it (walk_tup (xs := hxs)) (fun i σ H' => Same (upd (upd H2 G1 (.lst [])) G2 (.lst [])) H' ∧ ∃ (F1 : Addr) (o10 : Option V), H' F1 = some (.lst ((pairNs (A.fs.take i) B.fs B.n).map fun z : Nat => V.int (z : Int))) ∧ σ = [some (.ref d1), some (.ref d2), some (.int (B.n : Int)), some (.ref F), o4, o5, o6, o7, some (.ref F1), some (.ref G2), o10, none, none, none])
    ⟨Same.refl _, G1, none, g1, rfl⟩ (fun i σ H' _ h => SqT.tle h.1.tle hhs) (fun i x σ H4 H5 hi ⟨s4, F1, o10, hF1, eσ⟩ y => ?_) fun σ H4 ⟨s4, F1, o10, hF1, eσ⟩ => ?_
  · obtain ⟨rfl, hx⟩ := y
    subst eσ
    obtain ⟨d, hd1, hd2⟩ := dh.get' hx
    rw [List.getElem?_map] at hd1
    obtain ⟨z, hz, rfl⟩ := Option.map_eq_some_iff.mp hd1
    cases hd2
    have zn := okA.fsn z (List.mem_of_getElem? hz)
    have m1 : z * B.n ≤ 60 * 60 := Nat.mul_le_mul (by omega) nB
    obtain ⟨pb, ws, rfl, hws, dw⟩ := ((b2.same s3).same s4).tuple
    have lw : ws.length = B.fs.length := by rw [dw.length, List.length_map]
    refine ⟨_, rfl, _, rfl, d2, _, rfl, .inl ⟨_, Sum.inr "heads", .inl (s4 _ _ (s3 _ _ b1)), rfl, rfl⟩, pb, rfl, ⟨_, hws⟩, fun D nD => ?_⟩
    refine comp_it (walk_tup (xs := ws)) grows_at B.fs lw.symm (by omega) (fun _ => true) (fun b y H => y = .int (((z * B.n + b : Nat)) : Int)) (fun l y H H' k h => h) nD (fun H' sm => SqT.tle sm.tle hws) (fun j x b H' H6 hb sm y => ?_) fun us H6 sm hu6 pu => ?_
    · obtain ⟨rfl, hx⟩ := y
      obtain ⟨dd, hd1, hd2⟩ := dw.get' hx
      rw [List.getElem?_map, hb] at hd1
      obtain rfl := Option.some.inj hd1
      cases hd2
      refine turn_name rfl fun C c2 => ⟨_, rfl, _, rfl, _, _, rfl, rfl, .inl ⟨by omega, by omega⟩, _, rfl, _, _, rfl, rfl, c2 _ _ (Same.refl _) ?_⟩
      simp
    rw [filt] at pu
    have eu := ints_of (f := fun b : Nat => (((z * B.n + b : Nat)) : Int)) pu
    subst eu
    have lt : (pairNs (A.fs.take i) B.fs B.n).length ≤ 60 * 60 := by
      rw [pairNs_len, List.length_take]
      exact Nat.mul_le_mul (by omega) (by omega)
    refine ⟨F1, D, _, _, rfl, rfl, sm _ _ hF1, hu6, by simp only [List.length_map]; omega, fun G nG => ?_⟩
    refine ⟨(s4.trans sm).trans (Same.new nG), G, _, ?_, rfl⟩
    rw [upd_same, pairCut _ _ i z hz, List.map_append, List.map_map, List.map_map]; rfl
  subst eσ
  rw [lhx, List.take_length] at hF1
  have s5 := s3.trans s4
  obtain ⟨pt, txs, rfl, hts, dt⟩ := (a3.same s5).tuple
  have ltx : txs.length = A.ls.length := by rw [dt.length, List.length_map]
  have g2 := s4 _ _ (upd_same (H := upd H2 G1 (.lst [])) (a := G2) (o := .lst []))
  refine ⟨_, rfl, d1, _, rfl, .inl ⟨_, Sum.inr "tails", .inl (s5 _ _ a1), rfl, rfl⟩, pt, rfl, ⟨_, hts⟩, ?_⟩
  refine for_it (walk_tup (xs := txs)) (fun i σ H' => Same H4 H' ∧ ∃ (F2 : Addr) (o10 : Option V), H' F2 = some (.lst ((pairNs (A.ls.take i) B.ls B.n).map fun z : Nat => V.int (z : Int))) ∧ σ = [some (.ref d1), some (.ref d2), some (.int (B.n : Int)), some (.ref F), o4, o5, o6, o7, some (.ref F1), some (.ref F2), o10, none, none, none])
    ⟨Same.refl _, G2, _, g2, rfl⟩ (fun i σ H' _ h => SqT.tle h.1.tle hts) (fun i x σ H5 H6 hi ⟨s6, F2, o11, hF2, eσ⟩ y => ?_) fun σ H5 ⟨s6, F2, o11, hF2, eσ⟩ => ?_
  · obtain ⟨rfl, hx⟩ := y
    subst eσ
    obtain ⟨d, hd1, hd2⟩ := dt.get' hx
    rw [List.getElem?_map] at hd1
    obtain ⟨z, hz, rfl⟩ := Option.map_eq_some_iff.mp hd1
    cases hd2
    have zn := okA.lsn z (List.mem_of_getElem? hz)
    have m1 : z * B.n ≤ 60 * 60 := Nat.mul_le_mul (by omega) nB
    obtain ⟨pb, ws, rfl, hws, dw⟩ := ((b3.same s5).same s6).tuple
    have lw : ws.length = B.ls.length := by rw [dw.length, List.length_map]
    refine ⟨_, rfl, _, rfl, d2, _, rfl, .inl ⟨_, Sum.inr "tails", .inl (s6 _ _ (s5 _ _ b1)), rfl, rfl⟩, pb, rfl, ⟨_, hws⟩, fun D nD => ?_⟩
    refine comp_it (walk_tup (xs := ws)) grows_at B.ls lw.symm (by omega) (fun _ => true) (fun b y H => y = .int (((z * B.n + b : Nat)) : Int)) (fun l y H H' k h => h) nD (fun H' sm => SqT.tle sm.tle hws) (fun j x b H' H6 hb sm y => ?_) fun us H6 sm hu6 pu => ?_
    · obtain ⟨rfl, hx⟩ := y
      obtain ⟨dd, hd1, hd2⟩ := dw.get' hx
      rw [List.getElem?_map, hb] at hd1
      obtain rfl := Option.some.inj hd1
      cases hd2
      refine turn_name rfl fun C c2 => ⟨_, rfl, _, rfl, _, _, rfl, rfl, .inl ⟨by omega, by omega⟩, _, rfl, _, _, rfl, rfl, c2 _ _ (Same.refl _) ?_⟩
      simp
    rw [filt] at pu
    have eu := ints_of (f := fun b : Nat => (((z * B.n + b : Nat)) : Int)) pu
    subst eu
    have lt : (pairNs (A.ls.take i) B.ls B.n).length ≤ 60 * 60 := by
      rw [pairNs_len, List.length_take]
      exact Nat.mul_le_mul (by omega) (by omega)
    refine ⟨F2, D, _, _, rfl, rfl, sm _ _ hF2, hu6, by simp only [List.length_map]; omega, fun G nG => ?_⟩
    refine ⟨(s6.trans sm).trans (Same.new nG), G, _, ?_, rfl⟩
    rw [upd_same, pairCut _ _ i z hz, List.map_append, List.map_map, List.map_map]; rfl
  subst eσ
  rw [ltx, List.take_length] at hF2
  have s7 := s5.trans s6
  refine ⟨_, rfl, d1, _, rfl, .inl ⟨_, Sum.inr "signs", .inl (s7 _ _ a1), rfl, rfl⟩, _, rfl, d1, _, rfl, .inl ⟨_, Sum.inr "size", .inl (s7 _ _ a1), rfl, rfl⟩, _, rfl, _, _, rfl, rfl, .inl ⟨by omega, by omega⟩, _, rfl, _, rfl, _, rfl, ?_⟩
  refine ⟨A.L, A.n * B.n, _, _, _, pairNs A.fs B.fs B.n, pairNs A.ls B.ls B.n, pairAr A B, ?_, ⟨F1, _, rfl, .inl (SqL.of (s6 _ _ hF1)), nums _ _⟩, ⟨F2, _, rfl, .inl (SqL.of hF2), nums _ _⟩, ⟨F, ys, rfl, .inl (SqL.of (s6 _ _ (s4 _ _ (s12 _ _ hF)))), ((dF.same s12).same s4).same s6⟩, fun c H6 s8 nc hc => q c H6 (s7.trans s8) (none_of_same s7 nc) hc⟩
  show [V.str (tx A.L), V.int ((A.n : Int) * (B.n : Int)), _, _, _] = _
  rw [Int.natCast_mul]
end K39
end Text_K39L10

section Text_K39N3
set_option autoImplicit false set_option linter.all false
/-! Sets of states: what the law counts. -/
namespace K39
/-- where the sign leads from a set of states -/
def goneF (R : Rd) (l : List Nat) (c : Nat) : List Nat := (List.range R.n).filter fun q => R.ar.any fun a => a.2.1 == c && a.2.2 == q && decide (a.1 ∈ l)
theorem goneF_mem {R : Rd} (h : ∀ a ∈ R.ar, a.2.2 < R.n) {l : List Nat} {c q : Nat} : q ∈ goneF R l c ↔ ∃ p ∈ l, (p, c, q) ∈ R.ar := by
  unfold goneF
  rw [List.mem_filter, List.mem_range, List.any_eq_true]
  constructor
  · rintro ⟨_, a, ha, e⟩
    simp at e
    obtain ⟨⟨e1, e2⟩, e3⟩ := e
    obtain ⟨a1, a2, a3⟩ := a
    simp at e1 e2 e3
    rw [← e1, ← e2]
    exact ⟨a1, e3, ha⟩
  · rintro ⟨p, hp, ha⟩
    exact ⟨h _ ha, _, ha, by simp [hp]⟩
theorem goneF_asc (R : Rd) (l : List Nat) (c : Nat) : (goneF R l c).Pairwise (· < ·) := List.Pairwise.sublist List.filter_sublist List.pairwise_lt_range
theorem asc_eq : ∀ {l m : List Nat}, l.Pairwise (· < ·) → m.Pairwise (· < ·) → (∀ q, q ∈ l ↔ q ∈ m) → l = m
  | [], [], _, _, _ => rfl
  | [], b :: m, _, _, h => by have := (h b).mpr List.mem_cons_self; cases this
  | a :: l, [], _, _, h => by have := (h a).mp List.mem_cons_self; cases this
  | a :: l, b :: m, hl, hm, h => by
    obtain ⟨l1, l2⟩ := List.pairwise_cons.mp hl
    obtain ⟨m1, m2⟩ := List.pairwise_cons.mp hm
    have e : a = b := by
      rcases List.mem_cons.mp ((h a).mp List.mem_cons_self) with z | z
      · exact z
      · rcases List.mem_cons.mp ((h b).mpr List.mem_cons_self) with y | y
        · exact y.symm
        · have := m1 a z
          have := l1 b y
          omega
    subst e
    refine congrArg _ (asc_eq l2 m2 fun q => ?_)
    constructor
    · intro hq
      rcases List.mem_cons.mp ((h q).mp (List.mem_cons_of_mem _ hq)) with z | z
      · have := l1 q hq; omega
      · exact z
    · intro hq
      rcases List.mem_cons.mp ((h q).mpr (List.mem_cons_of_mem _ hq)) with z | z
      · have := m1 q hq; omega
      · exact z
section
variable (A B : Rd)
def dl (x : KK) (c : Nat) : KK := (goneF A x.1 c, goneF B x.2 c)
def gos : List Nat → KK → KK
  | [], x => x
  | c :: t, x => gos t (dl A B x c)
/-- a pair of sets at which a text stands outside -/
def outP (x : KK) : Prop := (∃ q ∈ x.1, q ∈ A.ls) ∧ ¬ ∃ q ∈ x.2, q ∈ B.ls
open Classical in
/-- texts of a length that lead outside -/
noncomputable def cnt : Nat → KK → Int
  | 0, x => if outP A B x then 1 else 0
  | k + 1, x => ls_ A.L fun c => cnt k (dl A B x c)
def live (x : KK) : Prop := ∃ k, 0 < cnt A B k x
end
section
variable {A B : Rd}
theorem gos_snoc (c : Nat) : ∀ (t : List Nat) (x : KK), gos A B (t ++ [c]) x = dl A B (gos A B t x) c
  | [], _ => rfl
  | d :: t, x => gos_snoc c t _
theorem cnt_nonneg : ∀ k x, 0 ≤ cnt A B k x
  | 0, x => by unfold cnt; split <;> decide
  | k + 1, x => ls_nonneg fun c _ => cnt_nonneg k _
theorem cnt_pos (k : Nat) (x : KK) : 0 < cnt A B (k + 1) x ↔ ∃ c ∈ A.L, 0 < cnt A B k (dl A B x c) := ls_pos fun c _ => cnt_nonneg k _
theorem cnt_zero_pos (x : KK) : 0 < cnt A B 0 x ↔ outP A B x := by
  unfold cnt
  by_cases h : outP A B x <;> simp [h]
theorem live_up {x : KK} {c : Nat} (hc : c ∈ A.L) (h : live A B (dl A B x c)) : live A B x := let ⟨k, p⟩ := h; ⟨k + 1, (cnt_pos k x).mpr ⟨c, hc, p⟩⟩
theorem live_out {x : KK} (h : outP A B x) : live A B x := ⟨0, (cnt_zero_pos x).mpr h⟩
theorem texts_snoc (L : List Nat) : ∀ (k : Nat) (f : List Nat → Int), ls_ (texts L (k + 1)) f = ls_ (texts L k) fun t => ls_ L fun c => f (t ++ [c])
  | 0, f => by
    rw [ls_texts]
    show ls_ L (fun c => ls_ [[]] _) = ls_ [[]] _
    rw [ls_cons, ls_nil, Int.add_zero]
    exact ls_congr fun c _ => by rw [ls_cons, ls_nil, Int.add_zero]; rfl
  | k + 1, f => by
    rw [ls_texts, ls_texts]
    exact ls_congr fun c _ => texts_snoc L k fun t => f (c :: t)
theorem cnt_go : ∀ (k i : Nat) (x : KK), cnt A B (k + i) x = ls_ (texts A.L k) fun t => cnt A B i (gos A B t x)
  | 0, i, x => by
    show _ = ls_ [[]] _
    rw [ls_cons, ls_nil, Int.add_zero, Nat.zero_add]; rfl
  | k + 1, i, x => by
    rw [ls_texts, show k + 1 + i = (k + i) + 1 by omega]
    exact ls_congr fun c _ => cnt_go k i (dl A B x c)
theorem ls_sm (g : KK → Int) : ∀ F : List KK, ls_ F g = sm (fun j => g (F.getD j ([], []))) F.length
  | [] => rfl
  | x :: F => by
    rw [ls_cons, ls_sm g F]
    have : ∀ n, sm (fun j => g ((x :: F).getD j ([], []))) (n + 1) = g x + sm (fun j => g (F.getD j ([], []))) n := by
      intro n
      induction n with
      | zero => show 0 + g x = g x + 0; omega
      | succ n ih =>
        show sm _ (n + 1) + g (F.getD n ([], [])) = g x + (sm _ n + g (F.getD n ([], [])))
        rw [ih]; omega
    exact (this F.length).symm
/-- the pairs that are found -/
structure Shut (A B : Rd) (F : List KK) : Prop where
  nd : F.Nodup
  next : ∀ x ∈ F, ∀ c ∈ A.L, dl A B x c ∈ F
theorem Shut.rank {F : List KK} (h : Shut A B F) {x : KK} (hx : x ∈ F) : Ranked F.length fun k => cnt A B k x := by
  suffices ∀ k, ∃ f : KK → Int, ∀ i, cnt A B (k + i) x = ls_ F fun y => f y * cnt A B i y by
    refine ⟨fun k j => (Classical.choose (this k)) (F.getD j ([], [])), fun i j => cnt A B i (F.getD j ([], [])), fun k i => ?_⟩
    show cnt A B (k + i) x = _
    rw [Classical.choose_spec (this k) i, ls_sm]
  intro k
  induction k generalizing x with
  | zero =>
    refine ⟨fun y => if y = x then 1 else 0, fun i => ?_⟩
    rw [Nat.zero_add, ← ls_pick h.nd hx fun y => cnt A B i y]
    refine ls_congr fun y _ => ?_
    by_cases z : y = x <;> simp [z]
  | succ k ih =>
    have : ∀ c, ∃ f : KK → Int, c ∈ A.L → ∀ i, cnt A B (k + i) (dl A B x c) = ls_ F fun y => f y * cnt A B i y := fun c => by
      by_cases hc : c ∈ A.L
      · obtain ⟨f, hf⟩ := ih (h.next x hx c hc)
        exact ⟨f, fun _ => hf⟩
      · exact ⟨fun _ => 0, fun z => absurd z hc⟩
    refine ⟨fun y => ls_ A.L fun c => (Classical.choose (this c)) y, fun i => ?_⟩
    rw [show k + 1 + i = (k + i) + 1 by omega]
    show ls_ A.L (fun c => cnt A B (k + i) (dl A B x c)) = _
    rw [ls_congr fun c hc => Classical.choose_spec (this c) hc i, ls_swap]
    exact ls_congr fun y _ => ls_mulr _ _ _
/-- a living pair comes out soon -/
theorem Shut.soon {F : List KK} (h : Shut A B F) {x : KK} (hx : x ∈ F) (l : live A B x) : ∃ k, k < F.length ∧ 0 < cnt A B k x := by
  apply Classical.byContradiction
  intro n
  obtain ⟨k, p⟩ := l
  have := (h.rank hx).window (m := 0) (fun i _ hi => ?_) k (Nat.zero_le _)
  · omega
  · have := cnt_nonneg (A := A) (B := B) i x
    have : ¬ 0 < cnt A B i x := fun z => n ⟨i, by omega, z⟩
    omega
/-- pairs out within j signs -/
def near (A B : Rd) (j : Nat) (x : KK) : Prop := ∃ i, i ≤ j ∧ 0 < cnt A B i x
theorem near_zero (x : KK) : near A B 0 x ↔ outP A B x := by
  rw [← cnt_zero_pos]
  constructor
  · rintro ⟨i, h, p⟩
    have e : i = 0 := by omega
    rw [e] at p; exact p
  · exact fun p => ⟨0, Nat.le_refl _, p⟩
theorem near_succ (j : Nat) (x : KK) : near A B (j + 1) x ↔ near A B j x ∨ ∃ c ∈ A.L, near A B j (dl A B x c) := by
  constructor
  · rintro ⟨i, h, p⟩
    cases i with
    | zero => exact .inl ⟨0, Nat.zero_le _, p⟩
    | succ i =>
      obtain ⟨c, hc, p⟩ := (cnt_pos i x).mp p
      exact .inr ⟨c, hc, i, by omega, p⟩
  · rintro (⟨i, h, p⟩ | ⟨c, hc, i, h, p⟩)
    · exact ⟨i, by omega, p⟩
    · exact ⟨i + 1, by omega, (cnt_pos i x).mpr ⟨c, hc, p⟩⟩
theorem Shut.near {F : List KK} (h : Shut A B F) {x : KK} (hx : x ∈ F) : near A B F.length x ↔ live A B x :=
  ⟨fun ⟨i, _, p⟩ => ⟨i, p⟩, fun l => let ⟨k, hk, p⟩ := h.soon hx l; ⟨k, by omega, p⟩⟩
/-! ### the counting row -/
open Classical in
/-- what the law's row holds behind i signs -/
structure Row (A B : Rd) (x0 : KK) (F : List KK) (i : Nat) (hs : List (KK × Int)) : Prop where
  nd : (hs.map (·.1)).Nodup
  mem : ∀ p ∈ hs, p.1 ∈ F ∧ live A B p.1 ∧ 0 < p.2
  sum : ∀ g : KK → Int, ls_ hs (fun p => p.2 * g p.1) = ls_ (texts A.L i) fun t => if live A B (gos A B t x0) then g (gos A B t x0) else 0
open Classical in
theorem Row.zero {x0 : KK} {F : List KK} (hx : x0 ∈ F) : Row A B x0 F 0 (if live A B x0 then [(x0, 1)] else []) where
  nd := by split <;> simp
  mem := by
    intro p hp
    by_cases l : live A B x0
    · rw [if_pos l] at hp
      rw [List.mem_singleton.mp hp]
      exact ⟨hx, l, Int.one_pos⟩
    · rw [if_neg l] at hp; cases hp
  sum := by
    intro g
    show _ = ls_ [[]] _
    rw [ls_cons, ls_nil, Int.add_zero]
    show _ = if live A B x0 then g x0 else 0
    by_cases l : live A B x0
    · rw [if_pos l, if_pos l, ls_cons, ls_nil, Int.one_mul, Int.add_zero]
    · rw [if_neg l, if_neg l]; rfl
open Classical in
/-- the next row, as the law sums it up -/
theorem Row.next {x0 : KK} {F : List KK} {i : Nat} {hs hs' : List (KK × Int)} (h : Row A B x0 F i hs) (nd : (hs'.map (·.1)).Nodup) (mem : ∀ p ∈ hs', p.1 ∈ F ∧ live A B p.1 ∧ 0 < p.2)
    (sum : ∀ g : KK → Int, ls_ hs' (fun p => p.2 * g p.1) = ls_ hs fun p => p.2 * ls_ A.L fun c => if live A B (dl A B p.1 c) then g (dl A B p.1 c) else 0) : Row A B x0 F (i + 1) hs' where
  nd := nd
  mem := mem
  sum := by
    intro g
    rw [sum, h.sum (fun x => ls_ A.L fun c => if live A B (dl A B x c) then g (dl A B x c) else 0), texts_snoc]
    refine ls_congr fun t _ => ?_
    by_cases l : live A B (gos A B t x0)
    · rw [if_pos l]
      exact ls_congr fun c _ => by rw [gos_snoc]
    · rw [if_neg l]
      refine (ls_zero fun c hc => ?_).symm
      rw [gos_snoc]
      exact if_neg fun z => l (live_up hc z)
open Classical in
theorem Row.outs {x0 : KK} {F : List KK} {i : Nat} {hs : List (KK × Int)} (h : Row A B x0 F i hs) : ls_ hs (fun p => p.2 * if outP A B p.1 then 1 else 0) = cnt A B i x0 := by
  rw [h.sum fun x => if outP A B x then 1 else 0]
  have := cnt_go (A := A) (B := B) i 0 x0
  rw [Nat.add_zero] at this
  rw [this]
  refine ls_congr fun t _ => ?_
  unfold cnt
  by_cases o : outP A B (gos A B t x0)
  · rw [if_pos o, if_pos (live_out o)]
  · rw [if_neg o]; simp
open Classical in
theorem Row.nil {x0 : KK} {F : List KK} {i : Nat} (h : Row A B x0 F i []) : ∀ k, i ≤ k → cnt A B k x0 = 0 := by
  intro k hk
  rw [show k = i + (k - i) by omega, cnt_go]
  refine ls_zero fun t ht => ?_
  have e := h.sum fun _ => 1
  rw [ls_nil] at e
  have nl : ¬ live A B (gos A B t x0) := fun l => by
    have := ls_one (l := texts A.L i) (f := fun t => if live A B (gos A B t x0) then (1 : Int) else 0) (fun t _ => by split <;> decide) ht
    rw [if_pos l, ← e] at this
    omega
  have := cnt_nonneg (A := A) (B := B) (k - i) (gos A B t x0)
  have : ¬ 0 < cnt A B (k - i) (gos A B t x0) := fun z => nl ⟨_, z⟩
  omega
open Classical in
theorem Row.more {x0 : KK} {F : List KK} {i : Nat} {hs : List (KK × Int)} (h : Row A B x0 F i hs) (ne : hs ≠ []) : ∃ k, i ≤ k ∧ cnt A B k x0 ≠ 0 := by
  cases hs with
  | nil => exact absurd rfl ne
  | cons p hs =>
    have e := h.sum fun _ => 1
    have a1 := ls_one (l := p :: hs) (f := fun p => p.2 * 1) (fun q hq => by have := (h.mem q hq).2.2; omega) List.mem_cons_self
    have a2 := (h.mem p List.mem_cons_self).2.2
    have a3 : 0 < ls_ (texts A.L i) fun t => if live A B (gos A B t x0) then (1 : Int) else 0 := by rw [← e]; omega
    obtain ⟨t, ht, p1⟩ := (ls_pos fun t _ => by split <;> decide).mp a3
    have l : live A B (gos A B t x0) := Classical.byContradiction fun z => by
      rw [if_neg z] at p1; exact absurd p1 (by decide)
    obtain ⟨m, hm⟩ := l
    refine ⟨i + m, by omega, ?_⟩
    rw [cnt_go]
    have := ls_one (l := texts A.L i) (f := fun t => cnt A B m (gos A B t x0)) (fun t _ => cnt_nonneg m _) ht
    omega
end
/-- what the law awaits: nothing, or the number -/
def DueI (A B : Rd) (v : Option Int) : Prop := (v = none ∧ ∀ N, ∃ k, N ≤ k ∧ cnt A B k (A.fs, B.fs) ≠ 0) ∨ ∃ i, v = some (sm (fun k => cnt A B k (A.fs, B.fs)) i) ∧ ∀ k, i ≤ k → cnt A B k (A.fs, B.fs) = 0
theorem Shut.due_none {A B : Rd} {F : List KK} (h : Shut A B F) (hx : (A.fs, B.fs) ∈ F) {hs : List (KK × Int)} (r : Row A B (A.fs, B.fs) F F.length hs) (ne : hs ≠ []) : DueI A B none := by
  refine .inl ⟨rfl, fun N => ?_⟩
  apply Classical.byContradiction
  intro z
  obtain ⟨k, hk, p⟩ := r.more ne
  refine p ((h.rank hx).late (N := N) (fun i hi => ?_) k hk)
  exact Classical.byContradiction fun q => z ⟨i, hi, q⟩
theorem due_some {A B : Rd} {F : List KK} {i : Nat} (r : Row A B (A.fs, B.fs) F i []) : DueI A B (some (sm (fun k => cnt A B k (A.fs, B.fs)) i)) := .inr ⟨i, rfl, r.nil⟩
/-! ### sets of states and ways -/
theorem ends_go {R : Rd} (h : ∀ a ∈ R.ar, a.2.2 < R.n) : ∀ (t l : List Nat), (∃ q ∈ t.foldl (goneF R) l, q ∈ R.ls) ↔ ∃ p ∈ l, 0 < en R t p
  | [], l => by
    show (∃ q ∈ l, q ∈ R.ls) ↔ _
    simp only [en_nil_pos]
  | c :: t, l => by
    show (∃ q ∈ t.foldl (goneF R) (goneF R l c), q ∈ R.ls) ↔ _
    rw [ends_go h t]
    constructor
    · rintro ⟨q, hq, p⟩
      obtain ⟨x, hx, ha⟩ := (goneF_mem h).mp hq
      exact ⟨x, hx, (en_pos R c t x).mpr ⟨q, ha, p⟩⟩
    · rintro ⟨x, hx, p⟩
      obtain ⟨q, ha, p⟩ := (en_pos R c t x).mp p
      exact ⟨q, (goneF_mem h).mpr ⟨x, hx, ha⟩, p⟩
theorem gos_fold {A B : Rd} : ∀ (t : List Nat) (x : KK), gos A B t x = (t.foldl (goneF A) x.1, t.foldl (goneF B) x.2)
  | [], _ => rfl
  | c :: t, x => gos_fold t _
theorem out_go {A B : Rd} (hA : RdF A) (hB : RdF B) (t : List Nat) : outP A B (gos A B t (A.fs, B.fs)) ↔ 0 < W A t ∧ ¬ 0 < W B t := by
  rw [gos_fold, W_pos, W_pos]
  unfold outP
  rw [ends_go fun a ha => (hA.arn a ha).2.2, ends_go fun a ha => (hB.arn a ha).2.2]
open Classical in
theorem cnt_w {A B : Rd} (hA : RdF A) (hB : RdF B) (k : Nat) : cnt A B k (A.fs, B.fs) = ls_ (texts A.L k) fun t => if 0 < W A t ∧ ¬ 0 < W B t then 1 else 0 := by
  have e := cnt_go (A := A) (B := B) k 0 (A.fs, B.fs)
  rw [Nat.add_zero] at e
  rw [e]
  refine ls_congr fun t _ => ?_
  unfold cnt
  by_cases o : 0 < W A t ∧ ¬ 0 < W B t
  · rw [if_pos o, if_pos ((out_go hA hB t).mpr o)]
  · rw [if_neg o, if_neg fun z => o ((out_go hA hB t).mp z)]
section
variable {A B : Rd} {u : Nat → Int}
theorem u_pos (hA : RdF A) (hB : RdF B) (wB : ∀ t, W B t ≤ 1) (k : Nat) : ls_ (texts A.L k) (fun t => W A t * (1 - W B t)) ≠ 0 ↔ cnt A B k (A.fs, B.fs) ≠ 0 := by
  classical
  have n1 : ∀ t ∈ texts A.L k, 0 ≤ W A t * (1 - W B t) := fun t _ => Int.mul_nonneg (W_nonneg A t) (by have := wB t; omega)
  have n2 := ls_nonneg n1
  have n3 := cnt_nonneg (A := A) (B := B) k (A.fs, B.fs)
  have e : 0 < ls_ (texts A.L k) (fun t => W A t * (1 - W B t)) ↔ 0 < cnt A B k (A.fs, B.fs) := by
    rw [cnt_w hA hB, ls_pos n1, ls_pos fun t _ => by split <;> decide]
    refine exists_congr fun t => and_congr_right fun _ => ?_
    have a := W_nonneg A t
    have b := W_nonneg B t
    have c := wB t
    by_cases z : 0 < W B t
    · rw [if_neg fun y => y.2 z, show W B t = 1 by omega]; simp
    · rw [show W B t = 0 by omega]
      by_cases y : 0 < W A t
      · rw [if_pos ⟨y, by decide⟩]; simp; exact y
      · rw [if_neg fun q => y q.1]; simp; omega
  omega
theorem u_one (hA : RdF A) (hB : RdF B) (wA : ∀ t, W A t ≤ 1) (wB : ∀ t, W B t ≤ 1) (k : Nat) : ls_ (texts A.L k) (fun t => W A t * (1 - W B t)) = cnt A B k (A.fs, B.fs) := by
  classical
  rw [cnt_w hA hB]
  refine ls_congr fun t _ => ?_
  have a := W_nonneg A t
  have b := W_nonneg B t
  have c := wB t
  have d := wA t
  by_cases z : 0 < W B t
  · rw [if_neg fun y => y.2 z, show W B t = 1 by omega]; simp
  · rw [show W B t = 0 by omega]
    by_cases y : 0 < W A t
    · rw [if_pos ⟨y, by decide⟩, show W A t = 1 by omega]; decide
    · rw [if_neg fun q => y q.1, show W A t = 0 by omega]; decide
end
theorem sm_late {f : Nat → Int} {i : Nat} (h : ∀ k, i ≤ k → f k = 0) : ∀ {n : Nat}, i ≤ n → sm f n = sm f i
  | 0, hn => by
    have e : i = 0 := by omega
    rw [e]
  | n + 1, hn => by
    by_cases e : i = n + 1
    · rw [e]
    · show sm f n + f n = _
      rw [sm_late h (by omega), h n (by omega), Int.add_zero]
theorem sm_none {f : Nat → Int} (h0 : ∀ k, 0 ≤ f k) {n : Nat} : sm f n = 0 → ∀ k, k < n → f k = 0 := by
  induction n with
  | zero => exact fun _ k hk => absurd hk (Nat.not_lt_zero k)
  | succ n ih =>
    intro e k hk
    have e : sm f n + f n = 0 := e
    have p : 0 ≤ sm f n := by
      rw [sm_ls]; exact ls_nonneg fun a _ => h0 a
    have := h0 n
    by_cases z : k = n
    · rw [z]; omega
    · exact ih (by omega) k (by omega)
/-- a sequence beside the law's counting -/
structure Beside (D : Nat) (u v : Nat → Int) : Prop where
  rank : Ranked D u
  pos : ∀ k, u k ≠ 0 ↔ v k ≠ 0
  nn : ∀ k, 0 ≤ v k
section
variable {D : Nat} {u v : Nat → Int}
theorem Beside.zero (h : Beside D u v) (k : Nat) : u k = 0 ↔ v k = 0 := by
  have := h.pos k
  constructor
  · intro z; exact Classical.byContradiction fun y => this.mpr y z
  · intro z; exact Classical.byContradiction fun y => this.mp y z
theorem Beside.late (h : Beside D u v) : (∃ k, D ≤ k ∧ k < 2 * D ∧ u k ≠ 0) ↔ ∀ N, ∃ k, N ≤ k ∧ v k ≠ 0 := by
  constructor
  · rintro ⟨k, h1, h2, h3⟩ N
    apply Classical.byContradiction
    intro z
    refine h3 (h.rank.late (N := N) (fun i hi => ?_) k h1)
    exact (h.zero i).mpr (Classical.byContradiction fun q => z ⟨i, hi, q⟩)
  · intro z
    apply Classical.byContradiction
    intro n
    obtain ⟨k, hk, p⟩ := z D
    refine p ((h.zero k).mp (h.rank.window (m := D) (fun i h1 h2 => ?_) k hk))
    exact Classical.byContradiction fun q => n ⟨i, h1, by omega, q⟩
theorem Beside.all (h : Beside D u v) : (∀ t, t < D → u t = 0) ↔ ∀ k, v k = 0 := by
  constructor
  · intro z k
    exact (h.zero k).mp (h.rank.window (m := 0) (fun i _ h2 => z i (by omega)) k (Nat.zero_le _))
  · exact fun z t _ => (h.zero t).mpr (z t)
end
end K39
end Text_K39N3

section Text_K39N4
set_option autoImplicit false set_option linter.all false
/-! The law's readers: lone, and of few states. -/
namespace K39
theorem Rd.Ok.arnd {R : Rd} (h : R.Ok) : R.ar.Nodup := h.ar.imp fun {a b} z => aLt_ne z
theorem Rd.Ok.f {R : Rd} (h : R.Ok) : RdF R where
  L := h.lets.asc.imp Nat.ne_of_lt
  fs := h.fs.imp Nat.ne_of_lt
  fsn := h.fsn
  ls := h.ls.imp Nat.ne_of_lt
  lsn := h.lsn
  arn := h.arn
def allA (L : List Nat) (n : Nat) : List Arr := (List.range n).flatMap fun p => L.flatMap fun c => (List.range n).map fun q => (p, c, q)
theorem flat_len {α β : Type} {k : Nat} {f : α → List β} {l : List α} (h : ∀ a ∈ l, (f a).length ≤ k) : (l.flatMap f).length ≤ l.length * k := by
  induction l with
  | nil => simp
  | cons a l ih =>
    rw [List.flatMap_cons, List.length_append, List.length_cons, Nat.succ_mul]
    have := h a List.mem_cons_self
    have := ih fun b hb => h b (List.mem_cons_of_mem _ hb)
    omega
theorem allA_len (L : List Nat) (n : Nat) : (allA L n).length ≤ n * (L.length * n) := by
  have := flat_len (l := List.range n) (f := fun p => L.flatMap fun c => (List.range n).map fun q => (p, c, q)) (k := L.length * n) fun p _ => flat_len fun c _ => by simp
  rwa [List.length_range] at this
theorem Rd.Ok.few {R : Rd} (h : R.Ok) : R.ar.length ≤ R.n * (R.L.length * R.n) :=
  Nat.le_trans (nodup_len R.ar (allA R.L R.n) h.arnd fun a ha => by
    obtain ⟨h1, h2, h3⟩ := h.arn a ha
    exact List.mem_flatMap.mpr ⟨a.1, List.mem_range.mpr h1, List.mem_flatMap.mpr ⟨a.2.1, h2, List.mem_map.mpr ⟨a.2.2, List.mem_range.mpr h3, rfl⟩⟩⟩) (allA_len _ _)
theorem Rd.Ok.few6 {R : Rd} (h : R.Ok) (n6 : R.n ≤ 6) : R.ar.length ≤ 144 :=
  Nat.le_trans h.few (Nat.le_trans (Nat.mul_le_mul n6 (Nat.mul_le_mul h.lets.four n6)) (by decide))
theorem Rd.Ok.few4 {R : Rd} (h : R.Ok) (n4 : R.n ≤ 4) : R.ar.length ≤ 64 :=
  Nat.le_trans h.few (Nat.le_trans (Nat.mul_le_mul n4 (Nat.mul_le_mul h.lets.four n4)) (by decide))
theorem Rd.Ok.few2 {R : Rd} (h : R.Ok) (n2 : R.n ≤ 2) : R.ar.length ≤ 16 :=
  Nat.le_trans h.few (Nat.le_trans (Nat.mul_le_mul n2 (Nat.mul_le_mul h.lets.four n2)) (by decide))
theorem swA_nodup {as : List Arr} (h : as.Nodup) : (as.map swA).Nodup := by
  unfold List.Nodup
  rw [List.pairwise_map]
  refine h.imp fun {a b} ne e => ne ?_
  have e1 : (a.2.2, a.2.1, a.1) = (b.2.2, b.2.1, b.1) := e
  exact Prod.ext (Prod.mk.inj (Prod.mk.inj e1).2).2 (Prod.ext (Prod.mk.inj (Prod.mk.inj e1).2).1 (Prod.mk.inj e1).1)
theorem map_nodup {α β : Type} {f : α → β} {l : List α} (h : l.Nodup) (inj : ∀ a ∈ l, ∀ b ∈ l, f a = f b → a = b) : (l.map f).Nodup := by
  unfold List.Nodup
  rw [List.pairwise_map]
  exact List.Pairwise.imp_of_mem (fun {a b} ha hb ne e => ne (inj a ha b hb e)) h
theorem flat_nodup {α β : Type} {f : α → List β} {l : List α} (h : l.Nodup) (h1 : ∀ a ∈ l, (f a).Nodup) (h2 : ∀ a ∈ l, ∀ b ∈ l, ∀ x, x ∈ f a → x ∈ f b → a = b) : (l.flatMap f).Nodup := by
  unfold List.Nodup
  rw [List.pairwise_flatMap]
  exact ⟨h1, List.Pairwise.imp_of_mem (fun {a b} ha hb ne x hx y hy e => ne (h2 a ha b hb x hx (e ▸ hy))) h⟩
theorem srtA_mem {a : Arr} {l : List Arr} : a ∈ srtA l ↔ a ∈ l := srtBy_perm.mem_iff
theorem srtN_mem {a : Nat} {l : List Nat} : a ∈ srtN l ↔ a ∈ l := srtBy_perm.mem_iff
theorem flip_mem {R : Rd} {p c q : Nat} : (p, c, q) ∈ (flipR R).ar ↔ (q, c, p) ∈ R.ar := by
  show (p, c, q) ∈ srtA (R.ar.map swA) ↔ _
  rw [srtA_mem, List.mem_map]
  constructor
  · rintro ⟨⟨a1, a2, a3⟩, h, e⟩
    cases e; exact h
  · exact fun h => ⟨_, h, rfl⟩
theorem flip_mem' {R : Rd} {p c q : Nat} : (p, c, q) ∈ R.flip.ar ↔ (q, c, p) ∈ R.ar := by
  show (p, c, q) ∈ srtA (R.ar.map swA) ↔ _
  rw [srtA_mem, List.mem_map]
  constructor
  · rintro ⟨⟨a1, a2, a3⟩, h, e⟩
    cases e; exact h
  · exact fun h => ⟨_, h, rfl⟩
theorem Rd.Ok.flipR {R : Rd} (h : R.Ok) : (flipR R).Ok :=
  mkR_ok h.lets h.n1 h.n60 (h.ls.imp Nat.ne_of_lt) h.lsn (h.fs.imp Nat.ne_of_lt) h.fsn (swA_nodup h.arnd) (fun a ha => by
    obtain ⟨b, hb, rfl⟩ := List.mem_map.mp ha
    have := h.arn b hb
    exact ⟨this.2.2, this.2.1, this.1⟩) (by rw [List.length_map]; exact h.arl)
theorem Rd.Ok.renR {R : Rd} (h : R.Ok) {o : Nat → Nat} (h1 : ∀ i, i < R.n → o i < R.n) (h2 : ∀ i j, i < R.n → j < R.n → o i = o j → i = j) : (renR o R).Ok :=
  mkR_ok h.lets h.n1 h.n60 (map_nodup (h.fs.imp Nat.ne_of_lt) fun a ha b hb e => h2 a b (h.fsn a ha) (h.fsn b hb) e) (fun p hp => by
    obtain ⟨q, hq, rfl⟩ := List.mem_map.mp hp
    exact h1 q (h.fsn q hq)) (map_nodup (h.ls.imp Nat.ne_of_lt) fun a ha b hb e => h2 a b (h.lsn a ha) (h.lsn b hb) e) (fun p hp => by
    obtain ⟨q, hq, rfl⟩ := List.mem_map.mp hp
    exact h1 q (h.lsn q hq)) (map_nodup h.arnd fun a ha b hb e => by
      have na := h.arn a ha
      have nb := h.arn b hb
      have e : (o a.1, a.2.1, o a.2.2) = (o b.1, b.2.1, o b.2.2) := e
      exact Prod.ext (h2 _ _ na.1 nb.1 (Prod.mk.inj e).1) (Prod.ext (Prod.mk.inj (Prod.mk.inj e).2).1 (h2 _ _ na.2.2 nb.2.2 (Prod.mk.inj (Prod.mk.inj e).2).2))) (fun a ha => by
    obtain ⟨b, hb, rfl⟩ := List.mem_map.mp ha
    have := h.arn b hb
    exact ⟨h1 _ this.1, this.2.1, h1 _ this.2.2⟩) (by rw [List.length_map]; exact h.arl)
/-! ### lone -/
/-- one end, and at most one arrow by a sign into a state -/
def BackDet (R : Rd) : Prop := (∀ p ∈ R.ls, ∀ q ∈ R.ls, p = q) ∧ ∀ p q c x, (p, c, x) ∈ R.ar → (q, c, x) ∈ R.ar → p = q
theorem BackDet.lone {R : Rd} (h : BackDet R) : LoneC R :=
  ⟨fun _ _ => True, fun p q => p = q, fun _ _ _ _ => trivial, fun _ _ _ _ _ _ _ _ => trivial, h.1, fun p q c p' q' e a b => by
    subst e; exact h.2 p q c p' a b, fun _ _ _ e => e⟩
theorem PlainR.fwd {L : List Nat} {m : Nat} {R : Rd} (h : PlainR L m R) {p c q x : Nat} (a : (p, c, q) ∈ R.ar) (b : (p, c, x) ∈ R.ar) : q = x := by
  have := h.one _ a _ b rfl rfl
  exact (Prod.mk.inj (Prod.mk.inj this).2).2
theorem PlainR.lone {L : List Nat} {m : Nat} {R : Rd} (h : PlainR L m R) : LoneC R :=
  ⟨fun p q => p = q, fun _ _ => True, fun p hp q hq => by
    obtain ⟨z, e⟩ := h.head
    rw [e] at hp hq
    rw [List.mem_singleton.mp hp, List.mem_singleton.mp hq], fun p q c p' q' e a b => by
    subst e; exact h.fwd a b, fun _ _ _ _ => trivial, fun _ _ _ _ _ _ _ _ => trivial, fun _ _ e _ => e⟩
theorem PlainR.flip {L : List Nat} {m : Nat} {R : Rd} (h : PlainR L m R) : BackDet (flipR R) := by
  refine ⟨fun p hp q hq => ?_, fun p q c x a b => h.fwd (flip_mem.mp a) (flip_mem.mp b)⟩
  obtain ⟨z, e⟩ := h.head
  have hp : p ∈ srtN R.fs := hp
  have hq : q ∈ srtN R.fs := hq
  rw [srtN_mem, e] at hp hq
  rw [List.mem_singleton.mp hp, List.mem_singleton.mp hq]
theorem BackDet.ren {R : Rd} (h : BackDet R) (ok : R.Ok) {o : Nat → Nat} (h2 : ∀ i j, i < R.n → j < R.n → o i = o j → i = j) : BackDet (renR o R) := by
  refine ⟨fun p hp q hq => ?_, fun p q c x a b => ?_⟩
  · have hp : p ∈ srtN (R.ls.map o) := hp
    have hq : q ∈ srtN (R.ls.map o) := hq
    rw [srtN_mem] at hp hq
    obtain ⟨p1, hp1, rfl⟩ := List.mem_map.mp hp
    obtain ⟨q1, hq1, rfl⟩ := List.mem_map.mp hq
    rw [h.1 p1 hp1 q1 hq1]
  · have a : (p, c, x) ∈ srtA (R.ar.map (renA o)) := a
    have b : (q, c, x) ∈ srtA (R.ar.map (renA o)) := b
    rw [srtA_mem] at a b
    obtain ⟨⟨a1, a2, a3⟩, ha, ea⟩ := List.mem_map.mp a
    obtain ⟨⟨b1, b2, b3⟩, hb, eb⟩ := List.mem_map.mp b
    cases ea
    have eb : (o b1, b2, o b3) = (q, a2, o a3) := eb
    have e1 := (Prod.mk.inj eb).1
    have e2 := (Prod.mk.inj (Prod.mk.inj eb).2).1
    have e3 := h2 _ _ (ok.arn _ hb).2.2 (ok.arn _ ha).2.2 (Prod.mk.inj (Prod.mk.inj eb).2).2
    have e2 : b2 = a2 := e2
    have e3 : b3 = a3 := e3
    subst e2 e3
    rw [← e1, h.2 _ _ _ _ ha hb]
theorem pairAr_mem {A B : Rd} {x : Arr} (h : x ∈ pairAr A B) : ∃ a ∈ A.ar, ∃ b ∈ B.ar, b.2.1 = a.2.1 ∧ x = pairF B a b := by
  obtain ⟨a, ha, h2⟩ := List.mem_flatMap.mp h
  obtain ⟨b, hb, e⟩ := List.mem_map.mp h2
  obtain ⟨hb, e2⟩ := List.mem_filter.mp hb
  exact ⟨a, ha, b, hb, by simpa using e2, e.symm⟩
theorem pair_lt {m k p q : Nat} (hp : p < k) (hq : q < m) : p * m + q < k * m := by
  have h1 : (p + 1) * m ≤ k * m := Nat.mul_le_mul_right m hp
  rw [Nat.succ_mul] at h1
  omega
theorem pairNs_nodup {ps qs : List Nat} {m : Nat} (h1 : ps.Nodup) (h2 : qs.Nodup) (hq : ∀ q ∈ qs, q < m) : (pairNs ps qs m).Nodup := by
  refine flat_nodup h1 (fun p _ => map_nodup h2 fun a _ b _ e => by omega) fun p _ p' _ x hx hy => ?_
  obtain ⟨a, ha, rfl⟩ := List.mem_map.mp hx
  obtain ⟨b, hb, e⟩ := List.mem_map.mp hy
  exact (pair_inj (hq a ha) (hq b hb) e.symm).1
theorem pairNs_lt {ps qs : List Nat} {k m : Nat} (h1 : ∀ p ∈ ps, p < k) (hq : ∀ q ∈ qs, q < m) : ∀ x ∈ pairNs ps qs m, x < k * m := by
  intro x hx
  obtain ⟨p, hp, h2⟩ := List.mem_flatMap.mp hx
  obtain ⟨q, hq', rfl⟩ := List.mem_map.mp h2
  exact pair_lt (h1 p hp) (hq q hq')
theorem pairR_ok {A B : Rd} (hA : A.Ok) (hB : B.Ok) (n60 : A.n * B.n ≤ 60) (la : (pairAr A B).length ≤ 4000) (hL : A.L = B.L) : (pairR A B).Ok := by
  refine mkR_ok hA.lets (Nat.mul_pos hA.n1 hB.n1) n60 (pairNs_nodup (hA.fs.imp Nat.ne_of_lt) (hB.fs.imp Nat.ne_of_lt) hB.fsn) (pairNs_lt hA.fsn hB.fsn) (pairNs_nodup (hA.ls.imp Nat.ne_of_lt) (hB.ls.imp Nat.ne_of_lt) hB.lsn) (pairNs_lt hA.lsn hB.lsn) ?_ (fun x hx => ?_) la
  · refine flat_nodup hA.arnd (fun a _ => map_nodup (List.Pairwise.sublist List.filter_sublist hB.arnd) fun b hb b' hb' e => ?_) fun a ha a' ha' x hx hx' => ?_
    · have e : (a.1 * B.n + b.1, a.2.1, a.2.2 * B.n + b.2.2) = (a.1 * B.n + b'.1, a.2.1, a.2.2 * B.n + b'.2.2) := e
      have f1 := of_decide_eq_true (List.mem_filter.mp hb).2
      have f2 := of_decide_eq_true (List.mem_filter.mp hb').2
      have e1 := (Prod.mk.inj e).1
      have e2 := (Prod.mk.inj (Prod.mk.inj e).2).2
      exact Prod.ext (by omega) (Prod.ext (f1.trans f2.symm) (by omega))
    · obtain ⟨b, hb, rfl⟩ := List.mem_map.mp hx
      obtain ⟨b', hb', e⟩ := List.mem_map.mp hx'
      have nb := hB.arn b (List.mem_filter.mp hb).1
      have nb' := hB.arn b' (List.mem_filter.mp hb').1
      have e : (a'.1 * B.n + b'.1, a'.2.1, a'.2.2 * B.n + b'.2.2) = (a.1 * B.n + b.1, a.2.1, a.2.2 * B.n + b.2.2) := e
      have e1 := (pair_inj nb'.1 nb.1 (Prod.mk.inj e).1).1
      have e2 := (pair_inj nb'.2.2 nb.2.2 (Prod.mk.inj (Prod.mk.inj e).2).2).1
      exact Prod.ext e1.symm (Prod.ext (Prod.mk.inj (Prod.mk.inj e).2).1.symm e2.symm)
  · obtain ⟨a, ha, b, hb, e, rfl⟩ := pairAr_mem hx
    have na := hA.arn a ha
    have nb := hB.arn b hb
    exact ⟨pair_lt na.1 nb.1, na.2.1, pair_lt na.2.2 nb.2.2⟩
theorem pairAr_len (A B : Rd) : (pairAr A B).length ≤ A.ar.length * B.ar.length := flat_len fun a _ => by
  unfold pairOne; rw [List.length_map]; exact List.length_filter_le ..
theorem divmod {m p q : Nat} (hq : q < m) : (p * m + q) / m = p ∧ (p * m + q) % m = q := by
  have hm : 0 < m := by omega
  exact ⟨by rw [Nat.mul_comm, Nat.mul_add_div hm, Nat.div_eq_of_lt hq, Nat.add_zero], by rw [Nat.mul_comm, Nat.mul_add_mod, Nat.mod_eq_of_lt hq]⟩
theorem PlainR.pair {L : List Nat} {m : Nat} {A B : Rd} (h : PlainR L m A) (okB : B.Ok) (hB : BackDet B) : LoneC (pairR A B) := by
  have arm : ∀ {x c y : Nat}, (x, c, y) ∈ (pairR A B).ar → ∃ a1 a3 b1 b3, (a1, c, a3) ∈ A.ar ∧ (b1, c, b3) ∈ B.ar ∧ x / B.n = a1 ∧ x % B.n = b1 ∧ y / B.n = a3 ∧ y % B.n = b3 := by
    intro x c y hx
    have hx : (x, c, y) ∈ srtA (pairAr A B) := hx
    rw [srtA_mem] at hx
    obtain ⟨⟨a1, a2, a3⟩, ha, ⟨b1, b2, b3⟩, hb, e, e2⟩ := pairAr_mem hx
    have e : b2 = a2 := e
    subst e
    have e2 : (x, c, y) = (a1 * B.n + b1, b2, a3 * B.n + b3) := e2
    have nb := okB.arn _ hb
    obtain ⟨f1, f2⟩ := Prod.mk.inj e2
    obtain ⟨f2, f3⟩ := Prod.mk.inj f2
    subst f1 f2 f3
    exact ⟨a1, a3, b1, b3, ha, hb, (divmod nb.1).1, (divmod nb.1).2, (divmod nb.2.2).1, (divmod nb.2.2).2⟩
  refine ⟨fun x y => x / B.n = y / B.n, fun x y => x % B.n = y % B.n, fun x hx y hy => ?_, fun x y c x' y' e a b => ?_, fun x hx y hy => ?_, fun x y c x' y' e a b => ?_, fun x y e1 e2 => ?_⟩
  · have hx : x ∈ srtN (pairNs A.fs B.fs B.n) := hx
    have hy : y ∈ srtN (pairNs A.fs B.fs B.n) := hy
    rw [srtN_mem] at hx hy
    obtain ⟨p, hp, hx⟩ := List.mem_flatMap.mp hx
    obtain ⟨q, hq, rfl⟩ := List.mem_map.mp hx
    obtain ⟨p', hp', hy⟩ := List.mem_flatMap.mp hy
    obtain ⟨q', hq', rfl⟩ := List.mem_map.mp hy
    obtain ⟨z, ez⟩ := h.head
    rw [ez] at hp hp'
    show (p * B.n + q) / B.n = (p' * B.n + q') / B.n
    rw [(divmod (okB.fsn q hq)).1, (divmod (okB.fsn q' hq')).1, List.mem_singleton.mp hp, List.mem_singleton.mp hp']
  · obtain ⟨a1, a3, b1, b3, h1, h2, h3, h4, h5, h6⟩ := arm a
    obtain ⟨c1, c3, d1, d3, g1, g2, g3, g4, g5, g6⟩ := arm b
    have e : x / B.n = y / B.n := e
    rw [h3, g3] at e
    subst e
    show x' / B.n = y' / B.n
    rw [h5, g5, h.fwd h1 g1]
  · have hx : x ∈ srtN (pairNs A.ls B.ls B.n) := hx
    have hy : y ∈ srtN (pairNs A.ls B.ls B.n) := hy
    rw [srtN_mem] at hx hy
    obtain ⟨p, hp, hx⟩ := List.mem_flatMap.mp hx
    obtain ⟨q, hq, rfl⟩ := List.mem_map.mp hx
    obtain ⟨p', hp', hy⟩ := List.mem_flatMap.mp hy
    obtain ⟨q', hq', rfl⟩ := List.mem_map.mp hy
    show (p * B.n + q) % B.n = (p' * B.n + q') % B.n
    rw [(divmod (okB.lsn q hq)).2, (divmod (okB.lsn q' hq')).2, hB.1 q hq q' hq']
  · obtain ⟨a1, a3, b1, b3, h1, h2, h3, h4, h5, h6⟩ := arm a
    obtain ⟨c1, c3, d1, d3, g1, g2, g3, g4, g5, g6⟩ := arm b
    have e : x' % B.n = y' % B.n := e
    rw [h6, g6] at e
    subst e
    show x % B.n = y % B.n
    rw [h4, g4, hB.2 _ _ _ _ h2 g2]
  · rw [← Nat.div_add_mod x B.n, ← Nat.div_add_mod y B.n]
    show B.n * (x / B.n) + x % B.n = _
    rw [show x / B.n = y / B.n from e1, show x % B.n = y % B.n from e2]
theorem LoneC.lone {R : Rd} (h : LoneC R) (ok : R.Ok) (n6 : R.n ≤ 6) : LoneOk R where
  ok := ok
  far := ⟨allNd R.n, EndG R, {
    few := allNd_len n6
    mem := fun k hk => hk.all
    lt1 := fun k hk => hk.1
    lt2 := fun k hk => hk.2.1
    mv := fun c p => by
      have h1 := mvs_nodup (as := R.flip.ar) (by
        have : (srtA (R.ar.map swA)).Nodup := (srtBy_perm.nodup_iff).mpr (swA_nodup ok.arnd)
        exact this) c p
      have := nodup_len _ (List.range R.n) h1 fun q hq => List.mem_range.mpr (ok.arn _ (flip_mem'.mp (mvs_mem.mp hq))).1
      rw [List.length_range] at this
      omega
    lets := ok.lets.four
    step := fun k hk m hm => hk.step (fun c p q hq => flip_mem'.mp (mvs_mem.mp hq)) (fun a ha => (ok.arn a ha).1) m hm }, EndG.last ok.ls ok.lsn, EndG.beg fun t => h.w ok.arnd (ok.fs.imp Nat.ne_of_lt) t⟩
theorem both_is (A B : Rd) : IsBoth A B (A.both B) where
  fs := rfl
  ls := rfl
  ar := srtBy_perm
theorem pairNs_asc {ps qs : List Nat} {m : Nat} (h1 : ps.Pairwise (· < ·)) (h2 : qs.Pairwise (· < ·)) (hq : ∀ q ∈ qs, q < m) : (pairNs ps qs m).Pairwise (· < ·) := by
  unfold pairNs
  rw [List.pairwise_flatMap]
  refine ⟨fun p _ => List.pairwise_map.mpr (h2.imp fun h => by omega), h1.imp fun {p p'} h x hx y hy => ?_⟩
  obtain ⟨q, hq1, rfl⟩ := List.mem_map.mp hx
  obtain ⟨q', hq2, rfl⟩ := List.mem_map.mp hy
  have := hq q hq1
  have h3 := pair_lt (m := m) h this
  omega
theorem BothOk.of {A B : Rd} (hA : A.Ok) (hB : B.Ok) (hL : A.L = B.L) (a4 : A.n ≤ 6) (b4 : B.n ≤ 4) : BothOk A B where
  oa := hA
  ob := hB
  lets := hL
  lf := Nat.le_trans (Nat.mul_le_mul (Nat.le_trans (asc_len hA.fs hA.fsn) a4) (Nat.le_trans (asc_len hB.fs hB.fsn) b4)) (by decide)
  ll := Nat.le_trans (Nat.mul_le_mul (Nat.le_trans (asc_len hA.ls hA.lsn) a4) (Nat.le_trans (asc_len hB.ls hB.lsn) b4)) (by decide)
  ok := {
    lets := hA.lets
    n1 := Nat.mul_pos hA.n1 hB.n1
    n60 := Nat.le_trans (Nat.mul_le_mul a4 b4) (by decide)
    fs := pairNs_asc hA.fs hB.fs hB.fsn
    fsn := pairNs_lt hA.fsn hB.fsn
    ls := pairNs_asc hA.ls hB.ls hB.lsn
    lsn := pairNs_lt hA.lsn hB.lsn
    arn := fun x hx => by
      have hx : x ∈ srtA (bothAr A B) := hx
      rw [srtA_mem] at hx
      obtain ⟨a, ha, h2⟩ := List.mem_flatMap.mp hx
      obtain ⟨q, hq, h3⟩ := List.mem_flatMap.mp h2
      obtain ⟨l, hl, rfl⟩ := List.mem_map.mp h3
      have na := hA.arn a ha
      exact ⟨pair_lt na.1 (List.mem_range.mp hq), na.2.1, pair_lt na.2.2 (hB.arn _ (mvs_mem.mp hl)).2.2⟩
    ar := by
      show (srtA (bothAr A B)).Pairwise aLt
      refine srtBy_asc eA_toks (flat_nodup hA.arnd (fun a _ => flat_nodup List.nodup_range (fun q hq => map_nodup (mvs_nodup hB.arnd _ _) fun l hl l' hl' e => ?_) fun q hq q' hq' x hx hx' => ?_) fun a ha a' ha' x hx hx' => ?_)
      · have := (Prod.mk.inj (Prod.mk.inj e).2).2
        omega
      · obtain ⟨l, hl, rfl⟩ := List.mem_map.mp hx
        obtain ⟨l', hl', e⟩ := List.mem_map.mp hx'
        have := (Prod.mk.inj e).1
        omega
      · obtain ⟨q, hq, hx⟩ := List.mem_flatMap.mp hx
        obtain ⟨l, hl, rfl⟩ := List.mem_map.mp hx
        obtain ⟨q', hq', hx'⟩ := List.mem_flatMap.mp hx'
        obtain ⟨l', hl', e⟩ := List.mem_map.mp hx'
        have e1 := (pair_inj (List.mem_range.mp hq') (List.mem_range.mp hq) (Prod.mk.inj e).1).1
        have e2 := (Prod.mk.inj (Prod.mk.inj e).2).1
        have e3 := (pair_inj (hB.arn _ (mvs_mem.mp hl')).2.2 (hB.arn _ (mvs_mem.mp hl)).2.2 (Prod.mk.inj (Prod.mk.inj e).2).2).1
        exact Prod.ext e1.symm (Prod.ext e2.symm e3.symm)
    arl := by
      show (srtA (bothAr A B)).length ≤ 4000
      rw [srtBy_perm.length_eq]
      have h1 : (bothAr A B).length ≤ A.ar.length * (B.n * B.n) := flat_len fun a _ => by
        have := flat_len (l := List.range B.n) (f := fun q => (mvs B.ar a.2.1 q).map fun l => (a.1 * B.n + q, a.2.1, a.2.2 * B.n + l)) (k := B.n) fun q _ => by
          rw [List.length_map]
          have := nodup_len _ (List.range B.n) (mvs_nodup hB.arnd a.2.1 q) fun x hx => List.mem_range.mpr (hB.arn _ (mvs_mem.mp hx)).2.2
          rwa [List.length_range] at this
        rwa [List.length_range] at this
      have h2 := hA.few6 a4
      have h3 : B.n * B.n ≤ 4 * 4 := Nat.mul_le_mul b4 b4
      have h4 : A.ar.length * (B.n * B.n) ≤ 144 * (4 * 4) := Nat.mul_le_mul h2 h3
      omega }
end K39
end Text_K39N4

section Text_K39L11
set_option Elab.async false set_option linter.all false set_option maxRecDepth 100000 set_option maxHeartbeats 4000000
/-! Is a reader sole? -/
namespace K39
open PySem PySem.Spec PyProof.Rows L2
variable {P : Program} {w : World} {K : PySem.W.Frag} {mg : Str → Option Value} {base : Heap}
theorem canAll {α : Type} {f : α → PyData} {m : Nat} (h : ∀ a, (f a).canLay0 = true ∧ (f a).depth ≤ m) : ∀ l : List α, PyData.canLayAll0 (l.map f) = true ∧ PyData.depthAll (l.map f) ≤ m
  | [] => ⟨rfl, by simp [PyData.depthAll]⟩
  | a :: l => ⟨by simp [PyData.canLayAll0, (h a).1, (canAll h l).1], by exact Nat.max_le.mpr ⟨(h a).2, (canAll h l).2⟩⟩
theorem shaped_map {α : Type} {f : α → PyData} (h : ∀ a, (f a).canLay0 = true ∧ (f a).depth ≤ 60) (l : List α) : SeqAt.shaped (.list (l.map f)) = true := by
  have c := canAll h l
  unfold SeqAt.shaped
  simp only [PyData.canLay0, PyData.depth, c.1, Bool.true_and, decide_eq_true_eq]
  exact decide_eq_true (Nat.le_trans (Nat.succ_le_succ c.2) (by decide))
theorem eqv_nil {α : Type} (f : α → PyData) (l : List α) : PyData.eqv (.list (l.map f)) (.list []) = l.isEmpty := by
  cases l with
  | nil => rfl
  | cons a l => rfl
theorem eP_ok (a : Nat × Nat) : (eP a).canLay0 = true ∧ (eP a).depth ≤ 60 := ⟨rfl, by simp [eP, PyData.depth, PyData.depthAll]⟩
theorem eN_ok (n : Nat) : (eN n).canLay0 = true ∧ (eN n).depth ≤ 1 := ⟨rfl, by simp [eN, PyData.depth]⟩
theorem eK_ok (a : KK) : (eK a).canLay0 = true ∧ (eK a).depth ≤ 60 := by
  have c1 := canAll eN_ok a.1
  have c2 := canAll eN_ok a.2
  refine ⟨by simp [eK, eNs, PyData.canLay0, PyData.canLayAll0, c1.1, c2.1], ?_⟩
  simp only [eK, eNs, PyData.depth, PyData.depthAll]
  have := c1.2
  have := c2.2
  omega
/-- the last of a list of data -/
theorem DtAll.pop {H : Hp} {ys : List V} {ds : List PyData} {d : PyData} (h : DtAll K H ys (ds ++ [d])) : ∃ y, ys[ys.length - 1]? = some y ∧ DtAll K H ys.dropLast ds ∧ Dt K H y d := by
  have l := h.length
  rw [List.length_append, List.length_singleton] at l
  obtain ⟨y, h1, h2⟩ := h.get (i := ds.length) (d := d) (by simp)
  refine ⟨y, by rw [l]; exact h1, ?_, h2⟩
  have := h.dropLast
  rwa [List.dropLast_concat] at this
/-- the key stands in the dict -/
abbrev Kn {κ : Type} [DecidableEq κ] (kvs : List (κ × V)) (k : κ) : Prop := valV kvs k ≠ none
def missK {κ : Type} [DecidableEq κ] (D : List κ) (kvs : List (κ × V)) : Nat := (D.filter fun k => (valV kvs k).isNone).length
theorem missK_put {κ : Type} [DecidableEq κ] {D : List κ} {kvs : List (κ × V)} {k : κ} {v : V} (hk : k ∈ D) (hn : valV kvs k = none) : missK D (putK kvs k v) < missK D kvs := by
  unfold missK
  refine filter_lt (a := k) (fun j _ hj => ?_) hk (by rw [hn]; rfl) (by rw [valV_put, if_pos rfl]; rfl)
  rw [valV_put] at hj
  by_cases e : j = k
  · rw [if_pos e] at hj; cases hj
  · rwa [if_neg e] at hj
/-- a walk over pairs of states, forth or back -/
structure Wk (R : Rd) (fr to : Arr → Nat) (S : List Nat) (kvs : List ((Nat × Nat) × V)) (ks : List (Nat × Nat)) : Prop where
  init : ∀ p ∈ S, ∀ q ∈ S, Kn kvs (p, q) ∨ (p, q) ∈ ks
  step : ∀ a ∈ R.ar, ∀ b ∈ R.ar, a.2.1 = b.2.1 → Kn kvs (fr a, fr b) → Kn kvs (to a, to b) ∨ (to a, to b) ∈ ks
  rng : ∀ k ∈ ks, k.1 < R.n ∧ k.2 < R.n
section
variable {R : Rd} {fr to : Arr → Nat} {S : List Nat} {kvs : List ((Nat × Nat) × V)} {ks ks' : List (Nat × Nat)} {k : Nat × Nat}
theorem Wk.skip (h : Wk R fr to S kvs (ks ++ [k])) (hk : Kn kvs k) : Wk R fr to S kvs ks where
  init := fun p hp q hq => by
    rcases h.init p hp q hq with z | z
    · exact .inl z
    · rcases List.mem_append.mp z with z | z
      · exact .inr z
      · exact .inl (by rw [List.mem_singleton.mp z]; exact hk)
  step := fun a ha b hb e z => by
    rcases h.step a ha b hb e z with z | z
    · exact .inl z
    · rcases List.mem_append.mp z with z | z
      · exact .inr z
      · exact .inl (by rw [List.mem_singleton.mp z]; exact hk)
  rng := fun j hj => h.rng j (List.mem_append_left _ hj)
theorem Wk.add {v : V} (h : Wk R fr to S kvs (ks ++ [k])) (hs : ∀ j ∈ ks, j ∈ ks') (hr : ∀ j ∈ ks', j.1 < R.n ∧ j.2 < R.n) (hn : ∀ a ∈ R.ar, ∀ b ∈ R.ar, a.2.1 = b.2.1 → fr a = k.1 → fr b = k.2 → (to a, to b) ∈ ks') : Wk R fr to S (putK kvs k v) ks' where
  init := fun p hp q hq => by
    rw [Kn, valV_put]
    by_cases e : (p, q) = k
    · left; rw [if_pos e]; nofun
    · rw [if_neg e]
      rcases h.init p hp q hq with z | z
      · exact .inl z
      · rcases List.mem_append.mp z with z | z
        · exact .inr (hs _ z)
        · exact absurd (List.mem_singleton.mp z) e
  step := fun a ha b hb e z => by
    rw [Kn, valV_put] at z ⊢
    by_cases e1 : (fr a, fr b) = k
    · right; exact hn a ha b hb e (by rw [← e1]) (by rw [← e1])
    · rw [if_neg e1] at z
      by_cases e2 : (to a, to b) = k
      · left; rw [if_pos e2]; nofun
      · rw [if_neg e2]
        rcases h.step a ha b hb e z with z | z
        · exact .inl z
        · rcases List.mem_append.mp z with z | z
          · exact .inr (hs _ z)
          · exact absurd (List.mem_singleton.mp z) e2
  rng := hr
end
def allP (n : Nat) : List (Nat × Nat) := (List.range n).flatMap fun p => (List.range n).map fun q => (p, q)
theorem allP_mem {n : Nat} {k : Nat × Nat} (h : k.1 < n ∧ k.2 < n) : k ∈ allP n := List.mem_flatMap.mpr ⟨k.1, List.mem_range.mpr h.1, List.mem_map.mpr ⟨k.2, List.mem_range.mpr h.2, rfl⟩⟩
theorem allP_len {n : Nat} (h : n ≤ 6) : (allP n).length ≤ 36 := by
  match n, h with
  | 0, _ => decide
  | 1, _ => decide
  | 2, _ => decide
  | 3, _ => decide
  | 4, _ => decide
  | 5, _ => decide
  | 6, _ => decide
theorem missK_le {κ : Type} [DecidableEq κ] (D : List κ) (kvs : List (κ × V)) : missK D kvs ≤ D.length := List.length_filter_le ..
/-- what is pushed for an arrow -/
def push (R : Rd) (fr to : Arr → Nat) (q : Nat) (a : Arr) : List (Nat × Nat) := (R.ar.filter fun b => decide (fr b = q) && decide (b.2.1 = a.2.1)).map fun b => (to a, to b)
def pushes (R : Rd) (fr to : Arr → Nat) (k : Nat × Nat) (as : List Arr) : List (Nat × Nat) := as.flatMap fun a => if fr a = k.1 then push R fr to k.2 a else []
theorem pushes_len (R : Rd) (fr to : Arr → Nat) (k : Nat × Nat) : ∀ as : List Arr, (pushes R fr to k as).length ≤ as.length * R.ar.length
  | [] => by simp [pushes]
  | a :: as => by
    have := pushes_len R fr to k as
    unfold pushes at this ⊢
    rw [List.flatMap_cons, List.length_append, List.length_cons, Nat.succ_mul]
    have h2 : (if fr a = k.1 then push R fr to k.2 a else []).length ≤ R.ar.length := by
      split
      · unfold push; rw [List.length_map]; exact List.length_filter_le ..
      · simp
    omega
theorem pushes_snoc {R : Rd} {fr to : Arr → Nat} {k : Nat × Nat} {i : Nat} {a : Arr} {as : List Arr} (h : as[i]? = some a) : pushes R fr to k (as.take (i + 1)) = pushes R fr to k (as.take i) ++ if fr a = k.1 then push R fr to k.2 a else [] := by
  unfold pushes
  rw [take_one h, List.flatMap_append]; simp
theorem pushes_all {R : Rd} {fr to : Arr → Nat} {k : Nat × Nat} {a b : Arr} (ha : a ∈ R.ar) (hb : b ∈ R.ar) (e : a.2.1 = b.2.1) (e1 : fr a = k.1) (e2 : fr b = k.2) : (to a, to b) ∈ pushes R fr to k R.ar := by
  refine List.mem_flatMap.mpr ⟨a, ha, ?_⟩
  rw [if_pos e1]
  exact List.mem_map.mpr ⟨b, List.mem_filter.mpr ⟨hb, by simp [e2, e]⟩, rfl⟩
theorem pushes_rng {R : Rd} {fr to : Arr → Nat} {k : Nat × Nat} (h : ∀ a ∈ R.ar, to a < R.n) {as : List Arr} (hs : ∀ a ∈ as, a ∈ R.ar) : ∀ j ∈ pushes R fr to k as, j.1 < R.n ∧ j.2 < R.n := by
  intro j hj
  obtain ⟨a, ha, h2⟩ := List.mem_flatMap.mp hj
  split at h2
  · obtain ⟨b, hb, rfl⟩ := List.mem_map.mp h2
    exact ⟨h a (hs a ha), h b (List.mem_filter.mp hb).1⟩
  · cases h2
theorem pairs_len (l m : List Nat) : (l.flatMap fun p => m.map fun q => (p, q)).length = l.length * m.length := by
  induction l with
  | nil => simp
  | cons a l ih => rw [List.flatMap_cons, List.length_append, ih, List.length_map, List.length_cons, Nat.succ_mul]; omega
theorem Same.dt {H H' : Hp} {v : V} {d : PyData} (s : Same H H') (h : Dt K H v d) : Dt K H' v d := h.same s
theorem val_key {κ : Type} [DecidableEq κ] {kvs : List (κ × V)} {k : κ} (h : valV kvs k ≠ none) : k ∈ kvs.map (·.1) := by
  induction kvs with
  | nil => exact absurd rfl h
  | cons p l ih =>
    by_cases e : p.1 = k
    · rw [← e]; exact List.mem_cons_self
    · rw [valV_neg e] at h
      exact List.mem_cons_of_mem _ (ih h)
def sp_l_is_sole (w : World) (K : PySem.W.Frag) : Sp := fun vs H Q E => ∃ (d : Addr) (R : Rd), vs = [.ref d] ∧ R.Ok ∧ R.n ≤ 6 ∧ R.ar.length ≤ 200 ∧ LRd K H d R ∧ ∀ k H', Same H H' → (k = true → LoneC R) → Q (.bl k) H'
abbrev N_l_is_sole : List Str := ["_law_reader", "_law_pairs", "_law_waits", "_law_spot", "_law_pair", "_law_here", "_law_sign", "_law_there", "_law_some", "_law_good", "_law_near", "_law_mark", "_law_far"]
theorem sc_l_is_sole : FnScope N_l_is_sole ["_law_reader"] (defScope s_l_is_sole) := ⟨rfl, rfl, rfl, by decide +kernel, rfl, by decide +kernel, by decide +kernel⟩
theorem p_l_is_sole (T : Tx K mg) : Fn P w K mg base 1 "_law_is_sole" (sp_l_is_sole w K) := by
  refine fn_mk T.d_l_is_sole T.g_l_is_sole sc_l_is_sole (fun _ _ _ _ _ _ us h => by match us, h with | [_], _ => rfl) (fun vs H Q E ⟨d, R, e, ok, n6, la, hR, q⟩ => by rw [e]; rfl) fun cdv A outer s H vs Q E hr ⟨d, R, e, ok, n6, la, hR, q⟩ => ?_
  subst e
  have hu := hr.units
  have hu1 := hu_of hr
  have nd := sc_l_is_sole.nd
  refine ⟨_, (pss_cons (ps_par (i := 1) (j := 2) (by rfl) nd rfl rfl (by decide) rfl rfl (pa_cons (pe_ndNew cP) (pa_cons (pe_lst pa_nil) pa_nil)) (by rfl))
      (pss_cons (ps_for PassesOwn.never rfl (pi_tup (pe_dget hu1 (pv 0) pe_str (fun _ _ => rfl))) (pg_name (i := 3) nd rfl (Or.inr rfl))
        (pss_one (ps_set (i := 2) nd rfl (Or.inl rfl) (pe_op op_cat (pv 2) (pe_lc (own := [("_law_near", 10)]) rfl nd (pi_tup (pe_dget hu1 (pv 0) pe_str (fun _ _ => rfl))) (blkOk_by (N := N_l_is_sole) (sc := defScope s_l_is_sole) (by decide +kernel)) (fun _ _ _ _ _ => (pg_name (i := 10) nd rfl (Or.inl rfl) (Or.inr rfl))) (fun _ _ _ _ _ => pts_nil) (fun _ _ _ _ _ => (pe_tup (pa_cons (pv 3) (pa_cons (pv 10) pa_nil)))))))))
      (pss_cons (ps_while PassesOwn.never (pt_cmpR (op_neD hu) (pv 2) (pe_lst pa_nil) (nomark _))
        (pss_cons (ps_set (i := 4) nd rfl (Or.inr rfl) (pe_bm0 PySem.F.plainAttrs_list PySem.F.slot_list_pop PySem.F.type_list_pop mt_pop (pv 2)))
        (pss_one (ps_if (pt_cmpR (op_ndNotIn hu cP) (pv 4) (pv 1) rfl) (pss_cons (ps_asg pe_bl (pg_sub (pv 1) (pv 4) (set_nd hu cP)))
          (pss_one (ps_for PassesOwn.never rfl (pi_tup (pe_dget hu1 (pv 0) pe_str (fun _ _ => rfl))) (pg_tup rfl (pgs_cons (pg_name (i := 5) nd rfl (Or.inr rfl)) (pgs_cons (pg_name (i := 6) nd rfl (Or.inr rfl)) (pgs_cons (pg_name (i := 7) nd rfl (Or.inr rfl)) pgs_nil))))
            (pss_one (ps_if (pt_cmpR op_eq (pv 5) (pe_ix ix_tup (pv 4) pe_int (fun _ _ => rfl)) (nomark _)) (pss_cons (ps_setLc (i := 8) (own := [("_law_near", 10), ("_law_mark", 11), ("_law_far", 12)]) rfl nd rfl rfl (sw_true rfl rfl rfl (by decide +kernel)) (pi_tup (pe_dget hu1 (pv 0) pe_str (fun _ _ => rfl))) (blkOk_by (N := N_l_is_sole) (sc := defScope s_l_is_sole) (by decide +kernel)) (fun _ _ _ _ _ => (show PG _ _ (gTup K 3 (gCons (gName 10) (gCons (gName 11) (gCons (gName 12) gNil)))) from pg_tup rfl (pgs_cons (pg_name (i := 10) nd rfl (Or.inl rfl) (Or.inr rfl)) (pgs_cons (pg_name (i := 11) nd rfl (Or.inl rfl) (Or.inr rfl)) (pgs_cons (pg_name (i := 12) nd rfl (Or.inl rfl) (Or.inr rfl)) pgs_nil))))) (fun _ _ _ _ _ => (pts_one (PW.pt (pw_and (pt_cmpR op_eq (pv 10) (pe_ix (show IxR _ (rIxT K) from ix_tup) (pv 4) pe_int (fun _ _ => rfl)) (nomark _)) (pw_and1 (pt_cmpR op_eq (pv 11) (pv 6) (nomark _))))))) (fun _ _ _ _ _ => (pv 12)))
              (pss_one (ps_set (i := 2) nd rfl (Or.inl rfl) (pe_op op_cat (pv 2) (pe_lc (own := [("_law_far", 12)]) rfl nd (pi_list (pv 8)) (blkOk_by (N := N_l_is_sole) (sc := defScope s_l_is_sole) (by decide +kernel)) (fun _ _ _ _ _ => (pg_name (i := 12) nd rfl (Or.inl rfl) (Or.inr rfl))) (fun _ _ _ _ _ => pts_nil) (fun _ _ _ _ _ => (pe_tup (pa_cons (pv 7) (pa_cons (pv 12) pa_nil))))))))) pss_nil))))) pss_nil))))
      (pss_cons (ps_asg (pe_tup (pa_cons (pe_ndNew cP) (pa_cons (pe_lst pa_nil) pa_nil))) (pg_tup rfl (pgs_cons (pg_name (i := 9) nd rfl (Or.inr rfl)) (pgs_cons (pg_name (i := 2) nd rfl (Or.inl rfl)) pgs_nil))))
      (pss_cons (ps_for PassesOwn.never rfl (pi_tup (pe_dget hu1 (pv 0) pe_str (fun _ _ => rfl))) (pg_name (i := 3) nd rfl (Or.inr rfl))
        (pss_one (ps_set (i := 2) nd rfl (Or.inl rfl) (pe_op op_cat (pv 2) (pe_lc (own := [("_law_near", 10)]) rfl nd (pi_tup (pe_dget hu1 (pv 0) pe_str (fun _ _ => rfl))) (blkOk_by (N := N_l_is_sole) (sc := defScope s_l_is_sole) (by decide +kernel)) (fun _ _ _ _ _ => (pg_name (i := 10) nd rfl (Or.inl rfl) (Or.inr rfl))) (fun _ _ _ _ _ => pts_nil) (fun _ _ _ _ _ => (pe_tup (pa_cons (pv 3) (pa_cons (pv 10) pa_nil)))))))))
      (pss_cons (ps_while PassesOwn.never (pt_cmpR (op_neD hu) (pv 2) (pe_lst pa_nil) (nomark _))
        (pss_cons (ps_set (i := 4) nd rfl (Or.inr rfl) (pe_bm0 PySem.F.plainAttrs_list PySem.F.slot_list_pop PySem.F.type_list_pop mt_pop (pv 2)))
        (pss_one (ps_if (pt_cmpR (op_ndNotIn hu cP) (pv 4) (pv 9) rfl) (pss_cons (ps_asg pe_bl (pg_sub (pv 9) (pv 4) (set_nd hu cP)))
          (pss_one (ps_for PassesOwn.never rfl (pi_tup (pe_dget hu1 (pv 0) pe_str (fun _ _ => rfl))) (pg_tup rfl (pgs_cons (pg_name (i := 5) nd rfl (Or.inr rfl)) (pgs_cons (pg_name (i := 6) nd rfl (Or.inr rfl)) (pgs_cons (pg_name (i := 7) nd rfl (Or.inr rfl)) pgs_nil))))
            (pss_one (ps_if (pt_cmpR op_eq (pv 7) (pe_ix ix_tup (pv 4) pe_int (fun _ _ => rfl)) (nomark _)) (pss_cons (ps_setLc (i := 8) (own := [("_law_near", 10), ("_law_mark", 11), ("_law_far", 12)]) rfl nd rfl rfl (sw_true rfl rfl rfl (by decide +kernel)) (pi_tup (pe_dget hu1 (pv 0) pe_str (fun _ _ => rfl))) (blkOk_by (N := N_l_is_sole) (sc := defScope s_l_is_sole) (by decide +kernel)) (fun _ _ _ _ _ => (show PG _ _ (gTup K 3 (gCons (gName 10) (gCons (gName 11) (gCons (gName 12) gNil)))) from pg_tup rfl (pgs_cons (pg_name (i := 10) nd rfl (Or.inl rfl) (Or.inr rfl)) (pgs_cons (pg_name (i := 11) nd rfl (Or.inl rfl) (Or.inr rfl)) (pgs_cons (pg_name (i := 12) nd rfl (Or.inl rfl) (Or.inr rfl)) pgs_nil))))) (fun _ _ _ _ _ => (pts_one (PW.pt (pw_and (pt_cmpR op_eq (pv 12) (pe_ix (show IxR _ (rIxT K) from ix_tup) (pv 4) pe_int (fun _ _ => rfl)) (nomark _)) (pw_and1 (pt_cmpR op_eq (pv 11) (pv 6) (nomark _))))))) (fun _ _ _ _ _ => (pv 10)))
              (pss_one (ps_set (i := 2) nd rfl (Or.inl rfl) (pe_op op_cat (pv 2) (pe_lc (own := [("_law_near", 10)]) rfl nd (pi_list (pv 8)) (blkOk_by (N := N_l_is_sole) (sc := defScope s_l_is_sole) (by decide +kernel)) (fun _ _ _ _ _ => (pg_name (i := 10) nd rfl (Or.inl rfl) (Or.inr rfl))) (fun _ _ _ _ _ => pts_nil) (fun _ _ _ _ _ => (pe_tup (pa_cons (pv 5) (pa_cons (pv 10) pa_nil))))))))) pss_nil))))) pss_nil))))
      (pss_one (ps_ret (pe_cmpR (op_eqD hu) (pe_lc (own := [("_law_pair", 4)]) rfl nd (pi_nd cP (pv 1)) (blkOk_by (N := N_l_is_sole) (sc := defScope s_l_is_sole) (by decide +kernel)) (fun _ _ _ _ _ => (pg_name (i := 4) nd rfl (Or.inl rfl) (Or.inr rfl))) (fun _ _ _ _ _ => (pts_one (PW.pt (pw_and (pt_cmpR op_ne (pe_ix (show IxR _ (rIxT K) from ix_tup) (pv 4) pe_int (fun _ _ => rfl)) (pe_ix (show IxR _ (rIxT K) from ix_tup) (pv 4) pe_int (fun _ _ => rfl)) (nomark _)) (pw_and1 (pt_cmpR (show OpR _ _ (rNdIn w K cP false) from (op_ndIn hu cP)) (pv 4) (pv 9) rfl)))))) (fun _ _ _ _ _ => (pv 4))) (pe_lst pa_nil) (nomark _)))))))))), ?_⟩
  have l6 := sz60
  have l24 : 2000000 < sizeLine := by decide
  have lf := asc_len ok.fs ok.fsn
  have ll := asc_len ok.ls ok.lsn
  have lD := allP_len n6
  obtain ⟨hv, tv, av, h1, h2, h3, h4⟩ := id hR
  refine fun P1 oP1 nP1 ndP1 => ⟨by show 0 ≤ sizeLine; omega, fun W0 nW0 => ⟨_, _, rfl, ?_⟩⟩
  have sP := Same.new (o := oP1) nP1
  have sW := Same.new (o := .lst []) nW0
  have s0 : Same H (upd (upd H P1 oP1) W0 (.lst [])) := sP.trans sW
  have nW0H : H W0 = none := none_of_same sP nW0
  have hW0 : upd (upd H P1 oP1) W0 (.lst []) W0 = some (.lst []) := upd_same
  have nd0 := ndP1.same sW
  have nPB := nP1
  generalize upd (upd H P1 oP1) W0 (.lst []) = H0 at s0 hW0 nd0
  -- phase 1
  obtain ⟨aS, xs, rfl, hs, da⟩ := h2.tuple
  have lx : xs.length = R.fs.length := by rw [da.length, List.length_map]
  refine ⟨_, rfl, d, _, rfl, .inl ⟨_, Sum.inr "heads", .inl (s0 _ _ h1), rfl, rfl⟩, aS, rfl, ⟨_, SqT.tle s0.tle hs⟩, ?_⟩
  refine for_it (walk_tup (xs := xs)) (fun i σ H' => Same H H' ∧ ∃ (W : Addr) (ys : List V) (o3 : Option V), H W = none ∧ H' W = some (.lst ys) ∧ DtAll K H' ys (((R.fs.take i).flatMap fun p => R.fs.map fun q => (p, q)).map eP) ∧ ND w K H' cP P1 [] ∧ σ = [some (.ref d), some (.ref P1), some (.ref W), o3, none, none, none, none, none, none, none, none, none])
    ⟨s0, W0, [], _, nW0H, hW0, .nil, nd0, rfl⟩ (fun i σ H' _ h => SqT.tle h.1.tle hs) (fun i x σ H2 H3 hi ⟨s2, W, ys, o3, nW, hW, dW, ndW, eσ⟩ y => ?_) fun σ H2 ⟨s2, W, ys, o3, nW, hW, dW, ndW, eσ⟩ => ?_
  · obtain ⟨rfl, hx⟩ := y
    subst eσ
    obtain ⟨dd, hd1, hd2⟩ := da.get' hx
    rw [List.getElem?_map] at hd1
    obtain ⟨z, hz, rfl⟩ := Option.map_eq_some_iff.mp hd1
    cases hd2
    refine ⟨_, rfl, _, rfl, d, _, rfl, .inl ⟨_, Sum.inr "heads", .inl (s2 _ _ h1), rfl, rfl⟩, aS, rfl, ⟨_, SqT.tle s2.tle hs⟩, fun D nD => ?_⟩
    refine comp_it (walk_tup (xs := xs)) grows_at R.fs lx.symm (by omega) (fun _ => true) (fun b y H => Dt K H y (eP (z, b))) (fun l y H H' k h => h.to k) nD (fun H' sm => SqT.tle (s2.trans sm).tle hs) (fun j x b H' H6 hb sm y => ?_) fun us H6 sm hu pu => ?_
    · obtain ⟨rfl, hx⟩ := y
      obtain ⟨dd, hd1, hd2⟩ := da.get' hx
      rw [List.getElem?_map, hb] at hd1
      obtain rfl := Option.some.inj hd1
      cases hd2
      exact turn_name rfl fun C c2 => ⟨_, rfl, _, rfl, by show 2 ≤ sizeLine; omega, fun t nt => c2 _ _ (Same.new nt) (Dt.ofPrs (a := (z, b)) (SqT.of upd_same))⟩
    rw [filt] at pu
    have pd := DtAll.of (K := K) (fun b : Nat => eP (z, b)) pu
    have lu : us.length = R.fs.length := by rw [pd.length, List.length_map]
    have ly : ys.length = (R.fs.take i).length * R.fs.length := by rw [dW.length, List.length_map, pairs_len]
    have ly2 : (R.fs.take i).length * R.fs.length ≤ 6 * 6 := Nat.mul_le_mul (by rw [List.length_take]; omega) (by omega)
    refine ⟨W, D, ys, us, rfl, rfl, sm _ _ hW, hu, by omega, fun G nG => ?_⟩
    have sG := Same.new (o := .lst (ys ++ us)) nG
    refine ⟨(s2.trans sm).trans sG, G, ys ++ us, _, none_of_same (s2.trans sm) nG, upd_same, ?_, (ndW.same sm).same sG, rfl⟩
    rw [flatMap_take hz, List.map_append]
    refine ((dW.same sm).same sG).append ?_
    rw [List.map_map]; exact pd.same sG
  subst eσ
  rw [lx, List.take_length] at dW
  have wk0 : Wk R (fun a : Arr => a.1) (fun a : Arr => a.2.2) R.fs ([] : List ((Nat × Nat) × V)) (R.fs.flatMap fun p => R.fs.map fun q => (p, q)) :=
    ⟨fun p hp q hq => .inr (List.mem_flatMap.mpr ⟨p, hp, List.mem_map.mpr ⟨q, hq, rfl⟩⟩), (fun a _ b _ _ z => absurd rfl z), fun k hk => by
      obtain ⟨p, hp, h2⟩ := List.mem_flatMap.mp hk
      obtain ⟨q, hq, rfl⟩ := List.mem_map.mp h2
      exact ⟨ok.fsn p hp, ok.fsn q hq⟩⟩
  have lks0 : (R.fs.flatMap fun p => R.fs.map fun q => (p, q)).length ≤ 6 * 6 := by rw [pairs_len]; exact Nat.mul_le_mul (by omega) (by omega)
  generalize (R.fs.flatMap fun p => R.fs.map fun q => (p, q)) = ks0 at dW wk0 lks0
  obtain ⟨pl, ls_, rfl, hls, dls⟩ := h4.tuple
  have lls : ls_.length = R.ar.length := by rw [dls.length, List.length_map]
  have m0 := missK_le (allP R.n) ([] : List ((Nat × Nat) × V))
  refine ⟨fun m σ H' => ∃ (W : Addr) (ys : List V) (ks : List (Nat × Nat)) (kvs : List ((Nat × Nat) × V)) (o3 o4 o5 o6 o7 o8 : Option V), σ = [some (.ref d), some (.ref P1), some (.ref W), o3, o4, o5, o6, o7, o8, none, none, none, none] ∧ Same H H' ∧ H W = none ∧ H' W = some (.lst ys) ∧ DtAll K H' ys (ks.map eP) ∧ ND w K H' cP P1 kvs ∧ Wk R (fun a : Arr => a.1) (fun a : Arr => a.2.2) R.fs kvs ks ∧ kvs.length + missK (allP R.n) kvs ≤ 36 ∧ m = ks.length + 40001 * missK (allP R.n) kvs ∧ m ≤ 1500000,
    ⟨_, W, ys, ks0, [], o3, none, none, none, none, none, rfl, s2, nW, hW, dW, ndW, wk0, by simp; omega, rfl, by omega⟩, ?_⟩
  rintro m σ H3 ⟨W, ys, ks, kvs, o3, o4, o5, o6, o7, o8, rfl, s3, nW, hW, dW, ndW, wk, lm, rfl, mb⟩
  refine ⟨_, rfl, by show 0 ≤ sizeLine; omega, fun e0 ne0 => ?_⟩
  have se : Same H3 (upd H3 e0 (.lst [])) := Same.new ne0
  refine ⟨.list (ks.map eP), .list [], .lst (SqL.of (se _ _ hW)) (dW.same se).dps, .lst (SqL.of upd_same) .nil, shaped_map eP_ok ks, rfl, ?_⟩
  rw [eqv_nil]
  refine ⟨_, rfl, ?_⟩
  by_cases hks : ∃ ks' k, ks = ks' ++ [k]
  · obtain ⟨ks, k, rfl⟩ := hks
    rw [show (!(ks ++ [k]).isEmpty) = true by simp]
    refine iteT ⟨_, fun σ' H' hN => hN, ?_⟩
    have hWe := se _ _ hW
    have de := dW.same se
    rw [List.map_append] at de
    obtain ⟨y, hy, dl, dy⟩ := DtAll.pop de
    refine ⟨_, rfl, .inl ⟨rfl, _, SqL.of hWe⟩, W, ys, y, rfl, rfl, hWe, hy, ?_⟩
    have tP : TLe (upd H3 e0 (.lst [])) (upd (upd H3 e0 (.lst [])) W (.lst ys.dropLast)) := TLe.lst hWe
    have s4 : Same H (upd (upd H3 e0 (.lst [])) W (.lst ys.dropLast)) := (s3.trans se).put nW
    have dl := dl.to tP
    have dy := dy.to tP
    have WP : W ≠ P1 := by
      obtain ⟨φ, qf⟩ := ndW.at
      intro z; subst z; rw [hW] at qf; cases qf
    have nd4 := (ndW.same se).to tP (upd_ne (Ne.symm WP))
    have hW4 : upd (upd H3 e0 (.lst [])) W (.lst ys.dropLast) W = some (.lst ys.dropLast) := upd_same
    generalize upd (upd H3 e0 (.lst [])) W (.lst ys.dropLast) = H4 at tP s4 dl dy nd4 hW4
    generalize ys.dropLast = zs at dl hW4
    obtain ⟨ta, rfl, hta⟩ := dy.prs
    have lk : (ks ++ [k]).length = ks.length + 1 := by simp
    refine ⟨_, rfl, _, rfl, k, P1, kvs, dy, rfl, nd4, _, rfl, ?_⟩
    cases hv : valV kvs k with
    | some v => exact iteF ⟨_, by omega, W, zs, ks, kvs, _, _, _, _, _, _, rfl, s4, nW, hW4, dl, nd4, wk.skip (show valV kvs k ≠ none by rw [hv]; nofun), lm, rfl, by omega⟩
    | none =>
      refine iteT ?_
      refine ⟨_, rfl, _, rfl, k, P1, kvs, dy, rfl, nd4, by omega, fun o' hn => ?_⟩
      have t5 : TLe H4 (upd H4 P1 o') := nd4.tle
      have s5 : Same H (upd H4 P1 o') := s4.put nPB
      have hW5 : upd H4 P1 o' W = some (.lst zs) := by rw [upd_ne WP]; exact hW4
      have dl := dl.to t5
      have hta := SqT.tle t5 hta
      have kD : k ∈ allP R.n := allP_mem (wk.rng k (by simp))
      have mp := missK_put (v := V.bl true) kD hv
      have lp := length_putK kvs k (V.bl true)
      generalize upd H4 P1 o' = H5 at hn t5 s5 hW5 dl hta
      refine ⟨_, rfl, d, _, rfl, .inl ⟨_, Sum.inr "links", .inl (s5 _ _ h1), rfl, rfl⟩, pl, rfl, ⟨_, SqT.tle s5.tle hls⟩, ?_⟩
      refine for_it (walk_tup (xs := ls_)) (fun i σ H' => Same H H' ∧ ∃ (W : Addr) (zs : List V) (o5 o6 o7 o8 : Option V), H W = none ∧ H' W = some (.lst zs) ∧ DtAll K H' zs ((ks ++ pushes R (fun a : Arr => a.1) (fun a : Arr => a.2.2) k (R.ar.take i)).map eP) ∧ ND w K H' cP P1 (putK kvs k (V.bl true)) ∧ SqT K H' ta [.int (k.1 : Int), .int (k.2 : Int)] ∧ σ = [some (.ref d), some (.ref P1), some (.ref W), o3, some (.ref ta), o5, o6, o7, o8, none, none, none, none])
        ⟨s5, W, zs, _, _, _, _, nW, hW5, by simpa [pushes] using dl, hn, hta, rfl⟩ (fun i σ H' _ h => SqT.tle h.1.tle hls) (fun i x σ H6 H7 hi ⟨s6, W, zs, o5, o6, o7, o8, nW, hW6, dl, nd6, hta, eσ⟩ y => ?_) fun σ H6 ⟨s6, W, zs, o5, o6, o7, o8, nW, hW6, dl, nd6, hta, eσ⟩ => ?_
      · obtain ⟨rfl, hx⟩ := y
        subst eσ
        obtain ⟨dd, hd1, hd2⟩ := dls.get' hx
        rw [List.getElem?_map] at hd1
        obtain ⟨z, hz, rfl⟩ := Option.map_eq_some_iff.mp hd1
        obtain ⟨tz, rfl, htz⟩ := (hd2.same s6).arr
        refine tg3 htz ⟨_, rfl, _, rfl, ta, _, _, _, rfl, rfl, hta, rfl, rfl, _, rfl, ?_⟩
        by_cases hk1 : z.1 = k.1
        · rw [show decide (V.int (z.1 : Int) = V.int (k.1 : Int)) = true from decide_eq_true (by rw [hk1])]
          refine iteT ⟨_, rfl, d, _, rfl, .inl ⟨_, Sum.inr "links", .inl (s6 _ _ h1), rfl, rfl⟩, pl, rfl, ⟨_, SqT.tle s6.tle hls⟩, fun D nD => ?_⟩
          refine comp_it (walk_tup (xs := ls_)) grows_at R.ar lls.symm (by omega) (fun b => decide (b.1 = k.2) && decide (b.2.1 = z.2.1)) (fun b y _ => y = .int (b.2.2 : Int)) (fun l y H H' k h => h) nD (fun H' sm => SqT.tle (s6.trans sm).tle hls) (fun j x b H' H8 hb sm y => ?_) fun us H8 sm hu pu => ?_
          · obtain ⟨rfl, hx⟩ := y
            obtain ⟨dd, hd1, hd2⟩ := dls.get' hx
            rw [List.getElem?_map, hb] at hd1
            obtain rfl := Option.some.inj hd1
            obtain ⟨tb, rfl, htb⟩ := (hd2.same (s6.trans sm)).arr
            refine turn_3T htb rfl fun C1 C2 c1 c2 => ⟨_, rfl, _, rfl, ta, _, _, _, rfl, rfl, SqT.tle sm.tle hta, rfl, rfl, _, rfl, ?_⟩
            by_cases hk2 : b.1 = k.2
            · rw [show decide (V.int (b.1 : Int) = V.int (k.2 : Int)) = true from decide_eq_true (by rw [hk2])]
              refine iteT ⟨_, rfl, _, rfl, rfl, _, rfl, ?_⟩
              by_cases hs2 : b.2.1 = z.2.1
              · rw [show decide (V.str (sg b.2.1) = V.str (sg z.2.1)) = true from decide_eq_true (sg_eq.mpr hs2)]
                exact iteT ⟨_, rfl, c2 (by simp [hk2, hs2]) _ _ (Same.refl _) rfl⟩
              · rw [show decide (V.str (sg b.2.1) = V.str (sg z.2.1)) = false from decide_eq_false fun h => hs2 (sg_eq.mp h)]
                exact iteF (c1 (by simp [hs2]) _ (Same.refl _))
            · rw [show decide (V.int (b.1 : Int) = V.int (k.2 : Int)) = false from decide_eq_false fun h => hk2 (by injection h with h; omega)]
              exact iteF (c1 (by simp [hk2]) _ (Same.refl _))
          have eu := ints_of (f := fun b : Arr => (b.2.2 : Int)) pu
          have eP1 : push R (fun a : Arr => a.1) (fun a : Arr => a.2.2) k.2 z = (R.ar.filter fun b => decide (b.1 = k.2) && decide (b.2.1 = z.2.1)).map fun b => (z.2.2, b.2.2) := rfl
          have lpu : (R.ar.filter fun b => decide (b.1 = k.2) && decide (b.2.1 = z.2.1)).length ≤ 200 := Nat.le_trans (List.length_filter_le ..) la
          generalize (R.ar.filter fun b => decide (b.1 = k.2) && decide (b.2.1 = z.2.1)) = ms at eu eP1 lpu
          subst eu
          refine ⟨_, rfl, _, rfl, D, rfl, ⟨_, SqL.of hu⟩, fun D2 nD2 => ?_⟩
          refine comp_it (walk_list (xs := (ms.map fun b => (b.2.2 : Int)).map V.int)) grows_at ms (by simp) (by rw [List.length_map, List.length_map]; omega) (fun _ => true) (fun b y H => Dt K H y (eP (z.2.2, b.2.2))) (fun l y H H' k h => h.to k) nD2 (fun H' sm => SqL.of (sm _ _ hu)) (fun j x b H' H9 hb sm y => ?_) fun us H9 sm9 hu9 pu => ?_
          · obtain ⟨rfl, hx⟩ := y
            rw [List.getElem?_map, List.getElem?_map, hb] at hx
            obtain rfl := Option.some.inj hx
            exact turn_name rfl fun C c2 => ⟨_, rfl, _, rfl, by show 2 ≤ sizeLine; omega, fun t nt => c2 _ _ (Same.new nt) (Dt.ofPrs (a := (z.2.2, b.2.2)) (SqT.of upd_same))⟩
          rw [filt] at pu
          have pd := DtAll.of (K := K) (fun b : Arr => eP (z.2.2, b.2.2)) pu
          have lu : us.length = ms.length := by rw [pd.length, List.length_map]
          have lz := dl.length
          rw [List.length_map, List.length_append] at lz
          have lpz := pushes_len R (fun a : Arr => a.1) (fun a : Arr => a.2.2) k (R.ar.take i)
          have lpz2 : (R.ar.take i).length * R.ar.length ≤ 200 * 200 := Nat.mul_le_mul (by rw [List.length_take]; omega) la
          refine ⟨W, D2, zs, us, rfl, rfl, sm9 _ _ (sm _ _ hW6), hu9, by omega, fun G nG => ?_⟩
          have sG := Same.new (o := .lst (zs ++ us)) nG
          have sA := (sm.trans sm9).trans sG
          refine ⟨s6.trans sA, G, zs ++ us, _, _, _, _, none_of_same (s6.trans (sm.trans sm9)) nG, upd_same, ?_, nd6.same sA, SqT.tle sA.tle hta, rfl⟩
          rw [pushes_snoc hz, if_pos hk1, ← List.append_assoc, List.map_append, eP1]
          refine (dl.same sA).append ?_
          rw [List.map_map]; exact pd.same sG
        · rw [show decide (V.int (z.1 : Int) = V.int (k.1 : Int)) = false from decide_eq_false fun h => hk1 (by injection h with h; omega)]
          refine iteF ⟨s6, W, zs, _, _, _, _, nW, hW6, ?_, nd6, hta, rfl⟩
          rw [pushes_snoc hz, if_neg hk1, List.append_nil]
          exact dl
      · subst eσ
        rw [lls, List.take_length] at dl
        have lpz := pushes_len R (fun a : Arr => a.1) (fun a : Arr => a.2.2) k R.ar
        have lpz2 : R.ar.length * R.ar.length ≤ 200 * 200 := Nat.mul_le_mul la la
        have ln : (ks ++ pushes R (fun a : Arr => a.1) (fun a : Arr => a.2.2) k R.ar).length = ks.length + (pushes R (fun a : Arr => a.1) (fun a : Arr => a.2.2) k R.ar).length := by simp
        refine ⟨_, ?_, W, zs, ks ++ pushes R (fun a : Arr => a.1) (fun a : Arr => a.2.2) k R.ar, _, _, _, _, _, _, _, rfl, s6, nW, hW6, dl, nd6, wk.add (fun j hj => List.mem_append_left _ hj) (fun j hj => ?_) (fun a ha b hb e e1 e2 => List.mem_append_right _ (pushes_all ha hb e e1 e2)), by omega, rfl, by omega⟩
        · omega
        · rcases List.mem_append.mp hj with z | z
          · exact wk.rng j (List.mem_append_left _ z)
          · exact pushes_rng (fun a ha => (ok.arn a ha).2.2) (fun a ha => ha) j z
  have hk0 : ks = [] := by
    rcases List.eq_nil_or_concat ks with z | ⟨a, b, z⟩
    · exact z
    · exact absurd ⟨a, b, by rw [z, List.concat_eq_append]⟩ hks
  subst hk0
  rw [show (!([] : List (Nat × Nat)).isEmpty) = false from rfl]
  refine iteF ?_
  have s1b := s3.trans se
  obtain ⟨kvs1, wk1, nd1, lm1⟩ : ∃ kvs1, Wk R (fun a : Arr => a.1) (fun a : Arr => a.2.2) R.fs kvs1 [] ∧ ND w K (upd H3 e0 (.lst [])) cP P1 kvs1 ∧ kvs1.length + missK (allP R.n) kvs1 ≤ 36 := ⟨kvs, wk, ndW.same se, lm⟩
  have h1 := s1b _ _ h1
  have h3 := h3.same s1b
  have hls := SqT.tle s1b.tle hls
  have dls := dls.same s1b
  generalize upd H3 e0 (.lst []) = Hb at s1b nd1 h1 h3 hls dls
  clear s3 se ndW dW hW nW hks wk lm mb ne0 nPB
  refine fun P2 oP2 nP2 ndP2 => ⟨by show 0 ≤ sizeLine; omega, fun W0 nW0 => ⟨by show 2 ≤ sizeLine; omega, fun t nt => ⟨t, _, rfl, SqT.of upd_same, rfl, _, _, rfl, _, _, rfl, rfl, ?_⟩⟩⟩
  have sP := Same.new (o := oP2) nP2
  have sW := Same.new (o := .lst []) nW0
  have sT := Same.new (o := .tup [.ref P2, .ref W0]) nt
  have s0 := (sP.trans sW).trans sT
  have nW0H : Hb W0 = none := none_of_same sP nW0
  have hW0 := sT _ _ (upd_same (H := upd Hb P2 oP2) (a := W0) (o := .lst []))
  have nd0 := (ndP2.same sW).same sT
  have nPB := nP2
  generalize upd (upd (upd Hb P2 oP2) W0 (.lst [])) t (.tup [.ref P2, .ref W0]) = H0 at s0 hW0 nd0
  -- phase 2
  obtain ⟨aS, xs, rfl, hs, da⟩ := h3.tuple
  have lx : xs.length = R.ls.length := by rw [da.length, List.length_map]
  refine ⟨_, rfl, d, _, rfl, .inl ⟨_, Sum.inr "tails", .inl (s0 _ _ h1), rfl, rfl⟩, aS, rfl, ⟨_, SqT.tle s0.tle hs⟩, ?_⟩
  refine for_it (walk_tup (xs := xs)) (fun i σ H' => Same Hb H' ∧ ∃ (W : Addr) (ys : List V) (o3 : Option V), Hb W = none ∧ H' W = some (.lst ys) ∧ DtAll K H' ys (((R.ls.take i).flatMap fun p => R.ls.map fun q => (p, q)).map eP) ∧ ND w K H' cP P2 [] ∧ σ = [some (.ref d), some (.ref P1), some (.ref W), o3, o4, o5, o6, o7, o8, some (.ref P2), none, none, none])
    ⟨s0, W0, [], _, nW0H, hW0, .nil, nd0, rfl⟩ (fun i σ H' _ h => SqT.tle h.1.tle hs) (fun i x σ H2 H3 hi ⟨s2, W, ys, o3, nW, hW, dW, ndW, eσ⟩ y => ?_) fun σ H2 ⟨s2, W, ys, o3, nW, hW, dW, ndW, eσ⟩ => ?_
  · obtain ⟨rfl, hx⟩ := y
    subst eσ
    obtain ⟨dd, hd1, hd2⟩ := da.get' hx
    rw [List.getElem?_map] at hd1
    obtain ⟨z, hz, rfl⟩ := Option.map_eq_some_iff.mp hd1
    cases hd2
    refine ⟨_, rfl, _, rfl, d, _, rfl, .inl ⟨_, Sum.inr "tails", .inl (s2 _ _ h1), rfl, rfl⟩, aS, rfl, ⟨_, SqT.tle s2.tle hs⟩, fun D nD => ?_⟩
    refine comp_it (walk_tup (xs := xs)) grows_at R.ls lx.symm (by omega) (fun _ => true) (fun b y H => Dt K H y (eP (z, b))) (fun l y H H' k h => h.to k) nD (fun H' sm => SqT.tle (s2.trans sm).tle hs) (fun j x b H' H6 hb sm y => ?_) fun us H6 sm hu pu => ?_
    · obtain ⟨rfl, hx⟩ := y
      obtain ⟨dd, hd1, hd2⟩ := da.get' hx
      rw [List.getElem?_map, hb] at hd1
      obtain rfl := Option.some.inj hd1
      cases hd2
      exact turn_name rfl fun C c2 => ⟨_, rfl, _, rfl, by show 2 ≤ sizeLine; omega, fun t nt => c2 _ _ (Same.new nt) (Dt.ofPrs (a := (z, b)) (SqT.of upd_same))⟩
    rw [filt] at pu
    have pd := DtAll.of (K := K) (fun b : Nat => eP (z, b)) pu
    have lu : us.length = R.ls.length := by rw [pd.length, List.length_map]
    have ly : ys.length = (R.ls.take i).length * R.ls.length := by rw [dW.length, List.length_map, pairs_len]
    have ly2 : (R.ls.take i).length * R.ls.length ≤ 6 * 6 := Nat.mul_le_mul (by rw [List.length_take]; omega) (by omega)
    refine ⟨W, D, ys, us, rfl, rfl, sm _ _ hW, hu, by omega, fun G nG => ?_⟩
    have sG := Same.new (o := .lst (ys ++ us)) nG
    refine ⟨(s2.trans sm).trans sG, G, ys ++ us, _, none_of_same (s2.trans sm) nG, upd_same, ?_, (ndW.same sm).same sG, rfl⟩
    rw [flatMap_take hz, List.map_append]
    refine ((dW.same sm).same sG).append ?_
    rw [List.map_map]; exact pd.same sG
  subst eσ
  rw [lx, List.take_length] at dW
  have wk0 : Wk R (fun a : Arr => a.2.2) (fun a : Arr => a.1) R.ls ([] : List ((Nat × Nat) × V)) (R.ls.flatMap fun p => R.ls.map fun q => (p, q)) :=
    ⟨fun p hp q hq => .inr (List.mem_flatMap.mpr ⟨p, hp, List.mem_map.mpr ⟨q, hq, rfl⟩⟩), (fun a _ b _ _ z => absurd rfl z), fun k hk => by
      obtain ⟨p, hp, h2⟩ := List.mem_flatMap.mp hk
      obtain ⟨q, hq, rfl⟩ := List.mem_map.mp h2
      exact ⟨ok.lsn p hp, ok.lsn q hq⟩⟩
  have lks0 : (R.ls.flatMap fun p => R.ls.map fun q => (p, q)).length ≤ 6 * 6 := by rw [pairs_len]; exact Nat.mul_le_mul (by omega) (by omega)
  generalize (R.ls.flatMap fun p => R.ls.map fun q => (p, q)) = ks0 at dW wk0 lks0
  have m0 := missK_le (allP R.n) ([] : List ((Nat × Nat) × V))
  refine ⟨fun m σ H' => ∃ (W : Addr) (ys : List V) (ks : List (Nat × Nat)) (kvs : List ((Nat × Nat) × V)) (o3 o4 o5 o6 o7 o8 : Option V), σ = [some (.ref d), some (.ref P1), some (.ref W), o3, o4, o5, o6, o7, o8, some (.ref P2), none, none, none] ∧ Same Hb H' ∧ Hb W = none ∧ H' W = some (.lst ys) ∧ DtAll K H' ys (ks.map eP) ∧ ND w K H' cP P2 kvs ∧ Wk R (fun a : Arr => a.2.2) (fun a : Arr => a.1) R.ls kvs ks ∧ kvs.length + missK (allP R.n) kvs ≤ 36 ∧ m = ks.length + 40001 * missK (allP R.n) kvs ∧ m ≤ 1500000,
    ⟨_, W, ys, ks0, [], o3, o4, o5, o6, o7, o8, rfl, s2, nW, hW, dW, ndW, wk0, by simp; omega, rfl, by omega⟩, ?_⟩
  rintro m σ H3 ⟨W, ys, ks, kvs, o3, o4, o5, o6, o7, o8, rfl, s3, nW, hW, dW, ndW, wk, lm, rfl, mb⟩
  refine ⟨_, rfl, by show 0 ≤ sizeLine; omega, fun e0 ne0 => ?_⟩
  have se : Same H3 (upd H3 e0 (.lst [])) := Same.new ne0
  refine ⟨.list (ks.map eP), .list [], .lst (SqL.of (se _ _ hW)) (dW.same se).dps, .lst (SqL.of upd_same) .nil, shaped_map eP_ok ks, rfl, ?_⟩
  rw [eqv_nil]
  refine ⟨_, rfl, ?_⟩
  by_cases hks : ∃ ks' k, ks = ks' ++ [k]
  · obtain ⟨ks, k, rfl⟩ := hks
    rw [show (!(ks ++ [k]).isEmpty) = true by simp]
    refine iteT ⟨_, fun σ' H' hN => hN, ?_⟩
    have hWe := se _ _ hW
    have de := dW.same se
    rw [List.map_append] at de
    obtain ⟨y, hy, dl, dy⟩ := DtAll.pop de
    refine ⟨_, rfl, .inl ⟨rfl, _, SqL.of hWe⟩, W, ys, y, rfl, rfl, hWe, hy, ?_⟩
    have tP : TLe (upd H3 e0 (.lst [])) (upd (upd H3 e0 (.lst [])) W (.lst ys.dropLast)) := TLe.lst hWe
    have s4 : Same Hb (upd (upd H3 e0 (.lst [])) W (.lst ys.dropLast)) := (s3.trans se).put nW
    have dl := dl.to tP
    have dy := dy.to tP
    have WP : W ≠ P2 := by
      obtain ⟨φ, qf⟩ := ndW.at
      intro z; subst z; rw [hW] at qf; cases qf
    have nd4 := (ndW.same se).to tP (upd_ne (Ne.symm WP))
    have hW4 : upd (upd H3 e0 (.lst [])) W (.lst ys.dropLast) W = some (.lst ys.dropLast) := upd_same
    generalize upd (upd H3 e0 (.lst [])) W (.lst ys.dropLast) = H4 at tP s4 dl dy nd4 hW4
    generalize ys.dropLast = zs at dl hW4
    obtain ⟨ta, rfl, hta⟩ := dy.prs
    have lk : (ks ++ [k]).length = ks.length + 1 := by simp
    refine ⟨_, rfl, _, rfl, k, P2, kvs, dy, rfl, nd4, _, rfl, ?_⟩
    cases hv : valV kvs k with
    | some v => exact iteF ⟨_, by omega, W, zs, ks, kvs, _, _, _, _, _, _, rfl, s4, nW, hW4, dl, nd4, wk.skip (show valV kvs k ≠ none by rw [hv]; nofun), lm, rfl, by omega⟩
    | none =>
      refine iteT ?_
      refine ⟨_, rfl, _, rfl, k, P2, kvs, dy, rfl, nd4, by omega, fun o' hn => ?_⟩
      have t5 : TLe H4 (upd H4 P2 o') := nd4.tle
      have s5 : Same Hb (upd H4 P2 o') := s4.put nPB
      have hW5 : upd H4 P2 o' W = some (.lst zs) := by rw [upd_ne WP]; exact hW4
      have dl := dl.to t5
      have hta := SqT.tle t5 hta
      have kD : k ∈ allP R.n := allP_mem (wk.rng k (by simp))
      have mp := missK_put (v := V.bl true) kD hv
      have lp := length_putK kvs k (V.bl true)
      generalize upd H4 P2 o' = H5 at hn t5 s5 hW5 dl hta
      refine ⟨_, rfl, d, _, rfl, .inl ⟨_, Sum.inr "links", .inl (s5 _ _ h1), rfl, rfl⟩, pl, rfl, ⟨_, SqT.tle s5.tle hls⟩, ?_⟩
      refine for_it (walk_tup (xs := ls_)) (fun i σ H' => Same Hb H' ∧ ∃ (W : Addr) (zs : List V) (o5 o6 o7 o8 : Option V), Hb W = none ∧ H' W = some (.lst zs) ∧ DtAll K H' zs ((ks ++ pushes R (fun a : Arr => a.2.2) (fun a : Arr => a.1) k (R.ar.take i)).map eP) ∧ ND w K H' cP P2 (putK kvs k (V.bl true)) ∧ SqT K H' ta [.int (k.1 : Int), .int (k.2 : Int)] ∧ σ = [some (.ref d), some (.ref P1), some (.ref W), o3, some (.ref ta), o5, o6, o7, o8, some (.ref P2), none, none, none])
        ⟨s5, W, zs, _, _, _, _, nW, hW5, by simpa [pushes] using dl, hn, hta, rfl⟩ (fun i σ H' _ h => SqT.tle h.1.tle hls) (fun i x σ H6 H7 hi ⟨s6, W, zs, o5, o6, o7, o8, nW, hW6, dl, nd6, hta, eσ⟩ y => ?_) fun σ H6 ⟨s6, W, zs, o5, o6, o7, o8, nW, hW6, dl, nd6, hta, eσ⟩ => ?_
      · obtain ⟨rfl, hx⟩ := y
        subst eσ
        obtain ⟨dd, hd1, hd2⟩ := dls.get' hx
        rw [List.getElem?_map] at hd1
        obtain ⟨z, hz, rfl⟩ := Option.map_eq_some_iff.mp hd1
        obtain ⟨tz, rfl, htz⟩ := (hd2.same s6).arr
        refine tg3 htz ⟨_, rfl, _, rfl, ta, _, _, _, rfl, rfl, hta, rfl, rfl, _, rfl, ?_⟩
        by_cases hk1 : z.2.2 = k.1
        · rw [show decide (V.int (z.2.2 : Int) = V.int (k.1 : Int)) = true from decide_eq_true (by rw [hk1])]
          refine iteT ⟨_, rfl, d, _, rfl, .inl ⟨_, Sum.inr "links", .inl (s6 _ _ h1), rfl, rfl⟩, pl, rfl, ⟨_, SqT.tle s6.tle hls⟩, fun D nD => ?_⟩
          refine comp_it (walk_tup (xs := ls_)) grows_at R.ar lls.symm (by omega) (fun b => decide (b.2.2 = k.2) && decide (b.2.1 = z.2.1)) (fun b y _ => y = .int (b.1 : Int)) (fun l y H H' k h => h) nD (fun H' sm => SqT.tle (s6.trans sm).tle hls) (fun j x b H' H8 hb sm y => ?_) fun us H8 sm hu pu => ?_
          · obtain ⟨rfl, hx⟩ := y
            obtain ⟨dd, hd1, hd2⟩ := dls.get' hx
            rw [List.getElem?_map, hb] at hd1
            obtain rfl := Option.some.inj hd1
            obtain ⟨tb, rfl, htb⟩ := (hd2.same (s6.trans sm)).arr
            refine turn_3T htb rfl fun C1 C2 c1 c2 => ⟨_, rfl, _, rfl, ta, _, _, _, rfl, rfl, SqT.tle sm.tle hta, rfl, rfl, _, rfl, ?_⟩
            by_cases hk2 : b.2.2 = k.2
            · rw [show decide (V.int (b.2.2 : Int) = V.int (k.2 : Int)) = true from decide_eq_true (by rw [hk2])]
              refine iteT ⟨_, rfl, _, rfl, rfl, _, rfl, ?_⟩
              by_cases hs2 : b.2.1 = z.2.1
              · rw [show decide (V.str (sg b.2.1) = V.str (sg z.2.1)) = true from decide_eq_true (sg_eq.mpr hs2)]
                exact iteT ⟨_, rfl, c2 (by simp [hk2, hs2]) _ _ (Same.refl _) rfl⟩
              · rw [show decide (V.str (sg b.2.1) = V.str (sg z.2.1)) = false from decide_eq_false fun h => hs2 (sg_eq.mp h)]
                exact iteF (c1 (by simp [hs2]) _ (Same.refl _))
            · rw [show decide (V.int (b.2.2 : Int) = V.int (k.2 : Int)) = false from decide_eq_false fun h => hk2 (by injection h with h; omega)]
              exact iteF (c1 (by simp [hk2]) _ (Same.refl _))
          have eu := ints_of (f := fun b : Arr => (b.1 : Int)) pu
          have eP1 : push R (fun a : Arr => a.2.2) (fun a : Arr => a.1) k.2 z = (R.ar.filter fun b => decide (b.2.2 = k.2) && decide (b.2.1 = z.2.1)).map fun b => (z.1, b.1) := rfl
          have lpu : (R.ar.filter fun b => decide (b.2.2 = k.2) && decide (b.2.1 = z.2.1)).length ≤ 200 := Nat.le_trans (List.length_filter_le ..) la
          generalize (R.ar.filter fun b => decide (b.2.2 = k.2) && decide (b.2.1 = z.2.1)) = ms at eu eP1 lpu
          subst eu
          refine ⟨_, rfl, _, rfl, D, rfl, ⟨_, SqL.of hu⟩, fun D2 nD2 => ?_⟩
          refine comp_it (walk_list (xs := (ms.map fun b => (b.1 : Int)).map V.int)) grows_at ms (by simp) (by rw [List.length_map, List.length_map]; omega) (fun _ => true) (fun b y H => Dt K H y (eP (z.1, b.1))) (fun l y H H' k h => h.to k) nD2 (fun H' sm => SqL.of (sm _ _ hu)) (fun j x b H' H9 hb sm y => ?_) fun us H9 sm9 hu9 pu => ?_
          · obtain ⟨rfl, hx⟩ := y
            rw [List.getElem?_map, List.getElem?_map, hb] at hx
            obtain rfl := Option.some.inj hx
            exact turn_name rfl fun C c2 => ⟨_, rfl, _, rfl, by show 2 ≤ sizeLine; omega, fun t nt => c2 _ _ (Same.new nt) (Dt.ofPrs (a := (z.1, b.1)) (SqT.of upd_same))⟩
          rw [filt] at pu
          have pd := DtAll.of (K := K) (fun b : Arr => eP (z.1, b.1)) pu
          have lu : us.length = ms.length := by rw [pd.length, List.length_map]
          have lz := dl.length
          rw [List.length_map, List.length_append] at lz
          have lpz := pushes_len R (fun a : Arr => a.2.2) (fun a : Arr => a.1) k (R.ar.take i)
          have lpz2 : (R.ar.take i).length * R.ar.length ≤ 200 * 200 := Nat.mul_le_mul (by rw [List.length_take]; omega) la
          refine ⟨W, D2, zs, us, rfl, rfl, sm9 _ _ (sm _ _ hW6), hu9, by omega, fun G nG => ?_⟩
          have sG := Same.new (o := .lst (zs ++ us)) nG
          have sA := (sm.trans sm9).trans sG
          refine ⟨s6.trans sA, G, zs ++ us, _, _, _, _, none_of_same (s6.trans (sm.trans sm9)) nG, upd_same, ?_, nd6.same sA, SqT.tle sA.tle hta, rfl⟩
          rw [pushes_snoc hz, if_pos hk1, ← List.append_assoc, List.map_append, eP1]
          refine (dl.same sA).append ?_
          rw [List.map_map]; exact pd.same sG
        · rw [show decide (V.int (z.2.2 : Int) = V.int (k.1 : Int)) = false from decide_eq_false fun h => hk1 (by injection h with h; omega)]
          refine iteF ⟨s6, W, zs, _, _, _, _, nW, hW6, ?_, nd6, hta, rfl⟩
          rw [pushes_snoc hz, if_neg hk1, List.append_nil]
          exact dl
      · subst eσ
        rw [lls, List.take_length] at dl
        have lpz := pushes_len R (fun a : Arr => a.2.2) (fun a : Arr => a.1) k R.ar
        have lpz2 : R.ar.length * R.ar.length ≤ 200 * 200 := Nat.mul_le_mul la la
        have ln : (ks ++ pushes R (fun a : Arr => a.2.2) (fun a : Arr => a.1) k R.ar).length = ks.length + (pushes R (fun a : Arr => a.2.2) (fun a : Arr => a.1) k R.ar).length := by simp
        refine ⟨_, ?_, W, zs, ks ++ pushes R (fun a : Arr => a.2.2) (fun a : Arr => a.1) k R.ar, _, _, _, _, _, _, _, rfl, s6, nW, hW6, dl, nd6, wk.add (fun j hj => List.mem_append_left _ hj) (fun j hj => ?_) (fun a ha b hb e e1 e2 => List.mem_append_right _ (pushes_all ha hb e e1 e2)), by omega, rfl, by omega⟩
        · omega
        · rcases List.mem_append.mp hj with z | z
          · exact wk.rng j (List.mem_append_left _ z)
          · exact pushes_rng (fun a ha => (ok.arn a ha).1) (fun a ha => ha) j z
  have hk0 : ks = [] := by
    rcases List.eq_nil_or_concat ks with z | ⟨a, b, z⟩
    · exact z
    · exact absurd ⟨a, b, by rw [z, List.concat_eq_append]⟩ hks
  subst hk0
  rw [show (!([] : List (Nat × Nat)).isEmpty) = false from rfl]
  refine iteF ?_
  have nd1' := nd1.same (s3.trans se)
  obtain ⟨kvs2, wk2, nd2'⟩ : ∃ kvs2, Wk R (fun a : Arr => a.2.2) (fun a : Arr => a.1) R.ls kvs2 [] ∧ ND w K (upd H3 e0 (.lst [])) cP P2 kvs2 := ⟨kvs, wk, ndW.same se⟩
  have sF := s1b.trans (s3.trans se)
  generalize upd H3 e0 (.lst []) = Hc at nd1' nd2' sF
  obtain ⟨φ, qf⟩ := id nd1'.at
  refine ⟨_, rfl, P1, _, rfl, nd1', fun J xs ep wlk hd dk => fun D nD => ?_⟩
  have lk1 : kvs1.length < sizeLine := by omega
  refine comp_it wlk grows_at (kvs1.map (·.1)) (by simp) lk1 (fun k => decide (k.1 ≠ k.2) && (valV kvs2 k).isSome) (fun k y H => Dt K H y (eP k)) (fun l y H H' k h => h.to k) nD (fun H' sm => sm _ _ hd) (fun j x k H' H8 hk sm y => ?_) fun us H8 sm hu pu => ?_
  · obtain ⟨rfl, hx⟩ := y
    obtain ⟨dd, hd1, hd2⟩ := dk.get' hx
    rw [List.getElem?_map] at hk
    obtain ⟨kv, hkv, rfl⟩ := Option.map_eq_some_iff.mp hk
    rw [List.getElem?_map, hkv] at hd1
    obtain rfl := Option.some.inj hd1
    have hd3 : Dt K H8 x (eP kv.1) := hd2.same sm
    obtain ⟨ta, rfl, hta⟩ := hd3.prs
    refine turn_nameT rfl fun C1 C2 c1 c2 => ⟨_, rfl, ta, _, _, _, rfl, rfl, hta, rfl, _, rfl, ta, _, _, _, rfl, rfl, hta, rfl, rfl, _, rfl, ?_⟩
    by_cases hz : kv.1.1 = kv.1.2
    · rw [show (!decide (V.int (kv.1.1 : Int) = V.int (kv.1.2 : Int))) = false by simp [hz]]
      exact iteF (c1 (by simp [hz]) _ (Same.refl _))
    · rw [show (!decide (V.int (kv.1.1 : Int) = V.int (kv.1.2 : Int))) = true by simp; omega]
      refine iteT ⟨_, rfl, _, rfl, kv.1, P2, kvs2, hd3, rfl, nd2'.same sm, _, rfl, ?_⟩
      cases hv : valV kvs2 kv.1 with
      | some v => exact iteT ⟨_, rfl, c2 (by rw [hv]; simp [hz]) _ _ (Same.refl _) hd3⟩
      | none => exact iteF (c1 (by rw [hv]; simp) _ (Same.refl _))
  have pd := DtAll.of (K := K) eP pu
  refine ⟨by show 0 ≤ sizeLine; omega, fun e1 ne1 => ?_⟩
  have s9 := Same.new (o := .lst []) ne1
  generalize hms : ((kvs1.map (·.1)).filter fun k => decide (k.1 ≠ k.2) && (valV kvs2 k).isSome) = ms at pd
  refine ⟨.list (ms.map eP), .list [], .lst (SqL.of (s9 _ _ hu)) (pd.same s9).dps, .lst (SqL.of upd_same) .nil, shaped_map eP_ok ms, rfl, ?_⟩
  rw [eqv_nil]
  refine q _ _ ((sF.trans sm).trans s9) fun hk => ?_
  have em : ms = [] := by
    cases ms with
    | nil => rfl
    | cons a l => cases hk
  rw [em] at hms
  refine ⟨fun p q => Kn kvs1 (p, q), fun p q => Kn kvs2 (p, q), fun p hp q hq => ?_, fun p q c p' q' h a b => ?_, fun p hp q hq => ?_, fun p q c p' q' h a b => ?_, fun p q h1 h2 => ?_⟩
  · exact (wk1.init p hp q hq).resolve_right nofun
  · exact (wk1.step _ a _ b rfl h).resolve_right nofun
  · exact (wk2.init p hp q hq).resolve_right nofun
  · exact (wk2.step _ a _ b rfl h).resolve_right nofun
  · apply Classical.byContradiction
    intro ne
    have mem : (p, q) ∈ kvs1.map (·.1) := val_key h1
    have : (p, q) ∈ (kvs1.map (·.1)).filter fun k => decide (k.1 ≠ k.2) && (valV kvs2 k).isSome := List.mem_filter.mpr ⟨mem, by
      cases hv : valV kvs2 (p, q) with
      | none => exact absurd hv h2
      | some v => simp [ne]⟩
    rw [hms] at this
    cases this
end K39
end Text_K39L11

section Text_K39L12
set_option Elab.async false set_option linter.all false set_option maxRecDepth 100000 set_option maxHeartbeats 4000000
/-! A lone reader. -/
namespace K39
open PySem PySem.Spec PyProof.Rows L2
variable {P : Program} {w : World} {K : PySem.W.Frag} {mg : Str → Option Value} {base : Heap}
theorem LRd.sx {H H' : Hp} {p d : Addr} {R : Rd} (h : LRd K H d R) (hp : PotAt H p) (s : SameX p H H') : LRd K H' d R := by
  obtain ⟨hv, tv, av, h1, h2, h3, h4⟩ := h
  have t := hp.to s
  have dp : d ≠ p := by
    obtain ⟨x, y, z, hx⟩ := hp
    exact ne_of h1 hx (by intro z; cases z)
  exact ⟨hv, tv, av, s _ _ h1 dp, h2.to t, h3.to t, h4.to t⟩
def sp_l_sole (w : World) (K : PySem.W.Frag) : Sp := fun vs H Q E => ∃ (p : Addr) (L : List Nat), vs = [.ref p, .str (tx L), .int 3] ∧ LetOk L ∧ PotAt H p ∧ ∀ d R H', SameX p H H' → PotAt H' p → LRd K H' d R → R.Ok → R.L = L → R.n ≤ 4 → LoneC R → Q (.ref d) H'
abbrev N_l_sole : List Str := ["_law_pot_here", "_law_signs_here", "_law_most", "_law_lot", "_law_turn", "_law_reader"]
theorem sc_l_sole : FnScope N_l_sole ["_law_pot_here", "_law_signs_here", "_law_most"] (defScope s_l_sole) := ⟨rfl, rfl, rfl, by decide +kernel, rfl, by decide +kernel, by decide +kernel⟩
theorem p_l_sole (T : Tx K mg) : Fn P w K mg base 5 "_law_sole" (sp_l_sole w K) := by
  refine fn_mk T.d_l_sole T.g_l_sole sc_l_sole (fun _ _ _ _ _ _ us h => by match us, h with | [_, _, _], _ => rfl) (fun vs H Q E ⟨p, L, e, hL, hp, q⟩ => by rw [e]; rfl) fun cdv A outer s H vs Q E hr ⟨p, L, e, hL, hp, q⟩ => ?_
  subst e
  have hu := hr.units
  have hu1 := hu_of hr
  have nd := sc_l_sole.nd
  refine ⟨_, (pss_cons (ps_set (i := 3) nd rfl (Or.inl rfl) (cg (p_l_bit T) hr (pa_cons (pv 0) (pa_cons pe_int pa_nil))))
      (pss_cons (ps_if (pt_cmpR op_eq (pv 3) pe_int (nomark _)) (pss_one (ps_ret (cg (p_l_plain_reader T) hr (pa_cons (pv 0) (pa_cons (pv 1) (pa_cons (pv 2) pa_nil)))))) pss_nil)
      (pss_cons (ps_if (pt_cmpR op_lt (pv 3) pe_int (nomark _)) (pss_one (ps_ret (cg (p_l_renumbered T) hr (pa_cons (pv 0) (pa_cons (cg (p_l_flipped T) hr (pa_cons (cg (p_l_plain_reader T) hr (pa_cons (pv 0) (pa_cons (pv 1) (pa_cons (pv 2) pa_nil)))) pa_nil)) pa_nil))))) pss_nil)
      (pss_cons (ps_if (pt_cmpR op_eq (pv 3) pe_int (nomark _)) (pss_one (ps_ret (cg (p_l_pair_reader T) hr (pa_cons (cg (p_l_plain_reader T) hr (pa_cons (pv 0) (pa_cons (pv 1) (pa_cons pe_int pa_nil)))) (pa_cons (cg (p_l_flipped T) hr (pa_cons (cg (p_l_plain_reader T) hr (pa_cons (pv 0) (pa_cons (pv 1) (pa_cons pe_int pa_nil)))) pa_nil)) pa_nil))))) pss_nil)
      (pss_cons (ps_for PassesOwn.never rfl (pi_range1 (by rfl) T.b_range (pa_cons pe_int pa_nil)) (pg_name (i := 4) nd rfl (Or.inl rfl))
        (pss_cons (ps_set (i := 5) nd rfl (Or.inl rfl) (cg (p_l_any_reader T) hr (pa_cons (pv 0) (pa_cons (pv 1) (pa_cons (pv 2) pa_nil)))))
        (pss_one (ps_if (pt_val (cg (p_l_is_sole T) hr (pa_cons (pv 5) pa_nil))) (pss_one (ps_ret (pv 5))) pss_nil))))
      (pss_one (ps_ret (cg (p_l_flipped T) hr (pa_cons (cg (p_l_plain_reader T) hr (pa_cons (pv 0) (pa_cons (pv 1) (pa_cons (pv 2) pa_nil)))) pa_nil))))))))), ?_⟩
  have l6 := sz60
  refine ⟨_, rfl, p, 6, rfl, by omega, by omega, hp, fun r H1 hr s1 p1 => ?_⟩
  refine ⟨_, rfl, rfl, _, rfl, ?_⟩
  by_cases r0 : r = 0
  · subst r0
    refine iteT ⟨_, rfl, _, rfl, _, rfl, p, L, 3, rfl, hL, by omega, by omega, p1, fun d R H2 s2 p2 hd pl => ?_⟩
    have := pl.few
    exact q d R H2 (s1.trans s2) p2 hd pl.ok pl.lets (by omega) pl.lone
  rw [show decide (V.int (r : Int) = V.int 0) = false from decide_eq_false fun h => r0 (by injection h with h; omega)]
  refine iteF ?_
  refine ⟨_, rfl, _, _, rfl, rfl, ⟨decide ((r : Int) < 3), rfl, ?_⟩⟩
  by_cases r3 : (r : Int) < 3
  · rw [decide_eq_true r3]
    refine iteT ⟨_, rfl, _, rfl, _, rfl, _, rfl, p, L, 3, rfl, hL, by omega, by omega, p1, fun d R H2 s2 p2 hd pl => ?_⟩
    refine ⟨d, R, rfl, pl.ok.arl, hd, fun c H3 s3 nc hc => ?_⟩
    have p3 := p2.same s3
    refine ⟨p, c, flipR R, rfl, pl.ok.flipR, p3, hc, fun o b H4 s4 p4 hb o1 o2 => ?_⟩
    have := pl.few
    exact q b _ H4 ((s1.trans s2).trans s3.x |>.trans s4) p4 hb (pl.ok.flipR.renR o1 o2) pl.lets (by show R.n ≤ 4; omega) (pl.flip.ren pl.ok.flipR o2).lone
  rw [decide_eq_false r3]
  refine iteF ?_
  refine ⟨_, rfl, rfl, _, rfl, ?_⟩
  by_cases re : r = 3
  · subst re
    refine iteT ⟨_, rfl, _, rfl, p, L, 2, rfl, hL, by omega, by omega, p1, fun d1 A H2 s2 p2 hA plA => ?_⟩
    refine ⟨_, rfl, _, rfl, p, L, 2, rfl, hL, by omega, by omega, p2, fun d2 B H3 s3 p3 hB plB => ?_⟩
    refine ⟨d2, B, rfl, plB.ok.arl, hB, fun c H4 s4 nc hc => ?_⟩
    have hA3 := (hA.sx p2 s3).same s4
    have nA := plA.few
    have nB := plB.few
    have n4 : A.n * B.n ≤ 2 * 2 := Nat.mul_le_mul nA nB
    have la : (pairAr A (flipR B)).length ≤ 16 * 16 := Nat.le_trans (pairAr_len _ _) (Nat.mul_le_mul (plA.ok.few2 nA) (plB.ok.flipR.few2 nB))
    have eL : A.L = (flipR B).L := plA.lets.trans plB.lets.symm
    refine ⟨d1, c, A, flipR B, rfl, plA.ok, plB.ok.flipR, by show A.n * B.n ≤ 60; omega, by omega, hA3, hc, fun e H5 s5 ne he => ?_⟩
    exact q e _ H5 (((s1.trans s2).trans s3).trans (s4.trans s5).x) (p3.same (s4.trans s5)) he (pairR_ok plA.ok plB.ok.flipR (by show A.n * B.n ≤ 60; omega) (by omega) eL) plA.lets (by show A.n * B.n ≤ 4; omega) (plA.pair plB.ok.flipR plB.flip)
  rw [show decide (V.int (r : Int) = V.int 3) = false from decide_eq_false fun h => re (by injection h with h; omega)]
  refine iteF ?_
  refine ⟨4, rfl, by omega, by omega, ?_⟩
  refine for_it walk_range (fun i σ H' => SameX p H H' ∧ PotAt H' p ∧ ∃ o4 o5, σ = [some (.ref p), some (.str (tx L)), some (.int 3), some (.int (r : Int)), o4, o5])
    ⟨s1, p1, none, none, rfl⟩ (fun _ _ _ _ _ => trivial) (fun i x σ H2 H3 hi ⟨s2, p2, o4, o5, eσ⟩ yy => ?_) fun σ H2 ⟨s2, p2, o4, o5, eσ⟩ => ?_
  · obtain ⟨rfl, rfl⟩ := yy
    subst eσ
    refine ⟨_, rfl, _, rfl, _, rfl, p, L, 3, rfl, hL, by omega, by omega, p2, fun d R H4 s4 p4 hd ok eL n3 => ?_⟩
    have la := ok.few6 (by omega)
    refine ⟨_, rfl, d, R, rfl, ok, by omega, by omega, hd, fun k H5 s5 hk => ⟨k, rfl, ?_⟩⟩
    have s6 := s2.trans (s4.trans s5.x)
    cases k with
    | true => exact iteT ⟨_, rfl, q d R H5 s6 (p4.same s5) (hd.same s5) ok eL (by omega) (hk rfl)⟩
    | false => exact iteF ⟨s6, p4.same s5, _, _, rfl⟩
  · subst eσ
    refine ⟨_, rfl, _, rfl, _, rfl, p, L, 3, rfl, hL, by omega, by omega, p2, fun d R H3 s3 p3 hd pl => ?_⟩
    refine ⟨d, R, rfl, pl.ok.arl, hd, fun c H4 s4 nc hc => ?_⟩
    have := pl.few
    exact q c _ H4 ((s2.trans s3).trans s4.x) (p3.same s4) hc pl.ok.flipR pl.lets (by show R.n ≤ 4; omega) pl.flip.lone
end K39
end Text_K39L12

section Text_K39L13
set_option Elab.async false set_option linter.all false set_option maxRecDepth 100000 set_option maxHeartbeats 4000000
/-! The drawn reader. -/
namespace K39
open PySem PySem.Spec PyProof.Rows L2
variable {P : Program} {w : World} {K : PySem.W.Frag} {mg : Str → Option Value} {base : Heap}
def sp_l_drawn (w : World) (K : PySem.W.Frag) : Sp := fun vs H Q E => ∃ (p : Addr) (L : List Nat), vs = [.ref p, .str (tx L)] ∧ LetOk L ∧ PotAt H p ∧ ∀ d R H', SameX p H H' → PotAt H' p → LRd K H' d R → R.Ok → R.L = L → R.n ≤ 4 → Q (.ref d) H'
abbrev N_l_drawn : List Str := ["_law_pot_here", "_law_signs_here", "_law_much", "_law_links", "_law_spot", "_law_sign"]
theorem sc_l_drawn : FnScope N_l_drawn ["_law_pot_here", "_law_signs_here"] (defScope s_l_drawn) := ⟨rfl, rfl, rfl, by decide +kernel, rfl, by decide +kernel, by decide +kernel⟩
theorem p_l_drawn (T : Tx K mg) : Fn P w K mg base 5 "_law_drawn" (sp_l_drawn w K) := by
  refine fn_mk T.d_l_drawn T.g_l_drawn sc_l_drawn (fun _ _ _ _ _ _ us h => by match us, h with | [_, _], _ => rfl) (fun vs H Q E ⟨p, L, e, hL, hp, q⟩ => by rw [e]; rfl) fun cdv A outer s H vs Q E hr ⟨p, L, e, hL, hp, q⟩ => ?_
  subst e
  have hu := hr.units
  have hu1 := hu_of hr
  have nd := sc_l_drawn.nd
  refine ⟨_, (pss_cons (ps_if (pt_cmpR op_eq (cg (p_l_bit T) hr (pa_cons (pv 0) (pa_cons pe_int pa_nil))) pe_int (nomark _)) (pss_one (ps_ret (cg (p_l_any_reader T) hr (pa_cons (pv 0) (pa_cons (pv 1) (pa_cons pe_int pa_nil)))))) pss_nil)
      (pss_cons (ps_set (i := 2) nd rfl (Or.inl rfl) (pe_op op_add pe_int (cg (p_l_bit T) hr (pa_cons (pv 0) (pa_cons pe_int pa_nil)))))
      (pss_cons (ps_set (i := 3) nd rfl (Or.inl rfl) (pe_ndNew cA))
      (pss_cons (ps_for PassesOwn.never rfl (pi_range1 (by rfl) T.b_range (pa_cons (pe_op op_sub (pv 2) pe_int) pa_nil)) (pg_name (i := 4) nd rfl (Or.inl rfl))
        (pss_one (ps_for PassesOwn.never rfl (pi_str (pv 1)) (pg_name (i := 5) nd rfl (Or.inl rfl))
          (pss_one (ps_if (pt_cmpR op_gt (cg (p_l_bit T) hr (pa_cons (pv 0) (pa_cons pe_int pa_nil))) pe_int (nomark _)) (pss_one (ps_asg pe_bl (pg_sub (pv 3) (pe_tup (pa_cons (pv 4) (pa_cons (pv 5) (pa_cons (pe_op op_add (pe_op op_add (pv 4) pe_int) (cg (p_l_bit T) hr (pa_cons (pv 0) (pa_cons (pe_op op_sub (pe_op op_sub (pv 2) (pv 4)) pe_int) pa_nil)))) pa_nil)))) (set_nd hu cA)))) pss_nil)))))
      (pss_one (ps_ret (cg (p_l_told_reader T) hr (pa_cons (pv 1) (pa_cons (pv 2) (pa_cons (pe_lst (pa_cons pe_int pa_nil)) (pa_cons (cg (p_l_some_of T) hr (pa_cons (pv 0) (pa_cons (pe_listRg rfl (by rfl) T.b_list (prg_1 (by rfl) T.b_range (pv 2))) (pa_cons pe_int pa_nil)))) (pa_cons (pe_callTy (cr_ndList rfl cA) (by rfl) T.b_list (by decide +kernel) (pa_cons (pv 3) pa_nil)) pa_nil)))))))))))), ?_⟩
  have l6 := sz60
  have lL : L.length ≤ 4 := hL.four
  refine ⟨_, rfl, p, 2, rfl, by omega, by omega, hp, fun r H1 hr s1 p1 => ?_⟩
  refine ⟨rfl, _, rfl, ?_⟩
  by_cases r0 : r = 0
  · subst r0
    refine iteT ⟨_, rfl, _, rfl, p, L, 3, rfl, hL, by omega, by omega, p1, fun d R H4 s4 p4 hd ok eL n3 => ?_⟩
    exact q d R H4 (s1.trans s4) p4 hd ok eL (by omega)
  rw [show decide (V.int (r : Int) = V.int 0) = false from decide_eq_false fun h => r0 (by injection h with h; omega)]
  refine iteF ?_
  refine ⟨_, rfl, p, 3, rfl, by omega, by omega, p1, fun r2 H2 hr2 s2 p2 => ⟨_, _, rfl, rfl, ?_⟩⟩
  have en : (2 : Int) + (r2 : Int) = ((r2 + 2 : Nat) : Int) := by omega
  generalize hn : r2 + 2 = n at en
  refine fun F oF nF ndF => ?_
  have s12 := s1.trans s2
  have pF : p ≠ F := p2.ne_new nF
  have nFH : H F = none := s12.none nF (Ne.symm pF)
  have sF : SameX p H (upd H2 F oF) := s12.trans (Same.new nF).x
  have pF1 : PotAt (upd H2 F oF) p := p2.upd pF
  have n2 : 2 ≤ n := by omega
  have n4 : n ≤ 4 := by omega
  refine ⟨_, rfl, _, _, rfl, rfl, _, rfl, by omega, by omega, ?_⟩
  refine for_it walk_range (fun i σ H' => SameX p H H' ∧ PotAt H' p ∧ (∃ kvs, ND w K H' cA F kvs ∧ (∀ a ∈ kvs.map (·.1), ArN L n a) ∧ kvs.length ≤ i * 4) ∧ ∃ o4 o5, σ = [some (.ref p), some (.str (tx L)), some (.int ((2 : Int) + (r2 : Int))), some (.ref F), o4, o5])
    ⟨sF, pF1, ⟨[], ndF, nofun, by simp⟩, none, none, rfl⟩ (fun _ _ _ _ _ => trivial) (fun i x σ H3 H4 hi ⟨s3, p3, ⟨kvs, hN, inv, la⟩, o4, o5, eσ⟩ yy => ?_) fun σ H3 ⟨s3, p3, ⟨kvs, hN, inv, la⟩, o4, o5, eσ⟩ => ?_
  · obtain ⟨rfl, rfl⟩ := yy
    subst eσ
    have hin : i + 1 < n := by omega
    refine ⟨_, rfl, _, rfl, ?_⟩
    refine for_it walk_str (fun j σ H' => SameX p H H' ∧ PotAt H' p ∧ (∃ kvs, ND w K H' cA F kvs ∧ (∀ a ∈ kvs.map (·.1), ArN L n a) ∧ kvs.length ≤ i * 4 + j) ∧ ∃ o5, σ = [some (.ref p), some (.str (tx L)), some (.int ((2 : Int) + (r2 : Int))), some (.ref F), some (.int ((0 : Int) + (i : Int))), o5])
      ⟨s3, p3, ⟨kvs, hN, inv, by omega⟩, o5, rfl⟩ (fun _ _ _ _ _ => trivial) (fun j x σ H5 H6 hj ⟨s5, p5, ⟨kvs, hN, inv, la⟩, o5, eσ⟩ yy => ?_) fun σ H5 ⟨s5, p5, ⟨kvs, hN, inv, la⟩, o5, eσ⟩ => ?_
    · obtain ⟨rfl, c, hc, rfl⟩ := yy
      subst eσ
      have hcL : L[j]? = some c := by rw [← Array.getElem?_toList, walk_strL] at hc; exact hc
      have mc : c ∈ L := List.mem_of_getElem? hcL
      have jL : j < L.length := (List.getElem?_eq_some_iff.mp hcL).1
      refine ⟨_, rfl, p, 3, rfl, by omega, by omega, p5, fun r3 H6 hr3 s6 p6 => ⟨_, _, rfl, rfl, ⟨decide ((r3 : Int) > 0), rfl, ?_⟩⟩⟩
      by_cases z : (r3 : Int) > 0
      · rw [decide_eq_true z]
        have e0 : (0 : Int) + (i : Int) = (i : Int) := by omega
        have em : (2 : Int) + (r2 : Int) - ((0 : Int) + (i : Int)) - 1 = ((n - i - 1 : Nat) : Int) := by omega
        refine iteT ⟨_, rfl, _, rfl, _, rfl, _, rfl, _, _, rfl, rfl, _, rfl, _, rfl, _, rfl, _, _, rfl, rfl, _, _, rfl, rfl, p, n - i - 1, by rw [← em], by omega, by omega, p6, fun r4 H7 hr4 s7 p7 => ⟨_, _, rfl, rfl, by show 3 ≤ sizeLine; omega, fun t1 nt => ?_⟩⟩
        have sT := Same.new (o := .tup [.int ((0 : Int) + (i : Int)), .str (sg c), .int ((0 : Int) + (i : Int) + 1 + (r4 : Int))]) nt
        refine ⟨(i, c, i + 1 + r4), F, kvs, ?_, rfl, ((hN.sx p5 s6).sx p6 s7).same sT, by omega, fun o' hn' => ?_⟩
        · refine Dt.ofArr (a := (i, c, i + 1 + r4)) (SqT.of ?_)
          rw [upd_same]
          simp
        have h8 := length_putK kvs (i, c, i + 1 + r4) (V.bl true)
        refine ⟨(((s5.trans s6).trans s7).trans sT.x).new nFH, (p7.same sT).upd pF, ⟨_, hn', fun a ha => ?_, by omega⟩, _, rfl⟩
        rcases keys_in_put a ha with z | z
        · rw [z]; exact ⟨by show i < n; omega, mc, by show i + 1 + r4 < n; omega⟩
        · exact inv a z
      · rw [decide_eq_false z]
        exact iteF ⟨s5.trans s6, p6, ⟨kvs, hN.sx p5 s6, inv, by omega⟩, _, rfl⟩
    · subst eσ
      exact ⟨s5, p5, ⟨kvs, hN, inv, by have := tx_len L; simp at la; omega⟩, _, _, rfl⟩
  · subst eσ
    have eg : rgV 0 ((2 : Int) + (r2 : Int)) = (List.range n).map fun k : Nat => V.int (k : Int) := by
      unfold rgV
      rw [en, Int.sub_zero, Int.toNat_natCast]
      refine List.map_congr_left fun k _ => ?_
      rw [Int.zero_add]
    refine ⟨_, rfl, _, rfl, by show 1 ≤ sizeLine; omega, fun h0 nh0 => ?_⟩
    have sh := Same.new (o := .lst [V.int 0]) nh0
    have p3 := p3.same sh
    refine ⟨_, rfl, _, rfl, _, rfl, RgOk.of_le (by omega) (by omega) (by omega) (by omega), fun g ng => ?_⟩
    rw [eg]
    have sG := Same.new (o := .lst ((List.range n).map fun k : Nat => V.int (k : Int))) ng
    have p4 := p3.same sG
    refine ⟨p, g, List.range n, 1, rfl, upd_same, (p3.ne_new ng).symm, List.nodup_range, by simp; omega, by simp; omega, p4, fun v2 l2 H8 s8 p8 dv2 pw2 mem2 => ?_⟩
    have hN8 := (((hN.same sh).same sG).sx p4 s8)
    have hh8 := s8 _ _ (sG _ _ (upd_same (H := H3) (a := h0) (o := .lst [V.int 0]))) (by
      have := p3
      obtain ⟨x, y, z, hx⟩ := this
      intro e; subst e; rw [upd_same] at hx; cases hx)
    refine ⟨_, rfl, F, kvs, rfl, hN8, fun z ys nz dz => ?_⟩
    have sZ := Same.new (o := .lst ys) nz
    obtain ⟨a2, xs2, rfl, hs2, dd2⟩ := (dv2.same sZ).tuple
    have ek : (kvs.map fun p => cA.e p.1) = (kvs.map (·.1)).map eA := by rw [List.map_map]; rfl
    rw [ek] at dz
    refine ⟨L, n, .ref h0, .ref a2, .ref z, [0], l2, kvs.map (·.1), ?_, ⟨h0, _, rfl, .inl (SqL.of (sZ _ _ hh8)), .one (.int _)⟩, ⟨a2, xs2, rfl, .inr hs2, dd2⟩, ⟨z, ys, rfl, .inl (SqL.of upd_same), dz.same sZ⟩, fun d H9 s9 nd9 hd => ?_⟩
    · show [V.str (tx L), V.int ((2 : Int) + (r2 : Int)), _, _, _] = _
      rw [en]
    obtain ⟨xs, ep, g1, g2, g3, g4, g5⟩ := id hN8
    refine q d _ H9 ((((s3.trans sh.x).trans sG.x).trans s8).trans sZ.x |>.trans s9.x) ((p8.same sZ).same s9) hd ?_ rfl (by show n ≤ 4; omega)
    exact mkR_ok hL (by omega) (by omega) (by simp) (fun x hx => by rw [List.mem_singleton.mp hx]; omega) (pw2.imp Nat.ne_of_lt) (fun x hx => List.mem_range.mp (mem2 x hx)) g5 inv (by rw [List.length_map]; omega)
end K39
end Text_K39L13

section Text_K39L14
set_option Elab.async false set_option linter.all false set_option maxRecDepth 100000 set_option maxHeartbeats 4000000
/-! The map of pairs of sets. -/
namespace K39
open PySem PySem.Spec PyProof.Rows L2
variable {P : Program} {w : World} {K : PySem.W.Frag} {mg : Str → Option Value} {base : Heap}
theorem IsGone.eq {R : Rd} {l m : List Nat} {c : Nat} (h : IsGone R l c m) (hn : ∀ a ∈ R.ar, a.2.2 < R.n) : m = goneF R l c := by
  refine asc_eq h.1 (goneF_asc R l c) fun q => ?_
  rw [h.2 q, goneF_mem hn]
  constructor
  · rintro ⟨⟨a1, a2, a3⟩, ha, rfl⟩
    obtain ⟨h1, h2⟩ := List.mem_filter.mp ha
    simp at h2
    obtain ⟨rfl, h3⟩ := h2
    exact ⟨a1, h3, h1⟩
  · rintro ⟨p, hp, ha⟩
    exact ⟨(p, c, q), List.mem_filter.mpr ⟨ha, by simp [hp]⟩, rfl⟩
/-- all sets of states below n -/
def subs : Nat → List (List Nat)
  | 0 => [[]]
  | n + 1 => subs n ++ (subs n).map (· ++ [n])
theorem subs_len : ∀ n, (subs n).length = 2 ^ n
  | 0 => rfl
  | n + 1 => by rw [subs, List.length_append, List.length_map, subs_len n, Nat.pow_succ]; omega
theorem subs_filter (p : Nat → Bool) : ∀ n, (List.range n).filter p ∈ subs n
  | 0 => by simp [subs]
  | n + 1 => by
    rw [List.range_succ, List.filter_append, subs]
    have ih := subs_filter p n
    by_cases h : p n = true
    · refine List.mem_append_right _ (List.mem_map.mpr ⟨_, ih, ?_⟩)
      simp [h]
    · refine List.mem_append_left _ ?_
      simp [h]; exact ih
theorem subs_asc {n : Nat} {l : List Nat} (h : l.Pairwise (· < ·)) (hn : ∀ p ∈ l, p < n) : l ∈ subs n := by
  have e : l = (List.range n).filter fun q => decide (q ∈ l) := asc_eq h (List.Pairwise.sublist List.filter_sublist List.pairwise_lt_range) fun q => by
    rw [List.mem_filter, List.mem_range]
    exact ⟨fun z => ⟨hn q z, by simpa using z⟩, fun z => by simpa using z.2⟩
  rw [e]; exact subs_filter _ n
theorem subs_ok : ∀ {n : Nat} {l : List Nat}, l ∈ subs n → l.Pairwise (· < ·) ∧ ∀ p ∈ l, p < n
  | 0, l, h => by rw [List.mem_singleton.mp h]; exact ⟨.nil, nofun⟩
  | n + 1, l, h => by
    rcases List.mem_append.mp h with z | z
    · obtain ⟨h1, h2⟩ := subs_ok z
      exact ⟨h1, fun p hp => Nat.lt_succ_of_lt (h2 p hp)⟩
    · obtain ⟨m, hm, rfl⟩ := List.mem_map.mp z
      obtain ⟨h1, h2⟩ := subs_ok hm
      refine ⟨List.pairwise_append.mpr ⟨h1, List.pairwise_singleton _ _, fun a ha b hb => by rw [List.mem_singleton.mp hb]; exact h2 a ha⟩, fun p hp => ?_⟩
      rcases List.mem_append.mp hp with y | y
      · exact Nat.lt_succ_of_lt (h2 p y)
      · rw [List.mem_singleton.mp y]; omega
/-- all pairs of sets of states -/
def allK (A B : Rd) : List KK := (subs A.n).flatMap fun a => (subs B.n).map fun b => (a, b)
theorem allK_mem {A B : Rd} {x : KK} : x ∈ allK A B ↔ x.1 ∈ subs A.n ∧ x.2 ∈ subs B.n := by
  unfold allK
  rw [List.mem_flatMap]
  constructor
  · rintro ⟨a, ha, h⟩
    obtain ⟨b, hb, rfl⟩ := List.mem_map.mp h
    exact ⟨ha, hb⟩
  · exact fun ⟨h1, h2⟩ => ⟨x.1, h1, List.mem_map.mpr ⟨x.2, h2, rfl⟩⟩
theorem allK_len {A B : Rd} (a4 : A.n ≤ 4) (b4 : B.n ≤ 4) : (allK A B).length ≤ 256 := by
  have h1 := flat_len (l := subs A.n) (f := fun a => (subs B.n).map fun b => (a, b)) (k := 2 ^ B.n) fun a _ => by rw [List.length_map, subs_len]; exact Nat.le_refl _
  rw [subs_len] at h1
  have h2 : 2 ^ A.n ≤ 2 ^ 4 := Nat.pow_le_pow_right (by decide) a4
  have h3 : 2 ^ B.n ≤ 2 ^ 4 := Nat.pow_le_pow_right (by decide) b4
  have h4 := Nat.mul_le_mul h2 h3
  exact Nat.le_trans h1 h4
theorem allK_dl (A B : Rd) (x : KK) (c : Nat) : dl A B x c ∈ allK A B := allK_mem.mpr ⟨subs_filter _ _, subs_filter _ _⟩
/-- the readers of a round of the law -/
structure TwoOk (A B : Rd) : Prop where
  oa : A.Ok
  ob : B.Ok
  lets : A.L = B.L
  a4 : A.n ≤ 4
  b4 : B.n ≤ 4
  la : A.ar.length < 60
  lb : B.ar.length < 60
theorem TwoOk.start {A B : Rd} (h : TwoOk A B) : (A.fs, B.fs) ∈ allK A B := allK_mem.mpr ⟨subs_asc h.oa.fs h.oa.fsn, subs_asc h.ob.fs h.ob.fsn⟩
/-- a value of the map: the list of where the pair goes, not at W -/
def MapV (K : PySem.W.Frag) (H : Hp) (A B : Rd) (W : Addr) (x : KK) (v : V) : Prop := ∃ a zs, v = .ref a ∧ a ≠ W ∧ H a = some (.lst zs) ∧ DtAll K H zs ((A.L.map (dl A B x)).map eK)
theorem MapV.same {H H' : Hp} {A B : Rd} {W : Addr} {x : KK} {v : V} (h : MapV K H A B W x v) (s : Same H H') : MapV K H' A B W x v := by
  obtain ⟨a, zs, e, n, h1, h2⟩ := h
  exact ⟨a, zs, e, n, s _ _ h1, h2.same s⟩
theorem MapV.to {H H' : Hp} {A B : Rd} {W Z : Addr} {x : KK} {v : V} (h : MapV K H A B W x v) (t : TLe H H') (hz : ∀ b o, H b = some (.lst o) → b ≠ W → H' b = some (.lst o)) : MapV K H' A B W x v := by
  obtain ⟨a, zs, e, n, h1, h2⟩ := h
  exact ⟨a, zs, e, n, hz _ _ h1 n, h2.to t⟩
def sp_l_map (w : World) (K : PySem.W.Frag) : Sp := fun vs H Q E => ∃ (d1 d2 : Addr) (A B : Rd), vs = [.ref d1, .ref d2] ∧ TwoOk A B ∧ LRd K H d1 A ∧ LRd K H d2 B ∧ ∀ (F W : Addr) (kvs : List (KK × V)) H', Same H H' → H F = none → ND w K H' cK F kvs → kvs.length ≤ 256 → Kn kvs (A.fs, B.fs) → (∀ x, Kn kvs x → x ∈ allK A B) → (∀ x, Kn kvs x → ∀ c ∈ A.L, Kn kvs (dl A B x c)) → (∀ x v, valV kvs x = some v → MapV K H' A B W x v) → Q (.ref F) H'
abbrev N_l_map : List Str := ["_law_reader", "_law_sole_here", "_law_found", "_law_waits", "_law_pair", "_law_sign"]
theorem sc_l_map : FnScope N_l_map ["_law_reader", "_law_sole_here"] (defScope s_l_map) := ⟨rfl, rfl, rfl, by decide +kernel, rfl, by decide +kernel, by decide +kernel⟩
theorem p_l_map (T : Tx K mg) : Fn P w K mg base 2 "_law_map" (sp_l_map w K) := by
  refine fn_mk T.d_l_map T.g_l_map sc_l_map (fun _ _ _ _ _ _ us h => by match us, h with | [_, _], _ => rfl) (fun vs H Q E ⟨d1, d2, A, B, e, ok, hA, hB, q⟩ => by rw [e]; rfl) fun cdv A outer s H vs Q E hr ⟨d1, d2, A, B, e, ok, hA, hB, q⟩ => ?_
  subst e
  have hu := hr.units
  have hu1 := hu_of hr
  have nd := sc_l_map.nd
  refine ⟨_, (pss_cons (ps_par (i := 2) (j := 3) (by rfl) nd rfl rfl (by decide) rfl rfl (pa_cons (pe_ndNew cK) (pa_cons (pe_lst (pa_cons (pe_tup (pa_cons (pe_dget hu1 (pv 0) pe_str (fun _ _ => rfl)) (pa_cons (pe_dget hu1 (pv 1) pe_str (fun _ _ => rfl)) pa_nil))) pa_nil)) pa_nil)) (by rfl))
      (pss_cons (ps_while PassesOwn.never (pt_cmpR (op_neD hu) (pv 3) (pe_lst pa_nil) (nomark _))
        (pss_cons (ps_set (i := 4) nd rfl (Or.inl rfl) (pe_bm0 PySem.F.plainAttrs_list PySem.F.slot_list_pop PySem.F.type_list_pop mt_pop (pv 3)))
        (pss_one (ps_if (pt_cmpR (op_ndNotIn hu cK) (pv 4) (pv 2) rfl) (pss_cons (ps_asg (pe_lst pa_nil) (pg_sub (pv 2) (pv 4) (set_nd hu cK)))
          (pss_cons (ps_for PassesOwn.never rfl (pi_str (pe_dget hu1 (pv 0) pe_str (fun _ _ => rfl))) (pg_name (i := 5) nd rfl (Or.inl rfl))
            (pss_one (ps_expr (pe_bm PySem.F.plainAttrs_list PySem.F.slot_list_append PySem.F.type_list_append mt_append (pe_ndGet hu cK (pv 2) (pv 4) (fun _ _ => rfl)) (pa_cons (pe_tup (pa_cons (cg (p_l_gone_set T) hr (pa_cons (pv 0) (pa_cons (pe_ix ix_tup (pv 4) pe_int (fun _ _ => rfl)) (pa_cons (pv 5) pa_nil)))) (pa_cons (cg (p_l_gone_set T) hr (pa_cons (pv 1) (pa_cons (pe_ix ix_tup (pv 4) pe_int (fun _ _ => rfl)) (pa_cons (pv 5) pa_nil)))) pa_nil))) pa_nil)))))
          (pss_one (ps_expr (pe_bm PySem.F.plainAttrs_list PySem.F.slot_list_extend PySem.F.type_list_extend mt_extend (pv 3) (pa_cons (pe_ndGet hu cK (pv 2) (pv 4) (fun _ _ => rfl)) pa_nil)))))) pss_nil))))
      (pss_one (ps_ret (pv 2))))), ?_⟩
  have l6 := sz60
  have l4 := ok.oa.lets.four
  have lD := allK_len ok.a4 ok.b4
  have dn := allK_dl A B
  have laa := ok.la
  have lbb := ok.lb
  obtain ⟨hvA, tvA, avA, a1, a2, a3, a4⟩ := id hA
  obtain ⟨hvB, tvB, avB, b1, b2, b3, b4⟩ := id hB
  refine fun F oF nF ndF => ?_
  have sF := Same.new (o := oF) nF
  refine ⟨_, rfl, d1, _, rfl, .inl ⟨_, Sum.inr "heads", .inl (sF _ _ a1), rfl, rfl⟩, _, rfl, d2, _, rfl, .inl ⟨_, Sum.inr "heads", .inl (sF _ _ b1), rfl, rfl⟩, by show 2 ≤ sizeLine; omega, fun t nt => ⟨by show 1 ≤ sizeLine; omega, fun W nW => ⟨_, _, rfl, ?_⟩⟩⟩
  have sT := Same.new (o := .tup [hvA, hvB]) nt
  have sW := Same.new (o := .lst [V.ref t]) nW
  have sA := (sF.trans sT).trans sW
  have nWH : H W = none := none_of_same (sF.trans sT) nW
  have dt0 : Dt K (upd (upd (upd H F oF) t (.tup [hvA, hvB])) W (.lst [V.ref t])) (.ref t) (eK (A.fs, B.fs)) := Dt.ofKk (a := (A.fs, B.fs)) (SqT.tle sW.tle (SqT.of upd_same)) (a2.same sA) (b2.same sA)
  have hW0 : upd (upd (upd H F oF) t (.tup [hvA, hvB])) W (.lst [V.ref t]) W = some (.lst [V.ref t]) := upd_same
  have nd0 := (ndF.same sT).same sW
  generalize upd (upd (upd H F oF) t (.tup [hvA, hvB])) W (.lst [V.ref t]) = H0 at sA dt0 hW0 nd0
  clear sF sT sW nW nt ndF
  have m0 := missK_le (allK A B) ([] : List (KK × V))
  refine ⟨fun m σ H' => ∃ (ys : List V) (ks : List KK) (kvs : List (KK × V)) (o4 o5 : Option V), σ = [some (.ref d1), some (.ref d2), some (.ref F), some (.ref W), o4, o5] ∧ Same H H' ∧ H' W = some (.lst ys) ∧ DtAll K H' ys (ks.map eK) ∧ ND w K H' cK F kvs ∧ (∀ x v, valV kvs x = some v → MapV K H' A B W x v) ∧ (∀ x, Kn kvs x → ∀ c ∈ A.L, Kn kvs (dl A B x c) ∨ dl A B x c ∈ ks) ∧ (Kn kvs (A.fs, B.fs) ∨ (A.fs, B.fs) ∈ ks) ∧ (∀ x ∈ ks, x ∈ allK A B) ∧ (∀ x, Kn kvs x → x ∈ allK A B) ∧ kvs.length + missK (allK A B) kvs ≤ 256 ∧ m = ks.length + 5 * missK (allK A B) kvs ∧ m ≤ 2000,
    ⟨_, [V.ref t], [(A.fs, B.fs)], [], none, none, rfl, sA, hW0, .one dt0, nd0, (fun x v h => by simp [valV_nil] at h), (fun x h => absurd rfl h), .inr (List.mem_singleton.mpr rfl), (fun x hx => by rw [List.mem_singleton.mp hx]; exact ok.start), (fun x h => absurd rfl h), by simp; omega, rfl, by simp; omega⟩, ?_⟩
  rintro m σ H3 ⟨ys, ks, kvs, o4, o5, rfl, s3, hW, dW, ndW, vals, clo, ini, rng, rng2, lm, rfl, mb⟩
  refine ⟨_, rfl, by show 0 ≤ sizeLine; omega, fun e0 ne0 => ?_⟩
  have se : Same H3 (upd H3 e0 (.lst [])) := Same.new ne0
  refine ⟨.list (ks.map eK), .list [], .lst (SqL.of (se _ _ hW)) (dW.same se).dps, .lst (SqL.of upd_same) .nil, shaped_map eK_ok ks, rfl, ?_⟩
  rw [eqv_nil]
  refine ⟨_, rfl, ?_⟩
  by_cases hks : ∃ ks' k, ks = ks' ++ [k]
  · obtain ⟨ks, k, rfl⟩ := hks
    rw [show (!(ks ++ [k]).isEmpty) = true by simp]
    refine iteT ⟨_, fun σ' H' hN => hN, ?_⟩
    have hWe := se _ _ hW
    have de := dW.same se
    rw [List.map_append] at de
    obtain ⟨y, hy, dl', dy⟩ := DtAll.pop de
    refine ⟨_, rfl, .inl ⟨rfl, _, SqL.of hWe⟩, W, ys, y, rfl, rfl, hWe, hy, ?_⟩
    have tP : TLe (upd H3 e0 (.lst [])) (upd (upd H3 e0 (.lst [])) W (.lst ys.dropLast)) := TLe.lst hWe
    have s4 : Same H (upd (upd H3 e0 (.lst [])) W (.lst ys.dropLast)) := (s3.trans se).put nWH
    have dl' := dl'.to tP
    have dy := dy.to tP
    have WF : W ≠ F := by
      obtain ⟨φ, qf⟩ := ndW.at
      intro z; subst z; rw [hW] at qf; cases qf
    have nd4 := (ndW.same se).to tP (upd_ne (Ne.symm WF))
    have hW4 : upd (upd H3 e0 (.lst [])) W (.lst ys.dropLast) W = some (.lst ys.dropLast) := upd_same
    have vals4 : ∀ x v, valV kvs x = some v → MapV K (upd (upd H3 e0 (.lst [])) W (.lst ys.dropLast)) A B W x v := fun x v h => ((vals x v h).same se).to (Z := W) tP fun b o hb hbW => by rw [upd_ne hbW]; exact hb
    clear vals
    generalize upd (upd H3 e0 (.lst [])) W (.lst ys.dropLast) = H4 at tP s4 dl' dy nd4 hW4 vals4
    generalize ys.dropLast = zs at dl' hW4
    obtain ⟨ta, x1, x2, rfl, hta, dx1, dx2⟩ := dy.kk
    have lk : (ks ++ [k]).length = ks.length + 1 := by simp
    have lz : zs.length = ks.length := by rw [dl'.length, List.length_map]
    refine ⟨_, rfl, _, rfl, k, F, kvs, dy, rfl, nd4, _, rfl, ?_⟩
    have drop : ∀ x : KK, x ∈ ks ++ [k] → x = k ∨ x ∈ ks := fun x hx => by
      rcases List.mem_append.mp hx with z | z
      · exact .inr z
      · exact .inl (List.mem_singleton.mp z)
    cases hv : valV kvs k with
    | some v =>
      have kk : Kn kvs k := by show valV kvs k ≠ none; rw [hv]; nofun
      refine iteF ⟨_, by omega, zs, ks, kvs, _, _, rfl, s4, hW4, dl', nd4, vals4, fun x hx c hc => ?_, ?_, fun x hx => rng x (List.mem_append_left _ hx), rng2, lm, rfl, by omega⟩
      · rcases clo x hx c hc with z | z
        · exact .inl z
        · rcases drop _ z with z | z
          · exact .inl (by rw [z]; exact kk)
          · exact .inr z
      · rcases ini with z | z
        · exact .inl z
        · rcases drop _ z with z | z
          · exact .inl (by rw [z]; exact kk)
          · exact .inr z
    | none =>
      refine iteT ?_
      refine ⟨by show 0 ≤ sizeLine; omega, fun Z nZ => ?_⟩
      have sZ := Same.new (o := .lst []) nZ
      refine ⟨_, rfl, _, rfl, k, F, kvs, dy.same sZ, rfl, nd4.same sZ, by omega, fun o' hn => ?_⟩
      have ZF : Z ≠ F := by
        obtain ⟨φ, qf⟩ := nd4.at
        exact (ne_of_none qf nZ).symm
      have ZW : Z ≠ W := (ne_of_none hW4 nZ).symm
      have nZH : H Z = none := none_of_same s4 nZ
      have t5 : TLe (upd H4 Z (.lst [])) (upd (upd H4 Z (.lst [])) F o') := (nd4.same sZ).tle
      have s5 : Same H (upd (upd H4 Z (.lst [])) F o') := (s4.trans sZ).put nF
      have hW5 : upd (upd H4 Z (.lst [])) F o' W = some (.lst zs) := by rw [upd_ne WF]; exact sZ _ _ hW4
      have hZ5 : upd (upd H4 Z (.lst [])) F o' Z = some (.lst []) := by rw [upd_ne ZF, upd_same]
      have dl5 := (dl'.same sZ).to t5
      have dy5 := (dy.same sZ).to t5
      have hta5 := SqT.tle t5 (SqT.tle sZ.tle hta)
      have dx15 := (dx1.same sZ).to t5
      have dx25 := (dx2.same sZ).to t5
      have kD : k ∈ allK A B := rng k (by simp)
      have mp := missK_put (v := V.ref Z) kD hv
      have lp := length_putK kvs k (V.ref Z)
      -- what else stands in the map
      have vals5 : ∀ x v, valV kvs x = some v → ∃ a zs, v = .ref a ∧ a ≠ W ∧ a ≠ Z ∧ upd (upd H4 Z (.lst [])) F o' a = some (.lst zs) ∧ DtAll K (upd (upd H4 Z (.lst [])) F o') zs ((A.L.map (dl A B x)).map eK) := fun x v h => by
        obtain ⟨a, us, e1, e2, e3, e4⟩ := vals4 x v h
        have aF : a ≠ F := by
          obtain ⟨φ, qf⟩ := nd4.at
          intro z; subst z; rw [e3] at qf; cases qf
        exact ⟨a, us, e1, e2, ne_of_none e3 nZ, by rw [upd_ne aF]; exact sZ _ _ e3, (e4.same sZ).to t5⟩
      clear vals4
      generalize upd (upd H4 Z (.lst [])) F o' = H5 at hn t5 s5 hW5 hZ5 dl5 dy5 hta5 dx15 dx25 vals5
      have gv : valV (putK kvs k (V.ref Z)) k = some (V.ref Z) := by rw [valV_put, if_pos rfl]
      refine ⟨_, rfl, d1, _, rfl, .inl ⟨_, Sum.inr "signs", .inl (s5 _ _ a1), rfl, rfl⟩, _, rfl, ?_⟩
      refine for_it walk_str (fun j σ H' => SameX Z H5 H' ∧ (∃ us, H' Z = some (.lst us) ∧ DtAll K H' us (((A.L.take j).map (dl A B k)).map eK)) ∧ ∃ o5, σ = [some (.ref d1), some (.ref d2), some (.ref F), some (.ref W), some (.ref ta), o5])
        ⟨SameX.refl _ _, ⟨[], hZ5, by simp; exact .nil⟩, _, rfl⟩ (fun _ _ _ _ _ => trivial) (fun j x σ H6 H7 hj ⟨s6, ⟨us, hZ6, du⟩, o5, eσ⟩ yy => ?_) fun σ H6 ⟨s6, ⟨us, hZ6, du⟩, o5, eσ⟩ => ?_
      · obtain ⟨rfl, c, hc, rfl⟩ := yy
        subst eσ
        have hcL : A.L[j]? = some c := by rw [← Array.getElem?_toList, walk_strL] at hc; exact hc
        have jL : j < A.L.length := (List.getElem?_eq_some_iff.mp hcL).1
        have t6 : TLe H5 H7 := s6.to hZ5
        obtain ⟨φ, qf⟩ := hn.at
        have nd6 := hn.to t6 (by rw [qf, s6 _ _ qf (Ne.symm ZF)])
        have sH7 : Same H H7 := fun b o hb => s6 b o (s5 b o hb) (ne_of_none hb nZH)
        have hl1 : (hits A k.1 c).length < 60 := Nat.lt_of_le_of_lt (List.length_filter_le ..) laa
        have hl2 : (hits B k.2 c).length < 60 := Nat.lt_of_le_of_lt (List.length_filter_le ..) lbb
        refine ⟨_, rfl, _, rfl, k, F, putK kvs k (V.ref Z), V.ref Z, dy5.to t6, rfl, nd6, gv, .inl ⟨rfl, _, SqL.of hZ6⟩, ?_⟩
        refine ⟨_, rfl, _, rfl, ta, _, _, _, rfl, rfl, SqT.tle t6 hta5, rfl, _, rfl, d1, A, x1, k.1, c, rfl, hA.same sH7, dx15.to t6, by omega, hl1, fun g1 m1 H7b s7 dg1 ig1 => ?_⟩
        refine ⟨_, rfl, _, rfl, ta, _, _, _, rfl, rfl, SqT.tle s7.tle (SqT.tle t6 hta5), rfl, _, rfl, d2, B, x2, k.2, c, rfl, (hB.same sH7).same s7, (dx25.to t6).same s7, by omega, hl2, fun g2 m2 H8 s8 dg2 ig2 => ?_⟩
        refine ⟨by show 2 ≤ sizeLine; omega, fun t nt => ?_⟩
        have s9 := (s7.trans s8).trans (Same.new (o := .tup [g1, g2]) nt)
        have hZ9 := s9 _ _ hZ6
        have lu : us.length = j := by rw [du.length, List.length_map, List.length_map, List.length_take]; omega
        refine ⟨Z, us, _, rfl, rfl, hZ9, by omega, ?_⟩
        have tZ : TLe (upd H8 t (.tup [g1, g2])) (upd (upd H8 t (.tup [g1, g2])) Z (.lst (us ++ [.ref t]))) := TLe.lst hZ9
        refine ⟨(s6.trans s9.x).put, ⟨_, upd_same, ?_⟩, _, rfl⟩
        rw [take_one hcL, List.map_append, List.map_append]
        refine ((du.same s9).to tZ).append (.one (Dt.to ?_ tZ))
        have e1 := ig1.eq fun a ha => (ok.oa.arn a ha).2.2
        have e2 := ig2.eq fun a ha => (ok.ob.arn a ha).2.2
        have sN := Same.new (o := .tup [g1, g2]) nt
        refine Dt.ofKk (a := dl A B k c) (SqT.of upd_same) ?_ ?_
        · show Dt K _ g1 (eNs (goneF A k.1 c))
          rw [← e1]; exact (dg1.same s8).same sN
        · show Dt K _ g2 (eNs (goneF B k.2 c))
          rw [← e2]; exact dg2.same sN
      · subst eσ
        have tl : A.L.take ((tx A.L).cps.size) = A.L := by simp [tx]
        rw [tl] at du
        have t6 : TLe H5 H6 := s6.to hZ5
        obtain ⟨φ, qf⟩ := hn.at
        have nd6 := hn.to t6 (by rw [qf, s6 _ _ qf (Ne.symm ZF)])
        have hW6 := s6 _ _ hW5 (Ne.symm ZW)
        have sH6 : Same H H6 := fun b o hb => s6 b o (s5 b o hb) (ne_of_none hb nZH)
        have lu : us.length = A.L.length := by rw [du.length, List.length_map, List.length_map]
        refine ⟨_, rfl, .inl ⟨rfl, _, SqL.of hW6⟩, _, rfl, _, rfl, k, F, putK kvs k (V.ref Z), V.ref Z, dy5.to t6, rfl, nd6, gv, ?_⟩
        refine ⟨W, Z, zs, us, rfl, rfl, hW6, hZ6, by omega, ?_⟩
        have tW : TLe H6 (upd H6 W (.lst (zs ++ us))) := TLe.lst hW6
        refine ⟨_, ?_, zs ++ us, ks ++ A.L.map (dl A B k), putK kvs k (V.ref Z), _, _, rfl, sH6.put nWH, upd_same, ?_, nd6.to tW (upd_ne (Ne.symm WF)), fun x v hx => ?_, fun x hx c hc => ?_, ?_, fun x hx => ?_, fun x hx => ?_, by omega, rfl, ?_⟩
        · rw [List.length_append, List.length_map]; omega
        · rw [List.map_append]
          exact ((dl5.to t6).to tW).append (du.to tW)
        · rw [valV_put] at hx
          by_cases z : x = k
          · rw [if_pos z] at hx
            obtain rfl := Option.some.inj hx
            subst z
            exact ⟨Z, us, rfl, ZW, by rw [upd_ne ZW]; exact hZ6, du.to tW⟩
          · rw [if_neg z] at hx
            obtain ⟨a, us2, e1, e2, e3, e4, e5⟩ := vals5 x v hx
            exact ⟨a, us2, e1, e2, by rw [upd_ne e2]; exact s6 _ _ e4 e3, (e5.to t6).to tW⟩
        · rw [Kn, valV_put] at hx ⊢
          by_cases z : x = k
          · right; rw [z]; exact List.mem_append_right _ (List.mem_map.mpr ⟨c, hc, rfl⟩)
          · rw [if_neg z] at hx
            by_cases z2 : dl A B x c = k
            · left; rw [if_pos z2]; nofun
            · rw [if_neg z2]
              rcases clo x hx c hc with y | y
              · exact .inl y
              · rcases drop _ y with y | y
                · exact absurd y z2
                · exact .inr (List.mem_append_left _ y)
        · rw [Kn, valV_put]
          by_cases z2 : (A.fs, B.fs) = k
          · left; rw [if_pos z2]; nofun
          · rw [if_neg z2]
            rcases ini with y | y
            · exact .inl y
            · rcases drop _ y with y | y
              · exact absurd y z2
              · exact .inr (List.mem_append_left _ y)
        · rcases List.mem_append.mp hx with y | y
          · exact rng x (List.mem_append_left _ y)
          · obtain ⟨c, _, rfl⟩ := List.mem_map.mp y
            exact dn k c
        · rw [Kn, valV_put] at hx
          by_cases z : x = k
          · rw [z]; exact kD
          · rw [if_neg z] at hx; exact rng2 x hx
        · rw [List.length_append, List.length_map]; omega
  have hk0 : ks = [] := by
    rcases List.eq_nil_or_concat ks with z | ⟨a, b, z⟩
    · exact z
    · exact absurd ⟨a, b, by rw [z, List.concat_eq_append]⟩ hks
  subst hk0
  rw [show (!([] : List KK).isEmpty) = false from rfl]
  refine iteF ?_
  exact ⟨_, rfl, q F W kvs _ (s3.trans se) nF (ndW.same se) (by omega) (ini.resolve_right nofun) rng2 (fun x hx c hc => (clo x hx c hc).resolve_right nofun) fun x v h => (vals x v h).same se⟩
end K39
end Text_K39L14

section Text_K39L15
set_option Elab.async false set_option linter.all false set_option maxRecDepth 100000 set_option maxHeartbeats 4000000
/-! The living pairs. -/
namespace K39
open PySem PySem.Spec PyProof.Rows L2
variable {P : Program} {w : World} {K : PySem.W.Frag} {mg : Str → Option Value} {base : Heap}
def outB (A B : Rd) (x : KK) : Bool := ends A x.1 && !ends B x.2
theorem ends_iff {R : Rd} {l : List Nat} : ends R l = true ↔ ∃ q ∈ l, q ∈ R.ls := by
  unfold ends
  constructor
  · intro h
    cases e : l.filter fun q => decide (q ∈ R.ls) with
    | nil => rw [e] at h; cases h
    | cons q t =>
      have : q ∈ l.filter fun q => decide (q ∈ R.ls) := by rw [e]; exact List.mem_cons_self
      obtain ⟨h1, h2⟩ := List.mem_filter.mp this
      exact ⟨q, h1, of_decide_eq_true h2⟩
  · rintro ⟨q, h1, h2⟩
    cases e : l.filter fun q => decide (q ∈ R.ls) with
    | nil =>
      have : q ∈ l.filter fun q => decide (q ∈ R.ls) := List.mem_filter.mpr ⟨h1, decide_eq_true h2⟩
      rw [e] at this; cases this
    | cons q t => rfl
theorem outB_iff {A B : Rd} {x : KK} : outB A B x = true ↔ outP A B x := by
  unfold outB outP
  rw [Bool.and_eq_true, Bool.not_eq_true', ends_iff]
  refine and_congr_right fun _ => ?_
  rw [← ends_iff (R := B)]
  cases ends B x.2 <;> simp
theorem kn_put {κ : Type} [DecidableEq κ] {kvs : List (κ × V)} {k x : κ} {v : V} : Kn (putK kvs k v) x ↔ Kn kvs x ∨ x = k := by
  unfold Kn
  rw [valV_put]
  by_cases e : x = k
  · rw [if_pos e]; simp [e]
  · rw [if_neg e]; simp [e]
theorem kn_putAll {κ : Type} [DecidableEq κ] {x : κ} : ∀ {more kvs : List (κ × V)}, Kn (putAll kvs more) x ↔ Kn kvs x ∨ x ∈ more.map (·.1)
  | [], kvs => by simp [putAll]
  | p :: more, kvs => by
    show Kn (putAll (putK kvs p.1 p.2) more) x ↔ _
    rw [kn_putAll, kn_put, List.map_cons, List.mem_cons, or_assoc]
theorem kn_key {κ : Type} [DecidableEq κ] {kvs : List (κ × V)} {x : κ} : Kn kvs x ↔ x ∈ kvs.map (·.1) := ⟨val_key, val_mem⟩
/-- pairs that a comprehension laid -/
theorem pairs_of_all {κ : Type} [DecidableEq κ] {E : Enc κ} {H : Hp} {v : V} : ∀ {as : List κ} {us : List V}, PAll (fun x y H => ∃ p, y = .ref p ∧ PairAts K H E p (x, v)) as us H →
    ∃ ps : List Addr, us = ps.map V.ref ∧ Paired (PairAts K H E) ps (as.map fun x => (x, v))
  | _, _, .nil => ⟨[], rfl, .nil⟩
  | _, _, .cons ⟨p, e, h⟩ t => by
    obtain ⟨ps, e2, h2⟩ := pairs_of_all t
    exact ⟨p :: ps, by rw [e, e2]; rfl, .cons h h2⟩
theorem PairAts.to {κ : Type} [DecidableEq κ] {E : Enc κ} {H H' : Hp} {p : Addr} {kv : κ × V} (t : TLe H H') (h : PairAts K H E p kv) : PairAts K H' E p kv := by
  obtain ⟨a, h1, h2⟩ := h
  exact ⟨a, SqT.tle t h1, h2.to t⟩
theorem allK_small {A B : Rd} (ok : TwoOk A B) {x : KK} (h : x ∈ allK A B) : x.1.length ≤ 60 ∧ x.2.length ≤ 60 := by
  obtain ⟨h1, h2⟩ := allK_mem.mp h
  obtain ⟨a, b⟩ := subs_ok h1
  obtain ⟨c, d⟩ := subs_ok h2
  have := asc_len a b
  have := asc_len c d
  have := ok.a4
  have := ok.b4
  omega
def sp_l_live (w : World) (K : PySem.W.Frag) : Sp := fun vs H Q E => ∃ (F d1 d2 : Addr) (A B : Rd) (kvs : List (KK × V)) (W : Addr), vs = [.ref F, .ref d1, .ref d2] ∧ TwoOk A B ∧ LRd K H d1 A ∧ LRd K H d2 B ∧ ND w K H cK F kvs ∧ kvs.length ≤ 256 ∧ (∀ x, Kn kvs x → x ∈ allK A B) ∧ (∀ x, Kn kvs x → ∀ c ∈ A.L, Kn kvs (dl A B x c)) ∧ (∀ x v, valV kvs x = some v → MapV K H A B W x v) ∧ ∀ (G : Addr) (lv : List (KK × V)) H', Same H H' → H G = none → ND w K H' cK G lv → lv.length ≤ 256 → (∀ x, Kn lv x ↔ Kn kvs x ∧ live A B x) → Q (.ref G) H'
abbrev N_l_live : List Str := ["_law_found", "_law_reader", "_law_sole_here", "_law_live_here", "_law_turn", "_law_more", "_law_pair", "_law_there"]
theorem sc_l_live : FnScope N_l_live ["_law_found", "_law_reader", "_law_sole_here"] (defScope s_l_live) := ⟨rfl, rfl, rfl, by decide +kernel, rfl, by decide +kernel, by decide +kernel⟩
theorem p_l_live (T : Tx K mg) : Fn P w K mg base 2 "_law_live" (sp_l_live w K) := by
  refine fn_mk T.d_l_live T.g_l_live sc_l_live (fun _ _ _ _ _ _ us h => by match us, h with | [_, _, _], _ => rfl) (fun vs H Q E ⟨F, d1, d2, A, B, kvs, W, e, ok, hA, hB, ndF, lk, rng, clo, vals, q⟩ => by rw [e]; rfl) fun cdv A outer s H vs Q E hr ⟨F, d1, d2, A, B, kvs, W, e, ok, hA, hB, ndF, lk, rng, clo, vals, q⟩ => ?_
  subst e
  have hu := hr.units
  have hu1 := hu_of hr
  have nd := sc_l_live.nd
  refine ⟨_, (pss_cons (ps_set (i := 3) nd rfl (Or.inr rfl) (pe_callTy (cr_ndOf rfl hu cK) (by rfl) T.b_dict (by decide +kernel) (pa_cons (pe_lc (own := [("_law_pair", 6)]) rfl nd (pi_nd cK (pv 0)) (blkOk_by (N := N_l_live) (sc := defScope s_l_live) (by decide +kernel)) (fun _ _ _ _ _ => (pg_name (i := 6) nd rfl (Or.inl rfl) (Or.inr rfl))) (fun _ _ _ _ _ => (pts_one (PW.pt (pw_and (pt_val (cg (p_l_does_end T) hr (pa_cons (pv 1) (pa_cons (pe_ix (show IxR _ (rIxT K) from ix_tup) (pv 6) pe_int (fun _ _ => rfl)) pa_nil)))) (pw_and1 (pt_not (pt_val (cg (p_l_does_end T) hr (pa_cons (pv 2) (pa_cons (pe_ix (show IxR _ (rIxT K) from ix_tup) (pv 6) pe_int (fun _ _ => rfl)) pa_nil)))))))))) (fun _ _ _ _ _ => (pe_tup (pa_cons (pv 6) (pa_cons pe_bl pa_nil))))) pa_nil)))
      (pss_cons (ps_for PassesOwn.never rfl (pi_range1 (by rfl) T.b_range (pa_cons (pe_callB (cr_ndLen cK) (by rfl) T.b_len (by decide +kernel) (pa_cons (pv 0) pa_nil)) pa_nil)) (pg_name (i := 4) nd rfl (Or.inl rfl))
        (pss_cons (ps_setLc (i := 5) (own := [("_law_pair", 6)]) rfl nd rfl rfl (sw_true rfl rfl rfl (by decide +kernel)) (pi_nd cK (pv 0)) (blkOk_by (N := N_l_live) (sc := defScope s_l_live) (by decide +kernel)) (fun _ _ _ _ _ => (pg_name (i := 6) nd rfl (Or.inl rfl) (Or.inr rfl))) (fun _ _ _ _ _ => (pts_one (PW.pt (pw_and (pt_cmpR (show OpR _ _ (rNdIn w K cK true) from (op_ndNotIn hu cK)) (pv 6) (pv 3) rfl) (pw_and1 (pt_cmpR (show OpR _ _ (rNeD K) from (op_neD hu)) (pe_lc (own := [("_law_there", 7)]) rfl nd (show PI _ _ _ (iList K _) from pi_list (show PE _ _ (tNdGet w K cK _ _) from (pe_ndGet hu cK (pv 0) (pv 6) (fun _ _ => rfl)))) (blkOk_by (by rfl)) (fun _ _ _ _ _ => (pg_name (i := 7) nd rfl (Or.inl rfl) (Or.inr rfl))) (fun _ _ _ _ _ => (pts_one (pt_cmpR (show OpR _ _ (rNdIn w K cK false) from (op_ndIn hu cK)) (pv 7) (pv 3) rfl))) (fun _ _ _ _ _ => (pv 7))) (pe_lst pa_nil) (nomark _))))))) (fun _ _ _ _ _ => (pv 6)))
        (pss_one (ps_expr (pe_ndUpd hu cK (pv 3) (pe_callTy (cr_ndOf rfl hu cK) (by rfl) T.b_dict (by decide +kernel) (pa_cons (pe_lc (own := [("_law_pair", 6)]) rfl nd (pi_list (pv 5)) (blkOk_by (N := N_l_live) (sc := defScope s_l_live) (by decide +kernel)) (fun _ _ _ _ _ => (pg_name (i := 6) nd rfl (Or.inl rfl) (Or.inr rfl))) (fun _ _ _ _ _ => pts_nil) (fun _ _ _ _ _ => (pe_tup (pa_cons (pv 6) (pa_cons pe_bl pa_nil))))) pa_nil)) ⟨rfl, rfl, rfl, rfl⟩)))))
      (pss_one (ps_ret (pv 3))))), ?_⟩
  have l6 := sz60
  have l4 := ok.oa.lets.four
  obtain ⟨xs0, ep0, g1, g2, g3, g4, ndk⟩ := id ndF
  have sh : Shut A B (kvs.map (·.1)) := ⟨ndk, fun x hx c hc => kn_key.mp (clo x (kn_key.mpr hx) c hc)⟩
  -- the first ones
  refine ⟨_, rfl, F, kvs, rfl, ndF, fun J xs ep wlk hd dk => fun D nD => ?_⟩
  refine comp_it wlk grows_at (kvs.map (·.1)) (by simp) (by omega) (outB A B) (fun x y H => ∃ p, y = .ref p ∧ PairAts K H cK p (x, .bl true)) (fun x y H H' t h => let ⟨p, e, h⟩ := h; ⟨p, e, h.to t⟩) nD (fun H' sm => sm _ _ hd) (fun j x k H' H2 hk sm y => ?_) fun us H1 s1 hu pu => ?_
  · obtain ⟨rfl, hx⟩ := y
    obtain ⟨dd, hd1, hd2⟩ := dk.get' hx
    have mk : k ∈ kvs.map (·.1) := List.mem_of_getElem? hk
    rw [show kvs.map (fun p => cK.e p.1) = (kvs.map (·.1)).map eK by rw [List.map_map]; rfl, List.getElem?_map, hk] at hd1
    obtain rfl := Option.some.inj hd1
    have hd3 : Dt K H2 x (eK k) := hd2.same sm
    obtain ⟨ta, x1, x2, rfl, hta, dx1, dx2⟩ := hd3.kk
    obtain ⟨n1, n2⟩ := allK_small ok (rng k (kn_key.mpr mk))
    refine turn_nameT rfl fun C1 C2 c1 c2 => ⟨_, rfl, _, rfl, ta, _, _, _, rfl, rfl, hta, rfl, d1, A, x1, k.1, rfl, hA.same sm, dx1, n1, fun H3 s3 => ⟨_, rfl, ?_⟩⟩
    cases e1 : ends A k.1 with
    | false => exact iteF (c1 (by unfold outB; rw [e1]; rfl) _ s3)
    | true =>
      refine iteT ⟨_, rfl, _, rfl, ta, _, _, _, rfl, rfl, SqT.tle s3.tle hta, rfl, d2, B, x2, k.2, rfl, (hB.same sm).same s3, dx2.same s3, n2, fun H4 s4 => ⟨_, rfl, ?_⟩⟩
      cases e2 : ends B k.2 with
      | true => exact iteF (c1 (by unfold outB; rw [e1, e2]; rfl) _ (s3.trans s4))
      | false =>
        refine iteT ⟨_, rfl, by show 2 ≤ sizeLine; omega, fun t nt => ?_⟩
        have s5 := Same.new (o := .tup [.ref ta, .bl true]) nt
        exact c2 (by unfold outB; rw [e1, e2]; rfl) _ _ ((s3.trans s4).trans s5) ⟨t, rfl, ta, SqT.of upd_same, hd3.same ((s3.trans s4).trans s5)⟩
  obtain ⟨ps, rfl, pp⟩ := pairs_of_all pu
  refine ⟨D, ps, _, rfl, SqL.of hu, pp, fun G oG nG ndG => ?_⟩
  have sG := Same.new (o := oG) nG
  have nGH : H G = none := none_of_same s1 nG
  have s01 := s1.trans sG
  have kn0 : ∀ x, Kn (putAll ([] : List (KK × V)) (((kvs.map (·.1)).filter (outB A B)).map fun x => (x, V.bl true))) x ↔ Kn kvs x ∧ near A B 0 x := fun x => by
    rw [kn_putAll, near_zero, ← outB_iff, List.map_map, kn_key (kvs := kvs)]
    have : (fun x : KK × V => x.1) ∘ (fun x : KK => (x, V.bl true)) = id := rfl
    rw [this, List.map_id, List.mem_filter]
    constructor
    · rintro (h | h)
      · exact absurd rfl h
      · exact h
    · exact fun h => .inr h
  have GF : G ≠ F := by
    intro z; subst z; rw [g1] at nGH; cases nGH
  generalize putAll ([] : List (KK × V)) (((kvs.map (·.1)).filter (outB A B)).map fun x => (x, V.bl true)) = lv0 at ndG kn0
  refine ⟨_, rfl, F, kvs, rfl, ndF.same s01, _, rfl, by omega, by omega, ?_⟩
  refine for_it walk_range (fun i σ H' => Same H H' ∧ (∃ lv, ND w K H' cK G lv ∧ ∀ x, Kn lv x ↔ Kn kvs x ∧ near A B i x) ∧ ∃ o4 o5, σ = [some (.ref F), some (.ref d1), some (.ref d2), some (.ref G), o4, o5, none, none])
    ⟨s01, ⟨lv0, ndG, kn0⟩, none, none, rfl⟩ (fun _ _ _ _ _ => trivial) (fun i x σ H2 H3 hi ⟨s2, ⟨lv, ndL, kn⟩, o4, o5, eσ⟩ yy => ?_) fun σ H2 ⟨s2, ⟨lv, ndL, kn⟩, o4, o5, eσ⟩ => ?_
  · obtain ⟨rfl, rfl⟩ := yy
    subst eσ
    refine ⟨_, rfl, F, kvs, rfl, ndF.same s2, fun J xs ep wlk hd dk => fun D nD => ?_⟩
    refine comp_it wlk grows_at (kvs.map (·.1)) (by simp) (by omega) (fun x => (valV lv x).isNone && A.L.any fun c => (valV lv (dl A B x c)).isSome) (fun x y H => Dt K H y (eK x)) (fun x y H H' t h => h.to t) nD (fun H' sm => sm _ _ hd) (fun j x k H' H4 hk sm y => ?_) fun us H4 s4 hu pu => ?_
    · obtain ⟨rfl, hx⟩ := y
      obtain ⟨dd, hd1, hd2⟩ := dk.get' hx
      have mk : k ∈ kvs.map (·.1) := List.mem_of_getElem? hk
      rw [show kvs.map (fun p => cK.e p.1) = (kvs.map (·.1)).map eK by rw [List.map_map]; rfl, List.getElem?_map, hk] at hd1
      obtain rfl := Option.some.inj hd1
      have hd3 : Dt K H4 x (eK k) := hd2.same sm
      have nd4 := ndL.same sm
      refine turn_nameT rfl fun C1 C2 c1 c2 => ⟨_, rfl, _, rfl, k, G, lv, hd3, rfl, nd4, _, rfl, ?_⟩
      cases e1 : valV lv k with
      | some v => exact iteF (c1 (by rw [e1]; rfl) _ (Same.refl _))
      | none =>
        refine iteT ?_
        have kk : Kn kvs k := kn_key.mpr mk
        obtain ⟨v, hv⟩ : ∃ v, valV kvs k = some v := by
          cases e : valV kvs k with
          | none => exact absurd e kk
          | some v => exact ⟨v, rfl⟩
        obtain ⟨a, zs, rfl, aW, ha, dz⟩ := ((vals k v hv).same s2).same sm
        refine ⟨_, rfl, _, rfl, k, F, kvs, .ref a, hd3, rfl, (ndF.same s2).same sm, hv, a, rfl, ⟨_, SqL.of ha⟩, fun D2 nD2 => ?_⟩
        have lz : zs.length = (A.L.map (dl A B k)).length := by rw [dz.length, List.length_map]
        have lz2 : (A.L.map (dl A B k)).length = A.L.length := List.length_map ..
        refine comp_it (walk_list (xs := zs)) grows_at (A.L.map (dl A B k)) lz.symm (by omega) (fun x => (valV lv x).isSome) (fun x y H => Dt K H y (eK x)) (fun x y H H' t h => h.to t) nD2 (fun H' sm => SqL.of (sm _ _ ha)) (fun j x b H' H6 hb sm6 y => ?_) fun ws H6 sm6 hw pw => ?_
        · obtain ⟨rfl, hx⟩ := y
          obtain ⟨dd, hd1, hd2⟩ := dz.get' hx
          rw [List.getElem?_map, hb] at hd1
          obtain rfl := Option.some.inj hd1
          have hd6 : Dt K H6 x (eK b) := hd2.same sm6
          refine turn_nameT rfl fun C1 C2 c1 c2 => ⟨_, rfl, _, rfl, b, G, lv, hd6, rfl, nd4.same sm6, _, rfl, ?_⟩
          cases e2 : valV lv b with
          | some v => exact iteT ⟨_, rfl, c2 (by rw [e2]; rfl) _ _ (Same.refl _) hd6⟩
          | none => exact iteF (c1 (by rw [e2]; rfl) _ (Same.refl _))
        have pd := DtAll.of (K := K) eK pw
        refine ⟨by show 0 ≤ sizeLine; omega, fun e0 ne0 => ?_⟩
        have se := Same.new (o := .lst []) ne0
        have fe : (A.L.any fun c => (valV lv (dl A B k c)).isSome) = !((A.L.map (dl A B k)).filter fun x => (valV lv x).isSome).isEmpty := by
          generalize A.L = l
          induction l with
          | nil => rfl
          | cons c l ih =>
            rw [List.any_cons, List.map_cons, List.filter_cons, ih]
            cases (valV lv (dl A B k c)).isSome <;> rfl
        refine ⟨.list (((A.L.map (dl A B k)).filter fun x => (valV lv x).isSome).map eK), .list [], .lst (SqL.of (se _ _ hw)) (pd.same se).dps, .lst (SqL.of upd_same) .nil, shaped_map eK_ok _, rfl, ?_⟩
        rw [eqv_nil, ← fe]
        refine ⟨_, rfl, ?_⟩
        cases e3 : (A.L.any fun c => (valV lv (dl A B k c)).isSome) with
        | true => exact iteT ⟨_, rfl, c2 (by rw [e1, e3]; rfl) _ _ (sm6.trans se) (hd3.same (sm6.trans se))⟩
        | false => exact iteF (c1 (by rw [e1, e3]; rfl) _ (sm6.trans se))
    have pd := DtAll.of (K := K) eK pu
    have kms : ∀ x, x ∈ ((kvs.map (·.1)).filter fun x => (valV lv x).isNone && A.L.any fun c => (valV lv (dl A B x c)).isSome) ↔ Kn kvs x ∧ ¬ Kn lv x ∧ ∃ c ∈ A.L, Kn lv (dl A B x c) := fun x => by
      rw [List.mem_filter, ← kn_key, Bool.and_eq_true, List.any_eq_true]
      refine and_congr_right fun _ => and_congr ?_ (exists_congr fun c => and_congr_right fun _ => ?_)
      · unfold Kn; cases valV lv x <;> simp
      · unfold Kn; cases valV lv (dl A B x c) <;> simp
    have lms : ((kvs.map (·.1)).filter fun x => (valV lv x).isNone && A.L.any fun c => (valV lv (dl A B x c)).isSome).length ≤ 256 := Nat.le_trans (List.length_filter_le ..) (by rw [List.length_map]; exact lk)
    generalize ((kvs.map (·.1)).filter fun x => (valV lv x).isNone && A.L.any fun c => (valV lv (dl A B x c)).isSome) = ms at pd kms lms
    have lu : us.length = ms.length := by rw [pd.length, List.length_map]
    have nd4 := ndL.same s4
    refine ⟨_, rfl, G, rfl, ⟨lv, nd4⟩, ?_⟩
    refine ⟨_, rfl, D, rfl, ⟨_, SqL.of hu⟩, fun D2 nD2 => ?_⟩
    refine comp_it (walk_list (xs := us)) grows_at ms lu.symm (by omega) (fun _ => true) (fun x y H => ∃ p, y = .ref p ∧ PairAts K H cK p (x, .bl true)) (fun x y H H' t h => let ⟨p, e, h⟩ := h; ⟨p, e, h.to t⟩) nD2 (fun H' sm => SqL.of (sm _ _ hu)) (fun j x b H' H6 hb sm6 y => ?_) fun ws H6 sm6 hw pw => ?_
    · obtain ⟨rfl, hx⟩ := y
      obtain ⟨dd, hd1, hd2⟩ := pd.get' hx
      rw [List.getElem?_map, hb] at hd1
      obtain rfl := Option.some.inj hd1
      have hd6 : Dt K H6 x (eK b) := hd2.same sm6
      obtain ⟨ta, x1, x2, rfl, hta, dx1, dx2⟩ := hd6.kk
      refine turn_name rfl fun C c2 => ⟨_, rfl, by show 2 ≤ sizeLine; omega, fun t nt => ?_⟩
      have s5 := Same.new (o := .tup [.ref ta, .bl true]) nt
      exact c2 _ _ s5 ⟨t, rfl, ta, SqT.of upd_same, hd6.same s5⟩
    rw [filt] at pw
    obtain ⟨ps, rfl, pp⟩ := pairs_of_all pw
    refine ⟨D2, ps, _, rfl, SqL.of hw, pp, fun G2 o2 nG2 ndG2 => ?_⟩
    have s7 := Same.new (o := o2) nG2
    have nd7 := (nd4.same sm6).same s7
    have GG : G ≠ G2 := by
      obtain ⟨φ, qf⟩ := (nd4.same sm6).at
      exact ne_of_none qf nG2
    have kn2 : ∀ x, Kn (putAll ([] : List (KK × V)) (ms.map fun x => (x, V.bl true))) x ↔ x ∈ ms := fun x => by
      rw [kn_putAll, List.map_map]
      have : (fun x : KK × V => x.1) ∘ (fun x : KK => (x, V.bl true)) = id := rfl
      rw [this, List.map_id]
      exact ⟨fun h => h.resolve_left fun z => z rfl, .inr⟩
    have l2 : (putAll ([] : List (KK × V)) (ms.map fun x => (x, V.bl true))).length ≤ 256 := by
      have := putAll_len (ms.map fun x => (x, V.bl true)) ([] : List (KK × V))
      rw [List.length_map] at this
      simp at this
      omega
    have em : lv = [] → putAll ([] : List (KK × V)) (ms.map fun x => (x, V.bl true)) = [] := fun z => by
      have : ms = [] := by
        apply List.eq_nil_iff_forall_not_mem.mpr
        intro x hx
        obtain ⟨_, _, c, _, h⟩ := (kms x).mp hx
        rw [z] at h
        exact h rfl
      rw [this]; rfl
    generalize putAll ([] : List (KK × V)) (ms.map fun x => (x, V.bl true)) = mv at ndG2 kn2 l2 em
    have llv : lv.length ≤ 256 := by
      obtain ⟨_, _, _, _, _, _, h5⟩ := id ndL
      have := nodup_len (lv.map (·.1)) (kvs.map (·.1)) h5 fun x hx => kn_key.mp ((kn x).mp (kn_key.mpr hx)).1
      rw [List.length_map, List.length_map] at this
      omega
    refine ⟨lv, G2, mv, nd7, rfl, ndG2, GG, ?_, by omega, fun o' hn => ?_⟩
    · by_cases z : lv = []
      · exact .inr (em z)
      · exact .inl z
    refine ⟨(((s2.trans s4).trans sm6).trans s7).put nGH, ⟨_, hn, fun x => ?_⟩, _, _, rfl⟩
    rw [kn_putAll, ← kn_key, kn2, kms, near_succ, kn]
    constructor
    · rintro (⟨h1, h2⟩ | ⟨h1, h2, c, hc, h3⟩)
      · exact ⟨h1, .inl h2⟩
      · exact ⟨h1, .inr ⟨c, hc, ((kn _).mp h3).2⟩⟩
    · rintro ⟨h1, h2 | ⟨c, hc, h3⟩⟩
      · exact .inl ⟨h1, h2⟩
      · by_cases z : near A B i x
        · exact .inl ⟨h1, z⟩
        · exact .inr ⟨h1, fun y => z y.2, c, hc, (kn _).mpr ⟨clo x h1 c hc, h3⟩⟩
  · subst eσ
    refine ⟨_, rfl, q G lv _ s2 nGH ndL ?_ fun x => ?_⟩
    · obtain ⟨_, _, _, _, _, _, h5⟩ := id ndL
      have := nodup_len (lv.map (·.1)) (kvs.map (·.1)) h5 fun x hx => kn_key.mp ((kn x).mp (kn_key.mpr hx)).1
      rw [List.length_map, List.length_map] at this
      omega
    · rw [kn]
      refine and_congr_right fun h => ?_
      have := sh.near (kn_key.mp h)
      rw [List.length_map] at this
      rw [Int.toNat_natCast]
      exact this
end K39
end Text_K39L15

section Text_K39L16
set_option Elab.async false set_option linter.all false set_option maxRecDepth 100000 set_option maxHeartbeats 4000000
/-! The law's count. -/
namespace K39
open PySem PySem.Spec PyProof.Rows L2
variable {P : Program} {w : World} {K : PySem.W.Frag} {mg : Str → Option Value} {base : Heap}
theorem alikeNs : ∀ l m : List Nat, PySem.W.alikeAll (l.map eN) (m.map eN) = true
  | [], _ => by simp [PySem.W.alikeAll]
  | _ :: _, [] => by simp [PySem.W.alikeAll]
  | x :: l, y :: m => by
    rw [List.map_cons, List.map_cons, PySem.W.alikeAll, alikeNs l m]; rfl
theorem eK_alike (l : List KK) : PySem.W.AllAlike (l.map eK) := by
  intro a ha b hb
  obtain ⟨x, _, rfl⟩ := List.mem_map.mp ha
  obtain ⟨y, _, rfl⟩ := List.mem_map.mp hb
  simp only [eK, eNs, PySem.W.alike, PySem.W.alikeAll, alikeNs, Bool.and_self]
theorem eK_sortable (l : List KK) : PySem.W.Sortable (l.map eK) := by
  refine .inl fun a ha => ?_
  obtain ⟨x, _, rfl⟩ := List.mem_map.mp ha
  exact ⟨_, _, rfl⟩
theorem eK_depth (l : List KK) : ∀ d ∈ l.map eK, d.depth ≤ 32 := by
  intro a ha
  obtain ⟨x, _, rfl⟩ := List.mem_map.mp ha
  have c1 := (canAll eN_ok x.1).2
  have c2 := (canAll eN_ok x.2).2
  simp only [eK, eNs, PyData.depth, PyData.depthAll]
  omega
/-! ### rows of numbers -/
abbrev hsV (hs : List (KK × Int)) : List (KK × V) := hs.map fun p => (p.1, V.int p.2)
def putI (hs : List (KK × Int)) (x : KK) (z : Int) : List (KK × Int) := if (hs.any fun p => decide (p.1 = x)) = true then hs.map (fun p => if p.1 = x then (p.1, z) else p) else hs ++ [(x, z)]
theorem putI_V (hs : List (KK × Int)) (x : KK) (z : Int) : hsV (putI hs x z) = putK (hsV hs) x (.int z) := by
  unfold putI putK hsV
  have e : ((hs.map fun p => (p.1, V.int p.2)).any fun kv => decide (kv.1 = x)) = hs.any fun p => decide (p.1 = x) := by rw [List.any_map]; rfl
  rw [e]
  split
  · rw [List.map_map, List.map_map]
    refine List.map_congr_left fun p _ => ?_
    show (let q : KK × Int := if p.1 = x then (p.1, z) else p; (q.1, V.int q.2)) = if p.1 = x then (p.1, V.int z) else (p.1, V.int p.2)
    by_cases h : p.1 = x
    · rw [if_pos h, if_pos h]
    · rw [if_neg h, if_neg h]
  · rw [List.map_append]; rfl
theorem hsV_keys (hs : List (KK × Int)) : (hsV hs).map (·.1) = hs.map (·.1) := by rw [List.map_map]; rfl
def valI (hs : List (KK × Int)) (x : KK) : Int := match valV (hsV hs) x with
  | some (.int n) => n
  | _ => 0
theorem valI_mem {hs : List (KK × Int)} (nd : (hs.map (·.1)).Nodup) {p : KK × Int} (hp : p ∈ hs) : valV (hsV hs) p.1 = some (.int p.2) := by
  induction hs with
  | nil => cases hp
  | cons q hs ih =>
    obtain ⟨h1, h2⟩ := List.nodup_cons.mp nd
    rcases List.mem_cons.mp hp with e | e
    · rw [e]; exact valV_pos rfl
    · have ne : (q.1, V.int q.2).1 ≠ p.1 := fun z => h1 (List.mem_map.mpr ⟨p, e, Eq.symm z⟩)
      show valV ((q.1, V.int q.2) :: hsV hs) p.1 = _
      rw [valV_neg ne]; exact ih h2 e
theorem valI_of {hs : List (KK × Int)} (nd : (hs.map (·.1)).Nodup) {p : KK × Int} (hp : p ∈ hs) : valI hs p.1 = p.2 := by
  unfold valI; rw [valI_mem nd hp]
theorem valI_some {hs : List (KK × Int)} (nd : (hs.map (·.1)).Nodup) {x : KK} (hx : x ∈ hs.map (·.1)) : valV (hsV hs) x = some (.int (valI hs x)) ∧ (x, valI hs x) ∈ hs := by
  obtain ⟨p, hp, rfl⟩ := List.mem_map.mp hx
  rw [valI_of nd hp]
  exact ⟨valI_mem nd hp, hp⟩
theorem valI_none {hs : List (KK × Int)} {x : KK} (hx : x ∉ hs.map (·.1)) : valV (hsV hs) x = none ∧ valI hs x = 0 := by
  have : valV (hsV hs) x = none := by
    cases e : valV (hsV hs) x with
    | none => rfl
    | some v =>
      have := val_key (kvs := hsV hs) (k := x) (by rw [e]; nofun)
      rw [hsV_keys] at this
      exact absurd this hx
  exact ⟨this, by unfold valI; rw [this]⟩
theorem valI_get {hs : List (KK × Int)} (nd : (hs.map (·.1)).Nodup) (x : KK) : (valV (hsV hs) x).getD (.int 0) = .int (valI hs x) := by
  by_cases hx : x ∈ hs.map (·.1)
  · rw [(valI_some nd hx).1]; rfl
  · rw [(valI_none hx).1, (valI_none hx).2]; rfl
theorem putI_keys {hs : List (KK × Int)} {x y : KK} {z : Int} : y ∈ (putI hs x z).map (·.1) ↔ y ∈ hs.map (·.1) ∨ y = x := by
  have := kn_put (kvs := hsV hs) (k := x) (x := y) (v := .int z)
  rw [← putI_V, kn_key, kn_key, hsV_keys, hsV_keys] at this
  exact this
theorem putI_sum {hs : List (KK × Int)} (nd : (hs.map (·.1)).Nodup) (x : KK) (n : Int) (g : KK → Int) : ls_ (putI hs x (valI hs x + n)) (fun p => p.2 * g p.1) = ls_ hs (fun p => p.2 * g p.1) + n * g x := by
  unfold putI
  by_cases h : x ∈ hs.map (·.1)
  · have a : (hs.any fun p => decide (p.1 = x)) = true := by
      obtain ⟨p, hp, e⟩ := List.mem_map.mp h
      exact List.any_eq_true.mpr ⟨p, hp, decide_eq_true e⟩
    rw [if_pos a, ls_map]
    have hp := (valI_some nd h).2
    have ndp : hs.Nodup := by
      unfold List.Nodup at nd ⊢
      rw [List.pairwise_map] at nd
      exact nd.imp fun ne e => ne (by rw [e])
    have e : ls_ hs (fun p => (if p.1 = x then (p.1, valI hs x + n) else p).2 * g (if p.1 = x then (p.1, valI hs x + n) else p).1) = ls_ hs fun p => p.2 * g p.1 + if p = (x, valI hs x) then n * g p.1 else 0 := by
      refine ls_congr fun p hp' => ?_
      by_cases e : p.1 = x
      · have e2 : p = (x, valI hs x) := by
          rw [← e, valI_of nd hp']
        rw [if_pos e, if_pos e2]
        show (valI hs x + n) * g p.1 = p.2 * g p.1 + n * g p.1
        rw [Int.add_mul, ← e, valI_of nd hp']
      · rw [if_neg e, if_neg (fun z => e (by rw [z]))]; omega
    rw [e, ls_add, ls_pick ndp hp fun p => n * g p.1]
  · have a : ¬ (hs.any fun p => decide (p.1 = x)) = true := by
      intro z
      obtain ⟨p, hp, e⟩ := List.any_eq_true.mp z
      exact h (List.mem_map.mpr ⟨p, hp, of_decide_eq_true e⟩)
    rw [if_neg a, ls_app, ls_cons, ls_nil, (valI_none h).2]
    simp
theorem putI_pos {hs : List (KK × Int)} {x : KK} {z : Int} (h : ∀ p ∈ hs, 0 < p.2) (hz : 0 < z) : ∀ p ∈ putI hs x z, 0 < p.2 := by
  intro p hp
  unfold putI at hp
  split at hp
  · obtain ⟨q, hq, rfl⟩ := List.mem_map.mp hp
    split
    · exact hz
    · exact h q hq
  · rcases List.mem_append.mp hp with y | y
    · exact h p y
    · rw [List.mem_singleton.mp y]; exact hz
theorem valI_nonneg {hs : List (KK × Int)} (nd : (hs.map (·.1)).Nodup) (h : ∀ p ∈ hs, 0 < p.2) (x : KK) : 0 ≤ valI hs x := by
  by_cases hx : x ∈ hs.map (·.1)
  · have := h _ (valI_some nd hx).2
    exact Int.le_of_lt this
  · rw [(valI_none hx).2]; exact Int.le_refl _
/-- what the law finds due -/
def DueV (A B : Rd) (v : V) : Prop := (v = .non ∧ ∀ N, ∃ k, N ≤ k ∧ cnt A B k (A.fs, B.fs) ≠ 0) ∨ ∃ i, i ≤ 257 ∧ v = .int (sm (fun k => cnt A B k (A.fs, B.fs)) i) ∧ ∀ k, i ≤ k → cnt A B k (A.fs, B.fs) = 0
open Classical in
/-- one sign on, from x -/
noncomputable def nxt (A B : Rd) (g : KK → Int) (x : KK) (l : List Nat) : Int := ls_ l fun c => if live A B (dl A B x c) then g (dl A B x c) else 0
/-- the row that is being laid: keys below i, and key i with j signs -/
structure Lay (A B : Rd) (F : List KK) (hs : List (KK × Int)) (ks : List KK) (x : KK) (l : List Nat) (nw : List (KK × Int)) : Prop where
  nd : (nw.map (·.1)).Nodup
  mem : ∀ p ∈ nw, p.1 ∈ F ∧ live A B p.1 ∧ 0 < p.2
  sum : ∀ g : KK → Int, ls_ nw (fun p => p.2 * g p.1) = ls_ ks (fun y => valI hs y * nxt A B g y A.L) + valI hs x * nxt A B g x l
theorem nxt_nil (A B : Rd) (g : KK → Int) (x : KK) : nxt A B g x [] = 0 := rfl
theorem nodup_putI {hs : List (KK × Int)} {x : KK} {z : Int} (nd : (hs.map (·.1)).Nodup) : ((putI hs x z).map (·.1)).Nodup := by
  have := nodup_put (kvs := hsV hs) (k := x) (y := V.int z) (by rw [hsV_keys]; exact nd)
  rwa [← putI_V, hsV_keys] at this
section
variable {A B : Rd} {F : List KK} {hs nw : List (KK × Int)} {ks : List KK} {x : KK} {l : List Nat} {c : Nat}
theorem Lay.skip (h : Lay A B F hs ks x l nw) (d : ¬ live A B (dl A B x c)) : Lay A B F hs ks x (l ++ [c]) nw where
  nd := h.nd
  mem := h.mem
  sum := fun g => by
    rw [h.sum g]
    unfold nxt
    rw [ls_app, ls_cons, ls_nil, if_neg d]; simp
theorem Lay.add (h : Lay A B F hs ks x l nw) (d : live A B (dl A B x c)) (hF : dl A B x c ∈ F) (hp : 0 < valI hs x) : Lay A B F hs ks x (l ++ [c]) (putI nw (dl A B x c) (valI nw (dl A B x c) + valI hs x)) where
  nd := nodup_putI h.nd
  mem := fun p hp' => by
    have hk : p.1 ∈ (putI nw (dl A B x c) (valI nw (dl A B x c) + valI hs x)).map (·.1) := List.mem_map.mpr ⟨p, hp', rfl⟩
    have hv := putI_pos (fun p hp => (h.mem p hp).2.2) (by have := valI_nonneg h.nd (fun p hp => (h.mem p hp).2.2) (dl A B x c); omega) p hp'
    rcases putI_keys.mp hk with z | z
    · obtain ⟨q, hq, e⟩ := List.mem_map.mp z
      have := h.mem q hq
      rw [e] at this
      exact ⟨this.1, this.2.1, hv⟩
    · rw [z]; exact ⟨hF, d, hv⟩
  sum := fun g => by
    rw [putI_sum h.nd, h.sum g]
    unfold nxt
    rw [ls_app, ls_cons, ls_nil, if_pos d, Int.add_zero, Int.mul_add]; omega
theorem Lay.row (h : Lay A B F hs ks x A.L nw) (y : KK) : Lay A B F hs (ks ++ [x]) y [] nw where
  nd := h.nd
  mem := h.mem
  sum := fun g => by
    rw [h.sum g, nxt_nil, ls_app, ls_cons, ls_nil]; simp
end
theorem Row.laid {A B : Rd} {x0 : KK} {F : List KK} {i : Nat} {hs nw : List (KK × Int)} {ks : List KK} {y : KK} (h : Row A B x0 F i hs) (pm : ks.Perm (hs.map (·.1))) (l : Lay A B F hs ks y [] nw) : Row A B x0 F (i + 1) nw :=
  h.next l.nd l.mem fun g => by
    rw [l.sum g, nxt_nil, ls_perm pm, ls_map, Int.mul_zero, Int.add_zero]
    exact ls_congr fun p hp => by rw [valI_of h.nd hp]; rfl
def sp_l_rest (w : World) (K : PySem.W.Frag) : Sp := fun vs H Q E => ∃ (d1 d2 : Addr) (A B : Rd), vs = [.ref d1, .ref d2] ∧ TwoOk A B ∧ LRd K H d1 A ∧ LRd K H d2 B ∧ ∀ v H', Same H H' → DueV A B v → Q v H'
abbrev N_l_rest : List Str := ["_law_reader", "_law_sole_here", "_law_found", "_law_live_here", "_law_count", "_law_pair", "_law_here", "_law_turn", "_law_ends", "_law_newer", "_law_there"]
theorem sc_l_rest : FnScope N_l_rest ["_law_reader", "_law_sole_here"] (defScope s_l_rest) := ⟨rfl, rfl, rfl, by decide +kernel, rfl, by decide +kernel, by decide +kernel⟩
theorem p_l_rest (T : Tx K mg) : Fn P w K mg base 3 "_law_rest" (sp_l_rest w K) := by
  refine fn_mk T.d_l_rest T.g_l_rest sc_l_rest (fun _ _ _ _ _ _ us h => by match us, h with | [_, _], _ => rfl) (fun vs H Q E ⟨d1, d2, A, B, e, ok, hA, hB, q⟩ => by rw [e]; rfl) fun cdv A outer s H vs Q E hr ⟨d1, d2, A, B, e, ok, hA, hB, q⟩ => ?_
  subst e
  have hu := hr.units
  have hu1 := hu_of hr
  have nd := sc_l_rest.nd
  refine ⟨_, (pss_cons (ps_set (i := 2) nd rfl (Or.inl rfl) (cg (p_l_map T) hr (pa_cons (pv 0) (pa_cons (pv 1) pa_nil))))
      (pss_cons (ps_asg (pe_tup (pa_cons (cg (p_l_live T) hr (pa_cons (pv 2) (pa_cons (pv 0) (pa_cons (pv 1) pa_nil)))) (pa_cons pe_int pa_nil))) (pg_tup rfl (pgs_cons (pg_name (i := 3) nd rfl (Or.inr rfl)) (pgs_cons (pg_name (i := 4) nd rfl (Or.inl rfl)) pgs_nil))))
      (pss_cons (ps_set (i := 6) nd rfl (Or.inr rfl) (pe_callTy (cr_ndOf rfl hu cK) (by rfl) T.b_dict (by decide +kernel) (pa_cons (pe_lc (own := [("_law_pair", 5)]) rfl nd (pi_list (pe_lst (pa_cons (pe_tup (pa_cons (pe_dget hu1 (pv 0) pe_str (fun _ _ => rfl)) (pa_cons (pe_dget hu1 (pv 1) pe_str (fun _ _ => rfl)) pa_nil))) pa_nil))) (blkOk_by (N := N_l_rest) (sc := defScope s_l_rest) (by decide +kernel)) (fun _ _ _ _ _ => (pg_name (i := 5) nd rfl (Or.inl rfl) (Or.inr rfl))) (fun _ _ _ _ _ => (pts_one (pt_cmpR (show OpR _ _ (rNdIn w K cK false) from (op_ndIn hu cK)) (pv 5) (pv 3) rfl))) (fun _ _ _ _ _ => (pe_tup (pa_cons (pv 5) (pa_cons pe_int pa_nil))))) pa_nil)))
      (pss_cons (ps_for PassesOwn.never rfl (pi_range1 (by rfl) T.b_range (pa_cons (pe_op op_add (pe_callB (cr_ndLen cK) (by rfl) T.b_len (by decide +kernel) (pa_cons (pv 2) pa_nil)) pe_int) pa_nil)) (pg_name (i := 7) nd rfl (Or.inl rfl))
        (pss_cons (ps_if (pt_cmpR (op_ndEq0 hu cK) (pv 6) pe_dnewK (nomark _)) (pss_one (ps_ret (pv 4))) pss_nil)
        (pss_cons (ps_setLc (i := 8) (own := [("_law_pair", 5)]) rfl nd rfl rfl (sw_true rfl rfl rfl (by decide +kernel)) (pi_nd cK (pv 6)) (blkOk_by (N := N_l_rest) (sc := defScope s_l_rest) (by decide +kernel)) (fun _ _ _ _ _ => (pg_name (i := 5) nd rfl (Or.inl rfl) (Or.inr rfl))) (fun _ _ _ _ _ => (pts_one (PW.pt (pw_and (pt_val (cg (p_l_does_end T) hr (pa_cons (pv 0) (pa_cons (pe_ix (show IxR _ (rIxT K) from ix_tup) (pv 5) pe_int (fun _ _ => rfl)) pa_nil)))) (pw_and1 (pt_not (pt_val (cg (p_l_does_end T) hr (pa_cons (pv 1) (pa_cons (pe_ix (show IxR _ (rIxT K) from ix_tup) (pv 5) pe_int (fun _ _ => rfl)) pa_nil)))))))))) (fun _ _ _ _ _ => (pv 5)))
        (pss_cons (ps_par (i := 4) (j := 9) (by rfl) nd rfl rfl (by decide) rfl rfl (pa_cons (pe_op op_add (pv 4) (pe_callB (cr_sum rfl) (by rfl) T.b_sum (by decide +kernel) (pa_cons (pe_lc (own := [("_law_pair", 5)]) rfl nd (pi_list (pv 8)) (blkOk_by (N := N_l_rest) (sc := defScope s_l_rest) (by decide +kernel)) (fun _ _ _ _ _ => (pg_name (i := 5) nd rfl (Or.inl rfl) (Or.inr rfl))) (fun _ _ _ _ _ => pts_nil) (fun _ _ _ _ _ => (show PE _ _ (tNdGet w K cK _ _) from (pe_ndGet hu cK (pv 6) (pv 5) (fun _ _ => rfl))))) pa_nil))) (pa_cons (pe_ndNew cK) pa_nil)) (by rfl))
        (pss_cons (ps_for PassesOwn.never rfl (pi_list (pe_callB (cr_ndSorted rfl hu cK) (by rfl) T.b_sorted (by decide +kernel) (pa_cons (pv 6) pa_nil))) (pg_name (i := 5) nd rfl (Or.inl rfl))
          (pss_one (ps_for PassesOwn.never rfl (pi_list (pe_ndGet hu cK (pv 2) (pv 5) (fun _ _ => rfl))) (pg_name (i := 10) nd rfl (Or.inl rfl))
            (pss_one (ps_if (pt_cmpR (op_ndIn hu cK) (pv 10) (pv 3) rfl) (pss_one (ps_asg (pe_op op_add (pe_ndGetD hu cK (pv 9) (pv 10) pe_int ⟨rfl, rfl, rfl, rfl⟩) (pe_ndGet hu cK (pv 6) (pv 5) (fun _ _ => rfl))) (pg_sub (pv 9) (pv 10) (set_nd hu cK)))) pss_nil)))))
        (pss_one (ps_set (i := 6) nd rfl (Or.inr rfl) (pv 9))))))))
      (pss_one (ps_ret pe_non)))))), ?_⟩
  have l6 := sz60
  have l4 := ok.oa.lets.four
  refine ⟨_, rfl, _, rfl, d1, d2, A, B, rfl, ok, hA, hB, fun F W kvs H1 s1 nF ndF lk kst rng clo vals => ?_⟩
  obtain ⟨xs0, ep0, g1, g2, g3, g4, ndk⟩ := id ndF
  have sh : Shut A B (kvs.map (·.1)) := ⟨ndk, fun x hx c hc => kn_key.mp (clo x (kn_key.mpr hx) c hc)⟩
  refine ⟨_, rfl, _, rfl, _, rfl, F, d1, d2, A, B, kvs, W, rfl, ok, hA.same s1, hB.same s1, ndF, lk, rng, clo, vals, fun G lv H2 s2 nG ndG llv kn => ?_⟩
  refine ⟨by show 2 ≤ sizeLine; omega, fun t nt => ⟨t, _, rfl, SqT.of upd_same, rfl, _, _, rfl, _, _, rfl, rfl, ?_⟩⟩
  have s3 := Same.new (o := .tup [.ref G, .int 0]) nt
  have s03 := (s1.trans s2).trans s3
  have ndG3 := ndG.same s3
  have ndF3 := (ndF.same s2).same s3
  have vals3 : ∀ x v, valV kvs x = some v → MapV K (upd H2 t (.tup [.ref G, .int 0])) A B W x v := fun x v h => ((vals x v h).same s2).same s3
  generalize upd H2 t (.tup [.ref G, .int 0]) = H3 at s3 s03 ndG3 ndF3 vals3
  clear vals ndF ndG
  obtain ⟨hvA, tvA, avA, a1, a2, a3, a4⟩ := id (hA.same s03)
  obtain ⟨hvB, tvB, avB, b1, b2, b3, b4⟩ := id (hB.same s03)
  -- the first row
  refine ⟨_, rfl, d1, _, rfl, .inl ⟨_, Sum.inr "heads", .inl a1, rfl, rfl⟩, _, rfl, d2, _, rfl, .inl ⟨_, Sum.inr "heads", .inl b1, rfl, rfl⟩, by show 2 ≤ sizeLine; omega, fun t nt => ⟨by show 1 ≤ sizeLine; omega, fun U nU => ⟨U, rfl, ⟨_, SqL.of upd_same⟩, fun D nD => ?_⟩⟩⟩
  have sT := Same.new (o := .tup [hvA, hvB]) nt
  have sU := Same.new (o := .lst [V.ref t]) nU
  have dt0 : Dt K (upd (upd H3 t (.tup [hvA, hvB])) U (.lst [V.ref t])) (.ref t) (eK (A.fs, B.fs)) := Dt.ofKk (a := (A.fs, B.fs)) (SqT.tle sU.tle (SqT.of upd_same)) (a2.same (sT.trans sU)) (b2.same (sT.trans sU))
  have hU : upd (upd H3 t (.tup [hvA, hvB])) U (.lst [V.ref t]) U = some (.lst [V.ref t]) := upd_same
  have sTU := sT.trans sU
  generalize upd (upd H3 t (.tup [hvA, hvB])) U (.lst [V.ref t]) = H4 at sU dt0 hU sTU nD
  refine comp_it (walk_list (xs := [V.ref t])) grows_at [((A.fs, B.fs) : KK)] rfl (by show 1 < sizeLine; omega) (fun x => (valV lv x).isSome) (fun x y H => ∃ p, y = .ref p ∧ PairAts K H cK p (x, .int 1)) (fun x y H H' t h => let ⟨p, e, h⟩ := h; ⟨p, e, h.to t⟩) nD (fun H' sm => SqL.of (sm _ _ hU)) (fun j x k H' H5 hk sm y => ?_) fun us H5 s5 hu pu => ?_
  · obtain ⟨rfl, hx⟩ := y
    have j0 : j = 0 := by
      have := (List.getElem?_eq_some_iff.mp hk).1
      simpa using this
    subst j0
    obtain rfl : V.ref t = x := Option.some.inj hx
    obtain rfl : ((A.fs, B.fs) : KK) = k := Option.some.inj hk
    have d5 := dt0.same sm
    refine turn_nameT rfl fun C1 C2 c1 c2 => ⟨_, rfl, _, rfl, (A.fs, B.fs), G, lv, d5, rfl, (ndG3.same sTU).same sm, _, rfl, ?_⟩
    cases e1 : valV lv (A.fs, B.fs) with
    | none => exact iteF (c1 (by rw [e1]; rfl) _ (Same.refl _))
    | some v =>
      refine iteT ⟨_, rfl, by show 2 ≤ sizeLine; omega, fun t2 nt2 => ?_⟩
      have s6 := Same.new (o := .tup [.ref t, .int 1]) nt2
      exact c2 (by rw [e1]; rfl) _ _ s6 ⟨t2, rfl, t, SqT.of upd_same, d5.same s6⟩
  obtain ⟨ps, rfl, pp⟩ := pairs_of_all pu
  refine ⟨D, ps, _, rfl, SqL.of hu, pp, fun Hr oH nHr ndH => ?_⟩
  have sH := Same.new (o := oH) nHr
  have s35 := (sTU.trans s5).trans sH
  have s05 := s03.trans s35
  have knS : Kn kvs (A.fs, B.fs) := kst
  have mF : (A.fs, B.fs) ∈ kvs.map (·.1) := kn_key.mp kst
  obtain ⟨hs0, eh, row0⟩ : ∃ hs0, putAll ([] : List (KK × V)) (([((A.fs, B.fs) : KK)].filter fun x => (valV lv x).isSome).map fun x => (x, V.int 1)) = hsV hs0 ∧ Row A B (A.fs, B.fs) (kvs.map (·.1)) 0 hs0 := by
    refine ⟨_, ?_, Row.zero mF⟩
    by_cases l : live A B (A.fs, B.fs)
    · have : valV lv (A.fs, B.fs) ≠ none := (kn _).mpr ⟨kst, l⟩
      rw [if_pos l]
      cases e : valV lv (A.fs, B.fs) with
      | none => exact absurd e this
      | some v => simp [e]; rfl
    · have : valV lv (A.fs, B.fs) = none := Classical.byContradiction fun z => l ((kn _).mp z).2
      rw [if_neg l]
      simp [this]; rfl
  rw [eh] at ndH
  clear eh
  refine ⟨_, rfl, F, kvs, rfl, ndF3.same s35, _, _, rfl, rfl, _, rfl, by omega, by omega, ?_⟩
  refine for_it walk_range (fun i σ H' => Same H3 H' ∧ (∃ (Hr : Addr) (hs : List (KK × Int)), H3 Hr = none ∧ ND w K H' cK Hr (hsV hs) ∧ Row A B (A.fs, B.fs) (kvs.map (·.1)) i hs ∧ (i = kvs.length + 1 → ∃ hs', hs' ≠ [] ∧ Row A B (A.fs, B.fs) (kvs.map (·.1)) kvs.length hs') ∧ ∃ o5 o7 o8 o9 o10, σ = [some (.ref d1), some (.ref d2), some (.ref F), some (.ref G), some (.int (sm (fun k => cnt A B k (A.fs, B.fs)) i)), o5, some (.ref Hr), o7, o8, o9, o10]))
    ⟨s35, Hr, hs0, none_of_same (sTU.trans s5) nHr, ndH, row0, (fun h => by omega), none, none, none, none, none, rfl⟩ (fun _ _ _ _ _ => trivial) (fun i x σ H6 H7 hi ⟨s6, Hr, hs, nHr3, ndH, row, _, o5, o7, o8, o9, o10, eσ⟩ yy => ?_) fun σ H6 ⟨s6, Hr, hs, nHr3, ndH, row, fin, o5, o7, o8, o9, o10, eσ⟩ => ?_
  · obtain ⟨rfl, rfl⟩ := yy
    subst eσ
    have ik : i ≤ kvs.length := by omega
    have lhs : hs.length ≤ 256 := by
      have := nodup_len (hs.map (·.1)) (kvs.map (·.1)) row.nd fun x hx => by
        obtain ⟨p, hp, rfl⟩ := List.mem_map.mp hx
        exact (row.mem p hp).1
      rw [List.length_map, List.length_map] at this
      omega
    refine ⟨_, rfl, fun e0 ne0 => ?_⟩
    have se := Same.new (o := .dK []) ne0
    have eH : e0 ≠ Hr := by
      obtain ⟨φ, qf⟩ := ndH.at
      exact (ne_of_none qf ne0).symm
    refine ⟨Hr, hsV hs, e0, _, rfl, ndH.same se, rfl, upd_same, rfl, eH, ⟨_, rfl, ?_⟩⟩
    have s7 := s6.trans se
    have ndH := ndH.same se
    generalize upd _ e0 (.dK []) = H8 at se s7 ndH
    by_cases hs0 : hs = []
    · subst hs0
      exact iteT ⟨_, rfl, q _ H8 (s03.trans s7) (.inr ⟨i, by omega, rfl, row.nil⟩)⟩
    rw [show (hsV hs).isEmpty = false by
      cases hs with
      | nil => exact absurd rfl hs0
      | cons a l => rfl]
    refine iteF ?_
    -- the pairs of the row that end outside
    refine ⟨_, rfl, Hr, hsV hs, rfl, ndH, fun J xs ep wlk hd dk => fun D nD => ?_⟩
    have lhsV : (hsV hs).length = hs.length := by simp
    refine comp_it wlk grows_at (hs.map (·.1)) (by simp) (by omega) (outB A B) (fun x y H => Dt K H y (eK x)) (fun x y H H' t h => h.to t) nD (fun H' sm => sm _ _ hd) (fun j x k H' H9 hk sm y => ?_) fun us H9 s9 hu pu => ?_
    · obtain ⟨rfl, hx⟩ := y
      obtain ⟨dd, hd1, hd2⟩ := dk.get' hx
      have mk : k ∈ hs.map (·.1) := List.mem_of_getElem? hk
      rw [show (hsV hs).map (fun p => cK.e p.1) = (hs.map (·.1)).map eK by rw [List.map_map, List.map_map]; rfl, List.getElem?_map, hk] at hd1
      obtain rfl := Option.some.inj hd1
      have hd3 : Dt K H9 x (eK k) := hd2.same sm
      obtain ⟨ta, x1, x2, rfl, hta, dx1, dx2⟩ := hd3.kk
      obtain ⟨p, hp, rfl⟩ := List.mem_map.mp mk
      obtain ⟨n1, n2⟩ := allK_small ok (rng p.1 (kn_key.mpr (row.mem p hp).1))
      have sA := (s03.trans s7).trans sm
      refine turn_nameT rfl fun C1 C2 c1 c2 => ⟨_, rfl, _, rfl, ta, _, _, _, rfl, rfl, hta, rfl, d1, A, x1, p.1.1, rfl, hA.same sA, dx1, n1, fun H3 s3 => ⟨_, rfl, ?_⟩⟩
      cases e1 : ends A p.1.1 with
      | false => exact iteF (c1 (by unfold outB; rw [e1]; rfl) _ s3)
      | true =>
        refine iteT ⟨_, rfl, _, rfl, ta, _, _, _, rfl, rfl, SqT.tle s3.tle hta, rfl, d2, B, x2, p.1.2, rfl, (hB.same sA).same s3, dx2.same s3, n2, fun H4 s4 => ⟨_, rfl, ?_⟩⟩
        cases e2 : ends B p.1.2 with
        | true => exact iteF (c1 (by unfold outB; rw [e1, e2]; rfl) _ (s3.trans s4))
        | false => exact iteT ⟨_, rfl, c2 (by unfold outB; rw [e1, e2]; rfl) _ _ (s3.trans s4) (hd3.same (s3.trans s4))⟩
    have pd := DtAll.of (K := K) eK pu
    have outs := row.outs
    have eo : ((hs.map (·.1)).filter (outB A B)).map (valI hs) = ((hs.filter fun p => outB A B p.1).map fun p => p.2) := by
      rw [List.filter_map, List.map_map]
      refine List.map_congr_left fun p hp => ?_
      exact valI_of row.nd (List.mem_filter.mp hp).1
    have es : (((hs.map (·.1)).filter (outB A B)).map (valI hs)).sum = cnt A B i (A.fs, B.fs) := by
      rw [eo, ← outs]
      show ls_ (hs.filter fun p => outB A B p.1) (fun p => p.2) = _
      rw [ls_filter]
      refine ls_congr fun p _ => ?_
      by_cases z : outP A B p.1
      · rw [if_pos (outB_iff.mpr z), if_pos z, Int.mul_one]
      · rw [if_neg (fun y => z (outB_iff.mp y)), if_neg z, Int.mul_zero]
    have sub : ∀ x ∈ (hs.map (·.1)).filter (outB A B), x ∈ hs.map (·.1) := fun x hx => (List.mem_filter.mp hx).1
    have lms : ((hs.map (·.1)).filter (outB A B)).length ≤ 256 := Nat.le_trans (List.length_filter_le ..) (by rw [List.length_map]; exact lhs)
    generalize (hs.map (·.1)).filter (outB A B) = ms at pd es sub lms
    have lu : us.length = ms.length := by rw [pd.length, List.length_map]
    refine ⟨_, rfl, _, rfl, D, rfl, ⟨_, SqL.of hu⟩, fun D2 nD2 => ?_⟩
    refine comp_it (walk_list (xs := us)) grows_at ms lu.symm (by omega) (fun _ => true) (fun x y _ => y = .int (valI hs x)) (fun x y H H' t h => h) nD2 (fun H' sm => SqL.of (sm _ _ hu)) (fun j x b H' H10 hb sm y => ?_) fun ws H10 s10 hw pw => ?_
    · obtain ⟨rfl, hx⟩ := y
      obtain ⟨dd, hd1, hd2⟩ := pd.get' hx
      rw [List.getElem?_map, hb] at hd1
      obtain rfl := Option.some.inj hd1
      have hv := (valI_some row.nd (sub b (List.mem_of_getElem? hb))).1
      exact turn_name rfl fun C c2 => ⟨_, rfl, _, rfl, b, Hr, hsV hs, .int (valI hs b), hd2.same sm, rfl, (ndH.same s9).same sm, hv, c2 _ _ (Same.refl _) rfl⟩
    rw [filt] at pw
    have ew := ints_of (f := valI hs) pw
    rw [ew] at hw
    refine ⟨D2, ms.map (valI hs), rfl, SqL.of hw, _, _, rfl, rfl, fun Nw oN nNw ndN => ⟨_, _, rfl, ?_⟩⟩
    rw [es]
    have sN := Same.new (o := oN) nNw
    have s8 := ((s7.trans s9).trans s10).trans sN
    have ndH8 := ((ndH.same s9).same s10).same sN
    have nNw3 : H3 Nw = none := none_of_same ((s7.trans s9).trans s10) nNw
    have NwHr : Nw ≠ Hr := by
      obtain ⟨φ, qf⟩ := ((ndH.same s9).same s10).at
      exact (ne_of_none qf nNw).symm
    generalize upd H10 Nw oN = H11 at sN s8 ndH8 ndN
    refine ⟨_, rfl, Hr, hsV hs, rfl, ndH8, by rw [show (hsV hs).map (fun p => cK.e p.1) = (hs.map (·.1)).map eK by rw [List.map_map, List.map_map]; rfl]; exact eK_alike _, by rw [show (hsV hs).map (fun p => cK.e p.1) = (hs.map (·.1)).map eK by rw [List.map_map, List.map_map]; rfl]; exact eK_sortable _, by rw [show (hsV hs).map (fun p => cK.e p.1) = (hs.map (·.1)).map eK by rw [List.map_map, List.map_map]; rfl]; exact eK_depth _, fun S zs nS dz => ?_⟩
    rw [show (hsV hs).map (fun p => cK.e p.1) = (hs.map (·.1)).map eK by rw [List.map_map, List.map_map]; rfl, ← srtBy_map] at dz
    have pm : (srtBy eK (hs.map (·.1))).Perm (hs.map (·.1)) := srtBy_perm
    generalize srtBy eK (hs.map (·.1)) = ks at dz pm
    have sS := Same.new (o := .lst zs) nS
    have lz : zs.length = ks.length := by rw [dz.length, List.length_map]
    refine ⟨S, rfl, ⟨_, SqL.of upd_same⟩, ?_⟩
    have hS : upd H11 S (.lst zs) S = some (.lst zs) := upd_same
    have NwS : Nw ≠ S := by
      obtain ⟨φ, qf⟩ := ndN.at
      exact ne_of_none qf nS
    have dz' := dz.same sS
    refine for_it (walk_list (xs := zs)) (fun i2 σ H' => Same H3 H' ∧ ND w K H' cK Hr (hsV hs) ∧ H' S = some (.lst zs) ∧ DtAll K H' zs (ks.map eK) ∧ (∃ nw, ND w K H' cK Nw (hsV nw) ∧ Lay A B (kvs.map (·.1)) hs (ks.take i2) ([], []) [] nw) ∧ ∃ o5 o8 o10, σ = [some (.ref d1), some (.ref d2), some (.ref F), some (.ref G), some (.int (sm (fun k => cnt A B k (A.fs, B.fs)) i + cnt A B i (A.fs, B.fs))), o5, some (.ref Hr), some (.int ((0 : Int) + (i : Int))), o8, some (.ref Nw), o10])
      ⟨s8.trans sS, ndH8.same sS, hS, dz', ⟨[], ndN.same sS, ⟨List.nodup_nil, nofun, fun g => by rw [nxt_nil]; simp [ls_]⟩⟩, _, _, _, rfl⟩ (fun i2 σ H' _ h => SqL.of h.2.2.1) (fun i2 x σ H12 H13 hi2 ⟨s12, ndH12, hS12, dz12, ⟨nw, ndN12, lay⟩, o5, o8, o10, eσ⟩ yy => ?_) fun σ H12 ⟨s12, ndH12, hS12, dz12, ⟨nw, ndN12, lay⟩, o5, o8, o10, eσ⟩ => ?_
    · obtain ⟨rfl, hx⟩ := yy
      subst eσ
      obtain ⟨dd, hd1, hd2⟩ := dz12.get' hx
      rw [List.getElem?_map] at hd1
      obtain ⟨k, hk, rfl⟩ := Option.map_eq_some_iff.mp hd1
      have mk : k ∈ hs.map (·.1) := pm.mem_iff.mp (List.mem_of_getElem? hk)
      obtain ⟨vk, mk2⟩ := valI_some row.nd mk
      have pos := (row.mem _ mk2).2.2
      have kF : k ∈ kvs.map (·.1) := (row.mem _ mk2).1
      obtain ⟨v, hv⟩ : ∃ v, valV kvs k = some v := by
        cases e : valV kvs k with
        | none => exact absurd e (kn_key.mpr kF)
        | some v => exact ⟨v, rfl⟩
      obtain ⟨a, ys, rfl, aW, ha, dy⟩ := (vals3 k v hv).same s12
      have ly : ys.length = A.L.length := by rw [dy.length, List.length_map, List.length_map]
      obtain ⟨a', ys', e', _, ha3, _⟩ := vals3 k _ hv
      have aNw : a ≠ Nw := by
        obtain rfl : a = a' := by injection e'
        exact ne_of_none ha3 nNw3
      have SNw : S ≠ Nw := Ne.symm NwS
      refine ⟨_, rfl, _, rfl, k, F, kvs, .ref a, hd2, rfl, ndF3.same s12, hv, a, rfl, ⟨_, SqL.of ha⟩, ?_⟩
      refine for_it (walk_list (xs := ys)) (fun j σ H' => Same H3 H' ∧ ND w K H' cK Hr (hsV hs) ∧ H' S = some (.lst zs) ∧ DtAll K H' zs (ks.map eK) ∧ H' a = some (.lst ys) ∧ DtAll K H' ys ((A.L.map (dl A B k)).map eK) ∧ Dt K H' x (eK k) ∧ (∃ nw, ND w K H' cK Nw (hsV nw) ∧ Lay A B (kvs.map (·.1)) hs (ks.take i2) k (A.L.take j) nw) ∧ ∃ o10, σ = [some (.ref d1), some (.ref d2), some (.ref F), some (.ref G), some (.int (sm (fun k => cnt A B k (A.fs, B.fs)) i + cnt A B i (A.fs, B.fs))), some x, some (.ref Hr), some (.int ((0 : Int) + (i : Int))), o8, some (.ref Nw), o10])
        ⟨s12, ndH12, hS12, dz12, ha, dy, hd2, ⟨nw, ndN12, ⟨lay.nd, lay.mem, fun g => by rw [lay.sum g]; simp [nxt_nil]⟩⟩, _, rfl⟩ (fun j σ H' _ h => SqL.of h.2.2.2.2.1) (fun j z σ H14 H15 hj ⟨s14, ndH14, hS14, dz14, ha14, dy14, dk14, ⟨nw, ndN14, lay⟩, o10, eσ⟩ yy => ?_) fun σ H14 ⟨s14, ndH14, hS14, dz14, ha14, dy14, dk14, ⟨nw, ndN14, lay⟩, o10, eσ⟩ => ?_
      · obtain ⟨rfl, hz⟩ := yy
        subst eσ
        obtain ⟨dd, hd1, hd2⟩ := dy14.get' hz
        rw [List.getElem?_map] at hd1
        obtain ⟨y, hy, rfl⟩ := Option.map_eq_some_iff.mp hd1
        rw [List.getElem?_map] at hy
        obtain ⟨c, hc, rfl⟩ := Option.map_eq_some_iff.mp hy
        have mc : c ∈ A.L := List.mem_of_getElem? hc
        have yF : dl A B k c ∈ kvs.map (·.1) := sh.next k kF c mc
        refine ⟨_, rfl, _, rfl, dl A B k c, G, lv, hd2, rfl, ndG3.same s14, _, rfl, ?_⟩
        by_cases l : live A B (dl A B k c)
        · have : valV lv (dl A B k c) ≠ none := (kn _).mpr ⟨kn_key.mpr yF, l⟩
          rw [show (valV lv (dl A B k c)).isSome = true by
            cases e : valV lv (dl A B k c) with
            | none => exact absurd e this
            | some v => rfl]
          refine iteT ?_
          have lnw : nw.length ≤ 256 := by
            have := nodup_len (nw.map (·.1)) (kvs.map (·.1)) lay.nd fun x hx => by
              obtain ⟨p, hp, rfl⟩ := List.mem_map.mp hx
              exact (lay.mem p hp).1
            rw [List.length_map, List.length_map] at this
            omega
          refine ⟨_, rfl, Nw, rfl, ⟨_, ndN14⟩, _, rfl, dl A B k c, hsV nw, hd2, ndN14, ?_⟩
          rw [valI_get lay.nd]
          refine ⟨_, rfl, _, rfl, k, Hr, hsV hs, .int (valI hs k), dk14, rfl, ndH14, vk, _, _, rfl, rfl, ?_⟩
          refine ⟨_, rfl, _, rfl, dl A B k c, Nw, hsV nw, hd2, rfl, ndN14, by simp; omega, fun o' hn => ?_⟩
          rw [← putI_V] at hn
          have tN : TLe _ (upd _ Nw o') := ndN14.tle
          refine ⟨s14.put nNw3, ndH14.to tN (upd_ne (Ne.symm NwHr)), by rw [upd_ne SNw]; exact hS14, dz14.to tN, by rw [upd_ne aNw]; exact ha14, dy14.to tN, dk14.to tN, ⟨_, hn, ?_⟩, _, rfl⟩
          rw [take_one hc]
          exact lay.add l yF pos
        · have : valV lv (dl A B k c) = none := Classical.byContradiction fun z => l ((kn _).mp z).2
          rw [this]
          refine iteF ⟨s14, ndH14, hS14, dz14, ha14, dy14, dk14, ⟨nw, ndN14, ?_⟩, _, rfl⟩
          rw [take_one hc]
          exact lay.skip l
      · subst eσ
        rw [ly, List.take_length] at lay
        refine ⟨s14, ndH14, hS14, dz14, ⟨nw, ndN14, ?_⟩, _, _, _, rfl⟩
        rw [take_one hk]
        exact lay.row _
    · subst eσ
      rw [lz, List.take_length] at lay
      refine ⟨_, rfl, s12, Nw, nw, nNw3, ndN12, row.laid pm lay, fun h => ⟨hs, hs0, by rw [show kvs.length = i by omega]; exact row⟩, _, _, _, _, _, rfl⟩
  · subst eσ
    obtain ⟨hs', ne, row'⟩ := fin (by omega)
    refine q _ _ (s03.trans s6) (.inl ⟨rfl, ?_⟩)
    have lk' : (kvs.map (·.1)).length = kvs.length := List.length_map ..
    rw [← lk'] at row'
    rcases sh.due_none mF row' ne with ⟨_, h⟩ | ⟨i, e, _⟩
    · exact h
    · cases e
end K39
end Text_K39L16

section Text_K39N5
set_option autoImplicit false set_option linter.all false
/-! What is due is what the program says. -/
namespace K39
open PySem PySem.Spec PyProof.Rows L2
theorem ls_le {α : Type} {l : List α} {f : α → Int} {c : Int} (h : ∀ a ∈ l, f a ≤ c) : ls_ l f ≤ l.length * c := by
  induction l with
  | nil => simp [ls_]
  | cons a l ih =>
    rw [ls_cons, List.length_cons]
    have h1 := h a List.mem_cons_self
    have h2 := ih fun b hb => h b (List.mem_cons_of_mem _ hb)
    have e : ((l.length + 1 : Nat) : Int) * c = l.length * c + c := by
      rw [Int.natCast_add, Int.add_mul]; simp
    omega
theorem cnt_le {A B : Rd} (hL : A.L.length ≤ 4) : ∀ k x, cnt A B k x ≤ 4 ^ k
  | 0, x => by
    unfold cnt
    split <;> decide
  | k + 1, x => by
    have h1 : cnt A B (k + 1) x ≤ A.L.length * 4 ^ k := ls_le fun c _ => cnt_le hL k (dl A B x c)
    have h2 : (A.L.length : Int) * 4 ^ k ≤ 4 * 4 ^ k := Int.mul_le_mul_of_nonneg_right (by omega) (Int.le_of_lt (Int.pow_pos (by decide)))
    rw [Int.pow_succ]
    omega
theorem sm_cnt_le {A B : Rd} (hL : A.L.length ≤ 4) (x : KK) : ∀ i, sm (fun k => cnt A B k x) i ≤ 4 ^ i
  | 0 => by
    show (0 : Int) ≤ 4 ^ 0
    decide
  | i + 1 => by
    have e : sm (fun k => cnt A B k x) (i + 1) = sm (fun k => cnt A B k x) i + cnt A B i x := rfl
    rw [e]
    have h1 := sm_cnt_le (B := B) hL x i
    have h2 := cnt_le (B := B) hL i x
    have h3 : (0 : Int) ≤ 4 ^ i := Int.le_of_lt (Int.pow_pos (by decide))
    rw [Int.pow_succ]
    omega
theorem sm_nonneg {f : Nat → Int} (h : ∀ k, 0 ≤ f k) (n : Nat) : 0 ≤ sm f n := by
  rw [sm_ls]; exact ls_nonneg fun a _ => h a
theorem log_small {s : Int} (h0 : 0 ≤ s) (h : s ≤ 4 ^ 257) : s.natAbs.log2 < 1920 := by
  by_cases z : s.natAbs = 0
  · rw [z]; decide
  · rw [Nat.log2_lt z]
    have e : (4 : Int) ^ 257 = ((2 ^ 514 : Nat) : Int) := by decide +kernel
    rw [e] at h
    have h2 : s.natAbs ≤ 2 ^ 514 := by omega
    exact Nat.lt_of_le_of_lt h2 (Nat.pow_lt_pow_right (by decide) (by decide))
/-- the program's three answers by what is due -/
structure LawOk (A B : Rd) (v : V) : Prop where
  late : isLate A B = decide (v = .non)
  zero : (∀ t, t < wid (wps A B) → tot (wps A B) t = 0) ↔ v = .int 0
  kind : v = .non ∨ ∃ s : Int, v = .int s ∧ s.natAbs.log2 < 1920
  rest : LoneC A → (if isLate A B then V.non else .int (restI A B)) = v
theorem isLate_iff {A B : Rd} : isLate A B = true ↔ ∃ k, wid (wps A B) ≤ k ∧ k < 2 * wid (wps A B) ∧ tot (wps A B) k ≠ 0 := by
  unfold isLate lateI
  rw [List.any_eq_true]
  generalize hD : wid (wps A B) = D
  generalize hu : tot (wps A B) = u
  constructor
  · rintro ⟨n, hn, h⟩
    rw [← List.map_drop] at hn
    obtain ⟨k, hk, rfl⟩ := List.mem_map.mp hn
    rw [List.mem_iff_getElem?] at hk
    obtain ⟨i, hi⟩ := hk
    rw [List.getElem?_drop] at hi
    obtain ⟨h1, h2⟩ := List.getElem?_eq_some_iff.mp hi
    rw [List.getElem_range] at h2
    rw [List.length_range] at h1
    subst h2
    exact ⟨D + i, by omega, by omega, by simpa using h⟩
  · rintro ⟨k, h1, h2, h3⟩
    refine ⟨u k, ?_, by simpa using h3⟩
    rw [← List.map_drop]
    refine List.mem_map.mpr ⟨k, ?_, rfl⟩
    rw [List.mem_iff_getElem?]
    refine ⟨k - D, ?_⟩
    rw [List.getElem?_drop, List.getElem?_eq_some_iff]
    exact ⟨by rw [List.length_range]; omega, by rw [List.getElem_range]; omega⟩
theorem restI_sm (A B : Rd) : restI A B = sm (tot (wps A B)) (wid (wps A B)) := by
  rw [sm_ls]; rfl
structure TwoG (A B : Rd) : Prop where
  oa : A.Ok
  ob : B.Ok
  lets : A.L = B.L
  a6 : A.n ≤ 6
  b4 : B.n ≤ 4
theorem law_okG {A B : Rd} (ok : TwoG A B) (lB : LoneC B) {v : V} (h : DueV A B v) : LawOk A B v := by
  have bo : BothOk A B := .of ok.oa ok.ob ok.lets ok.a6 ok.b4
  have fA := ok.oa.f
  have fB := ok.ob.f
  have wB : ∀ t, W B t ≤ 1 := fun t => lB.w ok.ob.arnd fB.fs t
  have eu : ∀ k, tot (wps A B) k = ls_ (texts A.L k) fun t => W A t * (1 - W B t) := fun k => (both_is A B).tot fA fB bo.ok.f rfl k
  have bs : Beside (wid (wps A B)) (tot (wps A B)) fun k => cnt A B k (A.fs, B.fs) := {
    rank := tot_rank fun p hp => by
      simp [wps] at hp
      rcases hp with rfl | rfl
      · exact fA
      · exact bo.ok.f
    pos := fun k => by rw [eu]; exact u_pos fA fB wB k
    nn := fun k => cnt_nonneg _ _ }
  have hl := bs.late
  rw [← isLate_iff] at hl
  have ha := bs.all
  have l4 := ok.oa.lets.four
  rcases h with ⟨rfl, hN⟩ | ⟨i, i257, rfl, hz⟩
  · have late := hl.mpr hN
    refine ⟨by rw [late]; rfl, ?_, .inl rfl, fun _ => by rw [late]; rfl⟩
    rw [ha]
    constructor
    · intro z
      obtain ⟨k, _, p⟩ := hN 0
      exact absurd (z k) p
    · intro z; cases z
  · have late : isLate A B = false := by
      cases e : isLate A B with
      | false => rfl
      | true =>
        obtain ⟨k, hk, p⟩ := hl.mp e i
        exact absurd (hz k hk) p
    have s0 := sm_nonneg (f := fun k => cnt A B k (A.fs, B.fs)) (fun k => cnt_nonneg _ _) i
    have s1 : sm (fun k => cnt A B k (A.fs, B.fs)) i ≤ 4 ^ 257 := by
      rw [← sm_late hz i257]
      exact sm_cnt_le l4 _ 257
    refine ⟨by rw [late]; rfl, ?_, .inr ⟨_, rfl, log_small s0 s1⟩, fun lA => ?_⟩
    · rw [ha]
      constructor
      · intro z
        rw [sm_zero fun k _ => z k]
      · intro z k
        have z : sm (fun k => cnt A B k (A.fs, B.fs)) i = 0 := by injection z
        by_cases hk : k < i
        · exact sm_none (f := fun k => cnt A B k (A.fs, B.fs)) (fun k => cnt_nonneg _ _) z k hk
        · exact hz k (by omega)
    · rw [late]
      show V.int (restI A B) = _
      have wA : ∀ t, W A t ≤ 1 := fun t => lA.w ok.oa.arnd fA.fs t
      have e1 : ∀ k, tot (wps A B) k = cnt A B k (A.fs, B.fs) := fun k => (eu k).trans (u_one fA fB wA wB k)
      have hD : ∀ k, wid (wps A B) ≤ k → cnt A B k (A.fs, B.fs) = 0 := fun k hk => by
        rw [← e1]
        exact bs.rank.late (N := i) (fun j hj => by rw [e1]; exact hz j hj) k hk
      rw [restI_sm, sm_congr fun k _ => e1 k]
      rcases Nat.le_total i (wid (wps A B)) with h | h
      · rw [sm_late hz h]
      · rw [← sm_late hD h]
theorem law_ok {A B : Rd} (ok : TwoOk A B) (lB : LoneC B) {v : V} (h : DueV A B v) : LawOk A B v := law_okG ⟨ok.oa, ok.ob, ok.lets, by have := ok.a4; omega, ok.b4⟩ lB h
end K39
end Text_K39N5

section Text_K39L17
set_option Elab.async false set_option linter.all false set_option maxRecDepth 100000 set_option maxHeartbeats 4000000
/-! A round of the law. -/
namespace K39
open PySem PySem.Spec PyProof.Rows L2
variable {P : Program} {w : World} {K : PySem.W.Frag} {mg : Str → Option Value} {base : Heap}
theorem let_ab : LetOk [97, 98] := ⟨by decide, by decide, by decide, by decide⟩
theorem let_a : LetOk [97] := ⟨by decide, by decide, by decide, by decide⟩
theorem let_xy : LetOk [120, 121] := ⟨by decide, by decide, by decide, by decide⟩
theorem PotAt.to_new {H H' : Hp} {p : Addr} (h : PotAt H p) (s : Same H H') : PotAt H' p := h.same s
theorem few_of {R : Rd} (ok : R.Ok) (n4 : R.n ≤ 4) (l2 : R.L.length ≤ 2) : R.ar.length < 60 :=
  Nat.lt_of_le_of_lt (Nat.le_trans ok.few (Nat.mul_le_mul n4 (Nat.mul_le_mul l2 n4))) (by decide)
def sp_l_right (w : World) (K : PySem.W.Frag) : Sp := fun vs H Q E => ∃ (p : Addr), vs = [.ref p] ∧ PotAt H p ∧ ∀ H', SameX p H H' → PotAt H' p → Q (.bl true) H'
abbrev N_l_right : List Str := ["_law_pot_here", "_law_signs_here", "_law_reader", "_law_sole_here", "_law_first", "_law_second", "_law_due"]
theorem sc_l_right : FnScope N_l_right ["_law_pot_here"] (defScope s_l_right) := ⟨rfl, rfl, rfl, by decide +kernel, rfl, by decide +kernel, by decide +kernel⟩
theorem p_l_right (T : Tx K mg) : Fn P w K mg base 14 "_law_right" (sp_l_right w K) := by
  refine fn_mk T.d_l_right T.g_l_right sc_l_right (fun _ _ _ _ _ _ us h => by match us, h with | [_], _ => rfl) (fun vs H Q E ⟨p, e, hp, q⟩ => by rw [e]; rfl) fun cdv A outer s H vs Q E hr ⟨p, e, hp, q⟩ => ?_
  subst e
  have hu := hr.units
  have hu1 := hu_of hr
  have nd := sc_l_right.nd
  refine ⟨_, (pss_cons (ps_set (i := 1) nd rfl (Or.inl rfl) (cg (p_l_pick T) hr (pa_cons (pv 0) (pa_cons (pe_lst (pa_cons pe_str (pa_cons pe_str (pa_cons pe_str (pa_cons pe_str pa_nil))))) pa_nil))))
      (pss_cons (ps_par (i := 2) (j := 3) (by rfl) nd rfl rfl (by decide) rfl rfl (pa_cons (cg (p_l_drawn T) hr (pa_cons (pv 0) (pa_cons (pv 1) pa_nil))) (pa_cons (cg (p_l_sole T) hr (pa_cons (pv 0) (pa_cons (pv 1) (pa_cons pe_int pa_nil)))) pa_nil)) (by rfl))
      (pss_cons (ps_par (i := 4) (j := 5) (by rfl) nd rfl rfl (by decide) rfl rfl (pa_cons (cg (p_l_made_reader T) hr (pa_cons (pv 2) pa_nil)) (pa_cons (cg (p_l_made_reader T) hr (pa_cons (pv 3) pa_nil)) pa_nil)) (by rfl))
      (pss_cons (ps_set (i := 6) nd rfl (Or.inl rfl) (cg (p_l_rest T) hr (pa_cons (pv 2) (pa_cons (pv 3) pa_nil))))
      (pss_cons (ps_if (pt_cmpR op_ne (pe_callB cr_repr (by rfl) T.b_repr (by decide +kernel) (pa_cons (cg (p_is_nearly_within T) hr (pa_cons (pv 4) (pa_cons (pv 5) pa_nil))) pa_nil)) (pe_callB cr_repr (by rfl) T.b_repr (by decide +kernel) (pa_cons (pe_cmpR op_notN (pv 6) pe_non (nomark _)) pa_nil)) (nomark _)) (pss_one (ps_ret pe_bl)) pss_nil)
      (pss_cons (ps_if (pt_not (pt_val (cg (p_l_is_sole T) hr (pa_cons (pv 2) pa_nil)))) (pss_one (ps_ret (pe_cmpR op_eq (cg (p_is_within T) hr (pa_cons (pv 4) (pa_cons (pv 5) pa_nil))) (pe_cmpR op_eq (pv 6) pe_int (nomark _)) (nomark _)))) pss_nil)
      (pss_one (ps_ret (pe_and (pe_cmpR op_eq (pe_callB cr_repr (by rfl) T.b_repr (by decide +kernel) (pa_cons (cg (p_rest T) hr (pa_cons (pv 4) (pa_cons (pv 5) pa_nil))) pa_nil)) (pe_callB cr_repr (by rfl) T.b_repr (by decide +kernel) (pa_cons (pv 6) pa_nil)) (nomark _)) (pe_one (pe_cmpR op_eq (cg (p_is_within T) hr (pa_cons (pv 4) (pa_cons (pv 5) pa_nil))) (pe_cmpR op_eq (pv 6) pe_int (nomark _)) (nomark _)))))))))))), ?_⟩
  have l6 := sz60
  refine ⟨_, rfl, by show 4 ≤ sizeLine; omega, fun g ng => ?_⟩
  have sg1 := Same.new (o := .lst [V.str "ab", .str "ab", .str "a", .str "xy"]) ng
  have pg := hp.same sg1
  refine ⟨p, g, _, rfl, upd_same, (hp.ne_new ng).symm, by simp, by simp, pg, fun k v H1 hv s1 p1 => ?_⟩
  obtain ⟨L, hL, l2, rfl⟩ : ∃ L : List Nat, LetOk L ∧ L.length ≤ 2 ∧ v = .str (tx L) := by
    have hm := List.mem_of_getElem? hv
    simp at hm
    rcases hm with rfl | rfl | rfl
    · exact ⟨[97, 98], let_ab, by decide, by decide +kernel⟩
    · exact ⟨[97], let_a, by decide, by decide +kernel⟩
    · exact ⟨[120, 121], let_xy, by decide, by decide +kernel⟩
  have s01 := sg1.x.trans s1
  refine ⟨_, rfl, _, rfl, p, L, rfl, hL, p1, fun d1 A H2 s2 p2 hA okA lA nA => ?_⟩
  refine ⟨_, rfl, _, rfl, p, L, rfl, hL, p2, fun d2 B H3 s3 p3 hB okB lB nB cB => ⟨_, _, rfl, ?_⟩⟩
  have hA3 := hA.sx p2 s3
  have ok : TwoOk A B := ⟨okA, okB, lA.trans lB.symm, nA, nB, few_of okA nA (by rw [lA]; exact l2), few_of okB nB (by rw [lB]; exact l2)⟩
  have bo : BothOk A B := .of okA okB ok.lets (by omega) nB
  have loB := cB.lone okB (by omega)
  refine ⟨_, rfl, d1, A, rfl, okA, hA3, fun a H4 s4 ra => ?_⟩
  refine ⟨_, rfl, d2, B, rfl, okB, hB.same s4, fun b H5 s5 rb => ⟨_, _, rfl, ?_⟩⟩
  have ra5 := ra.same s5
  have s35 := s4.trans s5
  refine ⟨_, rfl, _, rfl, d1, d2, A, B, rfl, ok, hA3.same s35, hB.same s35, fun v H6 s6 due => ?_⟩
  have lw := law_ok ok cB due
  have s36 := s35.trans s6
  have ra6 := ra5.same s6
  have rb6 := rb.same s6
  refine ⟨_, rfl, _, rfl, a, b, A, B, rfl, bo, loB, ra6, rb6, fun H7 s7 => .inr (.inl ⟨_, rfl, ?_⟩)⟩
  have s37 := s36.trans s7
  refine ⟨_, rfl, rfl, .inr (.inl ⟨_, rfl, rfl, _, rfl, ?_⟩)⟩
  rw [lw.late, show (!decide (V.str (if (!decide (v = V.non)) = true then "True" else "False") = V.str (if (!decide (v = V.non)) = true then "True" else "False"))) = false by simp]
  refine iteF ?_
  have hA7 := hA3.same s37
  have fewA := okA.few6 (by omega)
  refine ⟨_, rfl, d1, A, rfl, okA, by omega, by omega, hA7, fun k H8 s8 hk => ⟨k, rfl, ?_⟩⟩
  have s38 := s37.trans s8
  have ra8 := (ra6.same s7).same s8
  have rb8 := (rb6.same s7).same s8
  have fin : ∀ (H : Hp), Same H3 H → SameX p _ H ∧ PotAt H p := fun H s => ⟨((s01.trans s2).trans s3).trans s.x, p3.same s⟩
  have dz : (decide (v = V.int 0) = true) ↔ v = V.int 0 := decide_eq_true_iff
  have sv : ∀ (k : Bool), (k = true ↔ ∀ t, t < wid (wps A B) → tot (wps A B) t = 0) → k = decide (v = V.int 0) := fun k hk => by
    have := hk.trans lw.zero
    by_cases z : v = V.int 0
    · rw [decide_eq_true z]; exact this.mpr z
    · rw [decide_eq_false z]
      cases k with
      | false => rfl
      | true => exact absurd (this.mp rfl) z
  have sc : scal v (V.int 0) = true := by
    rcases lw.kind with e | ⟨s, e, _⟩ <;> rw [e] <;> rfl
  have dd : ∀ k : Bool, k = decide (v = V.int 0) → decide (V.bl k = V.bl (decide (v = V.int 0))) = true := fun k e => by rw [e]; simp
  cases k with
  | false =>
    refine iteT ⟨_, rfl, _, rfl, a, b, A, B, rfl, bo, loB, ra8, rb8, fun k2 H9 s9 hk2 => ?_⟩
    refine ⟨_, rfl, sc, rfl, ?_⟩
    rw [dd k2 (sv k2 hk2)]
    exact q _ (fin _ (s38.trans s9)).1 (fin _ (s38.trans s9)).2
  | true =>
    refine iteF ?_
    have loA := (hk rfl).lone okA (by omega)
    refine ⟨_, rfl, _, rfl, a, b, A, B, rfl, bo, loA, loB, ra8, rb8, fun H9 s9 => ?_⟩
    rw [lw.rest (hk rfl)]
    have s39 := s38.trans s9
    rcases lw.kind with e | ⟨z, e, hz⟩
    · subst e
      refine .inl ⟨rfl, _, rfl, .inl ⟨rfl, rfl, _, rfl, iteTr (decide_eq_true rfl) ?_⟩⟩
      refine ⟨_, rfl, _, rfl, a, b, A, B, rfl, bo, loB, ra8.same s9, rb8.same s9, fun k2 H10 s10 hk2 => ?_⟩
      refine ⟨_, rfl, sc, rfl, ?_⟩
      rw [dd k2 (sv k2 hk2)]
      exact q _ (fin _ (s39.trans s10)).1 (fin _ (s39.trans s10)).2
    · subst e
      refine .inr (.inr ⟨z, rfl, hz, _, rfl, .inr (.inr ⟨z, rfl, hz, rfl, _, rfl, iteTr (decide_eq_true rfl) ?_⟩)⟩)
      refine ⟨_, rfl, _, rfl, a, b, A, B, rfl, bo, loB, ra8.same s9, rb8.same s9, fun k2 H10 s10 hk2 => ?_⟩
      refine ⟨_, rfl, sc, rfl, ?_⟩
      rw [dd k2 (sv k2 hk2)]
      exact q _ (fin _ (s39.trans s10)).1 (fin _ (s39.trans s10)).2
end K39
end Text_K39L17

section Text_K39B1
set_option Elab.async false set_option linter.all false set_option maxRecDepth 100000 set_option maxHeartbeats 4000000
/-! d.update(d2), keys texts. -/
namespace K39
open PySem PySem.Spec PyProof.Rows L2
section
variable {X : Cx}
def rDkUpd : V → List V → Hp → VK → Prop := fun x xs H Q => ∃ (d o : Addr) (kvs more : List (Key × V)), x = .ref d ∧ xs = [.ref o] ∧ H d = some (.dK kvs) ∧ H o = some (.dK more) ∧ d ≠ o ∧ kvs.length + more.length ≤ sizeLine ∧ Q .non (upd H d (.dK (mergeK kvs more)))
theorem mt_dkUpd : MtR X "dict.update" rDkUpd := by
  intro pins s σ H x xs v us Q I rx rxs h
  obtain ⟨d, o, kvs, more, rfl, rfl, hd, ho, ne, hz, q⟩ := h
  cases rx
  obtain rfl := Vals.ref1 rxs
  obtain ⟨z1, sd, vs, rel, dd⟩ := dk_of I.hok hd
  obtain ⟨z2, so, ms, rel2, dd2⟩ := dk_of I.hok ho
  have e1 := Paired.length rel
  have e2 := Paired.length rel2
  refine call_meetsIn PySem.F.slot_dict_update dd.typeIs PySem.F.entry_dict_update (PySem.F.args_dict_update_2 _ _) (meets_dict_update (mixKind X.prog X.w) d o ne so) ⟨vs, ms, dd, dd2, by rw [← e1, ← e2]; exact hz, fun h' hm _ hs => ?_⟩
  have hk := KV.merge rel2 rel
  have hl : (mergeK kvs more).length ≤ sizeLine := by
    have := Paired.length hk
    rw [this]
    exact Nat.le_trans (merged_length_le vs ms) (by rw [← e1, ← e2]; exact hz)
  have he : ∃ q, h'.get? d = some q := let ⟨q, _, _, hq, _⟩ := hm; ⟨q, hq⟩
  exact ⟨.non, _, d_write (t' := s.toks) I (by rw [hd]; exact True.intro) hs he (show ObjOk X.prog X.w (upd H d (.dK (mergeK kvs more))) h' d (.dK (mergeK kvs more)) from ⟨hl, sd, _, hk, hm⟩), rfl, q⟩
end
end K39
end Text_K39B1

section Text_K39B2
set_option Elab.async false set_option linter.all false set_option maxRecDepth 100000 set_option maxHeartbeats 4000000
/-! sorted(texts, key=lambda one: (len(one), one)). -/
namespace K39
open PySem PySem.Spec PyProof.Rows L2
abbrev lamPa (q : Pos) : Arguments := { posonlyargs := [], args := [{ arg := "one", annotation := none, pos := q : PySem.Arg }], vararg := none, kwonlyargs := [], kw_defaults := [], kwarg := none, defaults := [] : PySem.Arguments }
abbrev lamBo (q1 q2 q3 q4 q5 : Pos) : Expr := .Tuple [.Call (.Name (Str.ofString "len") q1) [.Name (Str.ofString "one") q2] [] q3, .Name (Str.ofString "one") q4] 0 q5
abbrev lamSc : Scope := { kind := .function, names := [(Str.ofString "one", .local), (Str.ofString "len", .globalImplicit)], isGenerator := false, isCoroutine := false, more := [] : PySem.Scope }
/-- the key of a text -/
def tKey (x : Str) : PyData := .tuple [.int (x.length : Int), .str x]
section
variable {X : Cx} {pins : List (Addr × Obj)} {σ : L2.St} {H : Hp} {s : Shared}
/-- the lambda called with a text -/
theorem lam_call {q q1 q2 q3 q4 q5 : Pos} {f c' : Addr} {pm ctv : Value} {x : Str} {t : Tok} {A : Around} {E : Value → Shared → Prop} {cl : List (Str × Addr)} {qn : Str} (mb : Str → Option Value)
    (hA : A.depth < recursionLimit) (lim : s.heap.NoLimit) (hf : s.heap.get? f = some (PySem.W.kla_obj "<lambda>" qn (lamPa q) (lamBo q1 q2 q3 q4 q5) lamSc cl pm c' ctv)) (hc : s.heap.CodeRec (.ref c') qn)
    (mg : Str → Option Value) (hg : s.heap.Ns mainGlobals mg) (hm : mg (Str.ofString "len") = none) (hb : s.heap.Ns builtinsNs mb) (hv : mb (Str.ofString "len") = some (.builtin "len")) (hx : x.length ≤ 1000) :
    wpAny (model X.prog X.w) A (call (.ref f) [.str x t]) (PySem.W.KeyPure (tKey x) s) E s := by
  refine wpAny_call (PySem.W.kla_callFunE hA hf rfl rfl rfl rfl hc ?_)
  have hbind : bindArgs (PySem.W.kla_fn "<lambda>" qn (lamPa q) (lamBo q1 q2 q3 q4 q5) lamSc cl pm (.ref c') ctv) ⟨[.str x t], []⟩ = pure [(Str.ofString "one", .str x t)] := rfl
  rw [hbind]
  refine wpAny_pure ?_
  refine wpAny_newFunctionEnv (show ∀ y ∈ lamSc.names, y.2 ≠ .cell by decide) (by intro y hy; rw [List.mem_singleton.mp hy]; rfl) (fun h₁ hns hsb => ⟨lim.fresh _ hsb, ?_⟩) rfl
  show codeAny _ _ (.expr (lamBo q1 q2 q3 q4 q5) (PySem.W.envX qn lamSc s.heap.objs.size f (.ref c') cl)) _ _
  have kp : ∀ b o, s.heap.get? b = some o → h₁.get? b = some o := fun b o e => hsb.extBut b o (Nat.ne_of_lt (Heap.lt_size e)) (Heap.get?_push_of_some _ e)
  have hbig : ¬ (x.length : Int) ≥ 2 ^ 63 := by
    have : (1000 : Int) < 2 ^ 63 := by decide
    omega
  refine PySem.W.kla_codeExpr (wpAny_Tuple_spliced ?_)
  have hs : starEach [.Call (.Name (Str.ofString "len") q1) [.Name (Str.ofString "one") q2] [] q3, .Name (Str.ofString "one") q4] (PySem.W.envX qn lamSc s.heap.objs.size f (Value.ref c') cl) = [(false, eval (.Call (.Name (Str.ofString "len") q1) [.Name (Str.ofString "one") q2] [] q3) (PySem.W.envX qn lamSc s.heap.objs.size f (Value.ref c') cl)), (false, eval (.Name (Str.ofString "one") q4) (PySem.W.envX qn lamSc s.heap.objs.size f (Value.ref c') cl))] := by rfl
  rw [hs]
  show wpAny _ _ (spliced ((false, eval (.Call (.Name (Str.ofString "len") q1) [.Name (Str.ofString "one") q2] [] q3) (PySem.W.envX qn lamSc s.heap.objs.size f (Value.ref c') cl)) :: (false, eval (.Name (Str.ofString "one") q4) (PySem.W.envX qn lamSc s.heap.objs.size f (Value.ref c') cl)) :: [])) _ _ _
  have hg1 := hg.keeps kp
  have hb1 := hb.keeps kp
  refine Calls.spliced_cons (wpAny_Call_Name_kw ?_)
  refine Calls.Name_function_global rfl rfl (Calls.loadGlobal_builtin hg1 hm hb1 hv ?_) (by decide)
  refine PyProof.Rows.callWith_builtin1 ?_
  have hs2 : starEach [.Name (Str.ofString "one") q2] (PySem.W.envX qn lamSc s.heap.objs.size f (Value.ref c') cl) = [(false, eval (.Name (Str.ofString "one") q2) (PySem.W.envX qn lamSc s.heap.objs.size f (Value.ref c') cl))] := by rfl
  rw [hs2]
  show wpAny _ _ (spliced ((false, eval (.Name (Str.ofString "one") q2) (PySem.W.envX qn lamSc s.heap.objs.size f (Value.ref c') cl)) :: [])) _ _ _
  have hl : ([(Str.ofString "one", Value.str x t)] : List (Str × Value)).reverse.lookup (Str.ofString "one") = some (.str x t) := by simp [List.lookup]
  refine Calls.spliced_cons (wpAny_Name (wpAny_loadName_local rfl rfl hns hl (Calls.spliced_nil ?_)) (by decide))
  refine len_str hbig (Calls.spliced_cons ?_)
  refine wpAny_Name (wpAny_loadName_local rfl rfl hns hl (Calls.spliced_nil ?_)) (by decide)
  refine ⟨by show 2 ≤ sizeLine; decide, ?_⟩
  refine ⟨_, _, rfl, fun b o e => Heap.get?_push_of_some _ (kp b o e), ?_⟩
  exact reads_tuple_at (Heap.get?_push_size _ rfl) rfl rfl (.cons (.int _ _) (.cons (.str _ _) .nil))
def sortK (zs : List Str) : List Str := zs.mergeSort (PySem.W.dataLe false tKey)
def tSortLam (K : PySem.W.Frag) (T : List (Addr × Str)) (te : TE) : TE := fun σ H Q => te σ H fun v H1 => ∃ (a : Addr) (zs : List Str), v = .ref a ∧ SqL K H1 a (zs.map V.str) ∧ (∀ z ∈ zs, z.length ≤ 1000) ∧ LamX.Tabs T H1 ∧
  ∀ p H2, LamX.ExtN H1 H2 → LamX.Tabs T H2 → H2 p = none → Q (.ref p) (upd H2 p (.lst ((sortK zs).map V.str)))
theorem each_strs : ∀ {zs : List Str} {us : List Value}, Vals (zs.map V.str) us → PySem.W.EachIs (fun v x => ∃ t, v = Value.str x t) us zs
  | [], [], _ => by constructor
  | x :: zs, u :: us, .cons h t => by
    obtain ⟨k, rfl⟩ := h
    exact .cons ⟨k, rfl⟩ (each_strs t)
theorem vals_strs : ∀ {zs : List Str} {us : List Value}, PySem.W.EachIs (fun v x => ∃ t, v = Value.str x t) us zs → Vals (zs.map V.str) us
  | [], _, h => by cases h; exact .nil
  | x :: zs, _, h => by
    cases h with
    | cons h1 h2 =>
      obtain ⟨k, rfl⟩ := h1
      exact .cons ⟨k, rfl⟩ (vals_strs h2)
theorem tKey_alike (zs : List Str) : PySem.W.AllAlike (zs.map tKey) := by
  intro a ha b hb
  obtain ⟨x, _, rfl⟩ := List.mem_map.mp ha
  obtain ⟨y, _, rfl⟩ := List.mem_map.mp hb
  rfl
theorem tKey_sortable (zs : List Str) : PySem.W.Sortable (zs.map tKey) := by
  refine .inl fun a ha => ?_
  obtain ⟨x, _, rfl⟩ := List.mem_map.mp ha
  exact ⟨_, _, rfl⟩
theorem lam_nofree : ∀ y ∈ lamSc.names, y.2 ≠ .free := by decide
theorem boot_len : bootBuiltins (Str.ofString "len") = some (.builtin "len") := by decide +kernel
theorem boot_sorted : bootBuiltins "sorted" = some (.builtin "sorted") := by decide +kernel
theorem lam_dfl {q : Pos} {env : Env} : defaultsOf (lamPa q) env = ([], []) := rfl
theorem kw_one (L : Expr) (env : Env) (pos kpos : Pos) : (backToKw pos (keywordEach [⟨some "key", L, kpos⟩] env)).map (·.2) = [do let v ← eval L env; standAt pos; pure v] := rfl
theorem kw_names (L : Expr) (env : Env) (pos kpos : Pos) : (backToKw pos (keywordEach [⟨some "key", L, kpos⟩] env)).filterMap (·.1) = [Str.ofString "key"] := rfl
theorem kw_all (L : Expr) (env : Env) (pos kpos : Pos) : (backToKw pos (keywordEach [⟨some "key", L, kpos⟩] env)).all (·.1.isSome) = true := rfl
theorem kw_any (L : Expr) (env : Env) (pos kpos : Pos) : (backToKw pos (keywordEach [⟨some "key", L, kpos⟩] env)).any (·.1.isNone) = false := rfl
theorem pe_sortLam {e : Expr} {te : TE} {p pos lpos kpos q q1 q2 q3 q4 q5 : Pos} {c P : Addr} {k : Nat} (hE : PE X e te) (TB : LamX.TabB X.base X.mg c P) (hcode : X.env.code = .ref c) (hr : Room (k + 1) X.A) (hu : X.A.units + 64 < cLine) (hg : Gl X "sorted") (hm : X.mg "sorted" = none) (hml : X.mg (Str.ofString "len") = none)
    (hs : starEach [e] X.env = [(false, eval e X.env)] := by rfl) : PE X (.Call (.Name "sorted" p) [e] [⟨some "key", .Lambda (lamPa q) (lamBo q1 q2 q3 q4 q5) lamSc lpos, kpos⟩] pos) (tSortLam X.K [(P, X.env.qual ++ "<lambda>")] te) := by
  refine ⟨fun pins s σ H Q I h => ?_⟩
  generalize hL : Expr.Lambda (lamPa q) (lamBo q1 q2 q3 q4 q5) lamSc lpos = L
  refine wpAny_Call_Name_kw (ld_blt I hg hm boot_sorted ?_)
  have he : backTo pos (starEach [e] X.env) = (false, eval e X.env) :: backTo pos (starEach [] X.env) := by rw [hs]; rfl
  have hpl : (backTo pos (starEach [e] X.env)).any (·.1) = false := by rw [hs]; rfl
  have hs' : starEach [e] X.env = (false, eval e X.env) :: starEach [] X.env := by rw [hs]; rfl
  let T : List (Addr × Str) := [(P, X.env.qual ++ "<lambda>")]
  let R : V → Hp → Prop := fun v H1 => ∃ (a : Addr) (zs : List Str), v = .ref a ∧ SqL X.K H1 a (zs.map V.str) ∧ (∀ z ∈ zs, z.length ≤ 1000) ∧ LamX.Tabs T H1 ∧
    ∀ p H2, LamX.ExtN H1 H2 → LamX.Tabs T H2 → H2 p = none → Q (.ref p) (upd H2 p (.lst ((sortK zs).map V.str)))
  refine PyProof.Rows.callWith_kw (thn ((pa_cons hE pa_nil hs').run pos pins s σ H (fun vs H1 => match vs with | [v] => R v H1 | _ => False) I h) fun us s1 ⟨vs, H1, I1, r1, q1⟩ => ?_) he hpl (kw_all _ _ _ _) (kw_any _ _ _ _)
  have aux : ∃ u0 v0, us = [u0] ∧ vs = [v0] ∧ RelV v0 u0 ∧ R v0 H1 := by
    cases r1 with
    | nil => exact q1.elim
    | cons rv rt =>
      cases rt with
      | nil => exact ⟨_, _, rfl, rfl, rv, q1⟩
      | cons _ _ => exact q1.elim
  clear q1 r1
  obtain ⟨u, v, rfl, rfl, rv, a, zs, rfl, hz, lz, hT, q⟩ := aux
  obtain rfl : u = Value.ref a := rv
  rw [kw_one, kw_names]
  refine wpAny_evalAll_cons (wpAny_bind ?_)
  subst hL
  refine LamX.lam_make2 (T := T) I1 TB hcode (List.mem_singleton.mpr rfl) (fun p hp _ => by rw [List.mem_singleton.mp hp]) hT lam_dfl (fun y hy hf => absurd hf (lam_nofree y hy)) ?_
  intro f c' pm ctv H2 s2 I2 hE2 hT2 hf nf ffr hc'
  refine wpAny_bind (wpAny_standAt (wpAny_pure (wpAny_evalAll_nil ?_)))
  show wpAny _ _ (call (.builtin "sorted") [.ref a] [(Str.ofString "key", .ref f)]) _ _ _
  have hz2 : SqL X.K H2 a (zs.map V.str) := by
    rcases hz with (h | ⟨o, h⟩) | h
    · exact .inl (.inl (hE2 _ _ h (by intro ps z; cases z)))
    · exact .inl (.inr ⟨o, hE2 _ _ h (by intro ps z; cases z)⟩)
    · exact .inr h
  obtain ⟨its, rits, hl, hlz⟩ := I2.list hz2
  obtain ⟨⟨oc, vs, t, hoc, hdc, hvc⟩, _, _⟩ := I2.hok c' _ hc'
  have lits : (zs.map V.str).length = zs.length := List.length_map ..
  obtain ⟨mb, hb1, hb2⟩ := I2.mod.blt
  have hdp := hr.dp
  have hdep : ∀ x, x ∈ zs → X.A.units + 2 + (tKey x).depth < cLine := fun x _ => by
    have : (tKey x).depth ≤ 1 := by simp [tKey, PyData.depth, PyData.depthAll]
    omega
  refine PySem.W.sorted_key_data (β := Str) (R := fun v x => ∃ t, v = Value.str x t) (vs := its) (bs := zs) (b := false) tKey hl.isList (each_strs rits) (tKey_alike zs) (tKey_sortable zs) (by rw [← lits]; exact hlz) hdep (PyProof.Rows.ksk_s1 _ _) (fun _ => PyProof.Rows.ksk_l1 _ _) (fun _ => PyProof.Rows.ksk_t1 _ _) ?_ ?_
  · intro v x hv hx h tk kp
    obtain ⟨t2, rfl⟩ := hv
    exact lam_call (X := X) mb (by show X.A.depth < recursionLimit; omega) (I2.nolimit.keeps kp) (kp _ _ hf) ⟨c', oc, vs, t, rfl, kp _ _ hoc, hdc, hvc⟩ X.mg ((I2.mod.glob.keeps I2.bk).keeps kp) hml ((hb1.keeps I2.bk).keeps kp) ((hb2 _ (by decide)).trans boot_len) (lz x hx)
  · intro out c3 h' tk kp fresh hout hlen ho
    have ns := I2.hok.fresh (Nat.le_succ s2.heap.objs.size)
    have hl2 : ((sortK zs).map V.str).length ≤ sizeLine := by
      rw [List.length_map, sortK, List.length_mergeSort, ← lits]; exact hlz
    exact ⟨.ref (s2.heap.objs.size + 1), upd H2 (s2.heap.objs.size + 1) (.lst ((sortK zs).map V.str)), I2.laid (t' := tk) kp (Nat.le_succ _) ⟨hl2, out, c3, vals_strs ho, hout⟩, rfl, q _ H2 hE2 hT2 ns⟩
end
end K39
end Text_K39B2

section Text_K39B3
set_option Elab.async false set_option linter.all false set_option maxRecDepth 100000 set_option maxHeartbeats 4000000
/-! The beginnings of the law's texts. -/
namespace K39
open PySem PySem.Spec PyProof.Rows L2
variable {P : Program} {w : World} {K : PySem.W.Frag} {mg : Str → Option Value} {base : Heap}
theorem fnC_mk {x : Str} {st : Stmt} {N ps : List Str} {k : Nat} {sp : Sp} (F : ∃ fd, FunD K x x (defArgs st) (defBody st) (defScope st) [] [] (He.ga K x) fd) (g : mg x = some (.ref (He.ga K x))) (S : FnScope N ps (defScope st))
    (b : ∀ (kV doc pm : Value) (an : Option Addr) (cdv ct : Value) (us : List Value), us.length = ps.length → bindArgs (PySem.W.fnOf x x (defArgs st) (defBody st) (defScope st) .none kV doc pm an cdv ct) ⟨us, []⟩ = pure (ps.zip us))
    (len : ∀ vs H Q E, sp vs H Q E → vs.length = ps.length)
    (hbody : ∀ (c : Addr), He.codeOf K (x, none) = c → ∀ (A : Around) (outer : List Env) (s : Shared) (H : Hp) (vs : List V) (Q : VK) (E : XK), Room k (A.deeper (envOfC x (defScope st) s.heap.objs.size (He.ga K x) (.ref c))) → sp vs H Q E →
      ∃ t, PSs (cxOf CX0 P w K mg base N x (defScope st) (He.ga K x) (.ref c) A outer s H E).nox (defBody st) t ∧ t { nx := fun _ H' => Q .non H', rt := Q } (start N vs) H) :
    Fn P w K mg base (k + 1) x sp := by
  obtain ⟨fd, F⟩ := F
  refine ⟨?_, F.kp, g⟩
  have hb : Binds K fd ps [] := F.bindsN b
  obtain ⟨oc, od, dV, kV, doc, pm, an, cdv, ct, osl, e, lk, hcd, _, _⟩ := F.ex
  obtain ⟨c, rfl⟩ := He.codeIn_ref hcd
  have hc : He.codeOf K (x, none) = c := He.codeOf_eq (p := (x, none)) lk (by rw [e])
  rw [e] at lk
  have ok : FnOk P w K mg base CX0 (k + 1) (He.ga K x) fd ps sp := by
    rw [e]
    exact fn_of lk hcd S len fun A outer s H vs Q E hr hsp => by
      obtain ⟨t, h, q⟩ := hbody c hc A outer s H vs Q E hr hsp
      exact ⟨t, h.nox, q⟩
  have r := ok.raw hb .nil
  intro A outer s H us vs Q E hr e0 rv hs
  exact r A outer s H us vs Q E hr e0 rv (by show sp (vs ++ []) H Q E; rw [List.append_nil]; exact hs)
abbrev lamQ : Str := (Str.ofString "beginnings_of" ++ Str.ofString ".<locals>.") ++ Str.ofString "<lambda>"
abbrev LT (K : PySem.W.Frag) : List (Addr × Str) := [(tB K, lamQ)]
def texts0 : List Str := ["a", "ab", "b", "bba", ""]
def begun0 : List Str := ["", "a", "b", "ab", "bb", "bba"]
def pre0 (x : Str) : List (Key × V) := (List.range (x.length + 1)).map fun k : Nat => (Sum.inr (cutS x none (some (k : Int))), V.bl true)
/-- what is found by i texts -/
def fnd (i : Nat) : List (Key × V) := (texts0.take i).foldl (fun acc x => mergeK acc (mergeK [] (pre0 x))) [(Sum.inr "", V.bl true)]
theorem fnd_len : ∀ i, i ≤ 5 → (fnd i).length ≤ 6 := by decide +kernel
theorem pre0_len : ∀ z ∈ texts0, z.length ≤ 3 ∧ (mergeK [] (pre0 z)).length ≤ 4 := by decide +kernel
theorem mergeK_snoc (acc l : List (Key × V)) (p : Key × V) : mergeK acc (l ++ [p]) = putK (mergeK acc l) p.1 p.2 := by unfold mergeK; rw [List.foldl_append]; rfl
def found0 : List Str := ["", "a", "ab", "b", "bb", "bba"]
theorem fnd_end : (fnd 5).map (fun kv => kV kv.1) = found0.map V.str := by decide +kernel
theorem perm_le_eq {α : Type} {le : α → α → Bool} (anti : ∀ a b, le a b = true → le b a = true → a = b) : ∀ {l m : List α}, l.Perm m → l.Pairwise (fun a b => le a b = true) → m.Pairwise (fun a b => le a b = true) → l = m
  | [], m, p, _, _ => (List.nil_perm.mp p).symm
  | a :: l, [], p, _, _ => absurd p.length_eq (by simp)
  | a :: l, b :: m, p, hl, hm => by
    obtain ⟨l1, l2⟩ := List.pairwise_cons.mp hl
    obtain ⟨m1, m2⟩ := List.pairwise_cons.mp hm
    have e : a = b := by
      rcases List.mem_cons.mp (p.mem_iff.mp List.mem_cons_self) with z | z
      · exact z
      · rcases List.mem_cons.mp (p.mem_iff.mpr List.mem_cons_self) with y | y
        · exact y.symm
        · exact anti a b (l1 b y) (m1 a z)
    subst e
    rw [perm_le_eq anti (List.Perm.cons_inv p) l2 m2]
theorem srtBy_eq {α : Type} {e : α → PyData} (inj : ∀ a b, PySem.W.keyToks (e a) = PySem.W.keyToks (e b) → a = b) {l m : List α} (p : l.Perm m) (h : m.Pairwise fun a b => dLe (e a) (e b) = true) : srtBy e l = m := by
  refine perm_le_eq (le := fun a b => dLe (e a) (e b)) (fun a b h1 h2 => ?_) (srtBy_perm.trans p) ?_ h
  · rw [dLe_def, Bool.not_eq_true'] at h1 h2
    exact inj a b (PyProof.Rows.lex_total _ _ h2 h1)
  · exact List.pairwise_mergeSort (fun a b c => dLe_total.trans (e a) (e b) (e c)) (fun a b => by rcases dLe_total.total (e a) (e b) with h | h <;> simp [h]) l
theorem tKey_toks (a b : Str) (h : PySem.W.keyToks (tKey a) = PySem.W.keyToks (tKey b)) : a = b := by
  simp [tKey, PySem.W.keyToks, PySem.W.keyToksAll] at h
  obtain ⟨_, h⟩ := h
  obtain ⟨a⟩ := a
  obtain ⟨b⟩ := b
  simpa using h
theorem sort_end : sortK found0 = begun0 := by
  have e : sortK found0 = srtBy tKey found0 := rfl
  rw [e]
  exact srtBy_eq tKey_toks (by decide +kernel) (by decide +kernel)
theorem found_small : ∀ z ∈ found0, z.length ≤ 1000 := by decide +kernel
def sp_beginnings_of (w : World) (K : PySem.W.Frag) : Sp := fun vs H Q E => ∃ (a : Addr), vs = [.ref a] ∧ SqT K H a (texts0.map V.str) ∧ LamX.Tabs (LT K) H ∧ ∀ p H1 H', LamX.ExtN H H1 → LamX.Tabs (LT K) H1 → H1 p = none → H' = upd H1 p (.lst (begun0.map V.str)) → Q (.ref p) H'
abbrev N_beginnings_of : List Str := ["texts", "found", "text", "at"]
theorem sc_beginnings_of : FnScope N_beginnings_of ["texts"] (defScope s_beginnings_of) := ⟨rfl, rfl, rfl, by decide +kernel, rfl, by decide +kernel, by decide +kernel⟩
theorem p_beginnings_of (T : Tx K mg) (tb : LamX.TabB base mg (cB K) (tB K)) : Fn P w K mg base 2 "beginnings_of" (sp_beginnings_of w K) := by
  refine fnC_mk T.d_beginnings_of T.g_beginnings_of sc_beginnings_of (fun _ _ _ _ _ _ us h => by match us, h with | [_], _ => rfl) (fun vs H Q E ⟨a, e, hs, hT, q⟩ => by rw [e]; rfl) fun c hc A outer s H vs Q E hr ⟨a, e, hs, hT, q⟩ => ?_
  subst e
  have hc : cB K = c := hc
  subst hc
  have hu := hr.units
  have hu1 := hu_of hr
  have nd := sc_beginnings_of.nd
  refine ⟨_, (pss_cons (ps_set (i := 1) nd rfl (Or.inl rfl) (pe_disp (pps_cons pe_str pe_bl pps_nil) (by rfl) (by rfl) (fun z => by cases z) (by decide)))
      (pss_cons (ps_for PassesOwn.never rfl (pi_tup (pv 0)) (pg_name (i := 2) nd rfl (Or.inr rfl))
        (pss_cons (ps_if (pt_cmpR op_ge (pe_callB call_len_str (by rfl) T.b_len (by decide +kernel) (pa_cons (pv 2) pa_nil)) (pgi T.i_MAX_STATES) (nomark _)) (pss_one ps_never) pss_nil)
        (pss_one (ps_expr (pe_bm PySem.F.plainAttrs_dict PySem.F.slot_dict_update PySem.F.type_dict_update mt_dkUpd (pv 1) (pa_cons (pe_dc (own := [("at", 3)]) rfl nd (pi_range1 (by rfl) T.b_range (pa_cons (pe_op op_add (pe_callB call_len_str (by rfl) T.b_len (by decide +kernel) (pa_cons (pv 2) pa_nil)) pe_int) pa_nil)) (blkOk_by (N := N_beginnings_of) (sc := defScope s_beginnings_of) (by decide +kernel)) (fun _ _ _ _ _ => (pg_name (i := 3) nd rfl (Or.inl rfl) (Or.inr rfl))) (fun _ _ _ _ _ => pts_nil) (fun _ _ _ _ _ => (pe_slice sl_str (pv 2) po_none (po_some (pv 3)))) (fun _ _ _ _ _ => pe_bl)) pa_nil))))))
      (pss_cons (ps_if (pt_cmpR op_gt (pe_callB call_lenD (by rfl) T.b_len (by decide +kernel) (pa_cons (pv 1) pa_nil)) (pgi T.i_MAX_STATES) (nomark _)) (pss_one ps_never) pss_nil)
      (pss_one (ps_ret (pe_sortLam (pe_callTy (call_listD rfl) (by rfl) T.b_list (by decide +kernel) (pa_cons (pv 1) pa_nil)) tb rfl hr hu rfl T.b_sorted T.b_len)))))), ?_⟩
  have l6 := sz60
  refine fun D nD => ⟨upd_same, [(Sum.inr "", V.bl true)], rfl, by decide, ?_⟩
  have s0 : Same H (upd (upd H D (.dK [])) D (.dK (fnd 0))) := (Same.new nD).put nD
  refine ⟨_, rfl, a, rfl, ⟨_, SqT.tle s0.tle hs⟩, ?_⟩
  refine for_it (walk_tup (xs := texts0.map V.str)) (fun i σ H' => Same H H' ∧ H' D = some (.dK (fnd i)) ∧ ∃ o2, σ = [some (.ref a), some (.ref D), o2, none])
    ⟨s0, upd_same, none, rfl⟩ (fun i σ H' _ h => SqT.tle h.1.tle hs) (fun i x σ H2 H3 hi ⟨s2, hD, o2, eσ⟩ yy => ?_) fun σ H2 ⟨s2, hD, o2, eσ⟩ => ?_
  · obtain ⟨rfl, hx⟩ := yy
    subst eσ
    rw [List.getElem?_map] at hx
    obtain ⟨z, hz, rfl⟩ := Option.map_eq_some_iff.mp hx
    have mz := List.mem_of_getElem? hz
    obtain ⟨lz, lp⟩ := pre0_len z mz
    have hi5 : i < 5 := hi
    have lf := fnd_len i (by omega)
    refine ⟨_, rfl, z, rfl, by omega, _, _, rfl, rfl, ⟨decide ((z.length : Int) ≥ 60), rfl, ?_⟩⟩
    rw [decide_eq_false (by omega)]
    refine iteF ?_
    refine ⟨_, rfl, .inr (.inr (.inl ⟨rfl, .inl ⟨_, hD⟩⟩)), ?_⟩
    refine ⟨_, rfl, z, rfl, by omega, _, _, rfl, rfl, _, rfl, by omega, by omega, fun E nE => ?_⟩
    have DE : D ≠ E := ne_of_none hD nE
    have pg : ∀ k, k < z.length + 1 → (pre0 z)[k]? = some (Sum.inr (cutS z none (some (k : Int))), V.bl true) := fun k hk => by
      unfold pre0
      rw [List.getElem?_map, List.getElem?_range hk]; rfl
    have pl : (pre0 z).length = z.length + 1 := by simp [pre0]
    refine dc_it walk_range (fun k H' => Same H3 H' ∧ H' E = some (.dK (mergeK [] ((pre0 z).take k)))) ⟨Same.new nE, upd_same⟩ (fun _ _ _ _ => trivial) (fun k x H4 H5 hk ⟨s4, hE⟩ yy => ?_) fun H4 ⟨s4, hE⟩ => ?_
    · obtain ⟨rfl, rfl⟩ := yy
      have hk' : k < z.length + 1 := by omega
      have lm : (mergeK [] ((pre0 z).take k)).length ≤ 100 := by
        have h1 := putAll_len ((pre0 z).take k) ([] : List (Key × V))
        have h2 : ((pre0 z).take k).length ≤ z.length + 1 := by rw [List.length_take, pl]; omega
        have h3 : (mergeK [] ((pre0 z).take k)).length ≤ ([] : List (Key × V)).length + ((pre0 z).take k).length := h1
        simp only [List.length_nil] at h3
        omega
      refine ⟨rfl, tYes_if ⟨_, rfl, ?_⟩⟩
      dsimp only [tNoPart]
      refine ⟨_, rfl, _, rfl, z, rfl, by omega, ?_⟩
      refine ⟨_, Sum.inr (cutS z none (some ((0 : Int) + (k : Int)))), rfl, hE, by omega, s4.put nE, ?_⟩
      rw [upd_same, take_one (pg k hk'), mergeK_snoc, Int.zero_add]
    · have et : (pre0 z).take (((z.length : Int) + 1 - 0).toNat) = pre0 z := List.take_of_length_le (by rw [pl]; omega)
      have hE : H4 E = some (.dK (mergeK [] (pre0 z))) := by rw [← et]; exact hE
      refine ⟨D, E, fnd i, mergeK [] (pre0 z), rfl, rfl, s4 _ _ hD, hE, DE, by omega, ?_⟩
      refine ⟨(s2.trans s4).put nD, ?_, _, rfl⟩
      rw [upd_same]
      unfold fnd
      rw [take_one hz, List.foldl_append]; rfl
  subst eσ
  have hD : H2 D = some (.dK (fnd 5)) := hD
  have lf := fnd_len 5 (by omega)
  refine ⟨_, rfl, D, _, rfl, hD, _, _, rfl, rfl, ⟨decide (((fnd 5).length : Int) > 60), rfl, ?_⟩⟩
  rw [decide_eq_false (by omega)]
  refine iteF ?_
  refine ⟨_, rfl, D, _, rfl, .inl hD, fun p np => ?_⟩
  rw [fnd_end]
  have sp1 := Same.new (o := .lst (found0.map V.str)) np
  have s3 := s2.trans sp1
  refine ⟨p, found0, rfl, SqL.of upd_same, found_small, hT.ext s3, fun z H4 ex hT4 nz => ?_⟩
  rw [sort_end]
  exact q z H4 _ ((LamX.ExtN.of s3).trans ex) hT4 nz rfl
end K39
end Text_K39B3

section Text_K39B0
set_option Elab.async false set_option linter.all false set_option maxRecDepth 100000 set_option maxHeartbeats 4000000
/-! cls(..), cls a parameter. -/
namespace K39
open PySem PySem.Spec PyProof.Rows L2
section
variable {X : Cx} {CX : CXT} {k i : Nat} {C f : Addr} {sp : Sp} {E : XK} {x : Str} {p pos : Pos} {e : Expr} {es : List Expr} {t : TA}
theorem pe_makeL (M : Mk X.K C f) (F : FnR X.prog X.w X.K X.mg X.base CX k f sp) (hr : Room (k + 1) X.A) (hN : X.N[i]? = some x) (hv : Vis X.env.scope x) (hx : Passes CX X E) (ha : PA X (e :: es) t) (hdb : (x == ("__debug__" : Str)) = false := by decide) (hcd : (x == ("__classdict__" : Str)) = false := by decide)
    (he : starEach (e :: es) X.env = (false, eval e X.env) :: starEach es X.env := by rfl) (hpl : (backTo pos (starEach es X.env)).any (·.1) = false := by rfl) : PE X (.Call (.Name x p) (e :: es) [] pos) (fun σ H Q => σ[i]? = some (some (.ref C)) ∧ StX.tMakeR C sp E t σ H Q) := by
  refine ⟨fun pins s σ H Q I h => ?_⟩
  obtain ⟨hs, h⟩ := h
  refine wpAny_Call_Name_kw (thn ((pe_var (pos := p) (i := i) hN hv hdb hcd).run pins s σ H (fun v H1 => v = .ref C ∧ H1 = H) I ⟨.ref C, hs, rfl, rfl⟩) fun u s1 ⟨v, H1, I1, r1, q1⟩ => ?_)
  obtain ⟨ev, eH⟩ := q1
  subst ev
  rw [eH] at I1
  obtain rfl : u = Value.ref C := r1
  refine PySem.W.callWith_K (h₀ := X.base) I1.ok.mod.kin M.kp (thn (ha.run pos pins s1 σ H _ I1 h) fun us s2 ⟨vs, H2, I2, r, q⟩ => ⟨I2.kIn, ?_⟩) he hpl
  exact StX.run_makeR M F hr hx I2 r q
end
end K39
end Text_K39B0

section Text_K39N6
set_option autoImplicit false set_option linter.all false
/-! The three readers of the law's end. -/
namespace K39
open PySem PySem.Spec PyProof.Rows L2
def fewR : Rd := ⟨[97, 98], 6, [0], [0, 1, 2, 3, 5], [(0, 97, 1), (0, 98, 2), (1, 98, 3), (2, 98, 4), (4, 97, 5)]⟩
def endsR : Rd := ⟨[97, 98], 2, [0], [1], [(0, 97, 0), (0, 97, 1), (0, 98, 0)]⟩
def everyR : Rd := ⟨[97, 98], 1, [0], [0], [(0, 97, 0), (0, 98, 0)]⟩
theorem few_ok : fewR.Ok where
  lets := let_ab
  n1 := by decide
  n60 := by decide
  fs := by decide
  fsn := by decide
  ls := by decide
  lsn := by decide
  arn := by decide
  ar := by
    show List.Pairwise (fun a b => PySem.W.dataLt (eA a) (eA b) = true) _
    decide +kernel
  arl := by decide
theorem ends_ok : endsR.Ok where
  lets := let_ab
  n1 := by decide
  n60 := by decide
  fs := by decide
  fsn := by decide
  ls := by decide
  lsn := by decide
  arn := by decide
  ar := by
    show List.Pairwise (fun a b => PySem.W.dataLt (eA a) (eA b) = true) _
    decide +kernel
  arl := by decide
theorem every_ok : everyR.Ok where
  lets := let_ab
  n1 := by decide
  n60 := by decide
  fs := by decide
  fsn := by decide
  ls := by decide
  lsn := by decide
  arn := by decide
  ar := by
    show List.Pairwise (fun a b => PySem.W.dataLt (eA a) (eA b) = true) _
    decide +kernel
  arl := by decide
theorem few_lone : LoneC fewR := PlainR.lone (L := [97, 98]) (m := 6) ⟨few_ok, rfl, by decide, ⟨0, rfl⟩, by decide⟩
theorem every_lone : LoneC everyR := PlainR.lone (L := [97, 98]) (m := 6) ⟨every_ok, rfl, by decide, ⟨0, rfl⟩, by decide⟩
theorem ends_lone : LoneC endsR := by
  refine BackDet.lone ⟨by decide, fun p q c x a b => ?_⟩
  have : ∀ a ∈ endsR.ar, ∀ b ∈ endsR.ar, a.2.1 = b.2.1 → a.2.2 = b.2.2 → a.1 = b.1 := by decide
  exact this _ a _ b rfl rfl
/-- a set that is empty stays so -/
theorem goneF_nil (R : Rd) (c : Nat) : goneF R [] c = [] := by
  unfold goneF
  rw [List.filter_eq_nil_iff]
  intro q _
  simp
theorem cnt_nil {A B : Rd} : ∀ (k : Nat) (T : List Nat), cnt A B k ([], T) = 0
  | 0, T => by
    unfold cnt
    exact if_neg fun h => by
      obtain ⟨q, hq, _⟩ := h.1
      cases hq
  | k + 1, T => by
    show ls_ A.L _ = 0
    refine ls_zero fun c _ => ?_
    show cnt A B k (goneF A [] c, goneF B T c) = 0
    rw [goneF_nil]; exact cnt_nil k _
/-- the counts, to be reckoned -/
def cntB (A B : Rd) : Nat → KK → Int
  | 0, x => if outB A B x = true then 1 else 0
  | k + 1, x => ls_ A.L fun c => cntB A B k (dl A B x c)
theorem cnt_eq (A B : Rd) : ∀ k x, cnt A B k x = cntB A B k x
  | 0, x => by
    unfold cnt cntB
    by_cases h : outP A B x
    · rw [if_pos h, if_pos (outB_iff.mpr h)]
    · rw [if_neg h, if_neg fun z => h (outB_iff.mp z)]
  | k + 1, x => ls_congr fun c _ => cnt_eq A B k _
theorem due_few : DueV fewR endsR (.int 3) := by
  refine .inr ⟨4, by decide, ?_, fun k hk => ?_⟩
  · have e : sm (fun k => cnt fewR endsR k (fewR.fs, endsR.fs)) 4 = sm (fun k => cntB fewR endsR k (fewR.fs, endsR.fs)) 4 := sm_congr fun k _ => cnt_eq _ _ _ _
    rw [e, show sm (fun k => cntB fewR endsR k (fewR.fs, endsR.fs)) 4 = 3 by decide +kernel]
  · rw [show k = 4 + (k - 4) by omega, cnt_go]
    refine ls_zero fun t ht => ?_
    have : ∀ t ∈ texts fewR.L 4, (gos fewR endsR t (fewR.fs, endsR.fs)).1 = [] := by decide +kernel
    have e := this t ht
    rw [show gos fewR endsR t (fewR.fs, endsR.fs) = ([], (gos fewR endsR t (fewR.fs, endsR.fs)).2) from Prod.ext e rfl]
    exact cnt_nil _ _
theorem due_every : DueV everyR endsR .non := by
  have step : ∀ k, 0 < cnt everyR endsR k ([0], [0]) := by
    intro k
    induction k with
    | zero => rw [cnt_eq]; decide +kernel
    | succ k ih =>
      refine (cnt_pos k _).mpr ⟨98, by decide, ?_⟩
      rw [show dl everyR endsR ([0], [0]) 98 = ([0], [0]) by decide +kernel]
      exact ih
  refine .inl ⟨rfl, fun N => ⟨N, Nat.le_refl _, ?_⟩⟩
  have := step N
  show cnt everyR endsR N ([0], [0]) ≠ 0
  omega
theorem due_ends : DueV endsR everyR (.int 0) := by
  have none : ∀ k (S : List Nat), cnt endsR everyR k (S, [0]) = 0 := by
    intro k
    induction k with
    | zero =>
      intro S
      unfold cnt
      exact if_neg fun h => h.2 ⟨0, List.mem_singleton.mpr rfl, List.mem_singleton.mpr rfl⟩
    | succ k ih =>
      intro S
      show ls_ endsR.L _ = 0
      refine ls_zero fun c hc => ?_
      have e : goneF everyR [0] c = [0] := by
        have : ∀ c ∈ endsR.L, goneF everyR [0] c = [0] := by decide +kernel
        exact this c hc
      show cnt endsR everyR k (goneF endsR S c, goneF everyR [0] c) = 0
      rw [e]; exact ih _
  exact .inr ⟨0, by decide, rfl, fun k _ => none k _⟩
theorem two_few : TwoG fewR endsR := ⟨few_ok, ends_ok, rfl, by decide, by decide⟩
theorem two_every : TwoG everyR endsR := ⟨every_ok, ends_ok, rfl, by decide, by decide⟩
theorem two_ends : TwoG endsR everyR := ⟨ends_ok, every_ok, rfl, by decide, by decide⟩
end K39
end Text_K39N6

section Text_K39B4
set_option Elab.async false set_option linter.all false set_option maxRecDepth 100000 set_option maxHeartbeats 4000000
/-! The reader of five texts. -/
namespace K39
open PySem PySem.Spec PyProof.Rows L2
variable {P : Program} {w : World} {K : PySem.W.Frag} {mg : Str → Option Value} {base : Heap}
theorem ext_tle {H H' : Hp} (e : LamX.ExtN H H') : TLe H H' := ⟨fun b xs h => e b _ h (by intro ps z; cases z), fun b o u h => e b _ h (by intro ps z; cases z)⟩
theorem ext_mvs {H H' : Hp} {dm : Addr} {L : List Nat} {n : Nat} {as : List Arr} (e : LamX.ExtN H H') (h : Mvs K H dm L n as) : Mvs K H' dm L n as := by
  obtain ⟨vs, h1, h2⟩ := h
  exact ⟨vs, e _ _ h1 (by intro ps z; cases z), Paired.mono (fun _ _ h => h.to (ext_tle e)) h2⟩
theorem ext_rdr {H H' : Hp} {a : Addr} {R : Rd} (e : LamX.ExtN H H') (h : Rdr K H a R) : Rdr K H' a R := by
  obtain ⟨dx, sl, fv, lv, av, dm, h1, h2, h3, h4, h5⟩ := h
  exact ⟨dx, sl, fv, lv, av, dm, e _ _ h1 (by intro ps z; cases z), h2.to (ext_tle e), h3.to (ext_tle e), h4.to (ext_tle e), ext_mvs e h5⟩
def place0 (x : Str) : Nat := begun0.idxOf x
def arr0 (x : Str) : Arr := (place0 (cutS x none (some (-1))), (x.cps.toList.getLast?).getD 0, place0 x)
/-- the places of the first i beginnings -/
def plc (i : Nat) : List (Key × V) := (List.range i).map fun k : Nat => (Sum.inr (begun0.getD k ""), V.int (k : Int))
theorem sub0 : ∀ z ∈ texts0, ∀ c ∈ z.cps.toList, c ∈ (tx [97, 98]).cps.toList := by decide +kernel
theorem small0 : ∀ z ∈ texts0, z.cps.size ≤ 3 := by decide +kernel
theorem arrows0 : (begun0.filter fun x : Str => !decide (x = "")).map arr0 = fewR.ar := by decide +kernel
theorem plc_put : ∀ i, i < 6 → putK (plc i) (Sum.inr (begun0.getD i "")) (.int (i : Int)) = plc (i + 1) := by decide +kernel
theorem plc_len : ∀ i, i ≤ 6 → (plc i).length ≤ 6 := by decide +kernel
theorem plc_arr : ∀ x ∈ begun0, x ≠ "" → valV (plc 6) (Sum.inr (cutS x none (some (-1)))) = some (.int ((arr0 x).1 : Int)) ∧ atI x.cps.toList (-1) = some (arr0 x).2.1 ∧ valV (plc 6) (Sum.inr x) = some (.int ((arr0 x).2.2 : Int)) ∧ x.length ≤ 3 := by decide +kernel
theorem plc_text : ∀ x ∈ texts0, valV (plc 6) (Sum.inr x) = some (.int (place0 x : Int)) := by decide +kernel
theorem arrs_sorted : srtA fewR.ar = fewR.ar := srtBy_eq eA_toks (.refl _) (by decide +kernel)
theorem lasts0 : ∀ q : Nat, q ∈ fewR.ls ↔ ∃ x ∈ texts0, place0 x = q := by
  have e : texts0.map place0 = [1, 3, 2, 5, 0] := by decide +kernel
  intro q
  rw [← List.mem_map, e]
  show q ∈ [0, 1, 2, 3, 5] ↔ _
  simp; omega
theorem bls_of {H : Hp} : ∀ {as : List Str} {us : List V}, PAll (fun _ y _ => y = .bl true) as us H → us = (as.map fun _ => true).map V.bl
  | _, _, .nil => rfl
  | _ :: as, y :: us, .cons h t => by
    have h : y = .bl true := h
    rw [h, bls_of (H := H) t]; rfl
def sp_Reader_of_texts (w : World) (K : PySem.W.Frag) : Sp := fun vs H Q E => ∃ (a C : Addr), vs = [.ref C, .str (tx [97, 98]), .ref a] ∧ C = He.ga K "Reader" ∧ SqT K H a (texts0.map V.str) ∧ LamX.Tabs (LT K) H ∧ ∀ r H', LamX.ExtN H H' → Rdr K H' r fewR → Q (.ref r) H'
abbrev N_Reader_of_texts : List Str := ["cls", "letters", "texts", "begun", "places", "arrows", "lasts", "text", "at"]
theorem sc_Reader_of_texts : FnScope N_Reader_of_texts ["cls", "letters", "texts"] (defScope s_Reader_of_texts) := ⟨rfl, rfl, rfl, by decide +kernel, rfl, by decide +kernel, by decide +kernel⟩
theorem p_Reader_of_texts (T : Tx K mg) (tb : LamX.TabB base mg (cB K) (tB K)) : FnR P w K mg base CX0 7 (He5.wf K (He.ga K "Reader") "classmethod" "of_texts") (sp_Reader_of_texts w K) ∧ PySem.W.keepIn K (.ref (He5.wf K (He.ga K "Reader") "classmethod" "of_texts")) = true := by
  refine fnr_mk T.d_Reader_of_texts sc_Reader_of_texts (fun _ _ _ _ _ _ us h => by match us, h with | [_, _, _], _ => rfl) (fun vs H Q E ⟨a, C, e, eC, hs, hT, q⟩ => by rw [e]; rfl) fun cdv A outer s H vs Q E hr ⟨a, C, e, eC, hs, hT, q⟩ => ?_
  subst e
  have hu := hr.units
  have hu1 := hu_of hr
  have nd := sc_Reader_of_texts.nd
  refine ⟨_, (pss_cons (ps_expr (cg (p_require_letters T) hr (pa_cons (pv 1) pa_nil)))
      (pss_cons (ps_if (pt_not (pt_val (pe_callB cr_is (by rfl) T.b_isinstance (by decide +kernel) (pa_cons (pv 2) (pa_cons (pty (n := "tuple") T.b_tuple (by decide +kernel)) pa_nil))))) (pss_one ps_never) pss_nil)
      (pss_cons (ps_if (pt_not (pt_val (pe_callB (cr_all rfl) (by rfl) T.b_all (by decide +kernel) (pa_cons (pe_lc (own := [("text", 7)]) rfl nd (pi_tup (pv 2)) (blkOk_by (N := N_Reader_of_texts) (sc := defScope s_Reader_of_texts) (by decide +kernel)) (fun _ _ _ _ _ => (pg_name (i := 7) nd rfl (Or.inl rfl) (Or.inr rfl))) (fun _ _ _ _ _ => pts_nil) (fun _ _ _ _ _ => (cg (p_is_text_within T) hr (pa_cons (pv 1) (pa_cons (pv 7) pa_nil))))) pa_nil)))) (pss_one ps_never) pss_nil)
      (pss_cons (ps_set (i := 3) nd rfl (Or.inl rfl) (cg (p_beginnings_of T tb) hr (pa_cons (pv 2) pa_nil)))
      (pss_cons (ps_set (i := 4) nd rfl (Or.inr rfl) (pe_dc (own := [("at", 8), ("text", 7)]) rfl nd (pi_enum (by rfl) T.b_enumerate (pa_cons (pv 3) pa_nil)) (blkOk_by (N := N_Reader_of_texts) (sc := defScope s_Reader_of_texts) (by decide +kernel)) (fun _ _ _ _ _ => (show PG _ _ (gTup K 2 (gCons (gName 8) (gCons (gName 7) gNil))) from pg_tup rfl (pgs_cons (pg_name (i := 8) nd rfl (Or.inl rfl) (Or.inr rfl)) (pgs_cons (pg_name (i := 7) nd rfl (Or.inl rfl) (Or.inr rfl)) pgs_nil)))) (fun _ _ _ _ _ => pts_nil) (fun _ _ _ _ _ => (pv 7)) (fun _ _ _ _ _ => (pv 8))))
      (pss_cons (ps_set (i := 5) nd rfl (Or.inl rfl) (pe_callB (cr_sortedD hu) (by rfl) T.b_sorted (by decide +kernel) (pa_cons (pe_lc (own := [("text", 7)]) rfl nd (pi_list (pv 3)) (blkOk_by (N := N_Reader_of_texts) (sc := defScope s_Reader_of_texts) (by decide +kernel)) (fun _ _ _ _ _ => (pg_name (i := 7) nd rfl (Or.inl rfl) (Or.inr rfl))) (fun _ _ _ _ _ => (pts_one (pt_cmpR op_ne (pv 7) pe_str (nomark _)))) (fun _ _ _ _ _ => (pe_tup (pa_cons (pe_dget hu1 (pv 4) (pe_slice sl_str (pv 7) po_none (po_some (pe_un un_neg pe_int))) (fun _ _ => rfl)) (pa_cons (pe_ix ix_str (pv 7) (pe_un un_neg pe_int) (fun _ _ => rfl)) (pa_cons (pe_dget hu1 (pv 4) (pv 7) (fun _ _ => rfl)) pa_nil)))))) pa_nil)))
      (pss_cons (ps_set (i := 6) nd rfl (Or.inl rfl) (pe_callB (cr_sortedSet rfl) (by rfl) T.b_sorted (by decide +kernel) (pa_cons (pe_callTy (cr_setI rfl) (by rfl) T.b_set (by decide +kernel) (pa_cons (pe_lc (own := [("text", 7)]) rfl nd (pi_tup (pv 2)) (blkOk_by (N := N_Reader_of_texts) (sc := defScope s_Reader_of_texts) (by decide +kernel)) (fun _ _ _ _ _ => (pg_name (i := 7) nd rfl (Or.inl rfl) (Or.inr rfl))) (fun _ _ _ _ _ => pts_nil) (fun _ _ _ _ _ => (pe_dget hu1 (pv 4) (pv 7) (fun _ _ => rfl)))) pa_nil)) pa_nil)))
      (pss_one (ps_ret (pe_makeL T.k_Reader (p_Reader_init T).1 (hr.mono (by decide)) (i := 0) rfl (Or.inl rfl) pass0 (pa_cons (pv 1) (pa_cons (pe_callB cr_lenQ (by rfl) T.b_len (by decide +kernel) (pa_cons (pv 3) pa_nil)) (pa_cons (pe_tup (pa_cons pe_int pa_nil)) (pa_cons (pe_tupleOf (by rfl) T.b_tuple (pv 6)) (pa_cons (pe_tupleOf (by rfl) T.b_tuple (pv 5)) pa_nil))))))))))))))), ?_⟩
  subst eC
  have l6 := sz60
  refine ⟨_, rfl, [97, 98], rfl, let_ab, fun H1 s1 => ?_⟩
  refine ⟨_, rfl, _, _, _, rfl, .tupT (SqT.tle s1.tle hs), true, rfl, iteF ?_⟩
  refine ⟨_, rfl, a, rfl, ⟨_, SqT.tle s1.tle hs⟩, fun D nD => ?_⟩
  refine comp_it (walk_tup (xs := texts0.map V.str)) grows_at texts0 rfl (by show 5 < sizeLine; omega) (fun _ => true) (fun z y _ => y = .bl true) (fun a y H H' k h => h) nD (fun H' sm => SqT.tle (s1.trans sm).tle hs) (fun i x z H' H2 hz sm y => ?_) fun us H2 s2 hu pu => ?_
  · obtain ⟨rfl, hx⟩ := y
    rw [List.getElem?_map, hz] at hx
    obtain rfl := Option.some.inj hx
    have mz := List.mem_of_getElem? hz
    have h3 := small0 z mz
    exact turn_name rfl fun C c2 => ⟨_, rfl, _, rfl, tx [97, 98], z, rfl, by omega, sub0 z mz, fun H' s => c2 _ _ s rfl⟩
  rw [filt] at pu
  rw [bls_of pu] at hu
  have s12 := s1.trans s2
  refine ⟨D, texts0.map fun _ => true, rfl, SqL.of hu, ⟨_, rfl, ?_⟩⟩
  rw [show (texts0.map fun _ => true).all id = true by decide]
  refine iteF ?_
  refine ⟨_, rfl, a, rfl, SqT.tle s12.tle hs, hT.ext s12, fun p H3 H4 ex hT3 np eH => ?_⟩
  have exP : LamX.ExtN H H4 := ((LamX.ExtN.of s12).trans ex).trans (by rw [eH]; exact LamX.ExtN.of (Same.new np))
  have hp : H4 p = some (.lst (begun0.map V.str)) := by rw [eH, upd_same]
  have hs4 : SqT K H4 a (texts0.map V.str) := SqT.tle (ext_tle exP) hs
  clear eH np hT3 ex
  refine ⟨_, rfl, p, _, rfl, SqL.of hp, fun D2 nD2 => ?_⟩
  refine dc_it walk_enum (fun i H' => Same H4 H' ∧ H' D2 = some (.dK (plc i))) ⟨Same.new nD2, upd_same⟩ (fun i H' _ h => SqL.of (h.1 _ _ hp)) (fun i x H5 H6 hi ⟨s5, hD⟩ yy => ?_) fun H5 ⟨s5, hD⟩ => ?_
  · obtain ⟨t, c, d, rfl, ht, rfl, e1, e2⟩ := yy
    obtain rfl := Option.some.inj e1
    have e3 : (begun0.map V.str)[i]? = some d := e2
    have i6 : i < 6 := hi
    have e4 : begun0[i]? = some (begun0.getD i "") := by
      rw [List.getD_eq_getElem?_getD, List.getElem?_eq_getElem i6]; rfl
    rw [List.getElem?_map, e4] at e3
    obtain rfl := Option.some.inj e3
    have sT : Same H5 (upd H5 t (.tup [.int (i : Nat), .str (begun0.getD i "")])) := Same.new ht
    have ll := plc_len i (by omega)
    refine tg2 (SqT.of upd_same) ⟨rfl, tYes_if ⟨_, rfl, _, rfl, ?_⟩⟩
    refine ⟨plc i, Sum.inr (begun0.getD i ""), rfl, sT _ _ hD, by omega, ?_⟩
    refine ⟨(s5.trans sT).put nD2, ?_⟩
    rw [upd_same]
    exact congrArg (fun z => some (HO.dK z)) (plc_put i i6)
  have hD : H5 D2 = some (.dK (plc 6)) := hD
  have hp5 := s5 _ _ hp
  refine ⟨_, rfl, p, rfl, ⟨_, SqL.of hp5⟩, fun D3 nD3 => ?_⟩
  refine comp_it (walk_list (xs := begun0.map V.str)) grows_at begun0 rfl (by show 6 < sizeLine; omega) (fun x : Str => !decide (x = "")) (fun x y H => Dt K H y (eA (arr0 x))) (fun x y H H' t h => h.to t) nD3 (fun H' sm => SqL.of (sm _ _ hp5)) (fun i x z H' H6 hz sm y => ?_) fun us H6 s6 hu pu => ?_
  · obtain ⟨rfl, hx⟩ := y
    rw [List.getElem?_map, hz] at hx
    obtain rfl := Option.some.inj hx
    have mz := List.mem_of_getElem? hz
    refine turn_nameT rfl fun C1 C2 c1 c2 => ⟨_, rfl, rfl, _, rfl, ?_⟩
    by_cases hz0 : z = ""
    · subst hz0
      rw [show (!decide (V.str "" = V.str "")) = false by simp]
      exact iteF (c1 (by simp) _ (Same.refl _))
    · rw [show (!decide (V.str z = V.str "")) = true by
        rw [Bool.not_eq_true', decide_eq_false_iff_not]
        intro h; injection h with h; exact hz0 h]
      refine iteT ?_
      obtain ⟨f1, f2, f3, f4⟩ := plc_arr z mz hz0
      have hD6 := sm _ _ hD
      refine ⟨_, rfl, _, rfl, ?_⟩
      dsimp only [tNoPart]
      refine ⟨_, rfl, _, rfl, z, rfl, by omega, D2, _, rfl, .inl ⟨_, Sum.inr (cutS z none (some (-1))), .inl hD6, rfl, f1.symm⟩, ?_⟩
      refine ⟨_, rfl, _, rfl, z, -1, (arr0 z).2.1, rfl, rfl, by omega, f2, ?_⟩
      refine ⟨_, rfl, _, rfl, D2, _, rfl, .inl ⟨_, Sum.inr z, .inl hD6, rfl, f3.symm⟩, by show 3 ≤ sizeLine; omega, fun t nt => ?_⟩
      exact c2 (by simp [hz0]) _ _ (Same.new nt) (Dt.ofArr (a := arr0 z) (SqT.of upd_same))
  have pd := DtAll.of (K := K) (fun x => eA (arr0 x)) pu
  have ea : ((begun0.filter fun x : Str => !decide (x = "")).map fun x => eA (arr0 x)) = fewR.ar.map eA := by rw [← arrows0, List.map_map]; rfl
  rw [ea] at pd
  refine ⟨D3, us, _, rfl, SqL.of hu, pd, eA_alike _, eA_sortable _, eA_depth _, fun A zs nA dz => ?_⟩
  rw [← srtBy_map, show srtBy eA fewR.ar = fewR.ar from arrs_sorted] at dz
  have dz : DtAll K H6 zs (fewR.ar.map eA) := dz
  have sA := Same.new (o := .lst zs) nA
  have s46 := (s5.trans s6).trans sA
  have hD7 := sA _ _ (s6 _ _ hD)
  have hA7 : upd H6 A (.lst zs) A = some (.lst zs) := upd_same
  have dz7 := dz.same sA
  have hs7 := SqT.tle s46.tle hs4
  have hp7 := s46 _ _ hp
  generalize upd H6 A (.lst zs) = H7 at sA s46 hD7 hA7 dz7 hs7 hp7
  refine ⟨_, rfl, a, rfl, ⟨_, hs7⟩, fun D4 nD4 => ?_⟩
  refine comp_it (walk_tup (xs := texts0.map V.str)) grows_at texts0 rfl (by show 5 < sizeLine; omega) (fun _ => true) (fun x y _ => y = .int (place0 x : Int)) (fun a y H H' k h => h) nD4 (fun H' sm => SqT.tle sm.tle hs7) (fun i x z H' H8 hz sm y => ?_) fun vs H8 s8 hv pv => ?_
  · obtain ⟨rfl, hx⟩ := y
    rw [List.getElem?_map, hz] at hx
    obtain rfl := Option.some.inj hx
    have mz := List.mem_of_getElem? hz
    exact turn_name rfl fun C c2 => ⟨_, rfl, _, rfl, D2, _, rfl, .inl ⟨_, Sum.inr z, .inl (sm _ _ hD7), rfl, (plc_text z mz).symm⟩, c2 _ _ (Same.refl _) rfl⟩
  rw [filt] at pv
  have ev := ints_of (f := fun x : Str => (place0 x : Int)) pv
  rw [ev] at hv
  refine ⟨D4, _, rfl, SqL.of hv, by show (texts0.map fun x : Str => (place0 x : Int)).length + 1 < scanBound; unfold scanBound; decide, fun S n1 nS hn1 => ?_⟩
  have lt0 : (texts0.map fun x : Str => (place0 x : Int)).length = 5 := rfl
  have sS := Same.new (o := SetO w S (fun j => decide (j ∈ texts0.map fun x : Str => (place0 x : Int))) n1) nS
  refine ⟨S, _, _, rfl, upd_same, by omega, fun ns r pw hm ln nr => ?_⟩
  have mem : ∀ k : Int, k ∈ ns ↔ ∃ z ∈ texts0, (place0 z : Int) = k := fun k => (hm k).trans (by
    rw [decide_eq_true_iff]
    exact List.mem_map)
  have en : ns = (ns.map Int.toNat).map fun n : Nat => (n : Int) := by
    rw [List.map_map]
    refine (List.map_id ns).symm.trans (List.map_congr_left fun k hk => ?_)
    obtain ⟨z, _, e⟩ := (mem k).mp hk
    show k = ((k.toNat : Nat) : Int)
    omega
  have el : ns.map Int.toNat = fewR.ls := by
    refine asc_eq ?_ few_ok.ls fun q => ?_
    · have pw2 := pw
      rw [en, List.pairwise_map] at pw2
      exact pw2.imp fun h => by omega
    · rw [lasts0]
      constructor
      · intro hk
        obtain ⟨j, hj, e⟩ := List.mem_map.mp hk
        obtain ⟨z, hz, e2⟩ := (mem j).mp hj
        exact ⟨z, hz, by omega⟩
      · rintro ⟨z, hz, rfl⟩
        exact List.mem_map.mpr ⟨(place0 z : Int), (mem _).mpr ⟨z, hz, rfl⟩, by simp⟩
  have ev2 : ns.map V.int = fewR.ls.map fun n : Nat => V.int (n : Int) := by
    conv => lhs; rw [en, el]
    rw [List.map_map]; rfl
  rw [ev2]
  have sR := Same.new (o := .lst (fewR.ls.map fun n : Nat => V.int (n : Int))) nr
  have hr10 : upd (upd H8 S (SetO w S (fun j => decide (j ∈ texts0.map fun x : Str => (place0 x : Int))) n1)) r (.lst (fewR.ls.map fun n : Nat => V.int (n : Int))) r = some (.lst (fewR.ls.map fun n : Nat => V.int (n : Int))) := upd_same
  have sB := (s8.trans sS).trans sR
  have hp10 := sB _ _ hp7
  have hA10 := sB _ _ hA7
  have dz10 := dz7.same sB
  have s410 := s46.trans sB
  refine ⟨rfl, _, rfl, _, rfl, p, _, rfl, .inl (SqL.of hp10), by show 1 ≤ sizeLine; omega, fun t1 nt1 => ?_⟩
  have sT1 := Same.new (o := .tup [V.int 0]) nt1
  refine ⟨_, rfl, .inl ⟨r, _, rfl, SqL.of (sT1 _ _ hr10), fun t2 nt2 => ?_⟩⟩
  have sT2 := Same.new (o := .tup (fewR.ls.map fun n : Nat => V.int (n : Int))) nt2
  refine ⟨_, rfl, .inl ⟨A, zs, rfl, SqL.of (sT2 _ _ (sT1 _ _ hA10)), fun t3 nt3 => ?_⟩⟩
  have sT3 := Same.new (o := .tup zs) nt3
  refine fun x dx nx ndx nex => ?_
  have k := make_tle (o1 := .own x) (o2 := .ins (He.ga K "Reader") dx []) nx ndx
  have d1 : Dt K _ (.ref t1) (eNs fewR.fs) := Dt.same (.tup (SqT.tle (sT2.trans sT3).tle (SqT.of upd_same)) (.one (.int 0))) k
  have d2 : Dt K _ (.ref t2) (eNs fewR.ls) := Dt.same (Dt.ofNs (SqT.tle sT3.tle (SqT.of upd_same))) k
  have d3 : Dt K _ (.ref t3) (.tuple (fewR.ar.map eA)) := Dt.same (.tup (SqT.of upd_same) (((dz10.same sT1).same sT2).same sT3)) k
  refine ⟨x, dx, _, fewR, _, _, _, rfl, rfl, upd_same, few_ok, d1, d2, d3, fun H' sx hr => ⟨rfl, q x H' ?_ hr⟩⟩
  exact exP.trans (LamX.ExtN.of ((s410.trans ((sT1.trans sT2).trans sT3)).trans (make_same sx nx ndx)))
end K39
end Text_K39B4

section Text_K39B5
set_option Elab.async false set_option linter.all false set_option maxRecDepth 100000 set_option maxHeartbeats 4000000
/-! The law. -/
namespace K39
open PySem PySem.Spec PyProof.Rows L2
variable {P : Program} {w : World} {K : PySem.W.Frag} {mg : Str → Option Value} {base : Heap}
theorem str_ab : (Str.ofString "ab") = tx [97, 98] := by decide +kernel
theorem str_a : (Str.ofString "a") = sg 97 := by decide +kernel
theorem str_b : (Str.ofString "b") = sg 98 := by decide +kernel
theorem fnOk_mk {x q : Str} {st : Stmt} {f : Addr} {N ps : List Str} {k : Nat} {sp : Sp} {fd : FuncData} (F : FunD K x q (defArgs st) (defBody st) (defScope st) [] [] f fd) (S : FnScope N ps (defScope st))
    (len : ∀ vs H Q E, sp vs H Q E → vs.length = ps.length)
    (hbody : ∀ (cdv : Value) (A : Around) (outer : List Env) (s : Shared) (H : Hp) (vs : List V) (Q : VK) (E : XK), Room k (A.deeper (envOfC q (defScope st) s.heap.objs.size f cdv)) → sp vs H Q E →
      ∃ t, PSs (cxOf CX0 P w K mg base N q (defScope st) f cdv A outer s H E).nox (defBody st) t ∧ t { nx := fun _ H' => Q .non H', rt := Q } (start N vs) H) : FnOk P w K mg base CX0 (k + 1) f fd ps sp :=
  F.ok S len fun cdv A outer s H vs Q E hr hsp => by
    obtain ⟨t, h, q⟩ := hbody cdv A outer s H vs Q E hr hsp
    exact ⟨t, h.nox, q⟩
def sp_law (w : World) (K : PySem.W.Frag) : Sp := fun vs H Q E => ∃ (s : Addr) (ns : List Int), vs = [.ref s] ∧ SqL K H s (ns.map V.int) ∧ LamX.Tabs (LT K) H ∧ ∀ H', Q (.bl true) H'
abbrev N_law : List Str := ["_law_script", "_law_at", "_law_pot_here", "_law_ends", "_law_few", "_law_every", "_law_told"]
theorem sc_law : FnScope N_law ["_law_script"] (defScope s_law) := ⟨rfl, rfl, rfl, by decide +kernel, rfl, by decide +kernel, by decide +kernel⟩
theorem p_law (T : Tx K mg) (tb : LamX.TabB base mg (cB K) (tB K)) {fd : FuncData} (F : FunD K "law" "law" (defArgs s_law) (defBody s_law) (defScope s_law) [] [] (He.ga K "law") fd) : FnOk P w K mg base CX0 15 (He.ga K "law") fd ["_law_script"] (sp_law w K) := by
  refine fnOk_mk F sc_law (fun vs H Q E ⟨sc, ns, e, hs, hT, q⟩ => by rw [e]; rfl) fun cdv A outer s H vs Q E hr ⟨sc, ns, e, hs, hT, q⟩ => ?_
  subst e
  have hu := hr.units
  have hu1 := hu_of hr
  have nd := sc_law.nd
  refine ⟨_, (pss_cons (ps_for PassesOwn.never rfl (pi_range1 (by rfl) T.b_range (pa_cons (pe_callB (call_max2 rfl) (by rfl) T.b_max (by decide +kernel) (pa_cons pe_int (pa_cons (pe_callB (call_min2 rfl) (by rfl) T.b_min (by decide +kernel) (pa_cons pe_int (pa_cons (pe_callB cr_lenQ (by rfl) T.b_len (by decide +kernel) (pa_cons (pv 0) pa_nil)) pa_nil))) pa_nil))) pa_nil)) (pg_name (i := 1) nd rfl (Or.inl rfl))
        (pss_cons (ps_set (i := 2) nd rfl (Or.inl rfl) (cg (p_l_pot T) hr (pa_cons (pv 0) (pa_cons (pv 1) pa_nil))))
        (pss_one (ps_if (PW.pt (pw_or (pt_not (pt_val (cg (p_l_right T) hr (pa_cons (pv 2) pa_nil)))) (pw_or1 (pt_not (pt_val (cg (p_l_right T) hr (pa_cons (pv 2) pa_nil))))))) (pss_one (ps_ret pe_bl)) pss_nil))))
      (pss_cons (ps_set (i := 3) nd rfl (Or.inl rfl) (StX.pe_makeR T.k_Reader (p_Reader_init T).1 (hr.mono (by decide)) (by rfl) T.g_Reader pass0 (pa_cons pe_str (pa_cons pe_int (pa_cons (pe_tup (pa_cons pe_int pa_nil)) (pa_cons (pe_tup (pa_cons pe_int pa_nil)) (pa_cons (pe_tup (pa_cons (pe_tup (pa_cons pe_int (pa_cons pe_str (pa_cons pe_int pa_nil)))) (pa_cons (pe_tup (pa_cons pe_int (pa_cons pe_str (pa_cons pe_int pa_nil)))) (pa_cons (pe_tup (pa_cons pe_int (pa_cons pe_str (pa_cons pe_int pa_nil)))) pa_nil)))) pa_nil)))))))
      (pss_cons (ps_set (i := 4) nd rfl (Or.inl rfl) (ClX.pe_cmeth (pgc T.g_Reader) T.cread T.cmet (p_Reader_of_texts T tb).1 (hr.mono (by decide)) pass0 (pa_cons pe_str (pa_cons (pe_tup (pa_cons pe_str (pa_cons pe_str (pa_cons pe_str (pa_cons pe_str (pa_cons pe_str pa_nil)))))) pa_nil))))
      (pss_cons (ps_set (i := 5) nd rfl (Or.inl rfl) (StX.pe_makeR T.k_Reader (p_Reader_init T).1 (hr.mono (by decide)) (by rfl) T.g_Reader pass0 (pa_cons pe_str (pa_cons pe_int (pa_cons (pe_tup (pa_cons pe_int pa_nil)) (pa_cons (pe_tup (pa_cons pe_int pa_nil)) (pa_cons (pe_tup (pa_cons (pe_tup (pa_cons pe_int (pa_cons pe_str (pa_cons pe_int pa_nil)))) (pa_cons (pe_tup (pa_cons pe_int (pa_cons pe_str (pa_cons pe_int pa_nil)))) pa_nil))) pa_nil)))))))
      (pss_cons (ps_set (i := 6) nd rfl (Or.inl rfl) (pe_lst (pa_cons (cg (p_rest T) hr (pa_cons (pv 4) (pa_cons (pv 3) pa_nil))) (pa_cons (cg (p_rest T) hr (pa_cons (pv 5) (pa_cons (pv 3) pa_nil))) (pa_cons (cg (p_rest T) hr (pa_cons (pv 3) (pa_cons (pv 5) pa_nil))) pa_nil)))))
      (pss_one (ps_ret (pe_cmpR (op_eqD hu) (pe_op op_cat (pv 6) (pe_lst (pa_cons (cg (p_is_nearly_within T) hr (pa_cons (pv 4) (pa_cons (pv 3) pa_nil))) (pa_cons (cg (p_is_nearly_within T) hr (pa_cons (pv 5) (pa_cons (pv 3) pa_nil))) pa_nil)))) (pe_lst (pa_cons pe_int (pa_cons pe_non (pa_cons pe_int (pa_cons pe_bl (pa_cons pe_bl pa_nil)))))) (nomark _))))))))), ?_⟩
  have l6 := sz60
  refine ⟨_, rfl, sc, _, rfl, .inl hs, _, _, rfl, _, _, rfl, ?_⟩
  have b62 : (100 : Int) < 2 ^ 62 := by decide
  refine ⟨_, rfl, ?_, ?_, ?_⟩
  · split <;> (try split) <;> omega
  · split <;> (try split) <;> omega
  refine for_it walk_range (fun i σ H' => Same H H' ∧ ∃ o1 o2, σ = [some (.ref sc), o1, o2, none, none, none, none])
    ⟨Same.refl _, none, none, rfl⟩ (fun _ _ _ _ _ => trivial) (fun i x σ H2 H3 hi ⟨s2, o1, o2, eσ⟩ yy => ?_) fun σ H2 ⟨s2, o1, o2, eσ⟩ => ?_
  · obtain ⟨rfl, rfl⟩ := yy
    subst eσ
    have e0 : (0 : Int) + (i : Int) = ((i : Nat) : Int) := by omega
    refine ⟨_, rfl, _, rfl, sc, ns, i, by rw [← e0], SqL.same s2 hs, fun p H4 s4 np hp => ?_⟩
    refine ⟨_, rfl, p, rfl, hp, fun H5 s5 hp5 => ⟨_, rfl, iteF ?_⟩⟩
    refine ⟨_, rfl, p, rfl, hp5, fun H6 s6 hp6 => ⟨_, rfl, iteF ?_⟩⟩
    have npH : H p = none := none_of_same s2 np
    exact ⟨fun b o hb => s6 b o (s5 b o (s4 _ _ (s2 b o hb)) (ne_of_none hb npH)) (ne_of_none hb npH), _, _, rfl⟩
  subst eσ
  -- the reader of the texts that end with a
  refine ⟨by show 1 ≤ sizeLine; omega, fun t1 n1 => ⟨by show 1 ≤ sizeLine; omega, fun t2 n2 => ⟨by show 3 ≤ sizeLine; omega, fun a1 m1 => ⟨by show 3 ≤ sizeLine; omega, fun a2 m2 => ⟨by show 3 ≤ sizeLine; omega, fun a3 m3 => ⟨by show 3 ≤ sizeLine; omega, fun t3 n3 => fun x dx nx ndx nex => ?_⟩⟩⟩⟩⟩⟩
  have u1 := Same.new (o := .tup [V.int 0]) n1
  have u2 := Same.new (o := .tup [V.int 1]) n2
  have u3 := Same.new (o := .tup [V.int 0, .str "a", .int 0]) m1
  have u4 := Same.new (o := .tup [V.int 0, .str "a", .int 1]) m2
  have u5 := Same.new (o := .tup [V.int 0, .str "b", .int 0]) m3
  have u6 := Same.new (o := .tup [V.ref a1, .ref a2, .ref a3]) n3
  have k := make_tle (o1 := .own x) (o2 := .ins (He.ga K "Reader") dx []) nx ndx
  have d1 : Dt K _ (.ref t1) (eNs endsR.fs) := (Dt.tup (SqT.of upd_same) (.one (.int 0))).same ((((u2.trans u3).trans u4).trans u5).trans u6 |>.trans k)
  have d2 : Dt K _ (.ref t2) (eNs endsR.ls) := (Dt.tup (SqT.of upd_same) (.one (.int 1))).same (((u3.trans u4).trans u5).trans u6 |>.trans k)
  have d3 : Dt K _ (.ref a1) (eA (0, 97, 0)) := (Dt.ofArr (a := (0, 97, 0)) (SqT.of (by rw [upd_same, str_a]; rfl))).same ((u4.trans u5).trans u6 |>.trans k)
  have d4 : Dt K _ (.ref a2) (eA (0, 97, 1)) := (Dt.ofArr (a := (0, 97, 1)) (SqT.of (by rw [upd_same, str_a]; rfl))).same (u5.trans u6 |>.trans k)
  have d5 : Dt K _ (.ref a3) (eA (0, 98, 0)) := (Dt.ofArr (a := (0, 98, 0)) (SqT.of (by rw [upd_same, str_b]; rfl))).same (u6.trans k)
  have d6 : Dt K _ (.ref t3) (.tuple (endsR.ar.map eA)) := .tup (SqT.tle k.tle (SqT.of upd_same)) (.cons d3 (.cons d4 (.cons d5 .nil)))
  refine ⟨x, dx, _, endsR, _, _, _, by rw [str_ab]; rfl, rfl, upd_same, ends_ok, d1, d2, d6, fun H3 sx hx => ⟨rfl, ?_⟩⟩
  have s3 : Same H H3 := s2.trans ((((((u1.trans u2).trans u3).trans u4).trans u5).trans u6).trans (make_same sx nx ndx))
  clear d1 d2 d3 d4 d5 d6 u1 u2 u3 u4 u5 u6 k sx
  -- the reader of five texts
  refine ⟨rfl, by show 5 ≤ sizeLine; omega, fun t4 n4 => ?_⟩
  have u7 := Same.new (o := .tup (texts0.map V.str)) n4
  refine ⟨t4, _, by rw [str_ab], rfl, SqT.of upd_same, hT.ext (s3.trans u7), fun f H4 ex hf => ?_⟩
  have hx4 : Rdr K H4 x endsR := ext_rdr ex (hx.same u7)
  -- the reader of every text
  refine ⟨by show 1 ≤ sizeLine; omega, fun t1 n1 => ⟨by show 1 ≤ sizeLine; omega, fun t2 n2 => ⟨by show 3 ≤ sizeLine; omega, fun a1 m1 => ⟨by show 3 ≤ sizeLine; omega, fun a3 m3 => ⟨by show 2 ≤ sizeLine; omega, fun t3 n3 => fun y dy ny ndy nye => ?_⟩⟩⟩⟩⟩
  have u1 := Same.new (o := .tup [V.int 0]) n1
  have u2 := Same.new (o := .tup [V.int 0]) n2
  have u3 := Same.new (o := .tup [V.int 0, .str "a", .int 0]) m1
  have u5 := Same.new (o := .tup [V.int 0, .str "b", .int 0]) m3
  have u6 := Same.new (o := .tup [V.ref a1, .ref a3]) n3
  have k := make_tle (o1 := .own y) (o2 := .ins (He.ga K "Reader") dy []) ny ndy
  have d1 : Dt K _ (.ref t1) (eNs everyR.fs) := (Dt.tup (SqT.of upd_same) (.one (.int 0))).same (((u2.trans u3).trans u5).trans u6 |>.trans k)
  have d2 : Dt K _ (.ref t2) (eNs everyR.ls) := (Dt.tup (SqT.of upd_same) (.one (.int 0))).same ((u3.trans u5).trans u6 |>.trans k)
  have d3 : Dt K _ (.ref a1) (eA (0, 97, 0)) := (Dt.ofArr (a := (0, 97, 0)) (SqT.of (by rw [upd_same, str_a]; rfl))).same (u5.trans u6 |>.trans k)
  have d5 : Dt K _ (.ref a3) (eA (0, 98, 0)) := (Dt.ofArr (a := (0, 98, 0)) (SqT.of (by rw [upd_same, str_b]; rfl))).same (u6.trans k)
  have d6 : Dt K _ (.ref t3) (.tuple (everyR.ar.map eA)) := .tup (SqT.tle k.tle (SqT.of upd_same)) (.cons d3 (.cons d5 .nil))
  refine ⟨y, dy, _, everyR, _, _, _, by rw [str_ab]; rfl, rfl, upd_same, every_ok, d1, d2, d6, fun H5 sy hy => ⟨rfl, ?_⟩⟩
  have s45 : Same H4 H5 := ((((u1.trans u2).trans u3).trans u5).trans u6).trans (make_same sy ny ndy)
  clear d1 d2 d3 d5 d6 u1 u2 u3 u5 u6 k sy
  have hx5 := hx4.same s45
  have hf5 := hf.same s45
  -- what the program says of them
  have b1 : BothOk fewR endsR := .of few_ok ends_ok rfl (by decide) (by decide)
  have b2 : BothOk everyR endsR := .of every_ok ends_ok rfl (by decide) (by decide)
  have b3 : BothOk endsR everyR := .of ends_ok every_ok rfl (by decide) (by decide)
  have l1 := few_lone.lone few_ok (by decide)
  have l2 := ends_lone.lone ends_ok (by decide)
  have l3 := every_lone.lone every_ok (by decide)
  have w1 := law_okG two_few ends_lone due_few
  have w2 := law_okG two_every ends_lone due_every
  have w3 := law_okG two_ends every_lone due_ends
  refine ⟨_, rfl, _, rfl, f, x, fewR, endsR, rfl, b1, l1, l2, hf5, hx5, fun H6 s6 => ?_⟩
  rw [w1.rest few_lone]
  refine ⟨_, rfl, _, rfl, y, x, everyR, endsR, rfl, b2, l3, l2, hy.same s6, hx5.same s6, fun H7 s7 => ?_⟩
  rw [w2.rest every_lone]
  have s57 := s6.trans s7
  refine ⟨_, rfl, _, rfl, x, y, endsR, everyR, rfl, b3, l2, l3, hx5.same s57, hy.same s57, fun H8 s8 => ?_⟩
  rw [w3.rest ends_lone]
  have s58 := s57.trans s8
  refine ⟨by show 3 ≤ sizeLine; omega, fun g ng => ?_⟩
  have sg1 := Same.new (o := .lst [V.int 3, .non, .int 0]) ng
  have s59 := s58.trans sg1
  refine ⟨_, rfl, _, rfl, _, rfl, f, x, fewR, endsR, rfl, b1, l2, hf5.same s59, hx5.same s59, fun H10 s10 => ?_⟩
  rw [w1.late]
  have sA := s59.trans s10
  refine ⟨_, rfl, _, rfl, y, x, everyR, endsR, rfl, b2, l2, hy.same sA, hx5.same sA, fun H11 s11 => ?_⟩
  rw [w2.late]
  refine ⟨by show 2 ≤ sizeLine; omega, fun g2 ng2 => ?_⟩
  have sg2 := Same.new (o := .lst [V.bl (!decide (V.int 3 = V.non)), .bl (!decide (V.non = V.non))]) ng2
  refine ⟨g, g2, [V.int 3, .non, .int 0], [V.bl (!decide (V.int 3 = V.non)), .bl (!decide (V.non = V.non))], rfl, rfl, sg2 _ _ (s11 _ _ (s10 _ _ upd_same)), upd_same, by show 5 ≤ sizeLine; omega, fun G nG => ?_⟩
  have sG := Same.new (o := .lst ([V.int 3, .non, .int 0] ++ [V.bl (!decide (V.int 3 = V.non)), .bl (!decide (V.non = V.non))])) nG
  refine ⟨by show 5 ≤ sizeLine; omega, fun G2 nG2 => ?_⟩
  have sG2 := Same.new (o := .lst [V.int 3, .non, .int 0, .bl true, .bl false]) nG2
  have dd : ∀ H, DtAll K H ([V.int 3, .non, .int 0] ++ [V.bl (!decide (V.int 3 = V.non)), .bl (!decide (V.non = V.non))]) [.int 3, .none, .int 0, .bool true, .bool false] := fun H => .cons (.int 3) (.cons .non (.cons (.int 0) (.cons (.bl true) (.cons (.bl false) .nil))))
  refine ⟨.list [.int 3, .none, .int 0, .bool true, .bool false], .list [.int 3, .none, .int 0, .bool true, .bool false], .lst (SqL.of (sG2 _ _ upd_same)) (dd _).dps, .lst (SqL.of upd_same) (dd _).dps, by decide +kernel, by decide +kernel, ?_⟩
  rw [show PyData.eqv (.list [.int 3, .none, .int 0, .bool true, .bool false]) (.list [.int 3, .none, .int 0, .bool true, .bool false]) = true by decide +kernel]
  exact q _
end K39
end Text_K39B5

section Text_K39C
set_option Elab.async false set_option linter.all false set_option maxRecDepth 100000 set_option maxHeartbeats 0
namespace K39
open PySem PySem.Spec PyProof.Rows L2
abbrev theRow : PySem.W.OpenLaw := PySem.Challenge.rw_loneguess_k39_whole_all_but_finitely_man
theorem law_at {w : World} {mg : Str → Option Value} {fa : Addr} {h : Heap} {K : PySem.W.Frag} (KX : K.In h) (c : SaysK h K) (G : h.Ns mainGlobals mg) (hmg : mg "law" = some (.ref fa)) : LamX.LawAtS theRow w K CX0 15 63 "_law_script" mg fa h := by
  have T : Tx K mg := ⟨c.says, c.more, ⟨h, KX, G⟩⟩
  have e := hmg.symm.trans T.g_law
  cases e
  obtain ⟨fd, F⟩ := T.d_law
  have b := FunD.bindsA (ps := ["_law_script"]) F fun _ _ _ _ _ _ us hl => match us, hl with | [_], _ => rfl
  refine ⟨fd, [(cB K, tB K)], sp_law w K, ?_, ?_, ?_, fun s v => b s [v] rfl, fun H a ns _ _ ht hS => ?_, fun base _ _ tb => ?_⟩
  · intro p hp
    rw [List.mem_singleton.mp hp]; exact c.empty
  · intro p hp
    rw [List.mem_singleton.mp hp]; exact c.out
  · intro p hp
    rw [List.mem_singleton.mp hp]; exact PySem.W.codeHd_of_K KX c.hd
  · refine ⟨a, ns, rfl, hS, ?_, fun _ => rfl⟩
    intro p hp
    rw [List.mem_singleton.mp hp]
    exact LamX.TabS.nil (ht _ (List.mem_singleton.mpr rfl))
  · exact p_law T (tb _ (List.mem_singleton.mpr rfl)) F
end K39
open PySem PySem.W PySem.Calls PyProof.Rows
theorem PySem.Challenge.cw_loneguess_k39_whole_all_but_finitely_man_holds : PySem.Challenge.rw_loneguess_k39_whole_all_but_finitely_man.Holds := by
  w_on; o_law
  refine HandSHeadRun.head_any (r := OpenLaw.row PySem.Challenge.rw_loneguess_k39_whole_all_but_finitely_man) (q := K39.qv) (H := K39.hook) (ob := K39.ob) (M := 12000) (loose := K39.names) (d := HandSHeadRun.topDef (OpenLaw.row PySem.Challenge.rw_loneguess_k39_whole_all_but_finitely_man).prog 95) (kwd := []) K39.ob_eq
    (by kernel_rfl) (fun s => by kernel_rfl) K39.run (by kernel_rfl) (by kernel_rfl) (by kernel_rfl) (by rfl) (by first | assumption | decide +kernel) (by decide +kernel) ⟨rfl, rfl, rfl, rfl, rfl, by decide +kernel⟩ ?hw ?hc
  case hw => w_witness2
  case hc =>
    refine LamX.walk_ofTsE (l := PySem.Challenge.rw_loneguess_k39_whole_all_but_finitely_man) (n := 63) (k := 15) (x := "_law_script") (CX := fun _ => L2.CX0) rfl (by decide) (by kernel_rfl) ⟨rfl, by decide, by decide⟩ ?F (fun _ _ _ _ _ z => z)
    intro w mg fa h Y G hmg0
    obtain ⟨K, KX, c⟩ := Y
    have hmg : mg ("law" : PySem.Str) = some (.ref fa) := by
      have e : (HandSHeadRun.topDef (OpenLaw.row PySem.Challenge.rw_loneguess_k39_whole_all_but_finitely_man).prog 95).name = ("law" : PySem.Str) := by kernel_rfl
      rw [← e]
      exact hmg0
    exact ⟨K, KX, K39.law_at KX c G hmg⟩
end Text_K39C
