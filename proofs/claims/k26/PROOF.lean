import PyProof.Rows.All
import Wide.All
import OpenK.AllK
import HandS.Codes
import HandS.HeadNt
import KE.KStateDown
import Lean
import HandS.Head0
import HandS.Head1
import HandS.Head2
import Wide.FinOn
import HandS.ForMost
import HandS.Wide
import HandS.Flow
import HandS.Conv
import HandS.HeadHook4
import HandS.Dict
import HandS.DictComp
import HandS.IsInst
import HandS.SortInts
import HandS.Zip
import HandS.OwnEq
import KE.KOpsOwn
import PyProof.LongRange
import HandS.HeadEnd
import PySem.Challenge.RW_axisticks_k26_whole_shares_at_great_leng
set_option Elab.async false
set_option linter.all false
set_option maxRecDepth 100000
set_option maxHeartbeats 0
namespace Ax
open PySem PySem.Spec L2
/-! the text by places (printed by gen_head.py) -/
def top (i : Nat) : Stmt := PySem.Challenge.pw_axisticks_k26_whole_shares_at_great_leng.main.body.getD i (.Pass ⟨0, 0, 0, 0⟩)
abbrev s_is_whole : Stmt := top 11
abbrev s_is_base : Stmt := top 12
abbrev s_check_base : Stmt := top 14
abbrev s_check_at_least : Stmt := top 16
abbrev s_power_of : Stmt := top 17
abbrev s_divided_up : Stmt := top 18
abbrev s_common_divisor : Stmt := top 19
abbrev s_common_multiple : Stmt := top 20
abbrev s_scaled : Stmt := top 22
abbrev s_is_less : Stmt := top 23
abbrev s_may_fit : Stmt := top 24
abbrev s_surely_fits : Stmt := top 25
abbrev s_multiples_around : Stmt := top 26
abbrev s_is_fitting : Stmt := top 27
abbrev s_first_step : Stmt := top 28
abbrev s_least_of : Stmt := top 29
abbrev s_steps_at : Stmt := top 30
abbrev s_first_fitting : Stmt := top 31
abbrev s_marks_of : Stmt := top 33
abbrev s_name_of : Stmt := top 35
abbrev s_compared : Stmt := top 40
abbrev s_different_rules : Stmt := top 45
abbrev s_parts_at : Stmt := top 67
abbrev s_whole_period : Stmt := top 68
abbrev s_edges_from : Stmt := top 69
abbrev s_pieces_at : Stmt := top 70
abbrev s_joined_pieces : Stmt := top 71
abbrev s_turned_pieces : Stmt := top 72
abbrev s_primes_of : Stmt := top 73
abbrev s_primes_in : Stmt := top 74
abbrev s_least_period : Stmt := top 75
abbrev s_are_mantissas : Stmt := top 78
abbrev s_are_fields : Stmt := top 79
abbrev s_check_rule : Stmt := top 81
abbrev s_check_two_rules : Stmt := top 82
abbrev s_rules_of : Stmt := top 85
abbrev s_joined_sets : Stmt := top 86
abbrev s_values_at : Stmt := top 92
abbrev s_counted : Stmt := top 93
abbrev s_taken : Stmt := top 94
abbrev s_is_factor : Stmt := top 95
abbrev s_coarser : Stmt := top 96
abbrev s_touched : Stmt := top 97
abbrev s_law_purse : Stmt := top 99
abbrev s_law_draw : Stmt := top 100
abbrev s_law_pick : Stmt := top 101
abbrev s_law_family : Stmt := top 102
abbrev s_law_rule : Stmt := top 103
abbrev s_law_made : Stmt := top 104
abbrev s_law_times : Stmt := top 105
abbrev s_law_places : Stmt := top 106
abbrev s_law_is_fit : Stmt := top 107
abbrev s_law_sizes : Stmt := top 108
abbrev s_law_step : Stmt := top 109
abbrev s_law_scaled : Stmt := top 110
abbrev s_law_marks : Stmt := top 111
abbrev s_law_atom : Stmt := top 112
abbrev s_law_tree : Stmt := top 113
abbrev s_law_set : Stmt := top 114
abbrev s_law_atom_holds : Stmt := top 115
abbrev s_law_holds : Stmt := top 116
abbrev s_law_rules : Stmt := top 117
abbrev s_law_divisor : Stmt := top 118
abbrev s_law_is_sure : Stmt := top 119
abbrev s_law_needed : Stmt := top 120
abbrev s_law_common : Stmt := top 121
abbrev s_law_starts : Stmt := top 122
abbrev s_law_length : Stmt := top 123
abbrev s_law_is_changed : Stmt := top 124
abbrev s_law_right : Stmt := top 125
abbrev s_law : Stmt := top 126
abbrev s_Look_init : Stmt := inClass (top 36) 0
abbrev s_Look_taken_by : Stmt := inClass (top 36) 1
abbrev s_Every_rules : Stmt := inClass (top 37) 0
abbrev s_Every_holds : Stmt := inClass (top 37) 1
abbrev s_Counted_init : Stmt := inClass (top 38) 0
abbrev s_Counted_rules : Stmt := inClass (top 38) 1
abbrev s_Counted_holds : Stmt := inClass (top 38) 2
abbrev s_Taken_init : Stmt := inClass (top 39) 0
abbrev s_Taken_rules : Stmt := inClass (top 39) 1
abbrev s_Taken_holds : Stmt := inClass (top 39) 2
abbrev s_Ratio_init : Stmt := inClass (top 41) 0
abbrev s_Ratio_rules : Stmt := inClass (top 41) 1
abbrev s_Ratio_holds : Stmt := inClass (top 41) 2
abbrev s_Touched_init : Stmt := inClass (top 42) 0
abbrev s_Touched_rules : Stmt := inClass (top 42) 1
abbrev s_Touched_holds : Stmt := inClass (top 42) 2
abbrev s_Joined_init : Stmt := inClass (top 43) 0
abbrev s_Joined_rules : Stmt := inClass (top 43) 1
abbrev s_Joined_holds : Stmt := inClass (top 43) 2
abbrev s_Not_init : Stmt := inClass (top 44) 0
abbrev s_Not_rules : Stmt := inClass (top 44) 1
abbrev s_Not_holds : Stmt := inClass (top 44) 2
abbrev s_Rule_init : Stmt := inClass (top 80) 0
abbrev s_Rule_eq : Stmt := inClass (top 80) 9
abbrev s_RangeSet_init : Stmt := inClass (top 84) 0
abbrev s_RangeSet_and : Stmt := inClass (top 84) 3
abbrev s_RangeSet_or : Stmt := inClass (top 84) 4
abbrev s_RangeSet_sub : Stmt := inClass (top 84) 5
abbrev s_RangeSet_xor : Stmt := inClass (top 84) 6
abbrev s_RangeSet_invert : Stmt := inClass (top 84) 7
abbrev s_RangeSet_share : Stmt := inClass (top 84) 18
abbrev s_RangeSet_every : Stmt := inClass (top 84) 2
/-- what the top leaves, by names -/
structure Tp (K : PySem.W.Frag) (mg : Str → Option Value) : Prop where
  d_is_whole : ∃ fd, FunD K "is_whole" "is_whole" (defArgs s_is_whole) (defBody s_is_whole) (defScope s_is_whole) [] [] (He.ga K "is_whole") fd
  d_is_base : ∃ fd, FunD K "is_base" "is_base" (defArgs s_is_base) (defBody s_is_base) (defScope s_is_base) [] [] (He.ga K "is_base") fd
  d_check_base : ∃ fd, FunD K "check_base" "check_base" (defArgs s_check_base) (defBody s_check_base) (defScope s_check_base) [] [] (He.ga K "check_base") fd
  d_check_at_least : ∃ fd, FunD K "check_at_least" "check_at_least" (defArgs s_check_at_least) (defBody s_check_at_least) (defScope s_check_at_least) [] [] (He.ga K "check_at_least") fd
  d_power_of : ∃ fd, FunD K "power_of" "power_of" (defArgs s_power_of) (defBody s_power_of) (defScope s_power_of) [] [] (He.ga K "power_of") fd
  d_divided_up : ∃ fd, FunD K "divided_up" "divided_up" (defArgs s_divided_up) (defBody s_divided_up) (defScope s_divided_up) [] [] (He.ga K "divided_up") fd
  d_common_divisor : ∃ fd, FunD K "common_divisor" "common_divisor" (defArgs s_common_divisor) (defBody s_common_divisor) (defScope s_common_divisor) [] [] (He.ga K "common_divisor") fd
  d_common_multiple : ∃ fd, FunD K "common_multiple" "common_multiple" (defArgs s_common_multiple) (defBody s_common_multiple) (defScope s_common_multiple) [] [] (He.ga K "common_multiple") fd
  d_scaled : ∃ fd, FunD K "scaled" "scaled" (defArgs s_scaled) (defBody s_scaled) (defScope s_scaled) [] [] (He.ga K "scaled") fd
  d_is_less : ∃ fd, FunD K "is_less" "is_less" (defArgs s_is_less) (defBody s_is_less) (defScope s_is_less) [] [] (He.ga K "is_less") fd
  d_may_fit : ∃ fd, FunD K "may_fit" "may_fit" (defArgs s_may_fit) (defBody s_may_fit) (defScope s_may_fit) [] [] (He.ga K "may_fit") fd
  d_surely_fits : ∃ fd, FunD K "surely_fits" "surely_fits" (defArgs s_surely_fits) (defBody s_surely_fits) (defScope s_surely_fits) [] [] (He.ga K "surely_fits") fd
  d_multiples_around : ∃ fd, FunD K "multiples_around" "multiples_around" (defArgs s_multiples_around) (defBody s_multiples_around) (defScope s_multiples_around) [] [] (He.ga K "multiples_around") fd
  d_is_fitting : ∃ fd, FunD K "is_fitting" "is_fitting" (defArgs s_is_fitting) (defBody s_is_fitting) (defScope s_is_fitting) [] [] (He.ga K "is_fitting") fd
  d_first_step : ∃ fd, FunD K "first_step" "first_step" (defArgs s_first_step) (defBody s_first_step) (defScope s_first_step) [] [] (He.ga K "first_step") fd
  d_least_of : ∃ fd, FunD K "least_of" "least_of" (defArgs s_least_of) (defBody s_least_of) (defScope s_least_of) [] [] (He.ga K "least_of") fd
  d_steps_at : ∃ fd, FunD K "steps_at" "steps_at" (defArgs s_steps_at) (defBody s_steps_at) (defScope s_steps_at) [] [] (He.ga K "steps_at") fd
  d_first_fitting : ∃ fd, FunD K "first_fitting" "first_fitting" (defArgs s_first_fitting) (defBody s_first_fitting) (defScope s_first_fitting) [] [] (He.ga K "first_fitting") fd
  d_marks_of : ∃ fd, FunD K "marks_of" "marks_of" (defArgs s_marks_of) (defBody s_marks_of) (defScope s_marks_of) [] [] (He.ga K "marks_of") fd
  d_name_of : ∃ fd, FunD K "name_of" "name_of" (defArgs s_name_of) (defBody s_name_of) (defScope s_name_of) [] [] (He.ga K "name_of") fd
  d_compared : ∃ fd, FunD K "compared" "compared" (defArgs s_compared) (defBody s_compared) (defScope s_compared) [] [] (He.ga K "compared") fd
  d_different_rules : ∃ fd, FunD K "different_rules" "different_rules" (defArgs s_different_rules) (defBody s_different_rules) (defScope s_different_rules) [] [] (He.ga K "different_rules") fd
  d_parts_at : ∃ fd, FunD K "parts_at" "parts_at" (defArgs s_parts_at) (defBody s_parts_at) (defScope s_parts_at) [] [] (He.ga K "parts_at") fd
  d_whole_period : ∃ fd, FunD K "whole_period" "whole_period" (defArgs s_whole_period) (defBody s_whole_period) (defScope s_whole_period) [] [] (He.ga K "whole_period") fd
  d_edges_from : ∃ fd, FunD K "edges_from" "edges_from" (defArgs s_edges_from) (defBody s_edges_from) (defScope s_edges_from) [] [] (He.ga K "edges_from") fd
  d_pieces_at : ∃ fd, FunD K "pieces_at" "pieces_at" (defArgs s_pieces_at) (defBody s_pieces_at) (defScope s_pieces_at) [] [] (He.ga K "pieces_at") fd
  d_joined_pieces : ∃ fd, FunD K "joined_pieces" "joined_pieces" (defArgs s_joined_pieces) (defBody s_joined_pieces) (defScope s_joined_pieces) [] [] (He.ga K "joined_pieces") fd
  d_turned_pieces : ∃ fd, FunD K "turned_pieces" "turned_pieces" (defArgs s_turned_pieces) (defBody s_turned_pieces) (defScope s_turned_pieces) [] [] (He.ga K "turned_pieces") fd
  d_primes_of : ∃ fd, FunD K "primes_of" "primes_of" (defArgs s_primes_of) (defBody s_primes_of) (defScope s_primes_of) [] [] (He.ga K "primes_of") fd
  d_primes_in : ∃ fd, FunD K "primes_in" "primes_in" (defArgs s_primes_in) (defBody s_primes_in) (defScope s_primes_in) [] [] (He.ga K "primes_in") fd
  d_least_period : ∃ fd, FunD K "least_period" "least_period" (defArgs s_least_period) (defBody s_least_period) (defScope s_least_period) [] [] (He.ga K "least_period") fd
  d_are_mantissas : ∃ fd, FunD K "are_mantissas" "are_mantissas" (defArgs s_are_mantissas) (defBody s_are_mantissas) (defScope s_are_mantissas) [] [] (He.ga K "are_mantissas") fd
  d_are_fields : ∃ fd, FunD K "are_fields" "are_fields" (defArgs s_are_fields) (defBody s_are_fields) (defScope s_are_fields) [] [] (He.ga K "are_fields") fd
  d_check_rule : ∃ fd, FunD K "check_rule" "check_rule" (defArgs s_check_rule) (defBody s_check_rule) (defScope s_check_rule) [] [] (He.ga K "check_rule") fd
  d_check_two_rules : ∃ fd, FunD K "check_two_rules" "check_two_rules" (defArgs s_check_two_rules) (defBody s_check_two_rules) (defScope s_check_two_rules) [] [] (He.ga K "check_two_rules") fd
  d_rules_of : ∃ fd, FunD K "rules_of" "rules_of" (defArgs s_rules_of) (defBody s_rules_of) (defScope s_rules_of) [] [] (He.ga K "rules_of") fd
  d_joined_sets : ∃ fd, FunD K "joined_sets" "joined_sets" (defArgs s_joined_sets) (defBody s_joined_sets) (defScope s_joined_sets) [] [] (He.ga K "joined_sets") fd
  d_values_at : ∃ fd, FunD K "values_at" "values_at" (defArgs s_values_at) (defBody s_values_at) (defScope s_values_at) [] [] (He.ga K "values_at") fd
  d_counted : ∃ fd, FunD K "counted" "counted" (defArgs s_counted) (defBody s_counted) (defScope s_counted) [.non] [] (He.ga K "counted") fd
  d_taken : ∃ fd, FunD K "taken" "taken" (defArgs s_taken) (defBody s_taken) (defScope s_taken) [] [] (He.ga K "taken") fd
  d_is_factor : ∃ fd, FunD K "is_factor" "is_factor" (defArgs s_is_factor) (defBody s_is_factor) (defScope s_is_factor) [] [] (He.ga K "is_factor") fd
  d_coarser : ∃ fd, FunD K "coarser" "coarser" (defArgs s_coarser) (defBody s_coarser) (defScope s_coarser) [.ref (He.dflAt ("coarser", none) 0 K)] [] (He.ga K "coarser") fd
  d_touched : ∃ fd, FunD K "touched" "touched" (defArgs s_touched) (defBody s_touched) (defScope s_touched) [] [] (He.ga K "touched") fd
  d_law_purse : ∃ fd, FunD K "_law_purse" "_law_purse" (defArgs s_law_purse) (defBody s_law_purse) (defScope s_law_purse) [] [] (He.ga K "_law_purse") fd
  d_law_draw : ∃ fd, FunD K "_law_draw" "_law_draw" (defArgs s_law_draw) (defBody s_law_draw) (defScope s_law_draw) [] [] (He.ga K "_law_draw") fd
  d_law_pick : ∃ fd, FunD K "_law_pick" "_law_pick" (defArgs s_law_pick) (defBody s_law_pick) (defScope s_law_pick) [] [] (He.ga K "_law_pick") fd
  d_law_family : ∃ fd, FunD K "_law_family" "_law_family" (defArgs s_law_family) (defBody s_law_family) (defScope s_law_family) [] [] (He.ga K "_law_family") fd
  d_law_rule : ∃ fd, FunD K "_law_rule" "_law_rule" (defArgs s_law_rule) (defBody s_law_rule) (defScope s_law_rule) [] [] (He.ga K "_law_rule") fd
  d_law_made : ∃ fd, FunD K "_law_made" "_law_made" (defArgs s_law_made) (defBody s_law_made) (defScope s_law_made) [] [] (He.ga K "_law_made") fd
  d_law_times : ∃ fd, FunD K "_law_times" "_law_times" (defArgs s_law_times) (defBody s_law_times) (defScope s_law_times) [] [] (He.ga K "_law_times") fd
  d_law_places : ∃ fd, FunD K "_law_places" "_law_places" (defArgs s_law_places) (defBody s_law_places) (defScope s_law_places) [] [] (He.ga K "_law_places") fd
  d_law_is_fit : ∃ fd, FunD K "_law_is_fit" "_law_is_fit" (defArgs s_law_is_fit) (defBody s_law_is_fit) (defScope s_law_is_fit) [] [] (He.ga K "_law_is_fit") fd
  d_law_sizes : ∃ fd, FunD K "_law_sizes" "_law_sizes" (defArgs s_law_sizes) (defBody s_law_sizes) (defScope s_law_sizes) [] [] (He.ga K "_law_sizes") fd
  d_law_step : ∃ fd, FunD K "_law_step" "_law_step" (defArgs s_law_step) (defBody s_law_step) (defScope s_law_step) [] [] (He.ga K "_law_step") fd
  d_law_scaled : ∃ fd, FunD K "_law_scaled" "_law_scaled" (defArgs s_law_scaled) (defBody s_law_scaled) (defScope s_law_scaled) [] [] (He.ga K "_law_scaled") fd
  d_law_marks : ∃ fd, FunD K "_law_marks" "_law_marks" (defArgs s_law_marks) (defBody s_law_marks) (defScope s_law_marks) [] [] (He.ga K "_law_marks") fd
  d_law_atom : ∃ fd, FunD K "_law_atom" "_law_atom" (defArgs s_law_atom) (defBody s_law_atom) (defScope s_law_atom) [] [] (He.ga K "_law_atom") fd
  d_law_tree : ∃ fd, FunD K "_law_tree" "_law_tree" (defArgs s_law_tree) (defBody s_law_tree) (defScope s_law_tree) [] [] (He.ga K "_law_tree") fd
  d_law_set : ∃ fd, FunD K "_law_set" "_law_set" (defArgs s_law_set) (defBody s_law_set) (defScope s_law_set) [] [] (He.ga K "_law_set") fd
  d_law_atom_holds : ∃ fd, FunD K "_law_atom_holds" "_law_atom_holds" (defArgs s_law_atom_holds) (defBody s_law_atom_holds) (defScope s_law_atom_holds) [] [] (He.ga K "_law_atom_holds") fd
  d_law_holds : ∃ fd, FunD K "_law_holds" "_law_holds" (defArgs s_law_holds) (defBody s_law_holds) (defScope s_law_holds) [] [] (He.ga K "_law_holds") fd
  d_law_rules : ∃ fd, FunD K "_law_rules" "_law_rules" (defArgs s_law_rules) (defBody s_law_rules) (defScope s_law_rules) [] [] (He.ga K "_law_rules") fd
  d_law_divisor : ∃ fd, FunD K "_law_divisor" "_law_divisor" (defArgs s_law_divisor) (defBody s_law_divisor) (defScope s_law_divisor) [] [] (He.ga K "_law_divisor") fd
  d_law_is_sure : ∃ fd, FunD K "_law_is_sure" "_law_is_sure" (defArgs s_law_is_sure) (defBody s_law_is_sure) (defScope s_law_is_sure) [] [] (He.ga K "_law_is_sure") fd
  d_law_needed : ∃ fd, FunD K "_law_needed" "_law_needed" (defArgs s_law_needed) (defBody s_law_needed) (defScope s_law_needed) [] [] (He.ga K "_law_needed") fd
  d_law_common : ∃ fd, FunD K "_law_common" "_law_common" (defArgs s_law_common) (defBody s_law_common) (defScope s_law_common) [] [] (He.ga K "_law_common") fd
  d_law_starts : ∃ fd, FunD K "_law_starts" "_law_starts" (defArgs s_law_starts) (defBody s_law_starts) (defScope s_law_starts) [] [] (He.ga K "_law_starts") fd
  d_law_length : ∃ fd, FunD K "_law_length" "_law_length" (defArgs s_law_length) (defBody s_law_length) (defScope s_law_length) [] [] (He.ga K "_law_length") fd
  d_law_is_changed : ∃ fd, FunD K "_law_is_changed" "_law_is_changed" (defArgs s_law_is_changed) (defBody s_law_is_changed) (defScope s_law_is_changed) [] [] (He.ga K "_law_is_changed") fd
  d_law_right : ∃ fd, FunD K "_law_right" "_law_right" (defArgs s_law_right) (defBody s_law_right) (defScope s_law_right) [] [] (He.ga K "_law_right") fd
  d_law : ∃ fd, FunD K "law" "law" (defArgs s_law) (defBody s_law) (defScope s_law) [] [] (He.ga K "law") fd
  d_Look_init : ∃ fd, FunD K "__init__" "Look.__init__" (defArgs s_Look_init) (defBody s_Look_init) (defScope s_Look_init) [] [] (He.ma K (He.ga K "Look") "__init__") fd
  d_Look_taken_by : ∃ fd, FunD K "taken_by" "Look.taken_by" (defArgs s_Look_taken_by) (defBody s_Look_taken_by) (defScope s_Look_taken_by) [] [] (He.ma K (He.ga K "Look") "taken_by") fd
  d_Every_rules : ∃ fd, FunD K "rules" "Every.rules" (defArgs s_Every_rules) (defBody s_Every_rules) (defScope s_Every_rules) [] [] (He.ma K (He.ga K "Every") "rules") fd
  d_Every_holds : ∃ fd, FunD K "holds" "Every.holds" (defArgs s_Every_holds) (defBody s_Every_holds) (defScope s_Every_holds) [] [] (He.ma K (He.ga K "Every") "holds") fd
  d_Counted_init : ∃ fd, FunD K "__init__" "Counted.__init__" (defArgs s_Counted_init) (defBody s_Counted_init) (defScope s_Counted_init) [] [] (He.ma K (He.ga K "Counted") "__init__") fd
  d_Counted_rules : ∃ fd, FunD K "rules" "Counted.rules" (defArgs s_Counted_rules) (defBody s_Counted_rules) (defScope s_Counted_rules) [] [] (He.ma K (He.ga K "Counted") "rules") fd
  d_Counted_holds : ∃ fd, FunD K "holds" "Counted.holds" (defArgs s_Counted_holds) (defBody s_Counted_holds) (defScope s_Counted_holds) [] [] (He.ma K (He.ga K "Counted") "holds") fd
  d_Taken_init : ∃ fd, FunD K "__init__" "Taken.__init__" (defArgs s_Taken_init) (defBody s_Taken_init) (defScope s_Taken_init) [] [] (He.ma K (He.ga K "Taken") "__init__") fd
  d_Taken_rules : ∃ fd, FunD K "rules" "Taken.rules" (defArgs s_Taken_rules) (defBody s_Taken_rules) (defScope s_Taken_rules) [] [] (He.ma K (He.ga K "Taken") "rules") fd
  d_Taken_holds : ∃ fd, FunD K "holds" "Taken.holds" (defArgs s_Taken_holds) (defBody s_Taken_holds) (defScope s_Taken_holds) [] [] (He.ma K (He.ga K "Taken") "holds") fd
  d_Ratio_init : ∃ fd, FunD K "__init__" "Ratio.__init__" (defArgs s_Ratio_init) (defBody s_Ratio_init) (defScope s_Ratio_init) [] [] (He.ma K (He.ga K "Ratio") "__init__") fd
  d_Ratio_rules : ∃ fd, FunD K "rules" "Ratio.rules" (defArgs s_Ratio_rules) (defBody s_Ratio_rules) (defScope s_Ratio_rules) [] [] (He.ma K (He.ga K "Ratio") "rules") fd
  d_Ratio_holds : ∃ fd, FunD K "holds" "Ratio.holds" (defArgs s_Ratio_holds) (defBody s_Ratio_holds) (defScope s_Ratio_holds) [] [] (He.ma K (He.ga K "Ratio") "holds") fd
  d_Touched_init : ∃ fd, FunD K "__init__" "Touched.__init__" (defArgs s_Touched_init) (defBody s_Touched_init) (defScope s_Touched_init) [] [] (He.ma K (He.ga K "Touched") "__init__") fd
  d_Touched_rules : ∃ fd, FunD K "rules" "Touched.rules" (defArgs s_Touched_rules) (defBody s_Touched_rules) (defScope s_Touched_rules) [] [] (He.ma K (He.ga K "Touched") "rules") fd
  d_Touched_holds : ∃ fd, FunD K "holds" "Touched.holds" (defArgs s_Touched_holds) (defBody s_Touched_holds) (defScope s_Touched_holds) [] [] (He.ma K (He.ga K "Touched") "holds") fd
  d_Joined_init : ∃ fd, FunD K "__init__" "Joined.__init__" (defArgs s_Joined_init) (defBody s_Joined_init) (defScope s_Joined_init) [] [] (He.ma K (He.ga K "Joined") "__init__") fd
  d_Joined_rules : ∃ fd, FunD K "rules" "Joined.rules" (defArgs s_Joined_rules) (defBody s_Joined_rules) (defScope s_Joined_rules) [] [] (He.ma K (He.ga K "Joined") "rules") fd
  d_Joined_holds : ∃ fd, FunD K "holds" "Joined.holds" (defArgs s_Joined_holds) (defBody s_Joined_holds) (defScope s_Joined_holds) [] [] (He.ma K (He.ga K "Joined") "holds") fd
  d_Not_init : ∃ fd, FunD K "__init__" "Not.__init__" (defArgs s_Not_init) (defBody s_Not_init) (defScope s_Not_init) [] [] (He.ma K (He.ga K "Not") "__init__") fd
  d_Not_rules : ∃ fd, FunD K "rules" "Not.rules" (defArgs s_Not_rules) (defBody s_Not_rules) (defScope s_Not_rules) [] [] (He.ma K (He.ga K "Not") "rules") fd
  d_Not_holds : ∃ fd, FunD K "holds" "Not.holds" (defArgs s_Not_holds) (defBody s_Not_holds) (defScope s_Not_holds) [] [] (He.ma K (He.ga K "Not") "holds") fd
  d_Rule_init : ∃ fd, FunD K "__init__" "Rule.__init__" (defArgs s_Rule_init) (defBody s_Rule_init) (defScope s_Rule_init) [] [] (He.ma K (He.ga K "Rule") "__init__") fd
  d_Rule_eq : ∃ fd, FunD K "__eq__" "Rule.__eq__" (defArgs s_Rule_eq) (defBody s_Rule_eq) (defScope s_Rule_eq) [] [] (He.ma K (He.ga K "Rule") "__eq__") fd
  d_RangeSet_init : ∃ fd, FunD K "__init__" "RangeSet.__init__" (defArgs s_RangeSet_init) (defBody s_RangeSet_init) (defScope s_RangeSet_init) [] [] (He.ma K (He.ga K "RangeSet") "__init__") fd
  d_RangeSet_and : ∃ fd, FunD K "__and__" "RangeSet.__and__" (defArgs s_RangeSet_and) (defBody s_RangeSet_and) (defScope s_RangeSet_and) [] [] (He.ma K (He.ga K "RangeSet") "__and__") fd
  d_RangeSet_or : ∃ fd, FunD K "__or__" "RangeSet.__or__" (defArgs s_RangeSet_or) (defBody s_RangeSet_or) (defScope s_RangeSet_or) [] [] (He.ma K (He.ga K "RangeSet") "__or__") fd
  d_RangeSet_sub : ∃ fd, FunD K "__sub__" "RangeSet.__sub__" (defArgs s_RangeSet_sub) (defBody s_RangeSet_sub) (defScope s_RangeSet_sub) [] [] (He.ma K (He.ga K "RangeSet") "__sub__") fd
  d_RangeSet_xor : ∃ fd, FunD K "__xor__" "RangeSet.__xor__" (defArgs s_RangeSet_xor) (defBody s_RangeSet_xor) (defScope s_RangeSet_xor) [] [] (He.ma K (He.ga K "RangeSet") "__xor__") fd
  d_RangeSet_invert : ∃ fd, FunD K "__invert__" "RangeSet.__invert__" (defArgs s_RangeSet_invert) (defBody s_RangeSet_invert) (defScope s_RangeSet_invert) [] [] (He.ma K (He.ga K "RangeSet") "__invert__") fd
  d_RangeSet_share : ∃ fd, FunD K "share" "RangeSet.share" (defArgs s_RangeSet_share) (defBody s_RangeSet_share) (defScope s_RangeSet_share) [] [] (He.ma K (He.ga K "RangeSet") "share") fd
  g_is_whole : mg "is_whole" = some (.ref (He.ga K "is_whole"))
  g_is_base : mg "is_base" = some (.ref (He.ga K "is_base"))
  g_check_base : mg "check_base" = some (.ref (He.ga K "check_base"))
  g_check_at_least : mg "check_at_least" = some (.ref (He.ga K "check_at_least"))
  g_power_of : mg "power_of" = some (.ref (He.ga K "power_of"))
  g_divided_up : mg "divided_up" = some (.ref (He.ga K "divided_up"))
  g_common_divisor : mg "common_divisor" = some (.ref (He.ga K "common_divisor"))
  g_common_multiple : mg "common_multiple" = some (.ref (He.ga K "common_multiple"))
  g_scaled : mg "scaled" = some (.ref (He.ga K "scaled"))
  g_is_less : mg "is_less" = some (.ref (He.ga K "is_less"))
  g_may_fit : mg "may_fit" = some (.ref (He.ga K "may_fit"))
  g_surely_fits : mg "surely_fits" = some (.ref (He.ga K "surely_fits"))
  g_multiples_around : mg "multiples_around" = some (.ref (He.ga K "multiples_around"))
  g_is_fitting : mg "is_fitting" = some (.ref (He.ga K "is_fitting"))
  g_first_step : mg "first_step" = some (.ref (He.ga K "first_step"))
  g_least_of : mg "least_of" = some (.ref (He.ga K "least_of"))
  g_steps_at : mg "steps_at" = some (.ref (He.ga K "steps_at"))
  g_first_fitting : mg "first_fitting" = some (.ref (He.ga K "first_fitting"))
  g_marks_of : mg "marks_of" = some (.ref (He.ga K "marks_of"))
  g_name_of : mg "name_of" = some (.ref (He.ga K "name_of"))
  g_compared : mg "compared" = some (.ref (He.ga K "compared"))
  g_different_rules : mg "different_rules" = some (.ref (He.ga K "different_rules"))
  g_parts_at : mg "parts_at" = some (.ref (He.ga K "parts_at"))
  g_whole_period : mg "whole_period" = some (.ref (He.ga K "whole_period"))
  g_edges_from : mg "edges_from" = some (.ref (He.ga K "edges_from"))
  g_pieces_at : mg "pieces_at" = some (.ref (He.ga K "pieces_at"))
  g_joined_pieces : mg "joined_pieces" = some (.ref (He.ga K "joined_pieces"))
  g_turned_pieces : mg "turned_pieces" = some (.ref (He.ga K "turned_pieces"))
  g_primes_of : mg "primes_of" = some (.ref (He.ga K "primes_of"))
  g_primes_in : mg "primes_in" = some (.ref (He.ga K "primes_in"))
  g_least_period : mg "least_period" = some (.ref (He.ga K "least_period"))
  g_are_mantissas : mg "are_mantissas" = some (.ref (He.ga K "are_mantissas"))
  g_are_fields : mg "are_fields" = some (.ref (He.ga K "are_fields"))
  g_check_rule : mg "check_rule" = some (.ref (He.ga K "check_rule"))
  g_check_two_rules : mg "check_two_rules" = some (.ref (He.ga K "check_two_rules"))
  g_rules_of : mg "rules_of" = some (.ref (He.ga K "rules_of"))
  g_joined_sets : mg "joined_sets" = some (.ref (He.ga K "joined_sets"))
  g_values_at : mg "values_at" = some (.ref (He.ga K "values_at"))
  g_counted : mg "counted" = some (.ref (He.ga K "counted"))
  g_taken : mg "taken" = some (.ref (He.ga K "taken"))
  g_is_factor : mg "is_factor" = some (.ref (He.ga K "is_factor"))
  g_coarser : mg "coarser" = some (.ref (He.ga K "coarser"))
  g_touched : mg "touched" = some (.ref (He.ga K "touched"))
  g_law_purse : mg "_law_purse" = some (.ref (He.ga K "_law_purse"))
  g_law_draw : mg "_law_draw" = some (.ref (He.ga K "_law_draw"))
  g_law_pick : mg "_law_pick" = some (.ref (He.ga K "_law_pick"))
  g_law_family : mg "_law_family" = some (.ref (He.ga K "_law_family"))
  g_law_rule : mg "_law_rule" = some (.ref (He.ga K "_law_rule"))
  g_law_made : mg "_law_made" = some (.ref (He.ga K "_law_made"))
  g_law_times : mg "_law_times" = some (.ref (He.ga K "_law_times"))
  g_law_places : mg "_law_places" = some (.ref (He.ga K "_law_places"))
  g_law_is_fit : mg "_law_is_fit" = some (.ref (He.ga K "_law_is_fit"))
  g_law_sizes : mg "_law_sizes" = some (.ref (He.ga K "_law_sizes"))
  g_law_step : mg "_law_step" = some (.ref (He.ga K "_law_step"))
  g_law_scaled : mg "_law_scaled" = some (.ref (He.ga K "_law_scaled"))
  g_law_marks : mg "_law_marks" = some (.ref (He.ga K "_law_marks"))
  g_law_atom : mg "_law_atom" = some (.ref (He.ga K "_law_atom"))
  g_law_tree : mg "_law_tree" = some (.ref (He.ga K "_law_tree"))
  g_law_set : mg "_law_set" = some (.ref (He.ga K "_law_set"))
  g_law_atom_holds : mg "_law_atom_holds" = some (.ref (He.ga K "_law_atom_holds"))
  g_law_holds : mg "_law_holds" = some (.ref (He.ga K "_law_holds"))
  g_law_rules : mg "_law_rules" = some (.ref (He.ga K "_law_rules"))
  g_law_divisor : mg "_law_divisor" = some (.ref (He.ga K "_law_divisor"))
  g_law_is_sure : mg "_law_is_sure" = some (.ref (He.ga K "_law_is_sure"))
  g_law_needed : mg "_law_needed" = some (.ref (He.ga K "_law_needed"))
  g_law_common : mg "_law_common" = some (.ref (He.ga K "_law_common"))
  g_law_starts : mg "_law_starts" = some (.ref (He.ga K "_law_starts"))
  g_law_length : mg "_law_length" = some (.ref (He.ga K "_law_length"))
  g_law_is_changed : mg "_law_is_changed" = some (.ref (He.ga K "_law_is_changed"))
  g_law_right : mg "_law_right" = some (.ref (He.ga K "_law_right"))
  g_law : mg "law" = some (.ref (He.ga K "law"))
  g_Look : mg "Look" = some (.ref (He.ga K "Look"))
  g_Every : mg "Every" = some (.ref (He.ga K "Every"))
  g_Counted : mg "Counted" = some (.ref (He.ga K "Counted"))
  g_Taken : mg "Taken" = some (.ref (He.ga K "Taken"))
  g_Ratio : mg "Ratio" = some (.ref (He.ga K "Ratio"))
  g_Touched : mg "Touched" = some (.ref (He.ga K "Touched"))
  g_Joined : mg "Joined" = some (.ref (He.ga K "Joined"))
  g_Not : mg "Not" = some (.ref (He.ga K "Not"))
  g_Rule : mg "Rule" = some (.ref (He.ga K "Rule"))
  g_RangeSet : mg "RangeSet" = some (.ref (He.ga K "RangeSet"))
  b_int : mg "int" = none
  b_len : mg "len" = none
  b_isinstance : mg "isinstance" = none
  b_range : mg "range" = none
  b_zip : mg "zip" = none
  b_list : mg "list" = none
  b_tuple : mg "tuple" = none
  b_sorted : mg "sorted" = none
  b_set : mg "set" = none
  b_max : mg "max" = none
  b_min : mg "min" = none
  b_sum : mg "sum" = none
  b_str : mg "str" = none
  b_bool : mg "bool" = none
  c_Look : Cls K (He.ga K "Look")
  c_Every : Cls K (He.ga K "Every")
  c_Counted : Cls K (He.ga K "Counted")
  c_Taken : Cls K (He.ga K "Taken")
  c_Ratio : Cls K (He.ga K "Ratio")
  c_Touched : Cls K (He.ga K "Touched")
  c_Joined : Cls K (He.ga K "Joined")
  c_Not : Cls K (He.ga K "Not")
  c_Rule : Cls K (He.ga K "Rule")
  c_RangeSet : Cls K (He.ga K "RangeSet")
  n_Look_low : NoAttr K (He.ga K "Look") "low"
  n_Look_high : NoAttr K (He.ga K "Look") "high"
  n_Look_known : NoAttr K (He.ga K "Look") "known"
  n_Counted_rule : NoAttr K (He.ga K "Counted") "rule"
  n_Counted_fewest : NoAttr K (He.ga K "Counted") "fewest"
  n_Counted_greatest : NoAttr K (He.ga K "Counted") "greatest"
  n_Taken_rule : NoAttr K (He.ga K "Taken") "rule"
  n_Taken_mantissa : NoAttr K (He.ga K "Taken") "mantissa"
  n_Ratio_one : NoAttr K (He.ga K "Ratio") "one"
  n_Ratio_other : NoAttr K (He.ga K "Ratio") "other"
  n_Ratio_times : NoAttr K (He.ga K "Ratio") "times"
  n_Ratio_is_more : NoAttr K (He.ga K "Ratio") "is_more"
  n_Touched_rule : NoAttr K (He.ga K "Touched") "rule"
  n_Touched_is_low : NoAttr K (He.ga K "Touched") "is_low"
  n_Joined_word : NoAttr K (He.ga K "Joined") "word"
  n_Joined_one : NoAttr K (He.ga K "Joined") "one"
  n_Joined_other : NoAttr K (He.ga K "Joined") "other"
  n_Not_one : NoAttr K (He.ga K "Not") "one"
  n_Rule_ground : NoAttr K (He.ga K "Rule") "ground"
  n_Rule_way : NoAttr K (He.ga K "Rule") "way"
  n_Rule_heads : NoAttr K (He.ga K "Rule") "heads"
  n_Rule_limit : NoAttr K (He.ga K "Rule") "limit"
  n_RangeSet_ground : NoAttr K (He.ga K "RangeSet") "ground"
  n_RangeSet_statement : NoAttr K (He.ga K "RangeSet") "statement"
  m_Look_taken_by : Meth K (He.ga K "Look") "taken_by" (He.ma K (He.ga K "Look") "taken_by")
  m_Every_rules : Meth K (He.ga K "Every") "rules" (He.ma K (He.ga K "Every") "rules")
  m_Every_holds : Meth K (He.ga K "Every") "holds" (He.ma K (He.ga K "Every") "holds")
  m_Counted_rules : Meth K (He.ga K "Counted") "rules" (He.ma K (He.ga K "Counted") "rules")
  m_Counted_holds : Meth K (He.ga K "Counted") "holds" (He.ma K (He.ga K "Counted") "holds")
  m_Taken_rules : Meth K (He.ga K "Taken") "rules" (He.ma K (He.ga K "Taken") "rules")
  m_Taken_holds : Meth K (He.ga K "Taken") "holds" (He.ma K (He.ga K "Taken") "holds")
  m_Ratio_rules : Meth K (He.ga K "Ratio") "rules" (He.ma K (He.ga K "Ratio") "rules")
  m_Ratio_holds : Meth K (He.ga K "Ratio") "holds" (He.ma K (He.ga K "Ratio") "holds")
  m_Touched_rules : Meth K (He.ga K "Touched") "rules" (He.ma K (He.ga K "Touched") "rules")
  m_Touched_holds : Meth K (He.ga K "Touched") "holds" (He.ma K (He.ga K "Touched") "holds")
  m_Joined_rules : Meth K (He.ga K "Joined") "rules" (He.ma K (He.ga K "Joined") "rules")
  m_Joined_holds : Meth K (He.ga K "Joined") "holds" (He.ma K (He.ga K "Joined") "holds")
  m_Not_rules : Meth K (He.ga K "Not") "rules" (He.ma K (He.ga K "Not") "rules")
  m_Not_holds : Meth K (He.ga K "Not") "holds" (He.ma K (He.ga K "Not") "holds")
  m_Rule_eq : Meth K (He.ga K "Rule") "__eq__" (He.ma K (He.ga K "Rule") "__eq__")
  m_RangeSet_and : Meth K (He.ga K "RangeSet") "__and__" (He.ma K (He.ga K "RangeSet") "__and__")
  m_RangeSet_or : Meth K (He.ga K "RangeSet") "__or__" (He.ma K (He.ga K "RangeSet") "__or__")
  m_RangeSet_sub : Meth K (He.ga K "RangeSet") "__sub__" (He.ma K (He.ga K "RangeSet") "__sub__")
  m_RangeSet_xor : Meth K (He.ga K "RangeSet") "__xor__" (He.ma K (He.ga K "RangeSet") "__xor__")
  m_RangeSet_invert : Meth K (He.ga K "RangeSet") "__invert__" (He.ma K (He.ga K "RangeSet") "__invert__")
  m_RangeSet_share : Meth K (He.ga K "RangeSet") "share" (He.ma K (He.ga K "RangeSet") "share")
  k_Look : Mk K (He.ga K "Look") (He.ma K (He.ga K "Look") "__init__")
  k_Counted : Mk K (He.ga K "Counted") (He.ma K (He.ga K "Counted") "__init__")
  k_Taken : Mk K (He.ga K "Taken") (He.ma K (He.ga K "Taken") "__init__")
  k_Ratio : Mk K (He.ga K "Ratio") (He.ma K (He.ga K "Ratio") "__init__")
  k_Touched : Mk K (He.ga K "Touched") (He.ma K (He.ga K "Touched") "__init__")
  k_Joined : Mk K (He.ga K "Joined") (He.ma K (He.ga K "Joined") "__init__")
  k_Not : Mk K (He.ga K "Not") (He.ma K (He.ga K "Not") "__init__")
  k_Rule : Mk K (He.ga K "Rule") (He.ma K (He.ga K "Rule") "__init__")
  k_RangeSet : Mk K (He.ga K "RangeSet") (He.ma K (He.ga K "RangeSet") "__init__")
  ins_Rule : C8.InsC K (He.ga K "Rule")
  ins_RangeSet : C8.InsC K (He.ga K "RangeSet")
  sf_RangeSet : PySem.W.selfFirst K (He.ga K "RangeSet") = true
  sf_Rule : PySem.W.selfFirst K (He.ga K "Rule") = true
  e_make : PySem.W.makesIn K (He.ga K "Every") = true
  e_init : PySem.W.findIn K (.ref (He.ga K "Every")) "__init__" = some (some (.builtin "object.__init__"))
  e_keep : PySem.W.keepIn K (.ref (He.ga K "Every")) = true
  kinds : mg "KINDS" = some (.ref (He.ga K "KINDS")) ∧ ∀ H, SqT K H (He.ga K "KINDS") [.str "inside", .str "cover", .str "length"]
end Ax
namespace Ax
open PySem PySem.Spec L2
/-- RangeSet.every -/
def dEv : He5.DefA := ⟨fun K => He5.wf K (He.ga K "RangeSet") "staticmethod" "every", "every", "RangeSet.every", defArgs s_RangeSet_every, defBody s_RangeSet_every, defScope s_RangeSet_every, [], []⟩
structure Ev (K : PySem.W.Frag) : Prop where
  d_every : ∃ fd, FunD K "every" "RangeSet.every" (defArgs s_RangeSet_every) (defBody s_RangeSet_every) (defScope s_RangeSet_every) [] [] (He5.wf K (He.ga K "RangeSet") "staticmethod" "every") fd
  rd : PySem.W.readsIn K (He.ga K "RangeSet") (.type "type") = true
  wrap : He5.wrapB K (He.ga K "RangeSet") "staticmethod" "staticmethod.__get__" "every" = true
end Ax
namespace Ax
open PySem PySem.Spec L2
def nm0 : List PySem.Str := ["_wall", "AxisTicksError", "InvalidRule", "InvalidRange", "InvalidSet", "InvalidBase", "InvalidNumber", "InvalidFactor", "InvalidEnd", "is_whole", "is_base", "is_range", "check_base", "check_range", "check_at_least", "power_of", "divided_up", "common_divisor", "common_multiple", "scaled", "is_less", "may_fit", "surely_fits", "multiples_around", "is_fitting", "first_step", "least_of", "steps_at", "first_fitting", "taken_step"]
def nm1 : List PySem.Str := ["marks_of", "name_of", "Look", "Every", "Counted", "Taken", "compared", "Ratio", "Touched", "Joined", "Not", "different_rules", "top_of", "edges_of", "edges_between", "bands_of", "choices_at", "sizes_in", "fine_power", "lines_of", "cells_at_length", "lines_above", "cells_from_point", "cells_from_gap", "cells_of_band", "looks_of", "length_told", "has_length", "stretches_of", "told_lengths"]
def nm2 : List PySem.Str := ["parts_at", "whole_period", "edges_from", "pieces_at", "joined_pieces", "turned_pieces", "primes_of", "primes_in", "least_period", "are_mantissas", "are_fields", "Rule", "check_rule", "check_two_rules", "RangeSet", "rules_of", "joined_sets", "is_within", "is_over", "looks_in", "has_member", "member_spans", "values_at", "counted", "taken", "is_factor", "coarser", "touched", "_law_purse", "_law_draw"]
def nm3 : List PySem.Str := ["_law_pick", "_law_family", "_law_rule", "_law_made", "_law_times", "_law_places", "_law_is_fit", "_law_sizes", "_law_step", "_law_scaled", "_law_marks", "_law_atom", "_law_tree", "_law_set", "_law_atom_holds", "_law_holds", "_law_rules", "_law_divisor", "_law_is_sure", "_law_needed", "_law_common", "_law_starts", "_law_length", "_law_is_changed", "_law_right", "KINDS"]
def nms : List PySem.Str := nm0 ++ nm1 ++ nm2 ++ nm3
abbrev R : PySem.W.OpenRow := PySem.W.OpenLaw.row PySem.Challenge.rw_axisticks_k26_whole_shares_at_great_leng
def dd_is_whole : He.DefD := ⟨("is_whole", none), "is_whole", "is_whole", defArgs s_is_whole, defBody s_is_whole, defScope s_is_whole, [], []⟩
def dd_is_base : He.DefD := ⟨("is_base", none), "is_base", "is_base", defArgs s_is_base, defBody s_is_base, defScope s_is_base, [], []⟩
def dd_check_base : He.DefD := ⟨("check_base", none), "check_base", "check_base", defArgs s_check_base, defBody s_check_base, defScope s_check_base, [], []⟩
def dd_check_at_least : He.DefD := ⟨("check_at_least", none), "check_at_least", "check_at_least", defArgs s_check_at_least, defBody s_check_at_least, defScope s_check_at_least, [], []⟩
def dd_power_of : He.DefD := ⟨("power_of", none), "power_of", "power_of", defArgs s_power_of, defBody s_power_of, defScope s_power_of, [], []⟩
def dd_divided_up : He.DefD := ⟨("divided_up", none), "divided_up", "divided_up", defArgs s_divided_up, defBody s_divided_up, defScope s_divided_up, [], []⟩
def dd_common_divisor : He.DefD := ⟨("common_divisor", none), "common_divisor", "common_divisor", defArgs s_common_divisor, defBody s_common_divisor, defScope s_common_divisor, [], []⟩
def dd_common_multiple : He.DefD := ⟨("common_multiple", none), "common_multiple", "common_multiple", defArgs s_common_multiple, defBody s_common_multiple, defScope s_common_multiple, [], []⟩
def dd_scaled : He.DefD := ⟨("scaled", none), "scaled", "scaled", defArgs s_scaled, defBody s_scaled, defScope s_scaled, [], []⟩
def dd_is_less : He.DefD := ⟨("is_less", none), "is_less", "is_less", defArgs s_is_less, defBody s_is_less, defScope s_is_less, [], []⟩
def dd_may_fit : He.DefD := ⟨("may_fit", none), "may_fit", "may_fit", defArgs s_may_fit, defBody s_may_fit, defScope s_may_fit, [], []⟩
def dd_surely_fits : He.DefD := ⟨("surely_fits", none), "surely_fits", "surely_fits", defArgs s_surely_fits, defBody s_surely_fits, defScope s_surely_fits, [], []⟩
def dd_multiples_around : He.DefD := ⟨("multiples_around", none), "multiples_around", "multiples_around", defArgs s_multiples_around, defBody s_multiples_around, defScope s_multiples_around, [], []⟩
def dd_is_fitting : He.DefD := ⟨("is_fitting", none), "is_fitting", "is_fitting", defArgs s_is_fitting, defBody s_is_fitting, defScope s_is_fitting, [], []⟩
def dd_first_step : He.DefD := ⟨("first_step", none), "first_step", "first_step", defArgs s_first_step, defBody s_first_step, defScope s_first_step, [], []⟩
def dd_least_of : He.DefD := ⟨("least_of", none), "least_of", "least_of", defArgs s_least_of, defBody s_least_of, defScope s_least_of, [], []⟩
def dd_steps_at : He.DefD := ⟨("steps_at", none), "steps_at", "steps_at", defArgs s_steps_at, defBody s_steps_at, defScope s_steps_at, [], []⟩
def dd_first_fitting : He.DefD := ⟨("first_fitting", none), "first_fitting", "first_fitting", defArgs s_first_fitting, defBody s_first_fitting, defScope s_first_fitting, [], []⟩
def dd_marks_of : He.DefD := ⟨("marks_of", none), "marks_of", "marks_of", defArgs s_marks_of, defBody s_marks_of, defScope s_marks_of, [], []⟩
def dd_name_of : He.DefD := ⟨("name_of", none), "name_of", "name_of", defArgs s_name_of, defBody s_name_of, defScope s_name_of, [], []⟩
def dd_compared : He.DefD := ⟨("compared", none), "compared", "compared", defArgs s_compared, defBody s_compared, defScope s_compared, [], []⟩
def dd_different_rules : He.DefD := ⟨("different_rules", none), "different_rules", "different_rules", defArgs s_different_rules, defBody s_different_rules, defScope s_different_rules, [], []⟩
def dd_parts_at : He.DefD := ⟨("parts_at", none), "parts_at", "parts_at", defArgs s_parts_at, defBody s_parts_at, defScope s_parts_at, [], []⟩
def dd_whole_period : He.DefD := ⟨("whole_period", none), "whole_period", "whole_period", defArgs s_whole_period, defBody s_whole_period, defScope s_whole_period, [], []⟩
def dd_edges_from : He.DefD := ⟨("edges_from", none), "edges_from", "edges_from", defArgs s_edges_from, defBody s_edges_from, defScope s_edges_from, [], []⟩
def dd_pieces_at : He.DefD := ⟨("pieces_at", none), "pieces_at", "pieces_at", defArgs s_pieces_at, defBody s_pieces_at, defScope s_pieces_at, [], []⟩
def dd_joined_pieces : He.DefD := ⟨("joined_pieces", none), "joined_pieces", "joined_pieces", defArgs s_joined_pieces, defBody s_joined_pieces, defScope s_joined_pieces, [], []⟩
def dd_turned_pieces : He.DefD := ⟨("turned_pieces", none), "turned_pieces", "turned_pieces", defArgs s_turned_pieces, defBody s_turned_pieces, defScope s_turned_pieces, [], []⟩
def dd_primes_of : He.DefD := ⟨("primes_of", none), "primes_of", "primes_of", defArgs s_primes_of, defBody s_primes_of, defScope s_primes_of, [], []⟩
def dd_primes_in : He.DefD := ⟨("primes_in", none), "primes_in", "primes_in", defArgs s_primes_in, defBody s_primes_in, defScope s_primes_in, [], []⟩
def dd_least_period : He.DefD := ⟨("least_period", none), "least_period", "least_period", defArgs s_least_period, defBody s_least_period, defScope s_least_period, [], []⟩
def dd_are_mantissas : He.DefD := ⟨("are_mantissas", none), "are_mantissas", "are_mantissas", defArgs s_are_mantissas, defBody s_are_mantissas, defScope s_are_mantissas, [], []⟩
def dd_are_fields : He.DefD := ⟨("are_fields", none), "are_fields", "are_fields", defArgs s_are_fields, defBody s_are_fields, defScope s_are_fields, [], []⟩
def dd_check_rule : He.DefD := ⟨("check_rule", none), "check_rule", "check_rule", defArgs s_check_rule, defBody s_check_rule, defScope s_check_rule, [], []⟩
def dd_check_two_rules : He.DefD := ⟨("check_two_rules", none), "check_two_rules", "check_two_rules", defArgs s_check_two_rules, defBody s_check_two_rules, defScope s_check_two_rules, [], []⟩
def dd_rules_of : He.DefD := ⟨("rules_of", none), "rules_of", "rules_of", defArgs s_rules_of, defBody s_rules_of, defScope s_rules_of, [], []⟩
def dd_joined_sets : He.DefD := ⟨("joined_sets", none), "joined_sets", "joined_sets", defArgs s_joined_sets, defBody s_joined_sets, defScope s_joined_sets, [], []⟩
def dd_values_at : He.DefD := ⟨("values_at", none), "values_at", "values_at", defArgs s_values_at, defBody s_values_at, defScope s_values_at, [], []⟩
def dd_counted : He.DefD := ⟨("counted", none), "counted", "counted", defArgs s_counted, defBody s_counted, defScope s_counted, [.non], []⟩
def dd_taken : He.DefD := ⟨("taken", none), "taken", "taken", defArgs s_taken, defBody s_taken, defScope s_taken, [], []⟩
def dd_is_factor : He.DefD := ⟨("is_factor", none), "is_factor", "is_factor", defArgs s_is_factor, defBody s_is_factor, defScope s_is_factor, [], []⟩
def dd_coarser : He.DefD := ⟨("coarser", none), "coarser", "coarser", defArgs s_coarser, defBody s_coarser, defScope s_coarser, [.adr (He.dflAt ("coarser", none) 0)], []⟩
def dd_touched : He.DefD := ⟨("touched", none), "touched", "touched", defArgs s_touched, defBody s_touched, defScope s_touched, [], []⟩
def dd_law_purse : He.DefD := ⟨("_law_purse", none), "_law_purse", "_law_purse", defArgs s_law_purse, defBody s_law_purse, defScope s_law_purse, [], []⟩
def dd_law_draw : He.DefD := ⟨("_law_draw", none), "_law_draw", "_law_draw", defArgs s_law_draw, defBody s_law_draw, defScope s_law_draw, [], []⟩
def dd_law_pick : He.DefD := ⟨("_law_pick", none), "_law_pick", "_law_pick", defArgs s_law_pick, defBody s_law_pick, defScope s_law_pick, [], []⟩
def dd_law_family : He.DefD := ⟨("_law_family", none), "_law_family", "_law_family", defArgs s_law_family, defBody s_law_family, defScope s_law_family, [], []⟩
def dd_law_rule : He.DefD := ⟨("_law_rule", none), "_law_rule", "_law_rule", defArgs s_law_rule, defBody s_law_rule, defScope s_law_rule, [], []⟩
def dd_law_made : He.DefD := ⟨("_law_made", none), "_law_made", "_law_made", defArgs s_law_made, defBody s_law_made, defScope s_law_made, [], []⟩
def dd_law_times : He.DefD := ⟨("_law_times", none), "_law_times", "_law_times", defArgs s_law_times, defBody s_law_times, defScope s_law_times, [], []⟩
def dd_law_places : He.DefD := ⟨("_law_places", none), "_law_places", "_law_places", defArgs s_law_places, defBody s_law_places, defScope s_law_places, [], []⟩
def dd_law_is_fit : He.DefD := ⟨("_law_is_fit", none), "_law_is_fit", "_law_is_fit", defArgs s_law_is_fit, defBody s_law_is_fit, defScope s_law_is_fit, [], []⟩
def dd_law_sizes : He.DefD := ⟨("_law_sizes", none), "_law_sizes", "_law_sizes", defArgs s_law_sizes, defBody s_law_sizes, defScope s_law_sizes, [], []⟩
def dd_law_step : He.DefD := ⟨("_law_step", none), "_law_step", "_law_step", defArgs s_law_step, defBody s_law_step, defScope s_law_step, [], []⟩
def dd_law_scaled : He.DefD := ⟨("_law_scaled", none), "_law_scaled", "_law_scaled", defArgs s_law_scaled, defBody s_law_scaled, defScope s_law_scaled, [], []⟩
def dd_law_marks : He.DefD := ⟨("_law_marks", none), "_law_marks", "_law_marks", defArgs s_law_marks, defBody s_law_marks, defScope s_law_marks, [], []⟩
def dd_law_atom : He.DefD := ⟨("_law_atom", none), "_law_atom", "_law_atom", defArgs s_law_atom, defBody s_law_atom, defScope s_law_atom, [], []⟩
def dd_law_tree : He.DefD := ⟨("_law_tree", none), "_law_tree", "_law_tree", defArgs s_law_tree, defBody s_law_tree, defScope s_law_tree, [], []⟩
def dd_law_set : He.DefD := ⟨("_law_set", none), "_law_set", "_law_set", defArgs s_law_set, defBody s_law_set, defScope s_law_set, [], []⟩
def dd_law_atom_holds : He.DefD := ⟨("_law_atom_holds", none), "_law_atom_holds", "_law_atom_holds", defArgs s_law_atom_holds, defBody s_law_atom_holds, defScope s_law_atom_holds, [], []⟩
def dd_law_holds : He.DefD := ⟨("_law_holds", none), "_law_holds", "_law_holds", defArgs s_law_holds, defBody s_law_holds, defScope s_law_holds, [], []⟩
def dd_law_rules : He.DefD := ⟨("_law_rules", none), "_law_rules", "_law_rules", defArgs s_law_rules, defBody s_law_rules, defScope s_law_rules, [], []⟩
def dd_law_divisor : He.DefD := ⟨("_law_divisor", none), "_law_divisor", "_law_divisor", defArgs s_law_divisor, defBody s_law_divisor, defScope s_law_divisor, [], []⟩
def dd_law_is_sure : He.DefD := ⟨("_law_is_sure", none), "_law_is_sure", "_law_is_sure", defArgs s_law_is_sure, defBody s_law_is_sure, defScope s_law_is_sure, [], []⟩
def dd_law_needed : He.DefD := ⟨("_law_needed", none), "_law_needed", "_law_needed", defArgs s_law_needed, defBody s_law_needed, defScope s_law_needed, [], []⟩
def dd_law_common : He.DefD := ⟨("_law_common", none), "_law_common", "_law_common", defArgs s_law_common, defBody s_law_common, defScope s_law_common, [], []⟩
def dd_law_starts : He.DefD := ⟨("_law_starts", none), "_law_starts", "_law_starts", defArgs s_law_starts, defBody s_law_starts, defScope s_law_starts, [], []⟩
def dd_law_length : He.DefD := ⟨("_law_length", none), "_law_length", "_law_length", defArgs s_law_length, defBody s_law_length, defScope s_law_length, [], []⟩
def dd_law_is_changed : He.DefD := ⟨("_law_is_changed", none), "_law_is_changed", "_law_is_changed", defArgs s_law_is_changed, defBody s_law_is_changed, defScope s_law_is_changed, [], []⟩
def dd_law_right : He.DefD := ⟨("_law_right", none), "_law_right", "_law_right", defArgs s_law_right, defBody s_law_right, defScope s_law_right, [], []⟩
def dd_law : He.DefD := ⟨("law", none), "law", "law", defArgs s_law, defBody s_law, defScope s_law, [], []⟩
def dd_Look_init : He.DefD := ⟨("Look", some "__init__"), "__init__", "Look.__init__", defArgs s_Look_init, defBody s_Look_init, defScope s_Look_init, [], []⟩
def dd_Look_taken_by : He.DefD := ⟨("Look", some "taken_by"), "taken_by", "Look.taken_by", defArgs s_Look_taken_by, defBody s_Look_taken_by, defScope s_Look_taken_by, [], []⟩
def dd_Every_rules : He.DefD := ⟨("Every", some "rules"), "rules", "Every.rules", defArgs s_Every_rules, defBody s_Every_rules, defScope s_Every_rules, [], []⟩
def dd_Every_holds : He.DefD := ⟨("Every", some "holds"), "holds", "Every.holds", defArgs s_Every_holds, defBody s_Every_holds, defScope s_Every_holds, [], []⟩
def dd_Counted_init : He.DefD := ⟨("Counted", some "__init__"), "__init__", "Counted.__init__", defArgs s_Counted_init, defBody s_Counted_init, defScope s_Counted_init, [], []⟩
def dd_Counted_rules : He.DefD := ⟨("Counted", some "rules"), "rules", "Counted.rules", defArgs s_Counted_rules, defBody s_Counted_rules, defScope s_Counted_rules, [], []⟩
def dd_Counted_holds : He.DefD := ⟨("Counted", some "holds"), "holds", "Counted.holds", defArgs s_Counted_holds, defBody s_Counted_holds, defScope s_Counted_holds, [], []⟩
def dd_Taken_init : He.DefD := ⟨("Taken", some "__init__"), "__init__", "Taken.__init__", defArgs s_Taken_init, defBody s_Taken_init, defScope s_Taken_init, [], []⟩
def dd_Taken_rules : He.DefD := ⟨("Taken", some "rules"), "rules", "Taken.rules", defArgs s_Taken_rules, defBody s_Taken_rules, defScope s_Taken_rules, [], []⟩
def dd_Taken_holds : He.DefD := ⟨("Taken", some "holds"), "holds", "Taken.holds", defArgs s_Taken_holds, defBody s_Taken_holds, defScope s_Taken_holds, [], []⟩
def dd_Ratio_init : He.DefD := ⟨("Ratio", some "__init__"), "__init__", "Ratio.__init__", defArgs s_Ratio_init, defBody s_Ratio_init, defScope s_Ratio_init, [], []⟩
def dd_Ratio_rules : He.DefD := ⟨("Ratio", some "rules"), "rules", "Ratio.rules", defArgs s_Ratio_rules, defBody s_Ratio_rules, defScope s_Ratio_rules, [], []⟩
def dd_Ratio_holds : He.DefD := ⟨("Ratio", some "holds"), "holds", "Ratio.holds", defArgs s_Ratio_holds, defBody s_Ratio_holds, defScope s_Ratio_holds, [], []⟩
def dd_Touched_init : He.DefD := ⟨("Touched", some "__init__"), "__init__", "Touched.__init__", defArgs s_Touched_init, defBody s_Touched_init, defScope s_Touched_init, [], []⟩
def dd_Touched_rules : He.DefD := ⟨("Touched", some "rules"), "rules", "Touched.rules", defArgs s_Touched_rules, defBody s_Touched_rules, defScope s_Touched_rules, [], []⟩
def dd_Touched_holds : He.DefD := ⟨("Touched", some "holds"), "holds", "Touched.holds", defArgs s_Touched_holds, defBody s_Touched_holds, defScope s_Touched_holds, [], []⟩
def dd_Joined_init : He.DefD := ⟨("Joined", some "__init__"), "__init__", "Joined.__init__", defArgs s_Joined_init, defBody s_Joined_init, defScope s_Joined_init, [], []⟩
def dd_Joined_rules : He.DefD := ⟨("Joined", some "rules"), "rules", "Joined.rules", defArgs s_Joined_rules, defBody s_Joined_rules, defScope s_Joined_rules, [], []⟩
def dd_Joined_holds : He.DefD := ⟨("Joined", some "holds"), "holds", "Joined.holds", defArgs s_Joined_holds, defBody s_Joined_holds, defScope s_Joined_holds, [], []⟩
def dd_Not_init : He.DefD := ⟨("Not", some "__init__"), "__init__", "Not.__init__", defArgs s_Not_init, defBody s_Not_init, defScope s_Not_init, [], []⟩
def dd_Not_rules : He.DefD := ⟨("Not", some "rules"), "rules", "Not.rules", defArgs s_Not_rules, defBody s_Not_rules, defScope s_Not_rules, [], []⟩
def dd_Not_holds : He.DefD := ⟨("Not", some "holds"), "holds", "Not.holds", defArgs s_Not_holds, defBody s_Not_holds, defScope s_Not_holds, [], []⟩
def dd_Rule_init : He.DefD := ⟨("Rule", some "__init__"), "__init__", "Rule.__init__", defArgs s_Rule_init, defBody s_Rule_init, defScope s_Rule_init, [], []⟩
def dd_Rule_eq : He.DefD := ⟨("Rule", some "__eq__"), "__eq__", "Rule.__eq__", defArgs s_Rule_eq, defBody s_Rule_eq, defScope s_Rule_eq, [], []⟩
def dd_RangeSet_init : He.DefD := ⟨("RangeSet", some "__init__"), "__init__", "RangeSet.__init__", defArgs s_RangeSet_init, defBody s_RangeSet_init, defScope s_RangeSet_init, [], []⟩
def dd_RangeSet_and : He.DefD := ⟨("RangeSet", some "__and__"), "__and__", "RangeSet.__and__", defArgs s_RangeSet_and, defBody s_RangeSet_and, defScope s_RangeSet_and, [], []⟩
def dd_RangeSet_or : He.DefD := ⟨("RangeSet", some "__or__"), "__or__", "RangeSet.__or__", defArgs s_RangeSet_or, defBody s_RangeSet_or, defScope s_RangeSet_or, [], []⟩
def dd_RangeSet_sub : He.DefD := ⟨("RangeSet", some "__sub__"), "__sub__", "RangeSet.__sub__", defArgs s_RangeSet_sub, defBody s_RangeSet_sub, defScope s_RangeSet_sub, [], []⟩
def dd_RangeSet_xor : He.DefD := ⟨("RangeSet", some "__xor__"), "__xor__", "RangeSet.__xor__", defArgs s_RangeSet_xor, defBody s_RangeSet_xor, defScope s_RangeSet_xor, [], []⟩
def dd_RangeSet_invert : He.DefD := ⟨("RangeSet", some "__invert__"), "__invert__", "RangeSet.__invert__", defArgs s_RangeSet_invert, defBody s_RangeSet_invert, defScope s_RangeSet_invert, [], []⟩
def dd_RangeSet_share : He.DefD := ⟨("RangeSet", some "share"), "share", "RangeSet.share", defArgs s_RangeSet_share, defBody s_RangeSet_share, defScope s_RangeSet_share, [], []⟩
def fn0 : List He.DefD := [dd_is_whole, dd_is_base, dd_check_base, dd_check_at_least, dd_power_of, dd_divided_up, dd_common_divisor, dd_common_multiple, dd_scaled, dd_is_less, dd_may_fit, dd_surely_fits, dd_multiples_around, dd_is_fitting, dd_first_step, dd_least_of, dd_steps_at, dd_first_fitting, dd_marks_of, dd_name_of]
def fn1 : List He.DefD := [dd_compared, dd_different_rules, dd_parts_at, dd_whole_period, dd_edges_from, dd_pieces_at, dd_joined_pieces, dd_turned_pieces, dd_primes_of, dd_primes_in, dd_least_period, dd_are_mantissas, dd_are_fields, dd_check_rule, dd_check_two_rules, dd_rules_of, dd_joined_sets, dd_values_at, dd_counted, dd_taken]
def fn2 : List He.DefD := [dd_is_factor, dd_coarser, dd_touched, dd_law_purse, dd_law_draw, dd_law_pick, dd_law_family, dd_law_rule, dd_law_made, dd_law_times, dd_law_places, dd_law_is_fit, dd_law_sizes, dd_law_step, dd_law_scaled, dd_law_marks, dd_law_atom, dd_law_tree, dd_law_set, dd_law_atom_holds]
def fn3 : List He.DefD := [dd_law_holds, dd_law_rules, dd_law_divisor, dd_law_is_sure, dd_law_needed, dd_law_common, dd_law_starts, dd_law_length, dd_law_is_changed, dd_law_right, dd_law, dd_Look_init, dd_Look_taken_by, dd_Every_rules, dd_Every_holds, dd_Counted_init, dd_Counted_rules, dd_Counted_holds, dd_Taken_init, dd_Taken_rules]
def fn4 : List He.DefD := [dd_Taken_holds, dd_Ratio_init, dd_Ratio_rules, dd_Ratio_holds, dd_Touched_init, dd_Touched_rules, dd_Touched_holds, dd_Joined_init, dd_Joined_rules, dd_Joined_holds, dd_Not_init, dd_Not_rules, dd_Not_holds, dd_Rule_init, dd_Rule_eq, dd_RangeSet_init, dd_RangeSet_and, dd_RangeSet_or, dd_RangeSet_sub, dd_RangeSet_xor]
def fn5 : List He.DefD := [dd_RangeSet_invert, dd_RangeSet_share]
def fn : List He.DefD := fn0 ++ fn1 ++ fn2 ++ fn3 ++ fn4 ++ fn5
def fa0 : List He.Fa := [.glo "is_whole", .glo "is_base", .glo "check_base", .glo "check_at_least", .glo "power_of", .glo "divided_up", .glo "common_divisor", .glo "common_multiple", .glo "scaled", .glo "is_less", .glo "may_fit", .glo "surely_fits", .glo "multiples_around", .glo "is_fitting", .glo "first_step", .glo "least_of", .glo "steps_at", .glo "first_fitting", .glo "marks_of", .glo "name_of", .glo "compared", .glo "different_rules", .glo "parts_at", .glo "whole_period", .glo "edges_from"]
def fa1 : List He.Fa := [.glo "pieces_at", .glo "joined_pieces", .glo "turned_pieces", .glo "primes_of", .glo "primes_in", .glo "least_period", .glo "are_mantissas", .glo "are_fields", .glo "check_rule", .glo "check_two_rules", .glo "rules_of", .glo "joined_sets", .glo "values_at", .glo "counted", .glo "taken", .glo "is_factor", .glo "coarser", .glo "touched", .glo "_law_purse", .glo "_law_draw", .glo "_law_pick", .glo "_law_family", .glo "_law_rule", .glo "_law_made", .glo "_law_times"]
def fa2 : List He.Fa := [.glo "_law_places", .glo "_law_is_fit", .glo "_law_sizes", .glo "_law_step", .glo "_law_scaled", .glo "_law_marks", .glo "_law_atom", .glo "_law_tree", .glo "_law_set", .glo "_law_atom_holds", .glo "_law_holds", .glo "_law_rules", .glo "_law_divisor", .glo "_law_is_sure", .glo "_law_needed", .glo "_law_common", .glo "_law_starts", .glo "_law_length", .glo "_law_is_changed", .glo "_law_right", .glo "law", .glo "Look", .glo "Every", .glo "Counted", .glo "Taken"]
def fa3 : List He.Fa := [.glo "Ratio", .glo "Touched", .glo "Joined", .glo "Not", .glo "Rule", .glo "RangeSet", .free "int", .free "len", .free "isinstance", .free "range", .free "zip", .free "list", .free "tuple", .free "sorted", .free "set", .free "max", .free "min", .free "sum", .free "str", .free "bool", .cls "Look", .cls "Every", .cls "Counted", .cls "Taken", .cls "Ratio"]
def fa4 : List He.Fa := [.cls "Touched", .cls "Joined", .cls "Not", .cls "Rule", .cls "RangeSet", .noat "Look" "low", .noat "Look" "high", .noat "Look" "known", .noat "Counted" "rule", .noat "Counted" "fewest", .noat "Counted" "greatest", .noat "Taken" "rule", .noat "Taken" "mantissa", .noat "Ratio" "one", .noat "Ratio" "other", .noat "Ratio" "times", .noat "Ratio" "is_more", .noat "Touched" "rule", .noat "Touched" "is_low", .noat "Joined" "word", .noat "Joined" "one", .noat "Joined" "other", .noat "Not" "one", .noat "Rule" "ground", .noat "Rule" "way"]
def fa5 : List He.Fa := [.noat "Rule" "heads", .noat "Rule" "limit", .noat "RangeSet" "ground", .noat "RangeSet" "statement", .meth "Look" "taken_by", .meth "Every" "rules", .meth "Every" "holds", .meth "Counted" "rules", .meth "Counted" "holds", .meth "Taken" "rules", .meth "Taken" "holds", .meth "Ratio" "rules", .meth "Ratio" "holds", .meth "Touched" "rules", .meth "Touched" "holds", .meth "Joined" "rules", .meth "Joined" "holds", .meth "Not" "rules", .meth "Not" "holds", .meth "Rule" "__eq__", .meth "RangeSet" "__and__", .meth "RangeSet" "__or__", .meth "RangeSet" "__sub__", .meth "RangeSet" "__xor__", .meth "RangeSet" "__invert__"]
def fa6 : List He.Fa := [.meth "RangeSet" "share", .mkr "Look", .mkr "Counted", .mkr "Taken", .mkr "Ratio", .mkr "Touched", .mkr "Joined", .mkr "Not", .mkr "Rule", .mkr "RangeSet", .glo "KINDS", .keep "Every"]
def faA : List He.Fa := fa0 ++ fa1 ++ fa2
def faB : List He.Fa := fa3 ++ fa4 ++ fa5 ++ fa6
def fa : List He.Fa := faA ++ faB
def insB (K : PySem.W.Frag) (c : Str) : Bool := He.eqO (PySem.W.findIn K (.ref (He.ga K c)) "__class__") (some (some (.builtin "object.__class__"))) && (He.eqO (PySem.W.specialIn K (.builtin "object.__class__") "__get__") (some (some (.builtin "getset_descriptor.__get__"))) &&
  (decide (PySem.W.takesIn K (.builtin "object.__class__") = some true) && (decide (PySem.W.mroIn K (He.ga K c) (.type "object") = some true) && decide (PySem.W.kitOne K (.ref (He.ga K c)) (.ref (He.ga K c)) = some true))))
def exB (K : PySem.W.Frag) : Bool := insB K "Rule" && (insB K "RangeSet" && (PySem.W.selfFirst K (He.ga K "RangeSet") && (PySem.W.selfFirst K (He.ga K "Rule") && (PySem.W.makesIn K (He.ga K "Every") &&
  (He.eqO (PySem.W.findIn K (.ref (He.ga K "Every")) "__init__") (some (some (.builtin "object.__init__"))) && (PySem.W.readsIn K (He.ga K "RangeSet") (.type "type") && (He5.wrapB K (He.ga K "RangeSet") "staticmethod" "staticmethod.__get__" "every" && He.tupB K "KINDS" [.str "inside", .str "cover", .str "length"])))))))
/-- what the globals name, and what the classes hold; no address twice by intent -/
def refVs (o : Obj) : List Addr := match o.data with
  | .dict es _ => es.toList.flatMap fun e => He.refV e.val
  | .fields vs => vs.toList.flatMap He.refV
  | _ => []
def fnRefs (g : Addr → Option Obj) (a : Addr) : List Addr := match g a with
  | some ⟨_, _, .func fd, _⟩ => a :: (He.refV fd.code ++ He.refV fd.defaults)
  | some ⟨_, _, .fields vs, _⟩ => a :: vs.toList.flatMap fun v => match v with
    | .ref b => (match g b with
      | some ⟨_, _, .func fd, _⟩ => b :: He.refV fd.code
      | _ => [])
    | _ => []
  | _ => [a]
def clRefs (g : Addr → Option Obj) (a : Addr) : List Addr := match g a with
  | some ⟨_, _, .cls cd, _⟩ => a :: cd.ns :: (match g cd.ns with
    | some o => (refVs o).flatMap (fnRefs g)
    | none => [])
  | _ => fnRefs g a
def asY (g : Addr → Option Obj) : List Addr := PySem.cStatics :: mainGlobals :: (match g mainGlobals with
  | some o => (refVs o).flatMap (clRefs g)
  | none => [])
def kY (g : Addr → Option Obj) : PySem.W.Frag := He.frG g (asY g)
def ob0 (g : Addr → Option Obj) : Bool := exB (kY g)
def obE (K : PySem.W.Frag) : He.FnW × Bool := (He5.fnA K (dEv.at_ K), dEv.ok K)
def ob1 (g : Addr → Option Obj) : (List He.FnW × Bool) × (He.FnW × Bool) := ((fn.map fun d => He.fnW (kY g) d.at_, fn.all fun d => d.ok (kY g)), obE (kY g))
def ob2 (g : Addr → Option Obj) : Bool := faA.all fun f => f.ok (kY g)
def ob3 (g : Addr → Option Obj) : Bool := faB.all fun f => f.ok (kY g)
abbrev AlY : Type := Bool × ((List He.FnW × Bool) × (He.FnW × Bool)) × Bool × Bool
def obY (g : Addr → Option Obj) : AlY := (ob0 g, ob1 g, ob2 g, ob3 g)
def valY : AlY := (true, ((fn.map He.DefD.val, true), (dEv.val, true)), true, true)
theorem saysD_of {K : PySem.W.Frag} (h1 : (fn.map fun d => He.fnW K d.at_, fn.all fun d => d.ok K) = (fn.map He.DefD.val, true)) (h2 : (faA.all fun f => f.ok K) = true) (h3 : (faB.all fun f => f.ok K) = true) : He.SaysD fa fn K := by
  show ((fa.all fun f => f.ok K) && (fn.all fun d => d.ok K), fn.map fun d => He.fnW K d.at_) = (true, fn.map He.DefD.val)
  have e1 : (fn.map fun d => He.fnW K d.at_) = fn.map He.DefD.val := congrArg Prod.fst h1
  have e2 : (fn.all fun d => d.ok K) = true := congrArg Prod.snd h1
  have e3 : (fa.all fun f => f.ok K) = true := by
    show ((faA ++ faB).all fun f => f.ok K) = true
    rw [List.all_append, h2, h3]
    rfl
  rw [e1, e2, e3]
  rfl
def hk : PySem.W.Hook where
  α := AlY
  obs := fun s => obY s.heap.get?
  val := fun _ => valY
  says := fun _ h => ∃ K : PySem.W.Frag, K.In h ∧ He.SaysD fa fn K ∧ exB K = true ∧ obE K = (dEv.val, true)
  of := fun _ _ e => ⟨_, He.frG_in, saysD_of (congrArg (fun z : AlY => z.2.1.1) e) (congrArg (fun z : AlY => z.2.2.1) e) (congrArg (fun z : AlY => z.2.2.2) e), congrArg (fun z : AlY => z.1) e, congrArg (fun z : AlY => z.2.1.2) e⟩
  keeps := fun _ _ _ ⟨K, hK, c⟩ k => ⟨K, PySem.W.Frag.In.keeps hK k, c⟩
def ob (s : PySem.W.SharedT) : AlY := obY (HandSHeadRun.getT s)
theorem ob_eq (s : PySem.W.SharedT) : ob s = hk.obs s.abs := by
  have e : HandSHeadRun.getT s = s.abs.heap.get? := funext (HandSHeadRun.getT_eq s)
  show obY (HandSHeadRun.getT s) = obY s.abs.heap.get?
  rw [e]
noncomputable def endR (w : World) (os : OsState) : Option PySem.W.SharedT := HandSHeadRun.endF (HandSHeadRun.stepQ (HandSHeadRun.denQ HandSHeadRun.tabQ) R.prog w) 30000 R.prog w os
theorem run0 (w : World) (os : OsState) : (endR w os).map (fun s => HandSHeadRun.looksF R.prog (PySem.W.boot_heap w.params) s.abs) = some true := by
  kernel_rfl
theorem run4 (w : World) (os : OsState) : (endR w os).map (fun s => (HandSHeadRun.seenQ (PySem.W.view R.prog [126]) nms (importedModules R.prog.main.body) (fun s => PySem.W.xlAt (PySem.W.view R.prog [126]) [] s && PySem.W.recOk R.toRowW.records s) s.abs, ob0 (HandSHeadRun.getT s))) = some (PySem.W.openGood (PySem.W.view R.prog [126]) nms, true) := by
  kernel_rfl
/-- the defs, in two halves -/
def fnH : List He.DefD := fn.take 36
def fnT : List He.DefD := fn.drop 36
theorem fn_cut : fn = fnH ++ fnT := (List.take_append_drop 36 fn).symm
theorem run1 (w : World) (os : OsState) : (endR w os).map (fun s => (fnH.map fun d => He.fnW (kY (HandSHeadRun.getT s)) d.at_, fnH.all fun d => d.ok (kY (HandSHeadRun.getT s)))) = some (fnH.map He.DefD.val, true) := by
  kernel_rfl
theorem run5 (w : World) (os : OsState) : (endR w os).map (fun s => ((fnT.map fun d => He.fnW (kY (HandSHeadRun.getT s)) d.at_, fnT.all fun d => d.ok (kY (HandSHeadRun.getT s))), obE (kY (HandSHeadRun.getT s)))) = some ((fnT.map He.DefD.val, true), (dEv.val, true)) := by
  kernel_rfl
theorem run2 (w : World) (os : OsState) : (endR w os).map (fun s => ob2 (HandSHeadRun.getT s)) = some true := by
  kernel_rfl
theorem run3 (w : World) (os : OsState) : (endR w os).map (fun s => ob3 (HandSHeadRun.getT s)) = some true := by
  kernel_rfl

end Ax
namespace Ax
open PySem PySem.Spec L2
theorem run (w : World) : HandSHeadRun.RunEq R (PySem.W.view R.prog [126]) hk ob 30000 nms w := by
  intro os
  obtain ⟨s, e, a1⟩ := Option.map_eq_some_iff.mp (run0 w os)
  have h0 := run4 w os
  have hA := run1 w os
  have hB := run5 w os
  have h2 := run2 w os
  have h3 := run3 w os
  rw [e] at h0 hA hB h2 h3
  have h0 := Option.some.inj h0
  have hA := Option.some.inj hA
  have hB := Option.some.inj hB
  have h1 : ob1 (HandSHeadRun.getT s) = ((fn.map He.DefD.val, true), (dEv.val, true)) := by
    have b1 : (fnT.map fun d => He.fnW (kY (HandSHeadRun.getT s)) d.at_, fnT.all fun d => d.ok (kY (HandSHeadRun.getT s))) = (fnT.map He.DefD.val, true) := congrArg (fun z => z.1) hB
    have b2 : obE (kY (HandSHeadRun.getT s)) = (dEv.val, true) := congrArg (fun z => z.2) hB
    have m1 : (fnH.map fun d => He.fnW (kY (HandSHeadRun.getT s)) d.at_) = fnH.map He.DefD.val := congrArg Prod.fst hA
    have m2 : (fnH.all fun d => d.ok (kY (HandSHeadRun.getT s))) = true := congrArg Prod.snd hA
    have m3 : (fnT.map fun d => He.fnW (kY (HandSHeadRun.getT s)) d.at_) = fnT.map He.DefD.val := congrArg Prod.fst b1
    have m4 : (fnT.all fun d => d.ok (kY (HandSHeadRun.getT s))) = true := congrArg Prod.snd b1
    show ((fn.map fun d => He.fnW (kY (HandSHeadRun.getT s)) d.at_, fn.all fun d => d.ok (kY (HandSHeadRun.getT s))), obE (kY (HandSHeadRun.getT s))) = _
    rw [b2, fn_cut, List.map_append, List.all_append, List.map_append, m1, m2, m3, m4]
    rfl
  have h2 : ob2 (HandSHeadRun.getT s) = _ := Option.some.inj h2
  have h3 : ob3 (HandSHeadRun.getT s) = _ := Option.some.inj h3
  have e : HandSHeadRun.endF (HandSHeadRun.stepQ (HandSHeadRun.denQ HandSHeadRun.tabQ) R.prog w) 30000 R.prog w os = some s := e
  rw [e]
  have a2 := congrArg (fun z => z.1) h0
  have a3 : ob0 (HandSHeadRun.getT s) = true := congrArg (fun z => z.2) h0
  refine congrArg some (Prod.ext a1 (Prod.ext a2 ?_))
  show (ob0 (HandSHeadRun.getT s), ob1 (HandSHeadRun.getT s), ob2 (HandSHeadRun.getT s), ob3 (HandSHeadRun.getT s)) = valY
  rw [a3, h1, h2, h3]
  rfl
theorem insB_ok {K : PySem.W.Frag} {c : Str} (cl : Cls K (He.ga K c)) (h : insB K c = true) : C8.InsC K (He.ga K c) := by
  obtain ⟨h1, h⟩ := He.ba h
  obtain ⟨h2, h⟩ := He.ba h
  obtain ⟨h3, h⟩ := He.ba h
  obtain ⟨h4, h5⟩ := He.ba h
  exact ⟨cl, He.eqO_ok h1, He.eqO_ok h2, of_decide_eq_true h3, of_decide_eq_true h4, of_decide_eq_true h5⟩
theorem tp_of {w : World} {K : PySem.W.Frag} {h : Heap} {mg : Str → Option Value} (X : K.In h) (G : h.Ns mainGlobals mg) (cd : He.SaysD fa fn K) (ex : exB K = true) : Tp K mg := by
  obtain ⟨x1, ex⟩ := He.ba ex
  obtain ⟨x2, ex⟩ := He.ba ex
  obtain ⟨x3, ex⟩ := He.ba ex
  obtain ⟨x4, ex⟩ := He.ba ex
  obtain ⟨x5, ex⟩ := He.ba ex
  obtain ⟨x6, ex⟩ := He.ba ex
  obtain ⟨x8, ex⟩ := He.ba ex
  obtain ⟨x9, x7⟩ := He.ba ex
  exact {
    d_is_whole := cd.def_ 0 (d := dd_is_whole) rfl
    d_is_base := cd.def_ 1 (d := dd_is_base) rfl
    d_check_base := cd.def_ 2 (d := dd_check_base) rfl
    d_check_at_least := cd.def_ 3 (d := dd_check_at_least) rfl
    d_power_of := cd.def_ 4 (d := dd_power_of) rfl
    d_divided_up := cd.def_ 5 (d := dd_divided_up) rfl
    d_common_divisor := cd.def_ 6 (d := dd_common_divisor) rfl
    d_common_multiple := cd.def_ 7 (d := dd_common_multiple) rfl
    d_scaled := cd.def_ 8 (d := dd_scaled) rfl
    d_is_less := cd.def_ 9 (d := dd_is_less) rfl
    d_may_fit := cd.def_ 10 (d := dd_may_fit) rfl
    d_surely_fits := cd.def_ 11 (d := dd_surely_fits) rfl
    d_multiples_around := cd.def_ 12 (d := dd_multiples_around) rfl
    d_is_fitting := cd.def_ 13 (d := dd_is_fitting) rfl
    d_first_step := cd.def_ 14 (d := dd_first_step) rfl
    d_least_of := cd.def_ 15 (d := dd_least_of) rfl
    d_steps_at := cd.def_ 16 (d := dd_steps_at) rfl
    d_first_fitting := cd.def_ 17 (d := dd_first_fitting) rfl
    d_marks_of := cd.def_ 18 (d := dd_marks_of) rfl
    d_name_of := cd.def_ 19 (d := dd_name_of) rfl
    d_compared := cd.def_ 20 (d := dd_compared) rfl
    d_different_rules := cd.def_ 21 (d := dd_different_rules) rfl
    d_parts_at := cd.def_ 22 (d := dd_parts_at) rfl
    d_whole_period := cd.def_ 23 (d := dd_whole_period) rfl
    d_edges_from := cd.def_ 24 (d := dd_edges_from) rfl
    d_pieces_at := cd.def_ 25 (d := dd_pieces_at) rfl
    d_joined_pieces := cd.def_ 26 (d := dd_joined_pieces) rfl
    d_turned_pieces := cd.def_ 27 (d := dd_turned_pieces) rfl
    d_primes_of := cd.def_ 28 (d := dd_primes_of) rfl
    d_primes_in := cd.def_ 29 (d := dd_primes_in) rfl
    d_least_period := cd.def_ 30 (d := dd_least_period) rfl
    d_are_mantissas := cd.def_ 31 (d := dd_are_mantissas) rfl
    d_are_fields := cd.def_ 32 (d := dd_are_fields) rfl
    d_check_rule := cd.def_ 33 (d := dd_check_rule) rfl
    d_check_two_rules := cd.def_ 34 (d := dd_check_two_rules) rfl
    d_rules_of := cd.def_ 35 (d := dd_rules_of) rfl
    d_joined_sets := cd.def_ 36 (d := dd_joined_sets) rfl
    d_values_at := cd.def_ 37 (d := dd_values_at) rfl
    d_counted := cd.def_ 38 (d := dd_counted) rfl
    d_taken := cd.def_ 39 (d := dd_taken) rfl
    d_is_factor := cd.def_ 40 (d := dd_is_factor) rfl
    d_coarser := cd.def_ 41 (d := dd_coarser) rfl
    d_touched := cd.def_ 42 (d := dd_touched) rfl
    d_law_purse := cd.def_ 43 (d := dd_law_purse) rfl
    d_law_draw := cd.def_ 44 (d := dd_law_draw) rfl
    d_law_pick := cd.def_ 45 (d := dd_law_pick) rfl
    d_law_family := cd.def_ 46 (d := dd_law_family) rfl
    d_law_rule := cd.def_ 47 (d := dd_law_rule) rfl
    d_law_made := cd.def_ 48 (d := dd_law_made) rfl
    d_law_times := cd.def_ 49 (d := dd_law_times) rfl
    d_law_places := cd.def_ 50 (d := dd_law_places) rfl
    d_law_is_fit := cd.def_ 51 (d := dd_law_is_fit) rfl
    d_law_sizes := cd.def_ 52 (d := dd_law_sizes) rfl
    d_law_step := cd.def_ 53 (d := dd_law_step) rfl
    d_law_scaled := cd.def_ 54 (d := dd_law_scaled) rfl
    d_law_marks := cd.def_ 55 (d := dd_law_marks) rfl
    d_law_atom := cd.def_ 56 (d := dd_law_atom) rfl
    d_law_tree := cd.def_ 57 (d := dd_law_tree) rfl
    d_law_set := cd.def_ 58 (d := dd_law_set) rfl
    d_law_atom_holds := cd.def_ 59 (d := dd_law_atom_holds) rfl
    d_law_holds := cd.def_ 60 (d := dd_law_holds) rfl
    d_law_rules := cd.def_ 61 (d := dd_law_rules) rfl
    d_law_divisor := cd.def_ 62 (d := dd_law_divisor) rfl
    d_law_is_sure := cd.def_ 63 (d := dd_law_is_sure) rfl
    d_law_needed := cd.def_ 64 (d := dd_law_needed) rfl
    d_law_common := cd.def_ 65 (d := dd_law_common) rfl
    d_law_starts := cd.def_ 66 (d := dd_law_starts) rfl
    d_law_length := cd.def_ 67 (d := dd_law_length) rfl
    d_law_is_changed := cd.def_ 68 (d := dd_law_is_changed) rfl
    d_law_right := cd.def_ 69 (d := dd_law_right) rfl
    d_law := cd.def_ 70 (d := dd_law) rfl
    d_Look_init := cd.def_ 71 (d := dd_Look_init) rfl
    d_Look_taken_by := cd.def_ 72 (d := dd_Look_taken_by) rfl
    d_Every_rules := cd.def_ 73 (d := dd_Every_rules) rfl
    d_Every_holds := cd.def_ 74 (d := dd_Every_holds) rfl
    d_Counted_init := cd.def_ 75 (d := dd_Counted_init) rfl
    d_Counted_rules := cd.def_ 76 (d := dd_Counted_rules) rfl
    d_Counted_holds := cd.def_ 77 (d := dd_Counted_holds) rfl
    d_Taken_init := cd.def_ 78 (d := dd_Taken_init) rfl
    d_Taken_rules := cd.def_ 79 (d := dd_Taken_rules) rfl
    d_Taken_holds := cd.def_ 80 (d := dd_Taken_holds) rfl
    d_Ratio_init := cd.def_ 81 (d := dd_Ratio_init) rfl
    d_Ratio_rules := cd.def_ 82 (d := dd_Ratio_rules) rfl
    d_Ratio_holds := cd.def_ 83 (d := dd_Ratio_holds) rfl
    d_Touched_init := cd.def_ 84 (d := dd_Touched_init) rfl
    d_Touched_rules := cd.def_ 85 (d := dd_Touched_rules) rfl
    d_Touched_holds := cd.def_ 86 (d := dd_Touched_holds) rfl
    d_Joined_init := cd.def_ 87 (d := dd_Joined_init) rfl
    d_Joined_rules := cd.def_ 88 (d := dd_Joined_rules) rfl
    d_Joined_holds := cd.def_ 89 (d := dd_Joined_holds) rfl
    d_Not_init := cd.def_ 90 (d := dd_Not_init) rfl
    d_Not_rules := cd.def_ 91 (d := dd_Not_rules) rfl
    d_Not_holds := cd.def_ 92 (d := dd_Not_holds) rfl
    d_Rule_init := cd.def_ 93 (d := dd_Rule_init) rfl
    d_Rule_eq := cd.def_ 94 (d := dd_Rule_eq) rfl
    d_RangeSet_init := cd.def_ 95 (d := dd_RangeSet_init) rfl
    d_RangeSet_and := cd.def_ 96 (d := dd_RangeSet_and) rfl
    d_RangeSet_or := cd.def_ 97 (d := dd_RangeSet_or) rfl
    d_RangeSet_sub := cd.def_ 98 (d := dd_RangeSet_sub) rfl
    d_RangeSet_xor := cd.def_ 99 (d := dd_RangeSet_xor) rfl
    d_RangeSet_invert := cd.def_ 100 (d := dd_RangeSet_invert) rfl
    d_RangeSet_share := cd.def_ 101 (d := dd_RangeSet_share) rfl
    g_is_whole := He.glo_ok X G (cd.fact 0 (f := .glo "is_whole") rfl)
    g_is_base := He.glo_ok X G (cd.fact 1 (f := .glo "is_base") rfl)
    g_check_base := He.glo_ok X G (cd.fact 2 (f := .glo "check_base") rfl)
    g_check_at_least := He.glo_ok X G (cd.fact 3 (f := .glo "check_at_least") rfl)
    g_power_of := He.glo_ok X G (cd.fact 4 (f := .glo "power_of") rfl)
    g_divided_up := He.glo_ok X G (cd.fact 5 (f := .glo "divided_up") rfl)
    g_common_divisor := He.glo_ok X G (cd.fact 6 (f := .glo "common_divisor") rfl)
    g_common_multiple := He.glo_ok X G (cd.fact 7 (f := .glo "common_multiple") rfl)
    g_scaled := He.glo_ok X G (cd.fact 8 (f := .glo "scaled") rfl)
    g_is_less := He.glo_ok X G (cd.fact 9 (f := .glo "is_less") rfl)
    g_may_fit := He.glo_ok X G (cd.fact 10 (f := .glo "may_fit") rfl)
    g_surely_fits := He.glo_ok X G (cd.fact 11 (f := .glo "surely_fits") rfl)
    g_multiples_around := He.glo_ok X G (cd.fact 12 (f := .glo "multiples_around") rfl)
    g_is_fitting := He.glo_ok X G (cd.fact 13 (f := .glo "is_fitting") rfl)
    g_first_step := He.glo_ok X G (cd.fact 14 (f := .glo "first_step") rfl)
    g_least_of := He.glo_ok X G (cd.fact 15 (f := .glo "least_of") rfl)
    g_steps_at := He.glo_ok X G (cd.fact 16 (f := .glo "steps_at") rfl)
    g_first_fitting := He.glo_ok X G (cd.fact 17 (f := .glo "first_fitting") rfl)
    g_marks_of := He.glo_ok X G (cd.fact 18 (f := .glo "marks_of") rfl)
    g_name_of := He.glo_ok X G (cd.fact 19 (f := .glo "name_of") rfl)
    g_compared := He.glo_ok X G (cd.fact 20 (f := .glo "compared") rfl)
    g_different_rules := He.glo_ok X G (cd.fact 21 (f := .glo "different_rules") rfl)
    g_parts_at := He.glo_ok X G (cd.fact 22 (f := .glo "parts_at") rfl)
    g_whole_period := He.glo_ok X G (cd.fact 23 (f := .glo "whole_period") rfl)
    g_edges_from := He.glo_ok X G (cd.fact 24 (f := .glo "edges_from") rfl)
    g_pieces_at := He.glo_ok X G (cd.fact 25 (f := .glo "pieces_at") rfl)
    g_joined_pieces := He.glo_ok X G (cd.fact 26 (f := .glo "joined_pieces") rfl)
    g_turned_pieces := He.glo_ok X G (cd.fact 27 (f := .glo "turned_pieces") rfl)
    g_primes_of := He.glo_ok X G (cd.fact 28 (f := .glo "primes_of") rfl)
    g_primes_in := He.glo_ok X G (cd.fact 29 (f := .glo "primes_in") rfl)
    g_least_period := He.glo_ok X G (cd.fact 30 (f := .glo "least_period") rfl)
    g_are_mantissas := He.glo_ok X G (cd.fact 31 (f := .glo "are_mantissas") rfl)
    g_are_fields := He.glo_ok X G (cd.fact 32 (f := .glo "are_fields") rfl)
    g_check_rule := He.glo_ok X G (cd.fact 33 (f := .glo "check_rule") rfl)
    g_check_two_rules := He.glo_ok X G (cd.fact 34 (f := .glo "check_two_rules") rfl)
    g_rules_of := He.glo_ok X G (cd.fact 35 (f := .glo "rules_of") rfl)
    g_joined_sets := He.glo_ok X G (cd.fact 36 (f := .glo "joined_sets") rfl)
    g_values_at := He.glo_ok X G (cd.fact 37 (f := .glo "values_at") rfl)
    g_counted := He.glo_ok X G (cd.fact 38 (f := .glo "counted") rfl)
    g_taken := He.glo_ok X G (cd.fact 39 (f := .glo "taken") rfl)
    g_is_factor := He.glo_ok X G (cd.fact 40 (f := .glo "is_factor") rfl)
    g_coarser := He.glo_ok X G (cd.fact 41 (f := .glo "coarser") rfl)
    g_touched := He.glo_ok X G (cd.fact 42 (f := .glo "touched") rfl)
    g_law_purse := He.glo_ok X G (cd.fact 43 (f := .glo "_law_purse") rfl)
    g_law_draw := He.glo_ok X G (cd.fact 44 (f := .glo "_law_draw") rfl)
    g_law_pick := He.glo_ok X G (cd.fact 45 (f := .glo "_law_pick") rfl)
    g_law_family := He.glo_ok X G (cd.fact 46 (f := .glo "_law_family") rfl)
    g_law_rule := He.glo_ok X G (cd.fact 47 (f := .glo "_law_rule") rfl)
    g_law_made := He.glo_ok X G (cd.fact 48 (f := .glo "_law_made") rfl)
    g_law_times := He.glo_ok X G (cd.fact 49 (f := .glo "_law_times") rfl)
    g_law_places := He.glo_ok X G (cd.fact 50 (f := .glo "_law_places") rfl)
    g_law_is_fit := He.glo_ok X G (cd.fact 51 (f := .glo "_law_is_fit") rfl)
    g_law_sizes := He.glo_ok X G (cd.fact 52 (f := .glo "_law_sizes") rfl)
    g_law_step := He.glo_ok X G (cd.fact 53 (f := .glo "_law_step") rfl)
    g_law_scaled := He.glo_ok X G (cd.fact 54 (f := .glo "_law_scaled") rfl)
    g_law_marks := He.glo_ok X G (cd.fact 55 (f := .glo "_law_marks") rfl)
    g_law_atom := He.glo_ok X G (cd.fact 56 (f := .glo "_law_atom") rfl)
    g_law_tree := He.glo_ok X G (cd.fact 57 (f := .glo "_law_tree") rfl)
    g_law_set := He.glo_ok X G (cd.fact 58 (f := .glo "_law_set") rfl)
    g_law_atom_holds := He.glo_ok X G (cd.fact 59 (f := .glo "_law_atom_holds") rfl)
    g_law_holds := He.glo_ok X G (cd.fact 60 (f := .glo "_law_holds") rfl)
    g_law_rules := He.glo_ok X G (cd.fact 61 (f := .glo "_law_rules") rfl)
    g_law_divisor := He.glo_ok X G (cd.fact 62 (f := .glo "_law_divisor") rfl)
    g_law_is_sure := He.glo_ok X G (cd.fact 63 (f := .glo "_law_is_sure") rfl)
    g_law_needed := He.glo_ok X G (cd.fact 64 (f := .glo "_law_needed") rfl)
    g_law_common := He.glo_ok X G (cd.fact 65 (f := .glo "_law_common") rfl)
    g_law_starts := He.glo_ok X G (cd.fact 66 (f := .glo "_law_starts") rfl)
    g_law_length := He.glo_ok X G (cd.fact 67 (f := .glo "_law_length") rfl)
    g_law_is_changed := He.glo_ok X G (cd.fact 68 (f := .glo "_law_is_changed") rfl)
    g_law_right := He.glo_ok X G (cd.fact 69 (f := .glo "_law_right") rfl)
    g_law := He.glo_ok X G (cd.fact 70 (f := .glo "law") rfl)
    g_Look := He.glo_ok X G (cd.fact 71 (f := .glo "Look") rfl)
    g_Every := He.glo_ok X G (cd.fact 72 (f := .glo "Every") rfl)
    g_Counted := He.glo_ok X G (cd.fact 73 (f := .glo "Counted") rfl)
    g_Taken := He.glo_ok X G (cd.fact 74 (f := .glo "Taken") rfl)
    g_Ratio := He.glo_ok X G (cd.fact 75 (f := .glo "Ratio") rfl)
    g_Touched := He.glo_ok X G (cd.fact 76 (f := .glo "Touched") rfl)
    g_Joined := He.glo_ok X G (cd.fact 77 (f := .glo "Joined") rfl)
    g_Not := He.glo_ok X G (cd.fact 78 (f := .glo "Not") rfl)
    g_Rule := He.glo_ok X G (cd.fact 79 (f := .glo "Rule") rfl)
    g_RangeSet := He.glo_ok X G (cd.fact 80 (f := .glo "RangeSet") rfl)
    b_int := He.free_ok X G (cd.fact 81 (f := .free "int") rfl)
    b_len := He.free_ok X G (cd.fact 82 (f := .free "len") rfl)
    b_isinstance := He.free_ok X G (cd.fact 83 (f := .free "isinstance") rfl)
    b_range := He.free_ok X G (cd.fact 84 (f := .free "range") rfl)
    b_zip := He.free_ok X G (cd.fact 85 (f := .free "zip") rfl)
    b_list := He.free_ok X G (cd.fact 86 (f := .free "list") rfl)
    b_tuple := He.free_ok X G (cd.fact 87 (f := .free "tuple") rfl)
    b_sorted := He.free_ok X G (cd.fact 88 (f := .free "sorted") rfl)
    b_set := He.free_ok X G (cd.fact 89 (f := .free "set") rfl)
    b_max := He.free_ok X G (cd.fact 90 (f := .free "max") rfl)
    b_min := He.free_ok X G (cd.fact 91 (f := .free "min") rfl)
    b_sum := He.free_ok X G (cd.fact 92 (f := .free "sum") rfl)
    b_str := He.free_ok X G (cd.fact 93 (f := .free "str") rfl)
    b_bool := He.free_ok X G (cd.fact 94 (f := .free "bool") rfl)
    c_Look := He.cls_ok (cd.fact 95 (f := .cls "Look") rfl)
    c_Every := He.cls_ok (cd.fact 96 (f := .cls "Every") rfl)
    c_Counted := He.cls_ok (cd.fact 97 (f := .cls "Counted") rfl)
    c_Taken := He.cls_ok (cd.fact 98 (f := .cls "Taken") rfl)
    c_Ratio := He.cls_ok (cd.fact 99 (f := .cls "Ratio") rfl)
    c_Touched := He.cls_ok (cd.fact 100 (f := .cls "Touched") rfl)
    c_Joined := He.cls_ok (cd.fact 101 (f := .cls "Joined") rfl)
    c_Not := He.cls_ok (cd.fact 102 (f := .cls "Not") rfl)
    c_Rule := He.cls_ok (cd.fact 103 (f := .cls "Rule") rfl)
    c_RangeSet := He.cls_ok (cd.fact 104 (f := .cls "RangeSet") rfl)
    n_Look_low := He.noat_ok (cd.fact 105 (f := .noat "Look" "low") rfl)
    n_Look_high := He.noat_ok (cd.fact 106 (f := .noat "Look" "high") rfl)
    n_Look_known := He.noat_ok (cd.fact 107 (f := .noat "Look" "known") rfl)
    n_Counted_rule := He.noat_ok (cd.fact 108 (f := .noat "Counted" "rule") rfl)
    n_Counted_fewest := He.noat_ok (cd.fact 109 (f := .noat "Counted" "fewest") rfl)
    n_Counted_greatest := He.noat_ok (cd.fact 110 (f := .noat "Counted" "greatest") rfl)
    n_Taken_rule := He.noat_ok (cd.fact 111 (f := .noat "Taken" "rule") rfl)
    n_Taken_mantissa := He.noat_ok (cd.fact 112 (f := .noat "Taken" "mantissa") rfl)
    n_Ratio_one := He.noat_ok (cd.fact 113 (f := .noat "Ratio" "one") rfl)
    n_Ratio_other := He.noat_ok (cd.fact 114 (f := .noat "Ratio" "other") rfl)
    n_Ratio_times := He.noat_ok (cd.fact 115 (f := .noat "Ratio" "times") rfl)
    n_Ratio_is_more := He.noat_ok (cd.fact 116 (f := .noat "Ratio" "is_more") rfl)
    n_Touched_rule := He.noat_ok (cd.fact 117 (f := .noat "Touched" "rule") rfl)
    n_Touched_is_low := He.noat_ok (cd.fact 118 (f := .noat "Touched" "is_low") rfl)
    n_Joined_word := He.noat_ok (cd.fact 119 (f := .noat "Joined" "word") rfl)
    n_Joined_one := He.noat_ok (cd.fact 120 (f := .noat "Joined" "one") rfl)
    n_Joined_other := He.noat_ok (cd.fact 121 (f := .noat "Joined" "other") rfl)
    n_Not_one := He.noat_ok (cd.fact 122 (f := .noat "Not" "one") rfl)
    n_Rule_ground := He.noat_ok (cd.fact 123 (f := .noat "Rule" "ground") rfl)
    n_Rule_way := He.noat_ok (cd.fact 124 (f := .noat "Rule" "way") rfl)
    n_Rule_heads := He.noat_ok (cd.fact 125 (f := .noat "Rule" "heads") rfl)
    n_Rule_limit := He.noat_ok (cd.fact 126 (f := .noat "Rule" "limit") rfl)
    n_RangeSet_ground := He.noat_ok (cd.fact 127 (f := .noat "RangeSet" "ground") rfl)
    n_RangeSet_statement := He.noat_ok (cd.fact 128 (f := .noat "RangeSet" "statement") rfl)
    m_Look_taken_by := He.meth_ok (cd.fact 129 (f := .meth "Look" "taken_by") rfl)
    m_Every_rules := He.meth_ok (cd.fact 130 (f := .meth "Every" "rules") rfl)
    m_Every_holds := He.meth_ok (cd.fact 131 (f := .meth "Every" "holds") rfl)
    m_Counted_rules := He.meth_ok (cd.fact 132 (f := .meth "Counted" "rules") rfl)
    m_Counted_holds := He.meth_ok (cd.fact 133 (f := .meth "Counted" "holds") rfl)
    m_Taken_rules := He.meth_ok (cd.fact 134 (f := .meth "Taken" "rules") rfl)
    m_Taken_holds := He.meth_ok (cd.fact 135 (f := .meth "Taken" "holds") rfl)
    m_Ratio_rules := He.meth_ok (cd.fact 136 (f := .meth "Ratio" "rules") rfl)
    m_Ratio_holds := He.meth_ok (cd.fact 137 (f := .meth "Ratio" "holds") rfl)
    m_Touched_rules := He.meth_ok (cd.fact 138 (f := .meth "Touched" "rules") rfl)
    m_Touched_holds := He.meth_ok (cd.fact 139 (f := .meth "Touched" "holds") rfl)
    m_Joined_rules := He.meth_ok (cd.fact 140 (f := .meth "Joined" "rules") rfl)
    m_Joined_holds := He.meth_ok (cd.fact 141 (f := .meth "Joined" "holds") rfl)
    m_Not_rules := He.meth_ok (cd.fact 142 (f := .meth "Not" "rules") rfl)
    m_Not_holds := He.meth_ok (cd.fact 143 (f := .meth "Not" "holds") rfl)
    m_Rule_eq := He.meth_ok (cd.fact 144 (f := .meth "Rule" "__eq__") rfl)
    m_RangeSet_and := He.meth_ok (cd.fact 145 (f := .meth "RangeSet" "__and__") rfl)
    m_RangeSet_or := He.meth_ok (cd.fact 146 (f := .meth "RangeSet" "__or__") rfl)
    m_RangeSet_sub := He.meth_ok (cd.fact 147 (f := .meth "RangeSet" "__sub__") rfl)
    m_RangeSet_xor := He.meth_ok (cd.fact 148 (f := .meth "RangeSet" "__xor__") rfl)
    m_RangeSet_invert := He.meth_ok (cd.fact 149 (f := .meth "RangeSet" "__invert__") rfl)
    m_RangeSet_share := He.meth_ok (cd.fact 150 (f := .meth "RangeSet" "share") rfl)
    k_Look := He.mkr_ok (cd.fact 151 (f := .mkr "Look") rfl)
    k_Counted := He.mkr_ok (cd.fact 152 (f := .mkr "Counted") rfl)
    k_Taken := He.mkr_ok (cd.fact 153 (f := .mkr "Taken") rfl)
    k_Ratio := He.mkr_ok (cd.fact 154 (f := .mkr "Ratio") rfl)
    k_Touched := He.mkr_ok (cd.fact 155 (f := .mkr "Touched") rfl)
    k_Joined := He.mkr_ok (cd.fact 156 (f := .mkr "Joined") rfl)
    k_Not := He.mkr_ok (cd.fact 157 (f := .mkr "Not") rfl)
    k_Rule := He.mkr_ok (cd.fact 158 (f := .mkr "Rule") rfl)
    k_RangeSet := He.mkr_ok (cd.fact 159 (f := .mkr "RangeSet") rfl)
    ins_Rule := insB_ok (He.cls_ok (cd.fact 103 (f := .cls "Rule") rfl)) x1
    ins_RangeSet := insB_ok (He.cls_ok (cd.fact 104 (f := .cls "RangeSet") rfl)) x2
    sf_RangeSet := x3
    sf_Rule := x4
    e_make := x5
    e_init := He.eqO_ok x6
    e_keep := He.keep_ok (cd.fact 161 (f := .keep "Every") rfl)
    kinds := ⟨He.glo_ok X G (cd.fact 160 (f := .glo "KINDS") rfl), fun H => He.tupB_ok x7 H⟩ }
theorem ev_of {K : PySem.W.Frag} (ex : exB K = true) (e : obE K = (dEv.val, true)) : Ev K := by
  obtain ⟨x1, ex⟩ := He.ba ex
  obtain ⟨x2, ex⟩ := He.ba ex
  obtain ⟨x3, ex⟩ := He.ba ex
  obtain ⟨x4, ex⟩ := He.ba ex
  obtain ⟨x5, ex⟩ := He.ba ex
  obtain ⟨x6, ex⟩ := He.ba ex
  obtain ⟨x8, ex⟩ := He.ba ex
  obtain ⟨x9, x7⟩ := He.ba ex
  exact ⟨He5.DefA.funD (d := dEv) (congrArg Prod.fst e) (congrArg Prod.snd e), x8, x9⟩
end Ax
namespace Ax
open PySem PySem.Spec L2
/-! ### keys (text, (whole numbers), whole number) -/
abbrev NK := Str × List Int × Int
section
variable {prog : Program} {w : World}
def NmIs (prog : Program) (w : World) (h : Heap) (k : NK) (a : Addr) : Prop :=
  ∃ o t b u n, h.get? a = some o ∧ o.cls = .type "tuple" ∧ o.data = .seq #[.str k.1 t, .ref b, .int k.2.2 u] n ∧ IsTupleKey (mixKind prog w) h (k.2.1.map Sum.inl) b
theorem inl_inj : ∀ {a b : List Int}, a.map (Sum.inl : Int → Key) = b.map Sum.inl → a = b
  | [], [], _ => rfl
  | [], _ :: _, h => nomatch h
  | _ :: _, [], h => nomatch h
  | x :: a, y :: b, h => by
    rw [List.map_cons, List.map_cons] at h
    injection h with h1 h2
    rw [Sum.inl.inj h1, inl_inj h2]
theorem NmIs.inj {h : Heap} {a : Addr} {x y : NK} (hx : NmIs prog w h x a) (hy : NmIs prog w h y a) : x = y := by
  obtain ⟨o, t, b, u, n, e1, _, e3, e4⟩ := hx
  obtain ⟨o', t', b', u', n', f1, _, f3, f4⟩ := hy
  rw [e1] at f1
  cases f1
  rw [e3] at f3
  injection f3 with f3 _
  have f3 := congrArg Array.toList f3
  injection f3 with q1 f3
  injection f3 with q2 f3
  injection f3 with q3 _
  injection q1 with q1 _
  injection q2 with q2
  injection q3 with q3 _
  subst q2
  have := inl_inj (e4.inj f4)
  obtain ⟨x1, x2, x3⟩ := x
  obtain ⟨y1, y2, y3⟩ := y
  simp at q1 q3 this
  rw [q1, q3, this]
theorem NmIs.ty {s : Shared} {k : NK} {a : Addr} (x : NmIs prog w s.heap k a) : s.TypeIs (.ref a) "tuple" := by
  obtain ⟨o, _, _, _, _, e, c, _⟩ := x
  exact ⟨o, e, c⟩
theorem NmIs.keeps {h h' : Heap} {k : NK} {a d : Addr} {o : Obj} {es ep} (x : NmIs prog w h k a) (ho : h.get? d = some o) (hd : o.data = .dict es ep) (hs : Heap.SameBut d h h') : NmIs prog w h' k a := by
  obtain ⟨o', t, b, u, n, e1, e2, e3, e4⟩ := x
  refine ⟨o', t, b, u, n, ?_, e2, e3, e4.keeps ho hd hs⟩
  have ne : a ≠ d := fun z => by
    rw [z, ho] at e1
    cases e1
    rw [hd] at e3
    cases e3
  exact (hs.2 a ne).trans e1
variable {A : Around} {E : Value → Shared → Prop} {s : Shared}
def nmHash (prog : Program) (w : World) (k : NK) : Int := reduceHash (Builtin.Tuple.tupleHashOf [(mixKind prog w).hash (.inr k.1), tupleKeyHash (mixKind prog w) (k.2.1.map Sum.inl), (mixKind prog w).hash (.inl k.2.2)])
theorem nm_hash {k : NK} {a : Addr} {Q : Int → Shared → Prop} (hu : A.units + 8 < cLine) (hk : NmIs prog w s.heap k a) (h : Q (nmHash prog w k) { s with toks := s.toks + (k.2.1.length + 4) }) : wpAny (model prog w) A (pyHash (.ref a)) Q E s := by
  have ty := hk.ty
  obtain ⟨o, t, b, u, n, ho, _, hd, hi⟩ := hk
  unfold pyHash pyHashByItsType
  refine wpAny_bind (wpAny_cRoomFor_or (.inr (Nat.lt_of_le_of_lt (Nat.le_add_right _ 8) hu)) ?_)
  refine wpAny_bind (wpAny_specialOf ty F.slot_tuple_hash.lookup ?_)
  have nn : ¬ ((some (Value.builtin "tuple.__hash__") == some Value.none) = true) := by rw [beq_builtin_none]; exact Bool.false_ne_true
  refine (if_neg nn).symm ▸ ?_
  refine wpAny_bind (wpAny_specialOf ty F.slot_tuple_hash.lookup ?_)
  refine wpAny_bind (m := callSpecialIfBoundUnlessNone? (.ref a) "__hash__" _) ?_
  refine wpAny_callSpecialIfBoundUnlessNone?_slot ty F.slot_tuple_hash (wpAny_call_entry F.slot_tuple_hash ty F.entry_tuple_hash ?_ (F.args_tuple_hash_1 _))
  refine wpAny_bind (m := Builtin.Tuple.tupleItemsOf (.ref a)) (wpAny_tupleItemsOf ho hd ?_)
  refine wpAny_bind ?_
  rw [← Array.forIn_toList]
  simp only [List.forIn_cons, List.forIn_nil]
  have i1 : (mixKind prog w).is (.inr k.1) (.str k.1 t) = true := kV_is (k := .inr k.1) (u := .str k.1 t) ⟨t, rfl⟩
  have i3 : (mixKind prog w).is (.inl k.2.2) (.int k.2.2 u) = true := kV_is (k := .inl k.2.2) (u := .int k.2.2 u) ⟨u, rfl⟩
  refine wpAny_bind (wpAny_bind ((mixKind prog w).pyHash i1 (wpAny_pure ?_)))
  refine wpAny_bind (wpAny_bind (wpAny_pyHash_tuple (knd := mixKind prog w) (by show A.units + 1 < cLine; omega) hi (wpAny_pure ?_)))
  refine wpAny_bind (wpAny_bind ((mixKind prog w).pyHash i3 (wpAny_pure (wpAny_pure ?_))))
  refine wpAny_ret_mkInt ?_
  have tk : ({ s with toks := s.toks + (k.2.1.length + 4) } : Shared) = { s with toks := s.toks + 1 + ((k.2.1.map (Sum.inl : Int → Key)).length + 1) + 1 + 1 } := by
    rw [List.length_map]
    congr 1
    omega
  rw [tk] at h
  unfold nmHash at h
  show wpAny _ _ (pyHashByItsType.reduced (Builtin.Tuple.tupleHashOf [(mixKind prog w).hash (.inr k.1), tupleKeyHash (mixKind prog w) (k.2.1.map Sum.inl), (mixKind prog w).hash (.inl k.2.2)])) Q E _
  generalize Builtin.Tuple.tupleHashOf [(mixKind prog w).hash (.inr k.1), tupleKeyHash (mixKind prog w) (k.2.1.map Sum.inl), (mixKind prog w).hash (.inl k.2.2)] = z at h
  unfold pyHashByItsType.reduced
  unfold reduceHash at h
  by_cases c : (decide (-(2 : Int) ^ 63 ≤ z) && decide (z < 2 ^ 63)) = true
  · rw [if_pos c] at h ⊢
    exact wpAny_pure h
  · rw [if_neg c] at h ⊢
    exact wpAny_bind (wpAny_rule (wpAny_pure h))
theorem nm_eq_tree {x y : NK} {a b : Addr} {R : Fin → Shared → Prop} (hu : A.units + 1 < cLine) (hx : NmIs prog w s.heap x a) (hy : NmIs prog w s.heap y b) (h : R (.done (.ret (.bool (decide (x = y))))) s) : wpAny (model prog w) A (Builtin.«tuple.__eq__» ⟨[.ref a, .ref b], []⟩) R E s := by
  have ty := hy.ty
  obtain ⟨oa, t, c, u, na, e1, _, e3, e4⟩ := hx
  obtain ⟨ob, t', c', u', nb, f1, _, f3, f4⟩ := hy
  have i1 : (mixKind prog w).is (.inr x.1) (.str x.1 t) = true := kV_is (k := .inr x.1) (u := .str x.1 t) ⟨t, rfl⟩
  have i3 : (mixKind prog w).is (.inl x.2.2) (.int x.2.2 u) = true := kV_is (k := .inl x.2.2) (u := .int x.2.2 u) ⟨u, rfl⟩
  have j1 : (mixKind prog w).is (.inr y.1) (.str y.1 t') = true := kV_is (k := .inr y.1) (u := .str y.1 t') ⟨t', rfl⟩
  have j3 : (mixKind prog w).is (.inl y.2.2) (.int y.2.2 u') = true := kV_is (k := .inl y.2.2) (u := .int y.2.2 u') ⟨u', rfl⟩
  refine wpAny_bind (m := isInstance (.ref b) (.type "tuple")) (wpAny_isInstance ty isSubtype_tuple_tuple ?_)
  simp only [Bool.not_true, Bool.false_eq_true, if_false]
  refine wpAny_bind (wpAny_tupleItemsOf e1 e3 (wpAny_bind (wpAny_tupleItemsOf f1 f3 (wpAny_bind ?_))))
  simp only [List.zip_cons_cons, List.zip_nil_right, List.forIn_cons, List.forIn_nil]
  refine wpAny_bind (wpAny_bind ((mixKind prog w).eqBool i1 j1 ?_))
  by_cases c1 : x.1 = y.1
  case neg =>
    have e : decide (x = y) = false := decide_eq_false fun z => c1 (by rw [z])
    rw [e] at h
    have n1 : decide ((Sum.inr x.1 : Key) = Sum.inr y.1) = false := decide_eq_false fun z => c1 (Sum.inr.inj z)
    rw [n1]
    exact wpAny_bind (wpAny_pure (wpAny_pure (wpAny_pure (wpAny_pure h))))
  rw [decide_eq_true (congrArg Sum.inr c1 : (Sum.inr x.1 : Key) = Sum.inr y.1)]
  refine wpAny_pure (wpAny_bind (wpAny_bind (wpAny_eqBool_tuple (knd := mixKind prog w) (Nat.lt_of_succ_lt hu) e4 f4 ?_)))
  by_cases c2 : x.2.1 = y.2.1
  case neg =>
    have e : decide (x = y) = false := decide_eq_false fun z => c2 (by rw [z])
    rw [e] at h
    have n1 : decide (x.2.1.map (Sum.inl : Int → Key) = y.2.1.map Sum.inl) = false := decide_eq_false fun z => c2 (inl_inj z)
    rw [n1]
    exact wpAny_bind (wpAny_pure (wpAny_pure (wpAny_pure (wpAny_pure h))))
  rw [decide_eq_true (congrArg (List.map Sum.inl) c2 : x.2.1.map (Sum.inl : Int → Key) = y.2.1.map Sum.inl)]
  refine wpAny_pure (wpAny_bind (wpAny_bind ((mixKind prog w).eqBool i3 j3 ?_)))
  by_cases c3 : x.2.2 = y.2.2
  case neg =>
    have e : decide (x = y) = false := decide_eq_false fun z => c3 (by rw [z])
    rw [e] at h
    have n1 : decide ((Sum.inl x.2.2 : Key) = Sum.inl y.2.2) = false := decide_eq_false fun z => c3 (Sum.inl.inj z)
    rw [n1]
    exact wpAny_bind (wpAny_pure (wpAny_pure (wpAny_pure (wpAny_pure h))))
  rw [decide_eq_true (congrArg Sum.inl c3 : (Sum.inl x.2.2 : Key) = Sum.inl y.2.2)]
  have e : decide (x = y) = true := decide_eq_true (Prod.ext c1 (Prod.ext c2 c3))
  rw [e] at h
  exact wpAny_pure (wpAny_pure (wpAny_pure h))
theorem nm_eq {x y : NK} {a b : Addr} {Q : Bool → Shared → Prop} (hu : A.units + 8 < cLine) (hx : NmIs prog w s.heap x a) (hy : NmIs prog w s.heap y b) (h : Q (decide (x = y)) s) : wpAny (model prog w) A (eqBool (.ref a) (.ref b)) Q E s := by
  unfold eqBool
  refine wpAny_holding ?_
  by_cases c : (Value.ref a == Value.ref b) = true
  · obtain rfl : a = b := by injection (eq_of_beq c)
    obtain rfl := hx.inj hy
    rw [decide_eq_true rfl] at h
    exact (if_pos c).symm ▸ wpAny_bind (wpAny_rule (wpAny_pure h))
  · refine (if_neg c).symm ▸ wpAny_bind ?_
    refine wpAny_richCompare_same_room (op := .Eq) hx.ty hy.ty F.slot_tuple_eq ?_ (Nat.lt_of_le_of_lt (Nat.le_add_right _ 8) hu)
    refine wpAny_call_entry F.slot_tuple_eq hx.ty F.entry_tuple_eq ?_ (F.args_tuple_eq_2 _ _)
    exact nm_eq_tree (by show A.units + 1 + 1 < cLine; omega) hx hy ⟨_, rfl, (fun z => nomatch z), wpAny_truthy_bool h⟩
theorem quiet_flat {K : Type} [DecidableEq K] {knd : KeyKind prog w K} (m : Nat) {ks : List K} {a : Addr} {Q : Bool → Shared → Prop} (hk : IsTupleKey knd s.heap ks a) (h : Q true s) : wpAny (model prog w) A (eqIsQuiet (m + 1) (.ref a)) Q E s := by
  have ty := hk.typeIs
  obtain ⟨o, items, n, ho, _, hd, hi⟩ := hk
  unfold eqIsQuiet
  refine wpAny_bind (wpAny_specialOf ty F.slot_tuple_eq.lookup ?_)
  refine wpAny_bind (m := isInstance (.ref a) (.type "tuple")) (wpAny_isInstance ty isSubtype_tuple_tuple ?_)
  simp only [Bool.not_true, Bool.false_eq_true, if_false]
  refine wpAny_bind (wpAny_seqItems ho hd (wpAny_bind ?_))
  show wpAny _ _ (forIn items _ _) _ _ s
  rw [← Array.forIn_toList]
  have all := hi.byValue
  generalize items.toList = l at all
  induction l with
  | nil => exact wpAny_pure (wpAny_pure h)
  | cons x l ih =>
    rw [List.forIn_cons, eqIsQuiet_byValue _ (all x (by simp))]
    exact wpAny_bind (wpAny_bind (wpAny_pure (wpAny_pure (ih fun v hv => all v (List.mem_cons_of_mem _ hv)))))
theorem nm_quiet {k : NK} {a : Addr} {Q : Bool → Shared → Prop} (hk : NmIs prog w s.heap k a) (h : Q true s) : wpAny (model prog w) A (eqIsQuiet 8 (.ref a)) Q E s := by
  have ty := hk.ty
  obtain ⟨o, t, b, u, n, ho, _, hd, hi⟩ := hk
  unfold eqIsQuiet
  refine wpAny_bind (wpAny_specialOf ty F.slot_tuple_eq.lookup ?_)
  refine wpAny_bind (m := isInstance (.ref a) (.type "tuple")) (wpAny_isInstance ty isSubtype_tuple_tuple ?_)
  simp only [Bool.not_true, Bool.false_eq_true, if_false]
  refine wpAny_bind (wpAny_seqItems ho hd (wpAny_bind ?_))
  show wpAny _ _ (forIn (#[Value.str k.1 t, .ref b, .int k.2.2 u] : Array Value) _ _) _ _ s
  rw [← Array.forIn_toList]
  simp only [List.forIn_cons, List.forIn_nil]
  rw [eqIsQuiet_byValue _ (show carriedByValue (.str k.1 t) = true from rfl), eqIsQuiet_byValue _ (show carriedByValue (.int k.2.2 u) = true from rfl)]
  exact wpAny_bind (wpAny_bind (wpAny_pure (wpAny_pure (wpAny_bind (wpAny_bind (quiet_flat 6 hi (wpAny_pure (wpAny_bind (wpAny_bind (wpAny_pure (wpAny_pure (wpAny_pure (wpAny_pure h)))))))))))))
end
def nameKind (prog : Program) (w : World) : HeapKind prog w NK where
  is := NmIs prog w
  hash := nmHash prog w
  draws := fun k => k.2.1.length + 4
  room := fun A => A.units + 8 < cLine
  inj := NmIs.inj
  keeps := NmIs.keeps
  pyHash := nm_hash
  eqBool := nm_eq
  quiet := nm_quiet
end Ax
namespace Ax
open PySem PySem.Spec L2
/-! ### dicts with such keys, as things of the heap -/
abbrev NX := List (NK × Addr × Value)
/-- the dict at a holds xs -/
def NmD (P : Program) (w : World) (a : Addr) (xs : NX) (h : Heap) : Prop :=
  (a == sysModules) = false ∧ xs.length ≤ sizeLine ∧ (xs.map (·.1)).Nodup ∧ ∃ o es ep, h.get? a = some o ∧ o.ExactDict ∧ o.data = .dict es ep ∧ es.toList = xs.map (entryOfKey (nameKind P w))
def nmO (P : Program) (w : World) (a : Addr) (xs : NX) : HO := .ext (NmD P w a xs)
theorem nmO_ok {P : Program} {w : World} {H : Hp} {h : Heap} {a : Addr} {xs : NX} (x : NmD P w a xs h) : ObjOk P w H h a (nmO P w a xs) := by
  have ⟨y1, y2, y3, o, es, ep, y4, y5, y6, y7⟩ := x
  exact ⟨x, ⟨o, y4⟩, fun h1 h2 z k => let ⟨q1, q2, q3, o, es, ep, q4, q5⟩ := z; ⟨q1, q2, q3, o, es, ep, k _ q4, q5⟩⟩
/-- the key at b, by the tuples of the heap -/
def NmAt (H : Hp) (k : NK) (b : Addr) : Prop := ∃ c, H b = some (.tup [.str k.1, .ref c, .int k.2.2]) ∧ H c = some (.tup (k.2.1.map V.int))
theorem NmAt.is {P : Program} {w : World} {H : Hp} {h : Heap} {k : NK} {b : Addr} (x : NmAt H k b) (ok : HOk P w H h) : NmIs P w h k b := by
  obtain ⟨c, h1, h2⟩ := x
  obtain ⟨_, its, r, o, e1, e2, n, e3⟩ := ok b _ h1
  have kc : (tupleKind (mixKind P w)).is h (k.2.1.map Sum.inl) c := key_of ok (by rw [List.map_map]; exact h2)
  cases r with
  | cons r1 r =>
    cases r with
    | cons r2 r =>
      cases r with
      | cons r3 r =>
        cases r
        obtain ⟨t, rfl⟩ := r1
        obtain ⟨u, rfl⟩ := r3
        cases r2
        exact ⟨o, t, c, u, n, e1, e2, e3, kc⟩
theorem NmD.dict {P : Program} {w : World} {h : Heap} {a : Addr} {xs : NX} (x : NmD P w a xs h) (k : ∀ y ∈ xs, NmIs P w h y.1 y.2.1) : h.DictOfH (nameKind P w) a xs := by
  obtain ⟨_, _, y3, o, es, ep, y4, y5, y6, y7⟩ := x
  exact ⟨o, es, ep, y4, y5, y6, y7, k, y3⟩
section
variable {X : Cx} {pins : List (Addr × Obj)} {σ : L2.St} {H : Hp} {s : Shared} {E : Value → Shared → Prop} {D b : Addr} {xs : NX} {k : NK} {v : Value}
/-- D[k] = v, k not there -/
theorem nm_put {Q : Unit → Shared → Prop} (hu : X.A.units + 8 < cLine) (I : Inv X pins σ H s) (hD : H D = some (nmO X.prog X.w D xs)) (hz : xs.length < sizeLine) (hx : ∀ y ∈ xs, NmAt H y.1 y.2.1) (hk : NmAt H k b) (new : ∀ y ∈ xs, y.1 ≠ k)
    (q : ∀ s', Inv X pins σ (upd H D (nmO X.prog X.w D (xs ++ [(k, b, v)]))) s' → Q () s') : wpAny (model X.prog X.w) X.A (dictSet D (.ref b) v) Q E s := by
  have nd : NmD X.prog X.w D xs s.heap := (show ObjOk X.prog X.w H s.heap D (nmO X.prog X.w D xs) from I.hok D _ hD).1
  have nk : atKey xs k = none := by
    unfold atKey
    rw [List.find?_eq_none.mpr fun y hy => by simpa using new y hy]
    rfl
  refine wpAny_dictSet_heap (knd := nameKind X.prog X.w) hu (hk.is I.hok) (nd.dict fun y hy => (hx y hy).is I.hok) (fun h' dd hs => q _ ?_) nd.2.1
  rw [storedH_new nk] at dd
  obtain ⟨o, es, ep, d1, d2, d3, d4, d5, d6⟩ := dd
  exact d_write I (by rw [hD]; exact True.intro) hs ⟨o, d1⟩ (nmO_ok ⟨nd.1, by rw [List.length_append]; exact hz, d6, o, es, ep, d1, d2, d3, d4⟩)
/-- D[k] -/
theorem nm_get {A : Around} {p : Addr × Value} {Q : Value → Shared → Prop} (hu : A.in1.units + 8 < cLine) (I : Inv X pins σ H s) (hD : H D = some (nmO X.prog X.w D xs)) (hx : ∀ y ∈ xs, NmAt H y.1 y.2.1) (hk : NmAt H k b) (hp : atKey xs k = some p)
    (q : ∀ s', Inv X pins σ H s' → Q p.2 s') : wpAny (model X.prog X.w) A (getItem (.ref D) (.ref b)) Q E s := by
  have nd : NmD X.prog X.w D xs s.heap := (show ObjOk X.prog X.w H s.heap D (nmO X.prog X.w D xs) from I.hok D _ hD).1
  exact wpAny_getItem_heap (knd := nameKind X.prog X.w) hu (hk.is I.hok) (nd.dict fun y hy => (hx y hy).is I.hok) hp (q _ (I.tok _))
end
end Ax
namespace Ax
open PySem PySem.Spec L2
section
variable {X : Cx}
/-- {k: v for target in iter}, keys of the name's kind -/
def tDcN (X : Cx) (wi : TI) (g : TG) (tk tv : TE) (vs : List Nat) : TE := fun σ H Q => wi σ H fun J H1 => ∀ D, H1 D = none → ∃ W : Nat → Nat → Hp → Prop, (∃ m, W 0 m (upd H1 D (nmO X.prog X.w D []))) ∧ ∀ i m H, W i m H →
  (J.stop i H ∧ Q (.ref D) H) ∨ (J.go i H ∧ ∃ Nx : Hp → Prop, (∀ H', Nx H' → ∃ m', m' < m ∧ W (i + 1) m' H') ∧ ∀ x H', J.yld i H x H' → g x (wipe σ vs) H' fun σ2 H2 => wipe σ2 vs = wipe σ vs ∧
    tk σ2 H2 fun y H3 => tv σ2 H3 fun z H4 => ∃ xs k b va, y = .ref b ∧ z = .ref va ∧ H4 D = some (nmO X.prog X.w D xs) ∧ xs.length < sizeLine ∧ (∀ y ∈ xs, NmAt H4 y.1 y.2.1) ∧ NmAt H4 k b ∧ (∀ y ∈ xs, y.1 ≠ k) ∧ Nx (upd H4 D (nmO X.prog X.w D (xs ++ [(k, b, .ref va)]))))
theorem nm_empty {P : Program} {w : World} {H : Hp} (h : Heap) (hb : sysModules < h.objs.size) : ObjOk P w H (h.push { cls := .type "dict", data := .dict #[] }) h.objs.size (nmO P w h.objs.size []) :=
  nmO_ok ⟨beq_eq_false_iff_ne.mpr (Ne.symm (Nat.ne_of_lt hb)), Nat.zero_le _, List.nodup_nil, _, #[], 0, Heap.get?_push_size _ rfl, ⟨rfl, rfl, rfl⟩, rfl, rfl⟩
variable {kx vx tg iter : Expr} {scope : Scope} {own : List (Str × Nat)} {pos : Pos} {wi : TI} {g : TG} {tk tv : TE}
theorem pe_dcN (hu : X.A.units + 8 < cLine) (calm : X.calm = true) (nd : X.N.Nodup) (hi : PI X tg iter wi) (ok : BlkOk X.N X.env.scope scope own)
    (pg : ∀ (s : Shared) (H : Hp) (C : Addr) (cl : List (Str × Addr)) (fp : List Addr), PG (X.blk s H scope (compEnvC scope cl C X.env) fp) tg g)
    (pk : ∀ (s : Shared) (H : Hp) (C : Addr) (cl : List (Str × Addr)) (fp : List Addr), PE (X.blk s H scope (compEnvC scope cl C X.env) fp) kx tk)
    (pv : ∀ (s : Shared) (H : Hp) (C : Addr) (cl : List (Str × Addr)) (fp : List Addr), PE (X.blk s H scope (compEnvC scope cl C X.env) fp) vx tv)
    (hs : ∀ x, foldedSetIterable iter X.env x = pure x := by intro _; rfl) : PE X (.DictComp kx vx [⟨tg, iter, [], 0⟩] scope pos) (tDcN X wi g tk tv (own.map (·.2))) := by
  refine ⟨fun pins s σ H Q I h => ?_⟩
  rw [arm_eval_DictComp]
  have cells : ∀ y ∈ scope.names, y.2 = .free → ∃ c, X.env.cells.lookup y.1 = some c := fun y hy e =>
    (ok.free y hy e).elim (fun k => I.ok.has _ (.inl k)) fun k => I.ok.has _ (.inr k)
  refine wpAny_comprehension_free (use := none) rfl hs (closure_ok cells) ok.kind (fun y hy e => by rw [ok.uniq y hy, e]) (thn (hi.run pins s σ H _ I h) fun xv s1 hx => thn hx fun itv s2 h2 => ?_)
  obtain ⟨it, fp, tn, J, H2, rfl, I2, T, st2, f2, q⟩ := h2
  refine wpAny_newObj_type (newEnv_comp ?_)
  -- the new dict
  let o0 : Obj := { cls := .type "dict", data := .dict #[] }
  let D := s2.heap.objs.size
  have hDn : H2 D = none := I2.hok.fresh (Nat.le_refl _)
  obtain ⟨W, ⟨m0, w0⟩, turn⟩ := q D hDn
  let s3 : Shared := { s2 with heap := s2.heap.push o0 }
  let H3 : Hp := upd H2 D (nmO X.prog X.w D [])
  have up3 : ∀ b o, s2.heap.get? b = some o → s3.heap.get? b = some o := fun b o e => Heap.get?_push_of_some _ e
  have I3 : Inv X pins σ H3 s3 := I2.laid (t' := s2.toks) up3 (Nat.le_refl _) (nm_empty s2.heap I2.big)
  have f3 : ∀ b ∈ fp, FpOk X pins H3 b ∧ b < s3.heap.objs.size := fun b hb => by
    obtain ⟨o, e, _⟩ := T.obj _ _ st2 b hb
    have lt : b < D := Heap.lt_size e
    refine ⟨⟨?_, (f2 b hb).2⟩, Heap.lt_size (up3 _ _ e)⟩
    show upd H2 D _ b = none
    rw [upd_ne (Nat.ne_of_lt lt)]
    exact (f2 b hb).1
  have st3 : tn 0 s3.heap := T.keep _ _ _ st2 fun b _ o e => up3 b o e
  have I4 := block_start I3 ok nd f3
  let C := s3.heap.objs.size
  let cl := cellsFrom (C + 1) scope.names (cloFrom X.env.cells scope.names [])
  let ce := compEnvC scope cl C X.env
  have pg := pg s3 H3 C cl fp
  have pk := pk s3 H3 C cl fp
  have pv := pv s3 H3 C cl fp
  have n3 : ∀ b ∈ fp, H3 b = none := fun b hb => (f3 b hb).1.1
  generalize hs4 : ({ s3 with heap := pushCells (s3.heap.push o0) scope.names } : Shared) = s4 at I4
  have st4 : tn 0 s4.heap := T.keep _ _ _ st3 fun b _ o e => by rw [← hs4]; exact pushCells_keeps _ _ _ _ (Heap.get?_push_of_some _ e)
  have stay : ∀ {σ' : L2.St} {H' : Hp} {s' : Shared}, Inv (X.blk s3 H3 scope ce fp) [] σ' H' s' → (∀ b ∈ fp, H' b = none) → ∀ b ∈ fp, FpOk (X.blk s3 H3 scope ce fp) [] H' b := fun {σ' H' s'} I' z b hb =>
    ⟨z b hb, (I'.ok.exf b hb).1, I'.ok.exfs b hb, .inl hb, fun x c e => (I'.ok.exf b hb).2 x c e, fun p hp => nomatch hp⟩
  show codeAny (model X.prog X.w) X.A (.compStart (.DictComp kx vx [⟨tg, iter, [], 0⟩] scope pos) 0 (.ref it) (.ref D) ce) (compPost (model X.prog X.w) X.A X.xe none (EP X pins σ Q) (.ref D) C) s4
  have loop : codeAny (model X.prog X.w) X.A (.compLoop (.DictComp kx vx [⟨tg, iter, [], 0⟩] scope pos) 0 (.ref it) (.ref D) ce) (compPost (model X.prog X.w) X.A X.xe none (EP X pins σ Q) (.ref D) C) s4 := by
    refine compLoop_anyD (fun n s' => ∃ i H', Inv (X.blk s3 H3 scope ce fp) [] (wipe σ (own.map (·.2))) H' s' ∧ tn i s'.heap ∧ (∀ b ∈ fp, H' b = none) ∧ W i n H') ?_ m0 ⟨0, H3, I4, st4, n3, w0⟩
    rintro n s5 ⟨i, H5, I5, st5, n5, w5⟩
    rcases turn i n H5 w5 with ⟨stop, fin⟩ | ⟨go, Nx, nx, step⟩
    · refine thnF (T.done (X.blk s3 H3 scope ce fp) rfl rfl rfl calm i [] s5 _ H5 (fun _ _ => False) I5 (stay I5 n5) st5 stop) fun r s6 ⟨hr, I6⟩ => ?_
      subst hr
      have I7 : Inv X pins σ H5 s6 := I3.call' (ch := fp) I6.os I6.base I6.hok I6.bare fun b hb => let z := (f3 b hb).1.2; ⟨z.2.2.1, z.1, z.2.2.2.1, z.2.2.2.2⟩
      have nC : H5 C = none := I6.free
      obtain ⟨m, hn, _⟩ := I6.loc
      obtain ⟨f0, f1, f4, f5, f6, f7⟩ := I3.fpOk (Nat.le_refl _) nC
      exact ⟨m, hn, fun h'' sb => ⟨.ref D, H5, I7.turned (t' := s6.toks) (fun b o hb e => (sb.2 b hb).trans e) f0 f1 f5 f6 f7, rfl, fin⟩⟩
    · refine thnF (T.item (X.blk s3 H3 scope ce fp) rfl rfl rfl calm i [] s5 _ H5 (fun _ _ => False) I5 (stay I5 n5) st5 go) fun r s6 ⟨u, hr, h6⟩ => ?_
      subst hr
      refine thnF h6 fun _ s7 ⟨x, H7, I7, r7, y7, st7, n7⟩ => ?_
      refine thnF (pg.run _ s7 _ H7 x u _ (I7.pinned (stay I7 n7) (T.obj _ _ st7)) r7 (step x H7 y7)) fun _ s8 ⟨σ8, H8, I8, hw8, q8⟩ => ?_
      refine wpAny_pure ?_
      rw [if_pos rfl]
      refine thnF (pk.run _ s8 σ8 H8 _ I8 q8) fun z s10 ⟨yk, H10, I10, r10, q10⟩ => ?_
      refine thnF (pv.run _ s10 σ8 H10 _ I10 q10) fun z2 s11 ⟨yv, H11, I11, r11, xs, k, b, va, e1, e2, hD11, hz, hx, hk, fresh, next⟩ => ?_
      subst e1 e2
      cases r10
      cases r11
      refine nm_put (X := X.blk s3 H3 scope ce fp) hu I11 hD11 hz hx hk fresh fun s12 I12 => ?_
      obtain ⟨m', hm, w'⟩ := nx _ next
      have pin : ∀ b ∈ fp, ∀ o, s7.heap.get? b = some o → s12.heap.get? b = some o ∧ upd H11 D (nmO X.prog X.w D (xs ++ [(k, _, _)])) b = none := fun b hb o e =>
        let z := I12.pin (b, o) (List.mem_append_right _ (List.mem_append_right _ (mem_pinsAt hb e)))
        ⟨z.1, z.2.1⟩
      refine ⟨m', hm, i + 1, _, (I12.unpinned (pins := [])).weak (by rw [← hw8, wipe_length]) (fun j v e => ?_), T.keep _ _ _ st7 fun b hb o e => (pin b hb o e).1, fun b hb => ?_, w'⟩
      · rw [← hw8] at e
        exact (wipe_some e).1
      · obtain ⟨o, e, _⟩ := T.obj _ _ st7 b hb
        exact (pin b hb o e).2
  exact codeAny_compStart_dict loop (T.self X.A 0 _ _ _ st4 loop)
end
end Ax
namespace Ax
open PySem PySem.Spec L2

/-- a value as data: what is read of it, whatever its place -/
inductive D where
  | non | bl (b : Bool) | int (i : Int) | str (s : Str)
  | lst (xs : List D) | tup (xs : List D) | scr (xs : List Int)
  | obj (c : Str) (fs : List (Str × D))
  | knw (P : Program) (w : World) (kvs : List (NK × D))
def nmD (k : NK) : D := .tup [.str k.1, .tup (k.2.1.map .int), .int k.2.2]

theorem ext_refl (H : Hp) : Same H H := fun _ _ h => h
theorem ext_new {H : Hp} {p : Addr} {o : HO} (h : H p = none) : Same H (upd H p o) := fun a u e => by
  rw [upd_ne (ne_of_none e h)]
  exact e

mutual
inductive At (K : PySem.W.Frag) (B : Hp) : V → D → Prop
  | non : At K B .non .non
  | bl (b : Bool) : At K B (.bl b) (.bl b)
  | int (i : Int) : At K B (.int i) (.int i)
  | str (x : Str) : At K B (.str x) (.str x)
  | lst {a : Addr} {vs : List V} {ds : List D} : B a = some (.lst vs) → AtL K B vs ds → At K B (.ref a) (.lst ds)
  | tup {a : Addr} {vs : List V} {ds : List D} : B a = some (.tup vs) → AtL K B vs ds → At K B (.ref a) (.tup ds)
  | scr {a : Addr} {xs : List Int} : SqL K B a (xs.map V.int) → At K B (.ref a) (.scr xs)
  | obj {a dx : Addr} {c : Str} {vf : List (Str × V)} {df : List (Str × D)} : B a = some (.ins (He.ga K c) dx vf) → AtF K B vf df → At K B (.ref a) (.obj c df)
  | knw {a : Addr} {P : Program} {w : World} {xs : List (NK × Addr × Addr)} {kvs : List (NK × D)} : B a = some (nmO P w a (xs.map fun x => (x.1, x.2.1, Value.ref x.2.2))) → AtN K B xs kvs → At K B (.ref a) (.knw P w kvs)
inductive AtL (K : PySem.W.Frag) (B : Hp) : List V → List D → Prop
  | nil : AtL K B [] []
  | cons {v : V} {vs : List V} {d : D} {ds : List D} : At K B v d → AtL K B vs ds → AtL K B (v :: vs) (d :: ds)
inductive AtF (K : PySem.W.Frag) (B : Hp) : List (Str × V) → List (Str × D) → Prop
  | nil : AtF K B [] []
  | cons {x : Str} {v : V} {vs : List (Str × V)} {d : D} {ds : List (Str × D)} : At K B v d → AtF K B vs ds → AtF K B ((x, v) :: vs) ((x, d) :: ds)
inductive AtN (K : PySem.W.Frag) (B : Hp) : List (NK × Addr × Addr) → List (NK × D) → Prop
  | nil : AtN K B [] []
  | cons {k : NK} {b va : Addr} {d : D} {xs : List (NK × Addr × Addr)} {kvs : List (NK × D)} : At K B (.ref b) (nmD k) → At K B (.ref va) d → AtN K B xs kvs → AtN K B ((k, b, va) :: xs) ((k, d) :: kvs)
end

section
variable {K : PySem.W.Frag} {B B' : Hp}
mutual
theorem At.up (e : Same B B') : ∀ {v : V} {d : D}, At K B v d → At K B' v d
  | _, _, .non => .non
  | _, _, .bl b => .bl b
  | _, _, .int i => .int i
  | _, _, .str x => .str x
  | _, _, .lst h l => .lst (e _ _ h) (AtL.up e l)
  | _, _, .tup h l => .tup (e _ _ h) (AtL.up e l)
  | _, _, .scr h => .scr (e.seq h)
  | _, _, .obj h l => .obj (e _ _ h) (AtF.up e l)
  | _, _, .knw h l => .knw (e _ _ h) (AtN.up e l)
theorem AtL.up (e : Same B B') : ∀ {v : List V} {d : List D}, AtL K B v d → AtL K B' v d
  | _, _, .nil => .nil
  | _, _, .cons h l => .cons (At.up e h) (AtL.up e l)
theorem AtF.up (e : Same B B') : ∀ {v : List (Str × V)} {d : List (Str × D)}, AtF K B v d → AtF K B' v d
  | _, _, .nil => .nil
  | _, _, .cons h l => .cons (At.up e h) (AtF.up e l)
theorem AtN.up (e : Same B B') : ∀ {v : List (NK × Addr × Addr)} {d : List (NK × D)}, AtN K B v d → AtN K B' v d
  | _, _, .nil => .nil
  | _, _, .cons h h' l => .cons (At.up e h) (At.up e h') (AtN.up e l)
end
theorem AtL.length : ∀ {v : List V} {d : List D}, AtL K B v d → v.length = d.length
  | _, _, .nil => rfl
  | _, _, .cons _ l => congrArg (· + 1) l.length
theorem AtL.append : ∀ {v v' : List V} {d d' : List D}, AtL K B v d → AtL K B v' d' → AtL K B (v ++ v') (d ++ d')
  | _, _, _, _, .nil, h => h
  | _, _, _, _, .cons a l, h => .cons a (l.append h)
theorem AtL.get : ∀ {v : List V} {d : List D} {i : Nat} {x : D}, AtL K B v d → d[i]? = some x → ∃ u, v[i]? = some u ∧ At K B u x
  | _, _, _, _, .nil, e => by simp at e
  | _, _, 0, _, .cons h l, e => by simp at e; subst e; exact ⟨_, rfl, h⟩
  | _, _, i + 1, x, .cons h l, e => by
    obtain ⟨u, h1, h2⟩ := l.get (i := i) (x := x) (by simpa using e)
    exact ⟨u, by simpa using h1, h2⟩
theorem AtL.getv : ∀ {v : List V} {d : List D} {i : Nat} {u : V}, AtL K B v d → v[i]? = some u → ∃ x, d[i]? = some x ∧ At K B u x
  | _, _, _, _, .nil, e => by simp at e
  | _, _, 0, _, .cons h l, e => by simp at e; subst e; exact ⟨_, rfl, h⟩
  | _, _, i + 1, x, .cons h l, e => by
    obtain ⟨u, h1, h2⟩ := l.getv (i := i) (u := x) (by simpa using e)
    exact ⟨u, by simpa using h1, h2⟩
theorem AtL.set {x : D} {u : V} (r : At K B u x) : ∀ {v : List V} {d : List D} (i : Nat), AtL K B v d → AtL K B (v.set i u) (d.set i x)
  | _, _, _, .nil => .nil
  | _, _, 0, .cons h l => .cons r l
  | _, _, i + 1, .cons h l => .cons h (AtL.set r i l)
theorem AtL.take : ∀ {v : List V} {d : List D} (n : Nat), AtL K B v d → AtL K B (v.take n) (d.take n)
  | _, _, 0, _ => by rw [List.take_zero, List.take_zero]; exact .nil
  | _, _, _ + 1, .nil => .nil
  | _, _, n + 1, .cons h l => .cons h (AtL.take n l)
theorem AtL.drop : ∀ {v : List V} {d : List D} (n : Nat), AtL K B v d → AtL K B (v.drop n) (d.drop n)
  | _, _, 0, h => h
  | _, _, _ + 1, .nil => .nil
  | _, _, n + 1, .cons h l => AtL.drop n l
theorem AtF.get : ∀ {v : List (Str × V)} {d : List (Str × D)} {f : Str} {x : D}, AtF K B v d → d.lookup f = some x → ∃ u, v.lookup f = some u ∧ At K B u x
  | _, _, _, _, .nil, e => by cases e
  | (n, u) :: vs, (_, y) :: ds, f, x, .cons h l, e => by
    rw [List.lookup_cons] at e ⊢
    cases q : (f == n) with
    | true => rw [q] at e; cases e; exact ⟨_, rfl, h⟩
    | false => rw [q] at e; exact AtF.get l e
theorem AtF.none : ∀ {v : List (Str × V)} {d : List (Str × D)} {f : Str}, AtF K B v d → d.lookup f = Option.none → v.lookup f = Option.none
  | _, _, _, .nil, e => rfl
  | (n, u) :: vs, (_, y) :: ds, f, .cons h l, e => by
    rw [List.lookup_cons] at e ⊢
    cases q : (f == n) with
    | true => rw [q] at e; cases e
    | false => rw [q] at e; exact AtF.none l e
theorem AtL.int {xs : List Int} : AtL K B (xs.map V.int) (xs.map D.int) := by
  induction xs with
  | nil => exact .nil
  | cons x r ih => exact .cons (.int x) ih
end

/-! ### slots -/
/-- what stands in a slot: nothing known; data; a list, a dict (all of whose values are True) of one's own -/
inductive Sl where
  | un | d (x : D) | ol (xs : List D) | od (ks : List Int) | ot (ks : List (List Int)) | sf (p : Addr) (c : Str) (fs : List (Str × D)) | pl (p : Addr) (xs : List D)

def kvD (ks : List Int) : List (Key × V) := ks.map fun k => (Sum.inl k, V.bl true)
def kvT (ks : List (List Int)) : List (List Key × V) := ks.map fun k => (k.map Sum.inl, V.bl true)

/-- the base grows by what was not in the heap (or tuples) -/
def Nw (B H B' : Hp) : Prop := ∀ q o, H q = some o → B q = none → B' q = none ∨ ∃ xs, o = .tup xs
theorem Nw.refl (B H : Hp) : Nw B H B := fun _ _ _ n => .inl n
theorem Nw.no {B H B' : Hp} (n : Nw B H B') {q : Addr} {o : HO} (h : H q = some o) (b : B q = none) (t : ∀ xs, o ≠ .tup xs) : B' q = none := (n q o h b).elim (fun z => z) fun ⟨xs, e⟩ => absurd e (t xs)
def SlOk (K : PySem.W.Frag) (R B H : Hp) : Option V → Sl → Prop
  | _, .un => True
  | o, .d x => ∃ v, o = some v ∧ At K B v x
  | o, .ol xs => ∃ a vs, o = some (.ref a) ∧ R a = none ∧ B a = none ∧ H a = some (.lst vs) ∧ AtL K B vs xs
  | o, .od ks => ∃ a, o = some (.ref a) ∧ R a = none ∧ B a = none ∧ H a = some (.dK (kvD ks))
  | o, .ot ks => ∃ a, o = some (.ref a) ∧ R a = none ∧ B a = none ∧ H a = some (.dT (kvT ks))
  | o, .pl a xs => ∃ vs, o = some (.ref a) ∧ R a = none ∧ B a = none ∧ H a = some (.lst vs) ∧ AtL K B vs xs
  | o, .sf a c fs => ∃ dx vf, o = some (.ref a) ∧ R a = none ∧ B a = none ∧ H a = some (.ins (He.ga K c) dx vf) ∧ AtF K B vf fs
def Sl.own : Sl → Bool
  | .un => false
  | .d _ => false
  | _ => true
structure Hld (K : PySem.W.Frag) (R B H : Hp) (σ : L2.St) (G : List Sl) : Prop where
  exR : Same R H
  exB : Same B H
  dis : ∀ q o, R q = some o → B q = none ∨ ∃ xs, o = .tup xs
  len : σ.length = G.length
  sl : ∀ (i : Nat) (g : Sl), G[i]? = some g → ∃ o, σ[i]? = some o ∧ SlOk K R B H o g
  app : ∀ (i j : Nat) (g g' : Sl) (a : Addr), G[i]? = some g → G[j]? = some g' → g.own = true → g'.own = true → σ[i]? = some (some (.ref a)) → σ[j]? = some (some (.ref a)) → i = j

section
variable {K : PySem.W.Frag} {R B H B' H' : Hp} {σ : L2.St} {G : List Sl}
theorem SlOk.up {o : Option V} {g : Sl} (s : SlOk K R B H o g) (eB : Same B B') (eH : Same H H') (nw : Nw B H B') : SlOk K R B' H' o g := by
  cases g with
  | un => trivial
  | d x => obtain ⟨v, e, h⟩ := s; exact ⟨v, e, h.up eB⟩
  | ol xs => obtain ⟨a, vs, e, h1, h2, h3, h4⟩ := s; exact ⟨a, vs, e, h1, nw.no h3 h2 (fun _ z => nomatch z), eH _ _ h3, h4.up eB⟩
  | od ks => obtain ⟨a, e, h1, h2, h3⟩ := s; exact ⟨a, e, h1, nw.no h3 h2 (fun _ z => nomatch z), eH _ _ h3⟩
  | ot ks => obtain ⟨a, e, h1, h2, h3⟩ := s; exact ⟨a, e, h1, nw.no h3 h2 (fun _ z => nomatch z), eH _ _ h3⟩
  | sf a c fs => obtain ⟨dx, vf, e, h1, h2, h3, h4⟩ := s; exact ⟨dx, vf, e, h1, nw.no h3 h2 (fun _ z => nomatch z), eH _ _ h3, h4.up eB⟩
  | pl a xs => obtain ⟨vs, e, h1, h2, h3, h4⟩ := s; exact ⟨vs, e, h1, nw.no h3 h2 (fun _ z => nomatch z), eH _ _ h3, h4.up eB⟩
/-- the heap grows: some of it is data -/
theorem Hld.up (h : Hld K R B H σ G) (eB : Same B B') (eH : Same H H') (eBH : Same B' H') (nw : Nw B H B') : Hld K R B' H' σ G :=
  ⟨h.exR.trans eH, eBH, fun q o e => (h.dis q o e).elim (fun z => nw q o (h.exR q o e) z) .inr, h.len, fun i g e => by
    obtain ⟨o, e1, s⟩ := h.sl i g e
    exact ⟨o, e1, s.up eB eH nw⟩, h.app⟩
/-- a new object, data -/
theorem Hld.new (h : Hld K R B H σ G) {p : Addr} {o : HO} (hp : H p = none) : Hld K R (upd B p o) (upd H p o) σ G := by
  have hb : B p = none := by
    cases e : B p with
    | none => rfl
    | some u => rw [h.exB _ _ e] at hp; cases hp
  refine h.up (ext_new hb) (ext_new hp) (fun q u e => ?_) fun q u e n => ?_
  · by_cases hq : q = p
    · subst hq; rw [upd_same] at e ⊢; exact e
    · rw [upd_ne hq] at e ⊢; exact h.exB q u e
  · rw [upd_ne (ne_of_none e hp)]; exact .inl n
/-- a new object, not data (dropped) -/
theorem Hld.junk (h : Hld K R B H σ G) (eH : Same H H') : Hld K R B H' σ G := h.up (ext_refl B) eH (h.exB.trans eH) (Nw.refl B H)
end
end Ax
namespace Ax
open PySem PySem.Spec L2
/-! ### judgements by data -/
section
variable (X : Cx)
/-- what stands behind an expression: a value that is d, the base grown -/
def DK (R B : Hp) (σ : L2.St) (G : List Sl) (d : D) : VK := fun v H' => ∃ B', Hld X.K R B' H' σ G ∧ Same B B' ∧ At X.K B' v d
def DKL (R B : Hp) (σ : L2.St) (G : List Sl) (ds : List D) : List V → Hp → Prop := fun vs H' => ∃ B', Hld X.K R B' H' σ G ∧ Same B B' ∧ AtL X.K B' vs ds
def DKT (R B : Hp) (σ : L2.St) (G : List Sl) (b : Bool) : Bool → Hp → Prop := fun c H' => c = b ∧ ∃ B', Hld X.K R B' H' σ G ∧ Same B B'
structure DE (G : List Sl) (e : Expr) (d : D) (G' : List Sl) : Prop where
  run : ∀ (pins : List (Addr × Obj)) (s : Shared) (σ : L2.St) (H R B : Hp), Inv X pins σ H s → Hld X.K R B H σ G → wpAny (model X.prog X.w) X.A (eval e X.env) (EP X pins σ (DK X R B σ G' d)) X.xe s
structure DA (G : List Sl) (es : List Expr) (ds : List D) (G' : List Sl) : Prop where
  run : ∀ (pos : Pos) (pins : List (Addr × Obj)) (s : Shared) (σ : L2.St) (H R B : Hp), Inv X pins σ H s → Hld X.K R B H σ G → wpAny (model X.prog X.w) X.A (spliced (backTo pos (starEach es X.env))) (AP X pins σ (DKL X R B σ G' ds)) X.xe s
structure DT (G : List Sl) (e : Expr) (b : Bool) (G' : List Sl) : Prop where
  run : ∀ (pins : List (Addr × Obj)) (s : Shared) (σ : L2.St) (H R B : Hp), Inv X pins σ H s → Hld X.K R B H σ G → wpAny (model X.prog X.w) X.A (isTrue e X.env (eval e X.env)) (TP X pins σ (DKT X R B σ G' b)) X.xe s
structure DW (G : List Sl) (e : Expr) (b : Bool) (G' : List Sl) : Prop where
  run : ∀ (whole : Sem Value) (pins : List (Addr × Obj)) (s : Shared) (σ : L2.St) (H R B : Hp), Inv X pins σ H s → Hld X.K R B H σ G → wpAny (model X.prog X.w) X.A (isTrue e X.env whole) (TP X pins σ (DKT X R B σ G' b)) X.xe s
/-- the readings of these -/
def tD (e : Expr) : TE := fun σ H Q => ∃ G d G' R B, DE X G e d G' ∧ Hld X.K R B H σ G ∧ ∀ v H', DK X R B σ G' d v H' → Q v H'
def tDA (es : List Expr) : TA := fun σ H Q => ∃ G d G' R B, DA X G es d G' ∧ Hld X.K R B H σ G ∧ ∀ v H', DKL X R B σ G' d v H' → Q v H'
def tDT (e : Expr) : TT := fun σ H Q => ∃ G d G' R B, DT X G e d G' ∧ Hld X.K R B H σ G ∧ ∀ v H', DKT X R B σ G' d v H' → Q v H'
def tDW (e : Expr) : TT := fun σ H Q => ∃ G d G' R B, DW X G e d G' ∧ Hld X.K R B H σ G ∧ ∀ v H', DKT X R B σ G' d v H' → Q v H'
end
section
variable {X : Cx} {G G1 G2 G' : List Sl} {e a b c : Expr} {es : List Expr} {d x y z : D} {ds : List D} {pos p : Pos}
theorem pe_D : PE X e (tD X e) := ⟨fun pins s σ H Q I h => by
  obtain ⟨G, d, G', R, B, hd, hh, k⟩ := h
  exact thn (hd.run pins s σ H R B I hh) fun u s' ⟨v, H', I', r, q⟩ => ⟨v, H', I', r, k _ _ q⟩⟩
theorem pa_D : PA X es (tDA X es) := ⟨fun pos pins s σ H Q I h => by
  obtain ⟨G, d, G', R, B, hd, hh, k⟩ := h
  exact thn (hd.run pos pins s σ H R B I hh) fun u s' ⟨v, H', I', r, q⟩ => ⟨v, H', I', r, k _ _ q⟩⟩
theorem pt_D : PT X e (tDT X e) := ⟨fun pins s σ H Q I h => by
  obtain ⟨G, d, G', R, B, hd, hh, k⟩ := h
  exact thn (hd.run pins s σ H R B I hh) fun u s' ⟨H', I', q⟩ => ⟨H', I', k _ _ q⟩⟩
theorem pw_D : PW X e (tDW X e) := ⟨fun wh pins s σ H Q I h => by
  obtain ⟨G, d, G', R, B, hd, hh, k⟩ := h
  exact thn (hd.run wh pins s σ H R B I hh) fun u s' ⟨H', I', q⟩ => ⟨H', I', k _ _ q⟩⟩
theorem DE.of {t : TE} (h : PE X e t) (q : ∀ σ H R B, Hld X.K R B H σ G → t σ H (DK X R B σ G' d)) : DE X G e d G' :=
  ⟨fun pins s σ H R B I hh => h.run pins s σ H _ I (q σ H R B hh)⟩
theorem DA.of {t : TA} (h : PA X es t) (q : ∀ σ H R B, Hld X.K R B H σ G → t σ H (DKL X R B σ G' ds)) : DA X G es ds G' :=
  ⟨fun pos pins s σ H R B I hh => h.run pos pins s σ H _ I (q σ H R B hh)⟩
theorem DT.of {b : Bool} {t : TT} (h : PT X e t) (q : ∀ σ H R B, Hld X.K R B H σ G → t σ H (DKT X R B σ G' b)) : DT X G e b G' :=
  ⟨fun pins s σ H R B I hh => h.run pins s σ H _ I (q σ H R B hh)⟩
theorem DW.of {b : Bool} {t : TT} (h : PW X e t) (q : ∀ σ H R B, Hld X.K R B H σ G → t σ H (DKT X R B σ G' b)) : DW X G e b G' :=
  ⟨fun wh pins s σ H R B I hh => h.run wh pins s σ H _ I (q σ H R B hh)⟩
theorem DE.use {Q : VK} {σ : L2.St} {H R B : Hp} (h : DE X G e d G') (hh : Hld X.K R B H σ G) (k : ∀ v H' B', Hld X.K R B' H' σ G' → Same B B' → At X.K B' v d → Q v H') : tD X e σ H Q :=
  ⟨G, d, G', R, B, h, hh, fun v H' ⟨B', q1, q2, q3⟩ => k v H' B' q1 q2 q3⟩
theorem DA.use {Q : List V → Hp → Prop} {σ : L2.St} {H R B : Hp} (h : DA X G es ds G') (hh : Hld X.K R B H σ G) (k : ∀ v H' B', Hld X.K R B' H' σ G' → Same B B' → AtL X.K B' v ds → Q v H') : tDA X es σ H Q :=
  ⟨G, ds, G', R, B, h, hh, fun v H' ⟨B', q1, q2, q3⟩ => k v H' B' q1 q2 q3⟩
theorem DT.use {bb : Bool} {Q : Bool → Hp → Prop} {σ : L2.St} {H R B : Hp} (h : DT X G e bb G') (hh : Hld X.K R B H σ G) (k : ∀ H' B', Hld X.K R B' H' σ G' → Same B B' → Q bb H') : tDT X e σ H Q :=
  ⟨G, bb, G', R, B, h, hh, fun v H' ⟨e, B', q1, q2⟩ => e ▸ k H' B' q1 q2⟩
theorem DW.use {bb : Bool} {Q : Bool → Hp → Prop} {σ : L2.St} {H R B : Hp} (h : DW X G e bb G') (hh : Hld X.K R B H σ G) (k : ∀ H' B', Hld X.K R B' H' σ G' → Same B B' → Q bb H') : tDW X e σ H Q :=
  ⟨G, bb, G', R, B, h, hh, fun v H' ⟨e, B', q1, q2⟩ => e ▸ k H' B' q1 q2⟩
theorem DK.mk {R B B' H' : Hp} {σ : L2.St} {v : V} (h : Hld X.K R B' H' σ G) (e : Same B B') (q : At X.K B' v d) : DK X R B σ G d v H' := ⟨B', h, e, q⟩
theorem DE.to {d' : D} (h : DE X G e d G') (he : d = d') : DE X G e d' G' := he ▸ h

/-! ### names, constants -/
theorem de_var (i : Nat) {n : Str} (hg : G[i]? = some (.d d) := by rfl) (hN : X.N[i]? = some n := by rfl) (hv : Vis X.env.scope n := by first | exact Or.inl rfl | exact Or.inr (Or.inl rfl) | exact Or.inr (Or.inr rfl))
    (hd : (n == ("__debug__" : Str)) = false := by decide) (hcd : (n == ("__classdict__" : Str)) = false := by decide) : DE X G (.Name n pos) d G :=
  .of (pe_var hN hv hd hcd) fun σ H R B hh => by
    obtain ⟨o, e1, v, rfl, q⟩ := hh.sl i _ hg
    exact ⟨v, e1, B, hh, ext_refl B, q⟩
theorem de_int {i j} : DE X G (.Constant (.int i) j pos) (.int i) G := .of pe_int fun σ H R B hh => ⟨B, hh, ext_refl B, .int i⟩
theorem de_bl {i j} : DE X G (.Constant (.bool i) j pos) (.bl i) G := .of pe_bl fun σ H R B hh => ⟨B, hh, ext_refl B, .bl i⟩
theorem de_non {j} : DE X G (.Constant .none j pos) .non G := .of pe_non fun σ H R B hh => ⟨B, hh, ext_refl B, .non⟩
theorem de_str {i j} : DE X G (.Constant (.str i) j pos) (.str i) G := .of pe_str fun σ H R B hh => ⟨B, hh, ext_refl B, .str i⟩

/-! ### operators: an operation on data -/
def OpD (X : Cx) (f : Value → Value → Sem Value) (x y z : D) : Prop :=
  ∃ r, OpR X f r ∧ ∀ G σ H R B v u Q, Hld X.K R B H σ G → At X.K B v x → At X.K B u y → (∀ w H' B', Hld X.K R B' H' σ G → Same B B' → At X.K B' w z → Q w H') → r v u H Q
theorem de_op {op : Operator} (ho : OpD X (binaryOp op) x y z) (ha : DE X G a x G1) (hb : DE X G1 b y G2) : DE X G (.BinOp a op b pos) z G2 := by
  obtain ⟨r, hr, k⟩ := ho
  exact .of (pe_op hr pe_D pe_D) fun σ H R B hh => ha.use hh fun v H1 B1 h1 e1 a1 => hb.use h1 fun u H2 B2 h2 e2 a2 =>
    k G2 σ H2 R B2 v u _ h2 (a1.up e2) a2 fun w H3 B3 h3 e3 a3 => ⟨B3, h3, (e1.trans e2).trans e3, a3⟩
theorem de_o {op : Operator} (ha : DE X G a x G1) (hb : DE X G1 b y G2) (ho : OpD X (binaryOp op) x y z) : DE X G (.BinOp a op b pos) z G2 := de_op ho ha hb
theorem de_cmp {op : CmpOp} (ho : OpD X (compareOp op) x y z) (ha : DE X G a x G1) (hb : DE X G1 b y G2) (hm : behindInMarks op b = false := by first | exact nomark _ | rfl) : DE X G (.Compare a [op] [b] pos) z G2 := by
  obtain ⟨r, hr, k⟩ := ho
  exact .of (pe_cmpR hr pe_D pe_D hm) fun σ H R B hh => ha.use hh fun v H1 B1 h1 e1 a1 => hb.use h1 fun u H2 B2 h2 e2 a2 =>
    k G2 σ H2 R B2 v u _ h2 (a1.up e2) a2 fun w H3 B3 h3 e3 a3 => ⟨B3, h3, (e1.trans e2).trans e3, a3⟩
theorem dt_cmp {op : CmpOp} {bb : Bool} (ho : OpD X (compareOp op) x y (.bl bb)) (ha : DE X G a x G1) (hb : DE X G1 b y G2) (hm : behindInMarks op b = false := by first | exact nomark _ | rfl) : DT X G (.Compare a [op] [b] pos) bb G2 := by
  obtain ⟨r, hr, k⟩ := ho
  exact .of (pt_cmpR hr pe_D pe_D hm) fun σ H R B hh => ha.use hh fun v H1 B1 h1 e1 a1 => hb.use h1 fun u H2 B2 h2 e2 a2 =>
    k G2 σ H2 R B2 v u _ h2 (a1.up e2) a2 fun w H3 B3 h3 e3 a3 => by
      cases a3
      exact ⟨_, rfl, rfl, B3, h3, (e1.trans e2).trans e3⟩
/-- a op b op' c, the second asked only where the first holds -/
theorem dt_chain {op op' : CmpOp} {k1 k2 : Bool} (ho : OpD X (compareOp op) x y (.bl k1)) (ho' : OpD X (compareOp op') y z (.bl k2)) (ha : DE X G a x G) (hb : DE X G b y G) (hc : DE X G c z G)
    (hm : lastMarks [op, op'] [b, c] = false := by with_unfolding_all rfl) : DT X G (.Compare a [op, op'] [b, c] pos) (k1 && k2) G := by
  obtain ⟨r, hr, k⟩ := ho
  obtain ⟨r', hr', k'⟩ := ho'
  refine .of (pt_chain hr hr' pe_D pe_D pe_D hm) fun σ H R B hh => ha.use hh fun v H1 B1 h1 e1 a1 => hb.use h1 fun u H2 B2 h2 e2 a2 =>
    k G σ H2 R B2 v u _ h2 (a1.up e2) a2 fun w H3 B3 h3 e3 a3 => ?_
  cases a3
  refine ⟨k1, rfl, ?_⟩
  cases k1 with
  | true =>
    refine iteT (hc.use h3 fun t H4 B4 h4 e4 a4 => k' G σ H4 R B4 u t _ h4 (a2.up (e3.trans e4)) a4 fun w H5 B5 h5 e5 a5 => ?_)
    cases a5
    exact ⟨_, rfl, rfl, B5, h5, (((e1.trans e2).trans e3).trans e4).trans e5⟩
  | false => exact iteF ⟨_, rfl, rfl, B3, h3, (e1.trans e2).trans e3⟩
theorem opI0D {f : Value → Value → Sem Value} {g : Int → Int → Int} {i j : Int} (h : OpR X f (rI0 fun i j => .int (g i j))) : OpD X f (.int i) (.int j) (.int (g i j)) :=
  ⟨_, h, fun G σ H R B v u Q hh a b k => by cases a; cases b; exact ⟨i, j, rfl, rfl, k _ _ B hh (ext_refl B) (.int _)⟩⟩
theorem opID {f : Value → Value → Sem Value} {C : Int → Int → Prop} {g : Int → Int → Int} {i j : Int} (h : OpR X f (rI C fun i j => .int (g i j))) (hc : C i j) : OpD X f (.int i) (.int j) (.int (g i j)) :=
  ⟨_, h, fun G σ H R B v u Q hh a b k => by cases a; cases b; exact ⟨i, j, rfl, rfl, hc, k _ _ B hh (ext_refl B) (.int _)⟩⟩
theorem opB0D {f : Value → Value → Sem Value} {g : Int → Int → Bool} {i j : Int} (h : OpR X f (rI0 fun i j => .bl (g i j))) : OpD X f (.int i) (.int j) (.bl (g i j)) :=
  ⟨_, h, fun G σ H R B v u Q hh a b k => by cases a; cases b; exact ⟨i, j, rfl, rfl, k _ _ B hh (ext_refl B) (.bl _)⟩⟩
section
variable {i j : Int}
theorem o_add : OpD X (binaryOp .Add) (.int i) (.int j) (.int (i + j)) := opI0D op_add
theorem o_sub : OpD X (binaryOp .Sub) (.int i) (.int j) (.int (i - j)) := opI0D op_sub
theorem o_mul (h : CMulW i j) : OpD X (binaryOp .Mult) (.int i) (.int j) (.int (i * j)) := opID op_mulW h
theorem o_mulS (h : CMul i j) : OpD X (binaryOp .Mult) (.int i) (.int j) (.int (i * j)) := opID op_mul h
theorem o_div (h : CDivW i j) : OpD X (binaryOp .FloorDiv) (.int i) (.int j) (.int (i / j)) := opID op_fdivW h
theorem o_mod (h : 0 < j) : OpD X (binaryOp .Mod) (.int i) (.int j) (.int (i % j)) := opID (C := fun _ j => 0 < j) op_mod h
theorem o_lt : OpD X (compareOp .Lt) (.int i) (.int j) (.bl (decide (i < j))) := opB0D op_lt
theorem o_le : OpD X (compareOp .LtE) (.int i) (.int j) (.bl (decide (i ≤ j))) := opB0D op_le
theorem o_gt : OpD X (compareOp .Gt) (.int i) (.int j) (.bl (decide (j < i))) := opB0D op_gt
theorem o_ge : OpD X (compareOp .GtE) (.int i) (.int j) (.bl (decide (j ≤ i))) := opB0D op_ge
theorem dV {a b : V} {p : Prop} [Decidable p] (h : a = b ↔ p) : decide (a = b) = decide p := decide_eq_decide.mpr h
theorem o_eq : OpD X (compareOp .Eq) (.int i) (.int j) (.bl (decide (i = j))) :=
  ⟨_, op_eq, fun G σ H R B v u Q hh a b k => by cases a; cases b; exact ⟨rfl, by rw [dV (p := i = j) (by simp)]; exact k _ _ B hh (ext_refl B) (.bl _)⟩⟩
theorem o_ne : OpD X (compareOp .NotEq) (.int i) (.int j) (.bl (!decide (i = j))) :=
  ⟨_, op_ne, fun G σ H R B v u Q hh a b k => by cases a; cases b; exact ⟨rfl, by rw [dV (p := i = j) (by simp)]; exact k _ _ B hh (ext_refl B) (.bl _)⟩⟩
theorem o_eqS {i j : Str} : OpD X (compareOp .Eq) (.str i) (.str j) (.bl (decide (i = j))) :=
  ⟨_, op_eq, fun G σ H R B v u Q hh a b k => by cases a; cases b; exact ⟨rfl, by rw [dV (p := i = j) (by simp)]; exact k _ _ B hh (ext_refl B) (.bl _)⟩⟩
theorem o_eqB {i j : Bool} : OpD X (compareOp .Eq) (.bl i) (.bl j) (.bl (decide (i = j))) :=
  ⟨_, op_eq, fun G σ H R B v u Q hh a b k => by cases a; cases b; exact ⟨rfl, by rw [dV (p := i = j) (by simp)]; exact k _ _ B hh (ext_refl B) (.bl _)⟩⟩
theorem o_neB {i j : Bool} : OpD X (compareOp .NotEq) (.bl i) (.bl j) (.bl (!decide (i = j))) :=
  ⟨_, op_ne, fun G σ H R B v u Q hh a b k => by cases a; cases b; exact ⟨rfl, by rw [dV (p := i = j) (by simp)]; exact k _ _ B hh (ext_refl B) (.bl _)⟩⟩
end
/-- whether it is None -/
def D.isN : D → Bool
  | .non => true
  | _ => false
theorem At.isN {K : PySem.W.Frag} {B : Hp} {v : V} {d : D} (h : At K B v d) : decide (v = .non) = d.isN := by
  cases h <;> simp [D.isN]
theorem o_isN : OpD X (compareOp .Is) x .non (.bl x.isN) :=
  ⟨_, op_isN, fun G σ H R B v u Q hh a b k => by cases b; exact ⟨rfl, by rw [a.isN]; exact k _ _ B hh (ext_refl B) (.bl _)⟩⟩
theorem o_notN : OpD X (compareOp .IsNot) x .non (.bl (!x.isN)) :=
  ⟨_, op_notN, fun G σ H R B v u Q hh a b k => by cases b; exact ⟨rfl, by rw [a.isN]; exact k _ _ B hh (ext_refl B) (.bl _)⟩⟩

/-! ### lists of arguments, displays -/
theorem da_nil : DA X G [] [] G := .of pa_nil fun σ H R B hh => ⟨B, hh, ext_refl B, .nil⟩
theorem da_cons (ha : DE X G e d G1) (hr : DA X G1 es ds G2) (hs : starEach (e :: es) X.env = (false, eval e X.env) :: starEach es X.env := by rfl) : DA X G (e :: es) (d :: ds) G2 :=
  .of (pa_cons pe_D pa_D hs) fun σ H R B hh => ha.use hh fun v H1 B1 h1 e1 a1 => hr.use h1 fun vs H2 B2 h2 e2 a2 => ⟨B2, h2, e1.trans e2, .cons (a1.up e2) a2⟩
theorem upB {K : PySem.W.Frag} {R B H : Hp} {σ : L2.St} (hh : Hld K R B H σ G) {p : Addr} {o : HO} (hp : H p = none) : Same B (upd B p o) :=
  ext_new (by
    cases e : B p with
    | none => rfl
    | some u => rw [hh.exB _ _ e] at hp; cases hp)
theorem de_tup {x1} (h : DA X G es ds G') (hl : ds.length ≤ 1000000 := by first | decide | exact Nat.le_of_ble_eq_true rfl) : DE X G (.Tuple es x1 pos) (.tup ds) G' :=
  .of (pe_tup pa_D) fun σ H R B hh => h.use hh fun vs H1 B1 h1 e1 a1 => ⟨by rw [a1.length]; exact Nat.le_trans hl (by decide), fun p hp =>
    ⟨_, h1.new hp, e1.trans (upB h1 hp), .tup upd_same (a1.up (upB h1 hp))⟩⟩
theorem de_lst (h : DA X G es ds G') (hl : ds.length ≤ 1000000 := by first | decide | exact Nat.le_of_ble_eq_true rfl) : DE X G (.List es pos) (.lst ds) G' :=
  .of (pe_lst pa_D) fun σ H R B hh => h.use hh fun vs H1 B1 h1 e1 a1 => ⟨by rw [a1.length]; exact Nat.le_trans hl (by decide), fun p hp =>
    ⟨_, h1.new hp, e1.trans (upB h1 hp), .lst upd_same (a1.up (upB h1 hp))⟩⟩

/-! ### subscripts, fields -/
theorem AtL.atI {K : PySem.W.Frag} {B : Hp} {vs : List V} {i : Int} (h : AtL K B vs ds) (e : atI ds i = some d) : ∃ v, L2.atI vs i = some v ∧ At K B v d := by
  unfold L2.atI at e ⊢
  rw [h.length]
  cases q : ixN ds.length i with
  | none => rw [q] at e; cases e
  | some j => rw [q] at e; exact h.get e
theorem de_ixT {i : Int} (ha : DE X G a (.tup ds) G1) (hb : DE X G1 b (.int i) G2) (hi : atI ds i = some d := by rfl) (hs : PlainIx b := by exact fun _ _ => rfl) : DE X G (.Subscript a b pos) d G2 :=
  .of (pe_ix ix_tup pe_D pe_D hs) fun σ H R B hh => ha.use hh fun v H1 B1 h1 e1 a1 => hb.use h1 fun u H2 B2 h2 e2 a2 => by
    cases a2
    cases a1 with
    | tup hp al =>
      obtain ⟨w, hw, aw⟩ := al.atI hi
      exact ⟨_, _, _, _, rfl, rfl, .of (h2.exB _ _ (e2 _ _ hp)), hw, B2, h2, e1.trans e2, aw.up e2⟩
theorem de_ixL {i : Int} (ha : DE X G a (.lst ds) G1) (hb : DE X G1 b (.int i) G2) (hi : atI ds i = some d := by rfl) (hs : PlainIx b := by exact fun _ _ => rfl) : DE X G (.Subscript a b pos) d G2 :=
  .of (pe_ix ix_list pe_D pe_D hs) fun σ H R B hh => ha.use hh fun v H1 B1 h1 e1 a1 => hb.use h1 fun u H2 B2 h2 e2 a2 => by
    cases a2
    cases a1 with
    | lst hp al =>
      obtain ⟨w, hw, aw⟩ := al.atI hi
      exact ⟨_, _, _, _, rfl, rfl, .of (h2.exB _ _ (e2 _ _ hp)), hw, B2, h2, e1.trans e2, aw.up e2⟩
theorem de_ixS {i : Int} {xs : List Int} {n : Int} (ha : DE X G a (.scr xs) G1) (hb : DE X G1 b (.int i) G2) (hi : atI xs i = some n) (hs : PlainIx b := by exact fun _ _ => rfl) : DE X G (.Subscript a b pos) (.int n) G2 :=
  .of (pe_ix ix_list pe_D pe_D hs) fun σ H R B hh => ha.use hh fun v H1 B1 h1 e1 a1 => hb.use h1 fun u H2 B2 h2 e2 a2 => by
    cases a2
    cases a1 with
    | scr hp =>
      have hq : SqL X.K H2 _ (xs.map V.int) := (e2.trans h2.exB).seq hp
      have hw : atI (xs.map V.int) i = some (V.int n) := by
        unfold L2.atI at hi ⊢
        rw [List.length_map]
        cases q : ixN xs.length i with
        | none => rw [q] at hi; cases hi
        | some j => rw [q] at hi; show (xs.map V.int)[j]? = _; rw [List.getElem?_map, show xs[j]? = some n from hi]; rfl
      exact ⟨_, _, _, _, rfl, rfl, hq, hw, B2, h2, e1.trans e2, .int n⟩
theorem de_fld {f c : Str} {fs : List (Str × D)} (ha : DE X G e (.obj c fs) G') (hc : Cls X.K (He.ga X.K c)) (hn : NoAttr X.K (He.ga X.K c) f) (hf : fs.lookup f = some d := by rfl) (hb : attributeBase e f X.env (eval e X.env) = eval e X.env := by rfl) : DE X G (.Attribute e f pos) d G' :=
  .of (pe_fld pe_D hb) fun σ H R B hh => ha.use hh fun v H1 B1 h1 e1 a1 => by
    cases a1 with
    | obj hp al =>
      obtain ⟨w, hw, aw⟩ := al.get hf
      exact ⟨_, _, _, _, _, rfl, h1.exB _ _ hp, hc, hn, hw, B1, h1, e1, aw⟩

/-! ### slices and sums of lists -/
theorem AtL.cut {K : PySem.W.Frag} {B : Hp} {vs : List V} (h : AtL K B vs ds) (lo hi : Option Int) : AtL K B (cutV vs lo hi) ((ds.drop (HT.sIx ds.length 0 lo)).take (HT.sIx ds.length ds.length hi - HT.sIx ds.length 0 lo)) := by
  unfold cutV
  rw [h.length]
  exact (h.drop _).take _
def cutD (ds : List D) (lo hi : Option Int) : List D := (ds.drop (HT.sIx ds.length 0 lo)).take (HT.sIx ds.length ds.length hi - HT.sIx ds.length 0 lo)
structure DO (X : Cx) (G : List Sl) (e : Option Expr) (o : Option Int) : Prop where
  ok : (e = none ∧ o = none) ∨ ∃ e' i, e = some e' ∧ o = some i ∧ DE X G e' (.int i) G
theorem do_none : DO X G none none := ⟨.inl ⟨rfl, rfl⟩⟩
theorem do_some {i : Int} (h : DE X G e (.int i) G) : DO X G (some e) (some i) := ⟨.inr ⟨_, _, rfl, rfl, h⟩⟩
theorem DO.po {eo : Option Expr} {o : Option Int} (h : DO X G eo o) : ∃ t, PO X eo t ∧ ∀ σ H R B Q, Hld X.K R B H σ G → (∀ H' B', Hld X.K R B' H' σ G → Same B B' → Q o H') → t σ H Q := by
  rcases h.ok with ⟨rfl, rfl⟩ | ⟨e', i, rfl, rfl, he⟩
  · exact ⟨_, po_none, fun σ H R B Q hh k => k H B hh (ext_refl B)⟩
  · exact ⟨_, po_some pe_D, fun σ H R B Q hh k => he.use hh fun v H' B' h' e' a' => by cases a'; exact ⟨i, rfl, k H' B' h' e'⟩⟩
theorem de_slice {lo hi : Option Expr} {l u : Option Int} {p2 : Pos} (ha : DE X G a (.lst ds) G) (hl : DO X G lo l) (hu : DO X G hi u) : DE X G (.Subscript a (.Slice lo hi none p2) pos) (.lst (cutD ds l u)) G := by
  obtain ⟨tl, pl, kl⟩ := hl.po
  obtain ⟨th, ph, kh⟩ := hu.po
  exact .of (pe_slice sl_list pe_D pl ph) fun σ H R B hh => ha.use hh fun v H1 B1 h1 e1 a1 => kl σ H1 R B1 _ h1 fun H2 B2 h2 e2 => kh σ H2 R B2 _ h2 fun H3 B3 h3 e3 => by
    cases a1 with
    | lst hp al => exact ⟨_, _, rfl, .of (h3.exB _ _ (e3 _ _ (e2 _ _ hp))), fun p np => ⟨_, h3.new np, ((e1.trans e2).trans e3).trans (upB h3 np), .lst upd_same ((al.up ((e2.trans e3).trans (upB h3 np))).cut l u)⟩⟩
theorem o_cat {xs ys : List D} (hl : xs.length + ys.length ≤ 1000000) : OpD X (binaryOp .Add) (.lst xs) (.lst ys) (.lst (xs ++ ys)) :=
  ⟨_, op_cat, fun G σ H R B v u Q hh a b k => by
    cases a with
    | lst hp al =>
      cases b with
      | lst hq bl => exact ⟨_, _, _, _, rfl, rfl, hh.exB _ _ hp, hh.exB _ _ hq, by rw [al.length, bl.length]; exact Nat.le_trans hl (by decide), fun p np => k _ _ _ (hh.new np) (upB hh np) (.lst upd_same ((al.append bl).up (upB hh np)))⟩⟩

/-! ### and, or, not -/
theorem de_one {op} (h : DE X G a d G') : DE X G (.BoolOp op [a] pos) d G' := .of (pe_one pe_D) fun σ H R B hh => h.use hh fun v H1 B1 h1 e1 a1 => ⟨B1, h1, e1, a1⟩
theorem de_and {rest : List Expr} {k1 k2 : Bool} (ha : DE X G a (.bl k1) G) (hb : k1 = true → DE X G (.BoolOp .And (b :: rest) pos) (.bl k2) G) : DE X G (.BoolOp .And (a :: b :: rest) pos) (.bl (k1 && k2)) G :=
  .of (pe_and pe_D pe_D) fun σ H R B hh => ha.use hh fun v H1 B1 h1 e1 a1 => by
    cases a1
    refine ⟨k1, rfl, ?_⟩
    cases k1 with
    | true => exact iteT ((hb rfl).use h1 fun v H2 B2 h2 e2 a2 => ⟨B2, h2, e1.trans e2, a2⟩)
    | false => exact iteF ⟨B1, h1, e1, .bl _⟩
theorem de_or {rest : List Expr} {k1 k2 : Bool} (ha : DE X G a (.bl k1) G) (hb : k1 = false → DE X G (.BoolOp .Or (b :: rest) pos) (.bl k2) G) : DE X G (.BoolOp .Or (a :: b :: rest) pos) (.bl (k1 || k2)) G :=
  .of (pe_or pe_D pe_D) fun σ H R B hh => ha.use hh fun v H1 B1 h1 e1 a1 => by
    cases a1
    refine ⟨k1, rfl, ?_⟩
    cases k1 with
    | true => exact iteT ⟨B1, h1, e1, .bl _⟩
    | false => exact iteF ((hb rfl).use h1 fun v H2 B2 h2 e2 a2 => ⟨B2, h2, e1.trans e2, a2⟩)
theorem de_not {k : Bool} (ha : DE X G a (.bl k) G') : DE X G (.UnaryOp .Not a pos) (.bl (!k)) G' :=
  .of (pe_not pe_D) fun σ H R B hh => ha.use hh fun v H1 B1 h1 e1 a1 => by
    cases a1
    exact ⟨k, rfl, B1, h1, e1, .bl _⟩
theorem dt_val {k : Bool} (h : DE X G e (.bl k) G') (he : ∀ whole, isTrue e X.env whole = (do let v ← whole; standAt e.pos; holding [v] (truthy v)) := by intro _; rfl) : DT X G e k G' :=
  .of (pt_val pe_D he) fun σ H R B hh => h.use hh fun v H1 B1 h1 e1 a1 => by
    cases a1
    exact ⟨k, rfl, rfl, B1, h1, e1⟩
theorem dt_not {k : Bool} (h : DT X G a k G') : DT X G (.UnaryOp .Not a pos) (!k) G' :=
  .of (pt_not pt_D) fun σ H R B hh => h.use hh fun H1 B1 h1 e1 => ⟨rfl, B1, h1, e1⟩
theorem dw_and1 {k : Bool} (h : DT X G a k G') : DW X G (.BoolOp .And [a] pos) k G' := .of (pw_and1 pt_D) fun σ H R B hh => h.use hh fun H1 B1 h1 e1 => ⟨rfl, B1, h1, e1⟩
theorem dw_or1 {k : Bool} (h : DT X G a k G') : DW X G (.BoolOp .Or [a] pos) k G' := .of (pw_or1 pt_D) fun σ H R B hh => h.use hh fun H1 B1 h1 e1 => ⟨rfl, B1, h1, e1⟩
theorem dw_and {rest : List Expr} {k1 k2 : Bool} (ha : DT X G a k1 G) (hb : k1 = true → DW X G (.BoolOp .And (b :: rest) pos) k2 G) : DW X G (.BoolOp .And (a :: b :: rest) pos) (k1 && k2) G :=
  .of (pw_and pt_D pw_D) fun σ H R B hh => ha.use hh fun H1 B1 h1 e1 => by
    cases k1 with
    | true => exact iteT ((hb rfl).use h1 fun H2 B2 h2 e2 => ⟨rfl, B2, h2, e1.trans e2⟩)
    | false => exact iteF ⟨rfl, B1, h1, e1⟩
theorem dw_or {rest : List Expr} {k1 k2 : Bool} (ha : DT X G a k1 G) (hb : k1 = false → DW X G (.BoolOp .Or (b :: rest) pos) k2 G) : DW X G (.BoolOp .Or (a :: b :: rest) pos) (k1 || k2) G :=
  .of (pw_or pt_D pw_D) fun σ H R B hh => ha.use hh fun H1 B1 h1 e1 => by
    cases k1 with
    | true => exact iteT ⟨rfl, B1, h1, e1⟩
    | false => exact iteF ((hb rfl).use h1 fun H2 B2 h2 e2 => ⟨rfl, B2, h2, e1.trans e2⟩)
theorem dt_w {k : Bool} (h : DW X G e k G') : DT X G e k G' := .of pw_D.pt fun σ H R B hh => h.use hh fun H1 B1 h1 e1 => ⟨rfl, B1, h1, e1⟩

/-! ### calls of built-ins -/
def CallD (X : Cx) (f : Value) (ds : List D) (z : D) : Prop :=
  ∃ r, CallR X f r ∧ ∀ G σ H R B vs Q, Hld X.K R B H σ G → AtL X.K B vs ds → (∀ w H' B', Hld X.K R B' H' σ G → Same B B' → At X.K B' w z → Q w H') → r vs H Q
section
variable {n : Str} {id : String}
theorem de_callB (hc : CallD X (.builtin id) ds z) (hm : X.mg n = none) (hv : bootBuiltins n = some (.builtin id)) (ha : DA X G (e :: es) ds G') (hg : Gl X n := by rfl) (hn : n ≠ "__name__" := by decide) (hdb : (n == ("__debug__" : Str)) = false := by decide)
    (he : starEach (e :: es) X.env = (false, eval e X.env) :: starEach es X.env := by rfl) (hpl : (backTo pos (starEach es X.env)).any (·.1) = false := by rfl) : DE X G (.Call (.Name n p) (e :: es) [] pos) z G' := by
  obtain ⟨r, hr, k⟩ := hc
  exact .of (pe_callB hr hg hm hv pa_D hn hdb he hpl) fun σ H R B hh => ha.use hh fun vs H1 B1 h1 e1 a1 => k G' σ H1 R B1 vs _ h1 a1 fun w H2 B2 h2 e2 a2 => ⟨B2, h2, e1.trans e2, a2⟩
theorem de_callTy (hc : CallD X (.type id) ds z) (hm : X.mg n = none) (hv : bootBuiltins n = some (.type id)) (ha : DA X G (e :: es) ds G') (hg : Gl X n := by rfl) (hn : n ≠ "__name__" := by decide) (hdb : (n == ("__debug__" : Str)) = false := by decide)
    (he : starEach (e :: es) X.env = (false, eval e X.env) :: starEach es X.env := by rfl) (hpl : (backTo pos (starEach es X.env)).any (·.1) = false := by rfl) : DE X G (.Call (.Name n p) (e :: es) [] pos) z G' := by
  obtain ⟨r, hr, k⟩ := hc
  exact .of (pe_callTy hr hg hm hv pa_D hn hdb he hpl) fun σ H R B hh => ha.use hh fun vs H1 B1 h1 e1 a1 => k G' σ H1 R B1 vs _ h1 a1 fun w H2 B2 h2 e2 a2 => ⟨B2, h2, e1.trans e2, a2⟩
end
theorem AtL.one {K : PySem.W.Frag} {B : Hp} {vs : List V} (h : AtL K B vs [d]) : ∃ v, vs = [v] ∧ At K B v d := by
  cases h with
  | cons a r => cases r; exact ⟨_, rfl, a⟩
theorem AtL.two {K : PySem.W.Frag} {B : Hp} {vs : List V} (h : AtL K B vs [x, y]) : ∃ v u, vs = [v, u] ∧ At K B v x ∧ At K B u y := by
  cases h with
  | cons a r => cases r with
    | cons b r => cases r; exact ⟨_, _, rfl, a, b⟩
theorem c_len {xs : List D} : CallD X (.builtin "len") [.lst xs] (.int xs.length) :=
  ⟨_, call_len_seq, fun G σ H R B vs Q hh al0 k => by
    obtain ⟨v, rfl, a⟩ := al0.one
    cases a with
    | lst hp al => exact ⟨_, _, rfl, .inl (.of (hh.exB _ _ hp)), by rw [al.length]; exact k _ _ B hh (ext_refl B) (.int _)⟩⟩
theorem c_lenT {xs : List D} : CallD X (.builtin "len") [.tup xs] (.int xs.length) :=
  ⟨_, call_len_seq, fun G σ H R B vs Q hh al0 k => by
    obtain ⟨v, rfl, a⟩ := al0.one
    cases a with
    | tup hp al => exact ⟨_, _, rfl, .inr (.of (hh.exB _ _ hp)), by rw [al.length]; exact k _ _ B hh (ext_refl B) (.int _)⟩⟩
theorem c_lenS {xs : List Int} : CallD X (.builtin "len") [.scr xs] (.int xs.length) :=
  ⟨_, call_len_seq, fun G σ H R B vs Q hh al0 k => by
    obtain ⟨v, rfl, a⟩ := al0.one
    cases a with
    | scr hp => exact ⟨_, _, rfl, .inl (hh.exB.seq hp), by rw [List.length_map]; exact k _ _ B hh (ext_refl B) (.int _)⟩⟩
theorem c_int {i : Int} : CallD X (.type "int") [.int i] (.int i) :=
  ⟨_, call_int1, fun G σ H R B vs Q hh al0 k => by
    obtain ⟨v, rfl, a⟩ := al0.one
    cases a
    exact .inl ⟨i, rfl, k _ _ B hh (ext_refl B) (.int _)⟩⟩
theorem c_intB {b : Bool} : CallD X (.type "int") [.bl b] (.int (if b then 1 else 0)) :=
  ⟨_, call_int1, fun G σ H R B vs Q hh al0 k => by
    obtain ⟨v, rfl, a⟩ := al0.one
    cases a
    exact .inr ⟨b, rfl, k _ _ B hh (ext_refl B) (.int _)⟩⟩
theorem c_max {i j : Int} (hc : X.calm = true) : CallD X (.builtin "max") [.int i, .int j] (.int (if j > i then j else i)) :=
  ⟨_, call_max2 hc, fun G σ H R B vs Q hh al0 k => by
    obtain ⟨v, u, rfl, a, b⟩ := al0.two
    cases a
    cases b
    exact ⟨i, j, rfl, k _ _ B hh (ext_refl B) (.int _)⟩⟩
theorem c_min {i j : Int} (hc : X.calm = true) : CallD X (.builtin "min") [.int i, .int j] (.int (if j < i then j else i)) :=
  ⟨_, call_min2 hc, fun G σ H R B vs Q hh al0 k => by
    obtain ⟨v, u, rfl, a, b⟩ := al0.two
    cases a
    cases b
    exact ⟨i, j, rfl, k _ _ B hh (ext_refl B) (.int _)⟩⟩
theorem c_list {xs : List D} : CallD X (.type "list") [.lst xs] (.lst xs) :=
  ⟨_, call_list_of, fun G σ H R B vs Q hh al0 k => by
    obtain ⟨v, rfl, a⟩ := al0.one
    cases a with
    | lst hp al => exact ⟨_, _, rfl, .inl (.of (hh.exB _ _ hp)), fun l nl => k _ _ _ (hh.new nl) (upB hh nl) (.lst upd_same (al.up (upB hh nl)))⟩⟩
theorem c_tuple {xs : List D} : CallD X (.type "tuple") [.lst xs] (.tup xs) :=
  ⟨_, call_tuple_of, fun G σ H R B vs Q hh al0 k => by
    obtain ⟨v, rfl, a⟩ := al0.one
    cases a with
    | lst hp al => exact ⟨_, _, rfl, .inl ⟨.of (hh.exB _ _ hp), fun l nl => k _ _ _ (hh.new nl) (upB hh nl) (.tup upd_same (al.up (upB hh nl)))⟩⟩⟩
end
end Ax
namespace Ax
open PySem PySem.Spec L2
/-! ### changes of the slots -/
section
variable {K : PySem.W.Frag} {R B B' H H' : Hp} {σ : L2.St} {G : List Sl}
theorem get_set {α : Type} {l : List α} {i j : Nat} {x y : α} (h : (l.set i x)[j]? = some y) : (j = i ∧ y = x ∧ i < l.length) ∨ (j ≠ i ∧ l[j]? = some y) := by
  by_cases e : j = i
  · subst e
    by_cases hl : j < l.length
    · rw [List.getElem?_set_self hl] at h
      exact .inl ⟨rfl, (Option.some.inj h).symm, hl⟩
    · rw [List.getElem?_eq_none (by rw [List.length_set]; omega)] at h
      cases h
  · rw [List.getElem?_set_ne (fun q => e q.symm)] at h
    exact .inr ⟨e, h⟩
theorem Hld.set (h : Hld K R B H σ G) {v : V} {x : D} (a : At K B v x) (i : Nat) : Hld K R B H (σ.set i (some v)) (G.set i (.d x)) := by
  refine ⟨h.exR, h.exB, h.dis, by rw [List.length_set, List.length_set, h.len], fun j g e => ?_, fun j k g g' b e1 e2 o1 o2 s1 s2 => ?_⟩
  · rcases get_set e with ⟨rfl, rfl, hl⟩ | ⟨hj, e⟩
    · exact ⟨some v, List.getElem?_set_self (by rw [h.len]; exact hl), v, rfl, a⟩
    · obtain ⟨o, e1, s⟩ := h.sl j g e
      exact ⟨o, by rw [List.getElem?_set_ne (fun q => hj q.symm)]; exact e1, s⟩
  · rcases get_set e1 with ⟨rfl, rfl, hl⟩ | ⟨hj, e1⟩
    · cases o1
    · rcases get_set e2 with ⟨rfl, rfl, hl⟩ | ⟨hk, e2⟩
      · cases o2
      · rw [List.getElem?_set_ne (fun q => hj q.symm)] at s1
        rw [List.getElem?_set_ne (fun q => hk q.symm)] at s2
        exact h.app j k g g' b e1 e2 o1 o2 s1 s2
/-- a slot is forgotten -/
theorem Hld.un (h : Hld K R B H σ G) (i : Nat) : Hld K R B H σ (G.set i .un) := by
  refine ⟨h.exR, h.exB, h.dis, by rw [List.length_set, h.len], fun j g e => ?_, fun j k g g' b e1 e2 o1 o2 s1 s2 => ?_⟩
  · rcases get_set e with ⟨rfl, rfl, hl⟩ | ⟨hj, e⟩
    · obtain ⟨o, e1⟩ : ∃ o, σ[j]? = some o := ⟨σ[j]'(by rw [h.len]; exact hl), List.getElem?_eq_getElem _⟩
      exact ⟨o, e1, trivial⟩
    · exact h.sl j g e
  · rcases get_set e1 with ⟨rfl, rfl, hl⟩ | ⟨hj, e1⟩
    · cases o1
    · rcases get_set e2 with ⟨rfl, rfl, hl⟩ | ⟨hk, e2⟩
      · cases o2
      · exact h.app j k g g' b e1 e2 o1 o2 s1 s2
theorem SlOk.ol {a : Addr} {vs : List V} {xs : List D} (h1 : R a = none) (h2 : B a = none) (h3 : H a = some (.lst vs)) (h4 : AtL K B vs xs) : SlOk K R B H (some (.ref a)) (.ol xs) := ⟨a, vs, rfl, h1, h2, h3, h4⟩
theorem SlOk.od {a : Addr} {ks : List Int} (h1 : R a = none) (h2 : B a = none) (h3 : H a = some (.dK (kvD ks))) : SlOk K R B H (some (.ref a)) (.od ks) := ⟨a, rfl, h1, h2, h3⟩
theorem SlOk.ot {a : Addr} {ks : List (List Int)} (h1 : R a = none) (h2 : B a = none) (h3 : H a = some (.dT (kvT ks))) : SlOk K R B H (some (.ref a)) (.ot ks) := ⟨a, rfl, h1, h2, h3⟩
theorem SlOk.sf {a dx : Addr} {c : Str} {vf : List (Str × V)} {fs : List (Str × D)} (h1 : R a = none) (h2 : B a = none) (h3 : H a = some (.ins (He.ga K c) dx vf)) (h4 : AtF K B vf fs) : SlOk K R B H (some (.ref a)) (.sf a c fs) := ⟨dx, vf, rfl, h1, h2, h3, h4⟩
theorem SlOk.pl {a : Addr} {vs : List V} {xs : List D} (h1 : R a = none) (h2 : B a = none) (h3 : H a = some (.lst vs)) (h4 : AtL K B vs xs) : SlOk K R B H (some (.ref a)) (.pl a xs) := ⟨vs, rfl, h1, h2, h3, h4⟩
theorem SlOk.addr {o : Option V} {g : Sl} (s : SlOk K R B H o g) (hg : g.own = true) : ∃ a u, o = some (.ref a) ∧ R a = none ∧ B a = none ∧ H a = some u := by
  cases g with
  | un => cases hg
  | d x => cases hg
  | ol xs => obtain ⟨a, vs, e, h1, h2, h3, _⟩ := s; exact ⟨a, _, e, h1, h2, h3⟩
  | od ks => obtain ⟨a, e, h1, h2, h3⟩ := s; exact ⟨a, _, e, h1, h2, h3⟩
  | ot ks => obtain ⟨a, e, h1, h2, h3⟩ := s; exact ⟨a, _, e, h1, h2, h3⟩
  | sf a c fs => obtain ⟨dx, vf, e, h1, h2, h3, _⟩ := s; exact ⟨a, _, e, h1, h2, h3⟩
  | pl a xs => obtain ⟨vs, e, h1, h2, h3, _⟩ := s; exact ⟨a, _, e, h1, h2, h3⟩
/-- a slot becomes one's own new object -/
theorem Hld.own (h : Hld K R B H σ G) {p : Addr} {u : HO} {g : Sl} (hp : H p = none) (i : Nat) (hg : SlOk K R B (upd H p u) (some (.ref p)) g) : Hld K R B (upd H p u) (σ.set i (some (.ref p))) (G.set i g) := by
  have hj := h.junk (H' := upd H p u) (ext_new hp)
  have fresh : ∀ (j : Nat) (g' : Sl) (b : Addr), G[j]? = some g' → g'.own = true → σ[j]? = some (some (.ref b)) → b ≠ p := fun j g' b e o s q => by
    obtain ⟨o', e1, sk⟩ := h.sl j g' e
    obtain ⟨a, u', e2, _, _, e3⟩ := sk.addr o
    rw [s] at e1
    cases e1
    cases e2
    rw [q, hp] at e3
    cases e3
  refine ⟨hj.exR, hj.exB, hj.dis, by rw [List.length_set, List.length_set, h.len], fun j g' e => ?_, fun j k g1 g2 b e1 e2 o1 o2 s1 s2 => ?_⟩
  · rcases get_set e with ⟨rfl, rfl, hl⟩ | ⟨hji, e⟩
    · exact ⟨_, List.getElem?_set_self (by rw [h.len]; exact hl), hg⟩
    · obtain ⟨o, e1, s⟩ := hj.sl j g' e
      exact ⟨o, by rw [List.getElem?_set_ne (fun q => hji q.symm)]; exact e1, s⟩
  · rcases get_set e1 with ⟨rfl, rfl, hl⟩ | ⟨hji, e1⟩
    · rcases get_set e2 with ⟨rfl, rfl, hl2⟩ | ⟨hki, e2⟩
      · rfl
      · rw [List.getElem?_set_self (by rw [h.len]; exact hl)] at s1
        rw [List.getElem?_set_ne (fun q => hki q.symm)] at s2
        cases s1
        exact absurd rfl (fresh k g2 p e2 o2 s2)
    · rw [List.getElem?_set_ne (fun q => hji q.symm)] at s1
      rcases get_set e2 with ⟨hk, hg2, hl2⟩ | ⟨hki, e2⟩
      · rw [hk, List.getElem?_set_self (by rw [h.len]; exact hl2)] at s2
        cases s2
        exact absurd rfl (fresh j g1 _ e1 o1 s1)
      · rw [List.getElem?_set_ne (fun q => hki q.symm)] at s2
        exact h.app j k g1 g2 b e1 e2 o1 o2 s1 s2
/-- one's own object at slot i is changed -/
theorem Hld.mut (h : Hld K R B H σ G) {i : Nat} {g g' : Sl} {a : Addr} {u : HO} (hi : G[i]? = some g) (ho : g.own = true) (hs : σ[i]? = some (some (.ref a))) (ho' : g'.own = true) (hg : SlOk K R B (upd H a u) (some (.ref a)) g') : Hld K R B (upd H a u) σ (G.set i g') := by
  obtain ⟨o', e1, sk⟩ := h.sl i g hi
  obtain ⟨a', u', e2, hR, hB, e3⟩ := sk.addr ho
  rw [hs] at e1
  cases e1
  cases e2
  have neR : ∀ q o, R q = some o → q ≠ a := fun q o e z => by rw [z, hR] at e; cases e
  have neB : ∀ q o, B q = some o → q ≠ a := fun q o e z => by rw [z, hB] at e; cases e
  refine ⟨fun q o e => by rw [upd_ne (neR q o e)]; exact h.exR q o e, fun q o e => by rw [upd_ne (neB q o e)]; exact h.exB q o e, h.dis, by rw [List.length_set, h.len], fun j g1 e => ?_, fun j k g1 g2 b e1 e2 o1 o2 s1 s2 => ?_⟩
  · rcases get_set e with ⟨rfl, rfl, hl⟩ | ⟨hji, e⟩
    · exact ⟨_, hs, hg⟩
    · obtain ⟨o, e1, s⟩ := h.sl j g1 e
      refine ⟨o, e1, ?_⟩
      have ne : ∀ b, g1.own = true → o = some (.ref b) → b ≠ a := fun b q1 q2 z => by
        rw [q2, z] at e1
        exact hji (h.app j i g1 g a e hi q1 ho e1 hs)
      cases g1 with
      | un => trivial
      | d x => exact s
      | ol xs => obtain ⟨b, vs, e, h1, h2, h3, h4⟩ := s; exact ⟨b, vs, e, h1, h2, by rw [upd_ne (ne b rfl e)]; exact h3, h4⟩
      | od ks => obtain ⟨b, e, h1, h2, h3⟩ := s; exact ⟨b, e, h1, h2, by rw [upd_ne (ne b rfl e)]; exact h3⟩
      | ot ks => obtain ⟨b, e, h1, h2, h3⟩ := s; exact ⟨b, e, h1, h2, by rw [upd_ne (ne b rfl e)]; exact h3⟩
      | sf b c fs => obtain ⟨dx, vf, e, h1, h2, h3, h4⟩ := s; exact ⟨dx, vf, e, h1, h2, by rw [upd_ne (ne b rfl e)]; exact h3, h4⟩
      | pl b xs => obtain ⟨vs, e, h1, h2, h3, h4⟩ := s; exact ⟨vs, e, h1, h2, by rw [upd_ne (ne b rfl e)]; exact h3, h4⟩
  · have back : ∀ (j : Nat) (g1 : Sl), (G.set i g')[j]? = some g1 → g1.own = true → ∃ g0, G[j]? = some g0 ∧ g0.own = true := fun j g1 e o => by
      rcases get_set e with ⟨rfl, rfl, hl⟩ | ⟨hji, e⟩
      · exact ⟨g, hi, ho⟩
      · exact ⟨g1, e, o⟩
    obtain ⟨g3, e3', o3⟩ := back j g1 e1 o1
    obtain ⟨g4, e4, o4⟩ := back k g2 e2 o2
    exact h.app j k g3 g4 b e3' e4 o3 o4 s1 s2
/-- one's own list at slot i becomes data -/
theorem Hld.frz (h : Hld K R B H σ G) {i : Nat} {xs : List D} (hi : G[i]? = some (.ol xs)) : ∃ B', Hld K R B' H σ (G.set i (.d (.lst xs))) ∧ Same B B' := by
  obtain ⟨o, e1, a, vs, rfl, hR, hB, hH, al⟩ := h.sl i _ hi
  have sm : Same B (upd B a (.lst vs)) := ext_new hB
  refine ⟨upd B a (.lst vs), ⟨h.exR, fun q o e => ?_, fun q o e => ?_, by rw [List.length_set, h.len], fun j g e => ?_, fun j k g1 g2 b e1 e2 o1 o2 s1 s2 => ?_⟩, sm⟩
  · by_cases hq : q = a
    · subst hq; rw [upd_same] at e; cases e; exact hH
    · rw [upd_ne hq] at e; exact h.exB q o e
  · have : q ≠ a := fun z => by rw [z, hR] at e; cases e
    rw [upd_ne this]; exact h.dis q o e
  · rcases get_set e with ⟨rfl, rfl, hl⟩ | ⟨hji, e⟩
    · exact ⟨_, e1, _, rfl, .lst upd_same (al.up sm)⟩
    · obtain ⟨o, e2, s⟩ := h.sl j g e
      refine ⟨o, e2, ?_⟩
      have ne : ∀ b, g.own = true → o = some (.ref b) → b ≠ a := fun b q1 q2 z => by
        rw [q2, z] at e2
        exact hji (h.app j i g _ a e hi q1 rfl e2 e1)
      cases g with
      | un => trivial
      | d x => obtain ⟨v, e, q⟩ := s; exact ⟨v, e, q.up sm⟩
      | ol xs => obtain ⟨b, vs, e, h1, h2, h3, h4⟩ := s; exact ⟨b, vs, e, h1, by rw [upd_ne (ne b rfl e)]; exact h2, h3, h4.up sm⟩
      | od ks => obtain ⟨b, e, h1, h2, h3⟩ := s; exact ⟨b, e, h1, by rw [upd_ne (ne b rfl e)]; exact h2, h3⟩
      | ot ks => obtain ⟨b, e, h1, h2, h3⟩ := s; exact ⟨b, e, h1, by rw [upd_ne (ne b rfl e)]; exact h2, h3⟩
      | sf b c fs => obtain ⟨dx, vf, e, h1, h2, h3, h4⟩ := s; exact ⟨dx, vf, e, h1, by rw [upd_ne (ne b rfl e)]; exact h2, h3, h4.up sm⟩
      | pl b xs => obtain ⟨vs, e, h1, h2, h3, h4⟩ := s; exact ⟨vs, e, h1, by rw [upd_ne (ne b rfl e)]; exact h2, h3, h4.up sm⟩
  · rcases get_set e1 with ⟨rfl, rfl, hl⟩ | ⟨hj, e1⟩
    · cases o1
    · rcases get_set e2 with ⟨rfl, rfl, hl⟩ | ⟨hk, e2⟩
      · cases o2
      · exact h.app j k g1 g2 b e1 e2 o1 o2 s1 s2
end

/-! ### statements -/
structure DEnds where
  nx : List Sl → Prop
  rt : D → List Sl → Prop
  bk : List Sl → Prop := fun _ => False
  ct : List Sl → Prop := fun _ => False
section
variable (X : Cx)
def kS (R B : Hp) (P : List Sl → Prop) : L2.St → Hp → Prop := fun σ' H' => ∃ G' B', Hld X.K R B' H' σ' G' ∧ Same B B' ∧ P G'
def kR (R B : Hp) (P : D → List Sl → Prop) : VK := fun v H' => ∃ σ' G' B' d, Hld X.K R B' H' σ' G' ∧ Same B B' ∧ At X.K B' v d ∧ P d G'
def ends (R B : Hp) (E : DEnds) : Ends := { nx := kS X R B E.nx, rt := kR X R B E.rt, bk := kS X R B E.bk, ct := kS X R B E.ct }
structure DS (G : List Sl) (st : Stmt) (E : DEnds) : Prop where
  run : ∀ (pins : List (Addr × Obj)) (s : Shared) (σ : L2.St) (H R B : Hp), Inv X pins σ H s → Hld X.K R B H σ G → wpAny (model X.prog X.w) X.A (exec st X.env) (SP X pins (ends X R B E)) X.xe s
structure DSs (G : List Sl) (st : List Stmt) (E : DEnds) : Prop where
  run : ∀ (pins : List (Addr × Obj)) (s : Shared) (σ : L2.St) (H R B : Hp), Inv X pins σ H s → Hld X.K R B H σ G → wpAny (model X.prog X.w) X.A (execs st X.env) (SP X pins (ends X R B E)) X.xe s
end
section
variable {X : Cx} {G G1 G2 : List Sl} {st : Stmt} {sts : List Stmt} {E : DEnds} {e a b c : Expr} {d : D} {pos pos' : Pos} {R B B' : Hp}
theorem kS.up {P : List Sl → Prop} {σ : L2.St} {H : Hp} (s : Same B B') (h : kS X R B' P σ H) : kS X R B P σ H := by
  obtain ⟨G', B2, h1, h2, h3⟩ := h
  exact ⟨G', B2, h1, s.trans h2, h3⟩
theorem kR.up {P : D → List Sl → Prop} {v : V} {H : Hp} (s : Same B B') (h : kR X R B' P v H) : kR X R B P v H := by
  obtain ⟨σ', G', B2, d, h1, h2, h3, h4⟩ := h
  exact ⟨σ', G', B2, d, h1, s.trans h2, h3, h4⟩
theorem SP.imp {pins : List (Addr × Obj)} {A A' : Ends} {f : Flow} {s : Shared} (h : SP X pins A f s) (h1 : ∀ σ H, A.nx σ H → A'.nx σ H) (h2 : ∀ v H, A.rt v H → A'.rt v H) (h3 : ∀ σ H, A.bk σ H → A'.bk σ H) (h4 : ∀ σ H, A.ct σ H → A'.ct σ H) : SP X pins A' f s := by
  cases f with
  | next => obtain ⟨σ', H', I, q⟩ := h; exact ⟨σ', H', I, h1 _ _ q⟩
  | brk => obtain ⟨σ', H', I, q⟩ := h; exact ⟨σ', H', I, h3 _ _ q⟩
  | cont => obtain ⟨σ', H', I, q⟩ := h; exact ⟨σ', H', I, h4 _ _ q⟩
  | ret u => obtain ⟨v, σ', H', I, r, q⟩ := h; exact ⟨v, σ', H', I, r, h2 _ _ q⟩
/-- their readings -/
def tS (X : Cx) (sts : List Stmt) : TS := fun A σ H => ∃ G R B E, DSs X G sts E ∧ Hld X.K R B H σ G ∧ (∀ σ H, kS X R B E.nx σ H → A.nx σ H) ∧ (∀ v H, kR X R B E.rt v H → A.rt v H) ∧ (∀ σ H, kS X R B E.bk σ H → A.bk σ H) ∧ ∀ σ H, kS X R B E.ct σ H → A.ct σ H
theorem pss_D : PSs X sts (tS X sts) := ⟨fun pins s σ H A I h => by
  obtain ⟨G, R, B, E, hd, hh, h1, h2, h3, h4⟩ := h
  exact thn (hd.run pins s σ H R B I hh) fun f s' q => SP.imp q h1 h2 h3 h4⟩
theorem DS.of {t : TS} (h : PS X st t) (q : ∀ σ H R B, Hld X.K R B H σ G → t (ends X R B E) σ H) : DS X G st E := ⟨fun pins s σ H R B I hh => h.run pins s σ H _ I (q σ H R B hh)⟩
theorem DSs.of {t : TS} (h : PSs X sts t) (q : ∀ σ H R B, Hld X.K R B H σ G → t (ends X R B E) σ H) : DSs X G sts E := ⟨fun pins s σ H R B I hh => h.run pins s σ H _ I (q σ H R B hh)⟩
theorem DSs.use {A : Ends} {σ : L2.St} {H : Hp} (h : DSs X G sts E) (hh : Hld X.K R B H σ G) (h1 : ∀ σ H, kS X R B E.nx σ H → A.nx σ H) (h2 : ∀ v H, kR X R B E.rt v H → A.rt v H) (h3 : ∀ σ H, kS X R B E.bk σ H → A.bk σ H) (h4 : ∀ σ H, kS X R B E.ct σ H → A.ct σ H) : tS X sts A σ H :=
  ⟨G, R, B, E, h, hh, h1, h2, h3, h4⟩
theorem dss_nil (h : E.nx G) : DSs X G [] E := .of pss_nil fun σ H R B hh => ⟨G, B, hh, ext_refl B, h⟩
theorem dss_cons (h : DS X G st { E with nx := fun G' => DSs X G' sts E }) : DSs X G (st :: sts) E := ⟨fun pins s σ H R B I hh => by
  refine wpAny_execs_cons (thn (h.run pins s σ H R B I hh) fun f s1 q => ?_)
  cases f with
  | next =>
    obtain ⟨σ', H', I', G', B', h1, h2, h3⟩ := q
    exact thn (h3.run pins s1 σ' H' R B' I' h1) fun f s2 q2 => SP.imp q2 (fun _ _ z => kS.up h2 z) (fun _ _ z => kR.up h2 z) (fun _ _ z => kS.up h2 z) fun _ _ z => kS.up h2 z
  | ret v => exact q
  | brk => exact q
  | cont => exact q⟩
theorem dss_one (h : DS X G st E) : DSs X G [st] E := dss_cons ⟨fun pins s σ H R B I hh => thn (h.run pins s σ H R B I hh) fun f s1 q => SP.imp q (fun σ H ⟨G', B', h1, h2, h3⟩ => ⟨G', B', h1, h2, dss_nil h3⟩) (fun _ _ z => z) (fun _ _ z => z) fun _ _ z => z⟩
theorem DSs.imp {E' : DEnds} (h : DSs X G sts E') (h1 : ∀ G, E'.nx G → E.nx G) (h2 : ∀ d G, E'.rt d G → E.rt d G) (h3 : ∀ G, E'.bk G → E.bk G) (h4 : ∀ G, E'.ct G → E.ct G) : DSs X G sts E :=
  ⟨fun pins s σ H R B I hh => thn (h.run pins s σ H R B I hh) fun f s1 q => SP.imp q (fun σ H ⟨G', B', q1, q2, q3⟩ => ⟨G', B', q1, q2, h1 _ q3⟩) (fun v H ⟨σ', G', B', d, q1, q2, q3, q4⟩ => ⟨σ', G', B', d, q1, q2, q3, h2 _ _ q4⟩) (fun σ H ⟨G', B', q1, q2, q3⟩ => ⟨G', B', q1, q2, h3 _ q3⟩) fun σ H ⟨G', B', q1, q2, q3⟩ => ⟨G', B', q1, q2, h4 _ q3⟩⟩
/-- one's own list becomes data -/
theorem dss_frz (i : Nat) {xs : List D} (hi : G[i]? = some (.ol xs)) (h : DSs X (G.set i (.d (.lst xs))) sts E) : DSs X G sts E := ⟨fun pins s σ H R B I hh => by
  obtain ⟨B', h1, h2⟩ := hh.frz hi
  exact thn (h.run pins s σ H R B' I h1) fun f s2 q2 => SP.imp q2 (fun _ _ z => kS.up h2 z) (fun _ _ z => kR.up h2 z) (fun _ _ z => kS.up h2 z) fun _ _ z => kS.up h2 z⟩
theorem dss_un (i : Nat) (h : DSs X (G.set i .un) sts E) : DSs X G sts E := ⟨fun pins s σ H R B I hh => h.run pins s σ H R B I (hh.un i)⟩
theorem ds_ret (h : DE X G e d G1) (k : E.rt d G1) : DS X G (.Return (some e) pos) E := .of (ps_ret pe_D) fun σ H R B hh => h.use hh fun v H1 B1 h1 e1 a1 => ⟨σ, G1, B1, d, h1, e1, a1, k⟩
theorem ds_if {bb : Bool} {s1 s2 : List Stmt} (h : DT X G c bb G1) (h1 : bb = true → DSs X G1 s1 E) (h2 : bb = false → DSs X G1 s2 E) : DS X G (.If c s1 s2 pos) E :=
  .of (ps_if pt_D pss_D pss_D) fun σ H R B hh => h.use hh fun H1 B1 hh1 e1 => by
    cases bb with
    | true => exact iteT ((h1 rfl).use hh1 (fun _ _ z => kS.up e1 z) (fun _ _ z => kR.up e1 z) (fun _ _ z => kS.up e1 z) fun _ _ z => kS.up e1 z)
    | false => exact iteF ((h2 rfl).use hh1 (fun _ _ z => kS.up e1 z) (fun _ _ z => kR.up e1 z) (fun _ _ z => kS.up e1 z) fun _ _ z => kS.up e1 z)
theorem ds_set (i : Nat) {x : Str} (h : DE X G e d G1) (k : E.nx (G1.set i (.d d))) (hN : X.N.Nodup) (hi : X.N[i]? = some x := by rfl) (hx : Loc X.env.scope x := by first | exact Or.inl rfl | exact Or.inr rfl) (hs : swapsWith e (some (.Name x pos')) pos.line X.env = pure false := by rfl) (hf : X.fn x = true ∨ X.env.scope.names.lookup x = some .local := by first | exact .inl rfl | exact .inr rfl) : DS X G (.Assign [.Name x pos'] e pos) E :=
  .of (ps_set hN hi hx pe_D hs hf) fun σ H R B hh => h.use hh fun v H1 B1 h1 e1 a1 => ⟨_, B1, h1.set a1 i, e1, k⟩
/-- x = [..], to be a list of one's own -/
theorem ds_own (i : Nat) {x : Str} {es : List Expr} {ds : List D} {lpos : Pos} (h : DA X G es ds G1) (k : E.nx (G1.set i (.ol ds))) (hN : X.N.Nodup) (hl : ds.length ≤ 1000000 := by first | decide | exact Nat.le_of_ble_eq_true rfl) (hi : X.N[i]? = some x := by rfl) (hx : Loc X.env.scope x := by first | exact Or.inl rfl | exact Or.inr rfl) (hs : swapsWith (.List es lpos) (some (.Name x pos')) pos.line X.env = pure false := by rfl) (hf : X.fn x = true ∨ X.env.scope.names.lookup x = some .local := by first | exact .inl rfl | exact .inr rfl) : DS X G (.Assign [.Name x pos'] (.List es lpos) pos) E :=
  .of (ps_set hN hi hx (pe_lst pa_D) hs hf) fun σ H R B hh => h.use hh fun vs H1 B1 h1 e1 a1 => ⟨by rw [a1.length]; exact Nat.le_trans hl (by decide), fun p hp => by
    have hb : B1 p = none := by
      cases q : B1 p with
      | none => rfl
      | some u => rw [h1.exB _ _ q] at hp; cases hp
    have hR : R p = none := by
      cases q : R p with
      | none => rfl
      | some u => rw [h1.exR _ _ q] at hp; cases hp
    exact ⟨_, B1, h1.own hp i (.ol hR hb upd_same a1), e1, k⟩⟩
theorem ds_ownD (i : Nat) {x : Str} {dpos : Pos} (k : E.nx (G.set i (.od []))) (hN : X.N.Nodup) (hi : X.N[i]? = some x := by rfl) (hx : Loc X.env.scope x := by first | exact Or.inl rfl | exact Or.inr rfl) (hs : swapsWith (.Dict [] [] dpos) (some (.Name x pos')) pos.line X.env = pure false := by rfl) (hf : X.fn x = true ∨ X.env.scope.names.lookup x = some .local := by first | exact .inl rfl | exact .inr rfl) : DS X G (.Assign [.Name x pos'] (.Dict [] [] dpos) pos) E :=
  .of (ps_set hN hi hx pe_dnewK hs hf) fun σ H R B hh p hp => by
    have hb : B p = none := by
      cases q : B p with
      | none => rfl
      | some u => rw [hh.exB _ _ q] at hp; cases hp
    have hR : R p = none := by
      cases q : R p with
      | none => rfl
      | some u => rw [hh.exR _ _ q] at hp; cases hp
    exact ⟨_, B, hh.own hp i (.od (ks := []) hR hb upd_same), ext_refl B, k⟩
theorem ds_ownT (i : Nat) {x : Str} {dpos : Pos} (k : E.nx (G.set i (.ot []))) (hN : X.N.Nodup) (hi : X.N[i]? = some x := by rfl) (hx : Loc X.env.scope x := by first | exact Or.inl rfl | exact Or.inr rfl) (hs : swapsWith (.Dict [] [] dpos) (some (.Name x pos')) pos.line X.env = pure false := by rfl) (hf : X.fn x = true ∨ X.env.scope.names.lookup x = some .local := by first | exact .inl rfl | exact .inr rfl) : DS X G (.Assign [.Name x pos'] (.Dict [] [] dpos) pos) E :=
  .of (ps_set hN hi hx pe_dnewT hs hf) fun σ H R B hh p hp => by
    have hb : B p = none := by
      cases q : B p with
      | none => rfl
      | some u => rw [hh.exB _ _ q] at hp; cases hp
    have hR : R p = none := by
      cases q : R p with
      | none => rfl
      | some u => rw [hh.exR _ _ q] at hp; cases hp
    exact ⟨_, B, hh.own hp i (.ot (ks := []) hR hb upd_same), ext_refl B, k⟩
theorem ds_par (i j : Nat) {x y : Str} {d' : D} {px py pt : Pos} {kt k2 pt2} (ha : DA X G [a, b] [d, d'] G1) (k : E.nx ((G1.set i (.d d)).set j (.d d'))) (hN : X.N.Nodup) (hc : X.calm = true) (hi : X.N[i]? = some x := by rfl) (hj : X.N[j]? = some y := by rfl) (hij : i ≠ j := by decide)
    (hx : X.env.scope.names.lookup x = some .local := by rfl) (hy : X.env.scope.names.lookup y = some .local := by rfl)
    (hw : swappedStores [.Tuple [.Name x px, .Name y py] kt pt] (.Tuple [a, b] k2 pt2) X.env = pure (some [x, y]) := by rfl)
    (hs : swapsWithSole [.Tuple [.Name x px, .Name y py] kt pt] (.Tuple [a, b] k2 pt2) pos.line X.env = pure false := by rfl) : DS X G (.Assign [.Tuple [.Name x px, .Name y py] kt pt] (.Tuple [a, b] k2 pt2) pos) E :=
  .of (ps_par hc hN hi hj hij hx hy pa_D hw hs) fun σ H R B hh => ha.use hh fun vs H1 B1 h1 e1 a1 => by
    obtain ⟨v, u, rfl, q1, q2⟩ := a1.two
    exact ⟨v, u, rfl, _, B1, (h1.set q1 i).set q2 j, e1, k⟩
theorem ds_drop (h : DE X G e d G1) (k : E.nx G1) (hs : swapsWith e none pos.line X.env = pure false := by rfl) : DS X G (.Expr e pos) E := .of (ps_expr pe_D hs) fun σ H R B hh => h.use hh fun v H1 B1 h1 e1 a1 => ⟨G1, B1, h1, e1, k⟩
theorem ds_aug (i : Nat) {x : Str} {m n : Int} {op : Operator} {f : Int → Int → Int} (hp : PIp X op (ipI f)) (hg : G[i]? = some (.d (.int m))) (h : DE X G e (.int n) G1) (k : E.nx (G1.set i (.d (.int (f m n))))) (hN : X.N.Nodup) (hi : X.N[i]? = some x := by rfl) (hx : Loc X.env.scope x := by first | exact Or.inl rfl | exact Or.inr rfl) (hf : X.fn x = true ∨ X.env.scope.names.lookup x = some .local := by first | exact .inl rfl | exact .inr rfl) : DS X G (.AugAssign (.Name x pos') op e pos) E :=
  .of (ps_aug hN hi hx pe_D hp hf) fun σ H R B hh => by
    obtain ⟨o, e0, v, rfl, q⟩ := hh.sl i _ hg
    cases q
    refine ⟨_, e0, h.use hh fun u H1 B1 h1 e1 a1 => ?_⟩
    cases a1
    exact ⟨m, n, rfl, rfl, _, B1, h1.set (.int _) i, e1, k⟩
/-- x.append(e), x one's own list -/
theorem ds_app (i : Nat) {x : Str} {xs : List D} {px ap cp : Pos} (h : DE X G e d G1) (hg : G[i]? = some (.ol xs)) (hg1 : G1[i]? = some (.ol xs)) (hz : xs.length < 1000000) (k : E.nx (G1.set i (.ol (xs ++ [d])))) (hi : X.N[i]? = some x := by rfl) (hv : Vis X.env.scope x := by first | exact Or.inl rfl | exact Or.inr (Or.inl rfl) | exact Or.inr (Or.inr rfl))
    (hd : (x == ("__debug__" : Str)) = false := by decide) (hcd : (x == ("__classdict__" : Str)) = false := by decide)
    (hs : swapsWith (.Call (.Attribute (.Name x px) "append" ap) [e] [] cp) none pos.line X.env = pure false := by rfl) (hbase : attributeBase (.Name x px) "append" X.env (eval (.Name x px) X.env) = eval (.Name x px) X.env := by rfl)
    (hfew : ((backTo cp (starEach [e] X.env)).all (fun x => !x.1) && (backToKw cp (keywordEach [] X.env)).all (fun x => x.1.isSome)
      && decide ([e].length + ([] : List Keyword).length + (if ([] : List Keyword).isEmpty then 0 else 1) < 30)) = true := by rfl)
    (hline : (ap.endLine == cp.line) = true := by rfl) (hst : starEach [e] X.env = (false, eval e X.env) :: starEach [] X.env := by rfl) (hplain : (backTo cp (starEach [] X.env)).any (·.1) = false := by rfl) :
    DS X G (.Expr (.Call (.Attribute (.Name x px) "append" ap) [e] [] cp) pos) E :=
  .of (ps_expr (pe_bm PySem.F.plainAttrs_list PySem.F.slot_list_append PySem.F.type_list_append mt_append (pe_var hi hv hd hcd) (pa_cons pe_D pa_nil hst) hbase hfew hline hst hplain) hs) fun σ H R B hh => by
    obtain ⟨o, e0, a, vs, rfl, hR, hB, hH, al⟩ := hh.sl i _ hg
    refine ⟨_, e0, .inl ⟨rfl, _, SqL.of hH⟩, h.use hh fun v H1 B1 h1 e1 a1 => ?_⟩
    obtain ⟨o', e0', a', vs', rfl, hR', hB', hH', al'⟩ := h1.sl i _ hg1
    rw [e0] at e0'
    cases e0'
    exact ⟨a, vs', v, rfl, rfl, hH', by rw [al'.length]; exact Nat.lt_of_lt_of_le hz (by decide), _, B1, h1.mut hg1 rfl e0 rfl (.ol hR' hB' upd_same (al'.append (.cons a1 .nil))), e1, k⟩
end
end Ax
namespace Ax
open PySem PySem.Spec L2
/-! ### targets -/
section
variable (X : Cx)
structure DG (G : List Sl) (tg : Expr) (x : D) (G' : List Sl) (is : List Nat) : Prop where
  run : ∀ (pins : List (Addr × Obj)) (s : Shared) (σ : L2.St) (H R B : Hp) (v : V) (u : Value), Inv X pins σ H s → RelV v u → Hld X.K R B H σ G → At X.K B v x →
    wpAny (model X.prog X.w) X.A (assign tg X.env u) (fun _ s' => ∃ σ' H', Inv X pins σ' H' s' ∧ H' = H ∧ Hld X.K R B H σ' G' ∧ ∀ vs, (∀ i ∈ is, i ∈ vs) → wipe σ' vs = wipe σ vs) X.xe s
structure DGs (G : List Sl) (ts : List Expr) (xs : List D) (G' : List Sl) (is : List Nat) : Prop where
  run : ∀ (pins : List (Addr × Obj)) (s : Shared) (σ : L2.St) (H R B : Hp) (vs : List V) (us : List Value), Inv X pins σ H s → Vals vs us → Hld X.K R B H σ G → AtL X.K B vs xs →
    wpAny (model X.prog X.w) X.A (assignInOrder ((assignEach ts X.env).map (·.2)) us) (fun _ s' => ∃ σ' H', Inv X pins σ' H' s' ∧ H' = H ∧ Hld X.K R B H σ' G' ∧ ∀ vs, (∀ i ∈ is, i ∈ vs) → wipe σ' vs = wipe σ vs) X.xe s
def tG (tg : Expr) : TG := fun v σ H Q => ∃ G x G' is R B, DG X G tg x G' is ∧ Hld X.K R B H σ G ∧ At X.K B v x ∧ ∀ σ', Hld X.K R B H σ' G' → (∀ vs, (∀ i ∈ is, i ∈ vs) → wipe σ' vs = wipe σ vs) → Q σ' H
def tGs (ts : List Expr) : TGs := fun v σ H Q => ∃ G x G' is R B, DGs X G ts x G' is ∧ Hld X.K R B H σ G ∧ AtL X.K B v x ∧ ∀ σ', Hld X.K R B H σ' G' → (∀ vs, (∀ i ∈ is, i ∈ vs) → wipe σ' vs = wipe σ vs) → Q σ' H
end
section
variable {X : Cx} {G G0 G1 G2 G' : List Sl} {e it tg a b c : Expr} {es ts : List Expr} {x d : D} {xs ds : List D} {is js : List Nat} {pos pos' p : Pos} {E : DEnds} {body : List Stmt}
theorem pg_D : PG X tg (tG X tg) := ⟨fun pins s σ H v u Q I r h => by
  obtain ⟨G, x, G', is, R, B, hd, hh, a, k⟩ := h
  exact thn (hd.run pins s σ H R B v u I r hh a) fun _ s' ⟨σ', H', I', e, h1, h2⟩ => ⟨σ', H', I', e ▸ k σ' h1 h2⟩⟩
theorem pgs_D : PGs X ts (tGs X ts) := ⟨fun pins s σ H v u Q I r h => by
  obtain ⟨G, x, G', is, R, B, hd, hh, a, k⟩ := h
  exact thn (hd.run pins s σ H R B v u I r hh a) fun _ s' ⟨σ', H', I', e, h1, h2⟩ => ⟨σ', H', I', e ▸ k σ' h1 h2⟩⟩
theorem wipe_in {σ : L2.St} {j : Nat} : ∀ {vs : List Nat}, j ∈ vs → (wipe σ vs)[j]? = if j < σ.length then some none else none
  | [], h => by cases h
  | v :: vs, h => by
    show ((wipe σ vs).set v none)[j]? = _
    by_cases hv : v = j
    · subst hv
      rw [List.getElem?_set, wipe_length]
      simp
    · rw [List.getElem?_set_ne hv]
      exact wipe_in ((List.mem_cons.mp h).resolve_left fun q => hv q.symm)
theorem wipe_set {σ : L2.St} {i : Nat} {o : Option V} {vs : List Nat} (h : i ∈ vs) : wipe (σ.set i o) vs = wipe σ vs := by
  refine List.ext_getElem? fun j => ?_
  by_cases hj : j ∈ vs
  · rw [wipe_in hj, wipe_in hj, List.length_set]
  · rw [wipe_out hj, wipe_out hj, List.getElem?_set_ne fun q => hj (by rw [← q]; exact h)]
theorem dg_name (i : Nat) {n : Str} (hN : X.N.Nodup) (hi : X.N[i]? = some n := by rfl) (hx : Loc X.env.scope n := by first | exact Or.inl rfl | exact Or.inr rfl) (hf : X.fn n = true ∨ X.env.scope.names.lookup n = some .local := by first | exact .inl rfl | exact .inr rfl) : DG X G (.Name n pos) x (G.set i (.d x)) [i] :=
  ⟨fun pins s σ H R B v u I r hh a => (pg_name hN hi hx hf).run pins s σ H v u _ I r ⟨rfl, hh.set a i, fun vs h => wipe_set (h i (List.mem_singleton.mpr rfl))⟩⟩
theorem DG.use {Q : L2.St → Hp → Prop} {σ : L2.St} {H R B : Hp} {v : V} (h : DG X G tg x G' is) (hh : Hld X.K R B H σ G) (a : At X.K B v x) (k : ∀ σ', Hld X.K R B H σ' G' → (∀ vs, (∀ i ∈ is, i ∈ vs) → wipe σ' vs = wipe σ vs) → Q σ' H) : tG X tg v σ H Q := ⟨G, x, G', is, R, B, h, hh, a, k⟩
theorem DGs.use {Q : L2.St → Hp → Prop} {σ : L2.St} {H R B : Hp} {v : List V} (h : DGs X G ts xs G' is) (hh : Hld X.K R B H σ G) (a : AtL X.K B v xs) (k : ∀ σ', Hld X.K R B H σ' G' → (∀ vs, (∀ i ∈ is, i ∈ vs) → wipe σ' vs = wipe σ vs) → Q σ' H) : tGs X ts v σ H Q := ⟨G, xs, G', is, R, B, h, hh, a, k⟩
theorem dgs_nil : DGs X G [] [] G [] := ⟨fun pins s σ H R B vs us I r hh a => pgs_nil.run pins s σ H vs us _ I r (by cases a; exact ⟨rfl, rfl, hh, fun _ _ => rfl⟩)⟩
theorem dgs_cons (h : DG X G e x G1 is) (hr : DGs X G1 es xs G2 js) (hs : (assignEach (e :: es) X.env).map (·.2) = assign e X.env :: (assignEach es X.env).map (·.2) := by rfl) : DGs X G (e :: es) (x :: xs) G2 (is ++ js) :=
  ⟨fun pins s σ H R B vs us I r hh a => (pgs_cons pg_D pgs_D hs).run pins s σ H vs us _ I r (by
    cases a with
    | cons a1 a2 => exact ⟨_, _, rfl, h.use hh a1 fun σ1 h1 w1 => hr.use h1 a2 fun σ2 h2 w2 => ⟨rfl, h2, fun vs q => (w2 vs fun i hi => q i (List.mem_append_right _ hi)).trans (w1 vs fun i hi => q i (List.mem_append_left _ hi))⟩⟩)⟩
theorem dg_tup {k : Nat} (h : DGs X G es xs G' is) (hc : X.calm = true) (hl : xs.length = es.length := by rfl) (hn : (assignEach es X.env).length = es.length := by rfl) (hst : (assignEach es X.env).findIdx? (·.1) = none := by rfl) : DG X G (.Tuple es k pos) (.tup xs) G' is :=
  ⟨fun pins s σ H R B v u I r hh a => (pg_tup hc pgs_D hn hst).run pins s σ H v u _ I r (by
    cases a with
    | tup hp al => exact ⟨_, _, rfl, .of (hh.exB _ _ hp), by rw [al.length, hl], h.use hh al fun σ1 h1 w1 => ⟨rfl, h1, w1⟩⟩)⟩
/-- target = e, the target several names -/
theorem ds_unpack (h : DE X G e d G1) (hg : DG X G1 tg d G2 is) (k : E.nx G2) (hs : swapsWithSole [tg] e pos.line X.env = pure false := by rfl) (hw : swappedStores [tg] e X.env = pure none := by rfl)
    (h1 : (assignEach [tg] X.env).map (·.2) = [assign tg X.env] := by rfl) : DS X G (.Assign [tg] e pos) E :=
  .of (ps_asg pe_D pg_D hs hw h1) fun σ H R B hh => h.use hh fun v H1 B1 q1 e1 a1 => hg.use q1 a1 fun σ2 q2 _ => ⟨G2, B1, q2, e1, k⟩

/-! ### what is walked -/
structure WalkD (K : PySem.W.Frag) (J : It) (ds : List D) (B1 S : Hp) : Prop where
  go : ∀ (i : Nat) H, i < ds.length → Same S H → J.go i H
  stop : ∀ H, Same S H → J.stop ds.length H
  yld : ∀ (i : Nat) (H : Hp) (x : V) (H' : Hp) (d : D) (R B : Hp) (σ : L2.St) (G : List Sl), ds[i]? = some d → Same S H → Same B1 B → Hld K R B H σ G → J.yld i H x H' → ∃ B', Hld K R B' H' σ G ∧ Same B B' ∧ At K B' x d
structure DI (X : Cx) (G : List Sl) (tg it : Expr) (ds : List D) (G' : List Sl) : Prop where
  run : ∃ wi, PI X tg it wi ∧ ∀ (σ : L2.St) (H R B : Hp) (Rr : It → Hp → Prop), Hld X.K R B H σ G → (∀ J H1 B1, Hld X.K R B1 H1 σ G' → Same B B1 → WalkD X.K J ds B1 B1 → Rr J H1) → wi σ H Rr
theorem di_list (h : DE X G it (.lst ds) G') : DI X G tg it ds G' := ⟨_, pi_list pe_D, fun σ H R B Rr hh k => h.use hh fun v H1 B1 h1 e1 a1 => by
  cases a1 with
  | lst hp al =>
    refine ⟨_, rfl, ⟨_, .of (h1.exB _ _ hp)⟩, k _ H1 B1 h1 e1 ⟨fun i H2 hi s => ?_, fun H2 s => ⟨_, .of (s _ _ hp), by rw [al.length]; exact Nat.le_refl _⟩, fun i H2 x H3 d R2 B2 σ2 G2 hd _ s hh2 y => ?_⟩⟩
    · obtain ⟨u, hu, _⟩ := al.get (List.getElem?_eq_getElem hi)
      exact ⟨_, u, .of (s _ _ hp), hu⟩
    · obtain ⟨rfl, y⟩ := y
      have hx := y _ (.of (hh2.exB _ _ (s _ _ hp)))
      obtain ⟨d', hd', a'⟩ := al.getv hx
      rw [hd] at hd'
      cases hd'
      exact ⟨B2, hh2, ext_refl B2, a'.up s⟩⟩
theorem di_tup (h : DE X G it (.tup ds) G') : DI X G tg it ds G' := ⟨_, pi_tup pe_D, fun σ H R B Rr hh k => h.use hh fun v H1 B1 h1 e1 a1 => by
  cases a1 with
  | tup hp al =>
    refine ⟨_, rfl, ⟨_, .of (h1.exB _ _ hp)⟩, k _ H1 B1 h1 e1 ⟨fun i H2 hi s => ?_, fun H2 s => ⟨_, .of (s _ _ hp), by rw [al.length]; exact Nat.le_refl _⟩, fun i H2 x H3 d R2 B2 σ2 G2 hd _ s hh2 y => ?_⟩⟩
    · obtain ⟨u, hu, _⟩ := al.get (List.getElem?_eq_getElem hi)
      exact ⟨_, u, .of (s _ _ hp), hu⟩
    · obtain ⟨rfl, y⟩ := y
      have hx := y _ (.of (hh2.exB _ _ (s _ _ hp)))
      obtain ⟨d', hd', a'⟩ := al.getv hx
      rw [hd] at hd'
      cases hd'
      exact ⟨B2, hh2, ext_refl B2, a'.up s⟩⟩
/-- lo, lo + c, .. -/
def rngD (lo c : Int) (n : Nat) : List D := (List.range n).map fun (i : Nat) => .int (lo + (i : Int) * c)
theorem rngD_len {lo c : Int} {n : Nat} : (rngD lo c n).length = n := by unfold rngD; rw [List.length_map, List.length_range]
theorem rngD_get {lo c : Int} {n i : Nat} {d : D} (h : (rngD lo c n)[i]? = some d) : i < n ∧ d = .int (lo + (i : Int) * c) := by
  unfold rngD at h
  have hi : i < n := by
    have q := (List.getElem?_eq_some_iff.mp h).1
    rw [List.length_map, List.length_range] at q
    exact q
  rw [List.getElem?_map, List.getElem?_range hi] at h
  exact ⟨hi, (Option.some.inj h).symm⟩
theorem walk_rng {K : PySem.W.Frag} {B1 : Hp} {lo : Int} {n : Nat} : WalkD K (Itr lo n) (rngD lo 1 n) B1 B1 :=
  ⟨fun i H hi _ => by rw [rngD_len] at hi; exact hi, fun H _ => by rw [rngD_len]; exact Nat.le_refl n, fun i H x H' d R B σ G hd _ s hh y => by
    obtain ⟨rfl, rfl⟩ := y
    obtain ⟨hi, rfl⟩ := rngD_get hd
    rw [Int.mul_one]
    exact ⟨B, hh, ext_refl B, .int _⟩⟩
theorem walk_rngC {K : PySem.W.Frag} {B1 : Hp} {lo c : Int} {n : Nat} : WalkD K (Itc lo c n) (rngD lo c n) B1 B1 :=
  ⟨fun i H hi _ => by rw [rngD_len] at hi; exact hi, fun H _ => by rw [rngD_len]; exact Nat.le_refl n, fun i H x H' d R B σ G hd _ s hh y => by
    obtain ⟨rfl, rfl⟩ := y
    obtain ⟨hi, rfl⟩ := rngD_get hd
    exact ⟨B, hh, ext_refl B, .int _⟩⟩
theorem di_range1 {n : Int} (h : DA X G [a] [.int n] G') (hm : X.mg "range" = none) (h1 : -(2 ^ 62) ≤ n) (h2 : n < 2 ^ 62) (hg : Gl X "range" := by rfl) (hs : starEach [a] X.env = [(false, eval a X.env)] := by rfl) : DI X G tg (.Call (.Name "range" p) [a] [] pos) (rngD 0 1 n.toNat) G' :=
  ⟨_, pi_range1 hg hm pa_D hs, fun σ H R B Rr hh k => h.use hh fun vs H1 B1 q1 e1 a1 => by
    obtain ⟨v, rfl, av⟩ := a1.one
    cases av
    exact ⟨n, rfl, h1, h2, k _ H1 B1 q1 e1 walk_rng⟩⟩
theorem di_range2 {m n : Int} (h : DA X G [a, b] [.int m, .int n] G') (hm : X.mg "range" = none) (h1 : -(2 ^ 62) ≤ m ∧ m < 2 ^ 62 ∧ -(2 ^ 62) ≤ n ∧ n < 2 ^ 62) (hg : Gl X "range" := by rfl) (hs : starEach [a, b] X.env = [(false, eval a X.env), (false, eval b X.env)] := by rfl) (hs2 : starEach [b] X.env = [(false, eval b X.env)] := by rfl) : DI X G tg (.Call (.Name "range" p) [a, b] [] pos) (rngD m 1 (n - m).toNat) G' :=
  ⟨_, pi_range2 hg hm pa_D hs hs2, fun σ H R B Rr hh k => h.use hh fun vs H1 B1 q1 e1 a1 => by
    obtain ⟨v, u, rfl, av, au⟩ := a1.two
    cases av
    cases au
    exact ⟨m, n, rfl, h1, k _ H1 B1 q1 e1 walk_rng⟩⟩
theorem zip_get {α β γ : Type} {f : α → β → γ} : ∀ {xs : List α} {ys : List β} {i : Nat} {z : γ}, (List.zipWith f xs ys)[i]? = some z → ∃ x y, xs[i]? = some x ∧ ys[i]? = some y ∧ z = f x y
  | [], _, _, _, h => by simp at h
  | _ :: _, [], _, _, h => by simp at h
  | x :: xs, y :: ys, 0, z, h => by simp at h; exact ⟨x, y, rfl, rfl, h.symm⟩
  | x :: xs, y :: ys, i + 1, z, h => by
    obtain ⟨x', y', h1, h2, h3⟩ := zip_get (xs := xs) (ys := ys) (i := i) (by simpa using h)
    exact ⟨x', y', by simpa using h1, by simpa using h2, h3⟩
def zipD (xs ys : List D) : List D := List.zipWith (fun a b => .tup [a, b]) xs ys
theorem di_zip {ys : List D} {e2 : Expr} {tpos : Pos} {elts : List Expr} {kk : Nat} (h : DA X G [e, e2] [.lst xs, .lst ys] G') (hm : X.mg "zip" = none) (hg : Gl X "zip" := by rfl)
    (hs : starEach [e, e2] X.env = (false, eval e X.env) :: starEach [e2] X.env := by rfl) (hpl : (backTo pos (starEach [e2] X.env)).any (·.1) = false := by rfl) : DI X G (.Tuple elts kk tpos) (.Call (.Name "zip" p) [e, e2] [] pos) (zipD xs ys) G' :=
  ⟨_, pi_zip hg hm pa_D hs hpl, fun σ H R B Rr hh k => h.use hh fun vs H1 B1 q1 e1 a1 => by
    obtain ⟨v, u, rfl, av, au⟩ := a1.two
    cases av with
    | lst hp al =>
      cases au with
      | lst hq bl =>
        refine ⟨_, _, _, _, rfl, .of (q1.exB _ _ hp), .of (q1.exB _ _ hq), k _ H1 B1 q1 e1 ⟨fun i H2 hi s => ?_, fun H2 s => ⟨_, _, .of (s _ _ hp), .of (s _ _ hq), ?_⟩, fun i H2 x H3 d R2 B2 σ2 G2 hd _ s hh2 y => ?_⟩⟩
        · obtain ⟨x, y, h1, h2, _⟩ := zip_get (List.getElem?_eq_getElem hi)
          obtain ⟨x', hx', _⟩ := al.get h1
          obtain ⟨y', hy', _⟩ := bl.get h2
          exact ⟨_, _, x', y', .of (s _ _ hp), .of (s _ _ hq), hx', hy'⟩
        · unfold zipD
          rw [List.length_zipWith, al.length, bl.length]
          omega
        · obtain ⟨x, y', h1, h2, rfl⟩ := zip_get hd
          obtain ⟨T, vx, vy, rfl, nT, rfl, r1, r2⟩ := y
          obtain ⟨dx, hx, ax⟩ := al.getv (r1 _ (.of (hh2.exB _ _ (s _ _ hp))))
          obtain ⟨dy, hy, ay⟩ := bl.getv (r2 _ (.of (hh2.exB _ _ (s _ _ hq))))
          rw [h1] at hx
          rw [h2] at hy
          cases hx
          cases hy
          exact ⟨_, hh2.new nT, upB hh2 nT, .tup upd_same (.cons (ax.up (s.trans (upB hh2 nT))) (.cons (ay.up (s.trans (upB hh2 nT))) .nil))⟩⟩

/-! ### loops -/
theorem ds_for (hi : DI X G tg it ds G0) (P : Nat → List Sl → Prop) (h0 : P 0 G0) (turn : ∀ i x G', ds[i]? = some x → P i G' → ∃ G'' is, DG X G' tg x G'' is ∧ DSs X G'' body { nx := P (i + 1), ct := P (i + 1), bk := E.nx, rt := E.rt })
    (hd : ∀ G', P ds.length G' → E.nx G') (hc : X.calm = true) (hp : PassesOwn (model X.prog X.w) X.A X.env X.xe := by exact PassesOwn.never) (hs : ∀ x, foldedSetIterable it X.env x = pure x := by intro _; rfl) : DS X G (.For tg it body [] pos) E := by
  obtain ⟨wi, pi, k⟩ := hi.run
  refine .of (ps_for hp hc pi pg_D pss_D hs) fun σ H R B hh => k σ H R B _ hh fun J H1 B1 h1 e1 w => ?_
  refine ⟨fun i m σ2 H2 => m = ds.length - i ∧ i ≤ ds.length ∧ ∃ G' B', Hld X.K R B' H2 σ2 G' ∧ Same B1 B' ∧ P i G', ⟨_, rfl, Nat.zero_le _, G0, B1, h1, ext_refl B1, h0⟩, ?_⟩
  rintro i m σ2 H2 ⟨rfl, hi, G', B', h2, e2, p⟩
  by_cases hlt : i < ds.length
  · refine .inr ⟨w.go i H2 hlt (e2.trans h2.exB), _, fun σ3 H3 q => ⟨ds.length - (i + 1), by omega, rfl, hlt, q⟩, fun x H3 y => ?_⟩
    obtain ⟨d, hd'⟩ : ∃ d, ds[i]? = some d := ⟨ds[i], List.getElem?_eq_getElem hlt⟩
    obtain ⟨B3, h3, e3, a3⟩ := w.yld i H2 x H3 d R B' σ2 G' hd' (e2.trans h2.exB) e2 h2 y
    obtain ⟨G'', is, dg, db⟩ := turn i d G' hd' p
    refine dg.use h3 a3 fun σ4 h4 _ => db.use h4 (fun σ H z => ?_) (fun v H z => kR.up ((e1.trans e2).trans e3) z) (fun σ H z => kS.up ((e1.trans e2).trans e3) z) (fun σ H z => ?_)
    · obtain ⟨G5, B5, q1, q2, q3⟩ := z
      exact ⟨G5, B5, q1, (e2.trans e3).trans q2, q3⟩
    · obtain ⟨G5, B5, q1, q2, q3⟩ := z
      exact ⟨G5, B5, q1, (e2.trans e3).trans q2, q3⟩
  · have e : i = ds.length := by omega
    subst e
    exact .inl ⟨w.stop H2 (e2.trans h2.exB), G', B', h2, e1.trans e2, hd G' p⟩
theorem ds_while (W : Nat → List Sl → Prop) (h0 : ∃ m, W m G) (turn : ∀ m G', W m G' → ∃ bb G1, DT X G' c bb G1 ∧ (bb = true → DSs X G1 body { nx := fun G2 => ∃ m', m' < m ∧ W m' G2, ct := fun G2 => ∃ m', m' < m ∧ W m' G2, bk := E.nx, rt := E.rt }) ∧ (bb = false → E.nx G1))
    (hp : PassesOwn (model X.prog X.w) X.A X.env X.xe := by exact PassesOwn.never) : DS X G (.While c body [] pos) E := by
  refine .of (ps_while hp pt_D pss_D) fun σ H R B hh => ?_
  refine ⟨fun m σ2 H2 => ∃ G' B', Hld X.K R B' H2 σ2 G' ∧ Same B B' ∧ W m G', ?_, ?_⟩
  · obtain ⟨m, w⟩ := h0
    exact ⟨m, G, B, hh, ext_refl B, w⟩
  · rintro m σ2 H2 ⟨G', B', h2, e2, w⟩
    obtain ⟨bb, G1, ht, h1, h3⟩ := turn m G' w
    refine ht.use h2 fun H4 B4 h4 e4 => ?_
    cases bb with
    | true =>
      refine iteT ⟨fun σ' H' => ∃ m', m' < m ∧ ∃ G' B', Hld X.K R B' H' σ' G' ∧ Same B B' ∧ W m' G', fun σ' H' q => q, (h1 rfl).use h4 (fun σ H z => ?_) (fun v H z => kR.up (e2.trans e4) z) (fun σ H z => kS.up (e2.trans e4) z) (fun σ H z => ?_)⟩
      · obtain ⟨G5, B5, q1, q2, m', q3, q4⟩ := z
        exact ⟨m', q3, G5, B5, q1, (e2.trans e4).trans q2, q4⟩
      · obtain ⟨G5, B5, q1, q2, m', q3, q4⟩ := z
        exact ⟨m', q3, G5, B5, q1, (e2.trans e4).trans q2, q4⟩
    | false => exact iteF ⟨G1, B4, h4, e2.trans e4, h3 rfl⟩

/-! ### comprehensions -/
section
variable {K : PySem.W.Frag} {R B H : Hp} {σ σ' : L2.St} {p : Addr} {o o' : HO}
theorem Hld.agree (h : Hld K R B H σ G) (hl : σ'.length = σ.length) (hs : ∀ (j : Nat) (g : Sl), G[j]? = some g → g ≠ .un → σ'[j]? = σ[j]?) : Hld K R B H σ' G := by
  refine ⟨h.exR, h.exB, h.dis, hl.trans h.len, fun j g e => ?_, fun j k g g' b e1 e2 o1 o2 s1 s2 => ?_⟩
  · cases g with
    | un =>
      have hj : j < σ'.length := by
        have q := (List.getElem?_eq_some_iff.mp e).1
        rw [hl, h.len]
        exact q
      exact ⟨σ'[j], List.getElem?_eq_getElem hj, trivial⟩
    | d x => rw [hs j _ e (fun z => nomatch z)]; exact h.sl j _ e
    | ol x => rw [hs j _ e (fun z => nomatch z)]; exact h.sl j _ e
    | od x => rw [hs j _ e (fun z => nomatch z)]; exact h.sl j _ e
    | ot x => rw [hs j _ e (fun z => nomatch z)]; exact h.sl j _ e
    | sf x y z => rw [hs j _ e (fun z => nomatch z)]; exact h.sl j _ e
    | pl x y => rw [hs j _ e (fun z => nomatch z)]; exact h.sl j _ e
  · rw [hs j g e1 (fun z => by rw [z] at o1; cases o1)] at s1
    rw [hs k g' e2 (fun z => by rw [z] at o2; cases o2)] at s2
    exact h.app j k g g' b e1 e2 o1 o2 s1 s2
/-- the slots vs are not known -/
def Free (G : List Sl) (vs : List Nat) : Prop := ∀ j ∈ vs, ∀ g, G[j]? = some g → g = .un
theorem Hld.wipe {vs : List Nat} (h : Hld K R B H σ G) (hf : Free G vs) : Hld K R B H (wipe σ vs) G :=
  h.agree (wipe_length σ vs) fun j g e n => by
    by_cases hj : j ∈ vs
    · exact absurd (hf j hj g e) n
    · exact wipe_out hj
theorem Hld.unwipe {vs : List Nat} (h : Hld K R B H σ' G) (hf : Free G vs) (hw : L2.wipe σ' vs = L2.wipe σ vs) : Hld K R B H σ G :=
  h.agree (by
    have q := congrArg List.length hw
    rw [wipe_length, wipe_length] at q
    exact q.symm) fun j g e n => by
    by_cases hj : j ∈ vs
    · exact absurd (hf j hj g e) n
    · have q := congrArg (fun l : L2.St => l[j]?) hw
      have q : (L2.wipe σ' vs)[j]? = (L2.wipe σ vs)[j]? := q
      rw [wipe_out hj, wipe_out hj] at q
      exact q.symm
/-- a new object that is kept, not data -/
theorem Hld.rest (h : Hld K R B H σ G) (hp : H p = none) : Hld K (upd R p o) B (upd H p o) σ G := by
  have hj := h.junk (H' := upd H p o) (ext_new hp)
  have ne : ∀ q u, B q = some u → q ≠ p := fun q u e z => by rw [z] at e; rw [h.exB _ _ e] at hp; cases hp
  refine ⟨fun q u e => ?_, hj.exB, fun q u e => ?_, h.len, fun j g e => ?_, h.app⟩
  · by_cases hq : q = p
    · subst hq; rw [upd_same] at e ⊢; exact e
    · rw [upd_ne hq] at e ⊢; exact h.exR q u e
  · by_cases hq : q = p
    · cases z : B q with
      | none => exact .inl rfl
      | some u' => exact absurd hq (ne q u' z)
    · rw [upd_ne hq] at e; exact h.dis q u e
  · obtain ⟨o1, e1, s⟩ := h.sl j g e
    obtain ⟨o2, e2, s2⟩ := hj.sl j g e
    rw [e1] at e2
    cases e2
    refine ⟨o1, e1, ?_⟩
    have np : ∀ b u, H b = some u → b ≠ p := fun b u q z => by rw [z, hp] at q; cases q
    cases g with
    | un => trivial
    | d x => exact s2
    | ol xs => obtain ⟨b, vs, e, h1, h2, h3, h4⟩ := s; exact ⟨b, vs, e, by rw [upd_ne (np b _ h3)]; exact h1, h2, by rw [upd_ne (np b _ h3)]; exact h3, h4⟩
    | od ks => obtain ⟨b, e, h1, h2, h3⟩ := s; exact ⟨b, e, by rw [upd_ne (np b _ h3)]; exact h1, h2, by rw [upd_ne (np b _ h3)]; exact h3⟩
    | ot ks => obtain ⟨b, e, h1, h2, h3⟩ := s; exact ⟨b, e, by rw [upd_ne (np b _ h3)]; exact h1, h2, by rw [upd_ne (np b _ h3)]; exact h3⟩
    | sf b c fs => obtain ⟨dx, vf, e, h1, h2, h3, h4⟩ := s; exact ⟨dx, vf, e, by rw [upd_ne (np b _ h3)]; exact h1, h2, by rw [upd_ne (np b _ h3)]; exact h3, h4⟩
    | pl b xs => obtain ⟨vs, e, h1, h2, h3, h4⟩ := s; exact ⟨vs, e, by rw [upd_ne (np b _ h3)]; exact h1, h2, by rw [upd_ne (np b _ h3)]; exact h3, h4⟩
/-- such an object changes -/
theorem Hld.rset (h : Hld K R B H σ G) (hp : R p = some o) (ho : ∀ xs, o ≠ .tup xs) : Hld K (upd R p o') B (upd H p o') σ G := by
  have hb : B p = none := (h.dis _ _ hp).elim (fun z => z) fun ⟨xs, e⟩ => absurd e (ho xs)
  have ne : ∀ q u, B q = some u → q ≠ p := fun q u e z => by rw [z, hb] at e; cases e
  refine ⟨fun q u e => ?_, fun q u e => by rw [upd_ne (ne q u e)]; exact h.exB q u e, fun q u e => ?_, h.len, fun j g e => ?_, h.app⟩
  · by_cases hq : q = p
    · subst hq; rw [upd_same] at e ⊢; exact e
    · rw [upd_ne hq] at e ⊢; exact h.exR q u e
  · by_cases hq : q = p
    · subst hq; exact .inl hb
    · rw [upd_ne hq] at e; exact h.dis q u e
  · obtain ⟨o1, e1, s⟩ := h.sl j g e
    refine ⟨o1, e1, ?_⟩
    have np : ∀ b, R b = none → b ≠ p := fun b q z => by rw [z, hp] at q; cases q
    cases g with
    | un => trivial
    | d x => exact s
    | ol xs => obtain ⟨b, vs, e, h1, h2, h3, h4⟩ := s; exact ⟨b, vs, e, by rw [upd_ne (np b h1)]; exact h1, h2, by rw [upd_ne (np b h1)]; exact h3, h4⟩
    | od ks => obtain ⟨b, e, h1, h2, h3⟩ := s; exact ⟨b, e, by rw [upd_ne (np b h1)]; exact h1, h2, by rw [upd_ne (np b h1)]; exact h3⟩
    | ot ks => obtain ⟨b, e, h1, h2, h3⟩ := s; exact ⟨b, e, by rw [upd_ne (np b h1)]; exact h1, h2, by rw [upd_ne (np b h1)]; exact h3⟩
    | sf b c fs => obtain ⟨dx, vf, e, h1, h2, h3, h4⟩ := s; exact ⟨dx, vf, e, by rw [upd_ne (np b h1)]; exact h1, h2, by rw [upd_ne (np b h1)]; exact h3, h4⟩
    | pl b xs => obtain ⟨vs, e, h1, h2, h3, h4⟩ := s; exact ⟨vs, e, by rw [upd_ne (np b h1)]; exact h1, h2, by rw [upd_ne (np b h1)]; exact h3, h4⟩
/-- such an object becomes data -/
theorem Hld.toB (h : Hld K (upd R p o) B H σ G) (hp : R p = none) (ho : ∀ xs, o ≠ .tup xs) : Hld K R (upd B p o) H σ G ∧ Same B (upd B p o) := by
  have hR : upd R p o p = some o := upd_same
  have hH := h.exR _ _ hR
  have hb : B p = none := (h.dis _ _ hR).elim (fun z => z) fun ⟨xs, e⟩ => absurd e (ho xs)
  have sm : Same B (upd B p o) := ext_new hb
  have sR : Same R (upd R p o) := ext_new hp
  refine ⟨⟨sR.trans h.exR, fun q u e => ?_, fun q u e => ?_, h.len, fun j g e => ?_, h.app⟩, sm⟩
  · by_cases hq : q = p
    · subst hq; rw [upd_same] at e; cases e; exact hH
    · rw [upd_ne hq] at e; exact h.exB q u e
  · have nq : q ≠ p := fun z => by rw [z, hp] at e; cases e
    rw [upd_ne nq]
    exact h.dis q u (sR q u e)
  · obtain ⟨o1, e1, s⟩ := h.sl j g e
    refine ⟨o1, e1, ?_⟩
    have np : ∀ b, upd R p o b = none → b ≠ p ∧ R b = none := fun b q => by
      have : b ≠ p := fun z => by rw [z, hR] at q; cases q
      exact ⟨this, by rw [upd_ne this] at q; exact q⟩
    cases g with
    | un => trivial
    | d x => obtain ⟨v, e, q⟩ := s; exact ⟨v, e, q.up sm⟩
    | ol xs => obtain ⟨b, vs, e, h1, h2, h3, h4⟩ := s; exact ⟨b, vs, e, (np b h1).2, by rw [upd_ne (np b h1).1]; exact h2, h3, h4.up sm⟩
    | od ks => obtain ⟨b, e, h1, h2, h3⟩ := s; exact ⟨b, e, (np b h1).2, by rw [upd_ne (np b h1).1]; exact h2, h3⟩
    | ot ks => obtain ⟨b, e, h1, h2, h3⟩ := s; exact ⟨b, e, (np b h1).2, by rw [upd_ne (np b h1).1]; exact h2, h3⟩
    | sf b c fs => obtain ⟨dx, vf, e, h1, h2, h3, h4⟩ := s; exact ⟨dx, vf, e, (np b h1).2, by rw [upd_ne (np b h1).1]; exact h2, h3, h4.up sm⟩
    | pl b xs => obtain ⟨vs, e, h1, h2, h3, h4⟩ := s; exact ⟨vs, e, (np b h1).2, by rw [upd_ne (np b h1).1]; exact h2, h3, h4.up sm⟩
end
end
end Ax
namespace Ax
open PySem PySem.Spec L2
/-! ### comprehensions -/
/-- the block of a comprehension in X -/
def Bk (X : Cx) (scope : Scope) (X' : Cx) : Prop := ∃ (s : Shared) (H : Hp) (C : Addr) (cl : List (Str × Addr)) (fp : List Addr), X' = X.blk s H scope (compEnvC scope cl C X.env) fp
structure DTs (X : Cx) (G : List Sl) (ifs : List Expr) (b : Bool) (G' : List Sl) : Prop where
  run : ∀ (pins : List (Addr × Obj)) (s : Shared) (σ : L2.St) (H R B : Hp), Inv X pins σ H s → Hld X.K R B H σ G →
    wpAny (model X.prog X.w) X.A (forIn ifs true fun c r => if r = true then do let ok ← isTrue c X.env (eval c X.env); pure (ForInStep.yield ok) else pure (ForInStep.yield r)) (TP X pins σ (DKT X R B σ G' b)) X.xe s
def unG : List Nat → List Sl → List Sl
  | [], G => G
  | v :: vs, G => (unG vs G).set v .un
section
variable {X : Cx} {G G0 G1 G2 G' : List Sl} {e it tg elt a b c : Expr} {es ts ifs : List Expr} {x d : D} {xs ds res : List D} {is js vs : List Nat} {pos pos' p : Pos} {E : DEnds} {body : List Stmt} {scope : Scope}
theorem dts_nil : DTs X G [] true G := ⟨fun pins s σ H R B I hh => pts_nil.run pins s σ H _ I ⟨rfl, B, hh, ext_refl B⟩⟩
theorem dts_one {b : Bool} (h : DT X G c b G') : DTs X G [c] b G' := ⟨fun pins s σ H R B I hh => (pts_one pt_D).run pins s σ H _ I (h.use hh fun H' B' h1 e1 => ⟨rfl, B', h1, e1⟩)⟩
theorem Hld.unG {K : PySem.W.Frag} {R B H : Hp} {σ : L2.St} (h : Hld K R B H σ G) : ∀ vs : List Nat, Hld K R B H σ (unG vs G)
  | [] => h
  | v :: vs => (Hld.unG h vs).un v
theorem unG_free : ∀ vs : List Nat, Free (unG vs G) vs
  | [] => fun j hj => by cases hj
  | v :: vs => fun j hj g hg => by
    show g = .un
    have hg : ((unG vs G).set v .un)[j]? = some g := hg
    rcases get_set hg with ⟨_, e, _⟩ | ⟨hne, e⟩
    · exact e
    · exact unG_free vs j ((List.mem_cons.mp hj).resolve_left hne) g e
section
variable (X) (scope)
def tGb (tg : Expr) : TG := fun v σ H Q => ∃ G x G' is R B, (∀ X', Bk X scope X' → DG X' G tg x G' is) ∧ Hld X.K R B H σ G ∧ At X.K B v x ∧ ∀ σ', Hld X.K R B H σ' G' → (∀ vs, (∀ i ∈ is, i ∈ vs) → wipe σ' vs = wipe σ vs) → Q σ' H
def tTb (ifs : List Expr) : TT := fun σ H Q => ∃ G b G' R B, (∀ X', Bk X scope X' → DTs X' G ifs b G') ∧ Hld X.K R B H σ G ∧ ∀ H' B', Hld X.K R B' H' σ G' → Same B B' → Q b H'
def tEb (elt : Expr) : TE := fun σ H Q => ∃ G d G' R B, (∀ X', Bk X scope X' → DE X' G elt d G') ∧ Hld X.K R B H σ G ∧ ∀ v H' B', Hld X.K R B' H' σ G' → Same B B' → At X.K B' v d → Q v H'
end
theorem pg_b (s : Shared) (H : Hp) (C : Addr) (cl : List (Str × Addr)) (fp : List Addr) : PG (X.blk s H scope (compEnvC scope cl C X.env) fp) tg (tGb X scope tg) := ⟨fun pins s σ H v u Q I r h => by
  obtain ⟨G, x, G', is, R, B, hd, hh, a, k⟩ := h
  exact thn ((hd _ ⟨_, _, _, _, _, rfl⟩).run pins s σ H R B v u I r hh a) fun _ s' ⟨σ', H', I', e, h1, h2⟩ => ⟨σ', H', I', e ▸ k σ' h1 h2⟩⟩
theorem pt_b (s : Shared) (H : Hp) (C : Addr) (cl : List (Str × Addr)) (fp : List Addr) : PTs (X.blk s H scope (compEnvC scope cl C X.env) fp) ifs (tTb X scope ifs) := ⟨fun pins s σ H Q I h => by
  obtain ⟨G, b, G', R, B, hd, hh, k⟩ := h
  exact thn ((hd _ ⟨_, _, _, _, _, rfl⟩).run pins s σ H R B I hh) fun u s' ⟨H', I', q, B', q1, q2⟩ => ⟨H', I', q ▸ k H' B' q1 q2⟩⟩
theorem pe_b (s : Shared) (H : Hp) (C : Addr) (cl : List (Str × Addr)) (fp : List Addr) : PE (X.blk s H scope (compEnvC scope cl C X.env) fp) elt (tEb X scope elt) := ⟨fun pins s σ H Q I h => by
  obtain ⟨G, d, G', R, B, hd, hh, k⟩ := h
  exact thn ((hd _ ⟨_, _, _, _, _, rfl⟩).run pins s σ H R B I hh) fun u s' ⟨v, H', I', r, B', q1, q2, q3⟩ => ⟨v, H', I', r, k v H' B' q1 q2 q3⟩⟩
/-- one turn of a comprehension, by data -/
def LcTurn (X : Cx) (scope : Scope) (vs : List Nat) (tg : Expr) (ifs : List Expr) (elt : Expr) (x : D) (G : List Sl) (k : Option D → List Sl → Prop) : Prop :=
  ∃ G1 is b G2, (∀ X', Bk X scope X' → DG X' G tg x G1 is) ∧ (∀ i ∈ is, i ∈ vs) ∧ (∀ X', Bk X scope X' → DTs X' G1 ifs b G2) ∧
    ((b = true ∧ ∃ y G3, (∀ X', Bk X scope X' → DE X' G2 elt y G3) ∧ k (some y) (unG vs G3)) ∨ (b = false ∧ k none (unG vs G2)))
def snoc (acc : List D) : Option D → List D
  | some y => acc ++ [y]
  | none => acc
theorem lc_rdG {wi : TI} {σ : L2.St} {H R B S : Hp} {Q : VK} (P : Nat → List D → List Sl → Prop) (h0 : P 0 [] G0) (hl : ds.length ≤ 1000000) (free : ∀ i acc G', P i acc G' → Free G' vs)
    (turn : ∀ i x acc G', ds[i]? = some x → P i acc G' → LcTurn X scope vs tg ifs elt x G' fun o G3 => P (i + 1) (snoc acc o) G3)
    (hw : ∀ Rr : It → Hp → Prop, (∀ J H1 B1, Hld X.K R B1 H1 σ G0 → Same B B1 → (∀ H2, Same R H2 → Same B1 H2 → Same S H2) → WalkD X.K J ds B1 S → Rr J H1) → wi σ H Rr)
    (k : ∀ acc accd G' H' B' L, R L = none → P ds.length accd G' → Hld X.K (upd R L (.lst acc)) B' H' σ G' → Same B B' → AtL X.K B' acc accd → Q (.ref L) H') : tLc wi (tGb X scope tg) (tTb X scope ifs) (tEb X scope elt) vs σ H Q := by
  refine hw _ fun J H1 B1 h1 e1 hS w => fun L nL => ?_
  have hRL : R L = none := by
    cases z : R L with
    | none => rfl
    | some u => rw [h1.exR _ _ z] at nL; cases nL
  have sR : ∀ o, Same R (upd R L o) := fun o => ext_new hRL
  refine ⟨fun i m H2 => m = ds.length - i ∧ i ≤ ds.length ∧ ∃ acc accd G' B', acc.length = accd.length ∧ accd.length ≤ i ∧ Hld X.K (upd R L (.lst acc)) B' H2 σ G' ∧ Same B1 B' ∧ AtL X.K B' acc accd ∧ P i accd G', ?_, ?_⟩
  · exact ⟨_, rfl, Nat.zero_le _, [], [], G0, B1, rfl, Nat.le_refl _, h1.rest nL, ext_refl B1, .nil, h0⟩
  · rintro i m H2 ⟨rfl, hi, acc, accd, G', B', el, eli, h2, e2, al, p⟩
    have sH : Same S H2 := hS H2 ((sR _).trans h2.exR) (e2.trans h2.exB)
    by_cases hlt : i < ds.length
    · refine .inr ⟨w.go i H2 hlt sH, fun H' => ∃ m', m' < ds.length - i ∧ (m' = ds.length - (i + 1) ∧ i + 1 ≤ ds.length ∧ ∃ acc accd G' B', acc.length = accd.length ∧ accd.length ≤ i + 1 ∧ Hld X.K (upd R L (.lst acc)) B' H' σ G' ∧ Same B1 B' ∧ AtL X.K B' acc accd ∧ P (i + 1) accd G'), fun H' q => q, fun x H3 y => ?_⟩
      obtain ⟨d, hd'⟩ : ∃ d, ds[i]? = some d := ⟨ds[i], List.getElem?_eq_getElem hlt⟩
      obtain ⟨B3, h3, e3, a3⟩ := w.yld i H2 x H3 d _ B' σ G' hd' sH e2 h2 y
      obtain ⟨G1, is, b, G2, t1, t2, t3, t4⟩ := turn i d accd G' hd' p
      have fr := free i accd G' p
      refine ⟨G', d, G1, is, _, B3, t1, h3.wipe fr, a3, fun σ4 h4 w4 => ?_⟩
      have ww : wipe σ4 vs = wipe (wipe σ vs) vs := w4 vs t2
      have wv : wipe (wipe σ vs) vs = wipe σ vs := List.ext_getElem? fun j => by
        by_cases hj : j ∈ vs
        · rw [wipe_in hj, wipe_in hj, wipe_length]
        · rw [wipe_out hj]
      refine ⟨ww.trans wv, G1, b, G2, _, B3, t3, h4, fun H5 B5 h5 e5 => ?_⟩
      have back : ∀ {H6 B6 : Hp} {G6 : List Sl}, Hld X.K (upd R L (.lst acc)) B6 H6 σ4 G6 → Hld X.K (upd R L (.lst acc)) B6 H6 σ (unG vs G6) := fun h => (h.unG vs).unwipe (unG_free vs) (ww.trans wv)
      rcases t4 with ⟨rfl, y, G3, t5, t6⟩ | ⟨rfl, t6⟩
      · refine iteT ⟨G2, y, G3, _, B5, t5, h5, fun v H6 B6 h6 e6 a6 => ⟨acc, h6.exR _ _ upd_same, by rw [el]; exact Nat.lt_of_le_of_lt eli (Nat.lt_of_lt_of_le (Nat.lt_of_lt_of_le hlt hl) (by decide)), _, (by omega : ds.length - (i + 1) < ds.length - i), rfl, hlt, acc ++ [v], accd ++ [y], unG vs G3, B6, by simp [el], by simp; omega, ?_, ?_, ?_, t6⟩⟩
        · have q := (back h6).rset (o' := .lst (acc ++ [v])) upd_same (fun _ z => nomatch z)
          rw [upd_upd] at q
          exact q
        · exact ((e2.trans e3).trans e5).trans e6
        · exact (al.up ((e3.trans e5).trans e6)).append (.cons a6 .nil)
      · refine iteF ⟨_, (by omega : ds.length - (i + 1) < ds.length - i), rfl, hlt, acc, accd, unG vs G2, B5, el, by omega, back h5, (e2.trans e3).trans e5, al.up (e3.trans e5), t6⟩
    · have e : i = ds.length := by omega
      subst e
      exact .inl ⟨w.stop H2 sH, k acc accd G' H2 B' L hRL p h2 (e1.trans e2) al⟩
theorem lc_rd {wi : TI} {σ : L2.St} {H R B S : Hp} {Q : VK} (P : Nat → List D → List Sl → Prop) (h0 : P 0 [] G0) (hl : ds.length ≤ 1000000) (free : ∀ i acc G', P i acc G' → Free G' vs)
    (turn : ∀ i x acc G', ds[i]? = some x → P i acc G' → LcTurn X scope vs tg ifs elt x G' fun o G3 => P (i + 1) (snoc acc o) G3)
    (hw : ∀ Rr : It → Hp → Prop, (∀ J H1 B1, Hld X.K R B1 H1 σ G0 → Same B B1 → (∀ H2, Same R H2 → Same B1 H2 → Same S H2) → WalkD X.K J ds B1 S → Rr J H1) → wi σ H Rr)
    (k : ∀ acc G' v H' B', P ds.length acc G' → Hld X.K R B' H' σ G' → Same B B' → At X.K B' v (.lst acc) → Q v H') : tLc wi (tGb X scope tg) (tTb X scope ifs) (tEb X scope elt) vs σ H Q := by
  refine lc_rdG P h0 hl free turn hw fun acc accd G' H' B' L hRL p h2 e2 al => ?_
  obtain ⟨h6, s6⟩ := h2.toB hRL (fun _ z => nomatch z)
  exact k accd G' _ H' _ p h6 (e2.trans s6) (.lst upd_same (al.up s6))
/-- a comprehension that gives res and leaves G' -/
structure LCk (X : Cx) (G : List Sl) (tg it : Expr) (ifs : List Expr) (elt : Expr) (scope : Scope) (vs : List Nat) (res : List D) (G' : List Sl) : Prop where
  ok : ∃ ds G0, DI X G tg it ds G0 ∧ ds.length ≤ 1000000 ∧ ∃ P : Nat → List D → List Sl → Prop, P 0 [] G0 ∧ (∀ i acc G', P i acc G' → Free G' vs) ∧ (∀ i x acc G', ds[i]? = some x → P i acc G' → LcTurn X scope vs tg ifs elt x G' fun o G3 => P (i + 1) (snoc acc o) G3) ∧ ∀ acc G2, P ds.length acc G2 → acc = res ∧ G2 = G'
theorem LCk.rd (h : LCk X G tg it ifs elt scope vs res G') : ∃ wi, PI X tg it wi ∧ ∀ σ H R B Q, Hld X.K R B H σ G → (∀ v H' B', Hld X.K R B' H' σ G' → Same B B' → At X.K B' v (.lst res) → Q v H') → tLc wi (tGb X scope tg) (tTb X scope ifs) (tEb X scope elt) vs σ H Q := by
  obtain ⟨ds, G0, hi, hl, P, h0, fr, turn, fin⟩ := h.ok
  obtain ⟨wi, pi, kw⟩ := hi.run
  refine ⟨wi, pi, fun σ H R B Q hh k => ?_⟩
  -- the walk's stable part is the base ahead of it
  refine kw σ H R B _ hh fun J H1 B1 h1 e1 w => ?_
  exact lc_rd (wi := fun _ _ Rr => Rr J H1) (H := H) (S := B1) P h0 hl fr turn (fun Rr q => q J H1 B1 h1 e1 (fun _ _ z => z) w) fun acc G2 v H' B' p q1 q2 q3 => by
    obtain ⟨rfl, rfl⟩ := fin acc G2 p
    exact k v H' B' q1 q2 q3
theorem de_lcK (own : List (Str × Nat)) (h : LCk X G tg it ifs elt scope (own.map (·.2)) res G') (ok : BlkOk X.N X.env.scope scope own) (hN : X.N.Nodup) (hc : X.calm = true) (hs : ∀ x, foldedSetIterable it X.env x = pure x := by intro _; rfl) : DE X G (.ListComp elt [⟨tg, it, ifs, 0⟩] scope pos) (.lst res) G' := by
  obtain ⟨wi, pi, k⟩ := h.rd
  exact .of (pe_lc hc hN pi ok pg_b pt_b pe_b hs) fun σ H R B hh => k σ H R B _ hh fun v H' B' q1 q2 q3 => ⟨B', q1, q2, q3⟩
theorem ds_lcK (i : Nat) (own : List (Str × Nat)) {y : Str} {py spos : Pos} (h : LCk X G tg it ifs elt scope (own.map (·.2)) res G') (k : E.nx (G'.set i (.d (.lst res)))) (ok : BlkOk X.N X.env.scope scope own) (hN : X.N.Nodup) (hc : X.calm = true)
    (hsw : swapsWith (.ListComp elt [⟨tg, it, ifs, 0⟩] scope pos) (some (.Name y py)) spos.line X.env = pure true) (hy : X.N[i]? = some y := by rfl) (hyl : X.env.scope.names.lookup y = some .local := by rfl) (hs : ∀ x, foldedSetIterable it X.env x = pure x := by intro _; rfl) :
    DS X G (.Assign [.Name y py] (.ListComp elt [⟨tg, it, ifs, 0⟩] scope pos) spos) E := by
  obtain ⟨wi, pi, kk⟩ := h.rd
  exact .of (ps_setLc hc hN hy hyl hsw pi ok pg_b pt_b pe_b hs) fun σ H R B hh => kk σ H R B _ hh fun v H' B' q1 q2 q3 => ⟨_, B', q1.set q3 i, q2, k⟩
/-- element by element, nothing changed -/
theorem lck (hi : DI X G tg it ds G) (f : D → Bool) (g : D → D) (free : Free G vs) (hl : ds.length ≤ 1000000)
    (turn : ∀ x ∈ ds, ∃ G1 is, (∀ X', Bk X scope X' → DG X' G tg x G1 is) ∧ (∀ i ∈ is, i ∈ vs) ∧ unG vs G1 = G ∧ (∀ X', Bk X scope X' → DTs X' G1 ifs (f x) G1) ∧ (f x = true → ∀ X', Bk X scope X' → DE X' G1 elt (g x) G1)) : LCk X G tg it ifs elt scope vs ((ds.filter f).map g) G := by
  refine ⟨ds, G, hi, hl, fun i acc G' => G' = G ∧ acc = ((ds.take i).filter f).map g, ⟨rfl, rfl⟩, fun i acc G' p => p.1 ▸ free, fun i x acc G' hx p => ?_, fun acc G2 p => ⟨by rw [p.2, List.take_length], p.1⟩⟩
  obtain ⟨rfl, rfl⟩ := p
  obtain ⟨G1, is, t1, t2, t3, t4, t5⟩ := turn x (List.mem_of_getElem? hx)
  have ht : ds.take (i + 1) = ds.take i ++ [x] := by rw [List.take_succ, hx]; rfl
  refine ⟨G1, is, f x, G1, t1, t2, t4, ?_⟩
  cases q : f x with
  | true => exact .inl ⟨rfl, g x, G1, t5 q, t3, by rw [ht, List.filter_append, List.map_append]; simp [q, snoc]⟩
  | false => exact .inr ⟨rfl, t3, by rw [ht, List.filter_append, List.map_append]; simp [q, snoc]⟩
end
end Ax
namespace Ax
open PySem PySem.Spec L2
/-! ### one's own list, read for a moment -/
def Sl.hide : Sl → Sl
  | .d x => .d x
  | _ => .un
def D.flat : D → Bool
  | .non => true
  | .bl _ => true
  | .int _ => true
  | .str _ => true
  | _ => false
theorem At.flat {K : PySem.W.Frag} {B B' : Hp} {v : V} {d : D} (h : At K B v d) (f : d.flat = true) : At K B' v d := by
  cases h with
  | non => exact .non
  | bl b => exact .bl b
  | int b => exact .int b
  | str b => exact .str b
  | _ => cases f
def thawG (i : Nat) (xs : List D) (G : List Sl) : List Sl := (G.map Sl.hide).set i (.d (.lst xs))
section
variable {X : Cx} {G G0 G1 G2 G' : List Sl} {e it tg elt a b c : Expr} {es ts ifs : List Expr} {x d z : D} {xs ds res : List D} {is js vs : List Nat} {pos pos' p : Pos} {E : DEnds} {sts : List Stmt}
theorem Hld.thaw {K : PySem.W.Frag} {R B H : Hp} {σ : L2.St} (h : Hld K R B H σ G) {i : Nat} (hi : G[i]? = some (.ol xs)) : ∃ R' B', Hld K R' B' H σ (thawG i xs G) ∧ Same B B' ∧ ∀ q o, H q = some o → R' q = some o ∨ B' q = some o := by
  obtain ⟨B', h1, s1⟩ := h.frz hi
  refine ⟨fun q => if B' q = none then H q else none, B', ⟨fun q o e => ?_, h1.exB, fun q o e => ?_, ?_, fun j g e => ?_, fun j k g g' b e1 e2 o1 o2 _ _ => ?_⟩, s1, fun q o e => ?_⟩
  · by_cases hq : B' q = none
    · simp only [if_pos hq] at e; exact e
    · simp only [if_neg hq] at e; cases e
  · by_cases hq : B' q = none
    · exact .inl hq
    · simp only [if_neg hq] at e; cases e
  · unfold thawG
    rw [List.length_set, List.length_map]
    exact h.len
  · unfold thawG at e
    rcases get_set e with ⟨rfl, rfl, hl⟩ | ⟨hne, e⟩
    · rw [List.length_map] at hl
      obtain ⟨o, e1, s⟩ := h1.sl j _ (List.getElem?_set_self hl)
      exact ⟨o, e1, s⟩
    · rw [List.getElem?_map] at e
      cases q : G[j]? with
      | none => rw [q] at e; cases e
      | some g0 =>
        rw [q] at e
        cases e
        obtain ⟨o, e1, s⟩ := h1.sl j g0 (by rw [List.getElem?_set_ne (fun z => hne z.symm)]; exact q)
        refine ⟨o, e1, ?_⟩
        cases g0 with
        | d x => exact s
        | _ => trivial
  · have no : ∀ (j : Nat) (g : Sl), (thawG i xs G)[j]? = some g → g.own = false := fun j g e => by
      unfold thawG at e
      rcases get_set e with ⟨_, rfl, _⟩ | ⟨_, e⟩
      · rfl
      · rw [List.getElem?_map] at e
        cases q : G[j]? with
        | none => rw [q] at e; cases e
        | some g0 => rw [q] at e; cases e; cases g0 <;> rfl
    rw [no j g e1] at o1
    cases o1
  · by_cases hq : B' q = none
    · exact .inl (by simp only [if_pos hq]; exact e)
    · cases z : B' q with
      | none => exact absurd z hq
      | some u => have q2 := h1.exB q u z; rw [e] at q2; cases q2; exact .inr rfl
theorem de_thaw (i : Nat) {xs : List D} {Gx : List Sl} (h : DE X (thawG i xs G) e d Gx) (hi : G[i]? = some (.ol xs) := by rfl) (hf : d.flat = true := by rfl) : DE X G e d G := ⟨fun pins s σ H R B I hh => by
  obtain ⟨R', B', h1, s1, cov⟩ := hh.thaw hi
  refine thn (h.run pins s σ H R' B' I h1) fun u s' ⟨v, H', I', r, B2, q1, q2, q3⟩ => ⟨v, H', I', r, B, hh.junk fun q o e => ?_, ext_refl B, q3.flat hf⟩
  rcases cov q o e with z | z
  · exact q1.exR _ _ z
  · exact q1.exB _ _ (q2 _ _ z)⟩
theorem dt_thaw (i : Nat) {xs : List D} {Gx : List Sl} {b : Bool} (h : DT X (thawG i xs G) e b Gx) (hi : G[i]? = some (.ol xs) := by rfl) : DT X G e b G := ⟨fun pins s σ H R B I hh => by
  obtain ⟨R', B', h1, s1, cov⟩ := hh.thaw hi
  refine thn (h.run pins s σ H R' B' I h1) fun u s' ⟨H', I', q0, B2, q1, q2⟩ => ⟨H', I', q0, B, hh.junk fun q o e => ?_, ext_refl B⟩
  rcases cov q o e with z | z
  · exact q1.exR _ _ z
  · exact q1.exB _ _ (q2 _ _ z)⟩
/-- an item of one's own list -/
theorem de_ixO (i : Nat) {n : Str} {k : Int} {px : Pos} {xs : List D} (hb : DE X G b (.int k) G) (hg : G[i]? = some (.ol xs) := by rfl) (hk : atI xs k = some d := by rfl) (hN : X.N[i]? = some n := by rfl) (hv : Vis X.env.scope n := by first | exact Or.inl rfl | exact Or.inr (Or.inl rfl) | exact Or.inr (Or.inr rfl))
    (hd : (n == ("__debug__" : Str)) = false := by decide) (hcd : (n == ("__classdict__" : Str)) = false := by decide) (hs : PlainIx b := by exact fun _ _ => rfl) : DE X G (.Subscript (.Name n px) b pos) d G :=
  .of (pe_ix ix_list (pe_var hN hv hd hcd) pe_D hs) fun σ H R B hh => by
    obtain ⟨o, e0, a, vs, rfl, hR, hB, hH, al⟩ := hh.sl i _ hg
    refine ⟨_, e0, hb.use hh fun u H1 B1 h1 e1 a1 => ?_⟩
    cases a1
    obtain ⟨o', e0', a', vs', rfl, hR', hB', hH', al'⟩ := h1.sl i _ hg
    rw [e0] at e0'
    cases e0'
    obtain ⟨w, hw, aw⟩ := al'.atI hk
    exact ⟨_, _, _, _, rfl, rfl, .of hH', hw, B1, h1, e1, aw⟩
/-- xs[k] = e -/
theorem ds_setix (i : Nat) {n : Str} {k : Int} {j : Nat} {px sp : Pos} {xs : List D} (h : DE X G e d G) (hb : DE X G b (.int k) G) (k1 : E.nx (G.set i (.ol (xs.set j d)))) (hj : ixN xs.length k = some j) (hg : G[i]? = some (.ol xs) := by rfl) (hN : X.N[i]? = some n := by rfl) (hv : Vis X.env.scope n := by first | exact Or.inl rfl | exact Or.inr (Or.inl rfl) | exact Or.inr (Or.inr rfl))
    (hd : (n == ("__debug__" : Str)) = false := by decide) (hcd : (n == ("__classdict__" : Str)) = false := by decide)
    (ha : ∀ v, assign (.Subscript (.Name n px) b sp) X.env v = (do
      let ov ← holding [v] (eval (.Name n px) X.env)
      let iv ← holding [v, ov] (eval b X.env)
      standAt sp
      holding [v, ov, iv] (setItem ov iv v)
      release [v, ov, iv] []) := by intro _; rfl)
    (hs : swapsWithSole [.Subscript (.Name n px) b sp] e pos.line X.env = pure false := by rfl) (hw : swappedStores [.Subscript (.Name n px) b sp] e X.env = pure none := by rfl)
    (h1 : (assignEach [.Subscript (.Name n px) b sp] X.env).map (·.2) = [assign (.Subscript (.Name n px) b sp) X.env] := by rfl) : DS X G (.Assign [.Subscript (.Name n px) b sp] e pos) E :=
  .of (ps_asg pe_D (pg_sub (pe_var hN hv hd hcd) pe_D set_list ha) hs hw h1) fun σ H R B hh => h.use hh fun v H1 B1 h1 e1 a1 => by
    obtain ⟨o, e0, a, vs, rfl, hR, hB, hH, al⟩ := h1.sl i _ hg
    refine ⟨_, e0, hb.use h1 fun u H2 B2 h2 e2 a2 => ?_⟩
    cases a2
    obtain ⟨o', e0', a', vs', rfl, hR', hB', hH', al'⟩ := h2.sl i _ hg
    rw [e0] at e0'
    cases e0'
    exact ⟨_, _, _, j, rfl, rfl, hH', by rw [al'.length]; exact hj, _, B2, h2.mut hg rfl e0 rfl (.ol hR' hB' upd_same (al'.set (a1.up e2) j)), e1.trans e2, k1⟩

/-! ### one's own dicts -/
def insK {α : Type} [DecidableEq α] (ks : List α) (k : α) : List α := if k ∈ ks then ks else ks ++ [k]
theorem insK_len {α : Type} [DecidableEq α] (ks : List α) (k : α) : (insK ks k).length ≤ ks.length + 1 := by
  unfold insK
  split
  · omega
  · simp
theorem mem_insK {α : Type} [DecidableEq α] {ks : List α} {k j : α} : j ∈ insK ks k ↔ j ∈ ks ∨ j = k := by
  unfold insK
  split
  · exact ⟨.inl, fun h => h.elim (fun z => z) fun z => by rw [z]; assumption⟩
  · simp
theorem put_true {α κ : Type} [DecidableEq α] [DecidableEq κ] (f : α → κ) (hf : ∀ a b, f a = f b → a = b) (ks : List α) (k : α) : putK (ks.map fun k => (f k, V.bl true)) (f k) (.bl true) = (insK ks k).map fun k => (f k, V.bl true) := by
  unfold putK insK
  by_cases h : k ∈ ks
  · rw [if_pos h, if_pos (List.any_eq_true.mpr ⟨(f k, .bl true), List.mem_map.mpr ⟨k, h, rfl⟩, decide_eq_true rfl⟩), List.map_map]
    refine List.map_congr_left fun a _ => ?_
    show (if f a = f k then (f a, V.bl true) else (f a, V.bl true)) = _
    split <;> rfl
  · rw [if_neg h, if_neg, List.map_append]
    · rfl
    · intro z
      obtain ⟨p, hp, e⟩ := List.any_eq_true.mp z
      obtain ⟨a, ha, rfl⟩ := List.mem_map.mp hp
      exact h (hf a k (of_decide_eq_true e) ▸ ha)
theorem put_D (ks : List Int) (k : Int) : putK (kvD ks) (Sum.inl k : Key) (.bl true) = kvD (insK ks k) := put_true (fun k : Int => (Sum.inl k : Key)) (fun _ _ e => Sum.inl.inj e) ks k
theorem mapInl_inj : ∀ {a b : List Int}, a.map (Sum.inl : Int → Key) = b.map Sum.inl → a = b
  | [], [], _ => rfl
  | [], _ :: _, h => by cases h
  | _ :: _, [], h => by cases h
  | x :: a, y :: b, h => by
    rw [List.map_cons, List.map_cons] at h
    injection h with h1 h2
    rw [Sum.inl.inj h1, mapInl_inj h2]
theorem put_T (ks : List (List Int)) (k : List Int) : putK (kvT ks) (k.map Sum.inl : List Key) (.bl true) = kvT (insK ks k) := put_true (fun k : List Int => (k.map Sum.inl : List Key)) (fun _ _ e => mapInl_inj e) ks k
/-- d[k] = True -/
theorem ds_put (i : Nat) {n : Str} {m : Int} {ks : List Int} {px sp : Pos} (hv : DE X G a (.bl true) G) (hb : DE X G b (.int m) G) (hu : X.A.units + 1 < cLine) (hz : ks.length < 1000000) (k1 : E.nx (G.set i (.od (insK ks m)))) (hg : G[i]? = some (.od ks) := by rfl) (hN : X.N[i]? = some n := by rfl) (hvs : Vis X.env.scope n := by first | exact Or.inl rfl | exact Or.inr (Or.inl rfl) | exact Or.inr (Or.inr rfl))
    (hd : (n == ("__debug__" : Str)) = false := by decide) (hcd : (n == ("__classdict__" : Str)) = false := by decide) (hs : swapsWith a (some (.Subscript (.Name n px) b sp)) pos.line X.env = pure false := by rfl) : DS X G (.Assign [.Subscript (.Name n px) b sp] a pos) E :=
  .of (ps_dput hu (pe_var hN hvs hd hcd) pe_D pe_D hs) fun σ H R B hh => hv.use hh fun v H1 B1 h1 e1 a1 => by
    cases a1
    obtain ⟨o, e0, ad, rfl, hR, hB, hH⟩ := h1.sl i _ hg
    refine ⟨_, e0, hb.use h1 fun u H2 B2 h2 e2 a2 => ?_⟩
    cases a2
    obtain ⟨o', e0', ad', rfl, hR', hB', hH'⟩ := h2.sl i _ hg
    rw [e0] at e0'
    cases e0'
    refine ⟨ad, _, rfl, DPut.k (k := Sum.inl m) hH' (by unfold kvD; rw [List.length_map]; exact Nat.lt_of_lt_of_le hz (by decide)), ?_⟩
    rw [put_D]
    exact ⟨_, B2, h2.mut hg rfl e0 rfl (.od hR' hB' upd_same), e1.trans e2, k1⟩
theorem AtL.ints {K : PySem.W.Frag} {B : Hp} : ∀ {vs : List V} {ns : List Int}, AtL K B vs (ns.map D.int) → vs = ns.map V.int
  | _, [], h => by cases h; rfl
  | _, n :: ns, h => by
    cases h with
    | cons a r => cases a; rw [AtL.ints r]; rfl
theorem map_kV (ns : List Int) : (ns.map Sum.inl).map kV = ns.map V.int := by
  rw [List.map_map]
  rfl
/-- d[(..)] = True -/
theorem ds_putT (i : Nat) {n : Str} {ms : List Int} {ks : List (List Int)} {px sp : Pos} (hv : DE X G a (.bl true) G) (hb : DE X G b (.tup (ms.map D.int)) G) (hu : X.A.units + 1 < cLine) (hz : ks.length < 1000000) (k1 : E.nx (G.set i (.ot (insK ks ms)))) (hg : G[i]? = some (.ot ks) := by rfl) (hN : X.N[i]? = some n := by rfl) (hvs : Vis X.env.scope n := by first | exact Or.inl rfl | exact Or.inr (Or.inl rfl) | exact Or.inr (Or.inr rfl))
    (hd : (n == ("__debug__" : Str)) = false := by decide) (hcd : (n == ("__classdict__" : Str)) = false := by decide) (hs : swapsWith a (some (.Subscript (.Name n px) b sp)) pos.line X.env = pure false := by rfl) : DS X G (.Assign [.Subscript (.Name n px) b sp] a pos) E :=
  .of (ps_dput hu (pe_var hN hvs hd hcd) pe_D pe_D hs) fun σ H R B hh => hv.use hh fun v H1 B1 h1 e1 a1 => by
    cases a1
    obtain ⟨o, e0, ad, rfl, hR, hB, hH⟩ := h1.sl i _ hg
    refine ⟨_, e0, hb.use h1 fun u H2 B2 h2 e2 a2 => ?_⟩
    cases a2 with
    | tup hp al =>
      obtain ⟨o', e0', ad', rfl, hR', hB', hH'⟩ := h2.sl i _ hg
      rw [e0] at e0'
      cases e0'
      refine ⟨ad, _, rfl, DPut.t (k := ms.map Sum.inl) hH' (by rw [h2.exB _ _ hp, map_kV, al.ints]) (by unfold kvT; rw [List.length_map]; exact Nat.lt_of_lt_of_le hz (by decide)), ?_⟩
      rw [put_T]
      exact ⟨_, B2, h2.mut hg rfl e0 rfl (.ot hR' hB' upd_same), e1.trans e2, k1⟩
/-- the base takes in tuples of the heap -/
theorem Hld.tups {K : PySem.W.Frag} {R B H : Hp} {σ : L2.St} (h : Hld K R B H σ G) (S : Addr → Bool) : ∃ B', Hld K R B' H σ G ∧ Same B B' ∧ ∀ q xs, S q = true → H q = some (.tup xs) → B' q = some (.tup xs) := by
  refine ⟨fun q => match B q with
    | some o => some o
    | none => match H q with
      | some (.tup xs) => if S q then some (.tup xs) else none
      | _ => none, ?_, ?_, ?_⟩
  · have keep : ∀ q o, (match B q with
        | some o => some o
        | none => match H q with
          | some (.tup xs) => if S q then some (.tup xs) else none
          | _ => none) = some o → H q = some o := fun q o e => by
      cases z : B q with
      | some u => rw [z] at e; cases e; exact h.exB q _ z
      | none =>
        rw [z] at e
        cases y : H q with
        | none => rw [y] at e; cases e
        | some u =>
          rw [y] at e
          cases u with
          | tup xs =>
            have e : (if S q then some (HO.tup xs) else none) = some o := e
            split at e
            · exact e
            · cases e
          | _ => cases e
    refine h.up (fun q o e => ?_) (ext_refl H) keep fun q o e n => ?_
    · show (match B q with
        | some o => some o
        | none => match H q with
          | some (.tup xs) => if S q then some (.tup xs) else none
          | _ => none) = some o
      rw [e]
    · show (match B q with
        | some o => some o
        | none => match H q with
          | some (.tup xs) => if S q then some (.tup xs) else none
          | _ => none) = none ∨ _
      rw [n]
      dsimp only
      rw [e]
      cases o with
      | tup xs => exact .inr ⟨xs, rfl⟩
      | _ => exact .inl rfl
  · intro q o e
    dsimp only
    rw [e]
  · intro q xs hs e
    dsimp only
    cases z : B q with
    | some u => have := h.exB q u z; rw [e] at this; rw [← this]
    | none => rw [e]; dsimp only; rw [if_pos hs]
theorem keys_at {K : PySem.W.Frag} {H B : Hp} : ∀ {ks : List (List Int)} {bs : List Addr}, IsKeys H (kvT ks) bs → (∀ q xs, q ∈ bs → H q = some (.tup xs) → B q = some (.tup xs)) → AtL K B (bs.map V.ref) (ks.map fun k => D.tup (k.map D.int))
  | [], bs, h, _ => by
    have h : Paired _ [] bs := h
    cases h
    exact .nil
  | k :: ks, bs, h, hB => by
    have h : Paired _ (((k.map Sum.inl : List Key), V.bl true) :: kvT ks) bs := h
    cases h with
    | cons a r =>
      refine .cons (.tup (hB _ _ List.mem_cons_self (by rw [a, map_kV])) .int) (keys_at r fun q xs hq => hB q xs (List.mem_cons_of_mem _ hq))
/-- list(d), d one's own dict of tuples -/
theorem de_listT (i : Nat) {n ln : Str} {ks : List (List Int)} {px : Pos} (hm : X.mg "list" = none) (hc : X.calm = true) (hg : G[i]? = some (.ot ks) := by rfl) (hN : X.N[i]? = some n := by rfl) (hvs : Vis X.env.scope n := by first | exact Or.inl rfl | exact Or.inr (Or.inl rfl) | exact Or.inr (Or.inr rfl))
    (hd : (n == ("__debug__" : Str)) = false := by decide) (hcd : (n == ("__classdict__" : Str)) = false := by decide) (hgl : Gl X "list" := by rfl) (hv : bootBuiltins "list" = some (.type "list") := by decide +kernel)
    (he : starEach [.Name n px] X.env = (false, eval (.Name n px) X.env) :: starEach [] X.env := by rfl) (hpl : (backTo pos (starEach [] X.env)).any (·.1) = false := by rfl) : DE X G (.Call (.Name "list" p) [.Name n px] [] pos) (.lst (ks.map fun k => D.tup (k.map D.int))) G :=
  .of (pe_callTy (call_list_dT hc) hgl hm hv (pa_cons (pe_var hN hvs hd hcd) pa_nil he) (by decide) (by decide) he hpl) fun σ H R B hh => by
    obtain ⟨o, e0, a, rfl, hR, hB, hH⟩ := hh.sl i _ hg
    refine ⟨_, e0, a, _, rfl, .of hH, fun q bs nq hk => ?_⟩
    obtain ⟨B', h1, s1, ht⟩ := hh.tups fun q => decide (q ∈ bs)
    have al := keys_at (K := X.K) hk fun q xs hq e => ht q xs (decide_eq_true hq) e
    exact ⟨_, h1.new nq, s1.trans (upB h1 nq), .lst upd_same (al.up (upB h1 nq))⟩
end
end Ax
namespace Ax
open PySem PySem.Spec L2
/-! ### comprehensions over one's own dict of ints -/
section
variable {X : Cx} {G G0 G1 G2 G' : List Sl} {e it tg elt a b c : Expr} {es ts ifs : List Expr} {x d z : D} {xs ds res : List D} {is js vs : List Nat} {pos pos' p : Pos} {E : DEnds} {sts : List Stmt} {scope : Scope}
theorem Hld.lockO {K : PySem.W.Frag} {R B H : Hp} {σ : L2.St} (h : Hld K R B H σ G) {i : Nat} {ks : List Int} {ad : Addr} (o : HO) (hi : G[i]? = some (.od ks)) (hs : σ[i]? = some (some (.ref ad))) : Hld K (upd R ad o) B (upd H ad o) σ (G.set i .un) := by
  obtain ⟨o', e1, a', e2, hR, hB, hH⟩ := h.sl i _ hi
  rw [hs] at e1
  cases e1
  cases e2
  have neB : ∀ q u, B q = some u → q ≠ ad := fun q u e z => by rw [z, hB] at e; cases e
  refine ⟨fun q u e => ?_, fun q u e => by rw [upd_ne (neB q u e)]; exact h.exB q u e, fun q u e => ?_, by rw [List.length_set, h.len], fun j g e => ?_, fun j k g g' b e1 e2 o1 o2 s1 s2 => ?_⟩
  · by_cases hq : q = ad
    · subst hq; rw [upd_same] at e ⊢; exact e
    · rw [upd_ne hq] at e ⊢; exact h.exR q u e
  · by_cases hq : q = ad
    · subst hq; exact .inl hB
    · rw [upd_ne hq] at e; exact h.dis q u e
  · rcases get_set e with ⟨rfl, rfl, hl⟩ | ⟨hne, e⟩
    · exact ⟨_, hs, trivial⟩
    · obtain ⟨o1, e1, s⟩ := h.sl j g e
      refine ⟨o1, e1, ?_⟩
      have ne : ∀ b, g.own = true → o1 = some (.ref b) → b ≠ ad := fun b q1 q2 z => by
        rw [q2, z] at e1
        exact hne (h.app j i g _ ad e hi q1 rfl e1 hs)
      cases g with
      | un => trivial
      | d x => exact s
      | ol xs => obtain ⟨b, vs, e, h1, h2, h3, h4⟩ := s; exact ⟨b, vs, e, by rw [upd_ne (ne b rfl e)]; exact h1, h2, by rw [upd_ne (ne b rfl e)]; exact h3, h4⟩
      | od ks => obtain ⟨b, e, h1, h2, h3⟩ := s; exact ⟨b, e, by rw [upd_ne (ne b rfl e)]; exact h1, h2, by rw [upd_ne (ne b rfl e)]; exact h3⟩
      | ot ks => obtain ⟨b, e, h1, h2, h3⟩ := s; exact ⟨b, e, by rw [upd_ne (ne b rfl e)]; exact h1, h2, by rw [upd_ne (ne b rfl e)]; exact h3⟩
      | sf b c fs => obtain ⟨dx, vf, e, h1, h2, h3, h4⟩ := s; exact ⟨dx, vf, e, by rw [upd_ne (ne b rfl e)]; exact h1, h2, by rw [upd_ne (ne b rfl e)]; exact h3, h4⟩
      | pl b xs => obtain ⟨vs, e, h1, h2, h3, h4⟩ := s; exact ⟨vs, e, by rw [upd_ne (ne b rfl e)]; exact h1, h2, by rw [upd_ne (ne b rfl e)]; exact h3, h4⟩
  · rcases get_set e1 with ⟨rfl, rfl, hl⟩ | ⟨hj, e1⟩
    · cases o1
    · rcases get_set e2 with ⟨rfl, rfl, hl⟩ | ⟨hk, e2⟩
      · cases o2
      · exact h.app j k g g' b e1 e2 o1 o2 s1 s2
theorem Hld.unlockO {K : PySem.W.Frag} {R B B0 H H0 : Hp} {σ : L2.St} {i : Nat} {ks : List Int} {ad : Addr} {o : HO} (h : Hld K (upd R ad o) B H σ (G.set i .un)) (ho : ∀ xs, o ≠ .tup xs) (h0 : Hld K R B0 H0 σ G) (hi : G[i]? = some (.od ks)) (hs : σ[i]? = some (some (.ref ad))) (hR : R ad = none) : Hld K R B (upd H ad (.dK (kvD ks))) σ G := by
  have hB : B ad = none := (h.dis ad o upd_same).elim (fun z => z) fun ⟨xs, e⟩ => absurd e (ho xs)
  have neB : ∀ q u, B q = some u → q ≠ ad := fun q u e z => by rw [z, hB] at e; cases e
  have neR : ∀ q u, R q = some u → q ≠ ad := fun q u e z => by rw [z, hR] at e; cases e
  refine ⟨fun q u e => ?_, fun q u e => by rw [upd_ne (neB q u e)]; exact h.exB q u e, fun q u e => ?_, h0.len, fun j g e => ?_, h0.app⟩
  · rw [upd_ne (neR q u e)]
    exact h.exR q u (by rw [upd_ne (neR q u e)]; exact e)
  · exact h.dis q u (by rw [upd_ne (neR q u e)]; exact e)
  · by_cases hj : j = i
    · subst hj
      rw [hi] at e
      cases e
      exact ⟨_, hs, ad, rfl, hR, hB, upd_same⟩
    · obtain ⟨o1, e1, s⟩ := h.sl j g (by rw [List.getElem?_set_ne (fun z => hj z.symm)]; exact e)
      refine ⟨o1, e1, ?_⟩
      have ne : ∀ b, g.own = true → o1 = some (.ref b) → b ≠ ad := fun b q1 q2 z => by
        rw [q2, z] at e1
        exact hj (h0.app j i g _ ad e hi q1 rfl e1 hs)
      cases g with
      | un => trivial
      | d x => exact s
      | ol xs => obtain ⟨b, vs, e, h1, h2, h3, h4⟩ := s; exact ⟨b, vs, e, by rw [upd_ne (ne b rfl e)] at h1; exact h1, h2, by rw [upd_ne (ne b rfl e)]; exact h3, h4⟩
      | od ks => obtain ⟨b, e, h1, h2, h3⟩ := s; exact ⟨b, e, by rw [upd_ne (ne b rfl e)] at h1; exact h1, h2, by rw [upd_ne (ne b rfl e)]; exact h3⟩
      | ot ks => obtain ⟨b, e, h1, h2, h3⟩ := s; exact ⟨b, e, by rw [upd_ne (ne b rfl e)] at h1; exact h1, h2, by rw [upd_ne (ne b rfl e)]; exact h3⟩
      | sf b c fs => obtain ⟨dx, vf, e, h1, h2, h3, h4⟩ := s; exact ⟨dx, vf, e, by rw [upd_ne (ne b rfl e)] at h1; exact h1, h2, by rw [upd_ne (ne b rfl e)]; exact h3, h4⟩
      | pl b xs => obtain ⟨vs, e, h1, h2, h3, h4⟩ := s; exact ⟨vs, e, by rw [upd_ne (ne b rfl e)] at h1; exact h1, h2, by rw [upd_ne (ne b rfl e)]; exact h3, h4⟩
theorem kvD_get {ks : List Int} {i : Nat} {k : Key} {v : V} (h : (kvD ks)[i]? = some (k, v)) : ∃ n, ks[i]? = some n ∧ k = Sum.inl n := by
  unfold kvD at h
  rw [List.getElem?_map] at h
  cases q : ks[i]? with
  | none => rw [q] at h; cases h
  | some n => rw [q] at h; cases h; exact ⟨n, rfl, rfl⟩
/-- [elt for x in d if ..], d one's own dict of ints -/
theorem de_lcD (i : Nat) (own : List (Str × Nat)) {n : Str} {ks : List Int} {px : Pos} (f : D → Bool) (g : D → D) (free : Free (G.set i .un) (own.map (·.2))) (hl : ks.length ≤ 1000000)
    (turn : ∀ k ∈ ks, ∃ G1 is, (∀ X', Bk X scope X' → DG X' (G.set i .un) tg (.int k) G1 is) ∧ (∀ i ∈ is, i ∈ own.map (·.2)) ∧ unG (own.map (·.2)) G1 = G.set i .un ∧ (∀ X', Bk X scope X' → DTs X' G1 ifs (f (.int k)) G1) ∧ (f (.int k) = true → ∀ X', Bk X scope X' → DE X' G1 elt (g (.int k)) G1))
    (ok : BlkOk X.N X.env.scope scope own) (hND : X.N.Nodup) (hc : X.calm = true) (hg : G[i]? = some (.od ks) := by rfl) (hN : X.N[i]? = some n := by rfl) (hvs : Vis X.env.scope n := by first | exact Or.inl rfl | exact Or.inr (Or.inl rfl) | exact Or.inr (Or.inr rfl))
    (hd : (n == ("__debug__" : Str)) = false := by decide) (hcd : (n == ("__classdict__" : Str)) = false := by decide) (hs : ∀ x, foldedSetIterable (.Name n px) X.env x = pure x := by intro _; rfl) : DE X G (.ListComp elt [⟨tg, .Name n px, ifs, 0⟩] scope pos) (.lst (((ks.map D.int).filter f).map g)) G := by
  refine .of (pe_lock (pe_lc hc hND (pi_keys (pe_var hN hvs hd hcd)) ok pg_b pt_b pe_b hs)) fun σ H R B hh => ?_
  obtain ⟨o, e0, ad, rfl, hR, hB, hH⟩ := hh.sl i _ hg
  refine ⟨ad, .dK (kvD ks), hH, trivial, fun od => ?_⟩
  have hL := hh.lockO (.frz od (.dK (kvD ks))) hg e0
  have hfrz : ∀ H2, Same (upd R ad (.frz od (.dK (kvD ks)))) H2 → H2 ad = some (.frz od (.dK (kvD ks))) := fun H2 s => s _ _ upd_same
  refine lc_rd (X := X) (G0 := G.set i .un) (ds := ks.map D.int) (R := upd R ad (.frz od (.dK (kvD ks)))) (B := B) (S := fun q => if q = ad then some (.frz od (.dK (kvD ks))) else none)
    (fun i' acc G' => G' = G.set i .un ∧ acc = (((ks.map D.int).take i').filter f).map g) ⟨rfl, rfl⟩ (by rw [List.length_map]; exact hl) (fun i' acc G' p => p.1 ▸ free) (fun i' x acc G' hx p => ?_) (fun Rr q => ?_) fun acc G' v H' B' p q1 q2 q3 => ?_
  · obtain ⟨rfl, rfl⟩ := p
    have hk := hx
    rw [List.getElem?_map] at hk
    cases hk2 : ks[i']? with
    | none => rw [hk2] at hk; cases hk
    | some k =>
      rw [hk2] at hk
      cases hk
      obtain ⟨G1, is, t1, t2, t3, t4, t5⟩ := turn k (List.mem_of_getElem? hk2)
      have ht : (ks.map D.int).take (i' + 1) = (ks.map D.int).take i' ++ [.int k] := by rw [List.take_succ, hx]; rfl
      refine ⟨G1, is, f (.int k), G1, t1, t2, t4, ?_⟩
      cases qf : f (.int k) with
      | true => exact .inl ⟨rfl, g (.int k), G1, t5 qf, t3, by rw [ht, List.filter_append, List.map_append]; simp [qf, snoc]⟩
      | false => exact .inr ⟨rfl, t3, by rw [ht, List.filter_append, List.map_append]; simp [qf, snoc]⟩
  · refine ⟨_, e0, ad, od, rfl, .inl ⟨kvD ks, upd_same, q _ _ B hL (ext_refl B) (fun H2 s1 _ q u e => ?_) ⟨fun j H2 hj s => ⟨s ad _ (if_pos rfl), ?_⟩, fun H2 s => ⟨s ad _ (if_pos rfl), ?_⟩, fun j H2 x H3 d R2 B2 σ2 G2 hd' s _ hh2 y => ?_⟩⟩⟩
    · have e : (if q = ad then some (HO.frz od (HO.dK (kvD ks))) else none) = some u := e
      by_cases hq : q = ad
      · rw [if_pos hq] at e
        cases e
        rw [hq]
        exact hfrz H2 s1
      · rw [if_neg hq] at e; cases e
    · rw [List.length_map] at hj
      unfold kvD
      rw [List.length_map]
      exact hj
    · rw [List.length_map]
      unfold kvD
      rw [List.length_map]
      exact Nat.le_refl _
    · obtain ⟨rfl, k, v, hk, rfl⟩ := y
      obtain ⟨m, hm, rfl⟩ := kvD_get hk
      rw [List.getElem?_map, hm] at hd'
      cases hd'
      exact ⟨B2, hh2, ext_refl B2, .int m⟩
  · obtain ⟨rfl, rfl⟩ := p
    rw [List.take_length] at q3
    exact ⟨hfrz H' q1.exR, B', q1.unlockO (fun _ z => nomatch z) hh hg e0 hR, q2, q3⟩
/-- list(d), d one's own dict of ints -/
theorem de_listD (i : Nat) {n : Str} {ks : List Int} {px : Pos} (hm : X.mg "list" = none) (hc : X.calm = true) (hg : G[i]? = some (.od ks) := by rfl) (hN : X.N[i]? = some n := by rfl) (hvs : Vis X.env.scope n := by first | exact Or.inl rfl | exact Or.inr (Or.inl rfl) | exact Or.inr (Or.inr rfl))
    (hd : (n == ("__debug__" : Str)) = false := by decide) (hcd : (n == ("__classdict__" : Str)) = false := by decide) (hgl : Gl X "list" := by rfl) (hv : bootBuiltins "list" = some (.type "list") := by decide +kernel)
    (he : starEach [.Name n px] X.env = (false, eval (.Name n px) X.env) :: starEach [] X.env := by rfl) (hpl : (backTo pos (starEach [] X.env)).any (·.1) = false := by rfl) : DE X G (.Call (.Name "list" p) [.Name n px] [] pos) (.lst (ks.map D.int)) G :=
  .of (pe_callTy (call_list_dK hc) hgl hm hv (pa_cons (pe_var hN hvs hd hcd) pa_nil he) (by decide) (by decide) he hpl) fun σ H R B hh => by
    obtain ⟨o, e0, a, rfl, hR, hB, hH⟩ := hh.sl i _ hg
    refine ⟨_, e0, a, _, rfl, hH, fun q nq => ?_⟩
    have e : (kvD ks).map (fun p => kV p.1) = ks.map V.int := by
      unfold kvD
      rw [List.map_map]
      rfl
    exact ⟨_, hh.new nq, upB hh nq, .lst upd_same (by rw [e]; exact .int)⟩
end
end Ax
namespace Ax
open PySem PySem.Spec L2
/-! ### defs by data -/
/-- a def that hands back data, changing nothing: rel tells which -/
def spP (K : PySem.W.Frag) (n : Nat) (rel : List D → D → Prop) : Sp := fun vs H Q _ => ∃ B ds d, Same B H ∧ AtL K B vs ds ∧ ds.length = n ∧ rel ds d ∧ ∀ v H' B', Same H H' → Same B B' → Same B' H' → Nw B H B' → At K B' v d → Q v H'
/-- a def whose first parameter is a list that it changes -/
def spU (K : PySem.W.Frag) (n : Nat) (rel : List D → List D → D → List D → Prop) : Sp := fun vs H Q _ => ∃ B p pv ps vs' ds d ps', vs = .ref p :: vs' ∧ Same B H ∧ B p = none ∧ H p = some (.lst pv) ∧ AtL K B pv ps ∧ AtL K B vs' ds ∧ ds.length = n ∧ rel ps ds d ps' ∧
  ∀ v H' B' pv', (∀ q o, H q = some o → q ≠ p → H' q = some o) → H' p = some (.lst pv') → AtL K B' pv' ps' → Same B B' → Same B' H' → Nw B H B' → B' p = none → At K B' v d → Q v H'
/-- an __init__: the fields it stores -/
def spI (K : PySem.W.Frag) (c : Str) (n : Nat) (rel : List D → List (Str × D) → Prop) : Sp := fun vs H Q _ => ∃ B x dx vs' ds fs, vs = .ref x :: vs' ∧ Same B H ∧ B x = none ∧ H x = some (.ins (He.ga K c) dx []) ∧ AtL K B vs' ds ∧ ds.length = n ∧ rel ds fs ∧
  ∀ H' B' dx' vf, (∀ q o, H q = some o → q ≠ x → H' q = some o) → H' x = some (.ins (He.ga K c) dx' vf) → AtF K B' vf fs → Same B B' → Same B' H' → Nw B H B' → B' x = none → Q .non H'
section
variable (P : Program) (w : World) (K : PySem.W.Frag) (mg : Str → Option Value) (base : Heap)
structure FnD (k : Nat) (x : Str) (n : Nat) (rel : List D → D → Prop) : Prop where
  ex : ∃ f fd ps, mg x = some (.ref f) ∧ PySem.W.keepIn K (.ref f) = true ∧ FnOk P w K mg base CX0 k f fd ps (spP K n rel) ∧ Binds K fd ps []
structure FnU (k : Nat) (x : Str) (n : Nat) (rel : List D → List D → D → List D → Prop) : Prop where
  ex : ∃ f fd ps, mg x = some (.ref f) ∧ PySem.W.keepIn K (.ref f) = true ∧ FnOk P w K mg base CX0 k f fd ps (spU K n rel) ∧ Binds K fd ps []
/-- a method (its own instance is the first of the data) -/
structure MtD (k : Nat) (c m : Str) (n : Nat) (rel : List D → D → Prop) : Prop where
  ex : ∃ f fd ps, Cls K (He.ga K c) ∧ Meth K (He.ga K c) m f ∧ FnOk P w K mg base CX0 k f fd ps (spP K n rel) ∧ Binds K fd ps []
structure MkD (k : Nat) (c : Str) (n : Nat) (rel : List D → List (Str × D) → Prop) : Prop where
  ex : ∃ f fd ps, mg c = some (.ref (He.ga K c)) ∧ Mk K (He.ga K c) f ∧ FnOk P w K mg base CX0 k f fd ps (spI K c n rel) ∧ Binds K fd ps []
end
section
variable {X : Cx} {G G0 G1 G2 G' : List Sl} {e o it tg elt a b c : Expr} {es ts ifs : List Expr} {x d z : D} {xs ds res : List D} {pos pos' p apos : Pos} {E : DEnds} {k n : Nat} {f : Str}
/-- a call hands back d, the heap only grows -/
theorem grown {R B H B' H' : Hp} {σ : L2.St} {v : V} {Q : VK} (hh : Hld X.K R B H σ G) (kk : ∀ v H' B', Hld X.K R B' H' σ G → Same B B' → At X.K B' v d → Q v H') (s1 : Same H H') (s2 : Same B B') (s3 : Same B' H') (nw : Nw B H B') (q : At X.K B' v d) : Q v H' :=
  kk v H' B' (hh.up s2 s1 s3 nw) s2 q
theorem de_call {rel : List D → D → Prop} (F : FnD X.prog X.w X.K X.mg X.base k f n rel) (hr : Room k X.A) (ha : DA X G (e :: es) ds G') (hrel : rel ds d) (hn : ds.length = n := by rfl) (hg : Gl X f := by rfl) (hdb : (f == ("__debug__" : Str)) = false := by decide)
    (he : starEach (e :: es) X.env = (false, eval e X.env) :: starEach es X.env := by rfl) (hpl : (backTo pos (starEach es X.env)).any (·.1) = false := by rfl) : DE X G (.Call (.Name f p) (e :: es) [] pos) d G' := by
  obtain ⟨fa, fd, ps, hm, hk, ok, hb⟩ := F.ex
  exact .of (pe_call ok hr hg hm hk hb .nil pass0 pa_D hdb he hpl) fun σ H R B hh => ha.use hh fun vs H1 B1 h1 e1 a1 =>
    ⟨B1, ds, d, h1.exB, by rw [List.append_nil]; exact a1, hn, hrel, fun v H' B' s1 s2 s3 nw q => ⟨B', h1.up s2 s1 s3 nw, e1.trans s2, q⟩⟩
/-- o.m(..) -/
theorem de_meth {c m : Str} {fs : List (Str × D)} {pl : Sem Bool} {rel : List D → D → Prop} (F : MtD X.prog X.w X.K X.mg X.base k c m n rel) (hr : Room k X.A) (ho : DE X G o (.obj c fs) G1) (ha : DA X G1 (e :: es) ds G2) (hrel : rel (.obj c fs :: ds) d) (hl : fs.lookup m = none := by rfl) (hn : ds.length + 1 = n := by rfl)
    (hst : starEach (e :: es) X.env = (false, eval e X.env) :: starEach es X.env := by rfl) (hpl : (backTo pos (starEach es X.env)).any (·.1) = false := by rfl)
    (ht : eval (.Call (.Attribute o m apos) (e :: es) [] pos) X.env = (do
      let ov ← eval o X.env
      standAt apos.atName
      let (f, first) ← holding [ov] (getMethod ov m pl)
      callWith pos f first (backTo pos (starEach (e :: es) X.env)) (backToKw pos (keywordEach [] X.env))) := by rfl) : DE X G (.Call (.Attribute o m apos) (e :: es) [] pos) d G2 := by
  obtain ⟨fa, fd, ps, hc, hm, ok, hb⟩ := F.ex
  exact .of (pe_meth pe_D hc hm ok hr hb .nil pass0 pa_D hst hpl ht) fun σ H R B hh => ho.use hh fun v H1 B1 h1 e1 a1 => by
    cases a1 with
    | obj hp al =>
      exact ⟨_, _, _, rfl, h1.exB _ _ hp, al.none hl, ha.use h1 fun vs H2 B2 h2 e2 a2 => ⟨B2, _, d, h2.exB, .cons (.obj (e2 _ _ hp) (al.up e2)) (by rw [List.append_nil]; exact a2), hn, hrel, fun v H' B' s1 s2 s3 nw q => ⟨B', h2.up s2 s1 s3 nw, (e1.trans e2).trans s2, q⟩⟩⟩
theorem de_meth0 {c m : Str} {fs : List (Str × D)} {pl : Sem Bool} {rel : List D → D → Prop} (F : MtD X.prog X.w X.K X.mg X.base k c m 1 rel) (hr : Room k X.A) (ho : DE X G o (.obj c fs) G1) (hrel : rel [.obj c fs] d) (hl : fs.lookup m = none := by rfl)
    (ht : eval (.Call (.Attribute o m apos) [] [] pos) X.env = (do
      let ov ← eval o X.env
      standAt apos.atName
      let (f, first) ← holding [ov] (getMethod ov m pl)
      callWith pos f first (backTo pos (starEach [] X.env)) (backToKw pos (keywordEach [] X.env))) := by rfl) : DE X G (.Call (.Attribute o m apos) [] [] pos) d G1 := by
  obtain ⟨fa, fd, ps, hc, hm, ok, hb⟩ := F.ex
  exact .of (pe_meth0 pe_D hc hm ok hr hb .nil pass0 ht) fun σ H R B hh => ho.use hh fun v H1 B1 h1 e1 a1 => by
    cases a1 with
    | obj hp al =>
      exact ⟨_, _, _, rfl, h1.exB _ _ hp, al.none hl, B1, _, d, h1.exB, .cons (.obj hp al) .nil, rfl, hrel, fun v H' B' s1 s2 s3 nw q => ⟨B', h1.up s2 s1 s3 nw, e1.trans s2, q⟩⟩
/-- C(..) -/
theorem made {K : PySem.W.Frag} {R B H : Hp} {σ : L2.St} {c : Str} {fs : List (Str × D)} {rel : List D → List (Str × D) → Prop} {vs : List V} {Q : VK} (hh : Hld K R B H σ G) (al : AtL K B vs ds) (hn : ds.length = n) (hrel : rel ds fs)
    (kk : ∀ v H' B', Hld K R B' H' σ G → Same B B' → At K B' v (.obj c fs) → Q v H') (x dx : Addr) (nx : H x = none) (ndx : H dx = none) (ne : dx ≠ x) :
    spI K c n rel (.ref x :: (vs ++ [])) (upd (upd H dx (.own x)) x (.ins (He.ga K c) dx [])) (fun v H2 => v = .non ∧ Q (.ref x) H2) E0 := by
  have bx : B x = none := by
    cases z : B x with
    | none => rfl
    | some u => rw [hh.exB _ _ z] at nx; cases nx
  have sH : Same H (upd (upd H dx (.own x)) x (.ins (He.ga K c) dx [])) := fun q u e => by
    rw [upd_ne (ne_of_none e nx), upd_ne (ne_of_none e ndx)]
    exact e
  refine ⟨B, x, dx, vs, ds, fs, by rw [List.append_nil], hh.exB.trans sH, bx, upd_same, al, hn, hrel, fun H' B' dx' vf k1 k2 k3 k4 k5 k6 k7 => ⟨rfl, ?_⟩⟩
  have sHH : Same H H' := fun q u e => k1 q u (sH q u e) (ne_of_none e nx)
  have sm : Same B' (upd B' x (.ins (He.ga K c) dx' vf)) := ext_new k7
  refine kk _ H' (upd B' x (.ins (He.ga K c) dx' vf)) (hh.up (k4.trans sm) sHH (fun q u e => ?_) fun q u e n => ?_) (k4.trans sm) (.obj upd_same (k3.up sm))
  · by_cases hq : q = x
    · subst hq; rw [upd_same] at e; cases e; exact k2
    · rw [upd_ne hq] at e; exact k5 q u e
  · rw [upd_ne (ne_of_none e nx)]
    exact k6 q u (sH q u e) n
theorem de_make {c : Str} {fs : List (Str × D)} {rel : List D → List (Str × D) → Prop} (F : MkD X.prog X.w X.K X.mg X.base k c n rel) (hr : Room (k + 1) X.A) (ha : DA X G (e :: es) ds G') (hrel : rel ds fs) (hn : ds.length = n := by rfl) (hg : Gl X c := by rfl) (hdb : (c == ("__debug__" : Str)) = false := by decide)
    (he : starEach (e :: es) X.env = (false, eval e X.env) :: starEach es X.env := by rfl) (hpl : (backTo pos (starEach es X.env)).any (·.1) = false := by rfl) : DE X G (.Call (.Name c p) (e :: es) [] pos) (.obj c fs) G' := by
  obtain ⟨fa, fd, ps, hm, hM, ok, hb⟩ := F.ex
  exact .of (pe_make hM ok hr hg hm hb .nil pass0 pa_D hdb he hpl) fun σ H R B hh => ha.use hh fun vs H1 B1 h1 e1 a1 => fun x dx nx ndx ne =>
    made (rel := rel) h1 a1 hn hrel (fun v H' B' q1 q2 q3 => ⟨B', q1, e1.trans q2, q3⟩) x dx nx ndx ne
/-- f(l, ..), l one's own list, which it changes -/
theorem de_callP (i : Nat) {ln : Str} {px : Pos} {pa : Addr} {ps ps' : List D} {rel : List D → List D → D → List D → Prop} (F : FnU X.prog X.w X.K X.mg X.base k f n rel) (hr : Room k X.A) (ha : DA X G es ds G') (hrel : rel ps ds d ps') (hgi : G[i]? = some (.pl pa ps)) (hgi' : G'[i]? = some (.pl pa ps)) (hn : ds.length = n := by rfl) (hN : X.N[i]? = some ln := by rfl) (hv : Vis X.env.scope ln := by first | exact Or.inl rfl | exact Or.inr (Or.inl rfl) | exact Or.inr (Or.inr rfl))
    (hd : (ln == ("__debug__" : Str)) = false := by decide) (hcd : (ln == ("__classdict__" : Str)) = false := by decide) (hg : Gl X f := by rfl) (hdb : (f == ("__debug__" : Str)) = false := by decide)
    (he : starEach (.Name ln px :: es) X.env = (false, eval (.Name ln px) X.env) :: starEach es X.env := by rfl) (hpl : (backTo pos (starEach es X.env)).any (·.1) = false := by rfl) : DE X G (.Call (.Name f p) (.Name ln px :: es) [] pos) d (G'.set i (.pl pa ps')) := by
  obtain ⟨fa, fd, pn, hm, hk, ok, hb⟩ := F.ex
  exact .of (pe_call ok hr hg hm hk hb .nil pass0 (pa_cons (pe_var hN hv hd hcd) pa_D he) hdb he hpl) fun σ H R B hh => by
    obtain ⟨o', e0, vs0, rfl, hR0, hB0, hH0, al0⟩ := hh.sl i _ hgi
    refine ⟨_, e0, ha.use hh fun vs H1 B1 h1 e1 a1 => ?_⟩
    obtain ⟨o'', e0', vs1, rfl, hR, hB, hH, al⟩ := h1.sl i _ hgi'
    refine ⟨B1, pa, vs1, ps, vs, ds, d, ps', by rw [List.append_nil], h1.exB, hB, hH, al, a1, hn, hrel, fun v H' B' pv' k1 k2 k3 k4 k5 k6 k7 k8 => ?_⟩
    -- the rest stands, the list has changed
    have h2 : Hld X.K R B' (upd H' pa (.lst pv')) σ (G'.set i (.pl pa ps')) := by
      have hj : Hld X.K R B' (upd H' pa (.lst vs1)) σ G' := h1.up k4 (fun q u e => by
        by_cases hq : q = pa
        · subst hq; rw [upd_same, ← hH]; exact e
        · rw [upd_ne hq]; exact k1 q u e hq) (fun q u e => by
        have : q ≠ pa := fun z => by rw [z, k7] at e; cases e
        rw [upd_ne this]; exact k5 q u e) k6
      have hm := hj.mut (u := .lst pv') (g' := .pl pa ps') hgi' rfl e0 rfl (.pl hR k7 upd_same k3)
      rw [upd_upd] at hm
      exact hm
    have e3 : upd H' pa (.lst pv') = H' := by
      funext q
      by_cases hq : q = pa
      · subst hq; rw [upd_same, k2]
      · rw [upd_ne hq]
    rw [e3] at h2
    exact ⟨B', h2, e1.trans k4, k8⟩
/-- self.f = e, f a new field -/
theorem putF_new {f : Str} {v : V} : ∀ {fs : List (Str × V)}, fs.lookup f = none → putF f v fs = fs ++ [(f, v)]
  | [], _ => rfl
  | (g, x) :: r, h => by
    rw [List.lookup_cons] at h
    cases q : (f == g) with
    | true => rw [q] at h; cases h
    | false =>
      rw [q] at h
      have ne : ¬ g = f := fun z => by rw [z] at q; simp at q
      show (if g = f then (g, v) :: r else (g, x) :: putF f v r) = _
      rw [if_neg ne, putF_new h]
      rfl
theorem AtF.append {K : PySem.W.Frag} {B : Hp} {f : Str} {v : V} : ∀ {vf : List (Str × V)} {df : List (Str × D)}, AtF K B vf df → At K B v d → AtF K B (vf ++ [(f, v)]) (df ++ [(f, d)])
  | _, _, .nil, h => .cons h .nil
  | _, _, .cons a r, h => .cons a (AtF.append r h)
theorem AtF.length {K : PySem.W.Frag} {B : Hp} : ∀ {vf : List (Str × V)} {df : List (Str × D)}, AtF K B vf df → vf.length = df.length
  | _, _, .nil => rfl
  | _, _, .cons a r => congrArg (· + 1) r.length
theorem ds_fld (i : Nat) {n c f : Str} {sa : Addr} {fs : List (Str × D)} {px ap : Pos} (h : DE X G e d G1) (hc : Cls X.K (He.ga X.K c)) (hno : NoAttr X.K (He.ga X.K c) f) (k1 : E.nx (G1.set i (.sf sa c (fs ++ [(f, d)])))) (hg : G1[i]? = some (.sf sa c fs) := by rfl) (hl : fs.lookup f = none := by rfl) (hz : fs.length < 1000 := by first | decide | exact Nat.le_of_ble_eq_true rfl) (hN : X.N[i]? = some n := by rfl) (hv : Vis X.env.scope n := by first | exact Or.inl rfl | exact Or.inr (Or.inl rfl) | exact Or.inr (Or.inr rfl))
    (hd : (n == ("__debug__" : Str)) = false := by decide) (hcd : (n == ("__classdict__" : Str)) = false := by decide) (hs : swapsWith e (some (.Attribute (.Name n px) f ap)) pos.line X.env = pure false := by rfl) : DS X G (.Assign [.Attribute (.Name n px) f ap] e pos) E :=
  .of (ps_fld (pe_var hN hv hd hcd) pe_D hs) fun σ H R B hh => h.use hh fun v H1 B1 h1 e1 a1 => by
    obtain ⟨o, e0, dx, vf, rfl, hR, hB, hH, al⟩ := h1.sl i _ hg
    refine ⟨_, e0, sa, _, dx, vf, rfl, hH, hc, hno, by rw [al.length]; exact hz, ?_⟩
    rw [putF_new (al.none hl)]
    exact ⟨_, B1, h1.mut hg rfl e0 rfl (.sf hR hB upd_same (al.append a1)), e1, k1⟩
end

/-! ### a def keeps its promise -/
section
variable {P : Program} {w : World} {K : PySem.W.Frag} {mg : Str → Option Value} {base : Heap}
abbrev cx (P : Program) (w : World) (K : PySem.W.Frag) (mg : Str → Option Value) (base : Heap) (N : List Str) (qual : Str) (st : Stmt) (f : Addr) (cdv : Value) (A : Around) (outer : List Env) (s : Shared) (H : Hp) (E : XK) : Cx := (cxOf CX0 P w K mg base N qual (defScope st) f cdv A outer s H E).nox
def slots (N : List Str) (ds : List D) : List Sl := ds.map Sl.d ++ List.replicate (N.length - ds.length) .un
theorem hld_start {R B H : Hp} {N : List Str} {vs : List V} {ds : List D} (eR : Same R H) (eB : Same B H) (dis : ∀ q o, R q = some o → B q = none ∨ ∃ xs, o = .tup xs) (al : AtL K B vs ds) : Hld K R B H (L2.start N vs) (slots N ds) := by
  have hl := al.length
  refine ⟨eR, eB, dis, ?_, fun i g e => ?_, fun i j g g' a e1 e2 o1 o2 _ _ => ?_⟩
  · unfold L2.start slots
    simp only [List.length_append, List.length_map, List.length_replicate, hl]
  · unfold slots at e
    unfold L2.start
    by_cases hi : i < ds.length
    · rw [List.getElem?_append_left (by rw [List.length_map]; exact hi), List.getElem?_map, List.getElem?_eq_getElem hi] at e
      cases e
      obtain ⟨u, hu, au⟩ := al.get (List.getElem?_eq_getElem hi)
      exact ⟨some u, by rw [List.getElem?_append_left (by rw [List.length_map, hl]; exact hi), List.getElem?_map, hu]; rfl, u, rfl, au⟩
    · rw [List.getElem?_append_right (by rw [List.length_map]; omega), List.length_map] at e
      rw [List.getElem?_append_right (by rw [List.length_map, hl]; omega), List.length_map, hl]
      rw [List.getElem?_replicate] at e ⊢
      split at e
      · rename_i h1
        rw [if_pos h1]
        cases e
        exact ⟨none, rfl, trivial⟩
      · cases e
  · have no : ∀ (i : Nat) (g : Sl), (slots N ds)[i]? = some g → g.own = false := fun i g e => by
      unfold slots at e
      rcases List.mem_append.mp (List.mem_of_getElem? e) with m | m
      · obtain ⟨y, _, rfl⟩ := List.mem_map.mp m
        rfl
      · rw [List.eq_of_mem_replicate m]
        rfl
    rw [no i g e1] at o1
    cases o1
variable {x qual : Str} {st : Stmt} {f : Addr} {fd : FuncData} {N ps : List Str} {k n : Nat} {dvs : List V}
theorem ok_P {rel : List D → D → Prop} (F : FunD K x qual (defArgs st) (defBody st) (defScope st) dvs [] f fd) (S : FnScope N ps (defScope st)) (hn : ps.length = n)
    (body : ∀ (cdv : Value) (A : Around) (outer : List Env) (s : Shared) (H : Hp) (E : XK), Room k (cx P w K mg base N qual st f cdv A outer s H E).A → ∀ ds d, rel ds d → ds.length = n →
      DSs (cx P w K mg base N qual st f cdv A outer s H E) (slots N ds) (defBody st) { nx := fun _ => d = .non, rt := fun d' _ => d' = d }) : FnOk P w K mg base CX0 (k + 1) f fd ps (spP K n rel) := by
  refine F.ok S (fun vs H Q E h => ?_) (fun cdv A outer s H vs Q E hr h => ?_)
  · obtain ⟨B, ds, d, _, al, hl, _⟩ := h
    rw [al.length, hl, hn]
  · obtain ⟨B, ds, d, sB, al, hl, hrel, kq⟩ := h
    have hb := body cdv A outer s H E hr ds d hrel hl
    let R : Hp := fun q => if B q = none then H q else none
    have hR : ∀ q o, R q = some o → B q = none ∧ H q = some o := fun q o e => by
      by_cases z : B q = none
      · have e : (if B q = none then H q else none) = some o := e
        rw [if_pos z] at e
        exact ⟨z, e⟩
      · have e : (if B q = none then H q else none) = some o := e
        rw [if_neg z] at e
        cases e
    have hS : ∀ q o, H q = some o → B q = none → R q = some o := fun q o e z => by
      show (if B q = none then H q else none) = some o
      rw [if_pos z]; exact e
    have h0 : Hld K R B H (L2.start N vs) (slots N ds) := hld_start (fun q o e => (hR q o e).2) sB (fun q o e => .inl (hR q o e).1) al
    have fin : ∀ v H' B' σ' G', Hld K R B' H' σ' G' → Same B B' → At K B' v d → Q v H' := fun v H' B' σ' G' h1 s1 q => by
      refine kq v H' B' (fun q o e => ?_) s1 h1.exB (fun q o e z => ?_) q
      · cases z : B q with
        | none => exact h1.exR q o (hS q o e z)
        | some u =>
          have := sB q u z
          rw [e] at this
          cases this
          exact h1.exB q _ (s1 q _ z)
      · exact h1.dis q o (hS q o e z)
    refine ⟨_, (pss_D (X := cx P w K mg base N qual st f cdv A outer s H E)).nox, hb.use h0 (fun σ' H' ⟨G', B', h1, s1, e⟩ => ?_) (fun v H' ⟨σ', G', B', d', h1, s1, a1, e⟩ => ?_) (fun σ' H' ⟨G', B', h1, s1, e⟩ => e) (fun σ' H' ⟨G', B', h1, s1, e⟩ => e)⟩
    · exact fin .non H' B' σ' G' h1 s1 (by rw [show d = .non from e]; exact .non)
    · exact fin v H' B' σ' G' h1 s1 (by rw [← show d' = d from e]; exact a1)
end
end Ax
namespace Ax
open PySem PySem.Spec L2
section
variable {X : Cx} {G G0 G1 G2 G' : List Sl} {e o it tg elt a b c : Expr} {es ts ifs : List Expr} {x d z : D} {xs ds res : List D} {pos pos' p apos : Pos} {E : DEnds} {k n : Nat} {f : Str}
theorem de_ixP (i : Nat) {n : Str} {k : Int} {px : Pos} {pa : Addr} {xs : List D} (hb : DE X G b (.int k) G) (hg : G[i]? = some (.pl pa xs) := by rfl) (hk : atI xs k = some d := by rfl) (hN : X.N[i]? = some n := by rfl) (hv : Vis X.env.scope n := by first | exact Or.inl rfl | exact Or.inr (Or.inl rfl) | exact Or.inr (Or.inr rfl))
    (hd : (n == ("__debug__" : Str)) = false := by decide) (hcd : (n == ("__classdict__" : Str)) = false := by decide) (hs : PlainIx b := by exact fun _ _ => rfl) : DE X G (.Subscript (.Name n px) b pos) d G :=
  .of (pe_ix ix_list (pe_var hN hv hd hcd) pe_D hs) fun σ H R B hh => by
    obtain ⟨o, e0, vs, rfl, hR, hB, hH, al⟩ := hh.sl i _ hg
    refine ⟨_, e0, hb.use hh fun u H1 B1 h1 e1 a1 => ?_⟩
    cases a1
    obtain ⟨o', e0', vs', rfl, hR', hB', hH', al'⟩ := h1.sl i _ hg
    obtain ⟨w, hw, aw⟩ := al'.atI hk
    exact ⟨_, _, _, _, rfl, rfl, .of hH', hw, B1, h1, e1, aw⟩
theorem ds_setixP (i : Nat) {n : Str} {k : Int} {j : Nat} {px sp : Pos} {pa : Addr} {xs : List D} (h : DE X G e d G) (hb : DE X G b (.int k) G) (k1 : E.nx (G.set i (.pl pa (xs.set j d)))) (hj : ixN xs.length k = some j) (hg : G[i]? = some (.pl pa xs) := by rfl) (hN : X.N[i]? = some n := by rfl) (hv : Vis X.env.scope n := by first | exact Or.inl rfl | exact Or.inr (Or.inl rfl) | exact Or.inr (Or.inr rfl))
    (hd : (n == ("__debug__" : Str)) = false := by decide) (hcd : (n == ("__classdict__" : Str)) = false := by decide)
    (ha : ∀ v, assign (.Subscript (.Name n px) b sp) X.env v = (do
      let ov ← holding [v] (eval (.Name n px) X.env)
      let iv ← holding [v, ov] (eval b X.env)
      standAt sp
      holding [v, ov, iv] (setItem ov iv v)
      release [v, ov, iv] []) := by intro _; rfl)
    (hs : swapsWithSole [.Subscript (.Name n px) b sp] e pos.line X.env = pure false := by rfl) (hw : swappedStores [.Subscript (.Name n px) b sp] e X.env = pure none := by rfl)
    (h1 : (assignEach [.Subscript (.Name n px) b sp] X.env).map (·.2) = [assign (.Subscript (.Name n px) b sp) X.env] := by rfl) : DS X G (.Assign [.Subscript (.Name n px) b sp] e pos) E :=
  .of (ps_asg pe_D (pg_sub (pe_var hN hv hd hcd) pe_D set_list ha) hs hw h1) fun σ H R B hh => h.use hh fun v H1 B1 h1 e1 a1 => by
    obtain ⟨o, e0, vs, rfl, hR, hB, hH, al⟩ := h1.sl i _ hg
    refine ⟨_, e0, hb.use h1 fun u H2 B2 h2 e2 a2 => ?_⟩
    cases a2
    obtain ⟨o', e0', vs', rfl, hR', hB', hH', al'⟩ := h2.sl i _ hg
    exact ⟨_, _, _, j, rfl, rfl, hH', by rw [al'.length]; exact hj, _, B2, h2.mut hg rfl e0 rfl (.pl hR' hB' upd_same (al'.set (a1.up e2) j)), e1.trans e2, k1⟩
theorem ds_never {st : Stmt} (h : False) : DS X G st E := h.elim
end
section
variable {P : Program} {w : World} {K : PySem.W.Frag} {mg : Str → Option Value} {base : Heap}
variable {x qual : Str} {st : Stmt} {f : Addr} {fd : FuncData} {N ps : List Str} {k n : Nat} {dvs : List V}
/-- the rest of a heap -/
theorem rest_of (B H : Hp) (S : Addr → Bool) : ∃ R : Hp, (∀ q o, R q = some o → B q = none ∧ S q = false ∧ H q = some o) ∧ ∀ q o, H q = some o → B q = none → S q = false → R q = some o := by
  refine ⟨fun q => if B q = none ∧ S q = false then H q else none, fun q o e => ?_, fun q o e z1 z2 => ?_⟩
  · by_cases z : B q = none ∧ S q = false
    · have e : (if B q = none ∧ S q = false then H q else none) = some o := e
      rw [if_pos z] at e
      exact ⟨z.1, z.2, e⟩
    · have e : (if B q = none ∧ S q = false then H q else none) = some o := e
      rw [if_neg z] at e
      cases e
  · show (if B q = none ∧ S q = false then H q else none) = some o
    rw [if_pos ⟨z1, z2⟩]; exact e
theorem start_cons {N : List Str} {v : V} {vs : List V} : L2.start N (v :: vs) = some v :: (L2.start N.tail vs) := by
  unfold L2.start
  rw [List.map_cons, List.cons_append]
  congr 2
  cases N with
  | nil => simp
  | cons a r => simp
theorem hld_cons {R B H : Hp} {σ : L2.St} {G : List Sl} {g : Sl} {a : Addr} (h : Hld K R B H σ G) (hg : SlOk K R B H (some (.ref a)) g) (hno : ∀ g' ∈ G, g'.own = false) : Hld K R B H (some (.ref a) :: σ) (g :: G) := by
  refine ⟨h.exR, h.exB, h.dis, by rw [List.length_cons, List.length_cons, h.len], fun i g' e => ?_, fun i j g1 g2 b e1 e2 o1 o2 _ _ => ?_⟩
  · cases i with
    | zero => cases e; exact ⟨_, rfl, hg⟩
    | succ i => exact h.sl i g' e
  · have no : ∀ (i : Nat) (g' : Sl), G[i]? = some g' → g'.own = true → False := fun i g' e o => by
      rw [hno g' (List.mem_of_getElem? e)] at o
      cases o
    cases i with
    | zero =>
      cases j with
      | zero => rfl
      | succ j => exact (no j g2 e2 o2).elim
    | succ i => exact (no i g1 e1 o1).elim
theorem slots_no {N : List Str} {ds : List D} : ∀ g' ∈ slots N ds, g'.own = false := fun g' m => by
  unfold slots at m
  rcases List.mem_append.mp m with m | m
  · obtain ⟨y, _, rfl⟩ := List.mem_map.mp m
    rfl
  · rw [List.eq_of_mem_replicate m]
    rfl
theorem ok_U {rel : List D → List D → D → List D → Prop} (F : FunD K x qual (defArgs st) (defBody st) (defScope st) dvs [] f fd) (S : FnScope N ps (defScope st)) (hn : ps.length = n + 1)
    (body : ∀ (cdv : Value) (A : Around) (outer : List Env) (s : Shared) (H : Hp) (E : XK), Room k (cx P w K mg base N qual st f cdv A outer s H E).A → ∀ pa pv ds d pv', rel pv ds d pv' → ds.length = n →
      DSs (cx P w K mg base N qual st f cdv A outer s H E) (.pl pa pv :: slots N.tail ds) (defBody st) { nx := fun G => d = .non ∧ G[0]? = some (.pl pa pv'), rt := fun d' G => d' = d ∧ G[0]? = some (.pl pa pv') }) : FnOk P w K mg base CX0 (k + 1) f fd ps (spU K n rel) := by
  refine F.ok S (fun vs H Q E h => ?_) (fun cdv A outer s H vs Q E hr h => ?_)
  · obtain ⟨B, p, pv, pd, vs', ds, d, ps', rfl, _, _, _, _, al, hl, _⟩ := h
    rw [List.length_cons, al.length, hl, hn]
  · obtain ⟨B, p, pv, pd, vs', ds, d, ps', rfl, sB, hB, hH, alp, al, hl, hrel, kq⟩ := h
    have hb := body cdv A outer s H E hr p pd ds d ps' hrel hl
    obtain ⟨R, hR, hS⟩ := rest_of B H fun q => decide (q = p)
    have hRp : R p = none := by
      cases z : R p with
      | none => rfl
      | some u => have := (hR p u z).2.1; simp at this
    have h0 : Hld K R B H (L2.start N (.ref p :: vs')) (.pl p pd :: slots N.tail ds) := by
      rw [start_cons]
      exact hld_cons (hld_start (fun q o e => (hR q o e).2.2) sB (fun q o e => .inl (hR q o e).1) al) ⟨pv, rfl, hRp, hB, hH, alp⟩ slots_no
    have fin : ∀ v H' B' σ' G', Hld K R B' H' σ' G' → Same B B' → G'[0]? = some (.pl p ps') → At K B' v d → Q v H' := fun v H' B' σ' G' h1 s1 hg q => by
      obtain ⟨o, e0, vs2, rfl, _, hB2, hH2, al2⟩ := h1.sl 0 _ hg
      refine kq v H' B' vs2 (fun q o e ne => ?_) hH2 al2 s1 h1.exB (fun q o e z => ?_) hB2 q
      · cases z : B q with
        | none => exact h1.exR q o (hS q o e z (decide_eq_false ne))
        | some u =>
          have := sB q u z
          rw [e] at this
          cases this
          exact h1.exB q _ (s1 q _ z)
      · by_cases ne : q = p
        · exact .inl (by rw [ne]; exact hB2)
        · exact h1.dis q o (hS q o e z (decide_eq_false ne))
    refine ⟨_, (pss_D (X := cx P w K mg base N qual st f cdv A outer s H E)).nox, hb.use h0 (fun σ' H' ⟨G', B', h1, s1, e, hg⟩ => ?_) (fun v H' ⟨σ', G', B', d', h1, s1, a1, e, hg⟩ => ?_) (fun σ' H' ⟨G', B', h1, s1, e⟩ => e) (fun σ' H' ⟨G', B', h1, s1, e⟩ => e)⟩
    · exact fin .non H' B' σ' G' h1 s1 hg (by rw [show d = .non from e]; exact .non)
    · exact fin v H' B' σ' G' h1 s1 hg (by rw [← show d' = d from e]; exact a1)
theorem ok_I {c : Str} {rel : List D → List (Str × D) → Prop} (F : FunD K x qual (defArgs st) (defBody st) (defScope st) dvs [] f fd) (S : FnScope N ps (defScope st)) (hn : ps.length = n + 1)
    (body : ∀ (cdv : Value) (A : Around) (outer : List Env) (s : Shared) (H : Hp) (E : XK), Room k (cx P w K mg base N qual st f cdv A outer s H E).A → ∀ sa ds fs, rel ds fs → ds.length = n →
      DSs (cx P w K mg base N qual st f cdv A outer s H E) (.sf sa c [] :: slots N.tail ds) (defBody st) { nx := fun G => G[0]? = some (.sf sa c fs), rt := fun _ _ => False }) : FnOk P w K mg base CX0 (k + 1) f fd ps (spI K c n rel) := by
  refine F.ok S (fun vs H Q E h => ?_) (fun cdv A outer s H vs Q E hr h => ?_)
  · obtain ⟨B, p, dx, vs', ds, fs, rfl, _, _, _, al, hl, _⟩ := h
    rw [List.length_cons, al.length, hl, hn]
  · obtain ⟨B, p, dx, vs', ds, fs, rfl, sB, hB, hH, al, hl, hrel, kq⟩ := h
    have hb := body cdv A outer s H E hr p ds fs hrel hl
    obtain ⟨R, hR, hS⟩ := rest_of B H fun q => decide (q = p)
    have hRp : R p = none := by
      cases z : R p with
      | none => rfl
      | some u => have := (hR p u z).2.1; simp at this
    have h0 : Hld K R B H (L2.start N (.ref p :: vs')) (.sf p c [] :: slots N.tail ds) := by
      rw [start_cons]
      exact hld_cons (hld_start (fun q o e => (hR q o e).2.2) sB (fun q o e => .inl (hR q o e).1) al) ⟨dx, [], rfl, hRp, hB, hH, .nil⟩ slots_no
    refine ⟨_, (pss_D (X := cx P w K mg base N qual st f cdv A outer s H E)).nox, hb.use h0 (fun σ' H' ⟨G', B', h1, s1, hg⟩ => ?_) (fun v H' ⟨σ', G', B', d', h1, s1, a1, e⟩ => e.elim) (fun σ' H' ⟨G', B', h1, s1, e⟩ => e) (fun σ' H' ⟨G', B', h1, s1, e⟩ => e)⟩
    obtain ⟨o, e0, dx2, vf, rfl, _, hB2, hH2, al2⟩ := h1.sl 0 _ hg
    refine kq H' B' dx2 vf (fun q o e ne => ?_) hH2 al2 s1 h1.exB (fun q o e z => ?_) hB2
    · cases z : B q with
      | none => exact h1.exR q o (hS q o e z (decide_eq_false ne))
      | some u =>
        have := sB q u z
        rw [e] at this
        cases this
        exact h1.exB q _ (s1 q _ z)
    · by_cases ne : q = p
      · exact .inl (by rw [ne]; exact hB2)
      · exact h1.dis q o (hS q o e z (decide_eq_false ne))
end
end Ax
namespace Ax
open PySem PySem.Spec L2
section
variable {X : Cx} {G G0 G1 G2 G' : List Sl} {e o it tg elt a b c : Expr} {es ts ifs : List Expr} {x y d z : D} {xs ds res : List D} {pos pos' p p2 q apos : Pos} {E : DEnds} {k n : Nat} {f : Str}
/-! ### isinstance -/
def D.ty : D → Option String
  | .bl _ => some "bool"
  | .int _ => some "int"
  | .str _ => some "str"
  | .lst _ => some "list"
  | .tup _ => some "tuple"
  | _ => none
theorem At.ty {K : PySem.W.Frag} {B H : Hp} {v : V} {d : D} {t : String} (h : At K B v d) (s : Same B H) (e : d.ty = some t) : TyX K H v (.type t) := by
  cases h with
  | bl b => cases e; exact .base (.bl b)
  | int b => cases e; exact .base (.int b)
  | str b => cases e; exact .base (.str b)
  | lst hp _ => cases e; exact .base (.lst (s _ _ hp))
  | tup hp _ => cases e; exact .base (.tup (s _ _ hp))
  | _ => cases e
theorem de_isi {t T : String} {cn : Str} {bb : Bool} (h : DE X G e d G') (hm : X.mg "isinstance" = none) (hmc : X.mg cn = none) (hv : bootBuiltins cn = some (.type T)) (ht : d.ty = some t := by rfl) (hk : kitB t T = some bb := by decide +kernel) (hg : Gl X "isinstance" := by rfl) (hgc : Gl X cn := by rfl) (hnn : cn ≠ "__name__" := by decide) (hdb : (cn == ("__debug__" : Str)) = false := by decide)
    (he : starEach [e, .Name cn p2] X.env = (false, eval e X.env) :: starEach [.Name cn p2] X.env := by rfl) (he2 : starEach [.Name cn p2] X.env = (false, eval (.Name cn p2) X.env) :: starEach [] X.env := by rfl) (hpl : (backTo pos (starEach [.Name cn p2] X.env)).any (·.1) = false := by rfl) : DE X G (.Call (.Name "isinstance" p) [e, .Name cn p2] [] pos) (.bl bb) G' :=
  .of (pe_callB call_isi hg hm (by decide +kernel) (pa_cons pe_D (pa_cons (pe_bltn (v := .ty T) hgc hmc hv rfl hnn hdb) pa_nil he2) he) (by decide) (by decide) he hpl) fun σ H R B hh => h.use hh fun v H1 B1 h1 e1 a1 =>
    ⟨_, _, _, _, bb, rfl, .ty T, a1.ty h1.exB ht, kit_ty hk, B1, h1, e1, .bl bb⟩
/-- isinstance(e, C), e an instance of C -/
theorem de_isC {c : Str} {fs : List (Str × D)} (h : DE X G e (.obj c fs) G') (hm : X.mg "isinstance" = none) (hmc : X.mg c = some (.ref (He.ga X.K c))) (hi : C8.InsC X.K (He.ga X.K c)) (hg : Gl X "isinstance" := by rfl) (hgc : Gl X c := by rfl) (hdb : (c == ("__debug__" : Str)) = false := by decide)
    (he : starEach [e, .Name c p2] X.env = (false, eval e X.env) :: starEach [.Name c p2] X.env := by rfl) (he2 : starEach [.Name c p2] X.env = (false, eval (.Name c p2) X.env) :: starEach [] X.env := by rfl) (hpl : (backTo pos (starEach [.Name c p2] X.env)).any (·.1) = false := by rfl) : DE X G (.Call (.Name "isinstance" p) [e, .Name c p2] [] pos) (.bl true) G' :=
  .of (pe_callB (C8.call_isC hi) hg hm (by decide +kernel) (pa_cons pe_D (pa_cons (pe_glob (v := .ref (He.ga X.K c)) hgc hmc rfl hdb) pa_nil he2) he) (by decide) (by decide) he hpl) fun σ H R B hh => h.use hh fun v H1 B1 h1 e1 a1 => by
    cases a1 with
    | obj hp al => exact ⟨_, _, _, rfl, h1.exB _ _ hp, B1, h1, e1, .bl true⟩

/-! ### sorted, sum, len(set(..)) of ints -/
theorem c_sorted {ns : List Int} (res : List Int) (hu : ∀ ns' : List Int, ns'.Perm ns → ns'.Pairwise (· ≤ ·) → ns' = res) : CallD X (.builtin "sorted") [.lst (ns.map D.int)] (.lst (res.map D.int)) :=
  ⟨_, cr_sortedI, fun G σ H R B vs Q hh al0 k => by
    obtain ⟨v, rfl, a⟩ := al0.one
    cases a with
    | lst hp al =>
      rw [al.ints] at hp
      refine ⟨_, ns, rfl, .of (hh.exB _ _ hp), fun ns' q h1 h2 nq => ?_⟩
      rw [hu ns' h1 h2]
      exact k _ _ _ (hh.new nq) (upB hh nq) (.lst upd_same .int)⟩
theorem c_sum {ns : List Int} (hc : X.calm = true) : CallD X (.builtin "sum") [.lst (ns.map D.int)] (.int ns.sum) :=
  ⟨_, cr_sum hc, fun G σ H R B vs Q hh al0 k => by
    obtain ⟨v, rfl, a⟩ := al0.one
    cases a with
    | lst hp al =>
      rw [al.ints] at hp
      exact ⟨_, ns, rfl, .of (hh.exB _ _ hp), k _ _ _ hh (ext_refl B) (.int _)⟩⟩
theorem de_lenset {ns : List Int} (h : DE X G a (.lst (ns.map D.int)) G') (hm : X.mg "len" = none) (hm2 : X.mg "set" = none) (hn : ns.Nodup) (hl : ns.length ≤ 4000) (hc : X.calm = true) (hg : Gl X "len" := by rfl) (hg2 : Gl X "set" := by rfl)
    (na : starEach [a] X.env = (false, eval a X.env) :: starEach [] X.env := by rfl) : DE X G (.Call (.Name "len" p) [.Call (.Name "set" p2) [a] [] q] [] pos) (.int ns.length) G' :=
  .of (RZ.pe_lenSetI hg hm hg2 hm2 pe_D hc na) fun σ H R B hh => h.use hh fun v H1 B1 h1 e1 a1 => by
    cases a1 with
    | lst hp al =>
      rw [al.ints] at hp
      exact ⟨_, ns, rfl, .of (h1.exB _ _ hp), hn, hl, B1, h1, e1, .int _⟩

/-! ### == of data, of a list and [] -/
mutual
def D.py : D → PyData
  | .non => .none
  | .bl b => .bool b
  | .int i => .int i
  | .str s => .str s
  | .lst xs => .list (D.pys xs)
  | .tup xs => .tuple (D.pys xs)
  | _ => .none
def D.pys : List D → List PyData
  | [] => []
  | x :: r => D.py x :: D.pys r
end
mutual
def D.isPy : D → Bool
  | .lst xs => D.isPys xs
  | .tup xs => D.isPys xs
  | .scr _ => false
  | .obj _ _ => false
  | .knw _ _ _ => false
  | _ => true
def D.isPys : List D → Bool
  | [] => true
  | x :: r => D.isPy x && D.isPys r
end
mutual
theorem At.dp {K : PySem.W.Frag} {B : Hp} : ∀ {v : V} {d : D}, At K B v d → d.isPy = true → Dp K B v d.py
  | _, _, .non, _ => by unfold D.py; exact .non
  | _, _, .bl b, _ => by unfold D.py; exact .bl b
  | _, _, .int b, _ => by unfold D.py; exact .int b
  | _, _, .str b, _ => by unfold D.py; exact .str b
  | _, _, .lst h l, e => by unfold D.py; unfold D.isPy at e; exact .lst (.of h) (AtL.dp l e)
  | _, _, .tup h l, e => by unfold D.py; unfold D.isPy at e; exact .tup (.of h) (AtL.dp l e)
  | _, _, .scr h, e => by unfold D.isPy at e; cases e
  | _, _, .obj h l, e => by unfold D.isPy at e; cases e
  | _, _, .knw (P := _) (w := _) (kvs := _) h l, e => by unfold D.isPy at e; cases e
theorem AtL.dp {K : PySem.W.Frag} {B : Hp} : ∀ {v : List V} {d : List D}, AtL K B v d → D.isPys d = true → DpAll K B v (D.pys d)
  | _, _, .nil, _ => by unfold D.pys; exact .nil
  | _, _, .cons h l, e => by
    unfold D.isPys at e
    obtain ⟨e1, e2⟩ := Bool.and_eq_true_iff.mp e
    unfold D.pys
    exact .cons (At.dp h e1) (AtL.dp l e2)
end
theorem o_eqD (hu : X.A.units + 64 < cLine) (h1 : x.isPy = true) (h2 : y.isPy = true) (h3 : SeqAt.shaped x.py = true) (h4 : SeqAt.shaped y.py = true) : OpD X (compareOp .Eq) x y (.bl (PyData.eqv x.py y.py)) :=
  ⟨_, op_eqD hu, fun G σ H R B v u Q hh a b k => ⟨_, _, (a.up hh.exB).dp h1, (b.up hh.exB).dp h2, h3, h4, k _ _ B hh (ext_refl B) (.bl _)⟩⟩
theorem o_neD (hu : X.A.units + 64 < cLine) (h1 : x.isPy = true) (h2 : y.isPy = true) (h3 : SeqAt.shaped x.py = true) (h4 : SeqAt.shaped y.py = true) : OpD X (compareOp .NotEq) x y (.bl (!PyData.eqv x.py y.py)) :=
  ⟨_, op_neD hu, fun G σ H R B v u Q hh a b k => ⟨_, _, (a.up hh.exB).dp h1, (b.up hh.exB).dp h2, h3, h4, k _ _ B hh (ext_refl B) (.bl _)⟩⟩
/-- == of a list and the empty one -/
def rEqN : R2 := fun x y H Q => ∃ a b vs, x = .ref a ∧ y = .ref b ∧ H a = some (.lst vs) ∧ H b = some (.lst []) ∧ Q (.bl vs.isEmpty) H
theorem op_eqN (hu : X.A.units < cLine) : OpR X (compareOp .Eq) rEqN := by
  intro pins s σ H x y v u Q I rx ry h
  obtain ⟨a, b, vs, rfl, rfl, ha, hb, q⟩ := h
  cases rx
  cases ry
  obtain ⟨its, r, pl, _⟩ := I.list (SqL.of ha)
  obtain ⟨its2, r2, pl2, _⟩ := I.list (SqL.of hb)
  cases r2
  cases vs with
  | nil =>
    cases r
    exact SeqAt.eq_listAt (e := fun _ => true) pl.isList pl2.isList rfl hu (fun j h1 => by simp at h1) ⟨.bl true, H, I, rfl, q⟩
  | cons v vs =>
    cases r with
    | cons r1 r2 => exact SeqAt.eq_list_lengthsAt pl.isList pl2.isList (by simp) hu ⟨.bl false, H, I, rfl, q⟩
theorem o_eqN (hu : X.A.units < cLine) : OpD X (compareOp .Eq) (.lst xs) (.lst []) (.bl xs.isEmpty) :=
  ⟨_, op_eqN hu, fun G σ H R B v u Q hh a b k => by
    cases a with
    | lst hp al =>
      cases b with
      | lst hq bl =>
        cases bl
        refine ⟨_, _, _, rfl, rfl, hh.exB _ _ hp, hh.exB _ _ hq, ?_⟩
        have e : ∀ {vs : List V}, AtL X.K B vs xs → vs.isEmpty = xs.isEmpty := fun h => by cases h <;> rfl
        rw [e al]
        exact k _ _ B hh (ext_refl B) (.bl _)⟩
def rNeN : R2 := fun x y H Q => ∃ a b vs, x = .ref a ∧ y = .ref b ∧ H a = some (.lst vs) ∧ H b = some (.lst []) ∧ Q (.bl (!vs.isEmpty)) H
theorem o_neN (hu : X.A.units + 64 < cLine) {ns : List Int} : OpD X (compareOp .NotEq) (.lst (ns.map D.int)) (.lst []) (.bl (!ns.isEmpty)) :=
  ⟨_, op_neD hu, fun G σ H R B v u Q hh a b k => by
    cases a with
    | lst hp al =>
      cases b with
      | lst hq bl =>
        cases bl
        have key : ∀ {ns : List Int} {vs : List V}, AtL X.K B vs (ns.map D.int) → ∃ ps : List PyData, DpAll X.K H vs ps ∧ PyData.canLayAll0 ps = true ∧ PyData.depthAll ps ≤ 1 ∧ PyData.eqvAll ps [] = ns.isEmpty := fun {ns vs} h => by
          refine ⟨ns.map PyData.int, ?_, ?_, ?_, ?_⟩
          · rw [h.ints]
            clear h
            induction ns with
            | nil => exact .nil
            | cons n r ih => exact .cons (.int n) ih
          · clear h
            induction ns with
            | nil => rfl
            | cons n r ih => exact ih
          · clear h
            induction ns with
            | nil => exact Nat.zero_le _
            | cons n r ih =>
              show max (PyData.depth (.int n)) (PyData.depthAll (r.map PyData.int)) ≤ 1
              exact Nat.max_le.mpr ⟨by simp [PyData.depth], ih⟩
          · cases ns <;> rfl
        obtain ⟨ps, h1, h2, h3, h4⟩ := key al
        refine ⟨.list ps, .list [], .lst (.of (hh.exB _ _ hp)) h1, .lst (.of (hh.exB _ _ hq)) .nil, ?_, rfl, ?_⟩
        · unfold SeqAt.shaped
          rw [Bool.and_eq_true_iff]
          exact ⟨h2, decide_eq_true (by simp only [PyData.depth]; omega)⟩
        · have e : PyData.eqv (.list ps) (.list []) = ns.isEmpty := h4
          rw [e]
          exact k _ _ B hh (ext_refl B) (.bl _)⟩
/-! ### tuples joined -/
theorem o_catT {x : D} {xs ys : List D} {y : D} (hl : xs.length + ys.length ≤ 1000000) : OpD X (binaryOp .Add) (.tup (x :: xs)) (.tup (y :: ys)) (.tup (x :: xs ++ y :: ys)) :=
  ⟨_, op_catT, fun G σ H R B v u Q hh a b k => by
    cases a with
    | tup hp al =>
      cases b with
      | tup hq bl =>
        cases al with
        | cons a1 al =>
          cases bl with
          | cons b1 bl =>
            refine ⟨_, _, _, _, rfl, rfl, .of (hh.exB _ _ hp), .of (hh.exB _ _ hq), List.cons_ne_nil _ _, ?_, fun z => absurd z (List.cons_ne_nil _ _), fun _ p np => k _ _ _ (hh.new np) (upB hh np) (.tup upd_same ?_)⟩
            · have := al.length
              have := bl.length
              have : sizeLine = 16777216 := by decide
              simp only [List.length_cons]
              omega
            · exact (AtL.cons (a1.up (upB hh np)) (al.up (upB hh np))).append (.cons (b1.up (upB hh np)) (bl.up (upB hh np)))⟩
/-! ### powers of great ints -/
def CPowW (i j : Int) : Prop := 0 ≤ j ∧ (Builtin.Int.intBits i : Int) * j ≤ 2 ^ 27
theorem op_powW : OpR X (binaryOp .Pow) (rI CPowW fun i j => .int (i ^ j.toNat)) := opI fun _ _ _ _ _ _ _ hc q => PyProof.Rows.pow_int hc.1 hc.2 q
theorem o_pow {i j : Int} (h : CPowW i j) : OpD X (binaryOp .Pow) (.int i) (.int j) (.int (i ^ j.toNat)) := opID op_powW h
end
end Ax
namespace Ax
open PySem PySem.Spec L2
section
variable {X : Cx} {G G0 G1 G2 G' : List Sl} {e it tg elt a b c : Expr} {es ts ifs : List Expr} {x d : D} {xs ds res : List D} {is js vs : List Nat} {pos pos' p : Pos} {E : DEnds} {body : List Stmt} {scope : Scope}
theorem bkAll {P : Cx → Prop} (h : ∀ s H C cl fp, P (X.blk s H scope (compEnvC scope cl C X.env) fp)) : ∀ X', Bk X scope X' → P X' := fun X' ⟨s, H, C, cl, fp, e⟩ => e ▸ h s H C cl fp
theorem free0 : Free G [] := fun _ h => nomatch h
theorem freeC {j : Nat} (hr : Free G vs) (h : G[j]? = some .un := by rfl) : Free G (j :: vs) := fun i hi g hg => by
  rcases List.mem_cons.mp hi with rfl | hi
  · rw [h] at hg; cases hg; rfl
  · exact hr i hi g hg
theorem blk_at (N : List Str) (s : Scope) {scope : Scope} {own : List (Str × Nat)} (h : blkC N s scope own = true := by decide +kernel) : BlkOk N s scope own := blkOk_by h
theorem de_neg {i : Int} (h : DE X G a (.int i) G') : DE X G (.UnaryOp .USub a pos) (.int (-i)) G' := .of (pe_un un_neg pe_D) fun σ H R B hh => h.use hh fun v H1 B1 h1 e1 a1 => by cases a1; exact ⟨i, rfl, B1, h1, e1, .int _⟩
/-- what was set aside is one's own again -/
theorem Hld.unrest {K : PySem.W.Frag} {R B H : Hp} {σ : L2.St} {p : Addr} {o : HO} (h : Hld K (upd R p o) B H σ G) (hp : R p = none) (ho : ∀ xs, o ≠ .tup xs) : Hld K R B H σ G ∧ H p = some o ∧ B p = none ∧ ∀ (j : Nat) (g : Sl), G[j]? = some g → g.own = true → σ[j]? ≠ some (some (.ref p)) := by
  have neR : ∀ q, (upd R p o) q = none → q ≠ p := fun q e z => by rw [z, upd_same] at e; cases e
  have sR : Same R (upd R p o) := ext_new hp
  refine ⟨⟨sR.trans h.exR, h.exB, fun q u e => h.dis q u (sR _ _ e), h.len, fun i g e => ?_, h.app⟩, h.exR _ _ upd_same, (h.dis p o upd_same).elim (fun z => z) (fun ⟨xs, z⟩ => absurd z (ho xs)), fun j g e og z => ?_⟩
  · obtain ⟨u, e1, s⟩ := h.sl i g e
    refine ⟨u, e1, ?_⟩
    have un : ∀ q, (upd R p o) q = none → R q = none := fun q e => by rw [upd_ne (neR q e)] at e; exact e
    cases g with
    | un => trivial
    | d x => exact s
    | ol xs => obtain ⟨b, vs, e, h1, h2, h3, h4⟩ := s; exact ⟨b, vs, e, un _ h1, h2, h3, h4⟩
    | od xs => obtain ⟨b, e, h1, h2, h3⟩ := s; exact ⟨b, e, un _ h1, h2, h3⟩
    | ot xs => obtain ⟨b, e, h1, h2, h3⟩ := s; exact ⟨b, e, un _ h1, h2, h3⟩
    | sf b c fs => obtain ⟨dx, vf, e, h1, h2, h3, h4⟩ := s; exact ⟨dx, vf, e, un _ h1, h2, h3, h4⟩
    | pl b xs => obtain ⟨vs, e, h1, h2, h3, h4⟩ := s; exact ⟨vs, e, un _ h1, h2, h3, h4⟩
  · obtain ⟨u, e1, s⟩ := h.sl j g e
    obtain ⟨a, w, rfl, hR, _, _⟩ := s.addr og
    rw [z] at e1
    cases e1
    rw [upd_same] at hR
    cases hR
/-- a slot takes an own object that no slot has -/
theorem Hld.setOwn {K : PySem.W.Frag} {R B H : Hp} {σ : L2.St} {p : Addr} {g : Sl} (h : Hld K R B H σ G) (i : Nat) (hg : SlOk K R B H (some (.ref p)) g) (fresh : ∀ (j : Nat) (g : Sl), G[j]? = some g → g.own = true → σ[j]? ≠ some (some (.ref p))) : Hld K R B H (σ.set i (some (.ref p))) (G.set i g) := by
  refine ⟨h.exR, h.exB, h.dis, by rw [List.length_set, List.length_set, h.len], fun j g' e => ?_, fun j k g1 g2 b e1 e2 o1 o2 s1 s2 => ?_⟩
  · rcases get_set e with ⟨rfl, rfl, hl⟩ | ⟨hji, e⟩
    · exact ⟨_, List.getElem?_set_self (by rw [h.len]; exact hl), hg⟩
    · obtain ⟨o, e1, s⟩ := h.sl j g' e
      exact ⟨o, by rw [List.getElem?_set_ne (fun q => hji q.symm)]; exact e1, s⟩
  · rcases get_set e1 with ⟨rfl, rfl, hl⟩ | ⟨hji, e1⟩
    · rcases get_set e2 with ⟨rfl, rfl, hl2⟩ | ⟨hki, e2⟩
      · rfl
      · rw [List.getElem?_set_self (by rw [h.len]; exact hl)] at s1
        rw [List.getElem?_set_ne (fun q => hki q.symm)] at s2
        cases s1
        exact absurd s2 (fresh k g2 e2 o2)
    · rw [List.getElem?_set_ne (fun q => hji q.symm)] at s1
      rcases get_set e2 with ⟨hk, hg2, hl2⟩ | ⟨hki, e2⟩
      · rw [hk, List.getElem?_set_self (by rw [h.len]; exact hl2)] at s2
        cases s2
        exact absurd s1 (fresh j g1 e1 o1)
      · rw [List.getElem?_set_ne (fun q => hki q.symm)] at s2
        exact h.app j k g1 g2 b e1 e2 o1 o2 s1 s2
theorem LCk.rdO (h : LCk X G tg it ifs elt scope vs res G') : ∃ wi, PI X tg it wi ∧ ∀ σ H R B Q, Hld X.K R B H σ G → (∀ L acc H' B', R L = none → Hld X.K (upd R L (.lst acc)) B' H' σ G' → Same B B' → AtL X.K B' acc res → Q (.ref L) H') → tLc wi (tGb X scope tg) (tTb X scope ifs) (tEb X scope elt) vs σ H Q := by
  obtain ⟨ds, G0, hi, hl, P, h0, fr, turn, fin⟩ := h.ok
  obtain ⟨wi, pi, kw⟩ := hi.run
  refine ⟨wi, pi, fun σ H R B Q hh k => ?_⟩
  refine kw σ H R B _ hh fun J H1 B1 h1 e1 w => ?_
  exact lc_rdG (wi := fun _ _ Rr => Rr J H1) (H := H) (S := B1) P h0 hl fr turn (fun Rr q => q J H1 B1 h1 e1 (fun _ _ z => z) w) fun acc accd G2 H' B' L hRL p q1 q2 q3 => by
    obtain ⟨rfl, rfl⟩ := fin accd G2 p
    exact k L acc H' B' hRL q1 q2 q3
/-- x = [.. for ..], to be a list of one's own -/
theorem ds_lcO (i : Nat) (own : List (Str × Nat)) {y : Str} {py spos : Pos} (h : LCk X G tg it ifs elt scope (own.map (·.2)) res G') (k : E.nx (G'.set i (.ol res))) (ok : BlkOk X.N X.env.scope scope own) (hN : X.N.Nodup) (hc : X.calm = true)
    (hsw : swapsWith (.ListComp elt [⟨tg, it, ifs, 0⟩] scope pos) (some (.Name y py)) spos.line X.env = pure true) (hy : X.N[i]? = some y := by rfl) (hyl : X.env.scope.names.lookup y = some .local := by rfl) (hs : ∀ x, foldedSetIterable it X.env x = pure x := by intro _; rfl) :
    DS X G (.Assign [.Name y py] (.ListComp elt [⟨tg, it, ifs, 0⟩] scope pos) spos) E := by
  obtain ⟨wi, pi, kk⟩ := h.rdO
  exact .of (ps_setLc hc hN hy hyl hsw pi ok pg_b pt_b pe_b hs) fun σ H R B hh => kk σ H R B _ hh fun L acc H' B' hRL q1 q2 q3 => by
    obtain ⟨z1, z2, z3, z4⟩ := q1.unrest hRL (fun _ z => nomatch z)
    exact ⟨_, B', z1.setOwn i (.ol hRL z3 z2 q3) z4, q2, k⟩
end
end Ax
namespace Ax
open PySem PySem.Spec L2
theorem bt_int : bootBuiltins "int" = some (.type "int") := by decide +kernel
theorem bt_bool : bootBuiltins "bool" = some (.type "bool") := by decide +kernel
theorem bt_str : bootBuiltins "str" = some (.type "str") := by decide +kernel
theorem bt_list : bootBuiltins "list" = some (.type "list") := by decide +kernel
theorem bt_tuple : bootBuiltins "tuple" = some (.type "tuple") := by decide +kernel
theorem bt_len : bootBuiltins "len" = some (.builtin "len") := by decide +kernel
theorem bt_sorted : bootBuiltins "sorted" = some (.builtin "sorted") := by decide +kernel
theorem bt_sum : bootBuiltins "sum" = some (.builtin "sum") := by decide +kernel
theorem bt_max : bootBuiltins "max" = some (.builtin "max") := by decide +kernel
theorem bt_min : bootBuiltins "min" = some (.builtin "min") := by decide +kernel
section
variable {P : Program} {w : World} {K : PySem.W.Frag} {mg : Str → Option Value} {base : Heap}
variable {x : Str} {f : Addr} {fd : FuncData} {st : Stmt} {qual : Str} {dvs : List V} {ps N : List Str} {k n : Nat}
/-- a def of the top, by its body -/
theorem fnD_mk {rel : List D → D → Prop} (g : mg x = some (.ref f)) (F : FunD K x qual (defArgs st) (defBody st) (defScope st) dvs [] f fd) (S : FnScope N ps (defScope st)) (hn : ps.length = n) (b : Binds K fd ps [])
    (body : ∀ (cdv : Value) (A : Around) (outer : List Env) (s : Shared) (H : Hp) (E : XK), Room k (cx P w K mg base N qual st f cdv A outer s H E).A → ∀ ds d, rel ds d → ds.length = n →
      DSs (cx P w K mg base N qual st f cdv A outer s H E) (slots N ds) (defBody st) { nx := fun _ => d = .non, rt := fun d' _ => d' = d }) : FnD P w K mg base (k + 1) x n rel := ⟨f, fd, ps, g, F.kp, ok_P F S hn body, b⟩
theorem fnU_mk {rel : List D → List D → D → List D → Prop} (g : mg x = some (.ref f)) (F : FunD K x qual (defArgs st) (defBody st) (defScope st) dvs [] f fd) (S : FnScope N ps (defScope st)) (hn : ps.length = n + 1) (b : Binds K fd ps [])
    (body : ∀ (cdv : Value) (A : Around) (outer : List Env) (s : Shared) (H : Hp) (E : XK), Room k (cx P w K mg base N qual st f cdv A outer s H E).A → ∀ pa pv ds d pv', rel pv ds d pv' → ds.length = n →
      DSs (cx P w K mg base N qual st f cdv A outer s H E) (.pl pa pv :: slots N.tail ds) (defBody st) { nx := fun G => d = .non ∧ G[0]? = some (.pl pa pv'), rt := fun d' G => d' = d ∧ G[0]? = some (.pl pa pv') }) : FnU P w K mg base (k + 1) x n rel := ⟨f, fd, ps, g, F.kp, ok_U F S hn body, b⟩
theorem mtD_mk {c : Str} {rel : List D → D → Prop} (hc : Cls K (He.ga K c)) (m : Meth K (He.ga K c) x f) (F : FunD K x qual (defArgs st) (defBody st) (defScope st) dvs [] f fd) (S : FnScope N ps (defScope st)) (hn : ps.length = n) (b : Binds K fd ps [])
    (body : ∀ (cdv : Value) (A : Around) (outer : List Env) (s : Shared) (H : Hp) (E : XK), Room k (cx P w K mg base N qual st f cdv A outer s H E).A → ∀ ds d, rel ds d → ds.length = n →
      DSs (cx P w K mg base N qual st f cdv A outer s H E) (slots N ds) (defBody st) { nx := fun _ => d = .non, rt := fun d' _ => d' = d }) : MtD P w K mg base (k + 1) c x n rel := ⟨f, fd, ps, hc, m, ok_P F S hn body, b⟩
theorem mkD_mk {c : Str} {rel : List D → List (Str × D) → Prop} (g : mg c = some (.ref (He.ga K c))) (m : Mk K (He.ga K c) f) (F : FunD K x qual (defArgs st) (defBody st) (defScope st) dvs [] f fd) (S : FnScope N ps (defScope st)) (hn : ps.length = n + 1) (b : Binds K fd ps [])
    (body : ∀ (cdv : Value) (A : Around) (outer : List Env) (s : Shared) (H : Hp) (E : XK), Room k (cx P w K mg base N qual st f cdv A outer s H E).A → ∀ sa ds fs, rel ds fs → ds.length = n →
      DSs (cx P w K mg base N qual st f cdv A outer s H E) (.sf sa c [] :: slots N.tail ds) (defBody st) { nx := fun G => G[0]? = some (.sf sa c fs), rt := fun _ _ => False }) : MkD P w K mg base (k + 1) c n rel := ⟨f, fd, ps, g, m, ok_I F S hn body, b⟩
theorem slots_eq (N : List Str) (ds : List D) (G : List Sl) (h : ds.map Sl.d ++ List.replicate (N.length - ds.length) .un = G := by rfl) : slots N ds = G := h
end
end Ax
namespace Ax
open PySem PySem.Spec L2
section
variable {P : Program} {w : World} {K : PySem.W.Frag} {mg : Str → Option Value} {base : Heap}
theorem sc_is_whole : FnScope ["value"] ["value"] (defScope s_is_whole) := ⟨rfl, rfl, rfl, by decide +kernel, rfl, by decide +kernel, by decide +kernel⟩
def rIsWhole : List D → D → Prop := fun ds d => ∃ i, ds = [.int i] ∧ d = .bl true
theorem ok_is_whole (T : Tp K mg) : FnD P w K mg base 1 "is_whole" 1 rIsWhole := by
  obtain ⟨fd, F⟩ := T.d_is_whole
  refine fnD_mk T.g_is_whole F sc_is_whole rfl (F.bindsN fun _ _ _ _ _ _ us hl => match us, hl with | [_], _ => rfl) fun cdv A outer s H E hr ds d h hl => ?_
  obtain ⟨i, rfl, rfl⟩ := h
  refine dss_one (ds_ret (de_and (de_isi (bb := true) (de_var 0) T.b_isinstance T.b_int bt_int) fun _ => de_one (de_not (de_isi (bb := false) (de_var 0) T.b_isinstance T.b_bool bt_bool))) rfl)
theorem sc_is_base : FnScope ["value"] ["value"] (defScope s_is_base) := ⟨rfl, rfl, rfl, by decide +kernel, rfl, by decide +kernel, by decide +kernel⟩
def rIsBase : List D → D → Prop := fun ds d => ∃ i : Int, 2 ≤ i ∧ ds = [.int i] ∧ d = .bl true
theorem ok_is_base (T : Tp K mg) : FnD P w K mg base 2 "is_base" 1 rIsBase := by
  obtain ⟨fd, F⟩ := T.d_is_base
  refine fnD_mk T.g_is_base F sc_is_base rfl (F.bindsN fun _ _ _ _ _ _ us hl => match us, hl with | [_], _ => rfl) fun cdv A outer s H E hr ds d h hl => ?_
  obtain ⟨i, hi, rfl, rfl⟩ := h
  refine dss_one (ds_ret (de_and (de_call (ok_is_whole T) (hr.mono (by decide)) (da_cons (de_var 0) da_nil) ⟨_, rfl, rfl⟩) fun _ => de_one (de_cmp o_ge (de_var 0) de_int)) ?_)
  show D.bl (true && decide (2 ≤ i)) = .bl true
  rw [decide_eq_true hi] <;> rfl
theorem sc_power_of : FnScope ["base", "many", "found", "turn"] ["base", "many"] (defScope s_power_of) := ⟨rfl, rfl, rfl, by decide +kernel, rfl, by decide +kernel, by decide +kernel⟩
/-- ints of less than so many bits -/
def Bt (n : Nat) (i : Int) : Prop := i.natAbs < 2 ^ n
def rPower : List D → D → Prop := fun ds d => ∃ (b : Int) (n : Nat), ds = [.int b, .int n] ∧ 0 ≤ b ∧ b < 2 ^ 64 ∧ n < 10000 ∧ d = .int (b ^ n)
theorem ok_power_of (T : Tp K mg) : FnD P w K mg base 1 "power_of" 2 rPower := by
  obtain ⟨fd, F⟩ := T.d_power_of
  refine fnD_mk T.g_power_of F sc_power_of rfl (F.bindsN fun _ _ _ _ _ _ us hl => match us, hl with | [_, _], _ => rfl) fun cdv A outer s H E hr ds d h hl => ?_
  obtain ⟨b, n, rfl, hb0, hb, hn, rfl⟩ := h
  refine dss_cons (ds_set 2 de_int ?_ sc_power_of.nd)
  refine dss_cons (ds_for (di_range1 (da_cons (de_var 1) da_nil) T.b_range (by omega) (by omega)) (fun i G => ∃ u, G = [.d (.int b), .d (.int n), .d (.int (b ^ i)), u]) ⟨.un, by rw [Int.pow_zero]; rfl⟩ (fun i x G' hx hG => ?_) (fun G' hG => ?_) rfl)
  · obtain ⟨u, rfl⟩ := hG
    obtain ⟨hi, rfl⟩ := rngD_get hx
    refine ⟨_, _, dg_name 3 sc_power_of.nd, dss_one (ds_set 2 (de_op (o_mulS (.inr ⟨by omega, hb⟩)) (de_var 2) (de_var 0)) ⟨_, by rw [Int.pow_succ]; rfl⟩ sc_power_of.nd)⟩
  · obtain ⟨u, rfl⟩ := hG
    refine dss_one (ds_ret (de_var 2) ?_)
    rw [rngD_len]
    simp
end
end Ax
namespace Ax
open PySem PySem.Spec L2
/-! ### rules, sizes, the four multiples -/
structure Ru where
  b : Int
  k : Str
  hs : List Int
  m : Int
structure Ru.Ok (r : Ru) : Prop where
  b2 : 2 ≤ r.b
  b10 : r.b ≤ 10
  kk : r.k = "inside" ∨ r.k = "cover" ∨ r.k = "length"
  ne : r.hs ≠ []
  len : r.hs.length ≤ 4
  asc : r.hs.Pairwise (· < ·)
  h1 : ∀ h ∈ r.hs, 1 ≤ h ∧ h ≤ 25 ∧ h % r.b ≠ 0
  m1 : 1 ≤ r.m
  m6 : r.m ≤ 6
  mc : r.k = "cover" → 2 ≤ r.m
def Ru.dt (r : Ru) : D := .obj "Rule" [("ground", .int r.b), ("way", .str r.k), ("heads", .tup (r.hs.map .int)), ("limit", .int r.m)]
def Ru.lw (r : Ru) : D := .tup [.int r.b, .str r.k, .lst (r.hs.map .int), .int r.m]
def stD (s : Int × Nat) : D := .tup [.int s.1, .int (s.2 : Int)]
/-- the size of a step -/
def sz (b : Int) (s : Int × Nat) : Int := s.1 * b ^ s.2
/-- rounded up -/
def up (a n : Int) : Int := 0 - (0 - a) / n
def mayB (r : Ru) (L n : Int) : Bool := if r.k = "inside" then decide (L < (r.m + 1) * n) else decide (L ≤ r.m * n)
def sureB (r : Ru) (L n : Int) : Bool := if r.k = "inside" then decide (L < r.m * n) else if r.k = "cover" then decide (L ≤ (r.m - 1) * n) else decide (L ≤ r.m * n)
def fitB (r : Ru) (n lo hi : Int) : Bool := if r.k = "inside" then decide (hi / n - up lo n + 1 ≤ r.m) else if r.k = "cover" then decide (up hi n - lo / n ≤ r.m) else decide (hi - lo ≤ r.m * n)
def marks (r : Ru) (n lo hi : Int) : Int × Int := if r.k = "cover" then (lo / n, up hi n) else (up lo n, hi / n)
/-- a step of a fair size -/
def StOk (b : Int) (s : Int × Nat) : Prop := 1 ≤ s.1 ∧ s.1 ≤ 25 ∧ sz b s < 2 ^ 200
theorem pow_pos' {b : Int} (h : 2 ≤ b) (p : Nat) : 1 ≤ b ^ p := by
  induction p with
  | zero => rw [Int.pow_zero]; omega
  | succ p ih =>
    rw [Int.pow_succ]
    have := Int.mul_le_mul ih h (by omega) (by omega)
    omega
theorem pow_two_le {b : Int} (h : 2 ≤ b) (p : Nat) : (2 : Int) ^ p ≤ b ^ p := by
  induction p with
  | zero => rw [Int.pow_zero, Int.pow_zero]; omega
  | succ p ih =>
    rw [Int.pow_succ, Int.pow_succ]
    exact Int.mul_le_mul ih h (by omega) (by have := pow_pos' h p; omega)
theorem pow_mono {b : Int} (h : 2 ≤ b) {p q : Nat} (hpq : p ≤ q) : b ^ p ≤ b ^ q := by
  induction hpq with
  | refl => exact Int.le_refl _
  | step _ ih =>
    rw [Int.pow_succ]
    rename_i m _
    have h1 := pow_pos' h m
    have : b ^ m * 1 ≤ b ^ m * b := Int.mul_le_mul_of_nonneg_left (by omega) (by omega)
    omega
theorem pow_slt {b : Int} (h : 2 ≤ b) {p q : Nat} (hpq : p < q) : b ^ p < b ^ q := by
  have h1 := pow_mono h hpq
  rw [Int.pow_succ] at h1
  have h2 := pow_pos' h p
  have : b ^ p * 2 ≤ b ^ p * b := Int.mul_le_mul_of_nonneg_left h (by omega)
  omega
theorem lt_pow {b : Int} (h : 2 ≤ b) (p : Nat) : (p : Int) < b ^ p := by
  have h1 := pow_two_le h p
  have : (p : Int) < 2 ^ p := by
    induction p with
    | zero => rw [Int.pow_zero]; omega
    | succ p ih =>
      have := ih (pow_two_le h p)
      rw [Int.pow_succ]
      push_cast
      omega
  omega
theorem sz_pos {b : Int} {s : Int × Nat} (h : 2 ≤ b) (h1 : 1 ≤ s.1) : 1 ≤ sz b s ∧ b ^ s.2 ≤ sz b s := by
  have h2 := pow_pos' h s.2
  have : 1 * b ^ s.2 ≤ s.1 * b ^ s.2 := Int.mul_le_mul_of_nonneg_right h1 (by omega)
  unfold sz
  omega
theorem StOk.pow {b : Int} {s : Int × Nat} (h : 2 ≤ b) (k : StOk b s) : 1 ≤ sz b s ∧ b ^ s.2 < 2 ^ 200 ∧ s.2 < 200 := by
  obtain ⟨h1, _, h3⟩ := k
  obtain ⟨q1, q2⟩ := sz_pos h h1
  refine ⟨q1, by omega, ?_⟩
  have h4 := pow_two_le h s.2
  refine Classical.byContradiction fun h5 => ?_
  have h6 := pow_mono (b := 2) (by omega) (p := 200) (q := s.2) (by omega)
  omega
theorem divW {i j : Int} (h : 0 < j) (h1 : j < 2 ^ 200) : CDivW i j := wide_div (b := 200) h (by omega) (by decide) (by decide)
theorem smulL {i j : Int} (h : -1000 < i ∧ i < 1000) : CMulW i j ∨ True := .inr trivial
/-! ### rels of the first functions -/
def rUp : List D → D → Prop := fun ds d => ∃ a n : Int, ds = [.int a, .int n] ∧ 0 < n ∧ n < 2 ^ 200 ∧ d = .int (up a n)
def rGcd : List D → D → Prop := fun ds d => ∃ a c : Int, ds = [.int a, .int c] ∧ 0 ≤ a ∧ 0 ≤ c ∧ d = .int (Int.gcd a c)
def lcmL (ns : List Int) : Int := ns.foldl (fun f n => f / (Int.gcd f n : Int) * n) 1
def rLcm : List D → D → Prop := fun ds d => ∃ (ns : List Int) (M : Int), ds = [.lst (ns.map .int)] ∧ (∀ n ∈ ns, 0 < n ∧ n ∣ M) ∧ 0 < M ∧ M < 2 ^ 900 ∧ d = .int (lcmL ns)
def rScaled : List D → D → Prop := fun ds d => ∃ (s : Int × Nat) (b : Int), ds = [stD s, .int b] ∧ 2 ≤ b ∧ b ≤ 10 ∧ StOk b s ∧ d = .tup [.int (sz b s), .int 1]
def rIsLess : List D → D → Prop := fun ds d => ∃ (s t : Int × Nat) (b : Int), ds = [stD s, stD t, .int b] ∧ 2 ≤ b ∧ b ≤ 10 ∧ StOk b s ∧ StOk b t ∧ d = .bl (decide (sz b s < sz b t))
def rMay : List D → D → Prop := fun ds d => ∃ (r : Ru) (s : Int × Nat) (L : Int), ds = [r.dt, stD s, .int L] ∧ r.Ok ∧ StOk r.b s ∧ d = .bl (mayB r L (sz r.b s))
def rSure : List D → D → Prop := fun ds d => ∃ (r : Ru) (s : Int × Nat) (L : Int), ds = [r.dt, stD s, .int L] ∧ r.Ok ∧ StOk r.b s ∧ d = .bl (sureB r L (sz r.b s))
def rAround : List D → D → Prop := fun ds d => ∃ (s : Int × Nat) (lo hi b : Int), ds = [stD s, .int lo, .int hi, .int b] ∧ 2 ≤ b ∧ b ≤ 10 ∧ StOk b s ∧ d = .tup [.int (lo / sz b s), .int (up lo (sz b s)), .int (hi / sz b s), .int (up hi (sz b s))]
def rFit : List D → D → Prop := fun ds d => ∃ (r : Ru) (s : Int × Nat) (lo hi : Int), ds = [r.dt, stD s, .int lo, .int hi] ∧ r.Ok ∧ StOk r.b s ∧ d = .bl (fitB r (sz r.b s) lo hi)
def rMarks : List D → D → Prop := fun ds d => ∃ (r : Ru) (s : Int × Nat) (lo hi : Int), ds = [r.dt, stD s, .int lo, .int hi] ∧ r.Ok ∧ StOk r.b s ∧ d = .tup [.int (marks r (sz r.b s) lo hi).1, .int (marks r (sz r.b s) lo hi).2]
/-- the least power that may fit -/
def rFirst : List D → D → Prop := fun ds d => ∃ (r : Ru) (h L : Int) (p : Nat), ds = [r.dt, .int h, .int L] ∧ r.Ok ∧ StOk r.b (h, p) ∧ 1 ≤ p ∧ mayB r L (sz r.b (h, p)) = true ∧ (∀ q < p, mayB r L (sz r.b (h, q)) = false) ∧ d = stD (h, p)
def rLeast : List D → D → Prop := fun ds d => ∃ (l : List (Int × Nat)) (b : Int) (i : Nat), ds = [.lst (l.map stD), .int b] ∧ 2 ≤ b ∧ b ≤ 10 ∧ l.length < 1000 ∧ (∀ s ∈ l, StOk b s) ∧ (∃ s, l[i]? = some s ∧ ∀ (j : Nat) t, l[j]? = some t → sz b s ≤ sz b t ∧ (j < i → sz b s < sz b t)) ∧ d = .int (i : Int)
def rFirstFit : List D → D → Prop := fun ds d => ∃ (r : Ru) (l : List (Int × Nat)) (lo hi : Int) (i : Nat) (s : Int × Nat), ds = [r.dt, .lst (l.map stD), .int lo, .int hi] ∧ r.Ok ∧ (∀ t ∈ l, StOk r.b t) ∧ l[i]? = some s ∧ fitB r (sz r.b s) lo hi = true ∧ (∀ (j : Nat) t, j < i → l[j]? = some t → fitB r (sz r.b t) lo hi = false) ∧ d = stD s
end Ax
namespace Ax
open PySem PySem.Spec L2
section
variable {P : Program} {w : World} {K : PySem.W.Frag} {mg : Str → Option Value} {base : Heap}
theorem sc_divided_up : FnScope ["number", "step"] ["number", "step"] (defScope s_divided_up) := ⟨rfl, rfl, rfl, by decide +kernel, rfl, by decide +kernel, by decide +kernel⟩
theorem ok_divided_up (T : Tp K mg) : FnD P w K mg base 1 "divided_up" 2 rUp := by
  obtain ⟨fd, F⟩ := T.d_divided_up
  refine fnD_mk T.g_divided_up F sc_divided_up rfl (F.bindsN fun _ _ _ _ _ _ us hl => match us, hl with | [_, _], _ => rfl) fun cdv A outer s H E hr ds d h hl => ?_
  obtain ⟨a, n, rfl, h0, h1, rfl⟩ := h
  exact dss_one (ds_ret (de_op o_sub de_int (de_o (de_op o_sub de_int (de_var 0)) (de_var 1) (o_div (divW h0 h1)))) rfl)

theorem sc_common_divisor : FnScope ["one", "other"] ["one", "other"] (defScope s_common_divisor) := ⟨rfl, rfl, rfl, by decide +kernel, rfl, by decide +kernel, by decide +kernel⟩
theorem snocInd {α : Type} {m : List α → Prop} (h0 : m []) (h1 : ∀ l x, m l → m (l ++ [x])) : ∀ l, m l := fun l => by
  have h : ∀ l : List α, m l.reverse := fun l => by
    induction l with
    | nil => exact h0
    | cons x l ih => rw [List.reverse_cons]; exact h1 _ _ ih
  have := h l.reverse
  rwa [List.reverse_reverse] at this
theorem gcd_turn {a c : Int} (ha : 0 ≤ a) (hc : 0 ≤ c) (h : c ≠ 0) : Int.gcd c (a % c) = Int.gcd a c := by
  obtain ⟨x, rfl⟩ := Int.eq_ofNat_of_zero_le ha
  obtain ⟨y, rfl⟩ := Int.eq_ofNat_of_zero_le hc
  show Nat.gcd y (x % y) = Nat.gcd x y
  rw [Nat.gcd_comm x y, Nat.gcd_comm y (x % y)]
  exact (Nat.gcd_rec y x).symm
theorem ok_common_divisor (T : Tp K mg) : FnD P w K mg base 1 "common_divisor" 2 rGcd := by
  obtain ⟨fd, F⟩ := T.d_common_divisor
  refine fnD_mk T.g_common_divisor F sc_common_divisor rfl (F.bindsN fun _ _ _ _ _ _ us hl => match us, hl with | [_, _], _ => rfl) fun cdv A outer s H E hr ds d h hl => ?_
  obtain ⟨a, c, rfl, ha, hc, rfl⟩ := h
  refine dss_cons (ds_while (fun m G => ∃ x y : Int, G = [.d (.int x), .d (.int y)] ∧ 0 ≤ x ∧ 0 ≤ y ∧ Int.gcd x y = Int.gcd a c ∧ m = y.toNat) ⟨_, _, _, rfl, ha, hc, rfl, rfl⟩ (fun m G' hG => ?_))
  obtain ⟨x, y, rfl, hx, hy, hg, rfl⟩ := hG
  refine ⟨_, _, dt_cmp o_ne (de_var 1) de_int, fun hb => ?_, fun hb => ?_⟩
  · have hy0 : y ≠ 0 := by simpa using hb
    have q1 := Int.emod_nonneg x hy0
    have q2 := Int.emod_lt_of_pos x (by omega : 0 < y)
    exact dss_one (ds_par 0 1 (da_cons (de_var 1) (da_cons (de_o (de_callTy c_int T.b_int bt_int (da_cons (de_var 0) da_nil)) (de_callTy c_int T.b_int bt_int (da_cons (de_var 1) da_nil)) (o_mod (by omega))) da_nil)) ⟨_, by omega, y, x % y, rfl, hy, q1, by rw [gcd_turn hx hy hy0]; exact hg, rfl⟩ sc_common_divisor.nd rfl)
  · have hy0 : y = 0 := by simpa using hb
    subst hy0
    refine dss_one (ds_ret (de_var 0) ?_)
    rw [← hg, Int.gcd_zero_right]
    show D.int x = D.int _
    congr 1
    omega

theorem sc_common_multiple : FnScope ["numbers", "found", "number"] ["numbers"] (defScope s_common_multiple) := ⟨rfl, rfl, rfl, by decide +kernel, rfl, by decide +kernel, by decide +kernel⟩
theorem lcmL_snoc (l : List Int) (n : Int) : lcmL (l ++ [n]) = lcmL l / (Int.gcd (lcmL l) n : Int) * n := by
  unfold lcmL
  rw [List.foldl_append]
  rfl
theorem lcm_turn {f n M : Int} (hf : 0 < f) (hn : 0 < n) (d1 : f ∣ M) (d2 : n ∣ M) : 0 < f / (Int.gcd f n : Int) * n ∧ f / (Int.gcd f n : Int) * n ∣ M ∧ f ∣ f / (Int.gcd f n : Int) * n ∧ n ∣ f / (Int.gcd f n : Int) * n := by
  have hg : (0 : Int) < Int.gcd f n := by
    have := Int.gcd_pos_of_ne_zero_left (b := n) (a := f) (by omega)
    omega
  have e1 : f / (Int.gcd f n : Int) * n = Int.lcm f n := by
    have q := Int.gcd_mul_lcm f n
    have h1 : ((Int.gcd f n * Int.lcm f n : Nat) : Int) = f * n := by
      rw [q]
      push_cast
      rw [Int.natAbs_of_nonneg (by omega), Int.natAbs_of_nonneg (by omega)]
    push_cast at h1
    obtain ⟨k, hk⟩ := Int.gcd_dvd_left (a := f) (b := n)
    have h2 : f / (Int.gcd f n : Int) = k := by
      conv => lhs; rw [hk]
      have := Int.mul_ediv_cancel_left k (a := (Int.gcd f n : Int)) (by omega)
      rw [← hk] at this ⊢
      exact this
    rw [h2]
    rw [show f * n = (Int.gcd f n : Int) * (k * n) by rw [← Int.mul_assoc, ← hk]] at h1
    exact (Int.eq_of_mul_eq_mul_left (by omega) h1).symm
  rw [e1]
  refine ⟨?_, Int.coe_lcm_dvd d1 d2, Int.dvd_lcm_left f n, Int.dvd_lcm_right f n⟩
  have := Int.lcm_pos (m := f) (n := n) (by omega) (by omega)
  omega
theorem lcmL_fact {M : Int} : ∀ (l : List Int), (∀ n ∈ l, 0 < n ∧ n ∣ M) → 0 < lcmL l ∧ lcmL l ∣ M ∧ ∀ n ∈ l, n ∣ lcmL l := by
  refine snocInd ?_ fun l n ih => ?_
  · intro _; exact ⟨by decide, Int.one_dvd M, fun _ h => nomatch h⟩
  · intro h
    obtain ⟨h1, h2, h3⟩ := ih fun x hx => h x (List.mem_append_left _ hx)
    obtain ⟨n1, n2⟩ := h n (by simp)
    obtain ⟨q1, q2, q3, q4⟩ := lcm_turn h1 n1 h2 n2
    rw [lcmL_snoc]
    refine ⟨q1, q2, fun x hx => ?_⟩
    rcases List.mem_append.mp hx with hx | hx
    · exact Int.dvd_trans (h3 x hx) q3
    · rw [List.mem_singleton.mp hx]; exact q4
end
end Ax
namespace Ax
open PySem PySem.Spec L2
section
variable {P : Program} {w : World} {K : PySem.W.Frag} {mg : Str → Option Value} {base : Heap}
theorem ok_common_multiple (T : Tp K mg) : FnD P w K mg base 2 "common_multiple" 1 rLcm := by
  obtain ⟨fd, F⟩ := T.d_common_multiple
  refine fnD_mk T.g_common_multiple F sc_common_multiple rfl (F.bindsN fun _ _ _ _ _ _ us hl => match us, hl with | [_], _ => rfl) fun cdv A outer s H E hr ds d h hl => ?_
  obtain ⟨ns, M, rfl, hns, hM, hM2, rfl⟩ := h
  refine dss_cons (ds_set 1 de_int ?_ sc_common_multiple.nd)
  refine dss_cons (ds_for (di_list (de_var 0)) (fun i G => ∃ u, G = [.d (.lst (ns.map .int)), .d (.int (lcmL (ns.take i))), u]) ⟨.un, rfl⟩ (fun i x G' hx hG => ?_) (fun G' hG => ?_) rfl)
  · obtain ⟨u, rfl⟩ := hG
    rw [List.getElem?_map] at hx
    cases hn : ns[i]? with
    | none => rw [hn] at hx; cases hx
    | some n =>
      rw [hn] at hx
      cases hx
      have hm := List.mem_of_getElem? hn
      obtain ⟨n1, n2⟩ := hns n hm
      obtain ⟨f1, f2, _⟩ := lcmL_fact (ns.take i) fun x hx => hns x (List.mem_of_mem_take hx)
      have b1 := Int.le_of_dvd hM f2
      have b2 := Int.le_of_dvd hM n2
      have g1 : 0 < (Int.gcd (lcmL (ns.take i)) n : Int) := by
        have := Int.gcd_pos_of_ne_zero_right (a := lcmL (ns.take i)) (b := n) (by omega)
        omega
      have g2 := Int.le_of_dvd n1 (Int.gcd_dvd_right (a := lcmL (ns.take i)) (b := n))
      have g3 : lcmL (ns.take i) / (Int.gcd (lcmL (ns.take i)) n : Int) ≤ lcmL (ns.take i) := Int.ediv_le_self _ (by omega)
      have g4 : 0 ≤ lcmL (ns.take i) / (Int.gcd (lcmL (ns.take i)) n : Int) := Int.ediv_nonneg (by omega) (by omega)
      have g5 : CMulW (lcmL (ns.take i) / (Int.gcd (lcmL (ns.take i)) n : Int)) n := wide_mul (a := 900) (b := 900) (by omega) (by omega) (by decide) (by decide) (by decide)
      refine ⟨_, _, dg_name 2 sc_common_multiple.nd, dss_one (ds_set 1 (de_o (de_o (de_var 1) (de_call (ok_common_divisor T) (hr.mono (by decide)) (da_cons (de_var 1) (da_cons (de_var 2) da_nil)) ⟨_, _, rfl, by omega, by omega, rfl⟩) (o_div (wide_div (b := 900) g1 (by omega) (by decide) (by decide)))) (de_var 2) (o_mul g5)) ⟨.d (.int n), ?_⟩ sc_common_multiple.nd)⟩
      rw [List.take_succ, hn, Option.toList_some, lcmL_snoc]
      rfl
  · obtain ⟨u, rfl⟩ := hG
    refine dss_one (ds_ret (de_var 1) ?_)
    rw [List.length_map, List.take_length]

theorem sc_scaled : FnScope ["step", "base", "mantissa", "power"] ["step", "base"] (defScope s_scaled) := ⟨rfl, rfl, rfl, by decide +kernel, rfl, by decide +kernel, by decide +kernel⟩
theorem ok_scaled (T : Tp K mg) : FnD P w K mg base 2 "scaled" 2 rScaled := by
  obtain ⟨fd, F⟩ := T.d_scaled
  refine fnD_mk T.g_scaled F sc_scaled rfl (F.bindsN fun _ _ _ _ _ _ us hl => match us, hl with | [_, _], _ => rfl) fun cdv A outer s H E hr ds d h hl => ?_
  obtain ⟨⟨m, p⟩, b, rfl, hb2, hb10, hst, rfl⟩ := h
  obtain ⟨q1, q2, q3⟩ := hst.pow hb2
  obtain ⟨q4, q5, q6⟩ := hst
  refine dss_cons (ds_unpack (de_var 0) (dg_tup (dgs_cons (dg_name 2 sc_scaled.nd) (dgs_cons (dg_name 3 sc_scaled.nd) dgs_nil)) rfl) ?_)
  refine dss_cons (ds_if (dt_cmp o_ge (de_var 3) de_int) (fun hb => ?_) (fun hb => ?_))
  · exact dss_one (ds_ret (de_tup (da_cons (de_o (de_var 2) (de_call (ok_power_of T) (hr.mono (by decide)) (da_cons (de_var 1) (da_cons (de_var 3) da_nil)) ⟨b, p, rfl, by omega, by omega, by omega, rfl⟩) (o_mulS (.inl ⟨by omega, by omega⟩))) (da_cons de_int da_nil))) rfl)
  · have : ¬ (0 : Int) ≤ (p : Int) := by simpa using hb
    omega

theorem sc_is_less : FnScope ["one", "other", "base", "first", "second"] ["one", "other", "base"] (defScope s_is_less) := ⟨rfl, rfl, rfl, by decide +kernel, rfl, by decide +kernel, by decide +kernel⟩
theorem ok_is_less (T : Tp K mg) : FnD P w K mg base 3 "is_less" 3 rIsLess := by
  obtain ⟨fd, F⟩ := T.d_is_less
  refine fnD_mk T.g_is_less F sc_is_less rfl (F.bindsN fun _ _ _ _ _ _ us hl => match us, hl with | [_, _, _], _ => rfl) fun cdv A outer s H E hr ds d h hl => ?_
  obtain ⟨x, y, b, rfl, hb2, hb10, hx, hy, rfl⟩ := h
  refine dss_cons (ds_par 3 4 (da_cons (de_call (ok_scaled T) (hr.mono (by decide)) (da_cons (de_var 0) (da_cons (de_var 2) da_nil)) ⟨x, b, rfl, hb2, hb10, hx, rfl⟩) (da_cons (de_call (ok_scaled T) (hr.mono (by decide)) (da_cons (de_var 1) (da_cons (de_var 2) da_nil)) ⟨y, b, rfl, hb2, hb10, hy, rfl⟩) da_nil)) ?_ sc_is_less.nd rfl)
  refine dss_one (ds_ret (de_cmp o_lt (de_o (de_ixT (de_var 3) de_int) (de_ixT (de_var 4) de_int) (o_mulS (.inr ⟨by decide, by decide⟩))) (de_o (de_ixT (de_var 4) de_int) (de_ixT (de_var 3) de_int) (o_mulS (.inr ⟨by decide, by decide⟩)))) ?_)
  rw [Int.mul_one, Int.mul_one]

theorem sc_may_fit : FnScope ["rule", "step", "length", "size", "scale"] ["rule", "step", "length"] (defScope s_may_fit) := ⟨rfl, rfl, rfl, by decide +kernel, rfl, by decide +kernel, by decide +kernel⟩
theorem ok_may_fit (T : Tp K mg) : FnD P w K mg base 3 "may_fit" 3 rMay := by
  obtain ⟨fd, F⟩ := T.d_may_fit
  refine fnD_mk T.g_may_fit F sc_may_fit rfl (F.bindsN fun _ _ _ _ _ _ us hl => match us, hl with | [_, _, _], _ => rfl) fun cdv A outer s H E hr ds d h hl => ?_
  obtain ⟨r, x, L, rfl, ho, hx, rfl⟩ := h
  have m1 := ho.m1
  have m6 := ho.m6
  refine dss_cons (ds_unpack (de_call (ok_scaled T) (hr.mono (by decide)) (da_cons (de_var 1) (da_cons (de_fld (de_var 0) T.c_Rule T.n_Rule_ground) da_nil)) ⟨x, r.b, rfl, ho.b2, ho.b10, hx, rfl⟩) (dg_tup (dgs_cons (dg_name 3 sc_may_fit.nd) (dgs_cons (dg_name 4 sc_may_fit.nd) dgs_nil)) rfl) ?_)
  refine dss_cons (ds_if (dt_cmp o_eqS (de_fld (de_var 0) T.c_Rule T.n_Rule_way) de_str) (fun hb => ?_) (fun hb => ?_))
  · refine dss_one (ds_ret (de_cmp o_gt (de_o (de_op o_add (de_fld (de_var 0) T.c_Rule T.n_Rule_limit) de_int) (de_var 3) (o_mulS (.inl ⟨by omega, by omega⟩))) (de_o (de_var 2) (de_var 4) (o_mulS (.inr ⟨by decide, by decide⟩)))) ?_)
    rw [Int.mul_one]
    unfold mayB
    rw [if_pos (of_decide_eq_true hb)]
  · refine dss_nil (dss_one (ds_ret (de_cmp o_ge (de_o (de_fld (de_var 0) T.c_Rule T.n_Rule_limit) (de_var 3) (o_mulS (.inl ⟨by omega, by omega⟩))) (de_o (de_var 2) (de_var 4) (o_mulS (.inr ⟨by decide, by decide⟩)))) ?_))
    rw [Int.mul_one]
    unfold mayB
    rw [if_neg (of_decide_eq_false hb)]

theorem sc_surely_fits : FnScope ["rule", "step", "length", "size", "scale"] ["rule", "step", "length"] (defScope s_surely_fits) := ⟨rfl, rfl, rfl, by decide +kernel, rfl, by decide +kernel, by decide +kernel⟩
theorem ok_surely_fits (T : Tp K mg) : FnD P w K mg base 3 "surely_fits" 3 rSure := by
  obtain ⟨fd, F⟩ := T.d_surely_fits
  refine fnD_mk T.g_surely_fits F sc_surely_fits rfl (F.bindsN fun _ _ _ _ _ _ us hl => match us, hl with | [_, _, _], _ => rfl) fun cdv A outer s H E hr ds d h hl => ?_
  obtain ⟨r, x, L, rfl, ho, hx, rfl⟩ := h
  have m1 := ho.m1
  have m6 := ho.m6
  refine dss_cons (ds_unpack (de_call (ok_scaled T) (hr.mono (by decide)) (da_cons (de_var 1) (da_cons (de_fld (de_var 0) T.c_Rule T.n_Rule_ground) da_nil)) ⟨x, r.b, rfl, ho.b2, ho.b10, hx, rfl⟩) (dg_tup (dgs_cons (dg_name 3 sc_surely_fits.nd) (dgs_cons (dg_name 4 sc_surely_fits.nd) dgs_nil)) rfl) ?_)
  refine dss_cons (ds_if (dt_cmp o_eqS (de_fld (de_var 0) T.c_Rule T.n_Rule_way) de_str) (fun hb => ?_) (fun hb => ?_))
  · refine dss_one (ds_ret (de_cmp o_gt (de_o (de_fld (de_var 0) T.c_Rule T.n_Rule_limit) (de_var 3) (o_mulS (.inl ⟨by omega, by omega⟩))) (de_o (de_var 2) (de_var 4) (o_mulS (.inr ⟨by decide, by decide⟩)))) ?_)
    rw [Int.mul_one]
    unfold sureB
    rw [if_pos (of_decide_eq_true hb)]
  · refine dss_nil (dss_cons (ds_if (dt_cmp o_eqS (de_fld (de_var 0) T.c_Rule T.n_Rule_way) de_str) (fun hb2 => ?_) (fun hb2 => ?_)))
    · refine dss_one (ds_ret (de_cmp o_ge (de_o (de_op o_sub (de_fld (de_var 0) T.c_Rule T.n_Rule_limit) de_int) (de_var 3) (o_mulS (.inl ⟨by omega, by omega⟩))) (de_o (de_var 2) (de_var 4) (o_mulS (.inr ⟨by decide, by decide⟩)))) ?_)
      rw [Int.mul_one]
      unfold sureB
      rw [if_neg (of_decide_eq_false hb), if_pos (of_decide_eq_true hb2)]
    · refine dss_nil (dss_one (ds_ret (de_cmp o_ge (de_o (de_fld (de_var 0) T.c_Rule T.n_Rule_limit) (de_var 3) (o_mulS (.inl ⟨by omega, by omega⟩))) (de_o (de_var 2) (de_var 4) (o_mulS (.inr ⟨by decide, by decide⟩)))) ?_))
      rw [Int.mul_one]
      unfold sureB
      rw [if_neg (of_decide_eq_false hb), if_neg (of_decide_eq_false hb2)]

theorem sc_multiples_around : FnScope ["step", "low", "high", "base", "size", "scale"] ["step", "low", "high", "base"] (defScope s_multiples_around) := ⟨rfl, rfl, rfl, by decide +kernel, rfl, by decide +kernel, by decide +kernel⟩
theorem ok_multiples_around (T : Tp K mg) : FnD P w K mg base 3 "multiples_around" 4 rAround := by
  obtain ⟨fd, F⟩ := T.d_multiples_around
  refine fnD_mk T.g_multiples_around F sc_multiples_around rfl (F.bindsN fun _ _ _ _ _ _ us hl => match us, hl with | [_, _, _, _], _ => rfl) fun cdv A outer s H E hr ds d h hl => ?_
  obtain ⟨x, lo, hi, b, rfl, hb2, hb10, hx, rfl⟩ := h
  obtain ⟨q1, _, _⟩ := hx.pow hb2
  have q2 := hx.2.2
  have dv : ∀ i, CDivW i (sz b x) := fun i => divW (by omega) q2
  refine dss_cons (ds_unpack (de_call (ok_scaled T) (hr.mono (by decide)) (da_cons (de_var 0) (da_cons (de_var 3) da_nil)) ⟨x, b, rfl, hb2, hb10, hx, rfl⟩) (dg_tup (dgs_cons (dg_name 4 sc_multiples_around.nd) (dgs_cons (dg_name 5 sc_multiples_around.nd) dgs_nil)) rfl) ?_)
  refine dss_cons (ds_par 1 2 (da_cons (de_o (de_var 1) (de_var 5) (o_mulS (.inr ⟨by decide, by decide⟩))) (da_cons (de_o (de_var 2) (de_var 5) (o_mulS (.inr ⟨by decide, by decide⟩))) da_nil)) ?_ sc_multiples_around.nd rfl)
  rw [Int.mul_one, Int.mul_one]
  exact dss_one (ds_ret (de_tup (da_cons (de_o (de_var 1) (de_var 4) (o_div (dv _))) (da_cons (de_call (ok_divided_up T) (hr.mono (by decide)) (da_cons (de_var 1) (da_cons (de_var 4) da_nil)) ⟨lo, sz b x, rfl, by omega, q2, rfl⟩) (da_cons (de_o (de_var 2) (de_var 4) (o_div (dv _))) (da_cons (de_call (ok_divided_up T) (hr.mono (by decide)) (da_cons (de_var 2) (da_cons (de_var 4) da_nil)) ⟨hi, sz b x, rfl, by omega, q2, rfl⟩) da_nil))))) rfl)

theorem sc_is_fitting : FnScope ["rule", "step", "low", "high", "before", "first", "last", "behind"] ["rule", "step", "low", "high"] (defScope s_is_fitting) := ⟨rfl, rfl, rfl, by decide +kernel, rfl, by decide +kernel, by decide +kernel⟩
theorem ok_is_fitting (T : Tp K mg) : FnD P w K mg base 4 "is_fitting" 4 rFit := by
  obtain ⟨fd, F⟩ := T.d_is_fitting
  refine fnD_mk T.g_is_fitting F sc_is_fitting rfl (F.bindsN fun _ _ _ _ _ _ us hl => match us, hl with | [_, _, _, _], _ => rfl) fun cdv A outer s H E hr ds d h hl => ?_
  obtain ⟨r, x, lo, hi, rfl, ho, hx, rfl⟩ := h
  refine dss_cons (ds_unpack (de_call (ok_multiples_around T) (hr.mono (by decide)) (da_cons (de_var 1) (da_cons (de_var 2) (da_cons (de_var 3) (da_cons (de_fld (de_var 0) T.c_Rule T.n_Rule_ground) da_nil)))) ⟨x, lo, hi, r.b, rfl, ho.b2, ho.b10, hx, rfl⟩) (dg_tup (dgs_cons (dg_name 4 sc_is_fitting.nd) (dgs_cons (dg_name 5 sc_is_fitting.nd) (dgs_cons (dg_name 6 sc_is_fitting.nd) (dgs_cons (dg_name 7 sc_is_fitting.nd) dgs_nil)))) rfl) ?_)
  refine dss_cons (ds_if (dt_cmp o_eqS (de_fld (de_var 0) T.c_Rule T.n_Rule_way) de_str) (fun hb => ?_) (fun hb => ?_))
  · refine dss_one (ds_ret (de_cmp o_le (de_op o_add (de_op o_sub (de_var 6) (de_var 5)) de_int) (de_fld (de_var 0) T.c_Rule T.n_Rule_limit)) ?_)
    unfold fitB
    rw [if_pos (of_decide_eq_true hb)]
  · refine dss_nil (dss_cons (ds_if (dt_cmp o_eqS (de_fld (de_var 0) T.c_Rule T.n_Rule_way) de_str) (fun hb2 => ?_) (fun hb2 => ?_)))
    · refine dss_one (ds_ret (de_cmp o_le (de_op o_sub (de_var 7) (de_var 4)) (de_fld (de_var 0) T.c_Rule T.n_Rule_limit)) ?_)
      unfold fitB
      rw [if_neg (of_decide_eq_false hb), if_pos (of_decide_eq_true hb2)]
    · refine dss_nil (dss_one (ds_ret (de_call (ok_surely_fits T) (hr.mono (by decide)) (da_cons (de_var 0) (da_cons (de_var 1) (da_cons (de_op o_sub (de_var 3) (de_var 2)) da_nil))) ⟨r, x, hi - lo, rfl, ho, hx, rfl⟩) ?_))
      unfold fitB sureB
      rw [if_neg (of_decide_eq_false hb), if_neg (of_decide_eq_false hb2), if_neg (of_decide_eq_false hb), if_neg (of_decide_eq_false hb2)]

theorem sc_marks_of : FnScope ["rule", "step", "low", "high", "before", "first", "last", "behind"] ["rule", "step", "low", "high"] (defScope s_marks_of) := ⟨rfl, rfl, rfl, by decide +kernel, rfl, by decide +kernel, by decide +kernel⟩
theorem ok_marks_of (T : Tp K mg) : FnD P w K mg base 4 "marks_of" 4 rMarks := by
  obtain ⟨fd, F⟩ := T.d_marks_of
  refine fnD_mk T.g_marks_of F sc_marks_of rfl (F.bindsN fun _ _ _ _ _ _ us hl => match us, hl with | [_, _, _, _], _ => rfl) fun cdv A outer s H E hr ds d h hl => ?_
  obtain ⟨r, x, lo, hi, rfl, ho, hx, rfl⟩ := h
  refine dss_cons (ds_unpack (de_call (ok_multiples_around T) (hr.mono (by decide)) (da_cons (de_var 1) (da_cons (de_var 2) (da_cons (de_var 3) (da_cons (de_fld (de_var 0) T.c_Rule T.n_Rule_ground) da_nil)))) ⟨x, lo, hi, r.b, rfl, ho.b2, ho.b10, hx, rfl⟩) (dg_tup (dgs_cons (dg_name 4 sc_marks_of.nd) (dgs_cons (dg_name 5 sc_marks_of.nd) (dgs_cons (dg_name 6 sc_marks_of.nd) (dgs_cons (dg_name 7 sc_marks_of.nd) dgs_nil)))) rfl) ?_)
  refine dss_cons (ds_if (dt_cmp o_eqS (de_fld (de_var 0) T.c_Rule T.n_Rule_way) de_str) (fun hb => ?_) (fun hb => ?_))
  · refine dss_one (ds_ret (de_tup (da_cons (de_var 4) (da_cons (de_var 7) da_nil))) ?_)
    unfold marks
    rw [if_pos (of_decide_eq_true hb)]
  · refine dss_nil (dss_one (ds_ret (de_tup (da_cons (de_var 5) (da_cons (de_var 6) da_nil))) ?_))
    unfold marks
    rw [if_neg (of_decide_eq_false hb)]
end
end Ax
namespace Ax
open PySem PySem.Spec L2
/-! ### plain: the steps of a rule at a length -/
section
variable {r : Ru} {L n n' lo hi : Int} {s t : Int × Nat}
theorem sz_succ {b h : Int} {p : Nat} : sz b (h, p + 1) = sz b (h, p) * b := by
  unfold sz
  show h * b ^ (p + 1) = h * b ^ p * b
  rw [Int.pow_succ, Int.mul_assoc]
theorem sz_mono {b h : Int} (hb : 2 ≤ b) (h1 : 1 ≤ h) {p q : Nat} (hpq : p ≤ q) : sz b (h, p) ≤ sz b (h, q) := Int.mul_le_mul_of_nonneg_left (pow_mono hb hpq) (by show 0 ≤ h; omega)
theorem sz_lt {b h : Int} (hb : 2 ≤ b) (h1 : 1 ≤ h) {p q : Nat} (hpq : p < q) : sz b (h, p) < sz b (h, q) := Int.mul_lt_mul_of_pos_left (pow_slt hb hpq) (by show 0 < h; omega)
theorem may_iff : mayB r L n = true ↔ (r.k = "inside" ∧ L < (r.m + 1) * n) ∨ (r.k ≠ "inside" ∧ L ≤ r.m * n) := by
  unfold mayB
  by_cases h : r.k = "inside"
  · rw [if_pos h]; simp [h]
  · rw [if_neg h]; simp [h]
theorem sure_iff : sureB r L n = true ↔ (r.k = "inside" ∧ L < r.m * n) ∨ (r.k ≠ "inside" ∧ r.k = "cover" ∧ L ≤ (r.m - 1) * n) ∨ (r.k ≠ "inside" ∧ r.k ≠ "cover" ∧ L ≤ r.m * n) := by
  unfold sureB
  by_cases h : r.k = "inside"
  · rw [if_pos h]; simp [h]
  · rw [if_neg h]
    by_cases h2 : r.k = "cover"
    · rw [if_pos h2, decide_eq_true_eq]; exact ⟨fun z => .inr (.inl ⟨h, h2, z⟩), fun z => z.elim (fun z => absurd z.1 h) fun z => z.elim (fun z => z.2.2) fun z => absurd h2 z.2.1⟩
    · rw [if_neg h2]; simp [h, h2]
theorem fit_iff : fitB r n lo hi = true ↔ (r.k = "inside" ∧ hi / n - up lo n + 1 ≤ r.m) ∨ (r.k ≠ "inside" ∧ r.k = "cover" ∧ up hi n - lo / n ≤ r.m) ∨ (r.k ≠ "inside" ∧ r.k ≠ "cover" ∧ hi - lo ≤ r.m * n) := by
  unfold fitB
  by_cases h : r.k = "inside"
  · rw [if_pos h]; simp [h]
  · rw [if_neg h]
    by_cases h2 : r.k = "cover"
    · rw [if_pos h2, decide_eq_true_eq]; exact ⟨fun z => .inr (.inl ⟨h, h2, z⟩), fun z => z.elim (fun z => absurd z.1 h) fun z => z.elim (fun z => z.2.2) fun z => absurd h2 z.2.1⟩
    · rw [if_neg h2]; simp [h, h2]
theorem mul_mono {m n n' : Int} (hm : 0 ≤ m) (h : n ≤ n') : m * n ≤ m * n' := Int.mul_le_mul_of_nonneg_left h hm
theorem may_mono (ho : r.Ok) (h : n ≤ n') (hm : mayB r L n = true) : mayB r L n' = true := by
  have := ho.m1
  rw [may_iff] at hm ⊢
  have q1 := mul_mono (m := r.m + 1) (by omega) h
  have q2 := mul_mono (m := r.m) (by omega) h
  rcases hm with ⟨h1, h2⟩ | ⟨h1, h2⟩
  · exact .inl ⟨h1, by omega⟩
  · exact .inr ⟨h1, by omega⟩
theorem sure_mono (ho : r.Ok) (h : n ≤ n') (hm : sureB r L n = true) : sureB r L n' = true := by
  have := ho.m1
  rw [sure_iff] at hm ⊢
  have q1 := mul_mono (m := r.m - 1) (by omega) h
  have q2 := mul_mono (m := r.m) (by omega) h
  rcases hm with ⟨h1, h2⟩ | ⟨h1, h2, h3⟩ | ⟨h1, h2, h3⟩
  · exact .inl ⟨h1, by omega⟩
  · exact .inr (.inl ⟨h1, h2, by omega⟩)
  · exact .inr (.inr ⟨h1, h2, by omega⟩)
theorem sure_may (ho : r.Ok) (hn : 0 ≤ n) (hm : sureB r L n = true) : mayB r L n = true := by
  have := ho.m1
  rw [sure_iff] at hm
  rw [may_iff]
  have e1 : (r.m + 1) * n = r.m * n + n := by rw [Int.add_mul, Int.one_mul]
  have e2 : (r.m - 1) * n = r.m * n - n := by rw [Int.sub_mul, Int.one_mul]
  rcases hm with ⟨h1, h2⟩ | ⟨h1, h2, h3⟩ | ⟨h1, h2, h3⟩
  · exact .inl ⟨h1, by omega⟩
  · exact .inr ⟨h1, by omega⟩
  · exact .inr ⟨h1, by omega⟩
/-- what may fit is not small, what may not is not great -/
theorem may_low (ho : r.Ok) (hn : 0 ≤ n) (hm : mayB r L n = true) : L ≤ 7 * n := by
  have := ho.m6
  rw [may_iff] at hm
  have q1 : (r.m + 1) * n ≤ 7 * n := Int.mul_le_mul_of_nonneg_right (by omega) hn
  have q2 : r.m * n ≤ 7 * n := Int.mul_le_mul_of_nonneg_right (by omega) hn
  omega
theorem notmay_high (ho : r.Ok) (hn : 0 ≤ n) (hm : mayB r L n = false) : n ≤ L := by
  have := ho.m1
  have hm : ¬ (mayB r L n = true) := by rw [hm]; decide
  rw [may_iff] at hm
  have q1 : 1 * n ≤ (r.m + 1) * n := Int.mul_le_mul_of_nonneg_right (by omega) hn
  have q2 : 1 * n ≤ r.m * n := Int.mul_le_mul_of_nonneg_right (by omega) hn
  by_cases h : r.k = "inside"
  · have : ¬ L < (r.m + 1) * n := fun z => hm (.inl ⟨h, z⟩)
    omega
  · have : ¬ L ≤ r.m * n := fun z => hm (.inr ⟨h, z⟩)
    omega
theorem sure_of (ho : r.Ok) (hn : L < n) (hL : 0 ≤ L) : sureB r L n = true := by
  have := ho.m1
  rw [sure_iff]
  have q2 : 1 * n ≤ r.m * n := Int.mul_le_mul_of_nonneg_right (by omega) (by omega)
  by_cases h : r.k = "inside"
  · exact .inl ⟨h, by omega⟩
  · by_cases h2 : r.k = "cover"
    · have := ho.mc h2
      have q1 : 1 * n ≤ (r.m - 1) * n := Int.mul_le_mul_of_nonneg_right (by omega) (by omega)
      exact .inr (.inl ⟨h, h2, by omega⟩)
    · exact .inr (.inr ⟨h, h2, by omega⟩)
theorem dvd_pow {b : Int} {p : Nat} (h : 0 < p) : b ∣ b ^ p := by
  obtain ⟨q, rfl⟩ : ∃ q, p = q + 1 := ⟨p - 1, by omega⟩
  exact ⟨b ^ q, by rw [Int.pow_succ, Int.mul_comm]⟩
theorem sz_inj_le {b : Int} (hb : 2 ≤ b) {h h' : Int} {p q : Nat} (hpq : p ≤ q) (hh : h % b ≠ 0) (e : h * b ^ p = h' * b ^ q) : p = q ∧ h = h' := by
  have hp := pow_pos' hb p
  obtain ⟨k, rfl⟩ : ∃ k, q = p + k := ⟨q - p, by omega⟩
  rw [Int.pow_add] at e
  have e2 : b ^ p * h = b ^ p * (h' * b ^ k) := by
    rw [Int.mul_comm _ h, e]
    rw [Int.mul_left_comm]
  have e3 := Int.eq_of_mul_eq_mul_left (by omega) e2
  by_cases hk : k = 0
  · subst hk
    rw [Int.pow_zero, Int.mul_one] at e3
    exact ⟨rfl, e3⟩
  · obtain ⟨c, hc⟩ := dvd_pow (b := b) (p := k) (by omega)
    refine absurd ?_ hh
    rw [e3, hc, Int.mul_left_comm]
    exact Int.mul_emod_right b _
theorem sz_inj (ho : r.Ok) (hs : s.1 ∈ r.hs) (ht : t.1 ∈ r.hs) (e : sz r.b s = sz r.b t) : s = t := by
  obtain ⟨h, p⟩ := s
  obtain ⟨h', q⟩ := t
  have e : h * r.b ^ p = h' * r.b ^ q := e
  rcases Nat.le_total p q with hpq | hpq
  · obtain ⟨rfl, rfl⟩ := sz_inj_le ho.b2 hpq (ho.h1 h hs).2.2 e; rfl
  · obtain ⟨rfl, rfl⟩ := sz_inj_le ho.b2 hpq (ho.h1 h' ht).2.2 e.symm; rfl
/-- the steps of a rule at a length: all that may fit, up to the first that surely fits -/
def isSt (r : Ru) (L : Int) (s : Int × Nat) : Prop := s.1 ∈ r.hs ∧ mayB r L (sz r.b s) = true ∧ ∀ t : Int × Nat, t.1 ∈ r.hs → sz r.b t < sz r.b s → sureB r L (sz r.b t) = false
structure Stp (r : Ru) (L : Int) (S : List (Int × Nat)) : Prop where
  ok : r.Ok
  lo : 512 ≤ L
  hi : L < 2 ^ 180
  asc : S.Pairwise fun s t => sz r.b s < sz r.b t
  mem : ∀ s, s ∈ S ↔ isSt r L s
theorem asc_unique {α : Type} (f : α → Int) : ∀ (l l' : List α), l.Pairwise (fun x y => f x < f y) → l'.Pairwise (fun x y => f x < f y) → (∀ x, x ∈ l ↔ x ∈ l') → l = l'
  | [], [], _, _, _ => rfl
  | [], y :: l', _, _, h => absurd ((h y).mpr (by simp)) (by simp)
  | x :: l, [], _, _, h => absurd ((h x).mp (by simp)) (by simp)
  | x :: l, y :: l', h1, h2, h => by
    rw [List.pairwise_cons] at h1 h2
    have hxy : x = y := by
      refine Classical.byContradiction fun ne => ?_
      have a1 : x ∈ l' := ((List.mem_cons.mp ((h x).mp (by simp))).resolve_left ne)
      have a2 : y ∈ l := ((List.mem_cons.mp ((h y).mpr (by simp))).resolve_left fun z => ne z.symm)
      have := h1.1 y a2
      have := h2.1 x a1
      omega
    subst hxy
    rw [asc_unique f l l' h1.2 h2.2 fun z => ?_]
    constructor
    · intro hz
      have := (List.mem_cons.mp ((h z).mp (List.mem_cons_of_mem _ hz)))
      rcases this with rfl | q
      · have := h1.1 z hz; omega
      · exact q
    · intro hz
      have := (List.mem_cons.mp ((h z).mpr (List.mem_cons_of_mem _ hz)))
      rcases this with rfl | q
      · have := h2.1 z hz; omega
      · exact q
theorem Stp.uniq {S S' : List (Int × Nat)} (h : Stp r L S) (h' : Stp r L S') : S = S' := asc_unique (sz r.b) S S' h.asc h'.asc fun x => (h.mem x).trans (h'.mem x).symm
/-- all whole numbers below N of a kind, ascending -/
noncomputable def ups (N : Int) (q : Int → Prop) : List Int := ((List.range N.toNat).map fun i : Nat => (i : Int)).filter fun x => @decide (q x) (Classical.propDecidable _)
theorem mem_ups {N x : Int} {q : Int → Prop} : x ∈ ups N q ↔ 0 ≤ x ∧ x < N ∧ q x := by
  unfold ups
  rw [List.mem_filter, List.mem_map]
  simp only [List.mem_range, decide_eq_true_eq]
  constructor
  · rintro ⟨⟨i, hi, rfl⟩, hq⟩
    exact ⟨by omega, by omega, hq⟩
  · rintro ⟨h1, h2, h3⟩
    exact ⟨⟨x.toNat, by omega, by omega⟩, h3⟩
theorem ups_asc {N : Int} {q : Int → Prop} : (ups N q).Pairwise (· < ·) := by
  unfold ups
  refine List.Pairwise.filter _ (List.pairwise_map.mpr ?_)
  refine List.Pairwise.imp ?_ List.pairwise_lt_range
  intro a b h
  omega
/-- a sure size not beyond the length's next power -/
theorem sure_ex (ho : r.Ok) (hL : 512 ≤ L) {h : Int} (hh : h ∈ r.hs) : ∃ p : Nat, sureB r L (sz r.b (h, p)) = true ∧ sz r.b (h, p) ≤ r.b * L := by
  obtain ⟨h1, h25, _⟩ := ho.h1 h hh
  have hb := ho.b2
  have ex : ∃ p : Nat, L < sz r.b (h, p) := ⟨L.toNat, by
    have := lt_pow hb L.toNat
    have := (sz_pos (s := (h, L.toNat)) hb h1).2
    have : r.b ^ L.toNat ≤ sz r.b (h, L.toNat) := this
    omega⟩
  have ⟨p, hp, hmin⟩ : ∃ p : Nat, L < sz r.b (h, p) ∧ ∀ q < p, ¬ L < sz r.b (h, q) := by
    obtain ⟨p, hp⟩ := ex
    induction p using Nat.strongRecOn with
    | ind p ih =>
      by_cases c : ∃ q < p, L < sz r.b (h, q)
      · obtain ⟨q, hq, hq2⟩ := c
        exact ih q hq hq2
      · exact ⟨p, hp, fun q hq z => c ⟨q, hq, z⟩⟩
  refine ⟨p, sure_of ho hp (by omega), ?_⟩
  cases p with
  | zero =>
    unfold sz at hp
    rw [Int.pow_zero] at hp
    omega
  | succ p =>
    have := hmin p (by omega)
    rw [sz_succ, Int.mul_comm]
    exact Int.mul_le_mul_of_nonneg_left (by omega) (by omega)
theorem isSt_high (ho : r.Ok) (hL : 512 ≤ L) (hs : isSt r L s) : sz r.b s ≤ r.b * L := by
  obtain ⟨p, q1, q2⟩ := sure_ex ho hL hs.1
  refine Classical.byContradiction fun c => ?_
  have := hs.2.2 (s.1, p) hs.1 (by omega)
  rw [q1] at this
  cases this
theorem isSt_low (ho : r.Ok) (hs : isSt r L s) : L ≤ 7 * sz r.b s := may_low ho (by have := (sz_pos ho.b2 (ho.h1 _ hs.1).1).1; omega) hs.2.1
theorem stp_ex (ho : r.Ok) (hL : 512 ≤ L) (hH : L < 2 ^ 180) : ∃ S, Stp r L S := by
  classical
  let rep : Int → Int × Nat := fun n => if h : ∃ s, isSt r L s ∧ sz r.b s = n then Classical.choose h else (0, 0)
  have hrep : ∀ n, (∃ s, isSt r L s ∧ sz r.b s = n) → isSt r L (rep n) ∧ sz r.b (rep n) = n := fun n h => by
    show isSt r L (if h : ∃ s, isSt r L s ∧ sz r.b s = n then Classical.choose h else (0, 0)) ∧ sz r.b (if h : ∃ s, isSt r L s ∧ sz r.b s = n then Classical.choose h else (0, 0)) = n
    rw [dif_pos h]
    exact Classical.choose_spec h
  refine ⟨(ups (r.b * L + 1) fun n => ∃ s, isSt r L s ∧ sz r.b s = n).map rep, ho, hL, hH, ?_, fun s => ?_⟩
  · rw [List.pairwise_map]
    refine List.Pairwise.imp_of_mem ?_ (ups_asc (N := r.b * L + 1))
    intro a b ha hb hab
    rw [(hrep a (mem_ups.mp ha).2.2).2, (hrep b (mem_ups.mp hb).2.2).2]
    exact hab
  · rw [List.mem_map]
    constructor
    · rintro ⟨n, hn, rfl⟩
      exact (hrep n (mem_ups.mp hn).2.2).1
    · intro hs
      have e := hrep (sz r.b s) ⟨s, hs, rfl⟩
      refine ⟨sz r.b s, mem_ups.mpr ⟨?_, ?_, s, hs, rfl⟩, sz_inj ho e.1.1 hs.1 e.2⟩
      · have := (sz_pos ho.b2 (ho.h1 _ hs.1).1).1; omega
      · have := isSt_high ho hL hs; omega
theorem Stp.stOk {S : List (Int × Nat)} (h : Stp r L S) (hs : s ∈ S) : StOk r.b s := by
  have q := (h.mem s).mp hs
  have := isSt_high h.ok h.lo q
  have b10 := h.ok.b10
  have hi := h.hi
  have lo := h.lo
  have : r.b * L ≤ 10 * L := Int.mul_le_mul_of_nonneg_right b10 (by omega)
  exact ⟨(h.ok.h1 _ q.1).1, (h.ok.h1 _ q.1).2.1, by omega⟩
/-- the first power that may fit -/
theorem first_ex (ho : r.Ok) (hL : 512 ≤ L) (hH : L < 2 ^ 180) {h : Int} (hh : h ∈ r.hs) : ∃ p : Nat, 1 ≤ p ∧ StOk r.b (h, p) ∧ mayB r L (sz r.b (h, p)) = true ∧ ∀ q < p, mayB r L (sz r.b (h, q)) = false := by
  obtain ⟨h1, h25, _⟩ := ho.h1 h hh
  obtain ⟨p, hp, hp2⟩ := sure_ex ho hL hh
  have b10 := ho.b10
  have hq : r.b * L ≤ 10 * L := Int.mul_le_mul_of_nonneg_right b10 (by omega)
  have hm : ∃ p : Nat, mayB r L (sz r.b (h, p)) = true ∧ sz r.b (h, p) ≤ r.b * L := ⟨p, sure_may ho (by have := (sz_pos (s := (h, p)) ho.b2 h1).1; omega) hp, hp2⟩
  have ⟨p, hp, hp2, hmin⟩ : ∃ p : Nat, mayB r L (sz r.b (h, p)) = true ∧ sz r.b (h, p) ≤ r.b * L ∧ ∀ q < p, mayB r L (sz r.b (h, q)) = false := by
    obtain ⟨p, hp, hp2⟩ := hm
    induction p using Nat.strongRecOn with
    | ind p ih =>
      by_cases c : ∃ q < p, mayB r L (sz r.b (h, q)) = true
      · obtain ⟨q, hq, hq2⟩ := c
        exact ih q hq hq2 (by have := sz_mono ho.b2 h1 (Nat.le_of_lt hq); omega)
      · exact ⟨p, hp, hp2, fun q hq => Bool.not_eq_true _ ▸ fun z => c ⟨q, hq, z⟩⟩
  refine ⟨p, ?_, ⟨h1, h25, by omega⟩, hp, hmin⟩
  cases p with
  | zero =>
    have := may_low ho (by have := (sz_pos (s := (h, 0)) ho.b2 h1).1; omega) hp
    unfold sz at this
    rw [Int.pow_zero] at this
    omega
  | succ p => omega
end
end Ax
namespace Ax
open PySem PySem.Spec L2
def rSteps : List D → D → Prop := fun ds d => ∃ (r : Ru) (L : Int) (S : List (Int × Nat)), ds = [r.dt, .int L] ∧ Stp r L S ∧ d = .lst (S.map stD)
section
variable {P : Program} {w : World} {K : PySem.W.Frag} {mg : Str → Option Value} {base : Heap}
theorem sc_first_step : FnScope ["rule", "mantissa", "length", "power"] ["rule", "mantissa", "length"] (defScope s_first_step) := ⟨rfl, rfl, rfl, by decide +kernel, rfl, by decide +kernel, by decide +kernel⟩
theorem ok_first_step (T : Tp K mg) : FnD P w K mg base 4 "first_step" 3 rFirst := by
  obtain ⟨fd, F⟩ := T.d_first_step
  refine fnD_mk T.g_first_step F sc_first_step rfl (F.bindsN fun _ _ _ _ _ _ us hl => match us, hl with | [_, _, _], _ => rfl) fun cdv A outer s H E hr ds d h hl => ?_
  obtain ⟨r, m, L, p, rfl, ho, hst, hp, hm, hmin, rfl⟩ := h
  have h1 := hst.1
  have stq : ∀ q ≤ p, StOk r.b (m, q) := fun q hq => ⟨h1, hst.2.1, Int.lt_of_le_of_lt (sz_mono ho.b2 h1 hq) hst.2.2⟩
  refine dss_cons (ds_set 3 de_int ?_ sc_first_step.nd)
  refine dss_cons (ds_while (fun n G => ∃ q : Nat, q ≤ p ∧ G = [.d r.dt, .d (.int m), .d (.int L), .d (.int q)] ∧ n = p - q) ⟨_, 0, Nat.zero_le _, rfl, rfl⟩ (fun n G' hG => ?_))
  obtain ⟨q, hq, rfl, rfl⟩ := hG
  refine ⟨_, _, (dt_not (dt_val (de_call (ok_may_fit T) (hr.mono (by decide)) (da_cons (de_var 0) (da_cons (de_tup (da_cons (de_var 1) (da_cons (de_var 3) da_nil))) (da_cons (de_var 2) da_nil))) ⟨r, (m, q), L, rfl, ho, stq q hq, rfl⟩))), fun hb => ?_, fun hb => ?_⟩
  · have hne : q ≠ p := fun e => by rw [e, hm] at hb; cases hb
    exact dss_one (ds_aug 3 ip_add rfl de_int ⟨p - (q + 1), by omega, q + 1, by omega, rfl, rfl⟩ sc_first_step.nd)
  · have hqp : q = p := by
      refine Classical.byContradiction fun c => ?_
      rw [hmin q (by omega)] at hb
      cases hb
    subst hqp
    obtain ⟨o, rfl⟩ : ∃ o, q = o + 1 := ⟨q - 1, by omega⟩
    refine dss_cons (ds_while (fun n G => G = [.d r.dt, .d (.int m), .d (.int L), .d (.int ((o + 1 : Nat) : Int))]) ⟨0, rfl⟩ (fun n G' hG => ?_))
    subst hG
    refine ⟨_, _, (dt_val (de_call (ok_may_fit T) (hr.mono (by decide)) (da_cons (de_var 0) (da_cons (de_tup (da_cons (de_var 1) (da_cons (de_op o_sub (de_var 3) de_int) da_nil))) (da_cons (de_var 2) da_nil))) ⟨r, (m, o), L, by
      show _ = [r.dt, D.tup [.int m, .int (o : Int)], D.int L]
      rw [show (((o + 1 : Nat) : Int) - 1) = (o : Int) by omega], ho, stq o (by omega), rfl⟩)), fun hb => ?_, fun hb => ?_⟩
    · rw [hmin o (by omega)] at hb
      cases hb
    · exact dss_one (ds_ret (de_tup (da_cons (de_var 1) (da_cons (de_var 3) da_nil))) rfl)

theorem atI_map {α β : Type} {f : α → β} {l : List α} {i : Int} {j : Nat} {x : α} (h : l[j]? = some x) (e : i = (j : Int)) : atI (l.map f) i = some (f x) := by
  subst e
  exact atI_nat (by rw [List.getElem?_map, h]; rfl)
theorem sc_least_of : FnScope ["steps", "base", "best", "at"] ["steps", "base"] (defScope s_least_of) := ⟨rfl, rfl, rfl, by decide +kernel, rfl, by decide +kernel, by decide +kernel⟩
theorem ok_least_of (T : Tp K mg) : FnD P w K mg base 4 "least_of" 2 rLeast := by
  obtain ⟨fd, F⟩ := T.d_least_of
  refine fnD_mk T.g_least_of F sc_least_of rfl (F.bindsN fun _ _ _ _ _ _ us hl => match us, hl with | [_, _], _ => rfl) fun cdv A outer s H E hr ds d h hl => ?_
  obtain ⟨l, b, k, rfl, hb2, hb10, hlen, hst, ⟨x, hx, hmin⟩, rfl⟩ := h
  have hlp : 0 < l.length := by
    have := (List.getElem?_eq_some_iff.mp hx).1
    omega
  refine dss_cons (ds_set 2 de_int ?_ sc_least_of.nd)
  refine dss_cons (ds_for (di_range2 (da_cons de_int (da_cons (de_callB c_len T.b_len bt_len (da_cons (de_var 0) da_nil)) da_nil)) T.b_range ⟨by decide, by decide, by omega, by rw [List.length_map]; omega⟩) (fun i G => ∃ (j : Nat) (y : Int × Nat) (u : Sl), G = [.d (.lst (l.map stD)), .d (.int b), .d (.int j), u] ∧ l[j]? = some y ∧ j ≤ i ∧ ∀ (n : Nat) t, n ≤ i → l[n]? = some t → sz b y ≤ sz b t ∧ (n < j → sz b y < sz b t)) ?_ (fun i x G' hx hG => ?_) (fun G' hG => ?_) rfl)
  · refine ⟨0, l[0], .un, rfl, List.getElem?_eq_getElem hlp, Nat.le_refl _, fun n t hn ht => ?_⟩
    obtain rfl : n = 0 := by omega
    rw [List.getElem?_eq_getElem hlp] at ht
    cases ht
    exact ⟨Int.le_refl _, fun z => absurd z (by omega)⟩
  · obtain ⟨j, y, u, rfl, hy, hj, hm⟩ := hG
    obtain ⟨hi, rfl⟩ := rngD_get hx
    rw [List.length_map] at hi
    have hi1 : i + 1 < l.length := by omega
    have hz := List.getElem?_eq_getElem hi1
    refine ⟨_, _, dg_name 3 sc_least_of.nd, ?_⟩
    refine dss_one (ds_if (dt_val (de_call (ok_is_less T) (hr.mono (by decide)) (da_cons (de_ixL (de_var 0) (de_var 3) (atI_map hz (by omega))) (da_cons (de_ixL (de_var 0) (de_var 2) (atI_map hy rfl)) (da_cons (de_var 1) da_nil))) ⟨l[i + 1], y, b, rfl, hb2, hb10, hst _ (List.mem_of_getElem? hz), hst _ (List.mem_of_getElem? hy), rfl⟩)) (fun hb => ?_) (fun hb => ?_))
    · have hb := of_decide_eq_true hb
      refine dss_one (ds_set 2 (de_var 3) ⟨i + 1, l[i + 1], .d (.int (1 + (i : Int) * 1)), ?_, hz, Nat.le_refl _, fun n t hn ht => ?_⟩ sc_least_of.nd)
      · show [Sl.d _, _, Sl.d (.int (1 + (i : Int) * 1)), _] = _
        rw [show (1 + (i : Int) * 1) = ((i + 1 : Nat) : Int) by omega]
      · by_cases hn1 : n = i + 1
        · subst hn1
          rw [hz] at ht
          cases ht
          exact ⟨Int.le_refl _, fun z => absurd z (by omega)⟩
        · have := (hm n t (by omega) ht).1
          exact ⟨by omega, fun _ => by omega⟩
    · have hb := of_decide_eq_false hb
      refine dss_nil ⟨j, y, .d (.int (1 + (i : Int) * 1)), rfl, hy, by omega, fun n t hn ht => ?_⟩
      by_cases hn1 : n = i + 1
      · subst hn1
        rw [hz] at ht
        cases ht
        exact ⟨by omega, fun z => absurd z (by omega)⟩
      · exact hm n t (by omega) ht
  · obtain ⟨j, y, u, rfl, hy, hj, hm⟩ := hG
    rw [rngD_len, List.length_map] at hm hj
    have e : j = k := by
      have jl := (List.getElem?_eq_some_iff.mp hy).1
      have kl := (List.getElem?_eq_some_iff.mp hx).1
      have q1 := hm k x (by omega) hx
      have q2 := hmin j y hy
      rcases Nat.lt_trichotomy j k with h | h | h
      · have := q2.2 h; omega
      · exact h
      · have := q1.2 h; omega
    subst e
    exact dss_one (ds_ret (de_var 2) rfl)

theorem sc_first_fitting : FnScope ["rule", "steps", "low", "high", "step"] ["rule", "steps", "low", "high"] (defScope s_first_fitting) := ⟨rfl, rfl, rfl, by decide +kernel, rfl, by decide +kernel, by decide +kernel⟩
theorem ok_first_fitting (T : Tp K mg) : FnD P w K mg base 5 "first_fitting" 4 rFirstFit := by
  obtain ⟨fd, F⟩ := T.d_first_fitting
  refine fnD_mk T.g_first_fitting F sc_first_fitting rfl (F.bindsN fun _ _ _ _ _ _ us hl => match us, hl with | [_, _, _, _], _ => rfl) fun cdv A outer s H E hr ds d h hl => ?_
  obtain ⟨r, l, lo, hi, k, x, rfl, ho, hst, hx, hfit, hno, rfl⟩ := h
  refine dss_cons (ds_for (di_list (de_var 1)) (fun i G => i ≤ k ∧ ∃ u, G = [.d r.dt, .d (.lst (l.map stD)), .d (.int lo), .d (.int hi), u]) ⟨Nat.zero_le _, .un, rfl⟩ (fun i x' G' hx' hG => ?_) (fun G' hG => ?_) rfl)
  · obtain ⟨hik, u, rfl⟩ := hG
    rw [List.getElem?_map] at hx'
    cases hy : l[i]? with
    | none => rw [hy] at hx'; cases hx'
    | some y =>
      rw [hy] at hx'
      cases hx'
      refine ⟨_, _, dg_name 4 sc_first_fitting.nd, ?_⟩
      refine dss_one (ds_if (dt_val (de_call (ok_is_fitting T) (hr.mono (by decide)) (da_cons (de_var 0) (da_cons (de_var 4) (da_cons (de_var 2) (da_cons (de_var 3) da_nil)))) ⟨r, y, lo, hi, rfl, ho, hst _ (List.mem_of_getElem? hy), rfl⟩)) (fun hb => ?_) (fun hb => ?_))
      · have e : i = k := by
          refine Classical.byContradiction fun c => ?_
          rw [hno i y (by omega) hy] at hb
          cases hb
        subst e
        rw [hx] at hy
        cases hy
        exact dss_one (ds_ret (de_var 4) rfl)
      · have ne : i ≠ k := fun e => by
          subst e
          rw [hx] at hy
          cases hy
          rw [hfit] at hb
          cases hb
        exact dss_nil ⟨by omega, _, rfl⟩
  · have := (List.getElem?_eq_some_iff.mp hx).1
    rw [List.length_map] at hG
    omega
end
end Ax
namespace Ax
open PySem PySem.Spec L2
section
variable {r : Ru} {L : Int} {S A : List (Int × Nat)} {i k : Nat} {s t : Int × Nat}
structure AInv (r : Ru) (L : Int) (S : List (Int × Nat)) (i : Nat) (A : List (Int × Nat)) : Prop where
  fst : A.map Prod.fst = r.hs
  may : ∀ s ∈ A, mayB r L (sz r.b s) = true
  out : ∀ s ∈ A, s ∉ S.take i
  low : ∀ s ∈ A, ∀ p < s.2, mayB r L (sz r.b (s.1, p)) = true → (s.1, p) ∈ S.take i
theorem Stp.getlt {i j : Nat} (h : Stp r L S) (hi : S[i]? = some s) (hj : S[j]? = some t) (hij : i < j) : sz r.b s < sz r.b t := by
  have q := List.pairwise_iff_getElem.mp h.asc
  obtain ⟨l1, e1⟩ := List.getElem?_eq_some_iff.mp hi
  obtain ⟨l2, e2⟩ := List.getElem?_eq_some_iff.mp hj
  have := q i j l1 l2 hij
  rw [e1, e2] at this
  exact this
theorem AInv.head (a : AInv r L S i A) (hs : s ∈ A) : s.1 ∈ r.hs := by rw [← a.fst]; exact List.mem_map_of_mem hs
theorem AInv.stOk (h : Stp r L S) (a : AInv r L S i A) (hs : s ∈ A) : StOk r.b s := by
  have ho := h.ok
  have lo := h.lo
  have hi := h.hi
  obtain ⟨h1, h25, _⟩ := ho.h1 _ (a.head hs)
  have b2 := ho.b2
  have b10 := ho.b10
  refine ⟨h1, h25, ?_⟩
  obtain ⟨m, q⟩ := s
  cases q with
  | zero =>
    unfold sz
    rw [Int.pow_zero]
    have : m ≤ 25 := h25
    omega
  | succ q =>
    rw [sz_succ]
    have q0 : 0 ≤ sz r.b (m, q) := by have := (sz_pos (s := (m, q)) b2 h1).1; omega
    have q1 : sz r.b (m, q) ≤ 10 * L := by
      cases hm : mayB r L (sz r.b (m, q)) with
      | true =>
        have := a.low _ hs q (by show q < q + 1; omega) hm
        have : sz r.b (m, q) ≤ r.b * L := isSt_high ho lo ((h.mem _).mp (List.mem_of_mem_take this))
        have : r.b * L ≤ 10 * L := Int.mul_le_mul_of_nonneg_right b10 (by omega)
        omega
      | false =>
        have := notmay_high ho q0 hm
        omega
    have : sz r.b (m, q) * r.b ≤ 10 * L * 10 := Int.mul_le_mul q1 b10 (by omega) (by omega)
    omega
theorem st_turn (h : Stp r L S) (a : AInv r L S i A) (hi : i ≤ S.length) (hc : ∀ j t, i = j + 1 → S[j]? = some t → sureB r L (sz r.b t) = false) (hk : A[k]? = some s) (hmin : ∀ (j : Nat) t, A[j]? = some t → sz r.b s ≤ sz r.b t) :
    S[i]? = some s ∧ AInv r L S (i + 1) (A.set k (s.1, s.2 + 1)) := by
  have ho := h.ok
  have lo := h.lo
  have hsA := List.mem_of_getElem? hk
  have taken : ∀ t, t ∈ S.take i → sureB r L (sz r.b t) = false := by
    intro t ht
    obtain ⟨j, hj⟩ := List.getElem?_of_mem ht
    have hji : j < i := by
      have := (List.getElem?_eq_some_iff.mp hj).1
      rw [List.length_take] at this
      omega
    rw [List.getElem?_take_of_lt hji] at hj
    obtain ⟨i', rfl⟩ : ∃ i', i = i' + 1 := ⟨i - 1, by omega⟩
    have hl := List.getElem?_eq_getElem (l := S) (i := i') (by omega)
    have q := hc i' _ rfl hl
    refine Bool.not_eq_true _ ▸ fun z => ?_
    by_cases e : j = i'
    · subst e
      rw [hl] at hj
      cases hj
      rw [q] at z; cases z
    · have := sure_mono ho (Int.le_of_lt (h.getlt hj hl (by omega))) z
      rw [q] at this; cases this
  have sS : s ∈ S := by
    refine (h.mem s).mpr ⟨a.head hsA, a.may s hsA, fun t ht hlt => Bool.not_eq_true _ ▸ fun z => ?_⟩
    obtain ⟨u, hu, hu1⟩ : ∃ u ∈ A, u.1 = t.1 := by
      rw [← a.fst] at ht
      obtain ⟨u, q1, q2⟩ := List.mem_map.mp ht
      exact ⟨u, q1, q2⟩
    obtain ⟨j, hj⟩ := List.getElem?_of_mem hu
    have q1 := hmin j u hj
    have t1 := ho.h1 _ ht
    have q2 : t.2 < u.2 := by
      refine Classical.byContradiction fun c => ?_
      have := sz_mono ho.b2 t1.1 (Nat.le_of_not_lt c)
      have e1 : sz r.b (t.1, u.2) = sz r.b u := by rw [← hu1]
      have e2 : sz r.b (t.1, t.2) = sz r.b t := rfl
      omega
    have q3 := a.low u hu t.2 q2 (by rw [hu1]; exact sure_may ho (by have := (sz_pos (s := t) ho.b2 t1.1).1; show 0 ≤ sz r.b t; omega) z)
    rw [hu1] at q3
    rw [taken _ q3] at z
    cases z
  have si : S[i]? = some s := by
    obtain ⟨j, hj⟩ := List.getElem?_of_mem sS
    have hji : ¬ j < i := fun c => a.out s hsA (List.mem_of_getElem? (i := j) (by rw [List.getElem?_take_of_lt c]; exact hj))
    by_cases e : j = i
    · subst e; exact hj
    · have jl := (List.getElem?_eq_some_iff.mp hj).1
      have hx := List.getElem?_eq_getElem (l := S) (i := i) (by omega)
      have q := h.getlt hx hj (by omega)
      have xS := List.mem_of_getElem? hx
      have xs := (h.mem _).mp xS
      obtain ⟨u, hu, hu1⟩ : ∃ u ∈ A, u.1 = S[i].1 := by
        have := xs.1
        rw [← a.fst] at this
        obtain ⟨u, q1, q2⟩ := List.mem_map.mp this
        exact ⟨u, q1, q2⟩
      obtain ⟨n, hn⟩ := List.getElem?_of_mem hu
      have q1 := hmin n u hn
      have q2 : ¬ u.2 ≤ S[i].2 := fun c => by
        have := sz_mono ho.b2 (ho.h1 _ xs.1).1 c
        have e1 : sz r.b (S[i].1, u.2) = sz r.b u := by rw [← hu1]
        have e2 : sz r.b (S[i].1, S[i].2) = sz r.b S[i] := rfl
        omega
      have q3 := a.low u hu S[i].2 (by omega) (by rw [hu1]; exact xs.2.1)
      rw [hu1] at q3
      obtain ⟨n2, hn2⟩ := List.getElem?_of_mem q3
      have n2i : n2 < i := by
        have := (List.getElem?_eq_some_iff.mp hn2).1
        rw [List.length_take] at this
        omega
      rw [List.getElem?_take_of_lt n2i] at hn2
      have := h.getlt hn2 hx n2i
      have e2 : sz r.b (S[i].1, S[i].2) = sz r.b S[i] := rfl
      omega
  refine ⟨si, ?_⟩
  have tk : S.take (i + 1) = S.take i ++ [s] := by rw [List.take_succ, si]; rfl
  have s1 := ho.h1 _ (a.head hsA)
  have ss : sz r.b s < sz r.b (s.1, s.2 + 1) := sz_lt (h := s.1) (p := s.2) ho.b2 s1.1 (by omega)
  have big : ∀ t ∈ S.take (i + 1), sz r.b t ≤ sz r.b s := fun t ht => by
    obtain ⟨n, hn⟩ := List.getElem?_of_mem ht
    have ni : n < i + 1 := by
      have := (List.getElem?_eq_some_iff.mp hn).1
      rw [List.length_take] at this
      omega
    rw [List.getElem?_take_of_lt ni] at hn
    by_cases e : n = i
    · subst e; rw [si] at hn; cases hn; omega
    · have := h.getlt hn si (by omega); omega
  -- the heads are all different
  have hd : r.hs.Pairwise (· ≠ ·) := ho.asc.imp fun h => by omega
  have one : ∀ (j : Nat) t, A[j]? = some t → t.1 = s.1 → j = k := by
    intro j t hj e
    have p1 : r.hs[j]? = some s.1 := by rw [← a.fst, List.getElem?_map, hj]; show some t.1 = _; rw [e]
    have p2 : r.hs[k]? = some s.1 := by rw [← a.fst, List.getElem?_map, hk]; rfl
    obtain ⟨l1, e1⟩ := List.getElem?_eq_some_iff.mp p1
    obtain ⟨l2, e2⟩ := List.getElem?_eq_some_iff.mp p2
    have q := List.pairwise_iff_getElem.mp hd
    rcases Nat.lt_trichotomy j k with c | c | c
    · exact absurd (e1.trans e2.symm) (q j k l1 l2 c)
    · exact c
    · exact absurd (e2.trans e1.symm) (q k j l2 l1 c)
  have mem : ∀ t, t ∈ A.set k (s.1, s.2 + 1) → t = (s.1, s.2 + 1) ∨ (t ∈ A ∧ t.1 ≠ s.1) := by
    intro t ht
    obtain ⟨j, hj⟩ := List.getElem?_of_mem ht
    rcases get_set hj with ⟨_, e, _⟩ | ⟨ne, e⟩
    · exact .inl e
    · exact .inr ⟨List.mem_of_getElem? e, fun z => ne (one j t e z)⟩
  refine ⟨?_, fun t ht => ?_, fun t ht hin => ?_, fun t ht p hp hm => ?_⟩
  · rw [List.map_set]
    have : (A.map Prod.fst)[k]? = some s.1 := by rw [List.getElem?_map, hk]; rfl
    rw [← a.fst]
    refine List.ext_getElem? fun n => ?_
    by_cases e : n = k
    · subst e
      rw [List.getElem?_set_self (List.getElem?_eq_some_iff.mp this).1, this]
    · rw [List.getElem?_set_ne (fun z => e z.symm)]
  · rcases mem t ht with rfl | ⟨q, _⟩
    · exact may_mono ho (Int.le_of_lt ss) (a.may s hsA)
    · exact a.may t q
  · rcases mem t ht with rfl | ⟨q, q2⟩
    · have := big _ hin; omega
    · rw [tk] at hin
      rcases List.mem_append.mp hin with z | z
      · exact a.out t q z
      · rw [List.mem_singleton.mp z] at q2
        exact q2 rfl
  · rw [tk]
    rcases mem t ht with rfl | ⟨q, q2⟩
    · show (s.1, p) ∈ _
      have hp : p < s.2 + 1 := hp
      by_cases e : p = s.2
      · subst e; exact List.mem_append_right _ (by simp)
      · exact List.mem_append_left _ (a.low s hsA p (by omega) hm)
    · exact List.mem_append_left _ (a.low t q p hp hm)
theorem st_end (h : Stp r L S) (hi : S[i]? = some s) (hs : sureB r L (sz r.b s) = true) : S.length = i + 1 := by
  have il := (List.getElem?_eq_some_iff.mp hi).1
  refine Classical.byContradiction fun c => ?_
  have hx := List.getElem?_eq_getElem (l := S) (i := i + 1) (by omega)
  have q := h.getlt hi hx (by omega)
  have := ((h.mem _).mp (List.mem_of_getElem? hx)).2.2 s ((h.mem _).mp (List.mem_of_getElem? hi)).1 q
  rw [this] at hs
  cases hs
theorem nodup_len {α : Type} : ∀ (l m : List α), l.Nodup → (∀ x ∈ l, x ∈ m) → l.length ≤ m.length
  | [], m, _, _ => Nat.zero_le _
  | x :: l, m, h, hs => by
    rw [List.nodup_cons] at h
    obtain ⟨m1, m2, rfl⟩ := List.append_of_mem (hs x (by simp))
    have := nodup_len l (m1 ++ m2) h.2 fun y hy => by
      have := hs y (List.mem_cons_of_mem _ hy)
      rcases List.mem_append.mp this with q | q
      · exact List.mem_append_left _ q
      · rcases List.mem_cons.mp q with rfl | q
        · exact absurd hy h.1
        · exact List.mem_append_right _ q
    simp at this ⊢
    omega
theorem pow_cmp {b : Int} (hb : 2 ≤ b) {p q : Nat} {c : Int} (h : b ^ q ≤ c * b ^ p) (hc : c < 2 ^ 7) : q < p + 7 := by
  refine Classical.byContradiction fun z => ?_
  have h1 := pow_mono hb (p := p + 7) (q := q) (by omega)
  rw [Int.pow_add] at h1
  have h2 := pow_two_le hb 7
  have hp := pow_pos' hb p
  have h3 : c * b ^ p < b ^ p * b ^ 7 := by
    rw [Int.mul_comm (b ^ p)]
    exact Int.mul_lt_mul_of_pos_right (by omega) (by omega)
  omega
/-- few steps, within a few powers -/
theorem Stp.few (h : Stp r L S) : S.length ≤ 28 := by
  have ho := h.ok
  have hb := ho.b2
  have lo := h.lo
  have b10 := ho.b10
  have hbL : r.b * L ≤ 10 * L := Int.mul_le_mul_of_nonneg_right b10 (by omega)
  classical
  -- the least power of each head
  have base : ∀ x : Int, ∃ p0 : Nat, ∀ p : Nat, (x, p) ∈ S → p0 ≤ p ∧ p < p0 + 7 := fun x => by
    by_cases c : ∃ p, (x, p) ∈ S
    · obtain ⟨p, hp⟩ := c
      have ⟨p0, h0, hm⟩ : ∃ p0, (x, p0) ∈ S ∧ ∀ q < p0, (x, q) ∉ S := by
        induction p using Nat.strongRecOn with
        | ind p ih =>
          by_cases c : ∃ q < p, (x, q) ∈ S
          · obtain ⟨q, hq, hq2⟩ := c; exact ih q hq hq2
          · exact ⟨p, hp, fun q hq z => c ⟨q, hq, z⟩⟩
      refine ⟨p0, fun p hp => ⟨Nat.le_of_not_lt fun z => hm p z hp, ?_⟩⟩
      have q0 := (h.mem _).mp h0
      have q1 := (h.mem _).mp hp
      have x1 : 1 ≤ x := (ho.h1 _ q0.1).1
      have l0 := isSt_low ho q0
      have l1 := isSt_high ho lo q1
      refine pow_cmp hb (c := 70) ?_ (by decide)
      unfold sz at l0 l1
      have l0 : L ≤ 7 * (x * r.b ^ p0) := l0
      have l1 : x * r.b ^ p ≤ r.b * L := l1
      have e : x * r.b ^ p ≤ x * (70 * r.b ^ p0) := by
        rw [Int.mul_left_comm]
        omega
      exact Int.le_of_mul_le_mul_left e (by omega)
    · exact ⟨0, fun p hp => absurd ⟨p, hp⟩ c⟩
  let f : Int → Nat := fun x => Classical.choose (base x)
  have hf : ∀ x p, (x, p) ∈ S → f x ≤ p ∧ p < f x + 7 := fun x => Classical.choose_spec (base x)
  have nd : S.Nodup := h.asc.imp fun {a b} hab e => by rw [e] at hab; omega
  have := nodup_len S (r.hs.flatMap fun x => (List.range 7).map fun i => (x, f x + i)) nd fun s hs => by
    obtain ⟨x, p⟩ := s
    have q := (h.mem _).mp hs
    obtain ⟨q1, q2⟩ := hf x p hs
    rw [List.mem_flatMap]
    exact ⟨x, q.1, List.mem_map.mpr ⟨p - f x, List.mem_range.mpr (by omega), by congr 1; omega⟩⟩
  have e : (r.hs.flatMap fun x => (List.range 7).map fun i => (x, f x + i)).length = r.hs.length * 7 := by
    generalize r.hs = l
    induction l with
    | nil => rfl
    | cons x l ih => rw [List.flatMap_cons, List.length_append, ih]; simp; omega
  have := ho.len
  omega
theorem Stp.short (h : Stp r L S) : S.length < 1000000 := by have := h.few; omega
theorem least_ex {b : Int} : ∀ (A : List (Int × Nat)), A ≠ [] → ∃ k s, A[k]? = some s ∧ ∀ (j : Nat) t, A[j]? = some t → sz b s ≤ sz b t ∧ (j < k → sz b s < sz b t) := by
  refine snocInd (fun h => absurd rfl h) fun l x ih _ => ?_
  by_cases hl : l = []
  · subst hl
    refine ⟨0, x, rfl, fun j t hj => ?_⟩
    cases j with
    | zero => cases hj; exact ⟨Int.le_refl _, fun z => absurd z (by omega)⟩
    | succ j => cases hj
  · obtain ⟨k, s, hk, hm⟩ := ih hl
    have kl := (List.getElem?_eq_some_iff.mp hk).1
    by_cases c : sz b x < sz b s
    · refine ⟨l.length, x, by simp, fun j t hj => ?_⟩
      by_cases e : j < l.length
      · rw [List.getElem?_append_left e] at hj
        have := (hm j t hj).1
        exact ⟨by omega, fun _ => by omega⟩
      · rw [List.getElem?_append_right (by omega)] at hj
        have e0 : j - l.length = 0 := by
          have := (List.getElem?_eq_some_iff.mp hj).1
          simp at this; omega
        rw [e0] at hj
        cases hj
        exact ⟨Int.le_refl _, fun z => absurd z (by omega)⟩
    · refine ⟨k, s, by rw [List.getElem?_append_left kl]; exact hk, fun j t hj => ?_⟩
      by_cases e : j < l.length
      · rw [List.getElem?_append_left e] at hj
        exact hm j t hj
      · rw [List.getElem?_append_right (by omega)] at hj
        have e0 : j - l.length = 0 := by
          have := (List.getElem?_eq_some_iff.mp hj).1
          simp at this; omega
        rw [e0] at hj
        cases hj
        exact ⟨by omega, fun z => absurd z (by omega)⟩
end
end Ax
namespace Ax
open PySem PySem.Spec L2
section
variable {P : Program} {w : World} {K : PySem.W.Frag} {mg : Str → Option Value} {base : Heap}
theorem AInv.start {r : Ru} {L : Int} {S : List (Int × Nat)} {p : Int → Nat} (hp : ∀ h ∈ r.hs, mayB r L (sz r.b (h, p h)) = true ∧ ∀ q < p h, mayB r L (sz r.b (h, q)) = false) : AInv r L S 0 (r.hs.map fun h => (h, p h)) := by
  refine ⟨by rw [List.map_map]; exact List.map_id' _, fun s hs => ?_, fun s _ => by rw [List.take_zero]; exact List.not_mem_nil, fun s hs q hq hm => ?_⟩
  · obtain ⟨h, hh, rfl⟩ := List.mem_map.mp hs
    exact (hp h hh).1
  · obtain ⟨h, hh, rfl⟩ := List.mem_map.mp hs
    rw [(hp h hh).2 q hq] at hm
    cases hm
def fstI : D → Int
  | .int i => i
  | _ => 0
theorem filter_true {α : Type} (l : List α) : l.filter (fun _ => true) = l := List.filter_eq_self.mpr fun _ _ => rfl
theorem sc_steps_at : FnScope ["rule", "length", "ahead", "found", "at", "mantissa"] ["rule", "length"] (defScope s_steps_at) := ⟨rfl, rfl, rfl, by decide +kernel, rfl, by decide +kernel, by decide +kernel⟩
theorem ok_steps_at (T : Tp K mg) : FnD P w K mg base 5 "steps_at" 2 rSteps := by
  obtain ⟨fd, F⟩ := T.d_steps_at
  refine fnD_mk T.g_steps_at F sc_steps_at rfl (F.bindsN fun _ _ _ _ _ _ us hl => match us, hl with | [_, _], _ => rfl) fun cdv Ar outer s H E hr ds d h hl => ?_
  obtain ⟨r, L, S, rfl, hS, rfl⟩ := h
  have ho := hS.ok
  classical
  let p : Int → Nat := fun h => if c : h ∈ r.hs then Classical.choose (first_ex ho hS.lo hS.hi c) else 0
  have hp : ∀ h ∈ r.hs, 1 ≤ p h ∧ StOk r.b (h, p h) ∧ mayB r L (sz r.b (h, p h)) = true ∧ ∀ q < p h, mayB r L (sz r.b (h, q)) = false := fun h c => by
    have e : p h = Classical.choose (first_ex ho hS.lo hS.hi c) := dif_pos c
    rw [e]
    exact Classical.choose_spec (first_ex ho hS.lo hS.hi c)
  generalize p = p at hp
  have hlen := ho.len
  have hSl := hS.short
  refine dss_cons (ds_lcO 2 [("mantissa", 5)] (lck (di_tup (de_fld (de_var 0) T.c_Rule T.n_Rule_heads)) (fun _ => true) (fun x => stD (fstI x, p (fstI x))) (freeC free0) (by rw [List.length_map]; omega) fun x hx => ?_) ?_ (blk_at ["rule", "length", "ahead", "found", "at", "mantissa"] (defScope s_steps_at)) sc_steps_at.nd rfl (sw_true rfl rfl rfl (by decide +kernel)))
  · obtain ⟨h, hh, rfl⟩ := List.mem_map.mp hx
    obtain ⟨q1, q2, q3, q4⟩ := hp h hh
    exact ⟨_, _, bkAll fun _ _ _ _ _ => (dg_name 5 sc_steps_at.nd), by decide, rfl, bkAll fun _ _ _ _ _ => dts_nil, fun _ => bkAll fun _ _ _ _ _ => (de_call (ok_first_step T) (hr.mono (by decide)) (da_cons (de_var 0) (da_cons (de_var 5) (da_cons (de_var 1) da_nil))) ⟨r, h, L, p h, rfl, ho, q2, q1, q3, q4, rfl⟩)⟩
  rw [filter_true, List.map_map]
  refine dss_cons (ds_own 3 da_nil ?_ sc_steps_at.nd)
  refine dss_cons (ds_while (fun m G => ∃ (i : Nat) (A : List (Int × Nat)) (u v : Sl), G = [.d r.dt, .d (.int L), .ol (A.map stD), .ol ((S.take i).map stD), u, v] ∧ i ≤ S.length ∧ m = S.length - i ∧ AInv r L S i A) ⟨_, 0, r.hs.map fun h => (h, p h), .un, .un, ?_, Nat.zero_le _, rfl, AInv.start fun h hh => (hp h hh).2.2⟩ (fun m G' hG => ?_))
  · rw [List.map_map]; rfl
  obtain ⟨i, A, u, v, rfl, hi, rfl, a⟩ := hG
  obtain ⟨k1, k2, hk⟩ : ∃ k1 k2 : Bool, (i = 0 ∧ k1 = true ∧ k2 = true) ∨ ∃ j x, i = j + 1 ∧ S[j]? = some x ∧ k1 = false ∧ k2 = !sureB r L (sz r.b x) := by
    cases i with
    | zero => exact ⟨true, true, .inl ⟨rfl, rfl, rfl⟩⟩
    | succ i => exact ⟨false, _, .inr ⟨i, S[i], rfl, List.getElem?_eq_getElem (by omega), rfl, rfl⟩⟩
  have hstA : ∀ t ∈ A, StOk r.b t := fun t ht => a.stOk hS ht
  refine ⟨k1 || k2, [.d r.dt, .d (.int L), .ol (A.map stD), .ol ((S.take i).map stD), u, v], ?_, fun hb => ?_, fun hb => ?_⟩
  · rcases hk with ⟨rfl, rfl, rfl⟩ | ⟨j, x, rfl, hx, rfl, rfl⟩
    · exact dt_thaw 3 (dt_w (dw_or (k1 := true) (dt_cmp (o_eqN hr.units0) (de_var 3) (de_lst da_nil)) fun z => absurd z (by decide)))
    · have tk : S.take (j + 1) = S.take j ++ [x] := by rw [List.take_succ, hx]; rfl
      have hE : ((S.take (j + 1)).map stD).isEmpty = false := by rw [tk, List.map_append]; simp
      rw [← hE]
      exact dt_thaw 3 (dt_w (dw_or (dt_cmp (o_eqN hr.units0) (de_var 3) (de_lst da_nil)) fun z => dw_or1 (dt_not (dt_val (de_call (ok_surely_fits T) (hr.mono (by decide)) (da_cons (de_var 0) (da_cons (de_ixL (de_var 3) (de_neg de_int) (d := stD x) (by rw [tk, List.map_append]; exact atI_last _ _)) (da_cons (de_var 1) da_nil))) ⟨r, x, L, rfl, ho, hS.stOk (List.mem_of_getElem? hx), rfl⟩)))))
  · have hc : ∀ j t, i = j + 1 → S[j]? = some t → sureB r L (sz r.b t) = false := fun j t e ht => by
      rcases hk with ⟨rfl, rfl, rfl⟩ | ⟨j', x, rfl, hx, rfl, rfl⟩
      · omega
      · obtain rfl : j = j' := by omega
        rw [hx] at ht
        cases ht
        simpa using hb
    have hAne : A ≠ [] := fun z => by
      have := a.fst
      rw [z] at this
      exact ho.ne this.symm
    have hAl : A.length ≤ 4 := by
      have := congrArg List.length a.fst
      rw [List.length_map] at this
      omega
    obtain ⟨k, x, hkx, hmin⟩ := least_ex (b := r.b) A hAne
    have kl := (List.getElem?_eq_some_iff.mp hkx).1
    obtain ⟨si, a'⟩ := st_turn hS a hi hc hkx fun j t hj => (hmin j t hj).1
    have il := (List.getElem?_eq_some_iff.mp si).1
    have tk : S.take (i + 1) = S.take i ++ [x] := by rw [List.take_succ, si]; rfl
    have hat : atI (A.map stD) ((k : Nat) : Int) = some (stD x) := atI_map hkx rfl
    refine dss_cons (ds_set 4 (de_thaw 2 (de_call (ok_least_of T) (hr.mono (by decide)) (da_cons (de_var 2) (da_cons (de_fld (de_var 0) T.c_Rule T.n_Rule_ground) da_nil)) ⟨A, r.b, k, rfl, ho.b2, ho.b10, by omega, hstA, ⟨x, hkx, hmin⟩, rfl⟩)) ?_ sc_steps_at.nd)
    refine dss_cons (ds_app 3 (de_ixO 2 (de_var 4) rfl hat) rfl rfl (by rw [List.length_map, List.length_take]; exact Nat.lt_of_le_of_lt (Nat.min_le_right _ _) hSl) ?_)
    refine dss_one (ds_setix 2 (de_tup (da_cons (de_ixT (de_ixO 2 (de_var 4) rfl hat) de_int) (da_cons (de_op o_add (de_ixT (de_ixO 2 (de_var 4) rfl hat) de_int) de_int) da_nil))) (de_var 4) ⟨S.length - (i + 1), by omega, i + 1, A.set k (x.1, x.2 + 1), .d (.int ((k : Nat) : Int)), v, ?_, by omega, rfl, a'⟩ (j := k) ?_)
    · rw [List.map_set, tk, List.map_append]
      rfl
    · unfold ixN
      rw [if_pos (by omega), List.length_map, if_pos (by omega)]
      rfl
  · rcases hk with ⟨rfl, rfl, rfl⟩ | ⟨j, x, rfl, hx, rfl, rfl⟩
    · cases hb
    · have := st_end hS hx (by simpa using hb)
      rw [← this, List.take_length]
      exact dss_frz 3 rfl (dss_one (ds_ret (de_var 3) rfl))
end
end Ax
namespace Ax
open PySem PySem.Spec L2
section
variable {X : Cx} {G G0 G1 G2 G' : List Sl} {e it tg elt a b c : Expr} {es ts ifs : List Expr} {x d : D} {xs ds res : List D} {is js vs : List Nat} {pos pos' p : Pos} {E : DEnds} {body : List Stmt} {scope : Scope}
theorem DT.to {b b' : Bool} (h : DT X G e b G') (he : b = b') : DT X G e b' G' := he ▸ h
theorem filter_no {α : Type} (l : List α) : l.filter (fun _ => false) = [] := List.filter_eq_nil_iff.mpr fun _ _ h => nomatch h
/-- a comprehension that takes nothing -/
theorem lckN (hi : DI X G tg it ds G) (free : Free G vs) (hl : ds.length ≤ 1000000)
    (turn : ∀ x ∈ ds, ∃ G1 is, (∀ X', Bk X scope X' → DG X' G tg x G1 is) ∧ (∀ i ∈ is, i ∈ vs) ∧ unG vs G1 = G ∧ (∀ X', Bk X scope X' → DTs X' G1 ifs false G1)) : LCk X G tg it ifs elt scope vs [] G := by
  have := lck (elt := elt) hi (fun _ => false) id free hl fun x hx => by
    obtain ⟨G1, is, h1, h2, h3, h4⟩ := turn x hx
    exact ⟨G1, is, h1, h2, h3, h4, fun z => nomatch z⟩
  rw [filter_no] at this
  exact this
theorem AtL.strs {K : PySem.W.Frag} {B : Hp} : ∀ {vs : List V} {ns : List Str}, AtL K B vs (ns.map D.str) → vs = ns.map V.str
  | [], [], _ => rfl
  | _ :: _, [], h => by cases h
  | [], _ :: _, h => by cases h
  | v :: vs, n :: ns, .cons h l => by cases h; rw [AtL.strs l]; rfl
theorem inV_str {k : Str} {ks : List Str} : inV (.str k) (ks.map V.str) = decide (k ∈ ks) := by
  unfold inV
  rw [List.any_map]
  induction ks with
  | nil => rfl
  | cons y ys ih =>
    rw [List.any_cons, ih]
    by_cases h : k = y
    · subst h; simp [eqV]
    · have : (y == k) = false := by simp; exact fun z => h z.symm
      simp [eqV, h, this]
theorem inV_int {k : Int} {ks : List Int} : inV (.int k) (ks.map V.int) = decide (k ∈ ks) := by
  unfold inV
  rw [List.any_map]
  induction ks with
  | nil => rfl
  | cons y ys ih =>
    rw [List.any_cons, ih]
    by_cases h : k = y
    · subst h; simp [eqV]
    · have : (y == k) = false := by simp; exact fun z => h z.symm
      simp [eqV, h, this]
theorem o_notInSL {k : Str} {ks : List Str} : OpD X (compareOp .NotIn) (.str k) (.lst (ks.map D.str)) (.bl (!decide (k ∈ ks))) :=
  ⟨_, op_notIn_seq, fun G σ H R B v u Q hh a b q => by
    cases a
    cases b with
    | lst h l =>
      rw [l.strs] at h
      refine ⟨_, _, rfl, .inl (.inl (.of (hh.exB _ _ h))), rfl, by rw [List.all_map]; exact List.all_eq_true.mpr fun _ _ => rfl, ?_⟩
      rw [inV_str, if_pos rfl]
      exact q _ _ B hh (ext_refl B) (.bl _)⟩
theorem o_notInST {k : Str} {ks : List Str} : OpD X (compareOp .NotIn) (.str k) (.tup (ks.map D.str)) (.bl (!decide (k ∈ ks))) :=
  ⟨_, op_notIn_seq, fun G σ H R B v u Q hh a b q => by
    cases a
    cases b with
    | tup h l =>
      rw [l.strs] at h
      refine ⟨_, _, rfl, .inr (.inl (.of (hh.exB _ _ h))), rfl, by rw [List.all_map]; exact List.all_eq_true.mpr fun _ _ => rfl, ?_⟩
      rw [inV_str, if_pos rfl]
      exact q _ _ B hh (ext_refl B) (.bl _)⟩
theorem o_notInIT {k : Int} {ks : List Int} : OpD X (compareOp .NotIn) (.int k) (.tup (ks.map D.int)) (.bl (!decide (k ∈ ks))) :=
  ⟨_, op_notIn_seq, fun G σ H R B v u Q hh a b q => by
    cases a
    cases b with
    | tup h l =>
      rw [l.ints] at h
      refine ⟨_, _, rfl, .inr (.inl (.of (hh.exB _ _ h))), rfl, by rw [List.all_map]; exact List.all_eq_true.mpr fun _ _ => rfl, ?_⟩
      rw [inV_int, if_pos rfl]
      exact q _ _ B hh (ext_refl B) (.bl _)⟩
/-- not in a tuple of strs of the top -/
theorem dt_notInG {g : Str} {ga : Addr} {k : Str} {ks : List Str} {px : Pos} (h : DE X G a (.str k) G') (hm : X.mg g = some (.ref ga)) (hs : ∀ H, SqT X.K H ga (ks.map V.str)) (hg : Gl X g := by rfl) (hd : (g == ("__debug__" : Str)) = false := by decide) (hmk : behindInMarks .NotIn (.Name g px) = false := by first | exact nomark _ | rfl) : DT X G (.Compare a [.NotIn] [.Name g px] pos) (!decide (k ∈ ks)) G' :=
  .of (pt_cmpR op_notIn_seq pe_D (pe_glob (v := .ref ga) hg hm rfl hd) hmk) fun σ H R B hh => h.use hh fun v H1 B1 h1 e1 a1 => by
    cases a1
    refine ⟨_, _, rfl, .inr (hs H1), rfl, by rw [List.all_map]; exact List.all_eq_true.mpr fun _ _ => rfl, ?_⟩
    rw [inV_str, if_pos rfl]
    exact ⟨_, rfl, rfl, B1, h1, e1⟩
end
end Ax
namespace Ax
open PySem PySem.Spec L2
def rChkBase : List D → D → Prop := fun ds d => ∃ i : Int, 2 ≤ i ∧ ds = [.int i] ∧ d = .non
def rChkLeast : List D → D → Prop := fun ds d => ∃ i j : Int, j ≤ i ∧ ds = [.int i, .int j] ∧ d = .non
def rMant : List D → D → Prop := fun ds d => ∃ r : Ru, r.Ok ∧ ds = [.int r.b, .lst (r.hs.map .int)] ∧ d = .bl true
def rFields : List D → D → Prop := fun ds d => ∃ r : Ru, r.Ok ∧ ds = [.int r.b, .str r.k, .lst (r.hs.map .int), .int r.m] ∧ d = .bl true
def rRule : List D → List (Str × D) → Prop := fun ds fs => ∃ r : Ru, r.Ok ∧ ds = [.int r.b, .str r.k, .lst (r.hs.map .int), .int r.m] ∧ D.obj "Rule" fs = r.dt
def rRuleEq : List D → D → Prop := fun ds d => ∃ r t : Ru, ds = [r.dt, t.dt] ∧ d = .bl (PyData.eqv (D.tup [.int r.b, .str r.k, .tup (r.hs.map .int), .int r.m]).py (D.tup [.int t.b, .str t.k, .tup (t.hs.map .int), .int t.m]).py)
def rChkRule : List D → D → Prop := fun ds d => ∃ r : Ru, ds = [r.dt] ∧ d = .non
def rChkRules : List D → D → Prop := fun ds d => ∃ r t : Ru, r.b = t.b ∧ ds = [r.dt, t.dt] ∧ d = .non
section
variable {P : Program} {w : World} {K : PySem.W.Frag} {mg : Str → Option Value} {base : Heap}
theorem sc_check_base : FnScope ["value"] ["value"] (defScope s_check_base) := ⟨rfl, rfl, rfl, by decide +kernel, rfl, by decide +kernel, by decide +kernel⟩
theorem ok_check_base (T : Tp K mg) : FnD P w K mg base 3 "check_base" 1 rChkBase := by
  obtain ⟨fd, F⟩ := T.d_check_base
  refine fnD_mk T.g_check_base F sc_check_base rfl (F.bindsN fun _ _ _ _ _ _ us hl => match us, hl with | [_], _ => rfl) fun cdv A outer s H E hr ds d h hl => ?_
  obtain ⟨i, hi, rfl, rfl⟩ := h
  refine dss_one (ds_if (dt_not (dt_val (de_call (ok_is_base T) (hr.mono (by decide)) (da_cons (de_var 0) da_nil) ⟨i, hi, rfl, rfl⟩))) (fun hb => ?_) (fun hb => ?_))
  · exact absurd hb (by decide)
  · exact dss_nil rfl

theorem sc_check_at_least : FnScope ["value", "least"] ["value", "least"] (defScope s_check_at_least) := ⟨rfl, rfl, rfl, by decide +kernel, rfl, by decide +kernel, by decide +kernel⟩
theorem ok_check_at_least (T : Tp K mg) : FnD P w K mg base 2 "check_at_least" 2 rChkLeast := by
  obtain ⟨fd, F⟩ := T.d_check_at_least
  refine fnD_mk T.g_check_at_least F sc_check_at_least rfl (F.bindsN fun _ _ _ _ _ _ us hl => match us, hl with | [_, _], _ => rfl) fun cdv A outer s H E hr ds d h hl => ?_
  obtain ⟨i, j, hij, rfl, rfl⟩ := h
  refine dss_one (ds_if (dt_w (dw_or (dt_not (dt_val (de_call (ok_is_whole T) (hr.mono (by decide)) (da_cons (de_var 0) da_nil) ⟨i, rfl, rfl⟩))) fun _ => (dw_or1 (dt_cmp o_lt (de_var 0) (de_var 1))))) (fun hb => ?_) (fun hb => ?_))
  · have : i < j := by simpa using hb
    omega
  · exact dss_nil rfl

theorem sc_are_mantissas : FnScope ["base", "value", "one"] ["base", "value"] (defScope s_are_mantissas) := ⟨rfl, rfl, rfl, by decide +kernel, rfl, by decide +kernel, by decide +kernel⟩
theorem ok_are_mantissas (T : Tp K mg) : FnD P w K mg base 2 "are_mantissas" 2 rMant := by
  obtain ⟨fd, F⟩ := T.d_are_mantissas
  refine fnD_mk T.g_are_mantissas F sc_are_mantissas rfl (F.bindsN fun _ _ _ _ _ _ us hl => match us, hl with | [_, _], _ => rfl) fun cdv A outer s H E hr ds d h hl => ?_
  obtain ⟨r, ho, rfl, rfl⟩ := h
  have hlen := ho.len
  have hb2 := ho.b2
  have hb10 := ho.b10
  have hne : (r.hs.map D.int).isEmpty = false := by
    have := ho.ne
    cases e : r.hs with
    | nil => exact absurd e this
    | cons x l => rfl
  refine dss_cons (ds_if (dt_w (dw_or (dt_not (dt_val (de_isi (bb := true) (de_var 1) T.b_isinstance T.b_list bt_list))) fun _ => (dw_or (dt_cmp (o_eqN hr.units0) (de_var 1) (de_lst da_nil)) fun _ => (dw_or1 (dt_cmp (o_neN hr.units (ns := [])) (de_lcK [("one", 2)] (lckN (di_list (de_var 1)) (freeC free0) (by rw [List.length_map]; omega) fun x hx => ?_) (blk_at ["base", "value", "one"] (defScope s_are_mantissas)) sc_are_mantissas.nd rfl) (de_lst da_nil)))))) (fun hb => ?_) (fun hb => ?_))
  · obtain ⟨n, hn, rfl⟩ := List.mem_map.mp hx
    exact ⟨_, _, bkAll fun _ _ _ _ _ => (dg_name 2 sc_are_mantissas.nd), by decide, rfl, bkAll fun _ _ _ _ _ => (dts_one (DT.to (dt_w (dw_or (dt_not (dt_val (de_call (ok_is_whole T) (hr.mono (by decide)) (da_cons (de_var 2) da_nil) ⟨n, rfl, rfl⟩))) fun _ => (dw_or1 (dt_cmp o_lt (de_var 2) de_int)))) (by have := (ho.h1 n hn).1; simp; omega)))⟩
  · rw [hne] at hb
    exact absurd hb (by decide)
  · refine dss_nil ?_
    refine dss_cons (ds_if (dt_cmp (o_neN hr.units (ns := [])) (de_lcK [("one", 2)] (lckN (di_list (de_var 1)) (freeC free0) (by rw [List.length_map]; omega) fun x hx => ?_) (blk_at ["base", "value", "one"] (defScope s_are_mantissas)) sc_are_mantissas.nd rfl) (de_lst da_nil)) (fun hb => ?_) (fun hb => ?_))
    · obtain ⟨n, hn, rfl⟩ := List.mem_map.mp hx
      exact ⟨_, _, bkAll fun _ _ _ _ _ => (dg_name 2 sc_are_mantissas.nd), by decide, rfl, bkAll fun _ _ _ _ _ => (dts_one (DT.to (dt_cmp o_eq (de_op o_sub (de_var 2) (de_o (de_o (de_var 2) (de_var 0) (o_div (divW (by omega) (by omega)))) (de_var 0) (o_mulS (.inr ⟨by omega, by omega⟩)))) de_int) (by
        have := (ho.h1 n hn).2.2
        have e := Int.mul_ediv_add_emod n r.b
        rw [Int.mul_comm] at e
        simp
        omega)))⟩
    · exact absurd hb (by decide)
    · refine dss_nil ?_
      refine dss_one (ds_ret (de_cmp o_eq (de_lenset (de_var 1) T.b_len T.b_set (ho.asc.imp fun h => by omega) (by omega) rfl) (de_callB c_len T.b_len bt_len (da_cons (de_var 1) da_nil))) ?_)
      rw [List.length_map]
      simp

theorem sc_are_fields : FnScope ["base", "kind", "mantissas", "most"] ["base", "kind", "mantissas", "most"] (defScope s_are_fields) := ⟨rfl, rfl, rfl, by decide +kernel, rfl, by decide +kernel, by decide +kernel⟩
theorem ok_are_fields (T : Tp K mg) : FnD P w K mg base 3 "are_fields" 4 rFields := by
  obtain ⟨fd, F⟩ := T.d_are_fields
  refine fnD_mk T.g_are_fields F sc_are_fields rfl (F.bindsN fun _ _ _ _ _ _ us hl => match us, hl with | [_, _, _, _], _ => rfl) fun cdv A outer s H E hr ds d h hl => ?_
  obtain ⟨r, ho, rfl, rfl⟩ := h
  have hk : decide (r.k ∈ [("inside" : Str), "cover", "length"]) = true := by
    have := ho.kk
    simp
    exact this
  refine dss_cons (ds_if (dt_w (dw_or (dt_not (dt_val (de_call (ok_is_base T) (hr.mono (by decide)) (da_cons (de_var 0) da_nil) ⟨r.b, ho.b2, rfl, rfl⟩))) fun _ => (dw_or (dt_not (dt_val (de_isi (bb := true) (de_var 1) T.b_isinstance T.b_str bt_str))) fun _ => (dw_or (dt_notInG (ks := ["inside", "cover", "length"]) (de_var 1) T.kinds.1 T.kinds.2) fun _ => (dw_or1 (dt_not (dt_val (de_call (ok_are_mantissas T) (hr.mono (by decide)) (da_cons (de_var 0) (da_cons (de_var 2) da_nil)) ⟨r, ho, rfl, rfl⟩)))))))) (fun hb => ?_) (fun hb => ?_))
  · rw [hk] at hb
    exact absurd hb (by decide)
  · refine dss_nil (dss_one (ds_ret (de_and (de_call (ok_is_whole T) (hr.mono (by decide)) (da_cons (de_var 3) da_nil) ⟨r.m, rfl, rfl⟩) fun _ => (de_one (de_cmp o_ge (de_var 3) (de_op o_add de_int (de_callTy c_intB T.b_int bt_int (da_cons (de_cmp o_eqS (de_var 1) de_str) da_nil)))))) ?_))
    show D.bl (true && decide _) = .bl true
    rw [Bool.true_and]
    congr 1
    have h1 := ho.m1
    by_cases c : r.k = "cover"
    · have := ho.mc c
      simp [c]
      omega
    · simp [c]
      omega

theorem asc_perm {ns ns' : List Int} (hp : ns'.Perm ns) (h1 : ns'.Pairwise (· ≤ ·)) (h2 : ns.Pairwise (· < ·)) : ns' = ns := by
  have nd : ns'.Nodup := hp.nodup_iff.mpr (h2.imp fun h => by omega)
  have h3 : ns'.Pairwise (· < ·) := (h1.and nd).imp fun ⟨a, b⟩ => by omega
  exact asc_unique id ns' ns h3 h2 fun x => hp.mem_iff
theorem sc_Rule_init : FnScope ["self", "base", "kind", "mantissas", "most", "one"] ["self", "base", "kind", "mantissas", "most"] (defScope s_Rule_init) := ⟨rfl, rfl, rfl, by decide +kernel, rfl, by decide +kernel, by decide +kernel⟩
theorem ok_Rule (T : Tp K mg) : MkD P w K mg base 4 "Rule" 4 rRule := by
  obtain ⟨fd, F⟩ := T.d_Rule_init
  refine mkD_mk T.g_Rule T.k_Rule F sc_Rule_init rfl (F.bindsN fun _ _ _ _ _ _ us hl => match us, hl with | [_, _, _, _, _], _ => rfl) fun cdv A outer s H E hr sa ds fs h hl => ?_
  obtain ⟨r, ho, rfl, e⟩ := h
  obtain rfl := (D.obj.inj e).2
  have hlen := ho.len
  refine dss_cons (ds_if (dt_not (dt_val (de_call (ok_are_fields T) (hr.mono (by decide)) (da_cons (de_var 1) (da_cons (de_var 2) (da_cons (de_var 3) (da_cons (de_var 4) da_nil)))) ⟨r, ho, rfl, rfl⟩))) (fun hb => ?_) (fun hb => ?_))
  · exact absurd hb (by decide)
  · refine dss_nil ?_
    refine dss_cons (ds_fld 0 (de_var 1) T.c_Rule T.n_Rule_ground ?_)
    refine dss_cons (ds_fld 0 (de_var 2) T.c_Rule T.n_Rule_way ?_)
    refine dss_cons (ds_fld 0 (de_callTy c_tuple T.b_tuple bt_tuple (da_cons (de_callB (c_sorted (ns := r.hs) r.hs fun ns' hp h1 => asc_perm hp h1 ho.asc) T.b_sorted bt_sorted (da_cons (DE.to (de_lcK [("one", 5)] (lck (di_list (de_var 3)) (fun _ => true) (fun x => x) (freeC free0) (by rw [List.length_map]; omega) fun x hx => ?_) (blk_at ["self", "base", "kind", "mantissas", "most", "one"] (defScope s_Rule_init)) sc_Rule_init.nd rfl) (by rw [filter_true, List.map_id'])) da_nil)) da_nil)) T.c_Rule T.n_Rule_heads ?_)
    · obtain ⟨n, hn, rfl⟩ := List.mem_map.mp hx
      exact ⟨_, _, bkAll fun _ _ _ _ _ => (dg_name 5 sc_Rule_init.nd), by decide, rfl, bkAll fun _ _ _ _ _ => dts_nil, fun _ => bkAll fun _ _ _ _ _ => (de_callTy c_int T.b_int bt_int (da_cons (de_var 5) da_nil))⟩
    · exact dss_one (ds_fld 0 (de_var 4) T.c_Rule T.n_Rule_limit rfl)

theorem isPys_ints : ∀ l : List Int, D.isPys (l.map D.int) = true
  | [] => rfl
  | _ :: l => by show (true && D.isPys (l.map D.int)) = true; rw [isPys_ints l]; rfl
theorem sc_check_rule : FnScope ["value"] ["value"] (defScope s_check_rule) := ⟨rfl, rfl, rfl, by decide +kernel, rfl, by decide +kernel, by decide +kernel⟩
theorem ok_check_rule (T : Tp K mg) : FnD P w K mg base 1 "check_rule" 1 rChkRule := by
  obtain ⟨fd, F⟩ := T.d_check_rule
  refine fnD_mk T.g_check_rule F sc_check_rule rfl (F.bindsN fun _ _ _ _ _ _ us hl => match us, hl with | [_], _ => rfl) fun cdv A outer s H E hr ds d h hl => ?_
  obtain ⟨r, rfl, rfl⟩ := h
  refine dss_one (ds_if (dt_not (dt_val (de_isC (c := "Rule") (de_var 0) T.b_isinstance T.g_Rule T.ins_Rule))) (fun hb => ?_) (fun hb => ?_))
  · exact absurd hb (by decide)
  · exact dss_nil rfl

theorem sc_check_two_rules : FnScope ["one", "other"] ["one", "other"] (defScope s_check_two_rules) := ⟨rfl, rfl, rfl, by decide +kernel, rfl, by decide +kernel, by decide +kernel⟩
theorem ok_check_two_rules (T : Tp K mg) : FnD P w K mg base 2 "check_two_rules" 2 rChkRules := by
  obtain ⟨fd, F⟩ := T.d_check_two_rules
  refine fnD_mk T.g_check_two_rules F sc_check_two_rules rfl (F.bindsN fun _ _ _ _ _ _ us hl => match us, hl with | [_, _], _ => rfl) fun cdv A outer s H E hr ds d h hl => ?_
  obtain ⟨r, t, hrt, rfl, rfl⟩ := h
  refine dss_cons (ds_drop (de_call (ok_check_rule T) (hr.mono (by decide)) (da_cons (de_var 0) da_nil) ⟨r, rfl, rfl⟩) ?_)
  refine dss_one (ds_if (dt_w (dw_or (dt_not (dt_val (de_isC (c := "Rule") (de_var 1) T.b_isinstance T.g_Rule T.ins_Rule))) fun _ => (dw_or1 (dt_cmp o_ne (de_fld (de_var 1) T.c_Rule T.n_Rule_ground) (de_fld (de_var 0) T.c_Rule T.n_Rule_ground))))) (fun hb => ?_) (fun hb => ?_))
  · rw [hrt] at hb
    simp at hb
  · exact dss_nil rfl
end
end Ax
namespace Ax
open PySem PySem.Spec L2
section
variable {X : Cx} {G G0 G1 G2 G' : List Sl} {e it tg elt a b c kx vx : Expr} {es ts ifs : List Expr} {x d : D} {xs ds res : List D} {is js vs : List Nat} {pos pos' p : Pos} {E : DEnds} {body : List Stmt} {scope : Scope}
theorem At.nm {K : PySem.W.Frag} {B : Hp} {v : V} {k : NK} (h : At K B v (nmD k)) : ∃ b, v = .ref b ∧ NmAt B k b := by
  cases h with
  | tup hb al =>
    cases al with
    | cons h1 al =>
      cases al with
      | cons h2 al =>
        cases al with
        | cons h3 al =>
          cases al
          cases h1
          cases h3
          cases h2 with
          | tup hc cl => exact ⟨_, rfl, _, hb, by rw [cl.ints] at hc; exact hc⟩
theorem NmAt.up {B B' : Hp} {k : NK} {b : Addr} (e : Same B B') (h : NmAt B k b) : NmAt B' k b := let ⟨c, h1, h2⟩ := h; ⟨c, e _ _ h1, e _ _ h2⟩
def nX (xs : List (NK × Addr × Addr)) : NX := xs.map fun x => (x.1, x.2.1, Value.ref x.2.2)
theorem AtN.keys {K : PySem.W.Frag} {B : Hp} : ∀ {xs : List (NK × Addr × Addr)} {kvs : List (NK × D)}, AtN K B xs kvs → ∀ y ∈ nX xs, NmAt B y.1 y.2.1
  | _, _, .nil => fun y hy => nomatch hy
  | _, _, .cons (k := k) (b := b) h h' l => fun y hy => by
    rcases List.mem_cons.mp hy with rfl | hy
    · obtain ⟨b', e, q⟩ := h.nm
      cases e
      exact q
    · exact l.keys y hy
theorem AtN.get {K : PySem.W.Frag} {B : Hp} {k : NK} {d : D} : ∀ {xs : List (NK × Addr × Addr)} {kvs : List (NK × D)}, AtN K B xs kvs → kvs.lookup k = some d → ∃ ka va, atKey (nX xs) k = some (ka, .ref va) ∧ At K B (.ref va) d
  | _, _, .nil, e => nomatch e
  | (k', b, va) :: xs, (_, d') :: kvs, .cons h h' l, e => by
    rw [List.lookup_cons] at e
    by_cases c : k = k'
    · subst c
      simp at e
      subst e
      exact ⟨b, va, by unfold atKey nX; simp, h'⟩
    · have c2 : (k == k') = false := by simpa using c
      rw [c2] at e
      obtain ⟨ka, va', q1, q2⟩ := l.get e
      refine ⟨ka, va', ?_, q2⟩
      unfold atKey nX at q1 ⊢
      rw [List.map_cons, List.find?_cons]
      have : decide (k' = k) = false := decide_eq_false fun z => c z.symm
      simp only [this]
      exact q1
theorem AtN.map {K : PySem.W.Frag} {B : Hp} : ∀ {xs : List (NK × Addr × Addr)} {kvs : List (NK × D)}, AtN K B xs kvs → (nX xs).map (·.1) = kvs.map (·.1)
  | _, _, .nil => rfl
  | _, _, .cons h h' l => by
    have := l.map
    unfold nX at this ⊢
    simp at this ⊢
    exact this
theorem AtN.snoc {K : PySem.W.Frag} {B : Hp} {k : NK} {b va : Addr} {d : D} (h : At K B (.ref b) (nmD k)) (h' : At K B (.ref va) d) : ∀ {xs : List (NK × Addr × Addr)} {kvs : List (NK × D)}, AtN K B xs kvs → AtN K B (xs ++ [(k, b, va)]) (kvs ++ [(k, d)])
  | _, _, .nil => .cons h h' .nil
  | _, _, .cons q q' l => .cons q q' (AtN.snoc h h' l)
/-- d[k], d a dict by names -/
theorem de_ixK {k : NK} {kvs : List (NK × D)} (hu : X.A.units + 16 < cLine) (ha : DE X G a (.knw X.prog X.w kvs) G1) (hb : DE X G1 b (nmD k) G2) (hk : kvs.lookup k = some d) (hs : NoSl b := by exact fun _ _ => rfl) : DE X G (.Subscript a b pos) d G2 := by
  refine ⟨fun pins s σ H R B I hh => ?_⟩
  refine subD_of PySem.F.slot_dict_getitem.lookup hs (thn (ha.run pins s σ H R B I hh) fun v s1 ⟨x, H1, I1, rx, B1, h1, e1, a1⟩ => thn (hb.run pins s1 σ H1 R B1 I1 h1) fun u s2 ⟨y, H2, I2, ry, B2, h2, e2, a2⟩ => ?_)
  obtain ⟨kb, rfl, hn⟩ := a2.nm
  cases ry
  cases a1 with
  | knw hp al =>
    cases rx
    obtain ⟨ka, va, g1, g2⟩ := al.get hk
    have hD := h2.exB _ _ (e2 _ _ hp)
    have hx : ∀ y ∈ nX _, NmAt H2 y.1 y.2.1 := fun y hy => (al.keys y hy).up (e2.trans h2.exB)
    have nd : NmD X.prog X.w _ (nX _) s2.heap := (show ObjOk X.prog X.w H2 s2.heap _ (nmO X.prog X.w _ (nX _)) from I2.hok _ _ hD).1
    refine ⟨(nd.dict fun y hy => (hx y hy).is I2.hok).typeIs, nm_get (by show X.A.units + 1 + 8 < cLine; omega) I2 hD hx (hn.up h2.exB) g1 fun s' I' => ?_⟩
    exact ⟨.ref va, H2, I', rfl, B2, h2, e1.trans e2, g2.up e2⟩
/-- a thing of the heap -/
def D.far : D → Bool
  | .tup _ => true
  | .obj _ _ => true
  | _ => false
theorem At.far {K : PySem.W.Frag} {B : Hp} {v : V} {d : D} (h : At K B v d) (f : d.far = true) : ∃ a, v = .ref a := by
  cases h <;> first | exact ⟨_, rfl⟩ | cases f
/-- {key: value for target in iter}, the keys names -/
theorem de_dcN (own : List (Str × Nat)) {kvs : List (NK × D)} (hu : X.A.units + 8 < cLine) (hi : DI X G tg it ds G) (free : Free G (own.map (·.2))) (hl : ds.length < 1000000) (hkl : kvs.length = ds.length) (hnd : (kvs.map (·.1)).Nodup)
    (turn : ∀ (i : Nat) x, ds[i]? = some x → ∃ G1 is k d, kvs[i]? = some (k, d) ∧ (∀ X', Bk X scope X' → DG X' G tg x G1 is) ∧ (∀ i ∈ is, i ∈ own.map (·.2)) ∧ unG (own.map (·.2)) G1 = G ∧ (∀ X', Bk X scope X' → DE X' G1 kx (nmD k) G1) ∧ (∀ X', Bk X scope X' → DE X' G1 vx d G1) ∧ d.far = true)
    (ok : BlkOk X.N X.env.scope scope own) (hN : X.N.Nodup) (hc : X.calm = true) (hs : ∀ x, foldedSetIterable it X.env x = pure x := by intro _; rfl) : DE X G (.DictComp kx vx [⟨tg, it, [], 0⟩] scope pos) (.knw X.prog X.w kvs) G := by
  obtain ⟨wi, pi, kw⟩ := hi.run
  refine .of (pe_dcN hu hc hN pi ok pg_b pe_b pe_b hs) fun σ H R B hh => ?_
  refine kw σ H R B _ hh fun J H1 B1 h1 e1 w => fun L nL => ?_
  have hRL : R L = none := by
    cases z : R L with
    | none => rfl
    | some u => rw [h1.exR _ _ z] at nL; cases nL
  have nt : ∀ ys zs, nmO X.prog X.w L ys ≠ .tup zs := fun _ _ z => nomatch z
  refine ⟨fun i m H2 => m = ds.length - i ∧ i ≤ ds.length ∧ ∃ ys B', Hld X.K (upd R L (nmO X.prog X.w L (nX ys))) B' H2 σ G ∧ Same B1 B' ∧ AtN X.K B' ys (kvs.take i), ?_, ?_⟩
  · exact ⟨_, rfl, Nat.zero_le _, [], B1, h1.rest nL, ext_refl B1, by rw [List.take_zero]; exact .nil⟩
  · rintro i m H2 ⟨rfl, hi, ys, B', h2, e2, al⟩
    have sH : Same B1 H2 := e2.trans h2.exB
    by_cases hlt : i < ds.length
    · refine .inr ⟨w.go i H2 hlt sH, fun H' => ∃ m', m' < ds.length - i ∧ (m' = ds.length - (i + 1) ∧ i + 1 ≤ ds.length ∧ ∃ ys B', Hld X.K (upd R L (nmO X.prog X.w L (nX ys))) B' H' σ G ∧ Same B1 B' ∧ AtN X.K B' ys (kvs.take (i + 1))), fun H' q => q, fun x H3 y => ?_⟩
      have hd' := List.getElem?_eq_getElem hlt
      obtain ⟨B3, h3, e3, a3⟩ := w.yld i H2 x H3 _ _ B' σ G hd' sH e2 h2 y
      obtain ⟨G1, is, k, d, tk, t1, t2, t3, t4, t5, t6⟩ := turn i _ hd'
      refine ⟨G, _, G1, is, _, B3, t1, h3.wipe free, a3, fun σ4 h4 w4 => ?_⟩
      have ww : wipe σ4 (own.map (·.2)) = wipe (wipe σ (own.map (·.2))) (own.map (·.2)) := w4 _ t2
      have wv : wipe (wipe σ (own.map (·.2))) (own.map (·.2)) = wipe σ (own.map (·.2)) := List.ext_getElem? fun j => by
        by_cases hj : j ∈ own.map (·.2)
        · rw [wipe_in hj, wipe_in hj, wipe_length]
        · rw [wipe_out hj]
      refine ⟨ww.trans wv, G1, _, G1, _, B3, t4, h4, fun v5 H5 B5 h5 e5 a5 => ⟨G1, d, G1, _, B5, t5, h5, fun v6 H6 B6 h6 e6 a6 => ?_⟩⟩
      obtain ⟨kb, rfl, hn⟩ := a5.nm
      obtain ⟨va, rfl⟩ := a6.far t6
      have al' : AtN X.K B6 ys (kvs.take i) := al.up ((e3.trans e5).trans e6)
      have yl : (nX ys).length = i := by
        have := congrArg List.length al.map
        rw [List.length_map, List.length_map, List.length_take, hkl] at this
        omega
      have back : Hld X.K (upd R L (nmO X.prog X.w L (nX ys))) B6 H6 σ (unG (own.map (·.2)) G1) := (h6.unG _).unwipe (unG_free _) (ww.trans wv)
      rw [t3] at back
      refine ⟨nX ys, k, kb, va, rfl, rfl, h6.exR _ _ upd_same, by rw [yl]; exact Nat.lt_of_lt_of_le (Nat.lt_trans hlt hl) (by decide), fun y hy => (al'.keys y hy).up h6.exB, hn.up (e6.trans h6.exB), fun y hy e => ?_, _, (by omega : ds.length - (i + 1) < ds.length - i), rfl, hlt, ys ++ [(k, kb, va)], B6, ?_, ((e2.trans e3).trans e5).trans e6, ?_⟩
      · have hm : y.1 ∈ (kvs.take i).map (·.1) := by rw [← al.map]; exact List.mem_map_of_mem hy
        rw [e, List.map_take] at hm
        obtain ⟨j, hj⟩ := List.getElem?_of_mem hm
        have ji : j < i := by
          have := (List.getElem?_eq_some_iff.mp hj).1
          rw [List.length_take] at this
          omega
        rw [List.getElem?_take_of_lt ji] at hj
        have hk2 : (kvs.map (·.1))[i]? = some k := by rw [List.getElem?_map, tk]; rfl
        have := (List.getElem?_inj (List.getElem?_eq_some_iff.mp hj).1 hnd).mp (hj.trans hk2.symm)
        omega
      · have q := back.rset (o' := nmO X.prog X.w L (nX ys ++ [(k, kb, .ref va)])) upd_same (nt _)
        rw [upd_upd] at q
        unfold nX at q ⊢
        rw [List.map_append]
        exact q
      · rw [List.take_succ, tk]
        exact AtN.snoc (a5.up e6) a6 al'
    · have e : i = ds.length := by omega
      subst e
      obtain ⟨h6, s6⟩ := h2.toB hRL (nt _)
      refine .inl ⟨w.stop H2 sH, _, h6, (e1.trans e2).trans s6, ?_⟩
      rw [← hkl, List.take_length] at al
      exact .knw upd_same (al.up s6)
end
end Ax
namespace Ax
open PySem PySem.Spec L2
section
variable {X : Cx} {G G0 G1 G2 G' : List Sl} {e it tg elt a b c : Expr} {es ts ifs : List Expr} {x d : D} {xs ds res : List D} {is js vs : List Nat} {pos pos' p : Pos} {E : DEnds} {body : List Stmt} {scope : Scope} {k n : Nat}
/-- two instances, the class's own method on them -/
def rOwn (X : Cx) (c : Str) (n : Nat) (rel : List D → D → Prop) (good : V → Prop) : R2 := fun x y H Q => ∃ a b dx dy fa fb, x = .ref a ∧ y = .ref b ∧ H a = some (.ins (He.ga X.K c) dx fa) ∧ H b = some (.ins (He.ga X.K c) dy fb) ∧ spP X.K n rel [x, y] H (fun v H' => good v ∧ Q v H') (fun _ _ _ => False)
def isBl (v : V) : Prop := ∃ b, v = .bl b
def isRf (v : V) : Prop := ∃ b, v = .ref b
theorem op_eqOwn {c : Str} {rel : List D → D → Prop} (F : MtD X.prog X.w X.K X.mg X.base k c "__eq__" 2 rel) (hr : Room k X.A) : OpR X (compareOp .Eq) (rOwn X c 2 rel isBl) := by
  intro pins s σ H x y v u Q I rx ry h
  obtain ⟨a, b, dx, dy, fa, fb, rfl, rfl, ha, hb', sp⟩ := h
  cases rx
  cases ry
  obtain ⟨f, fd, ps, hc, hm, ok, hb⟩ := F.ex
  obtain ⟨mA, J, _⟩ := ins_get I.hok ha
  obtain ⟨mB, J', _⟩ := ins_get I.hok hb'
  obtain ⟨od, J, _⟩ := J.look
  obtain ⟨od', J', _⟩ := J'.look
  obtain ⟨m, hF⟩ := I.fr
  refine PySem.W.cmp_K (op := .Eq) (tb := .ref (He.ga X.K c)) hr.units0 hF I.ok.mod.kin J J'.type (by simp [PySem.W.notFirst]) hm.at_ hm.fn ?_
  have := run_fn (vs := [V.ref a, V.ref b]) (us := [Value.ref a, Value.ref b]) ok hr hb .nil pass0 I (.cons rfl (.cons rfl .nil)) (by rw [List.append_nil]; exact sp)
  refine wpAny_mono this (fun r s' z => ?_) fun _ _ x => x
  obtain ⟨v, H', I', rv, ⟨bb, rfl⟩, q⟩ := z
  cases rv
  exact ⟨.bl bb, H', I', rfl, q⟩
theorem op_binOwn {op : Operator} {c m : Str} {rel : List D → D → Prop} (F : MtD X.prog X.w X.K X.mg X.base k c m 2 rel) (hr : Room k X.A) (hs : PySem.W.selfFirst X.K (He.ga X.K c) = true) (hop : PySem.dunder op.info.2 = m := by rfl) : OpR X (binaryOp op) (rOwn X c 2 rel isRf) := by
  intro pins s σ H x y v u Q I rx ry h
  obtain ⟨a, b, dx, dy, fa, fb, rfl, rfl, ha, hb', sp⟩ := h
  cases rx
  cases ry
  obtain ⟨f, fd, ps, hc, hm, ok, hb⟩ := F.ex
  subst hop
  obtain ⟨mA, J, _⟩ := ins_get I.hok ha
  obtain ⟨mB, J', _⟩ := ins_get I.hok hb'
  obtain ⟨od, J, _⟩ := J.look
  obtain ⟨od', J', _⟩ := J'.look
  obtain ⟨m, hF⟩ := I.fr
  refine PySem.W.binop_K hF I.ok.mod.kin J J'.type hs hm.at_ hm.fn ?_
  have := run_fn (vs := [V.ref a, V.ref b]) (us := [Value.ref a, Value.ref b]) ok hr hb .nil pass0 I (.cons rfl (.cons rfl .nil)) (by rw [List.append_nil]; exact sp)
  refine wpAny_mono this (fun r s' z => ?_) fun _ _ x => x
  obtain ⟨v, H', I', rv, ⟨bb, rfl⟩, q⟩ := z
  cases rv
  exact ⟨.ref bb, H', I', rfl, q⟩
theorem At.isBl {K : PySem.W.Frag} {B : Hp} {v : V} {b : Bool} (h : At K B v (.bl b)) : isBl v := by cases h; exact ⟨_, rfl⟩
theorem At.isRf {K : PySem.W.Frag} {B : Hp} {v : V} {c : Str} {fs : List (Str × D)} (h : At K B v (.obj c fs)) : isRf v := by cases h; exact ⟨_, rfl⟩
theorem o_eqOwn {c : Str} {fs gs : List (Str × D)} {bb : Bool} {rel : List D → D → Prop} (F : MtD X.prog X.w X.K X.mg X.base k c "__eq__" 2 rel) (hr : Room k X.A) (hrel : rel [.obj c fs, .obj c gs] (.bl bb)) : OpD X (compareOp .Eq) (.obj c fs) (.obj c gs) (.bl bb) :=
  ⟨_, op_eqOwn F hr, fun G σ H R B v u Q hh a1 a2 q => by
    cases a1 with
    | obj hp al =>
      cases a2 with
      | obj hq bl =>
        exact ⟨_, _, _, _, _, _, rfl, rfl, hh.exB _ _ hp, hh.exB _ _ hq, B, _, _, hh.exB, .cons (.obj hp al) (.cons (.obj hq bl) .nil), rfl, hrel, fun v H' B' s1 s2 s3 nw z => ⟨z.isBl, q v H' B' (hh.up s2 s1 s3 nw) s2 z⟩⟩⟩
theorem o_binOwn {op : Operator} {c m c2 : Str} {fs gs hs : List (Str × D)} {rel : List D → D → Prop} (F : MtD X.prog X.w X.K X.mg X.base k c m 2 rel) (hr : Room k X.A) (sf : PySem.W.selfFirst X.K (He.ga X.K c) = true) (hrel : rel [.obj c fs, .obj c gs] (.obj c2 hs)) (hop : PySem.dunder op.info.2 = m := by rfl) : OpD X (binaryOp op) (.obj c fs) (.obj c gs) (.obj c2 hs) :=
  ⟨_, op_binOwn F hr sf hop, fun G σ H R B v u Q hh a1 a2 q => by
    cases a1 with
    | obj hp al =>
      cases a2 with
      | obj hq bl =>
        exact ⟨_, _, _, _, _, _, rfl, rfl, hh.exB _ _ hp, hh.exB _ _ hq, B, _, _, hh.exB, .cons (.obj hp al) (.cons (.obj hq bl) .nil), rfl, hrel, fun v H' B' s1 s2 s3 nw z => ⟨z.isRf, q v H' B' (hh.up s2 s1 s3 nw) s2 z⟩⟩⟩
/-- ~x by the class's own __invert__ -/
theorem de_inv {c : Str} {fs : List (Str × D)} {rel : List D → D → Prop} (F : MtD X.prog X.w X.K X.mg X.base k c "__invert__" 1 rel) (hr : Room k X.A) (ha : DE X G a (.obj c fs) G') (hrel : rel [.obj c fs] d) : DE X G (.UnaryOp .Invert a pos) d G' := by
  obtain ⟨f, fd, ps, hc, hm, ok, hb⟩ := F.ex
  refine ⟨fun pins s σ H R B I hh => PyProof.Rows.UnaryOp_ (thn (ha.run pins s σ H R B I hh) fun v s1 ⟨x, H1, I1, rx, B1, h1, e1, a1⟩ => ?_)⟩
  cases a1 with
  | obj hp al =>
    cases rx
    obtain ⟨mA, J, _⟩ := ins_get I1.hok (h1.exB _ _ hp)
    obtain ⟨od, J, _⟩ := J.look
    obtain ⟨m, hF⟩ := I1.fr
    refine PySem.W.ksp_inv hF I1.ok.mod.kin J hm.at_ hm.fn ?_
    exact run_fn (vs := [V.ref _]) (us := [Value.ref _]) ok hr hb .nil pass0 I1 (.cons rfl .nil) ⟨B1, _, d, h1.exB, by rw [List.append_nil]; exact .cons (.obj hp al) .nil, rfl, hrel, fun v H' B' s1 s2 s3 nw z => ⟨B', h1.up s2 s1 s3 nw, e1.trans s2, z⟩⟩
end
end Ax
namespace Ax
open PySem PySem.Spec L2
noncomputable instance ruEq : DecidableEq Ru := fun a b => Classical.propDecidable (a = b)
/-! ### trees -/
inductive Tr where
  | every
  | counted (r : Ru) (lo : Int) (hi : Option Int)
  | taken (r : Ru) (m : Int)
  | ratio (r s : Ru) (t1 t2 : Int)
  | touched (r : Ru) (low : Bool)
  | joined (w : Str) (a b : Tr)
  | nt (a : Tr)
def optD : Option Int → D
  | some i => .int i
  | none => .non
def Tr.cls : Tr → Str
  | .every => "Every"
  | .counted .. => "Counted"
  | .taken .. => "Taken"
  | .ratio .. => "Ratio"
  | .touched .. => "Touched"
  | .joined .. => "Joined"
  | .nt _ => "Not"
def Tr.fs : Tr → List (Str × D)
  | .every => []
  | .counted r lo hi => [("rule", r.dt), ("fewest", .int lo), ("greatest", optD hi)]
  | .taken r m => [("rule", r.dt), ("mantissa", .int m)]
  | .ratio r s t1 t2 => [("one", r.dt), ("other", s.dt), ("times", .tup [.int t1, .int t2]), ("is_more", .bl true)]
  | .touched r low => [("rule", r.dt), ("is_low", .bl low)]
  | .joined w a b => [("word", .str w), ("one", .obj a.cls a.fs), ("other", .obj b.cls b.fs)]
  | .nt a => [("one", .obj a.cls a.fs)]
def Tr.dt (t : Tr) : D := .obj t.cls t.fs
def Tr.rules : Tr → List Ru
  | .every => []
  | .counted r _ _ => [r]
  | .taken r _ => [r]
  | .ratio r s _ _ => [r, s]
  | .touched r _ => [r]
  | .joined _ a b => a.rules ++ b.rules
  | .nt a => a.rules
def Tr.depth : Tr → Nat
  | .joined _ a b => a.depth + b.depth + 1
  | .nt a => a.depth + 1
  | _ => 0
/-- small factors -/
def Tr.Fair : Tr → Prop
  | .ratio _ _ t1 t2 => (-1000 < t1 ∧ t1 < 1000) ∧ (-1000 < t2 ∧ t2 < 1000)
  | .joined _ a b => a.Fair ∧ b.Fair
  | .nt a => a.Fair
  | _ => True
def leO : Int → Option Int → Bool
  | _, none => true
  | i, some j => decide (i ≤ j)
/-- what a tree says, each rule's step given -/
def Tr.ev (st : Ru → Int × Nat) (lo hi : Int) : Tr → Bool
  | .every => true
  | .counted r l h => decide (l ≤ (marks r (sz r.b (st r)) lo hi).2 - (marks r (sz r.b (st r)) lo hi).1 + 1) && leO ((marks r (sz r.b (st r)) lo hi).2 - (marks r (sz r.b (st r)) lo hi).1 + 1) h
  | .taken r m => decide ((st r).1 = m)
  | .ratio r s t1 t2 => decide (0 < sz r.b (st r) * t2 - sz s.b (st s) * t1)
  | .touched r low => if low then decide (lo / sz r.b (st r) = up lo (sz r.b (st r))) else decide (hi / sz r.b (st r) = up hi (sz r.b (st r)))
  | .joined w a b => if w = "and" then a.ev st lo hi && b.ev st lo hi else if w = "or" then a.ev st lo hi || b.ev st lo hi else !decide (a.ev st lo hi = b.ev st lo hi)
  | .nt a => !a.ev st lo hi
def nm (r : Ru) : NK := (r.k, r.hs, r.m)
def lookD (P : Program) (w : World) (lo hi : Int) (kvs : List (NK × D)) : D := .obj "Look" [("low", .int lo), ("high", .int hi), ("known", .knw P w kvs)]
/-- the steps of some rules are known -/
def Kn (kvs : List (NK × D)) (st : Ru → Int × Nat) (rs : List Ru) : Prop := ∀ r ∈ rs, r.Ok ∧ StOk r.b (st r) ∧ kvs.lookup (nm r) = some (stD (st r))
def rName : List D → D → Prop := fun ds d => ∃ r : Ru, ds = [r.dt] ∧ d = nmD (nm r)
def rTakenBy (P : Program) (w : World) : List D → D → Prop := fun ds d => ∃ (r : Ru) (lo hi : Int) (kvs : List (NK × D)) (st : Int × Nat), ds = [lookD P w lo hi kvs, r.dt] ∧ kvs.lookup (nm r) = some (stD st) ∧ d = stD st
def rCompared (P : Program) (w : World) : List D → D → Prop := fun ds d => ∃ (r s : Ru) (lo hi : Int) (kvs : List (NK × D)) (st : Ru → Int × Nat) (t1 t2 : Int), ds = [r.dt, s.dt, lookD P w lo hi kvs, .tup [.int t1, .int t2]] ∧ Kn kvs st [r, s] ∧ (-1000 < t1 ∧ t1 < 1000) ∧ (-1000 < t2 ∧ t2 < 1000) ∧ d = .int (sz r.b (st r) * t2 - sz s.b (st s) * t1)
def rRules (t : Tr) : List D → D → Prop := fun ds d => ds = [t.dt] ∧ t.rules.length ≤ 1000 ∧ d = .lst (t.rules.map Ru.dt)
def rHolds (P : Program) (w : World) (t : Tr) : List D → D → Prop := fun ds d => ∃ (lo hi : Int) (kvs : List (NK × D)) (st : Ru → Int × Nat), ds = [t.dt, lookD P w lo hi kvs] ∧ Kn kvs st t.rules ∧ t.Fair ∧ d = .bl (t.ev st lo hi)
def rMk (c : Str) (n : Nat) (f : List D → List (Str × D)) : List D → List (Str × D) → Prop := fun ds fs => fs = f ds
def rDiff : List D → D → Prop := fun ds d => ∃ rs : List Ru, ds = [.lst (rs.map Ru.dt)] ∧ rs.length ≤ 1000 ∧ (∀ r ∈ rs, r.Ok) ∧ d = .lst ((rs.foldl insK []).map Ru.dt)
theorem eqvAll_ints : ∀ (l m : List Int), PyData.eqvAll (D.pys (l.map D.int)) (D.pys (m.map D.int)) = decide (l = m)
  | [], [] => by simp [D.pys, PyData.eqvAll]
  | [], _ :: _ => by simp [D.pys, PyData.eqvAll]
  | _ :: _, [] => by simp [D.pys, PyData.eqvAll]
  | x :: l, y :: m => by
    have ih := eqvAll_ints l m
    simp only [List.map_cons, D.pys, PyData.eqvAll, D.py, PyData.eqv]
    rw [ih]
    by_cases h1 : x = y <;> by_cases h2 : l = m <;> simp [h1, h2]
theorem rule_eqv (r t : Ru) : PyData.eqv (D.tup [.int r.b, .str r.k, .tup (r.hs.map .int), .int r.m]).py (D.tup [.int t.b, .str t.k, .tup (t.hs.map .int), .int t.m]).py = decide (r = t) := by
  simp only [D.py, D.pys, PyData.eqv, PyData.eqvAll, eqvAll_ints]
  obtain ⟨b, k, hs, m⟩ := r
  obtain ⟨b', k', hs', m'⟩ := t
  by_cases h1 : b = b' <;> by_cases h2 : k = k' <;> by_cases h3 : hs = hs' <;> by_cases h4 : m = m' <;> simp [h1, h2, h3, h4]
end Ax
namespace Ax
open PySem PySem.Spec L2
/-- a rule, its steps, the first of them that fits -/
def FF (lo hi : Int) (x : Ru × List (Int × Nat) × (Int × Nat)) : Prop := x.1.Ok ∧ (∀ t ∈ x.2.1, StOk x.1.b t) ∧ ∃ i : Nat, x.2.1[i]? = some x.2.2 ∧ fitB x.1 (sz x.1.b x.2.2) lo hi = true ∧ ∀ (j : Nat) t, j < i → x.2.1[j]? = some t → fitB x.1 (sz x.1.b t) lo hi = false
def rLook (P : Program) (w : World) : List D → List (Str × D) → Prop := fun ds fs => ∃ (l : List (Ru × List (Int × Nat) × (Int × Nat))) (lo hi : Int),
  ds = [.lst (l.map fun x => x.1.dt), .lst (l.map fun x => .lst (x.2.1.map stD)), .int lo, .int hi] ∧ l.length < 1000 ∧ (l.map fun x => nm x.1).Nodup ∧ (∀ x ∈ l, FF lo hi x) ∧ D.obj "Look" fs = lookD P w lo hi (l.map fun x => (nm x.1, stD x.2.2))
section
variable {P : Program} {w : World} {K : PySem.W.Frag} {mg : Str → Option Value} {base : Heap}
theorem u16 {k : Nat} {A : Around} (r : Room k A) : A.units + 16 < cLine := by have := r.un; omega
theorem u8 {k : Nat} {A : Around} (r : Room k A) : A.units + 8 < cLine := by have := r.un; omega
theorem sc_name_of : FnScope ["rule"] ["rule"] (defScope s_name_of) := ⟨rfl, rfl, rfl, by decide +kernel, rfl, by decide +kernel, by decide +kernel⟩
theorem ok_name_of (T : Tp K mg) : FnD P w K mg base 1 "name_of" 1 rName := by
  obtain ⟨fd, F⟩ := T.d_name_of
  refine fnD_mk T.g_name_of F sc_name_of rfl (F.bindsN fun _ _ _ _ _ _ us hl => match us, hl with | [_], _ => rfl) fun cdv A outer s H E hr ds d h hl => ?_
  obtain ⟨r, rfl, rfl⟩ := h
  exact dss_one (ds_ret (de_tup (da_cons (de_fld (de_var 0) T.c_Rule T.n_Rule_way) (da_cons (de_fld (de_var 0) T.c_Rule T.n_Rule_heads) (da_cons (de_fld (de_var 0) T.c_Rule T.n_Rule_limit) da_nil)))) rfl)

theorem sc_Look_taken_by : FnScope ["self", "rule"] ["self", "rule"] (defScope s_Look_taken_by) := ⟨rfl, rfl, rfl, by decide +kernel, rfl, by decide +kernel, by decide +kernel⟩
theorem ok_Look_taken_by (T : Tp K mg) : MtD P w K mg base 2 "Look" "taken_by" 2 (rTakenBy P w) := by
  obtain ⟨fd, F⟩ := T.d_Look_taken_by
  refine mtD_mk T.c_Look T.m_Look_taken_by F sc_Look_taken_by rfl (F.bindsN fun _ _ _ _ _ _ us hl => match us, hl with | [_, _], _ => rfl) fun cdv A outer s H E hr ds d h hl => ?_
  obtain ⟨r, lo, hi, kvs, st, rfl, hk, rfl⟩ := h
  exact dss_one (ds_ret (de_ixK (u16 hr) (de_fld (de_var 0) T.c_Look T.n_Look_known) (de_call (ok_name_of T) (hr.mono (by decide)) (da_cons (de_var 1) da_nil) ⟨r, rfl, rfl⟩) hk) rfl)

theorem sc_Look_init : FnScope ["self", "rules", "choices", "low", "high", "rule", "steps"] ["self", "rules", "choices", "low", "high"] (defScope s_Look_init) := ⟨rfl, rfl, rfl, by decide +kernel, rfl, by decide +kernel, by decide +kernel⟩
theorem ok_Look (T : Tp K mg) : MkD P w K mg base 6 "Look" 4 (rLook P w) := by
  obtain ⟨fd, F⟩ := T.d_Look_init
  refine mkD_mk T.g_Look T.k_Look F sc_Look_init rfl (F.bindsN fun _ _ _ _ _ _ us hl => match us, hl with | [_, _, _, _, _], _ => rfl) fun cdv A outer s H E hr sa ds fs h hl => ?_
  obtain ⟨l, lo, hi, rfl, hlen, hnd, hff, e⟩ := h
  obtain rfl := (D.obj.inj e).2
  refine dss_cons (ds_fld 0 (de_var 3) T.c_Look T.n_Look_low ?_)
  refine dss_cons (ds_fld 0 (de_var 4) T.c_Look T.n_Look_high ?_)
  refine dss_one (ds_fld 0 (de_dcN [("rule", 5), ("steps", 6)] (kvs := l.map fun x => (nm x.1, stD x.2.2)) (u8 hr) (di_zip (da_cons (de_var 1) (da_cons (de_var 2) da_nil)) T.b_zip) (freeC (freeC free0)) ?_ ?_ ?_ (fun i x hx => ?_) (blk_at ["self", "rules", "choices", "low", "high", "rule", "steps"] (defScope s_Look_init)) sc_Look_init.nd rfl) T.c_Look T.n_Look_known rfl)
  · unfold zipD
    rw [List.length_zipWith, List.length_map, List.length_map]
    omega
  · unfold zipD
    rw [List.length_zipWith, List.length_map, List.length_map, List.length_map]
    omega
  · rw [List.map_map]
    exact hnd
  · obtain ⟨x1, x2, h1, h2, rfl⟩ := zip_get hx
    rw [List.getElem?_map] at h1 h2
    cases hy : l[i]? with
    | none => rw [hy] at h1; cases h1
    | some y =>
      rw [hy] at h1 h2
      cases h1
      cases h2
      obtain ⟨q1, q2, j, q3, q4, q5⟩ := hff y (List.mem_of_getElem? hy)
      exact ⟨_, _, nm y.1, stD y.2.2, by rw [List.getElem?_map, hy]; rfl, bkAll fun _ _ _ _ _ => dg_tup (dgs_cons (dg_name 5 sc_Look_init.nd) (dgs_cons (dg_name 6 sc_Look_init.nd) dgs_nil)) rfl, by decide, rfl,
        bkAll fun _ _ _ _ _ => de_call (ok_name_of T) (hr.mono (by decide)) (da_cons (de_var 5) da_nil) ⟨y.1, rfl, rfl⟩,
        bkAll fun _ _ _ _ _ => de_call (ok_first_fitting T) (hr.mono (by decide)) (da_cons (de_var 5) (da_cons (de_var 6) (da_cons (de_var 3) (da_cons (de_var 4) da_nil)))) ⟨y.1, y.2.1, lo, hi, j, y.2.2, rfl, q1, q2, q3, q4, q5, rfl⟩, rfl⟩
end
end Ax
namespace Ax
open PySem PySem.Spec L2
section
variable {P : Program} {w : World} {K : PySem.W.Frag} {mg : Str → Option Value} {base : Heap}

def rCounted : List D → List (Str × D) → Prop := fun ds fs => ∃ x0 x1 x2 : D, ds = [x0, x1, x2] ∧ fs = [(("rule" : Str), x0), (("fewest" : Str), x1), (("greatest" : Str), x2)]
theorem sc_Counted_init : FnScope ["self", "rule", "least", "most"] ["self", "rule", "least", "most"] (defScope s_Counted_init) := ⟨rfl, rfl, rfl, by decide +kernel, rfl, by decide +kernel, by decide +kernel⟩
theorem ok_Counted (T : Tp K mg) : MkD P w K mg base 1 "Counted" 3 rCounted := by
  obtain ⟨fd, F⟩ := T.d_Counted_init
  refine mkD_mk T.g_Counted T.k_Counted F sc_Counted_init rfl (F.bindsN fun _ _ _ _ _ _ us hl => match us, hl with | [_, _, _, _], _ => rfl) fun cdv A outer s H E hr sa ds fs h hl => ?_
  obtain ⟨x0, x1, x2, rfl, rfl⟩ := h
  -- self.rule = rule
  refine dss_cons (ds_fld 0 (de_var 1) T.c_Counted T.n_Counted_rule ?_)
  -- self.fewest = least
  refine dss_cons (ds_fld 0 (de_var 2) T.c_Counted T.n_Counted_fewest ?_)
  -- self.greatest = most
  refine dss_one (ds_fld 0 (de_var 3) T.c_Counted T.n_Counted_greatest rfl)


def rTaken : List D → List (Str × D) → Prop := fun ds fs => ∃ x0 x1 : D, ds = [x0, x1] ∧ fs = [(("rule" : Str), x0), (("mantissa" : Str), x1)]
theorem sc_Taken_init : FnScope ["self", "rule", "mantissa"] ["self", "rule", "mantissa"] (defScope s_Taken_init) := ⟨rfl, rfl, rfl, by decide +kernel, rfl, by decide +kernel, by decide +kernel⟩
theorem ok_Taken (T : Tp K mg) : MkD P w K mg base 1 "Taken" 2 rTaken := by
  obtain ⟨fd, F⟩ := T.d_Taken_init
  refine mkD_mk T.g_Taken T.k_Taken F sc_Taken_init rfl (F.bindsN fun _ _ _ _ _ _ us hl => match us, hl with | [_, _, _], _ => rfl) fun cdv A outer s H E hr sa ds fs h hl => ?_
  obtain ⟨x0, x1, rfl, rfl⟩ := h
  -- self.rule = rule
  refine dss_cons (ds_fld 0 (de_var 1) T.c_Taken T.n_Taken_rule ?_)
  -- self.mantissa = mantissa
  refine dss_one (ds_fld 0 (de_var 2) T.c_Taken T.n_Taken_mantissa rfl)


def rRatio : List D → List (Str × D) → Prop := fun ds fs => ∃ x0 x1 x2 x3 : D, ds = [x0, x1, x2, x3] ∧ fs = [(("one" : Str), x0), (("other" : Str), x1), (("times" : Str), x2), (("is_more" : Str), x3)]
theorem sc_Ratio_init : FnScope ["self", "one", "other", "times", "is_more"] ["self", "one", "other", "times", "is_more"] (defScope s_Ratio_init) := ⟨rfl, rfl, rfl, by decide +kernel, rfl, by decide +kernel, by decide +kernel⟩
theorem ok_Ratio (T : Tp K mg) : MkD P w K mg base 1 "Ratio" 4 rRatio := by
  obtain ⟨fd, F⟩ := T.d_Ratio_init
  refine mkD_mk T.g_Ratio T.k_Ratio F sc_Ratio_init rfl (F.bindsN fun _ _ _ _ _ _ us hl => match us, hl with | [_, _, _, _, _], _ => rfl) fun cdv A outer s H E hr sa ds fs h hl => ?_
  obtain ⟨x0, x1, x2, x3, rfl, rfl⟩ := h
  -- self.one = one
  refine dss_cons (ds_fld 0 (de_var 1) T.c_Ratio T.n_Ratio_one ?_)
  -- self.other = other
  refine dss_cons (ds_fld 0 (de_var 2) T.c_Ratio T.n_Ratio_other ?_)
  -- self.times = times
  refine dss_cons (ds_fld 0 (de_var 3) T.c_Ratio T.n_Ratio_times ?_)
  -- self.is_more = is_more
  refine dss_one (ds_fld 0 (de_var 4) T.c_Ratio T.n_Ratio_is_more rfl)


def rTouched : List D → List (Str × D) → Prop := fun ds fs => ∃ x0 x1 : D, ds = [x0, x1] ∧ fs = [(("rule" : Str), x0), (("is_low" : Str), x1)]
theorem sc_Touched_init : FnScope ["self", "rule", "is_low"] ["self", "rule", "is_low"] (defScope s_Touched_init) := ⟨rfl, rfl, rfl, by decide +kernel, rfl, by decide +kernel, by decide +kernel⟩
theorem ok_Touched (T : Tp K mg) : MkD P w K mg base 1 "Touched" 2 rTouched := by
  obtain ⟨fd, F⟩ := T.d_Touched_init
  refine mkD_mk T.g_Touched T.k_Touched F sc_Touched_init rfl (F.bindsN fun _ _ _ _ _ _ us hl => match us, hl with | [_, _, _], _ => rfl) fun cdv A outer s H E hr sa ds fs h hl => ?_
  obtain ⟨x0, x1, rfl, rfl⟩ := h
  -- self.rule = rule
  refine dss_cons (ds_fld 0 (de_var 1) T.c_Touched T.n_Touched_rule ?_)
  -- self.is_low = is_low
  refine dss_one (ds_fld 0 (de_var 2) T.c_Touched T.n_Touched_is_low rfl)


def rJoined : List D → List (Str × D) → Prop := fun ds fs => ∃ x0 x1 x2 : D, ds = [x0, x1, x2] ∧ fs = [(("word" : Str), x0), (("one" : Str), x1), (("other" : Str), x2)]
theorem sc_Joined_init : FnScope ["self", "word", "one", "other"] ["self", "word", "one", "other"] (defScope s_Joined_init) := ⟨rfl, rfl, rfl, by decide +kernel, rfl, by decide +kernel, by decide +kernel⟩
theorem ok_Joined (T : Tp K mg) : MkD P w K mg base 1 "Joined" 3 rJoined := by
  obtain ⟨fd, F⟩ := T.d_Joined_init
  refine mkD_mk T.g_Joined T.k_Joined F sc_Joined_init rfl (F.bindsN fun _ _ _ _ _ _ us hl => match us, hl with | [_, _, _, _], _ => rfl) fun cdv A outer s H E hr sa ds fs h hl => ?_
  obtain ⟨x0, x1, x2, rfl, rfl⟩ := h
  -- self.word = word
  refine dss_cons (ds_fld 0 (de_var 1) T.c_Joined T.n_Joined_word ?_)
  -- self.one = one
  refine dss_cons (ds_fld 0 (de_var 2) T.c_Joined T.n_Joined_one ?_)
  -- self.other = other
  refine dss_one (ds_fld 0 (de_var 3) T.c_Joined T.n_Joined_other rfl)


def rNot : List D → List (Str × D) → Prop := fun ds fs => ∃ x0 : D, ds = [x0] ∧ fs = [(("one" : Str), x0)]
theorem sc_Not_init : FnScope ["self", "one"] ["self", "one"] (defScope s_Not_init) := ⟨rfl, rfl, rfl, by decide +kernel, rfl, by decide +kernel, by decide +kernel⟩
theorem ok_Not (T : Tp K mg) : MkD P w K mg base 1 "Not" 1 rNot := by
  obtain ⟨fd, F⟩ := T.d_Not_init
  refine mkD_mk T.g_Not T.k_Not F sc_Not_init rfl (F.bindsN fun _ _ _ _ _ _ us hl => match us, hl with | [_, _], _ => rfl) fun cdv A outer s H E hr sa ds fs h hl => ?_
  obtain ⟨x0, rfl, rfl⟩ := h
  -- self.one = one
  refine dss_one (ds_fld 0 (de_var 1) T.c_Not T.n_Not_one rfl)


theorem sc_Every_rules : FnScope ["self"] ["self"] (defScope s_Every_rules) := ⟨rfl, rfl, rfl, by decide +kernel, rfl, by decide +kernel, by decide +kernel⟩
theorem ok_Every_rules (T : Tp K mg)  : MtD P w K mg base 1 "Every" "rules" 1 (rRules .every) := by
  obtain ⟨fd, F⟩ := T.d_Every_rules
  refine mtD_mk T.c_Every T.m_Every_rules F sc_Every_rules rfl (F.bindsN fun _ _ _ _ _ _ us hl => match us, hl with | [_], _ => rfl) fun cdv A outer s H E hr ds d h hl => ?_
  obtain ⟨rfl, hl1, rfl⟩ := h
  -- return []
  refine dss_one (ds_ret (de_lst da_nil) rfl)


theorem sc_Counted_rules : FnScope ["self"] ["self"] (defScope s_Counted_rules) := ⟨rfl, rfl, rfl, by decide +kernel, rfl, by decide +kernel, by decide +kernel⟩
theorem ok_Counted_rules (T : Tp K mg) (r : Ru) (lo : Int) (hi : Option Int) : MtD P w K mg base 1 "Counted" "rules" 1 (rRules (.counted r lo hi)) := by
  obtain ⟨fd, F⟩ := T.d_Counted_rules
  refine mtD_mk T.c_Counted T.m_Counted_rules F sc_Counted_rules rfl (F.bindsN fun _ _ _ _ _ _ us hl => match us, hl with | [_], _ => rfl) fun cdv A outer s H E hr ds d h hl => ?_
  obtain ⟨rfl, hl1, rfl⟩ := h
  -- return [self.rule]
  refine dss_one (ds_ret (de_lst (da_cons (de_fld (de_var 0) T.c_Counted T.n_Counted_rule) da_nil)) rfl)


theorem sc_Taken_rules : FnScope ["self"] ["self"] (defScope s_Taken_rules) := ⟨rfl, rfl, rfl, by decide +kernel, rfl, by decide +kernel, by decide +kernel⟩
theorem ok_Taken_rules (T : Tp K mg) (r : Ru) (m : Int) : MtD P w K mg base 1 "Taken" "rules" 1 (rRules (.taken r m)) := by
  obtain ⟨fd, F⟩ := T.d_Taken_rules
  refine mtD_mk T.c_Taken T.m_Taken_rules F sc_Taken_rules rfl (F.bindsN fun _ _ _ _ _ _ us hl => match us, hl with | [_], _ => rfl) fun cdv A outer s H E hr ds d h hl => ?_
  obtain ⟨rfl, hl1, rfl⟩ := h
  -- return [self.rule]
  refine dss_one (ds_ret (de_lst (da_cons (de_fld (de_var 0) T.c_Taken T.n_Taken_rule) da_nil)) rfl)


theorem sc_Ratio_rules : FnScope ["self"] ["self"] (defScope s_Ratio_rules) := ⟨rfl, rfl, rfl, by decide +kernel, rfl, by decide +kernel, by decide +kernel⟩
theorem ok_Ratio_rules (T : Tp K mg) (r r' : Ru) (t1 t2 : Int) : MtD P w K mg base 1 "Ratio" "rules" 1 (rRules (.ratio r r' t1 t2)) := by
  obtain ⟨fd, F⟩ := T.d_Ratio_rules
  refine mtD_mk T.c_Ratio T.m_Ratio_rules F sc_Ratio_rules rfl (F.bindsN fun _ _ _ _ _ _ us hl => match us, hl with | [_], _ => rfl) fun cdv A outer s H E hr ds d h hl => ?_
  obtain ⟨rfl, hl1, rfl⟩ := h
  -- return [self.one, self.other]
  refine dss_one (ds_ret (de_lst (da_cons (de_fld (de_var 0) T.c_Ratio T.n_Ratio_one) (da_cons (de_fld (de_var 0) T.c_Ratio T.n_Ratio_other) da_nil))) rfl)


theorem sc_Touched_rules : FnScope ["self"] ["self"] (defScope s_Touched_rules) := ⟨rfl, rfl, rfl, by decide +kernel, rfl, by decide +kernel, by decide +kernel⟩
theorem ok_Touched_rules (T : Tp K mg) (r : Ru) (low : Bool) : MtD P w K mg base 1 "Touched" "rules" 1 (rRules (.touched r low)) := by
  obtain ⟨fd, F⟩ := T.d_Touched_rules
  refine mtD_mk T.c_Touched T.m_Touched_rules F sc_Touched_rules rfl (F.bindsN fun _ _ _ _ _ _ us hl => match us, hl with | [_], _ => rfl) fun cdv A outer s H E hr ds d h hl => ?_
  obtain ⟨rfl, hl1, rfl⟩ := h
  -- return [self.rule]
  refine dss_one (ds_ret (de_lst (da_cons (de_fld (de_var 0) T.c_Touched T.n_Touched_rule) da_nil)) rfl)


theorem sc_Every_holds : FnScope ["self", "look"] ["self", "look"] (defScope s_Every_holds) := ⟨rfl, rfl, rfl, by decide +kernel, rfl, by decide +kernel, by decide +kernel⟩
theorem ok_Every_holds (T : Tp K mg) : MtD P w K mg base 6 "Every" "holds" 2 (rHolds P w .every) := by
  obtain ⟨fd, F⟩ := T.d_Every_holds
  refine mtD_mk T.c_Every T.m_Every_holds F sc_Every_holds rfl (F.bindsN fun _ _ _ _ _ _ us hl => match us, hl with | [_, _], _ => rfl) fun cdv A outer s H E hr ds d h hl => ?_
  obtain ⟨lo, hi, kvs, st, rfl, hkn, hf, rfl⟩ := h
  -- return True
  refine dss_one (ds_ret de_bl rfl)


end
end Ax
namespace Ax
open PySem PySem.Spec L2
section
variable {P : Program} {w : World} {K : PySem.W.Frag} {mg : Str → Option Value} {base : Heap}
theorem sc_Counted_holds : FnScope ["self", "look", "first", "last", "many"] ["self", "look"] (defScope s_Counted_holds) := ⟨rfl, rfl, rfl, by decide +kernel, rfl, by decide +kernel, by decide +kernel⟩
theorem ok_Counted_holds (T : Tp K mg) (r : Ru) (l : Int) (u : Option Int) : MtD P w K mg base 6 "Counted" "holds" 2 (rHolds P w (.counted r l u)) := by
  obtain ⟨fd, F⟩ := T.d_Counted_holds
  refine mtD_mk T.c_Counted T.m_Counted_holds F sc_Counted_holds rfl (F.bindsN fun _ _ _ _ _ _ us hl => match us, hl with | [_, _], _ => rfl) fun cdv A outer s H E hr ds d h hl => ?_
  obtain ⟨lo, hi, kvs, st, rfl, hkn, hf, rfl⟩ := h
  obtain ⟨q1, q2, q3⟩ := hkn r (by simp [Tr.rules])
  refine dss_cons (ds_unpack (de_call (ok_marks_of T) (hr.mono (by decide)) (da_cons (de_fld (de_var 0) T.c_Counted T.n_Counted_rule) (da_cons (de_meth (ok_Look_taken_by T) (hr.mono (by decide)) (de_var 1) (da_cons (de_fld (de_var 0) T.c_Counted T.n_Counted_rule) da_nil) ⟨r, lo, hi, kvs, st r, rfl, q3, rfl⟩) (da_cons (de_fld (de_var 1) T.c_Look T.n_Look_low) (da_cons (de_fld (de_var 1) T.c_Look T.n_Look_high) da_nil)))) ⟨r, st r, lo, hi, rfl, q1, q2, rfl⟩) (dg_tup (dgs_cons (dg_name 2 sc_Counted_holds.nd) (dgs_cons (dg_name 3 sc_Counted_holds.nd) dgs_nil)) rfl) ?_)
  refine dss_cons (ds_set 4 (de_op o_add (de_op o_sub (de_var 3) (de_var 2)) de_int) ?_ sc_Counted_holds.nd)
  cases u with
  | none =>
    refine dss_one (ds_ret (de_and (k2 := true || true) (de_cmp o_le (de_fld (de_var 0) T.c_Counted T.n_Counted_fewest) (de_var 4)) fun _ => (de_one (de_or (k1 := true) (de_cmp o_isN (de_fld (d := .non) (de_var 0) T.c_Counted T.n_Counted_greatest) de_non) fun z => absurd z (by decide)))) rfl)
  | some j =>
    refine dss_one (ds_ret (de_and (de_cmp o_le (de_fld (de_var 0) T.c_Counted T.n_Counted_fewest) (de_var 4)) fun _ => (de_one (de_or (k1 := false) (de_cmp o_isN (de_fld (d := .int j) (de_var 0) T.c_Counted T.n_Counted_greatest) de_non) fun _ => (de_one (de_cmp o_le (de_var 4) (de_fld (d := .int j) (de_var 0) T.c_Counted T.n_Counted_greatest)))))) rfl)

theorem sc_Taken_holds : FnScope ["self", "look"] ["self", "look"] (defScope s_Taken_holds) := ⟨rfl, rfl, rfl, by decide +kernel, rfl, by decide +kernel, by decide +kernel⟩
theorem ok_Taken_holds (T : Tp K mg) (r : Ru) (m : Int) : MtD P w K mg base 6 "Taken" "holds" 2 (rHolds P w (.taken r m)) := by
  obtain ⟨fd, F⟩ := T.d_Taken_holds
  refine mtD_mk T.c_Taken T.m_Taken_holds F sc_Taken_holds rfl (F.bindsN fun _ _ _ _ _ _ us hl => match us, hl with | [_, _], _ => rfl) fun cdv A outer s H E hr ds d h hl => ?_
  obtain ⟨lo, hi, kvs, st, rfl, hkn, hf, rfl⟩ := h
  obtain ⟨q1, q2, q3⟩ := hkn r (by simp [Tr.rules])
  exact dss_one (ds_ret (de_cmp o_eq (de_ixT (de_meth (ok_Look_taken_by T) (hr.mono (by decide)) (de_var 1) (da_cons (de_fld (de_var 0) T.c_Taken T.n_Taken_rule) da_nil) ⟨r, lo, hi, kvs, st r, rfl, q3, rfl⟩) de_int) (de_fld (de_var 0) T.c_Taken T.n_Taken_mantissa)) rfl)

theorem sc_compared : FnScope ["one", "other", "look", "times", "first", "second"] ["one", "other", "look", "times"] (defScope s_compared) := ⟨rfl, rfl, rfl, by decide +kernel, rfl, by decide +kernel, by decide +kernel⟩
theorem ok_compared (T : Tp K mg) : FnD P w K mg base 4 "compared" 4 (rCompared P w) := by
  obtain ⟨fd, F⟩ := T.d_compared
  refine fnD_mk T.g_compared F sc_compared rfl (F.bindsN fun _ _ _ _ _ _ us hl => match us, hl with | [_, _, _, _], _ => rfl) fun cdv A outer s H E hr ds d h hl => ?_
  obtain ⟨r, r', lo, hi, kvs, st, t1, t2, rfl, hkn, ⟨f1, f2⟩, ⟨f3, f4⟩, rfl⟩ := h
  obtain ⟨q1, q2, q3⟩ := hkn r (by simp)
  obtain ⟨p1, p2, p3⟩ := hkn r' (by simp)
  refine dss_cons (ds_par 4 5 (da_cons (de_call (ok_scaled T) (hr.mono (by decide)) (da_cons (de_meth (ok_Look_taken_by T) (hr.mono (by decide)) (de_var 2) (da_cons (de_var 0) da_nil) ⟨r, lo, hi, kvs, st r, rfl, q3, rfl⟩) (da_cons (de_fld (de_var 0) T.c_Rule T.n_Rule_ground) da_nil)) ⟨st r, r.b, rfl, q1.b2, q1.b10, q2, rfl⟩) (da_cons (de_call (ok_scaled T) (hr.mono (by decide)) (da_cons (de_meth (ok_Look_taken_by T) (hr.mono (by decide)) (de_var 2) (da_cons (de_var 1) da_nil) ⟨r', lo, hi, kvs, st r', rfl, p3, rfl⟩) (da_cons (de_fld (de_var 1) T.c_Rule T.n_Rule_ground) da_nil)) ⟨st r', r'.b, rfl, p1.b2, p1.b10, p2, rfl⟩) da_nil)) ?_ sc_compared.nd rfl)
  refine dss_one (ds_ret (de_op o_sub (de_o (de_o (de_ixT (de_var 4) de_int) (de_ixT (de_var 5) de_int) (o_mulS (.inr ⟨by decide, by decide⟩))) (de_ixT (de_var 3) de_int) (o_mulS (.inr ⟨by omega, by omega⟩))) (de_o (de_o (de_ixT (de_var 5) de_int) (de_ixT (de_var 4) de_int) (o_mulS (.inr ⟨by decide, by decide⟩))) (de_ixT (de_var 3) de_int) (o_mulS (.inr ⟨by omega, by omega⟩)))) ?_)
  rw [Int.mul_one, Int.mul_one]

theorem sc_Ratio_holds : FnScope ["self", "look", "found"] ["self", "look"] (defScope s_Ratio_holds) := ⟨rfl, rfl, rfl, by decide +kernel, rfl, by decide +kernel, by decide +kernel⟩
theorem ok_Ratio_holds (T : Tp K mg) (r r' : Ru) (t1 t2 : Int) : MtD P w K mg base 6 "Ratio" "holds" 2 (rHolds P w (.ratio r r' t1 t2)) := by
  obtain ⟨fd, F⟩ := T.d_Ratio_holds
  refine mtD_mk T.c_Ratio T.m_Ratio_holds F sc_Ratio_holds rfl (F.bindsN fun _ _ _ _ _ _ us hl => match us, hl with | [_, _], _ => rfl) fun cdv A outer s H E hr ds d h hl => ?_
  obtain ⟨lo, hi, kvs, st, rfl, hkn, hf, rfl⟩ := h
  refine dss_cons (ds_set 2 (de_call (ok_compared T) (hr.mono (by decide)) (da_cons (de_fld (de_var 0) T.c_Ratio T.n_Ratio_one) (da_cons (de_fld (de_var 0) T.c_Ratio T.n_Ratio_other) (da_cons (de_var 1) (da_cons (de_fld (de_var 0) T.c_Ratio T.n_Ratio_times) da_nil)))) ⟨r, r', lo, hi, kvs, st, t1, t2, rfl, hkn, hf.1, hf.2, rfl⟩) ?_ sc_Ratio_holds.nd)
  refine dss_cons (ds_if (dt_val (de_fld (d := .bl true) (de_var 0) T.c_Ratio T.n_Ratio_is_more)) (fun hb => ?_) (fun hb => ?_))
  · exact dss_one (ds_ret (de_cmp o_gt (de_var 2) de_int) rfl)
  · exact absurd hb (by decide)

theorem sc_Touched_holds : FnScope ["self", "look", "step", "before", "first", "last", "behind"] ["self", "look"] (defScope s_Touched_holds) := ⟨rfl, rfl, rfl, by decide +kernel, rfl, by decide +kernel, by decide +kernel⟩
theorem ok_Touched_holds (T : Tp K mg) (r : Ru) (low : Bool) : MtD P w K mg base 6 "Touched" "holds" 2 (rHolds P w (.touched r low)) := by
  obtain ⟨fd, F⟩ := T.d_Touched_holds
  refine mtD_mk T.c_Touched T.m_Touched_holds F sc_Touched_holds rfl (F.bindsN fun _ _ _ _ _ _ us hl => match us, hl with | [_, _], _ => rfl) fun cdv A outer s H E hr ds d h hl => ?_
  obtain ⟨lo, hi, kvs, st, rfl, hkn, hf, rfl⟩ := h
  obtain ⟨q1, q2, q3⟩ := hkn r (by simp [Tr.rules])
  refine dss_cons (ds_set 2 (de_meth (ok_Look_taken_by T) (hr.mono (by decide)) (de_var 1) (da_cons (de_fld (de_var 0) T.c_Touched T.n_Touched_rule) da_nil) ⟨r, lo, hi, kvs, st r, rfl, q3, rfl⟩) ?_ sc_Touched_holds.nd)
  refine dss_cons (ds_unpack (de_call (ok_multiples_around T) (hr.mono (by decide)) (da_cons (de_var 2) (da_cons (de_fld (de_var 1) T.c_Look T.n_Look_low) (da_cons (de_fld (de_var 1) T.c_Look T.n_Look_high) (da_cons (de_fld (c := "Rule") (de_fld (d := r.dt) (de_var 0) T.c_Touched T.n_Touched_rule) T.c_Rule T.n_Rule_ground) da_nil)))) ⟨st r, lo, hi, r.b, rfl, q1.b2, q1.b10, q2, rfl⟩) (dg_tup (dgs_cons (dg_name 3 sc_Touched_holds.nd) (dgs_cons (dg_name 4 sc_Touched_holds.nd) (dgs_cons (dg_name 5 sc_Touched_holds.nd) (dgs_cons (dg_name 6 sc_Touched_holds.nd) dgs_nil)))) rfl) ?_)
  refine dss_cons (ds_if (dt_val (de_fld (d := .bl low) (de_var 0) T.c_Touched T.n_Touched_is_low)) (fun hb => ?_) (fun hb => ?_))
  · subst hb
    exact dss_one (ds_ret (de_cmp o_eq (de_var 3) (de_var 4)) rfl)
  · subst hb
    exact dss_nil (dss_one (ds_ret (de_cmp o_eq (de_var 5) (de_var 6)) rfl))

theorem Tr.noAttr (t : Tr) : List.lookup ("holds" : Str) t.fs = none ∧ List.lookup ("rules" : Str) t.fs = none := by
  cases t <;> exact ⟨rfl, rfl⟩
theorem sc_Joined_holds : FnScope ["self", "look", "first"] ["self", "look"] (defScope s_Joined_holds) := ⟨rfl, rfl, rfl, by decide +kernel, rfl, by decide +kernel, by decide +kernel⟩
theorem ok_Joined_holds (T : Tp K mg) {u : Str} {a b : Tr} {k : Nat} (ha : MtD P w K mg base k a.cls "holds" 2 (rHolds P w a)) (hb : MtD P w K mg base k b.cls "holds" 2 (rHolds P w b)) : MtD P w K mg base (k + 1) "Joined" "holds" 2 (rHolds P w (.joined u a b)) := by
  obtain ⟨fd, F⟩ := T.d_Joined_holds
  refine mtD_mk T.c_Joined T.m_Joined_holds F sc_Joined_holds rfl (F.bindsN fun _ _ _ _ _ _ us hl => match us, hl with | [_, _], _ => rfl) fun cdv A outer s H E hr ds d h hl => ?_
  obtain ⟨lo, hi, kvs, st, rfl, hkn, hf, rfl⟩ := h
  have ka : Kn kvs st a.rules := fun r hr => hkn r (List.mem_append_left _ hr)
  have kb : Kn kvs st b.rules := fun r hr => hkn r (List.mem_append_right _ hr)
  refine dss_cons (ds_set 2 (de_meth (c := a.cls) (fs := a.fs) ha hr (de_fld (d := .obj a.cls a.fs) (de_var 0) T.c_Joined T.n_Joined_one) (da_cons (de_var 1) da_nil) ⟨lo, hi, kvs, st, rfl, ka, hf.1, rfl⟩ a.noAttr.1) ?_ sc_Joined_holds.nd)
  refine dss_cons (ds_if (dt_cmp o_eqS (de_fld (d := .str u) (de_var 0) T.c_Joined T.n_Joined_word) de_str) (fun c1 => ?_) (fun c1 => ?_))
  · refine dss_one (ds_ret (de_and (de_var 2) fun _ => (de_one (de_meth (c := b.cls) (fs := b.fs) hb hr (de_fld (d := .obj b.cls b.fs) (de_var 0) T.c_Joined T.n_Joined_other) (da_cons (de_var 1) da_nil) ⟨lo, hi, kvs, st, rfl, kb, hf.2, rfl⟩ b.noAttr.1))) ?_)
    show _ = D.bl (Tr.ev st lo hi (.joined u a b))
    rw [show Tr.ev st lo hi (.joined u a b) = (a.ev st lo hi && b.ev st lo hi) from if_pos (of_decide_eq_true c1)]
  · have n1 := of_decide_eq_false c1
    refine dss_nil (dss_cons (ds_if (dt_cmp o_eqS (de_fld (d := .str u) (de_var 0) T.c_Joined T.n_Joined_word) de_str) (fun c2 => ?_) (fun c2 => ?_)))
    · refine dss_one (ds_ret (de_or (de_var 2) fun _ => (de_one (de_meth (c := b.cls) (fs := b.fs) hb hr (de_fld (d := .obj b.cls b.fs) (de_var 0) T.c_Joined T.n_Joined_other) (da_cons (de_var 1) da_nil) ⟨lo, hi, kvs, st, rfl, kb, hf.2, rfl⟩ b.noAttr.1))) ?_)
      show _ = D.bl (Tr.ev st lo hi (.joined u a b))
      rw [show Tr.ev st lo hi (.joined u a b) = (a.ev st lo hi || b.ev st lo hi) from (if_neg n1).trans (if_pos (of_decide_eq_true c2))]
    · refine dss_nil (dss_one (ds_ret (de_cmp o_neB (de_var 2) (de_meth (c := b.cls) (fs := b.fs) hb hr (de_fld (d := .obj b.cls b.fs) (de_var 0) T.c_Joined T.n_Joined_other) (da_cons (de_var 1) da_nil) ⟨lo, hi, kvs, st, rfl, kb, hf.2, rfl⟩ b.noAttr.1)) ?_))
      show _ = D.bl (Tr.ev st lo hi (.joined u a b))
      rw [show Tr.ev st lo hi (.joined u a b) = (!decide (a.ev st lo hi = b.ev st lo hi)) from (if_neg n1).trans (if_neg (of_decide_eq_false c2))]

theorem sc_Not_holds : FnScope ["self", "look"] ["self", "look"] (defScope s_Not_holds) := ⟨rfl, rfl, rfl, by decide +kernel, rfl, by decide +kernel, by decide +kernel⟩
theorem ok_Not_holds (T : Tp K mg) {a : Tr} {k : Nat} (ha : MtD P w K mg base k a.cls "holds" 2 (rHolds P w a)) : MtD P w K mg base (k + 1) "Not" "holds" 2 (rHolds P w (.nt a)) := by
  obtain ⟨fd, F⟩ := T.d_Not_holds
  refine mtD_mk T.c_Not T.m_Not_holds F sc_Not_holds rfl (F.bindsN fun _ _ _ _ _ _ us hl => match us, hl with | [_, _], _ => rfl) fun cdv A outer s H E hr ds d h hl => ?_
  obtain ⟨lo, hi, kvs, st, rfl, hkn, hf, rfl⟩ := h
  exact dss_one (ds_ret (de_not (de_meth (c := a.cls) (fs := a.fs) ha hr (de_fld (d := .obj a.cls a.fs) (de_var 0) T.c_Not T.n_Not_one) (da_cons (de_var 1) da_nil) ⟨lo, hi, kvs, st, rfl, hkn, hf, rfl⟩ a.noAttr.1)) rfl)
end
end Ax
namespace Ax
open PySem PySem.Spec L2
section
variable {P : Program} {w : World} {K : PySem.W.Frag} {mg : Str → Option Value} {base : Heap}
theorem MtD.mono {k k' : Nat} {c m : Str} {n : Nat} {rel : List D → D → Prop} (h : MtD P w K mg base k c m n rel) (hk : k ≤ k') : MtD P w K mg base k' c m n rel := by
  obtain ⟨f, fd, ps, h1, h2, h3, h4⟩ := h.ex
  exact ⟨f, fd, ps, h1, h2, h3.mono hk, h4⟩
theorem ok_holds (T : Tp K mg) : ∀ t : Tr, MtD P w K mg base (6 + t.depth) t.cls "holds" 2 (rHolds P w t)
  | .every => ok_Every_holds T
  | .counted r lo hi => ok_Counted_holds T r lo hi
  | .taken r m => ok_Taken_holds T r m
  | .ratio r r' t1 t2 => ok_Ratio_holds T r r' t1 t2
  | .touched r low => ok_Touched_holds T r low
  | .joined u a b => ok_Joined_holds (k := 6 + (a.depth + b.depth)) T ((ok_holds T a).mono (by omega)) ((ok_holds T b).mono (by omega))
  | .nt a => ok_Not_holds T (ok_holds T a)
theorem sc_Joined_rules : FnScope ["self"] ["self"] (defScope s_Joined_rules) := ⟨rfl, rfl, rfl, by decide +kernel, rfl, by decide +kernel, by decide +kernel⟩
theorem ok_Joined_rules (T : Tp K mg) {u : Str} {a b : Tr} {k : Nat} (ha : MtD P w K mg base k a.cls "rules" 1 (rRules a)) (hb : MtD P w K mg base k b.cls "rules" 1 (rRules b)) : MtD P w K mg base (k + 1) "Joined" "rules" 1 (rRules (.joined u a b)) := by
  obtain ⟨fd, F⟩ := T.d_Joined_rules
  refine mtD_mk T.c_Joined T.m_Joined_rules F sc_Joined_rules rfl (F.bindsN fun _ _ _ _ _ _ us hl => match us, hl with | [_], _ => rfl) fun cdv A outer s H E hr ds d h hl => ?_
  obtain ⟨rfl, hn, rfl⟩ := h
  have hn : a.rules.length + b.rules.length ≤ 1000 := by rw [← List.length_append]; exact hn
  refine dss_one (ds_ret (de_op (o_cat (xs := a.rules.map Ru.dt) (ys := b.rules.map Ru.dt) (by rw [List.length_map, List.length_map]; omega)) (de_meth0 (c := a.cls) (fs := a.fs) ha hr (de_fld (d := .obj a.cls a.fs) (de_var 0) T.c_Joined T.n_Joined_one) ⟨rfl, by omega, rfl⟩ a.noAttr.2) (de_meth0 (c := b.cls) (fs := b.fs) hb hr (de_fld (d := .obj b.cls b.fs) (de_var 0) T.c_Joined T.n_Joined_other) ⟨rfl, by omega, rfl⟩ b.noAttr.2)) ?_)
  show D.lst _ = D.lst ((a.rules ++ b.rules).map Ru.dt)
  rw [List.map_append]
theorem sc_Not_rules : FnScope ["self"] ["self"] (defScope s_Not_rules) := ⟨rfl, rfl, rfl, by decide +kernel, rfl, by decide +kernel, by decide +kernel⟩
theorem ok_Not_rules (T : Tp K mg) {a : Tr} {k : Nat} (ha : MtD P w K mg base k a.cls "rules" 1 (rRules a)) : MtD P w K mg base (k + 1) "Not" "rules" 1 (rRules (.nt a)) := by
  obtain ⟨fd, F⟩ := T.d_Not_rules
  refine mtD_mk T.c_Not T.m_Not_rules F sc_Not_rules rfl (F.bindsN fun _ _ _ _ _ _ us hl => match us, hl with | [_], _ => rfl) fun cdv A outer s H E hr ds d h hl => ?_
  obtain ⟨rfl, hn, rfl⟩ := h
  exact dss_one (ds_ret (de_meth0 (c := a.cls) (fs := a.fs) ha hr (de_fld (d := .obj a.cls a.fs) (de_var 0) T.c_Not T.n_Not_one) ⟨rfl, hn, rfl⟩ a.noAttr.2) rfl)
theorem ok_rules (T : Tp K mg) : ∀ t : Tr, MtD P w K mg base (1 + t.depth) t.cls "rules" 1 (rRules t)
  | .every => ok_Every_rules T
  | .counted r lo hi => ok_Counted_rules T r lo hi
  | .taken r m => ok_Taken_rules T r m
  | .ratio r r' t1 t2 => ok_Ratio_rules T r r' t1 t2
  | .touched r low => ok_Touched_rules T r low
  | .joined u a b => ok_Joined_rules (k := 1 + (a.depth + b.depth)) T ((ok_rules T a).mono (by omega)) ((ok_rules T b).mono (by omega))
  | .nt a => ok_Not_rules T (ok_rules T a)
def Ru.tup (r : Ru) : D := .tup [.int r.b, .str r.k, .tup (r.hs.map .int), .int r.m]
theorem lay_ints : ∀ l : List Int, PyData.canLayAll0 (D.pys (l.map D.int)) = true ∧ PyData.depthAll (D.pys (l.map D.int)) = 0
  | [] => by simp [D.pys, PyData.canLayAll0, PyData.depthAll]
  | x :: l => by
    have := lay_ints l
    simp only [List.map_cons, D.pys, D.py, PyData.canLayAll0, PyData.depthAll, PyData.canLay0, PyData.depth]
    simp [this]
theorem Ru.shaped {r : Ru} (ho : r.Ok) : SeqAt.shaped r.tup.py = true := by
  have hk : PyData.strOk r.k = true := by rcases ho.kk with h | h | h <;> rw [h] <;> decide +kernel
  unfold SeqAt.shaped
  simp only [Ru.tup, D.py, D.pys, PyData.canLay0, PyData.canLayAll0, PyData.depth, PyData.depthAll, (lay_ints r.hs).1, (lay_ints r.hs).2, hk]
  rfl
theorem Ru.tupPy (r : Ru) : r.tup.isPy = true := by
  simp only [Ru.tup, D.isPy, D.isPys, isPys_ints]
  rfl
def rRuleEq2 : List D → D → Prop := fun ds d => ∃ r t : Ru, r.Ok ∧ t.Ok ∧ ds = [r.dt, t.dt] ∧ d = .bl (decide (r = t))
theorem foldl_len {α : Type} [DecidableEq α] {n : Nat} : ∀ (l : List α), l.length ≤ n → (l.foldl insK []).length ≤ n := by
  intro l h
  have : ∀ (l acc : List α), (l.foldl insK acc).length ≤ acc.length + l.length := by
    intro l
    induction l with
    | nil => intro acc; simp
    | cons x l ih =>
      intro acc
      have := ih (insK acc x)
      have := insK_len acc x
      simp
      omega
  have := this l []
  simp at this
  omega
theorem foldl_mem {α : Type} [DecidableEq α] (l : List α) (x : α) : x ∈ l.foldl insK [] ↔ x ∈ l := by
  have : ∀ (l acc : List α), x ∈ l.foldl insK acc ↔ x ∈ acc ∨ x ∈ l := by
    intro l
    induction l with
    | nil => intro acc; simp
    | cons y l ih =>
      intro acc
      rw [List.foldl_cons, ih, mem_insK, List.mem_cons, or_assoc]
  rw [this]
  simp
theorem insK_nodup {α : Type} [DecidableEq α] {l : List α} {x : α} (h : l.Nodup) : (insK l x).Nodup := by
  unfold insK
  split
  · exact h
  · rename_i c
    exact List.nodup_append.mpr ⟨h, by simp, fun a ha b hb e => by simp at hb; subst hb; exact c (e ▸ ha)⟩
theorem foldl_nodup {α : Type} [DecidableEq α] (l : List α) : (l.foldl insK []).Nodup := by
  have : ∀ (l acc : List α), acc.Nodup → (l.foldl insK acc).Nodup := by
    intro l
    induction l with
    | nil => intro acc h; exact h
    | cons y l ih => intro acc h; exact ih _ (insK_nodup h)
  exact this l [] List.nodup_nil
/-- whether a data thing is this rule -/
noncomputable def isRu (r : Ru) (d : D) : Bool := @decide (d = r.dt) (Classical.propDecidable _)
theorem dt_inj {r t : Ru} (h : r.dt = t.dt) : r = t := by
  obtain ⟨b, k, hs, m⟩ := r
  obtain ⟨b', k', hs', m'⟩ := t
  have h := (D.obj.inj h).2
  simp only [List.cons.injEq, Prod.mk.injEq, D.int.injEq, D.str.injEq, D.tup.injEq, true_and, and_true] at h
  obtain ⟨h1, h2, h3, h4⟩ := h
  subst h1 h2 h4
  have : hs = hs' := by
    have e := congrArg (List.map fun d => match d with | D.int i => i | _ => 0) h3
    rw [List.map_map, List.map_map] at e
    simpa [Function.comp_def] using e
  rw [this]
theorem isRu_dt {r t : Ru} : isRu r t.dt = decide (t = r) := by
  unfold isRu
  by_cases h : t = r
  · subst h; simp
  · have : ¬ t.dt = r.dt := fun z => h (dt_inj z)
    simp [h, this]
theorem sc_Rule_eq : FnScope ["self", "other", "mine"] ["self", "other"] (defScope s_Rule_eq) := ⟨rfl, rfl, rfl, by decide +kernel, rfl, by decide +kernel, by decide +kernel⟩
theorem ok_Rule_eq (T : Tp K mg) : MtD P w K mg base 1 "Rule" "__eq__" 2 rRuleEq2 := by
  obtain ⟨fd, F⟩ := T.d_Rule_eq
  refine mtD_mk T.c_Rule T.m_Rule_eq F sc_Rule_eq rfl (F.bindsN fun _ _ _ _ _ _ us hl => match us, hl with | [_, _], _ => rfl) fun cdv A outer s H E hr ds d h hl => ?_
  obtain ⟨r, t, ho, ht, rfl, rfl⟩ := h
  refine dss_cons (ds_if (dt_not (dt_val (de_isC (c := "Rule") (de_var 1) T.b_isinstance T.g_Rule T.ins_Rule))) (fun hb => ?_) (fun hb => ?_))
  · exact absurd hb (by decide)
  · refine dss_nil (dss_cons (ds_set 2 (de_tup (da_cons (de_fld (de_var 0) T.c_Rule T.n_Rule_ground) (da_cons (de_fld (de_var 0) T.c_Rule T.n_Rule_way) (da_cons (de_fld (de_var 0) T.c_Rule T.n_Rule_heads) (da_cons (de_fld (de_var 0) T.c_Rule T.n_Rule_limit) da_nil))))) ?_ sc_Rule_eq.nd))
    refine dss_one (ds_ret (de_cmp (o_eqD (x := r.tup) (y := t.tup) hr.units r.tupPy t.tupPy (r.shaped ho) (t.shaped ht)) (de_var 2) (de_tup (da_cons (de_fld (de_var 1) T.c_Rule T.n_Rule_ground) (da_cons (de_fld (de_var 1) T.c_Rule T.n_Rule_way) (da_cons (de_fld (de_var 1) T.c_Rule T.n_Rule_heads) (da_cons (de_fld (de_var 1) T.c_Rule T.n_Rule_limit) da_nil)))))) ?_)
    show D.bl (PyData.eqv r.tup.py t.tup.py) = _
    unfold Ru.tup
    rw [rule_eqv]

theorem sc_different_rules : FnScope ["rules", "found", "rule", "one"] ["rules"] (defScope s_different_rules) := ⟨rfl, rfl, rfl, by decide +kernel, rfl, by decide +kernel, by decide +kernel⟩
theorem ok_different_rules (T : Tp K mg) : FnD P w K mg base 2 "different_rules" 1 rDiff := by
  obtain ⟨fd, F⟩ := T.d_different_rules
  refine fnD_mk T.g_different_rules F sc_different_rules rfl (F.bindsN fun _ _ _ _ _ _ us hl => match us, hl with | [_], _ => rfl) fun cdv A outer s H E hr ds d h hl => ?_
  obtain ⟨rs, rfl, hn, ho, rfl⟩ := h
  refine dss_cons (ds_own 1 da_nil ?_ sc_different_rules.nd)
  refine dss_cons (ds_for (di_list (de_var 0)) (fun i G => ∃ u v, G = [.d (.lst (rs.map Ru.dt)), .ol (((rs.take i).foldl insK []).map Ru.dt), u, v] ∧ v = .un) ⟨_, _, rfl, rfl⟩ (fun i x G' hx hG => ?_) (fun G' hG => ?_) rfl)
  · obtain ⟨u, v, rfl, rfl⟩ := hG
    rw [List.getElem?_map] at hx
    cases hy : rs[i]? with
    | none => rw [hy] at hx; cases hx
    | some r =>
      rw [hy] at hx
      cases hx
      have hor := ho r (List.mem_of_getElem? hy)
      have tk : (rs.take (i + 1)).foldl insK [] = insK ((rs.take i).foldl insK []) r := by
        rw [List.take_succ, hy, Option.toList_some, List.foldl_append]; rfl
      have len : ((rs.take i).foldl insK []).length ≤ i := foldl_len _ (List.length_take_le i rs)
      have mem : ∀ t ∈ (rs.take i).foldl insK [], t ∈ rs := fun t ht => List.mem_of_mem_take ((foldl_mem _ t).mp ht)
      have il := (List.getElem?_eq_some_iff.mp hy).1
      generalize hf : (rs.take i).foldl insK [] = f at tk len mem ⊢
      refine ⟨_, _, dg_name 2 sc_different_rules.nd, ?_⟩
      refine dss_one (ds_if (dt_thaw 1 (xs := f.map Ru.dt) (dt_cmp (o_eqN hr.units0) (de_lcK [("one", 3)] (lck (di_list (de_var 1)) (isRu r) id (freeC free0) (by rw [List.length_map]; omega) fun x hx => ?_) (blk_at ["rules", "found", "rule", "one"] (defScope s_different_rules)) sc_different_rules.nd rfl) (de_lst da_nil))) (fun hb => ?_) (fun hb => ?_))
      · obtain ⟨t, ht, rfl⟩ := List.mem_map.mp hx
        exact ⟨_, _, bkAll fun _ _ _ _ _ => (dg_name 3 sc_different_rules.nd), by decide, rfl, bkAll fun _ _ _ _ _ => (dts_one (dt_cmp (o_eqOwn (ok_Rule_eq T) (hr.mono (by decide)) ⟨t, r, ho t (mem t ht), hor, rfl, by rw [isRu_dt]⟩) (de_var 3) (de_var 2))), fun _ => bkAll fun _ _ _ _ _ => (de_var 3)⟩
      · refine dss_one (ds_app 1 (de_var 2) rfl rfl (by rw [List.length_map]; omega) ⟨.d r.dt, .un, ?_, rfl⟩)
        have hn : r ∉ f := fun z => by
          rw [List.filter_map] at hb
          have : (f.filter (isRu r ∘ Ru.dt)) ≠ [] := fun e => by
            have := List.filter_eq_nil_iff.mp e r z
            simp [isRu_dt] at this
          cases q : f.filter (isRu r ∘ Ru.dt) with
          | nil => exact this q
          | cons a l => rw [q] at hb; simp at hb
        rw [tk, show insK f r = f ++ [r] from if_neg hn, List.map_append]
        rfl
      · refine dss_nil ⟨.d r.dt, .un, ?_, rfl⟩
        have hn : r ∈ f := Classical.byContradiction fun z => by
          have : (f.map Ru.dt).filter (isRu r) = [] := List.filter_eq_nil_iff.mpr fun a ha => by
            obtain ⟨t, ht, rfl⟩ := List.mem_map.mp ha
            rw [isRu_dt]
            simp
            exact fun e => z (e ▸ ht)
          rw [this] at hb
          simp at hb
        rw [tk, show insK f r = f from if_pos hn]
        rfl
  · obtain ⟨u, v, rfl, rfl⟩ := hG
    rw [List.length_map, List.take_length]
    exact dss_frz 1 rfl (dss_one (ds_ret (de_var 1) rfl))
end
end Ax
namespace Ax
open PySem PySem.Spec L2
theorem turn_long {P : Program} {w : World} {K : PySem.W.Frag} {tg : Expr} (it : Addr) (lo c : Int) (n : Nat) : Turn P w K tg (Itc lo c n) [it] it (fun i h => IsLongIter h it (lo + (i : Nat) * c) ((n : Int) - (i : Nat)) c) where
  mem := List.mem_singleton.mpr rfl
  obj := fun i h st b hb => by
    obtain rfl := List.mem_singleton.mp hb
    exact ⟨_, st, fun v z => nomatch z⟩
  keep := fun i h h' st k => k it (List.mem_singleton.mpr rfl) _ st
  item := by
    intro X hP hw hK hc i pins s σ H E I hf st hg
    subst hP hw hK
    obtain ⟨f0, f1, f2, f3, f4, f5⟩ := hf it (List.mem_singleton.mpr rfl)
    refine (Walks.longrange (prog := X.prog) (w := X.w) (I.ok.hd hc) it lo c n).item i s _ _ hg st fun v h' tk hv st' kk => ?_
    obtain ⟨t, rfl⟩ := hv
    have I1 : Inv X pins σ H { s with heap := h', toks := tk } := I.turned (fun b o hb e => kk b o (by simpa using hb) e) f0 f1 f3 f4 f5
    refine ⟨_, rfl, go_of (s := { s with heap := h', toks := tk }) (n := "longrange_iterator") st' rfl rfl (by decide) ?_⟩
    exact ⟨.int (lo + (i : Nat) * c), H, I1, ⟨t, rfl⟩, ⟨rfl, rfl⟩, st', fun b hb => (hf b hb).1⟩
  done := by
    intro X hP hw hK hc i pins s σ H E I hf st hg
    subst hP hw hK
    obtain ⟨f0, f1, f2, f3, f4, f5⟩ := hf it (List.mem_singleton.mpr rfl)
    have hg : n ≤ i := hg
    exact wpAny_pyNext_long_end (I.ok.hd hc) st (by omega) fun h' eb => ⟨rfl, I.turned (t' := s.toks) (fun b o hb e => eb b o hb e) f0 f1 f3 f4 f5⟩
  self := fun A i s Q E st h => wpAny_pyIter_longiter st h
/-- range(i, j, c) of any bounds, n items -/
def iRngL (ta : TA) : TI := fun σ H R => ta σ H fun vs H1 => ∃ (i j c : Int) (n : Nat), vs = [.int i, .int j, .int c] ∧ 0 < c ∧ c < 2 ^ 200 ∧ Builtin.Range.rangeSize i j c = n ∧ R (Itc i c n) H1
section
variable {X : Cx} {G G0 G1 G2 G' : List Sl} {e it tg elt a b c : Expr} {es ts ifs : List Expr} {x d : D} {xs ds res : List D} {is js vs : List Nat} {pos pos' p : Pos} {E : DEnds} {body : List Stmt} {scope : Scope}
theorem pi_rangeL {ta : TA} (hg : Gl X "range") (hm : X.mg "range" = none) (ha : PA X [a, b, c] ta)
    (hs : starEach [a, b, c] X.env = (false, eval a X.env) :: starEach [b, c] X.env := by rfl) (hpl : (backTo pos (starEach [b, c] X.env)).any (·.1) = false := by rfl) : PI X tg (.Call (.Name "range" p) [a, b, c] [] pos) (iRngL ta) := by
  refine ⟨fun pins s σ H R I h => ?_⟩
  refine PyProof.Rows.Call_ (ld_blt I hg hm (by decide +kernel : bootBuiltins "range" = some (.type "range")) (PyProof.Rows.callWith_type1 (thn (ha.run pos pins s σ H _ I h) fun us s1 ⟨vs, H1, I1, r1, q1⟩ => ?_) hs hpl))
  obtain ⟨i, j, k, n, rfl, k0, k1, hn, q⟩ := q1
  rcases r1 with _ | ⟨r, _ | ⟨r', _ | ⟨r'', _ | _⟩⟩⟩
  obtain ⟨t, rfl⟩ := r
  obtain ⟨t', rfl⟩ := r'
  obtain ⟨t'', rfl⟩ := r''
  have room : Builtin.divisionGoesByPylong (j - i) k = false := PyProof.noPylong_of_log2 (Nat.lt_of_lt_of_le (PySem.Flt.log2_lt_of (k := 200) (by decide) (by omega)) (by decide))
  refine call_range_3 (by omega) ?_ (.inl room)
  have I2 : Inv X pins σ H1 { s1 with heap := s1.heap.push { cls := .type "range", data := .fields #[.int i t, .int j t', .int k t''] } } := I1.kept (t' := s1.toks) fun b o e => Heap.get?_push_of_some _ e
  have e1 : i + ((0 : Nat) : Int) * k = i := by simp
  have e2 : (n : Int) - ((0 : Nat) : Int) = Builtin.Range.rangeSize i j k := by rw [hn]; simp
  by_cases sm : Builtin.Range.small i j k = true
  · refine wpAny_pyIter_range (IsRange.new ..) sm (pi_one (tk := s1.toks) I2 _ (turn_rangeC _ i k n) ?_ q)
    show IsRangeIter _ _ (i + ((0 : Nat) : Int) * k) ((n : Int) - ((0 : Nat) : Int)) k
    rw [e1, e2]
    exact Heap.get?_push_size _ rfl
  · refine wpAny_pyIter_longrange (IsRange.new ..) (by simpa using sm) (pi_one (tk := s1.toks) I2 _ (turn_long _ i k n) ?_ q)
    show IsLongIter _ _ (i + ((0 : Nat) : Int) * k) ((n : Int) - ((0 : Nat) : Int)) k
    rw [e1, e2]
    exact Heap.get?_push_size _ rfl
theorem di_rangeL {i j k : Int} {n : Nat} (h : DA X G [a, b, c] [.int i, .int j, .int k] G') (hm : X.mg "range" = none) (h0 : 0 < k) (h1 : k < 2 ^ 200) (hn : Builtin.Range.rangeSize i j k = n) (hg : Gl X "range" := by rfl)
    (hs : starEach [a, b, c] X.env = (false, eval a X.env) :: starEach [b, c] X.env := by rfl) (hpl : (backTo pos (starEach [b, c] X.env)).any (·.1) = false := by rfl) : DI X G tg (.Call (.Name "range" p) [a, b, c] [] pos) (rngD i k n) G' :=
  ⟨_, pi_rangeL hg hm pa_D hs hpl, fun σ H R B Rr hh kk => h.use hh fun vs H1 B1 q1 e1 a1 => by
    cases a1 with
    | cons x1 a1 =>
      cases a1 with
      | cons x2 a1 =>
        cases a1 with
        | cons x3 a1 =>
          cases a1
          cases x1
          cases x2
          cases x3
          refine ⟨i, j, k, n, rfl, h0, h1, hn, kk _ H1 B1 q1 e1 ⟨fun i H2 hi s => by rw [rngD_len] at hi; exact hi, fun H2 s => by rw [rngD_len]; exact Nat.le_refl _, fun m H2 x H3 d R2 B2 σ2 G2 hd s1 s2 hh2 y => ?_⟩⟩
          obtain ⟨rfl, rfl⟩ := y
          obtain ⟨_, rfl⟩ := rngD_get hd
          exact ⟨B2, hh2, ext_refl B2, .int _⟩⟩
/-- x = {k: True} -/
theorem ds_ownD1 (i : Nat) {x : Str} {k j1 j2} {p1 p2 dpos : Pos} (hk : E.nx (G.set i (.od [k]))) (hN : X.N.Nodup) (hi : X.N[i]? = some x := by rfl) (hx : Loc X.env.scope x := by first | exact Or.inl rfl | exact Or.inr rfl) (hs : swapsWith (.Dict [some (.Constant (.int k) j1 p1)] [.Constant (.bool true) j2 p2] dpos) (some (.Name x pos')) pos.line X.env = pure false := by rfl) (hf : X.fn x = true ∨ X.env.scope.names.lookup x = some .local := by first | exact .inl rfl | exact .inr rfl) : DS X G (.Assign [.Name x pos'] (.Dict [some (.Constant (.int k) j1 p1)] [.Constant (.bool true) j2 p2] dpos) pos) E :=
  .of (ps_set hN hi hx (pe_disp (pps_cons pe_int pe_bl pps_nil) rfl rfl (by simp) (by simp)) hs hf) fun σ H R B hh p hp => by
    have hb : B p = none := by
      cases q : B p with
      | none => rfl
      | some u => rw [hh.exB _ _ q] at hp; cases hp
    have hR : R p = none := by
      cases q : R p with
      | none => rfl
      | some u => rw [hh.exR _ _ q] at hp; cases hp
    refine ⟨upd_same, [(Sum.inl k, .bl true)], rfl, by simp, ?_⟩
    rw [upd_upd]
    exact ⟨_, B, hh.own hp i (.od (ks := [k]) hR hb upd_same), ext_refl B, hk⟩
/-- x, y = e, {k: True} -/
theorem ds_parD (i j : Nat) {x y : Str} {k j1 j2} {p1 p2 dpos px py pt : Pos} {kt k2 pt2} (ha : DE X G a d G1) (hk : E.nx ((G1.set i (.d d)).set j (.od [k]))) (hN : X.N.Nodup) (hc : X.calm = true) (hi : X.N[i]? = some x := by rfl) (hj : X.N[j]? = some y := by rfl) (hij : i ≠ j := by decide)
    (hx : X.env.scope.names.lookup x = some .local := by rfl) (hy : X.env.scope.names.lookup y = some .local := by rfl)
    (hw : swappedStores [.Tuple [.Name x px, .Name y py] kt pt] (.Tuple [a, .Dict [some (.Constant (.int k) j1 p1)] [.Constant (.bool true) j2 p2] dpos] k2 pt2) X.env = pure (some [x, y]) := by rfl)
    (hst : starEach [a, .Dict [some (.Constant (.int k) j1 p1)] [.Constant (.bool true) j2 p2] dpos] X.env = (false, eval a X.env) :: starEach [.Dict [some (.Constant (.int k) j1 p1)] [.Constant (.bool true) j2 p2] dpos] X.env := by rfl)
    (hst2 : starEach [.Dict [some (.Constant (.int k) j1 p1)] [.Constant (.bool true) j2 p2] dpos] X.env = (false, eval (.Dict [some (.Constant (.int k) j1 p1)] [.Constant (.bool true) j2 p2] dpos) X.env) :: starEach [] X.env := by rfl)
    (hs : swapsWithSole [.Tuple [.Name x px, .Name y py] kt pt] (.Tuple [a, .Dict [some (.Constant (.int k) j1 p1)] [.Constant (.bool true) j2 p2] dpos] k2 pt2) pos.line X.env = pure false := by rfl) : DS X G (.Assign [.Tuple [.Name x px, .Name y py] kt pt] (.Tuple [a, .Dict [some (.Constant (.int k) j1 p1)] [.Constant (.bool true) j2 p2] dpos] k2 pt2) pos) E :=
  .of (ps_par hc hN hi hj hij hx hy (pa_cons pe_D (pa_cons (pe_disp (pps_cons pe_int pe_bl pps_nil) rfl rfl (by simp) (by simp)) pa_nil hst2) hst) hw hs) fun σ H R B hh => ha.use hh fun v H1 B1 h1 e1 a1 => fun p hp => by
    have hb : B1 p = none := by
      cases q : B1 p with
      | none => rfl
      | some u => rw [h1.exB _ _ q] at hp; cases hp
    have hR : R p = none := by
      cases q : R p with
      | none => rfl
      | some u => rw [h1.exR _ _ q] at hp; cases hp
    refine ⟨upd_same, [(Sum.inl k, .bl true)], rfl, by simp, ?_⟩
    rw [upd_upd]
    exact ⟨v, .ref p, rfl, _, B1, (h1.set a1 i).own hp j (.od (ks := [k]) hR hb upd_same), e1, hk⟩
end
/-! ### a def that hands back a new list of one's own -/
def kN (K : PySem.W.Frag) (R B : Hp) (xs : List D) : VK := fun v H' => ∃ σ' G' B' p vs, v = .ref p ∧ Hld K R B' H' σ' G' ∧ Same B B' ∧ R p = none ∧ B' p = none ∧ H' p = some (.lst vs) ∧ AtL K B' vs xs
def endN (K : PySem.W.Frag) (R B : Hp) (xs : List D) : Ends := { nx := fun _ _ => False, rt := kN K R B xs, bk := fun _ _ => False, ct := fun _ _ => False }
structure DSsN (X : Cx) (G : List Sl) (st : List Stmt) (xs : List D) : Prop where
  run : ∀ (pins : List (Addr × Obj)) (s : Shared) (σ : L2.St) (H R B : Hp), Inv X pins σ H s → Hld X.K R B H σ G → wpAny (model X.prog X.w) X.A (execs st X.env) (SP X pins (endN X.K R B xs)) X.xe s
def spN (K : PySem.W.Frag) (n : Nat) (rel : List D → List D → Prop) : Sp := fun vs H Q _ => ∃ B ds xs, Same B H ∧ AtL K B vs ds ∧ ds.length = n ∧ rel ds xs ∧ ∀ p H' B' vs', Same H H' → Same B B' → Same B' H' → Nw B H B' → H p = none → B' p = none → H' p = some (.lst vs') → AtL K B' vs' xs → Q (.ref p) H'
structure FnN (P : Program) (w : World) (K : PySem.W.Frag) (mg : Str → Option Value) (base : Heap) (k : Nat) (x : Str) (n : Nat) (rel : List D → List D → Prop) : Prop where
  ex : ∃ f fd ps, mg x = some (.ref f) ∧ PySem.W.keepIn K (.ref f) = true ∧ FnOk P w K mg base CX0 k f fd ps (spN K n rel) ∧ Binds K fd ps []
section
variable {X : Cx} {G G0 G1 G2 G' : List Sl} {e it tg elt a b c : Expr} {es ts ifs : List Expr} {x d : D} {xs ds res : List D} {is js vs : List Nat} {pos pos' p : Pos} {E : DEnds} {body sts : List Stmt} {st : Stmt} {scope : Scope} {k n : Nat} {f : Str}
theorem kN.up {K : PySem.W.Frag} {R B B' : Hp} {v : V} {H : Hp} (s : Same B B') (h : kN K R B' xs v H) : kN K R B xs v H := by
  obtain ⟨σ', G', B2, p, vs, e, h1, h2, h3⟩ := h
  exact ⟨σ', G', B2, p, vs, e, h1, s.trans h2, h3⟩
theorem dsn_cons (h : DS X G st { nx := fun G' => DSsN X G' sts xs, rt := fun _ _ => False }) : DSsN X G (st :: sts) xs := ⟨fun pins s σ H R B I hh => by
  refine wpAny_execs_cons (thn (h.run pins s σ H R B I hh) fun f s1 q => ?_)
  cases f with
  | next =>
    obtain ⟨σ', H', I', G', B', h1, h2, h3⟩ := q
    exact thn (h3.run pins s1 σ' H' R B' I' h1) fun f s2 q2 => SP.imp q2 (fun _ _ z => z) (fun _ _ z => kN.up h2 z) (fun _ _ z => z) fun _ _ z => z
  | ret v => obtain ⟨_, _, _, _, _, _, _, _, _, _, _, _, z⟩ := q; exact False.elim z
  | brk => obtain ⟨_, _, _, _, _, _, _, z⟩ := q; exact False.elim z
  | cont => obtain ⟨_, _, _, _, _, _, _, z⟩ := q; exact False.elim z⟩
theorem dsn_ret {lpos : Pos} (h : DA X G es xs G') (hl : xs.length ≤ 1000000 := by first | decide | exact Nat.le_of_ble_eq_true rfl) : DSsN X G [.Return (some (.List es lpos)) pos] xs := ⟨fun pins s σ H R B I hh => by
  refine wpAny_execs_cons (thn ((ps_ret (pe_lst (pos := lpos) (pa_D (X := X) (es := es)))).run pins s σ H (endN X.K R B xs) I ?_) fun f s1 q => ?_)
  · refine h.use hh fun vs H1 B1 h1 e1 a1 => ⟨by rw [a1.length]; exact Nat.le_trans hl (by decide), fun p hp => ?_⟩
    have hb : B1 p = none := by
      cases q : B1 p with
      | none => rfl
      | some u => rw [h1.exB _ _ q] at hp; cases hp
    have hR : R p = none := by
      cases q : R p with
      | none => rfl
      | some u => rw [h1.exR _ _ q] at hp; cases hp
    exact ⟨σ, G', B1, p, vs, rfl, h1.junk (ext_new hp), e1, hR, hb, upd_same, a1⟩
  · cases f with
    | next => obtain ⟨_, _, _, z⟩ := q; exact False.elim z
    | ret v => exact q
    | brk => exact q
    | cont => exact q⟩
variable {P : Program} {w : World} {K : PySem.W.Frag} {mg : Str → Option Value} {base : Heap} {y qual : Str} {fa : Addr} {fd : FuncData} {N ps : List Str} {dvs : List V}
theorem ok_N {rel : List D → List D → Prop} (F : FunD K y qual (defArgs st) (defBody st) (defScope st) dvs [] fa fd) (S : FnScope N ps (defScope st)) (hn : ps.length = n)
    (body : ∀ (cdv : Value) (A : Around) (outer : List Env) (s : Shared) (H : Hp) (E : XK), Room k (cx P w K mg base N qual st fa cdv A outer s H E).A → ∀ ds xs, rel ds xs → ds.length = n →
      DSsN (cx P w K mg base N qual st fa cdv A outer s H E) (slots N ds) (defBody st) xs) : FnOk P w K mg base CX0 (k + 1) fa fd ps (spN K n rel) := by
  refine F.ok S (fun vs H Q E h => ?_) (fun cdv A outer s H vs Q E hr h => ?_)
  · obtain ⟨B, ds, xs, _, al, hl, _⟩ := h
    rw [al.length, hl, hn]
  · obtain ⟨B, ds, xs, sB, al, hl, hrel, kq⟩ := h
    have hb := body cdv A outer s H E hr ds xs hrel hl
    obtain ⟨R, hR, hS⟩ := rest_of B H (fun _ => false)
    have h0 : Hld K R B H (L2.start N vs) (slots N ds) := hld_start (fun q o e => (hR q o e).2.2) sB (fun q o e => .inl (hR q o e).1) al
    have run : PSs (cx P w K mg base N qual st fa cdv A outer s H E) (defBody st) (fun A' σ' H' => Hld K R B H' σ' (slots N ds) ∧ ∀ v H2, kN K R B xs v H2 → A'.rt v H2) := ⟨fun pins s1 σ1 H1 A1 I1 ⟨q1, q2⟩ => thn (hb.run pins s1 σ1 H1 R B I1 q1) fun fl s2 q => SP.imp q (fun _ _ z => z.elim) q2 (fun _ _ z => z.elim) fun _ _ z => z.elim⟩
    refine ⟨_, run.nox, h0, fun v H' ⟨σ', G', B', p, vs', ev, h1, s1, r1, b1, hp, a1⟩ => ?_⟩
    subst ev
    have up : Same H H' := fun q o e => by
      cases z : B q with
      | none => exact h1.exR q o (hS q o e z rfl)
      | some u =>
        have := sB q u z
        rw [e] at this
        cases this
        exact h1.exB q _ (s1 q _ z)
    refine kq p H' B' vs' up s1 h1.exB (fun q o e z => h1.dis q o (hS q o e z rfl)) ?_ b1 hp a1
    cases z : H p with
    | none => rfl
    | some u =>
      cases z2 : B p with
      | none => rw [hS p u z z2 rfl] at r1; cases r1
      | some u2 => rw [s1 p u2 z2] at b1; cases b1
/-- x = f(..), the new list the purse -/
theorem ds_callN (i : Nat) {y : Str} {rel : List D → List D → Prop} {px : Pos} (F : FnN X.prog X.w X.K X.mg X.base k f n rel) (hr : Room k X.A) (ha : DA X G (e :: es) ds G') (hrel : rel ds xs) (hk : ∀ pa, E.nx (G'.set i (.pl pa xs))) (hND : X.N.Nodup) (hn : ds.length = n := by rfl) (hg : Gl X f := by rfl) (hdb : (f == ("__debug__" : Str)) = false := by decide)
    (he : starEach (e :: es) X.env = (false, eval e X.env) :: starEach es X.env := by rfl) (hpl : (backTo px (starEach es X.env)).any (·.1) = false := by rfl)
    (hi : X.N[i]? = some y := by rfl) (hx : Loc X.env.scope y := by first | exact Or.inl rfl | exact Or.inr rfl) (hs : swapsWith (.Call (.Name f p) (e :: es) [] px) (some (.Name y pos')) pos.line X.env = pure false := by rfl) (hf : X.fn y = true ∨ X.env.scope.names.lookup y = some .local := by first | exact .inl rfl | exact .inr rfl) : DS X G (.Assign [.Name y pos'] (.Call (.Name f p) (e :: es) [] px) pos) E := by
  obtain ⟨fa, fd, ps, hm, hk2, ok, hb⟩ := F.ex
  refine .of (ps_set hND hi hx (pe_call ok hr hg hm hk2 hb .nil pass0 pa_D hdb he hpl) hs hf) fun σ H R B hh => ha.use hh fun vs H1 B1 h1 e1 a1 => ?_
  refine ⟨B1, ds, xs, h1.exB, by rw [List.append_nil]; exact a1, hn, hrel, fun q H' B' vs' s1 s2 s3 nw hq bq hp al => ?_⟩
  have h2 := h1.up s2 s1 s3 nw
  have rq : R q = none := by
    cases z : R q with
    | none => rfl
    | some u => rw [h1.exR _ _ z] at hq; cases hq
  refine ⟨_, B', h2.setOwn i (.pl rq bq hp al) (fun j g e og z => ?_), e1.trans s2, hk q⟩
  obtain ⟨o, ho, sk⟩ := h1.sl j g e
  obtain ⟨a', u, rfl, _, _, hu⟩ := sk.addr og
  rw [z] at ho
  cases ho
  rw [hq] at hu
  cases hu
end
end Ax
namespace Ax
open PySem PySem.Spec L2
/-! ### plain: sizes, edges, starts -/
abbrev RS := List (Ru × List (Int × Nat))
/-- the sizes of the steps of some rules, each once -/
def sizesOf (l : RS) : List Int := (l.flatMap fun x => x.2.map (sz x.1.b)).foldl insK []
def partD (n : Int) : D := .tup [.int n, .int 1]
theorem insK_map {α β : Type} [DecidableEq α] [DecidableEq β] {f : α → β} (hf : ∀ a b, f a = f b → a = b) (l : List α) (x : α) : insK (l.map f) (f x) = (insK l x).map f := by
  unfold insK
  by_cases h : x ∈ l
  · rw [if_pos h, if_pos (List.mem_map_of_mem h)]
  · have : f x ∉ l.map f := fun z => by
      obtain ⟨y, hy, e⟩ := List.mem_map.mp z
      exact h (hf _ _ e ▸ hy)
    rw [if_neg h, if_neg this, List.map_append]
    rfl
theorem mem_sizesOf {l : RS} {n : Int} : n ∈ sizesOf l ↔ ∃ x ∈ l, ∃ s ∈ x.2, sz x.1.b s = n := by
  unfold sizesOf
  rw [foldl_mem, List.mem_flatMap]
  simp only [List.mem_map]
theorem up_one (a : Int) : up a 1 = a := by unfold up; rw [Int.ediv_one]; omega
theorem up_spec {a n : Int} (h : 0 < n) : a ≤ up a n * n ∧ (up a n - 1) * n < a := by
  unfold up
  have e1 := Int.mul_ediv_add_emod (0 - a) n
  have e2 := Int.emod_nonneg (0 - a) (by omega : n ≠ 0)
  have e3 := Int.emod_lt_of_pos (0 - a) h
  have e4 : (0 - (0 - a) / n) * n = -(n * ((0 - a) / n)) := by rw [Int.sub_mul, Int.zero_mul, Int.mul_comm]; omega
  have e5 : (0 - (0 - a) / n - 1) * n = -(n * ((0 - a) / n)) - n := by rw [Int.sub_mul, e4, Int.one_mul]
  omega
/-- the edges of the multiples of n, shifted, first and behind -/
def edAll (n sh : Int) (lo : Int) (c : Nat) : List Int := (List.range c).foldl (fun acc (i : Nat) => insK (insK acc ((lo + (i : Int) * 1) * n - sh)) ((lo + (i : Int) * 1) * n - sh + 1)) []
def edF (n sh P : Int) : List Int := (edAll n sh (up sh n - 1) ((sh + P) / n + 1 - (up sh n - 1)).toNat).filter fun e => decide (0 ≤ e) && decide (e < P)
theorem edAll_succ (n sh lo : Int) (c : Nat) : edAll n sh lo (c + 1) = insK (insK (edAll n sh lo c) ((lo + (c : Int) * 1) * n - sh)) ((lo + (c : Int) * 1) * n - sh + 1) := by
  unfold edAll
  rw [List.range_succ, List.foldl_append]
  rfl
theorem edAll_len (n sh lo : Int) : ∀ c : Nat, (edAll n sh lo c).length ≤ 2 * c
  | 0 => Nat.zero_le _
  | c + 1 => by
    rw [edAll_succ]
    have h1 := edAll_len n sh lo c
    have h2 := insK_len (edAll n sh lo c) ((lo + (c : Int) * 1) * n - sh)
    have h3 := insK_len (insK (edAll n sh lo c) ((lo + (c : Int) * 1) * n - sh)) ((lo + (c : Int) * 1) * n - sh + 1)
    omega
theorem mem_edAll {n sh lo e : Int} : ∀ {c : Nat}, e ∈ edAll n sh lo c ↔ ∃ i : Nat, i < c ∧ (e = (lo + (i : Int) * 1) * n - sh ∨ e = (lo + (i : Int) * 1) * n - sh + 1)
  | 0 => by
    constructor
    · intro h; cases h
    · rintro ⟨i, hi, _⟩; omega
  | c + 1 => by
    rw [edAll_succ, mem_insK, mem_insK, mem_edAll]
    constructor
    · rintro ((⟨i, hi, h⟩ | h) | h)
      · exact ⟨i, by omega, h⟩
      · exact ⟨c, by omega, .inl h⟩
      · exact ⟨c, by omega, .inr h⟩
    · rintro ⟨i, hi, h⟩
      by_cases e : i = c
      · subst e
        exact h.elim (fun h => .inl (.inr h)) .inr
      · exact .inl (.inl ⟨i, by omega, h⟩)
theorem mem_edF {n sh P e : Int} (hn : 0 < n) : e ∈ edF n sh P ↔ 0 ≤ e ∧ e < P ∧ (n ∣ e + sh ∨ n ∣ e + sh - 1) := by
  unfold edF
  rw [List.mem_filter, mem_edAll, Bool.and_eq_true, decide_eq_true_eq, decide_eq_true_eq]
  obtain ⟨u1, u2⟩ := up_spec (a := sh) hn
  have d1 := Int.mul_ediv_add_emod (sh + P) n
  have d2 := Int.emod_nonneg (sh + P) (by omega : n ≠ 0)
  have d3 := Int.emod_lt_of_pos (sh + P) hn
  constructor
  · rintro ⟨⟨i, hi, h⟩, h0, h1⟩
    refine ⟨h0, h1, ?_⟩
    rcases h with h | h
    · exact .inl ⟨up sh n - 1 + (i : Int) * 1, by rw [h, Int.mul_comm]; omega⟩
    · exact .inr ⟨up sh n - 1 + (i : Int) * 1, by rw [h, Int.mul_comm]; omega⟩
  · rintro ⟨h0, h1, h⟩
    refine ⟨?_, h0, h1⟩
    have key : ∀ k : Int, sh - 1 ≤ n * k → n * k < sh + P → ∃ i : Nat, i < ((sh + P) / n + 1 - (up sh n - 1)).toNat ∧ up sh n - 1 + (i : Int) * 1 = k := by
      intro k k1 k2
      have a1 : up sh n - 1 ≤ k := by
        refine Classical.byContradiction fun c => ?_
        have : (k + 1) * n ≤ (up sh n - 1) * n := Int.mul_le_mul_of_nonneg_right (by omega) (by omega)
        rw [Int.add_mul, Int.one_mul, Int.mul_comm k] at this
        omega
      have a2 : k ≤ (sh + P) / n := by
        refine Classical.byContradiction fun c => ?_
        have : n * ((sh + P) / n + 1) ≤ n * k := Int.mul_le_mul_of_nonneg_left (by omega) (by omega)
        rw [Int.mul_add, Int.mul_one] at this
        omega
      exact ⟨(k - (up sh n - 1)).toNat, by omega, by omega⟩
    rcases h with ⟨k, hk⟩ | ⟨k, hk⟩
    · obtain ⟨i, q1, q2⟩ := key k (by omega) (by omega)
      exact ⟨i, q1, .inl (by rw [q2, Int.mul_comm]; omega)⟩
    · obtain ⟨i, q1, q2⟩ := key k (by omega) (by omega)
      exact ⟨i, q1, .inr (by rw [q2, Int.mul_comm]; omega)⟩
/-- x is an edge of a size at the length -/
def Edge (L : Int) (n x : Int) : Prop := n ∣ x ∨ n ∣ x - 1 ∨ n ∣ x + L ∨ n ∣ x + L - 1
noncomputable def startsOf (ns : List Int) (L P : Int) : List Int := ups P fun x => x = 0 ∨ ∃ n ∈ ns, Edge L n x
/-- each with the one behind it -/
def pairsOf (st : List Int) (P : Int) : List (Int × Int) := List.zip st (st.drop 1 ++ [P])
def rParts : List D → D → Prop := fun ds d => ∃ (l : RS) (L : Int), ds = [.lst (l.map fun x => x.1.dt), .int L] ∧ (∀ x ∈ l, Stp x.1 L x.2) ∧ l.length ≤ 10 ∧ d = .lst ((sizesOf l).map partD)
def rWhole : List D → D → Prop := fun ds d => ∃ (ns : List Int) (M : Int), ds = [.lst (ns.map partD)] ∧ ns.length < 1000 ∧ (∀ n ∈ ns, 0 < n ∧ n < 2 ^ 200 ∧ n ∣ M) ∧ 0 < M ∧ M < 2 ^ 900 ∧ d = .int (lcmL ns)
def rEdges : List D → D → Prop := fun ds d => ∃ n sh P : Int, ds = [partD n, .int sh, .int P] ∧ 0 < n ∧ n < 2 ^ 200 ∧ 0 ≤ sh ∧ sh ≤ P ∧ P / n ≤ 2100 ∧ 0 < P ∧ d = .lst ((edF n sh P).map .int)
def pairD (x : Int × Int) : D := .tup [.int x.1, .int x.2]
structure Small (l : RS) (L : Int) : Prop where
  stp : ∀ x ∈ l, Stp x.1 L x.2
  len : l.length ≤ 10
  few : (sizesOf l).length ≤ 90
  near : ∀ n ∈ sizesOf l, lcmL (sizesOf l) / n ≤ 2100
  dv : ∃ M : Int, 0 < M ∧ M < 2 ^ 900 ∧ ∀ n ∈ sizesOf l, n ∣ M
  pp : lcmL (sizesOf l) < 2 ^ 200
def rPieces : List D → D → Prop := fun ds d => ∃ (l : RS) (L : Int), ds = [.lst (l.map fun x => x.1.dt), .int L] ∧ Small l L ∧ l ≠ [] ∧ 0 < L ∧ L < 2 ^ 200 ∧ d = .tup [.int (lcmL (sizesOf l)), .lst ((pairsOf (startsOf (sizesOf l) L (lcmL (sizesOf l))) (lcmL (sizesOf l))).map pairD)]
end Ax
namespace Ax
open PySem PySem.Spec L2
section
variable {P : Program} {w : World} {K : PySem.W.Frag} {mg : Str → Option Value} {base : Heap}
def szs (x : Ru × List (Int × Nat)) : List Int := x.2.map (sz x.1.b)
def sz1 (n : Int) : List Int := [n, 1]
theorem sz1_inj : ∀ a b, sz1 a = sz1 b → a = b := fun a b h => by unfold sz1 at h; injection h
theorem sc_parts_at : FnScope ["rules", "length", "found", "rule", "step"] ["rules", "length"] (defScope s_parts_at) := ⟨rfl, rfl, rfl, by decide +kernel, rfl, by decide +kernel, by decide +kernel⟩
theorem ok_parts_at (T : Tp K mg) : FnD P w K mg base 6 "parts_at" 2 rParts := by
  obtain ⟨fd, F⟩ := T.d_parts_at
  refine fnD_mk T.g_parts_at F sc_parts_at rfl (F.bindsN fun _ _ _ _ _ _ us hl => match us, hl with | [_, _], _ => rfl) fun cdv A outer s H E hr ds d h hl => ?_
  obtain ⟨l, L, rfl, hS, hlen, rfl⟩ := h
  refine dss_cons (ds_ownT 2 ?_ sc_parts_at.nd)
  refine dss_cons (ds_for (di_list (de_var 0)) (fun i G => ∃ (ks : List Int) (u v : Sl), G = [.d (.lst (l.map fun x => x.1.dt)), .d (.int L), .ot (ks.map sz1), u, v] ∧ ks = ((l.take i).flatMap szs).foldl insK [] ∧ ks.length ≤ 28 * i) ⟨[], .un, .un, rfl, rfl, Nat.zero_le _⟩ (fun i x G' hx hG => ?_) (fun G' hG => ?_) rfl)
  · obtain ⟨ks, u, v, rfl, hks, hkl⟩ := hG
    rw [List.getElem?_map] at hx
    cases hy : l[i]? with
    | none => rw [hy] at hx; cases hx
    | some y =>
      rw [hy] at hx
      cases hx
      have hs := hS y (List.mem_of_getElem? hy)
      have il := (List.getElem?_eq_some_iff.mp hy).1
      have few := hs.few
      have tk : (l.take (i + 1)).flatMap szs = (l.take i).flatMap szs ++ szs y := by
        rw [List.take_succ, hy, Option.toList_some, List.flatMap_append]; simp
      refine ⟨_, _, dg_name 3 sc_parts_at.nd, ?_⟩
      refine dss_one (ds_for (di_list (de_call (ok_steps_at T) (hr.mono (by decide)) (da_cons (de_var 3) (da_cons (de_var 1) da_nil)) ⟨y.1, L, y.2, rfl, hs, rfl⟩)) (fun j G => ∃ (ks' : List Int) (v : Sl), G = [.d (.lst (l.map fun x => x.1.dt)), .d (.int L), .ot (ks'.map sz1), .d y.1.dt, v] ∧ ks' = ((szs y).take j).foldl insK ks ∧ ks'.length ≤ 28 * i + j) ⟨ks, v, rfl, rfl, hkl⟩ (fun j x G' hx hG => ?_) (fun G' hG => ?_) rfl)
      · obtain ⟨ks', v, rfl, hk2, hl2⟩ := hG
        rw [List.getElem?_map] at hx
        cases hz : y.2[j]? with
        | none => rw [hz] at hx; cases hx
        | some z =>
          rw [hz] at hx
          cases hx
          have jl := (List.getElem?_eq_some_iff.mp hz).1
          have tk2 : ((szs y).take (j + 1)).foldl insK ks = insK (((szs y).take j).foldl insK ks) (sz y.1.b z) := by
            have : (szs y)[j]? = some (sz y.1.b z) := by unfold szs; rw [List.getElem?_map, hz]; rfl
            rw [List.take_succ, this, Option.toList_some, List.foldl_append]; rfl
          refine ⟨_, _, dg_name 4 sc_parts_at.nd, ?_⟩
          refine dss_one (ds_putT 2 (ms := sz1 (sz y.1.b z)) (ks := ks'.map sz1) de_bl (de_call (ok_scaled T) (hr.mono (by decide)) (da_cons (de_var 4) (da_cons (de_fld (de_var 3) T.c_Rule T.n_Rule_ground) da_nil)) ⟨z, y.1.b, rfl, hs.ok.b2, hs.ok.b10, hs.stOk (List.mem_of_getElem? hz), rfl⟩) (by have := hr.units; omega) (by rw [List.length_map]; omega) ⟨insK ks' (sz y.1.b z), .d (stD z), ?_, by rw [tk2, hk2], by have := insK_len ks' (sz y.1.b z); omega⟩)
          rw [insK_map sz1_inj]
          rfl
      · obtain ⟨ks', v, rfl, hk2, hl2⟩ := hG
        have e1 : (szs y).take (y.2.map stD).length = szs y := by
          unfold szs
          rw [List.length_map, ← List.length_map (f := sz y.1.b), List.take_length]
        rw [e1] at hk2
        rw [List.length_map] at hl2
        exact ⟨ks', _, _, rfl, by rw [tk, List.foldl_append, ← hks]; exact hk2, by omega⟩
  · obtain ⟨ks, u, v, rfl, hks, hkl⟩ := hG
    rw [List.length_map, List.take_length] at hks
    refine dss_one (ds_ret (de_listT 2 (ln := "x") T.b_list rfl) ?_)
    rw [List.map_map]
    show D.lst _ = D.lst ((sizesOf l).map partD)
    rw [show sizesOf l = ks from hks.symm]
    rfl

theorem sc_whole_period : FnScope ["parts", "size", "scale"] ["parts"] (defScope s_whole_period) := ⟨rfl, rfl, rfl, by decide +kernel, rfl, by decide +kernel, by decide +kernel⟩
def partI : D → Int
  | .tup [.int n, _] => n
  | _ => 0
theorem ok_whole_period (T : Tp K mg) : FnD P w K mg base 3 "whole_period" 1 rWhole := by
  obtain ⟨fd, F⟩ := T.d_whole_period
  refine fnD_mk T.g_whole_period F sc_whole_period rfl (F.bindsN fun _ _ _ _ _ _ us hl => match us, hl with | [_], _ => rfl) fun cdv A outer s H E hr ds d h hl => ?_
  obtain ⟨ns, M, rfl, hlen, hns, hM, hM2, rfl⟩ := h
  refine dss_one (ds_ret (de_call (ok_common_multiple T) (hr.mono (by decide)) (da_cons (DE.to (de_lcK [("size", 1), ("scale", 2)] (lck (di_list (de_var 0)) (fun _ => true) (fun x => .int (partI x)) (freeC (freeC free0)) (by rw [List.length_map]; omega) fun x hx => ?_) (blk_at ["parts", "size", "scale"] (defScope s_whole_period)) sc_whole_period.nd rfl) (by rw [filter_true, List.map_map]; rfl)) da_nil) ⟨ns, M, rfl, fun n hn => ⟨(hns n hn).1, (hns n hn).2.2⟩, hM, hM2, rfl⟩) rfl)
  obtain ⟨n, hn, rfl⟩ := List.mem_map.mp hx
  obtain ⟨n0, n1, _⟩ := hns n hn
  have e : n / (Int.gcd n 1 : Int) = n := by
    rw [Int.gcd_one_right]
    exact Int.ediv_one n
  exact ⟨_, _, bkAll fun _ _ _ _ _ => (dg_tup (dgs_cons (dg_name 1 sc_whole_period.nd) (dgs_cons (dg_name 2 sc_whole_period.nd) dgs_nil)) rfl), by decide, rfl, bkAll fun _ _ _ _ _ => dts_nil, fun _ => bkAll fun _ _ _ _ _ => DE.to (de_o (de_var 1) (de_call (ok_common_divisor T) (hr.mono (by decide)) (da_cons (de_var 1) (da_cons (de_var 2) da_nil)) ⟨n, 1, rfl, by omega, by omega, rfl⟩) (o_div (divW (by rw [Int.gcd_one_right]; omega) (by rw [Int.gcd_one_right]; decide)))) (by rw [e]; rfl)⟩
end
end Ax
namespace Ax
open PySem PySem.Spec L2
section
variable {P : Program} {w : World} {K : PySem.W.Frag} {mg : Str → Option Value} {base : Heap}
theorem DI.to {X : Cx} {G G' : List Sl} {tg it : Expr} {ds ds' : List D} (h : DI X G tg it ds G') (e : ds = ds') : DI X G tg it ds' G' := e ▸ h
theorem ed_cnt {n sh P : Int} (hn : 0 < n) (hs : 0 ≤ sh) (hP : 0 < P) (h : P / n ≤ 2100) : ((sh + P) / n + 1 - (up sh n - 1)).toNat ≤ 2103 ∧ -1 ≤ up sh n - 1 := by
  obtain ⟨u1, u2⟩ := up_spec (a := sh) hn
  have d1 := Int.mul_ediv_add_emod (sh + P) n
  have d2 := Int.emod_nonneg (sh + P) (by omega : n ≠ 0)
  have d3 := Int.emod_lt_of_pos (sh + P) hn
  have e1 := Int.mul_ediv_add_emod P n
  have e2 := Int.emod_nonneg P (by omega : n ≠ 0)
  have e3 := Int.emod_lt_of_pos P hn
  constructor
  · -- (sh + P) / n ≤ up sh n + P / n + 1
    have : (sh + P) / n ≤ up sh n + P / n := by
      refine Classical.byContradiction fun c => ?_
      have : n * (up sh n + P / n + 1) ≤ n * ((sh + P) / n) := Int.mul_le_mul_of_nonneg_left (by omega) (by omega)
      rw [Int.mul_add, Int.mul_add, Int.mul_one, Int.mul_comm n (up sh n)] at this
      omega
    omega
  · refine Classical.byContradiction fun c => ?_
    have : up sh n * n ≤ (-1) * n := Int.mul_le_mul_of_nonneg_right (by omega) (by omega)
    omega
theorem sc_edges_from : FnScope ["part", "shift", "period", "size", "scale", "found", "number", "first", "edge"] ["part", "shift", "period"] (defScope s_edges_from) := ⟨rfl, rfl, rfl, by decide +kernel, rfl, by decide +kernel, by decide +kernel⟩
theorem ok_edges_from (T : Tp K mg) : FnD P w K mg base 2 "edges_from" 3 rEdges := by
  obtain ⟨fd, F⟩ := T.d_edges_from
  refine fnD_mk T.g_edges_from F sc_edges_from rfl (F.bindsN fun _ _ _ _ _ _ us hl => match us, hl with | [_, _, _], _ => rfl) fun cdv A outer s H E hr ds d h hl => ?_
  obtain ⟨n, sh, P0, rfl, n0, n1, s0, s1, near, P0p, rfl⟩ := h
  obtain ⟨c1, c2⟩ := ed_cnt n0 s0 P0p near
  have c3 : (sh + P0) / n ≤ 4300 := by
    obtain ⟨u1, u2⟩ := up_spec (a := sh) n0
    have : up sh n ≤ 2102 := by
      refine Classical.byContradiction fun c => ?_
      have a1 : 2101 * n ≤ (up sh n - 1) * n := Int.mul_le_mul_of_nonneg_right (by omega) (by omega)
      have e1 := Int.mul_ediv_add_emod P0 n
      have e3 := Int.emod_lt_of_pos P0 n0
      have a2 : n * (P0 / n) ≤ n * 2100 := Int.mul_le_mul_of_nonneg_left near (by omega)
      omega
    omega
  have c4 : 0 ≤ (sh + P0) / n := Int.ediv_nonneg (by omega) (by omega)
  have c5 : up sh n - 1 ≤ (sh + P0) / n + 1 := by
    refine Classical.byContradiction fun c => ?_
    obtain ⟨u1, u2⟩ := up_spec (a := sh) n0
    have d1 := Int.mul_ediv_add_emod (sh + P0) n
    have d3 := Int.emod_lt_of_pos (sh + P0) n0
    have a1 : ((sh + P0) / n + 1) * n ≤ (up sh n - 1) * n := Int.mul_le_mul_of_nonneg_right (by omega) (by omega)
    rw [Int.add_mul, Int.one_mul, Int.mul_comm] at a1
    omega
  refine dss_cons (ds_unpack (de_var 0) (dg_tup (dgs_cons (dg_name 3 sc_edges_from.nd) (dgs_cons (dg_name 4 sc_edges_from.nd) dgs_nil)) rfl) ?_)
  refine dss_cons (ds_ownD 5 ?_ sc_edges_from.nd)
  refine dss_cons (ds_for (DI.to (di_range2 (da_cons (de_op o_sub (de_call (ok_divided_up T) (hr.mono (by decide)) (da_cons (de_o (de_var 1) (de_var 4) (o_mulS (.inr ⟨by decide, by decide⟩))) (da_cons (de_var 3) da_nil)) ⟨sh * 1, n, rfl, n0, n1, rfl⟩) de_int) (da_cons (de_op o_add (de_o (de_o (de_op o_add (de_var 1) (de_var 2)) (de_var 4) (o_mulS (.inr ⟨by decide, by decide⟩))) (de_var 3) (o_div (divW n0 n1))) de_int) da_nil)) T.b_range (by rw [Int.mul_one, Int.mul_one]; refine ⟨?_, ?_, ?_, ?_⟩ <;> omega)) (ds' := rngD (up sh n - 1) 1 ((sh + P0) / n + 1 - (up sh n - 1)).toNat) (by rw [Int.mul_one, Int.mul_one])) (fun i G => ∃ u v, G = [.d (partD n), .d (.int sh), .d (.int P0), .d (.int n), .d (.int 1), .od (edAll n sh (up sh n - 1) i), u, v, .un]) ⟨.un, .un, rfl⟩ (fun i x G' hx hG => ?_) (fun G' hG => ?_) rfl)
  · obtain ⟨u, v, rfl⟩ := hG
    obtain ⟨hi, rfl⟩ := rngD_get hx
    have len := edAll_len n sh (up sh n - 1) i
    generalize hk : up sh n - 1 + (i : Int) * 1 = k
    refine ⟨_, _, dg_name 6 sc_edges_from.nd, ?_⟩
    refine dss_cons (ds_set 7 (de_op o_sub (de_call (ok_divided_up T) (hr.mono (by decide)) (da_cons (de_o (de_var 6) (de_var 3) (o_mulS (.inl ⟨by omega, by omega⟩))) (da_cons (de_var 4) da_nil)) ⟨k * n, 1, rfl, by decide, by decide, rfl⟩) (de_var 1)) ?_ sc_edges_from.nd)
    rw [up_one]
    have l1 := insK_len (edAll n sh (up sh n - 1) i) (k * n - sh)
    refine dss_cons (ds_put 5 (ks := edAll n sh (up sh n - 1) i) de_bl (de_var 7) (by have := hr.units; omega) (by omega) ?_)
    refine dss_one (ds_if (dt_cmp o_eq (de_o (de_var 6) (de_var 3) (o_mulS (.inl ⟨by omega, by omega⟩))) (de_o (de_op o_add (de_var 7) (de_var 1)) (de_var 4) (o_mulS (.inr ⟨by decide, by decide⟩)))) (fun hb => ?_) (fun hb => ?_))
    · refine dss_one (ds_put 5 (ks := insK (edAll n sh (up sh n - 1) i) (k * n - sh)) de_bl (de_op o_add (de_var 7) de_int) (by have := hr.units; omega) (by omega) ⟨.d (.int k), .d (.int (k * n - sh)), ?_⟩)
      rw [edAll_succ, hk]
      rfl
    · rw [Int.mul_one, Int.sub_add_cancel] at hb
      simp at hb
  · obtain ⟨u, v, rfl⟩ := hG
    rw [rngD_len]
    have len := edAll_len n sh (up sh n - 1) ((sh + P0) / n + 1 - (up sh n - 1)).toNat
    refine dss_one (ds_ret (de_lcD 5 (ks := edAll n sh (up sh n - 1) ((sh + P0) / n + 1 - (up sh n - 1)).toNat) [("edge", 8)] (fun d => decide (0 ≤ fstI d) && decide (fstI d < P0)) (fun d => d) (freeC free0) (by omega) (fun k hk => ⟨_, _, bkAll fun _ _ _ _ _ => (dg_name 8 sc_edges_from.nd), by decide, rfl, bkAll fun _ _ _ _ _ => (dts_one (dt_chain o_le o_lt de_int (de_var 8) (de_var 2))), fun _ => bkAll fun _ _ _ _ _ => (de_var 8)⟩) (blk_at ["part", "shift", "period", "size", "scale", "found", "number", "first", "edge"] (defScope s_edges_from)) sc_edges_from.nd rfl) ?_)
    rw [List.map_id', List.filter_map]
    rfl
end
end Ax
namespace Ax
open PySem PySem.Spec L2
section
variable {P : Program} {w : World} {K : PySem.W.Frag} {mg : Str → Option Value} {base : Heap}
theorem cut1 (xs : List D) : cutD xs (some 1) none = xs.drop 1 := by
  have e : HT.sIx xs.length 0 (some 1) = min 1 xs.length := HT.sIx_nat xs.length 0 1
  unfold cutD
  rw [e, show HT.sIx xs.length xs.length none = xs.length from rfl]
  cases xs with
  | nil => rfl
  | cons x xs =>
    rw [show min 1 (x :: xs).length = 1 by simp]
    exact List.take_of_length_le (by simp)
theorem zip_pairs (st tl : List Int) : zipD (st.map D.int) (tl.map D.int) = (List.zip st tl).map pairD := by
  induction st generalizing tl with
  | nil => rfl
  | cons a st ih =>
    cases tl with
    | nil => rfl
    | cons b tl =>
      show D.tup [.int a, .int b] :: zipD (st.map D.int) (tl.map D.int) = _
      rw [ih]
      rfl
theorem sc_pieces_at : FnScope ["rules", "length", "parts", "period", "edges", "part", "edge", "starts", "start", "behind"] ["rules", "length"] (defScope s_pieces_at) := ⟨rfl, rfl, rfl, by decide +kernel, rfl, by decide +kernel, by decide +kernel⟩
theorem edF_len {n sh P0 : Int} (hn : 0 < n) (hs : 0 ≤ sh) (hP : 0 < P0) (h : P0 / n ≤ 2100) : (edF n sh P0).length ≤ 4206 := by
  have h1 := edAll_len n sh (up sh n - 1) ((sh + P0) / n + 1 - (up sh n - 1)).toNat
  have h2 := (ed_cnt hn hs hP h).1
  unfold edF
  refine Nat.le_trans (List.length_filter_le _ _) ?_
  omega
/-- what the edges of some sizes are -/
theorem edge_iff {ns : List Int} {L P0 e : Int} (hns : ∀ n ∈ ns, 0 < n ∧ n ∣ P0) (hP : 0 < P0) : (e = 0 ∨ ∃ n ∈ ns, e ∈ edF n 0 P0 ∨ e ∈ edF n (L % P0) P0) ↔ 0 ≤ e ∧ e < P0 ∧ (e = 0 ∨ ∃ n ∈ ns, Edge L n e) := by
  have key : ∀ n ∈ ns, ∀ x : Int, n ∣ x + L % P0 ↔ n ∣ x + L := fun n hn x => by
    obtain ⟨k, hk⟩ := (hns n hn).2
    have e1 := Int.mul_ediv_add_emod L P0
    have e2 : x + L = x + L % P0 + n * (k * (L / P0)) := by rw [← Int.mul_assoc, ← hk]; omega
    rw [e2]
    exact (Int.dvd_add_left (Int.dvd_mul_right n _)).symm
  constructor
  · rintro (rfl | ⟨n, hn, h | h⟩)
    · exact ⟨Int.le_refl _, hP, .inl rfl⟩
    · obtain ⟨h0, h1, h2⟩ := (mem_edF (hns n hn).1).mp h
      refine ⟨h0, h1, .inr ⟨n, hn, ?_⟩⟩
      rw [Int.add_zero] at h2
      exact h2.elim .inl fun h => .inr (.inl h)
    · obtain ⟨h0, h1, h2⟩ := (mem_edF (hns n hn).1).mp h
      refine ⟨h0, h1, .inr ⟨n, hn, ?_⟩⟩
      rcases h2 with h2 | h2
      · exact .inr (.inr (.inl ((key n hn e).mp h2)))
      · refine .inr (.inr (.inr ?_))
        have := (key n hn (e - 1)).mp (by rw [show e - 1 + L % P0 = e + L % P0 - 1 by omega]; exact h2)
        rw [show e - 1 + L = e + L - 1 by omega] at this
        exact this
  · rintro ⟨h0, h1, rfl | ⟨n, hn, h⟩⟩
    · exact .inl rfl
    · refine .inr ⟨n, hn, ?_⟩
      rcases h with h | h | h | h
      · exact .inl ((mem_edF (hns n hn).1).mpr ⟨h0, h1, .inl (by rw [Int.add_zero]; exact h)⟩)
      · exact .inl ((mem_edF (hns n hn).1).mpr ⟨h0, h1, .inr (by rw [Int.add_zero]; exact h)⟩)
      · exact .inr ((mem_edF (hns n hn).1).mpr ⟨h0, h1, .inl ((key n hn e).mpr h)⟩)
      · refine .inr ((mem_edF (hns n hn).1).mpr ⟨h0, h1, .inr ?_⟩)
        have := (key n hn (e - 1)).mpr (by rw [show e - 1 + L = e + L - 1 by omega]; exact h)
        rw [show e - 1 + L % P0 = e + L % P0 - 1 by omega] at this
        exact this
theorem foldl_insK_nodup {α : Type} [DecidableEq α] (l acc : List α) (h : acc.Nodup) : (l.foldl insK acc).Nodup := by
  induction l generalizing acc with
  | nil => exact h
  | cons y l ih => exact ih _ (insK_nodup h)
theorem foldl_insK_mem {α : Type} [DecidableEq α] (l acc : List α) (x : α) : x ∈ l.foldl insK acc ↔ x ∈ acc ∨ x ∈ l := by
  induction l generalizing acc with
  | nil => simp
  | cons y l ih => rw [List.foldl_cons, ih, mem_insK, List.mem_cons, or_assoc]
theorem asc_of {ns ns' st : List Int} (hp : ns'.Perm ns) (h1 : ns'.Pairwise (· ≤ ·)) (nd : ns.Nodup) (h2 : st.Pairwise (· < ·)) (mem : ∀ e, e ∈ ns ↔ e ∈ st) : ns' = st := by
  have h3 : ns'.Pairwise (· < ·) := (h1.and (hp.nodup_iff.mpr nd)).imp fun ⟨a, b⟩ => by omega
  exact asc_unique id _ _ h3 h2 fun x => (hp.mem_iff).trans (mem x)
theorem ok_pieces_at (T : Tp K mg) : FnD P w K mg base 7 "pieces_at" 2 rPieces := by
  obtain ⟨fd, F⟩ := T.d_pieces_at
  refine fnD_mk T.g_pieces_at F sc_pieces_at rfl (F.bindsN fun _ _ _ _ _ _ us hl => match us, hl with | [_, _], _ => rfl) fun cdv A outer s H E hr ds d h hl => ?_
  obtain ⟨l, L, rfl, sm, hne, L0, L1, rfl⟩ := h
  obtain ⟨M, M0, M1, hM⟩ := sm.dv
  have few := sm.few
  have near := sm.near
  have pp := sm.pp
  have npos : ∀ n ∈ sizesOf l, 0 < n ∧ n < 2 ^ 200 := fun n hn => by
    obtain ⟨x, hx, s, hs, rfl⟩ := mem_sizesOf.mp hn
    have q := (sm.stp x hx).stOk hs
    exact ⟨by have := (q.pow (sm.stp x hx).ok.b2).1; omega, q.2.2⟩
  obtain ⟨P0, _, nd⟩ := lcmL_fact (sizesOf l) fun n hn => ⟨(npos n hn).1, hM n hn⟩
  refine dss_cons (ds_set 2 (de_call (ok_parts_at T) (hr.mono (by decide)) (da_cons (de_var 0) (da_cons (de_var 1) da_nil)) ⟨l, L, rfl, sm.stp, sm.len, rfl⟩) ?_ sc_pieces_at.nd)
  refine dss_cons (ds_set 3 (de_call (ok_whole_period T) (hr.mono (by decide)) (da_cons (de_var 2) da_nil) ⟨sizesOf l, M, rfl, by omega, fun n hn => ⟨(npos n hn).1, (npos n hn).2, hM n hn⟩, M0, M1, rfl⟩) ?_ sc_pieces_at.nd)
  generalize hns : sizesOf l = ns at few near pp npos P0 nd
  generalize hW : lcmL ns = W at near pp P0 nd
  have emod : L - L / W * W = L % W := by
    have := Int.mul_ediv_add_emod L W
    rw [Int.mul_comm W] at this
    omega
  have m0 := Int.emod_nonneg L (by omega : W ≠ 0)
  have m1 := Int.emod_lt_of_pos L P0
  refine dss_cons (ds_ownD1 4 ?_ sc_pieces_at.nd)
  refine dss_cons (ds_for (di_list (de_var 2)) (fun i G => ∃ (ks : List Int) (u v : Sl), G = [.d (.lst (l.map fun x => x.1.dt)), .d (.int L), .d (.lst (ns.map partD)), .d (.int W), .od ks, u, v, .un, .un, .un] ∧ ks.Nodup ∧ (∀ e, e ∈ ks ↔ e = 0 ∨ ∃ n ∈ ns.take i, e ∈ edF n 0 W ∨ e ∈ edF n (L % W) W) ∧ ks.length ≤ 1 + 8412 * i) ⟨[0], .un, .un, rfl, by simp, fun e => by simp, Nat.le_refl _⟩ (fun i x G' hx hG => ?_) (fun G' hG => ?_) rfl)
  · obtain ⟨ks, u, v, rfl, k1, k2, k3⟩ := hG
    rw [List.getElem?_map] at hx
    cases hy : ns[i]? with
    | none => rw [hy] at hx; cases hx
    | some n =>
      rw [hy] at hx
      cases hx
      have hn := List.mem_of_getElem? hy
      have il := (List.getElem?_eq_some_iff.mp hy).1
      obtain ⟨n0, n1⟩ := npos n hn
      have nn := near n hn
      have tk : ns.take (i + 1) = ns.take i ++ [n] := by rw [List.take_succ, hy]; rfl
      have le1 := edF_len (sh := 0) n0 (by omega) P0 nn
      have le2 := edF_len (sh := L % W) n0 (by omega) P0 nn
      refine ⟨_, _, dg_name 5 sc_pieces_at.nd, ?_⟩
      refine dss_one (ds_for (di_list (de_op (o_cat (xs := (edF n 0 W).map .int) (ys := (edF n (L % W) W).map .int) (by rw [List.length_map, List.length_map]; omega)) (de_call (ok_edges_from T) (hr.mono (by decide)) (da_cons (de_var 5) (da_cons de_int (da_cons (de_var 3) da_nil))) ⟨n, 0, W, rfl, n0, n1, by omega, by omega, nn, P0, rfl⟩) (de_call (ok_edges_from T) (hr.mono (by decide)) (da_cons (de_var 5) (da_cons (DE.to (de_op o_sub (de_var 1) (de_o (de_o (de_var 1) (de_var 3) (o_div (divW P0 pp))) (de_var 3) (o_mul (wide_mul (a := 200) (b := 200) ?_ (by omega) (by decide) (by decide) (by decide))))) (by rw [emod])) (da_cons (de_var 3) da_nil))) ⟨n, L % W, W, rfl, n0, n1, m0, by omega, nn, P0, rfl⟩)))
        (fun j G => ∃ (ks' : List Int) (v : Sl), G = [.d (.lst (l.map fun x => x.1.dt)), .d (.int L), .d (.lst (ns.map partD)), .d (.int W), .od ks', .d (partD n), v, .un, .un, .un] ∧ ks' = ((edF n 0 W ++ edF n (L % W) W).take j).foldl insK ks ∧ ks'.length ≤ 1 + 8412 * i + j) ⟨ks, v, rfl, rfl, k3⟩ (fun j x G' hx hG => ?_) (fun G' hG => ?_) rfl)
      · have q1 : L / W ≤ L := Int.ediv_le_self _ (by omega)
        have q2 : 0 ≤ L / W := Int.ediv_nonneg (by omega) (by omega)
        omega
      · obtain ⟨ks', v, rfl, e1, e2⟩ := hG
        rw [← List.map_append, List.getElem?_map] at hx
        cases hz : (edF n 0 W ++ edF n (L % W) W)[j]? with
        | none => rw [hz] at hx; cases hx
        | some z =>
          rw [hz] at hx
          cases hx
          have jl := (List.getElem?_eq_some_iff.mp hz).1
          rw [List.length_append] at jl
          have tk2 : ((edF n 0 W ++ edF n (L % W) W).take (j + 1)).foldl insK ks = insK (((edF n 0 W ++ edF n (L % W) W).take j).foldl insK ks) z := by
            rw [List.take_succ, hz, Option.toList_some, List.foldl_append]; rfl
          refine ⟨_, _, dg_name 6 sc_pieces_at.nd, ?_⟩
          exact dss_one (ds_put 4 (ks := ks') de_bl (de_var 6) (by have := hr.units; omega) (by omega) ⟨insK ks' z, .d (.int z), rfl, by rw [tk2, e1], by have := insK_len ks' z; omega⟩)
      · obtain ⟨ks', v, rfl, e1, e2⟩ := hG
        rw [← List.map_append, List.length_map] at e1 e2
        rw [List.take_length] at e1
        rw [List.length_append] at e2
        refine ⟨ks', _, _, rfl, by rw [e1]; exact foldl_insK_nodup _ _ k1, fun e => ?_, by omega⟩
        rw [e1, foldl_insK_mem, k2, tk, List.mem_append]
        constructor
        · rintro ((h | ⟨m, hm, h⟩) | h)
          · exact .inl h
          · exact .inr ⟨m, List.mem_append_left _ hm, h⟩
          · exact .inr ⟨n, List.mem_append_right _ (by simp), h⟩
        · rintro (h | ⟨m, hm, h⟩)
          · exact .inl (.inl h)
          · rcases List.mem_append.mp hm with hm | hm
            · exact .inl (.inr ⟨m, hm, h⟩)
            · rw [List.mem_singleton.mp hm] at h
              exact .inr h
  · obtain ⟨ks, u, v, rfl, k1, k2, k3⟩ := hG
    rw [List.length_map] at k2 k3
    rw [List.take_length] at k2
    refine dss_un 6 ?_
    have mem : ∀ e, e ∈ ks ↔ e ∈ startsOf ns L W := fun e => by
      unfold startsOf
      rw [k2, mem_ups, edge_iff (fun n hn => ⟨(npos n hn).1, nd n hn⟩) P0]
    have slen : (startsOf ns L W).length ≤ ks.length := nodup_len _ _ (ups_asc.imp fun h => by omega) fun x hx => (mem x).mpr hx
    refine dss_cons (ds_set 7 (de_callB (c_sorted (ns := ks) (startsOf ns L W) fun ns' hp h1 => asc_of hp h1 k1 ups_asc mem) T.b_sorted bt_sorted (da_cons (DE.to (de_lcD 4 (ks := ks) [("edge", 6)] (fun _ => true) (fun d => d) (freeC free0) (by omega) (fun k hk => ⟨_, _, bkAll fun _ _ _ _ _ => (dg_name 6 sc_pieces_at.nd), by decide, rfl, bkAll fun _ _ _ _ _ => dts_nil, fun _ => bkAll fun _ _ _ _ _ => (de_callTy c_int T.b_int bt_int (da_cons (de_var 6) da_nil))⟩) (blk_at ["rules", "length", "parts", "period", "edges", "part", "edge", "starts", "start", "behind"] (defScope s_pieces_at)) sc_pieces_at.nd rfl) (by rw [filter_true, List.map_id'])) da_nil)) ?_ sc_pieces_at.nd)
    have zlen : (zipD ((startsOf ns L W).map D.int) (((startsOf ns L W).map D.int).drop 1 ++ [.int W])).length ≤ 1000000 := by
      unfold zipD
      rw [List.length_zipWith, List.length_map]
      omega
    refine dss_one (ds_ret (de_tup (da_cons (de_var 3) (da_cons (DE.to (de_lcK [("start", 8), ("behind", 9)] (lck (di_zip (da_cons (de_var 7) (da_cons (de_o (DE.to (de_slice (de_var 7) (do_some de_int) do_none) (congrArg D.lst (cut1 ((startsOf ns L W).map D.int)))) (de_lst (da_cons (de_var 3) da_nil)) (o_cat (by rw [List.length_drop, List.length_map]; simp; omega))) da_nil)) T.b_zip) (fun _ => true) (fun d => d) (freeC (freeC free0)) zlen fun x hx => ?_) (blk_at ["rules", "length", "parts", "period", "edges", "part", "edge", "starts", "start", "behind"] (defScope s_pieces_at)) sc_pieces_at.nd rfl) (by rw [filter_true, List.map_id'])) da_nil))) ?_)
    · obtain ⟨j, hj⟩ := List.getElem?_of_mem hx
      obtain ⟨x1, x2, _, _, rfl⟩ := zip_get hj
      exact ⟨_, _, bkAll fun _ _ _ _ _ => (dg_tup (dgs_cons (dg_name 8 sc_pieces_at.nd) (dgs_cons (dg_name 9 sc_pieces_at.nd) dgs_nil)) rfl), by decide, rfl, bkAll fun _ _ _ _ _ => dts_nil, fun _ => bkAll fun _ _ _ _ _ => (de_tup (da_cons (de_var 8) (da_cons (de_var 9) da_nil)))⟩
    · rw [← List.map_drop]
      show D.tup [.int W, .lst (zipD ((startsOf ns L W).map D.int) (((startsOf ns L W).drop 1).map D.int ++ [W].map D.int))] = _
      rw [← List.map_append, zip_pairs]
      rfl
end
end Ax
namespace Ax
open PySem PySem.Spec L2
/-! ### plain: lists of changes -/
abbrev PC := List (Int × Bool)
def pcD (p : Int × Bool) : D := .tup [.int p.1, .bl p.2]
def jStep (acc : PC) (p : Int × Bool) : PC := match acc.getLast? with
  | none => acc ++ [p]
  | some q => if q.2 = p.2 then acc else acc ++ [p]
def joinL (l : PC) : PC := l.foldl jStep []
def turnL (l : PC) (P s : Int) (v : Bool) : PC := joinL ([(0, v)] ++ (l.filter fun p => decide (s < p.1)).map (fun p => (p.1 - s, p.2)) ++ ((l.filter fun p => decide (p.1 ≤ s)).map (fun p => (p.1 + P - s, p.2))).filter fun p => decide (p.1 < P))
noncomputable def chg (F : Int → Bool) (n : Int) : List Int := ups n fun x => x = 0 ∨ F x ≠ F (x - 1)
noncomputable def canon (F : Int → Bool) (n : Int) : PC := (chg F n).map fun x => (x, F x)
def Per (F : Int → Bool) (d : Int) : Prop := ∀ x, F (x + d) = F x
section
variable {F G : Int → Bool} {n d s : Int}
theorem jStep_len (acc : PC) (p : Int × Bool) : (jStep acc p).length ≤ acc.length + 1 := by
  unfold jStep
  split
  · simp
  · split
    · omega
    · simp
theorem join_len (l : PC) : (joinL l).length ≤ l.length := by
  unfold joinL
  have : ∀ (l acc : PC), (l.foldl jStep acc).length ≤ acc.length + l.length := by
    intro l
    induction l with
    | nil => intro acc; simp
    | cons p l ih =>
      intro acc
      have := ih (jStep acc p)
      have := jStep_len acc p
      simp
      omega
  have := this l []
  simpa using this
theorem mem_chg {x : Int} : x ∈ chg F n ↔ 0 ≤ x ∧ x < n ∧ (x = 0 ∨ F x ≠ F (x - 1)) := mem_ups
theorem const_of {a : Int} {F : Int → Bool} : ∀ k : Nat, (∀ y, a < y → y ≤ a + (k : Int) → F y = F (y - 1)) → F (a + (k : Int)) = F a
  | 0, _ => by simp
  | k + 1, h => by
    have h1 := const_of (F := F) (a := a) k fun y hy hy2 => h y hy (by omega)
    have h2 := h (a + ((k + 1 : Nat) : Int)) (by omega) (by omega)
    rw [h2, ← h1]
    congr 1
    omega
theorem const_to {a b : Int} (hab : a ≤ b) (h : ∀ y, a < y → y ≤ b → F y = F (y - 1)) : F b = F a := by
  have := const_of (F := F) (a := a) (b - a).toNat fun y h1 h2 => h y h1 (by omega)
  rw [show a + ((b - a).toNat : Int) = b by omega] at this
  exact this
theorem join_pre : ∀ (es : List Int), es ≠ [] → es.Pairwise (· < ·) → es.head? = some 0 → (∀ y, 0 < y → (∃ z ∈ es, y ≤ z) → F y ≠ F (y - 1) → y ∈ es) →
    ∃ x v, es.getLast? = some x ∧ joinL (es.map fun x => (x, F x)) = (es.filter fun x => decide (x = 0) || !decide (F x = F (x - 1))).map (fun x => (x, F x)) ∧ (joinL (es.map fun x => (x, F x))).getLast? = some v ∧ v.2 = F x := by
  refine snocInd (fun h => absurd rfl h) fun es x ih _ hp h0 hc => ?_
  have last : (es ++ [x]).getLast? = some x := by simp
  refine ⟨x, ?_⟩
  have jn : joinL ((es ++ [x]).map fun x => (x, F x)) = jStep (joinL (es.map fun x => (x, F x))) (x, F x) := by
    unfold joinL
    rw [List.map_append, List.foldl_append]
    rfl
  by_cases he : es = []
  · subst he
    have hx : x = 0 := by simpa using h0
    subst hx
    exact ⟨(0, F 0), last, by simp [joinL, jStep], by simp [joinL, jStep], rfl⟩
  · rw [List.pairwise_append] at hp
    obtain ⟨p1, _, p3⟩ := hp
    have hh : es.head? = some 0 := by
      cases es with
      | nil => exact absurd rfl he
      | cons a l => simpa using h0
    have h0m : (0 : Int) ∈ es := List.mem_of_head? hh
    obtain ⟨y, v, q1, q2, q3, q4⟩ := ih he p1 hh fun y hy ⟨z, hz, hyz⟩ hne => by
      have := hc y hy ⟨z, List.mem_append_left _ hz, hyz⟩ hne
      rcases List.mem_append.mp this with h | h
      · exact h
      · have := p3 z hz x (by simp)
        rw [List.mem_singleton.mp h] at hyz
        omega
    have ym : y ∈ es := List.mem_of_getLast? q1
    have hyx := p3 y ym x (by simp)
    have y0 : 0 ≤ y := by
      cases es with
      | nil => exact absurd rfl he
      | cons a l =>
        have ha : a = 0 := by simpa using hh
        subst ha
        rcases List.mem_cons.mp ym with h | h
        · omega
        · have := (List.pairwise_cons.mp p1).1 y h
          omega
    have gt : ∀ z ∈ es, z ≤ y := fun z hz => by
      obtain ⟨l', hl'⟩ := List.getLast?_eq_some_iff.mp q1
      rw [hl'] at hz p1
      rcases List.mem_append.mp hz with h | h
      · have := (List.pairwise_append.mp p1).2.2 z h y (by simp)
        omega
      · rw [List.mem_singleton.mp h]; exact Int.le_refl _
    have cst : F (x - 1) = F y := const_to (by omega) fun z hz1 hz2 => by
      refine Classical.byContradiction fun c => ?_
      have := hc z (by omega) ⟨x, by simp, by omega⟩ c
      rcases List.mem_append.mp this with h | h
      · have := gt z h; omega
      · have := List.mem_singleton.mp h; omega
    have x0 : x ≠ 0 := by omega
    have fl : (es ++ [x]).filter (fun x => decide (x = 0) || !decide (F x = F (x - 1))) = es.filter (fun x => decide (x = 0) || !decide (F x = F (x - 1))) ++ (if F x = F (x - 1) then [] else [x]) := by
      rw [List.filter_append]
      congr 1
      by_cases e : F x = F (x - 1) <;> simp [x0, e]
    rw [jn, fl, q2] at *
    have js : jStep ((es.filter fun x => decide (x = 0) || !decide (F x = F (x - 1))).map fun x => (x, F x)) (x, F x) = if v.2 = F x then ((es.filter fun x => decide (x = 0) || !decide (F x = F (x - 1))).map fun x => (x, F x)) else ((es.filter fun x => decide (x = 0) || !decide (F x = F (x - 1))).map fun x => (x, F x)) ++ [(x, F x)] := by
      unfold jStep
      rw [q3]
    rw [js, q4, ← cst]
    by_cases e : F x = F (x - 1)
    · rw [if_pos e.symm, if_pos e]
      exact ⟨v, last, by simp, q3, by rw [q4, ← cst, e]⟩
    · rw [if_neg (fun z => e z.symm), if_neg e]
      exact ⟨(x, F x), last, by simp, by simp, rfl⟩
theorem join_canon (es : List Int) (ha : es.Pairwise (· < ·)) (h0 : (0 : Int) ∈ es) (hb : ∀ x ∈ es, 0 ≤ x ∧ x < n) (hc : ∀ y, 0 < y → y < n → F y ≠ F (y - 1) → y ∈ es) : joinL (es.map fun x => (x, F x)) = canon F n := by
  have hne : es ≠ [] := fun z => by rw [z] at h0; cases h0
  have hh : es.head? = some 0 := by
    cases es with
    | nil => exact absurd rfl hne
    | cons a l =>
      rcases List.mem_cons.mp h0 with h | h
      · rw [h]; rfl
      · have := (List.pairwise_cons.mp ha).1 0 h
        have := (hb a (by simp)).1
        omega
  obtain ⟨x, v, q1, q2, _⟩ := join_pre (F := F) es hne ha hh fun y hy ⟨z, hz, hyz⟩ hn => hc y hy (by have := (hb z hz).2; omega) hn
  rw [q2]
  unfold canon
  congr 1
  refine asc_unique id _ _ (ha.filter _) ups_asc fun y => ?_
  rw [List.mem_filter, mem_chg]
  constructor
  · rintro ⟨h1, h2⟩
    exact ⟨(hb y h1).1, (hb y h1).2, by simpa using h2⟩
  · rintro ⟨h1, h2, h3⟩
    refine ⟨?_, by simpa using h3⟩
    rcases h3 with h3 | h3
    · rw [h3]; exact h0
    · by_cases e : y = 0
      · rw [e]; exact h0
      · exact hc y (by omega) h2 h3
theorem canon_congr (h : ∀ x, 0 ≤ x → x < n → F x = G x) : canon F n = canon G n := by
  have e : chg F n = chg G n := asc_unique id _ _ ups_asc ups_asc fun x => by
    rw [mem_chg, mem_chg]
    constructor
    · rintro ⟨h1, h2, h3⟩
      refine ⟨h1, h2, ?_⟩
      by_cases e : x = 0
      · exact .inl e
      · rw [← h x h1 h2, ← h (x - 1) (by omega) (by omega)]; exact h3
    · rintro ⟨h1, h2, h3⟩
      refine ⟨h1, h2, ?_⟩
      by_cases e : x = 0
      · exact .inl e
      · rw [h x h1 h2, h (x - 1) (by omega) (by omega)]; exact h3
  unfold canon
  rw [e]
  refine List.map_congr_left fun x hx => ?_
  have := mem_chg.mp hx
  rw [h x this.1 this.2.1]
theorem canon_inj (h : canon F n = canon G n) : ∀ k : Nat, (k : Int) < n → F k = G k := by
  have e : chg F n = chg G n := by
    have := congrArg (List.map Prod.fst) h
    unfold canon at this
    rw [List.map_map, List.map_map] at this
    simpa [Function.comp_def] using this
  have val : ∀ x ∈ chg F n, F x = G x := fun x hx => by
    have h1 : (x, F x) ∈ canon G n := by rw [← h]; exact List.mem_map.mpr ⟨x, hx, rfl⟩
    obtain ⟨y, _, h2⟩ := List.mem_map.mp h1
    injection h2 with h3 h4
    rw [← h4, h3]
  intro k
  induction k with
  | zero =>
    intro hk
    exact val 0 (mem_chg.mpr ⟨Int.le_refl _, hk, .inl rfl⟩)
  | succ k ih =>
    intro hk
    have ih := ih (by omega)
    have e1 : ((k + 1 : Nat) : Int) - 1 = (k : Int) := by omega
    by_cases c : ((k + 1 : Nat) : Int) ∈ chg F n
    · exact val _ c
    · have c2 : ((k + 1 : Nat) : Int) ∉ chg G n := e ▸ c
      have f1 : F ((k + 1 : Nat) : Int) = F k := Classical.byContradiction fun z => c (mem_chg.mpr ⟨by omega, hk, .inr (by rw [e1]; exact z)⟩)
      have f2 : G ((k + 1 : Nat) : Int) = G k := Classical.byContradiction fun z => c2 (mem_chg.mpr ⟨by omega, hk, .inr (by rw [e1]; exact z)⟩)
      rw [f1, f2, ih]
end
end Ax
namespace Ax
open PySem PySem.Spec L2
section
variable {F G : Int → Bool} {n d s q : Int}
theorem Per.mul (h : Per F d) : ∀ k : Nat, ∀ x, F (x + d * (k : Int)) = F x
  | 0, x => by simp
  | k + 1, x => by
    have h1 := h (x + d * (k : Int))
    have h2 := Per.mul h k x
    rw [← h2, ← h1]
    congr 1
    push_cast
    rw [Int.mul_add, Int.mul_one]
    omega
theorem Per.mulZ (h : Per F d) (k x : Int) : F (x + d * k) = F x := by
  rcases Int.le_total 0 k with hk | hk
  · have := h.mul k.toNat x
    rw [show ((k.toNat : Nat) : Int) = k by omega] at this
    exact this
  · have := h.mul (-k).toNat (x + d * k)
    rw [show (((-k).toNat : Nat) : Int) = -k by omega, show x + d * k + d * -k = x by rw [Int.mul_neg]; omega] at this
    exact this.symm
theorem Per.dvd {e : Int} (h : Per F d) (hd : d ∣ e) : Per F e := fun x => by
  obtain ⟨k, rfl⟩ := hd
  exact h.mulZ k x
theorem Per.emod (h : Per F d) (x : Int) : F (x % d) = F x := by
  have := h.mulZ (x / d) (x % d)
  have e := Int.mul_ediv_add_emod x d
  rw [← this]
  congr 1
  omega
/-- the turned list is the list of the turned function -/
theorem turn_canon (hp : Per F d) (h0 : 0 < s) (h1 : s < d) : turnL (canon F d) d s (F s) = canon (fun x => F (x + s)) d := by
  unfold turnL
  have e : ([(0, F s)] : PC) ++ ((canon F d).filter fun p => decide (s < p.1)).map (fun p => (p.1 - s, p.2)) ++ (((canon F d).filter fun p => decide (p.1 ≤ s)).map (fun p => (p.1 + d - s, p.2))).filter (fun p => decide (p.1 < d))
      = ([0] ++ ((chg F d).filter fun x => decide (s < x)).map (fun x => x - s) ++ (((chg F d).filter fun x => decide (x ≤ s)).map (fun x => x + d - s)).filter fun x => decide (x < d)).map fun x => (x, F (x + s)) := by
    unfold canon
    rw [List.map_append, List.map_append]
    congr 1
    · congr 1
      · show _ = [((0 : Int), F (0 + s))]
        rw [Int.zero_add]
      · rw [List.filter_map, List.map_map, List.map_map]
        refine List.map_congr_left fun x hx => ?_
        show (x - s, F x) = (x - s, F (x - s + s))
        rw [Int.sub_add_cancel]
    · simp only [List.filter_map, List.map_map]
      refine List.map_congr_left fun x hx => ?_
      show (x + d - s, F x) = (x + d - s, F (x + d - s + s))
      rw [Int.sub_add_cancel, hp x]
  rw [e]
  have asc : (chg F d).Pairwise (· < ·) := ups_asc
  refine join_canon (F := fun x => F (x + s)) (n := d) _ ?_ (by simp) (fun x hx => ?_) (fun y hy0 hy1 hy => ?_)
  · rw [List.pairwise_append]
    refine ⟨?_, ?_, fun a ha b hb => ?_⟩
    · show ((0 : Int) :: ((chg F d).filter fun x => decide (s < x)).map (fun x => x - s)).Pairwise (· < ·)
      rw [List.pairwise_cons]
      refine ⟨fun a ha => ?_, ?_⟩
      · obtain ⟨x, hx, rfl⟩ := List.mem_map.mp ha
        have := (List.mem_filter.mp hx).2
        simp at this
        omega
      · rw [List.pairwise_map]
        exact (asc.filter _).imp fun h => by omega
    · refine List.Pairwise.filter _ ?_
      rw [List.pairwise_map]
      exact (asc.filter _).imp fun h => by omega
    · have hb1 := (List.mem_filter.mp hb).1
      obtain ⟨x, hx, rfl⟩ := List.mem_map.mp hb1
      have hx0 := (mem_chg.mp (List.mem_filter.mp hx).1).1
      rcases List.mem_append.mp ha with h | h
      · have := List.mem_singleton.mp h
        omega
      · obtain ⟨z, hz, rfl⟩ := List.mem_map.mp h
        have := (mem_chg.mp (List.mem_filter.mp hz).1).2.1
        omega
  · rcases List.mem_append.mp hx with h | h
    · rcases List.mem_append.mp h with h | h
      · have := List.mem_singleton.mp h
        omega
      · obtain ⟨z, hz, rfl⟩ := List.mem_map.mp h
        have h2 := (mem_chg.mp (List.mem_filter.mp hz).1).2.1
        have h3 := (List.mem_filter.mp hz).2
        simp at h3
        omega
    · obtain ⟨h2, h3⟩ := List.mem_filter.mp h
      obtain ⟨z, hz, rfl⟩ := List.mem_map.mp h2
      have h4 := (mem_chg.mp (List.mem_filter.mp hz).1).1
      simp at h3
      omega
  · have hy : F (y + s) ≠ F (y - 1 + s) := hy
    by_cases c : y + s < d
    · refine List.mem_append_left _ (List.mem_append_right _ (List.mem_map.mpr ⟨y + s, List.mem_filter.mpr ⟨mem_chg.mpr ⟨by omega, c, .inr ?_⟩, by simp; omega⟩, by omega⟩))
      rw [show y + s - 1 = y - 1 + s by omega]
      exact hy
    · refine List.mem_append_right _ (List.mem_filter.mpr ⟨List.mem_map.mpr ⟨y + s - d, List.mem_filter.mpr ⟨mem_chg.mpr ⟨by omega, by omega, ?_⟩, by simp; omega⟩, by omega⟩, by simp; omega⟩)
      refine .inr fun z => hy ?_
      have h2 := hp (y + s - d)
      have h3 := hp (y + s - d - 1)
      rw [show y + s - d + d = y + s by omega] at h2
      rw [show y + s - d - 1 + d = y - 1 + s by omega] at h3
      rw [h2, h3]
      exact z
theorem turn_iff (hp : Per F d) (h0 : 0 < s) (h1 : s < d) : turnL (canon F d) d s (F s) = canon F d ↔ Per F s := by
  rw [turn_canon hp h0 h1]
  constructor
  · intro h x
    have := canon_inj h (x % d).toNat (by have := Int.emod_lt_of_pos x (by omega : 0 < d); have := Int.emod_nonneg x (by omega : d ≠ 0); omega)
    have hn := Int.emod_nonneg x (by omega : d ≠ 0)
    rw [show (((x % d).toNat : Nat) : Int) = x % d by omega] at this
    have this : F (x % d + s) = F (x % d) := this
    rw [hp.emod] at this
    rw [← this]
    have := hp.mulZ (x / d) (x % d + s)
    rw [← this]
    have e := Int.mul_ediv_add_emod x d
    congr 1
    omega
  · intro h
    exact canon_congr fun x _ _ => h x
/-- the value at s: the last change not behind s -/
theorem last_val (h0 : 0 ≤ s) (h1 : s < d) : ∃ x, ((canon F d).filter fun p => decide (p.1 ≤ s)).getLast? = some (x, F s) := by
  have hne : (chg F d).filter (fun x => decide (x ≤ s)) ≠ [] := fun z => by
    have : (0 : Int) ∈ (chg F d).filter (fun x => decide (x ≤ s)) := List.mem_filter.mpr ⟨mem_chg.mpr ⟨Int.le_refl _, by omega, .inl rfl⟩, by simpa using h0⟩
    rw [z] at this
    cases this
  cases hl : ((chg F d).filter (fun x => decide (x ≤ s))).getLast? with
  | none => exact absurd (List.getLast?_eq_none_iff.mp hl) hne
  | some y =>
    refine ⟨y, ?_⟩
    unfold canon
    rw [List.filter_map, List.getLast?_map]
    show ((chg F d).filter (fun x => decide (x ≤ s))).getLast?.map _ = _
    rw [hl]
    show some (y, F y) = some (y, F s)
    obtain ⟨l', hl'⟩ := List.getLast?_eq_some_iff.mp hl
    have hy : y ∈ (chg F d).filter (fun x => decide (x ≤ s)) := by rw [hl']; simp
    obtain ⟨hy1, hy2⟩ := List.mem_filter.mp hy
    have hy2 : y ≤ s := by simpa using hy2
    have asc : ((chg F d).filter (fun x => decide (x ≤ s))).Pairwise (· < ·) := List.Pairwise.filter _ ups_asc
    rw [const_to (F := F) hy2 fun z hz1 hz2 => Classical.byContradiction fun c => ?_]
    have hz : z ∈ (chg F d).filter (fun x => decide (x ≤ s)) := List.mem_filter.mpr ⟨mem_chg.mpr ⟨by have := (mem_chg.mp hy1).1; omega, by omega, .inr c⟩, by simpa using hz2⟩
    rw [hl'] at hz asc
    rcases List.mem_append.mp hz with h | h
    · have := (List.pairwise_append.mp asc).2.2 z h y (by simp)
      omega
    · have := List.mem_singleton.mp h
      omega
theorem canon_cut (h : s ≤ d) : (canon F d).filter (fun p => decide (p.1 < s)) = canon F s := by
  unfold canon
  rw [List.filter_map]
  congr 1
  refine asc_unique id _ _ (List.Pairwise.filter _ ups_asc) ups_asc fun x => ?_
  rw [List.mem_filter, mem_chg, mem_chg]
  constructor
  · rintro ⟨⟨h1, h2, h3⟩, h4⟩
    exact ⟨h1, by simpa using h4, h3⟩
  · rintro ⟨h1, h2, h3⟩
    exact ⟨⟨h1, by omega, h3⟩, by simpa using h2⟩
/-! ### the least period by trying primes -/
open Classical in
noncomputable def red (F : Int → Bool) : Nat → Int → Int → Int
  | 0, d, _ => d
  | f + 1, d, q => if d % q = 0 ∧ Per F (d / q) then red F f (d / q) q else d
noncomputable def lpd (F : Int → Bool) (qs : List Int) (d : Int) : Int := qs.foldl (fun d q => red F d.toNat d q) d
theorem div_fact (h0 : 0 < d) (hq : 2 ≤ q) (hm : d % q = 0) : 0 < d / q ∧ d / q < d ∧ d = d / q * q := by
  have e := Int.mul_ediv_add_emod d q
  rw [hm, Int.add_zero] at e
  have e2 : d = d / q * q := by rw [Int.mul_comm]; exact e.symm
  have p : 0 < d / q := by
    refine Classical.byContradiction fun c => ?_
    have : q * (d / q) ≤ q * 0 := Int.mul_le_mul_of_nonneg_left (by omega) (by omega)
    omega
  have : d / q * 2 ≤ d / q * q := Int.mul_le_mul_of_nonneg_left hq (by omega)
  exact ⟨p, by omega, e2⟩
theorem red_spec : ∀ (f : Nat) (d : Int), 0 < d → 2 ≤ q → d.toNat ≤ f → Per F d → 0 < red F f d q ∧ red F f d q ∣ d ∧ Per F (red F f d q) ∧ ¬ (red F f d q % q = 0 ∧ Per F (red F f d q / q))
  | 0, d, h0, _, hf, _ => by omega
  | f + 1, d, h0, hq, hf, hp => by
    unfold red
    by_cases c : d % q = 0 ∧ Per F (d / q)
    · rw [if_pos c]
      obtain ⟨q1, q2, q3⟩ := div_fact h0 hq c.1
      obtain ⟨r1, r2, r3, r4⟩ := red_spec f (d / q) q1 hq (by omega) c.2
      exact ⟨r1, Int.dvd_trans r2 ⟨q, q3⟩, r3, r4⟩
    · rw [if_neg c]
      exact ⟨h0, Int.dvd_refl d, hp, c⟩
/-- what no division mends -/
theorem stays {d' : Int} (h0 : 0 < d') (hq : 2 ≤ q) (hd : d' ∣ d) (hn : ¬ (d % q = 0 ∧ Per F (d / q))) : ¬ (d' % q = 0 ∧ Per F (d' / q)) := by
  rintro ⟨h1, h2⟩
  obtain ⟨_, _, q3⟩ := div_fact h0 hq h1
  obtain ⟨k, hk⟩ := hd
  have e : d = d' / q * k * q := by
    rw [hk]
    conv => lhs; rw [q3]
    rw [Int.mul_assoc, Int.mul_comm q k, ← Int.mul_assoc]
  refine hn ⟨by rw [e]; exact Int.mul_emod_left _ _, ?_⟩
  have : d / q = d' / q * k := by rw [e]; exact Int.mul_ediv_cancel _ (by omega)
  rw [this]
  exact h2.dvd (Int.dvd_mul_right _ _)
theorem lpd_spec : ∀ (qs : List Int) (d : Int), (∀ q ∈ qs, 2 ≤ q) → 0 < d → Per F d → 0 < lpd F qs d ∧ lpd F qs d ∣ d ∧ Per F (lpd F qs d) ∧ ∀ q ∈ qs, ¬ (lpd F qs d % q = 0 ∧ Per F (lpd F qs d / q))
  | [], d, _, h0, hp => ⟨h0, Int.dvd_refl d, hp, fun q hq => by cases hq⟩
  | q :: qs, d, hq, h0, hp => by
    obtain ⟨r1, r2, r3, r4⟩ := red_spec (q := q) d.toNat d h0 (hq q (by simp)) (Nat.le_refl _) hp
    obtain ⟨s1, s2, s3, s4⟩ := lpd_spec qs (red F d.toNat d q) (fun x hx => hq x (List.mem_cons_of_mem _ hx)) r1 r3
    have e : lpd F (q :: qs) d = lpd F qs (red F d.toNat d q) := rfl
    rw [e]
    refine ⟨s1, Int.dvd_trans s2 r2, s3, fun x hx => ?_⟩
    rcases List.mem_cons.mp hx with rfl | hx
    · exact stays s1 (hq x (by simp)) s2 r4
    · exact s4 x hx
end
end Ax
namespace Ax
open PySem PySem.Spec L2
def rJoinP : List D → D → Prop := fun ds d => ∃ l : PC, ds = [.lst (l.map pcD)] ∧ l.length < 1000000 ∧ d = .lst ((joinL l).map pcD)
def rTurn : List D → D → Prop := fun ds d => ∃ (l : PC) (p s x : Int) (v : Bool), ds = [.lst (l.map pcD), .int p, .int s] ∧ l.length < 990000 ∧ (l.filter fun p => decide (p.1 ≤ s)).getLast? = some (x, v) ∧ d = .lst ((turnL l p s v).map pcD)
theorem split_len (s : Int) : ∀ l : PC, (l.filter fun q => decide (s < q.1)).length + (l.filter fun q => decide (q.1 ≤ s)).length = l.length
  | [] => rfl
  | q :: l => by
    have := split_len s l
    by_cases h : s < q.1
    · have h2 : ¬ q.1 ≤ s := by omega
      simp [h, h2]
      omega
    · have h2 : q.1 ≤ s := by omega
      simp [h, h2]
      omega
def pcOf : D → Int × Bool
  | .tup [.int i, .bl b] => (i, b)
  | _ => (0, false)
section
variable {P : Program} {w : World} {K : PySem.W.Frag} {mg : Str → Option Value} {base : Heap}
theorem sc_joined_pieces : FnScope ["pieces", "found", "first", "value"] ["pieces"] (defScope s_joined_pieces) := ⟨rfl, rfl, rfl, by decide +kernel, rfl, by decide +kernel, by decide +kernel⟩
theorem ok_joined_pieces (T : Tp K mg) : FnD P w K mg base 1 "joined_pieces" 1 rJoinP := by
  obtain ⟨fd, F⟩ := T.d_joined_pieces
  refine fnD_mk T.g_joined_pieces F sc_joined_pieces rfl (F.bindsN fun _ _ _ _ _ _ us hl => match us, hl with | [_], _ => rfl) fun cdv A outer s H E hr ds d h hl => ?_
  obtain ⟨l, rfl, hlen, rfl⟩ := h
  refine dss_cons (ds_own 1 da_nil ?_ sc_joined_pieces.nd)
  refine dss_cons (ds_for (di_list (de_var 0)) (fun i G => ∃ u v, G = [.d (.lst (l.map pcD)), .ol ((joinL (l.take i)).map pcD), u, v]) ⟨.un, .un, rfl⟩ (fun i x G' hx hG => ?_) (fun G' hG => ?_) rfl)
  · obtain ⟨u, v, rfl⟩ := hG
    rw [List.getElem?_map] at hx
    cases hy : l[i]? with
    | none => rw [hy] at hx; cases hx
    | some y =>
      rw [hy] at hx
      cases hx
      have il := (List.getElem?_eq_some_iff.mp hy).1
      have jl := join_len (l.take i)
      rw [List.length_take] at jl
      have tk : joinL (l.take (i + 1)) = jStep (joinL (l.take i)) y := by
        unfold joinL
        rw [List.take_succ, hy, Option.toList_some, List.foldl_append]
        rfl
      rw [tk]
      generalize joinL (l.take i) = acc at jl
      refine ⟨_, _, dg_tup (dgs_cons (dg_name 2 sc_joined_pieces.nd) (dgs_cons (dg_name 3 sc_joined_pieces.nd) dgs_nil)) rfl, ?_⟩
      cases hlast : acc.getLast? with
      | none =>
        have ha : acc = [] := List.getLast?_eq_none_iff.mp hlast
        subst ha
        refine dss_one (ds_if (dt_thaw 1 (xs := []) (dt_w (dw_or (k1 := true) (k2 := true) (dt_cmp (o_eqN hr.units0) (de_var 1) (de_lst da_nil)) fun z => absurd z (by decide)))) (fun hb => ?_) (fun hb => ?_))
        · exact dss_one (ds_app 1 (de_tup (da_cons (de_var 2) (da_cons (de_var 3) da_nil))) rfl rfl (by simp) ⟨_, _, rfl⟩)
        · exact absurd hb (by decide)
      | some q =>
        obtain ⟨a', ha⟩ := List.getLast?_eq_some_iff.mp hlast
        have ne : (acc.map pcD).isEmpty = false := by rw [ha, List.map_append]; simp
        refine dss_one (ds_if (bb := false || !decide (q.2 = y.2)) (dt_thaw 1 (xs := acc.map pcD) (DT.to (dt_w (dw_or (dt_cmp (o_eqN hr.units0) (de_var 1) (de_lst da_nil)) fun _ => (dw_or1 (dt_cmp o_neB (de_ixT (de_ixL (d := pcD q) (de_var 1) (de_neg de_int) (by rw [ha, List.map_append]; exact atI_last _ _)) de_int) (de_var 3))))) (by rw [ne]))) (fun hb => ?_) (fun hb => ?_))
        · have hne : q.2 ≠ y.2 := by simpa using hb
          refine dss_one (ds_app 1 (xs := acc.map pcD) (de_tup (da_cons (de_var 2) (da_cons (de_var 3) da_nil))) rfl rfl (by rw [List.length_map]; omega) ⟨.d (.int y.1), .d (.bl y.2), ?_⟩)
          unfold jStep
          rw [hlast]
          show _ = [Sl.d _, Sl.ol ((if q.2 = y.2 then acc else acc ++ [y]).map pcD), _, _]
          rw [if_neg hne, List.map_append]
          rfl
        · have he : q.2 = y.2 := by simpa using hb
          refine dss_nil ⟨.d (.int y.1), .d (.bl y.2), ?_⟩
          unfold jStep
          rw [hlast]
          show _ = [Sl.d _, Sl.ol ((if q.2 = y.2 then acc else acc ++ [y]).map pcD), _, _]
          rw [if_pos he]
          rfl
  · obtain ⟨u, v, rfl⟩ := hG
    rw [List.length_map, List.take_length]
    exact dss_frz 1 rfl (dss_one (ds_ret (de_var 1) rfl))

theorem sc_turned_pieces : FnScope ["pieces", "period", "shift", "inner", "outer", "at_shift", "first", "value"] ["pieces", "period", "shift"] (defScope s_turned_pieces) := ⟨rfl, rfl, rfl, by decide +kernel, rfl, by decide +kernel, by decide +kernel⟩
theorem ok_turned_pieces (T : Tp K mg) : FnD P w K mg base 2 "turned_pieces" 3 rTurn := by
  obtain ⟨fd, F⟩ := T.d_turned_pieces
  refine fnD_mk T.g_turned_pieces F sc_turned_pieces rfl (F.bindsN fun _ _ _ _ _ _ us hl => match us, hl with | [_, _, _], _ => rfl) fun cdv A outer s H E hr ds d h hl => ?_
  obtain ⟨l, p, sh, x0, v, rfl, hlen, hlast, rfl⟩ := h
  have f1 := List.length_filter_le (fun q : Int × Bool => decide (sh < q.1)) l
  have f2 := List.length_filter_le (fun q : Int × Bool => decide (q.1 ≤ sh)) l
  have fs := split_len sh l
  refine dss_cons (ds_lcK 3 [("first", 6), ("value", 7)] (lck (di_list (de_var 0)) (fun d => decide (sh < (pcOf d).1)) (fun d => pcD ((pcOf d).1 - sh, (pcOf d).2)) (freeC (freeC free0)) (by rw [List.length_map]; omega) fun x hx => ?_) ?_ (blk_at ["pieces", "period", "shift", "inner", "outer", "at_shift", "first", "value"] (defScope s_turned_pieces)) sc_turned_pieces.nd rfl (sw_true rfl rfl rfl (by decide +kernel)))
  · obtain ⟨y, hy, rfl⟩ := List.mem_map.mp hx
    exact ⟨_, _, bkAll fun _ _ _ _ _ => (dg_tup (dgs_cons (dg_name 6 sc_turned_pieces.nd) (dgs_cons (dg_name 7 sc_turned_pieces.nd) dgs_nil)) rfl), by decide, rfl, bkAll fun _ _ _ _ _ => (dts_one (dt_cmp o_gt (de_var 6) (de_var 2))), fun _ => bkAll fun _ _ _ _ _ => (de_tup (da_cons (de_op o_sub (de_var 6) (de_var 2)) (da_cons (de_var 7) da_nil)))⟩
  rw [List.filter_map, List.map_map]
  refine dss_cons (ds_lcK 4 [("first", 6), ("value", 7)] (lck (di_list (de_var 0)) (fun d => decide ((pcOf d).1 ≤ sh)) (fun d => pcD ((pcOf d).1 + p - sh, (pcOf d).2)) (freeC (freeC free0)) (by rw [List.length_map]; omega) fun x hx => ?_) ?_ (blk_at ["pieces", "period", "shift", "inner", "outer", "at_shift", "first", "value"] (defScope s_turned_pieces)) sc_turned_pieces.nd rfl (sw_true rfl rfl rfl (by decide +kernel)))
  · obtain ⟨y, hy, rfl⟩ := List.mem_map.mp hx
    exact ⟨_, _, bkAll fun _ _ _ _ _ => (dg_tup (dgs_cons (dg_name 6 sc_turned_pieces.nd) (dgs_cons (dg_name 7 sc_turned_pieces.nd) dgs_nil)) rfl), by decide, rfl, bkAll fun _ _ _ _ _ => (dts_one (dt_cmp o_le (de_var 6) (de_var 2))), fun _ => bkAll fun _ _ _ _ _ => (de_tup (da_cons (de_op o_sub (de_op o_add (de_var 6) (de_var 1)) (de_var 2)) (da_cons (de_var 7) da_nil)))⟩
  rw [List.filter_map, List.map_map]
  obtain ⟨a', ha⟩ := List.getLast?_eq_some_iff.mp hlast
  have e1 : (l.filter ((fun d => decide (sh < (pcOf d).1)) ∘ pcD)).map ((fun d => pcD ((pcOf d).1 - sh, (pcOf d).2)) ∘ pcD) = ((l.filter fun q => decide (sh < q.1)).map fun q => (q.1 - sh, q.2)).map pcD := by
    rw [List.map_map]; rfl
  have e2 : (l.filter ((fun d => decide ((pcOf d).1 ≤ sh)) ∘ pcD)).map ((fun d => pcD ((pcOf d).1 + p - sh, (pcOf d).2)) ∘ pcD) = ((l.filter fun q => decide (q.1 ≤ sh)).map fun q => (q.1 + p - sh, q.2)).map pcD := by
    rw [List.map_map]; rfl
  rw [e1, e2]
  refine dss_cons (ds_set 5 (de_ixT (de_ixL (d := pcD (x0 + p - sh, v)) (de_var 4) (de_neg de_int) (by rw [ha, List.map_append, List.map_append]; exact atI_last _ _)) de_int) ?_ sc_turned_pieces.nd)
  have g1 : (((l.filter fun q => decide (sh < q.1)).map fun q => (q.1 - sh, q.2)).map pcD).length < 990000 := by rw [List.length_map, List.length_map]; omega
  have g2 : (((l.filter fun q => decide (q.1 ≤ sh)).map fun q => (q.1 + p - sh, q.2)).map pcD).length < 990000 := by rw [List.length_map, List.length_map]; omega
  have f3 := List.length_filter_le (fun q : Int × Bool => decide (q.1 < p)) ((l.filter fun q => decide (q.1 ≤ sh)).map fun q => (q.1 + p - sh, q.2))
  have f4 : ([(0, v)] ++ (l.filter fun q => decide (sh < q.1)).map (fun q => (q.1 - sh, q.2)) ++ ((l.filter fun q => decide (q.1 ≤ sh)).map (fun q => (q.1 + p - sh, q.2))).filter fun q => decide (q.1 < p) : PC).length < 1000000 := by
    rw [List.length_append, List.length_append, List.length_map]
    rw [List.length_map] at f3
    show 1 + _ + _ < 1000000
    omega
  refine dss_one (ds_ret (de_call (ok_joined_pieces T) (hr.mono (by decide)) (da_cons (de_o (de_o (de_lst (da_cons (de_tup (da_cons de_int (da_cons (de_var 5) da_nil))) da_nil)) (de_var 3) (o_cat (by show 1 + _ ≤ _; omega))) (DE.to (de_lcK [("first", 6), ("value", 7)] (lck (di_list (de_var 4)) (fun d => decide ((pcOf d).1 < p)) (fun d => pcD (pcOf d)) (freeC (freeC free0)) (by omega) fun x hx => ?_) (blk_at ["pieces", "period", "shift", "inner", "outer", "at_shift", "first", "value"] (defScope s_turned_pieces)) sc_turned_pieces.nd rfl) (d' := .lst ((((l.filter fun q => decide (q.1 ≤ sh)).map fun q => (q.1 + p - sh, q.2)).filter fun q => decide (q.1 < p)).map pcD)) (by rw [List.filter_map, List.map_map]; rfl)) (o_cat ?_)) da_nil) ⟨_, ?_, f4, rfl⟩) rfl)
  · obtain ⟨y, hy, rfl⟩ := List.mem_map.mp hx
    exact ⟨_, _, bkAll fun _ _ _ _ _ => (dg_tup (dgs_cons (dg_name 6 sc_turned_pieces.nd) (dgs_cons (dg_name 7 sc_turned_pieces.nd) dgs_nil)) rfl), by decide, rfl, bkAll fun _ _ _ _ _ => (dts_one (dt_cmp o_lt (de_var 6) (de_var 1))), fun _ => bkAll fun _ _ _ _ _ => (de_tup (da_cons (de_var 6) (da_cons (de_var 7) da_nil)))⟩
  · rw [List.length_append, List.length_map (f := pcD)]
    show 1 + _ + _ ≤ _
    rw [List.length_map] at f3
    rw [List.length_map, List.length_map]
    omega
  · rw [List.map_append, List.map_append]
    rfl
end
end Ax
namespace Ax
open PySem PySem.Spec L2
def stripF : Nat → Int → Int → Int
  | 0, n, _ => n
  | f + 1, n, p => if n % p = 0 then stripF f (n / p) p else n
def prF : Nat → Int → Int → List Int → List Int
  | 0, _, _, acc => acc
  | f + 1, n, p, acc => if p * p ≤ n then (if n % p = 0 then prF f (stripF 30 n p) (p + 1) (acc ++ [p]) else prF f n (p + 1) acc) else (if 1 < n then acc ++ [n] else acc)
def primesOf (n : Int) : List Int := prF 30 n 2 []
def rPrimesOf : List D → D → Prop := fun ds d => ∃ n : Int, ds = [.int n] ∧ 1 ≤ n ∧ n ≤ 25 ∧ d = .lst ((primesOf n).map .int)
/-- the numbers of some rules -/
def numsOf (rs : List Ru) : List Int := rs.flatMap fun r => r.b :: r.hs
def primesIn (rs : List Ru) : List Int := ((numsOf rs).flatMap primesOf).foldl insK [2]
def rPrimesIn : List D → D → Prop := fun ds d => ∃ rs : List Ru, ds = [.lst (rs.map Ru.dt)] ∧ rs.length ≤ 10 ∧ (∀ r ∈ rs, r.Ok) ∧ d = .lst ((primesIn rs).map .int)
theorem primes_small : ∀ n : Fin 26, (primesOf n.val).length ≤ 5 ∧ (∀ q ∈ primesOf n.val, 2 ≤ q ∧ q ≤ 25) ∧ (1 ≤ n.val → ∀ q ∈ [2, 3, 5, 7, 11, 13], (n.val : Int) % q = 0 → q ∈ primesOf n.val) := by decide +kernel
theorem primes_fact {n : Int} (h1 : 1 ≤ n) (h2 : n ≤ 25) : (primesOf n).length ≤ 5 ∧ (∀ q ∈ primesOf n, 2 ≤ q ∧ q ≤ 25) ∧ ∀ q ∈ [2, 3, 5, 7, 11, 13], n % q = 0 → q ∈ primesOf n := by
  have := primes_small ⟨n.toNat, by omega⟩
  simp only [show ((n.toNat : Nat) : Int) = n by omega] at this
  exact ⟨this.1, this.2.1, this.2.2 (by omega)⟩
section
variable {P : Program} {w : World} {K : PySem.W.Frag} {mg : Str → Option Value} {base : Heap}
theorem rem_eq (n p : Int) : n - n / p * p = n % p := by
  have := Int.mul_ediv_add_emod n p
  rw [Int.mul_comm] at this
  omega
theorem sc_primes_of : FnScope ["number", "found", "prime"] ["number"] (defScope s_primes_of) := ⟨rfl, rfl, rfl, by decide +kernel, rfl, by decide +kernel, by decide +kernel⟩
theorem ok_primes_of (T : Tp K mg) : FnD P w K mg base 1 "primes_of" 1 rPrimesOf := by
  obtain ⟨fd, F⟩ := T.d_primes_of
  refine fnD_mk T.g_primes_of F sc_primes_of rfl (F.bindsN fun _ _ _ _ _ _ us hl => match us, hl with | [_], _ => rfl) fun cdv A outer s H E hr ds d h hl => ?_
  obtain ⟨N, rfl, h1, h25, rfl⟩ := h
  refine dss_cons (ds_own 1 da_nil ?_ sc_primes_of.nd)
  refine dss_cons (ds_set 2 de_int ?_ sc_primes_of.nd)
  refine dss_cons (ds_while (fun m G => ∃ (n p : Int) (acc : List Int), G = [.d (.int n), .ol (acc.map .int), .d (.int p)] ∧ 1 ≤ n ∧ n ≤ 25 ∧ 2 ≤ p ∧ p ≤ 30 ∧ m = (32 - p).toNat ∧ prF m n p acc = primesOf N ∧ acc.length ≤ p.toNat) ⟨30, N, 2, [], rfl, h1, h25, by omega, by omega, rfl, rfl, by simp⟩ (fun m G' hG => ?_))
  obtain ⟨n, p, acc, rfl, n1, n2, p1, p2, rfl, hp, hal⟩ := hG
  obtain ⟨f, hf⟩ : ∃ f, (32 - p).toNat = f + 1 := ⟨(32 - p).toNat - 1, by omega⟩
  refine ⟨_, _, dt_cmp o_le (de_o (de_var 2) (de_var 2) (o_mulS (.inl ⟨by omega, by omega⟩))) (de_var 0), fun hb => ?_, fun hb => ?_⟩
  · have hpp := of_decide_eq_true hb
    have p5 : p ≤ 5 := by
      refine Classical.byContradiction fun c => ?_
      have : 6 * 6 ≤ p * p := Int.mul_le_mul (by omega) (by omega) (by omega) (by omega)
      omega
    have hp2 : prF f (if n % p = 0 then stripF 30 n p else n) (p + 1) (if n % p = 0 then acc ++ [p] else acc) = primesOf N := by
      rw [hf] at hp
      unfold prF at hp
      rw [if_pos hpp] at hp
      by_cases c : n % p = 0
      · rw [if_pos c] at hp ⊢
        rw [if_pos c]
        exact hp
      · rw [if_neg c] at hp ⊢
        rw [if_neg c]
        exact hp
    refine dss_cons (ds_if (dt_cmp o_eq (de_op o_sub (de_var 0) (de_o (de_o (de_var 0) (de_var 2) (o_div (divW (by omega) (by omega)))) (de_var 2) (o_mulS (.inr ⟨by omega, by omega⟩)))) de_int) (fun hb2 => ?_) (fun hb2 => ?_))
    · rw [rem_eq] at hb2
      have hz := of_decide_eq_true hb2
      rw [if_pos hz, if_pos hz] at hp2
      refine dss_cons (ds_app 1 (xs := acc.map .int) (de_var 2) rfl rfl (by rw [List.length_map]; omega) ?_)
      refine dss_one (ds_while (fun m G => ∃ (n' : Int) (g : Nat), G = [.d (.int n'), .ol (acc.map .int ++ [.int p]), .d (.int p)] ∧ 1 ≤ n' ∧ n' ≤ 25 ∧ stripF g n' p = stripF 30 n p ∧ n'.toNat < g ∧ m = n'.toNat) ⟨_, n, 30, rfl, n1, n2, rfl, by omega, rfl⟩ (fun m G' hG => ?_))
      obtain ⟨n', g, rfl, a1, a2, a3, a4, rfl⟩ := hG
      obtain ⟨g', rfl⟩ : ∃ g', g = g' + 1 := ⟨g - 1, by omega⟩
      refine ⟨_, _, dt_cmp o_eq (de_op o_sub (de_var 0) (de_o (de_o (de_var 0) (de_var 2) (o_div (divW (by omega) (by omega)))) (de_var 2) (o_mulS (.inr ⟨by omega, by omega⟩)))) de_int, fun hb3 => ?_, fun hb3 => ?_⟩
      · rw [rem_eq] at hb3
        have hz3 := of_decide_eq_true hb3
        obtain ⟨b1, b2, _⟩ := div_fact (by omega : 0 < n') p1 hz3
        unfold stripF at a3
        rw [if_pos hz3] at a3
        exact dss_one (ds_set 0 (de_o (de_var 0) (de_var 2) (o_div (divW (by omega) (by omega)))) ⟨_, by omega, n' / p, g', rfl, by omega, by omega, a3, by omega, rfl⟩ sc_primes_of.nd)
      · rw [rem_eq] at hb3
        have hz3 := of_decide_eq_false hb3
        unfold stripF at a3
        rw [if_neg hz3] at a3
        refine dss_one (ds_aug 2 ip_add rfl de_int ⟨f, by omega, n', p + 1, acc ++ [p], by rw [List.map_append]; rfl, a1, a2, by omega, by omega, by omega, by rw [a3]; exact hp2, by simp; omega⟩ sc_primes_of.nd)
    · rw [rem_eq] at hb2
      have hz := of_decide_eq_false hb2
      rw [if_neg hz, if_neg hz] at hp2
      exact dss_nil (dss_one (ds_aug 2 ip_add rfl de_int ⟨f, by omega, n, p + 1, acc, rfl, n1, n2, by omega, by omega, by omega, hp2, by omega⟩ sc_primes_of.nd))
  · have hpp := of_decide_eq_false hb
    rw [hf] at hp
    unfold prF at hp
    rw [if_neg hpp] at hp
    refine dss_cons (ds_if (dt_cmp o_gt (de_var 0) de_int) (fun hb2 => ?_) (fun hb2 => ?_))
    · rw [if_pos (of_decide_eq_true hb2)] at hp
      refine dss_one (ds_app 1 (xs := acc.map .int) (de_var 0) rfl rfl (by rw [List.length_map]; omega) ?_)
      refine dss_frz 1 rfl (dss_one (ds_ret (de_var 1) ?_))
      rw [← hp, List.map_append]
      rfl
    · rw [if_neg (of_decide_eq_false hb2)] at hp
      refine dss_nil (dss_frz 1 rfl (dss_one (ds_ret (de_var 1) ?_)))
      rw [← hp]
end
end Ax
namespace Ax
open PySem PySem.Spec L2
section
variable {P : Program} {w : World} {K : PySem.W.Frag} {mg : Str → Option Value} {base : Heap}
theorem sc_primes_in : FnScope ["rules", "found", "rule", "number", "prime"] ["rules"] (defScope s_primes_in) := ⟨rfl, rfl, rfl, by decide +kernel, rfl, by decide +kernel, by decide +kernel⟩
theorem flat_take {α β : Type} {f : α → List β} {l : List α} {i : Nat} {x : α} (h : l[i]? = some x) : (l.take (i + 1)).flatMap f = (l.take i).flatMap f ++ f x := by
  rw [List.take_succ, h, Option.toList_some, List.flatMap_append]
  simp
theorem fold_take {l acc : List Int} {i : Nat} {x : Int} (h : l[i]? = some x) : (l.take (i + 1)).foldl insK acc = insK ((l.take i).foldl insK acc) x := by
  rw [List.take_succ, h, Option.toList_some, List.foldl_append]
  rfl
theorem ok_primes_in (T : Tp K mg) : FnD P w K mg base 2 "primes_in" 1 rPrimesIn := by
  obtain ⟨fd, F⟩ := T.d_primes_in
  refine fnD_mk T.g_primes_in F sc_primes_in rfl (F.bindsN fun _ _ _ _ _ _ us hl => match us, hl with | [_], _ => rfl) fun cdv A outer s H E hr ds d h hl => ?_
  obtain ⟨rs, rfl, hlen, ho, rfl⟩ := h
  refine dss_cons (ds_ownD1 1 ?_ sc_primes_in.nd)
  refine dss_cons (ds_for (di_list (de_var 0)) (fun i G => ∃ (ks : List Int) (u v t : Sl), G = [.d (.lst (rs.map Ru.dt)), .od ks, u, v, t] ∧ ks = ((numsOf (rs.take i)).flatMap primesOf).foldl insK [2] ∧ ks.length ≤ 1 + 25 * i) ⟨[2], .un, .un, .un, rfl, rfl, Nat.le_refl _⟩ (fun i x G' hx hG => ?_) (fun G' hG => ?_) rfl)
  · obtain ⟨ks, u, v, t, rfl, e1, l1⟩ := hG
    rw [List.getElem?_map] at hx
    cases hy : rs[i]? with
    | none => rw [hy] at hx; cases hx
    | some r =>
      rw [hy] at hx
      cases hx
      have il := (List.getElem?_eq_some_iff.mp hy).1
      have hor := ho r (List.mem_of_getElem? hy)
      have hhl := hor.len
      obtain ⟨hd, tl, hhs⟩ : ∃ hd tl, r.hs = hd :: tl := by
        have := hor.ne
        cases e : r.hs with
        | nil => exact absurd e this
        | cons a b => exact ⟨a, b, rfl⟩
      have nums : ∀ n ∈ r.b :: r.hs, 1 ≤ n ∧ n ≤ 25 := fun n hn => by
        have b2 := hor.b2
        have b10 := hor.b10
        rcases List.mem_cons.mp hn with rfl | hn
        · omega
        · exact ⟨(hor.h1 n hn).1, (hor.h1 n hn).2.1⟩
      have nf : numsOf (rs.take (i + 1)) = numsOf (rs.take i) ++ (r.b :: r.hs) := flat_take hy
      refine ⟨_, _, dg_name 2 sc_primes_in.nd, ?_⟩
      refine dss_one (ds_for (ds := (r.b :: r.hs).map .int) (DI.to (di_tup (de_o (de_tup (da_cons (de_fld (de_var 2) T.c_Rule T.n_Rule_ground) da_nil)) (de_fld (d := .tup (.int hd :: tl.map .int)) (de_var 2) T.c_Rule T.n_Rule_heads (by rw [show D.tup (.int hd :: tl.map .int) = D.tup (r.hs.map .int) by rw [hhs]; rfl]; rfl)) (o_catT (by rw [hhs] at hhl; simp at hhl ⊢; omega)))) (by rw [hhs]; rfl)) (fun j G => ∃ (ks' : List Int) (v t : Sl), G = [.d (.lst (rs.map Ru.dt)), .od ks', .d r.dt, v, t] ∧ ks' = (((r.b :: r.hs).take j).flatMap primesOf).foldl insK ks ∧ ks'.length ≤ 1 + 25 * i + 5 * j) ⟨ks, v, t, rfl, rfl, l1⟩ (fun j x G' hx hG => ?_) (fun G' hG => ?_) rfl)
      · obtain ⟨ks', v, t, rfl, e2, l2⟩ := hG
        rw [List.getElem?_map] at hx
        cases hz : (r.b :: r.hs)[j]? with
        | none => rw [hz] at hx; cases hx
        | some n =>
          rw [hz] at hx
          cases hx
          have jl := (List.getElem?_eq_some_iff.mp hz).1
          have jl : j < 5 := by simp at jl; omega
          obtain ⟨n1, n2⟩ := nums n (List.mem_of_getElem? hz)
          obtain ⟨pl, _, _⟩ := primes_fact n1 n2
          refine ⟨_, _, dg_name 3 sc_primes_in.nd, ?_⟩
          refine dss_one (ds_for (di_list (de_call (ok_primes_of T) (hr.mono (by decide)) (da_cons (de_var 3) da_nil) ⟨n, rfl, n1, n2, rfl⟩)) (fun k G => ∃ (ks'' : List Int) (t : Sl), G = [.d (.lst (rs.map Ru.dt)), .od ks'', .d r.dt, .d (.int n), t] ∧ ks'' = ((primesOf n).take k).foldl insK ks' ∧ ks''.length ≤ 1 + 25 * i + 5 * j + k) ⟨ks', t, rfl, rfl, l2⟩ (fun k x G' hx hG => ?_) (fun G' hG => ?_) rfl)
          · obtain ⟨ks'', t, rfl, e3, l3⟩ := hG
            rw [List.getElem?_map] at hx
            cases hq : (primesOf n)[k]? with
            | none => rw [hq] at hx; cases hx
            | some q =>
              rw [hq] at hx
              cases hx
              have kl := (List.getElem?_eq_some_iff.mp hq).1
              refine ⟨_, _, dg_name 4 sc_primes_in.nd, ?_⟩
              exact dss_one (ds_put 1 (ks := ks'') de_bl (de_var 4) (by have := hr.units; omega) (by omega) ⟨insK ks'' q, .d (.int q), rfl, by rw [fold_take hq, e3], by have := insK_len ks'' q; omega⟩)
          · obtain ⟨ks'', t, rfl, e3, l3⟩ := hG
            rw [List.length_map] at e3 l3
            rw [List.take_length] at e3
            exact ⟨ks'', _, _, rfl, by rw [flat_take hz, List.foldl_append, ← e2]; exact e3, by omega⟩
      · obtain ⟨ks', v, t, rfl, e2, l2⟩ := hG
        rw [List.length_map] at e2 l2
        rw [List.take_length] at e2
        have : (r.b :: r.hs).length ≤ 5 := by simp; omega
        exact ⟨ks', _, _, _, rfl, by rw [nf, List.flatMap_append, List.foldl_append, ← e1]; exact e2, by omega⟩
  · obtain ⟨ks, u, v, t, rfl, e1, l1⟩ := hG
    rw [List.length_map, List.take_length] at e1
    refine dss_one (ds_ret (de_listD 1 T.b_list rfl) ?_)
    rw [e1]
    rfl
theorem lay_pcs : ∀ l : PC, PyData.canLayAll0 (D.pys (l.map pcD)) = true ∧ PyData.depthAll (D.pys (l.map pcD)) ≤ 1 ∧ D.isPys (l.map pcD) = true
  | [] => by simp [D.pys, PyData.canLayAll0, PyData.depthAll, D.isPys]
  | x :: l => by
    obtain ⟨h1, h2, h3⟩ := lay_pcs l
    simp only [List.map_cons, pcD, D.pys, D.py, D.isPys, D.isPy, PyData.canLayAll0, PyData.depthAll, PyData.canLay0, PyData.depth] at h1 h2 h3 ⊢
    refine ⟨by simp [h1], ?_, by simp [h3]⟩
    simp
    omega
theorem pcs_py (l : PC) : (D.lst (l.map pcD)).isPy = true := by
  unfold D.isPy
  exact (lay_pcs l).2.2
theorem pcs_shaped (l : PC) : SeqAt.shaped (D.lst (l.map pcD)).py = true := by
  obtain ⟨h1, h2, _⟩ := lay_pcs l
  unfold SeqAt.shaped
  simp only [D.py, PyData.canLay0, PyData.depth, h1, Bool.true_and, decide_eq_true_eq]
  omega
theorem pcs_eqv : ∀ l m : PC, PyData.eqvAll (D.pys (l.map pcD)) (D.pys (m.map pcD)) = decide (l = m)
  | [], [] => by simp [D.pys, PyData.eqvAll]
  | [], _ :: _ => by simp [D.pys, PyData.eqvAll]
  | _ :: _, [] => by simp [D.pys, PyData.eqvAll]
  | (x, a) :: l, (y, b) :: m => by
    have ih := pcs_eqv l m
    simp only [List.map_cons, pcD, D.pys, D.py, PyData.eqvAll, PyData.eqv] at ih ⊢
    rw [ih]
    by_cases h1 : x = y <;> by_cases h2 : a = b <;> by_cases h3 : l = m <;> simp [h1, h2, h3]
theorem o_nePcs {X : Cx} {l m : PC} (hu : X.A.units + 64 < cLine) : OpD X (compareOp .NotEq) (.lst (l.map pcD)) (.lst (m.map pcD)) (.bl (!decide (l = m))) := by
  have := o_neD (X := X) hu (pcs_py l) (pcs_py m) (pcs_shaped l) (pcs_shaped m)
  have e : PyData.eqv (D.lst (l.map pcD)).py (D.lst (m.map pcD)).py = decide (l = m) := by
    simp only [D.py, PyData.eqv]
    exact pcs_eqv l m
  rw [e] at this
  exact this
theorem ds_brk {X : Cx} {G : List Sl} {E : DEnds} {pos : Pos} (k : E.bk G) : DS X G (.Break pos) E := .of ps_break fun σ H R B hh => ⟨G, B, hh, ext_refl B, k⟩
def rLeastP : List D → D → Prop := fun ds d => ∃ (Fn : Int → Bool) (p : Int) (qs : List Int), ds = [.lst ((canon Fn p).map pcD), .int p, .lst (qs.map .int)] ∧ Per Fn p ∧ 0 < p ∧ p < 2 ^ 200 ∧ (∀ q ∈ qs, 2 ≤ q ∧ q ≤ 25) ∧ (canon Fn p).length < 990000 ∧ d = .int (lpd Fn qs p)
theorem sc_least_period : FnScope ["pieces", "period", "primes", "prime", "shorter", "inner", "first", "value"] ["pieces", "period", "primes"] (defScope s_least_period) := ⟨rfl, rfl, rfl, by decide +kernel, rfl, by decide +kernel, by decide +kernel⟩
theorem ok_least_period (T : Tp K mg) : FnD P w K mg base 3 "least_period" 3 rLeastP := by
  obtain ⟨fd, F⟩ := T.d_least_period
  refine fnD_mk T.g_least_period F sc_least_period rfl (F.bindsN fun _ _ _ _ _ _ us hl => match us, hl with | [_, _, _], _ => rfl) fun cdv A outer s H E hr ds d h hl => ?_
  obtain ⟨Fn, p, qs, rfl, hp, p0, p1, hq, hlen, rfl⟩ := h
  refine dss_cons (ds_for (di_list (de_var 2)) (fun i G => ∃ (p' : Int) (u v t : Sl), G = [.d (.lst ((canon Fn p').map pcD)), .d (.int p'), .d (.lst (qs.map .int)), u, v, t, .un, .un] ∧ Per Fn p' ∧ 0 < p' ∧ p' < 2 ^ 200 ∧ (canon Fn p').length < 990000 ∧ p' = lpd Fn (qs.take i) p) ⟨p, .un, .un, .un, rfl, hp, p0, p1, hlen, rfl⟩ (fun i x G' hx hG => ?_) (fun G' hG => ?_) rfl)
  · obtain ⟨p', u, v, t, rfl, h1, h2, h3, h4, e1⟩ := hG
    rw [List.getElem?_map] at hx
    cases hy : qs[i]? with
    | none => rw [hy] at hx; cases hx
    | some q =>
      rw [hy] at hx
      cases hx
      obtain ⟨q2, q25⟩ := hq q (List.mem_of_getElem? hy)
      have tk : lpd Fn (qs.take (i + 1)) p = red Fn p'.toNat p' q := by
        unfold lpd at e1 ⊢
        rw [List.take_succ, hy, Option.toList_some, List.foldl_append, ← e1]
        rfl
      refine ⟨_, _, dg_name 3 sc_least_period.nd, ?_⟩
      refine dss_one (ds_while (fun m G => ∃ (p'' : Int) (v t : Sl) (f : Nat), G = [.d (.lst ((canon Fn p'').map pcD)), .d (.int p''), .d (.lst (qs.map .int)), .d (.int q), v, t, .un, .un] ∧ Per Fn p'' ∧ 0 < p'' ∧ p'' < 2 ^ 200 ∧ (canon Fn p'').length < 990000 ∧ p''.toNat ≤ f ∧ red Fn f p'' q = red Fn p'.toNat p' q ∧ m = p''.toNat) ⟨_, p', v, t, p'.toNat, rfl, h1, h2, h3, h4, Nat.le_refl _, rfl, rfl⟩ (fun m G' hG => ?_))
      obtain ⟨p2, v, t, f, rfl, a1, a2, a3, a4, a5, a6, rfl⟩ := hG
      have fin : (p2 % q = 0 → ¬ Per Fn (p2 / q)) → red Fn f p2 q = p2 := fun c => by
        cases f with
        | zero => rfl
        | succ f =>
          unfold red
          rw [if_neg fun z => c z.1 z.2]
      have hdone : (p2 % q = 0 → ¬ Per Fn (p2 / q)) → ∀ G : List Sl, (∃ v t : Sl, G = [.d (.lst ((canon Fn p2).map pcD)), .d (.int p2), .d (.lst (qs.map .int)), .d (.int q), v, t, .un, .un]) → ∃ (p' : Int) (u v t : Sl), G = [.d (.lst ((canon Fn p').map pcD)), .d (.int p'), .d (.lst (qs.map .int)), u, v, t, .un, .un] ∧ Per Fn p' ∧ 0 < p' ∧ p' < 2 ^ 200 ∧ (canon Fn p').length < 990000 ∧ p' = lpd Fn (qs.take (i + 1)) p := fun c G ⟨v, t, e⟩ =>
        ⟨p2, _, v, t, e, a1, a2, a3, a4, by rw [tk, ← a6, fin c]⟩
      refine ⟨_, _, dt_cmp o_eq (de_op o_sub (de_var 1) (de_o (de_o (de_var 1) (de_var 3) (o_div (divW (by omega) (by omega)))) (de_var 3) (o_mulS (.inr ⟨by omega, by omega⟩)))) de_int, fun hb => ?_, fun hb => ?_⟩
      · rw [rem_eq] at hb
        have hz := of_decide_eq_true hb
        obtain ⟨d1, d2, d3⟩ := div_fact a2 q2 hz
        refine dss_cons (ds_set 4 (de_o (de_var 1) (de_var 3) (o_div (divW (by omega) (by omega)))) ?_ sc_least_period.nd)
        generalize hs : p2 / q = sh at d1 d2 d3
        refine dss_un 5 ?_
        refine dss_cons (ds_lcK 5 [("first", 6), ("value", 7)] (lck (di_list (de_var 0)) (fun d => decide ((pcOf d).1 < sh)) (fun d => pcD (pcOf d)) (freeC (freeC free0)) (by rw [List.length_map]; omega) fun x hx => ?_) ?_ (blk_at ["pieces", "period", "primes", "prime", "shorter", "inner", "first", "value"] (defScope s_least_period)) sc_least_period.nd rfl (sw_true rfl rfl rfl (by decide +kernel)))
        · obtain ⟨y, hy, rfl⟩ := List.mem_map.mp hx
          exact ⟨_, _, bkAll fun _ _ _ _ _ => (dg_tup (dgs_cons (dg_name 6 sc_least_period.nd) (dgs_cons (dg_name 7 sc_least_period.nd) dgs_nil)) rfl), by decide, rfl, bkAll fun _ _ _ _ _ => (dts_one (dt_cmp o_lt (de_var 6) (de_var 4))), fun _ => bkAll fun _ _ _ _ _ => (de_tup (da_cons (de_var 6) (da_cons (de_var 7) da_nil)))⟩
        have ein : (((canon Fn p2).map pcD).filter fun d => decide ((pcOf d).1 < sh)).map (fun d => pcD (pcOf d)) = (canon Fn sh).map pcD := by
          rw [List.filter_map, List.map_map, ← canon_cut (F := Fn) (d := p2) (s := sh) (by omega)]
          rfl
        rw [ein]
        obtain ⟨x0, hx0⟩ := last_val (F := Fn) (d := p2) (s := sh) (by omega) d2
        have tn := turn_iff (F := Fn) (d := p2) (s := sh) a1 d1 d2
        refine dss_cons (ds_if (dt_cmp (o_nePcs hr.units) (de_call (ok_turned_pieces T) (hr.mono (by decide)) (da_cons (de_var 0) (da_cons (de_var 1) (da_cons (de_var 4) da_nil))) ⟨canon Fn p2, p2, sh, x0, Fn sh, rfl, a4, hx0, rfl⟩) (de_var 0)) (fun hb2 => ?_) (fun hb2 => ?_))
        · have hne : ¬ turnL (canon Fn p2) p2 sh (Fn sh) = canon Fn p2 := by simpa using hb2
          exact dss_one (ds_brk (hdone (fun _ => by rw [hs]; exact fun z => hne (tn.mpr z)) _ ⟨_, _, rfl⟩))
        · have he : turnL (canon Fn p2) p2 sh (Fn sh) = canon Fn p2 := by simpa using hb2
          have per := tn.mp he
          refine dss_nil (dss_one (ds_par 0 1 (da_cons (de_var 5) (da_cons (de_var 4) da_nil)) ⟨sh.toNat, by omega, sh, _, _, f - 1, rfl, per, d1, by omega, ?_, by omega, ?_, rfl⟩ sc_least_period.nd rfl))
          · have := List.length_filter_le (fun p : Int × Bool => decide (p.1 < sh)) (canon Fn p2)
            rw [canon_cut (by omega)] at this
            omega
          · rw [← a6]
            obtain ⟨f', rfl⟩ : ∃ f', f = f' + 1 := ⟨f - 1, by omega⟩
            conv => rhs; unfold red
            rw [if_pos ⟨hz, by rw [hs]; exact per⟩, hs]
            rfl
      · rw [rem_eq] at hb
        have hz := of_decide_eq_false hb
        exact hdone (fun z => absurd z hz) _ ⟨_, _, rfl⟩
  · obtain ⟨p', u, v, t, rfl, h1, h2, h3, h4, e1⟩ := hG
    rw [List.length_map, List.take_length] at e1
    refine dss_one (ds_ret (de_var 1) ?_)
    rw [← e1]
end
end Ax
namespace Ax
open PySem PySem.Spec L2
def setD (b : Int) (t : Tr) : D := .obj "RangeSet" [("ground", .int b), ("statement", t.dt)]
def rSet : List D → List (Str × D) → Prop := fun ds fs => ∃ (b : Int) (t : Tr), ds = [.int b, t.dt] ∧ D.obj "RangeSet" fs = setD b t
/-- what a word makes of two trees -/
def wordTr (w : Str) (t u : Tr) : Tr := if w = "less" then .joined "and" t (.nt u) else .joined w t u
def rJoinedSets : List D → D → Prop := fun ds d => ∃ (b : Int) (t u : Tr) (w : Str), ds = [setD b t, setD b u, .str w] ∧ d = setD b (wordTr w t u)
def rOp (w : Str) : List D → D → Prop := fun ds d => ∃ (b : Int) (t u : Tr), ds = [setD b t, setD b u] ∧ d = setD b (wordTr w t u)
def rInv : List D → D → Prop := fun ds d => ∃ (b : Int) (t : Tr), ds = [setD b t] ∧ d = setD b (.nt t)
def rRulesOf : List D → D → Prop := fun ds d => ∃ (b : Int) (t : Tr), ds = [setD b t] ∧ t.depth ≤ 3 ∧ t.rules.length ≤ 1000 ∧ (∀ r ∈ t.rules, r.Ok) ∧ d = .lst ((t.rules.foldl insK []).map Ru.dt)
def rfCounted : List D → D → Prop := fun ds d => ∃ (r : Ru) (lo : Int) (hi : Option Int), ds = [r.dt, .int lo, optD hi] ∧ 0 ≤ lo ∧ (∀ j, hi = some j → 0 ≤ j) ∧ d = setD r.b (.counted r lo hi)
def rfTaken : List D → D → Prop := fun ds d => ∃ (r : Ru) (m : Int), ds = [r.dt, .int m] ∧ m ∈ r.hs ∧ d = setD r.b (.taken r m)
def rIsFactor : List D → D → Prop := fun ds d => ∃ t1 t2 : Int, ds = [.tup [.int t1, .int t2]] ∧ 1 ≤ t1 ∧ 1 ≤ t2 ∧ d = .bl true
def rCoarser : List D → D → Prop := fun ds d => ∃ (r s : Ru) (t1 t2 : Int), ds = [r.dt, s.dt, .tup [.int t1, .int t2]] ∧ r.b = s.b ∧ 1 ≤ t1 ∧ 1 ≤ t2 ∧ d = setD r.b (.ratio r s t1 t2)
def rfTouched : List D → D → Prop := fun ds d => ∃ (r : Ru) (e : Str), ds = [r.dt, .str e] ∧ (e = "low" ∨ e = "high") ∧ d = setD r.b (.touched r (decide (e = "low")))
section
variable {P : Program} {w : World} {K : PySem.W.Frag} {mg : Str → Option Value} {base : Heap}
theorem sc_RangeSet_init : FnScope ["self", "base", "statement"] ["self", "base", "statement"] (defScope s_RangeSet_init) := ⟨rfl, rfl, rfl, by decide +kernel, rfl, by decide +kernel, by decide +kernel⟩
theorem ok_RangeSet (T : Tp K mg) : MkD P w K mg base 1 "RangeSet" 2 rSet := by
  obtain ⟨fd, F⟩ := T.d_RangeSet_init
  refine mkD_mk T.g_RangeSet T.k_RangeSet F sc_RangeSet_init rfl (F.bindsN fun _ _ _ _ _ _ us hl => match us, hl with | [_, _, _], _ => rfl) fun cdv A outer s H E hr sa ds fs h hl => ?_
  obtain ⟨b, t, rfl, e⟩ := h
  obtain rfl := (D.obj.inj e).2
  refine dss_cons (ds_fld 0 (de_var 1) T.c_RangeSet T.n_RangeSet_ground ?_)
  exact dss_one (ds_fld 0 (de_var 2) T.c_RangeSet T.n_RangeSet_statement rfl)

theorem sc_joined_sets : FnScope ["one", "other", "word"] ["one", "other", "word"] (defScope s_joined_sets) := ⟨rfl, rfl, rfl, by decide +kernel, rfl, by decide +kernel, by decide +kernel⟩
theorem ok_joined_sets (T : Tp K mg) : FnD P w K mg base 4 "joined_sets" 3 rJoinedSets := by
  obtain ⟨fd, F⟩ := T.d_joined_sets
  refine fnD_mk T.g_joined_sets F sc_joined_sets rfl (F.bindsN fun _ _ _ _ _ _ us hl => match us, hl with | [_, _, _], _ => rfl) fun cdv A outer s H E hr ds d h hl => ?_
  obtain ⟨b, t, u, wd, rfl, rfl⟩ := h
  refine dss_cons (ds_if (dt_w (dw_or (dt_not (dt_val (de_isC (c := "RangeSet") (de_var 1) T.b_isinstance T.g_RangeSet T.ins_RangeSet))) fun _ => (dw_or1 (dt_cmp o_ne (de_fld (de_var 1) T.c_RangeSet T.n_RangeSet_ground) (de_fld (de_var 0) T.c_RangeSet T.n_RangeSet_ground))))) (fun hb => ?_) (fun hb => ?_))
  · simp at hb
  · refine dss_nil (dss_cons (ds_if (dt_cmp o_eqS (de_var 2) de_str) (fun hb => ?_) (fun hb => ?_)))
    · refine dss_one (ds_ret (de_make (ok_RangeSet T) (hr.mono (by decide)) (da_cons (de_fld (de_var 0) T.c_RangeSet T.n_RangeSet_ground) (da_cons (de_make (ok_Joined T) (hr.mono (by decide)) (da_cons de_str (da_cons (de_fld (d := t.dt) (de_var 0) T.c_RangeSet T.n_RangeSet_statement) (da_cons (de_make (ok_Not T) (hr.mono (by decide)) (da_cons (de_fld (d := u.dt) (de_var 1) T.c_RangeSet T.n_RangeSet_statement) da_nil) ⟨_, rfl, rfl⟩) da_nil))) ⟨_, _, _, rfl, rfl⟩) da_nil)) ⟨b, .joined "and" t (.nt u), rfl, rfl⟩) ?_)
      unfold wordTr
      rw [if_pos (of_decide_eq_true hb)]
      rfl
    · refine dss_nil (dss_one (ds_ret (de_make (ok_RangeSet T) (hr.mono (by decide)) (da_cons (de_fld (de_var 0) T.c_RangeSet T.n_RangeSet_ground) (da_cons (de_make (ok_Joined T) (hr.mono (by decide)) (da_cons (de_var 2) (da_cons (de_fld (d := t.dt) (de_var 0) T.c_RangeSet T.n_RangeSet_statement) (da_cons (de_fld (d := u.dt) (de_var 1) T.c_RangeSet T.n_RangeSet_statement) da_nil))) ⟨_, _, _, rfl, rfl⟩) da_nil)) ⟨b, .joined wd t u, rfl, rfl⟩) ?_))
      unfold wordTr
      rw [if_neg (of_decide_eq_false hb)]
      rfl
theorem sc_RangeSet_and : FnScope ["self", "other"] ["self", "other"] (defScope s_RangeSet_and) := ⟨rfl, rfl, rfl, by decide +kernel, rfl, by decide +kernel, by decide +kernel⟩
theorem ok_RangeSet_and (T : Tp K mg) : MtD P w K mg base 5 "RangeSet" "__and__" 2 (rOp "and") := by
  obtain ⟨fd, F⟩ := T.d_RangeSet_and
  refine mtD_mk T.c_RangeSet T.m_RangeSet_and F sc_RangeSet_and rfl (F.bindsN fun _ _ _ _ _ _ us hl => match us, hl with | [_, _], _ => rfl) fun cdv A outer s H E hr ds d h hl => ?_
  obtain ⟨b, t, u, rfl, rfl⟩ := h
  exact dss_one (ds_ret (de_call (ok_joined_sets T) (hr.mono (by decide)) (da_cons (de_var 0) (da_cons (de_var 1) (da_cons de_str da_nil))) ⟨b, t, u, _, rfl, rfl⟩) rfl)
theorem sc_RangeSet_or : FnScope ["self", "other"] ["self", "other"] (defScope s_RangeSet_or) := ⟨rfl, rfl, rfl, by decide +kernel, rfl, by decide +kernel, by decide +kernel⟩
theorem ok_RangeSet_or (T : Tp K mg) : MtD P w K mg base 5 "RangeSet" "__or__" 2 (rOp "or") := by
  obtain ⟨fd, F⟩ := T.d_RangeSet_or
  refine mtD_mk T.c_RangeSet T.m_RangeSet_or F sc_RangeSet_or rfl (F.bindsN fun _ _ _ _ _ _ us hl => match us, hl with | [_, _], _ => rfl) fun cdv A outer s H E hr ds d h hl => ?_
  obtain ⟨b, t, u, rfl, rfl⟩ := h
  exact dss_one (ds_ret (de_call (ok_joined_sets T) (hr.mono (by decide)) (da_cons (de_var 0) (da_cons (de_var 1) (da_cons de_str da_nil))) ⟨b, t, u, _, rfl, rfl⟩) rfl)
theorem sc_RangeSet_sub : FnScope ["self", "other"] ["self", "other"] (defScope s_RangeSet_sub) := ⟨rfl, rfl, rfl, by decide +kernel, rfl, by decide +kernel, by decide +kernel⟩
theorem ok_RangeSet_sub (T : Tp K mg) : MtD P w K mg base 5 "RangeSet" "__sub__" 2 (rOp "less") := by
  obtain ⟨fd, F⟩ := T.d_RangeSet_sub
  refine mtD_mk T.c_RangeSet T.m_RangeSet_sub F sc_RangeSet_sub rfl (F.bindsN fun _ _ _ _ _ _ us hl => match us, hl with | [_, _], _ => rfl) fun cdv A outer s H E hr ds d h hl => ?_
  obtain ⟨b, t, u, rfl, rfl⟩ := h
  exact dss_one (ds_ret (de_call (ok_joined_sets T) (hr.mono (by decide)) (da_cons (de_var 0) (da_cons (de_var 1) (da_cons de_str da_nil))) ⟨b, t, u, _, rfl, rfl⟩) rfl)
theorem sc_RangeSet_xor : FnScope ["self", "other"] ["self", "other"] (defScope s_RangeSet_xor) := ⟨rfl, rfl, rfl, by decide +kernel, rfl, by decide +kernel, by decide +kernel⟩
theorem ok_RangeSet_xor (T : Tp K mg) : MtD P w K mg base 5 "RangeSet" "__xor__" 2 (rOp "either") := by
  obtain ⟨fd, F⟩ := T.d_RangeSet_xor
  refine mtD_mk T.c_RangeSet T.m_RangeSet_xor F sc_RangeSet_xor rfl (F.bindsN fun _ _ _ _ _ _ us hl => match us, hl with | [_, _], _ => rfl) fun cdv A outer s H E hr ds d h hl => ?_
  obtain ⟨b, t, u, rfl, rfl⟩ := h
  exact dss_one (ds_ret (de_call (ok_joined_sets T) (hr.mono (by decide)) (da_cons (de_var 0) (da_cons (de_var 1) (da_cons de_str da_nil))) ⟨b, t, u, _, rfl, rfl⟩) rfl)
theorem sc_RangeSet_invert : FnScope ["self"] ["self"] (defScope s_RangeSet_invert) := ⟨rfl, rfl, rfl, by decide +kernel, rfl, by decide +kernel, by decide +kernel⟩
theorem ok_RangeSet_invert (T : Tp K mg) : MtD P w K mg base 3 "RangeSet" "__invert__" 1 rInv := by
  obtain ⟨fd, F⟩ := T.d_RangeSet_invert
  refine mtD_mk T.c_RangeSet T.m_RangeSet_invert F sc_RangeSet_invert rfl (F.bindsN fun _ _ _ _ _ _ us hl => match us, hl with | [_], _ => rfl) fun cdv A outer s H E hr ds d h hl => ?_
  obtain ⟨b, t, rfl, rfl⟩ := h
  exact dss_one (ds_ret (de_make (ok_RangeSet T) (hr.mono (by decide)) (da_cons (de_fld (de_var 0) T.c_RangeSet T.n_RangeSet_ground) (da_cons (de_make (ok_Not T) (hr.mono (by decide)) (da_cons (de_fld (d := t.dt) (de_var 0) T.c_RangeSet T.n_RangeSet_statement) da_nil) ⟨_, rfl, rfl⟩) da_nil)) ⟨b, .nt t, rfl, rfl⟩) rfl)
theorem sc_rules_of : FnScope ["one"] ["one"] (defScope s_rules_of) := ⟨rfl, rfl, rfl, by decide +kernel, rfl, by decide +kernel, by decide +kernel⟩
theorem ok_rules_of (T : Tp K mg) : FnD P w K mg base 5 "rules_of" 1 rRulesOf := by
  obtain ⟨fd, F⟩ := T.d_rules_of
  refine fnD_mk T.g_rules_of F sc_rules_of rfl (F.bindsN fun _ _ _ _ _ _ us hl => match us, hl with | [_], _ => rfl) fun cdv A outer s H E hr ds d h hl => ?_
  obtain ⟨b, t, rfl, hd, hn, ho, rfl⟩ := h
  exact dss_one (ds_ret (de_call (ok_different_rules T) (hr.mono (by decide)) (da_cons (de_meth0 (c := t.cls) (fs := t.fs) (ok_rules T t) (hr.mono (by omega)) (de_fld (d := t.dt) (de_var 0) T.c_RangeSet T.n_RangeSet_statement) ⟨rfl, hn, rfl⟩ t.noAttr.2) da_nil) ⟨t.rules, rfl, hn, ho, rfl⟩) rfl)
theorem sc_counted : FnScope ["rule", "least", "most"] ["rule", "least", "most"] (defScope s_counted) := ⟨rfl, rfl, rfl, by decide +kernel, rfl, by decide +kernel, by decide +kernel⟩
theorem optN (hi : Option Int) : (optD hi).isN = hi.isNone := by cases hi <;> rfl
theorem ok_counted (T : Tp K mg) : FnD P w K mg base 3 "counted" 3 rfCounted := by
  obtain ⟨fd, F⟩ := T.d_counted
  obtain ⟨dv, dr, hb⟩ := F.binds1 (ps := ["rule", "least", "most"]) 3 1 (by simp) rfl fun T kV doc pm an cdv ct us its h1 h2 => match us, h1, its, h2 with
    | [_, _, _], _, [_], _ => ⟨_, rfl, rfl⟩
  cases dr
  refine fnD_mk T.g_counted F sc_counted rfl hb fun cdv A outer s H E hr ds d h hl => ?_
  obtain ⟨r, lo, hi, rfl, h0, h1, rfl⟩ := h
  refine dss_cons (ds_drop (de_call (ok_check_rule T) (hr.mono (by decide)) (da_cons (de_var 0) da_nil) ⟨r, rfl, rfl⟩) ?_)
  refine dss_cons (ds_drop (de_call (ok_check_at_least T) (hr.mono (by decide)) (da_cons (de_var 1) (da_cons de_int da_nil)) ⟨lo, 0, h0, rfl, rfl⟩) ?_)
  have fin : DSs (cx P w K mg base ["rule", "least", "most"] "counted" s_counted (He.ga K "counted") cdv A outer s H E) [.d r.dt, .d (.int lo), .d (optD hi)] ((defBody s_counted).drop 3) { nx := fun _ => setD r.b (.counted r lo hi) = .non, rt := fun d' _ => d' = setD r.b (.counted r lo hi) } :=
    dss_one (ds_ret (de_make (ok_RangeSet T) (hr.mono (by decide)) (da_cons (de_fld (c := "Rule") (de_var 0) T.c_Rule T.n_Rule_ground) (da_cons (de_make (ok_Counted T) (hr.mono (by decide)) (da_cons (de_var 0) (da_cons (de_var 1) (da_cons (de_var 2) da_nil))) ⟨_, _, _, rfl, rfl⟩) da_nil)) ⟨r.b, .counted r lo hi, rfl, rfl⟩) rfl)
  refine dss_cons (ds_if (dt_cmp o_notN (de_var 2) de_non) (fun hb => ?_) (fun hb => ?_))
  · cases hi with
    | none => cases hb
    | some j => exact dss_one (ds_drop (de_call (ok_check_at_least T) (hr.mono (by decide)) (da_cons (de_var 2) (da_cons de_int da_nil)) ⟨j, 0, h1 j rfl, rfl, rfl⟩) fin)
  · exact dss_nil fin
theorem sc_taken : FnScope ["rule", "mantissa"] ["rule", "mantissa"] (defScope s_taken) := ⟨rfl, rfl, rfl, by decide +kernel, rfl, by decide +kernel, by decide +kernel⟩
theorem ok_taken (T : Tp K mg) : FnD P w K mg base 3 "taken" 2 rfTaken := by
  obtain ⟨fd, F⟩ := T.d_taken
  refine fnD_mk T.g_taken F sc_taken rfl (F.bindsN fun _ _ _ _ _ _ us hl => match us, hl with | [_, _], _ => rfl) fun cdv A outer s H E hr ds d h hl => ?_
  obtain ⟨r, m, rfl, hm, rfl⟩ := h
  refine dss_cons (ds_drop (de_call (ok_check_rule T) (hr.mono (by decide)) (da_cons (de_var 0) da_nil) ⟨r, rfl, rfl⟩) ?_)
  refine dss_cons (ds_if (dt_w (dw_or (dt_not (dt_val (de_call (ok_is_whole T) (hr.mono (by decide)) (da_cons (de_var 1) da_nil) ⟨m, rfl, rfl⟩))) fun _ => (dw_or1 (dt_cmp (o_notInIT (ks := r.hs)) (de_var 1) (de_fld (c := "Rule") (de_var 0) T.c_Rule T.n_Rule_heads))))) (fun hb => ?_) (fun hb => ?_))
  · simp [hm] at hb
  · exact dss_nil (dss_one (ds_ret (de_make (ok_RangeSet T) (hr.mono (by decide)) (da_cons (de_fld (c := "Rule") (de_var 0) T.c_Rule T.n_Rule_ground) (da_cons (de_make (ok_Taken T) (hr.mono (by decide)) (da_cons (de_var 0) (da_cons (de_var 1) da_nil)) ⟨_, _, rfl, rfl⟩) da_nil)) ⟨r.b, .taken r m, rfl, rfl⟩) rfl))
theorem sc_is_factor : FnScope ["value", "one"] ["value"] (defScope s_is_factor) := ⟨rfl, rfl, rfl, by decide +kernel, rfl, by decide +kernel, by decide +kernel⟩
theorem ok_is_factor (T : Tp K mg) : FnD P w K mg base 2 "is_factor" 1 rIsFactor := by
  obtain ⟨fd, F⟩ := T.d_is_factor
  refine fnD_mk T.g_is_factor F sc_is_factor rfl (F.bindsN fun _ _ _ _ _ _ us hl => match us, hl with | [_], _ => rfl) fun cdv A outer s H E hr ds d h hl => ?_
  obtain ⟨t1, t2, rfl, h1, h2, rfl⟩ := h
  refine dss_cons (ds_if (dt_w (dw_or (dt_not (dt_val (de_isi (bb := true) (de_var 0) T.b_isinstance T.b_tuple bt_tuple))) fun _ => (dw_or1 (dt_cmp o_ne (de_callB c_lenT T.b_len bt_len (da_cons (de_var 0) da_nil)) de_int)))) (fun hb => ?_) (fun hb => ?_))
  · simp at hb
  · refine dss_nil (dss_one (ds_ret (de_cmp (o_eqN hr.units0) (de_lcK [("one", 1)] (lckN (di_tup (de_var 0)) (freeC free0) (Nat.le_of_ble_eq_true rfl) fun x hx => ?_) (blk_at ["value", "one"] (defScope s_is_factor)) sc_is_factor.nd rfl) (de_lst da_nil)) rfl))
    obtain ⟨n, rfl, hn⟩ : ∃ n : Int, x = .int n ∧ 1 ≤ n := by
      rcases List.mem_cons.mp hx with rfl | hx
      · exact ⟨_, rfl, h1⟩
      · rw [List.mem_singleton.mp hx]; exact ⟨_, rfl, h2⟩
    exact ⟨_, _, bkAll fun _ _ _ _ _ => (dg_name 1 sc_is_factor.nd), by decide, rfl, bkAll fun _ _ _ _ _ => (dts_one (DT.to (dt_w (dw_or (dt_not (dt_val (de_call (ok_is_whole T) (hr.mono (by decide)) (da_cons (de_var 1) da_nil) ⟨n, rfl, rfl⟩))) fun _ => (dw_or1 (dt_cmp o_lt (de_var 1) de_int)))) (by simp; omega)))⟩
theorem sc_coarser : FnScope ["one", "other", "times"] ["one", "other", "times"] (defScope s_coarser) := ⟨rfl, rfl, rfl, by decide +kernel, rfl, by decide +kernel, by decide +kernel⟩
theorem ok_coarser (T : Tp K mg) : FnD P w K mg base 4 "coarser" 3 rCoarser := by
  obtain ⟨fd, F⟩ := T.d_coarser
  obtain ⟨dv, dr, hb⟩ := F.binds1 (ps := ["one", "other", "times"]) 3 1 (by simp) rfl fun T kV doc pm an cdv ct us its h1 h2 => match us, h1, its, h2 with
    | [_, _, _], _, [_], _ => ⟨_, rfl, rfl⟩
  cases dr
  refine fnD_mk T.g_coarser F sc_coarser rfl hb fun cdv A outer s H E hr ds d h hl => ?_
  obtain ⟨r, r', t1, t2, rfl, hb, h1, h2, rfl⟩ := h
  refine dss_cons (ds_drop (de_call (ok_check_two_rules T) (hr.mono (by decide)) (da_cons (de_var 0) (da_cons (de_var 1) da_nil)) ⟨r, r', hb, rfl, rfl⟩) ?_)
  refine dss_cons (ds_if (dt_not (dt_val (de_call (ok_is_factor T) (hr.mono (by decide)) (da_cons (de_var 2) da_nil) ⟨t1, t2, rfl, h1, h2, rfl⟩))) (fun hb => ?_) (fun hb => ?_))
  · exact absurd hb (by decide)
  · exact dss_nil (dss_one (ds_ret (de_make (ok_RangeSet T) (hr.mono (by decide)) (da_cons (de_fld (c := "Rule") (de_var 0) T.c_Rule T.n_Rule_ground) (da_cons (de_make (ok_Ratio T) (hr.mono (by decide)) (da_cons (de_var 0) (da_cons (de_var 1) (da_cons (de_var 2) (da_cons de_bl da_nil)))) ⟨_, _, _, _, rfl, rfl⟩) da_nil)) ⟨r.b, .ratio r r' t1 t2, rfl, rfl⟩) rfl))
theorem sc_touched : FnScope ["rule", "end"] ["rule", "end"] (defScope s_touched) := ⟨rfl, rfl, rfl, by decide +kernel, rfl, by decide +kernel, by decide +kernel⟩
theorem ok_touched (T : Tp K mg) : FnD P w K mg base 3 "touched" 2 rfTouched := by
  obtain ⟨fd, F⟩ := T.d_touched
  refine fnD_mk T.g_touched F sc_touched rfl (F.bindsN fun _ _ _ _ _ _ us hl => match us, hl with | [_, _], _ => rfl) fun cdv A outer s H E hr ds d h hl => ?_
  obtain ⟨r, e, rfl, he, rfl⟩ := h
  have hm : decide (e ∈ [("low" : Str), "high"]) = true := by simp; exact he
  refine dss_cons (ds_drop (de_call (ok_check_rule T) (hr.mono (by decide)) (da_cons (de_var 0) da_nil) ⟨r, rfl, rfl⟩) ?_)
  refine dss_cons (ds_if (dt_w (dw_or (dt_not (dt_val (de_isi (bb := true) (de_var 1) T.b_isinstance T.b_str bt_str))) fun _ => (dw_or1 (dt_cmp (o_notInST (ks := ["low", "high"])) (de_var 1) (de_tup (da_cons de_str (da_cons de_str da_nil))))))) (fun hb => ?_) (fun hb => ?_))
  · rw [hm] at hb
    exact absurd hb (by decide)
  · exact dss_nil (dss_one (ds_ret (de_make (ok_RangeSet T) (hr.mono (by decide)) (da_cons (de_fld (c := "Rule") (de_var 0) T.c_Rule T.n_Rule_ground) (da_cons (de_make (ok_Touched T) (hr.mono (by decide)) (da_cons (de_var 0) (da_cons (de_cmp o_eqS (de_var 1) de_str) da_nil)) ⟨_, _, rfl, rfl⟩) da_nil)) ⟨r.b, .touched r (decide (e = "low")), rfl, rfl⟩) rfl))
end
end Ax
namespace Ax
open PySem PySem.Spec L2
/-! ### plain: the step that a rule takes -/
structure IsStep (r : Ru) (L x : Int) (s : Int × Nat) : Prop where
  hd : s.1 ∈ r.hs
  fit : fitB r (sz r.b s) x (x + L) = true
  no : ∀ t : Int × Nat, t.1 ∈ r.hs → sz r.b t < sz r.b s → fitB r (sz r.b t) x (x + L) = false
open Classical in
noncomputable def stepOf (r : Ru) (L x : Int) : Int × Nat := if h : ∃ s, IsStep r L x s then Classical.choose h else (0, 0)
section
variable {r : Ru} {L x n : Int} {s t : Int × Nat} {S : List (Int × Nat)}
theorem IsStep.uniq (ho : r.Ok) (h : IsStep r L x s) (h' : IsStep r L x t) : s = t := by
  refine sz_inj ho h.hd h'.hd ?_
  rcases Int.lt_trichotomy (sz r.b s) (sz r.b t) with c | c | c
  · have := h'.no s h.hd c
    rw [h.fit] at this; cases this
  · exact c
  · have := h.no t h'.hd c
    rw [h'.fit] at this; cases this
theorem IsStep.eq (ho : r.Ok) (h : IsStep r L x s) : stepOf r L x = s := by
  have ex : ∃ s, IsStep r L x s := ⟨s, h⟩
  have : stepOf r L x = Classical.choose ex := dif_pos ex
  rw [this]
  exact (Classical.choose_spec ex).uniq ho h
/-- what surely fits, fits; what fits, may fit -/
theorem sure_fit (ho : r.Ok) (hn : 0 < n) (h : sureB r L n = true) : fitB r n x (x + L) = true := by
  have m1 := ho.m1
  rw [sure_iff] at h
  rw [fit_iff]
  obtain ⟨u1, u2⟩ := up_spec (a := x) hn
  obtain ⟨w1, w2⟩ := up_spec (a := x + L) hn
  have d1 := Int.mul_ediv_add_emod (x + L) n
  have d2 := Int.emod_nonneg (x + L) (by omega : n ≠ 0)
  have d3 := Int.emod_lt_of_pos (x + L) hn
  have e1 := Int.mul_ediv_add_emod x n
  have e2 := Int.emod_nonneg x (by omega : n ≠ 0)
  have e3 := Int.emod_lt_of_pos x hn
  rcases h with ⟨h1, h2⟩ | ⟨h1, h2, h3⟩ | ⟨h1, h2, h3⟩
  · refine .inl ⟨h1, ?_⟩
    refine Classical.byContradiction fun c => ?_
    have a1 : (r.m) * n ≤ ((x + L) / n - up x n) * n := Int.mul_le_mul_of_nonneg_right (by omega) (by omega)
    rw [Int.sub_mul, Int.mul_comm ((x + L) / n)] at a1
    omega
  · refine .inr (.inl ⟨h1, h2, ?_⟩)
    refine Classical.byContradiction fun c => ?_
    have a1 : (r.m + 1) * n ≤ (up (x + L) n - x / n) * n := Int.mul_le_mul_of_nonneg_right (by omega) (by omega)
    rw [Int.sub_mul, Int.mul_comm (x / n), Int.add_mul, Int.one_mul] at a1
    rw [Int.sub_mul, Int.one_mul] at h3 w2
    omega
  · exact .inr (.inr ⟨h1, h2, by omega⟩)
theorem fit_may (ho : r.Ok) (hn : 0 < n) (h : fitB r n x (x + L) = true) : mayB r L n = true := by
  rw [fit_iff] at h
  rw [may_iff]
  obtain ⟨u1, u2⟩ := up_spec (a := x) hn
  obtain ⟨w1, w2⟩ := up_spec (a := x + L) hn
  have d1 := Int.mul_ediv_add_emod (x + L) n
  have d2 := Int.emod_nonneg (x + L) (by omega : n ≠ 0)
  have d3 := Int.emod_lt_of_pos (x + L) hn
  have e1 := Int.mul_ediv_add_emod x n
  have e2 := Int.emod_nonneg x (by omega : n ≠ 0)
  have e3 := Int.emod_lt_of_pos x hn
  rcases h with ⟨h1, h2⟩ | ⟨h1, h2, h3⟩ | ⟨h1, h2, h3⟩
  · refine .inl ⟨h1, ?_⟩
    have a1 : ((x + L) / n - up x n + 1) * n ≤ r.m * n := Int.mul_le_mul_of_nonneg_right (by omega) (by omega)
    rw [Int.add_mul, Int.sub_mul, Int.mul_comm ((x + L) / n), Int.one_mul] at a1
    rw [Int.sub_mul, Int.one_mul] at u2
    rw [Int.add_mul, Int.one_mul]
    omega
  · refine .inr ⟨h1, ?_⟩
    have a1 : (up (x + L) n - x / n) * n ≤ r.m * n := Int.mul_le_mul_of_nonneg_right (by omega) (by omega)
    rw [Int.sub_mul, Int.mul_comm (x / n)] at a1
    omega
  · exact .inr ⟨h1, by omega⟩
theorem Stp.ne (h : Stp r L S) : S ≠ [] ∧ ∃ s ∈ S, sureB r L (sz r.b s) = true := by
  have ho := h.ok
  obtain ⟨hd, hh⟩ : ∃ hd, hd ∈ r.hs := by
    cases e : r.hs with
    | nil => exact absurd e ho.ne
    | cons a l => exact ⟨a, by simp⟩
  obtain ⟨p, q1, _⟩ := sure_ex ho h.lo hh
  -- the least sure size
  have ⟨N, hN, hmin⟩ : ∃ N : Nat, (∃ t : Int × Nat, t.1 ∈ r.hs ∧ sureB r L (sz r.b t) = true ∧ (sz r.b t).toNat = N) ∧ ∀ M < N, ¬ ∃ t : Int × Nat, t.1 ∈ r.hs ∧ sureB r L (sz r.b t) = true ∧ (sz r.b t).toNat = M := by
    have ex : ∃ N : Nat, ∃ t : Int × Nat, t.1 ∈ r.hs ∧ sureB r L (sz r.b t) = true ∧ (sz r.b t).toNat = N := ⟨_, (hd, p), hh, q1, rfl⟩
    obtain ⟨N, hN⟩ := ex
    induction N using Nat.strongRecOn with
    | ind N ih =>
      by_cases c : ∃ M < N, ∃ t : Int × Nat, t.1 ∈ r.hs ∧ sureB r L (sz r.b t) = true ∧ (sz r.b t).toNat = M
      · obtain ⟨M, hM, hM2⟩ := c
        exact ih M hM hM2
      · exact ⟨N, hN, fun M hM z => c ⟨M, hM, z⟩⟩
  obtain ⟨t, t1, t2, t3⟩ := hN
  have tp := (sz_pos (s := t) ho.b2 (ho.h1 _ t1).1).1
  have tS : t ∈ S := (h.mem t).mpr ⟨t1, sure_may ho (by omega) t2, fun u hu hlt => Bool.not_eq_true _ ▸ fun z => by
    have up := (sz_pos (s := u) ho.b2 (ho.h1 _ hu).1).1
    exact hmin (sz r.b u).toNat (by omega) ⟨u, hu, z, rfl⟩⟩
  exact ⟨(fun z => by rw [z] at tS; cases tS), t, tS, t2⟩
/-- the first of the steps that fits is the rule's step -/
theorem Stp.first (h : Stp r L S) (x : Int) : IsStep r L x (stepOf r L x) ∧ stepOf r L x ∈ S ∧ ∃ i : Nat, S[i]? = some (stepOf r L x) ∧ ∀ (j : Nat) t, j < i → S[j]? = some t → fitB r (sz r.b t) x (x + L) = false := by
  have ho := h.ok
  obtain ⟨_, s, hs, hsure⟩ := h.ne
  have pos : ∀ t ∈ S, 0 < sz r.b t := fun t ht => by have := (sz_pos (s := t) ho.b2 (ho.h1 _ ((h.mem t).mp ht).1).1).1; omega
  obtain ⟨k, hk⟩ := List.getElem?_of_mem hs
  have ⟨i, ⟨u, hu, hf⟩, hmin⟩ : ∃ i : Nat, (∃ u, S[i]? = some u ∧ fitB r (sz r.b u) x (x + L) = true) ∧ ∀ j < i, ¬ ∃ u, S[j]? = some u ∧ fitB r (sz r.b u) x (x + L) = true := by
    have ex : ∃ u, S[k]? = some u ∧ fitB r (sz r.b u) x (x + L) = true := ⟨s, hk, sure_fit ho (pos s hs) hsure⟩
    clear hk hsure hs
    induction k using Nat.strongRecOn with
    | ind k ih =>
      by_cases c : ∃ j < k, ∃ u, S[j]? = some u ∧ fitB r (sz r.b u) x (x + L) = true
      · obtain ⟨j, hj, hj2⟩ := c
        exact ih j hj hj2
      · exact ⟨k, ex, fun j hj z => c ⟨j, hj, z⟩⟩
  have uS := List.mem_of_getElem? hu
  have uq := (h.mem u).mp uS
  have no : ∀ (j : Nat) t, j < i → S[j]? = some t → fitB r (sz r.b t) x (x + L) = false := fun j t hj ht => Bool.not_eq_true _ ▸ fun z => hmin j hj ⟨t, ht, z⟩
  have st : IsStep r L x u := ⟨uq.1, hf, fun t ht hlt => Bool.not_eq_true _ ▸ fun z => by
    have tp := (sz_pos (s := t) ho.b2 (ho.h1 _ ht).1).1
    have tS : t ∈ S := (h.mem t).mpr ⟨ht, fit_may ho (by omega) z, fun w hw hwt => uq.2.2 w hw (by omega)⟩
    obtain ⟨j, hj⟩ := List.getElem?_of_mem tS
    by_cases c : j < i
    · rw [no j t c hj] at z; cases z
    · by_cases e : j = i
      · subst e
        rw [hu] at hj
        cases hj
        omega
      · have := h.getlt hu hj (by omega)
        omega⟩
  rw [st.eq ho]
  exact ⟨st, uS, i, hu, no⟩
end
end Ax
namespace Ax
open PySem PySem.Spec L2
/-- what the tree says of the range at x -/
noncomputable def valF (t : Tr) (L x : Int) : Bool := t.ev (fun r => stepOf r L x) x (x + L)
/-- a tree over rules of one base -/
structure TrOk (b : Int) (t : Tr) : Prop where
  dp : t.depth ≤ 3
  len : t.rules.length ≤ 1000
  ok : ∀ r ∈ t.rules, r.Ok
  fair : t.Fair
  one : ∀ r ∈ t.rules, r.b = b
noncomputable def ddR (t : Tr) : List Ru := t.rules.foldl insK []
def rValues : List D → D → Prop := fun ds d => ∃ (b : Int) (t : Tr) (L : Int) (l : RS), ds = [setD b t, .int L] ∧ TrOk b t ∧ l.map Prod.fst = ddR t ∧ Small l L ∧ 0 < L ∧ L < 2 ^ 180 ∧ d = .tup [.int (lcmL (sizesOf l)), .lst ((startsOf (sizesOf l) L (lcmL (sizesOf l))).map fun x => pcD (x, valF t L x))]
theorem nm_inj {r s : Ru} (hb : r.b = s.b) (h : nm r = nm s) : r = s := by
  obtain ⟨b, k, hs, m⟩ := r
  obtain ⟨b', k', hs', m'⟩ := s
  unfold nm at h
  simp at h hb
  obtain ⟨h1, h2, h3⟩ := h
  subst hb h1 h2 h3
  rfl
theorem nodup_map {α β : Type} {f : α → β} : ∀ {l : List α}, l.Nodup → (∀ a ∈ l, ∀ b ∈ l, f a = f b → a = b) → (l.map f).Nodup
  | [], _, _ => List.nodup_nil
  | a :: l, h, hf => by
    rw [List.nodup_cons] at h
    rw [List.map_cons, List.nodup_cons]
    refine ⟨fun z => ?_, nodup_map h.2 fun a ha b hb => hf a (List.mem_cons_of_mem _ ha) b (List.mem_cons_of_mem _ hb)⟩
    obtain ⟨b, hb, e⟩ := List.mem_map.mp z
    exact h.1 (hf b (List.mem_cons_of_mem _ hb) a (by simp) e ▸ hb)
theorem lookup_mem {α β : Type} [BEq α] [LawfulBEq α] {k : α} {v : β} : ∀ {l : List (α × β)}, (l.map (·.1)).Nodup → (k, v) ∈ l → l.lookup k = some v
  | [], _, h => nomatch h
  | (k', v') :: l, hn, h => by
    rw [List.map_cons, List.nodup_cons] at hn
    rw [List.lookup_cons]
    rcases List.mem_cons.mp h with e | h
    · cases e
      simp
    · have : k ≠ k' := fun e => hn.1 (e ▸ List.mem_map.mpr ⟨(k, v), h, rfl⟩)
      have : (k == k') = false := by simpa using this
      rw [this]
      exact lookup_mem hn.2 h
theorem Small.pos {l : RS} {L : Int} (sm : Small l L) : 0 < lcmL (sizesOf l) ∧ ∀ n ∈ sizesOf l, 0 < n ∧ n ∣ lcmL (sizesOf l) := by
  obtain ⟨M, M0, M1, hM⟩ := sm.dv
  have npos : ∀ n ∈ sizesOf l, 0 < n := fun n hn => by
    obtain ⟨x, hx, s, hs, rfl⟩ := mem_sizesOf.mp hn
    have q := (sm.stp x hx).stOk hs
    have := (q.pow (sm.stp x hx).ok.b2).1
    omega
  obtain ⟨P0, _, nd⟩ := lcmL_fact (sizesOf l) fun n hn => ⟨npos n hn, hM n hn⟩
  exact ⟨P0, fun n hn => ⟨npos n hn, nd n hn⟩⟩
theorem starts_len {l : RS} {L : Int} (sm : Small l L) : (startsOf (sizesOf l) L (lcmL (sizesOf l))).length ≤ 760000 := by
  obtain ⟨P0, hn⟩ := sm.pos
  have m0 := Int.emod_nonneg L (by omega : lcmL (sizesOf l) ≠ 0)
  have h1 := nodup_len (startsOf (sizesOf l) L (lcmL (sizesOf l))) (0 :: (sizesOf l).flatMap fun n => edF n 0 (lcmL (sizesOf l)) ++ edF n (L % lcmL (sizesOf l)) (lcmL (sizesOf l))) (ups_asc.imp fun h => by omega) fun x hx => by
    have := (edge_iff (L := L) hn P0).mpr (mem_ups.mp hx)
    rcases this with rfl | ⟨n, h1, h2⟩
    · simp
    · refine List.mem_cons_of_mem _ (List.mem_flatMap.mpr ⟨n, h1, ?_⟩)
      rcases h2 with h2 | h2
      · exact List.mem_append_left _ h2
      · exact List.mem_append_right _ h2
  have few := sm.few
  have near := sm.near
  have : ∀ ns : List Int, (∀ n ∈ ns, n ∈ sizesOf l) → (ns.flatMap fun n => edF n 0 (lcmL (sizesOf l)) ++ edF n (L % lcmL (sizesOf l)) (lcmL (sizesOf l))).length ≤ 8412 * ns.length := by
    intro ns
    induction ns with
    | nil => intro _; simp
    | cons n ns ih =>
      intro h
      have h2 := ih fun m hm => h m (List.mem_cons_of_mem _ hm)
      have hm := h n (by simp)
      have l1 := edF_len (sh := 0) (hn n hm).1 (by omega) P0 (near n hm)
      have l2 := edF_len (sh := L % lcmL (sizesOf l)) (hn n hm).1 m0 P0 (near n hm)
      rw [List.flatMap_cons, List.length_append, List.length_append, List.length_cons]
      omega
  have h2 := this (sizesOf l) fun n h => h
  rw [List.length_cons] at h1
  omega
/-- a look knows the steps -/
def lookL (l : RS) (L x : Int) (st : Ru → Int × Nat) : List (Ru × List (Int × Nat) × (Int × Nat)) := l.map fun y => (y.1, y.2, st y.1)
noncomputable def kvsL (l : RS) (L x : Int) : List (NK × D) := l.map fun y => (nm y.1, stD (stepOf y.1 L x))
theorem kn_of {b : Int} {t : Tr} {l : RS} {L x : Int} (to : TrOk b t) (he : l.map Prod.fst = ddR t) (sm : Small l L) : Kn (kvsL l L x) (fun r => stepOf r L x) t.rules ∧ (l.map fun y => nm y.1).Nodup := by
  have nd : (l.map fun y => nm y.1).Nodup := by
    have : (l.map fun y => nm y.1) = (ddR t).map nm := by rw [← he, List.map_map]; rfl
    rw [this]
    refine nodup_map (foldl_nodup _) fun a ha c hc e => nm_inj ?_ e
    rw [to.one a ((foldl_mem _ a).mp ha), to.one c ((foldl_mem _ c).mp hc)]
  refine ⟨fun r hr => ?_, nd⟩
  have hm : r ∈ l.map Prod.fst := by rw [he]; exact (foldl_mem _ r).mpr hr
  obtain ⟨y, hy, rfl⟩ := List.mem_map.mp hm
  have stp := sm.stp y hy
  obtain ⟨_, f2, _⟩ := stp.first x
  have mem : (nm y.1, stD (stepOf y.1 L x)) ∈ kvsL l L x := List.mem_map.mpr ⟨y, hy, rfl⟩
  exact ⟨to.ok _ hr, stp.stOk f2, lookup_mem (by unfold kvsL; rw [List.map_map]; exact nd) mem⟩
/-- the steps of the rule that a data thing is -/
noncomputable def stepsFor (l : RS) (d : D) : List (Int × Nat) := match l.find? fun y => @decide (y.1.dt = d) (Classical.propDecidable _) with
  | some y => y.2
  | none => []
theorem stepsFor_eq {l : RS} {L : Int} (sm : Small l L) {y : Ru × List (Int × Nat)} (hy : y ∈ l) : stepsFor l y.1.dt = y.2 := by
  unfold stepsFor
  cases h : l.find? fun z => @decide (z.1.dt = y.1.dt) (Classical.propDecidable _) with
  | none =>
    have := List.find?_eq_none.mp h y hy
    simp at this
  | some z =>
    have h1 := List.find?_some h
    have h2 := List.mem_of_find?_eq_some h
    have e : z.1 = y.1 := dt_inj (by simpa using h1)
    have s1 := sm.stp z h2
    rw [e] at s1
    exact s1.uniq (sm.stp y hy)
section
variable {P : Program} {w : World} {K : PySem.W.Frag} {mg : Str → Option Value} {base : Heap}
theorem starts_nil (L : Int) : startsOf (sizesOf []) L (lcmL (sizesOf [])) = [0] := by
  refine asc_unique id _ _ ups_asc (by simp) fun x => ?_
  show x ∈ ups 1 _ ↔ _
  rw [mem_ups, List.mem_singleton]
  constructor
  · rintro ⟨h1, h2, _⟩; omega
  · rintro rfl; exact ⟨by decide, by decide, .inl rfl⟩
theorem ff_of {l : RS} {L x : Int} (sm : Small l L) {y : Ru × List (Int × Nat)} (hy : y ∈ l) : FF x (x + L) (y.1, y.2, stepOf y.1 L x) := by
  have stp := sm.stp y hy
  obtain ⟨f1, f2, i, f3, f4⟩ := stp.first x
  exact ⟨stp.ok, fun t ht => stp.stOk ht, i, f3, f1.fit, f4⟩
theorem sc_values_at : FnScope ["one", "length", "rules", "period", "pieces", "choices", "looks", "rule", "first", "behind", "look"] ["one", "length"] (defScope s_values_at) := ⟨rfl, rfl, rfl, by decide +kernel, rfl, by decide +kernel, by decide +kernel⟩
def loOf : D → Int
  | .obj _ ((_, .int i) :: _) => i
  | _ => 0
def pr1 : D → Int
  | .tup (.int i :: _) => i
  | _ => 0
theorem pairs_fst (st : List Int) (P0 : Int) : (pairsOf st P0).map Prod.fst = st := by
  unfold pairsOf
  rw [List.map_fst_zip]
  rw [List.length_append, List.length_drop]
  simp
  omega
theorem ok_values_at (T : Tp K mg) : FnD P w K mg base 10 "values_at" 2 rValues := by
  obtain ⟨fd, F⟩ := T.d_values_at
  refine fnD_mk T.g_values_at F sc_values_at rfl (F.bindsN fun _ _ _ _ _ _ us hl => match us, hl with | [_, _], _ => rfl) fun cdv A outer s H E hr ds d h hl => ?_
  obtain ⟨b, t, L, l, rfl, to, he, sm, L0, L1, rfl⟩ := h
  have dp := to.dp
  have ho : MtD P w K mg base 9 t.cls "holds" 2 (rHolds P w t) := (ok_holds T t).mono (by omega)
  refine dss_cons (ds_set 2 (de_call (ok_rules_of T) (hr.mono (by decide)) (da_cons (de_var 0) da_nil) ⟨b, t, rfl, dp, to.len, to.ok, rfl⟩) ?_ sc_values_at.nd)
  have hR : (t.rules.foldl insK []).map Ru.dt = l.map fun x => x.1.dt := by
    show (ddR t).map Ru.dt = _
    rw [← he, List.map_map]; rfl
  rw [hR]
  have llen := sm.len
  refine dss_cons (ds_if (dt_cmp (o_eqN hr.units0) (de_var 2) (de_lst da_nil)) (fun hb => ?_) (fun hb => ?_))
  · have hl0 : l = [] := by
      cases l with
      | nil => rfl
      | cons a l => simp at hb
    subst hl0
    obtain ⟨kn, _⟩ := kn_of (x := 0) to he sm
    refine dss_one (ds_ret (de_tup (da_cons de_int (da_cons (de_lst (da_cons (de_tup (da_cons de_int (da_cons (de_meth (c := t.cls) (fs := t.fs) ho hr (de_fld (d := t.dt) (de_var 0) T.c_RangeSet T.n_RangeSet_statement) (da_cons (de_make (ok_Look T) (hr.mono (by decide)) (da_cons (de_lst da_nil) (da_cons (de_lst da_nil) (da_cons de_int (da_cons (de_var 1) da_nil)))) ⟨[], 0, L, rfl, by decide, List.nodup_nil, fun _ h => (by cases h), rfl⟩) da_nil) ⟨0, L, [], fun r => stepOf r L 0, rfl, kn, to.fair, rfl⟩ t.noAttr.1) da_nil))) da_nil)) da_nil))) ?_)
    rw [starts_nil]
    show D.tup [.int 1, .lst [.tup [.int 0, .bl (t.ev (fun r => stepOf r L 0) 0 L)]]] = D.tup [.int 1, .lst [.tup [.int 0, .bl (valF t L 0)]]]
    unfold valF
    rw [Int.zero_add]
  · have hl0 : l ≠ [] := fun z => by rw [z] at hb; simp at hb
    have slen := starts_len sm
    refine dss_nil (dss_cons (ds_unpack (de_call (ok_pieces_at T) (hr.mono (by decide)) (da_cons (de_var 2) (da_cons (de_var 1) da_nil)) ⟨l, L, rfl, sm, hl0, L0, by omega, rfl⟩) (dg_tup (dgs_cons (dg_name 3 sc_values_at.nd) (dgs_cons (dg_name 4 sc_values_at.nd) dgs_nil)) rfl) ?_))
    generalize hP : lcmL (sizesOf l) = W at slen
    generalize hst : startsOf (sizesOf l) L W = st at slen
    have plen : (pairsOf st W).length ≤ 760000 := by
      have := congrArg List.length (pairs_fst st W)
      rw [List.length_map] at this
      omega
    have run : ∀ x : Int, Kn (kvsL l L x) (fun r => stepOf r L x) t.rules := fun x => (kn_of to he sm).1
    have nd := (kn_of (x := 0) to he sm).2
    refine dss_cons (ds_set 5 (DE.to (de_lcK [("rule", 7)] (lck (di_list (de_var 2)) (fun _ => true) (fun d => .lst ((stepsFor l d).map stD)) (freeC free0) (by rw [List.length_map]; omega) fun x hx => ?_) (blk_at ["one", "length", "rules", "period", "pieces", "choices", "looks", "rule", "first", "behind", "look"] (defScope s_values_at)) sc_values_at.nd rfl) (d' := .lst (l.map fun x => .lst (x.2.map stD))) ?_) ?_ sc_values_at.nd)
    · obtain ⟨y, hy, rfl⟩ := List.mem_map.mp hx
      exact ⟨_, _, bkAll fun _ _ _ _ _ => (dg_name 7 sc_values_at.nd), by decide, rfl, bkAll fun _ _ _ _ _ => dts_nil, fun _ => bkAll fun _ _ _ _ _ => (de_call (ok_steps_at T) (hr.mono (by decide)) (da_cons (de_var 7) (da_cons (de_var 1) da_nil)) ⟨y.1, L, y.2, rfl, sm.stp y hy, by rw [stepsFor_eq sm hy]⟩)⟩
    · rw [filter_true, List.map_map]
      congr 1
      exact List.map_congr_left fun y hy => by show D.lst _ = D.lst _; rw [stepsFor_eq sm hy]
    · refine dss_cons (ds_lcK 6 [("first", 8), ("behind", 9)] (lck (di_list (de_var 4)) (fun _ => true) (fun d => lookD P w (pr1 d) (pr1 d + L) (kvsL l L (pr1 d))) (freeC (freeC free0)) (by rw [List.length_map]; omega) fun x hx => ?_) ?_ (blk_at ["one", "length", "rules", "period", "pieces", "choices", "looks", "rule", "first", "behind", "look"] (defScope s_values_at)) sc_values_at.nd rfl (sw_true rfl rfl rfl (by decide +kernel)))
      · obtain ⟨y, hy, rfl⟩ := List.mem_map.mp hx
        exact ⟨_, _, bkAll fun _ _ _ _ _ => (dg_tup (dgs_cons (dg_name 8 sc_values_at.nd) (dgs_cons (dg_name 9 sc_values_at.nd) dgs_nil)) rfl), by decide, rfl, bkAll fun _ _ _ _ _ => dts_nil, fun _ => bkAll fun _ _ _ _ _ => (de_make (ok_Look T) (hr.mono (by decide)) (da_cons (de_var 2) (da_cons (de_var 5) (da_cons (de_var 8) (da_cons (de_op o_add (de_var 8) (de_var 1)) da_nil)))) ⟨l.map fun z => (z.1, z.2, stepOf z.1 L y.1), y.1, y.1 + L, by rw [List.map_map, List.map_map]; rfl, by rw [List.length_map]; omega, by rw [List.map_map]; exact nd, fun z hz => by
          obtain ⟨u, hu, rfl⟩ := List.mem_map.mp hz
          exact ff_of sm hu, by rw [List.map_map]; rfl⟩)⟩
      · rw [filter_true]
        refine dss_one (ds_ret (de_tup (da_cons (de_var 3) (da_cons (de_lcK [("look", 10)] (lck (di_list (de_var 6)) (fun _ => true) (fun d => pcD (loOf d, valF t L (loOf d))) (freeC free0) (by rw [List.length_map, List.length_map]; omega) fun x hx => ?_) (blk_at ["one", "length", "rules", "period", "pieces", "choices", "looks", "rule", "first", "behind", "look"] (defScope s_values_at)) sc_values_at.nd rfl) da_nil))) ?_)
        · obtain ⟨x', hx', rfl⟩ := List.mem_map.mp hx
          obtain ⟨y, hy, rfl⟩ := List.mem_map.mp hx'
          exact ⟨_, _, bkAll fun _ _ _ _ _ => (dg_name 10 sc_values_at.nd), by decide, rfl, bkAll fun _ _ _ _ _ => dts_nil, fun _ => bkAll fun _ _ _ _ _ => (de_tup (da_cons (de_fld (c := "Look") (de_var 10) T.c_Look T.n_Look_low) (da_cons (de_meth (c := t.cls) (fs := t.fs) ho hr (de_fld (d := t.dt) (de_var 0) T.c_RangeSet T.n_RangeSet_statement) (da_cons (de_var 10) da_nil) ⟨y.1, y.1 + L, kvsL l L y.1, fun r => stepOf r L y.1, rfl, run y.1, to.fair, rfl⟩ t.noAttr.1) da_nil)))⟩
        · rw [filter_true, List.map_map, List.map_map]
          refine congrArg (fun z => D.tup [.int W, .lst z]) ?_
          conv => rhs; rw [← pairs_fst st W]
          rw [List.map_map]
          rfl
end
end Ax
namespace Ax
open PySem PySem.Spec L2
/-- how much of [0, P) holds, told by the starts -/
def cntL (F : Int → Bool) (st : List Int) (P : Int) : Int := (((pairsOf st P).filter fun y => F y.1).map fun y => y.2 - y.1).sum
noncomputable def perOf (t : Tr) (L : Int) (l : RS) : Int := lcmL (sizesOf l)
noncomputable def leastOf (t : Tr) (L : Int) (l : RS) : Int := lpd (valF t L) (primesIn (ddR t)) (lcmL (sizesOf l))
structure Good (t : Tr) (L : Int) (l : RS) : Prop where
  per : Per (valF t L) (lcmL (sizesOf l))
  chg : ∀ y, 0 < y → y < lcmL (sizesOf l) → valF t L y ≠ valF t L (y - 1) → y ∈ startsOf (sizesOf l) L (lcmL (sizesOf l))
def rShare : List D → D → Prop := fun ds d => ∃ (b : Int) (t : Tr) (L : Int) (l : RS), ds = [setD b t, .int L] ∧ TrOk b t ∧ (ddR t).length ≤ 10 ∧ l.map Prod.fst = ddR t ∧ Small l L ∧ 1 ≤ L ∧ L < 2 ^ 180 ∧ Good t L l ∧
  d = .tup [.int (cntL (valF t L) (startsOf (sizesOf l) L (lcmL (sizesOf l))) (lcmL (sizesOf l)) / (lcmL (sizesOf l) / leastOf t L l)), .int (leastOf t L l)]
section
variable {P : Program} {w : World} {K : PySem.W.Frag} {mg : Str → Option Value} {base : Heap}
def pzB : D → Bool
  | .tup [.tup [_, .bl b], _] => b
  | _ => false
def pzD : D → D
  | .tup [.tup (.int a :: _), .int e] => .int (e - a)
  | _ => .non
theorem zip_pairs2 (F : Int → Bool) (st tl : List Int) : zipD (st.map fun x => pcD (x, F x)) (tl.map D.int) = (List.zip st tl).map fun y => D.tup [pcD (y.1, F y.1), .int y.2] := by
  induction st generalizing tl with
  | nil => rfl
  | cons a st ih =>
    cases tl with
    | nil => rfl
    | cons b tl =>
      show D.tup [pcD (a, F a), .int b] :: zipD (st.map fun x => pcD (x, F x)) (tl.map D.int) = _
      rw [ih]
      rfl
theorem primesIn_fact {rs : List Ru} (ho : ∀ r ∈ rs, r.Ok) : ∀ q ∈ primesIn rs, 2 ≤ q ∧ q ≤ 25 := fun q hq => by
  unfold primesIn at hq
  rw [foldl_insK_mem] at hq
  rcases hq with h | h
  · rw [List.mem_singleton.mp h]; exact ⟨by decide, by decide⟩
  · obtain ⟨n, hn, h⟩ := List.mem_flatMap.mp h
    obtain ⟨r, hr, hn⟩ := List.mem_flatMap.mp hn
    have hor := ho r hr
    have b2 := hor.b2
    have b10 := hor.b10
    have : 1 ≤ n ∧ n ≤ 25 := by
      rcases List.mem_cons.mp hn with rfl | hn
      · omega
      · exact ⟨(hor.h1 n hn).1, (hor.h1 n hn).2.1⟩
    exact (primes_fact this.1 this.2).2.1 q h
theorem join_starts {t : Tr} {L : Int} {l : RS} (sm : Small l L) (g : Good t L l) : joinL ((startsOf (sizesOf l) L (lcmL (sizesOf l))).map fun x => (x, valF t L x)) = canon (valF t L) (lcmL (sizesOf l)) :=
  join_canon _ ups_asc (mem_ups.mpr ⟨Int.le_refl _, sm.pos.1, .inl rfl⟩) (fun x hx => ⟨(mem_ups.mp hx).1, (mem_ups.mp hx).2.1⟩) g.chg
theorem sc_RangeSet_share : FnScope ["self", "length", "period", "pieces", "least", "behind", "many", "first", "value", "piece", "end"] ["self", "length"] (defScope s_RangeSet_share) := ⟨rfl, rfl, rfl, by decide +kernel, rfl, by decide +kernel, by decide +kernel⟩
theorem ok_RangeSet_share (T : Tp K mg) : MtD P w K mg base 11 "RangeSet" "share" 2 rShare := by
  obtain ⟨fd, F⟩ := T.d_RangeSet_share
  refine mtD_mk T.c_RangeSet T.m_RangeSet_share F sc_RangeSet_share rfl (F.bindsN fun _ _ _ _ _ _ us hl => match us, hl with | [_, _], _ => rfl) fun cdv A outer s H E hr ds d h hl => ?_
  obtain ⟨b, t, L, l, rfl, to, dlen, he, sm, L0, L1, g, rfl⟩ := h
  have slen := starts_len sm
  have P0 := sm.pos.1
  have pp := sm.pp
  have js := join_starts sm g
  have oks : ∀ r ∈ ddR t, r.Ok := fun r hr => to.ok r ((foldl_mem _ r).mp hr)
  have qf := primesIn_fact oks
  obtain ⟨l0, l1, l2, l3⟩ := lpd_spec (F := valF t L) (primesIn (ddR t)) (lcmL (sizesOf l)) (fun q hq => (qf q hq).1) P0 g.per
  have jl := join_len ((startsOf (sizesOf l) L (lcmL (sizesOf l))).map fun x => (x, valF t L x))
  rw [js, List.length_map] at jl
  refine dss_cons (ds_drop (de_call (ok_check_at_least T) (hr.mono (by decide)) (da_cons (de_var 1) (da_cons de_int da_nil)) ⟨L, 1, L0, rfl, rfl⟩) ?_)
  refine dss_cons (ds_unpack (de_call (ok_values_at T) (hr.mono (by decide)) (da_cons (de_var 0) (da_cons (de_var 1) da_nil)) ⟨b, t, L, l, rfl, to, he, sm, by omega, L1, rfl⟩) (dg_tup (dgs_cons (dg_name 2 sc_RangeSet_share.nd) (dgs_cons (dg_name 3 sc_RangeSet_share.nd) dgs_nil)) rfl) ?_)
  unfold leastOf
  generalize hst : startsOf (sizesOf l) L (lcmL (sizesOf l)) = st at slen jl js
  have per := g.per
  generalize hW : lcmL (sizesOf l) = W at pp P0 jl js l0 l1 l2 l3 per
  generalize hF : valF t L = Fn at jl js l0 l1 l2 l3 per
  refine dss_cons (ds_set 4 (de_call (ok_least_period T) (hr.mono (by decide)) (da_cons (de_call (ok_joined_pieces T) (hr.mono (by decide)) (da_cons (de_var 3) da_nil) ⟨st.map fun x => (x, Fn x), by rw [List.map_map]; rfl, by rw [List.length_map]; omega, rfl⟩) (da_cons (de_var 2) (da_cons (de_call (ok_primes_in T) (hr.mono (by decide)) (da_cons (de_call (ok_rules_of T) (hr.mono (by decide)) (da_cons (de_var 0) da_nil) ⟨b, t, rfl, to.dp, to.len, to.ok, rfl⟩) da_nil) ⟨ddR t, rfl, dlen, oks, rfl⟩) da_nil))) ⟨Fn, W, primesIn (ddR t), by rw [js], per, P0, pp, qf, by omega, rfl⟩) ?_ sc_RangeSet_share.nd)
  generalize hlp : lpd Fn (primesIn (ddR t)) W = lp at l0 l1 l2 l3
  have lpW := Int.le_of_dvd P0 l1
  have cutst : ((st.map fun x => pcD (x, Fn x)).drop 1).length ≤ 760000 := by rw [List.length_drop, List.length_map]; omega
  refine dss_cons (ds_set 5 (de_o (DE.to (de_lcK [("first", 7), ("value", 8)] (lck (di_list (DE.to (de_slice (de_var 3) (do_some de_int) do_none) (congrArg D.lst (cut1 (st.map fun x => pcD (x, Fn x)))))) (fun _ => true) (fun d => .int (pr1 d)) (freeC (freeC free0)) (by omega) fun x hx => ?_) (blk_at ["self", "length", "period", "pieces", "least", "behind", "many", "first", "value", "piece", "end"] (defScope s_RangeSet_share)) sc_RangeSet_share.nd rfl) (d' := .lst ((st.drop 1).map D.int)) ?_) (de_lst (da_cons (de_var 2) da_nil)) (o_cat ?_)) ?_ sc_RangeSet_share.nd)
  · obtain ⟨y, hy, rfl⟩ := List.mem_map.mp (List.mem_of_mem_drop hx)
    exact ⟨_, _, bkAll fun _ _ _ _ _ => (dg_tup (dgs_cons (dg_name 7 sc_RangeSet_share.nd) (dgs_cons (dg_name 8 sc_RangeSet_share.nd) dgs_nil)) rfl), by decide, rfl, bkAll fun _ _ _ _ _ => dts_nil, fun _ => bkAll fun _ _ _ _ _ => (de_var 7)⟩
  · rw [filter_true, ← List.map_drop, List.map_map]
    rfl
  · rw [List.length_map, List.length_drop]
    show st.length - 1 + 1 ≤ 1000000
    omega
  have eb : (st.drop 1).map D.int ++ [.int W] = (st.drop 1 ++ [W]).map D.int := by rw [List.map_append]; rfl
  rw [eb]
  refine dss_cons (ds_set 6 (de_callB (c_sum (ns := ((pairsOf st W).filter fun y => Fn y.1).map fun y => y.2 - y.1) rfl) T.b_sum bt_sum (da_cons (DE.to (de_lcK [("piece", 9), ("end", 10)] (lck (di_zip (da_cons (de_var 3) (da_cons (de_var 5) da_nil)) T.b_zip) pzB pzD (freeC (freeC free0)) ?_ fun x hx => ?_) (blk_at ["self", "length", "period", "pieces", "least", "behind", "many", "first", "value", "piece", "end"] (defScope s_RangeSet_share)) sc_RangeSet_share.nd rfl) ?_) da_nil)) ?_ sc_RangeSet_share.nd)
  · unfold zipD
    rw [List.length_zipWith, List.length_map]
    omega
  · rw [zip_pairs2] at hx
    obtain ⟨y, hy, rfl⟩ := List.mem_map.mp hx
    exact ⟨_, _, bkAll fun _ _ _ _ _ => (dg_tup (dgs_cons (dg_name 9 sc_RangeSet_share.nd) (dgs_cons (dg_name 10 sc_RangeSet_share.nd) dgs_nil)) rfl), by decide, rfl, bkAll fun _ _ _ _ _ => (dts_one (dt_val (de_ixT (d := .bl (Fn y.1)) (ds := [.int y.1, .bl (Fn y.1)]) (de_var 9) de_int))), fun _ => bkAll fun _ _ _ _ _ => (de_op o_sub (de_var 10) (de_ixT (ds := [.int y.1, .bl (Fn y.1)]) (de_var 9) de_int))⟩
  · rw [zip_pairs2, List.filter_map, List.map_map, List.map_map]
    rfl
  have q0 : 0 < W / lp := by
    obtain ⟨k, hk⟩ := l1
    rw [hk, Int.mul_ediv_cancel_left k (by omega)]
    refine Classical.byContradiction fun c => ?_
    have : lp * k ≤ lp * 0 := Int.mul_le_mul_of_nonneg_left (by omega) (by omega)
    omega
  have q1 : W / lp ≤ W := Int.ediv_le_self _ (by omega)
  exact dss_one (ds_ret (de_tup (da_cons (de_o (de_var 6) (de_o (de_var 2) (de_var 4) (o_div (divW l0 (by omega)))) (o_div (divW q0 (by omega)))) (da_cons (de_var 4) da_nil))) rfl)
end
end Ax
namespace Ax
open PySem PySem.Spec L2
def rLMade : List D → D → Prop := fun ds d => ∃ r : Ru, r.Ok ∧ ds = [r.lw] ∧ d = r.dt
def rLPlaces : List D → D → Prop := fun ds d => ∃ lo hi n : Int, ds = [.int lo, .int hi, .int n] ∧ 0 < n ∧ n < 2 ^ 200 ∧ d = .tup [.int (lo / n), .int (up lo n), .int (hi / n), .int (up hi n)]
def rLFit : List D → D → Prop := fun ds d => ∃ (r : Ru) (lo hi n : Int), ds = [r.lw, .int lo, .int hi, .int n] ∧ r.Ok ∧ 0 < n ∧ n < 2 ^ 200 ∧ d = .bl (fitB r n lo hi)
def rLSure : List D → D → Prop := fun ds d => ∃ (r : Ru) (n L : Int), ds = [r.lw, .int n, .int L] ∧ r.Ok ∧ d = .bl (sureB r L n)
def rLScaled : List D → D → Prop := fun ds d => ∃ (r : Ru) (s : Int × Nat) (lo hi : Int), ds = [r.lw, stD s, .int lo, .int hi] ∧ r.Ok ∧ StOk r.b s ∧ d = .tup [.int lo, .int hi, .int (sz r.b s)]
section
variable {P : Program} {w : World} {K : PySem.W.Frag} {mg : Str → Option Value} {base : Heap}
theorem sc_law_made : FnScope ["_law_rule_here"] ["_law_rule_here"] (defScope s_law_made) := ⟨rfl, rfl, rfl, by decide +kernel, rfl, by decide +kernel, by decide +kernel⟩
theorem ok_law_made (T : Tp K mg) : FnD P w K mg base 6 "_law_made" 1 rLMade := by
  obtain ⟨fd, F⟩ := T.d_law_made
  refine fnD_mk T.g_law_made F sc_law_made rfl (F.bindsN fun _ _ _ _ _ _ us hl => match us, hl with | [_], _ => rfl) fun cdv A outer s H E hr ds d h hl => ?_
  obtain ⟨r, ho, rfl, rfl⟩ := h
  exact dss_one (ds_ret (de_make (ok_Rule T) (hr.mono (by decide)) (da_cons (de_ixT (d := .int r.b) (de_var 0) de_int) (da_cons (de_ixT (d := .str r.k) (de_var 0) de_int) (da_cons (de_callTy c_list T.b_list bt_list (da_cons (de_ixT (d := .lst (r.hs.map .int)) (de_var 0) de_int) da_nil)) (da_cons (de_ixT (d := .int r.m) (de_var 0) de_int) da_nil)))) ⟨r, ho, rfl, rfl⟩) rfl)
theorem sc_law_times : FnScope ["_law_base", "_law_many", "_law_found", "_law_turn"] ["_law_base", "_law_many"] (defScope s_law_times) := ⟨rfl, rfl, rfl, by decide +kernel, rfl, by decide +kernel, by decide +kernel⟩
theorem ok_law_times (T : Tp K mg) : FnD P w K mg base 1 "_law_times" 2 rPower := by
  obtain ⟨fd, F⟩ := T.d_law_times
  refine fnD_mk T.g_law_times F sc_law_times rfl (F.bindsN fun _ _ _ _ _ _ us hl => match us, hl with | [_, _], _ => rfl) fun cdv A outer s H E hr ds d h hl => ?_
  obtain ⟨b, n, rfl, hb0, hb, hn, rfl⟩ := h
  refine dss_cons (ds_set 2 de_int ?_ sc_law_times.nd)
  refine dss_cons (ds_for (di_range1 (da_cons (de_var 1) da_nil) T.b_range (by omega) (by omega)) (fun i G => ∃ u, G = [.d (.int b), .d (.int n), .d (.int (b ^ i)), u]) ⟨.un, by rw [Int.pow_zero]; rfl⟩ (fun i x G' hx hG => ?_) (fun G' hG => ?_) rfl)
  · obtain ⟨u, rfl⟩ := hG
    obtain ⟨hi, rfl⟩ := rngD_get hx
    refine ⟨_, _, dg_name 3 sc_law_times.nd, dss_one (ds_set 2 (de_op (o_mulS (.inr ⟨by omega, hb⟩)) (de_var 2) (de_var 0)) ⟨_, by rw [Int.pow_succ]; rfl⟩ sc_law_times.nd)⟩
  · obtain ⟨u, rfl⟩ := hG
    refine dss_one (ds_ret (de_var 2) ?_)
    rw [rngD_len]
    simp
theorem sc_law_places : FnScope ["_law_low", "_law_high", "_law_size"] ["_law_low", "_law_high", "_law_size"] (defScope s_law_places) := ⟨rfl, rfl, rfl, by decide +kernel, rfl, by decide +kernel, by decide +kernel⟩
theorem ok_law_places (T : Tp K mg) : FnD P w K mg base 1 "_law_places" 3 rLPlaces := by
  obtain ⟨fd, F⟩ := T.d_law_places
  refine fnD_mk T.g_law_places F sc_law_places rfl (F.bindsN fun _ _ _ _ _ _ us hl => match us, hl with | [_, _, _], _ => rfl) fun cdv A outer s H E hr ds d h hl => ?_
  obtain ⟨lo, hi, n, rfl, n0, n1, rfl⟩ := h
  exact dss_one (ds_ret (de_tup (da_cons (de_o (de_var 0) (de_var 2) (o_div (divW n0 n1))) (da_cons (de_op o_sub de_int (de_o (de_op o_sub de_int (de_var 0)) (de_var 2) (o_div (divW n0 n1)))) (da_cons (de_o (de_var 1) (de_var 2) (o_div (divW n0 n1))) (da_cons (de_op o_sub de_int (de_o (de_op o_sub de_int (de_var 1)) (de_var 2) (o_div (divW n0 n1)))) da_nil))))) rfl)
theorem sc_law_is_fit : FnScope ["_law_rule_here", "_law_low", "_law_high", "_law_size", "_law_before", "_law_first", "_law_last", "_law_outer"] ["_law_rule_here", "_law_low", "_law_high", "_law_size"] (defScope s_law_is_fit) := ⟨rfl, rfl, rfl, by decide +kernel, rfl, by decide +kernel, by decide +kernel⟩
theorem ok_law_is_fit (T : Tp K mg) : FnD P w K mg base 2 "_law_is_fit" 4 rLFit := by
  obtain ⟨fd, F⟩ := T.d_law_is_fit
  refine fnD_mk T.g_law_is_fit F sc_law_is_fit rfl (F.bindsN fun _ _ _ _ _ _ us hl => match us, hl with | [_, _, _, _], _ => rfl) fun cdv A outer s H E hr ds d h hl => ?_
  obtain ⟨r, lo, hi, n, rfl, ho, n0, n1, rfl⟩ := h
  have m1 := ho.m1
  have m6 := ho.m6
  refine dss_cons (ds_unpack (de_call (ok_law_places T) (hr.mono (by decide)) (da_cons (de_var 1) (da_cons (de_var 2) (da_cons (de_var 3) da_nil))) ⟨lo, hi, n, rfl, n0, n1, rfl⟩) (dg_tup (dgs_cons (dg_name 4 sc_law_is_fit.nd) (dgs_cons (dg_name 5 sc_law_is_fit.nd) (dgs_cons (dg_name 6 sc_law_is_fit.nd) (dgs_cons (dg_name 7 sc_law_is_fit.nd) dgs_nil)))) rfl) ?_)
  refine dss_cons (ds_if (dt_cmp o_eqS (de_ixT (d := .str r.k) (de_var 0) de_int) de_str) (fun hb => ?_) (fun hb => ?_))
  · refine dss_one (ds_ret (de_cmp o_le (de_op o_add (de_op o_sub (de_var 6) (de_var 5)) de_int) (de_ixT (d := .int r.m) (de_var 0) de_int)) ?_)
    unfold fitB
    rw [if_pos (of_decide_eq_true hb)]
  · refine dss_nil (dss_cons (ds_if (dt_cmp o_eqS (de_ixT (d := .str r.k) (de_var 0) de_int) de_str) (fun hb2 => ?_) (fun hb2 => ?_)))
    · refine dss_one (ds_ret (de_cmp o_le (de_op o_sub (de_var 7) (de_var 4)) (de_ixT (d := .int r.m) (de_var 0) de_int)) ?_)
      unfold fitB
      rw [if_neg (of_decide_eq_false hb), if_pos (of_decide_eq_true hb2)]
    · refine dss_nil (dss_one (ds_ret (de_cmp o_le (de_op o_sub (de_var 2) (de_var 1)) (de_o (de_ixT (d := .int r.m) (de_var 0) de_int) (de_var 3) (o_mulS (.inl ⟨by omega, by omega⟩)))) ?_))
      unfold fitB
      rw [if_neg (of_decide_eq_false hb), if_neg (of_decide_eq_false hb2)]
theorem sc_law_divisor : FnScope ["_law_one", "_law_other"] ["_law_one", "_law_other"] (defScope s_law_divisor) := ⟨rfl, rfl, rfl, by decide +kernel, rfl, by decide +kernel, by decide +kernel⟩
theorem ok_law_divisor (T : Tp K mg) : FnD P w K mg base 1 "_law_divisor" 2 rGcd := by
  obtain ⟨fd, F⟩ := T.d_law_divisor
  refine fnD_mk T.g_law_divisor F sc_law_divisor rfl (F.bindsN fun _ _ _ _ _ _ us hl => match us, hl with | [_, _], _ => rfl) fun cdv A outer s H E hr ds d h hl => ?_
  obtain ⟨a, c, rfl, ha, hc, rfl⟩ := h
  refine dss_cons (ds_while (fun m G => ∃ x y : Int, G = [.d (.int x), .d (.int y)] ∧ 0 ≤ x ∧ 0 ≤ y ∧ Int.gcd x y = Int.gcd a c ∧ m = y.toNat) ⟨_, _, _, rfl, ha, hc, rfl, rfl⟩ (fun m G' hG => ?_))
  obtain ⟨x, y, rfl, hx, hy, hg, rfl⟩ := hG
  refine ⟨_, _, dt_cmp o_gt (de_var 1) de_int, fun hb => ?_, fun hb => ?_⟩
  · have hy0 : 0 < y := of_decide_eq_true hb
    have q1 := Int.emod_nonneg x (by omega : y ≠ 0)
    have q2 := Int.emod_lt_of_pos x hy0
    exact dss_one (ds_par 0 1 (da_cons (de_var 1) (da_cons (de_o (de_callTy c_int T.b_int bt_int (da_cons (de_var 0) da_nil)) (de_callTy c_int T.b_int bt_int (da_cons (de_var 1) da_nil)) (o_mod hy0)) da_nil)) ⟨_, by omega, y, x % y, rfl, hy, q1, by rw [gcd_turn hx hy (by omega)]; exact hg, rfl⟩ sc_law_divisor.nd rfl)
  · have hy0 : ¬ 0 < y := of_decide_eq_false hb
    have hy0 : y = 0 := by omega
    subst hy0
    refine dss_one (ds_ret (de_var 0) ?_)
    rw [← hg, Int.gcd_zero_right]
    show D.int x = D.int _
    congr 1
    omega
theorem sc_law_is_sure : FnScope ["_law_rule_here", "_law_size", "_law_length_here"] ["_law_rule_here", "_law_size", "_law_length_here"] (defScope s_law_is_sure) := ⟨rfl, rfl, rfl, by decide +kernel, rfl, by decide +kernel, by decide +kernel⟩
theorem ok_law_is_sure (T : Tp K mg) : FnD P w K mg base 1 "_law_is_sure" 3 rLSure := by
  obtain ⟨fd, F⟩ := T.d_law_is_sure
  refine fnD_mk T.g_law_is_sure F sc_law_is_sure rfl (F.bindsN fun _ _ _ _ _ _ us hl => match us, hl with | [_, _, _], _ => rfl) fun cdv A outer s H E hr ds d h hl => ?_
  obtain ⟨r, n, L, rfl, ho, rfl⟩ := h
  have m1 := ho.m1
  have m6 := ho.m6
  refine dss_cons (ds_if (dt_cmp o_eqS (de_ixT (d := .str r.k) (de_var 0) de_int) de_str) (fun hb => ?_) (fun hb => ?_))
  · refine dss_one (ds_ret (de_cmp o_gt (de_o (de_ixT (d := .int r.m) (de_var 0) de_int) (de_var 1) (o_mulS (.inl ⟨by omega, by omega⟩))) (de_var 2)) ?_)
    unfold sureB
    rw [if_pos (of_decide_eq_true hb)]
  · refine dss_nil (dss_cons (ds_if (dt_cmp o_eqS (de_ixT (d := .str r.k) (de_var 0) de_int) de_str) (fun hb2 => ?_) (fun hb2 => ?_)))
    · refine dss_one (ds_ret (de_cmp o_ge (de_o (de_op o_sub (de_ixT (d := .int r.m) (de_var 0) de_int) de_int) (de_var 1) (o_mulS (.inl ⟨by omega, by omega⟩))) (de_var 2)) ?_)
      unfold sureB
      rw [if_neg (of_decide_eq_false hb), if_pos (of_decide_eq_true hb2)]
    · refine dss_nil (dss_one (ds_ret (de_cmp o_ge (de_o (de_ixT (d := .int r.m) (de_var 0) de_int) (de_var 1) (o_mulS (.inl ⟨by omega, by omega⟩))) (de_var 2)) ?_))
      unfold sureB
      rw [if_neg (of_decide_eq_false hb), if_neg (of_decide_eq_false hb2)]
theorem sc_law_common : FnScope ["_law_sizes_here", "_law_found", "_law_size"] ["_law_sizes_here"] (defScope s_law_common) := ⟨rfl, rfl, rfl, by decide +kernel, rfl, by decide +kernel, by decide +kernel⟩
theorem ok_law_common (T : Tp K mg) : FnD P w K mg base 2 "_law_common" 1 rLcm := by
  obtain ⟨fd, F⟩ := T.d_law_common
  refine fnD_mk T.g_law_common F sc_law_common rfl (F.bindsN fun _ _ _ _ _ _ us hl => match us, hl with | [_], _ => rfl) fun cdv A outer s H E hr ds d h hl => ?_
  obtain ⟨ns, M, rfl, hns, hM, hM2, rfl⟩ := h
  refine dss_cons (ds_set 1 de_int ?_ sc_law_common.nd)
  refine dss_cons (ds_for (di_list (de_var 0)) (fun i G => ∃ u, G = [.d (.lst (ns.map .int)), .d (.int (lcmL (ns.take i))), u]) ⟨.un, rfl⟩ (fun i x G' hx hG => ?_) (fun G' hG => ?_) rfl)
  · obtain ⟨u, rfl⟩ := hG
    rw [List.getElem?_map] at hx
    cases hn : ns[i]? with
    | none => rw [hn] at hx; cases hx
    | some n =>
      rw [hn] at hx
      cases hx
      have hm := List.mem_of_getElem? hn
      obtain ⟨n1, n2⟩ := hns n hm
      obtain ⟨f1, f2, _⟩ := lcmL_fact (ns.take i) fun x hx => hns x (List.mem_of_mem_take hx)
      have b1 := Int.le_of_dvd hM f2
      have b2 := Int.le_of_dvd hM n2
      have g1 : 0 < (Int.gcd (lcmL (ns.take i)) n : Int) := by
        have := Int.gcd_pos_of_ne_zero_right (a := lcmL (ns.take i)) (b := n) (by omega)
        omega
      have g2 := Int.le_of_dvd n1 (Int.gcd_dvd_right (a := lcmL (ns.take i)) (b := n))
      have g3 : lcmL (ns.take i) / (Int.gcd (lcmL (ns.take i)) n : Int) ≤ lcmL (ns.take i) := Int.ediv_le_self _ (by omega)
      have g4 : 0 ≤ lcmL (ns.take i) / (Int.gcd (lcmL (ns.take i)) n : Int) := Int.ediv_nonneg (by omega) (by omega)
      have g5 : CMulW (lcmL (ns.take i) / (Int.gcd (lcmL (ns.take i)) n : Int)) n := wide_mul (a := 900) (b := 900) (by omega) (by omega) (by decide) (by decide) (by decide)
      refine ⟨_, _, dg_name 2 sc_law_common.nd, dss_one (ds_set 1 (de_op (o_mul g5) (de_op (o_div (wide_div (b := 900) g1 (by omega) (by decide) (by decide))) (de_var 1) (de_call (ok_law_divisor T) (hr.mono (by decide)) (da_cons (de_var 1) (da_cons (de_var 2) da_nil)) ⟨_, _, rfl, by omega, by omega, rfl⟩)) (de_var 2)) ⟨.d (.int n), ?_⟩ sc_law_common.nd)⟩
      rw [List.take_succ, hn, Option.toList_some, lcmL_snoc]
      rfl
  · obtain ⟨u, rfl⟩ := hG
    refine dss_one (ds_ret (de_var 1) ?_)
    rw [List.length_map, List.take_length]
theorem sc_law_scaled : FnScope ["_law_rule_here", "_law_step_here", "_law_low", "_law_high", "_law_many"] ["_law_rule_here", "_law_step_here", "_law_low", "_law_high"] (defScope s_law_scaled) := ⟨rfl, rfl, rfl, by decide +kernel, rfl, by decide +kernel, by decide +kernel⟩
theorem ok_law_scaled (T : Tp K mg) : FnD P w K mg base 2 "_law_scaled" 4 rLScaled := by
  obtain ⟨fd, F⟩ := T.d_law_scaled
  refine fnD_mk T.g_law_scaled F sc_law_scaled rfl (F.bindsN fun _ _ _ _ _ _ us hl => match us, hl with | [_, _, _, _], _ => rfl) fun cdv A outer s H E hr ds d h hl => ?_
  obtain ⟨r, ⟨m, p⟩, lo, hi, rfl, ho, hst, rfl⟩ := h
  obtain ⟨q1, q2, q3⟩ := hst.pow ho.b2
  obtain ⟨q4, q5, q6⟩ := hst
  have b2 := ho.b2
  have b10 := ho.b10
  refine dss_cons (ds_if (dt_cmp o_ge (de_ixT (d := .int (p : Int)) (de_var 1) de_int) de_int) (fun hb => ?_) (fun hb => ?_))
  · exact dss_one (ds_ret (de_tup (da_cons (de_var 2) (da_cons (de_var 3) (da_cons (de_o (de_ixT (d := .int m) (de_var 1) de_int) (de_call (ok_law_times T) (hr.mono (by decide)) (da_cons (de_ixT (d := .int r.b) (de_var 0) de_int) (da_cons (de_ixT (d := .int (p : Int)) (de_var 1) de_int) da_nil)) ⟨r.b, p, rfl, by omega, by omega, by omega, rfl⟩) (o_mulS (.inl ⟨by omega, by omega⟩))) da_nil)))) rfl)
  · have : ¬ (0 : Int) ≤ (p : Int) := of_decide_eq_false hb
    omega
end
end Ax
namespace Ax
open PySem PySem.Spec L2
/-! ### plain: the law's list of sizes -/
def zD (b : Int) (s : Int × Nat) : D := .tup [.int (sz b s), .int s.1, .int (s.2 : Int)]
structure LSz (r : Ru) (L : Int) (Z : List (Int × Nat)) : Prop where
  asc : Z.Pairwise fun s t => sz r.b s < sz r.b t
  mem : ∃ p0 : Nat, (p0 = 0 ∨ r.b ^ p0 * 225 < L) ∧ L ≤ r.b ^ p0 * r.b * 225 ∧ ∀ s, s ∈ Z ↔ s.1 ∈ r.hs ∧ p0 ≤ s.2 ∧ r.b ^ s.2 ≤ 10 * r.b * L
section
theorem cut_take (xs : List D) {k : Nat} (h : k ≤ xs.length) : cutD xs none (some (k : Int)) = xs.take k := by
  unfold cutD
  rw [show HT.sIx xs.length 0 none = 0 from rfl, HT.sIx_nat, Nat.min_eq_left h]
  simp
theorem cut_drop (xs : List D) {k : Nat} (h : k ≤ xs.length) : cutD xs (some (k : Int)) none = xs.drop k := by
  unfold cutD
  rw [show HT.sIx xs.length xs.length none = xs.length from rfl, HT.sIx_nat, Nat.min_eq_left h]
  exact List.take_of_length_le (by rw [List.length_drop]; omega)
theorem ins_parts {α : Type} (f : α → Int) (x : α) : ∀ (Z : List α), Z.Pairwise (fun a b => f a < f b) → (∀ z ∈ Z, f z ≠ f x) →
    Z.take (Z.filter fun z => decide (f z < f x)).length = Z.filter (fun z => decide (f z < f x)) ∧ Z.drop (Z.filter fun z => decide (f z < f x)).length = Z.filter (fun z => decide (f x < f z))
  | [], _, _ => ⟨rfl, rfl⟩
  | z :: Z, ha, hx => by
    rw [List.pairwise_cons] at ha
    have hz := hx z (by simp)
    by_cases c : f z < f x
    · obtain ⟨i1, i2⟩ := ins_parts f x Z ha.2 fun y hy => hx y (List.mem_cons_of_mem _ hy)
      have c2 : ¬ f x < f z := by omega
      rw [List.filter_cons_of_pos (by simpa using c), List.filter_cons_of_neg (by simpa using c2), List.length_cons, List.take_succ_cons, List.drop_succ_cons, i1, i2]
      exact ⟨rfl, rfl⟩
    · have e1 : (z :: Z).filter (fun z => decide (f z < f x)) = [] := List.filter_eq_nil_iff.mpr fun y hy => by
        rcases List.mem_cons.mp hy with rfl | hy
        · simpa using c
        · have := ha.1 y hy
          simp
          omega
      have e2 : (z :: Z).filter (fun z => decide (f x < f z)) = z :: Z := List.filter_eq_self.mpr fun y hy => by
        rcases List.mem_cons.mp hy with rfl | hy
        · simp; omega
        · have := ha.1 y hy
          simp
          omega
      rw [e1, e2]
      exact ⟨rfl, rfl⟩
theorem ins_spec {α : Type} (f : α → Int) (x : α) (Z : List α) (ha : Z.Pairwise fun a b => f a < f b) (hx : ∀ z ∈ Z, f z ≠ f x) :
    (Z.take (Z.filter fun z => decide (f z < f x)).length ++ [x] ++ Z.drop (Z.filter fun z => decide (f z < f x)).length).Pairwise (fun a b => f a < f b) ∧
    ∀ y, y ∈ Z.take (Z.filter fun z => decide (f z < f x)).length ++ [x] ++ Z.drop (Z.filter fun z => decide (f z < f x)).length ↔ y ∈ Z ∨ y = x := by
  obtain ⟨e1, e2⟩ := ins_parts f x Z ha hx
  rw [e1, e2]
  refine ⟨?_, fun y => ?_⟩
  · rw [List.pairwise_append, List.pairwise_append]
    refine ⟨⟨ha.filter _, by simp, fun a h b hb => ?_⟩, ha.filter _, fun a h b hb => ?_⟩
    · rw [List.mem_singleton.mp hb]
      simpa using (List.mem_filter.mp h).2
    · have hb2 : f x < f b := by simpa using (List.mem_filter.mp hb).2
      rcases List.mem_append.mp h with h | h
      · have : f a < f x := by simpa using (List.mem_filter.mp h).2
        omega
      · rw [List.mem_singleton.mp h]; exact hb2
  · simp only [List.mem_append, List.mem_filter, List.mem_singleton, decide_eq_true_eq]
    constructor
    · rintro ((⟨h, _⟩ | h) | ⟨h, _⟩)
      · exact .inl h
      · exact .inr h
      · exact .inl h
    · rintro (h | h)
      · have := hx y h
        by_cases c : f y < f x
        · exact .inl (.inl ⟨h, c⟩)
        · exact .inr ⟨h, by omega⟩
      · exact .inl (.inr h)
variable {r : Ru} {L : Int}
theorem z_len (ho : r.Ok) {Z : List (Int × Nat)} {p : Nat} (ha : Z.Pairwise fun s t => sz r.b s < sz r.b t) (hm : ∀ s ∈ Z, s.1 ∈ r.hs ∧ s.2 < p) : Z.length ≤ 4 * p := by
  have := nodup_len Z (r.hs.flatMap fun x => (List.range p).map fun i => (x, i)) (ha.imp fun {a b} hab e => by rw [e] at hab; omega) fun s hs => by
    obtain ⟨h1, h2⟩ := hm s hs
    exact List.mem_flatMap.mpr ⟨s.1, h1, List.mem_map.mpr ⟨s.2, List.mem_range.mpr h2, rfl⟩⟩
  have e : (r.hs.flatMap fun x => (List.range p).map fun i => (x, i)).length = r.hs.length * p := by
    generalize r.hs = l
    induction l with
    | nil => simp
    | cons x l ih => rw [List.flatMap_cons, List.length_append, ih]; simp [Nat.succ_mul]; omega
  have hl := ho.len
  have : r.hs.length * p ≤ 4 * p := Nat.mul_le_mul_right p hl
  omega
/-- powers below a bound are few -/
theorem pow_few {b c : Int} {p : Nat} (hb : 2 ≤ b) (h : b ^ p ≤ c) (hc : c < 2 ^ 195) : p < 195 := by
  refine Classical.byContradiction fun z => ?_
  have h1 := pow_mono hb (p := 195) (q := p) (by omega)
  have h2 := pow_two_le hb 195
  omega
end
end Ax
namespace Ax
open PySem PySem.Spec L2
def rLSizes : List D → D → Prop := fun ds d => ∃ (r : Ru) (L : Int) (Z : List (Int × Nat)), ds = [r.lw, .int L] ∧ r.Ok ∧ 1 ≤ L ∧ L < 2 ^ 180 ∧ LSz r L Z ∧ d = .lst (Z.map (zD r.b))
def z1 : D → Int
  | .tup (.int i :: _) => i
  | _ => 0
section
variable {P : Program} {w : World} {K : PySem.W.Frag} {mg : Str → Option Value} {base : Heap}
theorem sc_law_sizes : FnScope ["_law_rule_here", "_law_length_here", "_law_base", "_law_found", "_law_start", "_law_power", "_law_head", "_law_at", "_law_one"] ["_law_rule_here", "_law_length_here"] (defScope s_law_sizes) := ⟨rfl, rfl, rfl, by decide +kernel, rfl, by decide +kernel, by decide +kernel⟩
theorem ok_law_sizes (T : Tp K mg) : FnD P w K mg base 2 "_law_sizes" 2 rLSizes := by
  obtain ⟨fd, F⟩ := T.d_law_sizes
  refine fnD_mk T.g_law_sizes F sc_law_sizes rfl (F.bindsN fun _ _ _ _ _ _ us hl => match us, hl with | [_, _], _ => rfl) fun cdv A outer s H E hr ds d h hl => ?_
  obtain ⟨r, L, Z, rfl, ho, L1, L2, hZ, rfl⟩ := h
  have b2 := ho.b2
  have b10 := ho.b10
  have hlen := ho.len
  obtain ⟨p0, hp1, hp2, hmem⟩ := hZ.mem
  have bL : r.b * L ≤ 10 * L := Int.mul_le_mul_of_nonneg_right b10 (by omega)
  have bL2 : 10 * r.b * L = 10 * (r.b * L) := Int.mul_assoc ..
  -- the first power is the only one of its kind
  have uniq : ∀ p : Nat, (p = 0 ∨ r.b ^ p * 225 < L) → ¬ (r.b ^ p * r.b * 25 * 9 < L) → p = p0 := fun p h1 h2 => by
    have e : r.b ^ p * r.b * 25 * 9 = r.b ^ (p + 1) * 225 := by rw [Int.pow_succ]; omega
    have e0 : r.b ^ p0 * r.b * 225 = r.b ^ (p0 + 1) * 225 := by rw [Int.pow_succ]
    rcases Nat.lt_trichotomy p p0 with c | c | c
    · have := pow_mono b2 (p := p + 1) (q := p0) c
      rcases hp1 with h | h
      · omega
      · omega
    · exact c
    · have := pow_mono b2 (p := p0 + 1) (q := p) c
      rcases h1 with h | h
      · omega
      · omega
  refine dss_cons (ds_unpack (de_tup (da_cons (de_ixT (d := .int r.b) (de_var 0) de_int) (da_cons (de_lst da_nil) (da_cons de_int (da_cons de_int da_nil))))) (dg_tup (dgs_cons (dg_name 2 sc_law_sizes.nd) (dgs_cons (dg_name 3 sc_law_sizes.nd) (dgs_cons (dg_name 4 sc_law_sizes.nd) (dgs_cons (dg_name 5 sc_law_sizes.nd) dgs_nil)))) rfl) ?_)
  refine dss_cons (ds_while (fun m G => ∃ p : Nat, G = [.d r.lw, .d (.int L), .d (.int r.b), .d (.lst []), .d (.int (r.b ^ p)), .d (.int (p : Int)), .un, .un, .un] ∧ (p = 0 ∨ r.b ^ p * 225 < L) ∧ m = (L - r.b ^ p).toNat) ⟨_, 0, by rw [Int.pow_zero]; rfl, .inl rfl, rfl⟩ (fun m G' hG => ?_))
  obtain ⟨p, rfl, h1, rfl⟩ := hG
  have pp := pow_pos' b2 p
  refine ⟨_, _, dt_cmp o_lt (de_o (de_o (de_o (de_var 4) (de_var 2) (o_mulS (.inr ⟨by omega, by omega⟩))) de_int (o_mulS (.inr ⟨by decide, by decide⟩))) de_int (o_mulS (.inr ⟨by decide, by decide⟩))) (de_var 1), fun hb => ?_, fun hb => ?_⟩
  · have hlt : r.b ^ p * r.b * 25 * 9 < L := of_decide_eq_true hb
    have hgt : r.b ^ p < r.b ^ p * r.b := by rw [← Int.pow_succ]; exact pow_slt b2 (by omega)
    exact dss_one (ds_unpack (de_tup (da_cons (de_o (de_var 4) (de_var 2) (o_mulS (.inr ⟨by omega, by omega⟩))) (da_cons (de_op o_add (de_var 5) de_int) da_nil))) (dg_tup (dgs_cons (dg_name 4 sc_law_sizes.nd) (dgs_cons (dg_name 5 sc_law_sizes.nd) dgs_nil)) rfl) ⟨(L - r.b ^ (p + 1)).toNat, by rw [Int.pow_succ]; omega, p + 1, by rw [Int.pow_succ]; rfl, .inr (by rw [Int.pow_succ]; omega), rfl⟩)
  · have hge : ¬ (r.b ^ p * r.b * 25 * 9 < L) := of_decide_eq_false hb
    obtain rfl := uniq p h1 hge
    refine dss_cons (ds_while (fun m G => ∃ (q : Nat) (Y : List (Int × Nat)) (u v : Sl), G = [.d r.lw, .d (.int L), .d (.int r.b), .d (.lst (Y.map (zD r.b))), .d (.int (r.b ^ q)), .d (.int (q : Int)), u, v, .un] ∧ p ≤ q ∧ (∀ q' < q, p ≤ q' → r.b ^ q' ≤ 10 * r.b * L) ∧ (Y.Pairwise fun s t => sz r.b s < sz r.b t) ∧ (∀ s, s ∈ Y ↔ s.1 ∈ r.hs ∧ p ≤ s.2 ∧ s.2 < q) ∧ m = (10 * r.b * L + 1 - r.b ^ q).toNat) ⟨_, p, [], .un, .un, rfl, Nat.le_refl _, fun q' h1 h2 => by omega, List.Pairwise.nil, fun s => ⟨fun h => (by cases h), fun ⟨_, h1, h2⟩ => (by omega)⟩, rfl⟩ (fun m G' hG => ?_))
    obtain ⟨q, Y, u, v, rfl, hpq, hq, hY, hYm, rfl⟩ := hG
    have qp := pow_pos' b2 q
    refine ⟨_, _, dt_cmp o_le (de_var 4) (de_o (de_o de_int (de_var 2) (o_mulS (.inl ⟨by decide, by decide⟩))) (de_var 1) (o_mulS (.inl ⟨by omega, by omega⟩))), fun hb => ?_, fun hb => ?_⟩
    · have hle : r.b ^ q ≤ 10 * r.b * L := of_decide_eq_true hb
      have q195 : q < 195 := pow_few b2 hle (by omega)
      refine dss_cons (ds_for (di_list (de_ixT (d := .lst (r.hs.map .int)) (de_var 0) de_int)) (fun i G => ∃ (Y' : List (Int × Nat)) (u v : Sl), G = [.d r.lw, .d (.int L), .d (.int r.b), .d (.lst (Y'.map (zD r.b))), .d (.int (r.b ^ q)), .d (.int (q : Int)), u, v, .un] ∧ (Y'.Pairwise fun s t => sz r.b s < sz r.b t) ∧ (∀ s, s ∈ Y' ↔ (s.1 ∈ r.hs ∧ p ≤ s.2 ∧ s.2 < q) ∨ (s.2 = q ∧ s.1 ∈ r.hs.take i))) ⟨Y, u, v, rfl, hY, fun s => by rw [hYm]; simp⟩ (fun i x G' hx hG => ?_) (fun G' hG => ?_) rfl)
      · obtain ⟨Y', u, v, rfl, hY', hYm'⟩ := hG
        rw [List.getElem?_map] at hx
        cases hy : r.hs[i]? with
        | none => rw [hy] at hx; cases hx
        | some hd =>
          rw [hy] at hx
          cases hx
          have hdm := List.mem_of_getElem? hy
          obtain ⟨h1', h25, _⟩ := ho.h1 hd hdm
          have il := (List.getElem?_eq_some_iff.mp hy).1
          have tk : r.hs.take (i + 1) = r.hs.take i ++ [hd] := by rw [List.take_succ, hy]; rfl
          have ylen : Y'.length ≤ 4 * 195 := z_len ho hY' fun s hs => by
            rcases (hYm' s).mp hs with ⟨a, _, c⟩ | ⟨a, c⟩
            · exact ⟨a, by omega⟩
            · exact ⟨List.mem_of_mem_take c, by omega⟩
          have nd : r.hs.Nodup := ho.asc.imp fun h => by omega
          have fresh : ∀ z ∈ Y', sz r.b z ≠ sz r.b (hd, q) := fun z hz e => by
            rcases (hYm' z).mp hz with ⟨a, _, c⟩ | ⟨a, c⟩
            · have := sz_inj ho a hdm e
              rw [this] at c
              exact absurd c (by show ¬ q < q; omega)
            · have e2 := sz_inj ho (List.mem_of_mem_take c) hdm e
              rw [e2] at c
              obtain ⟨j, hj⟩ := List.getElem?_of_mem c
              have ji : j < i := by
                have := (List.getElem?_eq_some_iff.mp hj).1
                rw [List.length_take] at this
                omega
              rw [List.getElem?_take_of_lt ji] at hj
              have := (List.getElem?_inj (List.getElem?_eq_some_iff.mp hj).1 nd).mp (hj.trans hy.symm)
              omega
          obtain ⟨sp1, sp2⟩ := ins_spec (sz r.b) (hd, q) Y' hY' fresh
          have kle := List.length_filter_le (fun z => decide (sz r.b z < sz r.b (hd, q))) Y'
          refine ⟨_, _, dg_name 6 sc_law_sizes.nd, ?_⟩
          refine dss_cons (ds_set 7 (de_callB c_len T.b_len bt_len (da_cons (de_lcK [("_law_one", 8)] (lck (di_list (de_var 3)) (fun d => decide (z1 d < sz r.b (hd, q))) (fun d => d) (freeC free0) (by rw [List.length_map]; omega) fun x hx => ?_) (blk_at ["_law_rule_here", "_law_length_here", "_law_base", "_law_found", "_law_start", "_law_power", "_law_head", "_law_at", "_law_one"] (defScope s_law_sizes)) sc_law_sizes.nd rfl) da_nil)) ?_ sc_law_sizes.nd)
          · obtain ⟨z, hz, rfl⟩ := List.mem_map.mp hx
            exact ⟨_, _, bkAll fun _ _ _ _ _ => (dg_name 8 sc_law_sizes.nd), by decide, rfl, bkAll fun _ _ _ _ _ => (dts_one (dt_cmp o_lt (de_ixT (d := .int (sz r.b z)) (de_var 8) de_int) (de_o (de_var 6) (de_var 4) (o_mulS (.inl ⟨by omega, by omega⟩))))), fun _ => bkAll fun _ _ _ _ _ => (de_var 8)⟩
          have ek : ((((Y'.map (zD r.b)).filter fun d => decide (z1 d < sz r.b (hd, q))).map fun d => d).length : Int) = ((Y'.filter fun z => decide (sz r.b z < sz r.b (hd, q))).length : Int) := by
            rw [List.map_id', List.filter_map, List.length_map]
            rfl
          rw [ek]
          generalize hk : (Y'.filter fun z => decide (sz r.b z < sz r.b (hd, q))).length = k at sp1 sp2 kle
          have kl2 : k ≤ (Y'.map (zD r.b)).length := by rw [List.length_map]; exact kle
          refine dss_one (ds_set 3 (de_o (de_o (DE.to (de_slice (de_var 3) do_none (do_some (de_var 7))) (congrArg D.lst (cut_take _ kl2))) (de_lst (da_cons (de_tup (da_cons (de_o (de_var 6) (de_var 4) (o_mulS (.inl ⟨by omega, by omega⟩))) (da_cons (de_var 6) (da_cons (de_var 5) da_nil)))) da_nil)) (o_cat (by rw [List.length_take, List.length_map]; show _ + 1 ≤ _; omega))) (DE.to (de_slice (de_var 3) (do_some (de_var 7)) do_none) (congrArg D.lst (cut_drop _ kl2))) (o_cat (by rw [List.length_append, List.length_take, List.length_drop, List.length_map]; show _ + 1 + _ ≤ _; omega))) ⟨Y'.take k ++ [(hd, q)] ++ Y'.drop k, .d (.int hd), .d (.int (k : Int)), ?_, sp1, fun s => ?_⟩ sc_law_sizes.nd)
          · rw [List.map_append, List.map_append, List.map_take, List.map_drop]
            rfl
          · rw [sp2, hYm', tk, List.mem_append, List.mem_singleton]
            constructor
            · rintro ((h | ⟨h, h'⟩) | h)
              · exact .inl h
              · exact .inr ⟨h, .inl h'⟩
              · rw [h]; exact .inr ⟨rfl, .inr rfl⟩
            · rintro (h | ⟨h, h' | h'⟩)
              · exact .inl (.inl h)
              · exact .inl (.inr ⟨h, h'⟩)
              · exact .inr (Prod.ext h' h)
      · obtain ⟨Y', u, v, rfl, hY', hYm'⟩ := hG
        rw [List.length_map, List.take_length] at hYm'
        have hgt : r.b ^ q < r.b ^ q * r.b := by rw [← Int.pow_succ]; exact pow_slt b2 (by omega)
        refine dss_one (ds_unpack (de_tup (da_cons (de_o (de_var 4) (de_var 2) (o_mulS (.inr ⟨by omega, by omega⟩))) (da_cons (de_op o_add (de_var 5) de_int) da_nil))) (dg_tup (dgs_cons (dg_name 4 sc_law_sizes.nd) (dgs_cons (dg_name 5 sc_law_sizes.nd) dgs_nil)) rfl) ⟨(10 * r.b * L + 1 - r.b ^ (q + 1)).toNat, by rw [Int.pow_succ]; omega, q + 1, Y', u, v, by rw [Int.pow_succ]; rfl, by omega, fun q' h1 h2 => ?_, hY', fun s => ?_, rfl⟩)
        · by_cases e : q' = q
          · subst e; exact hle
          · exact hq q' (by omega) h2
        · rw [hYm']
          constructor
          · rintro (⟨a, b, c⟩ | ⟨a, c⟩)
            · exact ⟨a, b, by omega⟩
            · exact ⟨c, by omega, by omega⟩
          · rintro ⟨a, b, c⟩
            by_cases e : s.2 = q
            · exact .inr ⟨e, a⟩
            · exact .inl ⟨a, b, by omega⟩
    · have hgt : ¬ r.b ^ q ≤ 10 * r.b * L := of_decide_eq_false hb
      have eY : Y = Z := asc_unique (sz r.b) Y Z hY hZ.asc fun s => by
        rw [hYm, hmem]
        constructor
        · rintro ⟨a, b, c⟩
          exact ⟨a, b, hq _ c b⟩
        · rintro ⟨a, b, c⟩
          refine ⟨a, b, Classical.byContradiction fun z => ?_⟩
          have := pow_mono b2 (p := q) (q := s.2) (by omega)
          omega
      subst eY
      exact dss_one (ds_ret (de_var 3) rfl)
end
end Ax
namespace Ax
open PySem PySem.Spec L2
section
variable {r : Ru} {L x n c lo hi : Int} {Z : List (Int × Nat)}
theorem up_scale (hc : 0 < c) : up (lo * c) (n * c) = up lo n := by
  unfold up
  rw [show 0 - lo * c = (0 - lo) * c by rw [Int.sub_mul, Int.zero_mul], Int.mul_ediv_mul_of_pos_left _ _ hc]
theorem fit_scale (hc : 0 < c) : fitB r (n * c) (lo * c) (hi * c) = fitB r n lo hi := by
  unfold fitB
  rw [up_scale hc, up_scale hc, Int.mul_ediv_mul_of_pos_left _ _ hc, Int.mul_ediv_mul_of_pos_left _ _ hc]
  have e : decide (hi * c - lo * c ≤ r.m * (n * c)) = decide (hi - lo ≤ r.m * n) := by
    rw [← Int.sub_mul, ← Int.mul_assoc]
    refine decide_eq_decide.mpr ⟨fun h => Int.le_of_mul_le_mul_right h hc, fun h => Int.mul_le_mul_of_nonneg_right h (by omega)⟩
  rw [e]
theorem lsz_ex (ho : r.Ok) (hL : 1 ≤ L) : ∃ Z, LSz r L Z := by
  classical
  have b2 := ho.b2
  have ⟨p0, h1, h2⟩ : ∃ p0 : Nat, (p0 = 0 ∨ r.b ^ p0 * 225 < L) ∧ L ≤ r.b ^ p0 * r.b * 225 := by
    have ex : ∃ p : Nat, L ≤ r.b ^ p * r.b * 225 := ⟨L.toNat, by
      have := lt_pow b2 L.toNat
      have : r.b ^ L.toNat * 1 ≤ r.b ^ L.toNat * r.b := Int.mul_le_mul_of_nonneg_left (by omega) (by omega)
      omega⟩
    have ⟨p, hp, hmin⟩ : ∃ p : Nat, L ≤ r.b ^ p * r.b * 225 ∧ ∀ q < p, ¬ L ≤ r.b ^ q * r.b * 225 := by
      obtain ⟨p, hp⟩ := ex
      induction p using Nat.strongRecOn with
      | ind p ih =>
        by_cases c : ∃ q < p, L ≤ r.b ^ q * r.b * 225
        · obtain ⟨q, hq, hq2⟩ := c; exact ih q hq hq2
        · exact ⟨p, hp, fun q hq z => c ⟨q, hq, z⟩⟩
    refine ⟨p, ?_, hp⟩
    cases p with
    | zero => exact .inl rfl
    | succ p =>
      have := hmin p (by omega)
      refine .inr ?_
      rw [Int.pow_succ]
      omega
  let q : Int × Nat → Prop := fun s => s.1 ∈ r.hs ∧ p0 ≤ s.2 ∧ r.b ^ s.2 ≤ 10 * r.b * L
  let rep : Int → Int × Nat := fun n => if h : ∃ s, q s ∧ sz r.b s = n then Classical.choose h else (0, 0)
  have hrep : ∀ n, (∃ s, q s ∧ sz r.b s = n) → q (rep n) ∧ sz r.b (rep n) = n := fun n h => by
    show q (if h : ∃ s, q s ∧ sz r.b s = n then Classical.choose h else (0, 0)) ∧ sz r.b (if h : ∃ s, q s ∧ sz r.b s = n then Classical.choose h else (0, 0)) = n
    rw [dif_pos h]
    exact Classical.choose_spec h
  refine ⟨(ups (25 * (10 * r.b * L) + 1) fun n => ∃ s, q s ∧ sz r.b s = n).map rep, ?_, p0, h1, h2, fun s => ?_⟩
  · rw [List.pairwise_map]
    refine List.Pairwise.imp_of_mem ?_ (ups_asc (N := 25 * (10 * r.b * L) + 1))
    intro a b ha hb hab
    rw [(hrep a (mem_ups.mp ha).2.2).2, (hrep b (mem_ups.mp hb).2.2).2]
    exact hab
  · rw [List.mem_map]
    constructor
    · rintro ⟨n, hn, rfl⟩
      exact (hrep n (mem_ups.mp hn).2.2).1
    · intro hs
      have e := hrep (sz r.b s) ⟨s, hs, rfl⟩
      refine ⟨sz r.b s, mem_ups.mpr ⟨?_, ?_, s, hs, rfl⟩, sz_inj ho e.1.1 hs.1 e.2⟩
      · have := (sz_pos b2 (ho.h1 _ hs.1).1).1; omega
      · have h25 := (ho.h1 _ hs.1).2.1
        have hp := pow_pos' b2 s.2
        have : sz r.b s ≤ 25 * r.b ^ s.2 := Int.mul_le_mul_of_nonneg_right h25 (by omega)
        have := hs.2.2
        omega
/-- the law's list, searched for the scaled range, tells the rule's step -/
theorem lsz_first (ho : r.Ok) (hL : 512 ≤ L) (hH : L < 2 ^ 145) (hZ : LSz r (L * r.b ^ 9) Z) : ∃ i : Nat, Z[i]? = some ((stepOf r L x).1, (stepOf r L x).2 + 9) ∧ fitB r (sz r.b ((stepOf r L x).1, (stepOf r L x).2 + 9)) (x * r.b ^ 9) ((x + L) * r.b ^ 9) = true ∧
    (∀ (j : Nat) t, j < i → Z[j]? = some t → fitB r (sz r.b t) (x * r.b ^ 9) ((x + L) * r.b ^ 9) = false) := by
  have b2 := ho.b2
  have b10 := ho.b10
  have c0 := pow_pos' b2 9
  obtain ⟨S, hS⟩ := stp_ex ho hL (by omega)
  obtain ⟨st, stS, _⟩ := hS.first x
  have is := (hS.mem _).mp stS
  generalize stepOf r L x = s at st stS is
  obtain ⟨p0, hp1, hp2, hmem⟩ := hZ.mem
  have sc : ∀ (h : Int) (p : Nat), sz r.b (h, p + 9) = sz r.b (h, p) * r.b ^ 9 := fun h p => by
    unfold sz
    show h * r.b ^ (p + 9) = h * r.b ^ p * r.b ^ 9
    rw [Int.pow_add, Int.mul_assoc]
  have fs : fitB r (sz r.b (s.1, s.2 + 9)) (x * r.b ^ 9) ((x + L) * r.b ^ 9) = true := by
    rw [sc, fit_scale (by omega)]
    exact st.fit
  have s25 := (ho.h1 _ st.hd)
  have spp := pow_pos' b2 s.2
  have lowL : L ≤ 7 * sz r.b s := isSt_low ho is
  have highL : sz r.b s ≤ r.b * L := isSt_high ho hL is
  have s25' : sz r.b s ≤ 25 * r.b ^ s.2 := Int.mul_le_mul_of_nonneg_right s25.2.1 (by omega)
  have sbp : r.b ^ s.2 ≤ sz r.b s := (sz_pos b2 s25.1).2
  have inZ : (s.1, s.2 + 9) ∈ Z := by
    refine (hmem _).mpr ⟨st.hd, ?_, ?_⟩
    · refine Classical.byContradiction fun z => ?_
      have z : s.2 + 9 < p0 := by omega
      rcases hp1 with h | h
      · omega
      · have h1 := pow_mono b2 (p := s.2 + 9 + 1) (q := p0) z
        have h2 : r.b ^ (s.2 + 9) ≤ r.b ^ p0 := pow_mono b2 (by omega)
        rw [Int.pow_add] at h2
        have h3 : L * r.b ^ 9 ≤ 175 * r.b ^ s.2 * r.b ^ 9 := Int.mul_le_mul_of_nonneg_right (by omega) (by omega)
        rw [Int.mul_assoc] at h3
        have : 0 < r.b ^ s.2 * r.b ^ 9 := Int.mul_pos (by omega) (by omega)
        omega
    · show r.b ^ (s.2 + 9) ≤ 10 * r.b * (L * r.b ^ 9)
      rw [Int.pow_add, ← Int.mul_assoc]
      refine Int.mul_le_mul_of_nonneg_right ?_ (by omega)
      have e : 10 * r.b * L = 10 * (r.b * L) := Int.mul_assoc ..
      omega
  obtain ⟨i, hi⟩ := List.getElem?_of_mem inZ
  refine ⟨i, hi, fs, fun j t hj ht => Bool.not_eq_true _ ▸ fun z => ?_⟩
  have tZ := (hmem t).mp (List.mem_of_getElem? ht)
  obtain ⟨t1, t25, _⟩ := ho.h1 _ tZ.1
  have tlt : sz r.b t < sz r.b (s.1, s.2 + 9) := by
    have q := List.pairwise_iff_getElem.mp hZ.asc
    obtain ⟨l1, e1⟩ := List.getElem?_eq_some_iff.mp ht
    obtain ⟨l2, e2⟩ := List.getElem?_eq_some_iff.mp hi
    have := q j i l1 l2 hj
    rw [e1, e2] at this
    exact this
  have tpos := (sz_pos (s := t) b2 t1).1
  have tmay := fit_may (L := L * r.b ^ 9) (x := x * r.b ^ 9) ho (by omega : 0 < sz r.b t) (by rw [← Int.add_mul]; exact z)
  have tlow := may_low ho (by omega) tmay
  obtain ⟨th, tp⟩ := t
  have t9 : 9 ≤ tp := by
    refine Classical.byContradiction fun c => ?_
    have h1 : r.b ^ tp ≤ r.b ^ 9 := pow_mono b2 (by omega)
    have hp := pow_pos' b2 tp
    have h2 : sz r.b (th, tp) ≤ 25 * r.b ^ tp := Int.mul_le_mul_of_nonneg_right t25 (by show 0 ≤ r.b ^ tp; omega)
    have h3 : 512 * r.b ^ 9 ≤ L * r.b ^ 9 := Int.mul_le_mul_of_nonneg_right hL (by omega)
    omega
  obtain ⟨k, rfl⟩ : ∃ k, tp = k + 9 := ⟨tp - 9, by omega⟩
  rw [sc, fit_scale (by omega)] at z
  rw [sc, sc] at tlt
  have := st.no (th, k) tZ.1 (Int.lt_of_mul_lt_mul_right tlt (by omega))
  rw [this] at z
  cases z
end
end Ax
namespace Ax
open PySem PySem.Spec L2
def rLStep : List D → D → Prop := fun ds d => ∃ (r : Ru) (L x : Int), ds = [r.lw, .int x, .int (x + L)] ∧ r.Ok ∧ 512 ≤ L ∧ L < 2 ^ 145 ∧ d = stD (stepOf r L x)
def rLMarks : List D → D → Prop := fun ds d => ∃ (r : Ru) (L x : Int), ds = [r.lw, .int x, .int (x + L)] ∧ r.Ok ∧ 512 ≤ L ∧ L < 2 ^ 145 ∧ d = .tup [.int (marks r (sz r.b (stepOf r L x)) x (x + L)).1, .int (marks r (sz r.b (stepOf r L x)) x (x + L)).2]
theorem step_ok {r : Ru} {L : Int} (ho : r.Ok) (hL : 512 ≤ L) (hH : L < 2 ^ 180) (x : Int) : StOk r.b (stepOf r L x) ∧ IsStep r L x (stepOf r L x) := by
  obtain ⟨S, hS⟩ := stp_ex ho hL hH
  obtain ⟨f1, f2, _⟩ := hS.first x
  exact ⟨hS.stOk f2, f1⟩
section
variable {P : Program} {w : World} {K : PySem.W.Frag} {mg : Str → Option Value} {base : Heap}
theorem sc_law_step : FnScope ["_law_rule_here", "_law_low", "_law_high", "_law_many", "_law_size", "_law_head", "_law_power"] ["_law_rule_here", "_law_low", "_law_high"] (defScope s_law_step) := ⟨rfl, rfl, rfl, by decide +kernel, rfl, by decide +kernel, by decide +kernel⟩
theorem ok_law_step (T : Tp K mg) : FnD P w K mg base 3 "_law_step" 3 rLStep := by
  obtain ⟨fd, F⟩ := T.d_law_step
  refine fnD_mk T.g_law_step F sc_law_step rfl (F.bindsN fun _ _ _ _ _ _ us hl => match us, hl with | [_, _, _], _ => rfl) fun cdv A outer s H E hr ds d h hl => ?_
  obtain ⟨r, L, x, rfl, ho, L0, L1, rfl⟩ := h
  have b2 := ho.b2
  have b10 := ho.b10
  have c0 := pow_pos' b2 9
  have c1 : r.b ^ 9 ≤ 10 ^ 9 := by
    have : ∀ n : Nat, r.b ^ n ≤ 10 ^ n := fun n => by
      induction n with
      | zero => simp
      | succ n ih =>
        rw [Int.pow_succ, Int.pow_succ]
        exact Int.mul_le_mul ih b10 (by omega) (by have := pow_pos' (b := 10) (by decide) n; omega)
    exact this 9
  have L9 : L * r.b ^ 9 ≤ 2 ^ 145 * 10 ^ 9 := Int.mul_le_mul (by omega) c1 (by omega) (by decide)
  have L90 : 512 * 1 ≤ L * r.b ^ 9 := Int.mul_le_mul L0 (by omega) (by decide) (by omega)
  obtain ⟨Z, hZ⟩ := lsz_ex (L := L * r.b ^ 9) ho (by omega)
  obtain ⟨i, hi, hfit, hno⟩ := lsz_first (x := x) ho L0 L1 hZ
  obtain ⟨p0, _, _, hmem⟩ := hZ.mem
  have e : (x + L) * r.b ^ 9 - x * r.b ^ 9 = L * r.b ^ 9 := by rw [Int.add_mul]; omega
  refine dss_cons (ds_set 3 (de_call (ok_law_times T) (hr.mono (by decide)) (da_cons (de_ixT (d := .int r.b) (de_var 0) de_int) (da_cons de_int da_nil)) ⟨r.b, 9, rfl, by omega, by omega, by decide, rfl⟩) ?_ sc_law_step.nd)
  refine dss_cons (ds_par 1 2 (da_cons (de_o (de_var 1) (de_var 3) (o_mulS (.inr ⟨by omega, by omega⟩))) (da_cons (de_o (de_var 2) (de_var 3) (o_mulS (.inr ⟨by omega, by omega⟩))) da_nil)) ?_ sc_law_step.nd rfl)
  generalize hlo : x * r.b ^ 9 = lo at hfit hno e
  generalize hhi : (x + L) * r.b ^ 9 = hi' at hfit hno e
  refine dss_cons (ds_for (di_list (de_call (ok_law_sizes T) (hr.mono (by decide)) (da_cons (de_var 0) (da_cons (de_op o_sub (de_var 2) (de_var 1)) da_nil)) ⟨r, hi' - lo, Z, rfl, ho, by omega, by omega, by rw [e]; exact hZ, rfl⟩)) (fun j G => j ≤ i ∧ ∃ u v t, G = [.d r.lw, .d (.int lo), .d (.int hi'), .d (.int (r.b ^ 9)), u, v, t]) ⟨Nat.zero_le _, .un, .un, .un, rfl⟩ (fun j y G' hy hG => ?_) (fun G' hG => ?_) rfl)
  · obtain ⟨hji, u, v, t, rfl⟩ := hG
    rw [List.getElem?_map] at hy
    cases hz : Z[j]? with
    | none => rw [hz] at hy; cases hy
    | some z =>
      rw [hz] at hy
      cases hy
      have zm := (hmem z).mp (List.mem_of_getElem? hz)
      obtain ⟨z1, z25, _⟩ := ho.h1 _ zm.1
      have zpos := (sz_pos (s := z) b2 z1).1
      have zp := pow_pos' b2 z.2
      have zle : sz r.b z ≤ 25 * r.b ^ z.2 := Int.mul_le_mul_of_nonneg_right z25 (by omega)
      have zb := zm.2.2
      have bL : 10 * r.b * (L * r.b ^ 9) ≤ 100 * (L * r.b ^ 9) := Int.mul_le_mul_of_nonneg_right (by omega) (by omega)
      refine ⟨_, _, dg_tup (dgs_cons (dg_name 4 sc_law_step.nd) (dgs_cons (dg_name 5 sc_law_step.nd) (dgs_cons (dg_name 6 sc_law_step.nd) dgs_nil))) rfl, ?_⟩
      refine dss_one (ds_if (dt_val (de_call (ok_law_is_fit T) (hr.mono (by decide)) (da_cons (de_var 0) (da_cons (de_var 1) (da_cons (de_var 2) (da_cons (de_var 4) da_nil)))) ⟨r, lo, hi', sz r.b z, rfl, ho, by omega, by omega, rfl⟩)) (fun hb => ?_) (fun hb => ?_))
      · have ej : j = i := Classical.byContradiction fun c => by
          rw [hno j z (by omega) hz] at hb
          cases hb
        subst ej
        rw [hi] at hz
        cases hz
        refine dss_one (ds_ret (de_tup (da_cons (de_var 5) (da_cons (de_op o_sub (de_var 6) de_int) da_nil))) ?_)
        show D.tup [.int (stepOf r L x).1, .int ((((stepOf r L x).2 + 9 : Nat) : Int) - 9)] = D.tup [.int (stepOf r L x).1, .int ((stepOf r L x).2 : Int)]
        rw [show ((((stepOf r L x).2 + 9 : Nat) : Int) - 9) = ((stepOf r L x).2 : Int) by omega]
      · have ne : j ≠ i := fun ej => by
          subst ej
          rw [hi] at hz
          cases hz
          rw [hfit] at hb
          cases hb
        exact dss_nil ⟨by omega, _, _, _, rfl⟩
  · have := (List.getElem?_eq_some_iff.mp hi).1
    rw [List.length_map] at hG
    omega
theorem sc_law_marks : FnScope ["_law_rule_here", "_law_low", "_law_high", "_law_step_here", "_law_size", "_law_before", "_law_first", "_law_last", "_law_outer"] ["_law_rule_here", "_law_low", "_law_high"] (defScope s_law_marks) := ⟨rfl, rfl, rfl, by decide +kernel, rfl, by decide +kernel, by decide +kernel⟩
theorem ok_law_marks (T : Tp K mg) : FnD P w K mg base 4 "_law_marks" 3 rLMarks := by
  obtain ⟨fd, F⟩ := T.d_law_marks
  refine fnD_mk T.g_law_marks F sc_law_marks rfl (F.bindsN fun _ _ _ _ _ _ us hl => match us, hl with | [_, _, _], _ => rfl) fun cdv A outer s H E hr ds d h hl => ?_
  obtain ⟨r, L, x, rfl, ho, L0, L1, rfl⟩ := h
  obtain ⟨sk, _⟩ := step_ok ho L0 (by omega) x
  have sp := (sk.pow ho.b2).1
  refine dss_cons (ds_set 3 (de_call (ok_law_step T) (hr.mono (by decide)) (da_cons (de_var 0) (da_cons (de_var 1) (da_cons (de_var 2) da_nil))) ⟨r, L, x, rfl, ho, L0, L1, rfl⟩) ?_ sc_law_marks.nd)
  refine dss_cons (ds_unpack (de_call (ok_law_scaled T) (hr.mono (by decide)) (da_cons (de_var 0) (da_cons (de_var 3) (da_cons (de_var 1) (da_cons (de_var 2) da_nil)))) ⟨r, stepOf r L x, x, x + L, rfl, ho, sk, rfl⟩) (dg_tup (dgs_cons (dg_name 1 sc_law_marks.nd) (dgs_cons (dg_name 2 sc_law_marks.nd) (dgs_cons (dg_name 4 sc_law_marks.nd) dgs_nil))) rfl) ?_)
  refine dss_cons (ds_unpack (de_call (ok_law_places T) (hr.mono (by decide)) (da_cons (de_var 1) (da_cons (de_var 2) (da_cons (de_var 4) da_nil))) ⟨x, x + L, sz r.b (stepOf r L x), rfl, by omega, sk.2.2, rfl⟩) (dg_tup (dgs_cons (dg_name 5 sc_law_marks.nd) (dgs_cons (dg_name 6 sc_law_marks.nd) (dgs_cons (dg_name 7 sc_law_marks.nd) (dgs_cons (dg_name 8 sc_law_marks.nd) dgs_nil)))) rfl) ?_)
  refine dss_cons (ds_if (dt_cmp o_eqS (de_ixT (d := .str r.k) (de_var 0) de_int) de_str) (fun hb => ?_) (fun hb => ?_))
  · refine dss_one (ds_ret (de_tup (da_cons (de_var 5) (da_cons (de_var 8) da_nil))) ?_)
    unfold marks
    rw [if_pos (of_decide_eq_true hb)]
  · refine dss_nil (dss_one (ds_ret (de_tup (da_cons (de_var 6) (da_cons (de_var 7) da_nil))) ?_))
    unfold marks
    rw [if_neg (of_decide_eq_false hb)]
end
end Ax
namespace Ax
open PySem PySem.Spec L2
/-! ### the law's trees -/
inductive LT where
  | every (b : Int)
  | counted (r : Ru) (lo : Int) (hi : Option Int)
  | taken (r : Ru) (m : Int)
  | coarser (r s : Ru) (t1 t2 : Int)
  | touched (r : Ru) (low : Bool)
  | nt (a : LT)
  | two (w : Str) (a b : LT)
def lowS (low : Bool) : Str := if low then "low" else "high"
def LT.dt : LT → D
  | .every b => .tup [.str "every", .int b]
  | .counted r lo hi => .tup [.str "counted", r.lw, .int lo, optD hi]
  | .taken r m => .tup [.str "taken", r.lw, .int m]
  | .coarser r s t1 t2 => .tup [.str "coarser", r.lw, s.lw, .tup [.int t1, .int t2]]
  | .touched r low => .tup [.str "touched", r.lw, .str (lowS low)]
  | .nt a => .tup [.str "not", a.dt]
  | .two w a b => .tup [.str w, a.dt, b.dt]
def LT.tr : LT → Tr
  | .every _ => .every
  | .counted r lo hi => .counted r lo hi
  | .taken r m => .taken r m
  | .coarser r s t1 t2 => .ratio r s t1 t2
  | .touched r low => .touched r low
  | .nt a => .nt a.tr
  | .two w a b => wordTr w a.tr b.tr
def LT.dp : LT → Nat
  | .nt a => a.dp + 1
  | .two _ a b => a.dp + b.dp + 1
  | _ => 0
def LT.Fine (b : Int) : LT → Prop
  | .every b' => b' = b ∧ 2 ≤ b
  | .counted r lo hi => r.Ok ∧ r.b = b ∧ 0 ≤ lo ∧ ∀ j, hi = some j → 0 ≤ j
  | .taken r m => r.Ok ∧ r.b = b ∧ m ∈ r.hs
  | .coarser r s t1 t2 => r.Ok ∧ s.Ok ∧ r.b = b ∧ s.b = b ∧ (1 ≤ t1 ∧ t1 < 1000) ∧ (1 ≤ t2 ∧ t2 < 1000)
  | .touched r _ => r.Ok ∧ r.b = b
  | .nt a => a.Fine b
  | .two w a c => (w = "and" ∨ w = "or" ∨ w = "less" ∨ w = "either") ∧ a.Fine b ∧ c.Fine b
def rLH (b : Int) (t : LT) : List D → D → Prop := fun ds d => ∃ L x : Int, ds = [t.dt, .int x, .int (x + L)] ∧ t.Fine b ∧ 512 ≤ L ∧ L < 2 ^ 145 ∧ -(2 ^ 190) < x ∧ x < 2 ^ 190 ∧ d = .bl (valF t.tr L x)
theorem touch_iff {x n : Int} (hn : 0 < n) : (x / n * n = x) ↔ x / n = up x n := by
  obtain ⟨u1, u2⟩ := up_spec (a := x) hn
  have e1 := Int.mul_ediv_add_emod x n
  have e2 := Int.emod_nonneg x (by omega : n ≠ 0)
  have e3 := Int.emod_lt_of_pos x hn
  constructor
  · intro h
    have h1 : x / n ≤ up x n := by
      refine Classical.byContradiction fun c => ?_
      have : (up x n + 1) * n ≤ x / n * n := Int.mul_le_mul_of_nonneg_right (by omega) (by omega)
      rw [Int.add_mul, Int.one_mul] at this
      omega
    have h2 : up x n ≤ x / n := by
      refine Classical.byContradiction fun c => ?_
      have : x / n * n ≤ (up x n - 1) * n := Int.mul_le_mul_of_nonneg_right (by omega) (by omega)
      omega
    omega
  · intro h
    rw [h]
    rw [← h, Int.mul_comm] at u1
    rw [← h, Int.mul_comm]
    omega
theorem ratio_iff {b h h' t1 t2 : Int} {p q d : Nat} (hb : 2 ≤ b) (hp : d ≤ p) (hq : d ≤ q) : (h' * b ^ (q - d) * t1 < h * b ^ (p - d) * t2) ↔ 0 < sz b (h, p) * t2 - sz b (h', q) * t1 := by
  have c := pow_pos' hb d
  have e1 : sz b (h, p) * t2 = h * b ^ (p - d) * t2 * b ^ d := by
    unfold sz
    show h * b ^ p * t2 = _
    rw [show b ^ p = b ^ (p - d) * b ^ d by rw [← Int.pow_add]; congr 1; omega]
    rw [← Int.mul_assoc h, Int.mul_assoc (h * b ^ (p - d)), Int.mul_comm (b ^ d), ← Int.mul_assoc]
  have e2 : sz b (h', q) * t1 = h' * b ^ (q - d) * t1 * b ^ d := by
    unfold sz
    show h' * b ^ q * t1 = _
    rw [show b ^ q = b ^ (q - d) * b ^ d by rw [← Int.pow_add]; congr 1; omega]
    rw [← Int.mul_assoc h', Int.mul_assoc (h' * b ^ (q - d)), Int.mul_comm (b ^ d), ← Int.mul_assoc]
  rw [e1, e2]
  constructor
  · intro hlt
    have := Int.mul_lt_mul_of_pos_right hlt (by omega : 0 < b ^ d)
    omega
  · intro hlt
    exact Int.lt_of_mul_lt_mul_right (by omega : h' * b ^ (q - d) * t1 * b ^ d < h * b ^ (p - d) * t2 * b ^ d) (by omega)
end Ax
namespace Ax
open PySem PySem.Spec L2
section
variable {P : Program} {w : World} {K : PySem.W.Frag} {mg : Str → Option Value} {base : Heap}
theorem sc_law_atom_holds : FnScope ["_law_tree_here", "_law_low", "_law_high", "_law_rule_here", "_law_first", "_law_last", "_law_step_here", "_law_its", "_law_down", "_law_mine", "_law_other", "_law_size", "_law_end"] ["_law_tree_here", "_law_low", "_law_high"] (defScope s_law_atom_holds) := ⟨rfl, rfl, rfl, by decide +kernel, rfl, by decide +kernel, by decide +kernel⟩
def LT.atom : LT → Bool
  | .nt _ => false
  | .two .. => false
  | _ => true
def rLAH (b : Int) : List D → D → Prop := fun ds d => ∃ t : LT, t.atom = true ∧ rLH b t ds d
theorem ok_law_atom_holds (T : Tp K mg) (b : Int) : FnD P w K mg base 5 "_law_atom_holds" 3 (rLAH b) := by
  obtain ⟨fd, F⟩ := T.d_law_atom_holds
  refine fnD_mk T.g_law_atom_holds F sc_law_atom_holds rfl (F.bindsN fun _ _ _ _ _ _ us hl => match us, hl with | [_, _, _], _ => rfl) fun cdv A outer s H E hr ds d h hl => ?_
  obtain ⟨t, ht, L, x, rfl, hf, L0, L1, x0, x1, rfl⟩ := h
  cases t with
  | nt a => cases ht
  | two w a c => cases ht
  | every b' =>
    refine dss_cons (ds_if (dt_cmp o_eqS (de_ixT (d := .str "every") (de_var 0) de_int) de_str) (fun hb => ?_) (fun hb => ?_))
    · exact dss_one (ds_ret de_bl rfl)
    · exact absurd hb (by decide)
  | counted r lo hi =>
    obtain ⟨ho, hbr, h0, h1⟩ := hf
    refine dss_cons (ds_if (dt_cmp o_eqS (de_ixT (d := .str "counted") (de_var 0) de_int) de_str) (fun hb => absurd hb (by decide)) (fun hb => ?_))
    refine dss_nil (dss_cons (ds_set 3 (de_ixT (d := r.lw) (de_var 0) de_int) ?_ sc_law_atom_holds.nd))
    refine dss_cons (ds_if (dt_cmp o_eqS (de_ixT (d := .str "counted") (de_var 0) de_int) de_str) (fun hb => ?_) (fun hb => absurd hb (by decide)))
    refine dss_cons (ds_unpack (de_call (ok_law_marks T) (hr.mono (by decide)) (da_cons (de_var 3) (da_cons (de_var 1) (da_cons (de_var 2) da_nil))) ⟨r, L, x, rfl, ho, L0, L1, rfl⟩) (dg_tup (dgs_cons (dg_name 4 sc_law_atom_holds.nd) (dgs_cons (dg_name 5 sc_law_atom_holds.nd) dgs_nil)) rfl) ?_)
    cases hi with
    | none =>
      exact dss_one (ds_ret (de_and (k2 := true || true) (de_cmp o_ge (de_op o_add (de_op o_sub (de_var 5) (de_var 4)) de_int) (de_ixT (d := .int lo) (de_var 0) de_int)) fun _ => (de_one (de_or (k1 := true) (de_cmp o_isN (de_ixT (d := .non) (de_var 0) de_int) de_non) fun z => absurd z (by decide)))) rfl)
    | some j =>
      exact dss_one (ds_ret (de_and (de_cmp o_ge (de_op o_add (de_op o_sub (de_var 5) (de_var 4)) de_int) (de_ixT (d := .int lo) (de_var 0) de_int)) fun _ => (de_one (de_or (k1 := false) (de_cmp o_isN (de_ixT (d := .int j) (de_var 0) de_int) de_non) fun _ => (de_one (de_cmp o_le (de_op o_add (de_op o_sub (de_var 5) (de_var 4)) de_int) (de_ixT (d := .int j) (de_var 0) de_int)))))) rfl)
  | taken r m =>
    obtain ⟨ho, hbr, hm⟩ := hf
    refine dss_cons (ds_if (dt_cmp o_eqS (de_ixT (d := .str "taken") (de_var 0) de_int) de_str) (fun hb => absurd hb (by decide)) (fun hb => ?_))
    refine dss_nil (dss_cons (ds_set 3 (de_ixT (d := r.lw) (de_var 0) de_int) ?_ sc_law_atom_holds.nd))
    refine dss_cons (ds_if (dt_cmp o_eqS (de_ixT (d := .str "taken") (de_var 0) de_int) de_str) (fun hb => absurd hb (by decide)) (fun hb => ?_))
    refine dss_nil (dss_cons (ds_set 6 (de_call (ok_law_step T) (hr.mono (by decide)) (da_cons (de_var 3) (da_cons (de_var 1) (da_cons (de_var 2) da_nil))) ⟨r, L, x, rfl, ho, L0, L1, rfl⟩) ?_ sc_law_atom_holds.nd))
    refine dss_cons (ds_if (dt_cmp o_eqS (de_ixT (d := .str "taken") (de_var 0) de_int) de_str) (fun hb => ?_) (fun hb => absurd hb (by decide)))
    exact dss_one (ds_ret (de_cmp o_eq (de_ixT (d := .int (stepOf r L x).1) (de_var 6) de_int) (de_ixT (d := .int m) (de_var 0) de_int)) rfl)
  | coarser r r' t1 t2 =>
    obtain ⟨ho, ho', hbr, hbr', ⟨f1, f2⟩, ⟨f3, f4⟩⟩ := hf
    obtain ⟨sk, st⟩ := step_ok ho L0 (by omega) x
    obtain ⟨sk', st'⟩ := step_ok ho' L0 (by omega) x
    refine dss_cons (ds_if (dt_cmp o_eqS (de_ixT (d := .str "coarser") (de_var 0) de_int) de_str) (fun hb => absurd hb (by decide)) (fun hb => ?_))
    refine dss_nil (dss_cons (ds_set 3 (de_ixT (d := r.lw) (de_var 0) de_int) ?_ sc_law_atom_holds.nd))
    refine dss_cons (ds_if (dt_cmp o_eqS (de_ixT (d := .str "coarser") (de_var 0) de_int) de_str) (fun hb => absurd hb (by decide)) (fun hb => ?_))
    refine dss_nil (dss_cons (ds_set 6 (de_call (ok_law_step T) (hr.mono (by decide)) (da_cons (de_var 3) (da_cons (de_var 1) (da_cons (de_var 2) da_nil))) ⟨r, L, x, rfl, ho, L0, L1, rfl⟩) ?_ sc_law_atom_holds.nd))
    refine dss_cons (ds_if (dt_cmp o_eqS (de_ixT (d := .str "coarser") (de_var 0) de_int) de_str) (fun hb => absurd hb (by decide)) (fun hb => ?_))
    refine dss_nil (dss_cons (ds_if (dt_cmp o_eqS (de_ixT (d := .str "coarser") (de_var 0) de_int) de_str) (fun hb => ?_) (fun hb => absurd hb (by decide))))
    refine dss_cons (ds_set 7 (de_call (ok_law_step T) (hr.mono (by decide)) (da_cons (de_ixT (d := r'.lw) (de_var 0) de_int) (da_cons (de_var 1) (da_cons (de_var 2) da_nil))) ⟨r', L, x, rfl, ho', L0, L1, rfl⟩) ?_ sc_law_atom_holds.nd)
    have ev : valF (LT.coarser r r' t1 t2).tr L x = decide (0 < sz r.b (stepOf r L x) * t2 - sz r'.b (stepOf r' L x) * t1) := rfl
    rw [ev, show r'.b = r.b by rw [hbr, hbr']]
    rw [show r'.b = r.b by rw [hbr, hbr']] at sk'
    generalize stepOf r L x = u at sk st
    generalize stepOf r' L x = v at sk' st'
    obtain ⟨h1, p⟩ := u
    obtain ⟨h2, q⟩ := v
    have b2 := ho.b2
    have b10 := ho.b10
    have p200 := (sk.pow b2).2.2
    have q200 := (sk'.pow b2).2.2
    have s1 := sk.1
    have s2 := sk.2.1
    have s3 := sk'.1
    have s4 := sk'.2.1
    have hd : ∃ dn : Nat, dn ≤ p ∧ dn ≤ q ∧ (if (q : Int) < (p : Int) then (q : Int) else (p : Int)) = (dn : Int) := by
      by_cases c : (q : Int) < (p : Int)
      · exact ⟨q, by omega, by omega, if_pos c⟩
      · exact ⟨p, by omega, by omega, if_neg c⟩
    obtain ⟨dn, d1, d2, d3⟩ := hd
    refine dss_cons (ds_set 8 (de_callB (c_min rfl) T.b_min bt_min (da_cons (de_callTy c_int T.b_int bt_int (da_cons (de_ixT (d := .int (p : Int)) (de_var 6) de_int) da_nil)) (da_cons (de_callTy c_int T.b_int bt_int (da_cons (de_ixT (d := .int (q : Int)) (de_var 7) de_int) da_nil)) da_nil))) ?_ sc_law_atom_holds.nd)
    rw [d3]
    have e1 : (p : Int) - (dn : Int) = ((p - dn : Nat) : Int) := by omega
    have e2 : (q : Int) - (dn : Int) = ((q - dn : Nat) : Int) := by omega
    refine dss_cons (ds_par 9 10 (da_cons (de_o (de_ixT (d := .int h1) (de_var 6) de_int) (de_call (ok_law_times T) (hr.mono (by decide)) (da_cons (de_ixT (d := .int r.b) (de_var 3) de_int) (da_cons (DE.to (de_op o_sub (de_ixT (d := .int (p : Int)) (de_var 6) de_int) (de_var 8)) (by rw [e1])) da_nil)) ⟨r.b, p - dn, rfl, by omega, by omega, by omega, rfl⟩) (o_mulS (.inl ⟨by omega, by omega⟩))) (da_cons (de_o (de_ixT (d := .int h2) (de_var 7) de_int) (de_call (ok_law_times T) (hr.mono (by decide)) (da_cons (de_ixT (d := .int r.b) (de_var 3) de_int) (da_cons (DE.to (de_op o_sub (de_ixT (d := .int (q : Int)) (de_var 7) de_int) (de_var 8)) (by rw [e2])) da_nil)) ⟨r.b, q - dn, rfl, by omega, by omega, by omega, rfl⟩) (o_mulS (.inl ⟨by omega, by omega⟩))) da_nil)) ?_ sc_law_atom_holds.nd rfl)
    refine dss_one (ds_ret (de_cmp o_gt (de_o (de_var 9) (de_ixT (d := .int t2) (de_ixT (d := .tup [.int t1, .int t2]) (de_var 0) de_int) de_int) (o_mulS (.inr ⟨by omega, by omega⟩))) (de_o (de_var 10) (de_ixT (d := .int t1) (de_ixT (d := .tup [.int t1, .int t2]) (de_var 0) de_int) de_int) (o_mulS (.inr ⟨by omega, by omega⟩)))) ?_)
    show D.bl _ = D.bl _
    congr 1
    exact decide_eq_decide.mpr (ratio_iff b2 d1 d2)
  | touched r low =>
    obtain ⟨ho, hbr⟩ := hf
    obtain ⟨sk, st⟩ := step_ok ho L0 (by omega) x
    have np := (sk.pow ho.b2).1
    have n2 := sk.2.2
    refine dss_cons (ds_if (dt_cmp o_eqS (de_ixT (d := .str "touched") (de_var 0) de_int) de_str) (fun hb => absurd hb (by decide)) (fun hb => ?_))
    refine dss_nil (dss_cons (ds_set 3 (de_ixT (d := r.lw) (de_var 0) de_int) ?_ sc_law_atom_holds.nd))
    refine dss_cons (ds_if (dt_cmp o_eqS (de_ixT (d := .str "touched") (de_var 0) de_int) de_str) (fun hb => absurd hb (by decide)) (fun hb => ?_))
    refine dss_nil (dss_cons (ds_set 6 (de_call (ok_law_step T) (hr.mono (by decide)) (da_cons (de_var 3) (da_cons (de_var 1) (da_cons (de_var 2) da_nil))) ⟨r, L, x, rfl, ho, L0, L1, rfl⟩) ?_ sc_law_atom_holds.nd))
    refine dss_cons (ds_if (dt_cmp o_eqS (de_ixT (d := .str "touched") (de_var 0) de_int) de_str) (fun hb => absurd hb (by decide)) (fun hb => ?_))
    refine dss_nil (dss_cons (ds_if (dt_cmp o_eqS (de_ixT (d := .str "touched") (de_var 0) de_int) de_str) (fun hb => absurd hb (by decide)) (fun hb => ?_)))
    refine dss_nil (dss_cons (ds_unpack (de_call (ok_law_scaled T) (hr.mono (by decide)) (da_cons (de_var 3) (da_cons (de_var 6) (da_cons (de_var 1) (da_cons (de_var 2) da_nil)))) ⟨r, stepOf r L x, x, x + L, rfl, ho, sk, rfl⟩) (dg_tup (dgs_cons (dg_name 1 sc_law_atom_holds.nd) (dgs_cons (dg_name 2 sc_law_atom_holds.nd) (dgs_cons (dg_name 11 sc_law_atom_holds.nd) dgs_nil))) rfl) ?_))
    have ev : valF (LT.touched r low).tr L x = if low then decide (x / sz r.b (stepOf r L x) = up x (sz r.b (stepOf r L x))) else decide ((x + L) / sz r.b (stepOf r L x) = up (x + L) (sz r.b (stepOf r L x))) := rfl
    rw [ev]
    generalize sz r.b (stepOf r L x) = n at np n2
    have wm : ∀ e : Int, -(2 ^ 199) < e → e < 2 ^ 199 → CMulW (e / n) n := fun e e1 e2 => wide_mul (a := 201) (b := 201) (by
      have m1 := Int.mul_ediv_add_emod e n
      have m2 := Int.emod_nonneg e (by omega : n ≠ 0)
      have m3 := Int.emod_lt_of_pos e (by omega : 0 < n)
      rcases Int.le_total 0 e with c | c
      · have := Int.ediv_le_self (a := e) n c
        have := Int.ediv_nonneg (a := e) (b := n) c (by omega)
        omega
      · have h1 : e / n ≤ 0 := by
          refine Classical.byContradiction fun z => ?_
          have : n * 1 ≤ n * (e / n) := Int.mul_le_mul_of_nonneg_left (by omega) (by omega)
          omega
        have h2 : n * (e / n) ≤ 1 * (e / n) := Int.mul_le_mul_of_nonpos_right (by omega) h1
        refine Classical.byContradiction fun z => ?_
        have h3 : e / n ≤ e - 1 := by omega
        have h4 : n * (e / n) ≤ n * (e - 1) := Int.mul_le_mul_of_nonneg_left h3 (by omega)
        rw [Int.mul_sub, Int.mul_one] at h4
        have h5 : n * e ≤ 1 * e := Int.mul_le_mul_of_nonpos_right (by omega) c
        omega) (by omega) (by decide) (by decide) (by decide)
    cases low with
    | true =>
      refine dss_cons (ds_set 12 (de_ixL (d := .int x) (de_lst (da_cons (de_var 1) (da_cons (de_var 2) da_nil))) (de_callTy c_intB T.b_int bt_int (da_cons (de_cmp o_eqS (de_ixT (d := .str "low") (de_var 0) de_int) de_str) da_nil)) rfl) ?_ sc_law_atom_holds.nd)
      refine dss_one (ds_ret (de_cmp o_eq (de_o (de_o (de_var 12) (de_var 11) (o_div (divW (by omega) n2))) (de_var 11) (o_mul (wm x (by omega) (by omega)))) (de_var 12)) ?_)
      show D.bl _ = D.bl _
      congr 1
      exact decide_eq_decide.mpr (touch_iff (by omega))
    | false =>
      refine dss_cons (ds_set 12 (de_ixL (d := .int (x + L)) (de_lst (da_cons (de_var 1) (da_cons (de_var 2) da_nil))) (de_callTy c_intB T.b_int bt_int (da_cons (de_cmp o_eqS (de_ixT (d := .str "high") (de_var 0) de_int) de_str) da_nil)) rfl) ?_ sc_law_atom_holds.nd)
      refine dss_one (ds_ret (de_cmp o_eq (de_o (de_o (de_var 12) (de_var 11) (o_div (divW (by omega) n2))) (de_var 11) (o_mul (wm (x + L) (by omega) (by omega)))) (de_var 12)) ?_)
      show D.bl _ = D.bl _
      congr 1
      exact decide_eq_decide.mpr (touch_iff (by omega))
end
end Ax
namespace Ax
open PySem PySem.Spec L2
section
variable {P : Program} {w : World} {K : PySem.W.Frag} {mg : Str → Option Value} {base : Heap}
theorem FnD.mono {k k' : Nat} {x : Str} {n : Nat} {rel : List D → D → Prop} (h : FnD P w K mg base k x n rel) (hk : k ≤ k') : FnD P w K mg base k' x n rel := by
  obtain ⟨f, fd, ps, h1, h2, h3, h4⟩ := h.ex
  exact ⟨f, fd, ps, h1, h2, h3.mono hk, h4⟩
theorem FnD.sub {k : Nat} {x : Str} {n : Nat} {rel : List D → D → Prop} (h : FnD P w K mg base k x n rel) : FnD P w K mg base k x n rel := h
theorem sc_law_holds : FnScope ["_law_tree_here", "_law_low", "_law_high", "_law_one", "_law_other"] ["_law_tree_here", "_law_low", "_law_high"] (defScope s_law_holds) := ⟨rfl, rfl, rfl, by decide +kernel, rfl, by decide +kernel, by decide +kernel⟩
/-- the first item of a law's tree -/
def LT.word : LT → Str
  | .every _ => "every"
  | .counted .. => "counted"
  | .taken .. => "taken"
  | .coarser .. => "coarser"
  | .touched .. => "touched"
  | .nt _ => "not"
  | .two w _ _ => w
theorem LT.first (t : LT) : ∃ ds, t.dt = .tup ds ∧ atI ds 0 = some (.str t.word) := by
  cases t <;> exact ⟨_, rfl, rfl⟩
theorem LT.word1 (t : LT) (ht : t.atom = true) : ¬ t.word = "not" := by
  cases t with
  | nt a => exact nomatch ht
  | two u a c => exact nomatch ht
  | every _ => exact (by decide : ¬ ("every" : Str) = "not")
  | counted _ _ _ => exact (by decide : ¬ ("counted" : Str) = "not")
  | taken _ _ => exact (by decide : ¬ ("taken" : Str) = "not")
  | coarser _ _ _ _ => exact (by decide : ¬ ("coarser" : Str) = "not")
  | touched _ _ => exact (by decide : ¬ ("touched" : Str) = "not")
theorem LT.word2 (t : LT) (ht : t.atom = true) : decide (t.word ∈ [("and" : Str), "or", "less", "either"]) = false := by
  cases t with
  | nt a => exact nomatch ht
  | two u a c => exact nomatch ht
  | every _ => exact (by decide : decide (("every" : Str) ∈ [("and" : Str), "or", "less", "either"]) = false)
  | counted _ _ _ => exact (by decide : decide (("counted" : Str) ∈ [("and" : Str), "or", "less", "either"]) = false)
  | taken _ _ => exact (by decide : decide (("taken" : Str) ∈ [("and" : Str), "or", "less", "either"]) = false)
  | coarser _ _ _ _ => exact (by decide : decide (("coarser" : Str) ∈ [("and" : Str), "or", "less", "either"]) = false)
  | touched _ _ => exact (by decide : decide (("touched" : Str) ∈ [("and" : Str), "or", "less", "either"]) = false)
theorem ok_law_holds (T : Tp K mg) (b : Int) : ∀ t : LT, FnD P w K mg base (6 + t.dp) "_law_holds" 3 (rLH b t) := by
  have atoms : ∀ t : LT, t.atom = true → FnD P w K mg base 6 "_law_holds" 3 (rLH b t) := fun t ht => by
    obtain ⟨fd, F⟩ := T.d_law_holds
    refine fnD_mk T.g_law_holds F sc_law_holds rfl (F.bindsN fun _ _ _ _ _ _ us hl => match us, hl with | [_, _, _], _ => rfl) fun cdv A outer s H E hr ds d h hl => ?_
    obtain ⟨L, x, rfl, hf, L0, L1, x0, x1, rfl⟩ := h
    obtain ⟨dl, e1, e2⟩ := t.first
    have w1 : ¬ t.word = "not" := t.word1 ht
    have w2 : decide (t.word ∈ [("and" : Str), "or", "less", "either"]) = false := t.word2 ht
    refine dss_cons (ds_if (dt_cmp o_eqS (de_ixT (d := .str t.word) (ds := dl) (de_var 0 (by rw [← e1]; rfl)) de_int e2) de_str) (fun hb => absurd (of_decide_eq_true hb) w1) (fun hb => ?_))
    refine dss_nil (dss_cons (ds_if (dt_cmp (o_notInSL (ks := ["and", "or", "less", "either"])) (de_ixT (d := .str t.word) (ds := dl) (de_var 0 (by rw [← e1]; rfl)) de_int e2) (de_lst (da_cons de_str (da_cons de_str (da_cons de_str (da_cons de_str da_nil)))))) (fun hb => ?_) (fun hb => ?_)))
    · exact dss_one (ds_ret (de_call (ok_law_atom_holds T b) (hr.mono (by decide)) (da_cons (de_var 0) (da_cons (de_var 1) (da_cons (de_var 2) da_nil))) ⟨t, ht, L, x, rfl, hf, L0, L1, x0, x1, rfl⟩) rfl)
    · rw [w2] at hb
      exact absurd hb (by decide)
  intro t
  induction t with
  | every b' => exact atoms _ rfl
  | counted r lo hi => exact atoms _ rfl
  | taken r m => exact atoms _ rfl
  | coarser r s t1 t2 => exact atoms _ rfl
  | touched r low => exact atoms _ rfl
  | nt a ih =>
    obtain ⟨fd, F⟩ := T.d_law_holds
    refine fnD_mk (k := 6 + a.dp) T.g_law_holds F sc_law_holds rfl (F.bindsN fun _ _ _ _ _ _ us hl => match us, hl with | [_, _, _], _ => rfl) fun cdv A outer s H E hr ds d h hl => ?_
    obtain ⟨L, x, rfl, hf, L0, L1, x0, x1, rfl⟩ := h
    refine dss_cons (ds_if (dt_cmp o_eqS (de_ixT (d := .str "not") (de_var 0) de_int) de_str) (fun hb => ?_) (fun hb => absurd hb (by decide)))
    exact dss_one (ds_ret (de_not (de_call ih hr (da_cons (de_ixT (d := a.dt) (de_var 0) de_int) (da_cons (de_var 1) (da_cons (de_var 2) da_nil))) ⟨L, x, rfl, hf, L0, L1, x0, x1, rfl⟩)) rfl)
  | two u a c iha ihc =>
    obtain ⟨fd, F⟩ := T.d_law_holds
    refine fnD_mk (k := 6 + (a.dp + c.dp)) T.g_law_holds F sc_law_holds rfl (F.bindsN fun _ _ _ _ _ _ us hl => match us, hl with | [_, _, _], _ => rfl) fun cdv A outer s H E hr ds d h hl => ?_
    obtain ⟨L, x, rfl, hf, L0, L1, x0, x1, rfl⟩ := h
    obtain ⟨hu, hfa, hfc⟩ := hf
    have w1 : ¬ u = "not" := by rcases hu with rfl | rfl | rfl | rfl <;> decide
    have w2 : decide (u ∈ [("and" : Str), "or", "less", "either"]) = true := by simpa using hu
    refine dss_cons (ds_if (dt_cmp o_eqS (de_ixT (d := .str u) (de_var 0) de_int) de_str) (fun hb => absurd (of_decide_eq_true hb) w1) (fun hb => ?_))
    refine dss_nil (dss_cons (ds_if (dt_cmp (o_notInSL (ks := ["and", "or", "less", "either"])) (de_ixT (d := .str u) (de_var 0) de_int) (de_lst (da_cons de_str (da_cons de_str (da_cons de_str (da_cons de_str da_nil)))))) (fun hb => ?_) (fun hb => ?_)))
    · rw [w2] at hb
      exact absurd hb (by decide)
    · refine dss_nil (dss_cons (ds_par 3 4 (da_cons (de_call iha (hr.mono (by omega)) (da_cons (de_ixT (d := a.dt) (de_var 0) de_int) (da_cons (de_var 1) (da_cons (de_var 2) da_nil))) ⟨L, x, rfl, hfa, L0, L1, x0, x1, rfl⟩) (da_cons (de_call ihc (hr.mono (by omega)) (da_cons (de_ixT (d := c.dt) (de_var 0) de_int) (da_cons (de_var 1) (da_cons (de_var 2) da_nil))) ⟨L, x, rfl, hfc, L0, L1, x0, x1, rfl⟩) da_nil)) ?_ sc_law_holds.nd rfl))
      have ev : valF (LT.two u a c).tr L x = if u = "less" then (valF a.tr L x && !valF c.tr L x) else if u = "and" then valF a.tr L x && valF c.tr L x else if u = "or" then valF a.tr L x || valF c.tr L x else !decide (valF a.tr L x = valF c.tr L x) := by
        unfold valF
        show (wordTr u a.tr c.tr).ev _ _ _ = _
        unfold wordTr
        by_cases h : u = "less"
        · rw [if_pos h, if_pos h]; rfl
        · rw [if_neg h, if_neg h]; rfl
      rw [ev]
      refine dss_cons (ds_if (dt_cmp o_eqS (de_ixT (d := .str u) (de_var 0) de_int) de_str) (fun hb => ?_) (fun hb => ?_))
      · obtain rfl := of_decide_eq_true hb
        exact dss_one (ds_ret (de_and (de_var 3) fun _ => (de_one (de_var 4))) rfl)
      · have n1 := of_decide_eq_false hb
        refine dss_nil (dss_cons (ds_if (dt_cmp o_eqS (de_ixT (d := .str u) (de_var 0) de_int) de_str) (fun hb => ?_) (fun hb => ?_)))
        · obtain rfl := of_decide_eq_true hb
          exact dss_one (ds_ret (de_or (de_var 3) fun _ => (de_one (de_var 4))) rfl)
        · have n2 := of_decide_eq_false hb
          refine dss_nil (dss_cons (ds_if (dt_cmp o_eqS (de_ixT (d := .str u) (de_var 0) de_int) de_str) (fun hb => ?_) (fun hb => ?_)))
          · obtain rfl := of_decide_eq_true hb
            exact dss_one (ds_ret (de_and (de_var 3) fun _ => (de_one (de_not (de_var 4)))) rfl)
          · have n3 := of_decide_eq_false hb
            rw [if_neg n3, if_neg n1, if_neg n2]
            exact dss_nil (dss_one (ds_ret (de_cmp o_neB (de_var 3) (de_var 4)) rfl))
theorem sc_law_is_changed : FnScope ["_law_tree_here", "_law_low", "_law_step_here", "_law_length_here"] ["_law_tree_here", "_law_low", "_law_step_here", "_law_length_here"] (defScope s_law_is_changed) := ⟨rfl, rfl, rfl, by decide +kernel, rfl, by decide +kernel, by decide +kernel⟩
def rLChanged (b : Int) (t : LT) : List D → D → Prop := fun ds d => ∃ L x q : Int, ds = [t.dt, .int x, .int q, .int L] ∧ t.Fine b ∧ 512 ≤ L ∧ L < 2 ^ 145 ∧ -(2 ^ 188) < x ∧ x < 2 ^ 188 ∧ -(2 ^ 188) < q ∧ q < 2 ^ 188 ∧ d = .bl (!decide (valF t.tr L x = valF t.tr L (x + q)))
theorem ok_law_is_changed (T : Tp K mg) (b : Int) (t : LT) : FnD P w K mg base (7 + t.dp) "_law_is_changed" 4 (rLChanged b t) := by
  obtain ⟨fd, F⟩ := T.d_law_is_changed
  rw [show 7 + t.dp = (6 + t.dp) + 1 by omega]
  refine fnD_mk T.g_law_is_changed F sc_law_is_changed rfl (F.bindsN fun _ _ _ _ _ _ us hl => match us, hl with | [_, _, _, _], _ => rfl) fun cdv A outer s H E hr ds d h hl => ?_
  obtain ⟨L, x, q, rfl, hf, L0, L1, x0, x1, q0, q1, rfl⟩ := h
  exact dss_one (ds_ret (de_cmp o_neB (de_call (ok_law_holds T b t) hr (da_cons (de_var 0) (da_cons (de_var 1) (da_cons (de_op o_add (de_var 1) (de_var 3)) da_nil))) ⟨L, x, rfl, hf, L0, L1, by omega, by omega, rfl⟩) (de_call (ok_law_holds T b t) hr (da_cons (de_var 0) (da_cons (de_op o_add (de_var 1) (de_var 2)) (da_cons (de_op o_add (de_op o_add (de_var 1) (de_var 2)) (de_var 3)) da_nil))) ⟨L, x + q, rfl, hf, L0, L1, by omega, by omega, rfl⟩)) rfl)
end
end Ax
namespace Ax
open PySem PySem.Spec L2
def inO (r : Ru) : Int := if decide (r.k = "inside") then 1 else 0
def ndL (r : Ru) (L : Int) : List (Int × Nat) → List Int
  | [] => []
  | s :: Z => if L ≤ (r.m + inO r) * sz r.b s then (if sureB r L (sz r.b s) then [sz r.b s] else sz r.b s :: ndL r L Z) else ndL r L Z
theorem nd_cons {r : Ru} {L : Int} {s : Int × Nat} {Z : List (Int × Nat)} : ndL r L (s :: Z) = if L ≤ (r.m + inO r) * sz r.b s then (if sureB r L (sz r.b s) then [sz r.b s] else sz r.b s :: ndL r L Z) else ndL r L Z := rfl
def neededOf (l : RS) (L : Int) : List Int := l.flatMap fun y => ndL y.1 L y.2
def rLNeeded : List D → D → Prop := fun ds d => ∃ (l : RS) (L : Int), ds = [.lst (l.map fun y => y.1.lw), .int L] ∧ (∀ y ∈ l, y.1.Ok ∧ LSz y.1 L y.2 ∧ y.2.length ≤ 1000) ∧ 1 ≤ L ∧ L < 2 ^ 180 ∧ l.length ≤ 10 ∧ d = .lst ((neededOf l L).map .int)
theorem nd_len {r : Ru} {L : Int} : ∀ Z : List (Int × Nat), (ndL r L Z).length ≤ Z.length
  | [] => Nat.le_refl _
  | s :: Z => by
    have := nd_len (r := r) (L := L) Z
    unfold ndL
    split
    · split
      · simp
      · simp; omega
    · simp; omega
section
variable {P : Program} {w : World} {K : PySem.W.Frag} {mg : Str → Option Value} {base : Heap}
theorem sc_law_needed : FnScope ["_law_rules_here", "_law_length_here", "_law_found", "_law_rule_here", "_law_size", "_law_head", "_law_power"] ["_law_rules_here", "_law_length_here"] (defScope s_law_needed) := ⟨rfl, rfl, rfl, by decide +kernel, rfl, by decide +kernel, by decide +kernel⟩
theorem ok_law_needed (T : Tp K mg) : FnD P w K mg base 3 "_law_needed" 2 rLNeeded := by
  obtain ⟨fd, F⟩ := T.d_law_needed
  refine fnD_mk T.g_law_needed F sc_law_needed rfl (F.bindsN fun _ _ _ _ _ _ us hl => match us, hl with | [_, _], _ => rfl) fun cdv A outer s H E hr ds d h hl => ?_
  obtain ⟨l, L, rfl, hall, L0, L1, hlen, rfl⟩ := h
  refine dss_cons (ds_own 2 da_nil ?_ sc_law_needed.nd)
  refine dss_cons (ds_for (di_list (de_var 0)) (fun i G => ∃ u v t z, G = [.d (.lst (l.map fun y => y.1.lw)), .d (.int L), .ol ((neededOf (l.take i) L).map .int), u, v, t, z] ∧ (neededOf (l.take i) L).length ≤ 1000 * i) ⟨.un, .un, .un, .un, rfl, Nat.zero_le _⟩ (fun i x G' hx hG => ?_) (fun G' hG => ?_) rfl)
  · obtain ⟨u, v, t, z, rfl, hn⟩ := hG
    rw [List.getElem?_map] at hx
    cases hy : l[i]? with
    | none => rw [hy] at hx; cases hx
    | some y =>
      rw [hy] at hx
      cases hx
      obtain ⟨ho, hZ, zl⟩ := hall y (List.mem_of_getElem? hy)
      have il := (List.getElem?_eq_some_iff.mp hy).1
      have m1 := ho.m1
      have m6 := ho.m6
      have nl := nd_len (r := y.1) (L := L) y.2
      have nf : neededOf (l.take (i + 1)) L = neededOf (l.take i) L ++ ndL y.1 L y.2 := flat_take hy
      generalize neededOf (l.take i) L = acc at hn nf
      have io : 0 ≤ inO y.1 ∧ inO y.1 ≤ 1 := by unfold inO; split <;> omega
      refine ⟨_, _, dg_name 3 sc_law_needed.nd, ?_⟩
      refine dss_one (ds_for (di_list (de_call (ok_law_sizes T) (hr.mono (by decide)) (da_cons (de_var 3) (da_cons (de_var 1) da_nil)) ⟨y.1, L, y.2, rfl, ho, L0, L1, hZ, rfl⟩)) (fun j G => ∃ acc' v t z, G = [.d (.lst (l.map fun y => y.1.lw)), .d (.int L), .ol ((acc ++ acc').map .int), .d y.1.lw, v, t, z] ∧ acc' ++ ndL y.1 L (y.2.drop j) = ndL y.1 L y.2) ⟨[], v, t, z, by rw [List.append_nil]; rfl, rfl⟩ (fun j x G' hx hG => ?_) (fun G' hG => ?_) rfl)
      · obtain ⟨acc', v, t, z, rfl, e⟩ := hG
        rw [List.getElem?_map] at hx
        cases hz : y.2[j]? with
        | none => rw [hz] at hx; cases hx
        | some q =>
          rw [hz] at hx
          cases hx
          have dr : y.2.drop j = q :: y.2.drop (j + 1) := by
            obtain ⟨hj, hq⟩ := List.getElem?_eq_some_iff.mp hz
            rw [List.drop_eq_getElem_cons hj, hq]
          have al : acc'.length ≤ 1000 := by
            have := congrArg List.length e
            rw [List.length_append] at this
            omega
          rw [dr, nd_cons] at e
          refine ⟨_, _, dg_tup (dgs_cons (dg_name 4 sc_law_needed.nd) (dgs_cons (dg_name 5 sc_law_needed.nd) (dgs_cons (dg_name 6 sc_law_needed.nd) dgs_nil))) rfl, ?_⟩
          refine dss_one (ds_if (bb := decide (L ≤ (y.1.m + inO y.1) * sz y.1.b q)) (dt_cmp o_ge (de_o (de_op o_add (de_ixT (d := .int y.1.m) (de_var 3) de_int) (DE.to (d' := .int (inO y.1)) (de_callTy c_intB T.b_int bt_int (da_cons (de_cmp o_eqS (de_ixT (d := .str y.1.k) (de_var 3) de_int) de_str) da_nil)) rfl)) (de_var 4) (o_mulS (.inl ⟨by omega, by omega⟩))) (de_var 1)) (fun hb => ?_) (fun hb => ?_))
          · rw [if_pos (of_decide_eq_true hb)] at e
            refine dss_cons (ds_app 2 (xs := (acc ++ acc').map .int) (de_var 4) rfl rfl (by rw [List.length_map, List.length_append]; omega) ?_)
            refine dss_one (ds_if (dt_val (de_call (ok_law_is_sure T) (hr.mono (by decide)) (da_cons (de_var 3) (da_cons (de_var 4) (da_cons (de_var 1) da_nil))) ⟨y.1, sz y.1.b q, L, rfl, ho, rfl⟩)) (fun hb2 => ?_) (fun hb2 => ?_))
            · rw [if_pos hb2] at e
              refine dss_one (ds_brk ⟨.d y.1.lw, .d (.int (sz y.1.b q)), .d (.int q.1), .d (.int (q.2 : Int)), ?_, ?_⟩)
              · rw [nf, ← e, ← List.append_assoc, List.map_append (l₁ := acc ++ acc')]
                rfl
              · rw [nf, List.length_append]
                omega
            · rw [if_neg (by rw [hb2]; decide)] at e
              refine dss_nil ⟨acc' ++ [sz y.1.b q], .d (.int (sz y.1.b q)), .d (.int q.1), .d (.int (q.2 : Int)), ?_, ?_⟩
              · rw [← List.append_assoc, List.map_append (l₁ := acc ++ acc')]
                rfl
              · rw [← e, List.append_assoc]
                rfl
          · rw [if_neg (of_decide_eq_false hb)] at e
            exact dss_nil ⟨acc', _, _, _, rfl, e⟩
      · obtain ⟨acc', v, t, z, rfl, e⟩ := hG
        rw [List.length_map, List.drop_length] at e
        have e : acc' = ndL y.1 L y.2 := by rw [← e, show ndL y.1 L [] = [] from rfl, List.append_nil]
        subst e
        refine ⟨.d y.1.lw, v, t, z, by rw [nf], ?_⟩
        rw [nf, List.length_append]
        omega
  · obtain ⟨u, v, t, z, rfl, hn⟩ := hG
    rw [List.length_map, List.take_length]
    exact dss_frz 2 rfl (dss_one (ds_ret (de_var 2) rfl))
end
end Ax
namespace Ax
open PySem PySem.Spec L2
/-! ### the law's starts -/
def elF (sh st : Int) : List Int := [st, st + 1, st + sh, st + sh + 1]
def turnsOf (W n : Int) : Nat := ((W - 0 - 1) / n + 1).toNat
def rLStarts : List D → D → Prop := fun ds d => ∃ (l : RS) (L M : Int), ds = [.lst (l.map fun y => y.1.lw), .int L] ∧ (∀ y ∈ l, y.1.Ok ∧ LSz y.1 L y.2 ∧ y.2.length ≤ 1000) ∧ 1 ≤ L ∧ L < 2 ^ 180 ∧ l.length ≤ 10 ∧
  (∀ n ∈ neededOf l L, 0 < n ∧ n < 2 ^ 190 ∧ n ∣ M) ∧ 0 < M ∧ M < 2 ^ 900 ∧ (neededOf l L).length ≤ 90 ∧ (∀ n ∈ neededOf l L, lcmL (neededOf l L) / n ≤ 2100) ∧ lcmL (neededOf l L) < 2 ^ 187 ∧
  d = .tup [.int (lcmL (neededOf l L)), .lst ((startsOf (neededOf l L) L (lcmL (neededOf l L))).map .int)]
/-- what the law's edges of a size are -/
theorem law_edge {n W L e : Int} (hn : 0 < n) (hW : 0 < W) (hd : n ∣ W) : (∃ j : Nat, j < turnsOf W n ∧ e ∈ (elF ((0 - L) % n) (0 + (j : Int) * n)).map (· % W)) ↔ 0 ≤ e ∧ e < W ∧ Edge L n e := by
  obtain ⟨k, hk⟩ := hd
  have k0 : 0 < k := by
    refine Classical.byContradiction fun c => ?_
    have : n * k ≤ n * 0 := Int.mul_le_mul_of_nonneg_left (by omega) (by omega)
    omega
  have cnt : turnsOf W n = k.toNat := by
    unfold turnsOf
    have h1 : (W - 0 - 1) / n = k - 1 := by
      have e1 : W - 0 - 1 = (n - 1) + n * (k - 1) := by rw [hk, Int.mul_sub, Int.mul_one]; omega
      rw [e1, Int.add_mul_ediv_left _ _ (by omega), Int.ediv_eq_zero_of_lt (by omega) (by omega)]
      omega
    rw [h1]
    omega
  have s1 := Int.mul_ediv_add_emod (0 - L) n
  -- a shift c by which n divides e - c
  have key : ∀ c : Int, n ∣ e - c → 0 ≤ e → e < W → ∃ j : Nat, j < turnsOf W n ∧ e = (0 + (j : Int) * n + c) % W := by
    intro c ⟨q, hq⟩ h0 h1
    have m0 := Int.emod_nonneg q (by omega : k ≠ 0)
    have m1 := Int.emod_lt_of_pos q k0
    have m2 := Int.mul_ediv_add_emod q k
    refine ⟨(q % k).toNat, by rw [cnt]; omega, ?_⟩
    have e1 : (0 + ((q % k).toNat : Int) * n + c) = e + W * (-(q / k)) := by
      rw [show (((q % k).toNat : Nat) : Int) = q % k by omega]
      have : n * q = n * (k * (q / k)) + n * (q % k) := by rw [← Int.mul_add, m2]
      rw [← Int.mul_assoc, ← hk] at this
      rw [Int.mul_neg, Int.mul_comm (q % k)]
      omega
    rw [e1, Int.add_mul_emod_self_left, Int.emod_eq_of_lt h0 h1]
  have back : ∀ (j : Nat) (c : Int), n ∣ (0 + (j : Int) * n + c) % W - c := fun j c => by
    have e1 := Int.mul_ediv_add_emod (0 + (j : Int) * n + c) W
    refine ⟨(j : Int) - k * ((0 + (j : Int) * n + c) / W), ?_⟩
    rw [Int.mul_sub, ← Int.mul_assoc, ← hk, Int.mul_comm n]
    omega
  have dvL : ∀ y : Int, n ∣ y - (0 - L) % n ↔ n ∣ y + L := fun y => by
    have : y + L = (y - (0 - L) % n) + n * (-((0 - L) / n)) := by rw [Int.mul_neg]; omega
    rw [this]
    exact (Int.dvd_add_left (Int.dvd_mul_right _ _)).symm
  constructor
  · rintro ⟨j, hj, he⟩
    obtain ⟨y, hy, rfl⟩ := List.mem_map.mp he
    refine ⟨Int.emod_nonneg _ (by omega), Int.emod_lt_of_pos _ hW, ?_⟩
    unfold elF at hy
    simp only [List.mem_cons, List.not_mem_nil, or_false] at hy
    rcases hy with rfl | rfl | rfl | rfl
    · have := back j 0
      rw [Int.add_zero, Int.sub_zero] at this
      exact .inl this
    · exact .inr (.inl (back j 1))
    · exact .inr (.inr (.inl ((dvL _).mp (back j _))))
    · refine .inr (.inr (.inr ?_))
      have := back j ((0 - L) % n + 1)
      rw [← Int.add_assoc] at this
      have h2 := (dvL ((0 + (j : Int) * n + (0 - L) % n + 1) % W - 1)).mp (by rw [show (0 + (j : Int) * n + (0 - L) % n + 1) % W - 1 - (0 - L) % n = (0 + (j : Int) * n + (0 - L) % n + 1) % W - ((0 - L) % n + 1) by omega]; exact this)
      rw [show (0 + (j : Int) * n + (0 - L) % n + 1) % W + L - 1 = (0 + (j : Int) * n + (0 - L) % n + 1) % W - 1 + L by omega]
      exact h2
  · rintro ⟨h0, h1, h⟩
    rcases h with h | h | h | h
    · obtain ⟨j, hj, e1⟩ := key 0 (by rw [Int.sub_zero]; exact h) h0 h1
      rw [Int.add_zero] at e1
      exact ⟨j, hj, List.mem_map.mpr ⟨_, by simp [elF], e1.symm⟩⟩
    · obtain ⟨j, hj, e1⟩ := key 1 h h0 h1
      exact ⟨j, hj, List.mem_map.mpr ⟨0 + (j : Int) * n + 1, by simp [elF], e1.symm⟩⟩
    · obtain ⟨j, hj, e1⟩ := key ((0 - L) % n) ((dvL e).mpr h) h0 h1
      exact ⟨j, hj, List.mem_map.mpr ⟨0 + (j : Int) * n + (0 - L) % n, by simp [elF], e1.symm⟩⟩
    · obtain ⟨j, hj, e1⟩ := key ((0 - L) % n + 1) (by
        rw [show e - ((0 - L) % n + 1) = e - 1 - (0 - L) % n by omega]
        exact (dvL (e - 1)).mpr (by rw [show e - 1 + L = e + L - 1 by omega]; exact h)) h0 h1
      rw [← Int.add_assoc] at e1
      exact ⟨j, hj, List.mem_map.mpr ⟨0 + (j : Int) * n + (0 - L) % n + 1, by simp [elF], e1.symm⟩⟩
end Ax
namespace Ax
open PySem PySem.Spec L2
section
variable {P : Program} {w : World} {K : PySem.W.Frag} {mg : Str → Option Value} {base : Heap}
theorem sc_law_starts : FnScope ["_law_rules_here", "_law_length_here", "_law_sizes_here", "_law_found", "_law_whole", "_law_size", "_law_shift", "_law_start", "_law_edge"] ["_law_rules_here", "_law_length_here"] (defScope s_law_starts) := ⟨rfl, rfl, rfl, by decide +kernel, rfl, by decide +kernel, by decide +kernel⟩
theorem ok_law_starts (T : Tp K mg) : FnD P w K mg base 4 "_law_starts" 2 rLStarts := by
  obtain ⟨fd, F⟩ := T.d_law_starts
  refine fnD_mk T.g_law_starts F sc_law_starts rfl (F.bindsN fun _ _ _ _ _ _ us hl => match us, hl with | [_, _], _ => rfl) fun cdv A outer s H E hr ds d h hl => ?_
  obtain ⟨l, L, M, rfl, hall, L0, L1, hlen, hdv, M0, M1, few, near, pp, rfl⟩ := h
  refine dss_cons (ds_parD 2 3 (de_call (ok_law_needed T) (hr.mono (by decide)) (da_cons (de_var 0) (da_cons (de_var 1) da_nil)) ⟨l, L, rfl, hall, L0, L1, hlen, rfl⟩) ?_ sc_law_starts.nd rfl)
  obtain ⟨W0, _, nd⟩ := lcmL_fact (neededOf l L) fun n hn => ⟨(hdv n hn).1, (hdv n hn).2.2⟩
  generalize hns : neededOf l L = ns at hdv few near pp W0 nd
  refine dss_cons (ds_set 4 (de_call (ok_law_common T) (hr.mono (by decide)) (da_cons (de_var 2) da_nil) ⟨ns, M, rfl, fun n hn => ⟨(hdv n hn).1, (hdv n hn).2.2⟩, M0, M1, rfl⟩) ?_ sc_law_starts.nd)
  generalize hW : lcmL ns = W at near pp W0 nd
  have turns : ∀ n ∈ ns, turnsOf W n ≤ 2101 ∧ Builtin.Range.rangeSize 0 W n = (turnsOf W n : Nat) := fun n hn => by
    have n0 := (hdv n hn).1
    have h1 := near n hn
    have h2 : (W - 0 - 1) / n ≤ W / n := Int.ediv_le_ediv n0 (by omega)
    have h3 : 0 ≤ (W - 0 - 1) / n := Int.ediv_nonneg (by omega) (by omega)
    refine ⟨by unfold turnsOf; omega, ?_⟩
    unfold Builtin.Range.rangeSize turnsOf
    rw [if_pos n0, if_pos W0]
    omega
  refine dss_cons (ds_for (di_list (de_var 2)) (fun i G => ∃ (ks : List Int) (u v t z : Sl), G = [.d (.lst (l.map fun y => y.1.lw)), .d (.int L), .d (.lst (ns.map .int)), .od ks, .d (.int W), u, v, t, z] ∧ ks.Nodup ∧ (∀ e, e ∈ ks ↔ e = 0 ∨ ∃ n ∈ ns.take i, ∃ j : Nat, j < turnsOf W n ∧ e ∈ (elF ((0 - L) % n) (0 + (j : Int) * n)).map (· % W)) ∧ ks.length ≤ 1 + 8404 * i) ⟨[0], .un, .un, .un, .un, rfl, by simp, fun e => by simp, Nat.le_refl _⟩ (fun i x G' hx hG => ?_) (fun G' hG => ?_) rfl)
  · obtain ⟨ks, u, v, t, z, rfl, k1, k2, k3⟩ := hG
    rw [List.getElem?_map] at hx
    cases hy : ns[i]? with
    | none => rw [hy] at hx; cases hx
    | some n =>
      rw [hy] at hx
      cases hx
      have hn := List.mem_of_getElem? hy
      have il := (List.getElem?_eq_some_iff.mp hy).1
      obtain ⟨n0, n1, _⟩ := hdv n hn
      obtain ⟨t1, t2⟩ := turns n hn
      have tk : ns.take (i + 1) = ns.take i ++ [n] := by rw [List.take_succ, hy]; rfl
      refine ⟨_, _, dg_name 5 sc_law_starts.nd, ?_⟩
      refine dss_cons (ds_set 6 (de_o (de_callTy c_int T.b_int bt_int (da_cons (de_op o_sub de_int (de_var 1)) da_nil)) (de_var 5) (o_mod n0)) ?_ sc_law_starts.nd)
      refine dss_one (ds_for (di_rangeL (da_cons de_int (da_cons (de_var 4) (da_cons (de_var 5) da_nil))) T.b_range n0 (by omega) t2) (fun j G => ∃ (ks' : List Int) (t z : Sl), G = [.d (.lst (l.map fun y => y.1.lw)), .d (.int L), .d (.lst (ns.map .int)), .od ks', .d (.int W), .d (.int n), .d (.int ((0 - L) % n)), t, z] ∧ ks'.Nodup ∧ (∀ e, e ∈ ks' ↔ e ∈ ks ∨ ∃ j' : Nat, j' < j ∧ e ∈ (elF ((0 - L) % n) (0 + (j' : Int) * n)).map (· % W)) ∧ ks'.length ≤ 1 + 8404 * i + 4 * j) ⟨ks, t, z, rfl, k1, fun e => by simp, k3⟩ (fun j x G' hx hG => ?_) (fun G' hG => ?_) rfl)
      · obtain ⟨ks', t, z, rfl, c1, c2, c3⟩ := hG
        obtain ⟨hj, rfl⟩ := rngD_get hx
        generalize hst : 0 + (j : Int) * n = st
        refine ⟨_, _, dg_name 7 sc_law_starts.nd, ?_⟩
        refine dss_one (ds_for (ds := (elF ((0 - L) % n) st).map .int) (DI.to (di_list (de_lst (da_cons (de_var 7) (da_cons (de_op o_add (de_var 7) de_int) (da_cons (de_op o_add (de_var 7) (de_var 6)) (da_cons (de_op o_add (de_op o_add (de_var 7) (de_var 6)) de_int) da_nil)))))) rfl) (fun k G => ∃ (ks'' : List Int) (z : Sl), G = [.d (.lst (l.map fun y => y.1.lw)), .d (.int L), .d (.lst (ns.map .int)), .od ks'', .d (.int W), .d (.int n), .d (.int ((0 - L) % n)), .d (.int st), z] ∧ ks'' = (((elF ((0 - L) % n) st).map (· % W)).take k).foldl insK ks' ∧ ks''.length ≤ 1 + 8404 * i + 4 * j + k) ⟨ks', z, rfl, rfl, c3⟩ (fun k x G' hx hG => ?_) (fun G' hG => ?_) rfl)
        · obtain ⟨ks'', z, rfl, e1, e2⟩ := hG
          rw [List.getElem?_map] at hx
          cases hq : (elF ((0 - L) % n) st)[k]? with
          | none => rw [hq] at hx; cases hx
          | some q =>
            rw [hq] at hx
            cases hx
            have kl : k < 4 := (List.getElem?_eq_some_iff.mp hq).1
            refine ⟨_, _, dg_name 8 sc_law_starts.nd, ?_⟩
            refine dss_one (ds_put 3 (ks := ks'') de_bl (de_o (de_callTy c_int T.b_int bt_int (da_cons (de_var 8) da_nil)) (de_var 4) (o_mod W0)) (by have := hr.units; omega) (by omega) ⟨insK ks'' (q % W), .d (.int q), rfl, ?_, by have := insK_len ks'' (q % W); omega⟩)
            rw [fold_take (x := q % W) (by rw [List.getElem?_map, hq]; rfl), e1]
        · obtain ⟨ks'', z, rfl, e1, e2⟩ := hG
          rw [List.length_map] at e1 e2
          have l4 : (elF ((0 - L) % n) st).length = 4 := rfl
          rw [show (elF ((0 - L) % n) st).length = ((elF ((0 - L) % n) st).map (· % W)).length by rw [List.length_map], List.take_length] at e1
          refine ⟨ks'', _, _, rfl, by rw [e1]; exact foldl_insK_nodup _ _ c1, fun e => ?_, by omega⟩
          rw [e1, foldl_insK_mem, c2]
          constructor
          · rintro ((h | ⟨j', h1, h2⟩) | h)
            · exact .inl h
            · exact .inr ⟨j', by omega, h2⟩
            · exact .inr ⟨j, by omega, by rw [hst]; exact h⟩
          · rintro (h | ⟨j', h1, h2⟩)
            · exact .inl (.inl h)
            · by_cases c : j' = j
              · subst c
                rw [hst] at h2
                exact .inr h2
              · exact .inl (.inr ⟨j', by omega, h2⟩)
      · obtain ⟨ks', t, z, rfl, c1, c2, c3⟩ := hG
        rw [rngD_len] at c2 c3
        refine ⟨ks', _, _, _, _, rfl, c1, fun e => ?_, by omega⟩
        rw [c2, k2, tk]
        constructor
        · rintro ((h | ⟨m, hm, h⟩) | h)
          · exact .inl h
          · exact .inr ⟨m, List.mem_append_left _ hm, h⟩
          · exact .inr ⟨n, List.mem_append_right _ (by simp), h⟩
        · rintro (h | ⟨m, hm, h⟩)
          · exact .inl (.inl h)
          · rcases List.mem_append.mp hm with hm | hm
            · exact .inl (.inr ⟨m, hm, h⟩)
            · rw [List.mem_singleton.mp hm] at h
              exact .inr h
  · obtain ⟨ks, u, v, t, z, rfl, k1, k2, k3⟩ := hG
    rw [List.length_map] at k2 k3
    rw [List.take_length] at k2
    refine dss_un 7 ?_
    have mem : ∀ e, e ∈ ks ↔ e ∈ startsOf ns L W := fun e => by
      unfold startsOf
      rw [k2, mem_ups]
      constructor
      · rintro (rfl | ⟨n, hn, h⟩)
        · exact ⟨Int.le_refl _, W0, .inl rfl⟩
        · obtain ⟨a, b, c⟩ := (law_edge (hdv n hn).1 W0 (nd n hn)).mp h
          exact ⟨a, b, .inr ⟨n, hn, c⟩⟩
      · rintro ⟨a, b, rfl | ⟨n, hn, c⟩⟩
        · exact .inl rfl
        · exact .inr ⟨n, hn, (law_edge (hdv n hn).1 W0 (nd n hn)).mpr ⟨a, b, c⟩⟩
    exact dss_one (ds_ret (de_tup (da_cons (de_var 4) (da_cons (de_callB (c_sorted (ns := ks) (startsOf ns L W) fun ns' hp h1 => asc_of hp h1 k1 ups_asc mem) T.b_sorted bt_sorted (da_cons (DE.to (de_lcD 3 (ks := ks) [("_law_start", 7)] (fun _ => true) (fun d => d) (freeC free0) (by omega) (fun k hk => ⟨_, _, bkAll fun _ _ _ _ _ => (dg_name 7 sc_law_starts.nd), by decide, rfl, bkAll fun _ _ _ _ _ => dts_nil, fun _ => bkAll fun _ _ _ _ _ => (de_callTy c_int T.b_int bt_int (da_cons (de_var 7) da_nil))⟩) (blk_at ["_law_rules_here", "_law_length_here", "_law_sizes_here", "_law_found", "_law_whole", "_law_size", "_law_shift", "_law_start", "_law_edge"] (defScope s_law_starts)) sc_law_starts.nd rfl) (by rw [filter_true, List.map_id'])) da_nil)) da_nil))) rfl)
end
end Ax
namespace Ax
open PySem PySem.Spec L2
/-! ### plain: what a tree says is the same where the multiples lie the same -/
def Sh (L n x y : Int) : Prop := ∃ k : Int, y / n = x / n + k ∧ up y n = up x n + k ∧ (y + L) / n = (x + L) / n + k ∧ up (y + L) n = up (x + L) n + k
section
variable {r : Ru} {L x y n : Int} {s : Int × Nat} {S : List (Int × Nat)}
theorem Sh.fit (h : Sh L n x y) : fitB r n x (x + L) = fitB r n y (y + L) := by
  obtain ⟨k, h1, h2, h3, h4⟩ := h
  unfold fitB
  rw [h1, h2, h3, h4]
  have e1 : (x + L) / n + k - (up x n + k) + 1 = (x + L) / n - up x n + 1 := by omega
  have e2 : up (x + L) n + k - (x / n + k) = up (x + L) n - x / n := by omega
  have e3 : y + L - y = x + L - x := by omega
  rw [e1, e2, e3]
theorem Sh.marks (h : Sh L n x y) : (marks r n x (x + L)).2 - (marks r n x (x + L)).1 = (marks r n y (y + L)).2 - (marks r n y (y + L)).1 := by
  obtain ⟨k, h1, h2, h3, h4⟩ := h
  unfold Ax.marks
  split
  · show up (x + L) n - x / n = up (y + L) n - y / n
    omega
  · show (x + L) / n - up x n = (y + L) / n - up y n
    omega
theorem step_same (hS : Stp r L S) (h : ∀ t ∈ S, fitB r (sz r.b t) x (x + L) = fitB r (sz r.b t) y (y + L)) : stepOf r L x = stepOf r L y := by
  have ho := hS.ok
  obtain ⟨st, stS, _⟩ := hS.first x
  have is := (hS.mem _).mp stS
  refine (IsStep.eq ho ⟨st.hd, by rw [← h _ stS]; exact st.fit, fun t ht hlt => Bool.not_eq_true _ ▸ fun z => ?_⟩).symm
  have tp := (sz_pos (s := t) ho.b2 (ho.h1 _ ht).1).1
  have tS : t ∈ S := (hS.mem t).mpr ⟨ht, fit_may ho (by omega) z, fun u hu hut => is.2.2 u hu (by omega)⟩
  rw [← h t tS, st.no t ht hlt] at z
  cases z
theorem val_same : ∀ t : Tr, (∀ r ∈ t.rules, stepOf r L x = stepOf r L y ∧ Sh L (sz r.b (stepOf r L x)) x y) → valF t L x = valF t L y
  | .every, _ => rfl
  | .counted r lo hi, h => by
    obtain ⟨e, q⟩ := h r (by simp [Tr.rules])
    have m := q.marks (r := r)
    rw [e] at m
    show (decide (lo ≤ (marks r (sz r.b (stepOf r L x)) x (x + L)).2 - (marks r (sz r.b (stepOf r L x)) x (x + L)).1 + 1) && leO ((marks r (sz r.b (stepOf r L x)) x (x + L)).2 - (marks r (sz r.b (stepOf r L x)) x (x + L)).1 + 1) hi) = (decide (lo ≤ (marks r (sz r.b (stepOf r L y)) y (y + L)).2 - (marks r (sz r.b (stepOf r L y)) y (y + L)).1 + 1) && leO ((marks r (sz r.b (stepOf r L y)) y (y + L)).2 - (marks r (sz r.b (stepOf r L y)) y (y + L)).1 + 1) hi)
    rw [e, m]
  | .taken r m, h => by
    obtain ⟨e, q⟩ := h r (by simp [Tr.rules])
    show decide ((stepOf r L x).1 = m) = decide ((stepOf r L y).1 = m)
    rw [e]
  | .ratio r r' t1 t2, h => by
    obtain ⟨e, _⟩ := h r (by simp [Tr.rules])
    obtain ⟨e', _⟩ := h r' (by simp [Tr.rules])
    show decide (0 < sz r.b (stepOf r L x) * t2 - sz r'.b (stepOf r' L x) * t1) = decide (0 < sz r.b (stepOf r L y) * t2 - sz r'.b (stepOf r' L y) * t1)
    rw [e, e']
  | .touched r low, h => by
    obtain ⟨e, q⟩ := h r (by simp [Tr.rules])
    show (if low then decide (x / sz r.b (stepOf r L x) = up x (sz r.b (stepOf r L x))) else decide ((x + L) / sz r.b (stepOf r L x) = up (x + L) (sz r.b (stepOf r L x)))) = (if low then decide (y / sz r.b (stepOf r L y) = up y (sz r.b (stepOf r L y))) else decide ((y + L) / sz r.b (stepOf r L y) = up (y + L) (sz r.b (stepOf r L y))))
    rw [← e]
    obtain ⟨k, h1, h2, h3, h4⟩ := q
    rw [h1, h2, h3, h4]
    split
    · exact decide_eq_decide.mpr ⟨fun z => by omega, fun z => by omega⟩
    · exact decide_eq_decide.mpr ⟨fun z => by omega, fun z => by omega⟩
  | .joined u a b, h => by
    have ha := val_same a fun r hr => h r (List.mem_append_left _ hr)
    have hb := val_same b fun r hr => h r (List.mem_append_right _ hr)
    show (if u = "and" then valF a L x && valF b L x else if u = "or" then valF a L x || valF b L x else !decide (valF a L x = valF b L x)) = (if u = "and" then valF a L y && valF b L y else if u = "or" then valF a L y || valF b L y else !decide (valF a L y = valF b L y))
    rw [ha, hb]
  | .nt a, h => by
    have ha := val_same a h
    show (!valF a L x) = (!valF a L y)
    rw [ha]
/-- by whole multiples -/
theorem sh_mul {e : Int} (hn : 0 < n) (he : n ∣ e) : Sh L n x (x + e) := by
  obtain ⟨k, rfl⟩ := he
  have d : ∀ a : Int, (a + n * k) / n = a / n + k := fun a => Int.add_mul_ediv_left _ _ (by omega)
  have u : ∀ a : Int, up (a + n * k) n = up a n + k := fun a => by
    unfold up
    rw [show 0 - (a + n * k) = (0 - a) + n * (-k) by rw [Int.mul_neg]; omega, Int.add_mul_ediv_left _ _ (by omega)]
    omega
  refine ⟨k, d x, u x, ?_, ?_⟩
  · rw [show x + n * k + L = x + L + n * k by omega]; exact d _
  · rw [show x + n * k + L = x + L + n * k by omega]; exact u _
/-- off the edges -/
theorem sh_edge (hn : 0 < n) (he : ¬ Edge L n x) : Sh L n (x - 1) x := by
  have d : ∀ a : Int, ¬ n ∣ a → a / n = (a - 1) / n := fun a ha => by
    have e1 := Int.mul_ediv_add_emod a n
    have e2 := Int.emod_nonneg a (by omega : n ≠ 0)
    have e3 := Int.emod_lt_of_pos a hn
    have e4 : a % n ≠ 0 := fun z => ha (Int.dvd_of_emod_eq_zero z)
    have : a - 1 = (a % n - 1) + n * (a / n) := by omega
    have z : (a % n - 1) / n = 0 := Int.ediv_eq_zero_of_lt (by omega) (by omega)
    rw [this, Int.add_mul_ediv_left _ _ (by omega), z]
    omega
  have u : ∀ a : Int, ¬ n ∣ a - 1 → up a n = up (a - 1) n := fun a ha => by
    unfold up
    have h1 : ¬ n ∣ 0 - (a - 1) := fun z => ha (by
      rw [show 0 - (a - 1) = -(a - 1) by omega] at z
      exact Int.dvd_neg.mp z)
    have h2 := d (0 - (a - 1)) h1
    rw [show 0 - (a - 1) - 1 = 0 - a by omega] at h2
    rw [h2]
  have e1 : ¬ n ∣ x := fun z => he (.inl z)
  have e2 : ¬ n ∣ x - 1 := fun z => he (.inr (.inl z))
  have e3 : ¬ n ∣ x + L := fun z => he (.inr (.inr (.inl z)))
  have e4 : ¬ n ∣ x + L - 1 := fun z => he (.inr (.inr (.inr z)))
  refine ⟨0, by rw [Int.add_zero]; exact d x e1, by rw [Int.add_zero]; exact u x e2, ?_, ?_⟩
  · rw [Int.add_zero, show x - 1 + L = x + L - 1 by omega]; exact d _ e3
  · rw [Int.add_zero, show x - 1 + L = x + L - 1 by omega]; exact u _ e4
end
/-- a tree over rules whose steps are known: where all sizes say the same, it says the same -/
theorem val_of {t : Tr} {L x y : Int} {l : RS} (hst : ∀ z ∈ l, Stp z.1 L z.2) (hc : ∀ r ∈ t.rules, ∃ z ∈ l, z.1 = r) (h : ∀ n ∈ sizesOf l, Sh L n x y) : valF t L x = valF t L y := by
  refine val_same t fun r hr => ?_
  obtain ⟨z, hz, rfl⟩ := hc r hr
  have stp := hst z hz
  refine ⟨step_same stp fun u hu => (h _ (mem_sizesOf.mpr ⟨z, hz, u, hu, rfl⟩)).fit, ?_⟩
  obtain ⟨_, f2, _⟩ := stp.first x
  exact h _ (mem_sizesOf.mpr ⟨z, hz, _, f2, rfl⟩)
theorem good_of {t : Tr} {L : Int} {l : RS} (sm : Small l L) (hc : ∀ r ∈ t.rules, ∃ z ∈ l, z.1 = r) : Good t L l := by
  obtain ⟨P0, hn⟩ := sm.pos
  refine ⟨fun x => (val_of sm.stp hc fun n h => sh_mul (hn n h).1 (hn n h).2).symm, fun y h0 h1 hne => ?_⟩
  refine mem_ups.mpr ⟨by omega, h1, .inr ?_⟩
  refine Classical.byContradiction fun c => hne ?_
  exact (val_of sm.stp hc fun n h => sh_edge (hn n h).1 fun z => c ⟨n, h, z⟩).symm
end Ax
namespace Ax
open PySem PySem.Spec L2
/-! ### plain: how much holds -/
def cN (F : Int → Bool) : Nat → Int
  | 0 => 0
  | n + 1 => cN F n + if F (n : Int) then 1 else 0
section
variable {F : Int → Bool} {d P : Int}
theorem cN_const {a : Nat} : ∀ k : Nat, (∀ y : Int, (a : Int) < y → y < (a : Int) + k → F y = F (y - 1)) → cN F (a + k) = cN F a + if F (a : Int) then (k : Int) else 0
  | 0, _ => by simp
  | k + 1, h => by
    have ih := cN_const k fun y h1 h2 => h y h1 (by omega)
    have hf : F ((a + k : Nat) : Int) = F (a : Int) := by
      have := const_of (F := F) (a := (a : Int)) k fun y h1 h2 => h y h1 (by omega)
      rw [← this]
      congr 1
    show cN F (a + k) + (if F ((a + k : Nat) : Int) then 1 else 0) = _
    rw [ih, hf]
    by_cases c : F (a : Int) = true
    · simp [c]; omega
    · simp [c]
theorem pairs_cons (a b : Int) (l : List Int) (P : Int) : pairsOf (a :: b :: l) P = (a, b) :: pairsOf (b :: l) P := rfl
theorem cnt_pairs : ∀ (l : List Int) (a : Int), (a :: l).Pairwise (· < ·) → 0 ≤ a → (∀ x ∈ a :: l, x < P) → (∀ y, a < y → y < P → F y ≠ F (y - 1) → y ∈ a :: l) → cntL F (a :: l) P = cN F P.toNat - cN F a.toNat
  | [], a, _, h0, hb, hc => by
    have hP := hb a (by simp)
    have := cN_const (F := F) (a := a.toNat) (P - a).toNat fun y h1 h2 => Classical.byContradiction fun c => by
      have := hc y (by omega) (by omega) c
      rw [List.mem_singleton] at this
      omega
    rw [show a.toNat + (P - a).toNat = P.toNat by omega, show ((a.toNat : Nat) : Int) = a by omega] at this
    unfold cntL pairsOf
    by_cases c : F a = true
    · rw [if_pos c] at this
      simp [c]
      omega
    · rw [if_neg c] at this
      simp [c]
      omega
  | b :: l, a, ha, h0, hb, hc => by
    have hab := (List.pairwise_cons.mp ha).1 b (by simp)
    have ih := cnt_pairs l b (List.pairwise_cons.mp ha).2 (by omega) (fun x hx => hb x (List.mem_cons_of_mem _ hx)) fun y h1 h2 h3 => by
      rcases List.mem_cons.mp (hc y (by omega) h2 h3) with h | h
      · omega
      · exact h
    have hbP := hb b (by simp)
    have := cN_const (F := F) (a := a.toNat) (b - a).toNat fun y h1 h2 => Classical.byContradiction fun c => by
      rcases List.mem_cons.mp (hc y (by omega) (by omega) c) with h | h
      · omega
      · rcases List.mem_cons.mp h with h | h
        · omega
        · have := (List.pairwise_cons.mp (List.pairwise_cons.mp ha).2).1 y h
          omega
    rw [show a.toNat + (b - a).toNat = b.toNat by omega, show ((a.toNat : Nat) : Int) = a by omega] at this
    have e : cntL F (a :: b :: l) P = (if F a then b - a else 0) + cntL F (b :: l) P := by
      unfold cntL
      rw [pairs_cons]
      by_cases c : F a = true
      · rw [List.filter_cons_of_pos (by exact c), if_pos c]
        simp
      · rw [List.filter_cons_of_neg (by exact c), if_neg c]
        simp
    rw [e, ih]
    by_cases c : F a = true
    · rw [if_pos c] at this ⊢
      omega
    · rw [if_neg c] at this ⊢
      omega
/-- by starts that hold all changes -/
theorem cnt_starts {st : List Int} (hP : 0 < P) (ha : st.Pairwise (· < ·)) (h0 : (0 : Int) ∈ st) (hb : ∀ x ∈ st, 0 ≤ x ∧ x < P) (hc : ∀ y, 0 < y → y < P → F y ≠ F (y - 1) → y ∈ st) : cntL F st P = cN F P.toNat := by
  cases st with
  | nil => cases h0
  | cons a l =>
    have a0 : a = 0 := by
      rcases List.mem_cons.mp h0 with h | h
      · exact h.symm
      · have := (List.pairwise_cons.mp ha).1 0 h
        have := (hb a (by simp)).1
        omega
    subst a0
    rw [cnt_pairs l 0 ha (Int.le_refl _) (fun x hx => (hb x hx).2) hc]
    show _ - 0 = _
    omega
theorem cN_shift (hp : Per F d) (h0 : 0 ≤ d) : ∀ k : Nat, cN F (d.toNat + k) = cN F d.toNat + cN F k
  | 0 => by simp [cN]
  | k + 1 => by
    show cN F (d.toNat + k) + (if F ((d.toNat + k : Nat) : Int) then 1 else 0) = cN F d.toNat + (cN F k + if F (k : Int) then 1 else 0)
    rw [cN_shift hp h0 k]
    have := hp (k : Int)
    rw [show ((d.toNat + k : Nat) : Int) = (k : Int) + d by omega, this]
    omega
theorem cN_mul (hp : Per F d) (h0 : 0 ≤ d) : ∀ k : Nat, cN F (d.toNat * k) = k * cN F d.toNat
  | 0 => by simp [cN]
  | k + 1 => by
    rw [Nat.mul_succ, Nat.add_comm, cN_shift hp h0, cN_mul hp h0 k]
    push_cast
    rw [Int.add_mul, Int.one_mul]
    omega
theorem cN_dvd {W : Int} (hp : Per F d) (h0 : 0 < d) (hW : 0 < W) (hd : d ∣ W) : cN F W.toNat = W / d * cN F d.toNat := by
  obtain ⟨k, rfl⟩ := hd
  have k0 : 0 < k := by
    refine Classical.byContradiction fun c => ?_
    have : d * k ≤ d * 0 := Int.mul_le_mul_of_nonneg_left (by omega) (by omega)
    omega
  rw [Int.mul_ediv_cancel_left k (by omega)]
  have := cN_mul hp (by omega) k.toNat
  rw [show d.toNat * k.toNat = (d * k).toNat by rw [Int.toNat_mul (by omega) (by omega)], show ((k.toNat : Nat) : Int) = k by omega] at this
  exact this
end
end Ax
namespace Ax
open PySem PySem.Spec L2
section
variable {F : Int → Bool} {W q : Int} {st : List Int}
theorem Per.same (hp : Per F W) {x y : Int} (h : x % W = y % W) : F x = F y := by rw [← hp.emod x, ← hp.emod y, h]
/-- a step that changes nothing at the starts, nor a step ahead of them, changes nothing -/
theorem lows (hW : 0 < W) (hp : Per F W) (h0 : (0 : Int) ∈ st) (hc : ∀ y, F y ≠ F (y - 1) → y % W ∈ st) (h1 : ∀ x ∈ st, F x = F (x + q)) (h2 : ∀ x ∈ st, F (x - q) = F x) : Per F q := by
  have nat : ∀ k : Nat, F (k : Int) = F ((k : Int) + q) := by
    intro k
    induction k with
    | zero => exact h1 0 h0
    | succ k ih =>
      have e1 : ((k + 1 : Nat) : Int) - 1 = (k : Int) := by omega
      by_cases c1 : F ((k + 1 : Nat) : Int) = F (((k + 1 : Nat) : Int) - 1)
      · by_cases c2 : F (((k + 1 : Nat) : Int) + q) = F (((k + 1 : Nat) : Int) + q - 1)
        · rw [c1, c2, e1, ih]
          congr 1
          omega
        · have m := hc _ c2
          have := h2 _ m
          rw [hp.emod] at this
          rw [← this]
          refine hp.same ?_
          rw [Int.sub_emod, Int.emod_emod, ← Int.sub_emod]
          congr 1
          omega
      · have m := hc _ c1
        have := h1 _ m
        rw [hp.emod] at this
        rw [this]
        refine hp.same ?_
        rw [Int.add_emod, Int.emod_emod, ← Int.add_emod]
  intro x
  have := nat (x % W).toNat
  have n0 := Int.emod_nonneg x (by omega : W ≠ 0)
  rw [show (((x % W).toNat : Nat) : Int) = x % W by omega, hp.emod] at this
  rw [this]
  refine hp.same ?_
  rw [Int.add_emod (x % W), Int.emod_emod, ← Int.add_emod]
end
end Ax
namespace Ax
open PySem PySem.Spec L2
section
/-- one of the small primes -/
def Pr (q : Int) : Prop := q ∈ [(2 : Int), 3, 5, 7, 11, 13]
theorem pr_fin : ∀ q ∈ [2, 3, 5, 7, 11, 13], ∀ i < q, ∀ j < q, (i * j) % q = 0 → i = 0 ∨ j = 0 := by decide +kernel
theorem pr_mul {q a b : Int} (hq : Pr q) (h : (a * b) % q = 0) : a % q = 0 ∨ b % q = 0 := by
  have q2 : 2 ≤ q := by
    unfold Pr at hq
    simp at hq
    omega
  rw [Int.mul_emod] at h
  have a0 := Int.emod_nonneg a (by omega : q ≠ 0)
  have a1 := Int.emod_lt_of_pos a (by omega : 0 < q)
  have b0 := Int.emod_nonneg b (by omega : q ≠ 0)
  have b1 := Int.emod_lt_of_pos b (by omega : 0 < q)
  have hq2 : q.toNat ∈ [2, 3, 5, 7, 11, 13] := by
    unfold Pr at hq
    simp at hq ⊢
    omega
  have := pr_fin q.toNat hq2 (a % q).toNat (by omega) (b % q).toNat (by omega) (by
    have : (((a % q).toNat * (b % q).toNat % q.toNat : Nat) : Int) = 0 := by
      push_cast
      rw [Int.toNat_of_nonneg a0, Int.toNat_of_nonneg b0, Int.toNat_of_nonneg (by omega)]
      exact h
    omega)
  omega
theorem pr_pow {q a : Int} (hq : Pr q) : ∀ p : Nat, (a ^ p) % q = 0 → a % q = 0
  | 0, h => by
    rw [Int.pow_zero] at h
    unfold Pr at hq
    simp at hq
    rcases hq with rfl | rfl | rfl | rfl | rfl | rfl <;> simp at h
  | p + 1, h => by
    rw [Int.pow_succ] at h
    exact (pr_mul hq h).elim (pr_pow hq p) fun h => h
theorem pr_lcm {q M : Int} (hq : Pr q) : ∀ ns : List Int, (∀ n ∈ ns, 0 < n ∧ n ∣ M) → lcmL ns % q = 0 → ∃ n ∈ ns, n % q = 0 := by
  refine snocInd ?_ fun l n ih h hz => ?_
  · intro _ hz
    exfalso
    have hz : (1 : Int) % q = 0 := hz
    unfold Pr at hq
    simp at hq
    rcases hq with rfl | rfl | rfl | rfl | rfl | rfl <;> simp at hz
  · rw [lcmL_snoc] at hz
    rcases pr_mul hq hz with h1 | h1
    · have : lcmL l % q = 0 := by
        obtain ⟨k, hk⟩ := Int.gcd_dvd_left (a := lcmL l) (b := n)
        have n0 := (h n (by simp)).1
        have g0 : (Int.gcd (lcmL l) n : Int) ≠ 0 := by
          have := Int.gcd_pos_of_ne_zero_right (a := lcmL l) (b := n) (by omega)
          omega
        have e : lcmL l / (Int.gcd (lcmL l) n : Int) = k := by
          have := Int.mul_ediv_cancel_left k g0
          rw [← hk] at this
          exact this
        rw [e] at h1
        rw [hk, Int.mul_emod, h1]
        simp
      obtain ⟨m, hm, hm2⟩ := ih (fun x hx => h x (List.mem_append_left _ hx)) this
      exact ⟨m, List.mem_append_left _ hm, hm2⟩
    · exact ⟨n, by simp, h1⟩
/-- a small prime of the period is one of the primes that are tried -/
theorem prime_in {l : RS} {L q : Int} {rs : List Ru} (sm : Small l L) (hl : ∀ y ∈ l, y.1 ∈ rs) (hq : Pr q) (h : lcmL (sizesOf l) % q = 0) : q ∈ primesIn rs := by
  obtain ⟨P0, hn⟩ := sm.pos
  obtain ⟨M, M0, M1, hM⟩ := sm.dv
  obtain ⟨n, h1, h2⟩ := pr_lcm hq (sizesOf l) (fun n h => ⟨(hn n h).1, hM n h⟩) h
  obtain ⟨y, hy, s, hs, rfl⟩ := mem_sizesOf.mp h1
  have stp := sm.stp y hy
  have ho := stp.ok
  have hd := ((stp.mem s).mp hs).1
  have num : ∃ m ∈ y.1.b :: y.1.hs, m % q = 0 := by
    rcases pr_mul hq h2 with h | h
    · exact ⟨s.1, List.mem_cons_of_mem _ hd, h⟩
    · exact ⟨y.1.b, by simp, pr_pow hq s.2 h⟩
  obtain ⟨m, hm, hmq⟩ := num
  have b2 := ho.b2
  have b10 := ho.b10
  have rng : 1 ≤ m ∧ m ≤ 25 := by
    rcases List.mem_cons.mp hm with rfl | hm
    · omega
    · exact ⟨(ho.h1 m hm).1, (ho.h1 m hm).2.1⟩
  unfold primesIn
  rw [foldl_insK_mem]
  refine .inr (List.mem_flatMap.mpr ⟨m, List.mem_flatMap.mpr ⟨y.1, hl y hy, hm⟩, (primes_fact rng.1 rng.2).2.2 q hq hmq⟩)
end
end Ax
namespace Ax
open PySem PySem.Spec L2
/-! ### plain: few sizes, near each other -/
/-- a few rules over one family -/
structure Fam (b la : Int) (rs : List Ru) : Prop where
  ok : ∀ r ∈ rs, r.Ok
  one : ∀ r ∈ rs, r.b = b
  la1 : 1 ≤ la
  la30 : la ≤ 30
  dv : ∀ r ∈ rs, ∀ h ∈ r.hs, h ∣ la
  b2 : 2 ≤ b
  b10 : b ≤ 10
theorem top_pow {b L : Int} (hb : 2 ≤ b) (hL : 1 ≤ L) : ∃ Q : Nat, b ^ Q ≤ b * L ∧ ∀ p : Nat, b ^ p ≤ b * L → p ≤ Q := by
  have h1 : 1 ≤ b * L := by
    have : 0 < b * L := Int.mul_pos (by omega) (by omega)
    omega
  have bnd : ∀ p : Nat, b ^ p ≤ b * L → p ≤ (b * L).toNat := fun p hp => by
    have := lt_pow hb p
    omega
  have go : ∀ k : Nat, ∀ q : Nat, b ^ q ≤ b * L → (b * L).toNat - q ≤ k → ∃ Q : Nat, b ^ Q ≤ b * L ∧ ∀ p : Nat, b ^ p ≤ b * L → p ≤ Q := by
    intro k
    induction k with
    | zero =>
      intro q hq hk
      exact ⟨q, hq, fun p hp => by have := bnd p hp; omega⟩
    | succ k ih =>
      intro q hq hk
      by_cases c : b ^ (q + 1) ≤ b * L
      · exact ih (q + 1) c (by omega)
      · refine ⟨q, hq, fun p hp => Classical.byContradiction fun z => ?_⟩
        have := pow_mono hb (p := q + 1) (q := p) (by omega)
        omega
  exact go _ 0 (by rw [Int.pow_zero]; omega) (Nat.le_refl _)
/-- all sizes from L / 7 to b L divide one number -/
theorem fam_dvd {b la L : Int} {rs : List Ru} (f : Fam b la rs) (hL : 512 ≤ L) : ∃ M : Int, 0 < M ∧ M ≤ 300 * L ∧ ∀ r ∈ rs, ∀ s : Int × Nat, s.1 ∈ r.hs → sz r.b s ≤ r.b * L → sz r.b s ∣ M := by
  have b2 := f.b2
  have b10 := f.b10
  have l1 := f.la1
  have l30 := f.la30
  obtain ⟨Q, q1, q2⟩ := top_pow b2 (by omega : 1 ≤ L)
  have qp := pow_pos' b2 Q
  have bL : b * L ≤ 10 * L := Int.mul_le_mul_of_nonneg_right b10 (by omega)
  refine ⟨la * b ^ Q, Int.mul_pos (by omega) (by omega), ?_, fun r hr s hs hle => ?_⟩
  · have : la * b ^ Q ≤ 30 * b ^ Q := Int.mul_le_mul_of_nonneg_right l30 (by omega)
    omega
  · have ho := f.ok r hr
    have hb := f.one r hr
    have h1 := (ho.h1 _ hs).1
    rw [hb] at hle ⊢
    have hp := (sz_pos (s := s) b2 h1).2
    obtain ⟨c, hc⟩ := f.dv r hr s.1 hs
    obtain ⟨k, hk⟩ : ∃ k, Q = s.2 + k := ⟨Q - s.2, by have := q2 s.2 (by omega); omega⟩
    refine ⟨c * b ^ k, ?_⟩
    unfold sz
    rw [hc, hk, Int.pow_add]
    rw [Int.mul_assoc s.1 c, Int.mul_assoc s.1 (b ^ s.2)]
    congr 1
    rw [← Int.mul_assoc, ← Int.mul_assoc, Int.mul_comm c]
theorem near_of {M n L P0 : Int} (hn : 0 < n) (h7 : L ≤ 7 * n) (hM : M ≤ 300 * L) (hP : P0 ≤ M) : P0 / n ≤ 2100 := by
  have h1 : P0 ≤ n * 2100 := by omega
  have h2 : P0 / n ≤ (n * 2100) / n := Int.ediv_le_ediv hn h1
  rw [Int.mul_ediv_cancel_left _ (by omega)] at h2
  exact h2
end Ax
namespace Ax
open PySem PySem.Spec L2
/-- sizes of one rule between L / 7 and b L: seven a head -/
theorem few_sizes {r : Ru} {L : Int} (ho : r.Ok) (hL : 512 ≤ L) (ns : List Int) (nd : ns.Nodup) (h : ∀ n ∈ ns, ∃ s : Int × Nat, s.1 ∈ r.hs ∧ sz r.b s = n ∧ L ≤ 7 * n ∧ n ≤ r.b * L) : ns.length ≤ 7 * r.hs.length := by
  classical
  have hb := ho.b2
  have b10 := ho.b10
  have hbL : r.b * L ≤ 10 * L := Int.mul_le_mul_of_nonneg_right b10 (by omega)
  let q : Int → Nat → Prop := fun x p => L ≤ 7 * sz r.b (x, p) ∧ sz r.b (x, p) ≤ r.b * L
  have base : ∀ x : Int, 1 ≤ x → ∃ p0 : Nat, ∀ p : Nat, q x p → p0 ≤ p ∧ p < p0 + 7 := fun x x1 => by
    by_cases c : ∃ p, q x p
    · obtain ⟨p, hp⟩ := c
      have ⟨p0, h0, hm⟩ : ∃ p0, q x p0 ∧ ∀ k < p0, ¬ q x k := by
        induction p using Nat.strongRecOn with
        | ind p ih =>
          by_cases c : ∃ k < p, q x k
          · obtain ⟨k, hk, hk2⟩ := c; exact ih k hk hk2
          · exact ⟨p, hp, fun k hk z => c ⟨k, hk, z⟩⟩
      refine ⟨p0, fun p hp => ⟨Nat.le_of_not_lt fun z => hm p z hp, pow_cmp hb (c := 70) ?_ (by decide)⟩⟩
      have l0 : L ≤ 7 * (x * r.b ^ p0) := h0.1
      have l1 : x * r.b ^ p ≤ r.b * L := hp.2
      have e : x * r.b ^ p ≤ x * (70 * r.b ^ p0) := by
        rw [Int.mul_left_comm]
        omega
      exact Int.le_of_mul_le_mul_left e (by omega)
    · exact ⟨0, fun p hp => absurd ⟨p, hp⟩ c⟩
  let f : Int → Nat := fun x => if c : 1 ≤ x then Classical.choose (base x c) else 0
  have hf : ∀ x, 1 ≤ x → ∀ p, q x p → f x ≤ p ∧ p < f x + 7 := fun x c => by
    have e : f x = Classical.choose (base x c) := dif_pos c
    rw [e]
    exact Classical.choose_spec (base x c)
  have := nodup_len ns (r.hs.flatMap fun x => (List.range 7).map fun i => sz r.b (x, f x + i)) nd fun n hn => by
    obtain ⟨⟨x, p⟩, h1, rfl, h3, h4⟩ := h n hn
    obtain ⟨q1, q2⟩ := hf x (ho.h1 x h1).1 p ⟨h3, h4⟩
    rw [List.mem_flatMap]
    exact ⟨x, h1, List.mem_map.mpr ⟨p - f x, List.mem_range.mpr (by omega), by congr 2; omega⟩⟩
  have e : (r.hs.flatMap fun x => (List.range 7).map fun i => sz r.b (x, f x + i)).length = r.hs.length * 7 := by
    generalize r.hs = l
    induction l with
    | nil => rfl
    | cons x l ih => rw [List.flatMap_cons, List.length_append, ih]; simp; omega
  omega
/-- all the heads of some rules -/
def headsN (rs : List Ru) : Nat := (rs.map fun r => r.hs.length).sum
theorem small_of {b la L : Int} {l : RS} (f : Fam b la (l.map Prod.fst)) (hL : 512 ≤ L) (hH : L < 2 ^ 145) (hs : ∀ y ∈ l, Stp y.1 L y.2) (hn : headsN (l.map Prod.fst) ≤ 12) (hlen : l.length ≤ 10) : Small l L := by
  obtain ⟨M, M0, M1, hM⟩ := fam_dvd f hL
  have all : ∀ n ∈ sizesOf l, ∃ y ∈ l, ∃ s ∈ y.2, sz y.1.b s = n := fun n h => mem_sizesOf.mp h
  have dv : ∀ n ∈ sizesOf l, 0 < n ∧ n ∣ M ∧ L ≤ 7 * n := fun n h => by
    obtain ⟨y, hy, s, hs1, rfl⟩ := all n h
    have stp := hs y hy
    have is := (stp.mem s).mp hs1
    have p := (sz_pos (s := s) stp.ok.b2 (stp.ok.h1 _ is.1).1).1
    exact ⟨by omega, hM y.1 (List.mem_map_of_mem hy) s is.1 (isSt_high stp.ok hL is), isSt_low stp.ok is⟩
  obtain ⟨P0, Pd, _⟩ := lcmL_fact (sizesOf l) fun n h => ⟨(dv n h).1, (dv n h).2.1⟩
  have Ple := Int.le_of_dvd M0 Pd
  refine ⟨hs, hlen, ?_, fun n h => near_of (dv n h).1 (dv n h).2.2 M1 Ple, ⟨M, M0, by omega, fun n h => (dv n h).2.1⟩, by omega⟩
  have h1 := nodup_len (sizesOf l) (l.flatMap fun y => y.2.map (sz y.1.b)) (foldl_nodup _) fun n h => by
    obtain ⟨y, hy, s, hs1, rfl⟩ := all n h
    exact List.mem_flatMap.mpr ⟨y, hy, List.mem_map_of_mem hs1⟩
  have h2 : ∀ m : RS, (∀ y ∈ m, Stp y.1 L y.2) → (m.flatMap fun y => y.2.map (sz y.1.b)).length ≤ 7 * headsN (m.map Prod.fst) := by
    intro m
    induction m with
    | nil => intro _; simp
    | cons y m ih =>
      intro hm
      have i := ih fun z hz => hm z (List.mem_cons_of_mem _ hz)
      have stp := hm y (by simp)
      have nd : (y.2.map (sz y.1.b)).Nodup := by
        rw [List.nodup_iff_pairwise_ne, List.pairwise_map]
        exact stp.asc.imp fun h => by omega
      have k := few_sizes stp.ok hL (y.2.map (sz y.1.b)) nd fun n hn => by
        obtain ⟨s, hs1, rfl⟩ := List.mem_map.mp hn
        have is := (stp.mem s).mp hs1
        exact ⟨s, is.1, rfl, isSt_low stp.ok is, isSt_high stp.ok hL is⟩
      rw [List.flatMap_cons, List.length_append]
      unfold headsN at i ⊢
      simp only [List.map_cons, List.sum_cons]
      omega
  have := h2 l hs
  omega
end Ax
namespace Ax
open PySem PySem.Spec L2
section
variable {r : Ru} {L : Int}
theorem nd_mem {n : Int} : ∀ Z : List (Int × Nat), (Z.Pairwise fun s t => sz r.b s < sz r.b t) → (n ∈ ndL r L Z ↔ ∃ s ∈ Z, sz r.b s = n ∧ L ≤ (r.m + inO r) * n ∧ ∀ t ∈ Z, sz r.b t < n → L ≤ (r.m + inO r) * sz r.b t → sureB r L (sz r.b t) = false)
  | [], _ => by
    constructor
    · intro h; cases h
    · rintro ⟨s, hs, _⟩; cases hs
  | s :: Z, ha => by
    rw [List.pairwise_cons] at ha
    have ih := nd_mem (n := n) Z ha.2
    rw [nd_cons]
    by_cases c : L ≤ (r.m + inO r) * sz r.b s
    · rw [if_pos c]
      by_cases c2 : sureB r L (sz r.b s) = true
      · rw [if_pos c2, List.mem_singleton]
        constructor
        · rintro rfl
          exact ⟨s, by simp, rfl, c, fun t ht hlt => by
            rcases List.mem_cons.mp ht with rfl | ht
            · omega
            · have := ha.1 t ht; omega⟩
        · rintro ⟨t, ht, rfl, _, h4⟩
          rcases List.mem_cons.mp ht with rfl | ht
          · rfl
          · have := h4 s (by simp) (ha.1 t ht) c
            rw [this] at c2
            cases c2
      · rw [if_neg c2, List.mem_cons, ih]
        constructor
        · rintro (rfl | ⟨t, ht, h1, h2, h3⟩)
          · exact ⟨s, by simp, rfl, c, fun t ht hlt => by
              rcases List.mem_cons.mp ht with rfl | ht
              · omega
              · have := ha.1 t ht; omega⟩
          · refine ⟨t, List.mem_cons_of_mem _ ht, h1, h2, fun u hu hlt hle => ?_⟩
            rcases List.mem_cons.mp hu with rfl | hu
            · simpa using c2
            · exact h3 u hu hlt hle
        · rintro ⟨t, ht, h1, h2, h3⟩
          rcases List.mem_cons.mp ht with rfl | ht
          · exact .inl h1.symm
          · exact .inr ⟨t, ht, h1, h2, fun u hu => h3 u (List.mem_cons_of_mem _ hu)⟩
    · rw [if_neg c, ih]
      constructor
      · rintro ⟨t, ht, h1, h2, h3⟩
        refine ⟨t, List.mem_cons_of_mem _ ht, h1, h2, fun u hu hlt hle => ?_⟩
        rcases List.mem_cons.mp hu with rfl | hu
        · exact absurd hle c
        · exact h3 u hu hlt hle
      · rintro ⟨t, ht, h1, h2, h3⟩
        rcases List.mem_cons.mp ht with rfl | ht
        · rw [← h1] at h2
          exact absurd h2 c
        · exact ⟨t, ht, h1, h2, fun u hu => h3 u (List.mem_cons_of_mem _ hu)⟩
end
end Ax
namespace Ax
open PySem PySem.Spec L2
/-! ### plain: the law's needed sizes are few and near, and hold the program's -/
/-- a few rules with a few heads -/
structure Rls (b la : Int) (rs : List Ru) : Prop where
  fam : Fam b la rs
  ne : rs ≠ []
  few : ∃ c : Nat, rs.length ≤ 3 ∧ rs.length * c ≤ 8 ∧ ∀ r ∈ rs, r.hs.length ≤ c
section
variable {b la L : Int} {rs : List Ru} {l : RS}
theorem Rls.heads (h : Rls b la rs) {m : List Ru} (hm : ∀ r ∈ m, r ∈ rs) (hl : m.length ≤ rs.length) : headsN m ≤ 8 := by
  obtain ⟨c, _, h2, h3⟩ := h.few
  have : ∀ k : List Ru, (∀ r ∈ k, r ∈ rs) → headsN k ≤ k.length * c := by
    intro k
    induction k with
    | nil => intro _; exact Nat.zero_le _
    | cons r k ih =>
      intro hk
      have i := ih fun x hx => hk x (List.mem_cons_of_mem _ hx)
      have j := h3 r (hk r (by simp))
      unfold headsN at i ⊢
      rw [List.map_cons, List.sum_cons, List.length_cons, Nat.succ_mul]
      omega
  have h4 := this m hm
  have h5 : m.length * c ≤ rs.length * c := Nat.mul_le_mul_right c hl
  omega
theorem Fam.sub {m : List Ru} (f : Fam b la rs) (hm : ∀ r ∈ m, r ∈ rs) : Fam b la m := ⟨fun r h => f.ok r (hm r h), fun r h => f.one r (hm r h), f.la1, f.la30, fun r h => f.dv r (hm r h), f.b2, f.b10⟩
theorem nd_sub {r : Ru} : ∀ Z : List (Int × Nat), (ndL r L Z).Sublist (Z.map (sz r.b))
  | [] => List.Sublist.slnil
  | s :: Z => by
    rw [nd_cons, List.map_cons]
    split
    · split
      · exact List.Sublist.cons_cons _ (List.nil_sublist _)
      · exact List.Sublist.cons_cons _ (nd_sub Z)
    · exact List.Sublist.cons _ (nd_sub Z)
theorem inO_m {r : Ru} (ho : r.Ok) : r.m + inO r ≤ 7 := by
  have := ho.m6
  unfold inO
  split <;> omega
/-- a needed size: not under a seventh, not over a step above the length -/
theorem nd_fact {r : Ru} {Z : List (Int × Nat)} {n : Int} (ho : r.Ok) (hL : 512 ≤ L) (hZ : LSz r L Z) (hn : n ∈ ndL r L Z) : ∃ s : Int × Nat, s.1 ∈ r.hs ∧ sz r.b s = n ∧ L ≤ 7 * n ∧ n ≤ r.b * L := by
  obtain ⟨s, hs, rfl, h1, h2⟩ := (nd_mem Z hZ.asc).mp hn
  obtain ⟨p0, c0, c1, hm⟩ := hZ.mem
  obtain ⟨m1, m2, m3⟩ := (hm s).mp hs
  have x1 := ho.h1 _ m1
  have b2 := ho.b2
  have sp := sz_pos (s := s) b2 x1.1
  have i7 := inO_m ho
  have h7 : (r.m + inO r) * sz r.b s ≤ 7 * sz r.b s := Int.mul_le_mul_of_nonneg_right i7 (by omega)
  refine ⟨s, m1, rfl, by omega, Classical.byContradiction fun hgt => ?_⟩
  have bL : 2 * L ≤ r.b * L := Int.mul_le_mul_of_nonneg_right b2 (by omega)
  obtain ⟨x, p⟩ := s
  have p1 : 1 ≤ p := by
    cases p with
    | zero =>
      have e : sz r.b (x, 0) = x := by unfold sz; show x * r.b ^ 0 = x; rw [Int.pow_zero, Int.mul_one]
      have : x ≤ 25 := x1.2.1
      omega
    | succ p => omega
  obtain ⟨q, rfl⟩ : ∃ q, p = q + 1 := ⟨p - 1, by omega⟩
  rw [sz_succ] at hgt h1
  have tq : L < sz r.b (x, q) := Classical.byContradiction fun c => by
    have : sz r.b (x, q) * r.b ≤ L * r.b := Int.mul_le_mul_of_nonneg_right (by omega) (by omega)
    rw [Int.mul_comm L] at this
    omega
  have hq : p0 ≤ q := Classical.byContradiction fun c => by
    have e : p0 = q + 1 := by
      have : p0 ≤ q + 1 := m2
      omega
    rcases c0 with z | z
    · omega
    · rw [e] at z
      have e2 : sz r.b (x, q + 1) = x * r.b ^ (q + 1) := rfl
      have e3 : x * r.b ^ (q + 1) ≤ 25 * r.b ^ (q + 1) := Int.mul_le_mul_of_nonneg_right x1.2.1 (by have := pow_pos' b2 (q + 1); omega)
      rw [sz_succ] at e2
      omega
  have sq := sz_pos (s := (x, q)) b2 x1.1
  have tz : (x, q) ∈ Z := (hm (x, q)).mpr ⟨m1, hq, by
    have : r.b ^ q ≤ r.b ^ (q + 1) := pow_mono b2 (by omega)
    exact Int.le_trans this m3⟩
  have lt : sz r.b (x, q) < sz r.b (x, q + 1) := sz_lt b2 x1.1 (by omega)
  have m0 : 1 ≤ r.m + inO r := by
    have := ho.m1
    unfold inO
    split <;> omega
  have le : L ≤ (r.m + inO r) * sz r.b (x, q) := by
    have : 1 * sz r.b (x, q) ≤ (r.m + inO r) * sz r.b (x, q) := Int.mul_le_mul_of_nonneg_right m0 (by omega)
    omega
  have := h2 (x, q) tz lt le
  rw [sure_of ho tq (by omega)] at this
  cases this
/-- a step of the program is needed -/
theorem nd_of_step {r : Ru} {Z S : List (Int × Nat)} {s : Int × Nat} (hZ : LSz r L Z) (hS : Stp r L S) (hs : s ∈ S) : sz r.b s ∈ ndL r L Z := by
  have ho := hS.ok
  have hL := hS.lo
  have is := (hS.mem s).mp hs
  obtain ⟨m1, m2, m3⟩ := is
  obtain ⟨p0, c0, c1, hm⟩ := hZ.mem
  have b2 := ho.b2
  have x1 := ho.h1 _ m1
  have sp := sz_pos (s := s) b2 x1.1
  have lo := isSt_low ho ((hS.mem s).mp hs)
  have hi := isSt_high ho hL ((hS.mem s).mp hs)
  refine (nd_mem Z hZ.asc).mpr ⟨s, (hm s).mpr ⟨m1, Classical.byContradiction fun c => ?_, ?_⟩, rfl, ?_, fun t ht hlt _ => m3 t ((hm t).mp ht).1 hlt⟩
  · rcases c0 with z | z
    · omega
    · have h0 := pow_pos' b2 s.2
      have h1 : r.b ^ (s.2 + 1) ≤ r.b ^ p0 := pow_mono b2 (by omega)
      rw [Int.pow_succ] at h1
      have h2 : r.b ^ s.2 * 2 ≤ r.b ^ s.2 * r.b := Int.mul_le_mul_of_nonneg_left b2 (by omega)
      have h3 : sz r.b s ≤ 25 * r.b ^ s.2 := Int.mul_le_mul_of_nonneg_right x1.2.1 (by omega)
      omega
  · have : r.b * L ≤ 10 * (r.b * L) := by
      have : 0 < r.b * L := Int.mul_pos (by omega) (by omega)
      omega
    rw [Int.mul_assoc]
    omega
  · rcases may_iff.mp m2 with ⟨k, h⟩ | ⟨k, h⟩
    · have e : inO r = 1 := by unfold inO; rw [if_pos (by simpa using k)]
      rw [e]
      omega
    · have e : inO r = 0 := by unfold inO; rw [if_neg (by simpa using k)]
      rw [e, Int.add_zero]
      exact h
theorem LSz.len1000 {r : Ru} {Z : List (Int × Nat)} (ho : r.Ok) (hL : 512 ≤ L) (hH : L < 2 ^ 145) (hZ : LSz r L Z) : Z.length ≤ 1000 := by
  obtain ⟨p0, c0, c1, hm⟩ := hZ.mem
  have b2 := ho.b2
  have b10 := ho.b10
  have : Z.length ≤ 4 * 195 := z_len ho hZ.asc fun s hs => by
    obtain ⟨m1, m2, m3⟩ := (hm s).mp hs
    refine ⟨m1, pow_few b2 m3 ?_⟩
    have : 10 * r.b * L ≤ 100 * L := Int.mul_le_mul_of_nonneg_right (by omega) (by omega)
    omega
  omega
/-- lists of sizes for all the rules -/
theorem lsz_all (hL : 1 ≤ L) : ∀ rs : List Ru, (∀ r ∈ rs, r.Ok) → ∃ l : RS, l.map Prod.fst = rs ∧ ∀ y ∈ l, LSz y.1 L y.2
  | [], _ => ⟨[], rfl, fun _ h => nomatch h⟩
  | r :: rs, ho => by
    obtain ⟨l, e, h⟩ := lsz_all hL rs fun x hx => ho x (List.mem_cons_of_mem _ hx)
    obtain ⟨Z, hZ⟩ := lsz_ex (ho r (by simp)) hL
    refine ⟨(r, Z) :: l, by rw [List.map_cons, e], fun y hy => ?_⟩
    rcases List.mem_cons.mp hy with rfl | hy
    · exact hZ
    · exact h y hy
/-- and steps -/
theorem stp_all (hL : 512 ≤ L) (hH : L < 2 ^ 180) : ∀ rs : List Ru, (∀ r ∈ rs, r.Ok) → ∃ l : RS, l.map Prod.fst = rs ∧ ∀ y ∈ l, Stp y.1 L y.2
  | [], _ => ⟨[], rfl, fun _ h => nomatch h⟩
  | r :: rs, ho => by
    obtain ⟨l, e, h⟩ := stp_all hL hH rs fun x hx => ho x (List.mem_cons_of_mem _ hx)
    obtain ⟨Z, hZ⟩ := stp_ex (ho r (by simp)) hL hH
    refine ⟨(r, Z) :: l, by rw [List.map_cons, e], fun y hy => ?_⟩
    rcases List.mem_cons.mp hy with rfl | hy
    · exact hZ
    · exact h y hy
/-- the law's needed sizes -/
structure Nd (l : RS) (L : Int) (M : Int) : Prop where
  z : ∀ y ∈ l, y.1.Ok ∧ LSz y.1 L y.2 ∧ y.2.length ≤ 1000
  n : ∀ n ∈ neededOf l L, 0 < n ∧ n < 2 ^ 190 ∧ n ∣ M
  m0 : 0 < M
  m1 : M < 2 ^ 900
  few : (neededOf l L).length ≤ 56
  near : ∀ n ∈ neededOf l L, lcmL (neededOf l L) / n ≤ 2100
  top : lcmL (neededOf l L) < 2 ^ 187
theorem nd_of (f : Rls b la (l.map Prod.fst)) (hL : 512 ≤ L) (hH : L < 2 ^ 145) (hz : ∀ y ∈ l, LSz y.1 L y.2) : ∃ M, Nd l L M := by
  obtain ⟨M, M0, M1, hM⟩ := fam_dvd f.fam hL
  have oks : ∀ y ∈ l, y.1.Ok := fun y hy => f.fam.ok y.1 (List.mem_map_of_mem hy)
  have all : ∀ n ∈ neededOf l L, 0 < n ∧ n ∣ M ∧ L ≤ 7 * n := fun n h => by
    obtain ⟨y, hy, hn⟩ := List.mem_flatMap.mp h
    obtain ⟨s, h1, rfl, h3, h4⟩ := nd_fact (oks y hy) hL (hz y hy) hn
    have p := (sz_pos (s := s) (oks y hy).b2 ((oks y hy).h1 _ h1).1).1
    exact ⟨by omega, hM y.1 (List.mem_map_of_mem hy) s h1 h4, h3⟩
  obtain ⟨P0, Pd, _⟩ := lcmL_fact (neededOf l L) fun n h => ⟨(all n h).1, (all n h).2.1⟩
  have Ple := Int.le_of_dvd M0 Pd
  refine ⟨M, fun y hy => ⟨oks y hy, hz y hy, (hz y hy).len1000 (oks y hy) hL hH⟩, fun n h => ⟨(all n h).1, by have := Int.le_of_dvd M0 (all n h).2.1; omega, (all n h).2.1⟩, M0, by omega, ?_, fun n h => near_of (all n h).1 (all n h).2.2 M1 Ple, by omega⟩
  have h2 : ∀ m : RS, (∀ y ∈ m, y.1.Ok ∧ LSz y.1 L y.2) → (neededOf m L).length ≤ 7 * headsN (m.map Prod.fst) := by
    intro m
    induction m with
    | nil => intro _; exact Nat.zero_le _
    | cons y m ih =>
      intro hm
      have i := ih fun z hz => hm z (List.mem_cons_of_mem _ hz)
      obtain ⟨ho, hy⟩ := hm y (by simp)
      have nd : (ndL y.1 L y.2).Nodup := by
        refine (nd_sub y.2).nodup ?_
        rw [List.nodup_iff_pairwise_ne, List.pairwise_map]
        exact hy.asc.imp fun h => by omega
      have k := few_sizes ho hL (ndL y.1 L y.2) nd fun n hn => nd_fact ho hL hy hn
      unfold neededOf headsN at i ⊢
      rw [List.flatMap_cons, List.length_append]
      simp only [List.map_cons, List.sum_cons]
      omega
  have h3 := h2 l fun y hy => ⟨oks y hy, hz y hy⟩
  have h4 := f.heads (m := l.map Prod.fst) (fun _ h => h) (Nat.le_refl _)
  omega
end
end Ax
namespace Ax
open PySem PySem.Spec L2
/-! ### plain: the purse and what is drawn from it -/
structure Pu where
  s : Int
  c : Int
  t : Int
def Pu.ds (p : Pu) : List D := [.int p.s, .int p.c, .int p.t]
structure PuN (k : Int) (p : Pu) : Prop where
  s0 : 0 ≤ p.s
  c0 : 0 ≤ p.c
  c1 : p.c < 2147483629
  t0 : 0 ≤ p.t
  t1 : p.t ≤ k
def mixA (c t : Int) : Int := (c + 104729 * t) * (t * t + 7919) % 2147483629
def mixB (c t : Int) : Int := (mixA c t * mixA c t + t) % 2147483587
def drV (p : Pu) (n : Int) : Int := if 0 < p.s then p.s % n else mixB p.c (p.t + 1) * 48271 % 2147483647 / 64 % n
def drP (p : Pu) (n : Int) : Pu := if 0 < p.s then ⟨p.s / n, p.c, p.t⟩ else ⟨p.s, p.c, p.t + 1⟩
section
variable {p : Pu} {n k : Int}
theorem drV_in (p : Pu) (hn : 0 < n) : 0 ≤ drV p n ∧ drV p n < n := by
  unfold drV
  split
  · exact ⟨Int.emod_nonneg _ (by omega), Int.emod_lt_of_pos _ hn⟩
  · exact ⟨Int.emod_nonneg _ (by omega), Int.emod_lt_of_pos _ hn⟩
theorem PuN.dr (h : PuN k p) (hn : 0 < n) : PuN (k + 1) (drP p n) := by
  obtain ⟨a, b, c, d, e⟩ := h
  unfold drP
  split
  · exact ⟨Int.ediv_nonneg a (by omega), b, c, d, by show p.t ≤ k + 1; omega⟩
  · exact ⟨a, b, c, by show 0 ≤ p.t + 1; omega, by show p.t + 1 ≤ k + 1; omega⟩
theorem PuN.mono {j : Int} (h : PuN k p) (hk : k ≤ j) : PuN j p := ⟨h.s0, h.c0, h.c1, h.t0, Int.le_trans h.t1 hk⟩
end
/-- one of some -/
def pk {α : Type} [Inhabited α] (p : Pu) (xs : List α) : α := xs.getD (drV p xs.length).toNat default
section
variable {α : Type} [Inhabited α] {p : Pu} {xs : List α}
theorem pk_get (h : xs ≠ []) : xs[(drV p xs.length).toNat]? = some (pk p xs) := by
  have hl : 0 < xs.length := List.length_pos_iff.mpr h
  obtain ⟨d0, d1⟩ := drV_in p (n := (xs.length : Int)) (by omega)
  have hi : (drV p xs.length).toNat < xs.length := by omega
  unfold pk
  rw [List.getD_eq_getElem?_getD, List.getElem?_eq_getElem hi]
  rfl
theorem pk_mem (h : xs ≠ []) : pk p xs ∈ xs := List.mem_of_getElem? (pk_get h)
theorem pk_at {f : α → D} (h : xs ≠ []) : atI (xs.map f) (drV p xs.length) = some (f (pk p xs)) := by
  have hl : 0 < xs.length := List.length_pos_iff.mpr h
  obtain ⟨d0, d1⟩ := drV_in p (n := (xs.length : Int)) (by omega)
  have e : drV p xs.length = ((drV p xs.length).toNat : Int) := by omega
  unfold L2.atI
  rw [show ixN (xs.map f).length (drV p xs.length) = some (drV p xs.length).toNat by
    rw [List.length_map]
    unfold ixN
    rw [if_pos d0, if_pos d1]]
  show (xs.map f)[(drV p xs.length).toNat]? = _
  rw [List.getElem?_map, pk_get h]
  rfl
end
instance : Inhabited Ru := ⟨⟨2, "", [], 0⟩⟩
/-! the family -/
def basesL : List Int := [10, 2, 10, 3, 10, 4, 6, 5, 7, 10]
def someL : List (List Int) := [[1, 2, 5], [1, 2, 3, 6], [1, 3, 5, 15], [2, 3, 5], [1, 3], [2, 3, 4], [1, 25], [1, 4, 12], [1, 2, 4], [1, 7], [1, 11], [2, 13]]
def famB (p : Pu) : Int := pk p basesL
def famS (p : Pu) : List Int := pk (drP p 10) someL
def headsF (b : Int) (S : List Int) : List Int := if S.filter (fun x => decide (0 < x % b)) = [] then [1] else S.filter (fun x => decide (0 < x % b))
def famH (p : Pu) : List Int := headsF (famB p) (famS p)
def famP (p : Pu) : Pu := drP (drP p 10) 12
/-- what the heads of a family are like -/
structure FamH (b la : Int) (H : List Int) : Prop where
  ne : H ≠ []
  len : H.length ≤ 4
  asc : H.Pairwise (· < ·)
  h1 : ∀ h ∈ H, 1 ≤ h ∧ h ≤ 25 ∧ h % b ≠ 0
  dv : ∀ h ∈ H, h ∣ la
  la1 : 1 ≤ la
  la30 : la ≤ 30
  b2 : 2 ≤ b
  b10 : b ≤ 10
def famT (b la : Int) (H : List Int) : Bool := decide (H ≠ []) && decide (H.length ≤ 4) && decide (H.Pairwise (· < ·)) && H.all (fun h => decide (1 ≤ h) && decide (h ≤ 25) && decide (h % b ≠ 0) && decide (la % h = 0)) && decide (1 ≤ la) && decide (la ≤ 30) && decide (2 ≤ b) && decide (b ≤ 10)
theorem famT_ok {b la : Int} {H : List Int} (h : famT b la H = true) : FamH b la H := by
  unfold famT at h
  simp only [Bool.and_eq_true, decide_eq_true_eq, List.all_eq_true] at h
  obtain ⟨⟨⟨⟨⟨⟨⟨h1, h2⟩, h3⟩, h4⟩, h5⟩, h6⟩, h7⟩, h8⟩ := h
  refine ⟨h1, h2, h3, fun x hx => ?_, fun x hx => ?_, h5, h6, h7, h8⟩
  · have := h4 x hx
    exact ⟨this.1.1.1, this.1.1.2, this.1.2⟩
  · exact Int.dvd_of_emod_eq_zero (h4 x hx).2
theorem fam_all : basesL.all (fun b => someL.all fun S => famT b (lcmL S) (headsF b S)) = true := by decide +kernel
theorem fam_ok (p : Pu) : FamH (famB p) (lcmL (famS p)) (famH p) := by
  have h1 := List.all_eq_true.mp fam_all (famB p) (pk_mem (by decide))
  exact famT_ok (List.all_eq_true.mp h1 (famS p) (pk_mem (by decide)))
/-! a rule -/
def kindsL : List Str := ["inside", "cover", "length", "inside", "cover"]
def mostsL : List Int := [1, 2, 3, 4, 5, 2, 3]
def hdF (p : Pu) : List Int → List Int
  | [] => []
  | h :: H => if 0 < drV p 3 then h :: hdF (drP p 3) H else hdF (drP p 3) H
def hdP (p : Pu) : List Int → Pu
  | [] => p
  | _ :: H => hdP (drP p 3) H
def ruH (p : Pu) (H : List Int) : List Int := if hdF (drP p 5) H = [] then [pk (hdP (drP p 5) H) H] else hdF (drP p 5) H
def ruQ (p : Pu) (H : List Int) : Pu := if hdF (drP p 5) H = [] then drP (hdP (drP p 5) H) H.length else hdP (drP p 5) H
def ruF (p : Pu) (b : Int) (H : List Int) : Ru := ⟨b, pk p kindsL, ruH p H, pk (ruQ p H) mostsL + if pk p kindsL = "cover" then 1 else 0⟩
def ruP (p : Pu) (H : List Int) : Pu := drP (ruQ p H) 7
section
variable {p : Pu} {k b la : Int} {H : List Int}
theorem hdF_sub : ∀ (H : List Int) (p : Pu), (hdF p H).Sublist H
  | [], _ => List.Sublist.slnil
  | h :: H, p => by
    unfold hdF
    split
    · exact List.Sublist.cons_cons _ (hdF_sub H _)
    · exact List.Sublist.cons _ (hdF_sub H _)
theorem hdP_n : ∀ (H : List Int) (p : Pu) (k : Int), PuN k p → PuN (k + H.length) (hdP p H)
  | [], p, k, h => by
    show PuN (k + 0) p
    rw [Int.add_zero]
    exact h
  | x :: H, p, k, h => by
    have := hdP_n H (drP p 3) (k + 1) (h.dr (by decide))
    show PuN _ (hdP (drP p 3) H)
    refine this.mono ?_
    rw [List.length_cons]
    omega
theorem ruH_sub (hne : H ≠ []) : ∀ h ∈ ruH p H, h ∈ H := fun h hh => by
  unfold ruH at hh
  split at hh
  · rw [List.mem_singleton.mp hh]
    exact pk_mem hne
  · exact (hdF_sub H _).subset hh
theorem ruH_fam (f : FamH b la H) : FamH b la (ruH p H) := by
  have sb := ruH_sub (p := p) f.ne
  refine ⟨?_, ?_, ?_, fun h hh => f.h1 h (sb h hh), fun h hh => f.dv h (sb h hh), f.la1, f.la30, f.b2, f.b10⟩
  · unfold ruH
    split
    · simp
    · assumption
  · unfold ruH
    split
    · simp
    · exact Nat.le_trans (hdF_sub H _).length_le f.len
  · unfold ruH
    split
    · simp
    · exact f.asc.sublist (hdF_sub H _)
theorem ruF_ok (f : FamH b la H) : (ruF p b H).Ok := by
  have g := ruH_fam (p := p) f
  have k1 : pk p kindsL ∈ kindsL := pk_mem (by decide)
  have m1 : pk (ruQ p H) mostsL ∈ mostsL := pk_mem (by decide)
  have m2 : ∀ m ∈ mostsL, 1 ≤ m ∧ m ≤ 5 := by decide
  have m3 := m2 _ m1
  refine ⟨f.b2, f.b10, ?_, g.ne, g.len, g.asc, g.h1, ?_, ?_, fun e => ?_⟩
  · have : ∀ x ∈ kindsL, x = "inside" ∨ x = "cover" ∨ x = "length" := by decide
    exact this _ k1
  · show 1 ≤ pk (ruQ p H) mostsL + if pk p kindsL = "cover" then 1 else 0
    split <;> omega
  · show (pk (ruQ p H) mostsL + if pk p kindsL = "cover" then 1 else 0) ≤ 6
    split <;> omega
  · show 2 ≤ pk (ruQ p H) mostsL + if pk p kindsL = "cover" then 1 else 0
    rw [if_pos (show pk p kindsL = "cover" from e)]
    omega
theorem ruP_n (hk : PuN k p) (f : FamH b la H) : PuN (k + 7) (ruP p H) := by
  have h1 := hk.dr (n := 5) (by decide)
  have h2 := hdP_n H _ _ h1
  have hl := f.len
  have hp := List.length_pos_iff.mpr f.ne
  unfold ruP ruQ
  split
  · exact ((h2.dr (n := (H.length : Int)) (by omega)).dr (by decide)).mono (by omega)
  · exact (h2.dr (by decide)).mono (by omega)
end
/-! the rules -/
def rusF (b : Int) (H : List Int) : Nat → Pu → List Ru
  | 0, _ => []
  | n + 1, p => ruF p b H :: rusF b H n (ruP p H)
def rusP (H : List Int) : Nat → Pu → Pu
  | 0, p => p
  | n + 1, p => rusP H n (ruP p H)
def manyL : List Int := [1, 1, 2, 2, 3]
def manyF (p : Pu) : Nat := (pk (famP p) manyL).toNat
def cut3 (r : Ru) : Ru := ⟨r.b, r.k, r.hs.take 1, if 3 < r.m then 3 else r.m⟩
def rulesF (p : Pu) : List Ru := if manyF p = 3 then (rusF (famB p) (famH p) (manyF p) (drP (famP p) 5)).map cut3 else rusF (famB p) (famH p) (manyF p) (drP (famP p) 5)
def rulesP (p : Pu) : Pu := rusP (famH p) (manyF p) (drP (famP p) 5)
section
variable {p : Pu} {k b la : Int} {H : List Int}
theorem rus_len : ∀ (n : Nat) (p : Pu), (rusF b H n p).length = n
  | 0, _ => rfl
  | n + 1, p => by show (rusF b H n _).length + 1 = n + 1; rw [rus_len n]
theorem rus_mem : ∀ (n : Nat) (p : Pu), ∀ r ∈ rusF b H n p, ∃ q, r = ruF q b H
  | 0, _, _, h => nomatch h
  | n + 1, p, r, h => by
    rcases List.mem_cons.mp h with rfl | h
    · exact ⟨p, rfl⟩
    · exact rus_mem n _ r h
theorem rusP_n (f : FamH b la H) : ∀ (n : Nat) (p : Pu) (k : Int), PuN k p → PuN (k + 7 * n) (rusP H n p)
  | 0, p, k, h => by
    show PuN (k + 7 * 0) p
    rw [Int.mul_zero, Int.add_zero]
    exact h
  | n + 1, p, k, h => by
    show PuN _ (rusP H n (ruP p H))
    exact (rusP_n f n _ _ (ruP_n h f)).mono (by push_cast; omega)
theorem many_in (p : Pu) : manyF p = 1 ∨ manyF p = 2 ∨ manyF p = 3 := by
  have h : pk (famP p) manyL ∈ manyL := pk_mem (by decide)
  have : ∀ m ∈ manyL, m.toNat = 1 ∨ m.toNat = 2 ∨ m.toNat = 3 := by decide
  exact this _ h
theorem many_pk (p : Pu) : pk (famP p) manyL = (manyF p : Int) := by
  have h : pk (famP p) manyL ∈ manyL := pk_mem (by decide)
  have : ∀ m ∈ manyL, m = (m.toNat : Int) := by decide
  exact this _ h
theorem cut3_ok {r : Ru} (ho : r.Ok) : (cut3 r).Ok := by
  have m1 := ho.m1
  have tk : ∀ h ∈ r.hs.take 1, h ∈ r.hs := fun h hh => List.mem_of_mem_take hh
  refine ⟨ho.b2, ho.b10, ho.kk, ?_, ?_, ho.asc.sublist (List.take_sublist _ _), fun h hh => ho.h1 h (tk h hh), ?_, ?_, fun e => ?_⟩
  · show r.hs.take 1 ≠ []
    cases e : r.hs with
    | nil => exact absurd e ho.ne
    | cons x xs => simp
  · show (r.hs.take 1).length ≤ 4
    rw [List.length_take]
    omega
  · show 1 ≤ if 3 < r.m then 3 else r.m
    split <;> omega
  · show (if 3 < r.m then 3 else r.m) ≤ 6
    split <;> omega
  · show 2 ≤ if 3 < r.m then 3 else r.m
    have := ho.mc e
    split <;> omega
theorem rulesF_ok (p : Pu) : Rls (famB p) (lcmL (famS p)) (rulesF p) := by
  have f := fam_ok p
  have base : ∀ r ∈ rusF (famB p) (famH p) (manyF p) (drP (famP p) 5), r.Ok ∧ r.b = famB p ∧ ∀ h ∈ r.hs, h ∣ lcmL (famS p) := fun r hr => by
    obtain ⟨q, rfl⟩ := rus_mem _ _ r hr
    exact ⟨ruF_ok f, rfl, (ruH_fam (p := q) f).dv⟩
  have ln := rus_len (b := famB p) (H := famH p) (manyF p) (drP (famP p) 5)
  have mi := many_in p
  unfold rulesF
  split
  · rename_i m3
    refine ⟨⟨fun r hr => ?_, fun r hr => ?_, f.la1, f.la30, fun r hr h hh => ?_, f.b2, f.b10⟩, ?_, 1, ?_, ?_, fun r hr => ?_⟩
    · obtain ⟨r', hr', rfl⟩ := List.mem_map.mp hr
      exact cut3_ok (base r' hr').1
    · obtain ⟨r', hr', rfl⟩ := List.mem_map.mp hr
      exact (base r' hr').2.1
    · obtain ⟨r', hr', rfl⟩ := List.mem_map.mp hr
      exact (base r' hr').2.2 h (List.mem_of_mem_take hh)
    · intro e
      have := congrArg List.length e
      rw [List.length_map, ln] at this
      simp at this
      omega
    · rw [List.length_map, ln]; omega
    · rw [List.length_map, ln]; omega
    · obtain ⟨r', hr', rfl⟩ := List.mem_map.mp hr
      show (r'.hs.take 1).length ≤ 1
      rw [List.length_take]
      omega
  · refine ⟨⟨fun r hr => (base r hr).1, fun r hr => (base r hr).2.1, f.la1, f.la30, fun r hr => (base r hr).2.2, f.b2, f.b10⟩, ?_, 4, ?_, ?_, fun r hr => (base r hr).1.len⟩
    · intro e
      have := congrArg List.length e
      rw [ln] at this
      simp at this
      omega
    · rw [ln]; omega
    · rw [ln]; omega
theorem rulesP_n (hk : PuN k p) : PuN (k + 24) (rulesP p) := by
  have h1 : PuN (k + 1 + 1 + 1) (drP (famP p) 5) := ((hk.dr (by decide)).dr (by decide)).dr (by decide)
  have mi := many_in p
  exact (rusP_n (fam_ok p) (manyF p) _ _ h1).mono (by omega)
end
/-! a tree -/
def timesL (b : Int) : List (Int × Int) := [(1, 1), (1, 1), (2, 1), (1, 2), (5, 2), (1, b), (2, 4)]
def lowsL : List Bool := [true, false]
def hisL (lo m : Int) : List (Option Int) := [none, some lo, some lo, some (lo + 1), some m]
section
variable (p : Pu) (rs : List Ru)
def atR : Ru := pk p rs
def atO : Ru := pk (drP p rs.length) rs
def atK : Int := drV (drP (drP p rs.length) rs.length) 9
def atQ : Pu := drP (drP (drP p rs.length) rs.length) 9
def atLo : Int := drV (atQ p rs) ((atR p rs).m + 2)
def atQ2 : Pu := drP (atQ p rs) ((atR p rs).m + 2)
def atomF : LT :=
  if atK p rs = 0 then .every (atR p rs).b
  else if atK p rs < 4 then .counted (atR p rs) (atLo p rs) (pk (atQ2 p rs) (hisL (atLo p rs) (atR p rs).m))
  else if atK p rs = 4 then .taken (atR p rs) (pk (atQ p rs) (atR p rs).hs)
  else if atK p rs < 7 then .coarser (atR p rs) (atO p rs) (pk (atQ p rs) (timesL (atR p rs).b)).1 (pk (atQ p rs) (timesL (atR p rs).b)).2
  else .touched (atR p rs) (pk (atQ p rs) lowsL)
def atomP : Pu :=
  if atK p rs = 0 then atQ p rs
  else if atK p rs < 4 then drP (atQ2 p rs) 5
  else if atK p rs = 4 then drP (atQ p rs) (atR p rs).hs.length
  else if atK p rs < 7 then drP (atQ p rs) 7
  else drP (atQ p rs) 2
def wordsL : List Str := ["and", "or", "less", "either", "not", "and"]
def treeF : LT := if pk p wordsL = "not" then .nt (atomF (drP p 6) rs) else .two (pk p wordsL) (atomF (drP p 6) rs) (atomF (atomP (drP p 6) rs) rs)
def treeP : Pu := if pk p wordsL = "not" then atomP (drP p 6) rs else atomP (atomP (drP p 6) rs) rs
end
/-- the rules that a law's tree names -/
def LT.rus : LT → List Ru
  | .every _ => []
  | .counted r _ _ => [r]
  | .taken r _ => [r]
  | .coarser r s _ _ => [r, s]
  | .touched r _ => [r]
  | .nt a => a.rus
  | .two _ a b => a.rus ++ b.rus
section
variable {p : Pu} {rs : List Ru} {k b la : Int}
theorem atR_mem (h : rs ≠ []) : atR p rs ∈ rs := pk_mem h
theorem atO_mem (h : rs ≠ []) : atO p rs ∈ rs := pk_mem h
theorem atQ_n (h : rs ≠ []) (hk : PuN k p) : PuN (k + 3) (atQ p rs) := by
  have hl := List.length_pos_iff.mpr h
  exact (((hk.dr (n := (rs.length : Int)) (by omega)).dr (n := (rs.length : Int)) (by omega)).dr (by decide)).mono (by omega)
theorem atQ2_n (f : Rls b la rs) (hk : PuN k p) : PuN (k + 4) (atQ2 p rs) := by
  have m1 := (f.fam.ok _ (atR_mem (p := p) f.ne)).m1
  exact ((atQ_n f.ne hk).dr (by omega)).mono (by omega)
theorem atomP_n (f : Rls b la rs) (hk : PuN k p) : PuN (k + 5) (atomP p rs) := by
  have q := atQ_n f.ne hk
  have ho := f.fam.ok _ (atR_mem (p := p) f.ne)
  have hl := List.length_pos_iff.mpr ho.ne
  unfold atomP
  split
  · exact q.mono (by omega)
  · split
    · exact ((atQ2_n f hk).dr (by decide)).mono (by omega)
    · split
      · exact (q.dr (by omega)).mono (by omega)
      · split
        · exact (q.dr (by decide)).mono (by omega)
        · exact (q.dr (by decide)).mono (by omega)
theorem treeP_n (f : Rls b la rs) (hk : PuN k p) : PuN (k + 11) (treeP p rs) := by
  have h1 := atomP_n f (hk.dr (n := 6) (by decide))
  unfold treeP
  split
  · exact h1.mono (by omega)
  · exact (atomP_n f h1).mono (by omega)
/-- a tree of at most two atoms over the rules -/
structure TreeOk (b : Int) (rs : List Ru) (t : LT) : Prop where
  fine : t.Fine b
  rus : ∀ r ∈ t.rus, r ∈ rs
  dp : t.dp ≤ 1
  atm : t.atom = true ∨ (∃ a, t = .nt a ∧ a.atom = true) ∨ ∃ w a c, t = .two w a c ∧ a.atom = true ∧ c.atom = true
theorem atomF_atom : (atomF p rs).atom = true := by
  unfold atomF
  split
  · rfl
  · split
    · rfl
    · split
      · rfl
      · split <;> rfl
theorem atom_dp {t : LT} (h : t.atom = true) : t.dp = 0 := by
  cases t with
  | nt a => exact nomatch h
  | two w a c => exact nomatch h
  | _ => rfl
theorem atomF_fine (f : Rls b la rs) : (atomF p rs).Fine b ∧ ∀ r ∈ (atomF p rs).rus, r ∈ rs := by
  have mr := atR_mem (p := p) f.ne
  have mo := atO_mem (p := p) f.ne
  have ho := f.fam.ok _ mr
  have hb := f.fam.one _ mr
  have ho2 := f.fam.ok _ mo
  have hb2 := f.fam.one _ mo
  have m1 := ho.m1
  have m6 := ho.m6
  have one : ∀ r ∈ [atR p rs], r ∈ rs := fun r h => by rw [List.mem_singleton.mp h]; exact mr
  have lo := drV_in (atQ p rs) (n := (atR p rs).m + 2) (by omega)
  unfold atomF
  split
  · exact ⟨⟨hb, f.fam.b2⟩, fun r h => nomatch h⟩
  · split
    · refine ⟨⟨ho, hb, lo.1, fun j hj => ?_⟩, one⟩
      have hm : pk (atQ2 p rs) (hisL (atLo p rs) (atR p rs).m) ∈ hisL (atLo p rs) (atR p rs).m := pk_mem (by unfold hisL; simp)
      rw [hj] at hm
      have lo1 : 0 ≤ atLo p rs := lo.1
      unfold hisL at hm
      simp at hm
      omega
    · split
      · exact ⟨⟨ho, hb, pk_mem ho.ne⟩, one⟩
      · split
        · have hm : pk (atQ p rs) (timesL (atR p rs).b) ∈ timesL (atR p rs).b := pk_mem (by unfold timesL; simp)
          have b2 := ho.b2
          have b10 := ho.b10
          have rg : (1 ≤ (pk (atQ p rs) (timesL (atR p rs).b)).1 ∧ (pk (atQ p rs) (timesL (atR p rs).b)).1 < 1000) ∧ (1 ≤ (pk (atQ p rs) (timesL (atR p rs).b)).2 ∧ (pk (atQ p rs) (timesL (atR p rs).b)).2 < 1000) := by
            generalize pk (atQ p rs) (timesL (atR p rs).b) = z at hm
            unfold timesL at hm
            simp only [List.mem_cons, List.not_mem_nil, or_false] at hm
            rcases hm with rfl | rfl | rfl | rfl | rfl | rfl | rfl <;> refine ⟨⟨?_, ?_⟩, ?_, ?_⟩ <;> simp <;> omega
          refine ⟨⟨ho, ho2, hb, hb2, rg.1, rg.2⟩, fun r h => ?_⟩
          rcases List.mem_cons.mp h with rfl | h
          · exact mr
          · rw [List.mem_singleton.mp h]; exact mo
        · exact ⟨⟨ho, hb⟩, one⟩
theorem atomF_ok (f : Rls b la rs) : TreeOk b rs (atomF p rs) := ⟨(atomF_fine f).1, (atomF_fine f).2, by rw [atom_dp atomF_atom]; omega, .inl atomF_atom⟩
theorem treeF_ok (f : Rls b la rs) : TreeOk b rs (treeF p rs) := by
  have a1 := atomF_fine (p := drP p 6) f
  have a2 := atomF_fine (p := atomP (drP p 6) rs) f
  unfold treeF
  split
  · exact ⟨a1.1, a1.2, by show (atomF (drP p 6) rs).dp + 1 ≤ 1; rw [atom_dp atomF_atom]; omega, .inr (.inl ⟨_, rfl, atomF_atom⟩)⟩
  · rename_i hn
    have hm : pk p wordsL ∈ wordsL := pk_mem (by decide)
    have hw : ∀ x ∈ wordsL, ¬ x = "not" → x = "and" ∨ x = "or" ∨ x = "less" ∨ x = "either" := by decide
    refine ⟨⟨hw _ hm hn, a1.1, a2.1⟩, fun r h => ?_, ?_, .inr (.inr ⟨_, _, _, rfl, atomF_atom, atomF_atom⟩)⟩
    · rcases List.mem_append.mp h with h | h
      · exact a1.2 r h
      · exact a2.2 r h
    · show (atomF (drP p 6) rs).dp + (atomF (atomP (drP p 6) rs) rs).dp + 1 ≤ 1
      rw [atom_dp atomF_atom, atom_dp atomF_atom]
      omega
end
/-! a length -/
def powsL : List Int := [20, 21, 9]
section
variable (p : Pu) (r : Ru)
def leH : Int := pk p r.hs
def leE : Int := pk (drP p r.hs.length) powsL
def leQ : Pu := drP (drP p r.hs.length) 3
def leA : Int := drV (leQ p r) 9
def leM : Int := pk (drP (leQ p r) 9) [r.m, r.m + 1, 1 + leA p r]
def leZ : Int := drV (drP (drP (leQ p r) 9) 3) 3
def lenF : Int := leH p r * r.b ^ (leE p r).toNat * leM p r + leZ p r
def lenP : Pu := drP (drP (drP (leQ p r) 9) 3) 3
end
section
variable {p : Pu} {r : Ru} {k : Int}
theorem pow_base {a c : Int} (h0 : 0 ≤ a) (h : a ≤ c) : ∀ n : Nat, 0 ≤ a ^ n ∧ a ^ n ≤ c ^ n
  | 0 => ⟨by rw [Int.pow_zero]; decide, by rw [Int.pow_zero, Int.pow_zero]; exact Int.le_refl _⟩
  | n + 1 => by
    obtain ⟨i, j⟩ := pow_base h0 h n
    rw [Int.pow_succ, Int.pow_succ]
    exact ⟨Int.mul_nonneg i h0, Int.mul_le_mul j h h0 (by omega)⟩
theorem leE_in : leE p r = 20 ∨ leE p r = 21 ∨ leE p r = 9 := by
  have h : leE p r ∈ powsL := pk_mem (by decide)
  have : ∀ x ∈ powsL, x = 20 ∨ x = 21 ∨ x = 9 := by decide
  exact this _ h
theorem lenF_in (ho : r.Ok) : (1 ≤ leH p r ∧ leH p r ≤ 25) ∧ (1 ≤ leM p r ∧ leM p r ≤ 9) ∧ (0 ≤ leZ p r ∧ leZ p r ≤ 2) ∧ 512 ≤ r.b ^ (leE p r).toNat ∧ r.b ^ (leE p r).toNat ≤ 10 ^ 21 ∧ 512 ≤ lenF p r ∧ lenF p r < 2 ^ 145 := by
  have h1 := ho.h1 _ (pk_mem (p := p) ho.ne)
  have hh : 1 ≤ leH p r ∧ leH p r ≤ 25 := ⟨h1.1, h1.2.1⟩
  have a := drV_in (leQ p r) (n := 9) (by decide)
  have z := drV_in (drP (drP (leQ p r) 9) 3) (n := 3) (by decide)
  have z' : 0 ≤ leZ p r ∧ leZ p r ≤ 2 := ⟨z.1, by have : leZ p r < 3 := z.2; omega⟩
  have m1 := ho.m1
  have m6 := ho.m6
  have b2 := ho.b2
  have b10 := ho.b10
  have hm : 1 ≤ leM p r ∧ leM p r ≤ 9 := by
    have h : leM p r ∈ [r.m, r.m + 1, 1 + leA p r] := pk_mem (by simp)
    have a' : 0 ≤ leA p r ∧ leA p r < 9 := a
    simp only [List.mem_cons, List.not_mem_nil, or_false] at h
    omega
  have e : 9 ≤ (leE p r).toNat ∧ (leE p r).toNat ≤ 21 := by have := leE_in (p := p) (r := r); omega
  have l1 : (512 : Int) ≤ r.b ^ (leE p r).toNat := by
    have q1 := pow_two_le b2 9
    have q2 := pow_mono b2 e.1
    omega
  have l2 : r.b ^ (leE p r).toNat ≤ 10 ^ 21 := by
    have q2 := pow_mono b2 e.2
    have q3 : r.b ^ 21 ≤ 10 ^ 21 := (pow_base (by omega) b10 21).2
    exact Int.le_trans q2 q3
  refine ⟨hh, hm, z', l1, l2, ?_, ?_⟩
  · have s1 : 1 * r.b ^ (leE p r).toNat ≤ leH p r * r.b ^ (leE p r).toNat := Int.mul_le_mul_of_nonneg_right hh.1 (by omega)
    have s2 : leH p r * r.b ^ (leE p r).toNat * 1 ≤ leH p r * r.b ^ (leE p r).toNat * leM p r := Int.mul_le_mul_of_nonneg_left hm.1 (by omega)
    unfold lenF
    omega
  · have s1 : leH p r * r.b ^ (leE p r).toNat ≤ 25 * 10 ^ 21 := Int.mul_le_mul hh.2 l2 (by omega) (by decide)
    have s2 : leH p r * r.b ^ (leE p r).toNat * leM p r ≤ 25 * 10 ^ 21 * 9 := Int.mul_le_mul s1 hm.2 (by omega) (by decide)
    unfold lenF
    omega
theorem lenP_n (ho : r.Ok) (hk : PuN k p) : PuN (k + 5) (lenP p r) := by
  have hl := List.length_pos_iff.mpr ho.ne
  exact (((((hk.dr (n := (r.hs.length : Int)) (by omega)).dr (n := 3) (by decide)).dr (n := 9) (by decide)).dr (n := 3) (by decide)).dr (n := 3) (by decide)).mono (by omega)
end
end Ax
namespace Ax
open PySem PySem.Spec L2
section
variable {X : Cx} {G G0 G1 G2 G' : List Sl} {e it tg elt a b c : Expr} {es ts ifs : List Expr} {x d : D} {xs ds res : List D} {is js vs : List Nat} {pos pos' p : Pos} {E : DEnds} {body : List Stmt} {scope : Scope} {k n : Nat} {f : Str}
/-- element by element, the walked list may have changed the state -/
theorem lckG (hi : DI X G tg it ds G0) (f : D → Bool) (g : D → D) (free : Free G0 vs) (hl : ds.length ≤ 1000000)
    (turn : ∀ x ∈ ds, ∃ G1 is, (∀ X', Bk X scope X' → DG X' G0 tg x G1 is) ∧ (∀ i ∈ is, i ∈ vs) ∧ unG vs G1 = G0 ∧ (∀ X', Bk X scope X' → DTs X' G1 ifs (f x) G1) ∧ (f x = true → ∀ X', Bk X scope X' → DE X' G1 elt (g x) G1)) : LCk X G tg it ifs elt scope vs ((ds.filter f).map g) G0 := by
  refine ⟨ds, G0, hi, hl, fun i acc G' => G' = G0 ∧ acc = ((ds.take i).filter f).map g, ⟨rfl, rfl⟩, fun i acc G' p => p.1 ▸ free, fun i x acc G' hx p => ?_, fun acc G2 p => ⟨by rw [p.2, List.take_length], p.1⟩⟩
  obtain ⟨rfl, rfl⟩ := p
  obtain ⟨G1, is, t1, t2, t3, t4, t5⟩ := turn x (List.mem_of_getElem? hx)
  have ht : ds.take (i + 1) = ds.take i ++ [x] := by rw [List.take_succ, hx]; rfl
  refine ⟨G1, is, f x, G1, t1, t2, t4, ?_⟩
  cases q : f x with
  | true => exact .inl ⟨rfl, g x, G1, t5 q, t3, by rw [ht, List.filter_append, List.map_append]; simp [q, snoc]⟩
  | false => exact .inr ⟨rfl, t3, by rw [ht, List.filter_append, List.map_append]; simp [q, snoc]⟩
/-- a comprehension whose turns change the state -/
theorem lckS (hi : DI X G tg it ds G0) (S : Nat → List Sl) (R : Nat → List D) (h0 : S 0 = G0) (r0 : R 0 = []) (free : ∀ i, Free (S i) vs) (hl : ds.length ≤ 1000000)
    (turn : ∀ i x, ds[i]? = some x → LcTurn X scope vs tg ifs elt x (S i) fun o G3 => snoc (R i) o = R (i + 1) ∧ G3 = S (i + 1)) (hr : R ds.length = res) (hg : S ds.length = G') : LCk X G tg it ifs elt scope vs res G' := by
  subst hr hg
  refine ⟨ds, G0, hi, hl, fun i acc G' => G' = S i ∧ acc = R i, ⟨h0.symm, r0.symm⟩, fun i acc G' p => p.1 ▸ free i, fun i x acc G' hx p => ?_, fun acc G2 p => ⟨p.2, p.1⟩⟩
  obtain ⟨rfl, rfl⟩ := p
  obtain ⟨G1, is, b, G2, t1, t2, t3, t4⟩ := turn i x hx
  refine ⟨G1, is, b, G2, t1, t2, t3, ?_⟩
  rcases t4 with ⟨e, y, G3, t5, t6, t7⟩ | ⟨e, t6, t7⟩
  · exact .inl ⟨e, y, G3, t5, t7, t6⟩
  · exact .inr ⟨e, t7, t6⟩
/-- the same, where the arguments may have changed the list already -/
theorem de_callQ (i : Nat) {ln : Str} {px : Pos} {pa : Addr} {ps0 ps ps' : List D} {rel : List D → List D → D → List D → Prop} (F : FnU X.prog X.w X.K X.mg X.base k f n rel) (hr : Room k X.A) (ha : DA X G es ds G') (hrel : rel ps ds d ps') (hgi : G[i]? = some (.pl pa ps0)) (hgi' : G'[i]? = some (.pl pa ps)) (hn : ds.length = n := by rfl) (hN : X.N[i]? = some ln := by rfl) (hv : Vis X.env.scope ln := by first | exact Or.inl rfl | exact Or.inr (Or.inl rfl) | exact Or.inr (Or.inr rfl))
    (hd : (ln == ("__debug__" : Str)) = false := by decide) (hcd : (ln == ("__classdict__" : Str)) = false := by decide) (hg : Gl X f := by rfl) (hdb : (f == ("__debug__" : Str)) = false := by decide)
    (he : starEach (.Name ln px :: es) X.env = (false, eval (.Name ln px) X.env) :: starEach es X.env := by rfl) (hpl : (backTo pos (starEach es X.env)).any (·.1) = false := by rfl) : DE X G (.Call (.Name f p) (.Name ln px :: es) [] pos) d (G'.set i (.pl pa ps')) := by
  obtain ⟨fa, fd, pn, hm, hk, ok, hb⟩ := F.ex
  exact .of (pe_call ok hr hg hm hk hb .nil pass0 (pa_cons (pe_var hN hv hd hcd) pa_D he) hdb he hpl) fun σ H R B hh => by
    obtain ⟨o', e0, vs0, rfl, hR0, hB0, hH0, al0⟩ := hh.sl i _ hgi
    refine ⟨_, e0, ha.use hh fun vs H1 B1 h1 e1 a1 => ?_⟩
    obtain ⟨o'', e0', vs1, rfl, hR, hB, hH, al⟩ := h1.sl i _ hgi'
    refine ⟨B1, pa, vs1, ps, vs, ds, d, ps', by rw [List.append_nil], h1.exB, hB, hH, al, a1, hn, hrel, fun v H' B' pv' k1 k2 k3 k4 k5 k6 k7 k8 => ?_⟩
    -- the rest stands, the list has changed
    have h2 : Hld X.K R B' (upd H' pa (.lst pv')) σ (G'.set i (.pl pa ps')) := by
      have hj : Hld X.K R B' (upd H' pa (.lst vs1)) σ G' := h1.up k4 (fun q u e => by
        by_cases hq : q = pa
        · subst hq; rw [upd_same, ← hH]; exact e
        · rw [upd_ne hq]; exact k1 q u e hq) (fun q u e => by
        have : q ≠ pa := fun z => by rw [z, k7] at e; cases e
        rw [upd_ne this]; exact k5 q u e) k6
      have hm := hj.mut (u := .lst pv') (g' := .pl pa ps') hgi' rfl e0 rfl (.pl hR k7 upd_same k3)
      rw [upd_upd] at hm
      exact hm
    have e3 : upd H' pa (.lst pv') = H' := by
      funext q
      by_cases hq : q = pa
      · subst hq; rw [upd_same, k2]
      · rw [upd_ne hq]
    rw [e3] at h2
    exact ⟨B', h2, e1.trans k4, k8⟩
end
end Ax
namespace Ax
open PySem PySem.Spec L2
def rDraw : List D → List D → D → List D → Prop := fun ps ds d ps' => ∃ (p : Pu) (n k : Int), ps = p.ds ∧ ds = [.int n] ∧ 0 < n ∧ n < 1000 ∧ PuN k p ∧ k ≤ 1000 ∧ d = .int (drV p n) ∧ ps' = (drP p n).ds
def rPick : List D → List D → D → List D → Prop := fun ps ds d ps' => ∃ (p : Pu) (xs : List D) (k : Int), ps = p.ds ∧ ds = [.lst xs] ∧ 0 < xs.length ∧ xs.length < 1000 ∧ PuN k p ∧ k ≤ 1000 ∧ atI xs (drV p xs.length) = some d ∧ ps' = (drP p xs.length).ds
section
variable {P : Program} {w : World} {K : PySem.W.Frag} {mg : Str → Option Value} {base : Heap}
theorem sc_law_draw : FnScope ["_law_purse_here", "_law_many", "_law_drawn", "_law_turn", "_law_number"] ["_law_purse_here", "_law_many"] (defScope s_law_draw) := ⟨rfl, rfl, rfl, by decide +kernel, rfl, by decide +kernel, by decide +kernel⟩
theorem ok_law_draw (T : Tp K mg) : FnU P w K mg base 1 "_law_draw" 1 rDraw := by
  obtain ⟨fd, F⟩ := T.d_law_draw
  refine fnU_mk T.g_law_draw F sc_law_draw rfl (F.bindsN fun _ _ _ _ _ _ us hl => match us, hl with | [_, _], _ => rfl) fun cdv A outer s H E hr pa pv ds d pv' h hl => ?_
  obtain ⟨p, n, k, rfl, rfl, n0, n1, pn, k1, rfl, rfl⟩ := h
  obtain ⟨s0, c0, c1, t0, t1⟩ := pn
  refine dss_cons (ds_if (dt_cmp o_gt (de_ixP (d := .int p.s) 0 de_int) de_int) (fun hb => ?_) (fun hb => ?_))
  · have hs : 0 < p.s := of_decide_eq_true hb
    refine dss_cons (ds_set 2 (de_o (de_callTy c_int T.b_int bt_int (da_cons (de_ixP (d := .int p.s) 0 de_int) da_nil)) (de_var 1) (o_mod n0)) ?_ sc_law_draw.nd)
    refine dss_cons (ds_setixP 0 (j := 0) (de_o (de_ixP (d := .int p.s) 0 de_int) (de_var 1) (o_div (divW n0 (by omega)))) de_int ?_ rfl)
    refine dss_one (ds_ret (de_var 2) ⟨?_, ?_⟩)
    · unfold drV
      rw [if_pos hs]
    · unfold drP
      rw [if_pos hs]
      rfl
  · have hs : ¬ 0 < p.s := of_decide_eq_false hb
    have q0 : 0 ≤ (p.t + 1) * (p.t + 1) ∧ (p.t + 1) * (p.t + 1) ≤ 1001 * 1001 := ⟨Int.mul_nonneg (by omega) (by omega), Int.mul_le_mul (by omega) (by omega) (by omega) (by omega)⟩
    have a0 : 0 ≤ mixA p.c (p.t + 1) := Int.emod_nonneg _ (by decide)
    have a1 : mixA p.c (p.t + 1) < 2147483629 := Int.emod_lt_of_pos _ (by decide)
    refine dss_nil (dss_cons (ds_set 3 (de_op o_add (de_ixP (d := .int p.t) 0 de_int) de_int) ?_ sc_law_draw.nd))
    refine dss_cons (ds_setixP 0 (j := 2) (de_var 3) de_int ?_ rfl)
    refine dss_cons (ds_set 4 (de_o (de_callTy c_int T.b_int bt_int (da_cons (de_o (de_op o_add (de_ixP (d := .int p.c) 0 de_int) (de_o de_int (de_var 3) (o_mulS (.inl ⟨by omega, by omega⟩)))) (de_op o_add (de_o (de_var 3) (de_var 3) (o_mulS (.inl ⟨by omega, by omega⟩))) de_int) (o_mulS (.inl ⟨by omega, by omega⟩))) da_nil)) de_int (o_mod (by decide))) ?_ sc_law_draw.nd)
    refine dss_cons (ds_set 4 (de_o (de_callTy c_int T.b_int bt_int (da_cons (de_op o_add (de_o (de_var 4) (de_var 4) (o_mulS (.inl ⟨by unfold mixA at a0 a1; omega, by unfold mixA at a0 a1; omega⟩))) (de_var 3)) da_nil)) de_int (o_mod (by decide))) ?_ sc_law_draw.nd)
    refine dss_one (ds_ret (de_o (de_o (de_o (de_callTy c_int T.b_int bt_int (da_cons (de_o (de_var 4) de_int (o_mulS (.inr ⟨by decide, by decide⟩))) da_nil)) de_int (o_mod (by decide))) de_int (o_div (divW (by decide) (by decide)))) (de_var 1) (o_mod n0)) ⟨?_, ?_⟩)
    · unfold drV
      rw [if_neg hs]
      rfl
    · unfold drP
      rw [if_neg hs]
      rfl
theorem sc_law_pick : FnScope ["_law_purse_here", "_law_items"] ["_law_purse_here", "_law_items"] (defScope s_law_pick) := ⟨rfl, rfl, rfl, by decide +kernel, rfl, by decide +kernel, by decide +kernel⟩
theorem ok_law_pick (T : Tp K mg) : FnU P w K mg base 2 "_law_pick" 1 rPick := by
  obtain ⟨fd, F⟩ := T.d_law_pick
  refine fnU_mk T.g_law_pick F sc_law_pick rfl (F.bindsN fun _ _ _ _ _ _ us hl => match us, hl with | [_, _], _ => rfl) fun cdv A outer s H E hr pa pv ds d pv' h hl => ?_
  obtain ⟨p, xs, k, rfl, rfl, n0, n1, pn, k1, hd, rfl⟩ := h
  exact dss_one (ds_ret (de_ixL (de_var 1) (de_callP 0 (ok_law_draw T) (hr.mono (by decide)) (da_cons (de_callB c_len T.b_len bt_len (da_cons (de_var 1) da_nil)) da_nil) ⟨p, xs.length, k, rfl, rfl, by omega, by omega, pn, k1, rfl, rfl⟩ rfl rfl) hd) ⟨rfl, rfl⟩)
/-- what is asked of a pick -/
theorem picks {α : Type} [Inhabited α] {p : Pu} {k : Int} {xs : List α} (f : α → D) (hn : xs ≠ []) (hl : xs.length < 1000) (hp : PuN k p) (hk : k ≤ 1000) : rPick p.ds [.lst (xs.map f)] (f (pk p xs)) (drP p xs.length).ds :=
  ⟨p, xs.map f, k, rfl, rfl, by rw [List.length_map]; exact List.length_pos_iff.mpr hn, by rw [List.length_map]; exact hl, hp, hk, by rw [List.length_map]; exact pk_at hn, by rw [List.length_map]⟩
theorem draws {p : Pu} {k n : Int} (h0 : 0 < n) (h1 : n < 1000) (hp : PuN k p) (hk : k ≤ 1000) : rDraw p.ds [.int n] (.int (drV p n)) (drP p n).ds := ⟨p, n, k, rfl, rfl, h0, h1, hp, hk, rfl, rfl⟩
def famD (b : Int) (H : List Int) : D := .tup [.int b, .lst (H.map .int)]
def rFamily : List D → List D → D → List D → Prop := fun ps ds d ps' => ∃ (p : Pu) (k : Int), ps = p.ds ∧ ds = [] ∧ PuN k p ∧ k ≤ 900 ∧ d = famD (famB p) (famH p) ∧ ps' = (famP p).ds
theorem sc_law_family : FnScope ["_law_purse_here", "_law_base", "_law_some", "_law_family_here", "_law_one"] ["_law_purse_here"] (defScope s_law_family) := ⟨rfl, rfl, rfl, by decide +kernel, rfl, by decide +kernel, by decide +kernel⟩
def modB (b : Int) : D → Bool
  | .int i => decide (0 < i % b)
  | _ => false
theorem ok_law_family (T : Tp K mg) : FnU P w K mg base 3 "_law_family" 0 rFamily := by
  obtain ⟨fd, F⟩ := T.d_law_family
  refine fnU_mk T.g_law_family F sc_law_family rfl (F.bindsN fun _ _ _ _ _ _ us hl => match us, hl with | [_], _ => rfl) fun cdv A outer s H E hr pa pv ds d pv' h hl => ?_
  obtain ⟨p, k, rfl, rfl, pn, k1, rfl, rfl⟩ := h
  have hB : famB p ∈ basesL := pk_mem (by decide)
  have b1 : ∀ x ∈ basesL, 0 < x := by decide
  have b0 := b1 _ hB
  have hS : famS p ∈ someL := pk_mem (by decide)
  have s1 : ∀ x ∈ someL, x.length ≤ 4 := by decide
  have s2 := s1 _ hS
  refine dss_cons (ds_set 1 (de_callP 0 (ok_law_pick T) (hr.mono (by decide)) (da_cons (de_lst (da_cons de_int (da_cons de_int (da_cons de_int (da_cons de_int (da_cons de_int (da_cons de_int (da_cons de_int (da_cons de_int (da_cons de_int (da_cons de_int da_nil))))))))))) da_nil) (picks (xs := basesL) D.int (by decide) (by decide) pn (by omega)) rfl rfl) ?_ sc_law_family.nd)
  refine dss_cons (ds_set 2 (de_lst (da_cons (de_lst (da_cons de_int (da_cons de_int (da_cons de_int da_nil)))) (da_cons (de_lst (da_cons de_int (da_cons de_int (da_cons de_int (da_cons de_int da_nil))))) (da_cons (de_lst (da_cons de_int (da_cons de_int (da_cons de_int (da_cons de_int da_nil))))) (da_cons (de_lst (da_cons de_int (da_cons de_int (da_cons de_int da_nil)))) (da_cons (de_lst (da_cons de_int (da_cons de_int da_nil))) (da_cons (de_lst (da_cons de_int (da_cons de_int (da_cons de_int da_nil)))) (da_cons (de_lst (da_cons de_int (da_cons de_int da_nil))) (da_cons (de_lst (da_cons de_int (da_cons de_int (da_cons de_int da_nil)))) (da_cons (de_lst (da_cons de_int (da_cons de_int (da_cons de_int da_nil)))) da_nil)))))))))) ?_ sc_law_family.nd)
  refine dss_cons (ds_set 2 (de_o (de_var 2) (de_lst (da_cons (de_lst (da_cons de_int (da_cons de_int da_nil))) (da_cons (de_lst (da_cons de_int (da_cons de_int da_nil))) (da_cons (de_lst (da_cons de_int (da_cons de_int da_nil))) da_nil)))) (o_cat (by decide))) ?_ sc_law_family.nd)
  refine dss_cons (ds_lcK 3 [("_law_one", 4)] (lckG (di_list (de_callP 0 (ok_law_pick T) (hr.mono (by decide)) (da_cons (de_var 2) da_nil) (picks (xs := someL) (fun l => D.lst (l.map .int)) (by decide) (by decide) (pn.dr (n := 10) (by decide)) (by omega)) rfl rfl)) (modB (famB p)) (fun d => d) (freeC free0) (by rw [List.length_map]; exact Nat.le_trans s2 (by decide)) fun x hx => ?_) ?_ (blk_at ["_law_purse_here", "_law_base", "_law_some", "_law_family_here", "_law_one"] (defScope s_law_family)) sc_law_family.nd rfl (sw_true rfl rfl rfl (by decide +kernel)))
  · obtain ⟨y, hy, rfl⟩ := List.mem_map.mp hx
    exact ⟨_, _, bkAll fun _ _ _ _ _ => (dg_name 4 sc_law_family.nd), by decide, rfl, bkAll fun _ _ _ _ _ => (dts_one (dt_cmp o_gt (de_o (de_callTy c_int T.b_int bt_int (da_cons (de_var 4) da_nil)) (de_var 1) (o_mod b0)) de_int)), fun _ => bkAll fun _ _ _ _ _ => (de_var 4)⟩
  have eF : (((famS p).map D.int).filter (modB (famB p))).map (fun d => d) = ((famS p).filter fun x => decide (0 < x % famB p)).map D.int := by
    rw [List.map_id', List.filter_map]
    rfl
  rw [show (pk (drP p 10) someL) = famS p from rfl, eF]
  refine dss_cons (ds_if (dt_cmp (o_eqN ?_) (de_var 3) (de_lst da_nil)) (fun hb => ?_) (fun hb => ?_))
  · exact hr.units0
  · refine dss_one (ds_set 3 (de_lst (da_cons de_int da_nil)) ?_ sc_law_family.nd)
    refine dss_one (ds_ret (de_tup (da_cons (de_var 1) (da_cons (de_var 3) da_nil))) ⟨?_, rfl⟩)
    unfold famH headsF
    rw [List.isEmpty_map, List.isEmpty_iff] at hb
    rw [if_pos hb]
    rfl
  · refine dss_nil (dss_one (ds_ret (de_tup (da_cons (de_var 1) (da_cons (de_var 3) da_nil))) ⟨?_, rfl⟩))
    unfold famH headsF
    rw [List.isEmpty_map] at hb
    rw [if_neg (fun z => by rw [z] at hb; cases hb)]
    rfl
end
end Ax
namespace Ax
open PySem PySem.Spec L2
theorem hdP_snoc (x : Int) : ∀ (A : List Int) (p : Pu), hdP p (A ++ [x]) = drP (hdP p A) 3
  | [], _ => rfl
  | _ :: A, p => hdP_snoc x A (drP p 3)
theorem hdF_snoc (x : Int) : ∀ (A : List Int) (p : Pu), hdF p (A ++ [x]) = hdF p A ++ if 0 < drV (hdP p A) 3 then [x] else []
  | [], p => by
    show (if 0 < drV p 3 then [x] else []) = [] ++ if 0 < drV p 3 then [x] else []
    rfl
  | a :: A, p => by
    have ih := hdF_snoc x A (drP p 3)
    show (if 0 < drV p 3 then a :: hdF (drP p 3) (A ++ [x]) else hdF (drP p 3) (A ++ [x])) = (if 0 < drV p 3 then a :: hdF (drP p 3) A else hdF (drP p 3) A) ++ if 0 < drV (hdP (drP p 3) A) 3 then [x] else []
    rw [ih]
    split <;> rfl
theorem rusP_snoc (H : List Int) : ∀ (n : Nat) (p : Pu), rusP H (n + 1) p = ruP (rusP H n p) H
  | 0, _ => rfl
  | n + 1, p => rusP_snoc H n (ruP p H)
theorem rusF_snoc (b : Int) (H : List Int) : ∀ (n : Nat) (p : Pu), rusF b H (n + 1) p = rusF b H n p ++ [ruF (rusP H n p) b H]
  | 0, _ => rfl
  | n + 1, p => congrArg (ruF p b H :: ·) (rusF_snoc b H n (ruP p H))
def rLRule : List D → List D → D → List D → Prop := fun ps ds d ps' => ∃ (p : Pu) (b la : Int) (H : List Int) (k : Int), ps = p.ds ∧ ds = [famD b H] ∧ FamH b la H ∧ PuN k p ∧ k ≤ 950 ∧ d = (ruF p b H).lw ∧ ps' = (ruP p H).ds
def rLRules : List D → List D → D → List D → Prop := fun ps ds d ps' => ∃ (p : Pu) (k : Int), ps = p.ds ∧ ds = [] ∧ PuN k p ∧ k ≤ 900 ∧ d = .lst ((rulesF p).map Ru.lw) ∧ ps' = (rulesP p).ds
section
variable {P : Program} {w : World} {K : PySem.W.Frag} {mg : Str → Option Value} {base : Heap}
theorem sc_law_rule : FnScope ["_law_purse_here", "_law_family_here", "_law_base", "_law_some", "_law_kind", "_law_heads", "_law_one"] ["_law_purse_here", "_law_family_here"] (defScope s_law_rule) := ⟨rfl, rfl, rfl, by decide +kernel, rfl, by decide +kernel, by decide +kernel⟩
theorem ok_law_rule (T : Tp K mg) : FnU P w K mg base 3 "_law_rule" 1 rLRule := by
  obtain ⟨fd, F⟩ := T.d_law_rule
  refine fnU_mk T.g_law_rule F sc_law_rule rfl (F.bindsN fun _ _ _ _ _ _ us hl => match us, hl with | [_, _], _ => rfl) fun cdv A outer s H0 E hr pa pv ds d pv' h hl => ?_
  obtain ⟨p, b, la, H, k, rfl, rfl, f, pn, k1, rfl, rfl⟩ := h
  have hl4 := f.len
  have p1 := pn.dr (n := 5) (by decide)
  have pH := hdP_n H _ _ p1
  refine dss_cons (ds_unpack (de_var 1) (dg_tup (dgs_cons (dg_name 2 sc_law_rule.nd) (dgs_cons (dg_name 3 sc_law_rule.nd) dgs_nil)) rfl) ?_)
  refine dss_cons (ds_set 4 (de_callP 0 (ok_law_pick T) (hr.mono (by decide)) (da_cons (de_lst (da_cons de_str (da_cons de_str (da_cons de_str (da_cons de_str (da_cons de_str da_nil)))))) da_nil) (picks (xs := kindsL) D.str (by decide) (by decide) pn (by omega)) rfl rfl) ?_ sc_law_rule.nd)
  refine dss_cons (ds_lcK 5 [("_law_one", 6)] (lckS (di_list (de_var 3)) (fun i => [.pl pa (hdP (drP p 5) (H.take i)).ds, .d (famD b H), .d (.int b), .d (.lst (H.map .int)), .d (.str (pk p kindsL)), .un, .un]) (fun i => (hdF (drP p 5) (H.take i)).map D.int) rfl rfl (fun i => freeC free0) (by rw [List.length_map]; omega) (fun i x hx => ?_) (res := (hdF (drP p 5) H).map D.int) (G' := [.pl pa (hdP (drP p 5) H).ds, .d (famD b H), .d (.int b), .d (.lst (H.map .int)), .d (.str (pk p kindsL)), .un, .un]) (by rw [List.length_map, List.take_length]) (by rw [List.length_map, List.take_length])) ?_ (blk_at ["_law_purse_here", "_law_family_here", "_law_base", "_law_some", "_law_kind", "_law_heads", "_law_one"] (defScope s_law_rule)) sc_law_rule.nd rfl (sw_true rfl rfl rfl (by decide +kernel)))
  · rw [List.getElem?_map] at hx
    cases hi : H[i]? with
    | none => rw [hi] at hx; cases hx
    | some y =>
      rw [hi] at hx
      obtain rfl : D.int y = x := Option.some.inj hx
      have et : H.take (i + 1) = H.take i ++ [y] := by rw [List.take_succ, hi]; rfl
      have hq := hdP_n (H.take i) _ _ p1
      have hq2 : ((H.take i).length : Int) ≤ 4 := by rw [List.length_take]; omega
      refine ⟨_, _, decide (0 < drV (hdP (drP p 5) (H.take i)) 3), _, bkAll fun _ _ _ _ _ => (dg_name 6 sc_law_rule.nd), by decide, bkAll fun _ _ _ _ _ => (dts_one (dt_cmp o_gt (de_callP 0 (ok_law_draw T) (hr.mono (by decide)) (da_cons de_int da_nil) (draws (n := 3) (by decide) (by decide) hq (by omega)) rfl rfl) de_int)), ?_⟩
      by_cases c : 0 < drV (hdP (drP p 5) (H.take i)) 3
      · refine .inl ⟨decide_eq_true c, _, _, bkAll fun _ _ _ _ _ => (de_var 6), ?_, ?_⟩
        · rw [et, hdF_snoc, if_pos c, List.map_append]
          rfl
        · rw [et, hdP_snoc]
          rfl
      · refine .inr ⟨decide_eq_false c, ?_, ?_⟩
        · rw [et, hdF_snoc, if_neg c, List.append_nil]
          rfl
        · rw [et, hdP_snoc]
          rfl
  refine dss_cons (ds_if (dt_cmp (o_eqN hr.units0) (de_var 5) (de_lst da_nil)) (fun hb => ?_) (fun hb => ?_))
  · rw [List.isEmpty_map, List.isEmpty_iff] at hb
    have hq : ruQ p H = drP (hdP (drP p 5) H) H.length := by unfold ruQ; rw [if_pos hb]
    have hh : ruH p H = [pk (hdP (drP p 5) H) H] := by unfold ruH; rw [if_pos hb]
    have hp := List.length_pos_iff.mpr f.ne
    refine dss_one (ds_set 5 (de_lst (da_cons (de_callP 0 (ok_law_pick T) (hr.mono (by decide)) (da_cons (de_var 3) da_nil) (picks (xs := H) D.int f.ne (by omega) pH (by omega)) rfl rfl) da_nil)) ?_ sc_law_rule.nd)
    refine dss_one (ds_ret (de_tup (da_cons (de_var 2) (da_cons (de_var 4) (da_cons (de_var 5) (da_cons (de_op o_add (de_callP 0 (ok_law_pick T) (hr.mono (by decide)) (da_cons (de_lst (da_cons de_int (da_cons de_int (da_cons de_int (da_cons de_int (da_cons de_int (da_cons de_int (da_cons de_int da_nil)))))))) da_nil) (picks (xs := mostsL) D.int (by decide) (by decide) (pH.dr (n := (H.length : Int)) (by omega)) (by omega)) rfl rfl) (de_callTy c_intB T.b_int bt_int (da_cons (de_cmp o_eqS (de_var 4) de_str) da_nil))) da_nil))))) ⟨?_, ?_⟩)
    · unfold Ru.lw ruF
      rw [hh, hq]
      simp only [decide_eq_true_eq]
      rfl
    · unfold ruP
      rw [hq]
      rfl
  · rw [List.isEmpty_map] at hb
    have ne : ¬ hdF (drP p 5) H = [] := fun z => by rw [z] at hb; cases hb
    have hq : ruQ p H = hdP (drP p 5) H := by unfold ruQ; rw [if_neg ne]
    have hh : ruH p H = hdF (drP p 5) H := by unfold ruH; rw [if_neg ne]
    refine dss_nil (dss_one (ds_ret (de_tup (da_cons (de_var 2) (da_cons (de_var 4) (da_cons (de_var 5) (da_cons (de_op o_add (de_callP 0 (ok_law_pick T) (hr.mono (by decide)) (da_cons (de_lst (da_cons de_int (da_cons de_int (da_cons de_int (da_cons de_int (da_cons de_int (da_cons de_int (da_cons de_int da_nil)))))))) da_nil) (picks (xs := mostsL) D.int (by decide) (by decide) pH (by omega)) rfl rfl) (de_callTy c_intB T.b_int bt_int (da_cons (de_cmp o_eqS (de_var 4) de_str) da_nil))) da_nil))))) ⟨?_, ?_⟩))
    · unfold Ru.lw ruF
      rw [hh, hq]
      simp only [decide_eq_true_eq]
    · unfold ruP
      rw [hq]
      rfl
/-- the first head and at most three, by data -/
def cutLw : D → D
  | .tup [b, k, .lst hs, .int m] => .tup [b, k, .lst (cutD hs none (some 1)), .int (if 3 < m then 3 else m)]
  | d => d
theorem cutLw_eq {r : Ru} (hn : r.hs ≠ []) : cutLw r.lw = (cut3 r).lw := by
  have hp := List.length_pos_iff.mpr hn
  show D.tup [.int r.b, .str r.k, .lst (cutD (r.hs.map .int) none (some ((1 : Nat) : Int))), .int (if 3 < r.m then 3 else r.m)] = _
  rw [cut_take _ (by rw [List.length_map]; exact hp), ← List.map_take]
  rfl
theorem sc_law_rules : FnScope ["_law_purse_here", "_law_family_here", "_law_rules_here", "_law_turn", "_law_base", "_law_kind", "_law_heads", "_law_most"] ["_law_purse_here"] (defScope s_law_rules) := ⟨rfl, rfl, rfl, by decide +kernel, rfl, by decide +kernel, by decide +kernel⟩
theorem ok_law_rules (T : Tp K mg) : FnU P w K mg base 4 "_law_rules" 0 rLRules := by
  obtain ⟨fd, F⟩ := T.d_law_rules
  refine fnU_mk T.g_law_rules F sc_law_rules rfl (F.bindsN fun _ _ _ _ _ _ us hl => match us, hl with | [_], _ => rfl) fun cdv A outer s H0 E hr pa pv ds d pv' h hl => ?_
  obtain ⟨p, k, rfl, rfl, pn, k1, rfl, rfl⟩ := h
  have f := fam_ok p
  have mi := many_in p
  have mp := many_pk p
  have pf : PuN (k + 2) (famP p) := ((pn.dr (n := 10) (by decide)).dr (n := 12) (by decide)).mono (by omega)
  have ln := rus_len (b := famB p) (H := famH p) (manyF p) (drP (famP p) 5)
  refine dss_cons (ds_set 1 (de_callP 0 (ok_law_family T) (hr.mono (by decide)) da_nil ⟨p, k, rfl, rfl, pn, by omega, rfl, rfl⟩ rfl rfl) ?_ sc_law_rules.nd)
  refine dss_cons (ds_lcK 2 [("_law_turn", 3)] (lckS (di_range1 (n := pk (famP p) manyL) (da_cons (de_callP 0 (ok_law_pick T) (hr.mono (by decide)) (da_cons (de_lst (da_cons de_int (da_cons de_int (da_cons de_int (da_cons de_int (da_cons de_int da_nil)))))) da_nil) (picks (xs := manyL) D.int (by decide) (by decide) pf (by omega)) rfl rfl) da_nil) T.b_range (by rw [mp]; omega) (by rw [mp]; omega)) (fun i => [.pl pa (rusP (famH p) i (drP (famP p) 5)).ds, .d (famD (famB p) (famH p)), .un, .un, .un, .un, .un, .un]) (fun i => (rusF (famB p) (famH p) i (drP (famP p) 5)).map Ru.lw) rfl rfl (fun i => freeC free0) (by rw [rngD_len, mp]; omega) (fun i x hx => ?_) (res := (rusF (famB p) (famH p) (manyF p) (drP (famP p) 5)).map Ru.lw) (G' := [.pl pa (rulesP p).ds, .d (famD (famB p) (famH p)), .un, .un, .un, .un, .un, .un]) (by rw [rngD_len]; rfl) (by rw [rngD_len]; rfl)) ?_ (blk_at ["_law_purse_here", "_law_family_here", "_law_rules_here", "_law_turn", "_law_base", "_law_kind", "_law_heads", "_law_most"] (defScope s_law_rules)) sc_law_rules.nd rfl (sw_true rfl rfl rfl (by decide +kernel)))
  · obtain ⟨hi, rfl⟩ := rngD_get hx
    have hi2 : i < manyF p := hi
    have hq := rusP_n f i _ _ (pf.dr (n := 5) (by decide))
    refine ⟨_, _, true, _, bkAll fun _ _ _ _ _ => (dg_name 3 sc_law_rules.nd), by decide, bkAll fun _ _ _ _ _ => dts_nil, .inl ⟨rfl, _, _, bkAll fun _ _ _ _ _ => (de_callP 0 (ok_law_rule T) (hr.mono (by decide)) (da_cons (de_var 1) da_nil) ⟨_, famB p, _, famH p, _, rfl, rfl, f, hq, by omega, rfl, rfl⟩ rfl rfl), ?_, ?_⟩⟩
    · show _ ++ [_] = _
      rw [rusF_snoc, List.map_append]
      rfl
    · show _ = [Sl.pl pa (rusP (famH p) (i + 1) (drP (famP p) 5)).ds, _, _, _, _, _, _, _]
      rw [rusP_snoc]
      rfl
  refine dss_cons (ds_if (dt_cmp o_eq (de_callB c_len T.b_len bt_len (da_cons (de_var 2) da_nil)) de_int) (fun hb => ?_) (fun hb => ?_))
  · have hb := of_decide_eq_true hb
    rw [List.length_map, ln] at hb
    have m3 : manyF p = 3 := by omega
    have oks : ∀ r ∈ rusF (famB p) (famH p) (manyF p) (drP (famP p) 5), r.hs ≠ [] := fun r hr => by
      obtain ⟨q, rfl⟩ := rus_mem _ _ r hr
      exact (ruF_ok f).ne
    have eR : rulesF p = (rusF (famB p) (famH p) (manyF p) (drP (famP p) 5)).map cut3 := by unfold rulesF; rw [if_pos m3]
    refine dss_one (ds_ret (DE.to (de_lcK [("_law_base", 4), ("_law_kind", 5), ("_law_heads", 6), ("_law_most", 7)] (lck (di_list (de_var 2)) (fun _ => true) cutLw (freeC (freeC (freeC (freeC free0)))) (by rw [List.length_map, ln]; omega) fun x hx => ?_) (blk_at ["_law_purse_here", "_law_family_here", "_law_rules_here", "_law_turn", "_law_base", "_law_kind", "_law_heads", "_law_most"] (defScope s_law_rules)) sc_law_rules.nd rfl) (d' := .lst ((rulesF p).map Ru.lw)) ?_) ⟨rfl, rfl⟩)
    · obtain ⟨r, hr2, rfl⟩ := List.mem_map.mp hx
      exact ⟨_, _, bkAll fun _ _ _ _ _ => (dg_tup (dgs_cons (dg_name 4 sc_law_rules.nd) (dgs_cons (dg_name 5 sc_law_rules.nd) (dgs_cons (dg_name 6 sc_law_rules.nd) (dgs_cons (dg_name 7 sc_law_rules.nd) dgs_nil)))) rfl), by decide, rfl, bkAll fun _ _ _ _ _ => dts_nil, fun _ => bkAll fun _ _ _ _ _ => (de_tup (da_cons (de_var 4) (da_cons (de_var 5) (da_cons (de_slice (de_var 6) do_none (do_some de_int)) (da_cons (de_callB (c_min rfl) T.b_min bt_min (da_cons (de_callTy c_int T.b_int bt_int (da_cons (de_var 7) da_nil)) (da_cons de_int da_nil))) da_nil)))))⟩
    · rw [filter_true, List.map_map, eR, List.map_map]
      refine congrArg D.lst (List.map_congr_left fun r hr => ?_)
      exact cutLw_eq (oks r hr)
  · have hb := of_decide_eq_false hb
    rw [List.length_map, ln] at hb
    have eR : rulesF p = rusF (famB p) (famH p) (manyF p) (drP (famP p) 5) := by unfold rulesF; rw [if_neg (by omega)]
    refine dss_nil (dss_one (ds_ret (de_var 2) ⟨?_, rfl⟩))
    rw [eR]
end
end Ax
namespace Ax
open PySem PySem.Spec L2
def rLAtom : List D → List D → D → List D → Prop := fun ps ds d ps' => ∃ (p : Pu) (b la : Int) (rs : List Ru) (k : Int), ps = p.ds ∧ ds = [.lst (rs.map Ru.lw)] ∧ Rls b la rs ∧ PuN k p ∧ k ≤ 950 ∧ d = (atomF p rs).dt ∧ ps' = (atomP p rs).ds
def rLTree1 : List D → List D → D → List D → Prop := fun ps ds d ps' => ∃ (p : Pu) (b la : Int) (rs : List Ru) (k : Int), ps = p.ds ∧ ds = [.lst (rs.map Ru.lw), .int 1] ∧ Rls b la rs ∧ PuN k p ∧ k ≤ 950 ∧ d = (atomF p rs).dt ∧ ps' = (atomP p rs).ds
def rLTree2 : List D → List D → D → List D → Prop := fun ps ds d ps' => ∃ (p : Pu) (b la : Int) (rs : List Ru) (k : Int), ps = p.ds ∧ ds = [.lst (rs.map Ru.lw), .int 2] ∧ Rls b la rs ∧ PuN k p ∧ k ≤ 900 ∧ d = (treeF p rs).dt ∧ ps' = (treeP p rs).ds
def rLLen : List D → List D → D → List D → Prop := fun ps ds d ps' => ∃ (p : Pu) (r : Ru) (k : Int), ps = p.ds ∧ ds = [r.lw] ∧ r.Ok ∧ PuN k p ∧ k ≤ 950 ∧ d = .int (lenF p r) ∧ ps' = (lenP p r).ds
theorem Rls.len {b la : Int} {rs : List Ru} (f : Rls b la rs) : rs.length ≤ 3 := by
  obtain ⟨c, h, _⟩ := f.few
  exact h
section
variable {P : Program} {w : World} {K : PySem.W.Frag} {mg : Str → Option Value} {base : Heap}
theorem sc_law_atom : FnScope ["_law_purse_here", "_law_rules_here", "_law_rule_here", "_law_other", "_law_kind", "_law_least", "_law_times_here"] ["_law_purse_here", "_law_rules_here"] (defScope s_law_atom) := ⟨rfl, rfl, rfl, by decide +kernel, rfl, by decide +kernel, by decide +kernel⟩
theorem ok_law_atom (T : Tp K mg) : FnU P w K mg base 3 "_law_atom" 1 rLAtom := by
  obtain ⟨fd, F⟩ := T.d_law_atom
  refine fnU_mk T.g_law_atom F sc_law_atom rfl (F.bindsN fun _ _ _ _ _ _ us hl => match us, hl with | [_, _], _ => rfl) fun cdv A outer s H0 E hr pa pv ds d pv' h hl => ?_
  obtain ⟨p, b, la, rs, k, rfl, rfl, f, pn, k1, rfl, rfl⟩ := h
  have l3 := f.len
  have l0 := List.length_pos_iff.mpr f.ne
  have ho := f.fam.ok _ (atR_mem (p := p) f.ne)
  have m1 := ho.m1
  have m6 := ho.m6
  have p1 := pn.dr (n := (rs.length : Int)) (by omega)
  have p2 := p1.dr (n := (rs.length : Int)) (by omega)
  have p3 := atQ_n f.ne pn
  refine dss_cons (ds_par 2 3 (da_cons (de_callP 0 (ok_law_pick T) (hr.mono (by decide)) (da_cons (de_var 1) da_nil) (picks (xs := rs) Ru.lw f.ne (by omega) pn (by omega)) rfl rfl) (da_cons (de_callP 0 (ok_law_pick T) (hr.mono (by decide)) (da_cons (de_var 1) da_nil) (picks (xs := rs) Ru.lw f.ne (by omega) p1 (by omega)) rfl rfl) da_nil)) ?_ sc_law_atom.nd rfl)
  refine dss_cons (ds_set 4 (de_callP 0 (ok_law_draw T) (hr.mono (by decide)) (da_cons de_int da_nil) (draws (n := 9) (by decide) (by decide) p2 (by omega)) rfl rfl) ?_ sc_law_atom.nd)
  refine dss_cons (ds_if (dt_cmp o_eq (de_var 4) de_int) (fun hb => ?_) (fun hb => ?_))
  · have hb : atK p rs = 0 := of_decide_eq_true hb
    refine dss_one (ds_ret (de_tup (da_cons de_str (da_cons (de_ixT (d := .int (atR p rs).b) (de_var 2) de_int) da_nil))) ⟨?_, ?_⟩)
    · unfold atomF
      rw [if_pos hb]
      rfl
    · unfold atomP
      rw [if_pos hb]
      rfl
  have h0 : ¬ atK p rs = 0 := of_decide_eq_false hb
  refine dss_nil (dss_cons (ds_if (dt_cmp o_lt (de_var 4) de_int) (fun hb => ?_) (fun hb => ?_)))
  · have hb : atK p rs < 4 := of_decide_eq_true hb
    have p4 := atQ2_n f pn
    refine dss_cons (ds_set 5 (de_callP 0 (ok_law_draw T) (hr.mono (by decide)) (da_cons (de_op o_add (de_ixT (d := .int (atR p rs).m) (de_var 2) de_int) de_int) da_nil) (draws (p := atQ p rs) (n := (atR p rs).m + 2) (by omega) (by omega) p3 (by omega)) rfl rfl) ?_ sc_law_atom.nd)
    refine dss_one (ds_ret (de_tup (da_cons de_str (da_cons (de_var 2) (da_cons (de_var 5) (da_cons (de_callP 0 (ok_law_pick T) (hr.mono (by decide)) (da_cons (de_lst (da_cons de_non (da_cons (de_var 5) (da_cons (de_var 5) (da_cons (de_op o_add (de_var 5) de_int) (da_cons (de_ixT (d := .int (atR p rs).m) (de_var 2) de_int) da_nil)))))) da_nil) (picks (p := atQ2 p rs) (xs := hisL (atLo p rs) (atR p rs).m) optD (by unfold hisL; simp) (by unfold hisL; simp) p4 (by omega)) rfl rfl) da_nil))))) ⟨?_, ?_⟩)
    · unfold atomF
      rw [if_neg h0, if_pos hb]
      rfl
    · unfold atomP
      rw [if_neg h0, if_pos hb]
      rfl
  have h4 : ¬ atK p rs < 4 := of_decide_eq_false hb
  refine dss_nil (dss_cons (ds_if (dt_cmp o_eq (de_var 4) de_int) (fun hb => ?_) (fun hb => ?_)))
  · have hb : atK p rs = 4 := of_decide_eq_true hb
    have hl4 := ho.len
    refine dss_one (ds_ret (de_tup (da_cons de_str (da_cons (de_var 2) (da_cons (de_callP 0 (ok_law_pick T) (hr.mono (by decide)) (da_cons (de_ixT (d := .lst ((atR p rs).hs.map .int)) (de_var 2) de_int) da_nil) (picks (p := atQ p rs) (xs := (atR p rs).hs) D.int ho.ne (by omega) p3 (by omega)) rfl rfl) da_nil)))) ⟨?_, ?_⟩)
    · unfold atomF
      rw [if_neg h0, if_neg h4, if_pos hb]
      rfl
    · unfold atomP
      rw [if_neg h0, if_neg h4, if_pos hb]
      rfl
  have h5 : ¬ atK p rs = 4 := of_decide_eq_false hb
  refine dss_nil (dss_cons (ds_if (dt_cmp o_lt (de_var 4) de_int) (fun hb => ?_) (fun hb => ?_)))
  · have hb : atK p rs < 7 := of_decide_eq_true hb
    refine dss_cons (ds_set 6 (de_callP 0 (ok_law_pick T) (hr.mono (by decide)) (da_cons (de_lst (da_cons (de_tup (da_cons de_int (da_cons de_int da_nil))) (da_cons (de_tup (da_cons de_int (da_cons de_int da_nil))) (da_cons (de_tup (da_cons de_int (da_cons de_int da_nil))) (da_cons (de_tup (da_cons de_int (da_cons de_int da_nil))) (da_cons (de_tup (da_cons de_int (da_cons de_int da_nil))) (da_cons (de_tup (da_cons de_int (da_cons (de_ixT (d := .int (atR p rs).b) (de_var 2) de_int) da_nil))) (da_cons (de_tup (da_cons de_int (da_cons de_int da_nil))) da_nil)))))))) da_nil) (picks (p := atQ p rs) (xs := timesL (atR p rs).b) (fun z => D.tup [.int z.1, .int z.2]) (by unfold timesL; simp) (by unfold timesL; simp) p3 (by omega)) rfl rfl) ?_ sc_law_atom.nd)
    refine dss_one (ds_ret (de_tup (da_cons de_str (da_cons (de_var 2) (da_cons (de_var 3) (da_cons (de_var 6) da_nil))))) ⟨?_, ?_⟩)
    · unfold atomF
      rw [if_neg h0, if_neg h4, if_neg h5, if_pos hb]
      rfl
    · unfold atomP
      rw [if_neg h0, if_neg h4, if_neg h5, if_pos hb]
      rfl
  have h7 : ¬ atK p rs < 7 := of_decide_eq_false hb
  refine dss_nil (dss_one (ds_ret (de_tup (da_cons de_str (da_cons (de_var 2) (da_cons (de_callP 0 (ok_law_pick T) (hr.mono (by decide)) (da_cons (de_lst (da_cons de_str (da_cons de_str da_nil))) da_nil) (picks (p := atQ p rs) (xs := lowsL) (fun z => D.str (lowS z)) (by decide) (by decide) p3 (by omega)) rfl rfl) da_nil)))) ⟨?_, ?_⟩))
  · unfold atomF
    rw [if_neg h0, if_neg h4, if_neg h5, if_neg h7]
    rfl
  · unfold atomP
    rw [if_neg h0, if_neg h4, if_neg h5, if_neg h7]
    rfl
theorem sc_law_tree : FnScope ["_law_purse_here", "_law_rules_here", "_law_many", "_law_word"] ["_law_purse_here", "_law_rules_here", "_law_many"] (defScope s_law_tree) := ⟨rfl, rfl, rfl, by decide +kernel, rfl, by decide +kernel, by decide +kernel⟩
theorem ok_law_tree1 (T : Tp K mg) : FnU P w K mg base 4 "_law_tree" 2 rLTree1 := by
  obtain ⟨fd, F⟩ := T.d_law_tree
  refine fnU_mk T.g_law_tree F sc_law_tree rfl (F.bindsN fun _ _ _ _ _ _ us hl => match us, hl with | [_, _, _], _ => rfl) fun cdv A outer s H0 E hr pa pv ds d pv' h hl => ?_
  obtain ⟨p, b, la, rs, k, rfl, rfl, f, pn, k1, rfl, rfl⟩ := h
  refine dss_cons (ds_if (dt_cmp o_lt (de_var 2) de_int) (fun hb => ?_) (fun hb => ?_))
  · exact dss_one (ds_ret (de_callP 0 (ok_law_atom T) (hr.mono (by decide)) (da_cons (de_var 1) da_nil) ⟨p, b, la, rs, k, rfl, rfl, f, pn, k1, rfl, rfl⟩ rfl rfl) ⟨rfl, rfl⟩)
  · exact absurd (of_decide_eq_false hb) (by decide)
theorem ok_law_tree2 (T : Tp K mg) : FnU P w K mg base 5 "_law_tree" 2 rLTree2 := by
  obtain ⟨fd, F⟩ := T.d_law_tree
  refine fnU_mk T.g_law_tree F sc_law_tree rfl (F.bindsN fun _ _ _ _ _ _ us hl => match us, hl with | [_, _, _], _ => rfl) fun cdv A outer s H0 E hr pa pv ds d pv' h hl => ?_
  obtain ⟨p, b, la, rs, k, rfl, rfl, f, pn, k1, rfl, rfl⟩ := h
  have p1 := pn.dr (n := 6) (by decide)
  refine dss_cons (ds_if (dt_cmp o_lt (de_var 2) de_int) (fun hb => ?_) (fun hb => ?_))
  · exact absurd (of_decide_eq_true hb) (by decide)
  refine dss_nil (dss_cons (ds_set 3 (de_callP 0 (ok_law_pick T) (hr.mono (by decide)) (da_cons (de_lst (da_cons de_str (da_cons de_str (da_cons de_str (da_cons de_str (da_cons de_str (da_cons de_str da_nil))))))) da_nil) (picks (xs := wordsL) D.str (by decide) (by decide) pn (by omega)) rfl rfl) ?_ sc_law_tree.nd))
  refine dss_cons (ds_if (dt_cmp o_eqS (de_var 3) de_str) (fun hb => ?_) (fun hb => ?_))
  · have hb : pk p wordsL = "not" := of_decide_eq_true hb
    refine dss_one (ds_ret (de_tup (da_cons de_str (da_cons (de_callP 0 (ok_law_tree1 T) (hr.mono (by decide)) (da_cons (de_var 1) (da_cons (de_op o_sub (de_var 2) de_int) da_nil)) ⟨drP p 6, b, la, rs, _, rfl, rfl, f, p1, by omega, rfl, rfl⟩ rfl rfl) da_nil))) ⟨?_, ?_⟩)
    · unfold treeF
      rw [if_pos hb]
      rfl
    · unfold treeP
      rw [if_pos hb]
      rfl
  · have hb : ¬ pk p wordsL = "not" := of_decide_eq_false hb
    refine dss_nil (dss_one (ds_ret (de_tup (da_cons (de_var 3) (da_cons (de_callP 0 (ok_law_tree1 T) (hr.mono (by decide)) (da_cons (de_var 1) (da_cons (de_o (de_var 2) de_int (o_div (divW (by decide) (by decide)))) da_nil)) ⟨drP p 6, b, la, rs, _, rfl, rfl, f, p1, by omega, rfl, rfl⟩ rfl rfl) (da_cons (de_callP 0 (ok_law_tree1 T) (hr.mono (by decide)) (da_cons (de_var 1) (da_cons (de_op o_sub (de_var 2) (de_o (de_var 2) de_int (o_div (divW (by decide) (by decide))))) da_nil)) ⟨atomP (drP p 6) rs, b, la, rs, _, rfl, rfl, f, atomP_n f p1, by omega, rfl, rfl⟩ rfl rfl) da_nil)))) ⟨?_, ?_⟩))
    · unfold treeF
      rw [if_neg hb]
      rfl
    · unfold treeP
      rw [if_neg hb]
      rfl
theorem sc_law_length : FnScope ["_law_purse_here", "_law_rule_here", "_law_size"] ["_law_purse_here", "_law_rule_here"] (defScope s_law_length) := ⟨rfl, rfl, rfl, by decide +kernel, rfl, by decide +kernel, by decide +kernel⟩
theorem ok_law_length (T : Tp K mg) : FnU P w K mg base 3 "_law_length" 1 rLLen := by
  obtain ⟨fd, F⟩ := T.d_law_length
  refine fnU_mk T.g_law_length F sc_law_length rfl (F.bindsN fun _ _ _ _ _ _ us hl => match us, hl with | [_, _], _ => rfl) fun cdv A outer s H0 E hr pa pv ds d pv' h hl => ?_
  obtain ⟨p, r, k, rfl, rfl, ho, pn, k1, rfl, rfl⟩ := h
  obtain ⟨hh, hm, hz, _, _, _, _⟩ := lenF_in (p := p) ho
  have l4 := ho.len
  have l0 := List.length_pos_iff.mpr ho.ne
  have b2 := ho.b2
  have b10 := ho.b10
  have p1 := pn.dr (n := (r.hs.length : Int)) (by omega)
  have p2 := p1.dr (n := 3) (by decide)
  have p3 := p2.dr (n := 9) (by decide)
  have p4 := p3.dr (n := 3) (by decide)
  have e0 := leE_in (p := p) (r := r)
  have ee : ((leE p r).toNat : Int) = leE p r := by omega
  refine dss_cons (ds_set 2 (de_o (de_callP 0 (ok_law_pick T) (hr.mono (by decide)) (da_cons (de_ixT (d := .lst (r.hs.map .int)) (de_var 1) de_int) da_nil) (picks (xs := r.hs) D.int ho.ne (by omega) pn (by omega)) rfl rfl) (de_call (ok_law_times T) (hr.mono (by decide)) (da_cons (de_ixT (d := .int r.b) (de_var 1) de_int) (da_cons (de_callP 0 (ok_law_pick T) (hr.mono (by decide)) (da_cons (de_lst (da_cons de_int (da_cons de_int (da_cons de_int da_nil)))) da_nil) (picks (xs := powsL) D.int (by decide) (by decide) p1 (by omega)) rfl rfl) da_nil)) ⟨r.b, (leE p r).toNat, by rw [ee]; rfl, by omega, by omega, by omega, rfl⟩) (o_mulS (.inl ⟨by show -(2 ^ 64) < leH p r; omega, by show leH p r < 2 ^ 64; omega⟩))) ?_ sc_law_length.nd)
  exact dss_one (ds_ret (de_op o_add (de_o (de_var 2) (de_callQ 0 (ok_law_pick T) (hr.mono (by decide)) (da_cons (de_lst (da_cons (de_ixT (d := .int r.m) (de_var 1) de_int) (da_cons (de_op o_add (de_ixT (d := .int r.m) (de_var 1) de_int) de_int) (da_cons (de_op o_add de_int (de_callP 0 (ok_law_draw T) (hr.mono (by decide)) (da_cons de_int da_nil) (draws (n := 9) (by decide) (by decide) p2 (by omega)) rfl rfl)) da_nil)))) da_nil) (picks (xs := [r.m, r.m + 1, 1 + leA p r]) D.int (by simp) (by simp) p3 (by omega)) rfl rfl) (o_mulS (.inr ⟨by show -(2 ^ 64) < leM p r; omega, by show leM p r < 2 ^ 64; omega⟩))) (de_callP 0 (ok_law_draw T) (hr.mono (by decide)) (da_cons de_int da_nil) (draws (n := 3) (by decide) (by decide) p4 (by omega)) rfl rfl)) ⟨rfl, rfl⟩)
/-- the purse of a number of the script -/
def cellF (xs : List Int) (i : Nat) : Int := if (i : Int) < xs.length then (xs[i]?).getD 0 else 0
def purseF (xs : List Int) (i : Nat) : Pu := ⟨(if 0 > cellF xs i - 10 ^ 18 then 0 else cellF xs i - 10 ^ 18) % (10 ^ 40) ^ 10, cellF xs i % 2147483629, 0⟩
theorem purse_n (xs : List Int) (i : Nat) : PuN 0 (purseF xs i) := ⟨Int.emod_nonneg _ (by decide), Int.emod_nonneg _ (by decide), Int.emod_lt_of_pos _ (by decide), Int.le_refl _, Int.le_refl _⟩
def rLPurse : List D → List D → Prop := fun ds xs => ∃ (sc : List Int) (i : Nat), ds = [.scr sc, .int (i : Int)] ∧ xs = (purseF sc i).ds
theorem sc_law_purse : FnScope ["_law_script", "_law_at", "_law_cell"] ["_law_script", "_law_at"] (defScope s_law_purse) := ⟨rfl, rfl, rfl, by decide +kernel, rfl, by decide +kernel, by decide +kernel⟩
theorem ok_law_purse (T : Tp K mg) : FnN P w K mg base 1 "_law_purse" 2 rLPurse := by
  obtain ⟨fd, F⟩ := T.d_law_purse
  refine ⟨_, fd, _, T.g_law_purse, F.kp, ok_N F sc_law_purse rfl fun cdv A outer s H0 E hr ds xs h hl => ?_, F.bindsN fun _ _ _ _ _ _ us hl => match us, hl with | [_, _], _ => rfl⟩
  obtain ⟨sc, i, rfl, rfl⟩ := h
  refine dsn_cons (ds_set 2 de_int ?_ sc_law_purse.nd)
  refine dsn_cons (ds_if (dt_cmp o_lt (de_var 1) (de_callB c_lenS T.b_len bt_len (da_cons (de_var 0) da_nil))) (fun hb => ?_) (fun hb => ?_))
  · have hb : (i : Int) < sc.length := of_decide_eq_true hb
    have hg : atI sc (i : Int) = some (cellF sc i) := by
      unfold L2.atI cellF
      rw [if_pos hb, show ixN sc.length (i : Int) = some i by
        unfold ixN
        rw [if_pos (by omega), if_pos hb]
        rfl]
      show sc[i]? = _
      rw [List.getElem?_eq_getElem (by omega)]
      rfl
    refine dss_one (ds_set 2 (de_ixS (de_var 0) (de_var 1) hg) ?_ sc_law_purse.nd)
    exact dsn_ret (da_cons (de_o (de_callTy c_int T.b_int bt_int (da_cons (de_callB (c_max rfl) T.b_max bt_max (da_cons (de_op o_sub (de_var 2) (de_o de_int de_int (o_pow ⟨by decide, by decide +kernel⟩))) (da_cons de_int da_nil))) da_nil)) (de_o (de_o de_int de_int (o_pow ⟨by decide, by decide +kernel⟩)) de_int (o_pow ⟨by decide, by decide +kernel⟩)) (o_mod (by decide +kernel))) (da_cons (de_o (de_callTy c_int T.b_int bt_int (da_cons (de_var 2) da_nil)) de_int (o_mod (by decide))) (da_cons de_int da_nil)))
  · have hb : ¬ (i : Int) < sc.length := of_decide_eq_false hb
    have hc : cellF sc i = 0 := by unfold cellF; rw [if_neg hb]
    refine dss_nil ?_
    unfold purseF
    rw [hc]
    exact dsn_ret (da_cons (de_o (de_callTy c_int T.b_int bt_int (da_cons (de_callB (c_max rfl) T.b_max bt_max (da_cons (de_op o_sub (de_var 2) (de_o de_int de_int (o_pow ⟨by decide, by decide +kernel⟩))) (da_cons de_int da_nil))) da_nil)) (de_o (de_o de_int de_int (o_pow ⟨by decide, by decide +kernel⟩)) de_int (o_pow ⟨by decide, by decide +kernel⟩)) (o_mod (by decide +kernel))) (da_cons (de_o (de_callTy c_int T.b_int bt_int (da_cons (de_var 2) da_nil)) de_int (o_mod (by decide))) (da_cons de_int da_nil)))
end
end Ax
namespace Ax
open PySem PySem.Spec L2
/-- K's words of a staticmethod m of the class at C, its def at f -/
structure SmF (K : PySem.W.Frag) (C : Addr) (m : Str) (f : Addr) : Prop where
  typ : PySem.W.typeIn K (.ref C) = some (.type "type")
  rd : PySem.W.readsIn K C (.type "type") = true
  ga : PySem.W.specialIn K (.ref C) "__getattribute__" = some (some (.builtin "type.__getattribute__"))
  at_ : ∃ p rest, PySem.W.findCls K (.ref C) (.type "type") m = some (.get (.builtin "staticmethod.__get__") (.ref p) .none (.ref C)) ∧ PySem.W.recIn K p "staticmethod" = some (.ref f :: rest)
structure SmD (P : Program) (w : World) (K : PySem.W.Frag) (mg : Str → Option Value) (base : Heap) (k : Nat) (c m : Str) (n : Nat) (rel : List D → D → Prop) : Prop where
  ex : ∃ f fd ps, mg c = some (.ref (He.ga K c)) ∧ SmF K (He.ga K c) m f ∧ PySem.W.keepIn K (.ref f) = true ∧ FnOk P w K mg base CX0 k f fd ps (spP K n rel) ∧ Binds K fd ps []
section
variable {X : Cx} {G G0 G1 G2 G' : List Sl} {e a : Expr} {es : List Expr} {d : D} {ds : List D} {pos pos' p apos : Pos} {k n : Nat}
theorem de_smeth {c m : Str} {pl : Sem Bool} {rel : List D → D → Prop} (F : SmD X.prog X.w X.K X.mg X.base k c m n rel) (hr : Room k X.A) (ha : DA X G (e :: es) ds G') (hrel : rel ds d) (hn : ds.length = n := by rfl) (hg : Gl X c := by rfl) (hdb : (c == ("__debug__" : Str)) = false := by decide)
    (hst : starEach (e :: es) X.env = (false, eval e X.env) :: starEach es X.env := by rfl) (hpl : (backTo pos (starEach es X.env)).any (·.1) = false := by rfl)
    (ht : eval (.Call (.Attribute (.Name c p) m apos) (e :: es) [] pos) X.env = (do
      let ov ← eval (.Name c p) X.env
      standAt apos.atName
      let (f, first) ← holding [ov] (getMethod ov m pl)
      callWith pos f first (backTo pos (starEach (e :: es) X.env)) (backToKw pos (keywordEach [] X.env))) := by rfl) : DE X G (.Call (.Attribute (.Name c p) m apos) (e :: es) [] pos) d G' := by
  obtain ⟨f, fd, ps, hm, sm, hk, ok, hb⟩ := F.ex
  obtain ⟨q, rest, hf, hrec⟩ := sm.at_
  refine ⟨fun pins s σ H R B I hh => ?_⟩
  have nm : PE X (.Name c p) (tC (.ref (He.ga X.K c))) := pe_glob (v := .ref (He.ga X.K c)) hg hm rfl hdb
  refine PySem.W.methodCall_KW (pl := pl) (thn (nm.run pins s σ H (fun v H' => v = .ref (He.ga X.K c) ∧ H' = H) I ⟨rfl, rfl⟩) fun u s1 ⟨x, H1, I1, rx, ex, eh⟩ => ?_) ht
  subst ex eh
  obtain rfl : u = Value.ref (He.ga X.K c) := rx
  obtain ⟨m', hF⟩ := I1.fr
  refine PySem.W.method_of_cls hF I1.ok.mod.kin sm.ga (PySem.W.cls_sm hF I1.ok.mod.kin sm.typ sm.rd hf hrec rfl ?_)
  have I2 : Inv X pins σ H1 { s1 with toks := s1.toks + 1 } := I1.tok _
  refine PySem.W.callWith_K (first := []) (h₀ := X.base) I2.ok.mod.kin hk (thn (ha.run pos pins _ σ H1 R B I2 hh) fun us s2 ⟨vs, H2, I3, r, B2, h2, e2, a2⟩ => ⟨I3.kIn, ?_⟩) hst hpl
  exact run_fn (us := us) (vs := vs) ok hr hb .nil pass0 I3 r ⟨B2, ds, d, h2.exB, by rw [List.append_nil]; exact a2, hn, hrel, fun v H' B' s1 s2 s3 nw z => ⟨B', h2.up s2 s1 s3 nw, e2.trans s2, z⟩⟩
end
end Ax
namespace Ax
open PySem PySem.Spec L2
section
variable {X : Cx} {G G0 G1 G2 G' : List Sl} {pos p : Pos} {c : Str}
theorem made0 {R B H : Hp} {σ : L2.St} {x dx : Addr} (hh : Hld X.K R B H σ G) (nx : H x = none) (ndx : H dx = none) :
    DK X R B σ G (.obj c []) (.ref x) (upd (upd H dx (.own x)) x (.ins (He.ga X.K c) dx [])) := by
  have bx : B x = none := by
    cases z : B x with
    | none => rfl
    | some u => rw [hh.exB _ _ z] at nx; cases nx
  have sH : Same H (upd (upd H dx (.own x)) x (.ins (He.ga X.K c) dx [])) := fun q u e => by
    rw [upd_ne (ne_of_none e nx), upd_ne (ne_of_none e ndx)]
    exact e
  have sm : Same B (upd B x (.ins (He.ga X.K c) dx [])) := ext_new bx
  refine ⟨upd B x (.ins (He.ga X.K c) dx []), hh.up sm sH (fun q u e => ?_) (fun q u e n => ?_), sm, .obj upd_same .nil⟩
  · by_cases hq : q = x
    · subst hq; rw [upd_same] at e ⊢; exact e
    · rw [upd_ne hq] at e; exact sH q u (hh.exB q u e)
  · rw [upd_ne (ne_of_none e nx)]; exact .inl n
/-- C() of a class without an __init__ of its own -/
theorem de_make00 (hm : PySem.W.makesIn X.K (He.ga X.K c) = true) (hi : PySem.W.findIn X.K (.ref (He.ga X.K c)) "__init__" = some (some (.builtin "object.__init__"))) (hk : PySem.W.keepIn X.K (.ref (He.ga X.K c)) = true) (hmg : X.mg c = some (.ref (He.ga X.K c))) (hg : Gl X c := by rfl) (hdb : (c == ("__debug__" : Str)) = false := by decide) : DE X G (.Call (.Name c p) [] [] pos) (.obj c []) G := by
  refine ⟨fun pins s σ H R B I hh => ?_⟩
  refine wpAny_Call_Name_kw (ld_glob I hg hmg ?_ hdb)
  refine PySem.W.callWith_K0 I.kIn hk (wpAny_call (make_map0 I.kIn hm hi (fun self => PySem.W.Looks.of_pure (PySem.W.oi_bind self)) ?_))
  have I2 := Inv.made (C := He.ga X.K c) I
  have e2 : ((s.heap.push PySem.W.emptyDict).push (PySem.W.instObj (He.ga X.K c) s.heap.objs.size)).get? (s.heap.objs.size + 1) = some (PySem.W.instObj (He.ga X.K c) s.heap.objs.size) := by
    have := Heap.get?_push_size (s.heap.push PySem.W.emptyDict) (o := PySem.W.instObj (He.ga X.K c) s.heap.objs.size) rfl
    rwa [Heap.size_push] at this
  have t1 : PySem.W.Looks (model X.prog X.w) ((s.heap.push PySem.W.emptyDict).push (PySem.W.instObj (He.ga X.K c) s.heap.objs.size)) (typeOf (.ref (s.heap.objs.size + 1))) (.ref (He.ga X.K c)) := (PySem.W.Looks.ld e2).andThen .now
  have t2 : PySem.W.Looks (model X.prog X.w) ((s.heap.push PySem.W.emptyDict).push (PySem.W.instObj (He.ga X.K c) s.heap.objs.size)) (isInstance (.ref (s.heap.objs.size + 1)) (.type "object")) true := t1.andThen ((PySem.W.makes_of (M := model X.prog X.w) I.kIn hm).top.keeps fun b o e => Heap.get?_push_of_some _ (Heap.get?_push_of_some _ e))
  refine codeAny_call_builtin PySem.W.oi_plain PySem.W.entry_oi (@PySem.W.check_slot (model X.prog X.w) _ _ _ "object.__init__" "object" "__init__" (.ref (s.heap.objs.size + 1)) [] [] _ PySem.W.oi_kind PySem.W.oi_split t2 (PySem.W.oi_args (.ref (s.heap.objs.size + 1))) ?_)
  rw [PySem.W.oi_run]
  refine wpAny_pure ⟨rfl, .ref (s.heap.objs.size + 1), _, I2, rfl, ?_⟩
  exact made0 hh (I.hok.fresh (Nat.le_succ _)) (I.hok.fresh (Nat.le_refl _))
end
end Ax
namespace Ax
open PySem PySem.Spec L2
def rEvery : List D → D → Prop := fun ds d => ∃ b : Int, ds = [.int b] ∧ 2 ≤ b ∧ d = setD b .every
def rLSet (b : Int) (t : LT) : List D → D → Prop := fun ds d => ds = [t.dt] ∧ t.Fine b ∧ d = setD b t.tr
section
variable {P : Program} {w : World} {K : PySem.W.Frag} {mg : Str → Option Value} {base : Heap}
theorem sm_of (V : Ev K) : SmF K (He.ga K "RangeSet") "every" (He5.wf K (He.ga K "RangeSet") "staticmethod" "every") := by
  have h := V.rd
  unfold PySem.W.readsIn at h
  simp only [Bool.and_eq_true, beq_iff_eq] at h
  obtain ⟨⟨⟨⟨h1, h2⟩, h3⟩, _⟩, _⟩ := h
  obtain ⟨w1, rest, w2⟩ := He5.wrapB_ok V.wrap
  refine ⟨h2, V.rd, ?_, _, rest, w1, w2⟩
  unfold PySem.W.specialIn
  rw [h2, Option.bind_some]
  exact h3
theorem sc_every : FnScope ["base"] ["base"] (defScope s_RangeSet_every) := ⟨rfl, rfl, rfl, by decide +kernel, rfl, by decide +kernel, by decide +kernel⟩
theorem ok_every (T : Tp K mg) (V : Ev K) : SmD P w K mg base 5 "RangeSet" "every" 1 rEvery := by
  obtain ⟨fd, F⟩ := V.d_every
  refine ⟨_, fd, _, T.g_RangeSet, sm_of V, F.kp, ok_P F sc_every rfl fun cdv A outer s H E hr ds d h hl => ?_, F.bindsN fun _ _ _ _ _ _ us hl => match us, hl with | [_], _ => rfl⟩
  obtain ⟨b, rfl, b2, rfl⟩ := h
  refine dss_cons (ds_drop (de_call (ok_check_base T) (hr.mono (by decide)) (da_cons (de_var 0) da_nil) ⟨b, b2, rfl, rfl⟩) ?_)
  exact dss_one (ds_ret (de_make (ok_RangeSet T) (hr.mono (by decide)) (da_cons (de_var 0) (da_cons (de_make00 T.e_make T.e_init T.e_keep T.g_Every) da_nil)) ⟨b, .every, rfl, rfl⟩) rfl)
theorem sc_law_set : FnScope ["_law_tree_here", "_law_one", "_law_other"] ["_law_tree_here"] (defScope s_law_set) := ⟨rfl, rfl, rfl, by decide +kernel, rfl, by decide +kernel, by decide +kernel⟩
theorem lowS_eq (low : Bool) : decide (lowS low = "low") = low := by cases low <;> decide
theorem lowS_or (low : Bool) : lowS low = "low" ∨ lowS low = "high" := by cases low <;> decide
theorem ok_law_set (T : Tp K mg) (V : Ev K) (b : Int) : ∀ t : LT, FnD P w K mg base (7 + t.dp) "_law_set" 1 (rLSet b t) := by
  intro t
  induction t with
  | every b' =>
    obtain ⟨fd, F⟩ := T.d_law_set
    refine fnD_mk (k := 6) T.g_law_set F sc_law_set rfl (F.bindsN fun _ _ _ _ _ _ us hl => match us, hl with | [_], _ => rfl) fun cdv A outer s H E hr ds d h hl => ?_
    obtain ⟨rfl, hf, rfl⟩ := h
    obtain ⟨rfl, b2⟩ := hf
    refine dss_cons (ds_if (dt_cmp o_eqS (de_ixT (d := .str "every") (de_var 0) de_int) de_str) (fun hb => ?_) (fun hb => absurd hb (by decide)))
    exact dss_one (ds_ret (de_smeth (ok_every T V) (hr.mono (by decide)) (da_cons (de_ixT (d := .int b') (de_var 0) de_int) da_nil) ⟨b', rfl, b2, rfl⟩) rfl)
  | counted r lo hi =>
    obtain ⟨fd, F⟩ := T.d_law_set
    refine fnD_mk (k := 6) T.g_law_set F sc_law_set rfl (F.bindsN fun _ _ _ _ _ _ us hl => match us, hl with | [_], _ => rfl) fun cdv A outer s H E hr ds d h hl => ?_
    obtain ⟨rfl, hf, rfl⟩ := h
    obtain ⟨ho, rfl, l0, h0⟩ := hf
    refine dss_cons (ds_if (dt_cmp o_eqS (de_ixT (d := .str "counted") (de_var 0) de_int) de_str) (fun hb => absurd hb (by decide)) (fun hb => ?_))
    refine dss_nil (dss_cons (ds_if (dt_cmp o_eqS (de_ixT (d := .str "counted") (de_var 0) de_int) de_str) (fun hb => ?_) (fun hb => absurd hb (by decide))))
    exact dss_one (ds_ret (de_call (ok_counted T) (hr.mono (by decide)) (da_cons (de_call (ok_law_made T) (hr.mono (by decide)) (da_cons (de_ixT (d := r.lw) (de_var 0) de_int) da_nil) ⟨r, ho, rfl, rfl⟩) (da_cons (de_ixT (d := .int lo) (de_var 0) de_int) (da_cons (de_ixT (d := optD hi) (de_var 0) de_int) da_nil))) ⟨r, lo, hi, rfl, l0, h0, rfl⟩) rfl)
  | taken r m =>
    obtain ⟨fd, F⟩ := T.d_law_set
    refine fnD_mk (k := 6) T.g_law_set F sc_law_set rfl (F.bindsN fun _ _ _ _ _ _ us hl => match us, hl with | [_], _ => rfl) fun cdv A outer s H E hr ds d h hl => ?_
    obtain ⟨rfl, hf, rfl⟩ := h
    obtain ⟨ho, rfl, hm⟩ := hf
    refine dss_cons (ds_if (dt_cmp o_eqS (de_ixT (d := .str "taken") (de_var 0) de_int) de_str) (fun hb => absurd hb (by decide)) (fun hb => ?_))
    refine dss_nil (dss_cons (ds_if (dt_cmp o_eqS (de_ixT (d := .str "taken") (de_var 0) de_int) de_str) (fun hb => absurd hb (by decide)) (fun hb => ?_)))
    refine dss_nil (dss_cons (ds_if (dt_cmp o_eqS (de_ixT (d := .str "taken") (de_var 0) de_int) de_str) (fun hb => ?_) (fun hb => absurd hb (by decide))))
    exact dss_one (ds_ret (de_call (ok_taken T) (hr.mono (by decide)) (da_cons (de_call (ok_law_made T) (hr.mono (by decide)) (da_cons (de_ixT (d := r.lw) (de_var 0) de_int) da_nil) ⟨r, ho, rfl, rfl⟩) (da_cons (de_ixT (d := .int m) (de_var 0) de_int) da_nil)) ⟨r, m, rfl, hm, rfl⟩) rfl)
  | coarser r s' t1 t2 =>
    obtain ⟨fd, F⟩ := T.d_law_set
    refine fnD_mk (k := 6) T.g_law_set F sc_law_set rfl (F.bindsN fun _ _ _ _ _ _ us hl => match us, hl with | [_], _ => rfl) fun cdv A outer s H E hr ds d h hl => ?_
    obtain ⟨rfl, hf, rfl⟩ := h
    obtain ⟨ho, ho2, hb1, hb2, ht1, ht2⟩ := hf
    refine dss_cons (ds_if (dt_cmp o_eqS (de_ixT (d := .str "coarser") (de_var 0) de_int) de_str) (fun hb => absurd hb (by decide)) (fun hb => ?_))
    refine dss_nil (dss_cons (ds_if (dt_cmp o_eqS (de_ixT (d := .str "coarser") (de_var 0) de_int) de_str) (fun hb => absurd hb (by decide)) (fun hb => ?_)))
    refine dss_nil (dss_cons (ds_if (dt_cmp o_eqS (de_ixT (d := .str "coarser") (de_var 0) de_int) de_str) (fun hb => absurd hb (by decide)) (fun hb => ?_)))
    refine dss_nil (dss_cons (ds_if (dt_cmp o_eqS (de_ixT (d := .str "coarser") (de_var 0) de_int) de_str) (fun hb => ?_) (fun hb => absurd hb (by decide))))
    exact dss_one (ds_ret (de_call (ok_coarser T) (hr.mono (by decide)) (da_cons (de_call (ok_law_made T) (hr.mono (by decide)) (da_cons (de_ixT (d := r.lw) (de_var 0) de_int) da_nil) ⟨r, ho, rfl, rfl⟩) (da_cons (de_call (ok_law_made T) (hr.mono (by decide)) (da_cons (de_ixT (d := s'.lw) (de_var 0) de_int) da_nil) ⟨s', ho2, rfl, rfl⟩) (da_cons (de_ixT (d := .tup [.int t1, .int t2]) (de_var 0) de_int) da_nil))) ⟨r, s', t1, t2, rfl, by omega, ht1.1, ht2.1, rfl⟩) (by rw [← hb1]; rfl))
  | touched r low =>
    obtain ⟨fd, F⟩ := T.d_law_set
    refine fnD_mk (k := 6) T.g_law_set F sc_law_set rfl (F.bindsN fun _ _ _ _ _ _ us hl => match us, hl with | [_], _ => rfl) fun cdv A outer s H E hr ds d h hl => ?_
    obtain ⟨rfl, hf, rfl⟩ := h
    obtain ⟨ho, rfl⟩ := hf
    refine dss_cons (ds_if (dt_cmp o_eqS (de_ixT (d := .str "touched") (de_var 0) de_int) de_str) (fun hb => absurd hb (by decide)) (fun hb => ?_))
    refine dss_nil (dss_cons (ds_if (dt_cmp o_eqS (de_ixT (d := .str "touched") (de_var 0) de_int) de_str) (fun hb => absurd hb (by decide)) (fun hb => ?_)))
    refine dss_nil (dss_cons (ds_if (dt_cmp o_eqS (de_ixT (d := .str "touched") (de_var 0) de_int) de_str) (fun hb => absurd hb (by decide)) (fun hb => ?_)))
    refine dss_nil (dss_cons (ds_if (dt_cmp o_eqS (de_ixT (d := .str "touched") (de_var 0) de_int) de_str) (fun hb => absurd hb (by decide)) (fun hb => ?_)))
    refine dss_nil (dss_cons (ds_if (dt_cmp o_eqS (de_ixT (d := .str "touched") (de_var 0) de_int) de_str) (fun hb => ?_) (fun hb => absurd hb (by decide))))
    refine dss_one (ds_ret (de_call (ok_touched T) (hr.mono (by decide)) (da_cons (de_call (ok_law_made T) (hr.mono (by decide)) (da_cons (de_ixT (d := r.lw) (de_var 0) de_int) da_nil) ⟨r, ho, rfl, rfl⟩) (da_cons (de_ixT (d := .str (lowS low)) (de_var 0) de_int) da_nil)) ⟨r, lowS low, rfl, lowS_or low, rfl⟩) ?_)
    rw [lowS_eq]
    rfl
  | nt a ih =>
    obtain ⟨fd, F⟩ := T.d_law_set
    refine fnD_mk (k := 7 + a.dp) T.g_law_set F sc_law_set rfl (F.bindsN fun _ _ _ _ _ _ us hl => match us, hl with | [_], _ => rfl) fun cdv A outer s H E hr ds d h hl => ?_
    obtain ⟨rfl, hf, rfl⟩ := h
    refine dss_cons (ds_if (dt_cmp o_eqS (de_ixT (d := .str "not") (de_var 0) de_int) de_str) (fun hb => absurd hb (by decide)) (fun hb => ?_))
    refine dss_nil (dss_cons (ds_if (dt_cmp o_eqS (de_ixT (d := .str "not") (de_var 0) de_int) de_str) (fun hb => absurd hb (by decide)) (fun hb => ?_)))
    refine dss_nil (dss_cons (ds_if (dt_cmp o_eqS (de_ixT (d := .str "not") (de_var 0) de_int) de_str) (fun hb => absurd hb (by decide)) (fun hb => ?_)))
    refine dss_nil (dss_cons (ds_if (dt_cmp o_eqS (de_ixT (d := .str "not") (de_var 0) de_int) de_str) (fun hb => absurd hb (by decide)) (fun hb => ?_)))
    refine dss_nil (dss_cons (ds_if (dt_cmp o_eqS (de_ixT (d := .str "not") (de_var 0) de_int) de_str) (fun hb => absurd hb (by decide)) (fun hb => ?_)))
    refine dss_nil (dss_cons (ds_if (dt_cmp o_eqS (de_ixT (d := .str "not") (de_var 0) de_int) de_str) (fun hb => ?_) (fun hb => absurd hb (by decide))))
    exact dss_one (ds_ret (de_inv (ok_RangeSet_invert T) (hr.mono (by omega)) (de_call ih hr (da_cons (de_ixT (d := a.dt) (de_var 0) de_int) da_nil) ⟨rfl, hf, rfl⟩) ⟨b, a.tr, rfl, rfl⟩) rfl)
  | two u a c iha ihc =>
    obtain ⟨fd, F⟩ := T.d_law_set
    refine fnD_mk (k := 7 + (a.dp + c.dp)) T.g_law_set F sc_law_set rfl (F.bindsN fun _ _ _ _ _ _ us hl => match us, hl with | [_], _ => rfl) fun cdv A outer s H E hr ds d h hl => ?_
    obtain ⟨rfl, hf, rfl⟩ := h
    obtain ⟨hu, hfa, hfc⟩ := hf
    have w1 : ¬ u = "every" := by rcases hu with rfl | rfl | rfl | rfl <;> decide
    have w2 : ¬ u = "counted" := by rcases hu with rfl | rfl | rfl | rfl <;> decide
    have w3 : ¬ u = "taken" := by rcases hu with rfl | rfl | rfl | rfl <;> decide
    have w4 : ¬ u = "coarser" := by rcases hu with rfl | rfl | rfl | rfl <;> decide
    have w5 : ¬ u = "touched" := by rcases hu with rfl | rfl | rfl | rfl <;> decide
    have w6 : ¬ u = "not" := by rcases hu with rfl | rfl | rfl | rfl <;> decide
    refine dss_cons (ds_if (dt_cmp o_eqS (de_ixT (d := .str u) (de_var 0) de_int) de_str) (fun hb => absurd (of_decide_eq_true hb) w1) (fun hb => ?_))
    refine dss_nil (dss_cons (ds_if (dt_cmp o_eqS (de_ixT (d := .str u) (de_var 0) de_int) de_str) (fun hb => absurd (of_decide_eq_true hb) w2) (fun hb => ?_)))
    refine dss_nil (dss_cons (ds_if (dt_cmp o_eqS (de_ixT (d := .str u) (de_var 0) de_int) de_str) (fun hb => absurd (of_decide_eq_true hb) w3) (fun hb => ?_)))
    refine dss_nil (dss_cons (ds_if (dt_cmp o_eqS (de_ixT (d := .str u) (de_var 0) de_int) de_str) (fun hb => absurd (of_decide_eq_true hb) w4) (fun hb => ?_)))
    refine dss_nil (dss_cons (ds_if (dt_cmp o_eqS (de_ixT (d := .str u) (de_var 0) de_int) de_str) (fun hb => absurd (of_decide_eq_true hb) w5) (fun hb => ?_)))
    refine dss_nil (dss_cons (ds_if (dt_cmp o_eqS (de_ixT (d := .str u) (de_var 0) de_int) de_str) (fun hb => absurd (of_decide_eq_true hb) w6) (fun hb => ?_)))
    refine dss_nil (dss_cons (ds_par 1 2 (da_cons (de_call iha (hr.mono (by omega)) (da_cons (de_ixT (d := a.dt) (de_var 0) de_int) da_nil) ⟨rfl, hfa, rfl⟩) (da_cons (de_call ihc (hr.mono (by omega)) (da_cons (de_ixT (d := c.dt) (de_var 0) de_int) da_nil) ⟨rfl, hfc, rfl⟩) da_nil)) ?_ sc_law_set.nd rfl))
    refine dss_cons (ds_if (dt_cmp o_eqS (de_ixT (d := .str u) (de_var 0) de_int) de_str) (fun hb => ?_) (fun hb => ?_))
    · obtain rfl := of_decide_eq_true hb
      exact dss_one (ds_ret (de_o (de_var 1) (de_var 2) (o_binOwn (ok_RangeSet_and T) (hr.mono (by omega)) T.sf_RangeSet ⟨b, a.tr, c.tr, rfl, rfl⟩)) rfl)
    have n1 := of_decide_eq_false hb
    refine dss_nil (dss_cons (ds_if (dt_cmp o_eqS (de_ixT (d := .str u) (de_var 0) de_int) de_str) (fun hb => ?_) (fun hb => ?_)))
    · obtain rfl := of_decide_eq_true hb
      exact dss_one (ds_ret (de_o (de_var 1) (de_var 2) (o_binOwn (ok_RangeSet_or T) (hr.mono (by omega)) T.sf_RangeSet ⟨b, a.tr, c.tr, rfl, rfl⟩)) rfl)
    have n2 := of_decide_eq_false hb
    refine dss_nil (dss_cons (ds_if (dt_cmp o_eqS (de_ixT (d := .str u) (de_var 0) de_int) de_str) (fun hb => ?_) (fun hb => ?_)))
    · obtain rfl := of_decide_eq_true hb
      exact dss_one (ds_ret (de_o (de_var 1) (de_var 2) (o_binOwn (ok_RangeSet_sub T) (hr.mono (by omega)) T.sf_RangeSet ⟨b, a.tr, c.tr, rfl, rfl⟩)) rfl)
    have n3 := of_decide_eq_false hb
    obtain rfl : u = "either" := by
      rcases hu with h | h | h | h
      · exact absurd h n1
      · exact absurd h n2
      · exact absurd h n3
      · exact h
    exact dss_nil (dss_one (ds_ret (de_o (de_var 1) (de_var 2) (o_binOwn (ok_RangeSet_xor T) (hr.mono (by omega)) T.sf_RangeSet ⟨b, a.tr, c.tr, rfl, rfl⟩)) rfl))
end
end Ax
namespace Ax
open PySem PySem.Spec L2
/-! ### plain: what the law's answer rests on -/
theorem edge_mod {L n y W : Int} (hd : n ∣ W) (h : Edge L n y) : Edge L n (y % W) := by
  have e : y % W = y - W * (y / W) := by rw [Int.emod_def]
  have dw : n ∣ W * (y / W) := Int.dvd_trans hd (Int.dvd_mul_right W _)
  rw [e]
  rcases h with h | h | h | h
  · exact .inl (Int.dvd_sub h dw)
  · exact .inr (.inl (by rw [show y - W * (y / W) - 1 = y - 1 - W * (y / W) by omega]; exact Int.dvd_sub h dw))
  · exact .inr (.inr (.inl (by rw [show y - W * (y / W) + L = y + L - W * (y / W) by omega]; exact Int.dvd_sub h dw)))
  · exact .inr (.inr (.inr (by rw [show y - W * (y / W) + L - 1 = y + L - 1 - W * (y / W) by omega]; exact Int.dvd_sub h dw)))
theorem starts_len2 {ns : List Int} {L W : Int} (hn : ∀ n ∈ ns, 0 < n ∧ n ∣ W) (hW : 0 < W) (near : ∀ n ∈ ns, W / n ≤ 2100) (few : ns.length ≤ 56) : (startsOf ns L W).length ≤ 480000 := by
  have m0 := Int.emod_nonneg L (by omega : W ≠ 0)
  have h1 := nodup_len (startsOf ns L W) (0 :: ns.flatMap fun n => edF n 0 W ++ edF n (L % W) W) (ups_asc.imp fun h => by omega) fun x hx => by
    have := (edge_iff (L := L) hn hW).mpr (mem_ups.mp hx)
    rcases this with rfl | ⟨n, h1, h2⟩
    · simp
    · refine List.mem_cons_of_mem _ (List.mem_flatMap.mpr ⟨n, h1, ?_⟩)
      rcases h2 with h2 | h2
      · exact List.mem_append_left _ h2
      · exact List.mem_append_right _ h2
  have : ∀ ms : List Int, (∀ n ∈ ms, n ∈ ns) → (ms.flatMap fun n => edF n 0 W ++ edF n (L % W) W).length ≤ 8412 * ms.length := by
    intro ms
    induction ms with
    | nil => intro _; simp
    | cons n ms ih =>
      intro h
      have h2 := ih fun m hm => h m (List.mem_cons_of_mem _ hm)
      have hm := h n (by simp)
      have l1 := edF_len (sh := 0) (hn n hm).1 (by omega) hW (near n hm)
      have l2 := edF_len (sh := L % W) (hn n hm).1 m0 hW (near n hm)
      rw [List.flatMap_cons, List.length_append, List.length_append, List.length_cons]
      omega
  have h2 := this ns fun n h => h
  rw [List.length_cons] at h1
  omega
section
variable {b la L M : Int} {rs : List Ru} {l l' : RS} {t : Tr}
theorem dd_sub (tr : ∀ r ∈ t.rules, r ∈ rs) : ∀ r ∈ ddR t, r ∈ rs := fun r h => tr r ((foldl_mem _ r).mp h)
theorem dd_len (tr : ∀ r ∈ t.rules, r ∈ rs) : (ddR t).length ≤ rs.length := nodup_len _ _ (foldl_nodup _) (dd_sub tr)
theorem cN_in {F : Int → Bool} : ∀ n : Nat, 0 ≤ cN F n ∧ cN F n ≤ n
  | 0 => ⟨Int.le_refl _, Int.le_refl _⟩
  | n + 1 => by
    obtain ⟨i, j⟩ := cN_in (F := F) n
    unfold cN
    split <;> omega
theorem small_good (f : Rls b la rs) (hL : 512 ≤ L) (hH : L < 2 ^ 145) (tr : ∀ r ∈ t.rules, r ∈ rs) (e : l'.map Prod.fst = ddR t) (hs : ∀ y ∈ l', Stp y.1 L y.2) : Small l' L ∧ Good t L l' := by
  obtain ⟨c, h3, _, _⟩ := f.few
  have hd := f.heads (m := ddR t) (dd_sub tr) (dd_len tr)
  have dl := dd_len tr
  have el : l'.length = (ddR t).length := by rw [← e, List.length_map]
  have sm : Small l' L := small_of (b := b) (la := la) (by rw [e]; exact f.fam.sub (dd_sub tr)) hL hH hs (by rw [e]; omega) (by omega)
  refine ⟨sm, good_of sm fun r hr => ?_⟩
  have : r ∈ l'.map Prod.fst := by rw [e]; exact (foldl_mem _ r).mpr hr
  obtain ⟨z, hz, hz2⟩ := List.mem_map.mp this
  exact ⟨z, hz, hz2⟩
structure Right (t : Tr) (L W : Int) (st : List Int) (many lp : Int) : Prop where
  w0 : 0 < W
  p0 : 0 < lp
  pW : lp ≤ W
  dv : W % lp = 0
  mn : 0 ≤ many ∧ many ≤ lp
  cnt : many * (W / lp) = cntL (valF t L) st W
  per : ∀ x, valF t L (x + lp) = valF t L x
  pr : ∀ q, Pr q → lp % q = 0 → ∃ x ∈ st ++ st.map (fun x => x - lp / q), valF t L x ≠ valF t L (x + lp / q)
theorem right_of (f : Rls b la rs) (hL : 512 ≤ L) (hH : L < 2 ^ 145) (hl : l.map Prod.fst = rs) (nd : Nd l L M) (tr : ∀ r ∈ t.rules, r ∈ rs) (e : l'.map Prod.fst = ddR t) (sm : Small l' L) (g : Good t L l') :
    Right t L (lcmL (neededOf l L)) (startsOf (neededOf l L) L (lcmL (neededOf l L))) (cntL (valF t L) (startsOf (sizesOf l') L (lcmL (sizesOf l'))) (lcmL (sizesOf l')) / (lcmL (sizesOf l') / leastOf t L l')) (leastOf t L l') := by
  obtain ⟨W0, Wd, nW⟩ := lcmL_fact (neededOf l L) fun n h => ⟨(nd.n n h).1, (nd.n n h).2.2⟩
  have sub : ∀ n ∈ sizesOf l', n ∈ neededOf l L := fun n hn => by
    obtain ⟨y, hy, s, hs, rfl⟩ := mem_sizesOf.mp hn
    have : y.1 ∈ rs := dd_sub tr _ (by rw [← e]; exact List.mem_map_of_mem hy)
    rw [← hl] at this
    obtain ⟨z, hz, hz2⟩ := List.mem_map.mp this
    refine List.mem_flatMap.mpr ⟨z, hz, ?_⟩
    have q := nd.z z hz
    rw [← hz2]
    have q2 := sm.stp y hy
    rw [← hz2] at q2
    exact nd_of_step q.2.1 q2 hs
  obtain ⟨P0, hn⟩ := sm.pos
  have PW : lcmL (sizesOf l') ∣ lcmL (neededOf l L) := (lcmL_fact (sizesOf l') fun n h => ⟨(hn n h).1, nW n (sub n h)⟩).2.1
  generalize hW : lcmL (neededOf l L) = W at W0 nW PW
  have oks : ∀ r ∈ ddR t, r.Ok := fun r hr => f.fam.ok r (dd_sub tr r hr)
  have qf := primesIn_fact oks
  obtain ⟨l0, l1, l2, l3⟩ := lpd_spec (F := valF t L) (primesIn (ddR t)) (lcmL (sizesOf l')) (fun q hq => (qf q hq).1) P0 g.per
  have hc : ∀ r ∈ t.rules, ∃ z ∈ l', z.1 = r := fun r hr => by
    have : r ∈ l'.map Prod.fst := by rw [e]; exact (foldl_mem _ r).mpr hr
    obtain ⟨z, hz, hz2⟩ := List.mem_map.mp this
    exact ⟨z, hz, hz2⟩
  -- where it changes, there is an edge
  have chg : ∀ y, valF t L y ≠ valF t L (y - 1) → ∃ n ∈ sizesOf l', Edge L n y := fun y hne => Classical.byContradiction fun c => hne
    (val_of sm.stp hc fun n h => sh_edge (hn n h).1 fun z => c ⟨n, h, z⟩).symm
  have perW : Per (valF t L) W := g.per.dvd PW
  have st0 : (0 : Int) ∈ startsOf (neededOf l L) L W := mem_ups.mpr ⟨Int.le_refl _, W0, .inl rfl⟩
  have cW : cntL (valF t L) (startsOf (neededOf l L) L W) W = cN (valF t L) W.toNat := cnt_starts W0 ups_asc st0 (fun x hx => ⟨(mem_ups.mp hx).1, (mem_ups.mp hx).2.1⟩) fun y h0 h1 hne => by
    obtain ⟨n, h, z⟩ := chg y hne
    exact mem_ups.mpr ⟨by omega, h1, .inr ⟨n, sub n h, z⟩⟩
  have cP : cntL (valF t L) (startsOf (sizesOf l') L (lcmL (sizesOf l'))) (lcmL (sizesOf l')) = cN (valF t L) (lcmL (sizesOf l')).toNat := cnt_starts P0 ups_asc (mem_ups.mpr ⟨Int.le_refl _, P0, .inl rfl⟩) (fun x hx => ⟨(mem_ups.mp hx).1, (mem_ups.mp hx).2.1⟩) g.chg
  unfold leastOf
  generalize hlp : lpd (valF t L) (primesIn (ddR t)) (lcmL (sizesOf l')) = lp at l0 l1 l2 l3
  have lW : lp ∣ W := Int.dvd_trans l1 PW
  have q0 : 0 < lcmL (sizesOf l') / lp := by
    obtain ⟨k, hk⟩ := l1
    rw [hk, Int.mul_ediv_cancel_left k (by omega)]
    refine Classical.byContradiction fun c => ?_
    have : lp * k ≤ lp * 0 := Int.mul_le_mul_of_nonneg_left (by omega) (by omega)
    omega
  have many : cntL (valF t L) (startsOf (sizesOf l') L (lcmL (sizesOf l'))) (lcmL (sizesOf l')) / (lcmL (sizesOf l') / lp) = cN (valF t L) lp.toNat := by
    rw [cP, cN_dvd l2 l0 P0 l1, Int.mul_ediv_cancel_left _ (by omega)]
  refine ⟨W0, l0, Int.le_of_dvd W0 lW, Int.emod_eq_zero_of_dvd lW, ?_, ?_, l2, fun q hq hz => Classical.byContradiction fun no => ?_⟩
  · rw [many]
    have := cN_in (F := valF t L) lp.toNat
    omega
  · rw [many, cW, cN_dvd l2 l0 W0 lW, Int.mul_comm]
  · have all : ∀ x ∈ startsOf (neededOf l L) L W ++ (startsOf (neededOf l L) L W).map (fun x => x - lp / q), valF t L x = valF t L (x + lp / q) := fun x hx => Classical.byContradiction fun c => no ⟨x, hx, c⟩
    have hp : Per (valF t L) (lp / q) := lows W0 perW st0 (fun y hne => by
      obtain ⟨n, h, z⟩ := chg y hne
      exact mem_ups.mpr ⟨Int.emod_nonneg _ (by omega), Int.emod_lt_of_pos _ W0, .inr ⟨n, sub n h, edge_mod (nW n (sub n h)) z⟩⟩) (fun x hx => all x (List.mem_append_left _ hx)) fun x hx => by
      have := all (x - lp / q) (List.mem_append_right _ (List.mem_map.mpr ⟨x, hx, rfl⟩))
      rw [this]
      congr 1
      omega
    have q2 : 0 < q := by
      unfold Pr at hq
      simp only [List.mem_cons, List.not_mem_nil, or_false] at hq
      omega
    have hP : lcmL (sizesOf l') % q = 0 := Int.emod_eq_zero_of_dvd (Int.dvd_trans (Int.dvd_of_emod_eq_zero hz) l1)
    exact l3 q (prime_in sm (fun y hy => by rw [← e]; exact List.mem_map_of_mem hy) hq hP) ⟨hz, hp⟩
end
end Ax
namespace Ax
open PySem PySem.Spec L2
/-! ### a law's tree, plain -/
theorem word_rules (u : Str) (a c : Tr) : (wordTr u a c).rules = a.rules ++ c.rules := by
  unfold wordTr
  split <;> rfl
theorem word_fair {u : Str} {a c : Tr} (h1 : a.Fair) (h2 : c.Fair) : (wordTr u a c).Fair := by
  unfold wordTr
  split <;> exact ⟨h1, h2⟩
theorem word_depth (u : Str) (a c : Tr) : (wordTr u a c).depth ≤ a.depth + c.depth + 2 := by
  unfold wordTr
  split
  · show a.depth + (c.depth + 1) + 1 ≤ _
    omega
  · show a.depth + c.depth + 1 ≤ _
    omega
theorem LT.tr_rules : ∀ t : LT, t.tr.rules = t.rus
  | .every _ => rfl
  | .counted .. => rfl
  | .taken .. => rfl
  | .coarser .. => rfl
  | .touched .. => rfl
  | .nt a => LT.tr_rules a
  | .two u a c => by
    show (wordTr u a.tr c.tr).rules = a.rus ++ c.rus
    rw [word_rules, LT.tr_rules a, LT.tr_rules c]
theorem LT.tr_fair {b : Int} : ∀ t : LT, t.Fine b → t.tr.Fair
  | .every _, _ => trivial
  | .counted .., _ => trivial
  | .taken .., _ => trivial
  | .coarser r s t1 t2, h => by
    obtain ⟨_, _, _, _, h1, h2⟩ := h
    exact ⟨⟨by omega, h1.2⟩, by omega, h2.2⟩
  | .touched .., _ => trivial
  | .nt a, h => LT.tr_fair a h
  | .two u a c, h => word_fair (LT.tr_fair a h.2.1) (LT.tr_fair c h.2.2)
theorem LT.tr_depth : ∀ t : LT, t.tr.depth ≤ 2 * t.dp
  | .every _ => Nat.zero_le _
  | .counted .. => Nat.zero_le _
  | .taken .. => Nat.zero_le _
  | .coarser .. => Nat.zero_le _
  | .touched .. => Nat.zero_le _
  | .nt a => by
    have := LT.tr_depth a
    show a.tr.depth + 1 ≤ 2 * (a.dp + 1)
    omega
  | .two u a c => by
    have h1 := LT.tr_depth a
    have h2 := LT.tr_depth c
    have h3 := word_depth u a.tr c.tr
    show (wordTr u a.tr c.tr).depth ≤ 2 * (a.dp + c.dp + 1)
    omega
theorem LT.rus_len : ∀ t : LT, t.rus.length ≤ 2 * (t.dp + 1)
  | .every _ => Nat.zero_le _
  | .counted .. => Nat.le_of_ble_eq_true rfl
  | .taken .. => Nat.le_of_ble_eq_true rfl
  | .coarser .. => Nat.le_of_ble_eq_true rfl
  | .touched .. => Nat.le_of_ble_eq_true rfl
  | .nt a => by
    have := LT.rus_len a
    show a.rus.length ≤ 2 * (a.dp + 1 + 1)
    omega
  | .two u a c => by
    have h1 := LT.rus_len a
    have h2 := LT.rus_len c
    show (a.rus ++ c.rus).length ≤ 2 * (a.dp + c.dp + 1 + 1)
    rw [List.length_append]
    omega
theorem tr_of {b la : Int} {rs : List Ru} {t : LT} (f : Rls b la rs) (k : TreeOk b rs t) : TrOk b t.tr ∧ ∀ r ∈ t.tr.rules, r ∈ rs := by
  have sub : ∀ r ∈ t.tr.rules, r ∈ rs := fun r h => k.rus r (by rw [← LT.tr_rules]; exact h)
  have h1 := LT.tr_depth t
  have h2 := LT.rus_len t
  have h3 := k.dp
  exact ⟨⟨by omega, by rw [LT.tr_rules]; omega, fun r h => f.fam.ok r (sub r h), LT.tr_fair t k.fine, fun r h => f.fam.one r (sub r h)⟩, sub⟩
/-- so much of the starts -/
def cntI (F : Int → Bool) (st : List Int) (W : Int) (i : Nat) : Int := ((((pairsOf st W).take i).filter fun y => F y.1).map fun y => y.2 - y.1).sum
theorem pairs_get {st : List Int} {W x : Int} {i : Nat} (h : st[i]? = some x) : ∃ y, (st ++ [W])[i + 1]? = some y ∧ (pairsOf st W)[i]? = some (x, y) := by
  have hi : i < st.length := by
    refine Classical.byContradiction fun c => ?_
    rw [List.getElem?_eq_none (by omega)] at h
    cases h
  have h2 : i + 1 < (st ++ [W]).length := by rw [List.length_append]; simp; omega
  refine ⟨(st ++ [W])[i + 1], List.getElem?_eq_getElem h2, ?_⟩
  unfold pairsOf
  rw [List.getElem?_zip_eq_some]
  refine ⟨h, ?_⟩
  have e : st.drop 1 ++ [W] = (st ++ [W]).drop 1 := by
    cases st with
    | nil => simp at hi
    | cons a l => rfl
  rw [e, List.getElem?_drop, Nat.add_comm 1 i]
  exact List.getElem?_eq_getElem h2
theorem cntI_succ {F : Int → Bool} {st : List Int} {W x y : Int} {i : Nat} (h : (pairsOf st W)[i]? = some (x, y)) : cntI F st W (i + 1) = cntI F st W i + if F x then y - x else 0 := by
  unfold cntI
  rw [List.take_succ, h]
  simp only [Option.toList_some, List.filter_append, List.map_append, List.sum_append]
  congr 1
  by_cases c : F x = true
  · rw [if_pos c, List.filter_cons_of_pos (by simpa using c)]
    simp
  · rw [if_neg c, List.filter_cons_of_neg (by simpa using c)]
    simp
theorem pairs_len (st : List Int) (W : Int) : (pairsOf st W).length = st.length := by
  unfold pairsOf
  cases st with
  | nil => rfl
  | cons a l => simp
theorem cntI_all {F : Int → Bool} {st : List Int} {W : Int} : cntI F st W st.length = cntL F st W := by
  unfold cntI cntL
  rw [List.take_of_length_le (by rw [pairs_len]; exact Nat.le_refl _)]
def hdD (F : Int → Bool) : D → D
  | .int x => .bl (F x)
  | _ => .non
def subD (q : Int) : D → D
  | .int x => .int (x - q)
  | _ => .non
def chD (F : Int → Bool) (q : Int) : D → Bool
  | .int x => !decide (F x = F (x + q))
  | _ => false
def rLRight (b : Int) (t : LT) : List D → D → Prop := fun ds d => ∃ (la : Int) (rs : List Ru) (L : Int), ds = [.lst (rs.map Ru.lw), t.dt, setD b t.tr, .int L] ∧ Rls b la rs ∧ TreeOk b rs t ∧ 512 ≤ L ∧ L < 2 ^ 145 ∧ d = .bl true
section
variable {P : Program} {w : World} {K : PySem.W.Frag} {mg : Str → Option Value} {base : Heap}
theorem sc_law_right : FnScope ["_law_rules_here", "_law_tree_here", "_law_made_here", "_law_length_here", "_law_whole", "_law_starts_here", "_law_held", "_law_due", "_law_at", "_law_many", "_law_period", "_law_low", "_law_prime", "_law_step_here", "_law_lows", "_law_start"] ["_law_rules_here", "_law_tree_here", "_law_made_here", "_law_length_here"] (defScope s_law_right) := ⟨rfl, rfl, rfl, by decide +kernel, rfl, by decide +kernel, by decide +kernel⟩
theorem ok_law_right (T : Tp K mg) (b : Int) (t : LT) : FnD P w K mg base 13 "_law_right" 4 (rLRight b t) := by
  obtain ⟨fd, FF⟩ := T.d_law_right
  refine fnD_mk T.g_law_right FF sc_law_right rfl (FF.bindsN fun _ _ _ _ _ _ us hl => match us, hl with | [_, _, _, _], _ => rfl) fun cdv A outer s H E hr ds d h hl => ?_
  obtain ⟨la, rs, L, rfl, f, tk, hL, hH, rfl⟩ := h
  have dp1 := tk.dp
  have r3 := f.len
  obtain ⟨to, tr⟩ := tr_of f tk
  obtain ⟨l, hl1, hz⟩ := lsz_all (L := L) (by omega) rs f.fam.ok
  obtain ⟨M, nd⟩ := nd_of (l := l) (by rw [hl1]; exact f) hL hH hz
  obtain ⟨l', e, hs⟩ := stp_all hL (by omega) (ddR t.tr) (fun r hr => f.fam.ok r (dd_sub tr r hr))
  obtain ⟨sm, g⟩ := small_good f hL hH tr e hs
  have R := right_of f hL hH hl1 nd tr e sm g
  have dl := dd_len tr
  have ll : l.length = rs.length := by rw [← hl1, List.length_map]
  have elw : rs.map Ru.lw = l.map fun y => y.1.lw := by rw [← hl1, List.map_map]; rfl
  obtain ⟨W0, _, nW⟩ := lcmL_fact (neededOf l L) fun n h => ⟨(nd.n n h).1, (nd.n n h).2.2⟩
  have few := nd.few
  have sl := starts_len2 (L := L) (fun n h => ⟨(nd.n n h).1, nW n h⟩) W0 nd.near few
  have top := nd.top
  have sb : ∀ x ∈ startsOf (neededOf l L) L (lcmL (neededOf l L)), 0 ≤ x ∧ x < lcmL (neededOf l L) := fun x hx => ⟨(mem_ups.mp hx).1, (mem_ups.mp hx).2.1⟩
  refine dss_cons (ds_unpack (de_call (ok_law_starts T) (hr.mono (by decide)) (da_cons (de_var 0) (da_cons (de_var 3) da_nil)) ⟨l, L, M, by rw [elw], nd.z, by omega, by omega, by omega, nd.n, nd.m0, nd.m1, by omega, nd.near, nd.top, rfl⟩) (dg_tup (dgs_cons (dg_name 4 sc_law_right.nd) (dgs_cons (dg_name 5 sc_law_right.nd) dgs_nil)) rfl) ?_)
  generalize hst : startsOf (neededOf l L) L (lcmL (neededOf l L)) = st at sl sb R
  generalize hW : lcmL (neededOf l L) = W at top sb R W0
  have fine := tk.fine
  refine dss_cons (ds_lcK 6 [("_law_start", 15)] (lck (di_list (de_var 5)) (fun _ => true) (hdD (valF t.tr L)) (freeC free0) (by rw [List.length_map]; omega) fun x hx => ?_) ?_ (blk_at ["_law_rules_here", "_law_tree_here", "_law_made_here", "_law_length_here", "_law_whole", "_law_starts_here", "_law_held", "_law_due", "_law_at", "_law_many", "_law_period", "_law_low", "_law_prime", "_law_step_here", "_law_lows", "_law_start"] (defScope s_law_right)) sc_law_right.nd rfl (sw_true rfl rfl rfl (by decide +kernel)))
  · obtain ⟨y, hy, rfl⟩ := List.mem_map.mp hx
    have yb := sb y hy
    exact ⟨_, _, bkAll fun _ _ _ _ _ => (dg_name 15 sc_law_right.nd), by decide, rfl, bkAll fun _ _ _ _ _ => dts_nil, fun _ => bkAll fun _ _ _ _ _ => (de_call (ok_law_holds T b t) (hr.mono (by omega)) (da_cons (de_var 1) (da_cons (de_var 15) (da_cons (de_op o_add (de_var 15) (de_var 3)) da_nil))) ⟨L, y, rfl, fine, hL, hH, by omega, by omega, rfl⟩)⟩
  have eH : ((st.map D.int).filter fun _ => true).map (hdD (valF t.tr L)) = st.map fun x => D.bl (valF t.tr L x) := by
    rw [filter_true, List.map_map]
    rfl
  rw [eH]
  generalize hF : valF t.tr L = Fn at R
  refine dss_cons (ds_set 7 de_int ?_ sc_law_right.nd)
  refine dss_cons (ds_for (di_range1 (da_cons (de_callB c_len T.b_len bt_len (da_cons (de_var 5) da_nil)) da_nil) T.b_range (by omega) (by rw [List.length_map]; omega)) (fun i G => ∃ u, G = [.d (.lst (rs.map Ru.lw)), .d t.dt, .d (setD b t.tr), .d (.int L), .d (.int W), .d (.lst (st.map D.int)), .d (.lst (st.map fun x => D.bl (Fn x))), .d (.int (cntI Fn st W i)), u, .un, .un, .un, .un, .un, .un, .un]) ⟨.un, rfl⟩ (fun i x G' hx hG => ?_) (fun G' hG => ?_) rfl)
  · obtain ⟨u, rfl⟩ := hG
    obtain ⟨hi, rfl⟩ := rngD_get hx
    have hi2 : i < st.length := by
      have : i < ((((st.map D.int).length : Nat) : Int)).toNat := hi
      rw [List.length_map] at this
      omega
    have hget := List.getElem?_eq_getElem hi2
    obtain ⟨y, hy1, hy2⟩ := pairs_get (W := W) hget
    refine ⟨_, _, dg_name 8 sc_law_right.nd, ?_⟩
    refine dss_one (ds_if (dt_val (de_ixL (d := .bl (Fn st[i])) (de_var 6) (de_var 8) (atI_map (f := fun x => D.bl (Fn x)) hget (by omega)))) (fun hb => ?_) (fun hb => ?_))
    · refine dss_one (ds_set 7 (de_op o_sub (de_op o_add (de_var 7) (de_ixL (d := .int y) (ds := (st ++ [W]).map D.int) (DE.to (de_o (de_var 5) (de_lst (da_cons (de_var 4) da_nil)) (o_cat (by rw [List.length_map]; show st.length + 1 ≤ 1000000; omega))) (by rw [List.map_append]; rfl)) (de_op o_add (de_var 8) de_int) (atI_map hy1 (by push_cast; omega)))) (de_ixL (d := .int st[i]) (de_var 5) (de_var 8) (atI_map hget (by omega)))) ⟨.d (.int (0 + (i : Int) * 1)), ?_⟩ sc_law_right.nd)
      rw [cntI_succ hy2, if_pos hb, show cntI Fn st W i + (y - st[i]) = cntI Fn st W i + y - st[i] by omega]
      rfl
    · refine dss_nil ⟨.d (.int (0 + (i : Int) * 1)), ?_⟩
      rw [cntI_succ hy2, if_neg (by rw [hb]; decide), Int.add_zero]
      rfl
  obtain ⟨u8, rfl⟩ := hG
  rw [rngD_len, show ((((st.map D.int).length : Nat) : Int)).toNat = st.length by rw [List.length_map]; omega, cntI_all]
  refine dss_cons (ds_unpack (de_meth (ok_RangeSet_share T) (hr.mono (by decide)) (de_var 2) (da_cons (de_var 3) da_nil) ⟨b, t.tr, L, l', rfl, to, by omega, e, sm, by omega, by omega, g, rfl⟩) (dg_tup (dgs_cons (dg_name 9 sc_law_right.nd) (dgs_cons (dg_name 10 sc_law_right.nd) dgs_nil)) rfl) ?_)
  rw [hF]
  generalize hlp : leastOf t.tr L l' = lp at R
  generalize hmany : cntL Fn (startsOf (sizesOf l') L (lcmL (sizesOf l'))) (lcmL (sizesOf l')) / (lcmL (sizesOf l') / lp) = many at R
  obtain ⟨_, p0, pW, dv, mn, cnt, per, pr⟩ := R
  simp only [hF] at cnt per pr
  have q1 : W / lp ≤ W := Int.ediv_le_self _ (by omega)
  have q0 : 0 ≤ W / lp := Int.ediv_nonneg (by omega) (by omega)
  refine dss_cons (ds_if (dt_w (dw_or (dt_cmp o_lt (de_var 10) de_int) fun _ => (dw_or (dt_cmp o_gt (de_o (de_callTy c_int T.b_int bt_int (da_cons (de_var 4) da_nil)) (de_callTy c_int T.b_int bt_int (da_cons (de_var 10) da_nil)) (o_mod p0)) de_int) fun _ => (dw_or1 (dt_cmp o_ne (de_o (de_var 9) (de_o (de_var 4) (de_var 10) (o_div (divW p0 (by omega)))) (o_mul (wide_mul (a := 200) (b := 200) (by omega) (by omega) (by decide) (by decide) (by decide)))) (de_var 7)))))) (fun hb => ?_) (fun hb => ?_))
  · rw [dv, cnt] at hb
    have : ¬ lp < 1 := by omega
    simp [this] at hb
  refine dss_nil (dss_cons (ds_for (di_range1 (da_cons (de_callB c_len T.b_len bt_len (da_cons (de_var 5) da_nil)) da_nil) T.b_range (by omega) (by rw [List.length_map]; omega)) (fun i G => ∃ u v, G = [.d (.lst (rs.map Ru.lw)), .d t.dt, .d (setD b t.tr), .d (.int L), .d (.int W), .d (.lst (st.map D.int)), .d (.lst (st.map fun x => D.bl (Fn x))), .d (.int (cntL Fn st W)), u, .d (.int many), .d (.int lp), v, .un, .un, .un, .un]) ⟨_, _, rfl⟩ (fun i x G' hx hG => ?_) (fun G' hG => ?_) rfl))
  · obtain ⟨u, v, rfl⟩ := hG
    obtain ⟨hi, rfl⟩ := rngD_get hx
    have hi2 : i < st.length := by
      have : i < ((((st.map D.int).length : Nat) : Int)).toNat := hi
      rw [List.length_map] at this
      omega
    have hget := List.getElem?_eq_getElem hi2
    have yb := sb st[i] (List.getElem_mem hi2)
    refine ⟨_, _, dg_name 8 sc_law_right.nd, ?_⟩
    refine dss_cons (ds_set 11 (de_op o_add (de_ixL (d := .int st[i]) (de_var 5) (de_var 8) (atI_map hget (by omega))) (de_var 10)) ?_ sc_law_right.nd)
    refine dss_one (ds_if (dt_cmp o_neB (de_call (ok_law_holds T b t) (hr.mono (by omega)) (da_cons (de_var 1) (da_cons (de_var 11) (da_cons (de_op o_add (de_var 11) (de_var 3)) da_nil))) ⟨L, st[i] + lp, rfl, fine, hL, hH, by omega, by omega, rfl⟩) (de_ixL (d := .bl (Fn st[i])) (de_var 6) (de_var 8) (atI_map (f := fun x => D.bl (Fn x)) hget (by omega)))) (fun hb => ?_) (fun hb => ?_))
    · rw [hF, per] at hb
      simp at hb
    · exact dss_nil ⟨_, _, rfl⟩
  obtain ⟨u, v, rfl⟩ := hG
  refine dss_cons (ds_for (ds := [.int 2, .int 3, .int 5, .int 7, .int 11, .int 13]) (di_list (de_lst (da_cons de_int (da_cons de_int (da_cons de_int (da_cons de_int (da_cons de_int (da_cons de_int da_nil)))))))) (fun i G => ∃ v x12 x13 x14, G = [.d (.lst (rs.map Ru.lw)), .d t.dt, .d (setD b t.tr), .d (.int L), .d (.int W), .d (.lst (st.map D.int)), .d (.lst (st.map fun x => D.bl (Fn x))), .d (.int (cntL Fn st W)), u, .d (.int many), .d (.int lp), v, x12, x13, x14, .un]) ⟨_, _, _, _, rfl⟩ (fun i x G' hx hG => ?_) (fun G' hG => ?_) rfl)
  · obtain ⟨v', x12, x13, x14, rfl⟩ := hG
    obtain ⟨q, hq, rfl⟩ : ∃ q, Pr q ∧ x = .int q := by
      have hm := List.mem_of_getElem? hx
      simp only [List.mem_cons, List.not_mem_nil, or_false] at hm
      unfold Pr
      rcases hm with rfl | rfl | rfl | rfl | rfl | rfl <;> exact ⟨_, by decide, rfl⟩
    have qb : 2 ≤ q ∧ q ≤ 13 := by
      unfold Pr at hq
      simp only [List.mem_cons, List.not_mem_nil, or_false] at hq
      omega
    have s0 : 0 ≤ lp / q := Int.ediv_nonneg (by omega) (by omega)
    have s1 : lp / q ≤ lp := Int.ediv_le_self _ (by omega)
    refine ⟨_, _, dg_name 12 sc_law_right.nd, ?_⟩
    refine dss_one (ds_if (dt_cmp o_eq (de_o (de_callTy c_int T.b_int bt_int (da_cons (de_var 10) da_nil)) (de_var 12) (o_mod (by omega))) de_int) (fun hb => ?_) (fun hb => ?_))
    · have hdiv : lp % q = 0 := of_decide_eq_true hb
      obtain ⟨z, hz1, hz2⟩ := pr q hq hdiv
      refine dss_cons (ds_set 13 (de_o (de_var 10) (de_var 12) (o_div (divW (by omega) (by omega)))) ?_ sc_law_right.nd)
      generalize hsq : lp / q = sq at s0 s1 hz1 hz2
      refine dss_cons (ds_set 14 (DE.to (de_o (de_var 5) (de_lcK [("_law_start", 15)] (lck (di_list (de_var 5)) (fun _ => true) (subD sq) (freeC free0) (by rw [List.length_map]; omega) fun x hx => ?_) (blk_at ["_law_rules_here", "_law_tree_here", "_law_made_here", "_law_length_here", "_law_whole", "_law_starts_here", "_law_held", "_law_due", "_law_at", "_law_many", "_law_period", "_law_low", "_law_prime", "_law_step_here", "_law_lows", "_law_start"] (defScope s_law_right)) sc_law_right.nd rfl) (o_cat (by rw [filter_true, List.length_map, List.length_map, List.length_map]; omega))) (d' := .lst ((st ++ st.map fun x => x - sq).map D.int)) ?_) ?_ sc_law_right.nd)
      · obtain ⟨y, hy, rfl⟩ := List.mem_map.mp hx
        exact ⟨_, _, bkAll fun _ _ _ _ _ => (dg_name 15 sc_law_right.nd), by decide, rfl, bkAll fun _ _ _ _ _ => dts_nil, fun _ => bkAll fun _ _ _ _ _ => (de_op o_sub (de_var 15) (de_var 13))⟩
      · rw [filter_true, List.map_append, List.map_map, List.map_map]
        rfl
      refine dss_un 11 (dss_one (ds_if (dt_cmp (o_eqN hr.units0) (de_lcK [("_law_low", 11)] (lck (di_list (de_var 14)) (chD Fn sq) (fun d => d) (freeC free0) (by rw [List.length_map, List.length_append, List.length_map]; omega) fun x hx => ?_) (blk_at ["_law_rules_here", "_law_tree_here", "_law_made_here", "_law_length_here", "_law_whole", "_law_starts_here", "_law_held", "_law_due", "_law_at", "_law_many", "_law_period", "_law_low", "_law_prime", "_law_step_here", "_law_lows", "_law_start"] (defScope s_law_right)) sc_law_right.nd rfl) (de_lst da_nil)) (fun hb => ?_) (fun hb => ?_)))
      · obtain ⟨y, hy, rfl⟩ := List.mem_map.mp hx
        have yb : -W ≤ y ∧ y < W := by
          rcases List.mem_append.mp hy with hy | hy
          · have := sb y hy
            omega
          · obtain ⟨y', hy', rfl⟩ := List.mem_map.mp hy
            have := sb y' hy'
            show -W ≤ y' - sq ∧ y' - sq < W
            omega
        exact ⟨_, _, bkAll fun _ _ _ _ _ => (dg_name 11 sc_law_right.nd), by decide, rfl, bkAll fun _ _ _ _ _ => (dts_one (dt_val (de_call (ok_law_is_changed T b t) (hr.mono (by omega)) (da_cons (de_var 1) (da_cons (de_var 11) (da_cons (de_var 13) (da_cons (de_var 3) da_nil)))) ⟨L, y, sq, rfl, fine, hL, hH, by omega, by omega, by omega, by omega, by rw [hF]; rfl⟩))), fun _ => bkAll fun _ _ _ _ _ => (de_var 11)⟩
      · rw [List.isEmpty_map, List.isEmpty_iff] at hb
        have := List.filter_eq_nil_iff.mp hb (.int z) (List.mem_map.mpr ⟨z, hz1, rfl⟩)
        exact absurd (by show (!decide (Fn z = Fn (z + sq))) = true; simpa using hz2) this
      · exact dss_nil ⟨_, _, _, _, rfl⟩
    · exact dss_nil ⟨_, _, _, _, rfl⟩
  obtain ⟨v', x12, x13, x14, rfl⟩ := hG
  exact dss_one (ds_ret de_bl rfl)
end
end Ax
namespace Ax
open PySem PySem.Spec L2
def treeD (p : Pu) (rs : List Ru) : LT := if drV p 2 = 0 then atomF (drP p 2) rs else treeF (drP p 2) rs
def treeQ (p : Pu) (rs : List Ru) : Pu := if drV p 2 = 0 then atomP (drP p 2) rs else treeP (drP p 2) rs
theorem treeD_ok {b la : Int} {rs : List Ru} {p : Pu} {k : Int} (f : Rls b la rs) (hk : PuN k p) : TreeOk b rs (treeD p rs) ∧ PuN (k + 12) (treeQ p rs) := by
  have h := hk.dr (n := 2) (by decide)
  unfold treeD treeQ
  split
  · exact ⟨atomF_ok f, (atomP_n f h).mono (by omega)⟩
  · exact ⟨treeF_ok f, (treeP_n f h).mono (by omega)⟩
def rLaw : List D → D → Prop := fun ds d => ∃ xs : List Int, ds = [.scr xs] ∧ d = .bl true
section
variable {P : Program} {w : World} {K : PySem.W.Frag} {mg : Str → Option Value} {base : Heap}
theorem sc_law : FnScope ["_law_script", "_law_turn", "_law_purse_here", "_law_rules_here", "_law_tree_here"] ["_law_script"] (defScope s_law) := ⟨rfl, rfl, rfl, by decide +kernel, rfl, by decide +kernel, by decide +kernel⟩
theorem ok_law_body (T : Tp K mg) (V : Ev K) (xs : List Int) (cdv : Value) (A : Around) (outer : List Env) (s : Shared) (H : Hp) (E : XK) (f : Addr) (hr : Room 13 (cx P w K mg base ["_law_script", "_law_turn", "_law_purse_here", "_law_rules_here", "_law_tree_here"] "law" s_law f cdv A outer s H E).A) :
    DSs (cx P w K mg base ["_law_script", "_law_turn", "_law_purse_here", "_law_rules_here", "_law_tree_here"] "law" s_law f cdv A outer s H E) (slots ["_law_script", "_law_turn", "_law_purse_here", "_law_rules_here", "_law_tree_here"] [.scr xs]) (defBody s_law) { nx := fun _ => False, rt := fun d' _ => d' = .bl true } := by
  refine dss_cons (ds_for (di_range1 (da_cons de_int da_nil) T.b_range (by decide) (by decide)) (fun i G => ∃ u1 u2 u3 u4, G = [.d (.scr xs), u1, u2, u3, u4]) ⟨_, _, _, _, rfl⟩ (fun i x G' hx hG => ?_) (fun G' hG => ?_) rfl)
  · obtain ⟨u1, u2, u3, u4, rfl⟩ := hG
    obtain ⟨hi, rfl⟩ := rngD_get hx
    rw [show (0 : Int) + (i : Int) * 1 = (i : Int) by omega]
    refine ⟨_, _, dg_name 1 sc_law.nd, ?_⟩
    refine dss_cons (ds_callN 2 (ok_law_purse T) (hr.mono (by decide)) (da_cons (de_var 0) (da_cons (de_var 1) da_nil)) ⟨xs, i, rfl, rfl⟩ (fun pa => ?_) sc_law.nd)
    have pn := purse_n xs i
    generalize purseF xs i = p at pn
    have R := rulesF_ok p
    have qn := rulesP_n pn
    refine dss_cons (ds_set 3 (de_callP 2 (ok_law_rules T) (hr.mono (by decide)) da_nil ⟨p, 0, rfl, rfl, pn, by decide, rfl, rfl⟩ rfl rfl) ?_ sc_law.nd)
    generalize rulesF p = rs at R
    generalize rulesP p = q at qn
    generalize famB p = b at R
    generalize lcmL (famS p) = la at R
    obtain ⟨tk, tn⟩ := treeD_ok R qn
    have hd := qn.dr (n := 2) (by decide)
    have dv := drV_in q (n := 2) (by decide)
    refine dss_cons (ds_set 4 (d := (treeD q rs).dt) (G1 := [.d (.scr xs), .d (.int (i : Int)), .pl pa (treeQ q rs).ds, .d (.lst (rs.map Ru.lw)), u4]) ?_ ?_ sc_law.nd)
    · by_cases c : drV q 2 = 0
      · have e1 : treeD q rs = atomF (drP q 2) rs := if_pos c
        have e2 : treeQ q rs = atomP (drP q 2) rs := if_pos c
        rw [e1, e2]
        exact de_callQ 2 (ok_law_tree1 T) (hr.mono (by decide)) (da_cons (de_var 3) (da_cons (de_op o_add de_int (de_callP 2 (ok_law_draw T) (hr.mono (by decide)) (da_cons de_int da_nil) (draws (n := 2) (by decide) (by decide) qn (by decide)) rfl rfl)) da_nil)) ⟨drP q 2, b, la, rs, _, rfl, by rw [c]; rfl, R, hd, by decide, rfl, rfl⟩ rfl rfl
      · have e1 : treeD q rs = treeF (drP q 2) rs := if_neg c
        have e2 : treeQ q rs = treeP (drP q 2) rs := if_neg c
        rw [e1, e2]
        exact de_callQ 2 (ok_law_tree2 T) (hr.mono (by decide)) (da_cons (de_var 3) (da_cons (de_op o_add de_int (de_callP 2 (ok_law_draw T) (hr.mono (by decide)) (da_cons de_int da_nil) (draws (n := 2) (by decide) (by decide) qn (by decide)) rfl rfl)) da_nil)) ⟨drP q 2, b, la, rs, _, rfl, by rw [show drV q 2 = 1 by omega]; rfl, R, hd, by decide, rfl, rfl⟩ rfl rfl
    generalize treeD q rs = t at tk
    generalize treeQ q rs = z at tn
    have dp1 := tk.dp
    obtain ⟨r0, hr0⟩ : ∃ r0, rs[0]? = some r0 := ⟨rs[0]'(List.length_pos_iff.mpr R.ne), List.getElem?_eq_getElem _⟩
    have ho := R.fam.ok r0 (List.mem_of_getElem? hr0)
    obtain ⟨_, _, _, _, _, hL, hH⟩ := lenF_in (p := z) ho
    refine dss_one (ds_if (dt_not (dt_val (de_call (ok_law_right T b t) (hr.mono (by decide)) (da_cons (de_var 3) (da_cons (de_var 4) (da_cons (de_call (ok_law_set T V b t) (hr.mono (by omega)) (da_cons (de_var 4) da_nil) ⟨rfl, tk.fine, rfl⟩) (da_cons (de_callP 2 (ok_law_length T) (hr.mono (by decide)) (da_cons (de_ixL (d := r0.lw) (de_var 3) de_int (atI_map (f := Ru.lw) hr0 rfl)) da_nil) ⟨z, r0, _, rfl, rfl, ho, tn, by decide, rfl, rfl⟩ rfl rfl) da_nil)))) ⟨la, rs, lenF z r0, rfl, R, tk, hL, hH, rfl⟩))) (fun hb => absurd hb (by decide)) (fun hb => ?_))
    exact dss_nil ⟨_, _, _, _, rfl⟩
  · obtain ⟨u1, u2, u3, u4, rfl⟩ := hG
    exact dss_one (ds_ret de_bl rfl)
end
end Ax
namespace Ax
open PySem PySem.Spec L2
def spLaw (K : PySem.W.Frag) : Sp := fun vs H Q _ => ∃ (a : Addr) (ns : List Int), vs = [.ref a] ∧ SqL K H a (ns.map V.int) ∧ ∀ H', Q (.bl true) H'
section
variable {P : Program} {w : World} {K : PySem.W.Frag} {mg : Str → Option Value} {base : Heap}
theorem ok_law (T : Tp K mg) (V : Ev K) {f : Addr} {fd : FuncData} (F : FunD K "law" "law" (defArgs s_law) (defBody s_law) (defScope s_law) [] [] f fd) : FnOk P w K mg base CX0 14 f fd ["_law_script"] (spLaw K) := by
  refine F.ok sc_law (fun vs H Q E h => ?_) (fun cdv A outer s H vs Q E hr h => ?_)
  · obtain ⟨a, ns, rfl, _⟩ := h
    rfl
  · obtain ⟨a, ns, rfl, hS, kq⟩ := h
    have hb := ok_law_body (P := P) (w := w) (base := base) T V ns cdv A outer s H E f hr
    have h0 : Hld K (fun _ => none) H H (L2.start ["_law_script", "_law_turn", "_law_purse_here", "_law_rules_here", "_law_tree_here"] [.ref a]) (slots ["_law_script", "_law_turn", "_law_purse_here", "_law_rules_here", "_law_tree_here"] [.scr ns]) := hld_start (fun _ _ e => nomatch e) (ext_refl H) (fun _ _ e => nomatch e) (.cons (.scr hS) .nil)
    refine ⟨_, (pss_D (X := cx P w K mg base ["_law_script", "_law_turn", "_law_purse_here", "_law_rules_here", "_law_tree_here"] "law" s_law f cdv A outer s H E)).nox, hb.use h0 (fun σ' H' ⟨G', B', h1, s1, e⟩ => e.elim) (fun v H' ⟨σ', G', B', d', h1, s1, a1, e⟩ => ?_) (fun σ' H' ⟨G', B', h1, s1, e⟩ => e) (fun σ' H' ⟨G', B', h1, s1, e⟩ => e)⟩
    obtain rfl : d' = .bl true := e
    cases a1
    exact kq H'
end
end Ax
open PySem PySem.W PySem.Calls PyProof.Rows
theorem PySem.Challenge.cw_axisticks_k26_whole_shares_at_great_leng_holds : PySem.Challenge.rw_axisticks_k26_whole_shares_at_great_leng.Holds := by
  w_on; o_law
  refine HandSHeadRun.head_any (r := OpenLaw.row PySem.Challenge.rw_axisticks_k26_whole_shares_at_great_leng) (q := view (OpenLaw.row PySem.Challenge.rw_axisticks_k26_whole_shares_at_great_leng).prog [126]) (H := Ax.hk) (ob := Ax.ob) (M := 30000) (loose := Ax.nms) (d := HandSHeadRun.topDef (OpenLaw.row PySem.Challenge.rw_axisticks_k26_whole_shares_at_great_leng).prog 126) (kwd := []) Ax.ob_eq
    (by kernel_rfl) (fun s => by kernel_rfl) Ax.run (by kernel_rfl) (by kernel_rfl) (by kernel_rfl) (by rfl) (by first | assumption | decide +kernel) (by decide +kernel) ⟨rfl, rfl, rfl, rfl, rfl, by decide +kernel⟩ ?hw ?hc
  case hw => w_witness2
  case hc =>
    refine L2.walk_ofE (l := PySem.Challenge.rw_axisticks_k26_whole_shares_at_great_leng) (n := 63) (k := 14) (x := "_law_script") (CX := L2.CX0) rfl (by decide) (by kernel_rfl) ⟨rfl, by decide, by decide⟩ ?F (fun _ _ _ _ z => z)
    intro w mg fa h Y G hmg0
    obtain ⟨K, KX, c, ex, eE⟩ := Y
    have hmg : mg ("law" : PySem.Str) = some (.ref fa) := by
      have e : (HandSHeadRun.topDef (OpenLaw.row PySem.Challenge.rw_axisticks_k26_whole_shares_at_great_leng).prog 126).name = ("law" : PySem.Str) := by kernel_rfl
      rw [← e]
      exact hmg0
    have T : Ax.Tp K mg := Ax.tp_of (w := w) KX G c ex
    have V : Ax.Ev K := Ax.ev_of ex eE
    obtain ⟨fd, F⟩ := T.d_law
    have e := hmg.symm.trans T.g_law
    cases e
    have b := L2.FunD.bindsA (ps := ["_law_script"]) F fun _ _ _ _ _ _ us hl => match us, hl with | [_], _ => rfl
    exact ⟨K, fd, Ax.spLaw K, KX, fun s v => b s [v] rfl, fun H a ns hl _ hS => ⟨a, ns, rfl, hS, fun _ => rfl⟩, fun base _ _ => Ax.ok_law T V F⟩
