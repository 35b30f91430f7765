import PyProof.Rows.All
import Wide.All
import OpenK.AllK
import Wide.FinOn
import KE.KStateDown
import Lean
import HandS.ForMost
import HandS.Defaults
import HandS.Head0
import HandS.Head1
import HandS.Head2
import HandS.HeadEnd
import HandS.HeadHook1
import HandS.HeadHook2
import HandS.HeadHook3
import HandS.HeadHook4
import HandS.Walk
import HandS.Evl
import HandS.Deep
import HandS.WideBits
import HandS.NoneIn
import HandS.IsInst
import HandS.TupAny
import HandS.Zip
import HandS.Style
import HandS.More
import KE.GoesMore
import HandS.Ends
import PySem.Challenge.RW_signlines_k98_whole_moved_put_on_and_lai
/-! signlines, law_k98_whole_moved_put_on_and_laid: one text of the parts W0, Run, Z1, Z2, Z3, Z4, Z5, Z6, Z7, Z8, Z9, Mth1, Mth2, Mth3, Mth4, E1, B1, W1, W2, M1, W3, W4, W5, W6, W7, Z10, Z11, W8, W9, W10, W11, W12, W13, W14, W15, W16, W17, W18, W19, Z12, W20, W21, Mth5, Mth6, Mth7, G1, W22, W23, W24, W25, G2, W26, W27, G3, W28, W29, W30, End0, Fin -/
set_option Elab.async false
set_option linter.all false
set_option maxRecDepth 100000
set_option maxHeartbeats 0
namespace Sl
open PySem PySem.Spec PyProof.Rows L2
def top (i : Nat) : Stmt := PySem.Challenge.pw_signlines_k98_whole_moved_put_on_and_lai.main.body.getD i (.Pass ⟨0, 0, 0, 0⟩)

def s_is_whole : Stmt := top 15
def d_is_whole : He.DefD := ⟨("is_whole", none), "is_whole", "is_whole", defArgs s_is_whole, defBody s_is_whole, defScope s_is_whole, [], []⟩
def s_common : Stmt := top 16
def d_common : He.DefD := ⟨("common", none), "common", "common", defArgs s_common, defBody s_common, defScope s_common, [], []⟩
def s_is_fraction : Stmt := top 17
def d_is_fraction : He.DefD := ⟨("is_fraction", none), "is_fraction", "is_fraction", defArgs s_is_fraction, defBody s_is_fraction, defScope s_is_fraction, [], []⟩
def s_want_fraction : Stmt := top 18
def d_want_fraction : He.DefD := ⟨("want_fraction", none), "want_fraction", "want_fraction", defArgs s_want_fraction, defBody s_want_fraction, defScope s_want_fraction, [], []⟩
def s_lowest : Stmt := top 19
def d_lowest : He.DefD := ⟨("lowest", none), "lowest", "lowest", defArgs s_lowest, defBody s_lowest, defScope s_lowest, [], []⟩
def s_plus : Stmt := top 20
def d_plus : He.DefD := ⟨("plus", none), "plus", "plus", defArgs s_plus, defBody s_plus, defScope s_plus, [], []⟩
def s_less : Stmt := top 21
def d_less : He.DefD := ⟨("less", none), "less", "less", defArgs s_less, defBody s_less, defScope s_less, [], []⟩
def s_times : Stmt := top 22
def d_times : He.DefD := ⟨("times", none), "times", "times", defArgs s_times, defBody s_times, defScope s_times, [], []⟩
def s_over : Stmt := top 23
def d_over : He.DefD := ⟨("over", none), "over", "over", defArgs s_over, defBody s_over, defScope s_over, [], []⟩
def s_opposite : Stmt := top 24
def d_opposite : He.DefD := ⟨("opposite", none), "opposite", "opposite", defArgs s_opposite, defBody s_opposite, defScope s_opposite, [], []⟩
def s_is_below : Stmt := top 25
def d_is_below : He.DefD := ⟨("is_below", none), "is_below", "is_below", defArgs s_is_below, defBody s_is_below, defScope s_is_below, [], []⟩
def s_sum_of : Stmt := top 26
def d_sum_of : He.DefD := ⟨("sum_of", none), "sum_of", "sum_of", defArgs s_sum_of, defBody s_sum_of, defScope s_sum_of, [], []⟩
def s_least_of : Stmt := top 27
def d_least_of : He.DefD := ⟨("least_of", none), "least_of", "least_of", defArgs s_least_of, defBody s_least_of, defScope s_least_of, [], []⟩
def s_is_above_nought : Stmt := top 30
def d_is_above_nought : He.DefD := ⟨("is_above_nought", none), "is_above_nought", "is_above_nought", defArgs s_is_above_nought, defBody s_is_above_nought, defScope s_is_above_nought, [], []⟩
def s_is_point : Stmt := top 31
def d_is_point : He.DefD := ⟨("is_point", none), "is_point", "is_point", defArgs s_is_point, defBody s_is_point, defScope s_is_point, [], []⟩
def s_is_points : Stmt := top 32
def d_is_points : He.DefD := ⟨("is_points", none), "is_points", "is_points", defArgs s_is_points, defBody s_is_points, defScope s_is_points, [], []⟩
def s_is_prices : Stmt := top 33
def d_is_prices : He.DefD := ⟨("is_prices", none), "is_prices", "is_prices", defArgs s_is_prices, defBody s_is_prices, defScope s_is_prices, [], []⟩
def s_is_line : Stmt := top 34
def d_is_line : He.DefD := ⟨("is_line", none), "is_line", "is_line", defArgs s_is_line, defBody s_is_line, defScope s_is_line, [], []⟩
def s_want_points : Stmt := top 35
def d_want_points : He.DefD := ⟨("want_points", none), "want_points", "want_points", defArgs s_want_points, defBody s_want_points, defScope s_want_points, [], []⟩
def s_want_prices : Stmt := top 36
def d_want_prices : He.DefD := ⟨("want_prices", none), "want_prices", "want_prices", defArgs s_want_prices, defBody s_want_prices, defScope s_want_prices, [], []⟩
def s_want_line : Stmt := top 37
def d_want_line : He.DefD := ⟨("want_line", none), "want_line", "want_line", defArgs s_want_line, defBody s_want_line, defScope s_want_line, [], []⟩
def s_are_spread : Stmt := top 38
def d_are_spread : He.DefD := ⟨("are_spread", none), "are_spread", "are_spread", defArgs s_are_spread, defBody s_are_spread, defScope s_are_spread, [], []⟩
def s_want_spread : Stmt := top 39
def d_want_spread : He.DefD := ⟨("want_spread", none), "want_spread", "want_spread", defArgs s_want_spread, defBody s_want_spread, defScope s_want_spread, [], []⟩
def s_is_spread : Stmt := top 40
def d_is_spread : He.DefD := ⟨("is_spread", none), "is_spread", "is_spread", defArgs s_is_spread, defBody s_is_spread, defScope s_is_spread, [], []⟩
def s_want_stretch : Stmt := top 41
def d_want_stretch : He.DefD := ⟨("want_stretch", none), "want_stretch", "want_stretch", defArgs s_want_stretch, defBody s_want_stretch, defScope s_want_stretch, [], []⟩
def s_tilted : Stmt := top 42
def d_tilted : He.DefD := ⟨("tilted", none), "tilted", "tilted", defArgs s_tilted, defBody s_tilted, defScope s_tilted, [], []⟩
def s_stretched : Stmt := top 43
def d_stretched : He.DefD := ⟨("stretched", none), "stretched", "stretched", defArgs s_stretched, defBody s_stretched, defScope s_stretched, [], []⟩
def s_standing : Stmt := top 45
def d_standing : He.DefD := ⟨("standing", none), "standing", "standing", defArgs s_standing, defBody s_standing, defScope s_standing, [], []⟩
def s_stands : Stmt := top 46
def d_stands : He.DefD := ⟨("stands", none), "stands", "stands", defArgs s_stands, defBody s_stands, defScope s_stands, [], []⟩
def s_rise_of_lines : Stmt := top 47
def d_rise_of_lines : He.DefD := ⟨("rise_of_lines", none), "rise_of", "rise_of", defArgs s_rise_of_lines, defBody s_rise_of_lines, defScope s_rise_of_lines, [], []⟩
def s_rises : Stmt := top 49
def d_rises : He.DefD := ⟨("rises", none), "rises", "rises", defArgs s_rises, defBody s_rises, defScope s_rises, [], []⟩
def s_sums_of : Stmt := top 50
def d_sums_of : He.DefD := ⟨("sums_of", none), "sums_of", "sums_of", defArgs s_sums_of, defBody s_sums_of, defScope s_sums_of, [], []⟩
def s_cost_of_lines : Stmt := top 51
def d_cost_of_lines : He.DefD := ⟨("cost_of_lines", none), "cost_of", "cost_of", defArgs s_cost_of_lines, defBody s_cost_of_lines, defScope s_cost_of_lines, [], []⟩
def s_is_ahead_lines : Stmt := top 53
def d_is_ahead_lines : He.DefD := ⟨("is_ahead_lines", none), "is_ahead", "is_ahead", defArgs s_is_ahead_lines, defBody s_is_ahead_lines, defScope s_is_ahead_lines, [], []⟩
def s_in_order : Stmt := top 55
def d_in_order : He.DefD := ⟨("in_order", none), "in_order", "in_order", defArgs s_in_order, defBody s_in_order, defScope s_in_order, [], []⟩
def s_tilted_line : Stmt := top 56
def d_tilted_line : He.DefD := ⟨("tilted_line", none), "tilted_line", "tilted_line", defArgs s_tilted_line, defBody s_tilted_line, defScope s_tilted_line, [], []⟩
def s_stretched_line : Stmt := top 57
def d_stretched_line : He.DefD := ⟨("stretched_line", none), "stretched_line", "stretched_line", defArgs s_stretched_line, defBody s_stretched_line, defScope s_stretched_line, [], []⟩
def s_line_through : Stmt := top 59
def d_line_through : He.DefD := ⟨("line_through", none), "line_through", "line_through", defArgs s_line_through, defBody s_line_through, defScope s_line_through, [], []⟩
def s_all_pair_lines : Stmt := top 60
def d_all_pair_lines : He.DefD := ⟨("all_pair_lines", none), "all_pair_lines", "all_pair_lines", defArgs s_all_pair_lines, defBody s_all_pair_lines, defScope s_all_pair_lines, [], []⟩
def s_pair_lines : Stmt := top 61
def d_pair_lines : He.DefD := ⟨("pair_lines", none), "pair_lines", "pair_lines", defArgs s_pair_lines, defBody s_pair_lines, defScope s_pair_lines, [], []⟩
def s_want_spread_points : Stmt := top 63
def d_want_spread_points : He.DefD := ⟨("want_spread_points", none), "want_spread_points", "want_spread_points", defArgs s_want_spread_points, defBody s_want_spread_points, defScope s_want_spread_points, [], []⟩
def s_cheapest_best : Stmt := top 64
def d_cheapest_best : He.DefD := ⟨("cheapest_best", none), "cheapest", "cheapest", defArgs s_cheapest_best, defBody s_cheapest_best, defScope s_cheapest_best, [], []⟩
def s_least_cost : Stmt := top 66
def d_least_cost : He.DefD := ⟨("least_cost", none), "least_cost", "least_cost", defArgs s_least_cost, defBody s_least_cost, defScope s_least_cost, [], []⟩
def s_best_line : Stmt := top 67
def d_best_line : He.DefD := ⟨("best_line", none), "best_line", "best_line", defArgs s_best_line, defBody s_best_line, defScope s_best_line, [], []⟩
def s_is_best : Stmt := top 68
def d_is_best : He.DefD := ⟨("is_best", none), "is_best", "is_best", defArgs s_is_best, defBody s_is_best, defScope s_is_best, [], []⟩
def s_do_meet : Stmt := top 70
def d_do_meet : He.DefD := ⟨("do_meet", none), "do_meet", "do_meet", defArgs s_do_meet, defBody s_do_meet, defScope s_do_meet, [], []⟩
def s_leads_on : Stmt := top 71
def d_leads_on : He.DefD := ⟨("leads_on", none), "leads_on", "leads_on", defArgs s_leads_on, defBody s_leads_on, defScope s_leads_on, [], []⟩
def s_cheapest_roads : Stmt := top 72
def d_cheapest_roads : He.DefD := ⟨("cheapest_roads", none), "cheapest", "cheapest", defArgs s_cheapest_roads, defBody s_cheapest_roads, defScope s_cheapest_roads, [], []⟩
def s_road : Stmt := top 74
def d_road : He.DefD := ⟨("road", none), "road", "road", defArgs s_road, defBody s_road, defScope s_road, [], []⟩
def s_is_road : Stmt := top 75
def d_is_road : He.DefD := ⟨("is_road", none), "is_road", "is_road", defArgs s_is_road, defBody s_is_road, defScope s_is_road, [], []⟩
def s_start_of : Stmt := top 77
def d_start_of : He.DefD := ⟨("start_of", none), "start_of", "start_of", defArgs s_start_of, defBody s_start_of, defScope s_start_of, [], []⟩
def s_m_init : Stmt := inClass (top 78) 0
def d_m_init : He.DefD := ⟨("Kept", some "__init__"), "__init__", "Kept.__init__", defArgs s_m_init, defBody s_m_init, defScope s_m_init, [], []⟩
def s_m_points : Stmt := inClass (top 78) 1
def d_m_points : He.DefD := ⟨("Kept", some "points"), "points", "Kept.points", defArgs s_m_points, defBody s_m_points, defScope s_m_points, [], []⟩
def s_m_line : Stmt := inClass (top 78) 2
def d_m_line : He.DefD := ⟨("Kept", some "line"), "line", "Kept.line", defArgs s_m_line, defBody s_m_line, defScope s_m_line, [], []⟩
def s_m_changed : Stmt := inClass (top 78) 3
def d_m_changed : He.DefD := ⟨("Kept", some "changed"), "changed", "Kept.changed", defArgs s_m_changed, defBody s_m_changed, defScope s_m_changed, [], []⟩
def s_m_want_number : Stmt := inClass (top 78) 4
def d_m_want_number : He.DefD := ⟨("Kept", some "want_number"), "want_number", "Kept.want_number", defArgs s_m_want_number, defBody s_m_want_number, defScope s_m_want_number, [], []⟩
def s_m_put : Stmt := inClass (top 78) 5
def d_m_put : He.DefD := ⟨("Kept", some "put"), "put", "Kept.put", defArgs s_m_put, defBody s_m_put, defScope s_m_put, [], []⟩
def s_m_take : Stmt := inClass (top 78) 6
def d_m_take : He.DefD := ⟨("Kept", some "take"), "take", "Kept.take", defArgs s_m_take, defBody s_m_take, defScope s_m_take, [], []⟩
def s_m_move : Stmt := inClass (top 78) 7
def d_m_move : He.DefD := ⟨("Kept", some "move"), "move", "Kept.move", defArgs s_m_move, defBody s_m_move, defScope s_m_move, [], []⟩
def s_m_undo : Stmt := inClass (top 78) 8
def d_m_undo : He.DefD := ⟨("Kept", some "undo"), "undo", "Kept.undo", defArgs s_m_undo, defBody s_m_undo, defScope s_m_undo, [], []⟩
def s_corners : Stmt := top 80
def d_corners : He.DefD := ⟨("corners", none), "corners", "corners", defArgs s_corners, defBody s_corners, defScope s_corners, [], []⟩
def s_are_fractions_spots : Stmt := top 84
def d_are_fractions_spots : He.DefD := ⟨("are_fractions_spots", none), "are_fractions", "are_fractions", defArgs s_are_fractions_spots, defBody s_are_fractions_spots, defScope s_are_fractions_spots, [], []⟩
def s_is_spots : Stmt := top 86
def d_is_spots : He.DefD := ⟨("is_spots", none), "is_spots", "is_spots", defArgs s_is_spots, defBody s_is_spots, defScope s_is_spots, [], []⟩
def s_is_plane : Stmt := top 87
def d_is_plane : He.DefD := ⟨("is_plane", none), "is_plane", "is_plane", defArgs s_is_plane, defBody s_is_plane, defScope s_is_plane, [], []⟩
def s_want_spots : Stmt := top 88
def d_want_spots : He.DefD := ⟨("want_spots", none), "want_spots", "want_spots", defArgs s_want_spots, defBody s_want_spots, defScope s_want_spots, [], []⟩
def s_want_priced_spots : Stmt := top 89
def d_want_priced_spots : He.DefD := ⟨("want_priced_spots", none), "want_priced", "want_priced", defArgs s_want_priced_spots, defBody s_want_priced_spots, defScope s_want_priced_spots, [], []⟩
def s_want_plane : Stmt := top 91
def d_want_plane : He.DefD := ⟨("want_plane", none), "want_plane", "want_plane", defArgs s_want_plane, defBody s_want_plane, defScope s_want_plane, [], []⟩
def s_triples : Stmt := top 92
def d_triples : He.DefD := ⟨("triples", none), "triples", "triples", defArgs s_triples, defBody s_triples, defScope s_triples, [], []⟩
def s_spread_of : Stmt := top 93
def d_spread_of : He.DefD := ⟨("spread_of", none), "spread_of", "spread_of", defArgs s_spread_of, defBody s_spread_of, defScope s_spread_of, [], []⟩
def s_laid_twice : Stmt := top 94
def d_laid_twice : He.DefD := ⟨("laid_twice", none), "laid_twice", "laid_twice", defArgs s_laid_twice, defBody s_laid_twice, defScope s_laid_twice, [], []⟩
def s_rise_of_spots : Stmt := top 95
def d_rise_of_spots : He.DefD := ⟨("rise_of_spots", none), "rise_of", "rise_of", defArgs s_rise_of_spots, defBody s_rise_of_spots, defScope s_rise_of_spots, [], []⟩
def s_ends_of : Stmt := top 97
def d_ends_of : He.DefD := ⟨("ends_of", none), "ends_of", "ends_of", defArgs s_ends_of, defBody s_ends_of, defScope s_ends_of, [], []⟩
def s_cost_of_spots : Stmt := top 98
def d_cost_of_spots : He.DefD := ⟨("cost_of_spots", none), "cost_of", "cost_of", defArgs s_cost_of_spots, defBody s_cost_of_spots, defScope s_cost_of_spots, [], []⟩
def s_plane_cost : Stmt := top 100
def d_plane_cost : He.DefD := ⟨("plane_cost", none), "plane_cost", "plane_cost", defArgs s_plane_cost, defBody s_plane_cost, defScope s_plane_cost, [], []⟩
def s_plane_through : Stmt := top 102
def d_plane_through : He.DefD := ⟨("plane_through", none), "plane_through", "plane_through", defArgs s_plane_through, defBody s_plane_through, defScope s_plane_through, [], []⟩
def s_is_ahead_planes : Stmt := top 103
def d_is_ahead_planes : He.DefD := ⟨("is_ahead_planes", none), "is_ahead", "is_ahead", defArgs s_is_ahead_planes, defBody s_is_ahead_planes, defScope s_is_ahead_planes, [], []⟩
def s_put_in : Stmt := top 105
def d_put_in : He.DefD := ⟨("put_in", none), "put_in", "put_in", defArgs s_put_in, defBody s_put_in, defScope s_put_in, [], []⟩
def s_planes_through_three : Stmt := top 106
def d_planes_through_three : He.DefD := ⟨("planes_through_three", none), "planes_through_three", "planes_through_three", defArgs s_planes_through_three, defBody s_planes_through_three, defScope s_planes_through_three, [], []⟩
def s_cheapest_planes : Stmt := top 107
def d_cheapest_planes : He.DefD := ⟨("cheapest_planes", none), "cheapest", "cheapest", defArgs s_cheapest_planes, defBody s_cheapest_planes, defScope s_cheapest_planes, [], []⟩
def s_least_plane_cost : Stmt := top 109
def d_least_plane_cost : He.DefD := ⟨("least_plane_cost", none), "least_plane_cost", "least_plane_cost", defArgs s_least_plane_cost, defBody s_least_plane_cost, defScope s_least_plane_cost, [], []⟩
def s_want_priced_signs : Stmt := top 111
def d_want_priced_signs : He.DefD := ⟨("want_priced_signs", none), "want_priced", "want_priced", defArgs s_want_priced_signs, defBody s_want_priced_signs, defScope s_want_priced_signs, [], []⟩
def s_are_fractions_signs : Stmt := top 113
def d_are_fractions_signs : He.DefD := ⟨("are_fractions_signs", none), "are_fractions", "are_fractions", defArgs s_are_fractions_signs, defBody s_are_fractions_signs, defScope s_are_fractions_signs, [], []⟩
def s_sign_ends : Stmt := top 115
def d_sign_ends : He.DefD := ⟨("sign_ends", none), "sign_ends", "sign_ends", defArgs s_sign_ends, defBody s_sign_ends, defScope s_sign_ends, [], []⟩
def s_is_within : Stmt := top 116
def d_is_within : He.DefD := ⟨("is_within", none), "is_within", "is_within", defArgs s_is_within, defBody s_is_within, defScope s_is_within, [], []⟩
def s_are_signs : Stmt := top 117
def d_are_signs : He.DefD := ⟨("are_signs", none), "are_signs", "are_signs", defArgs s_are_signs, defBody s_are_signs, defScope s_are_signs, [], []⟩
def s_moment : Stmt := top 118
def d_moment : He.DefD := ⟨("moment", none), "moment", "moment", defArgs s_moment, defBody s_moment, defScope s_moment, [], []⟩
def s_is_balanced : Stmt := top 119
def d_is_balanced : He.DefD := ⟨("is_balanced", none), "is_balanced", "is_balanced", defArgs s_is_balanced, defBody s_is_balanced, defScope s_is_balanced, [], []⟩
def s_sign_off : Stmt := top 120
def d_sign_off : He.DefD := ⟨("sign_off", none), "sign_off", "sign_off", defArgs s_sign_off, defBody s_sign_off, defScope s_sign_off, [], []⟩
def s_fit : Stmt := top 121
def d_fit : He.DefD := ⟨("fit", none), "fit", "fit", defArgs s_fit, defBody s_fit, defScope s_fit, [], []⟩
def s_by_x : Stmt := top 123
def d_by_x : He.DefD := ⟨("by_x", none), "by_x", "by_x", defArgs s_by_x, defBody s_by_x, defScope s_by_x, [], []⟩
def s_filled : Stmt := top 124
def d_filled : He.DefD := ⟨("filled", none), "filled", "filled", defArgs s_filled, defBody s_filled, defScope s_filled, [], []⟩
def s_moment_of : Stmt := top 125
def d_moment_of : He.DefD := ⟨("moment_of", none), "moment_of", "moment_of", defArgs s_moment_of, defBody s_moment_of, defScope s_moment_of, [], []⟩
def s_share_of : Stmt := top 126
def d_share_of : He.DefD := ⟨("share_of", none), "share_of", "share_of", defArgs s_share_of, defBody s_share_of, defScope s_share_of, [], []⟩
def s_balanced_on : Stmt := top 127
def d_balanced_on : He.DefD := ⟨("balanced_on", none), "balanced_on", "balanced_on", defArgs s_balanced_on, defBody s_balanced_on, defScope s_balanced_on, [], []⟩
def s_signs_of : Stmt := top 128
def d_signs_of : He.DefD := ⟨("signs_of", none), "signs_of", "signs_of", defArgs s_signs_of, defBody s_signs_of, defScope s_signs_of, [], []⟩
def s_best_signs : Stmt := top 129
def d_best_signs : He.DefD := ⟨("best_signs", none), "best_signs", "best_signs", defArgs s_best_signs, defBody s_best_signs, defScope s_best_signs, [], []⟩
def s_law_cell : Stmt := top 131
def d_law_cell : He.DefD := ⟨("_law_cell", none), "_law_cell", "_law_cell", defArgs s_law_cell, defBody s_law_cell, defScope s_law_cell, [], []⟩
def s_law_pot : Stmt := top 132
def d_law_pot : He.DefD := ⟨("_law_pot", none), "_law_pot", "_law_pot", defArgs s_law_pot, defBody s_law_pot, defScope s_law_pot, [], []⟩
def s_law_draw : Stmt := top 133
def d_law_draw : He.DefD := ⟨("_law_draw", none), "_law_draw", "_law_draw", defArgs s_law_draw, defBody s_law_draw, defScope s_law_draw, [], []⟩
def s_law_great : Stmt := top 134
def d_law_great : He.DefD := ⟨("_law_great", none), "_law_great", "_law_great", defArgs s_law_great, defBody s_law_great, defScope s_law_great, [], []⟩
def s_law_low : Stmt := top 135
def d_law_low : He.DefD := ⟨("_law_low", none), "_law_low", "_law_low", defArgs s_law_low, defBody s_law_low, defScope s_law_low, [], []⟩
def s_law_plus : Stmt := top 136
def d_law_plus : He.DefD := ⟨("_law_plus", none), "_law_plus", "_law_plus", defArgs s_law_plus, defBody s_law_plus, defScope s_law_plus, [], []⟩
def s_law_less : Stmt := top 137
def d_law_less : He.DefD := ⟨("_law_less", none), "_law_less", "_law_less", defArgs s_law_less, defBody s_law_less, defScope s_law_less, [], []⟩
def s_law_times : Stmt := top 138
def d_law_times : He.DefD := ⟨("_law_times", none), "_law_times", "_law_times", defArgs s_law_times, defBody s_law_times, defScope s_law_times, [], []⟩
def s_law_below : Stmt := top 139
def d_law_below : He.DefD := ⟨("_law_below", none), "_law_below", "_law_below", defArgs s_law_below, defBody s_law_below, defScope s_law_below, [], []⟩
def s_law_small : Stmt := top 140
def d_law_small : He.DefD := ⟨("_law_small", none), "_law_small", "_law_small", defArgs s_law_small, defBody s_law_small, defScope s_law_small, [], []⟩
def s_law_far : Stmt := top 141
def d_law_far : He.DefD := ⟨("_law_far", none), "_law_far", "_law_far", defArgs s_law_far, defBody s_law_far, defScope s_law_far, [], []⟩
def s_law_above_nought : Stmt := top 142
def d_law_above_nought : He.DefD := ⟨("_law_above_nought", none), "_law_above_nought", "_law_above_nought", defArgs s_law_above_nought, defBody s_law_above_nought, defScope s_law_above_nought, [], []⟩
def s_law_spot : Stmt := top 143
def d_law_spot : He.DefD := ⟨("_law_spot", none), "_law_spot", "_law_spot", defArgs s_law_spot, defBody s_law_spot, defScope s_law_spot, [], []⟩
def s_law_points : Stmt := top 144
def d_law_points : He.DefD := ⟨("_law_points", none), "_law_points", "_law_points", defArgs s_law_points, defBody s_law_points, defScope s_law_points, [], []⟩
def s_law_spread : Stmt := top 145
def d_law_spread : He.DefD := ⟨("_law_spread", none), "_law_spread", "_law_spread", defArgs s_law_spread, defBody s_law_spread, defScope s_law_spread, [], []⟩
def s_law_spread_points : Stmt := top 146
def d_law_spread_points : He.DefD := ⟨("_law_spread_points", none), "_law_spread_points", "_law_spread_points", defArgs s_law_spread_points, defBody s_law_spread_points, defScope s_law_spread_points, [], []⟩
def s_law_stand : Stmt := top 147
def d_law_stand : He.DefD := ⟨("_law_stand", none), "_law_stand", "_law_stand", defArgs s_law_stand, defBody s_law_stand, defScope s_law_stand, [], []⟩
def s_law_rise : Stmt := top 148
def d_law_rise : He.DefD := ⟨("_law_rise", none), "_law_rise", "_law_rise", defArgs s_law_rise, defBody s_law_rise, defScope s_law_rise, [], []⟩
def s_law_cost : Stmt := top 149
def d_law_cost : He.DefD := ⟨("_law_cost", none), "_law_cost", "_law_cost", defArgs s_law_cost, defBody s_law_cost, defScope s_law_cost, [], []⟩
def s_law_is_ahead : Stmt := top 150
def d_law_is_ahead : He.DefD := ⟨("_law_is_ahead", none), "_law_is_ahead", "_law_is_ahead", defArgs s_law_is_ahead, defBody s_law_is_ahead, defScope s_law_is_ahead, [], []⟩
def s_law_short_points : Stmt := top 151
def d_law_short_points : He.DefD := ⟨("_law_short_points", none), "_law_short_points", "_law_short_points", defArgs s_law_short_points, defBody s_law_short_points, defScope s_law_short_points, [], []⟩
def s_law_some : Stmt := top 152
def d_law_some : He.DefD := ⟨("_law_some", none), "_law_some", "_law_some", defArgs s_law_some, defBody s_law_some, defScope s_law_some, [], []⟩
def s_law_told_right : Stmt := top 153
def d_law_told_right : He.DefD := ⟨("_law_told_right", none), "_law_told_right", "_law_told_right", defArgs s_law_told_right, defBody s_law_told_right, defScope s_law_told_right, [], []⟩
def s_law_outer : Stmt := top 154
def d_law_outer : He.DefD := ⟨("_law_outer", none), "_law_outer", "_law_outer", defArgs s_law_outer, defBody s_law_outer, defScope s_law_outer, [], []⟩
def s_law_outward : Stmt := top 155
def d_law_outward : He.DefD := ⟨("_law_outward", none), "_law_outward", "_law_outward", defArgs s_law_outward, defBody s_law_outward, defScope s_law_outward, [], []⟩
def s_law_put_on : Stmt := top 156
def d_law_put_on : He.DefD := ⟨("_law_put_on", none), "_law_put_on", "_law_put_on", defArgs s_law_put_on, defBody s_law_put_on, defScope s_law_put_on, [], []⟩
def s_law_sorted : Stmt := top 157
def d_law_sorted : He.DefD := ⟨("_law_sorted", none), "_law_sorted", "_law_sorted", defArgs s_law_sorted, defBody s_law_sorted, defScope s_law_sorted, [], []⟩
def s_law_along : Stmt := top 158
def d_law_along : He.DefD := ⟨("_law_along", none), "_law_along", "_law_along", defArgs s_law_along, defBody s_law_along, defScope s_law_along, [], []⟩
def s_law_laid : Stmt := top 159
def d_law_laid : He.DefD := ⟨("_law_laid", none), "_law_laid", "_law_laid", defArgs s_law_laid, defBody s_law_laid, defScope s_law_laid, [], []⟩
def s_law : Stmt := top 160
def d_law : He.DefD := ⟨("law", none), "law", "law", defArgs s_law, defBody s_law, defScope s_law, [], []⟩
def fn0 : List He.DefD := [d_is_whole, d_common, d_is_fraction, d_want_fraction, d_lowest, d_plus, d_less, d_times, d_over, d_opposite, d_is_below, d_sum_of, d_least_of, d_is_above_nought, d_is_point, d_is_points, d_is_prices, d_is_line, d_want_points, d_want_prices, d_want_line, d_are_spread, d_want_spread, d_is_spread, d_want_stretch, d_tilted, d_stretched, d_standing, d_stands, d_rise_of_lines]
def fn1 : List He.DefD := [d_rises, d_sums_of, d_cost_of_lines, d_is_ahead_lines, d_in_order, d_tilted_line, d_stretched_line, d_line_through, d_all_pair_lines, d_pair_lines, d_want_spread_points, d_cheapest_best, d_least_cost, d_best_line, d_is_best, d_do_meet, d_leads_on, d_cheapest_roads, d_road, d_is_road, d_start_of, d_m_init, d_m_points, d_m_line, d_m_changed, d_m_want_number, d_m_put, d_m_take, d_m_move, d_m_undo]
def fn2 : List He.DefD := [d_corners, d_are_fractions_spots, d_is_spots, d_is_plane, d_want_spots, d_want_priced_spots, d_want_plane, d_triples, d_spread_of, d_laid_twice, d_rise_of_spots, d_ends_of, d_cost_of_spots, d_plane_cost, d_plane_through, d_is_ahead_planes, d_put_in, d_planes_through_three, d_cheapest_planes, d_least_plane_cost, d_want_priced_signs, d_are_fractions_signs, d_sign_ends, d_is_within, d_are_signs, d_moment, d_is_balanced, d_sign_off, d_fit, d_by_x]
def fn3 : List He.DefD := [d_filled, d_moment_of, d_share_of, d_balanced_on, d_signs_of, d_best_signs, d_law_cell, d_law_pot, d_law_draw, d_law_great, d_law_low, d_law_plus, d_law_less, d_law_times, d_law_below, d_law_small, d_law_far, d_law_above_nought, d_law_spot, d_law_points, d_law_spread, d_law_spread_points, d_law_stand, d_law_rise, d_law_cost, d_law_is_ahead, d_law_short_points, d_law_some, d_law_told_right, d_law_outer]
def fn4 : List He.DefD := [d_law_outward, d_law_put_on, d_law_sorted, d_law_along, d_law_laid, d_law]
def fn : List He.DefD := fn0 ++ fn1 ++ fn2 ++ fn3 ++ fn4
def fa0 : List He.Fa := [.free "max", .free "int", .free "list", .free "all", .free "divmod", .free "bool", .free "isinstance", .free "min", .free "len", .free "zip", .free "range", .free "tuple", .free "abs", .free "enumerate", .free "any", .glo "is_whole", .glo "common", .glo "is_fraction", .glo "want_fraction", .glo "lowest", .glo "plus", .glo "less", .glo "times", .glo "over", .glo "opposite", .glo "is_below", .glo "sum_of", .glo "least_of", .glo "is_above_nought", .glo "is_point"]
def fa1 : List He.Fa := [.glo "is_points", .glo "is_prices", .glo "is_line", .glo "want_points", .glo "want_prices", .glo "want_line", .glo "are_spread", .glo "want_spread", .glo "is_spread", .glo "want_stretch", .glo "tilted", .glo "stretched", .glo "standing", .glo "stands", .glo "rise_of_lines", .glo "rises", .glo "sums_of", .glo "cost_of_lines", .glo "is_ahead_lines", .glo "in_order", .glo "tilted_line", .glo "stretched_line", .glo "line_through", .glo "all_pair_lines", .glo "pair_lines", .glo "want_spread_points", .glo "cheapest_best", .glo "least_cost", .glo "best_line", .glo "is_best"]
def fa2 : List He.Fa := [.glo "do_meet", .glo "leads_on", .glo "cheapest_roads", .glo "road", .glo "is_road", .glo "start_of", .glo "corners", .glo "are_fractions_spots", .glo "is_spots", .glo "is_plane", .glo "want_spots", .glo "want_priced_spots", .glo "want_plane", .glo "triples", .glo "spread_of", .glo "laid_twice", .glo "rise_of_spots", .glo "ends_of", .glo "cost_of_spots", .glo "plane_cost", .glo "plane_through", .glo "is_ahead_planes", .glo "put_in", .glo "planes_through_three", .glo "cheapest_planes", .glo "least_plane_cost", .glo "want_priced_signs", .glo "are_fractions_signs", .glo "sign_ends", .glo "is_within"]
def fa3 : List He.Fa := [.glo "are_signs", .glo "moment", .glo "is_balanced", .glo "sign_off", .glo "fit", .glo "by_x", .glo "filled", .glo "moment_of", .glo "share_of", .glo "balanced_on", .glo "signs_of", .glo "best_signs", .glo "_law_cell", .glo "_law_pot", .glo "_law_draw", .glo "_law_great", .glo "_law_low", .glo "_law_plus", .glo "_law_less", .glo "_law_times", .glo "_law_below", .glo "_law_small", .glo "_law_far", .glo "_law_above_nought", .glo "_law_spot", .glo "_law_points", .glo "_law_spread", .glo "_law_spread_points", .glo "_law_stand", .glo "_law_rise"]
def fa4 : List He.Fa := [.glo "_law_cost", .glo "_law_is_ahead", .glo "_law_short_points", .glo "_law_some", .glo "_law_told_right", .glo "_law_outer", .glo "_law_outward", .glo "_law_put_on", .glo "_law_sorted", .glo "_law_along", .glo "_law_laid", .glo "law", .glo "Kept", .glo "NOUGHT", .glo "ONE", .int "MOST_POINTS" 12, .int "MOST_SPOTS" 8, .int "MOST_LAID" 4, .cls "Kept", .mkr "Kept", .meth "Kept" "__init__", .meth "Kept" "points", .meth "Kept" "line", .meth "Kept" "changed", .meth "Kept" "want_number", .meth "Kept" "put", .meth "Kept" "take", .meth "Kept" "move", .meth "Kept" "undo", .noat "Kept" "rates"]
def fa5 : List He.Fa := [.noat "Kept" "stock", .noat "Kept" "found", .noat "Kept" "ahead"]
def fa : List He.Fa := fa0 ++ fa1 ++ fa2 ++ fa3 ++ fa4 ++ fa5
def ex (K : PySem.W.Frag) : Bool := He.tupB K "NOUGHT" [.int 0, .int 1] && He.tupB K "ONE" [.int 1, .int 1]
abbrev R : PySem.W.OpenRow := PySem.W.OpenLaw.row PySem.Challenge.rw_signlines_k98_whole_moved_put_on_and_lai
abbrev hk : PySem.W.Hook := He.hookX 5 fa fn [] [] ex
def ob (s : PySem.W.SharedT) : He.AlX := He.obsX 5 fa fn [] [] ex (HandSHeadRun.getT s)
theorem ob_eq (s : PySem.W.SharedT) : ob s = hk.obs s.abs := He.obsX_eq (HandSHeadRun.getT_eq s)

def nm0 : List Str := ["LineError", "NoFraction", "NoPoints", "NoPrices", "NoLine", "NoSpread", "NoNumber", "NoSpots", "NoPlane", "NoPair", "NoDeed", "NOUGHT"]
def nm1 : List Str := ["ONE", "is_whole", "common", "is_fraction", "want_fraction", "lowest", "plus", "less", "times", "over", "opposite", "is_below"]
def nm2 : List Str := ["sum_of", "least_of", "MOST_POINTS", "is_above_nought", "is_point", "is_points", "is_prices", "is_line", "want_points", "want_prices", "want_line", "are_spread"]
def nm3 : List Str := ["want_spread", "is_spread", "want_stretch", "tilted", "stretched", "standing", "stands", "rise_of", "rise_of_lines", "rises", "sums_of", "cost_of"]
def nm4 : List Str := ["cost_of_lines", "is_ahead", "is_ahead_lines", "in_order", "tilted_line", "stretched_line", "line_through", "all_pair_lines", "pair_lines", "want_spread_points", "cheapest", "cheapest_best"]
def nm5 : List Str := ["least_cost", "best_line", "is_best", "do_meet", "leads_on", "cheapest_roads", "road", "is_road", "start_of", "Kept", "corners", "MOST_SPOTS"]
def nm6 : List Str := ["MOST_LAID", "are_fractions", "are_fractions_spots", "is_spots", "is_plane", "want_spots", "want_priced", "want_priced_spots", "want_plane", "triples", "spread_of", "laid_twice"]
def nm7 : List Str := ["rise_of_spots", "ends_of", "cost_of_spots", "plane_cost", "plane_through", "is_ahead_planes", "put_in", "planes_through_three", "cheapest_planes", "least_plane_cost", "want_priced_signs", "are_fractions_signs"]
def nm8 : List Str := ["sign_ends", "is_within", "are_signs", "moment", "is_balanced", "sign_off", "fit", "by_x", "filled", "moment_of", "share_of", "balanced_on"]
def nm9 : List Str := ["signs_of", "best_signs", "_law_cell", "_law_pot", "_law_draw", "_law_great", "_law_low", "_law_plus", "_law_less", "_law_times", "_law_below", "_law_small"]
def nm10 : List Str := ["_law_far", "_law_above_nought", "_law_spot", "_law_points", "_law_spread", "_law_spread_points", "_law_stand", "_law_rise", "_law_cost", "_law_is_ahead", "_law_short_points", "_law_some"]
def nm11 : List Str := ["_law_told_right", "_law_outer", "_law_outward", "_law_put_on", "_law_sorted", "_law_along", "_law_laid"]
def nm : List Str := nm0 ++ nm1 ++ nm2 ++ nm3 ++ nm4 ++ nm5 ++ nm6 ++ nm7 ++ nm8 ++ nm9 ++ nm10 ++ nm11
end Sl
set_option Elab.async false
set_option linter.all false
set_option maxRecDepth 100000
set_option maxHeartbeats 0
noncomputable section
namespace Sl
open PySem PySem.Spec PyProof.Rows L2
/-! ### the head: what the top leaves, looked at over a written list of addresses -/
def as1_0 : List Addr := [3, 6, 4, 24, 37, 49, 61, 73, 85, 97, 109, 121, 133, 145, 148, 149, 156, 163, 170, 177, 184, 191, 198, 205, 212, 219, 226, 233, 240, 247, 254, 259, 266, 273, 280, 287, 294, 299, 306, 313, 320, 325, 330, 337, 344, 632, 351, 356, 363, 646, 370, 665, 377, 384, 391, 398, 405, 410, 417, 424]
def as1_1 : List Addr := [682, 429, 436, 443, 450, 455, 462, 469, 474, 479, 484, 557, 568, 701, 573, 578, 585, 592, 696, 599, 606, 611, 618, 625, 639, 653, 658, 670, 677, 689, 708, 715, 720, 725, 732, 739, 746, 753, 758, 763, 770, 777, 782, 789, 796, 803, 810, 817, 824, 831, 838, 845, 852, 859, 866, 873, 880, 887, 892, 899]
def as1_2 : List Addr := [906, 913, 920, 927, 932, 939, 946, 951, 958, 965, 970, 975, 982, 989, 0, 23, 36, 48, 60, 72, 84, 96, 108, 120, 132, 144, 155, 162, 169, 176, 183, 190, 197, 204, 211, 218, 225, 232, 239, 246, 253, 258, 265, 272, 279, 286, 293, 298, 305, 312, 319, 324, 329, 336, 343, 631, 350, 355, 362, 645]
def as1_3 : List Addr := [369, 664, 376, 383, 390, 397, 404, 409, 416, 423, 681, 428, 435, 442, 449, 454, 461, 468, 473, 478, 483, 556, 567, 700, 572, 577, 584, 591, 695, 598, 605, 610, 617, 624, 638, 652, 657, 669, 676, 688, 707, 714, 719, 724, 731, 738, 745, 752, 757, 762, 769, 776, 781, 788, 795, 802, 809, 816, 823, 830]
def as1_4 : List Addr := [837, 844, 851, 858, 865, 872, 879, 886, 891, 898, 905, 912, 919, 926, 931, 938, 945, 950, 957, 964, 969, 974, 981, 988, 498, 505, 512, 519, 526, 533, 540, 547, 554, 555, 497, 504, 511, 518, 525, 532, 539, 546, 553, 492, 493, 494, 495, 496, 499, 500, 501, 502, 503, 506, 507, 508, 509, 510, 513, 514]
def as1_5 : List Addr := [515, 516, 517, 520, 521, 522, 523, 524, 527, 528, 529, 530, 531, 534, 535, 536, 537, 538, 541, 542, 543, 544, 545, 548, 549, 550, 551, 552]
def asL1 : List Addr := as1_0 ++ as1_1 ++ as1_2 ++ as1_3 ++ as1_4 ++ as1_5
/-- the facts of the defs and names, read off the objects at these addresses -/
def hkL : PySem.W.Hook where
  α := He.AlD × Bool
  obs := fun s => (He.obsD fa fn (He.frG s.heap.get? asL1), ex (He.frG s.heap.get? asL1))
  val := fun _ => (He.valD fn, true)
  says := fun _ h => ∃ K : PySem.W.Frag, K.In h ∧ He.SaysD fa fn K ∧ ex K = true
  of := fun _ _ e => ⟨_, He.frG_in, congrArg Prod.fst e, congrArg Prod.snd e⟩
  keeps := fun _ _ _ ⟨K, X, c⟩ k => ⟨K, PySem.W.Frag.In.keeps X k, c⟩
def obL (s : PySem.W.SharedT) : He.AlD × Bool := (He.obsD fa fn (He.frG (HandSHeadRun.getT s) asL1), ex (He.frG (HandSHeadRun.getT s) asL1))
theorem obL_eq (s : PySem.W.SharedT) : obL s = hkL.obs s.abs := by
  have e : HandSHeadRun.getT s = s.abs.heap.get? := funext (HandSHeadRun.getT_eq s)
  unfold obL
  rw [e]; rfl
/-- the state behind the top -/
abbrev lastS (w : World) (os : OsState) : Option PySem.W.SharedT := HandSHeadRun.endF (HandSHeadRun.stepQ (HandSHeadRun.denQ HandSHeadRun.tabQ) R.prog w) 20000 R.prog w os
theorem run_facts (w : World) (os : OsState) : (lastS w os).map obL = some (He.valD fn, true) := by kernel_rfl
theorem run_looks (w : World) (os : OsState) : (lastS w os).map (fun s => (HandSHeadRun.looksF R.prog (PySem.W.boot_heap w.params) s.abs, HandSHeadRun.seenQ (PySem.W.view R.prog [160]) nm (importedModules R.prog.main.body) (fun s => PySem.W.xlAt (PySem.W.view R.prog [160]) [] s && PySem.W.recOk R.toRowW.records s) s.abs)) = some (true, PySem.W.openGood (PySem.W.view R.prog [160]) nm) := by kernel_rfl
theorem run (w : World) : HandSHeadRun.RunEq R (PySem.W.view R.prog [160]) hkL obL 20000 nm w := by
  intro os
  have h1 := run_looks w os
  have h2 := run_facts w os
  change Option.map _ (lastS w os) = _
  generalize lastS w os = o at h1 h2 ⊢
  cases o with
  | none => cases h1
  | some s =>
    have e1 := Option.some.inj h1
    have a1 := congrArg Prod.fst e1
    have a2 := congrArg Prod.snd e1
    have b := Option.some.inj h2
    clear h1 h2 e1
    dsimp only at a1 a2
    refine congrArg some ?_
    exact Prod.ext a1 (Prod.ext a2 b)
end Sl
end
set_option Elab.async false
set_option linter.all false
set_option maxRecDepth 100000
set_option maxHeartbeats 1000000
/-! Z: readings over plain data and a store of the few objects that change. -/
namespace Z
open PySem PySem.Spec PyProof.Rows L2

/-! data that do not change, as they lie: lists are tracked ones -/
mutual
inductive Zp (K : PySem.W.Frag) (H : Hp) : V → PyData → Prop
  | non : Zp K H .non .none
  | bl (b : Bool) : Zp K H (.bl b) (.bool b)
  | int (i : Int) : Zp K H (.int i) (.int i)
  | str (x : Str) : Zp K H (.str x) (.str x)
  | lst {a : Addr} {xs : List V} {ds : List PyData} : H a = some (.lst xs) → ZpAll K H xs ds → Zp K H (.ref a) (.list ds)
  | tup {a : Addr} {xs : List V} {ds : List PyData} : SqT K H a xs → ZpAll K H xs ds → Zp K H (.ref a) (.tuple ds)
inductive ZpAll (K : PySem.W.Frag) (H : Hp) : List V → List PyData → Prop
  | nil : ZpAll K H [] []
  | cons {v : V} {vs : List V} {d : PyData} {ds : List PyData} : Zp K H v d → ZpAll K H vs ds → ZpAll K H (v :: vs) (d :: ds)
end
/-- a value: data that do not change, an object that may, a list that is read alone -/
inductive D where
  | d (x : PyData)
  | ref (a : Addr)
  | ro (ns : List Int)
/-- what stands at an object that may change -/
inductive Cell where
  | lst (xs : List PyData)
  | ins (C dx : Addr) (fs : List (Str × D))
  | dic (kvs : List (Int × PyData))
abbrev Sto := Addr → Option Cell
abbrev Ro := List (Option D)
def Sto.put (S : Sto) (a : Addr) (c : Cell) : Sto := fun b => if b = a then some c else S b
def Sto.del (S : Sto) (a : Addr) : Sto := fun b => if b = a then none else S b
theorem Sto.put_same {S : Sto} {a : Addr} {c : Cell} : S.put a c a = some c := if_pos rfl
theorem Sto.put_ne {S : Sto} {a b : Addr} {c : Cell} (h : b ≠ a) : S.put a c b = S b := if_neg h
theorem Sto.del_same {S : Sto} {a : Addr} : S.del a a = none := if_pos rfl
theorem Sto.del_ne {S : Sto} {a b : Addr} (h : b ≠ a) : S.del a b = S b := if_neg h

section
variable (K : PySem.W.Frag)
def DRep (G : Hp) : D → V → Prop
  | .d x, v => Zp K G v x
  | .ref a, v => v = .ref a
  | .ro ns, v => ∃ a, v = .ref a ∧ SqL K G a (ns.map V.int)
def FRep (G : Hp) : List (Str × D) → List (Str × V) → Prop := Paired fun p q => p.1 = q.1 ∧ DRep K G p.2 q.2
def KRep (G : Hp) : List (Int × PyData) → List (Key × V) → Prop := Paired fun p q => q.1 = Sum.inl p.1 ∧ Zp K G q.2 p.2
def CRep (G H : Hp) (p : Addr) : Cell → Prop
  | .lst xs => ∃ vs, H p = some (.lst vs) ∧ ZpAll K G vs xs
  | .ins C dx fs => ∃ fvs, H p = some (.ins C dx fvs) ∧ FRep K G fs fvs
  | .dic kvs => ∃ kv, H p = some (.dK kv) ∧ KRep K G kvs kv
structure Rp (G : Hp) (S : Sto) (H : Hp) : Prop where
  gh : Same G H
  cell : ∀ p c, S p = some c → G p = none ∧ CRep K G H p c
def ERep (G : Hp) (ρ : Ro) (σ : L2.St) : Prop := ρ.length = σ.length ∧ ∀ (i : Nat) (d : D), ρ[i]? = some (some d) → ∃ v, σ[i]? = some (some v) ∧ DRep K G d v
/-- what a piece of the program does: the data stay, what is not in the store stays -/
structure Stp (G : Hp) (S : Sto) (H G' : Hp) (S' : Sto) (H' : Hp) : Prop where
  gg : Same G G'
  keep : ∀ a o, H a = some o → S a = none → H' a = some o
  fresh : ∀ a, H a ≠ none → S a = none → S' a = none ∧ (G a = none → G' a = none)
  rp : Rp K G' S' H'
end

section
variable {K : PySem.W.Frag} {G G' G2 H H' H2 : Hp} {S S' S2 : Sto}
mutual
theorem Zp.mono (e : Same G G') : ∀ (d : PyData) (v : V), Zp K G v d → Zp K G' v d
  | .none, _, h => by cases h; exact .non
  | .bool b, _, h => by cases h; exact .bl b
  | .int i, _, h => by cases h; exact .int i
  | .str x, _, h => by cases h; exact .str x
  | .list ds, _, h => by
    cases h with
    | lst hs ha => exact .lst (e _ _ hs) (ZpAll.mono e ds _ ha)
  | .tuple ds, _, h => by
    cases h with
    | tup hs ha => exact .tup (Evl.ex_t e hs) (ZpAll.mono e ds _ ha)
  | .dict _, _, h => by cases h
theorem ZpAll.mono (e : Same G G') : ∀ (ds : List PyData) (vs : List V), ZpAll K G vs ds → ZpAll K G' vs ds
  | [], _, h => by cases h; exact .nil
  | d :: ds, _, h => by
    cases h with
    | cons h1 h2 => exact .cons (Zp.mono e d _ h1) (ZpAll.mono e ds _ h2)
end
mutual
theorem Zp.dp : ∀ (d : PyData) (v : V), Zp K G v d → Dp K G v d
  | .none, _, h => by cases h; exact .non
  | .bool b, _, h => by cases h; exact .bl b
  | .int i, _, h => by cases h; exact .int i
  | .str x, _, h => by cases h; exact .str x
  | .list ds, _, h => by
    cases h with
    | lst hs ha => exact .lst (.inl (.inl hs)) (ZpAll.dp ds _ ha)
  | .tuple ds, _, h => by
    cases h with
    | tup hs ha => exact .tup hs (ZpAll.dp ds _ ha)
  | .dict _, _, h => by cases h
theorem ZpAll.dp : ∀ (ds : List PyData) (vs : List V), ZpAll K G vs ds → DpAll K G vs ds
  | [], _, h => by cases h; exact .nil
  | d :: ds, _, h => by
    cases h with
    | cons h1 h2 => exact .cons (Zp.dp d _ h1) (ZpAll.dp ds _ h2)
end
mutual
theorem dp_mono (e : Same G G') : ∀ (d : PyData) (v : V), Dp K G v d → Dp K G' v d
  | .none, _, h => by cases h; exact .non
  | .bool b, _, h => by cases h; exact .bl b
  | .int i, _, h => by cases h; exact .int i
  | .str x, _, h => by cases h; exact .str x
  | .list ds, _, h => by
    cases h with
    | lst hs ha => exact .lst (Evl.ex_l e hs) (dpAll_mono e ds _ ha)
  | .tuple ds, _, h => by
    cases h with
    | tup hs ha => exact .tup (Evl.ex_t e hs) (dpAll_mono e ds _ ha)
  | .dict _, _, h => by cases h
theorem dpAll_mono (e : Same G G') : ∀ (ds : List PyData) (vs : List V), DpAll K G vs ds → DpAll K G' vs ds
  | [], _, h => by cases h; exact .nil
  | d :: ds, _, h => by
    cases h with
    | cons h1 h2 => exact .cons (dp_mono e d _ h1) (dpAll_mono e ds _ h2)
end
theorem DRep.mono (e : Same G G') {d : D} {v : V} (h : DRep K G d v) : DRep K G' d v := by
  cases d with
  | d x => exact Zp.mono e x v h
  | ref a => exact h
  | ro xs => obtain ⟨a, q1, q2⟩ := h; exact ⟨a, q1, Evl.ex_l e q2⟩
theorem FRep.mono (e : Same G G') {fs : List (Str × D)} {fvs : List (Str × V)} (h : FRep K G fs fvs) : FRep K G' fs fvs := Paired.mapP h fun _ _ q => ⟨q.1, q.2.mono e⟩
theorem KRep.mono (e : Same G G') {fs : List (Int × PyData)} {fvs : List (Key × V)} (h : KRep K G fs fvs) : KRep K G' fs fvs := Paired.mapP h fun _ _ q => ⟨q.1, Zp.mono e _ _ q.2⟩
theorem ERep.mono (e : Same G G') {ρ : Ro} {σ : L2.St} (h : ERep K G ρ σ) : ERep K G' ρ σ :=
  ⟨h.1, fun i d q => let ⟨v, a, b⟩ := h.2 i d q; ⟨v, a, b.mono e⟩⟩
theorem CRep.mono (e : Same G G') {p : Addr} {c : Cell} (hp : H' p = H p) (h : CRep K G H p c) : CRep K G' H' p c := by
  cases c with
  | lst xs => obtain ⟨vs, a, b⟩ := h; exact ⟨vs, hp.trans a, ZpAll.mono e _ _ b⟩
  | ins C dx fs => obtain ⟨vs, a, b⟩ := h; exact ⟨vs, hp.trans a, b.mono e⟩
  | dic kvs => obtain ⟨vs, a, b⟩ := h; exact ⟨vs, hp.trans a, b.mono e⟩
theorem CRep.some {p : Addr} {c : Cell} (h : CRep K G H p c) : H p ≠ none := by
  cases c with
  | lst xs => obtain ⟨vs, a, b⟩ := h; rw [a]; simp
  | ins C dx fs => obtain ⟨vs, a, b⟩ := h; rw [a]; simp
  | dic kvs => obtain ⟨vs, a, b⟩ := h; rw [a]; simp
theorem CRep.mut {p : Addr} {c : Cell} (h : CRep K G H p c) : Mut (H p) := by
  cases c with
  | lst xs => obtain ⟨vs, a, b⟩ := h; rw [a]; exact True.intro
  | ins C dx fs => obtain ⟨vs, a, b⟩ := h; rw [a]; exact True.intro
  | dic kvs => obtain ⟨vs, a, b⟩ := h; rw [a]; exact True.intro
theorem Stp.refl (r : Rp K G S H) : Stp K G S H G S H := ⟨fun _ _ e => e, fun _ _ e _ => e, fun _ _ e => ⟨e, fun z => z⟩, r⟩
theorem Stp.trans (a : Stp K G S H G' S' H') (b : Stp K G' S' H' G2 S2 H2) : Stp K G S H G2 S2 H2 where
  gg := a.gg.trans b.gg
  keep := fun x o e n => b.keep x o (a.keep x o e n) (a.fresh x (by rw [e]; simp) n).1
  fresh := fun x e n => by
    obtain ⟨q1, q2⟩ := a.fresh x e n
    have h2 : H' x ≠ none := by
      cases q : H x with
      | none => exact absurd q e
      | some o => rw [a.keep x o q n]; simp
    obtain ⟨q3, q4⟩ := b.fresh x h2 q1
    exact ⟨q3, fun z => q4 (q2 z)⟩
  rp := b.rp
/-- a new immutable object -/
theorem Stp.new (r : Rp K G S H) {p : Addr} {o : HO} (hp : H p = none) : Stp K G S H (upd G p o) S (upd H p o) := by
  have gp : G p = none := by
    cases q : G p with
    | none => rfl
    | some u => rw [r.gh p u q] at hp; cases hp
  have g1 : Same G (upd G p o) := Evl.Ex.new gp
  refine ⟨g1, fun a u e n => ?_, fun a e n => ⟨n, fun z => ?_⟩, fun a u e => ?_, fun a c e => ?_⟩
  · rw [upd_ne (ne_of_none e hp)]; exact e
  · have : a ≠ p := fun q => e (by rw [q]; exact hp)
    rw [upd_ne this]; exact z
  · by_cases q : a = p
    · subst q; rw [upd_same] at e ⊢; exact e
    · rw [upd_ne q] at e ⊢; exact r.gh a u e
  · obtain ⟨c1, c2⟩ := r.cell a c e
    have : a ≠ p := fun q => c2.some (by rw [q]; exact hp)
    exact ⟨by rw [upd_ne this]; exact c1, c2.mono g1 (upd_ne this)⟩
/-- a new object that may change -/
theorem Stp.newC (r : Rp K G S H) {p : Addr} {o : HO} {c : Cell} (hp : H p = none) (hc : CRep K G (upd H p o) p c) : Stp K G S H G (S.put p c) (upd H p o) := by
  have gp : G p = none := by
    cases q : G p with
    | none => rfl
    | some u => rw [r.gh p u q] at hp; cases hp
  refine ⟨fun _ _ e => e, fun a u e n => ?_, fun a e n => ⟨?_, fun z => z⟩, fun a u e => ?_, fun a c' e => ?_⟩
  · rw [upd_ne (ne_of_none e hp)]; exact e
  · have : a ≠ p := fun q => e (by rw [q]; exact hp)
    rw [Sto.put_ne this]; exact n
  · have : a ≠ p := fun q => by rw [q, gp] at e; cases e
    rw [upd_ne this]; exact r.gh a u e
  · by_cases q : a = p
    · subst q
      rw [Sto.put_same] at e
      cases e
      exact ⟨gp, hc⟩
    · rw [Sto.put_ne q] at e
      obtain ⟨c1, c2⟩ := r.cell a c' e
      exact ⟨c1, c2.mono (fun _ _ e => e) (upd_ne q)⟩
/-- a cell is written -/
theorem Stp.write (r : Rp K G S H) {p : Addr} {o : HO} {c c0 : Cell} (hp : S p = some c0) (hc : CRep K G (upd H p o) p c) : Stp K G S H G (S.put p c) (upd H p o) := by
  obtain ⟨gp, _⟩ := r.cell p c0 hp
  refine ⟨fun _ _ e => e, fun a u e n => ?_, fun a e n => ⟨?_, fun z => z⟩, fun a u e => ?_, fun a c' e => ?_⟩
  · have : a ≠ p := fun q => by rw [q, hp] at n; cases n
    rw [upd_ne this]; exact e
  · have : a ≠ p := fun q => by rw [q, hp] at n; cases n
    rw [Sto.put_ne this]; exact n
  · have : a ≠ p := fun q => by rw [q, gp] at e; cases e
    rw [upd_ne this]; exact r.gh a u e
  · by_cases q : a = p
    · subst q
      rw [Sto.put_same] at e
      cases e
      exact ⟨gp, hc⟩
    · rw [Sto.put_ne q] at e
      obtain ⟨c1, c2⟩ := r.cell a c' e
      exact ⟨c1, c2.mono (fun _ _ e => e) (upd_ne q)⟩
/-- a list will not change any more -/
theorem Stp.freeze (r : Rp K G S H) {p : Addr} {xs : List PyData} (hp : S p = some (.lst xs)) : ∃ G', Stp K G S H G' (S.del p) H ∧ Zp K G' (.ref p) (.list xs) := by
  obtain ⟨gp, vs, e1, e2⟩ := r.cell p _ hp
  have g1 : Same G (upd G p (.lst vs)) := Evl.Ex.new gp
  refine ⟨upd G p (.lst vs), ⟨g1, fun a u e _ => e, fun a e n => ?_, fun a u e => ?_, fun a c e => ?_⟩, .lst upd_same (ZpAll.mono g1 _ _ e2)⟩
  · have : a ≠ p := fun q => by rw [q, hp] at n; cases n
    rw [Sto.del_ne this, upd_ne this]
    exact ⟨n, fun z => z⟩
  · by_cases q : a = p
    · subst q; rw [upd_same] at e; cases e; exact e1
    · rw [upd_ne q] at e; exact r.gh a u e
  · by_cases q : a = p
    · subst q; rw [Sto.del_same] at e; cases e
    · rw [Sto.del_ne q] at e
      obtain ⟨c1, c2⟩ := r.cell a c e
      exact ⟨by rw [upd_ne q]; exact c1, c2.mono g1 rfl⟩
/-- a cell is forgotten -/
theorem Stp.forget (r : Rp K G S H) (p : Addr) : Rp K G (S.del p) H := ⟨r.gh, fun a c e => by
  by_cases q : a = p
  · subst q; rw [Sto.del_same] at e; cases e
  · rw [Sto.del_ne q] at e; exact r.cell a c e⟩
theorem ERep.set {ρ : Ro} {σ : L2.St} (h : ERep K G ρ σ) (i : Nat) {d : D} {v : V} (r : DRep K G d v) : ERep K G (ρ.set i (some d)) (σ.set i (some v)) := by
  refine ⟨by rw [List.length_set, List.length_set]; exact h.1, fun j e q => ?_⟩
  by_cases c : i = j
  · subst c
    by_cases l : i < ρ.length
    · rw [List.getElem?_set_self l] at q
      cases q
      exact ⟨v, by rw [List.getElem?_set_self (by rw [← h.1]; exact l)], r⟩
    · rw [List.getElem?_eq_none (by simpa using l)] at q
      cases q
  · rw [List.getElem?_set_ne c] at q ⊢
    exact h.2 j e q
end

/-! ### expressions -/
abbrev ZT := Ro → Sto → (D → Sto → Prop) → Prop
abbrev ZTT := Ro → Sto → (Bool → Sto → Prop) → Prop
abbrev ZTA := Ro → Sto → (List D → Sto → Prop) → Prop
def DRepAll (K : PySem.W.Frag) (G : Hp) : List D → List V → Prop := Paired (DRep K G)
theorem DRepAll.mono {K : PySem.W.Frag} {G G' : Hp} (e : Same G G') {ds : List D} {vs : List V} (h : DRepAll K G ds vs) : DRepAll K G' ds vs := Paired.mapP h fun _ _ q => q.mono e
def lt (K : PySem.W.Frag) (z : ZT) : TE := fun σ H Q => ∃ G S ρ R, Rp K G S H ∧ ERep K G ρ σ ∧ z ρ S R ∧ ∀ d S' v G' H', R d S' → Stp K G S H G' S' H' → DRep K G' d v → Q v H'
def ltt (K : PySem.W.Frag) (z : ZTT) : TT := fun σ H Q => ∃ G S ρ R, Rp K G S H ∧ ERep K G ρ σ ∧ z ρ S R ∧ ∀ b S' G' H', R b S' → Stp K G S H G' S' H' → Q b H'
def lta (K : PySem.W.Frag) (z : ZTA) : TA := fun σ H Q => ∃ G S ρ R, Rp K G S H ∧ ERep K G ρ σ ∧ z ρ S R ∧ ∀ ds S' vs G' H', R ds S' → Stp K G S H G' S' H' → DRepAll K G' ds vs → Q vs H'
abbrev ZE (X : Cx) (e : Expr) (z : ZT) : Prop := PE X e (lt X.K z)
abbrev ZB (X : Cx) (e : Expr) (z : ZTT) : Prop := PT X e (ltt X.K z)
abbrev ZA (X : Cx) (es : List Expr) (z : ZTA) : Prop := PA X es (lta X.K z)
theorem PE.weak {X : Cx} {e : Expr} {t t' : TE} (h : PE X e t) (w : ∀ σ H Q, t' σ H Q → t σ H Q) : PE X e t' := ⟨fun pins s σ H Q I q => h.run pins s σ H Q I (w σ H Q q)⟩
theorem PT.weak {X : Cx} {e : Expr} {t t' : TT} (h : PT X e t) (w : ∀ σ H Q, t' σ H Q → t σ H Q) : PT X e t' := ⟨fun pins s σ H Q I q => h.run pins s σ H Q I (w σ H Q q)⟩
theorem PW.weak {X : Cx} {e : Expr} {t t' : TT} (h : PW X e t) (w : ∀ σ H Q, t' σ H Q → t σ H Q) : PW X e t' := ⟨fun wh pins s σ H Q I q => h.run wh pins s σ H Q I (w σ H Q q)⟩
theorem PA.weak {X : Cx} {e : List Expr} {t t' : TA} (h : PA X e t) (w : ∀ σ H Q, t' σ H Q → t σ H Q) : PA X e t' := ⟨fun p pins s σ H Q I q => h.run p pins s σ H Q I (w σ H Q q)⟩
theorem PS.weak {X : Cx} {e : Stmt} {t t' : TS} (h : PS X e t) (w : ∀ D σ H, t' D σ H → t D σ H) : PS X e t' := ⟨fun pins s σ H D I q => h.run pins s σ H D I (w D σ H q)⟩
theorem PSs.weak {X : Cx} {e : List Stmt} {t t' : TS} (h : PSs X e t) (w : ∀ D σ H, t' D σ H → t D σ H) : PSs X e t' := ⟨fun pins s σ H D I q => h.run pins s σ H D I (w D σ H q)⟩
/-- one value -/
def zC (x : PyData) : ZT := fun _ S Q => Q (.d x) S
def zV (i : Nat) : ZT := fun ρ S Q => match ρ[i]? with
  | some (some d) => Q d S
  | _ => False
section
variable {X : Cx} {pos : Pos}
theorem ze_c {e : Expr} {v : V} {x : PyData} (h : PE X e (tC v)) (r : ∀ G, Zp X.K G v x) : ZE X e (zC x) := PE.weak h fun σ H Q ⟨G, S, ρ, R, rp, _, z, k⟩ => k _ S v G H z (Stp.refl rp) (r G)
theorem ze_int {i : Int} {j pos} : ZE X (.Constant (.int i) j pos) (zC (.int i)) := ze_c pe_int fun _ => .int i
theorem ze_bl {b j pos} : ZE X (.Constant (.bool b) j pos) (zC (.bool b)) := ze_c pe_bl fun _ => .bl b
theorem ze_non {j pos} : ZE X (.Constant .none j pos) (zC .none) := ze_c pe_non fun _ => .non
theorem ze_v (i : Nat) {e : Expr} (h : PE X e (tVar i)) : ZE X e (zV i) := PE.weak h fun σ H Q ⟨G, S, ρ, R, rp, er, z, k⟩ => by
  unfold zV at z
  split at z
  · rename_i d e
    obtain ⟨v, a, b⟩ := er.2 i d e
    exact ⟨v, a, k _ S v G H z (Stp.refl rp) b⟩
  · exact z.elim
/-- the name in slot i -/
theorem zv (i : Nat) {x : Str} {pos : Pos} (hN : X.N[i]? = some x := by rfl) (hv : Vis X.env.scope x := by first | exact Or.inl rfl | exact Or.inr (Or.inl rfl) | exact Or.inr (Or.inr rfl)) (hd : (x == ("__debug__" : Str)) = false := by decide)
    (hcd : (x == ("__classdict__" : Str)) = false := by decide) : ZE X (.Name x pos) (zV i) := ze_v i (pe_var hN hv hd hcd)
end

/-! ### operators by values -/
abbrev ZR2 := D → D → Sto → (D → Sto → Prop) → Prop
def lr2 (K : PySem.W.Frag) (z : ZR2) : R2 := fun x y H Q => ∃ G S d e R, Rp K G S H ∧ DRep K G d x ∧ DRep K G e y ∧ z d e S R ∧ ∀ d' S' v G' H', R d' S' → Stp K G S H G' S' H' → DRep K G' d' v → Q v H'
def zOp (r : ZR2) (za zb : ZT) : ZT := fun ρ S Q => za ρ S fun x S1 => zb ρ S1 fun y S2 => r x y S2 Q
theorem tOp_lt {K : PySem.W.Frag} {r : ZR2} {za zb : ZT} {σ : L2.St} {H : Hp} {Q : VK} (h : lt K (zOp r za zb) σ H Q) : tOp (lr2 K r) (lt K za) (lt K zb) σ H Q := by
  obtain ⟨G, S, ρ, R, rp, er, z, k⟩ := h
  refine ⟨G, S, ρ, _, rp, er, z, fun x S1 v G1 H1 z1 s1 r1 => ?_⟩
  refine ⟨G1, S1, ρ, _, s1.rp, er.mono s1.gg, z1, fun y S2 u G2 H2 z2 s2 r2 => ?_⟩
  exact ⟨G2, S2, x, y, R, s2.rp, r1.mono s2.gg, r2, z2, fun d' S' w G' H' q s3 r3 => k d' S' w G' H' q ((s1.trans s2).trans s3) r3⟩
section
variable {X : Cx} {a b : Expr} {za zb : ZT} {pos : Pos} {r : ZR2}
theorem ze_op {op : Operator} (ho : OpR X (binaryOp op) (lr2 X.K r)) (ha : ZE X a za) (hb : ZE X b zb) : ZE X (.BinOp a op b pos) (zOp r za zb) := PE.weak (pe_op ho ha hb) fun _ _ _ => tOp_lt
theorem ze_cmp {op : CmpOp} (ho : OpR X (compareOp op) (lr2 X.K r)) (ha : ZE X a za) (hb : ZE X b zb) (hm : behindInMarks op b = false) : ZE X (.Compare a [op] [b] pos) (zOp r za zb) := PE.weak (pe_cmpR ho ha hb hm) fun _ _ _ => tOp_lt
theorem ze_ix (ho : IxR X (lr2 X.K r)) (ha : ZE X a za) (hb : ZE X b zb) (hs : PlainIx b := by intro _ _; rfl) : ZE X (.Subscript a b pos) (zOp r za zb) := PE.weak (pe_ix ho ha hb hs) fun _ _ _ => tOp_lt
/-- an operator whose rule leaves the heap as it is -/
theorem OpR.lift {f : Value → Value → Sem Value} {r0 : R2} (h : OpR X f r0) (w : ∀ x y H Q, lr2 X.K r x y H Q → r0 x y H Q) : OpR X f (lr2 X.K r) := fun pins s σ H x y v u Q I rx ry q => h pins s σ H x y v u Q I rx ry (w x y H Q q)
end
/-- two ints -/
def zI (C : Int → Int → Prop) (f : Int → Int → PyData) : ZR2 := fun x y S Q => match x, y with
  | .d (.int i), .d (.int j) => C i j ∧ Q (.d (f i j)) S
  | _, _ => False
def zI0 (f : Int → Int → PyData) : ZR2 := fun x y S Q => match x, y with
  | .d (.int i), .d (.int j) => Q (.d (f i j)) S
  | _, _ => False
theorem zI_lift {K : PySem.W.Frag} {C : Int → Int → Prop} {f : Int → Int → PyData} {g : Int → Int → V} (hg : ∀ i j G, Zp K G (g i j) (f i j)) {x y : V} {H : Hp} {Q : VK} (h : lr2 K (zI C f) x y H Q) : rI C g x y H Q := by
  obtain ⟨G, S, d, e, R, rp, rd, re, z, k⟩ := h
  unfold zI at z
  split at z
  · cases rd; cases re
    exact ⟨_, _, rfl, rfl, z.1, k _ S _ G H z.2 (Stp.refl rp) (hg _ _ G)⟩
  · exact z.elim
theorem zI0_lift {K : PySem.W.Frag} {f : Int → Int → PyData} {g : Int → Int → V} (hg : ∀ i j G, Zp K G (g i j) (f i j)) {x y : V} {H : Hp} {Q : VK} (h : lr2 K (zI0 f) x y H Q) : rI0 g x y H Q := by
  obtain ⟨G, S, d, e, R, rp, rd, re, z, k⟩ := h
  unfold zI0 at z
  split at z
  · cases rd; cases re
    exact ⟨_, _, rfl, rfl, k _ S _ G H z (Stp.refl rp) (hg _ _ G)⟩
  · exact z.elim
section
variable {X : Cx}
abbrev zAdd : ZR2 := zI0 fun i j => .int (i + j)
abbrev zSub : ZR2 := zI0 fun i j => .int (i - j)
abbrev zMul : ZR2 := zI IntMulOk fun i j => .int (i * j)
abbrev zMod : ZR2 := zI (fun _ j => 0 < j) fun i j => .int (i % j)
abbrev zDiv : ZR2 := zI CDiv fun i j => .int (i / j)
abbrev zPow : ZR2 := zI CPow fun i j => .int (i ^ j.toNat)
theorem zop_add : OpR X (binaryOp .Add) (lr2 X.K zAdd) := OpR.lift op_add fun _ _ _ _ => zI0_lift fun _ _ _ => .int _
theorem zop_sub : OpR X (binaryOp .Sub) (lr2 X.K zSub) := OpR.lift op_sub fun _ _ _ _ => zI0_lift fun _ _ _ => .int _
theorem op_mulOk : OpR X (binaryOp .Mult) (rI IntMulOk fun i j => .int (i * j)) := opI fun _ _ _ _ _ _ _ hc q => mul_int q hc
theorem zop_mul : OpR X (binaryOp .Mult) (lr2 X.K zMul) := OpR.lift op_mulOk fun _ _ _ _ => zI_lift fun _ _ _ => .int _
theorem zop_mod : OpR X (binaryOp .Mod) (lr2 X.K zMod) := OpR.lift op_mod fun _ _ _ _ => zI_lift fun _ _ _ => .int _
theorem zop_div : OpR X (binaryOp .FloorDiv) (lr2 X.K zDiv) := OpR.lift op_fdiv fun _ _ _ _ => zI_lift fun _ _ _ => .int _
theorem zop_pow : OpR X (binaryOp .Pow) (lr2 X.K zPow) := OpR.lift op_pow fun _ _ _ _ => zI_lift fun _ _ _ => .int _
abbrev zLt : ZR2 := zI0 fun i j => .bool (decide (i < j))
abbrev zLe : ZR2 := zI0 fun i j => .bool (decide (i ≤ j))
abbrev zGt : ZR2 := zI0 fun i j => .bool (decide (j < i))
abbrev zGe : ZR2 := zI0 fun i j => .bool (decide (j ≤ i))
theorem zop_lt : OpR X (compareOp .Lt) (lr2 X.K zLt) := OpR.lift op_lt fun _ _ _ _ => zI0_lift fun _ _ _ => .bl _
theorem zop_le : OpR X (compareOp .LtE) (lr2 X.K zLe) := OpR.lift op_le fun _ _ _ _ => zI0_lift fun _ _ _ => .bl _
theorem zop_gt : OpR X (compareOp .Gt) (lr2 X.K zGt) := OpR.lift op_gt fun _ _ _ _ => zI0_lift fun _ _ _ => .bl _
theorem zop_ge : OpR X (compareOp .GtE) (lr2 X.K zGe) := OpR.lift op_ge fun _ _ _ _ => zI0_lift fun _ _ _ => .bl _
end
end Z
set_option Elab.async false
set_option linter.all false
set_option maxRecDepth 100000
set_option maxHeartbeats 1000000
namespace Z
open PySem PySem.Spec PyProof.Rows L2

/-! ### a list that may be read -/
def seen (S : Sto) : D → Option PyData
  | .d x => some x
  | .ref a => match S a with
    | some (.lst xs) => some (.list xs)
    | _ => none
  | .ro ns => some (.list (ns.map .int))
theorem seen_ref {S : Sto} {a : Addr} {xs : List PyData} (h : S a = some (.lst xs)) : seen S (.ref a) = some (.list xs) := by
  show (match S a with | some (.lst xs) => some (PyData.list xs) | _ => none) = _
  rw [h]
section
variable {K : PySem.W.Frag} {G H : Hp} {S : Sto}
theorem ints_zp (K : PySem.W.Frag) (G : Hp) : ∀ ns : List Int, ZpAll K G (ns.map V.int) (ns.map PyData.int)
  | [] => .nil
  | n :: ns => .cons (.int n) (ints_zp K G ns)
theorem seen_ok (r : Rp K G S H) {x : D} {v : V} {d : PyData} (h : DRep K G x v) (e : seen S x = some d) : Dp K H v d := by
  cases x with
  | d y =>
    cases e
    exact Zp.dp _ _ (Zp.mono r.gh _ _ h)
  | ref a =>
    unfold seen at e
    simp only at e
    split at e
    · rename_i xs q
      cases e
      cases h
      obtain ⟨_, vs, e1, e2⟩ := r.cell a _ q
      exact .lst (.inl (.inl e1)) (ZpAll.dp _ _ (ZpAll.mono r.gh _ _ e2))
    · cases e
  | ro xs =>
    cases e
    obtain ⟨a, rfl, q2⟩ := h
    exact .lst (Evl.ex_l r.gh q2) (ZpAll.dp _ _ (ints_zp K H xs))
theorem ZpAll.length : ∀ {vs : List V} {ds : List PyData}, ZpAll K G vs ds → vs.length = ds.length
  | _, _, .nil => rfl
  | _, _, .cons _ t => congrArg (· + 1) (ZpAll.length t)
theorem ZpAll.get : ∀ {vs : List V} {ds : List PyData} {i : Nat} {d : PyData}, ZpAll K G vs ds → ds[i]? = some d → ∃ v, vs[i]? = some v ∧ Zp K G v d
  | _, _, _, _, .nil, h => by simp at h
  | _, _, 0, _, .cons q _, h => by simp at h; subst h; exact ⟨_, rfl, q⟩
  | _, _, i + 1, _, .cons _ t, h => by
    obtain ⟨v, a, b⟩ := ZpAll.get (i := i) t (by simpa using h)
    exact ⟨v, by simpa using a, b⟩
theorem ZpAll.append : ∀ {vs ws : List V} {ds es : List PyData}, ZpAll K G vs ds → ZpAll K G ws es → ZpAll K G (vs ++ ws) (ds ++ es)
  | _, _, _, _, .nil, h => h
  | _, _, _, _, .cons q t, h => .cons q (ZpAll.append t h)
theorem ZpAll.take : ∀ {vs : List V} {ds : List PyData} (n : Nat), ZpAll K G vs ds → ZpAll K G (vs.take n) (ds.take n)
  | _, _, 0, _ => by simp; exact .nil
  | _, _, _ + 1, .nil => by simp; exact .nil
  | _, _, n + 1, .cons q t => by simp; exact .cons q (ZpAll.take n t)
theorem ZpAll.drop : ∀ {vs : List V} {ds : List PyData} (n : Nat), ZpAll K G vs ds → ZpAll K G (vs.drop n) (ds.drop n)
  | _, _, 0, h => by simpa using h
  | _, _, _ + 1, .nil => by simp; exact .nil
  | _, _, n + 1, .cons _ t => by simpa using ZpAll.drop n t
theorem ZpAll.rev : ∀ {vs : List V} {ds : List PyData}, ZpAll K G vs ds → ZpAll K G vs.reverse ds.reverse
  | _, _, .nil => .nil
  | _, _, .cons q t => by simpa using ZpAll.append (ZpAll.rev t) (.cons q .nil)
theorem ZpAll.list {v : V} {ds : List PyData} (h : Zp K G v (.list ds)) : ∃ a vs, v = .ref a ∧ G a = some (.lst vs) ∧ ZpAll K G vs ds := by
  cases h with
  | lst a b => exact ⟨_, _, rfl, a, b⟩
theorem ZpAll.tuple {v : V} {ds : List PyData} (h : Zp K G v (.tuple ds)) : ∃ a vs, v = .ref a ∧ SqT K G a vs ∧ ZpAll K G vs ds := by
  cases h with
  | tup a b => exact ⟨_, _, rfl, a, b⟩
end

/-! ### equality -/
def EqO (d e : PyData) (b : Bool) : Prop := SeqAt.shaped d = true ∧ SeqAt.shaped e = true ∧ PyData.eqv d e = b
def InO (d : PyData) (ds : List PyData) (b : Bool) : Prop := SeqAt.shaped d = true ∧ SeqAt.shaped (.list ds) = true ∧ (ds.any fun z => PyData.eqv z d) = b
def zEq : ZR2 := fun x y S Q => match seen S x, seen S y with
  | some d, some e => ∃ b, EqO d e b ∧ Q (.d (.bool b)) S
  | _, _ => False
def zNe : ZR2 := fun x y S Q => match seen S x, seen S y with
  | some d, some e => ∃ b, EqO d e b ∧ Q (.d (.bool (!b))) S
  | _, _ => False
def zIn : ZR2 := fun x y S Q => match seen S x, seen S y with
  | some d, some (.list ds) => ∃ b, InO d ds b ∧ Q (.d (.bool b)) S
  | _, _ => False
def zNotIn : ZR2 := fun x y S Q => match seen S x, seen S y with
  | some d, some (.list ds) => ∃ b, InO d ds b ∧ Q (.d (.bool (!b))) S
  | _, _ => False
/-- not in a tuple -/
def zNotInT : ZR2 := fun x y S Q => match seen S x, y with
  | some d, .d (.tuple ds) => ∃ b, (SeqAt.shaped d = true ∧ SeqAt.shaped (.tuple ds) = true ∧ (ds.any fun z => PyData.eqv z d) = b) ∧ Q (.d (.bool (!b))) S
  | _, _ => False
def zIs : ZR2 := fun x y S Q => match x, y with
  | .d .none, .d .none => Q (.d (.bool true)) S
  | .d _, .d .none => Q (.d (.bool false)) S
  | _, _ => False
def zIsN : ZR2 := fun x y S Q => match x, y with
  | .d .none, .d .none => Q (.d (.bool false)) S
  | .d _, .d .none => Q (.d (.bool true)) S
  | _, _ => False
section
variable {X : Cx}
theorem zop_eq (hu : X.A.units + 64 < cLine) : OpR X (compareOp .Eq) (lr2 X.K zEq) := OpR.lift (op_eqD hu) fun x y H Q ⟨G, S, d, e, R, rp, rd, re, z, k⟩ => by
  unfold zEq at z
  split at z
  · rename_i d1 e1 q1 q2
    obtain ⟨b, ⟨s1, s2, s3⟩, z⟩ := z
    refine ⟨d1, e1, seen_ok rp rd q1, seen_ok rp re q2, s1, s2, ?_⟩
    rw [s3]
    exact k _ S _ G H z (Stp.refl rp) (.bl _)
  · exact z.elim
theorem zop_ne (hu : X.A.units + 64 < cLine) : OpR X (compareOp .NotEq) (lr2 X.K zNe) := OpR.lift (op_neD hu) fun x y H Q ⟨G, S, d, e, R, rp, rd, re, z, k⟩ => by
  unfold zNe at z
  split at z
  · rename_i d1 e1 q1 q2
    obtain ⟨b, ⟨s1, s2, s3⟩, z⟩ := z
    refine ⟨d1, e1, seen_ok rp rd q1, seen_ok rp re q2, s1, s2, ?_⟩
    rw [s3]
    exact k _ S _ G H z (Stp.refl rp) (.bl _)
  · exact z.elim
theorem zop_in (hu : X.A.units + 65 < cLine) : OpR X (compareOp .In) (lr2 X.K zIn) := OpR.lift (op_inD hu) fun x y H Q ⟨G, S, d, e, R, rp, rd, re, z, k⟩ => by
  unfold zIn at z
  split at z
  · rename_i d1 ds q1 q2
    obtain ⟨b, ⟨s1, s2, s3⟩, z⟩ := z
    refine ⟨d1, ds, seen_ok rp rd q1, seen_ok rp re q2, s1, s2, ?_⟩
    rw [s3]
    exact k _ S _ G H z (Stp.refl rp) (.bl _)
  · exact z.elim
theorem zop_notIn (hu : X.A.units + 65 < cLine) : OpR X (compareOp .NotIn) (lr2 X.K zNotIn) := OpR.lift (op_notInD hu) fun x y H Q ⟨G, S, d, e, R, rp, rd, re, z, k⟩ => by
  unfold zNotIn at z
  split at z
  · rename_i d1 ds q1 q2
    obtain ⟨b, ⟨s1, s2, s3⟩, z⟩ := z
    refine ⟨d1, ds, seen_ok rp rd q1, seen_ok rp re q2, s1, s2, ?_⟩
    rw [s3]
    exact k _ S _ G H z (Stp.refl rp) (.bl _)
  · exact z.elim
theorem zop_notInT (hu : X.A.units + 65 < cLine) : OpR X (compareOp .NotIn) (lr2 X.K zNotInT) := by
  intro pins s σ H x y v u Q I rx ry ⟨G, S, d, e, R, rp, rd, re, z, k⟩
  unfold zNotInT at z
  split at z
  · rename_i d1 ds q1
    obtain ⟨b, ⟨s1, s2, s3⟩, z⟩ := z
    obtain ⟨as, r1⟩ := Dp.reads I d1 x v (seen_ok rp rd q1) rx
    obtain ⟨bs, r2⟩ := Dp.reads I (.tuple ds) y u (Zp.dp _ _ (Zp.mono rp.gh _ _ re)) ry
    refine SeqAt.notIn_tuple_reads r2 r1 (SeqAt.canLay_of_shaped s2) (SeqAt.canLay_of_shaped s1) (room_in_shaped s1 hu) ?_
    rw [s3]
    exact ⟨.bl _, H, I, rfl, k _ S _ G H z (Stp.refl rp) (.bl _)⟩
  · exact z.elim
theorem zop_is : OpR X (compareOp .Is) (lr2 X.K zIs) := OpR.lift op_isN fun x y H Q ⟨G, S, d, e, R, rp, rd, re, z, k⟩ => by
  unfold zIs at z
  split at z
  · cases rd; cases re
    exact ⟨rfl, k _ S _ G H z (Stp.refl rp) (.bl _)⟩
  · rename_i d1 _ hn
    cases re
    refine ⟨rfl, ?_⟩
    have hx : x ≠ .non := fun q => by
      subst q
      cases rd
      exact hn rfl
    rw [decide_eq_false hx]
    exact k _ S _ G H z (Stp.refl rp) (.bl _)
  · exact z.elim
theorem zop_isN : OpR X (compareOp .IsNot) (lr2 X.K zIsN) := OpR.lift op_notN fun x y H Q ⟨G, S, d, e, R, rp, rd, re, z, k⟩ => by
  unfold zIsN at z
  split at z
  · cases rd; cases re
    exact ⟨rfl, k _ S _ G H z (Stp.refl rp) (.bl _)⟩
  · rename_i d1 _ hn
    cases re
    refine ⟨rfl, ?_⟩
    have hx : x ≠ .non := fun q => by
      subst q
      cases rd
      exact hn rfl
    rw [decide_eq_false hx]
    exact k _ S _ G H z (Stp.refl rp) (.bl _)
  · exact z.elim
end

/-! ### items -/
def pAt (xs : List PyData) : Int → Option PyData
  | .ofNat n => xs[n]?
  | .negSucc n => if n < xs.length then xs[xs.length - 1 - n]? else none
theorem pAt_ok {K : PySem.W.Frag} {G : Hp} {vs : List V} {xs : List PyData} {i : Int} {d : PyData} (h : ZpAll K G vs xs) (e : pAt xs i = some d) : ∃ v, atI vs i = some v ∧ Zp K G v d := by
  have hl := ZpAll.length h
  cases i with
  | ofNat n =>
    obtain ⟨v, a, b⟩ := ZpAll.get h (show xs[n]? = some d from e)
    exact ⟨v, atI_nat a, b⟩
  | negSucc n =>
    have e : (if n < xs.length then xs[xs.length - 1 - n]? else none) = some d := e
    by_cases c : n < xs.length
    · rw [if_pos c] at e
      obtain ⟨v, a, b⟩ := ZpAll.get h e
      refine ⟨v, ?_, b⟩
      unfold atI ixN
      rw [if_neg (by omega), if_pos (by omega)]
      show vs[(Int.negSucc n + (vs.length : Int)).toNat]? = some v
      have : (Int.negSucc n + (vs.length : Int)).toNat = xs.length - 1 - n := by omega
      rw [this]
      exact a
    · rw [if_neg c] at e; cases e
def zIx : ZR2 := fun x y S Q => match seen S x, y with
  | some (.list xs), .d (.int i) => (match pAt xs i with
    | some d => Q (.d d) S
    | none => False)
  | some (.tuple xs), .d (.int i) => (match pAt xs i with
    | some d => Q (.d d) S
    | none => False)
  | _, _ => False
theorem dp_back {K : PySem.W.Frag} {G H : Hp} {S : Sto} (rp : Rp K G S H) {x : D} {v : V} {xs : List PyData} (h : DRep K G x v) (e : seen S x = some (.list xs)) : ∃ a vs, v = .ref a ∧ SqL K H a vs ∧ ZpAll K G vs xs := by
  cases x with
  | d y =>
    cases e
    obtain ⟨a, vs, q1, q2, q3⟩ := ZpAll.list h
    exact ⟨a, vs, q1, .inl (.inl (rp.gh _ _ q2)), q3⟩
  | ref a =>
    unfold seen at e
    simp only at e
    split at e
    · rename_i xs q
      cases e
      cases h
      obtain ⟨_, vs, e1, e2⟩ := rp.cell a _ q
      exact ⟨a, vs, rfl, .inl (.inl e1), e2⟩
    · cases e
  | ro ns =>
    cases e
    obtain ⟨a, rfl, q2⟩ := h
    exact ⟨a, _, rfl, Evl.ex_l rp.gh q2, ints_zp K G ns⟩
theorem dp_backT {K : PySem.W.Frag} {G H : Hp} {S : Sto} (rp : Rp K G S H) {x : D} {v : V} {xs : List PyData} (h : DRep K G x v) (e : seen S x = some (.tuple xs)) : ∃ a vs, v = .ref a ∧ SqT K G a vs ∧ SqT K H a vs ∧ ZpAll K G vs xs := by
  cases x with
  | d y =>
    cases e
    obtain ⟨a, vs, q1, q2, q3⟩ := ZpAll.tuple h
    exact ⟨a, vs, q1, q2, Evl.ex_t rp.gh q2, q3⟩
  | ref a =>
    unfold seen at e
    simp only at e
    split at e
    · cases e
    · cases e
  | ro xs => cases e
section
variable {X : Cx}
theorem zix : IxR X (lr2 X.K zIx) := by
  intro value slice pins s σ H x y v u Q I rx ry ⟨G, S, d, e, R, rp, rd, re, z, k⟩ hs
  refine (ix_list.or ix_tup) value slice pins s σ H x y v u Q I rx ry ?_ hs
  unfold zIx at z
  split at z
  · rename_i xs i q
    split at z
    · rename_i d1 q2
      obtain ⟨a, vs, rfl, h1, h2⟩ := dp_back rp rd q
      obtain ⟨w, h3, h4⟩ := pAt_ok h2 q2
      cases re
      exact .inl ⟨a, vs, _, w, rfl, rfl, h1, h3, k _ S _ G H z (Stp.refl rp) h4⟩
    · exact z.elim
  · rename_i xs i q
    split at z
    · rename_i d1 q2
      obtain ⟨a, vs, rfl, _, h1, h2⟩ := dp_backT rp rd q
      obtain ⟨w, h3, h4⟩ := pAt_ok h2 q2
      cases re
      exact .inr ⟨a, vs, _, w, rfl, rfl, h1, h3, k _ S _ G H z (Stp.refl rp) h4⟩
    · exact z.elim
  · exact z.elim
end

/-! ### argument lists, displays -/
def zaNil : ZTA := fun _ S Q => Q [] S
def zaCons (z : ZT) (w : ZTA) : ZTA := fun ρ S Q => z ρ S fun x S1 => w ρ S1 fun xs S2 => Q (x :: xs) S2
def pds : List D → Option (List PyData)
  | [] => some []
  | .d x :: r => match pds r with
    | some xs => some (x :: xs)
    | none => none
  | .ref _ :: _ => none
  | .ro _ :: _ => none
theorem pds_ok {K : PySem.W.Frag} {G : Hp} : ∀ {ds : List D} {vs : List V} {xs : List PyData}, DRepAll K G ds vs → pds ds = some xs → ZpAll K G vs xs
  | [], _, _, .nil, e => by cases e; exact .nil
  | .d x :: r, _, _, .cons h t, e => by
    unfold pds at e
    split at e
    · rename_i xs q
      cases e
      exact .cons h (pds_ok t q)
    · cases e
  | .ref _ :: _, _, _, _, e => by cases e
  | .ro _ :: _, _, _, _, e => by cases e
def zTup (za : ZTA) : ZT := fun ρ S Q => za ρ S fun ds S1 => match pds ds, Nat.ble ds.length 1000 with
  | some xs, true => Q (.d (.tuple xs)) S1
  | _, _ => False
def zLst (za : ZTA) : ZT := fun ρ S Q => za ρ S fun ds S1 => match pds ds, Nat.ble ds.length 1000 with
  | some xs, true => Q (.d (.list xs)) S1
  | _, _ => False
/-- a list that may change -/
def zLstO (za : ZTA) : ZT := fun ρ S Q => za ρ S fun ds S1 => match pds ds, Nat.ble ds.length 1000 with
  | some xs, true => ∀ p, S1 p = none → Q (.ref p) (S1.put p (.lst xs))
  | _, _ => False
theorem small_of {n : Nat} (h : Nat.ble n 1000 = true) : n ≤ sizeLine := Nat.le_trans (Nat.le_of_ble_eq_true h) (by decide)
theorem fresh_S {K : PySem.W.Frag} {G H : Hp} {S : Sto} (rp : Rp K G S H) {p : Addr} (h : H p = none) : S p = none := by
  cases e : S p with
  | none => rfl
  | some c => exact absurd h (rp.cell p c e).2.some
section
variable {X : Cx} {e : Expr} {es : List Expr} {z : ZT} {w : ZTA} {pos : Pos}
theorem za_nil : ZA X [] zaNil := PA.weak pa_nil fun σ H Q ⟨G, S, ρ, R, rp, er, z, k⟩ => k [] S [] G H z (Stp.refl rp) .nil
theorem za_cons (h : ZE X e z) (hr : ZA X es w) (hs : starEach (e :: es) X.env = (false, eval e X.env) :: starEach es X.env := by rfl) : ZA X (e :: es) (zaCons z w) :=
  PA.weak (pa_cons h hr hs) fun σ H Q ⟨G, S, ρ, R, rp, er, z, k⟩ =>
    ⟨G, S, ρ, _, rp, er, z, fun x S1 v G1 H1 z1 s1 r1 => ⟨G1, S1, ρ, _, s1.rp, er.mono s1.gg, z1, fun xs S2 vs G2 H2 z2 s2 r2 => k (x :: xs) S2 (v :: vs) G2 H2 z2 (s1.trans s2) (.cons (r1.mono s2.gg) r2)⟩⟩
theorem ze_tup {x1} (h : ZA X es w) : ZE X (.Tuple es x1 pos) (zTup w) := PE.weak (pe_tup h) fun σ H Q ⟨G, S, ρ, R, rp, er, z, k⟩ =>
  ⟨G, S, ρ, _, rp, er, z, fun ds S1 vs G1 H1 z1 s1 r1 => by
    split at z1
    · rename_i xs q1 q2
      have hd := pds_ok r1 q1
      have hl : vs.length = ds.length := (Paired.length r1).symm
      refine ⟨by rw [hl]; exact small_of q2, fun p hp => ?_⟩
      have s2 := Stp.new s1.rp (o := .tup vs) hp
      exact k _ S1 _ _ _ z1 (s1.trans s2) (.tup (.inl (.inl upd_same)) (ZpAll.mono s2.gg _ _ hd))
    · exact z1.elim⟩
theorem ze_lst (h : ZA X es w) : ZE X (.List es pos) (zLst w) := PE.weak (pe_lst h) fun σ H Q ⟨G, S, ρ, R, rp, er, z, k⟩ =>
  ⟨G, S, ρ, _, rp, er, z, fun ds S1 vs G1 H1 z1 s1 r1 => by
    split at z1
    · rename_i xs q1 q2
      have hd := pds_ok r1 q1
      have hl : vs.length = ds.length := (Paired.length r1).symm
      refine ⟨by rw [hl]; exact small_of q2, fun p hp => ?_⟩
      have s2 := Stp.new s1.rp (o := .lst vs) hp
      exact k _ S1 _ _ _ z1 (s1.trans s2) (.lst upd_same (ZpAll.mono s2.gg _ _ hd))
    · exact z1.elim⟩
theorem ze_lstO (h : ZA X es w) : ZE X (.List es pos) (zLstO w) := PE.weak (pe_lst h) fun σ H Q ⟨G, S, ρ, R, rp, er, z, k⟩ =>
  ⟨G, S, ρ, _, rp, er, z, fun ds S1 vs G1 H1 z1 s1 r1 => by
    split at z1
    · rename_i xs q1 q2
      have hd := pds_ok r1 q1
      have hl : vs.length = ds.length := (Paired.length r1).symm
      refine ⟨by rw [hl]; exact small_of q2, fun p hp => ?_⟩
      have s2 := Stp.newC s1.rp (o := .lst vs) (c := .lst xs) hp ⟨vs, upd_same, hd⟩
      exact k _ _ _ _ _ (z1 p (fresh_S s1.rp hp)) (s1.trans s2) rfl
    · exact z1.elim⟩
end
/-- {} -/
def zDic : ZT := fun _ S Q => ∀ p, S p = none → Q (.ref p) (S.put p (.dic []))
theorem ze_dic {X : Cx} {pos : Pos} : ZE X (.Dict [] [] pos) zDic := PE.weak pe_dnewK fun σ H Q ⟨G, S, ρ, R, rp, er, z, k⟩ p hp =>
  k _ _ _ _ _ (z p (fresh_S rp hp)) (Stp.newC rp (c := .dic []) hp ⟨[], upd_same, .nil⟩) rfl

/-! ### one value: calls, freezing -/
/-- a list that may change is from here on one that does not -/
def zFrz (z : ZT) : ZT := fun ρ S Q => z ρ S fun x S1 => ∃ p xs, x = .ref p ∧ S1 p = some (.lst xs) ∧ Q (.d (.list xs)) (S1.del p)
theorem ze_frz {X : Cx} {e : Expr} {z : ZT} (h : ZE X e z) : ZE X e (zFrz z) := PE.weak h fun σ H Q ⟨G, S, ρ, R, rp, er, z, k⟩ =>
  ⟨G, S, ρ, _, rp, er, z, fun x S1 v G1 H1 ⟨p, xs, ex, hp, q⟩ s1 r1 => by
    subst ex
    cases r1
    obtain ⟨G2, s2, d2⟩ := Stp.freeze s1.rp hp
    exact k _ _ _ G2 H1 q (s1.trans s2) d2⟩
/-- what is called by values -/
abbrev ZC := List D → Sto → (D → Sto → Prop) → Prop
def lc (K : PySem.W.Frag) (z : ZC) : List V → Hp → VK → Prop := fun vs H Q => ∃ G S ds R, Rp K G S H ∧ DRepAll K G ds vs ∧ z ds S R ∧ ∀ d' S' v G' H', R d' S' → Stp K G S H G' S' H' → DRep K G' d' v → Q v H'
/-- a def's promise -/
def lp (K : PySem.W.Frag) (z : ZC) : Sp := fun vs H Q _ => lc K z vs H Q
def zCall (p : ZC) (za : ZTA) : ZT := fun ρ S Q => za ρ S fun ds S1 => p ds S1 Q
section
variable {X : Cx} {pos p : Pos} {e : Expr} {es : List Expr} {w : ZTA} {zc : ZC} {x : Str} {id T : String}
theorem CallR.lift {f : Value} {r : List V → Hp → VK → Prop} (h : CallR X f r) (g : ∀ vs H Q, lc X.K zc vs H Q → r vs H Q) : CallR X f (lc X.K zc) := fun pins s σ H xs us Q I rv q => h pins s σ H xs us Q I rv (g xs H Q q)
theorem lc_call {K : PySem.W.Frag} {w : ZTA} {zc : ZC} {σ : L2.St} {H : Hp} {Q : VK} (h : lt K (zCall zc w) σ H Q) : lta K w σ H fun vs H1 => lc K zc vs H1 Q := by
  obtain ⟨G, S, ρ, R, rp, er, z, k⟩ := h
  exact ⟨G, S, ρ, _, rp, er, z, fun ds S1 vs G1 H1 z1 s1 r1 => ⟨G1, S1, ds, R, s1.rp, r1, z1, fun d' S' v G' H' q s2 r2 => k d' S' v G' H' q (s1.trans s2) r2⟩⟩
theorem ze_callB (hc : CallR X (.builtin id) (lc X.K zc)) (hg : Gl X x) (hm : X.mg x = none) (hv : bootBuiltins x = some (.builtin id)) (ha : ZA X (e :: es) w) (hn : x ≠ "__name__" := by decide) (hdb : (x == ("__debug__" : Str)) = false := by decide)
    (he : starEach (e :: es) X.env = (false, eval e X.env) :: starEach es X.env := by rfl) (hpl : (backTo pos (starEach es X.env)).any (·.1) = false := by rfl) : ZE X (.Call (.Name x p) (e :: es) [] pos) (zCall zc w) :=
  PE.weak (pe_callB hc hg hm hv ha hn hdb he hpl) fun _ _ _ => lc_call
theorem ze_callTy (hc : CallR X (.type T) (lc X.K zc)) (hg : Gl X x) (hm : X.mg x = none) (hv : bootBuiltins x = some (.type T)) (ha : ZA X (e :: es) w) (hn : x ≠ "__name__" := by decide) (hdb : (x == ("__debug__" : Str)) = false := by decide)
    (he : starEach (e :: es) X.env = (false, eval e X.env) :: starEach es X.env := by rfl) (hpl : (backTo pos (starEach es X.env)).any (·.1) = false := by rfl) : ZE X (.Call (.Name x p) (e :: es) [] pos) (zCall zc w) :=
  PE.weak (pe_callTy hc hg hm hv ha hn hdb he hpl) fun _ _ _ => lc_call
theorem ze_call {k : Nat} {f : Addr} {fd : FuncData} {ps : List Str} (F : FnOk X.prog X.w X.K X.mg X.base CX0 k f fd ps (lp X.K zc)) (hr : Room k X.A) (hg : Gl X x) (hm : X.mg x = some (.ref f)) (hk : PySem.W.keepIn X.K (.ref f) = true) (hb : Binds X.K fd ps [])
    (ha : ZA X (e :: es) w) (hdb : (x == ("__debug__" : Str)) = false := by decide) (he : starEach (e :: es) X.env = (false, eval e X.env) :: starEach es X.env := by rfl) (hpl : (backTo pos (starEach es X.env)).any (·.1) = false := by rfl) :
    ZE X (.Call (.Name x p) (e :: es) [] pos) (zCall zc w) :=
  PE.weak (pe_call F hr hg hm hk hb .nil pass0 ha hdb he hpl) fun σ H Q h => by
    obtain ⟨G, S, ρ, R, rp, er, z, k⟩ := lc_call h
    refine ⟨G, S, ρ, R, rp, er, z, fun ds S' vs G' H' q s1 r1 => ?_⟩
    show lp X.K zc (vs ++ []) H' Q E0
    rw [List.append_nil]
    exact k ds S' vs G' H' q s1 r1
end
end Z
set_option Elab.async false
set_option linter.all false
set_option maxRecDepth 100000
set_option maxHeartbeats 1000000
namespace Z
open PySem PySem.Spec PyProof.Rows L2
/-! ### built-ins -/
def zLen : ZC := fun ds S Q => match ds with
  | [x] => (match seen S x with
    | some (.list xs) => Q (.d (.int xs.length)) S
    | some (.tuple xs) => Q (.d (.int xs.length)) S
    | _ => False)
  | _ => False
def zAbs : ZC := fun ds S Q => match ds with
  | [.d (.int i)] => Q (.d (.int (if i < 0 then -i else i))) S
  | _ => False
def zMax2 : ZC := fun ds S Q => match ds with
  | [.d (.int i), .d (.int j)] => Q (.d (.int (if j > i then j else i))) S
  | _ => False
def zMin2 : ZC := fun ds S Q => match ds with
  | [.d (.int i), .d (.int j)] => Q (.d (.int (if j < i then j else i))) S
  | _ => False
/-- int(flag) -/
def zInt1 : ZC := fun ds S Q => match ds with
  | [.d (.bool b)] => Q (.d (.int (if b then 1 else 0))) S
  | _ => False
def zMaxL : ZC := fun ds S Q => ∃ (x : D) (ns : List Int), ds = [x] ∧ seen S x = some (.list (ns.map PyData.int)) ∧ 0 < ns.length ∧ ∀ m, m ∈ ns → (∀ y, y ∈ ns → y ≤ m) → Q (.d (.int m)) S
def zMinL : ZC := fun ds S Q => ∃ (x : D) (ns : List Int), ds = [x] ∧ seen S x = some (.list (ns.map PyData.int)) ∧ 0 < ns.length ∧ ∀ m, m ∈ ns → (∀ y, y ∈ ns → m ≤ y) → Q (.d (.int m)) S
def zAll : ZC := fun ds S Q => ∃ (x : D) (bs : List Bool), ds = [x] ∧ seen S x = some (.list (bs.map PyData.bool)) ∧ Q (.d (.bool (bs.all id))) S
def zAny : ZC := fun ds S Q => ∃ (x : D) (bs : List Bool), ds = [x] ∧ seen S x = some (.list (bs.map PyData.bool)) ∧ Q (.d (.bool (bs.any id))) S
/-- list(xs): a new one -/
def zList : ZC := fun ds S Q => match ds with
  | [x] => (match seen S x with
    | some (.list xs) => Q (.d (.list xs)) S
    | _ => False)
  | _ => False
def zDivmod : ZC := fun ds S Q => match ds with
  | [.d (.int i), .d (.int j)] => CDivP i j ∧ Q (.d (.tuple [.int (i / j), .int (i % j)])) S
  | _ => False
section
variable {K : PySem.W.Frag} {G H : Hp} {S : Sto}
theorem one_of {x : D} {vs : List V} (r : DRepAll K G [x] vs) : ∃ v, vs = [v] ∧ DRep K G x v := by
  cases r with
  | cons a t => cases t; exact ⟨_, rfl, a⟩
theorem two_of {x y : D} {vs : List V} (r : DRepAll K G [x, y] vs) : ∃ v u, vs = [v, u] ∧ DRep K G x v ∧ DRep K G y u := by
  cases r with
  | cons a t => cases t with
    | cons b t => cases t; exact ⟨_, _, rfl, a, b⟩
theorem zp_ints : ∀ {ns : List Int} {vs : List V}, ZpAll K G vs (ns.map PyData.int) → vs = ns.map V.int
  | [], _, h => by cases h; rfl
  | n :: ns, _, h => by
    cases h with
    | cons a t =>
      cases a
      rw [zp_ints t]; rfl
theorem zp_bools : ∀ {ns : List Bool} {vs : List V}, ZpAll K G vs (ns.map PyData.bool) → vs = ns.map V.bl
  | [], _, h => by cases h; rfl
  | n :: ns, _, h => by
    cases h with
    | cons a t =>
      cases a
      rw [zp_bools t]; rfl
end
section
variable {X : Cx}
theorem zc_len : CallR X (.builtin "len") (lc X.K zLen) := CallR.lift call_len_seq fun vs H Q ⟨G, S, ds, R, rp, rd, z, k⟩ => by
  unfold zLen at z
  split at z
  · rename_i x
    obtain ⟨v, rfl, rv⟩ := one_of rd
    split at z
    · rename_i xs q
      obtain ⟨a, vs, rfl, h1, h2⟩ := dp_back rp rv q
      refine ⟨a, vs, rfl, .inl h1, ?_⟩
      rw [ZpAll.length h2]
      exact k _ S _ G H z (Stp.refl rp) (.int _)
    · rename_i xs q
      obtain ⟨a, vs, rfl, _, h1, h2⟩ := dp_backT rp rv q
      refine ⟨a, vs, rfl, .inr h1, ?_⟩
      rw [ZpAll.length h2]
      exact k _ S _ G H z (Stp.refl rp) (.int _)
    · exact z.elim
  · exact z.elim
theorem zc_abs : CallR X (.builtin "abs") (lc X.K zAbs) := CallR.lift call_abs fun vs H Q ⟨G, S, ds, R, rp, rd, z, k⟩ => by
  unfold zAbs at z
  split at z
  · obtain ⟨v, rfl, rv⟩ := one_of rd
    cases rv
    exact ⟨_, rfl, k _ S _ G H z (Stp.refl rp) (.int _)⟩
  · exact z.elim
theorem zc_max2 (hc : X.calm = true) : CallR X (.builtin "max") (lc X.K zMax2) := CallR.lift (call_max2 hc) fun vs H Q ⟨G, S, ds, R, rp, rd, z, k⟩ => by
  unfold zMax2 at z
  split at z
  · obtain ⟨v, u, rfl, rv, ru⟩ := two_of rd
    cases rv; cases ru
    exact ⟨_, _, rfl, k _ S _ G H z (Stp.refl rp) (.int _)⟩
  · exact z.elim
theorem zc_min2 (hc : X.calm = true) : CallR X (.builtin "min") (lc X.K zMin2) := CallR.lift (call_min2 hc) fun vs H Q ⟨G, S, ds, R, rp, rd, z, k⟩ => by
  unfold zMin2 at z
  split at z
  · obtain ⟨v, u, rfl, rv, ru⟩ := two_of rd
    cases rv; cases ru
    exact ⟨_, _, rfl, k _ S _ G H z (Stp.refl rp) (.int _)⟩
  · exact z.elim
theorem zc_int1 : CallR X (.type "int") (lc X.K zInt1) := CallR.lift call_int1 fun vs H Q ⟨G, S, ds, R, rp, rd, z, k⟩ => by
  unfold zInt1 at z
  split at z
  · obtain ⟨v, rfl, rv⟩ := one_of rd
    cases rv
    exact .inr ⟨_, rfl, k _ S _ G H z (Stp.refl rp) (.int _)⟩
  · exact z.elim
theorem zc_maxL (hc : X.calm = true) : CallR X (.builtin "max") (lc X.K zMaxL) := CallR.lift (cr_max hc) fun vs H Q ⟨G, S, ds, R, rp, rd, ⟨x, ns, e, q, h0, z⟩, k⟩ => by
  subst e
  obtain ⟨v, rfl, rv⟩ := one_of rd
  obtain ⟨a, vs, rfl, h1, h2⟩ := dp_back rp rv q
  rw [zp_ints h2] at h1
  exact ⟨a, ns, rfl, h1, h0, fun m hm hy => k _ S _ G H (z m hm hy) (Stp.refl rp) (.int _)⟩
theorem zc_minL (hc : X.calm = true) : CallR X (.builtin "min") (lc X.K zMinL) := CallR.lift (cr_min hc) fun vs H Q ⟨G, S, ds, R, rp, rd, ⟨x, ns, e, q, h0, z⟩, k⟩ => by
  subst e
  obtain ⟨v, rfl, rv⟩ := one_of rd
  obtain ⟨a, vs, rfl, h1, h2⟩ := dp_back rp rv q
  rw [zp_ints h2] at h1
  exact ⟨a, ns, rfl, h1, h0, fun m hm hy => k _ S _ G H (z m hm hy) (Stp.refl rp) (.int _)⟩
theorem zc_all (hc : X.calm = true) : CallR X (.builtin "all") (lc X.K zAll) := CallR.lift (cr_all hc) fun vs H Q ⟨G, S, ds, R, rp, rd, ⟨x, ns, e, q, z⟩, k⟩ => by
  subst e
  obtain ⟨v, rfl, rv⟩ := one_of rd
  obtain ⟨a, vs, rfl, h1, h2⟩ := dp_back rp rv q
  rw [zp_bools h2] at h1
  exact ⟨a, ns, rfl, h1, k _ S _ G H z (Stp.refl rp) (.bl _)⟩
theorem zc_any (hc : X.calm = true) : CallR X (.builtin "any") (lc X.K zAny) := CallR.lift (cr_any hc) fun vs H Q ⟨G, S, ds, R, rp, rd, ⟨x, ns, e, q, z⟩, k⟩ => by
  subst e
  obtain ⟨v, rfl, rv⟩ := one_of rd
  obtain ⟨a, vs, rfl, h1, h2⟩ := dp_back rp rv q
  rw [zp_bools h2] at h1
  exact ⟨a, ns, rfl, h1, k _ S _ G H z (Stp.refl rp) (.bl _)⟩
theorem zc_list : CallR X (.type "list") (lc X.K zList) := CallR.lift call_list_of fun vs H Q ⟨G, S, ds, R, rp, rd, z, k⟩ => by
  unfold zList at z
  split at z
  · rename_i x
    obtain ⟨v, rfl, rv⟩ := one_of rd
    split at z
    · rename_i xs q
      obtain ⟨a, vs, rfl, h1, h2⟩ := dp_back rp rv q
      refine ⟨a, vs, rfl, .inl h1, fun l hl => ?_⟩
      have s2 := Stp.new rp (o := .lst vs) hl
      exact k _ S _ _ _ z s2 (.lst upd_same (ZpAll.mono s2.gg _ _ h2))
    · exact z.elim
  · exact z.elim
theorem zc_divmod : CallR X (.builtin "divmod") (lc X.K zDivmod) := CallR.lift call_divmodW fun vs H Q ⟨G, S, ds, R, rp, rd, z, k⟩ => by
  unfold zDivmod at z
  split at z
  · rename_i i j
    obtain ⟨v, u, rfl, rv, ru⟩ := two_of rd
    cases rv; cases ru
    refine ⟨_, _, rfl, z.1, fun p hp => ?_⟩
    have s2 := Stp.new rp (o := .tup [.int (i / j), .int (i % j)]) hp
    exact k _ S _ _ _ z.2 s2 (.tup (.inl (.inl upd_same)) (.cons (.int _) (.cons (.int _) .nil)))
  · exact z.elim
end
/-- isinstance(x, T), T a built-in type by its name -/
def isTy (T : String) : PyData → Option Bool
  | .int _ => if T = "int" then some true else if T = "bool" then some false else none
  | .tuple _ => if T = "tuple" then some true else none
  | .list _ => if T = "list" then some true else none
  | _ => none
def zIsi (T : String) (z : ZT) : ZT := fun ρ S Q => z ρ S fun x S1 => match x with
  | .d y => (match isTy T y with
    | some b => Q (.d (.bool b)) S1
    | none => False)
  | _ => False
theorem kit_of_ty (K : PySem.W.Frag) : PySem.W.kitOne K (.type "int") (.type "int") = some true ∧ PySem.W.kitOne K (.type "int") (.type "bool") = some false ∧ PySem.W.kitOne K (.type "tuple") (.type "tuple") = some true ∧ PySem.W.kitOne K (.type "list") (.type "list") = some true :=
  ⟨kit_ty (by decide +kernel), kit_ty (by decide +kernel), kit_ty (by decide +kernel), kit_ty (by decide +kernel)⟩
theorem isTy_kit {K : PySem.W.Frag} {G H : Hp} {S : Sto} (rp : Rp K G S H) {T : String} {y : PyData} {b : Bool} {v : V} (rv : Zp K G v y) (e : isTy T y = some b) : ∃ t, TyX K H v t ∧ PySem.W.kitOne K t (.type T) = some b := by
  obtain ⟨k1, k2, k3, k4⟩ := kit_of_ty K
  cases rv with
  | non => cases e
  | bl _ => cases e
  | str _ => cases e
  | int i =>
    unfold isTy at e
    simp only at e
    split at e
    · rename_i h; subst h; cases e
      exact ⟨_, .base (.int i), k1⟩
    · split at e
      · rename_i h; subst h; cases e
        exact ⟨_, .base (.int i), k2⟩
      · cases e
  | lst h _ =>
    unfold isTy at e
    simp only at e
    split at e
    · rename_i h; subst h; cases e
      exact ⟨_, .base (.lst (rp.gh _ _ (by assumption))), k4⟩
    · cases e
  | tup h _ =>
    unfold isTy at e
    simp only at e
    split at e
    · rename_i h2; subst h2; cases e
      rcases Evl.ex_t rp.gh h with (q | ⟨o, q⟩) | ⟨o, its, n, q, c, _⟩
      · exact ⟨_, .base (.tup q), k3⟩
      · exact ⟨_, .fTuple q, k3⟩
      · exact ⟨_, .kTuple q c, k3⟩
    · cases e
section
variable {X : Cx} {e : Expr} {z : ZT} {pos p p2 : Pos}
theorem ze_isi {T : String} {x : Str} (hg : Gl X "isinstance") (hm : X.mg "isinstance" = none) (hi : Gl X x) (hmi : X.mg x = none) (hv : bootBuiltins x = some (.type T)) (h : ZE X e z) (hb : bootBuiltins "isinstance" = some (.builtin "isinstance")) (hn : x ≠ "__name__" := by decide) (hdb : (x == ("__debug__" : Str)) = false := by decide)
    (he : starEach [e, .Name x p2] X.env = (false, eval e X.env) :: starEach [.Name x p2] X.env := by rfl) (hpl : (backTo pos (starEach [.Name x p2] X.env)).any (·.1) = false := by rfl) (hs : starEach [.Name x p2] X.env = (false, eval (.Name x p2) X.env) :: starEach [] X.env := by rfl) :
    ZE X (.Call (.Name "isinstance" p) [e, .Name x p2] [] pos) (zIsi T z) :=
  PE.weak (pe_callB call_isi hg hm hb (pa_cons h (pa_cons (pe_bltn hi hmi hv (v := .ty T) rfl hn hdb) pa_nil hs) he) (by decide) (by decide) he hpl) fun σ H Q ⟨G, S, ρ, R, rp, er, z, k⟩ =>
    ⟨G, S, ρ, _, rp, er, z, fun x S1 v G1 H1 z1 s1 r1 => by
      cases x with
      | ref a => exact z1.elim
      | ro a => exact z1.elim
      | d y =>
        have z1 : (match isTy T y with | some b => R (.d (.bool b)) S1 | none => False) := z1
        split at z1
        · rename_i b eb
          obtain ⟨t, ty, kt⟩ := isTy_kit s1.rp r1 eb
          exact ⟨v, .ty T, t, .type T, b, rfl, .ty T, ty, kt, k _ S1 _ G1 H1 z1 s1 (.bl _)⟩
        · exact z1.elim⟩
end

/-! ### tests -/
def zIte (b : Bool) (A B : Prop) : Prop := (b = true → A) ∧ (b = false → B)
theorem zIte_if {b : Bool} {A B : Prop} (h : zIte b A B) : if b = true then A else B := by
  cases b with
  | true => exact h.1 rfl
  | false => exact h.2 rfl
def ztB (z : ZT) : ZTT := fun ρ S Q => z ρ S fun x S1 => match x with
  | .d (.bool b) => Q b S1
  | _ => False
def ztAnd (z w : ZTT) : ZTT := fun ρ S Q => z ρ S fun b S1 => zIte b (w ρ S1 Q) (Q false S1)
def ztOr (z w : ZTT) : ZTT := fun ρ S Q => z ρ S fun b S1 => zIte b (Q true S1) (w ρ S1 Q)
def ztNot (z : ZTT) : ZTT := fun ρ S Q => z ρ S fun b S1 => Q (!b) S1
theorem ztB_ok {K : PySem.W.Frag} {z : ZT} {σ : L2.St} {H : Hp} {Q : Bool → Hp → Prop} (h : ltt K (ztB z) σ H Q) : lt K z σ H fun x H1 => ∃ c, x = .bl c ∧ Q c H1 := by
  obtain ⟨G, S, ρ, R, rp, er, z, k⟩ := h
  refine ⟨G, S, ρ, _, rp, er, z, fun x S1 v G1 H1 z1 s1 r1 => ?_⟩
  split at z1
  · cases r1
    exact ⟨_, rfl, k _ S1 G1 H1 z1 s1⟩
  · exact z1.elim
section
variable {X : Cx} {a b e : Expr} {rest : List Expr} {z za zb : ZT} {w u : ZTT} {pos : Pos} {r : ZR2}
theorem zb_val (h : ZE X e z) (he : ∀ whole, isTrue e X.env whole = (do let v ← whole; standAt e.pos; holding [v] (truthy v)) := by intro _; rfl) : ZB X e (ztB z) := PT.weak (pt_val h he) fun _ _ _ => ztB_ok
theorem zb_cmp {op : CmpOp} (ho : OpR X (compareOp op) (lr2 X.K r)) (ha : ZE X a za) (hb : ZE X b zb) (hm : behindInMarks op b = false) : ZB X (.Compare a [op] [b] pos) (ztB (zOp r za zb)) := PT.weak (pt_cmpR ho ha hb hm) fun σ H Q h => by
  obtain ⟨G, S, ρ, R, rp, er, z, k⟩ := h
  refine tOp_lt ⟨G, S, ρ, _, rp, er, z, fun x S1 v G1 H1 z1 s1 r1 => ?_⟩
  split at z1
  · cases r1
    exact ⟨_, rfl, k _ S1 G1 H1 z1 s1⟩
  · exact z1.elim
abbrev ZW (X : Cx) (e : Expr) (z : ZTT) : Prop := PW X e (ltt X.K z)
theorem zw_and1 (h : ZB X a w) : ZW X (.BoolOp .And [a] pos) w := pw_and1 h
theorem zw_or1 (h : ZB X a w) : ZW X (.BoolOp .Or [a] pos) w := pw_or1 h
theorem zw_and (ha : ZB X a w) (hb : ZW X (.BoolOp .And (b :: rest) pos) u) : ZW X (.BoolOp .And (a :: b :: rest) pos) (ztAnd w u) := PW.weak (pw_and ha hb) fun σ H Q ⟨G, S, ρ, R, rp, er, z, k⟩ =>
  ⟨G, S, ρ, _, rp, er, z, fun c S1 G1 H1 z1 s1 => by
    cases c with
    | true => exact ⟨G1, S1, ρ, R, s1.rp, er.mono s1.gg, z1.1 rfl, fun b S2 G2 H2 q s2 => k b S2 G2 H2 q (s1.trans s2)⟩
    | false => exact k _ S1 G1 H1 (z1.2 rfl) s1⟩
theorem zw_or (ha : ZB X a w) (hb : ZW X (.BoolOp .Or (b :: rest) pos) u) : ZW X (.BoolOp .Or (a :: b :: rest) pos) (ztOr w u) := PW.weak (pw_or ha hb) fun σ H Q ⟨G, S, ρ, R, rp, er, z, k⟩ =>
  ⟨G, S, ρ, _, rp, er, z, fun c S1 G1 H1 z1 s1 => by
    cases c with
    | true => exact k _ S1 G1 H1 (z1.1 rfl) s1
    | false => exact ⟨G1, S1, ρ, R, s1.rp, er.mono s1.gg, z1.2 rfl, fun b S2 G2 H2 q s2 => k b S2 G2 H2 q (s1.trans s2)⟩⟩
theorem zb_not (ha : ZB X a w) : ZB X (.UnaryOp .Not a pos) (ztNot w) := PT.weak (pt_not ha) fun σ H Q ⟨G, S, ρ, R, rp, er, z, k⟩ =>
  ⟨G, S, ρ, _, rp, er, z, fun c S1 G1 H1 z1 s1 => k _ S1 G1 H1 z1 s1⟩
/-! .. as values -/
def zAndV (z w : ZT) : ZT := fun ρ S Q => z ρ S fun x S1 => match x with
  | .d (.bool b) => zIte b (w ρ S1 Q) (Q (.d (.bool false)) S1)
  | _ => False
def zOrV (z w : ZT) : ZT := fun ρ S Q => z ρ S fun x S1 => match x with
  | .d (.bool b) => zIte b (Q (.d (.bool true)) S1) (w ρ S1 Q)
  | _ => False
def zNotV (z : ZT) : ZT := fun ρ S Q => z ρ S fun x S1 => match x with
  | .d (.bool b) => Q (.d (.bool (!b))) S1
  | _ => False
def zIf (t : ZTT) (z w : ZT) : ZT := fun ρ S Q => t ρ S fun b S1 => zIte b (z ρ S1 Q) (w ρ S1 Q)
theorem ze_one {op} (h : ZE X a z) : ZE X (.BoolOp op [a] pos) z := pe_one h
theorem ze_and (ha : ZE X a za) (hb : ZE X (.BoolOp .And (b :: rest) pos) zb) : ZE X (.BoolOp .And (a :: b :: rest) pos) (zAndV za zb) := PE.weak (pe_and ha hb) fun σ H Q ⟨G, S, ρ, R, rp, er, z, k⟩ =>
  ⟨G, S, ρ, _, rp, er, z, fun x S1 v G1 H1 z1 s1 r1 => by
    split at z1
    · rename_i c
      cases r1
      refine ⟨_, rfl, ?_⟩
      cases c with
      | true => exact ⟨G1, S1, ρ, R, s1.rp, er.mono s1.gg, z1.1 rfl, fun d S2 v G2 H2 q s2 => k d S2 v G2 H2 q (s1.trans s2)⟩
      | false => exact k _ S1 _ G1 H1 (z1.2 rfl) s1 (.bl _)
    · exact z1.elim⟩
theorem ze_or (ha : ZE X a za) (hb : ZE X (.BoolOp .Or (b :: rest) pos) zb) : ZE X (.BoolOp .Or (a :: b :: rest) pos) (zOrV za zb) := PE.weak (pe_or ha hb) fun σ H Q ⟨G, S, ρ, R, rp, er, z, k⟩ =>
  ⟨G, S, ρ, _, rp, er, z, fun x S1 v G1 H1 z1 s1 r1 => by
    split at z1
    · rename_i c
      cases r1
      refine ⟨_, rfl, ?_⟩
      cases c with
      | true => exact k _ S1 _ G1 H1 (z1.1 rfl) s1 (.bl _)
      | false => exact ⟨G1, S1, ρ, R, s1.rp, er.mono s1.gg, z1.2 rfl, fun d S2 v G2 H2 q s2 => k d S2 v G2 H2 q (s1.trans s2)⟩
    · exact z1.elim⟩
theorem ze_not (ha : ZE X a za) : ZE X (.UnaryOp .Not a pos) (zNotV za) := PE.weak (pe_not ha) fun σ H Q ⟨G, S, ρ, R, rp, er, z, k⟩ =>
  ⟨G, S, ρ, _, rp, er, z, fun x S1 v G1 H1 z1 s1 r1 => by
    split at z1
    · cases r1
      exact ⟨_, rfl, k _ S1 _ G1 H1 z1 s1 (.bl _)⟩
    · exact z1.elim⟩
theorem ze_if {c : Expr} (hc : ZB X c w) (ha : ZE X a za) (hb : ZE X b zb) : ZE X (.IfExp c a b pos) (zIf w za zb) := PE.weak (pe_ifExp hc ha hb) fun σ H Q ⟨G, S, ρ, R, rp, er, z, k⟩ =>
  ⟨G, S, ρ, _, rp, er, z, fun c S1 G1 H1 z1 s1 => by
    cases c with
    | true => exact ⟨G1, S1, ρ, R, s1.rp, er.mono s1.gg, z1.1 rfl, fun d S2 v G2 H2 q s2 => k d S2 v G2 H2 q (s1.trans s2)⟩
    | false => exact ⟨G1, S1, ρ, R, s1.rp, er.mono s1.gg, z1.2 rfl, fun d S2 v G2 H2 q s2 => k d S2 v G2 H2 q (s1.trans s2)⟩⟩
end

/-! ### -i -/
def zNeg (z : ZT) : ZT := fun ρ S Q => z ρ S fun x S1 => match x with
  | .d (.int i) => Q (.d (.int (-i))) S1
  | _ => False
theorem ze_neg {X : Cx} {a : Expr} {z : ZT} {pos : Pos} (h : ZE X a z) : ZE X (.UnaryOp .USub a pos) (zNeg z) := PE.weak (pe_un un_neg h) fun σ H Q ⟨G, S, ρ, R, rp, er, z, k⟩ =>
  ⟨G, S, ρ, _, rp, er, z, fun x S1 v G1 H1 z1 s1 r1 => by
    split at z1
    · cases r1
      exact ⟨_, rfl, k _ S1 _ G1 H1 z1 s1 (.int _)⟩
    · exact z1.elim⟩

/-! ### + of lists, of tuples; slices -/
def zCat : ZR2 := fun x y S Q => match x, y with
  | .d (.list xs), .d (.list ys) => Nat.ble (xs.length + ys.length) 1000 = true ∧ Q (.d (.list (xs ++ ys))) S
  | _, _ => False
def zCatT : ZR2 := fun x y S Q => match x, y with
  | .d (.tuple xs), .d (.tuple ys) => Nat.ble (xs.length + ys.length) 1000 = true ∧ Q (.d (.tuple (xs ++ ys))) S
  | _, _ => False
def zTake (z w : ZT) : ZT := fun ρ S Q => z ρ S fun x S1 => w ρ S1 fun y S2 => match seen S2 x, y with
  | some (.list xs), .d (.int (.ofNat n)) => Q (.d (.list (xs.take n))) S2
  | _, _ => False
def zDrop (z w : ZT) : ZT := fun ρ S Q => z ρ S fun x S1 => w ρ S1 fun y S2 => match seen S2 x, y with
  | some (.list xs), .d (.int (.ofNat n)) => Q (.d (.list (xs.drop n))) S2
  | _, _ => False
def zRev (z : ZT) : ZT := fun ρ S Q => z ρ S fun x S1 => match seen S1 x with
  | some (.list xs) => Q (.d (.list xs.reverse)) S1
  | _ => False
theorem cut_take (vs : List V) (n : Nat) : cutV vs none (some (n : Int)) = vs.take n := by
  unfold cutV
  rw [HT.sIx_none, HT.sIx_nat, List.drop_zero, Nat.sub_zero]
  by_cases h : n ≤ vs.length
  · rw [Nat.min_eq_left h]
  · rw [Nat.min_eq_right (by omega), List.take_of_length_le (Nat.le_refl _), List.take_of_length_le (by omega)]
theorem cut_drop (vs : List V) (n : Nat) : cutV vs (some (n : Int)) none = vs.drop n := by
  unfold cutV
  rw [HT.sIx_none, HT.sIx_nat]
  by_cases h : n ≤ vs.length
  · rw [Nat.min_eq_left h, List.take_of_length_le (by rw [List.length_drop]; omega)]
  · rw [Nat.min_eq_right (by omega), List.drop_eq_nil_of_le (Nat.le_refl _), List.drop_eq_nil_of_le (by omega), List.take_nil]
section
variable {X : Cx} {a b : Expr} {za zb : ZT} {pos p2 : Pos}
theorem zop_cat : OpR X (binaryOp .Add) (lr2 X.K zCat) := OpR.lift op_cat fun x y H Q ⟨G, S, d, e, R, rp, rd, re, z, k⟩ => by
  unfold zCat at z
  split at z
  · obtain ⟨l, vs, rfl, h1, h2⟩ := ZpAll.list rd
    obtain ⟨m, us, rfl, h3, h4⟩ := ZpAll.list re
    refine ⟨l, m, vs, us, rfl, rfl, rp.gh _ _ h1, rp.gh _ _ h3, ?_, fun p hp => ?_⟩
    · rw [ZpAll.length h2, ZpAll.length h4]; exact small_of z.1
    · have s2 := Stp.new rp (o := .lst (vs ++ us)) hp
      exact k _ S _ _ _ z.2 s2 (.lst upd_same (ZpAll.append (ZpAll.mono s2.gg _ _ h2) (ZpAll.mono s2.gg _ _ h4)))
  · exact z.elim
theorem zop_catT : OpR X (binaryOp .Add) (lr2 X.K zCatT) := OpR.lift op_catA fun x y H Q ⟨G, S, d, e, R, rp, rd, re, z, k⟩ => by
  unfold zCatT at z
  split at z
  · rename_i xs ys
    obtain ⟨l, vs, rfl, h1, h2⟩ := ZpAll.tuple rd
    obtain ⟨m, us, rfl, h3, h4⟩ := ZpAll.tuple re
    refine ⟨l, m, vs, us, rfl, rfl, Evl.ex_t rp.gh h1, Evl.ex_t rp.gh h3, ?_, fun e => ?_, fun _ e => ?_, fun _ _ p hp => ?_⟩
    · rw [ZpAll.length h2, ZpAll.length h4]; exact small_of z.1
    · subst e
      cases h2
      exact k _ S _ G H z.2 (Stp.refl rp) (.tup h3 h4)
    · subst e
      cases h4
      have q := z.2
      rw [List.append_nil] at q
      exact k _ S _ G H q (Stp.refl rp) (.tup h1 h2)
    · have s2 := Stp.new rp (o := .tup (vs ++ us)) hp
      exact k _ S _ _ _ z.2 s2 (.tup (.inl (.inl upd_same)) (ZpAll.append (ZpAll.mono s2.gg _ _ h2) (ZpAll.mono s2.gg _ _ h4)))
  · exact z.elim
theorem ze_take (ha : ZE X a za) (hb : ZE X b zb) : ZE X (.Subscript a (.Slice none (some b) none p2) pos) (zTake za zb) := PE.weak (pe_slice sl_list ha po_none (po_some hb)) fun σ H Q ⟨G, S, ρ, R, rp, er, z, k⟩ =>
  ⟨G, S, ρ, _, rp, er, z, fun x S1 v G1 H1 z1 s1 r1 => ⟨G1, S1, ρ, _, s1.rp, er.mono s1.gg, z1, fun y S2 u G2 H2 z2 s2 r2 => by
    split at z2
    · rename_i xs n q
      obtain ⟨l, vs, rfl, h1, h2⟩ := dp_back s2.rp (r1.mono s2.gg) q
      cases r2
      refine ⟨_, rfl, l, vs, rfl, h1, fun p hp => ?_⟩
      have e := cut_take vs n
      rw [show cutV vs none (some (Int.ofNat n)) = vs.take n from e]
      have s3 := Stp.new s2.rp (o := .lst (vs.take n)) hp
      exact k _ S2 _ _ _ z2 ((s1.trans s2).trans s3) (.lst upd_same (ZpAll.take n (ZpAll.mono s3.gg _ _ h2)))
    · exact z2.elim⟩⟩
theorem ze_drop (ha : ZE X a za) (hb : ZE X b zb) : ZE X (.Subscript a (.Slice (some b) none none p2) pos) (zDrop za zb) := PE.weak (pe_slice sl_list ha (po_some hb) po_none) fun σ H Q ⟨G, S, ρ, R, rp, er, z, k⟩ =>
  ⟨G, S, ρ, _, rp, er, z, fun x S1 v G1 H1 z1 s1 r1 => ⟨G1, S1, ρ, _, s1.rp, er.mono s1.gg, z1, fun y S2 u G2 H2 z2 s2 r2 => by
    split at z2
    · rename_i xs n q
      obtain ⟨l, vs, rfl, h1, h2⟩ := dp_back s2.rp (r1.mono s2.gg) q
      cases r2
      refine ⟨_, rfl, l, vs, rfl, h1, fun p hp => ?_⟩
      have e := cut_drop vs n
      rw [show cutV vs (some (Int.ofNat n)) none = vs.drop n from e]
      have s3 := Stp.new s2.rp (o := .lst (vs.drop n)) hp
      exact k _ S2 _ _ _ z2 ((s1.trans s2).trans s3) (.lst upd_same (ZpAll.drop n (ZpAll.mono s3.gg _ _ h2)))
    · exact z2.elim⟩⟩
theorem ze_rev {k : Nat} {p1 p3 : Pos} (ha : ZE X a za) : ZE X (.Subscript a (.Slice none none (some (.UnaryOp .USub (.Constant (.int 1) k p1) p2)) p3) pos) (zRev za) := PE.weak (pe_revL ha) fun σ H Q ⟨G, S, ρ, R, rp, er, z, k⟩ =>
  ⟨G, S, ρ, _, rp, er, z, fun x S1 v G1 H1 z1 s1 r1 => by
    split at z1
    · rename_i xs q
      obtain ⟨l, vs, rfl, h1, h2⟩ := dp_back s1.rp r1 q
      refine ⟨l, vs, rfl, h1, fun p hp => ?_⟩
      have s3 := Stp.new s1.rp (o := .lst vs.reverse) hp
      exact k _ S1 _ _ _ z1 (s1.trans s3) (.lst upd_same (ZpAll.rev (ZpAll.mono s3.gg _ _ h2)))
    · exact z1.elim⟩
end
end Z
set_option Elab.async false
set_option linter.all false
set_option maxRecDepth 100000
set_option maxHeartbeats 1000000
namespace Z
open PySem PySem.Spec PyProof.Rows L2
/-! ### methods of lists that may change -/
abbrev ZM := D → List D → Sto → (D → Sto → Prop) → Prop
def lm (K : PySem.W.Frag) (z : ZM) : V → List V → Hp → VK → Prop := fun x vs H Q => ∃ G S d ds R, Rp K G S H ∧ DRep K G d x ∧ DRepAll K G ds vs ∧ z d ds S R ∧ ∀ d' S' v G' H', R d' S' → Stp K G S H G' S' H' → DRep K G' d' v → Q v H'
/-- o.m(..), o a list that may change -/
def zBM (m : ZM) (zo : ZT) (za : ZTA) : ZT := fun ρ S Q => zo ρ S fun x S1 => (∃ p xs, x = .ref p ∧ S1 p = some (.lst xs)) ∧ za ρ S1 fun ds S2 => m x ds S2 Q
def zBM0 (m : ZM) (zo : ZT) : ZT := fun ρ S Q => zo ρ S fun x S1 => (∃ p xs, x = .ref p ∧ S1 p = some (.lst xs)) ∧ m x [] S1 Q
def zAppend : ZM := fun x ds S Q => ∃ p xs y, x = .ref p ∧ ds = [.d y] ∧ S p = some (.lst xs) ∧ xs.length < 1000 ∧ Q (.d .none) (S.put p (.lst (xs ++ [y])))
def zInsert : ZM := fun x ds S Q => ∃ p xs n y, x = .ref p ∧ ds = [.d (.int (.ofNat n)), .d y] ∧ S p = some (.lst xs) ∧ xs.length < 1000 ∧ n < 1000 ∧ Q (.d .none) (S.put p (.lst (xs.take n ++ [y] ++ xs.drop n)))
def zExtend : ZM := fun x ds S Q => ∃ p xs ys, x = .ref p ∧ ds = [.d (.list ys)] ∧ S p = some (.lst xs) ∧ xs.length + ys.length ≤ 1000 ∧ Q (.d .none) (S.put p (.lst (xs ++ ys)))
def zPop : ZM := fun x ds S Q => ∃ p xs y, x = .ref p ∧ ds = [] ∧ S p = some (.lst (xs ++ [y])) ∧ Q (.d y) (S.put p (.lst xs))
theorem MtR.lift {X : Cx} {id : String} {r : V → List V → Hp → VK → Prop} {z : ZM} (h : MtR X id r) (g : ∀ x vs H Q, lm X.K z x vs H Q → r x vs H Q) : MtR X id (lm X.K z) := fun pins s σ H x xs v us Q I rx rv q => h pins s σ H x xs v us Q I rx rv (g x xs H Q q)
theorem small_lt {n : Nat} (h : n < 1000) : n < sizeLine := Nat.lt_trans h (by decide)
theorem small_le {n : Nat} (h : n ≤ 1000) : n ≤ sizeLine := Nat.le_trans h (by decide)
section
variable {X : Cx}
theorem zm_append : MtR X "list.append" (lm X.K zAppend) := MtR.lift mt_append fun x vs H Q ⟨G, S, d, ds, R, rp, rx, rd, ⟨p, xs, y, e1, e2, hp, hl, z⟩, k⟩ => by
  subst e1 e2
  cases rx
  obtain ⟨v, rfl, rv⟩ := one_of rd
  obtain ⟨_, ws, h1, h2⟩ := rp.cell p _ hp
  refine ⟨p, ws, v, rfl, rfl, h1, by rw [ZpAll.length h2]; exact small_lt hl, ?_⟩
  exact k _ _ _ _ _ z (Stp.write rp hp ⟨_, upd_same, ZpAll.append h2 (.cons rv .nil)⟩) .non
theorem zm_insert : MtR X "list.insert" (lm X.K zInsert) := MtR.lift mt_insert fun x vs H Q ⟨G, S, d, ds, R, rp, rx, rd, ⟨p, xs, n, y, e1, e2, hp, hl, hn, z⟩, k⟩ => by
  subst e1 e2
  cases rx
  obtain ⟨v, u, rfl, rv, ru⟩ := two_of rd
  obtain ⟨_, ws, h1, h2⟩ := rp.cell p _ hp
  cases rv
  refine ⟨p, ws, Int.ofNat n, u, rfl, rfl, h1, by rw [ZpAll.length h2]; exact small_lt hl, Int.natCast_nonneg n, ?_, ?_⟩
  · have : (Int.ofNat n) < 1000 := by show (n : Int) < 1000; omega
    omega
  · show Q .non (upd H p (.lst (ws.take n ++ [u] ++ ws.drop n)))
    exact k _ _ _ _ _ z (Stp.write rp hp ⟨_, upd_same, ZpAll.append (ZpAll.append (ZpAll.take n h2) (.cons ru .nil)) (ZpAll.drop n h2)⟩) .non
theorem zm_extend : MtR X "list.extend" (lm X.K zExtend) := MtR.lift mt_extend fun x vs H Q ⟨G, S, d, ds, R, rp, rx, rd, ⟨p, xs, ys, e1, e2, hp, hl, z⟩, k⟩ => by
  subst e1 e2
  cases rx
  obtain ⟨v, rfl, rv⟩ := one_of rd
  obtain ⟨_, ws, h1, h2⟩ := rp.cell p _ hp
  obtain ⟨b, us, rfl, h3, h4⟩ := ZpAll.list rv
  refine ⟨p, b, ws, us, rfl, rfl, h1, rp.gh _ _ h3, by rw [ZpAll.length h2, ZpAll.length h4]; exact small_le hl, ?_⟩
  exact k _ _ _ _ _ z (Stp.write rp hp ⟨_, upd_same, ZpAll.append h2 h4⟩) .non
theorem zp_last {K : PySem.W.Frag} {G : Hp} {y : PyData} : ∀ {xs : List PyData} {vs : List V}, ZpAll K G vs (xs ++ [y]) → ∃ us v, vs = us ++ [v] ∧ ZpAll K G us xs ∧ Zp K G v y
  | [], _, h => by
    cases h with
    | cons a t => cases t; exact ⟨[], _, rfl, .nil, a⟩
  | x :: xs, _, h => by
    cases h with
    | cons a t =>
      obtain ⟨us, v, e, h1, h2⟩ := zp_last (xs := xs) t
      subst e
      exact ⟨_ :: us, v, rfl, .cons a h1, h2⟩
theorem zm_pop : MtR X "list.pop" (lm X.K zPop) := MtR.lift mt_pop fun x vs H Q ⟨G, S, d, ds, R, rp, rx, rd, ⟨p, xs, y, e1, e2, hp, z⟩, k⟩ => by
  subst e1 e2
  cases rx
  cases rd
  obtain ⟨_, ws, h1, h2⟩ := rp.cell p _ hp
  obtain ⟨us, v, e, h3, h4⟩ := zp_last h2
  subst e
  refine ⟨p, us ++ [v], v, rfl, rfl, h1, by simp, ?_⟩
  rw [List.dropLast_concat]
  exact k _ _ _ _ _ z (Stp.write rp hp ⟨_, upd_same, h3⟩) h4
variable {o e : Expr} {es : List Expr} {zo : ZT} {w : ZTA} {name : Str} {apos cpos : Pos} {id : String} {m : ZM}
theorem ze_bm (pa : PlainAttrs "list") (slot : Slot "list" name id) (hty : typeOf (.builtin id) = pure (.type "method_descriptor")) (hm : MtR X id (lm X.K m)) (ho : ZE X o zo) (ha : ZA X (e :: es) w)
    (hbase : attributeBase o name X.env (eval o X.env) = eval o X.env := by rfl)
    (hfew : ((backTo cpos (starEach (e :: es) X.env)).all (fun x => !x.1) && (backToKw cpos (keywordEach [] X.env)).all (fun x => x.1.isSome)
      && decide ((e :: es).length + ([] : List Keyword).length + (if ([] : List Keyword).isEmpty then 0 else 1) < 30)) = true := by rfl)
    (hline : (apos.endLine == cpos.line) = true := by rfl) (hs : starEach (e :: es) X.env = (false, eval e X.env) :: starEach es X.env := by rfl) (hplain : (backTo cpos (starEach es X.env)).any (·.1) = false := by rfl) :
    ZE X (.Call (.Attribute o name apos) (e :: es) [] cpos) (zBM m zo w) := PE.weak (pe_bm pa slot hty hm ho ha hbase hfew hline hs hplain) fun σ H Q ⟨G, S, ρ, R, rp, er, z, k⟩ =>
  ⟨G, S, ρ, _, rp, er, z, fun x S1 v G1 H1 ⟨⟨p, xs, ex, hp⟩, z1⟩ s1 r1 => by
    subst ex
    cases r1
    obtain ⟨_, ws, h1, h2⟩ := s1.rp.cell p _ hp
    refine ⟨.inl ⟨rfl, ws, .inl (.inl h1)⟩, G1, S1, ρ, _, s1.rp, er.mono s1.gg, z1, fun ds S2 vs G2 H2 z2 s2 r2 => ?_⟩
    exact ⟨G2, S2, .ref p, ds, R, s2.rp, rfl, r2, z2, fun d' S' u G' H' q s3 r3 => k d' S' u G' H' q ((s1.trans s2).trans s3) r3⟩⟩
theorem ze_bm0 (pa : PlainAttrs "list") (slot : Slot "list" name id) (hty : typeOf (.builtin id) = pure (.type "method_descriptor")) (hm : MtR X id (lm X.K m)) (ho : ZE X o zo)
    (hbase : attributeBase o name X.env (eval o X.env) = eval o X.env := by rfl) (hline : (apos.endLine == cpos.line) = true := by rfl) : ZE X (.Call (.Attribute o name apos) [] [] cpos) (zBM0 m zo) := PE.weak (pe_bm0 pa slot hty hm ho hbase hline) fun σ H Q ⟨G, S, ρ, R, rp, er, z, k⟩ =>
  ⟨G, S, ρ, _, rp, er, z, fun x S1 v G1 H1 ⟨⟨p, xs, ex, hp⟩, z1⟩ s1 r1 => by
    subst ex
    cases r1
    obtain ⟨_, ws, h1, h2⟩ := s1.rp.cell p _ hp
    exact ⟨.inl ⟨rfl, ws, .inl (.inl h1)⟩, G1, S1, .ref p, [], R, s1.rp, rfl, .nil, z1, fun d' S' u G' H' q s3 r3 => k d' S' u G' H' q (s1.trans s3) r3⟩⟩
end

/-! ### statements -/
structure ZEnds where
  nx : Ro → Sto → Prop
  rt : D → Sto → Prop
  bk : Ro → Sto → Prop := fun _ _ => False
  ct : Ro → Sto → Prop := fun _ _ => False
abbrev ZS := ZEnds → Ro → Sto → Prop
structure NdRep (K : PySem.W.Frag) (G : Hp) (S : Sto) (H : Hp) (E : ZEnds) (D : Ends) : Prop where
  nx : ∀ ρ' S' σ' G' H', E.nx ρ' S' → Stp K G S H G' S' H' → ERep K G' ρ' σ' → D.nx σ' H'
  rt : ∀ d S' v G' H', E.rt d S' → Stp K G S H G' S' H' → DRep K G' d v → D.rt v H'
  bk : ∀ ρ' S' σ' G' H', E.bk ρ' S' → Stp K G S H G' S' H' → ERep K G' ρ' σ' → D.bk σ' H'
  ct : ∀ ρ' S' σ' G' H', E.ct ρ' S' → Stp K G S H G' S' H' → ERep K G' ρ' σ' → D.ct σ' H'
theorem NdRep.mono {K : PySem.W.Frag} {G G1 H H1 : Hp} {S S1 : Sto} {E : ZEnds} {D : Ends} (s : Stp K G S H G1 S1 H1) (n : NdRep K G S H E D) : NdRep K G1 S1 H1 E D :=
  ⟨fun ρ' S' σ' G' H' q t => n.nx ρ' S' σ' G' H' q (s.trans t), fun d S' v G' H' q t => n.rt d S' v G' H' q (s.trans t), fun ρ' S' σ' G' H' q t => n.bk ρ' S' σ' G' H' q (s.trans t), fun ρ' S' σ' G' H' q t => n.ct ρ' S' σ' G' H' q (s.trans t)⟩
def ls (K : PySem.W.Frag) (z : ZS) : TS := fun D σ H => ∃ G S ρ E, Rp K G S H ∧ ERep K G ρ σ ∧ z E ρ S ∧ NdRep K G S H E D
abbrev ZSt (X : Cx) (s : Stmt) (z : ZS) : Prop := PS X s (ls X.K z)
abbrev ZSs (X : Cx) (s : List Stmt) (z : ZS) : Prop := PSs X s (ls X.K z)
def zNext : ZS := fun E ρ S => E.nx ρ S
def zSeq (z w : ZS) : ZS := fun E ρ S => z { E with nx := w E } ρ S
def zRet (z : ZT) : ZS := fun E ρ S => z ρ S E.rt
def zRetN : ZS := fun E _ S => E.rt (.d .none) S
def zDrop_ (z : ZT) : ZS := fun E ρ S => z ρ S fun _ S1 => E.nx ρ S1
def zAsg (i : Nat) (z : ZT) : ZS := fun E ρ S => z ρ S fun x S1 => E.nx (ρ.set i (some x)) S1
def zIfS (t : ZTT) (z w : ZS) : ZS := fun E ρ S => t ρ S fun b S1 => zIte b (z E ρ S1) (w E ρ S1)
def zNever : ZS := fun _ _ _ => False
section
variable {X : Cx} {st : Stmt} {rest : List Stmt} {z w : ZS} {e : Expr} {ze : ZT} {pos : Pos}
theorem zss_nil : ZSs X [] zNext := PSs.weak pss_nil fun D σ H ⟨G, S, ρ, E, rp, er, z, n⟩ => n.nx ρ S σ G H z (Stp.refl rp) er
theorem seq_ok {K : PySem.W.Frag} {z w : ZS} {D : Ends} {σ : L2.St} {H : Hp} (h : ls K (zSeq z w) D σ H) : tSeq (ls K z) (ls K w) D σ H := by
  obtain ⟨G, S, ρ, E, rp, er, z, n⟩ := h
  exact ⟨G, S, ρ, _, rp, er, z, ⟨fun ρ' S' σ' G' H' q s1 e1 => ⟨G', S', ρ', E, s1.rp, e1, q, n.mono s1⟩, n.rt, n.bk, n.ct⟩⟩
theorem zss_cons (h1 : ZSt X st z) (h2 : ZSs X rest w) : ZSs X (st :: rest) (zSeq z w) := PSs.weak (pss_cons h1 h2) fun _ _ _ => seq_ok
theorem zss_one (h1 : ZSt X st z) : ZSs X [st] z := pss_one h1
theorem zs_pass : ZSt X (.Pass pos) zNext := PS.weak ps_pass fun D σ H ⟨G, S, ρ, E, rp, er, z, n⟩ => n.nx ρ S σ G H z (Stp.refl rp) er
theorem zs_ret (h : ZE X e ze) : ZSt X (.Return (some e) pos) (zRet ze) := PS.weak (ps_ret h) fun D σ H ⟨G, S, ρ, E, rp, er, z, n⟩ => ⟨G, S, ρ, _, rp, er, z, n.rt⟩
theorem zs_retN : ZSt X (.Return none pos) zRetN := PS.weak ps_retN fun D σ H ⟨G, S, ρ, E, rp, er, z, n⟩ => n.rt _ S _ G H z (Stp.refl rp) .non
theorem zs_expr (h : ZE X e ze) (hs : swapsWith e none pos.line X.env = pure false := by rfl) : ZSt X (.Expr e pos) (zDrop_ ze) := PS.weak (ps_expr h hs) fun D σ H ⟨G, S, ρ, E, rp, er, z, n⟩ =>
  ⟨G, S, ρ, _, rp, er, z, fun d S1 v G1 H1 q s1 r1 => n.nx ρ S1 σ G1 H1 q s1 (er.mono s1.gg)⟩
theorem asg_ok {K : PySem.W.Frag} {i : Nat} {ze : ZT} {D : Ends} {σ : L2.St} {H : Hp} (h : ls K (zAsg i ze) D σ H) : tAsg (lt K ze) (gName i) D σ H := by
  obtain ⟨G, S, ρ, E, rp, er, z, n⟩ := h
  exact ⟨G, S, ρ, _, rp, er, z, fun d S1 v G1 H1 q s1 r1 => n.nx _ S1 _ G1 H1 q s1 ((er.mono s1.gg).set i r1)⟩
theorem zs_set {i : Nat} {x : Str} {pos' : Pos} (hN : X.N.Nodup) (hi : X.N[i]? = some x) (hx : Loc X.env.scope x) (he : ZE X e ze) (hs : swapsWith e (some (.Name x pos')) pos.line X.env = pure false := by rfl) (hf : X.fn x = true ∨ X.env.scope.names.lookup x = some .local := by first | exact .inl rfl | exact .inr rfl | assumption) :
    ZSt X (.Assign [.Name x pos'] e pos) (zAsg i ze) := PS.weak (ps_set hN hi hx he hs hf) fun _ _ _ => asg_ok
theorem zs_if {c : Expr} {a b : List Stmt} {t : ZTT} (hc : ZB X c t) (ha : ZSs X a z) (hb : ZSs X b w) : ZSt X (.If c a b pos) (zIfS t z w) := PS.weak (ps_if hc ha hb) fun D σ H ⟨G, S, ρ, E, rp, er, z, n⟩ =>
  ⟨G, S, ρ, _, rp, er, z, fun c S1 G1 H1 z1 s1 => by
    cases c with
    | true => exact ⟨G1, S1, ρ, E, s1.rp, er.mono s1.gg, z1.1 rfl, n.mono s1⟩
    | false => exact ⟨G1, S1, ρ, E, s1.rp, er.mono s1.gg, z1.2 rfl, n.mono s1⟩⟩
theorem zs_never : ZSt X st zNever := PS.weak ps_never fun D σ H ⟨G, S, ρ, E, rp, er, z, n⟩ => z
theorem zss_never : ZSs X rest zNever := PSs.weak pss_never fun D σ H ⟨G, S, ρ, E, rp, er, z, n⟩ => z
end

/-! ### targets -/
abbrev ZG := D → Ro → Sto → (Ro → Sto → Prop) → Prop
abbrev ZGs := List PyData → Ro → Sto → (Ro → Sto → Prop) → Prop
def lg (K : PySem.W.Frag) (z : ZG) : TG := fun v σ H Q => ∃ G S ρ d R, Rp K G S H ∧ ERep K G ρ σ ∧ DRep K G d v ∧ z d ρ S R ∧ ∀ ρ' S' σ' G' H', R ρ' S' → Stp K G S H G' S' H' → ERep K G' ρ' σ' → Q σ' H'
def lgs (K : PySem.W.Frag) (z : ZGs) : TGs := fun vs σ H Q => ∃ G S ρ ds R, Rp K G S H ∧ ERep K G ρ σ ∧ ZpAll K G vs ds ∧ z ds ρ S R ∧ ∀ ρ' S' σ' G' H', R ρ' S' → Stp K G S H G' S' H' → ERep K G' ρ' σ' → Q σ' H'
def zgName (i : Nat) : ZG := fun d ρ S Q => Q (ρ.set i (some d)) S
def zgNil : ZGs := fun ds ρ S Q => match ds with
  | [] => Q ρ S
  | _ => False
def zgCons (g : ZG) (gs : ZGs) : ZGs := fun ds ρ S Q => match ds with
  | x :: r => g (.d x) ρ S fun ρ1 S1 => gs r ρ1 S1 Q
  | [] => False
def zgTup (n : Nat) (gs : ZGs) : ZG := fun d ρ S Q => match d with
  | .d (.tuple ds) => Nat.beq ds.length n = true ∧ gs ds ρ S Q
  | _ => False
def zgUnl (n : Nat) (gs : ZGs) : ZG := fun d ρ S Q => match d with
  | .d (.list ds) => Nat.beq ds.length n = true ∧ gs ds ρ S Q
  | _ => False
def zAsgG (z : ZT) (g : ZG) : ZS := fun E ρ S => z ρ S fun x S1 => g x ρ S1 E.nx
theorem PG.weak {X : Cx} {e : Expr} {t t' : TG} (h : PG X e t) (w : ∀ v σ H Q, t' v σ H Q → t v σ H Q) : PG X e t' := ⟨fun pins s σ H v u Q I r q => h.run pins s σ H v u Q I r (w v σ H Q q)⟩
theorem PGs.weak {X : Cx} {e : List Expr} {t t' : TGs} (h : PGs X e t) (w : ∀ v σ H Q, t' v σ H Q → t v σ H Q) : PGs X e t' := ⟨fun pins s σ H v u Q I r q => h.run pins s σ H v u Q I r (w v σ H Q q)⟩
section
variable {X : Cx} {pos : Pos} {e : Expr} {es : List Expr} {g : ZG} {gs : ZGs}
theorem zg_name {i : Nat} {x : Str} (hN : X.N.Nodup) (hi : X.N[i]? = some x) (hx : Loc X.env.scope x) (hf : X.fn x = true ∨ X.env.scope.names.lookup x = some .local := by first | exact .inl rfl | exact .inr rfl | assumption) : PG X (.Name x pos) (lg X.K (zgName i)) :=
  PG.weak (pg_name hN hi hx hf) fun v σ H Q ⟨G, S, ρ, d, R, rp, er, rd, z, k⟩ => k _ S _ G H z (Stp.refl rp) (er.set i rd)
theorem zgs_nil : PGs X [] (lgs X.K zgNil) := PGs.weak pgs_nil fun v σ H Q ⟨G, S, ρ, ds, R, rp, er, rd, z, k⟩ => by
  unfold zgNil at z
  split at z
  · cases rd
    exact ⟨rfl, k _ S _ G H z (Stp.refl rp) er⟩
  · exact z.elim
theorem zgs_cons (h1 : PG X e (lg X.K g)) (h2 : PGs X es (lgs X.K gs)) (hs : (assignEach (e :: es) X.env).map (·.2) = assign e X.env :: (assignEach es X.env).map (·.2) := by rfl) : PGs X (e :: es) (lgs X.K (zgCons g gs)) :=
  PGs.weak (pgs_cons h1 h2 hs) fun v σ H Q ⟨G, S, ρ, ds, R, rp, er, rd, z, k⟩ => by
    unfold zgCons at z
    split at z
    · rename_i x r
      cases rd with
      | cons a t =>
        exact ⟨_, _, rfl, G, S, ρ, .d x, _, rp, er, a, z, fun ρ1 S1 σ1 G1 H1 z1 s1 e1 => ⟨G1, S1, ρ1, r, R, s1.rp, e1, ZpAll.mono s1.gg _ _ t, z1, fun ρ' S' σ' G' H' q s2 e2 => k ρ' S' σ' G' H' q (s1.trans s2) e2⟩⟩
    · exact z.elim
theorem zg_tup {k n : Nat} (hc : X.calm = true) (h : PGs X es (lgs X.K gs)) (hn : (assignEach es X.env).length = n := by rfl) (hst : (assignEach es X.env).findIdx? (·.1) = none := by rfl) : PG X (.Tuple es k pos) (lg X.K (zgTup n gs)) :=
  PG.weak (pg_tup hc h hn hst) fun v σ H Q ⟨G, S, ρ, d, R, rp, er, rd, z, kk⟩ => by
    unfold zgTup at z
    split at z
    · obtain ⟨a, vs, rfl, h1, h2⟩ := ZpAll.tuple rd
      exact ⟨a, vs, rfl, Evl.ex_t rp.gh h1, by rw [ZpAll.length h2]; exact Nat.eq_of_beq_eq_true z.1, G, S, ρ, _, R, rp, er, h2, z.2, kk⟩
    · exact z.elim
theorem zg_unl {k n : Nat} (hc : X.calm = true) (h : PGs X es (lgs X.K gs)) (hn : (assignEach es X.env).length = n := by rfl) (hst : (assignEach es X.env).findIdx? (·.1) = none := by rfl) : PG X (.Tuple es k pos) (lg X.K (zgUnl n gs)) :=
  PG.weak (pg_unl hc h hn hst) fun v σ H Q ⟨G, S, ρ, d, R, rp, er, rd, z, kk⟩ => by
    unfold zgUnl at z
    split at z
    · obtain ⟨a, vs, rfl, h1, h2⟩ := ZpAll.list rd
      exact ⟨a, vs, rfl, .inl (.inl (rp.gh _ _ h1)), by rw [ZpAll.length h2]; exact Nat.eq_of_beq_eq_true z.1, G, S, ρ, _, R, rp, er, h2, z.2, kk⟩
    · exact z.elim
theorem zs_asg {tg : Expr} {ze : ZT} (he : ZE X e ze) (hg : PG X tg (lg X.K g)) (hs : swapsWithSole [tg] e pos.line X.env = pure false := by rfl) (hw : swappedStores [tg] e X.env = pure none := by rfl)
    (h1 : (assignEach [tg] X.env).map (·.2) = [assign tg X.env] := by rfl) : ZSt X (.Assign [tg] e pos) (zAsgG ze g) := PS.weak (ps_asg he hg hs hw h1) fun D σ H ⟨G, S, ρ, E, rp, er, z, n⟩ =>
  ⟨G, S, ρ, _, rp, er, z, fun d S1 v G1 H1 z1 s1 r1 => ⟨G1, S1, ρ, d, _, s1.rp, er.mono s1.gg, r1, z1, fun ρ' S' σ' G' H' q s2 e2 => n.nx ρ' S' σ' G' H' q (s1.trans s2) e2⟩⟩
/-- a, b = e1, e2, plain local names -/
def zPar (i j : Nat) (za : ZTA) : ZS := fun E ρ S => za ρ S fun ds S1 => match ds with
  | [x, y] => E.nx ((ρ.set i (some x)).set j (some y)) S1
  | _ => False
theorem zs_par {i j : Nat} {x y : Str} {a b : Expr} {za : ZTA} {px py pt : Pos} {kt k2 pt2} (hc : X.calm = true) (hN : X.N.Nodup) (hi : X.N[i]? = some x) (hj : X.N[j]? = some y) (hij : i ≠ j)
    (hx : X.env.scope.names.lookup x = some .local) (hy : X.env.scope.names.lookup y = some .local) (ha : ZA X [a, b] za)
    (hw : swappedStores [.Tuple [.Name x px, .Name y py] kt pt] (.Tuple [a, b] k2 pt2) X.env = pure (some [x, y]) := by rfl)
    (hs : swapsWithSole [.Tuple [.Name x px, .Name y py] kt pt] (.Tuple [a, b] k2 pt2) pos.line X.env = pure false := by rfl) :
    ZSt X (.Assign [.Tuple [.Name x px, .Name y py] kt pt] (.Tuple [a, b] k2 pt2) pos) (zPar i j za) := PS.weak (ps_par hc hN hi hj hij hx hy ha hw hs) fun D σ H ⟨G, S, ρ, E, rp, er, z, n⟩ =>
  ⟨G, S, ρ, _, rp, er, z, fun ds S1 vs G1 H1 z1 s1 r1 => by
    split at z1
    · obtain ⟨v, u, rfl, rv, ru⟩ := two_of r1
      exact ⟨v, u, rfl, n.nx _ S1 _ G1 H1 z1 s1 (((er.mono s1.gg).set i rv).set j ru)⟩
    · exact z1.elim⟩
end

/-! ### the body of a def -/
def zstart (N : List Str) (ds : List D) : Ro := ds.map some ++ List.replicate (N.length - ds.length) none
theorem start_rep {K : PySem.W.Frag} {G : Hp} {N : List Str} {ds : List D} {vs : List V} (r : DRepAll K G ds vs) : ERep K G (zstart N ds) (L2.start N vs) := by
  have hl : ds.length = vs.length := Paired.length r
  have get : ∀ {ds : List D} {vs : List V} {i : Nat} {d : D}, DRepAll K G ds vs → ds[i]? = some d → ∃ v, vs[i]? = some v ∧ DRep K G d v := by
    intro ds
    induction ds with
    | nil => intro vs i d r e; simp at e
    | cons x xs ih =>
      intro vs i d r e
      cases r with
      | cons a t =>
        cases i with
        | zero => simp at e; subst e; exact ⟨_, rfl, a⟩
        | succ i =>
          obtain ⟨v, h1, h2⟩ := ih t (by simpa using e)
          exact ⟨v, by simpa using h1, h2⟩
  refine ⟨by unfold zstart L2.start; simp [hl], fun i d e => ?_⟩
  unfold zstart at e
  unfold L2.start
  by_cases c : i < ds.length
  · rw [List.getElem?_append_left (by simpa using c), List.getElem?_map] at e
    cases q : ds[i]? with
    | none => rw [q] at e; cases e
    | some x =>
      rw [q] at e
      cases e
      obtain ⟨v, h1, h2⟩ := get r q
      exact ⟨v, by rw [List.getElem?_append_left (by simp; omega), List.getElem?_map, h1]; rfl, h2⟩
  · rw [List.getElem?_append_right (by simpa using c), List.getElem?_replicate] at e
    split at e <;> cases e
theorem zfn {P : Program} {w : World} {K : PySem.W.Frag} {mg : Str → Option Value} {base : Heap} {x qual : Str} {params : Arguments} {body : List Stmt} {scope : Scope} {f : Addr} {fd : FuncData} {N ps : List Str} {k : Nat} {zp : ZC}
    (F : FunD K x qual params body scope [] [] f fd) (Sc : FnScope N ps scope) (len : ∀ ds S Q, zp ds S Q → ds.length = ps.length)
    (hbody : ∀ (cdv : Value) (A : Around) (outer : List Env) (s : Shared) (H : Hp), Room k (A.deeper (envOfC qual scope s.heap.objs.size f cdv)) →
      ∃ z, ZSs (cxOf CX0 P w K mg base N qual scope f cdv A outer s H E0).nox body z ∧ ∀ ds S Q, zp ds S Q → z { nx := fun _ S' => Q (.d .none) S', rt := Q } (zstart N ds) S) : FnOk P w K mg base CX0 (k + 1) f fd ps (lp K zp) := by
  refine FunD.ok F Sc (fun vs H Q E ⟨G, S, ds, R, rp, rd, z, _⟩ => by rw [← Paired.length rd]; exact len ds S R z) fun cdv A outer s H vs Q E hr ⟨G, S, ds, R, rp, rd, z, k⟩ => ?_
  obtain ⟨t, h1, h2⟩ := hbody cdv A outer s H hr
  refine ⟨ls K t, ?_, G, S, zstart N ds, _, rp, start_rep rd, h2 ds S R z, ⟨fun ρ' S' σ' G' H' q s1 _ => k _ S' _ G' H' q s1 .non, fun d S' v G' H' q s1 r => k d S' v G' H' q s1 r, fun _ _ _ _ _ q => q.elim, fun _ _ _ _ _ q => q.elim⟩⟩
  have h3 : PSs (cxOf CX0 P w K mg base N qual scope f cdv A outer s H E).nox body (ls K t) := h1
  exact PSs.nox h3
end Z
set_option Elab.async false
set_option linter.all false
set_option maxRecDepth 100000
set_option maxHeartbeats 1000000
namespace Z
open PySem PySem.Spec PyProof.Rows L2
/-! ### what is walked -/
def YZ (K : PySem.W.Frag) (G : Hp) (ds : List PyData) : Nat → Hp → V → Hp → Prop := fun i H x H' => ∀ d, ds[i]? = some d →
  (H' = H ∧ Zp K G x d) ∨ ∃ T vs es, x = .ref T ∧ H T = none ∧ H' = upd H T (.tup vs) ∧ d = .tuple es ∧ ZpAll K G vs es
def Kp (S : Sto) (H0 H : Hp) : Prop := ∀ a o, H0 a = some o → S a = none → H a = some o
abbrev WalkZ (K : PySem.W.Frag) (J : It) (G : Hp) (S : Sto) (H0 : Hp) (ds : List PyData) : Prop := Walk J ds.length (fun H => Same G H ∧ Kp S H0 H) (YZ K G ds)
abbrev ZI := Ro → Sto → (List PyData → Sto → Prop) → Prop
def li (K : PySem.W.Frag) (z : ZI) : TI := fun σ H R => ∃ G S ρ Rz, Rp K G S H ∧ ERep K G ρ σ ∧ z ρ S Rz ∧ ∀ ds S' G' H' J, Rz ds S' → Stp K G S H G' S' H' → WalkZ K J G' S' H' ds → R J H'
theorem PI.weak {X : Cx} {tg e : Expr} {t t' : TI} (h : PI X tg e t) (w : ∀ σ H R, t' σ H R → t σ H R) : PI X tg e t' := ⟨fun pins s σ H R I q => h.run pins s σ H R I (w σ H R q)⟩
theorem yz_stp {K : PySem.W.Frag} {G G1 H H' : Hp} {S1 : Sto} {ds : List PyData} {i : Nat} {x : V} {d : PyData} (rp : Rp K G1 S1 H) (gg : Same G G1) (y : YZ K G ds i H x H') (e : ds[i]? = some d) :
    ∃ G2, Stp K G1 S1 H G2 S1 H' ∧ Zp K G2 x d ∧ ∀ D, H D ≠ none → G1 D = none → G2 D = none := by
  rcases y d e with ⟨rfl, h⟩ | ⟨T, vs, es, rfl, hT, rfl, rfl, h⟩
  · exact ⟨G1, Stp.refl rp, Zp.mono gg _ _ h, fun D _ q => q⟩
  · have s := Stp.new rp (o := .tup vs) hT
    refine ⟨_, s, .tup (.inl (.inl upd_same)) (ZpAll.mono (gg.trans s.gg) _ _ h), fun D h1 h2 => ?_⟩
    rw [upd_ne fun q => h1 (by rw [q]; exact hT)]
    exact h2
/-- a list, a tuple -/
def ziL (z : ZT) : ZI := fun ρ S Q => z ρ S fun x S1 => match x with
  | .d (.list xs) => Q xs S1
  | _ => False
def ziT (z : ZT) : ZI := fun ρ S Q => z ρ S fun x S1 => match x with
  | .d (.tuple xs) => Q xs S1
  | _ => False
def ziEnum (za : ZTA) : ZI := fun ρ S Q => za ρ S fun ds S1 => match ds with
  | [.d (.list xs)] => Q (xs.zipIdx.map fun p => .tuple [.int p.2, p.1]) S1
  | _ => False
def ziZip (za : ZTA) : ZI := fun ρ S Q => za ρ S fun ds S1 => match ds with
  | [.d (.list xs), .d (.list ys)] => Q ((xs.zip ys).map fun p => .tuple [p.1, p.2]) S1
  | _ => False
def ziZipT (za : ZTA) : ZI := fun ρ S Q => za ρ S fun ds S1 => match ds with
  | [.d (.tuple xs), .d (.tuple ys)] => Q ((xs.zip ys).map fun p => .tuple [p.1, p.2]) S1
  | _ => False
def ziRange (za : ZTA) : ZI := fun ρ S Q => za ρ S fun ds S1 => match ds with
  | [.d (.int (.ofNat n))] => n ≤ 100000 ∧ Q ((List.range n).map fun (k : Nat) => PyData.int k) S1
  | _ => False
section
variable {X : Cx} {tg e e2 : Expr} {z : ZT} {w : ZTA} {pos p tpos : Pos} {elts : List Expr} {kk : Nat}
theorem zi_list (h : ZE X e z) : PI X tg e (li X.K (ziL z)) := PI.weak (pi_list h) fun σ H R ⟨G, S, ρ, Rz, rp, er, z, k⟩ =>
  ⟨G, S, ρ, _, rp, er, z, fun x S1 v G1 H1 z1 s1 r1 => by
    split at z1
    · obtain ⟨a, vs, rfl, h1, h2⟩ := ZpAll.list r1
      refine ⟨a, rfl, ⟨vs, .inl (.inl (s1.rp.gh _ _ h1))⟩, k _ S1 G1 H1 _ z1 s1 ?_⟩
      unfold WalkZ
      rw [← ZpAll.length h2]
      refine walk_list.mono (fun H q => .inl (.inl (q.1 _ _ h1))) fun i H x H' hi q y d e => .inl ⟨y.1, ?_⟩
      obtain ⟨v, e1, e2⟩ := ZpAll.get h2 e
      rw [y.2] at e1
      cases e1
      exact e2
    · exact z1.elim⟩
theorem zi_tup (h : ZE X e z) : PI X tg e (li X.K (ziT z)) := PI.weak (pi_tup h) fun σ H R ⟨G, S, ρ, Rz, rp, er, z, k⟩ =>
  ⟨G, S, ρ, _, rp, er, z, fun x S1 v G1 H1 z1 s1 r1 => by
    split at z1
    · obtain ⟨a, vs, rfl, h1, h2⟩ := ZpAll.tuple r1
      refine ⟨a, rfl, ⟨vs, Evl.ex_t s1.rp.gh h1⟩, k _ S1 G1 H1 _ z1 s1 ?_⟩
      unfold WalkZ
      rw [← ZpAll.length h2]
      refine walk_tup.mono (fun H q => Evl.ex_t q.1 h1) fun i H x H' hi q y d e => .inl ⟨y.1, ?_⟩
      obtain ⟨v, e1, e2⟩ := ZpAll.get h2 e
      rw [y.2] at e1
      cases e1
      exact e2
    · exact z1.elim⟩
theorem zi_enum (hg : Gl X "enumerate") (hm : X.mg "enumerate" = none) (ha : ZA X [e] w) (hs : starEach [e] X.env = [(false, eval e X.env)] := by rfl) :
    PI X (.Tuple elts kk tpos) (.Call (.Name "enumerate" p) [e] [] pos) (li X.K (ziEnum w)) := PI.weak (pi_enum hg hm ha hs) fun σ H R ⟨G, S, ρ, Rz, rp, er, z, k⟩ =>
  ⟨G, S, ρ, _, rp, er, z, fun ds S1 vs G1 H1 z1 s1 r1 => by
    split at z1
    · rename_i xs
      obtain ⟨v, rfl, rv⟩ := one_of r1
      obtain ⟨a, us, rfl, h1, h2⟩ := ZpAll.list rv
      refine ⟨a, us, rfl, .inl (.inl (s1.rp.gh _ _ h1)), k _ S1 G1 H1 _ z1 s1 ?_⟩
      have hl : (xs.zipIdx.map fun p => PyData.tuple [.int p.2, p.1]).length = us.length := by rw [List.length_map, List.length_zipIdx, ZpAll.length h2]
      unfold WalkZ
      rw [hl]
      refine walk_enum.mono (fun H q => .inl (.inl (q.1 _ _ h1))) fun i H x H' hi q ⟨T, a1, a2, h3, h4, h5, h6, h7⟩ d e => .inr ⟨T, _, [.int (i : Nat), xs[i]'(by rw [← ZpAll.length h2]; exact hi)], h3, h4, h5, ?_, ?_⟩
      · rw [List.getElem?_map, List.getElem?_zipIdx] at e
        rw [List.getElem?_eq_getElem (show i < xs.length by rw [← ZpAll.length h2]; exact hi)] at e
        simp at e
        exact e.symm
      · cases h6
        obtain ⟨v, e1, e2⟩ := ZpAll.get h2 (List.getElem?_eq_getElem (show i < xs.length by rw [← ZpAll.length h2]; exact hi))
        have h7 : us[i]? = some a2 := h7
        rw [h7] at e1
        cases e1
        exact .cons (.int _) (.cons e2 .nil)
    · exact z1.elim⟩
theorem zip_at {xs ys : List PyData} {i : Nat} {d : PyData} (e : ((xs.zip ys).map fun p => PyData.tuple [p.1, p.2])[i]? = some d) : ∃ x y, xs[i]? = some x ∧ ys[i]? = some y ∧ d = .tuple [x, y] := by
  rw [List.getElem?_map] at e
  cases q : (xs.zip ys)[i]? with
  | none => rw [q] at e; cases e
  | some p =>
    rw [q] at e
    cases e
    obtain ⟨h1, h2⟩ := List.getElem?_zip_eq_some.mp q
    exact ⟨p.1, p.2, h1, h2, rfl⟩
theorem zi_zip (hg : Gl X "zip") (hm : X.mg "zip" = none) (ha : ZA X [e, e2] w) (hs : starEach [e, e2] X.env = (false, eval e X.env) :: starEach [e2] X.env := by rfl) (hpl : (backTo pos (starEach [e2] X.env)).any (·.1) = false := by rfl) :
    PI X (.Tuple elts kk tpos) (.Call (.Name "zip" p) [e, e2] [] pos) (li X.K (ziZip w)) := PI.weak (pi_zip hg hm ha hs hpl) fun σ H R ⟨G, S, ρ, Rz, rp, er, z, k⟩ =>
  ⟨G, S, ρ, _, rp, er, z, fun ds S1 vs G1 H1 z1 s1 r1 => by
    split at z1
    · rename_i xs ys
      obtain ⟨v, u, rfl, rv, ru⟩ := two_of r1
      obtain ⟨a, us, rfl, h1, h2⟩ := ZpAll.list rv
      obtain ⟨b, ws, rfl, h3, h4⟩ := ZpAll.list ru
      refine ⟨a, b, us, ws, rfl, .inl (.inl (s1.rp.gh _ _ h1)), .inl (.inl (s1.rp.gh _ _ h3)), k _ S1 G1 H1 _ z1 s1 ?_⟩
      refine (walk_zip (xs := us) (ys := ws) (by rw [List.length_map, List.length_zip, ZpAll.length h2, ZpAll.length h4])).mono (fun H q => ⟨.inl (.inl (q.1 _ _ h1)), .inl (.inl (q.1 _ _ h3))⟩) fun i H x H' hi q ⟨T, a1, a2, h5, h6, h7, h8, h9⟩ d e => ?_
      obtain ⟨y1, y2, e1, e2, rfl⟩ := zip_at e
      obtain ⟨v1, f1, f2⟩ := ZpAll.get h2 e1
      obtain ⟨v2, f3, f4⟩ := ZpAll.get h4 e2
      have q1 := f1.symm.trans h8
      have q2 := f3.symm.trans h9
      cases q1; cases q2
      exact .inr ⟨T, _, _, h5, h6, h7, rfl, .cons f2 (.cons f4 .nil)⟩
    · exact z1.elim⟩
theorem walk_zipT {K : PySem.W.Frag} {a b : Addr} {xs ys : List V} {n : Nat} (hn : n = min xs.length ys.length) : Walk (RZ.ItzT K a b) n (fun H => SqT K H a xs ∧ SqT K H b ys) (YPair (fun i => xs[i]?) (fun i => ys[i]?)) := by
  subst hn
  refine ⟨fun i _ hi q => ?_, fun _ q => ⟨xs, ys, q.1, q.2, by omega⟩, fun i H v H' _ q y => ?_⟩
  · have h1 : i < xs.length := by omega
    have h2 : i < ys.length := by omega
    exact ⟨xs, ys, xs[i], ys[i], q.1, q.2, by simp [h1], by simp [h2]⟩
  · obtain ⟨T, x, z, h1, h2, h3, h4, h5⟩ := y
    exact ⟨T, x, z, h1, h2, h3, h4 xs q.1, h5 ys q.2⟩
theorem zi_zipT (hg : Gl X "zip") (hm : X.mg "zip" = none) (ha : ZA X [e, e2] w) (hs : starEach [e, e2] X.env = (false, eval e X.env) :: starEach [e2] X.env := by rfl) (hpl : (backTo pos (starEach [e2] X.env)).any (·.1) = false := by rfl) :
    PI X (.Tuple elts kk tpos) (.Call (.Name "zip" p) [e, e2] [] pos) (li X.K (ziZipT w)) := PI.weak (RZ.pi_zipA hg hm ha hs hpl) fun σ H R ⟨G, S, ρ, Rz, rp, er, z, k⟩ =>
  ⟨G, S, ρ, _, rp, er, z, fun ds S1 vs G1 H1 z1 s1 r1 => by
    split at z1
    · rename_i xs ys
      obtain ⟨v, u, rfl, rv, ru⟩ := two_of r1
      obtain ⟨a, us, rfl, h1, h2⟩ := ZpAll.tuple rv
      obtain ⟨b, ws, rfl, h3, h4⟩ := ZpAll.tuple ru
      refine ⟨a, b, us, ws, rfl, .inr ⟨Evl.ex_t s1.rp.gh h1, Evl.ex_t s1.rp.gh h3, k _ S1 G1 H1 _ z1 s1 ?_⟩⟩
      refine (walk_zipT (xs := us) (ys := ws) (by rw [List.length_map, List.length_zip, ZpAll.length h2, ZpAll.length h4])).mono (fun H q => ⟨Evl.ex_t q.1 h1, Evl.ex_t q.1 h3⟩) fun i H x H' hi q ⟨T, a1, a2, h5, h6, h7, h8, h9⟩ d e => ?_
      obtain ⟨y1, y2, e1, e2, rfl⟩ := zip_at e
      obtain ⟨v1, f1, f2⟩ := ZpAll.get h2 e1
      obtain ⟨v2, f3, f4⟩ := ZpAll.get h4 e2
      have q1 := f1.symm.trans h8
      have q2 := f3.symm.trans h9
      cases q1; cases q2
      exact .inr ⟨T, _, _, h5, h6, h7, rfl, .cons f2 (.cons f4 .nil)⟩
    · exact z1.elim⟩
theorem zi_range (hg : Gl X "range") (hm : X.mg "range" = none) (ha : ZA X [e] w) (hs : starEach [e] X.env = [(false, eval e X.env)] := by rfl) : PI X tg (.Call (.Name "range" p) [e] [] pos) (li X.K (ziRange w)) :=
  PI.weak (pi_range1 hg hm ha hs) fun σ H R ⟨G, S, ρ, Rz, rp, er, z, k⟩ =>
  ⟨G, S, ρ, _, rp, er, z, fun ds S1 vs G1 H1 z1 s1 r1 => by
    split at z1
    · rename_i n
      obtain ⟨v, rfl, rv⟩ := one_of r1
      cases rv
      have hz := z1.1
      refine ⟨Int.ofNat n, rfl, by show -(2 ^ 62 : Int) ≤ (n : Int); omega, by show (n : Int) < 2 ^ 62; omega, k _ S1 G1 H1 _ z1.2 s1 ?_⟩
      unfold WalkZ
      rw [List.length_map, List.length_range]
      refine (walk_range (lo := 0) (n := n)).mono (fun _ _ => trivial) fun i H x H' hi q y d e => .inl ⟨y.1, ?_⟩
      rw [List.getElem?_map, List.getElem?_range hi] at e
      cases e
      rw [y.2]
      show Zp X.K G1 (V.int (0 + (i : Int))) (PyData.int i)
      rw [Int.zero_add]
      exact .int _
    · exact z1.elim⟩
end

/-! ### for, while -/
def zLoop (g : ZG) (tb : ZS) (E : ZEnds) : List PyData → Ro → Sto → Prop
  | [], ρ, S => E.nx ρ S
  | d :: ds, ρ, S => g (.d d) ρ S fun ρ1 S1 => tb { E with nx := zLoop g tb E ds, ct := zLoop g tb E ds, bk := E.nx } ρ1 S1
def zFor (zi : ZI) (g : ZG) (tb : ZS) : ZS := fun E ρ S => zi ρ S fun ds S1 => zLoop g tb E ds ρ S1
def zWhile (t : ZTT) (tb : ZS) : ZS := fun E ρ S => ∃ W : Nat → Ro → Sto → Prop, (∃ m, W m ρ S) ∧ ∀ m ρ S, W m ρ S → t ρ S fun b S1 =>
  zIte b (tb { E with nx := fun ρ' S' => ∃ m', m' < m ∧ W m' ρ' S', ct := fun ρ' S' => ∃ m', m' < m ∧ W m' ρ' S', bk := E.nx } ρ S1) (E.nx ρ S1)
section
variable {X : Cx} {iter tg c : Expr} {body : List Stmt} {zi : ZI} {g : ZG} {tb : ZS} {t : ZTT} {pos : Pos}
theorem zs_for (hp : PassesOwn (model X.prog X.w) X.A X.env X.xe) (hc : X.calm = true) (hi : PI X tg iter (li X.K zi)) (hg : PG X tg (lg X.K g)) (hb : ZSs X body tb) (hs : ∀ x, foldedSetIterable iter X.env x = pure x := by intro _; rfl) : ZSt X (.For tg iter body [] pos) (zFor zi g tb) :=
  PS.weak (ps_for hp hc hi hg hb hs) fun D σ H ⟨G, S, ρ, E, rp, er, z, n⟩ => ⟨G, S, ρ, _, rp, er, z, fun ds S1 G1 H1 J z1 s1 wk => by
    refine for_it wk (fun i σ H => ∃ G2 S2 ρ2, Stp X.K G1 S1 H1 G2 S2 H ∧ ERep X.K G2 ρ2 σ ∧ zLoop g tb E (ds.drop i) ρ2 S2) ⟨G1, S1, ρ, Stp.refl s1.rp, er.mono s1.gg, z1⟩ (fun i σ H _ ⟨G2, S2, ρ2, s2, _⟩ => ⟨s2.gg.trans s2.rp.gh, s2.keep⟩) ?_ ?_
    · rintro i x σ2 H2 H3 hi ⟨G2, S2, ρ2, s2, e2, z2⟩ y
      obtain ⟨d, ed⟩ : ∃ d, ds[i]? = some d := ⟨ds[i], List.getElem?_eq_getElem hi⟩
      obtain ⟨G3, s3, h3, _⟩ := yz_stp s2.rp s2.gg y ed
      have ez : ds.drop i = d :: ds.drop (i + 1) := by
        obtain ⟨h4, h5⟩ := List.getElem?_eq_some_iff.mp ed
        rw [← h5, List.drop_eq_getElem_cons h4]
      rw [ez] at z2
      refine ⟨G3, S2, ρ2, .d d, _, s3.rp, e2.mono s3.gg, h3, z2, fun ρ4 S4 σ4 G4 H4 z4 s4 e4 => ?_⟩
      refine ⟨G4, S4, ρ4, _, s4.rp, e4, z4, ⟨fun ρ5 S5 σ5 G5 H5 q s5 e5 => ⟨G5, S5, ρ5, ((s2.trans s3).trans s4).trans s5, e5, q⟩, fun d' S5 v G5 H5 q s5 r5 => n.rt d' S5 v G5 H5 q ((((s1.trans s2).trans s3).trans s4).trans s5) r5,
        fun ρ5 S5 σ5 G5 H5 q s5 e5 => n.nx ρ5 S5 σ5 G5 H5 q ((((s1.trans s2).trans s3).trans s4).trans s5) e5, fun ρ5 S5 σ5 G5 H5 q s5 e5 => ⟨G5, S5, ρ5, ((s2.trans s3).trans s4).trans s5, e5, q⟩⟩⟩
    · rintro σ2 H2 ⟨G2, S2, ρ2, s2, e2, z2⟩
      rw [List.drop_length] at z2
      exact n.nx ρ2 S2 σ2 G2 H2 z2 (s1.trans s2) e2⟩
theorem zs_while (hp : PassesOwn (model X.prog X.w) X.A X.env X.xe) (hc : ZB X c t) (hb : ZSs X body tb) : ZSt X (.While c body [] pos) (zWhile t tb) :=
  PS.weak (ps_while hp hc hb) fun D σ H ⟨G, S, ρ, E, rp, er, ⟨W, ⟨m0, w0⟩, turn⟩, n⟩ => by
    refine ⟨fun m σ H1 => ∃ G1 S1 ρ1, Stp X.K G S H G1 S1 H1 ∧ ERep X.K G1 ρ1 σ ∧ W m ρ1 S1, ⟨m0, G, S, ρ, Stp.refl rp, er, w0⟩, ?_⟩
    rintro m σ1 H1 ⟨G1, S1, ρ1, s1, e1, w1⟩
    refine ⟨G1, S1, ρ1, _, s1.rp, e1, turn m ρ1 S1 w1, fun b S2 G2 H2 z2 s2 => ?_⟩
    cases b with
    | true =>
      refine ⟨fun σ' H' => ∃ m', m' < m ∧ ∃ G1 S1 ρ1, Stp X.K G S H G1 S1 H' ∧ ERep X.K G1 ρ1 σ' ∧ W m' ρ1 S1, fun σ' H' ⟨m', h1, h2⟩ => ⟨m', h1, h2⟩, ?_⟩
      refine ⟨G2, S2, ρ1, _, s2.rp, e1.mono s2.gg, z2.1 rfl, ⟨fun ρ5 S5 σ5 G5 H5 ⟨m', h1, h2⟩ s5 e5 => ⟨m', h1, G5, S5, ρ5, (s1.trans s2).trans s5, e5, h2⟩, fun d' S5 v G5 H5 q s5 r5 => n.rt d' S5 v G5 H5 q ((s1.trans s2).trans s5) r5,
        fun ρ5 S5 σ5 G5 H5 q s5 e5 => n.nx ρ5 S5 σ5 G5 H5 q ((s1.trans s2).trans s5) e5, fun ρ5 S5 σ5 G5 H5 ⟨m', h1, h2⟩ s5 e5 => ⟨m', h1, G5, S5, ρ5, (s1.trans s2).trans s5, e5, h2⟩⟩⟩
    | false => exact n.nx ρ1 S2 σ1 G2 H2 (z2.2 rfl) (s1.trans s2) (e1.mono s2.gg)
end
end Z
set_option Elab.async false
set_option linter.all false
set_option maxRecDepth 100000
set_option maxHeartbeats 1000000
namespace Z
open PySem PySem.Spec PyProof.Rows L2
/-! ### comprehensions -/
def zLcL (g : ZG) (t : ZTT) (e : ZT) (ρ : Ro) : List PyData → List PyData → Sto → (List PyData → Sto → Prop) → Prop
  | [], acc, S, Q => Q acc S
  | d :: ds, acc, S, Q => g (.d d) ρ S fun ρ1 S1 => t ρ1 S1 fun b S2 => zIte b (e ρ1 S2 fun x S3 => match x with
      | .d y => zLcL g t e ρ ds (acc ++ [y]) S3 Q
      | _ => False) (zLcL g t e ρ ds acc S2 Q)
def zwipe (ρ : Ro) : List Nat → Ro
  | [] => ρ
  | v :: vs => (zwipe ρ vs).set v none
def zLc (zi : ZI) (g : ZG) (js : List Nat) (t : ZTT) (e : ZT) : ZT := fun ρ S Q => zi ρ S fun ds S1 => Nat.ble ds.length 1000 = true ∧ zLcL g t e (zwipe ρ js) ds [] S1 fun acc S2 => Q (.d (.list acc)) S2
/-- no test -/
def ztYes : ZTT := fun _ S Q => Q true S
section
variable {K : PySem.W.Frag} {G G1 H H1 : Hp} {S S1 : Sto}
theorem wipe_get (l : L2.St) : ∀ (vs : List Nat) (i : Nat), (wipe l vs)[i]? = if i ∈ vs ∧ i < l.length then some none else l[i]?
  | [], i => by simp [wipe]
  | v :: vs, i => by
    unfold wipe
    by_cases c : v = i
    · subst c
      by_cases q : v < l.length
      · rw [List.getElem?_set_self (by rw [wipe_length]; exact q), if_pos ⟨by simp, q⟩]
      · rw [List.getElem?_eq_none (by rw [List.length_set, wipe_length]; omega), if_neg (fun z => q z.2), List.getElem?_eq_none (by omega)]
    · rw [List.getElem?_set_ne c, wipe_get l vs i]
      have : (i ∈ v :: vs) ↔ i ∈ vs := by simp [Ne.symm c]
      simp only [this]
theorem wipe_of {l m : L2.St} {vs : List Nat} (hl : l.length = m.length) (h : ∀ i, i ∉ vs → l[i]? = m[i]?) : wipe l vs = wipe m vs := by
  apply List.ext_getElem?
  intro i
  rw [wipe_get, wipe_get, hl]
  by_cases c : i ∈ vs
  · by_cases q : i < m.length
    · rw [if_pos ⟨c, q⟩, if_pos ⟨c, q⟩]
    · rw [if_neg (fun z => q z.2), if_neg (fun z => q z.2), List.getElem?_eq_none (by omega), List.getElem?_eq_none (by omega)]
  · rw [if_neg (fun z => c z.1), if_neg (fun z => c z.1)]
    exact h i c
def setAll (σ : L2.St) : List Nat → List V → L2.St
  | j :: js, v :: vs => setAll (σ.set j (some v)) js vs
  | _, _ => σ
theorem setAll_len : ∀ (js : List Nat) (vs : List V) (σ : L2.St), (setAll σ js vs).length = σ.length
  | [], _, _ => by unfold setAll; rfl
  | _ :: _, [], _ => by unfold setAll; rfl
  | j :: js, v :: vs, σ => by
    show (setAll (σ.set j (some v)) js vs).length = _
    rw [setAll_len js vs, List.length_set]
theorem setAll_get : ∀ (js : List Nat) (vs : List V) (σ : L2.St) (i : Nat), i ∉ js → (setAll σ js vs)[i]? = σ[i]?
  | [], _, _, _, _ => by unfold setAll; rfl
  | _ :: _, [], _, _, _ => by unfold setAll; rfl
  | j :: js, v :: vs, σ, i, h => by
    show (setAll (σ.set j (some v)) js vs)[i]? = _
    rw [setAll_get js vs _ i (fun q => h (by simp [q])), List.getElem?_set_ne (fun q => h (by simp [q]))]
theorem wipe_setAll (σ : L2.St) (js : List Nat) (vs : List V) : wipe (setAll (wipe σ js) js vs) js = wipe σ js := by
  refine wipe_of (by rw [setAll_len, wipe_length]) fun i hi => ?_
  rw [setAll_get js vs _ i hi, wipe_get, if_neg (fun z => hi z.1)]
theorem zwipe_get (l : Ro) : ∀ (vs : List Nat) (i : Nat) (d : D), (zwipe l vs)[i]? = some (some d) → l[i]? = some (some d) ∧ i ∉ vs
  | [], i, d, h => ⟨h, by simp⟩
  | v :: vs, i, d, h => by
    unfold zwipe at h
    by_cases c : v = i
    · subst c
      by_cases q : v < (zwipe l vs).length
      · rw [List.getElem?_set_self q] at h; cases h
      · rw [List.getElem?_eq_none (by simpa using q)] at h; cases h
    · rw [List.getElem?_set_ne c] at h
      obtain ⟨h1, h2⟩ := zwipe_get l vs i d h
      exact ⟨h1, by simp [Ne.symm c, h2]⟩
theorem zwipe_length (l : Ro) : ∀ vs : List Nat, (zwipe l vs).length = l.length
  | [] => rfl
  | v :: vs => by unfold zwipe; rw [List.length_set, zwipe_length l vs]
theorem ERep.wipe {ρ : Ro} {σ : L2.St} (h : ERep K G ρ σ) (js : List Nat) : ERep K G (zwipe ρ js) (L2.wipe σ js) := by
  refine ⟨by rw [zwipe_length, wipe_length]; exact h.1, fun i d e => ?_⟩
  obtain ⟨h1, h2⟩ := zwipe_get ρ js i d e
  obtain ⟨v, h3, h4⟩ := h.2 i d h1
  exact ⟨v, by rw [wipe_get, if_neg (fun z => h2 z.1)]; exact h3, h4⟩
/-- a list that is being made lies apart -/
theorem Stp.off (s : Stp K G S H G1 S1 H1) {D : Addr} {o : HO} (hD : H D = none) (h1 : G1 D = none) (h2 : S1 D = none) : Stp K G S H G1 S1 (upd H1 D o) := by
  refine ⟨s.gg, fun a u e n => ?_, s.fresh, fun a u e => ?_, fun a c e => ?_⟩
  · rw [upd_ne (ne_of_none e hD)]; exact s.keep a u e n
  · rw [upd_ne (ne_of_none e h1)]; exact s.rp.gh a u e
  · obtain ⟨c1, c2⟩ := s.rp.cell a c e
    have : a ≠ D := fun q => by rw [q, h2] at e; cases e
    exact ⟨c1, c2.mono (fun _ _ e => e) (upd_ne this)⟩
/-- .. and is done -/
theorem Stp.done (s : Stp K G S H G1 S1 H1) {D : Addr} {vs : List V} (hD : H D = none) (h0 : H1 D = some (.lst vs)) (h1 : G1 D = none) (h2 : S1 D = none) : Stp K G S H (upd G1 D (.lst vs)) S1 H1 := by
  have g : Same G1 (upd G1 D (.lst vs)) := Evl.Ex.new h1
  refine ⟨s.gg.trans g, s.keep, fun a e n => ⟨(s.fresh a e n).1, fun z => ?_⟩, fun a u e => ?_, fun a c e => ?_⟩
  · have : a ≠ D := fun q => e (by rw [q]; exact hD)
    rw [upd_ne this]; exact (s.fresh a e n).2 z
  · by_cases q : a = D
    · subst q; rw [upd_same] at e; cases e; exact h0
    · rw [upd_ne q] at e; exact s.rp.gh a u e
  · obtain ⟨c1, c2⟩ := s.rp.cell a c e
    have : a ≠ D := fun q => by rw [q, h2] at e; cases e
    exact ⟨by rw [upd_ne this]; exact c1, c2.mono g rfl⟩
theorem keepD (s : Stp K G S H G1 S1 H1) {D : Addr} {o : HO} (h0 : H D = some o) (h1 : G D = none) (h2 : S D = none) : H1 D = some o ∧ G1 D = none ∧ S1 D = none :=
  ⟨s.keep D o h0 h2, (s.fresh D (by rw [h0]; simp) h2).2 h1, (s.fresh D (by rw [h0]; simp) h2).1⟩
end
/-- the target of a comprehension: names alone -/
def gsN : List Nat → TGs
  | [] => gNil
  | j :: js => gCons (gName j) (gsN js)
def zgsN : List Nat → ZGs
  | [] => zgNil
  | j :: js => zgCons (zgName j) (zgsN js)
theorem gsN_ok {K : PySem.W.Frag} {G H : Hp} {S : Sto} (rp : Rp K G S H) : ∀ (js : List Nat) (ds : List PyData) (vs : List V) (ρ : Ro) (σ : L2.St) (R : Ro → Sto → Prop) (Q : L2.St → Hp → Prop), ERep K G ρ σ → ZpAll K G vs ds → zgsN js ds ρ S R →
    (∀ ρ', R ρ' S → ERep K G ρ' (setAll σ js vs) → Q (setAll σ js vs) H) → gsN js vs σ H Q
  | [], ds, vs, ρ, σ, R, Q, er, rd, z, k => by
    unfold zgsN zgNil at z
    split at z
    · cases rd
      exact ⟨rfl, k ρ z er⟩
    · exact z.elim
  | j :: js, ds, vs, ρ, σ, R, Q, er, rd, z, k => by
    unfold zgsN zgCons at z
    split at z
    · rename_i x r
      cases rd with
      | cons a t => exact ⟨_, _, rfl, gsN_ok rp js r _ _ _ R Q (er.set j (d := .d x) a) t z k⟩
    · exact z.elim
/-- g stores names alone, at js -/
def GOk (K : PySem.W.Frag) (js : List Nat) (g : TG) (zg : ZG) : Prop := ∀ (G H : Hp) (S : Sto) (d : PyData) (v : V) (ρ : Ro) (σ : L2.St) (R : Ro → Sto → Prop) (Q : L2.St → Hp → Prop), Rp K G S H → ERep K G ρ σ → Zp K G v d → zg (.d d) ρ S R →
  (∀ ρ' vs, R ρ' S → ERep K G ρ' (setAll σ js vs) → Q (setAll σ js vs) H) → g v σ H Q
theorem gok_one {K : PySem.W.Frag} {j : Nat} : GOk K [j] (gName j) (zgName j) := fun G H S d v ρ σ R Q rp er rd z k => k _ [v] z (er.set j rd)
theorem gok_tup {K : PySem.W.Frag} {js : List Nat} {n : Nat} : GOk K js (gTup K n (gsN js)) (zgTup n (zgsN js)) := fun G H S d v ρ σ R Q rp er rd z k => by
  unfold zgTup at z
  split at z
  · rename_i d' ds hd
    cases hd
    obtain ⟨a, vs, rfl, h1, h2⟩ := ZpAll.tuple rd
    exact ⟨a, vs, rfl, Evl.ex_t rp.gh h1, by rw [ZpAll.length h2]; exact Nat.eq_of_beq_eq_true z.1, gsN_ok rp js ds vs ρ σ R Q er h2 z.2 fun ρ' q e => k ρ' vs q e⟩
  · exact z.elim
theorem lc_turns {K : PySem.W.Frag} {g : TG} {zg : ZG} {js : List Nat} {t : ZTT} {e : ZT} {σ : L2.St} {ρ : Ro} {G1 H1 : Hp} {S1 : Sto} {J : It} {ds : List PyData} {Qz : List PyData → Sto → Prop} {Qd : Hp → Prop} {D : Addr}
    (hg : GOk K js g zg) (er : ERep K G1 ρ σ) (rp : Rp K G1 S1 H1) (wk : WalkZ K J G1 S1 H1 ds) (hl : ds.length ≤ 1000) (z : zLcL zg t e (zwipe ρ js) ds [] S1 Qz) (hD : H1 D = none)
    (k : ∀ acc S' G' H', Qz acc S' → Stp K G1 S1 H1 G' S' H' → Zp K G' (.ref D) (.list acc) → Qd H') :
    ∃ W : Nat → Nat → Hp → Prop, (∃ m, W 0 m (upd H1 D (.lst []))) ∧ ∀ i m H, W i m H →
      (J.stop i H ∧ Qd H) ∨ (J.go i H ∧ ∃ Nx : Hp → Prop, (∀ H', Nx H' → ∃ m', m' < m ∧ W (i + 1) m' H') ∧ ∀ x H', J.yld i H x H' → g x (wipe σ js) H' fun σ2 H2 => wipe σ2 js = wipe σ js ∧ ltt K t σ2 H2 fun b H3 =>
        if b = true then lt K e σ2 H3 fun y H4 => ∃ acc, H4 D = some (.lst acc) ∧ acc.length < sizeLine ∧ Nx (upd H4 D (.lst (acc ++ [y]))) else Nx H3) := by
  have gD : G1 D = none := by
    cases q : G1 D with
    | none => rfl
    | some o => rw [rp.gh D o q] at hD; cases hD
  have sD : S1 D = none := fresh_S rp hD
  refine lc_it wk (fun i H => ∃ G2 S2 acc vs, Stp K G1 S1 H1 G2 S2 H ∧ H D = some (.lst vs) ∧ G2 D = none ∧ S2 D = none ∧ ZpAll K G2 vs acc ∧ acc.length ≤ i ∧ zLcL zg t e (zwipe ρ js) (ds.drop i) acc S2 Qz)
    ⟨G1, S1, [], [], (Stp.refl rp).off hD gD sD, upd_same, gD, sD, .nil, Nat.le_refl _, z⟩ (fun i H _ ⟨G2, S2, acc, vs, s2, _⟩ => ⟨s2.gg.trans s2.rp.gh, s2.keep⟩) ?_ ?_
  · rintro i x H2 H3 hi ⟨G2, S2, acc, vs, s2, d1, d2, d3, d4, d5, z2⟩ y
    obtain ⟨d, ed⟩ : ∃ d, ds[i]? = some d := ⟨ds[i], List.getElem?_eq_getElem hi⟩
    obtain ⟨G3, s3, h3, h3d⟩ := yz_stp s2.rp s2.gg y ed
    have ez : ds.drop i = d :: ds.drop (i + 1) := by
      obtain ⟨h4, h5⟩ := List.getElem?_eq_some_iff.mp ed
      rw [← h5, List.drop_eq_getElem_cons h4]
    rw [ez] at z2
    obtain ⟨e1, e2, e3⟩ := keepD s3 d1 d2 d3
    refine hg G3 H3 S2 d x (zwipe ρ js) (wipe σ js) _ _ s3.rp ((er.mono (s2.gg.trans s3.gg)).wipe js) h3 z2 fun ρ4 ws z4 er4 => ⟨wipe_setAll σ js ws, ?_⟩
    refine ⟨G3, S2, ρ4, _, s3.rp, er4, z4, fun b S5 G5 H5 z5 s5 => ?_⟩
    obtain ⟨f1, f2, f3⟩ := keepD s5 e1 e2 e3
    cases b with
    | true =>
      refine ⟨G5, S5, ρ4, _, s5.rp, er4.mono s5.gg, z5.1 rfl, fun y6 S6 v6 G6 H6 z6 s6 r6 => ?_⟩
      obtain ⟨g1, g2, g3⟩ := keepD s6 f1 f2 f3
      have st := ((s2.trans s3).trans s5).trans s6
      have hvl : vs.length = acc.length := ZpAll.length d4
      cases y6 with
      | ref _ => exact False.elim z6
      | ro _ => exact False.elim z6
      | d y7 =>
        refine ⟨vs, g1, small_lt (by omega), G6, S6, acc ++ [y7], vs ++ [v6], st.off hD g2 g3, upd_same, g2, g3, ZpAll.append (ZpAll.mono ((s3.gg.trans s5.gg).trans s6.gg) _ _ d4) (.cons r6 .nil), by simp; omega, z6⟩
    | false =>
      exact ⟨G5, S5, acc, vs, (s2.trans s3).trans s5, f1, f2, f3, ZpAll.mono (s3.gg.trans s5.gg) _ _ d4, by omega, z5.2 rfl⟩
  · rintro H2 ⟨G2, S2, acc, vs, s2, d1, d2, d3, d4, d5, z2⟩
    rw [List.drop_length] at z2
    have sd := s2.done hD d1 d2 d3
    exact k acc S2 _ H2 z2 sd (.lst upd_same (ZpAll.mono (Evl.Ex.new d2) _ _ d4))
section
variable {X : Cx} {elt tg iter : Expr} {ifs : List Expr} {scope : Scope} {own : List (Str × Nat)} {pos : Pos} {zi : ZI} {g : TG} {zg : ZG} {t : ZTT} {e : ZT}
theorem zts_nil {X : Cx} : PTs X [] (ltt X.K ztYes) := ⟨fun pins s σ H Q I ⟨G, S, ρ, R, rp, er, z, k⟩ => pts_nil.run pins s σ H Q I (k true S G H z (Stp.refl rp))⟩
theorem zts_one {X : Cx} {c : Expr} {t : ZTT} (h : ZB X c t) : PTs X [c] (ltt X.K t) := pts_one h
theorem lc_ok {K : PySem.W.Frag} {zi : ZI} {g : TG} {zg : ZG} {js : List Nat} {t : ZTT} {e : ZT} {σ : L2.St} {H : Hp} {Q : VK} (hg : GOk K js g zg) (h : lt K (zLc zi zg js t e) σ H Q) : tLc (li K zi) g (ltt K t) (lt K e) js σ H Q := by
  obtain ⟨G, S, ρ, R, rp, er, z, k⟩ := h
  refine ⟨G, S, ρ, _, rp, er, z, fun ds S1 G1 H1 J ⟨hl, z1⟩ s1 wk D hD => ?_⟩
  exact lc_turns (Qd := Q (.ref D)) hg (er.mono s1.gg) s1.rp wk (Nat.le_of_ble_eq_true hl) z1 hD fun acc S' G' H' q s2 r => k _ S' _ G' H' q (s1.trans s2) r
theorem ze_lc (hgk : GOk X.K (own.map (·.2)) g zg) (hc : X.calm = true) (hN : X.N.Nodup) (hi : PI X tg iter (li X.K zi)) (ok : BlkOk X.N X.env.scope scope own)
    (hg : ∀ (s : Shared) (H : Hp) (C : Addr) (cl : List (Str × Addr)) (fp : List Addr), PG (X.blk s H scope (compEnvC scope cl C X.env) fp) tg g) (ht : ∀ (s : Shared) (H : Hp) (C : Addr) (cl : List (Str × Addr)) (fp : List Addr), PTs (X.blk s H scope (compEnvC scope cl C X.env) fp) ifs (ltt X.K t))
    (he : ∀ (s : Shared) (H : Hp) (C : Addr) (cl : List (Str × Addr)) (fp : List Addr), ZE (X.blk s H scope (compEnvC scope cl C X.env) fp) elt e) (hs : ∀ x, foldedSetIterable iter X.env x = pure x := by intro _; rfl) :
    ZE X (.ListComp elt [⟨tg, iter, ifs, 0⟩] scope pos) (zLc zi zg (own.map (·.2)) t e) := PE.weak (pe_lc hc hN hi ok hg ht he hs) fun _ _ _ => lc_ok hgk
theorem zs_setLc {i : Nat} {y : Str} {py spos : Pos} (hgk : GOk X.K (own.map (·.2)) g zg) (hc : X.calm = true) (hN : X.N.Nodup) (hy : X.N[i]? = some y) (hyl : X.env.scope.names.lookup y = some .local)
    (hsw : swapsWith (.ListComp elt [⟨tg, iter, ifs, 0⟩] scope pos) (some (.Name y py)) spos.line X.env = pure true) (hi : PI X tg iter (li X.K zi)) (ok : BlkOk X.N X.env.scope scope own)
    (hg : ∀ (s : Shared) (H : Hp) (C : Addr) (cl : List (Str × Addr)) (fp : List Addr), PG (X.blk s H scope (compEnvC scope cl C X.env) fp) tg g) (ht : ∀ (s : Shared) (H : Hp) (C : Addr) (cl : List (Str × Addr)) (fp : List Addr), PTs (X.blk s H scope (compEnvC scope cl C X.env) fp) ifs (ltt X.K t))
    (he : ∀ (s : Shared) (H : Hp) (C : Addr) (cl : List (Str × Addr)) (fp : List Addr), ZE (X.blk s H scope (compEnvC scope cl C X.env) fp) elt e) (hs : ∀ x, foldedSetIterable iter X.env x = pure x := by intro _; rfl) :
    ZSt X (.Assign [.Name y py] (.ListComp elt [⟨tg, iter, ifs, 0⟩] scope pos) spos) (zAsg i (zLc zi zg (own.map (·.2)) t e)) := PS.weak (ps_setLc hc hN hy hyl hsw hi ok hg ht he hs) fun D σ H ⟨G, S, ρ, E, rp, er, z, n⟩ =>
  lc_ok hgk ⟨G, S, ρ, _, rp, er, z, fun d S1 v G1 H1 q s1 r1 => n.nx _ S1 _ G1 H1 q s1 ((er.mono s1.gg).set i r1)⟩
end

/-! ### dicts by ints -/
def lk (kvs : List (Int × PyData)) (k : Int) : Option PyData := (kvs.find? fun p => decide (p.1 = k)).map (·.2)
def putD (kvs : List (Int × PyData)) (k : Int) (d : PyData) : List (Int × PyData) := if (kvs.any fun p => decide (p.1 = k)) = true then kvs.map (fun p => if p.1 = k then (p.1, d) else p) else kvs ++ [(k, d)]
section
variable {K : PySem.W.Frag} {G : Hp}
theorem key_dec (i j : Int) : decide ((Sum.inl i : Key) = Sum.inl j) = decide (i = j) := by
  by_cases h : i = j
  · subst h; simp
  · rw [decide_eq_false h, decide_eq_false (fun q => h (Sum.inl.inj q))]
theorem lk_ok : ∀ {kvs : List (Int × PyData)} {kv : List (Key × V)} {k : Int} {d : PyData}, KRep K G kvs kv → lk kvs k = some d → ∃ v, valV kv (Sum.inl k : Key) = some v ∧ Zp K G v d
  | [], _, k, d, .nil, e => by cases e
  | p :: kvs, q :: kv, k, d, .cons h t, e => by
    obtain ⟨h1, h2⟩ := h
    unfold lk at e
    rw [List.find?_cons] at e
    by_cases c : p.1 = k
    · rw [decide_eq_true c] at e
      cases e
      exact ⟨q.2, valV_pos (by rw [h1, c]), h2⟩
    · rw [decide_eq_false c] at e
      obtain ⟨v, a, b⟩ := lk_ok t (show lk kvs k = some d from e)
      exact ⟨v, by rw [valV_neg (by rw [h1]; exact fun z => c (Sum.inl.inj z))]; exact a, b⟩
theorem lk_none : ∀ {kvs : List (Int × PyData)} {kv : List (Key × V)} {k : Int}, KRep K G kvs kv → lk kvs k = none → valV kv (Sum.inl k : Key) = none
  | [], _, k, .nil, e => rfl
  | p :: kvs, q :: kv, k, .cons h t, e => by
    obtain ⟨h1, h2⟩ := h
    unfold lk at e
    rw [List.find?_cons] at e
    by_cases c : p.1 = k
    · rw [decide_eq_true c] at e
      cases e
    · rw [decide_eq_false c] at e
      rw [valV_neg (by rw [h1]; exact fun z => c (Sum.inl.inj z))]
      exact lk_none t (show lk kvs k = none from e)
theorem any_key : ∀ {kvs : List (Int × PyData)} {kv : List (Key × V)} {k : Int}, KRep K G kvs kv → (kv.any fun q => decide (q.1 = (Sum.inl k : Key))) = kvs.any fun p => decide (p.1 = k)
  | [], _, k, .nil => rfl
  | p :: kvs, q :: kv, k, .cons h t => by
    rw [List.any_cons, List.any_cons, any_key t, h.1, key_dec]
theorem KRep.append : ∀ {a b : List (Int × PyData)} {c d : List (Key × V)}, KRep K G a c → KRep K G b d → KRep K G (a ++ b) (c ++ d)
  | _, _, _, _, .nil, h => h
  | _, _, _, _, .cons h t, s => .cons h (KRep.append t s)
theorem putD_ok {kvs : List (Int × PyData)} {kv : List (Key × V)} {k : Int} {v : V} {d : PyData} (h : KRep K G kvs kv) (hv : Zp K G v d) : KRep K G (putD kvs k d) (putK kv (Sum.inl k : Key) v) := by
  unfold putD putK
  rw [any_key h]
  by_cases c : (kvs.any fun p => decide (p.1 = k)) = true
  · rw [if_pos c, if_pos c]
    clear c
    induction h with
    | nil => exact .nil
    | cons a t ih =>
      rename_i p q ps qs
      refine .cons ?_ ih
      by_cases e : p.1 = k
      · have e1 : (if p.1 = k then (p.1, d) else p) = (p.1, d) := if_pos e
        have e2 : (if q.1 = (Sum.inl k : Key) then (q.1, v) else q) = (q.1, v) := if_pos (by rw [a.1, e])
        show (if q.1 = (Sum.inl k : Key) then (q.1, v) else q).1 = Sum.inl (if p.1 = k then (p.1, d) else p).1 ∧ Zp K G (if q.1 = (Sum.inl k : Key) then (q.1, v) else q).2 (if p.1 = k then (p.1, d) else p).2
        rw [e1, e2]
        exact ⟨a.1, hv⟩
      · have e1 : (if p.1 = k then (p.1, d) else p) = p := if_neg e
        have e2 : (if q.1 = (Sum.inl k : Key) then (q.1, v) else q) = q := if_neg (by rw [a.1]; exact fun z => e (Sum.inl.inj z))
        show (if q.1 = (Sum.inl k : Key) then (q.1, v) else q).1 = Sum.inl (if p.1 = k then (p.1, d) else p).1 ∧ Zp K G (if q.1 = (Sum.inl k : Key) then (q.1, v) else q).2 (if p.1 = k then (p.1, d) else p).2
        rw [e1, e2]
        exact a
  · rw [if_neg c, if_neg c]
    exact h.append (.cons ⟨rfl, hv⟩ .nil)
end
/-- o[k], o a dict -/
def zDGet (zo zk : ZT) : ZT := fun ρ S Q => zo ρ S fun x S1 => zk ρ S1 fun y S2 => ∃ p kvs k d, x = .ref p ∧ S2 p = some (.dic kvs) ∧ y = .d (.int k) ∧ lk kvs k = some d ∧ Q (.d d) S2
/-- o.get(k, z) -/
def zDGet2 (zo zk zz : ZT) : ZT := fun ρ S Q => zo ρ S fun x S1 => ∃ p kvs, x = .ref p ∧ S1 p = some (.dic kvs) ∧ zk ρ S1 fun y S2 => zz ρ S2 fun u S3 => ∃ k d, S3 p = some (.dic kvs) ∧ y = .d (.int k) ∧ u = .d d ∧ Q (.d ((lk kvs k).getD d)) S3
/-- o[k] = v -/
def zDPut (zo zk zv : ZT) : ZS := fun E ρ S => zv ρ S fun u S1 => zo ρ S1 fun x S2 => zk ρ S2 fun y S3 => ∃ p kvs k d, x = .ref p ∧ S3 p = some (.dic kvs) ∧ y = .d (.int k) ∧ u = .d d ∧ kvs.length < 1000 ∧ E.nx ρ (S3.put p (.dic (putD kvs k d)))
section
variable {X : Cx} {o i value f e : Expr} {zo zk zv zz : ZT} {pos pos' apos cpos : Pos}
theorem ze_dget (hu : X.A.units + 1 < cLine) (ho : ZE X o zo) (hi : ZE X i zk) (hs : NoSl i := by intro _ _; rfl) : ZE X (.Subscript o i pos) (zDGet zo zk) := PE.weak (pe_dget hu ho hi hs) fun σ H Q ⟨G, S, ρ, R, rp, er, z, k⟩ =>
  ⟨G, S, ρ, _, rp, er, z, fun x S1 v G1 H1 z1 s1 r1 => ⟨G1, S1, ρ, _, s1.rp, er.mono s1.gg, z1, fun y S2 u G2 H2 ⟨p, kvs, kk, d, e1, e2, e3, e4, z2⟩ s2 r2 => by
    subst e1 e3
    cases r1; cases r2
    obtain ⟨_, kv, h1, h2⟩ := s2.rp.cell p _ e2
    obtain ⟨w, h3, h4⟩ := lk_ok h2 e4
    exact ⟨p, w, rfl, .inl ⟨kv, Sum.inl kk, .inl h1, rfl, h3.symm⟩, k _ S2 w G2 H2 z2 (s1.trans s2) h4⟩⟩⟩
theorem ze_dget2 (hu : X.A.units + 1 < cLine) (ho : ZE X o zo) (he : ZE X e zk) (hf : ZE X f zz) (m : M2 X o "get" apos e f cpos) : ZE X (.Call (.Attribute o "get" apos) [e, f] [] cpos) (zDGet2 zo zk zz) := PE.weak (pe_dget2 hu ho he hf m) fun σ H Q ⟨G, S, ρ, R, rp, er, z, k⟩ =>
  ⟨G, S, ρ, _, rp, er, z, fun x S1 v G1 H1 ⟨p, kvs, e1, e2, z1⟩ s1 r1 => by
    subst e1
    cases r1
    obtain ⟨_, kv, h1, h2⟩ := s1.rp.cell p _ e2
    refine ⟨p, rfl, .inl ⟨kv, .inl h1⟩, G1, S1, ρ, _, s1.rp, er.mono s1.gg, z1, fun y S2 u G2 H2 z2 s2 r2 => ?_⟩
    refine ⟨G2, S2, ρ, _, s2.rp, (er.mono s1.gg).mono s2.gg, z2, fun x3 S3 w G3 H3 ⟨kk, d, f1, f2, f3, z3⟩ s3 r3 => ?_⟩
    subst f2 f3
    cases r2
    obtain ⟨_, kv3, h3, h4⟩ := s3.rp.cell p _ f1
    refine ⟨_, .inl ⟨kv3, Sum.inl kk, .inl h3, rfl, rfl⟩, k _ S3 _ G3 H3 z3 ((s1.trans s2).trans s3) ?_⟩
    cases q : lk kvs kk with
    | none => rw [lk_none h4 q]; exact r3
    | some d' =>
      obtain ⟨w', h5, h6⟩ := lk_ok h4 q
      rw [h5]
      exact h6⟩
theorem zs_dput (hu : X.A.units + 1 < cLine) (ho : ZE X o zo) (hi : ZE X i zk) (hv : ZE X value zv) (hs : swapsWith value (some (.Subscript o i pos')) pos.line X.env = pure false := by rfl) :
    ZSt X (.Assign [.Subscript o i pos'] value pos) (zDPut zo zk zv) := PS.weak (ps_dput hu ho hi hv hs) fun D σ H ⟨G, S, ρ, E, rp, er, z, n⟩ =>
  ⟨G, S, ρ, _, rp, er, z, fun u S1 w1 G1 H1 z1 s1 r1 => ⟨G1, S1, ρ, _, s1.rp, er.mono s1.gg, z1, fun x S2 w2 G2 H2 z2 s2 r2 => ⟨G2, S2, ρ, _, s2.rp, (er.mono s1.gg).mono s2.gg, z2, fun y S3 w3 G3 H3 ⟨p, kvs, kk, d, e1, e2, e3, e4, e5, z3⟩ s3 r3 => by
    subst e1 e3 e4
    cases r2; cases r3
    obtain ⟨_, kv, h1, h2⟩ := s3.rp.cell p _ e2
    have hl : kv.length = kvs.length := (Paired.length h2).symm
    refine ⟨p, _, rfl, DPut.k (k := Sum.inl kk) h1 (by rw [hl]; exact small_lt e5), ?_⟩
    have s4 := Stp.write s3.rp (o := .dK (putK kv (Sum.inl kk : Key) w1)) (c := .dic (putD kvs kk d)) e2 ⟨_, upd_same, putD_ok h2 (Zp.mono (s2.gg.trans s3.gg) _ _ r1)⟩
    exact n.nx ρ _ σ _ _ z3 (((s1.trans s2).trans s3).trans s4) (((er.mono s1.gg).mono s2.gg).mono s3.gg)⟩⟩⟩
end
end Z
set_option Elab.async false
set_option linter.all false
set_option maxRecDepth 100000
set_option maxHeartbeats 1000000
namespace Z
open PySem PySem.Spec PyProof.Rows L2
/-! ### names of the module -/
section
variable {X : Cx} {x : Str} {pos : Pos}
theorem ze_gint {i : Int} {t : Tok} (hg : Gl X x) (hm : X.mg x = some (.int i t)) (hd : (x == ("__debug__" : Str)) = false := by decide) : ZE X (.Name x pos) (zC (.int i)) := ze_c (pe_glob hg hm (v := .int i) ⟨t, rfl⟩ hd) fun _ => .int i
/-- a tuple of ints that the top has made -/
theorem ze_gtup {a : Addr} {i j : Int} (hg : Gl X x) (hm : X.mg x = some (.ref a)) (hq : ∀ H, SqT X.K H a [.int i, .int j]) (hd : (x == ("__debug__" : Str)) = false := by decide) : ZE X (.Name x pos) (zC (.tuple [.int i, .int j])) :=
  ze_c (pe_glob hg hm (v := .ref a) rfl hd) fun G => .tup (hq G) (.cons (.int i) (.cons (.int j) .nil))
end

/-! ### instances -/
def lkF (fs : List (Str × D)) (f : Str) : Option D := fs.lookup f
def putFD (f : Str) (d : D) : List (Str × D) → List (Str × D)
  | [] => [(f, d)]
  | p :: r => if p.1 = f then (p.1, d) :: r else p :: putFD f d r
section
variable {K : PySem.W.Frag} {G : Hp}
theorem frep_look : ∀ {fs : List (Str × D)} {fvs : List (Str × V)} {f : Str} {d : D}, FRep K G fs fvs → fs.lookup f = some d → ∃ v, fvs.lookup f = some v ∧ DRep K G d v
  | [], _, _, _, .nil, e => by cases e
  | p :: r, q :: s, f, d, .cons h t, e => by
    rw [List.lookup_cons] at e ⊢
    rw [← h.1]
    split at e
    · cases e
      exact ⟨_, rfl, h.2⟩
    · exact frep_look t e
theorem frep_none : ∀ {fs : List (Str × D)} {fvs : List (Str × V)} {f : Str}, FRep K G fs fvs → fs.lookup f = none → fvs.lookup f = none
  | [], _, _, .nil, e => rfl
  | p :: r, q :: s, f, .cons h t, e => by
    rw [List.lookup_cons] at e ⊢
    rw [← h.1]
    split at e
    · cases e
    · exact frep_none t e
theorem frep_put {f : Str} {d : D} {v : V} (hv : DRep K G d v) : ∀ {fs : List (Str × D)} {fvs : List (Str × V)}, FRep K G fs fvs → FRep K G (putFD f d fs) (putF f v fvs)
  | [], _, .nil => .cons ⟨rfl, hv⟩ .nil
  | p :: r, q :: s, .cons h t => by
    unfold putFD putF
    by_cases c : p.1 = f
    · rw [if_pos c, if_pos (by rw [← h.1]; exact c)]
      exact .cons ⟨h.1, hv⟩ t
    · rw [if_neg c, if_neg (by rw [← h.1]; exact c)]
      exact .cons h (frep_put hv t)
end
def zFld (f : Str) (z : ZT) : ZT := fun ρ S Q => z ρ S fun x S1 => ∃ p C dx fs d, x = .ref p ∧ S1 p = some (.ins C dx fs) ∧ fs.lookup f = some d ∧ Q d S1
/-- o.f = v, o of the class at C -/
def zSetF (C : Addr) (f : Str) (zo zv : ZT) : ZS := fun E ρ S => zv ρ S fun y S1 => zo ρ S1 fun x S2 => ∃ p dx fs, x = .ref p ∧ S2 p = some (.ins C dx fs) ∧ fs.length < 1000 ∧ E.nx ρ (S2.put p (.ins C dx (putFD f y fs)))
def zMeth (C : Addr) (m : Str) (zp : ZC) (zo : ZT) (za : ZTA) : ZT := fun ρ S Q => zo ρ S fun x S1 => ∃ p dx fs, x = .ref p ∧ S1 p = some (.ins C dx fs) ∧ fs.lookup m = none ∧ za ρ S1 fun ds S2 => zp (x :: ds) S2 Q
def zMake (C : Addr) (zp : ZC) (za : ZTA) : ZT := fun ρ S Q => za ρ S fun ds S1 => ∀ x dx, S1 x = none → zp (.ref x :: ds) (S1.put x (.ins C dx [])) fun d S2 => (∃ u, d = .d u ∧ u = .none) ∧ Q (.ref x) S2
section
variable {X : Cx} {o e value : Expr} {es : List Expr} {f m : Str} {pos pos' apos p : Pos} {z zo zv : ZT} {w : ZTA} {C : Addr} {zp : ZC} {x : Str}
theorem ze_fld (cl : Cls X.K C) (na : NoAttr X.K C f) (h : ZE X e z) (hb : attributeBase e f X.env (eval e X.env) = eval e X.env := by rfl) : ZE X (.Attribute e f pos) (fun ρ S Q => z ρ S fun x S1 => ∃ p dx fs d, x = .ref p ∧ S1 p = some (.ins C dx fs) ∧ fs.lookup f = some d ∧ Q d S1) :=
  PE.weak (pe_fld h hb) fun σ H Q ⟨G, S, ρ, R, rp, er, z, k⟩ => ⟨G, S, ρ, _, rp, er, z, fun x S1 v G1 H1 ⟨q, dx, fs, d, e1, e2, e3, z1⟩ s1 r1 => by
    subst e1
    cases r1
    obtain ⟨_, fvs, h1, h2⟩ := s1.rp.cell q _ e2
    obtain ⟨u, h3, h4⟩ := frep_look h2 e3
    exact ⟨q, C, dx, fvs, u, rfl, h1, cl, na, h3, k _ S1 _ G1 H1 z1 s1 h4⟩⟩
theorem zs_fld (cl : Cls X.K C) (na : NoAttr X.K C f) (ho : ZE X o zo) (hv : ZE X value zv) (hs : swapsWith value (some (.Attribute o f pos')) pos.line X.env = pure false := by rfl) : ZSt X (.Assign [.Attribute o f pos'] value pos) (zSetF C f zo zv) :=
  PS.weak (ps_fld ho hv hs) fun D σ H ⟨G, S, ρ, E, rp, er, z, n⟩ => ⟨G, S, ρ, _, rp, er, z, fun y S1 v G1 H1 z1 s1 r1 => ⟨G1, S1, ρ, _, s1.rp, er.mono s1.gg, z1, fun x S2 u G2 H2 ⟨q, dx, fs, e1, e2, e3, z2⟩ s2 r2 => by
    subst e1
    cases r2
    obtain ⟨_, fvs, h1, h2⟩ := s2.rp.cell q _ e2
    have hl : fvs.length = fs.length := (Paired.length h2).symm
    have s3 := Stp.write s2.rp (o := .ins C dx (putF f v fvs)) (c := .ins C dx (putFD f y fs)) e2 ⟨_, upd_same, frep_put (r1.mono s2.gg) h2⟩
    exact ⟨q, C, dx, fvs, rfl, h1, cl, na, by omega, n.nx ρ _ σ _ _ z2 ((s1.trans s2).trans s3) ((er.mono s1.gg).mono s2.gg)⟩⟩⟩
theorem ze_meth {k : Nat} {fa : Addr} {fd : FuncData} {ps : List Str} {pl : Sem Bool} (ho : ZE X o zo) (cl : Cls X.K C) (hm : Meth X.K C m fa) (F : FnOk X.prog X.w X.K X.mg X.base CX0 k fa fd ps (lp X.K zp)) (hr : Room k X.A) (hb : Binds X.K fd ps []) (ha : ZA X (e :: es) w)
    (hst : starEach (e :: es) X.env = (false, eval e X.env) :: starEach es X.env := by rfl) (hpl : (backTo pos (starEach es X.env)).any (·.1) = false := by rfl)
    (ht : eval (.Call (.Attribute o m apos) (e :: es) [] pos) X.env = (do
      let ov ← eval o X.env
      standAt apos.atName
      let (f, first) ← holding [ov] (getMethod ov m pl)
      callWith pos f first (backTo pos (starEach (e :: es) X.env)) (backToKw pos (keywordEach [] X.env))) := by rfl) :
    ZE X (.Call (.Attribute o m apos) (e :: es) [] pos) (zMeth C m zp zo w) := PE.weak (pe_meth (pl := pl) ho cl hm F hr hb .nil pass0 ha hst hpl ht) fun σ H Q ⟨G, S, ρ, R, rp, er, z, k⟩ =>
  ⟨G, S, ρ, _, rp, er, z, fun x S1 v G1 H1 ⟨q, dx, fs, e1, e2, e3, z1⟩ s1 r1 => by
    subst e1
    cases r1
    obtain ⟨_, fvs, h1, h2⟩ := s1.rp.cell q _ e2
    refine ⟨q, dx, fvs, rfl, h1, frep_none h2 e3, G1, S1, ρ, _, s1.rp, er.mono s1.gg, z1, fun ds S2 vs G2 H2 z2 s2 r2 => ?_⟩
    show lp X.K zp (V.ref q :: (vs ++ [])) H2 Q E0
    rw [List.append_nil]
    exact ⟨G2, S2, .ref q :: ds, R, s2.rp, .cons rfl r2, z2, fun d' S' u G' H' qq s3 r3 => k d' S' u G' H' qq ((s1.trans s2).trans s3) r3⟩⟩
theorem ze_meth0 {k : Nat} {fa : Addr} {fd : FuncData} {ps : List Str} {pl : Sem Bool} (ho : ZE X o zo) (cl : Cls X.K C) (hm : Meth X.K C m fa) (F : FnOk X.prog X.w X.K X.mg X.base CX0 k fa fd ps (lp X.K zp)) (hr : Room k X.A) (hb : Binds X.K fd ps [])
    (ht : eval (.Call (.Attribute o m apos) [] [] pos) X.env = (do
      let ov ← eval o X.env
      standAt apos.atName
      let (f, first) ← holding [ov] (getMethod ov m pl)
      callWith pos f first (backTo pos (starEach [] X.env)) (backToKw pos (keywordEach [] X.env))) := by rfl) :
    ZE X (.Call (.Attribute o m apos) [] [] pos) (zMeth C m zp zo zaNil) := PE.weak (pe_meth0 (pl := pl) ho cl hm F hr hb .nil pass0 ht) fun σ H Q ⟨G, S, ρ, R, rp, er, z, k⟩ =>
  ⟨G, S, ρ, _, rp, er, z, fun x S1 v G1 H1 ⟨q, dx, fs, e1, e2, e3, z1⟩ s1 r1 => by
    subst e1
    cases r1
    obtain ⟨_, fvs, h1, h2⟩ := s1.rp.cell q _ e2
    exact ⟨q, dx, fvs, rfl, h1, frep_none h2 e3, G1, S1, [.ref q], R, s1.rp, .cons rfl .nil, z1, fun d' S' u G' H' qq s3 r3 => k d' S' u G' H' qq (s1.trans s3) r3⟩⟩
theorem ze_make {k : Nat} {fa : Addr} {fd : FuncData} {ps : List Str} (M : Mk X.K C fa) (F : FnOk X.prog X.w X.K X.mg X.base CX0 k fa fd ps (lp X.K zp)) (hr : Room (k + 1) X.A) (hg : Gl X x) (hmg : X.mg x = some (.ref C)) (hb : Binds X.K fd ps []) (ha : ZA X (e :: es) w)
    (hdb : (x == ("__debug__" : Str)) = false := by decide) (he : starEach (e :: es) X.env = (false, eval e X.env) :: starEach es X.env := by rfl) (hpl : (backTo pos (starEach es X.env)).any (·.1) = false := by rfl) :
    ZE X (.Call (.Name x p) (e :: es) [] pos) (zMake C zp w) := PE.weak (pe_make M F hr hg hmg hb .nil pass0 ha hdb he hpl) fun σ H Q ⟨G, S, ρ, R, rp, er, z, k⟩ =>
  ⟨G, S, ρ, _, rp, er, z, fun ds S1 vs G1 H1 z1 s1 r1 => fun y dx hy hdx hne => by
    -- the instance's own dict is one more object
    have sa := Stp.new s1.rp (o := .own y) hdx
    have hy2 : (upd H1 dx (.own y)) y = none := by rw [upd_ne (Ne.symm hne)]; exact hy
    have sb := Stp.newC sa.rp (o := .ins C dx []) (c := .ins C dx []) hy2 ⟨[], upd_same, .nil⟩
    show lp X.K zp (V.ref y :: (vs ++ [])) _ _ E0
    rw [List.append_nil]
    refine ⟨_, _, .ref y :: ds, _, sb.rp, .cons rfl ((r1.mono sa.gg).mono sb.gg), z1 y dx (fresh_S s1.rp hy), fun d S2 v G2 H2 ⟨⟨u, ed, eu⟩, q⟩ s2 r2 => ?_⟩
    subst ed eu
    cases r2
    exact ⟨rfl, k _ S2 _ G2 H2 q (((s1.trans sa).trans sb).trans s2) rfl⟩⟩
end

/-! ### targets within an object -/
/-- o[i] = v, o a list that may change -/
def zgSub (zo zi : ZT) : ZG := fun d ρ S Q => zo ρ S fun x S1 => zi ρ S1 fun y S2 => ∃ p xs n u, x = .ref p ∧ S2 p = some (.lst xs) ∧ y = .d (.int (.ofNat n)) ∧ d = .d u ∧ n < xs.length ∧ Q ρ (S2.put p (.lst (xs.set n u)))
theorem ZpAll.set {K : PySem.W.Frag} {G : Hp} {v : V} {d : PyData} (h : Zp K G v d) : ∀ {vs : List V} {ds : List PyData} (n : Nat), ZpAll K G vs ds → ZpAll K G (vs.set n v) (ds.set n d)
  | _, _, _, .nil => .nil
  | _, _, 0, .cons _ t => .cons h t
  | _, _, n + 1, .cons a t => .cons a (ZpAll.set h n t)
section
variable {X : Cx} {o i e : Expr} {f : Str} {zo zi : ZT} {pos : Pos} {C : Addr}
theorem zg_sub (ho : ZE X o zo) (hi : ZE X i zi) (ha : ∀ v, assign (.Subscript o i pos) X.env v = (do
      let ov ← holding [v] (eval o X.env)
      let iv ← holding [v, ov] (eval i X.env)
      standAt pos
      holding [v, ov, iv] (setItem ov iv v)
      release [v, ov, iv] []) := by intro _; rfl) : PG X (.Subscript o i pos) (lg X.K (zgSub zo zi)) := PG.weak (pg_sub ho hi set_list ha) fun v σ H Q ⟨G, S, ρ, d, R, rp, er, rd, z, k⟩ =>
  ⟨G, S, ρ, _, rp, er, z, fun x S1 v1 G1 H1 z1 s1 r1 => ⟨G1, S1, ρ, _, s1.rp, er.mono s1.gg, z1, fun y S2 v2 G2 H2 ⟨p, xs, n, u, e1, e2, e3, e4, e5, z2⟩ s2 r2 => by
    subst e1 e3 e4
    cases r1; cases r2
    obtain ⟨_, ws, h1, h2⟩ := s2.rp.cell p _ e2
    have hl := ZpAll.length h2
    refine ⟨p, ws, Int.ofNat n, n, rfl, rfl, h1, ?_, ?_⟩
    · unfold ixN
      rw [if_pos (show 0 ≤ Int.ofNat n from Int.natCast_nonneg n), if_pos (show Int.ofNat n < (ws.length : Int) by rw [hl]; exact Int.ofNat_lt.mpr e5)]
      rfl
    · have s3 := Stp.write s2.rp (o := .lst (ws.set n v)) (c := .lst (xs.set n u)) e2 ⟨_, upd_same, ZpAll.set (Zp.mono (s1.gg.trans s2.gg) _ _ rd) n h2⟩
      exact k ρ _ σ _ _ z2 ((s1.trans s2).trans s3) ((er.mono s1.gg).mono s2.gg)⟩⟩
end

/-! ### [e for k, v in d.items() ..] -/
def zLcIt (i : Nat) (js : List Nat) (e : ZT) : ZT := fun ρ S Q => ∃ p kvs, ρ[i]? = some (some (.ref p)) ∧ S p = some (.dic kvs) ∧ kvs.length ≤ 1000 ∧
  zLcL (zgTup 2 (zgsN js)) ztYes e (zwipe ρ js) (kvs.map fun q => .tuple [.int q.1, q.2]) [] (S.del p) fun acc S2 => Q (.d (.list acc)) (S2.put p (.dic kvs))
theorem krep_at {K : PySem.W.Frag} {G : Hp} : ∀ {kvs : List (Int × PyData)} {kv : List (Key × V)} {i : Nat} {d : PyData}, KRep K G kvs kv → (kvs.map fun q => PyData.tuple [.int q.1, q.2])[i]? = some d →
    ∃ k v x, kv[i]? = some (Sum.inl k, v) ∧ d = .tuple [.int k, x] ∧ Zp K G v x
  | [], _, i, d, .nil, e => by simp at e
  | p :: r, q :: s, 0, d, .cons h t, e => by
    simp at e
    subst e
    exact ⟨p.1, q.2, p.2, by simp; exact Prod.ext h.1 rfl, rfl, h.2⟩
  | p :: r, q :: s, i + 1, d, .cons h t, e => by
    obtain ⟨k, v, x, a, b, c⟩ := krep_at (i := i) t (by simpa using e)
    exact ⟨k, v, x, by simpa using a, b, c⟩
theorem ze_lcIt {X : Cx} {elt : Expr} {elts : List Expr} {kk : Nat} {tpos apos cpos npos pos : Pos} {x : Str} {scope : Scope} {own : List (Str × Nat)} {i : Nat} {e : ZT} (hc : X.calm = true) (hN : X.N.Nodup)
    (hv : PE X (.Name x npos) (tVar i)) (ok : BlkOk X.N X.env.scope scope own)
    (hg : ∀ (s : Shared) (H : Hp) (C : Addr) (cl : List (Str × Addr)) (fp : List Addr), PG (X.blk s H scope (compEnvC scope cl C X.env) fp) (.Tuple elts kk tpos) (gTup X.K 2 (gsN (own.map (·.2)))))
    (he : ∀ (s : Shared) (H : Hp) (C : Addr) (cl : List (Str × Addr)) (fp : List Addr), ZE (X.blk s H scope (compEnvC scope cl C X.env) fp) elt e) (hs : ∀ x', foldedSetIterable (.Call (.Attribute (.Name x npos) "items" apos) [] [] cpos) X.env x' = pure x' := by intro _; rfl)
    (hbase : attributeBase (.Name x npos) "items" X.env (eval (.Name x npos) X.env) = eval (.Name x npos) X.env := by rfl) (hline : (apos.endLine == cpos.line) = true := by rfl) :
    ZE X (.ListComp elt [⟨.Tuple elts kk tpos, .Call (.Attribute (.Name x npos) "items" apos) [] [] cpos, [], 0⟩] scope pos) (zLcIt i (own.map (·.2)) e) :=
  PE.weak (pe_lock (pe_lc (tt := ltt X.K ztYes) hc hN (pi_items hv hbase hline) ok hg (fun _ _ _ _ _ => zts_nil) he hs)) fun σ H Q ⟨G, S, ρ, R, rp, er, ⟨p, kvs, ei, hp, hl, z⟩, k⟩ => by
    obtain ⟨v, ev, rv⟩ := er.2 i _ ei
    cases rv
    obtain ⟨gp, kv, h1, h2⟩ := rp.cell p _ hp
    refine ⟨p, .dK kv, h1, trivial, fun od => ?_⟩
    -- under the lock p is out of the store
    have rp1 : Rp X.K G (S.del p) (upd H p (.frz od (.dK kv))) := by
      refine ⟨fun a u e => ?_, fun a c e => ?_⟩
      · rw [upd_ne (ne_of_none e gp)]; exact rp.gh a u e
      · by_cases q : a = p
        · subst q; rw [Sto.del_same] at e; cases e
        · rw [Sto.del_ne q] at e
          obtain ⟨c1, c2⟩ := rp.cell a c e
          exact ⟨c1, c2.mono (fun _ _ e => e) (upd_ne q)⟩
    have hkl : kv.length = kvs.length := (Paired.length h2).symm
    refine ⟨_, ev, p, od, kv, rfl, upd_same, fun D hD => ?_⟩
    have wk : WalkZ X.K (Iti p od kv) G (S.del p) (upd H p (.frz od (.dK kv))) (kvs.map fun q => .tuple [.int q.1, q.2]) := by
      unfold WalkZ
      rw [List.length_map, ← hkl]
      refine walk_items.mono (fun H3 q => q.2 p _ upd_same Sto.del_same) fun j H3 y H4 hj q ⟨T, a1, a2, g1, g2, g3, g4, g5⟩ d ed => ?_
      obtain ⟨k', v', x', f1, f2, f3⟩ := krep_at h2 ed
      have g4 : kv[j]?.map (fun kv => kV kv.1) = some a1 := g4
      have g5 : kv[j]?.map Prod.snd = some a2 := g5
      rw [f1] at g4 g5
      cases g4; cases g5
      exact .inr ⟨T, _, _, g1, g2, g3, f2, .cons (.int _) (.cons f3 .nil)⟩
    refine lc_turns (Qd := fun H' => H' p = some (.frz od (.dK kv)) ∧ Q (.ref D) (upd H' p (.dK kv))) gok_tup er rp1 wk (by rw [List.length_map]; exact hl) z hD fun acc S' G' H' q s2 r => ?_
    obtain ⟨k1, k2, k3⟩ := keepD s2 (upd_same (H := H) (a := p)) gp Sto.del_same
    refine ⟨k1, ?_⟩
    have s3 : Stp X.K G S H G' (S'.put p (.dic kvs)) (upd H' p (.dK kv)) := by
      refine ⟨s2.gg, fun a u e n => ?_, fun a e n => ?_, fun a u e => ?_, fun a c e => ?_⟩
      · have ne : a ≠ p := fun q => by rw [q, hp] at n; cases n
        rw [upd_ne ne]
        exact s2.keep a u (by rw [upd_ne ne]; exact e) (by rw [Sto.del_ne ne]; exact n)
      · have ne : a ≠ p := fun q => by rw [q, hp] at n; cases n
        rw [Sto.put_ne ne]
        exact s2.fresh a (by rw [upd_ne ne]; exact e) (by rw [Sto.del_ne ne]; exact n)
      · rw [upd_ne (ne_of_none e k2)]; exact s2.rp.gh a u e
      · by_cases ne : a = p
        · subst ne
          rw [Sto.put_same] at e
          cases e
          exact ⟨k2, kv, upd_same, h2.mono s2.gg⟩
        · rw [Sto.put_ne ne] at e
          obtain ⟨c1, c2⟩ := s2.rp.cell a c e
          exact ⟨c1, c2.mono (fun _ _ e => e) (upd_ne ne)⟩
    exact k _ _ _ _ _ q s3 r
end Z
set_option Elab.async false
set_option linter.all false
set_option maxRecDepth 100000
set_option maxHeartbeats 1000000
namespace Z
open PySem PySem.Spec PyProof.Rows L2
/-! ### // by any number but 0: room for the long division -/
structure Seer (X : Cx) : Prop where
  ns : X.base.NoSeer
  tree : X.prog.given.tree = none
  room : Room 33 X.A
  stk : ∃ l, X.stack = X.env :: l
  gen : X.env.scope.isGenerator = false
  co : X.env.scope.isCoroutine = false
theorem Seer.at {X : Cx} (Sr : Seer X) {pins : List (Addr × Obj)} {σ : L2.St} {H : Hp} {s : Shared} (I : Inv X pins σ H s) : PylongRoom (model X.prog X.w) X.A s := by
  obtain ⟨l, e⟩ := Sr.stk
  have hd : X.A.depth + Builtin.pylongFrames < recursionLimit := by
    have h1 := Sr.room.dp
    show X.A.depth + 100 < recursionLimit
    omega
  exact PylongRoom.of I.nolimit hd (SeerAt.of (Sr.ns.keeps I.bk) Sr.tree (I.ok.frames.trans (congrArg some e)) Sr.gen Sr.co I.ok.blt I.ok.glob)
abbrev zFdiv : ZR2 := zI (fun _ j => j ≠ 0) fun i j => .int (i.fdiv j)
theorem zop_fdiv {X : Cx} (Sr : Seer X) : OpR X (binaryOp .FloorDiv) (lr2 X.K zFdiv) := by
  intro pins s σ H x y v u Q I rx ry q
  have q2 := zI_lift (K := X.K) (g := fun i j => V.int (i.fdiv j)) (fun _ _ _ => .int _) q
  obtain ⟨i, j, rfl, rfl, hj, q3⟩ := q2
  obtain ⟨t, rfl⟩ := rx
  obtain ⟨t', rfl⟩ := ry
  exact floordiv_int hj ⟨.int _, H, I.tok _, ⟨_, rfl⟩, q3⟩ (.inr (Sr.at I))

/-! ### defs by their names -/
def fdK (K : PySem.W.Frag) (a : Addr) : FuncData := match K.lookup a with
  | some ⟨_, _, .func fd, _⟩ => fd
  | _ => PySem.W.fnOf "" "" ⟨[], [], none, [], [], none, []⟩ [] ⟨.function, [], false, false, []⟩ .none .none .none .none none .none .none
/-- a def that the text calls by the name x: it keeps its promise, at a level -/
def Callee (P : Program) (w : World) (K : PySem.W.Frag) (mg : Str → Option Value) (base : Heap) (k : Nat) (x : Str) (n : Nat) (zp : ZC) : Prop :=
  ∃ f fd ps, ps.length = n ∧ FnOk P w K mg base CX0 k f fd ps (lp K zp) ∧ mg x = some (.ref f) ∧ PySem.W.keepIn K (.ref f) = true ∧ Binds K fd ps []
theorem Callee.as {P : Program} {w : World} {K : PySem.W.Frag} {mg : Str → Option Value} {base : Heap} {k : Nat} {x y : Str} {n : Nat} {zp : ZC} (c : Callee P w K mg base k x n zp) (e : mg y = mg x) : Callee P w K mg base k y n zp := by
  obtain ⟨f, fd, ps, h0, h1, h2, h3, h4⟩ := c
  exact ⟨f, fd, ps, h0, h1, e.trans h2, h3, h4⟩
theorem ze_c1 {X : Cx} {j k n : Nat} {x : Str} {p pos : Pos} {e : Expr} {es : List Expr} {w : ZTA} {zc : ZC} (C : Callee X.prog X.w X.K X.mg X.base j x n zc) (hr : Room k X.A) (ha : ZA X (e :: es) w) (hj : j ≤ k := by decide) (hg : Gl X x := by rfl)
    (hdb : (x == ("__debug__" : Str)) = false := by decide) (he : starEach (e :: es) X.env = (false, eval e X.env) :: starEach es X.env := by rfl) (hpl : (backTo pos (starEach es X.env)).any (·.1) = false := by rfl) :
    ZE X (.Call (.Name x p) (e :: es) [] pos) (zCall zc w) := by
  obtain ⟨f, fd, ps, _, h1, h2, h3, h4⟩ := C
  exact ze_call h1 (hr.mono hj) hg h2 h3 h4 ha hdb he hpl
/-- the text's facts, as the head tells them -/
structure Txt (fa : List He.Fa) (fn : List He.DefD) (P : Program) (K : PySem.W.Frag) (mg : Str → Option Value) (base : Heap) : Prop where
  says : He.SaysD fa fn K
  glo : ∀ x, He.Fa.glo x ∈ fa → mg x = some (.ref (He.ga K x))
  free : ∀ x, He.Fa.free x ∈ fa → mg x = none
  int : ∀ x i, He.Fa.int x i ∈ fa → ∃ t, mg x = some (.int i t)
  cls : ∀ x, He.Fa.cls x ∈ fa → Cls K (He.ga K x)
  noat : ∀ x f, He.Fa.noat x f ∈ fa → NoAttr K (He.ga K x) f
  meth : ∀ x m, He.Fa.meth x m ∈ fa → Meth K (He.ga K x) m (He.ma K (He.ga K x) m)
  mkr : ∀ x, He.Fa.mkr x ∈ fa → Mk K (He.ga K x) (He.ma K (He.ga K x) "__init__")
  nought : ∀ H, SqT K H (He.ga K "NOUGHT") [.int 0, .int 1]
  one : ∀ H, SqT K H (He.ga K "ONE") [.int 1, .int 1]
  seer : base.NoSeer
  tree : P.given.tree = none
section
variable {fa : List He.Fa} {fn : List He.DefD} {P : Program} {w : World} {K : PySem.W.Frag} {mg : Str → Option Value} {base : Heap}
theorem Txt.fun_ (T : Txt fa fn P K mg base) (i : Nat) {d : He.DefD} (h : fn[i]? = some d) : ∃ fd, FunD K d.name d.qual d.params d.body d.scope (d.dvs K) (d.kws K) (He.fAd K d.at_) fd := T.says.def_ i h
end
end Z
set_option Elab.async false
set_option linter.all false
set_option maxRecDepth 100000
set_option maxHeartbeats 1000000
namespace Z
open PySem PySem.Spec PyProof.Rows L2
/-! ### the text's facts by their numbers; defs at once -/
section
variable {fa : List He.Fa} {fn : List He.DefD} {P : Program} {w : World} {K : PySem.W.Frag} {mg : Str → Option Value} {base : Heap}
theorem Txt.free_ (T : Txt fa fn P K mg base) (i : Nat) {x : Str} (h : fa[i]? = some (.free x)) : mg x = none := T.free x (List.mem_of_getElem? h)
theorem Txt.glo_ (T : Txt fa fn P K mg base) (i : Nat) {x : Str} (h : fa[i]? = some (.glo x)) : mg x = some (.ref (He.ga K x)) := T.glo x (List.mem_of_getElem? h)
theorem Txt.int_ (T : Txt fa fn P K mg base) (i : Nat) {x : Str} {n : Int} (h : fa[i]? = some (.int x n)) : ∃ t, mg x = some (.int n t) := T.int x n (List.mem_of_getElem? h)
theorem Txt.cls_ (T : Txt fa fn P K mg base) (i : Nat) {x : Str} (h : fa[i]? = some (.cls x)) : Cls K (He.ga K x) := T.cls x (List.mem_of_getElem? h)
theorem Txt.noat_ (T : Txt fa fn P K mg base) (i : Nat) {x f : Str} (h : fa[i]? = some (.noat x f)) : NoAttr K (He.ga K x) f := T.noat x f (List.mem_of_getElem? h)
theorem Txt.meth_ (T : Txt fa fn P K mg base) (i : Nat) {x m : Str} (h : fa[i]? = some (.meth x m)) : Meth K (He.ga K x) m (He.ma K (He.ga K x) m) := T.meth x m (List.mem_of_getElem? h)
theorem Txt.mkr_ (T : Txt fa fn P K mg base) (i : Nat) {x : Str} (h : fa[i]? = some (.mkr x)) : Mk K (He.ga K x) (He.ma K (He.ga K x) "__init__") := T.mkr x (List.mem_of_getElem? h)
/-- a module's int -/
theorem ze_gint_ {X : Cx} {x : Str} {pos : Pos} {i : Int} (hg : Gl X x) (hm : ∃ t, X.mg x = some (.int i t)) (hd : (x == ("__debug__" : Str)) = false := by decide) : ZE X (.Name x pos) (zC (.int i)) := by
  obtain ⟨t, e⟩ := hm
  exact ze_gint hg e hd
/-- binding that needs no heap -/
def PlainBind (d : He.DefD) (ps : List Str) : Prop := ∀ (kV doc pm : Value) (an : Option Addr) (cdv ct : Value) (us : List Value), us.length = ps.length → bindArgs (PySem.W.fnOf d.name d.qual d.params d.body d.scope .none kV doc pm an cdv ct) ⟨us, []⟩ = pure (ps.zip us)
/-- a method that the text calls -/
def CalleeM (P : Program) (w : World) (K : PySem.W.Frag) (mg : Str → Option Value) (base : Heap) (k : Nat) (C f : Addr) (n : Nat) (zp : ZC) : Prop :=
  ∃ fd ps, ps.length = n ∧ FnOk P w K mg base CX0 k f fd ps (lp K zp) ∧ PySem.W.keepIn K (.ref f) = true ∧ Binds K fd ps []
/-- a def's promise, by its body -/
theorem callee (T : Txt fa fn P K mg base) (i j : Nat) {d : He.DefD} {x : Str} {N ps : List Str} {k n : Nat} {zp : ZC} (h : fn[i]? = some d) (hx : fa[j]? = some (.glo x)) (hat : d.at_ = (x, none)) (hd : d.dfl = []) (hn : ps.length = n)
    (hb : PlainBind d ps) (Sc : FnScope N ps d.scope) (len : ∀ ds S Q, zp ds S Q → ds.length = ps.length)
    (hbody : ∀ (f : Addr) (cdv : Value) (A : Around) (outer : List Env) (s : Shared) (H : Hp), Room k (A.deeper (envOfC d.qual d.scope s.heap.objs.size f cdv)) →
      ∃ z, ZSs (cxOf CX0 P w K mg base N d.qual d.scope f cdv A outer s H E0).nox d.body z ∧ ∀ ds S Q, zp ds S Q → z { nx := fun _ S' => Q (.d .none) S', rt := Q } (zstart N ds) S) : Callee P w K mg base (k + 1) x n zp := by
  obtain ⟨fd, F⟩ := T.fun_ i h
  have e1 : d.dvs K = [] := by unfold He.DefD.dvs; rw [hd]; rfl
  have e2 : He.fAd K d.at_ = He.ga K x := by rw [hat]; rfl
  rw [e1, e2] at F
  refine ⟨He.ga K x, fd, ps, hn, ?_, T.glo_ j hx, F.kp, ?_⟩
  · have F2 := F
    obtain ⟨oc, od, dV, kV, doc, pm, an, cdv, ct, osl, rfl, lk, hcd, _, _⟩ := F2.ex
    exact fn_of lk hcd Sc (fun vs H Q E ⟨G, S, ds, R, rp, rd, z, _⟩ => by rw [← Paired.length rd]; exact len ds S R z) fun A outer s H vs Q E hr ⟨G, S, ds, R, rp, rd, z, k⟩ => by
      obtain ⟨t, h1, h2⟩ := hbody (He.ga K x) cdv A outer s H hr
      refine ⟨ls K t, ?_, G, S, zstart N ds, _, rp, start_rep rd, h2 ds S R z, ⟨fun ρ' S' σ' G' H' q s1 _ => k _ S' _ G' H' q s1 .non, fun d S' v G' H' q s1 r => k d S' v G' H' q s1 r, fun _ _ _ _ _ q => q.elim, fun _ _ _ _ _ q => q.elim⟩⟩
      have h3 : PSs (cxOf CX0 P w K mg base N d.qual d.scope (He.ga K x) cdv A outer s H E).nox d.body (ls K t) := h1
      exact PSs.nox h3
  · exact F.bindsN hb
theorem calleeM (T : Txt fa fn P K mg base) (i : Nat) {d : He.DefD} {x m : Str} {N ps : List Str} {k n : Nat} {zp : ZC} (h : fn[i]? = some d) (hat : d.at_ = (x, some m)) (hd : d.dfl = []) (hn : ps.length = n)
    (hb : PlainBind d ps) (Sc : FnScope N ps d.scope) (len : ∀ ds S Q, zp ds S Q → ds.length = ps.length)
    (hbody : ∀ (f : Addr) (cdv : Value) (A : Around) (outer : List Env) (s : Shared) (H : Hp), Room k (A.deeper (envOfC d.qual d.scope s.heap.objs.size f cdv)) →
      ∃ z, ZSs (cxOf CX0 P w K mg base N d.qual d.scope f cdv A outer s H E0).nox d.body z ∧ ∀ ds S Q, zp ds S Q → z { nx := fun _ S' => Q (.d .none) S', rt := Q } (zstart N ds) S) : CalleeM P w K mg base (k + 1) (He.ga K x) (He.ma K (He.ga K x) m) n zp := by
  obtain ⟨fd, F⟩ := T.fun_ i h
  have e1 : d.dvs K = [] := by unfold He.DefD.dvs; rw [hd]; rfl
  have e2 : He.fAd K d.at_ = He.ma K (He.ga K x) m := by rw [hat]; rfl
  rw [e1, e2] at F
  refine ⟨fd, ps, hn, ?_, F.kp, ?_⟩
  · have F2 := F
    obtain ⟨oc, od, dV, kV, doc, pm, an, cdv, ct, osl, rfl, lk, hcd, _, _⟩ := F2.ex
    exact fn_of lk hcd Sc (fun vs H Q E ⟨G, S, ds, R, rp, rd, z, _⟩ => by rw [← Paired.length rd]; exact len ds S R z) fun A outer s H vs Q E hr ⟨G, S, ds, R, rp, rd, z, k⟩ => by
      obtain ⟨t, h1, h2⟩ := hbody (He.ma K (He.ga K x) m) cdv A outer s H hr
      refine ⟨ls K t, ?_, G, S, zstart N ds, _, rp, start_rep rd, h2 ds S R z, ⟨fun ρ' S' σ' G' H' q s1 _ => k _ S' _ G' H' q s1 .non, fun d S' v G' H' q s1 r => k d S' v G' H' q s1 r, fun _ _ _ _ _ q => q.elim, fun _ _ _ _ _ q => q.elim⟩⟩
      have h3 : PSs (cxOf CX0 P w K mg base N d.qual d.scope (He.ma K (He.ga K x) m) cdv A outer s H E).nox d.body (ls K t) := h1
      exact PSs.nox h3
  · exact F.bindsN hb
end
section
variable {X : Cx} {o e : Expr} {es : List Expr} {m x : Str} {pos apos p : Pos} {zo : ZT} {w : ZTA} {C f : Addr} {zp : ZC} {j k n : Nat}
theorem ze_methC {pl : Sem Bool} (cl : Cls X.K C) (hm : Meth X.K C m f) (c : CalleeM X.prog X.w X.K X.mg X.base j C f n zp) (hr : Room k X.A) (ho : ZE X o zo) (ha : ZA X (e :: es) w) (hj : j ≤ k := by decide)
    (hst : starEach (e :: es) X.env = (false, eval e X.env) :: starEach es X.env := by rfl) (hpl : (backTo pos (starEach es X.env)).any (·.1) = false := by rfl)
    (ht : eval (.Call (.Attribute o m apos) (e :: es) [] pos) X.env = (do
      let ov ← eval o X.env
      standAt apos.atName
      let (f, first) ← holding [ov] (getMethod ov m pl)
      callWith pos f first (backTo pos (starEach (e :: es) X.env)) (backToKw pos (keywordEach [] X.env))) := by rfl) :
    ZE X (.Call (.Attribute o m apos) (e :: es) [] pos) (zMeth C m zp zo w) := by
  obtain ⟨fd, ps, _, h1, h2, h3⟩ := c
  exact ze_meth ho cl hm h1 (hr.mono hj) h3 ha hst hpl ht
theorem ze_methC0 {pl : Sem Bool} (cl : Cls X.K C) (hm : Meth X.K C m f) (c : CalleeM X.prog X.w X.K X.mg X.base j C f n zp) (hr : Room k X.A) (ho : ZE X o zo) (hj : j ≤ k := by decide)
    (ht : eval (.Call (.Attribute o m apos) [] [] pos) X.env = (do
      let ov ← eval o X.env
      standAt apos.atName
      let (f, first) ← holding [ov] (getMethod ov m pl)
      callWith pos f first (backTo pos (starEach [] X.env)) (backToKw pos (keywordEach [] X.env))) := by rfl) :
    ZE X (.Call (.Attribute o m apos) [] [] pos) (zMeth C m zp zo zaNil) := by
  obtain ⟨fd, ps, _, h1, h2, h3⟩ := c
  exact ze_meth0 ho cl hm h1 (hr.mono hj) h3 ht
theorem ze_makeC (M : Mk X.K C f) (c : CalleeM X.prog X.w X.K X.mg X.base j C f n zp) (hr : Room k X.A) (hg : Gl X x) (hmg : X.mg x = some (.ref C)) (ha : ZA X (e :: es) w) (hj : j + 1 ≤ k := by decide)
    (hdb : (x == ("__debug__" : Str)) = false := by decide) (he : starEach (e :: es) X.env = (false, eval e X.env) :: starEach es X.env := by rfl) (hpl : (backTo pos (starEach es X.env)).any (·.1) = false := by rfl) :
    ZE X (.Call (.Name x p) (e :: es) [] pos) (zMake C zp w) := by
  obtain ⟨fd, ps, _, h1, h2, h3⟩ := c
  exact ze_make M h1 (hr.mono hj) hg hmg h3 ha hdb he hpl
theorem Roomu {k : Nat} {A : Around} (r : Room k A) (n : Nat) (h : n ≤ 200 := by decide) : A.units + n < cLine := by have := r.un; omega
/-- o.f = .., as a target -/
def zgFld (C : Addr) (f : Str) (zo : ZT) : ZG := fun d ρ S Q => zo ρ S fun x S1 => ∃ p dx fs, x = .ref p ∧ S1 p = some (.ins C dx fs) ∧ fs.length < 1000 ∧ Q ρ (S1.put p (.ins C dx (putFD f d fs)))
theorem zg_fld {g : Str} (cl : Cls X.K C) (na : NoAttr X.K C g) (ho : ZE X o zo) (ha : ∀ v, assign (.Attribute o g pos) X.env v = (do
      let ov ← holding [v] (eval o X.env)
      standAt pos
      holding [v, ov] (setAttr ov g v)
      release [v, ov] []) := by intro _; rfl) : PG X (.Attribute o g pos) (lg X.K (zgFld C g zo)) := by
  refine ⟨fun pins s σ H v u Q I r ⟨G, S, ρ, d, R, rp, er, rd, z, k⟩ => ?_⟩
  rw [ha]
  have h0 : lt X.K zo σ H fun v1 H1 => ∃ G1 S1 x1, (∃ p dx fs, x1 = D.ref p ∧ S1 p = some (.ins C dx fs) ∧ fs.length < 1000 ∧ R ρ (S1.put p (.ins C dx (putFD g d fs)))) ∧ Stp X.K G S H G1 S1 H1 ∧ DRep X.K G1 x1 v1 := ⟨G, S, ρ, _, rp, er, z, fun x S1 v1 G1 H1 q s1 r1 => ⟨G1, S1, x, q, s1, r1⟩⟩
  refine wpAny_bind (wpAny_holding (thn (ho.run pins s σ H _ I h0) fun ov s1 ⟨x, H1, I1, r1, G1, S1, x1, ⟨q, dx, fs, e1, e2, e3, z2⟩, st, rx⟩ => ?_))
  subst e1
  cases rx
  cases r1
  obtain ⟨_, fvs, h1, h2⟩ := st.rp.cell q _ e2
  have hl : fvs.length = fs.length := (Paired.length h2).symm
  refine wpAny_bind (wpAny_standAt (wpAny_bind (wpAny_holding (setattr_ok I1 h1 cl na (by omega) r fun s3 I3 => wpAny_release ⟨σ, _, I3, ?_⟩))))
  have s3 := Stp.write st.rp (o := .ins C dx (putF g v fvs)) (c := .ins C dx (putFD g d fs)) e2 ⟨_, upd_same, frep_put (rd.mono st.gg) h2⟩
  exact k ρ _ σ _ _ z2 (st.trans s3) ((er.mono st.gg).mono s3.gg)
end
end Z
set_option maxRecDepth 512
set_option maxHeartbeats 200000
namespace Sg
/-! ### sums of lists -/
def tot {α : Type} (l : List α) (f : α → Rat) : Rat := (l.map f).sum
theorem tot_nil {α : Type} (f : α → Rat) : tot [] f = 0 := rfl
theorem tot_cons {α : Type} (a : α) (l : List α) (f : α → Rat) : tot (a :: l) f = f a + tot l f := by
  simp [tot]
theorem tot_append {α : Type} (l m : List α) (f : α → Rat) : tot (l ++ m) f = tot l f + tot m f := by
  induction l with
  | nil => rw [List.nil_append, tot_nil]; grind
  | cons a l ih => rw [List.cons_append, tot_cons, tot_cons, ih]; grind
theorem tot_le {α : Type} (l : List α) (f g : α → Rat) (h : ∀ a ∈ l, f a ≤ g a) : tot l f ≤ tot l g := by
  induction l with
  | nil => simp [tot_nil]
  | cons a l ih =>
    rw [tot_cons, tot_cons]
    have h1 := h a (by simp)
    have h2 := ih fun b hb => h b (by simp [hb])
    grind
theorem tot_congr {α : Type} (l : List α) (f g : α → Rat) (h : ∀ a ∈ l, f a = g a) : tot l f = tot l g := by
  induction l with
  | nil => simp [tot_nil]
  | cons a l ih =>
    rw [tot_cons, tot_cons, h a (by simp), ih fun b hb => h b (by simp [hb])]
theorem tot_add {α : Type} (l : List α) (f g : α → Rat) : tot l (fun a => f a + g a) = tot l f + tot l g := by
  induction l with
  | nil => simp only [tot_nil]; grind
  | cons a l ih => rw [tot_cons, tot_cons, tot_cons, ih]; grind
theorem tot_mul {α : Type} (l : List α) (c : Rat) (f : α → Rat) : tot l (fun a => c * f a) = c * tot l f := by
  induction l with
  | nil => simp [tot_nil]
  | cons a l ih => rw [tot_cons, tot_cons, ih]; grind
theorem tot_nonneg {α : Type} (l : List α) (f : α → Rat) (h : ∀ a ∈ l, 0 ≤ f a) : 0 ≤ tot l f := by
  induction l with
  | nil => simp [tot_nil]
  | cons a l ih =>
    rw [tot_cons]
    have h1 := h a (by simp)
    have h2 := ih fun b hb => h b (by simp [hb])
    grind
/-- as the sums are alike and each part is at most the other one, each part is alike -/
theorem tot_eq_parts {α : Type} (l : List α) (f g : α → Rat) (h : ∀ a ∈ l, f a ≤ g a) (e : tot l f = tot l g) : ∀ a ∈ l, f a = g a := by
  induction l with
  | nil => simp
  | cons b l ih =>
    rw [tot_cons, tot_cons] at e
    have h1 := h b (by simp)
    have h2 := tot_le l f g fun a ha => h a (by simp [ha])
    intro a ha
    rcases List.mem_cons.mp ha with rfl | ha
    · grind
    · exact ih (fun a ha => h a (by simp [ha])) (by grind) a ha
theorem tot_map {α β : Type} (l : List α) (g : α → β) (f : β → Rat) : tot (l.map g) f = tot l fun a => f (g a) := by
  simp [tot, Function.comp_def]
theorem tot_perm {α : Type} {l m : List α} (h : l.Perm m) (f : α → Rat) : tot l f = tot m f := by
  induction h with
  | nil => rfl
  | cons a _ ih => rw [tot_cons, tot_cons, ih]
  | swap a b l => rw [tot_cons, tot_cons, tot_cons, tot_cons]; grind
  | trans _ _ h1 h2 => rw [h1, h2]
theorem tot_filter {α : Type} (l : List α) (p : α → Bool) (f : α → Rat) : tot l f = tot (l.filter p) f + tot (l.filter fun a => !p a) f := by
  induction l with
  | nil => simp only [List.filter_nil, tot_nil]; grind
  | cons a l ih =>
    rw [tot_cons, ih, List.filter_cons, List.filter_cons]
    cases h : p a with
    | true => simp only [Bool.not_true, if_true, Bool.false_eq_true, if_false]; rw [tot_cons]; grind
    | false => simp only [Bool.not_false, if_true, Bool.false_eq_true, if_false]; rw [tot_cons]; grind
/-- a least, a greatest one -/
theorem least_ex {α : Type} (l : List α) (f : α → Rat) (h : l ≠ []) : ∃ m ∈ l, ∀ a ∈ l, f m ≤ f a := by
  induction l with
  | nil => exact absurd rfl h
  | cons b l ih =>
    by_cases hl : l = []
    · subst hl; exact ⟨b, by simp, by simp⟩
    · obtain ⟨m, hm, q⟩ := ih hl
      by_cases c : f b ≤ f m
      · refine ⟨b, by simp, fun a ha => ?_⟩
        rcases List.mem_cons.mp ha with rfl | ha
        · grind
        · have := q a ha; grind
      · refine ⟨m, by simp [hm], fun a ha => ?_⟩
        rcases List.mem_cons.mp ha with rfl | ha
        · grind
        · exact q a ha
theorem most_ex {α : Type} (l : List α) (f : α → Rat) (h : l ≠ []) : ∃ m ∈ l, ∀ a ∈ l, f a ≤ f m := by
  obtain ⟨m, hm, q⟩ := least_ex l (fun a => - f a) h
  exact ⟨m, hm, fun a ha => by have := q a ha; grind⟩

/-! ### the price of a rise -/
abbrev Pr := Rat × Rat
def PrOk (pr : Pr) : Prop := 0 < pr.1 ∧ 0 < pr.2
def phi (pr : Pr) (r : Rat) : Rat := if 0 < r then pr.1 * r else -(pr.2 * r)
theorem phi_pos (pr : Pr) {r : Rat} (h : 0 ≤ r) : phi pr r = pr.1 * r := by
  unfold phi
  split
  · rfl
  · have : r = 0 := by grind
    subst this; grind
theorem phi_neg (pr : Pr) {r : Rat} (h : r ≤ 0) : phi pr r = -(pr.2 * r) := by
  unfold phi
  split
  · grind
  · rfl
theorem phi_nonneg {pr : Pr} (hp : PrOk pr) (r : Rat) : 0 ≤ phi pr r := by
  obtain ⟨h1, h2⟩ := hp
  rcases Rat.le_total (a := 0) (b := r) with h | h
  · rw [phi_pos pr h]; exact Rat.mul_nonneg (by grind) h
  · rw [phi_neg pr h]
    have := Rat.mul_nonneg (a := pr.2) (b := -r) (by grind) (by grind)
    grind
theorem phi_mono {pr : Pr} (hp : PrOk pr) {r s : Rat} (h0 : 0 ≤ r) (h : r ≤ s) : phi pr r ≤ phi pr s := by
  obtain ⟨h1, h2⟩ := hp
  rw [phi_pos pr h0, phi_pos pr (by grind)]
  exact Rat.mul_le_mul_of_nonneg_left h (by grind)
theorem phi_anti {pr : Pr} (hp : PrOk pr) {r s : Rat} (h0 : r ≤ 0) (h : s ≤ r) : phi pr r ≤ phi pr s := by
  obtain ⟨h1, h2⟩ := hp
  rw [phi_neg pr h0, phi_neg pr (by grind)]
  have := Rat.mul_le_mul_of_nonneg_left (c := pr.2) (a := -r) (b := -s) (by grind) (by grind)
  grind
/-- a sign within the ends: no more than the price -/
theorem phi_ge {pr : Pr} {w s r : Rat} (h1 : -(pr.2 * w) ≤ s) (h2 : s ≤ pr.1 * w) : s * r ≤ w * phi pr r := by
  rcases Rat.le_total (a := 0) (b := r) with h | h
  · rw [phi_pos pr h]
    have := Rat.mul_le_mul_of_nonneg_right h2 h
    grind
  · rw [phi_neg pr h]
    have := Rat.mul_le_mul_of_nonneg_right (c := -r) h1 (by grind)
    grind
theorem phi_convex {pr : Pr} (hp : PrOk pr) {w a b t : Rat} (hw : 0 ≤ w) (h0 : 0 ≤ t) (h1 : t ≤ 1) : w * phi pr ((1 - t) * a + t * b) ≤ (1 - t) * (w * phi pr a) + t * (w * phi pr b) := by
  obtain ⟨q1, q2⟩ := hp
  have hu : -(pr.2 * w) ≤ pr.1 * w := by
    have a1 := Rat.mul_nonneg (a := pr.1) (b := w) (by grind) hw
    have a2 := Rat.mul_nonneg (a := pr.2) (b := w) (by grind) hw
    grind
  rcases Rat.le_total (a := 0) (b := (1 - t) * a + t * b) with h | h
  · rw [phi_pos pr h]
    have e1 := phi_ge (pr := pr) (w := w) (s := pr.1 * w) (r := a) hu (Rat.le_refl)
    have e2 := phi_ge (pr := pr) (w := w) (s := pr.1 * w) (r := b) hu (Rat.le_refl)
    have f1 := Rat.mul_le_mul_of_nonneg_left (c := 1 - t) e1 (by grind)
    have f2 := Rat.mul_le_mul_of_nonneg_left (c := t) e2 h0
    grind
  · rw [phi_neg pr h]
    have e1 := phi_ge (pr := pr) (w := w) (s := -(pr.2 * w)) (r := a) (Rat.le_refl) hu
    have e2 := phi_ge (pr := pr) (w := w) (s := -(pr.2 * w)) (r := b) (Rat.le_refl) hu
    have f1 := Rat.mul_le_mul_of_nonneg_left (c := 1 - t) e1 (by grind)
    have f2 := Rat.mul_le_mul_of_nonneg_left (c := t) e2 h0
    grind

/-! ### a sum of prices along one number: it is least at a knot -/
structure Tm where
  w : Rat
  a : Rat
  b : Rat
def Fu (pr : Pr) (l : List Tm) (t : Rat) : Rat := tot l fun q => q.w * phi pr (q.a - q.b * t)

theorem lt_or {b : Rat} (h : b ≠ 0) : b < 0 ∨ 0 < b := by
  rcases Rat.le_total (a := b) (b := 0) with c | c
  · exact .inl (by grind)
  · exact .inr (by grind)
/-- a rise a - b t with its knot a / b at k -/
theorem at_knot {q : Tm} (hb : q.b ≠ 0) (t : Rat) : q.a - q.b * t = q.b * (q.a / q.b - t) := by grind
/-- both on one side of the knot: the price goes straight between -/
theorem part_line (pr : Pr) {q : Tm} {l r t : Rat} (h1 : l ≤ t) (h2 : t ≤ r) (h : q.b = 0 ∨ q.a / q.b ≤ l ∨ r ≤ q.a / q.b) :
    (r - l) * (q.w * phi pr (q.a - q.b * t)) = (r - t) * (q.w * phi pr (q.a - q.b * l)) + (t - l) * (q.w * phi pr (q.a - q.b * r)) := by
  by_cases hb : q.b = 0
  · have e : ∀ u : Rat, q.a - q.b * u = q.a := fun u => by rw [hb]; grind
    rw [e, e, e]; grind
  · have key : (0 ≤ q.a - q.b * l ∧ 0 ≤ q.a - q.b * t ∧ 0 ≤ q.a - q.b * r) ∨ (q.a - q.b * l ≤ 0 ∧ q.a - q.b * t ≤ 0 ∧ q.a - q.b * r ≤ 0) := by
      rw [at_knot hb l, at_knot hb t, at_knot hb r]
      generalize q.a / q.b = k at h
      rcases lt_or hb with c | c
      · rcases h with h | h | h
        · exact absurd h hb
        · refine .inl ⟨?_, ?_, ?_⟩
          · have := Rat.mul_nonneg (a := -q.b) (b := l - k) (by grind) (by grind); grind
          · have := Rat.mul_nonneg (a := -q.b) (b := t - k) (by grind) (by grind); grind
          · have := Rat.mul_nonneg (a := -q.b) (b := r - k) (by grind) (by grind); grind
        · refine .inr ⟨?_, ?_, ?_⟩
          · have := Rat.mul_nonneg (a := -q.b) (b := k - l) (by grind) (by grind); grind
          · have := Rat.mul_nonneg (a := -q.b) (b := k - t) (by grind) (by grind); grind
          · have := Rat.mul_nonneg (a := -q.b) (b := k - r) (by grind) (by grind); grind
      · rcases h with h | h | h
        · exact absurd h hb
        · refine .inr ⟨?_, ?_, ?_⟩
          · have := Rat.mul_nonneg (a := q.b) (b := l - k) (by grind) (by grind); grind
          · have := Rat.mul_nonneg (a := q.b) (b := t - k) (by grind) (by grind); grind
          · have := Rat.mul_nonneg (a := q.b) (b := r - k) (by grind) (by grind); grind
        · refine .inl ⟨?_, ?_, ?_⟩
          · have := Rat.mul_nonneg (a := q.b) (b := k - l) (by grind) (by grind); grind
          · have := Rat.mul_nonneg (a := q.b) (b := k - t) (by grind) (by grind); grind
          · have := Rat.mul_nonneg (a := q.b) (b := k - r) (by grind) (by grind); grind
    rcases key with ⟨k1, k2, k3⟩ | ⟨k1, k2, k3⟩
    · rw [phi_pos pr k1, phi_pos pr k2, phi_pos pr k3]; grind
    · rw [phi_neg pr k1, phi_neg pr k2, phi_neg pr k3]; grind
theorem Fu_line (pr : Pr) (L : List Tm) {l r t : Rat} (h1 : l ≤ t) (h2 : t ≤ r) (h : ∀ q ∈ L, q.b = 0 ∨ q.a / q.b ≤ l ∨ r ≤ q.a / q.b) : (r - l) * Fu pr L t = (r - t) * Fu pr L l + (t - l) * Fu pr L r := by
  unfold Fu
  rw [← tot_mul, ← tot_mul, ← tot_mul, ← tot_add]
  exact tot_congr _ _ _ fun q hq => part_line pr h1 h2 (h q hq)
theorem part_out {pr : Pr} (hp : PrOk pr) {q : Tm} {k t : Rat} (hw : 0 ≤ q.w) (h : q.b = 0 ∨ (k ≤ t ∧ q.a / q.b ≤ k) ∨ (t ≤ k ∧ k ≤ q.a / q.b)) :
    q.w * phi pr (q.a - q.b * k) ≤ q.w * phi pr (q.a - q.b * t) := by
  refine Rat.mul_le_mul_of_nonneg_left ?_ hw
  by_cases hb : q.b = 0
  · have e : ∀ u : Rat, q.a - q.b * u = q.a := fun u => by rw [hb]; grind
    rw [e, e]; exact Rat.le_refl
  · rw [at_knot hb k, at_knot hb t]
    generalize q.a / q.b = z at h
    rcases lt_or hb with c | c
    · rcases h with h | ⟨h1, h2⟩ | ⟨h1, h2⟩
      · exact absurd h hb
      · have a1 := Rat.mul_nonneg (a := -q.b) (b := k - z) (by grind) (by grind)
        have a2 := Rat.mul_nonneg (a := -q.b) (b := t - k) (by grind) (by grind)
        exact phi_mono hp (by grind) (by grind)
      · have a1 := Rat.mul_nonneg (a := -q.b) (b := z - k) (by grind) (by grind)
        have a2 := Rat.mul_nonneg (a := -q.b) (b := k - t) (by grind) (by grind)
        exact phi_anti hp (by grind) (by grind)
    · rcases h with h | ⟨h1, h2⟩ | ⟨h1, h2⟩
      · exact absurd h hb
      · have a1 := Rat.mul_nonneg (a := q.b) (b := k - z) (by grind) (by grind)
        have a2 := Rat.mul_nonneg (a := q.b) (b := t - k) (by grind) (by grind)
        exact phi_anti hp (by grind) (by grind)
      · have a1 := Rat.mul_nonneg (a := q.b) (b := z - k) (by grind) (by grind)
        have a2 := Rat.mul_nonneg (a := q.b) (b := k - t) (by grind) (by grind)
        exact phi_mono hp (by grind) (by grind)
theorem knot_least {pr : Pr} (hp : PrOk pr) (L : List Tm) (hw : ∀ q ∈ L, 0 ≤ q.w) (hb : ∃ q ∈ L, q.b ≠ 0) (t : Rat) : ∃ q ∈ L, q.b ≠ 0 ∧ Fu pr L (q.a / q.b) ≤ Fu pr L t := by
  have memL : ∀ {q : Tm}, q ∈ (L.filter fun q => decide (q.b ≠ 0 ∧ q.a / q.b ≤ t)) ↔ q ∈ L ∧ q.b ≠ 0 ∧ q.a / q.b ≤ t := fun {q} => by simp [List.mem_filter]
  have memR : ∀ {q : Tm}, q ∈ (L.filter fun q => decide (q.b ≠ 0 ∧ t ≤ q.a / q.b)) ↔ q ∈ L ∧ q.b ≠ 0 ∧ t ≤ q.a / q.b := fun {q} => by simp [List.mem_filter]
  generalize (L.filter fun q => decide (q.b ≠ 0 ∧ q.a / q.b ≤ t)) = KL at memL
  generalize (L.filter fun q => decide (q.b ≠ 0 ∧ t ≤ q.a / q.b)) = KR at memR
  by_cases c1 : KL = []
  · by_cases c2 : KR = []
    · obtain ⟨q, hq, hq2⟩ := hb
      rcases Rat.le_total (a := q.a / q.b) (b := t) with c | c
      · have := memL.mpr ⟨hq, hq2, c⟩; rw [c1] at this; simp at this
      · have := memR.mpr ⟨hq, hq2, c⟩; rw [c2] at this; simp at this
    · obtain ⟨m, hm, least⟩ := least_ex KR (fun q => q.a / q.b) c2
      obtain ⟨m1, m2, m3⟩ := memR.mp hm
      refine ⟨m, m1, m2, ?_⟩
      unfold Fu
      refine tot_le _ _ _ fun q hq => part_out hp (hw q hq) ?_
      by_cases hqb : q.b = 0
      · exact .inl hqb
      · refine .inr (.inr ⟨m3, ?_⟩)
        rcases Rat.le_total (a := q.a / q.b) (b := t) with c | c
        · have := memL.mpr ⟨hq, hqb, c⟩; rw [c1] at this; simp at this
        · exact least q (memR.mpr ⟨hq, hqb, c⟩)
  · obtain ⟨l, hl, most⟩ := most_ex KL (fun q => q.a / q.b) c1
    obtain ⟨l1, l2, l3⟩ := memL.mp hl
    by_cases c2 : KR = []
    · refine ⟨l, l1, l2, ?_⟩
      unfold Fu
      refine tot_le _ _ _ fun q hq => part_out hp (hw q hq) ?_
      by_cases hqb : q.b = 0
      · exact .inl hqb
      · refine .inr (.inl ⟨l3, ?_⟩)
        rcases Rat.le_total (a := q.a / q.b) (b := t) with c | c
        · exact most q (memL.mpr ⟨hq, hqb, c⟩)
        · have := memR.mpr ⟨hq, hqb, c⟩; rw [c2] at this; simp at this
    · obtain ⟨r, hr, least⟩ := least_ex KR (fun q => q.a / q.b) c2
      obtain ⟨r1, r2, r3⟩ := memR.mp hr
      have e := Fu_line pr L l3 r3 fun q hq => by
        by_cases hqb : q.b = 0
        · exact .inl hqb
        · rcases Rat.le_total (a := q.a / q.b) (b := t) with c | c
          · exact .inr (.inl (most q (memL.mpr ⟨hq, hqb, c⟩)))
          · exact .inr (.inr (least q (memR.mpr ⟨hq, hqb, c⟩)))
      by_cases g1 : Fu pr L (l.a / l.b) ≤ Fu pr L t
      · exact ⟨l, l1, l2, g1⟩
      · refine ⟨r, r1, r2, ?_⟩
        by_cases g2 : Fu pr L (r.a / r.b) ≤ Fu pr L t
        · exact g2
        · exfalso
          generalize l.a / l.b = x at *
          generalize r.a / r.b = y at *
          by_cases z : x = t
          · rw [z] at g1; exact g1 Rat.le_refl
          · have p1 := Rat.mul_pos (a := t - x) (b := Fu pr L y - Fu pr L t) (by grind) (by grind)
            have p2 := Rat.mul_nonneg (a := y - t) (b := Fu pr L x - Fu pr L t) (by grind) (by grind)
            grind
end Sg
set_option maxRecDepth 512
set_option maxHeartbeats 200000
namespace Sg
/-! ### points and lines -/
structure Pt where
  x : Rat
  y : Rat
  w : Rat
deriving DecidableEq
abbrev Ln := Rat × Rat
def stand (l : Ln) (x : Rat) : Rat := l.1 + l.2 * x
def rise (p : Pt) (l : Ln) : Rat := p.y - stand l p.x
/-- the program's own reckoning -/
def sums (ps : List Pt) (l : Ln) : Rat × Rat := ps.foldl (fun s p => if 0 < rise p l then (s.1 + p.w * rise p l, s.2) else (s.1, s.2 - p.w * rise p l)) (0, 0)
def cost (ps : List Pt) (pr : Pr) (l : Ln) : Rat := (sums ps l).1 * pr.1 + (sums ps l).2 * pr.2
def PsOk (ps : List Pt) : Prop := ∀ p ∈ ps, 0 < p.w
def Spread (ps : List Pt) : Prop := ∃ a ∈ ps, ∃ b ∈ ps, a.x ≠ b.x
theorem sums_from (pr : Pr) (l : Ln) : ∀ (ps : List Pt) (s : Rat × Rat),
    (ps.foldl (fun s p => if 0 < rise p l then (s.1 + p.w * rise p l, s.2) else (s.1, s.2 - p.w * rise p l)) s).1 * pr.1 + (ps.foldl (fun s p => if 0 < rise p l then (s.1 + p.w * rise p l, s.2) else (s.1, s.2 - p.w * rise p l)) s).2 * pr.2 =
      s.1 * pr.1 + s.2 * pr.2 + tot ps fun p => p.w * phi pr (rise p l)
  | [], s => by rw [tot_nil]; simp only [List.foldl_nil]; grind
  | p :: ps, s => by
    rw [List.foldl_cons, sums_from pr l ps, tot_cons]
    unfold phi
    by_cases h : 0 < rise p l
    · rw [if_pos h, if_pos h]; grind
    · rw [if_neg h, if_neg h]; grind
theorem cost_eq (ps : List Pt) (pr : Pr) (l : Ln) : cost ps pr l = tot ps fun p => p.w * phi pr (rise p l) := by
  unfold cost sums
  rw [sums_from pr l ps (0, 0)]
  grind
theorem cost_cons (p : Pt) (ps : List Pt) (pr : Pr) (l : Ln) : cost (p :: ps) pr l = p.w * phi pr (rise p l) + cost ps pr l := by
  rw [cost_eq, cost_eq, tot_cons]
theorem cost_append (ps qs : List Pt) (pr : Pr) (l : Ln) : cost (ps ++ qs) pr l = cost ps pr l + cost qs pr l := by
  rw [cost_eq, cost_eq, cost_eq, tot_append]
theorem cost_nonneg {ps : List Pt} {pr : Pr} (hp : PrOk pr) (ho : PsOk ps) (l : Ln) : 0 ≤ cost ps pr l := by
  rw [cost_eq]
  refine tot_nonneg _ _ fun p h => Rat.mul_nonneg ?_ (phi_nonneg hp _)
  have := ho p h; grind
/-- the line between two lines -/
def mix (t : Rat) (a b : Ln) : Ln := ((1 - t) * a.1 + t * b.1, (1 - t) * a.2 + t * b.2)
theorem rise_mix (p : Pt) (t : Rat) (a b : Ln) : rise p (mix t a b) = (1 - t) * rise p a + t * rise p b := by
  unfold rise stand mix; grind
theorem cost_convex {ps : List Pt} {pr : Pr} (hp : PrOk pr) (ho : PsOk ps) (a b : Ln) {t : Rat} (h0 : 0 ≤ t) (h1 : t ≤ 1) : cost ps pr (mix t a b) ≤ (1 - t) * cost ps pr a + t * cost ps pr b := by
  rw [cost_eq, cost_eq, cost_eq, ← tot_mul, ← tot_mul, ← tot_add]
  refine tot_le _ _ _ fun p h => ?_
  rw [rise_mix]
  have := ho p h
  exact phi_convex hp (by grind) h0 h1

/-! ### lines through two points -/
def through (a b : Pt) : Ln := (a.y - (b.y - a.y) / (b.x - a.x) * a.x, (b.y - a.y) / (b.x - a.x))
theorem rise_left (a b : Pt) : rise a (through a b) = 0 := by unfold rise stand through; grind
theorem rise_right {a b : Pt} (h : a.x ≠ b.x) : rise b (through a b) = 0 := by
  have h2 : b.x - a.x ≠ 0 := by grind
  have e : (b.y - a.y) / (b.x - a.x) * (b.x - a.x) = b.y - a.y := by grind
  unfold rise stand through
  grind
theorem line_unique {a b : Pt} {l m : Ln} (h : a.x ≠ b.x) (h1 : rise a l = 0) (h2 : rise b l = 0) (h3 : rise a m = 0) (h4 : rise b m = 0) : l = m := by
  unfold rise stand at *
  have e : (l.2 - m.2) * (a.x - b.x) = 0 := by grind
  have h5 : l.2 = m.2 := by
    rcases Rat.mul_eq_zero.mp e with z | z <;> grind
  have h6 : l.1 = m.1 := by rw [h5] at h1; grind
  exact Prod.ext h6 h5
theorem through_eq {a b : Pt} {l : Ln} (h : a.x ≠ b.x) (h1 : rise a l = 0) (h2 : rise b l = 0) : through a b = l := line_unique h (rise_left a b) (rise_right h) h1 h2
/-- a pair line of points -/
def IsPair (ps : List Pt) (l : Ln) : Prop := ∃ a ∈ ps, ∃ b ∈ ps, a.x ≠ b.x ∧ rise a l = 0 ∧ rise b l = 0
theorem IsPair.spread {ps : List Pt} {l : Ln} (h : IsPair ps l) : Spread ps := let ⟨a, ha, b, hb, n, _⟩ := h; ⟨a, ha, b, hb, n⟩
theorem Spread.other {ps : List Pt} (h : Spread ps) (p : Pt) : ∃ q ∈ ps, q.x ≠ p.x := by
  obtain ⟨a, ha, b, hb, n⟩ := h
  by_cases c : a.x = p.x
  · exact ⟨b, hb, by grind⟩
  · exact ⟨a, ha, c⟩
/-- the lines through a point of the plane -/
def turn (x y s : Rat) : Ln := (y - s * x, s)
theorem rise_turn (p : Pt) (x y s : Rat) : rise p (turn x y s) = (p.y - y) - (p.x - x) * s := by unfold rise stand turn; grind
theorem turn_eq {p : Pt} {l : Ln} (h : rise p l = 0) : turn p.x p.y l.2 = l := by
  unfold rise stand at h
  unfold turn
  exact Prod.ext (by grind) rfl
theorem cost_turn (ps : List Pt) (pr : Pr) (x y s : Rat) : cost ps pr (turn x y s) = Fu pr (ps.map fun p => ⟨p.w, p.y - y, p.x - x⟩) s := by
  rw [cost_eq]
  unfold Fu
  rw [tot_map]
  exact tot_congr _ _ _ fun p _ => by rw [rise_turn]
/-- PENCIL: of the lines through a point p a pair line through p costs least -/
theorem pencil {ps : List Pt} {pr : Pr} (hp : PrOk pr) (ho : PsOk ps) (hs : Spread ps) {p : Pt} (hm : p ∈ ps) {n : Ln} (hn : rise p n = 0) : ∃ l, IsPair ps l ∧ rise p l = 0 ∧ cost ps pr l ≤ cost ps pr n := by
  obtain ⟨q, hq, hne⟩ := hs.other p
  obtain ⟨t, ht, hb, hle⟩ := knot_least hp (ps.map fun r => (⟨r.w, r.y - p.y, r.x - p.x⟩ : Tm)) (fun t ht => by
    obtain ⟨r, hr, rfl⟩ := List.mem_map.mp ht
    have := ho r hr; show 0 ≤ r.w; grind) ⟨⟨q.w, q.y - p.y, q.x - p.x⟩, List.mem_map.mpr ⟨q, hq, rfl⟩, by show q.x - p.x ≠ 0; grind⟩ n.2
  obtain ⟨r, hr, rfl⟩ := List.mem_map.mp ht
  rw [← cost_turn, ← cost_turn, turn_eq hn] at hle
  have hb : r.x - p.x ≠ 0 := hb
  refine ⟨_, ⟨p, hm, r, hr, by grind, ?_, ?_⟩, ?_, hle⟩
  · rw [rise_turn]; grind
  · rw [rise_turn]
    show r.y - p.y - (r.x - p.x) * ((r.y - p.y) / (r.x - p.x)) = 0
    grind
  · rw [rise_turn]; grind
/-- any line: one through a point costs no more -/
theorem shift_least {ps : List Pt} {pr : Pr} (hp : PrOk pr) (ho : PsOk ps) (hne : ps ≠ []) (n : Ln) : ∃ p ∈ ps, ∃ l : Ln, rise p l = 0 ∧ cost ps pr l ≤ cost ps pr n := by
  have e : ∀ h : Rat, cost ps pr (h, n.2) = Fu pr (ps.map fun p => ⟨p.w, p.y - n.2 * p.x, 1⟩) h := fun h => by
    rw [cost_eq]
    unfold Fu
    rw [tot_map]
    exact tot_congr _ _ _ fun p _ => by
      show p.w * phi pr (rise p (h, n.2)) = p.w * phi pr (p.y - n.2 * p.x - 1 * h)
      congr 2
      unfold rise stand; grind
  obtain ⟨p0, h0⟩ := List.exists_mem_of_ne_nil _ hne
  obtain ⟨t, ht, hb, hle⟩ := knot_least hp (ps.map fun p => (⟨p.w, p.y - n.2 * p.x, 1⟩ : Tm)) (fun t ht => by
    obtain ⟨r, hr, rfl⟩ := List.mem_map.mp ht
    have := ho r hr; show 0 ≤ r.w; grind) ⟨⟨p0.w, p0.y - n.2 * p0.x, 1⟩, List.mem_map.mpr ⟨p0, h0, rfl⟩, by show (1 : Rat) ≠ 0; decide⟩ n.1
  obtain ⟨r, hr, rfl⟩ := List.mem_map.mp ht
  rw [← e, ← e] at hle
  refine ⟨r, hr, _, ?_, hle⟩
  show rise r ((r.y - n.2 * r.x) / 1, n.2) = 0
  unfold rise stand; grind
/-- PAIR LINES: some pair line costs no more than a line -/
theorem pair_least {ps : List Pt} {pr : Pr} (hp : PrOk pr) (ho : PsOk ps) (hs : Spread ps) (n : Ln) : ∃ l, IsPair ps l ∧ cost ps pr l ≤ cost ps pr n := by
  obtain ⟨a, ha, _⟩ := id hs
  obtain ⟨p, hm, l, h1, h2⟩ := shift_least hp ho (List.ne_nil_of_mem ha) n
  obtain ⟨m, h3, _, h4⟩ := pencil hp ho hs hm h1
  exact ⟨m, h3, Rat.le_trans h4 h2⟩
/-- best: no line costs less -/
def Best (ps : List Pt) (pr : Pr) (l : Ln) : Prop := ∀ m, cost ps pr l ≤ cost ps pr m
theorem best_of_pairs {ps : List Pt} {pr : Pr} (hp : PrOk pr) (ho : PsOk ps) (hs : Spread ps) {l : Ln} (h : ∀ m, IsPair ps m → cost ps pr l ≤ cost ps pr m) : Best ps pr l := fun n => by
  obtain ⟨m, h1, h2⟩ := pair_least hp ho hs n
  exact Rat.le_trans (h m h1) h2

/-- all pair lines in a list -/
theorem pairs_list (ps : List Pt) : ∃ L : List Ln, ∀ l, l ∈ L ↔ IsPair ps l := by
  refine ⟨ps.flatMap fun a => (ps.filter fun b => decide (a.x ≠ b.x)).map (through a), fun l => ?_⟩
  simp only [List.mem_flatMap, List.mem_map, List.mem_filter, decide_eq_true_eq]
  constructor
  · rintro ⟨a, ha, b, ⟨hb, hn⟩, rfl⟩
    exact ⟨a, ha, b, hb, hn, rise_left a b, rise_right hn⟩
  · rintro ⟨a, ha, b, hb, hn, h1, h2⟩
    exact ⟨a, ha, b, ⟨hb, hn⟩, through_eq hn h1 h2⟩
theorem best_pair {ps : List Pt} {pr : Pr} (hp : PrOk pr) (ho : PsOk ps) (hs : Spread ps) : ∃ l, IsPair ps l ∧ Best ps pr l := by
  obtain ⟨L, hL⟩ := pairs_list ps
  obtain ⟨m, h1, _⟩ := pair_least hp ho hs ((0, 0) : Ln)
  obtain ⟨b, hb, least⟩ := least_ex L (cost ps pr) (List.ne_nil_of_mem ((hL m).mpr h1))
  exact ⟨b, (hL b).mp hb, best_of_pairs hp ho hs fun m hm => least m ((hL m).mpr hm)⟩

theorem div_pos {a b : Rat} (ha : 0 < a) (hb : 0 < b) : 0 < a / b := by
  have e : a / b * b = a := by grind
  rcases Rat.le_total (a := a / b) (b := 0) with z | z
  · have := Rat.mul_nonneg (a := -(a / b)) (b := b) (by grind) (by grind)
    grind
  · by_cases c : a / b = 0
    · rw [c] at e; grind
    · grind

/-! ### a point farther out -/
theorem outward {pre suf : List Pt} {p p' : Pt} {pr : Pr} {sg : Rat} (hp : PrOk pr) (ho : PsOk (pre ++ p :: suf)) (hs : Spread (pre ++ p :: suf)) (hx : p'.x = p.x) (hw : p'.w = p.w)
    (hsg : sg = 1 ∨ sg = -1) (hout : 0 < sg * (p'.y - p.y)) (hcor : ∀ l, IsPair (pre ++ p :: suf) l → Best (pre ++ p :: suf) pr l → 0 < sg * rise p l) :
    ∀ l, (IsPair (pre ++ p' :: suf) l ∧ Best (pre ++ p' :: suf) pr l) ↔ (IsPair (pre ++ p :: suf) l ∧ Best (pre ++ p :: suf) pr l) := by
  have hmem : p ∈ pre ++ p :: suf := by simp
  have hwp : 0 < p.w := ho p hmem
  obtain ⟨u1, u2⟩ := id hp
  -- what is added
  have costs : ∀ l, cost (pre ++ p' :: suf) pr l = cost (pre ++ p :: suf) pr l + p.w * (phi pr (rise p' l) - phi pr (rise p l)) := fun l => by
    rw [cost_append, cost_append, cost_cons, cost_cons, hw]; grind
  have ho' : PsOk (pre ++ p' :: suf) := fun q hq => by
    rcases List.mem_append.mp hq with h | h
    · exact ho q (by simp [h])
    · rcases List.mem_cons.mp h with rfl | h
      · rw [hw]; exact hwp
      · exact ho q (by simp [h])
  have rises : ∀ l, rise p' l = rise p l + (p'.y - p.y) := fun l => by unfold rise; rw [hx]; grind
  obtain ⟨c, hc, hphi⟩ : ∃ c : Rat, 0 < c ∧ ∀ l, 0 ≤ sg * rise p l → phi pr (rise p' l) - phi pr (rise p l) = c := by
    rcases hsg with rfl | rfl
    · refine ⟨pr.1 * (p'.y - p.y), Rat.mul_pos u1 (by grind), fun l h => ?_⟩
      rw [rises, phi_pos pr (by grind), phi_pos pr (by grind)]; grind
    · refine ⟨pr.2 * (p.y - p'.y), Rat.mul_pos u2 (by grind), fun l h => ?_⟩
      rw [rises, phi_neg pr (by grind), phi_neg pr (by grind)]; grind
  have hsame : ∀ l, 0 < sg * rise p l → 0 < sg * rise p' l := fun l h => by rw [rises]; grind
  obtain ⟨b, hb, hbl⟩ := best_pair hp ho hs
  have hpos := hcor b hb hbl
  have cb : cost (pre ++ p' :: suf) pr b = cost (pre ++ p :: suf) pr b + p.w * c := by rw [costs, hphi b (by grind)]
  have hpc : 0 < p.w * c := Rat.mul_pos hwp hc
  -- a line through p is not best ahead
  have thr : ∀ n, rise p n = 0 → cost (pre ++ p :: suf) pr b < cost (pre ++ p :: suf) pr n := fun n hn => by
    obtain ⟨m, h1, h2, h3⟩ := pencil (ps := pre ++ p :: suf) hp ho hs hmem hn
    have h4 := hbl n
    by_cases e : cost (pre ++ p :: suf) pr b = cost (pre ++ p :: suf) pr n
    · have hm : Best (pre ++ p :: suf) pr m := fun k => by have := hbl k; grind
      have := hcor m h1 hm
      rw [h2] at this; grind
    · grind
  -- a line on whose far side p lies costs more behind
  have far : ∀ n, sg * rise p n ≤ 0 → cost (pre ++ p' :: suf) pr b < cost (pre ++ p' :: suf) pr n := fun n hn => by
    have hd : 0 < sg * rise p b - sg * rise p n := by grind
    -- where the line between goes through p
    generalize ht : (sg * rise p b) / (sg * rise p b - sg * rise p n) = t
    have ht0 : 0 < t := by rw [← ht]; exact div_pos hpos hd
    have et : t * (sg * rise p b - sg * rise p n) = sg * rise p b := by rw [← ht]; grind
    have ht1 : t ≤ 1 := by
      rcases Rat.le_total (a := t) (b := 1) with z | z
      · exact z
      · have := Rat.mul_nonneg (a := t - 1) (b := sg * rise p b - sg * rise p n) (by grind) (by grind)
        have e2 : sg * rise p n = 0 := by grind
        have e3 : (t - 1) * (sg * rise p b) = 0 := by grind
        rcases Rat.mul_eq_zero.mp e3 with z | z <;> grind
    have hr : rise p (mix t b n) = 0 := by
      rw [rise_mix]
      rcases hsg with rfl | rfl <;> grind
    have h1 := thr _ hr
    have h2 := cost_convex hp ho' b n (t := t) (by grind) ht1
    have h3 : cost (pre ++ p' :: suf) pr (mix t b n) = cost (pre ++ p :: suf) pr (mix t b n) + p.w * c := by rw [costs, hphi _ (by rw [hr]; grind)]
    rcases Rat.le_total (a := cost (pre ++ p' :: suf) pr n) (b := cost (pre ++ p' :: suf) pr b) with z | z
    · have := Rat.mul_nonneg (a := t) (b := cost (pre ++ p' :: suf) pr b - cost (pre ++ p' :: suf) pr n) (by grind) (by grind)
      grind
    · by_cases e : cost (pre ++ p' :: suf) pr b = cost (pre ++ p' :: suf) pr n
      · rw [← e] at h2; grind
      · grind
  have near : ∀ n, 0 < sg * rise p n → cost (pre ++ p' :: suf) pr n = cost (pre ++ p :: suf) pr n + p.w * c := fun n h => by rw [costs, hphi n (by grind)]
  have bb : Best (pre ++ p' :: suf) pr b := fun n => by
    by_cases h : 0 < sg * rise p n
    · rw [cb, near n h]; have := hbl n; grind
    · have := far n (by grind); grind
  intro l
  constructor
  · rintro ⟨⟨a, ha, d, hd, hn, h1, h2⟩, hl⟩
    have hpl : 0 < sg * rise p l := by
      by_cases h : 0 < sg * rise p l
      · exact h
      · have z1 := far l (by grind); have z2 := hl b; grind
    have hp'l := hsame l hpl
    have inn : ∀ q, q ∈ pre ++ p' :: suf → rise q l = 0 → q ∈ pre ++ p :: suf := fun q hq hz => by
      rcases List.mem_append.mp hq with h | h
      · simp [h]
      · rcases List.mem_cons.mp h with rfl | h
        · rw [hz] at hp'l; grind
        · simp [h]
    refine ⟨⟨a, inn a ha h1, d, inn d hd h2, hn, h1, h2⟩, fun n => ?_⟩
    have z1 := near l hpl
    have z2 := hl b
    have z3 := hbl n
    grind
  · rintro ⟨⟨a, ha, d, hd, hn, h1, h2⟩, hl⟩
    have hpl := hcor l ⟨a, ha, d, hd, hn, h1, h2⟩ hl
    have inn : ∀ q, q ∈ pre ++ p :: suf → rise q l = 0 → q ∈ pre ++ p' :: suf := fun q hq hz => by
      rcases List.mem_append.mp hq with h | h
      · simp [h]
      · rcases List.mem_cons.mp h with rfl | h
        · rw [hz] at hpl; grind
        · simp [h]
    refine ⟨⟨a, inn a ha h1, d, inn d hd h2, hn, h1, h2⟩, fun n => ?_⟩
    have z1 := near l hpl
    have z2 := hl b
    have z3 := bb n
    grind
end Sg
set_option maxRecDepth 512
set_option maxHeartbeats 200000
namespace Sg
/-! ### fillings -/
/-- the program's own filling: each as great as can be till what is left is used up -/
def fillGo (lo hi : Nat → Rat) : List Nat → Rat → List (Nat × Rat) × Rat
  | [], left => ([], left)
  | k :: ks, left =>
    let room := hi k - lo k
    let more := if left < room then left else room
    let r := fillGo lo hi ks (left - more)
    ((k, lo k + more) :: r.1, r.2)
def filled (lo hi : Nat → Rat) (ks : List Nat) (total : Rat) : Option (List (Nat × Rat)) :=
  let left := total - tot ks lo
  if left < 0 then none else if (fillGo lo hi ks left).2 = 0 then some (fillGo lo hi ks left).1 else none
theorem fillGo_keys (lo hi : Nat → Rat) : ∀ (ks : List Nat) (left : Rat), (fillGo lo hi ks left).1.map (·.1) = ks
  | [], _ => rfl
  | k :: ks, left => by simp [fillGo, fillGo_keys lo hi ks]
theorem fillGo_none (lo hi : Nat → Rat) : ∀ (ks : List Nat), (∀ k ∈ ks, lo k ≤ hi k) → fillGo lo hi ks 0 = (ks.map fun k => (k, lo k), 0)
  | [], _ => rfl
  | k :: ks, h => by
    have h1 := h k (by simp)
    have e : (if (0 : Rat) < hi k - lo k then (0 : Rat) else hi k - lo k) = 0 := by split <;> grind
    simp only [fillGo, e]
    have e2 : (0 : Rat) - 0 = 0 := by grind
    rw [e2, fillGo_none lo hi ks fun a ha => h a (by simp [ha])]
    simp only [List.map_cons, Prod.mk.injEq, List.cons.injEq, true_and, and_true]
    grind
theorem fillGo_spec (lo hi : Nat → Rat) : ∀ (ks : List Nat) (left : Rat), (∀ k ∈ ks, lo k ≤ hi k) → 0 ≤ left → left ≤ tot ks (fun k => hi k - lo k) → ks ≠ [] →
    (fillGo lo hi ks left).2 = 0 ∧ ∃ pre j s suf, ks = pre ++ j :: suf ∧ (fillGo lo hi ks left).1 = (pre.map fun k => (k, hi k)) ++ (j, s) :: (suf.map fun k => (k, lo k)) ∧ lo j ≤ s ∧ s ≤ hi j
  | [], _, _, _, _, h => absurd rfl h
  | k :: ks, left, h, h0, h1, _ => by
    have hk := h k (by simp)
    have hks : ∀ a ∈ ks, lo a ≤ hi a := fun a ha => h a (by simp [ha])
    rw [tot_cons] at h1
    by_cases c : left < hi k - lo k
    · have e : fillGo lo hi (k :: ks) left = ((k, lo k + left) :: ks.map fun k => (k, lo k), 0) := by
        simp only [fillGo, if_pos c]
        have e2 : left - left = 0 := by grind
        rw [e2, fillGo_none lo hi ks hks]
      rw [e]
      exact ⟨rfl, [], k, lo k + left, ks, rfl, rfl, by grind, by grind⟩
    · have e : fillGo lo hi (k :: ks) left = ((k, hi k) :: (fillGo lo hi ks (left - (hi k - lo k))).1, (fillGo lo hi ks (left - (hi k - lo k))).2) := by
        simp only [fillGo, if_neg c]
        have e2 : lo k + (hi k - lo k) = hi k := by grind
        rw [e2]
      rw [e]
      by_cases hn : ks = []
      · subst hn
        rw [tot_nil] at h1
        refine ⟨?_, [], k, hi k, [], rfl, rfl, hk, Rat.le_refl⟩
        show left - (hi k - lo k) = 0
        grind
      · obtain ⟨r1, pre, j, s, suf, r2, r3, r4, r5⟩ := fillGo_spec lo hi ks (left - (hi k - lo k)) hks (by grind) (by grind) hn
        refine ⟨r1, k :: pre, j, s, suf, by rw [r2]; rfl, ?_, r4, r5⟩
        show (k, hi k) :: (fillGo lo hi ks (left - (hi k - lo k))).1 = _
        rw [r3]; rfl
theorem fillGo_sum (lo hi : Nat → Rat) : ∀ (ks : List Nat) (left : Rat), tot (fillGo lo hi ks left).1 (fun q => q.2) = tot ks lo + left - (fillGo lo hi ks left).2
  | [], left => by simp only [fillGo, tot_nil]; grind
  | k :: ks, left => by
    simp only [fillGo]
    rw [tot_cons, tot_cons, fillGo_sum lo hi ks]
    grind
/-- the moment of a filling about its pivot -/
theorem pivot_rise (lo hi X : Nat → Rat) (pre suf : List Nat) (j : Nat) (s : Rat) (h1 : ∀ k ∈ pre, X k ≤ X j) (h2 : ∀ k ∈ suf, X j ≤ X k) :
    tot ((pre.map fun k => (k, hi k)) ++ (j, s) :: (suf.map fun k => (k, lo k))) (fun q => q.2 * (X q.1 - X j)) = tot (pre ++ j :: suf) fun k => if X k < X j then hi k * (X k - X j) else lo k * (X k - X j) := by
  rw [tot_append, tot_append, tot_cons, tot_cons, tot_map, tot_map]
  have e1 := tot_congr pre (fun k => hi k * (X k - X j)) (fun k => if X k < X j then hi k * (X k - X j) else lo k * (X k - X j)) fun k hk => by
    have := h1 k hk
    split
    · rfl
    · have : X k = X j := by grind
      rw [this]; grind
  have e2 := tot_congr suf (fun k => lo k * (X k - X j)) (fun k => if X k < X j then hi k * (X k - X j) else lo k * (X k - X j)) fun k hk => by
    have := h2 k hk
    rw [if_neg (by grind)]
  rw [← e1, ← e2]
  rw [if_neg (by grind)]
  grind
theorem pivot_fall (lo hi X : Nat → Rat) (pre suf : List Nat) (j : Nat) (s : Rat) (h1 : ∀ k ∈ pre, X j ≤ X k) (h2 : ∀ k ∈ suf, X k ≤ X j) :
    tot ((pre.map fun k => (k, hi k)) ++ (j, s) :: (suf.map fun k => (k, lo k))) (fun q => q.2 * (X q.1 - X j)) = tot (pre ++ j :: suf) fun k => if X k < X j then lo k * (X k - X j) else hi k * (X k - X j) := by
  rw [tot_append, tot_append, tot_cons, tot_cons, tot_map, tot_map]
  have e1 := tot_congr pre (fun k => hi k * (X k - X j)) (fun k => if X k < X j then lo k * (X k - X j) else hi k * (X k - X j)) fun k hk => by
    have := h1 k hk
    rw [if_neg (by grind)]
  have e2 := tot_congr suf (fun k => lo k * (X k - X j)) (fun k => if X k < X j then lo k * (X k - X j) else hi k * (X k - X j)) fun k hk => by
    have := h2 k hk
    split
    · rfl
    · have : X k = X j := by grind
      rw [this]; grind
  rw [← e1, ← e2]
  rw [if_neg (by grind)]
  grind
theorem moment_about (l : List (Nat × Rat)) (X : Nat → Rat) (c : Rat) : tot l (fun q => q.2 * (X q.1 - c)) = tot l (fun q => q.2 * X q.1) - c * tot l (fun q => q.2) := by
  rw [← tot_mul]
  have : tot l (fun q => q.2 * X q.1) = tot l (fun q => q.2 * (X q.1 - c) + c * q.2) := tot_congr _ _ _ fun q _ => by grind
  rw [this, tot_add]; grind

/-! ### by rising x -/
def insX (X : Nat → Rat) : List Nat → Nat → List Nat
  | [], k => [k]
  | f :: fs, k => if X k < X f then k :: f :: fs else f :: insX X fs k
def byX (X : Nat → Rat) (ks : List Nat) : List Nat := ks.foldl (insX X) []
theorem insX_perm (X : Nat → Rat) : ∀ (fs : List Nat) (k : Nat), (insX X fs k).Perm (k :: fs)
  | [], k => List.Perm.refl _
  | f :: fs, k => by
    unfold insX
    split
    · exact List.Perm.refl _
    · exact ((insX_perm X fs k).cons f).trans (List.Perm.swap k f fs)
theorem byX_from (X : Nat → Rat) : ∀ (ks acc : List Nat), (ks.foldl (insX X) acc).Perm (acc ++ ks)
  | [], acc => by simp
  | k :: ks, acc => by
    rw [List.foldl_cons]
    refine (byX_from X ks _).trans ?_
    refine ((insX_perm X acc k).append_right ks).trans ?_
    simpa using List.perm_middle.symm
theorem byX_perm (X : Nat → Rat) (ks : List Nat) : (byX X ks).Perm ks := by
  show (ks.foldl (insX X) []).Perm ks
  simpa using byX_from X ks []
theorem insX_sorted (X : Nat → Rat) : ∀ (fs : List Nat) (k : Nat), fs.Pairwise (fun a b => X a ≤ X b) → (insX X fs k).Pairwise (fun a b => X a ≤ X b)
  | [], k, _ => by simp [insX]
  | f :: fs, k, h => by
    obtain ⟨h1, h2⟩ := List.pairwise_cons.mp h
    unfold insX
    split
    · rename_i c
      refine List.pairwise_cons.mpr ⟨fun a ha => ?_, h⟩
      rcases List.mem_cons.mp ha with rfl | ha
      · grind
      · have := h1 a ha; grind
    · rename_i c
      refine List.pairwise_cons.mpr ⟨fun a ha => ?_, insX_sorted X fs k h2⟩
      rcases List.mem_cons.mp ((insX_perm X fs k).mem_iff.mp ha) with rfl | ha
      · grind
      · exact h1 a ha
theorem byX_sorted (X : Nat → Rat) (ks : List Nat) : (byX X ks).Pairwise (fun a b => X a ≤ X b) := by
  have go : ∀ (ks acc : List Nat), acc.Pairwise (fun a b => X a ≤ X b) → (ks.foldl (insX X) acc).Pairwise (fun a b => X a ≤ X b) := by
    intro ks
    induction ks with
    | nil => intro acc h; exact h
    | cons k ks ih => intro acc h; exact ih _ (insX_sorted X acc k h)
  exact go ks [] List.Pairwise.nil

/-! ### signs of points on a line -/
def momentOf (X : Nat → Rat) (f : List (Nat × Rat)) : Rat := tot f fun q => q.2 * X q.1
def shareOf (low high wanted : Rat) : Option Rat :=
  if low = high then (if low = wanted then some 1 else none)
  else if (high - wanted) / (high - low) < 0 ∨ 1 < (high - wanted) / (high - low) then none else some ((high - wanted) / (high - low))
def at0 (f : List (Nat × Rat)) (k : Nat) : Rat := (f.lookup k).getD 0
def balancedOn (X lo hi : Nat → Rat) (on : List Nat) (total wanted : Rat) : Option (List (Nat × Rat)) :=
  match filled lo hi (byX X on) total with
  | none => none
  | some left => match filled lo hi (byX X on).reverse total with
    | none => none
    | some right => match shareOf (momentOf X left) (momentOf X right) wanted with
      | none => none
      | some share => some (on.map fun k => (k, share * at0 left k + (1 - share) * at0 right k))
theorem at0_of {f : List (Nat × Rat)} {q : Nat × Rat} (hn : (f.map (·.1)).Nodup) (h : q ∈ f) : at0 f q.1 = q.2 := by
  unfold at0
  induction f with
  | nil => simp at h
  | cons p f ih =>
    rw [List.map_cons, List.nodup_cons] at hn
    obtain ⟨pk, pv⟩ := p
    obtain ⟨qk, qv⟩ := q
    rw [List.lookup_cons]
    rcases List.mem_cons.mp h with e | h
    · cases e; simp
    · have ne : qk ≠ pk := fun e => hn.1 (by rw [← e]; exact List.mem_map.mpr ⟨(qk, qv), h, rfl⟩)
      have : (qk == pk) = false := by simpa using ne
      simp only [this]
      exact ih hn.2 h
theorem tot_at0 {f : List (Nat × Rat)} {ks : List Nat} (hk : (f.map (·.1)).Perm ks) (hn : ks.Nodup) (g : Nat → Rat → Rat) : tot ks (fun k => g k (at0 f k)) = tot f fun q => g q.1 q.2 := by
  have hn' : (f.map (·.1)).Nodup := hk.nodup_iff.mpr hn
  rw [← tot_perm hk, tot_map]
  exact tot_congr _ _ _ fun q hq => by rw [at0_of hn' hq]
theorem shareOf_some {low high wanted : Rat} (h1 : low ≤ wanted) (h2 : wanted ≤ high) : ∃ s, shareOf low high wanted = some s ∧ 0 ≤ s ∧ s ≤ 1 ∧ s * low + (1 - s) * high = wanted := by
  unfold shareOf
  by_cases c : low = high
  · have : low = wanted := by grind
    rw [if_pos c, if_pos this]
    exact ⟨1, rfl, by decide, by decide, by grind⟩
  · rw [if_neg c]
    have hd : 0 < high - low := by grind
    generalize hs : (high - wanted) / (high - low) = s
    have e : s * (high - low) = high - wanted := by rw [← hs]; grind
    have s0 : 0 ≤ s := by
      rcases Rat.le_total (a := 0) (b := s) with z | z
      · exact z
      · have := Rat.mul_nonneg (a := -s) (b := high - low) (by grind) (by grind)
        have e2 : s * (high - low) = 0 := by grind
        rcases Rat.mul_eq_zero.mp e2 with z | z <;> grind
    have s1 : s ≤ 1 := by
      rcases Rat.le_total (a := s) (b := 1) with z | z
      · exact z
      · have := Rat.mul_nonneg (a := s - 1) (b := high - low) (by grind) (by grind)
        have e2 : (s - 1) * (high - low) = 0 := by grind
        rcases Rat.mul_eq_zero.mp e2 with z | z <;> grind
    rw [if_neg (by grind)]
    exact ⟨s, rfl, s0, s1, by grind⟩
end Sg
set_option maxRecDepth 512
set_option maxHeartbeats 200000
namespace Sg
/-! ### signs: what the program tells -/
def loS (pr : Pr) (w : Rat) : Rat := -(pr.2 * w)
def hiS (pr : Pr) (w : Rat) : Rat := pr.1 * w
def offS (pr : Pr) (w r : Rat) : Rat := if 0 < r then hiS pr w else if r < 0 then loS pr w else 0
def pt0 : Pt := ⟨0, 0, 1⟩
def ptAt (ps : List Pt) (k : Nat) : Pt := ps.getD k pt0
def onOf (ps : List Pt) (l : Ln) : List Nat := (List.range ps.length).filter fun k => decide (rise (ptAt ps k) l = 0)
def signAt (pr : Pr) (ps : List Pt) (l : Ln) (f : List (Nat × Rat)) (k : Nat) : Rat := (f.lookup k).getD (offS pr (ptAt ps k).w (rise (ptAt ps k) l))
def signsOf (ps : List Pt) (pr : Pr) (l : Ln) : Option (List Rat) :=
  match balancedOn (fun k => (ptAt ps k).x) (fun k => loS pr (ptAt ps k).w) (fun k => hiS pr (ptAt ps k).w) (onOf ps l)
      (-(tot (List.range ps.length) fun k => offS pr (ptAt ps k).w (rise (ptAt ps k) l))) (-(tot (List.range ps.length) fun k => offS pr (ptAt ps k).w (rise (ptAt ps k) l) * (ptAt ps k).x)) with
  | none => none
  | some f => some ((List.range ps.length).map (signAt pr ps l f))
/-- signs that fit a line -/
structure Fits (ps : List Pt) (pr : Pr) (l : Ln) (s : Nat → Rat) : Prop where
  lo : ∀ k < ps.length, loS pr (ptAt ps k).w ≤ s k
  hi : ∀ k < ps.length, s k ≤ hiS pr (ptAt ps k).w
  sum : tot (List.range ps.length) s = 0
  mom : tot (List.range ps.length) (fun k => s k * (ptAt ps k).x) = 0
  off : ∀ k < ps.length, rise (ptAt ps k) l ≠ 0 → s k = offS pr (ptAt ps k).w (rise (ptAt ps k) l)
theorem tot_range (ps : List Pt) (f : Pt → Rat) : tot (List.range ps.length) (fun k => f (ptAt ps k)) = tot ps f := by
  unfold tot
  congr 1
  apply List.ext_getElem
  · simp
  · intro i h1 h2
    have h3 : i < ps.length := by simpa using h2
    simp [ptAt, h3]
theorem ptAt_mem {ps : List Pt} {k : Nat} (h : k < ps.length) : ptAt ps k ∈ ps := by
  unfold ptAt
  rw [List.getD_eq_getElem?_getD, List.getElem?_eq_getElem h]
  exact List.getElem_mem h
theorem mem_ptAt {ps : List Pt} {p : Pt} (h : p ∈ ps) : ∃ k < ps.length, ptAt ps k = p := by
  obtain ⟨k, hk, e⟩ := List.getElem_of_mem h
  refine ⟨k, hk, ?_⟩
  unfold ptAt
  rw [List.getD_eq_getElem?_getD, List.getElem?_eq_getElem hk, ← e]; rfl
theorem lo_le_hi {pr : Pr} (hp : PrOk pr) {w : Rat} (hw : 0 ≤ w) : loS pr w ≤ hiS pr w := by
  have h1 := Rat.mul_nonneg (a := pr.1) (b := w) (by have := hp.1; grind) hw
  have h2 := Rat.mul_nonneg (a := pr.2) (b := w) (by have := hp.2; grind) hw
  unfold loS hiS; grind
/-- weak: what fits some line is worth no more than any line -/
theorem Fits.best {ps : List Pt} {pr : Pr} {l : Ln} {s : Nat → Rat} (F : Fits ps pr l s) : Best ps pr l := fun m => by
  have val : ∀ n : Ln, tot (List.range ps.length) (fun k => s k * rise (ptAt ps k) n) = tot (List.range ps.length) (fun k => s k * (ptAt ps k).y) := fun n => by
    have e : tot (List.range ps.length) (fun k => s k * rise (ptAt ps k) n) = tot (List.range ps.length) (fun k => s k * (ptAt ps k).y + ((-n.1) * s k + (-n.2) * (s k * (ptAt ps k).x))) :=
      tot_congr _ _ _ fun k _ => by unfold rise stand; grind
    rw [e, tot_add, tot_add, tot_mul, tot_mul, F.sum, F.mom]; grind
  have h1 : cost ps pr l = tot (List.range ps.length) (fun k => s k * rise (ptAt ps k) l) := by
    rw [cost_eq, ← tot_range ps fun p => p.w * phi pr (rise p l)]
    refine tot_congr _ _ _ fun k hk => ?_
    have hk := List.mem_range.mp hk
    by_cases c : rise (ptAt ps k) l = 0
    · rw [c, phi_pos pr Rat.le_refl]; grind
    · rw [F.off k hk c]
      unfold offS
      by_cases d : 0 < rise (ptAt ps k) l
      · rw [if_pos d, phi_pos pr (by grind)]; unfold hiS; grind
      · rw [if_neg d, if_pos (by grind), phi_neg pr (by grind)]; unfold loS; grind
  have h2 : tot (List.range ps.length) (fun k => s k * rise (ptAt ps k) m) ≤ cost ps pr m := by
    rw [cost_eq, ← tot_range ps fun p => p.w * phi pr (rise p m)]
    refine tot_le _ _ _ fun k hk => ?_
    have hk := List.mem_range.mp hk
    exact phi_ge (F.lo k hk) (F.hi k hk)
  rw [h1, val l, ← val m]
  exact h2
/-- what fits a line fits each best one -/
theorem Fits.all {ps : List Pt} {pr : Pr} {l m : Ln} {s : Nat → Rat} (hp : PrOk pr) (ho : PsOk ps) (F : Fits ps pr l s) (hm : Best ps pr m) : Fits ps pr m s := by
  refine ⟨F.lo, F.hi, F.sum, F.mom, ?_⟩
  have val : ∀ n : Ln, tot (List.range ps.length) (fun k => s k * rise (ptAt ps k) n) = tot (List.range ps.length) (fun k => s k * (ptAt ps k).y) := fun n => by
    have e : tot (List.range ps.length) (fun k => s k * rise (ptAt ps k) n) = tot (List.range ps.length) (fun k => s k * (ptAt ps k).y + ((-n.1) * s k + (-n.2) * (s k * (ptAt ps k).x))) :=
      tot_congr _ _ _ fun k _ => by unfold rise stand; grind
    rw [e, tot_add, tot_add, tot_mul, tot_mul, F.sum, F.mom]; grind
  have h1 : cost ps pr l = tot (List.range ps.length) (fun k => s k * rise (ptAt ps k) l) := by
    rw [cost_eq, ← tot_range ps fun p => p.w * phi pr (rise p l)]
    refine tot_congr _ _ _ fun k hk => ?_
    have hk := List.mem_range.mp hk
    by_cases c : rise (ptAt ps k) l = 0
    · rw [c, phi_pos pr Rat.le_refl]; grind
    · rw [F.off k hk c]
      unfold offS
      by_cases d : 0 < rise (ptAt ps k) l
      · rw [if_pos d, phi_pos pr (by grind)]; unfold hiS; grind
      · rw [if_neg d, if_pos (by grind), phi_neg pr (by grind)]; unfold loS; grind
  have e : tot (List.range ps.length) (fun k => s k * rise (ptAt ps k) m) = tot (List.range ps.length) (fun k => (ptAt ps k).w * phi pr (rise (ptAt ps k) m)) := by
    rw [tot_range ps fun p => p.w * phi pr (rise p m), ← cost_eq, val m, ← val l, ← h1]
    have a1 := F.best m
    have a2 := hm l
    grind
  have parts := tot_eq_parts _ _ _ (fun k hk => phi_ge (F.lo k (List.mem_range.mp hk)) (F.hi k (List.mem_range.mp hk))) e
  intro k hk hr
  have hk2 := parts k (List.mem_range.mpr hk)
  unfold offS
  by_cases d : 0 < rise (ptAt ps k) m
  · rw [if_pos d]
    rw [phi_pos pr (by grind)] at hk2
    have z : (s k - hiS pr (ptAt ps k).w) * rise (ptAt ps k) m = 0 := by unfold hiS; grind
    rcases Rat.mul_eq_zero.mp z with z | z <;> grind
  · rw [if_neg d, if_pos (by grind)]
    rw [phi_neg pr (by grind)] at hk2
    have z : (s k - loS pr (ptAt ps k).w) * rise (ptAt ps k) m = 0 := by unfold loS; grind
    rcases Rat.mul_eq_zero.mp z with z | z <;> grind

/-! ### a line that is turned a little -/
/-- how the cost grows as the line is turned about c (sg 1: up to the right) -/
def grow (pr : Pr) (l : Ln) (c sg : Rat) (p : Pt) : Rat := if rise p l = 0 then p.w * phi pr (-(sg * (p.x - c))) else -(offS pr p.w (rise p l) * (sg * (p.x - c)))
def tilt (l : Ln) (c sg t : Rat) : Ln := (l.1 - t * sg * c, l.2 + t * sg)
theorem rise_tilt (p : Pt) (l : Ln) (c sg t : Rat) : rise p (tilt l c sg t) = rise p l - t * (sg * (p.x - c)) := by unfold rise stand tilt; grind
theorem step_ex (l : Ln) (c sg : Rat) : ∀ ps : List Pt, ∃ t : Rat, 0 < t ∧ ∀ p ∈ ps, (0 < rise p l → t * (sg * (p.x - c)) ≤ rise p l) ∧ (rise p l < 0 → rise p l ≤ t * (sg * (p.x - c)))
  | [] => ⟨1, by decide, by simp⟩
  | p :: ps => by
    obtain ⟨t, h0, h⟩ := step_ex l c sg ps
    -- a smaller step does as well
    have smaller : ∀ u, 0 < u → u ≤ t → ∀ q ∈ ps, (0 < rise q l → u * (sg * (q.x - c)) ≤ rise q l) ∧ (rise q l < 0 → rise q l ≤ u * (sg * (q.x - c))) := fun u hu hut q hq => by
      obtain ⟨h1, h2⟩ := h q hq
      generalize sg * (q.x - c) = d at *
      constructor
      · intro hr
        rcases Rat.le_total (a := 0) (b := d) with z | z
        · have := Rat.mul_le_mul_of_nonneg_right hut z; have := h1 hr; grind
        · have := Rat.mul_nonneg (a := u) (b := -d) (by grind) (by grind); grind
      · intro hr
        rcases Rat.le_total (a := 0) (b := d) with z | z
        · have := Rat.mul_nonneg (a := u) (b := d) (by grind) (by grind); grind
        · have := Rat.mul_le_mul_of_nonneg_right (c := -d) hut (by grind); have := h2 hr; grind
    -- for p alone
    obtain ⟨v, v0, hv⟩ : ∃ v : Rat, 0 < v ∧ ∀ u, 0 < u → u ≤ v → (0 < rise p l → u * (sg * (p.x - c)) ≤ rise p l) ∧ (rise p l < 0 → rise p l ≤ u * (sg * (p.x - c))) := by
      generalize sg * (p.x - c) = d
      generalize rise p l = r
      by_cases hr : r = 0
      · exact ⟨1, by decide, fun u _ _ => ⟨fun a => by grind, fun a => by grind⟩⟩
      · by_cases hd : d = 0
        · exact ⟨1, by decide, fun u _ _ => ⟨fun a => by rw [hd]; grind, fun a => by rw [hd]; grind⟩⟩
        · -- v = |r| / |d|
          have pos : ∃ v : Rat, 0 < v ∧ (v * d = r ∨ v * d = -r) := by
            rcases lt_or hr with a | a <;> rcases lt_or hd with b | b
            · exact ⟨(-r) / (-d), div_pos (by grind) (by grind), .inl (by grind)⟩
            · exact ⟨(-r) / d, div_pos (by grind) b, .inr (by grind)⟩
            · exact ⟨r / (-d), div_pos a (by grind), .inr (by grind)⟩
            · exact ⟨r / d, div_pos a b, .inl (by grind)⟩
          obtain ⟨v, v0, e⟩ := pos
          refine ⟨v, v0, fun u hu huv => ?_⟩
          rcases Rat.le_total (a := 0) (b := d) with z | z
          · have a1 := Rat.mul_le_mul_of_nonneg_right huv z
            have a2 := Rat.mul_nonneg (a := u) (b := d) (by grind) z
            constructor <;> intro hr2 <;> rcases e with e | e <;> grind
          · have a1 := Rat.mul_le_mul_of_nonneg_right (c := -d) huv (by grind)
            have a2 := Rat.mul_nonneg (a := u) (b := -d) (by grind) (by grind)
            constructor <;> intro hr2 <;> rcases e with e | e <;> grind
    by_cases c2 : t ≤ v
    · refine ⟨t, h0, fun q hq => ?_⟩
      rcases List.mem_cons.mp hq with rfl | hq
      · exact hv t h0 c2
      · exact h q hq
    · refine ⟨v, v0, fun q hq => ?_⟩
      rcases List.mem_cons.mp hq with rfl | hq
      · exact hv v v0 Rat.le_refl
      · exact smaller v v0 (by grind) q hq
theorem tilt_cost {ps : List Pt} {pr : Pr} (l : Ln) (c sg : Rat) : ∃ t : Rat, 0 < t ∧ cost ps pr (tilt l c sg t) = cost ps pr l + t * tot ps (grow pr l c sg) := by
  obtain ⟨t, h0, h⟩ := step_ex l c sg ps
  refine ⟨t, h0, ?_⟩
  rw [cost_eq, cost_eq, ← tot_mul, ← tot_add]
  refine tot_congr _ _ _ fun p hp => ?_
  obtain ⟨h1, h2⟩ := h p hp
  rw [rise_tilt]
  unfold grow
  by_cases z : rise p l = 0
  · rw [if_pos z, z, phi_pos pr (r := 0) Rat.le_refl]
    have e : (0 : Rat) - t * (sg * (p.x - c)) = t * (-(sg * (p.x - c))) := by grind
    rw [e]
    generalize -(sg * (p.x - c)) = d
    rcases Rat.le_total (a := 0) (b := d) with a | a
    · rw [phi_pos pr a, phi_pos pr (Rat.mul_nonneg (by grind) a)]; grind
    · have := Rat.mul_nonneg (a := t) (b := -d) (by grind) (by grind)
      rw [phi_neg pr a, phi_neg pr (by grind)]; grind
  · rw [if_neg z]
    unfold offS
    by_cases d : 0 < rise p l
    · have := h1 d
      rw [if_pos d, phi_pos pr (by grind), phi_pos pr (by grind)]; unfold hiS; grind
    · have := h2 (by grind)
      rw [if_neg d, if_pos (by grind), phi_neg pr (by grind), phi_neg pr (by grind)]; unfold loS; grind
/-- best among the lines through each of its own points -/
def LocBest (ps : List Pt) (pr : Pr) (l : Ln) : Prop := ∀ p ∈ ps, rise p l = 0 → ∀ n, rise p n = 0 → cost ps pr l ≤ cost ps pr n
theorem LocBest.grow {ps : List Pt} {pr : Pr} {l : Ln} (h : LocBest ps pr l) {p : Pt} (hp : p ∈ ps) (hr : rise p l = 0) (sg : Rat) : 0 ≤ tot ps (grow pr l p.x sg) := by
  obtain ⟨t, h0, e⟩ := tilt_cost (ps := ps) (pr := pr) l p.x sg
  have h1 := h p hp hr (tilt l p.x sg t) (by rw [rise_tilt, hr]; grind)
  rw [e] at h1
  rcases Rat.le_total (a := 0) (b := tot ps (Sg.grow pr l p.x sg)) with z | z
  · exact z
  · have := Rat.mul_nonneg (a := t) (b := -(tot ps (Sg.grow pr l p.x sg))) (by grind) (by grind)
    have e2 : t * tot ps (Sg.grow pr l p.x sg) = 0 := by grind
    rcases Rat.mul_eq_zero.mp e2 with z | z <;> grind
end Sg
set_option Elab.async false
set_option linter.all false
set_option maxRecDepth 100000
set_option maxHeartbeats 1000000
namespace Z
open PySem PySem.Spec PyProof.Rows L2
/-! ### fractions as data -/
def frP (q : Rat) : PyData := .tuple [.int q.num, .int q.den]
abbrev fr (q : Rat) : D := .d (frP q)
def prP (a b : Rat) : PyData := .tuple [frP a, frP b]
def lnP (l : Sg.Ln) : PyData := prP l.1 l.2
def ptP (p : Sg.Pt) : PyData := .tuple [frP p.x, frP p.y, frP p.w]
abbrev ptsP (ps : List Sg.Pt) : PyData := .list (ps.map ptP)
abbrev lnsP (ls : List Sg.Ln) : PyData := .list (ls.map lnP)
theorem fr0 : PyData.tuple [.int 0, .int 1] = frP 0 := rfl
theorem fr1 : PyData.tuple [.int 1, .int 1] = frP 1 := rfl

/-! ### equality -/
theorem shaped_of {d : PyData} (n : Nat) (h : d.canLay0 = true) (h2 : d.depth ≤ n) (h3 : n ≤ 64 := by decide) : SeqAt.shaped d = true := by
  show (d.canLay0 && decide (d.depth ≤ 64)) = true
  rw [h, decide_eq_true (by omega)]; rfl
theorem lay_list {α : Type} (f : α → PyData) (hf : ∀ a, (f a).canLay0 = true) : ∀ l : List α, PyData.canLayAll0 (l.map f) = true
  | [] => by simp [PyData.canLayAll0]
  | a :: l => by simp only [List.map_cons, PyData.canLayAll0, hf a, lay_list f hf l, Bool.and_self]
theorem depth_list {α : Type} (f : α → PyData) (n : Nat) (hf : ∀ a, (f a).depth ≤ n) : ∀ l : List α, PyData.depthAll (l.map f) ≤ n
  | [] => by simp [PyData.depthAll]
  | a :: l => by
    have h1 := hf a
    have h2 := depth_list f n hf l
    simp only [List.map_cons, PyData.depthAll]
    omega
theorem lay_fr (q : Rat) : (frP q).canLay0 = true := by simp [frP, PyData.canLay0, PyData.canLayAll0]
theorem dep_fr (q : Rat) : (frP q).depth ≤ 1 := by simp [frP, PyData.depth, PyData.depthAll]
theorem lay_pr (a b : Rat) : (prP a b).canLay0 = true := by simp [prP, PyData.canLay0, PyData.canLayAll0, lay_fr]
theorem dep_pr (a b : Rat) : (prP a b).depth ≤ 2 := by
  have h1 := dep_fr a
  have h2 := dep_fr b
  simp only [prP, PyData.depth, PyData.depthAll]; omega
theorem lay_ln (l : Sg.Ln) : (lnP l).canLay0 = true := lay_pr _ _
theorem dep_ln (l : Sg.Ln) : (lnP l).depth ≤ 2 := dep_pr _ _
theorem lay_pt (p : Sg.Pt) : (ptP p).canLay0 = true := by simp [ptP, PyData.canLay0, PyData.canLayAll0, lay_fr]
theorem dep_pt (p : Sg.Pt) : (ptP p).depth ≤ 2 := by
  have h1 := dep_fr p.x
  have h2 := dep_fr p.y
  have h3 := dep_fr p.w
  simp only [ptP, PyData.depth, PyData.depthAll]; omega
theorem eqv_fr (q r : Rat) : PyData.eqv (frP q) (frP r) = decide (q = r) := by
  have e : PyData.eqv (frP q) (frP r) = ((q.num == r.num) && (((q.den : Int) == (r.den : Int)) && true)) := by simp only [frP, PyData.eqv, PyData.eqvAll]
  rw [e]
  by_cases h : q = r
  · subst h; simp
  · rw [decide_eq_false h]
    by_cases h1 : q.num = r.num
    · by_cases h2 : q.den = r.den
      · exact absurd (Rat.ext h1 h2) h
      · have : ((q.den : Int) == (r.den : Int)) = false := beq_eq_false_iff_ne.mpr (by omega)
        rw [this]; simp
    · have : (q.num == r.num) = false := beq_eq_false_iff_ne.mpr h1
      rw [this]; simp
theorem eqv_list {α : Type} [DecidableEq α] (f : α → PyData) (hf : ∀ a b, PyData.eqv (f a) (f b) = decide (a = b)) : ∀ l m : List α, PyData.eqvAll (l.map f) (m.map f) = decide (l = m)
  | [], [] => by simp [PyData.eqvAll]
  | [], b :: m => by simp [PyData.eqvAll]
  | a :: l, [] => by simp [PyData.eqvAll]
  | a :: l, b :: m => by
    simp only [List.map_cons, PyData.eqvAll, hf a b, eqv_list f hf l m]
    by_cases h1 : a = b <;> by_cases h2 : l = m <;> simp [h1, h2]
theorem eqv_pr (a b c d : Rat) : PyData.eqv (prP a b) (prP c d) = decide ((a, b) = (c, d)) := by
  have e : PyData.eqv (prP a b) (prP c d) = (PyData.eqv (frP a) (frP c) && (PyData.eqv (frP b) (frP d) && true)) := by simp only [prP, PyData.eqv, PyData.eqvAll]
  rw [e, eqv_fr, eqv_fr]
  by_cases h1 : a = c <;> by_cases h2 : b = d <;> simp [h1, h2]
theorem eqv_ln (l m : Sg.Ln) : PyData.eqv (lnP l) (lnP m) = decide (l = m) := eqv_pr _ _ _ _
theorem eqv_pt (p q : Sg.Pt) : PyData.eqv (ptP p) (ptP q) = decide (p = q) := by
  have e : PyData.eqv (ptP p) (ptP q) = (PyData.eqv (frP p.x) (frP q.x) && (PyData.eqv (frP p.y) (frP q.y) && (PyData.eqv (frP p.w) (frP q.w) && true))) := by simp only [ptP, PyData.eqv, PyData.eqvAll]
  rw [e, eqv_fr, eqv_fr, eqv_fr]
  obtain ⟨a, b, c⟩ := p
  obtain ⟨a', b', c'⟩ := q
  by_cases h1 : a = a' <;> by_cases h2 : b = b' <;> by_cases h3 : c = c' <;> simp [h1, h2, h3]
theorem eqo_int (i j : Int) : EqO (.int i) (.int j) (decide (i = j)) := ⟨rfl, rfl, by simp only [PyData.eqv]; exact Bool.beq_eq_decide_eq i j⟩
theorem eqo_fr (q r : Rat) : EqO (frP q) (frP r) (decide (q = r)) := ⟨shaped_of 1 (lay_fr q) (dep_fr q), shaped_of 1 (lay_fr r) (dep_fr r), eqv_fr q r⟩
theorem eqo_ln (l m : Sg.Ln) : EqO (lnP l) (lnP m) (decide (l = m)) := ⟨shaped_of 2 (lay_ln l) (dep_ln l), shaped_of 2 (lay_ln m) (dep_ln m), eqv_ln l m⟩
theorem eqo_pt (p q : Sg.Pt) : EqO (ptP p) (ptP q) (decide (p = q)) := ⟨shaped_of 2 (lay_pt p) (dep_pt p), shaped_of 2 (lay_pt q) (dep_pt q), eqv_pt p q⟩
theorem shaped_list {α : Type} (f : α → PyData) (n : Nat) (hf : ∀ a, (f a).canLay0 = true) (hd : ∀ a, (f a).depth ≤ n) (hn : n + 1 ≤ 64) (l : List α) : SeqAt.shaped (.list (l.map f)) = true := by
  refine shaped_of (n + 1) (by simp only [PyData.canLay0]; exact lay_list f hf l) ?_ hn
  have := depth_list f n hd l
  simp only [PyData.depth]; omega
theorem eqo_list {α : Type} [DecidableEq α] (f : α → PyData) (n : Nat) (hf : ∀ a, (f a).canLay0 = true) (hd : ∀ a, (f a).depth ≤ n) (hn : n + 1 ≤ 64) (he : ∀ a b, PyData.eqv (f a) (f b) = decide (a = b)) (l m : List α) :
    EqO (.list (l.map f)) (.list (m.map f)) (decide (l = m)) :=
  ⟨shaped_list f n hf hd hn l, shaped_list f n hf hd hn m, by simp only [PyData.eqv]; exact eqv_list f he l m⟩
theorem eqo_lns (l m : List Sg.Ln) : EqO (lnsP l) (lnsP m) (decide (l = m)) := eqo_list lnP 2 lay_ln dep_ln (by decide) eqv_ln l m
theorem eqo_pts (l m : List Sg.Pt) : EqO (ptsP l) (ptsP m) (decide (l = m)) := eqo_list ptP 2 lay_pt dep_pt (by decide) eqv_pt l m
theorem ino_ln (l : Sg.Ln) (ls : List Sg.Ln) : InO (lnP l) (ls.map lnP) (decide (l ∈ ls)) := by
  refine ⟨shaped_of 2 (lay_ln l) (dep_ln l), shaped_list lnP 2 lay_ln dep_ln (by decide) ls, ?_⟩
  induction ls with
  | nil => simp
  | cons m ls ih =>
    rw [List.map_cons, List.any_cons, ih, eqv_ln]
    by_cases h1 : m = l
    · simp [h1]
    · have h2 : ¬ l = m := fun q => h1 q.symm
      by_cases h3 : l ∈ ls <;> simp [h1, h2, h3]

/-! ### sizes -/
def Sz (B : Nat) (q : Rat) : Prop := q.num.natAbs < 2 ^ B ∧ q.den < 2 ^ B
theorem Sz.mono {A B : Nat} {q : Rat} (h : Sz A q) (hab : A ≤ B) : Sz B q := by
  have := Nat.pow_le_pow_right (show 0 < 2 by decide) hab
  exact ⟨Nat.lt_of_lt_of_le h.1 this, Nat.lt_of_lt_of_le h.2 this⟩
theorem mulOk {i j : Int} {A B : Nat} (h1 : i.natAbs < 2 ^ A) (h2 : j.natAbs < 2 ^ B) (h : A + B ≤ 134217728) : IntMulOk i j := (mulx_ok h1 h2 h).ok
theorem num_le (n d : Int) (hd : d ≠ 0) : (Rat.divInt n d).num.natAbs ≤ n.natAbs ∧ (Rat.divInt n d).den ≤ d.natAbs := by
  have e1 := Rat.num_divInt n d
  have e2 := Rat.den_divInt n d
  constructor
  · rw [e1, Int.natAbs_ediv_of_dvd (Int.dvd_trans (Int.gcd_dvd_right ..) (Int.dvd_mul_left ..)), Int.natAbs_mul]
    refine Nat.le_trans (Nat.div_le_self _ _) ?_
    rcases Int.lt_trichotomy d 0 with h | h | h
    · rw [Int.sign_eq_neg_one_of_neg h]; simp
    · exact absurd h hd
    · rw [Int.sign_eq_one_of_pos h]; simp
  · rw [e2, if_neg hd]
    exact Nat.div_le_self _ _
theorem Sz.of_divInt {n d : Int} {A B : Nat} (hd : d ≠ 0) (h1 : n.natAbs < 2 ^ A) (h2 : d.natAbs < 2 ^ A) : Sz A (Rat.divInt n d) := by
  obtain ⟨a, b⟩ := num_le n d hd
  exact ⟨Nat.lt_of_le_of_lt a h1, Nat.lt_of_le_of_lt b h2⟩
theorem mul_lt {a b A B : Nat} (h1 : a < 2 ^ A) (h2 : b < 2 ^ B) : a * b < 2 ^ (A + B) := by
  rw [Nat.pow_add]; exact Nat.mul_lt_mul'' h1 h2
theorem den_ne (q : Rat) : (q.den : Int) ≠ 0 := by have := q.den_nz; omega
theorem add_eq (q r : Rat) : q + r = Rat.divInt (q.num * r.den + r.num * q.den) (q.den * r.den) := by
  have h := Rat.divInt_add_divInt q.num r.num (den_ne q) (den_ne r)
  rw [Rat.num_divInt_den, Rat.num_divInt_den] at h
  exact h
theorem sub_eq (q r : Rat) : q - r = Rat.divInt (q.num * r.den - r.num * q.den) (q.den * r.den) := by
  have h := Rat.divInt_sub_divInt q.num r.num (den_ne q) (den_ne r)
  rw [Rat.num_divInt_den, Rat.num_divInt_den] at h
  exact h
theorem mul_eq (q r : Rat) : q * r = Rat.divInt (q.num * r.num) (q.den * r.den) := by
  have h := Rat.divInt_mul_divInt q.num r.num (d₁ := q.den) (d₂ := r.den)
  rw [Rat.num_divInt_den, Rat.num_divInt_den] at h
  exact h
theorem div_eq (q r : Rat) : q / r = Rat.divInt (q.num * r.den) (q.den * r.num) := by
  rw [Rat.div_def, Rat.inv_def]
  have h := Rat.divInt_mul_divInt q.num r.den (d₁ := q.den) (d₂ := r.num)
  rw [Rat.num_divInt_den] at h
  exact h
theorem mul_ne (q r : Rat) : (q.den : Int) * r.den ≠ 0 := Int.mul_ne_zero (den_ne q) (den_ne r)
theorem two_pow_succ (n : Nat) : 2 ^ (n + 1) = 2 ^ n + 2 ^ n := by rw [Nat.pow_succ]; omega
theorem Sz.add {A B : Nat} {q r : Rat} (h1 : Sz A q) (h2 : Sz B r) : Sz (A + B + 1) (q + r) := by
  rw [add_eq]
  have a1 := mul_lt h1.1 h2.2
  have a2 := mul_lt h2.1 h1.2
  have a3 := mul_lt h1.2 h2.2
  have e1 : (q.num * (r.den : Int)).natAbs = q.num.natAbs * r.den := by rw [Int.natAbs_mul, Int.natAbs_natCast]
  have e2 : (r.num * (q.den : Int)).natAbs = r.num.natAbs * q.den := by rw [Int.natAbs_mul, Int.natAbs_natCast]
  have e3 : ((q.den : Int) * (r.den : Int)).natAbs = q.den * r.den := by rw [Int.natAbs_mul, Int.natAbs_natCast, Int.natAbs_natCast]
  have e4 := two_pow_succ (A + B)
  rw [Nat.add_comm B A] at a2
  refine Sz.of_divInt (B := 0) (mul_ne q r) ?_ ?_
  · have := Int.natAbs_add_le (q.num * (r.den : Int)) (r.num * (q.den : Int))
    omega
  · omega
theorem Sz.sub {A B : Nat} {q r : Rat} (h1 : Sz A q) (h2 : Sz B r) : Sz (A + B + 1) (q - r) := by
  rw [sub_eq]
  have a1 := mul_lt h1.1 h2.2
  have a2 := mul_lt h2.1 h1.2
  have a3 := mul_lt h1.2 h2.2
  have e1 : (q.num * (r.den : Int)).natAbs = q.num.natAbs * r.den := by rw [Int.natAbs_mul, Int.natAbs_natCast]
  have e2 : (r.num * (q.den : Int)).natAbs = r.num.natAbs * q.den := by rw [Int.natAbs_mul, Int.natAbs_natCast]
  have e3 : ((q.den : Int) * (r.den : Int)).natAbs = q.den * r.den := by rw [Int.natAbs_mul, Int.natAbs_natCast, Int.natAbs_natCast]
  have e4 := two_pow_succ (A + B)
  rw [Nat.add_comm B A] at a2
  refine Sz.of_divInt (B := 0) (mul_ne q r) ?_ ?_
  · have := Int.natAbs_sub_le (q.num * (r.den : Int)) (r.num * (q.den : Int))
    omega
  · omega
theorem Sz.mul {A B : Nat} {q r : Rat} (h1 : Sz A q) (h2 : Sz B r) : Sz (A + B) (q * r) := by
  rw [mul_eq]
  have a1 := mul_lt h1.1 h2.1
  have a3 := mul_lt h1.2 h2.2
  refine Sz.of_divInt (B := 0) (mul_ne q r) ?_ ?_
  · rw [Int.natAbs_mul]; exact a1
  · rw [Int.natAbs_mul, Int.natAbs_natCast, Int.natAbs_natCast]; exact a3
theorem num_ne {r : Rat} (h : r ≠ 0) : r.num ≠ 0 := fun q => h (Rat.num_eq_zero.mp q)
theorem Sz.div {A B : Nat} {q r : Rat} (h1 : Sz A q) (h2 : Sz B r) (hr : r ≠ 0) : Sz (A + B) (q / r) := by
  rw [div_eq]
  have a1 := mul_lt h1.1 h2.2
  have a3 := mul_lt h1.2 h2.1
  refine Sz.of_divInt (B := 0) (Int.mul_ne_zero (den_ne q) (num_ne hr)) ?_ ?_
  · rw [Int.natAbs_mul, Int.natAbs_natCast]; exact a1
  · rw [Int.natAbs_mul, Int.natAbs_natCast]; exact a3
theorem Sz.neg {A : Nat} {q : Rat} (h : Sz A q) : Sz A (-q) := by
  refine ⟨?_, ?_⟩
  · rw [Rat.neg_num, Int.natAbs_neg]; exact h.1
  · rw [Rat.neg_den]; exact h.2
theorem Sz.zero : Sz 1 (0 : Rat) := ⟨by decide, by decide⟩
theorem Sz.one : Sz 1 (1 : Rat) := ⟨by decide, by decide⟩
theorem lt_fr (q r : Rat) : decide (q.num * r.den < r.num * q.den) = decide (q < r) := by
  by_cases h : q < r
  · rw [decide_eq_true h, decide_eq_true (Rat.lt_iff q r |>.mp h)]
  · rw [decide_eq_false h, decide_eq_false (fun z => h (Rat.lt_iff q r |>.mpr z))]
/-- what the program's own reckoning of the lowest terms gives -/
theorem low_fr {n d : Int} {g : Nat} (hd : d ≠ 0) (hg : g = Int.gcd n d) :
    PyData.tuple [.int (n.fdiv (if d < 0 then -(g : Int) else g)), .int (d.fdiv (if d < 0 then -(g : Int) else g))] = frP (Rat.divInt n d) := by
  have hg0 : g ≠ 0 := by rw [hg]; exact fun q => hd (Int.gcd_eq_zero_iff.mp q).2
  have hgn : ((g : Int)) ∣ n := by rw [hg]; exact Int.gcd_dvd_left ..
  have hgd : ((g : Int)) ∣ d := by rw [hg]; exact Int.gcd_dvd_right ..
  have hgc : Int.gcd d n = g := by rw [hg, Int.gcd_comm]
  unfold frP
  rw [Rat.num_divInt, Rat.den_divInt, if_neg hd, hgc]
  obtain ⟨a, rfl⟩ := hgn
  obtain ⟨b, rfl⟩ := hgd
  have hgz : (g : Int) ≠ 0 := by omega
  have hgp : (0 : Int) < g := by omega
  by_cases c : (g : Int) * b < 0
  · rw [if_pos c, Int.sign_eq_neg_one_of_neg c]
    have hb : b < 0 := by
      by_cases z : b < 0
      · exact z
      · have := Int.mul_nonneg (show (0 : Int) ≤ g by omega) (show 0 ≤ b by omega); omega
    have x1 : ((g : Int) * a).fdiv (-(g : Int)) = -a := by
      rw [show (g : Int) * a = (-(g : Int)) * (-a) by rw [Int.neg_mul_neg], Int.mul_fdiv_cancel_left _ (by omega)]
    have x2 : ((g : Int) * b).fdiv (-(g : Int)) = -b := by
      rw [show (g : Int) * b = (-(g : Int)) * (-b) by rw [Int.neg_mul_neg], Int.mul_fdiv_cancel_left _ (by omega)]
    have x3 : -1 * ((g : Int) * a) / (g : Int) = -a := by
      rw [show -1 * ((g : Int) * a) = (g : Int) * (-a) by rw [Int.mul_neg, Int.neg_one_mul], Int.mul_ediv_cancel_left _ hgz]
    have x4 : ((((g : Int) * b).natAbs / g : Nat) : Int) = -b := by
      rw [Int.natAbs_mul, Int.natAbs_natCast, Nat.mul_div_cancel_left _ (by omega)]
      omega
    rw [x1, x2, x3, x4]
  · rw [if_neg c]
    have hb : 0 < b := by
      rcases Int.lt_trichotomy b 0 with z | z | z
      · have := Int.mul_pos hgp (show 0 < -b by omega)
        have e : (g : Int) * -b = -((g : Int) * b) := Int.mul_neg _ _
        omega
      · subst z; simp at hd
      · exact z
    have x0 := Int.mul_pos hgp hb
    rw [Int.sign_eq_one_of_pos x0]
    have x1 : ((g : Int) * a).fdiv (g : Int) = a := Int.mul_fdiv_cancel_left _ hgz
    have x2 : ((g : Int) * b).fdiv (g : Int) = b := Int.mul_fdiv_cancel_left _ hgz
    have x3 : 1 * ((g : Int) * a) / (g : Int) = a := by rw [Int.one_mul, Int.mul_ediv_cancel_left _ hgz]
    have x4 : ((((g : Int) * b).natAbs / g : Nat) : Int) = b := by
      rw [Int.natAbs_mul, Int.natAbs_natCast, Nat.mul_div_cancel_left _ (by omega)]
      omega
    rw [x1, x2, x3, x4]
end Z
set_option Elab.async false
set_option linter.all false
set_option maxRecDepth 100000
set_option maxHeartbeats 1000000
namespace Z
open PySem PySem.Spec PyProof.Rows L2
/-! ### reading by cases, over lists -/
theorem zif {p : Prop} [Decidable p] {A B : Prop} (h1 : p → A) (h2 : ¬ p → B) : zIte (decide p) A B := ⟨fun e => h1 (of_decide_eq_true e), fun e => h2 (of_decide_eq_false e)⟩
theorem zifn {p : Prop} [Decidable p] {A B : Prop} (h1 : ¬ p → A) (h2 : p → B) : zIte (!decide p) A B := ⟨fun e => h1 (by simpa using e), fun e => h2 (by simpa using e)⟩
theorem zyes {b : Bool} {A B : Prop} (e : b = true) (h : A) : zIte b A B := ⟨fun _ => h, fun q => by rw [e] at q; cases q⟩
theorem zno {b : Bool} {A B : Prop} (e : b = false) (h : B) : zIte b A B := ⟨fun q => (by rw [e] at q; cases q), fun _ => h⟩
theorem zyes_no {b : Bool} {p : Prop} [Decidable p] {A B : Prop} (e : b = decide p) (h1 : p → A) (h2 : ¬ p → B) : zIte b A B := by subst e; exact zif h1 h2
theorem zboth {b : Bool} {A B : Prop} (h1 : b = true → A) (h2 : b = false → B) : zIte b A B := ⟨h1, h2⟩
section
variable {α : Type} {f : α → PyData} {g : ZG} {tb : ZS} {E : ZEnds} {t : ZTT} {e : ZT} {ρ : Ro} {Q : List PyData → Sto → Prop} {S : Sto}
theorem zLoop_ind (J : List α → Ro → Sto → Prop) (base : ∀ ρ S, J [] ρ S → E.nx ρ S)
    (step : ∀ a l ρ S, J (a :: l) ρ S → (∀ ρ' S', J l ρ' S' → zLoop g tb E (l.map f) ρ' S') → g (.d (f a)) ρ S fun ρ1 S1 => tb { E with nx := zLoop g tb E (l.map f), ct := zLoop g tb E (l.map f), bk := E.nx } ρ1 S1) :
    ∀ l ρ S, J l ρ S → zLoop g tb E (l.map f) ρ S
  | [], ρ, S, h => base ρ S h
  | a :: l, ρ, S, h => step a l ρ S h fun ρ' S' h' => zLoop_ind J base step l ρ' S' h'
theorem zLcL_fm (p : α → Bool) (h : α → PyData) : ∀ (l : List α) (acc : List PyData),
    (∀ a ∈ l, ∀ acc l', (p a = true → zLcL g t e ρ l' (acc ++ [h a]) S Q) → (p a = false → zLcL g t e ρ l' acc S Q) → g (.d (f a)) ρ S fun ρ1 S1 => t ρ1 S1 fun b S2 => zIte b (e ρ1 S2 fun x S3 => match x with
      | .d y => zLcL g t e ρ l' (acc ++ [y]) S3 Q
      | _ => False) (zLcL g t e ρ l' acc S2 Q)) → Q (acc ++ (l.filter p).map h) S → zLcL g t e ρ (l.map f) acc S Q
  | [], acc, _, q => by simpa [zLcL] using q
  | a :: l, acc, st, q => by
    refine st a (by simp) acc (l.map f) (fun e => ?_) (fun e => ?_)
    · refine zLcL_fm p h l (acc ++ [h a]) (fun b hb => st b (by simp [hb])) ?_
      rw [List.filter_cons_of_pos e] at q
      simpa using q
    · refine zLcL_fm p h l acc (fun b hb => st b (by simp [hb])) ?_
      rw [List.filter_cons_of_neg (by rw [e]; simp)] at q
      exact q
theorem zLcL_map (h : α → PyData) (l : List α) (acc : List PyData)
    (st : ∀ a ∈ l, ∀ acc l', zLcL g t e ρ l' (acc ++ [h a]) S Q → g (.d (f a)) ρ S fun ρ1 S1 => t ρ1 S1 fun b S2 => zIte b (e ρ1 S2 fun x S3 => match x with
      | .d y => zLcL g t e ρ l' (acc ++ [y]) S3 Q
      | _ => False) (zLcL g t e ρ l' acc S2 Q)) (q : Q (acc ++ l.map h) S) : zLcL g t e ρ (l.map f) acc S Q :=
  zLcL_fm (fun _ => true) h l acc (fun a ha acc l' k _ => st a ha acc l' (k rfl)) (by rw [List.filter_eq_self.mpr (by simp)]; exact q)
end
theorem zLcL_ind {α : Type} {f : α → PyData} {g : ZG} {t : ZTT} {e : ZT} {ρ : Ro} {Q : List PyData → Sto → Prop} (J : List α → List PyData → Sto → Prop) (base : ∀ acc S, J [] acc S → Q acc S)
    (step : ∀ a l acc S, J (a :: l) acc S → (∀ acc' S', J l acc' S' → zLcL g t e ρ (l.map f) acc' S' Q) → g (.d (f a)) ρ S fun ρ1 S1 => t ρ1 S1 fun b S2 => zIte b (e ρ1 S2 fun x S3 => match x with
      | .d y => zLcL g t e ρ (l.map f) (acc ++ [y]) S3 Q
      | _ => False) (zLcL g t e ρ (l.map f) acc S2 Q)) : ∀ l acc S, J l acc S → zLcL g t e ρ (l.map f) acc S Q
  | [], acc, S, h => base acc S h
  | a :: l, acc, S, h => step a l acc S h fun acc' S' h' => zLcL_ind J base step l acc' S' h'
/-! ### sizes as they are used -/
def Big (q : Rat) : Prop := Sz 60000000 q
theorem Sz.big {A : Nat} {q : Rat} (h : Sz A q) (ha : A ≤ 60000000 := by decide) : Big q := h.mono ha
section
variable {q r : Rat}
theorem Big.nd (h : Big q) (k : Big r) : IntMulOk q.num r.den := mulOk h.1 (by rw [Int.natAbs_natCast]; exact k.2) (by decide)
theorem Big.dn (h : Big q) (k : Big r) : IntMulOk q.den r.num := mulOk (by rw [Int.natAbs_natCast]; exact h.2) k.1 (by decide)
theorem Big.nn (h : Big q) (k : Big r) : IntMulOk q.num r.num := mulOk h.1 k.1 (by decide)
theorem Big.dd (h : Big q) (k : Big r) : IntMulOk q.den r.den := mulOk (by rw [Int.natAbs_natCast]; exact h.2) (by rw [Int.natAbs_natCast]; exact k.2) (by decide)
theorem Sz.sum {A : Nat} : ∀ {l : List Rat}, (∀ q ∈ l, Sz A q) → Sz (l.length * (A + 1) + 1) l.sum
  | [], _ => show Sz _ 0 from Sz.zero.mono (by simp)
  | q :: l, h => by
    rw [List.sum_cons]
    refine ((h q (by simp)).add (Sz.sum fun r hr => h r (by simp [hr]))).mono ?_
    rw [List.length_cons, Nat.succ_mul]; omega
theorem len1000 {α : Type} {l : List α} {f : α → PyData} (h : l.length ≤ 1000) : Nat.ble (l.map f).length 1000 = true := by rw [List.length_map]; exact Nat.ble_eq.mpr h
theorem abs_int (i : Int) : (if i < 0 then -i else i) = (i.natAbs : Int) := by split <;> omega
end
end Z
set_option Elab.async false
set_option linter.all false
set_option maxRecDepth 100000
set_option maxHeartbeats 4000000
namespace Sl
open PySem PySem.Spec PyProof.Rows L2 Z
section
variable {P : Program} {w : World} {K : PySem.W.Frag} {mg : Str → Option Value} {base : Heap}
def sp_is_whole : ZC := fun ds S Q => ∃ i : Int, ds = [.d (.int i)] ∧ Q (.d (.bool true)) S
theorem sc_is_whole : FnScope ["thing"] ["thing"] (defScope s_is_whole) := ⟨rfl, rfl, rfl, by decide +kernel, rfl, by decide +kernel, by decide +kernel⟩
theorem C_is_whole (T : Txt fa fn P K mg base) : Callee P w K mg base 1 "is_whole" 1 sp_is_whole :=
  callee T 0 15 (d := d_is_whole) rfl rfl rfl rfl rfl (fun _ _ _ _ _ _ us hl => match us, hl with | [_], _ => rfl) sc_is_whole (fun ds S Q h => by first | (obtain ⟨_, rfl, _⟩ := h; rfl) | (obtain ⟨_, _, rfl, _⟩ := h; rfl) | (obtain ⟨_, _, _, rfl, _⟩ := h; rfl) | (obtain ⟨_, _, _, _, rfl, _⟩ := h; rfl) | (obtain ⟨_, _, _, _, _, rfl, _⟩ := h; rfl) | (obtain ⟨_, _, _, _, _, _, rfl, _⟩ := h; rfl) | (obtain ⟨_, _, _, _, _, _, _, rfl, _⟩ := h; rfl) | (obtain ⟨_, _, _, _, _, _, _, _, rfl, _⟩ := h; rfl) | (obtain ⟨_, _, _, _, _, _, _, _, _, rfl, _⟩ := h; rfl) | (obtain ⟨_, _, _, _, _, _, _, _, _, _, rfl, _⟩ := h; rfl) | (obtain ⟨_, _, _, _, _, _, _, _, _, _, _, rfl, _⟩ := h; rfl) | (obtain ⟨_, _, _, _, _, _, _, _, _, _, _, _, rfl, _⟩ := h; rfl)) fun f cdv A outer s H hr => by
    have sc := sc_is_whole
    refine ⟨_, (zss_one (zs_ret (ze_and (ze_isi (T := "int") (by rfl) (T.free_ 6 rfl) (by rfl) (T.free_ 1 rfl) (by decide +kernel) (zv 0) (by decide +kernel)) (ze_one (ze_not (ze_isi (T := "bool") (by rfl) (T.free_ 6 rfl) (by rfl) (T.free_ 5 rfl) (by decide +kernel) (zv 0) (by decide +kernel))))))), fun ds S Q h => ?_⟩
    obtain ⟨i, rfl, h⟩ := h
    exact And.intro (fun _ => h) (fun e => nomatch e)
def sp_common : ZC := fun ds S Q => ∃ a b : Nat, ds = [.d (.int a), .d (.int b)] ∧ Q (.d (.int (Nat.gcd a b))) S
theorem sc_common : FnScope ["one", "other"] ["one", "other"] (defScope s_common) := ⟨rfl, rfl, rfl, by decide +kernel, rfl, by decide +kernel, by decide +kernel⟩
theorem C_common (T : Txt fa fn P K mg base) : Callee P w K mg base 1 "common" 2 sp_common :=
  callee T 1 16 (d := d_common) rfl rfl rfl rfl rfl (fun _ _ _ _ _ _ us hl => match us, hl with | [_, _], _ => rfl) sc_common (fun ds S Q h => by first | (obtain ⟨_, rfl, _⟩ := h; rfl) | (obtain ⟨_, _, rfl, _⟩ := h; rfl) | (obtain ⟨_, _, _, rfl, _⟩ := h; rfl) | (obtain ⟨_, _, _, _, rfl, _⟩ := h; rfl) | (obtain ⟨_, _, _, _, _, rfl, _⟩ := h; rfl) | (obtain ⟨_, _, _, _, _, _, rfl, _⟩ := h; rfl) | (obtain ⟨_, _, _, _, _, _, _, rfl, _⟩ := h; rfl) | (obtain ⟨_, _, _, _, _, _, _, _, rfl, _⟩ := h; rfl) | (obtain ⟨_, _, _, _, _, _, _, _, _, rfl, _⟩ := h; rfl) | (obtain ⟨_, _, _, _, _, _, _, _, _, _, rfl, _⟩ := h; rfl) | (obtain ⟨_, _, _, _, _, _, _, _, _, _, _, rfl, _⟩ := h; rfl) | (obtain ⟨_, _, _, _, _, _, _, _, _, _, _, _, rfl, _⟩ := h; rfl)) fun f cdv A outer s H hr => by
    have sc := sc_common
    refine ⟨_, (zss_cons (zs_while PassesOwn.never (zb_cmp (zop_ne (Roomu hr 64)) (zv 1) ze_int (by rfl)) (zss_one (zs_par rfl sc.nd (i := 0) (j := 1) rfl rfl (by decide) rfl rfl (za_cons (zv 1) (za_cons (ze_op zop_mod (zv 0) (zv 1)) za_nil))))) (zss_one (zs_ret (zv 0)))), fun ds S Q h => ?_⟩
    obtain ⟨a, b, rfl, h⟩ := h
    refine Exists.intro (fun m ρ S' => ∃ x : Nat, ρ = [some (.d (.int x)), some (.d (.int m))] ∧ S' = S ∧ Nat.gcd x m = Nat.gcd a b) (And.intro ⟨b, a, rfl, rfl, rfl⟩ ?_)
    rintro m ρ S' ⟨x, rfl, rfl, e⟩
    refine ⟨_, eqo_int m 0, zifn (fun c => ?_) (fun c => ?_)⟩
    · refine ⟨by omega, x % m, Nat.mod_lt _ (by omega), m, by rw [Int.natCast_emod]; rfl, rfl, ?_⟩
      rw [← e, Nat.gcd_comm x m, Nat.gcd_rec m x, Nat.gcd_comm]
    · have : m = 0 := by omega
      subst this
      rw [Nat.gcd_zero_right] at e
      subst e
      exact h
def sp_lowest : ZC := fun ds S Q => ∃ n d : Int, ds = [.d (.int n), .d (.int d)] ∧ d ≠ 0 ∧ Q (fr (Rat.divInt n d)) S
theorem sc_lowest : FnScope ["top", "bottom", "shared"] ["top", "bottom"] (defScope s_lowest) := ⟨rfl, rfl, rfl, by decide +kernel, rfl, by decide +kernel, by decide +kernel⟩
theorem C_lowest (T : Txt fa fn P K mg base) (C_common : Callee P w K mg base 1 "common" 2 sp_common) : Callee P w K mg base 34 "lowest" 2 sp_lowest :=
  callee T 4 19 (d := d_lowest) rfl rfl rfl rfl rfl (fun _ _ _ _ _ _ us hl => match us, hl with | [_, _], _ => rfl) sc_lowest (fun ds S Q h => by first | (obtain ⟨_, rfl, _⟩ := h; rfl) | (obtain ⟨_, _, rfl, _⟩ := h; rfl) | (obtain ⟨_, _, _, rfl, _⟩ := h; rfl) | (obtain ⟨_, _, _, _, rfl, _⟩ := h; rfl) | (obtain ⟨_, _, _, _, _, rfl, _⟩ := h; rfl) | (obtain ⟨_, _, _, _, _, _, rfl, _⟩ := h; rfl) | (obtain ⟨_, _, _, _, _, _, _, rfl, _⟩ := h; rfl) | (obtain ⟨_, _, _, _, _, _, _, _, rfl, _⟩ := h; rfl) | (obtain ⟨_, _, _, _, _, _, _, _, _, rfl, _⟩ := h; rfl) | (obtain ⟨_, _, _, _, _, _, _, _, _, _, rfl, _⟩ := h; rfl) | (obtain ⟨_, _, _, _, _, _, _, _, _, _, _, rfl, _⟩ := h; rfl) | (obtain ⟨_, _, _, _, _, _, _, _, _, _, _, _, rfl, _⟩ := h; rfl)) fun f cdv A outer s H hr => by
    have sc := sc_lowest
    refine ⟨_, (zss_cons (zs_set (i := 2) sc.nd rfl (Or.inl rfl) (ze_c1 C_common hr (za_cons (ze_callB zc_abs (by rfl) (T.free_ 12 rfl) (by decide +kernel) (za_cons (zv 0) za_nil)) (za_cons (ze_callB zc_abs (by rfl) (T.free_ 12 rfl) (by decide +kernel) (za_cons (zv 1) za_nil)) za_nil)))) (zss_cons (zs_if (zb_cmp zop_lt (zv 1) ze_int (by rfl)) (zss_one (zs_set (i := 2) sc.nd rfl (Or.inl rfl) (ze_neg (zv 2)))) zss_nil) (zss_one (zs_ret (ze_tup (za_cons (ze_op (zop_fdiv ⟨T.seer, T.tree, hr, ⟨_, rfl⟩, rfl, rfl⟩) (zv 0) (zv 2)) (za_cons (ze_op (zop_fdiv ⟨T.seer, T.tree, hr, ⟨_, rfl⟩, rfl, rfl⟩) (zv 1) (zv 2)) za_nil))))))), fun ds S Q h => ?_⟩
    obtain ⟨n, d, rfl, hd, h⟩ := h
    refine ⟨n.natAbs, d.natAbs, by rw [abs_int, abs_int], zif (fun c => ?_) (fun c => ?_)⟩
    · have hg : Nat.gcd n.natAbs d.natAbs ≠ 0 := fun q => hd (by have := Nat.gcd_eq_zero_iff.mp q; omega)
      refine ⟨by omega, by omega, ?_⟩
      have e := low_fr (n := n) hd rfl
      rw [if_pos c] at e
      have h : Q (.d (frP (Rat.divInt n d))) S := h
      rw [← e] at h
      exact h
    · have hg : Nat.gcd n.natAbs d.natAbs ≠ 0 := fun q => hd (by have := Nat.gcd_eq_zero_iff.mp q; omega)
      refine ⟨by omega, by omega, ?_⟩
      have e := low_fr (n := n) hd rfl
      rw [if_neg c] at e
      have h : Q (.d (frP (Rat.divInt n d))) S := h
      rw [← e] at h
      exact h
def sp_is_fraction : ZC := fun ds S Q => ∃ q : Rat, ds = [fr q] ∧ Q (.d (.bool true)) S
theorem sc_is_fraction : FnScope ["thing"] ["thing"] (defScope s_is_fraction) := ⟨rfl, rfl, rfl, by decide +kernel, rfl, by decide +kernel, by decide +kernel⟩
theorem C_is_fraction (T : Txt fa fn P K mg base) (C_is_whole : Callee P w K mg base 1 "is_whole" 1 sp_is_whole) (C_common : Callee P w K mg base 1 "common" 2 sp_common) : Callee P w K mg base 2 "is_fraction" 1 sp_is_fraction :=
  callee T 2 17 (d := d_is_fraction) rfl rfl rfl rfl rfl (fun _ _ _ _ _ _ us hl => match us, hl with | [_], _ => rfl) sc_is_fraction (fun ds S Q h => by first | (obtain ⟨_, rfl, _⟩ := h; rfl) | (obtain ⟨_, _, rfl, _⟩ := h; rfl) | (obtain ⟨_, _, _, rfl, _⟩ := h; rfl) | (obtain ⟨_, _, _, _, rfl, _⟩ := h; rfl) | (obtain ⟨_, _, _, _, _, rfl, _⟩ := h; rfl) | (obtain ⟨_, _, _, _, _, _, rfl, _⟩ := h; rfl) | (obtain ⟨_, _, _, _, _, _, _, rfl, _⟩ := h; rfl) | (obtain ⟨_, _, _, _, _, _, _, _, rfl, _⟩ := h; rfl) | (obtain ⟨_, _, _, _, _, _, _, _, _, rfl, _⟩ := h; rfl) | (obtain ⟨_, _, _, _, _, _, _, _, _, _, rfl, _⟩ := h; rfl) | (obtain ⟨_, _, _, _, _, _, _, _, _, _, _, rfl, _⟩ := h; rfl) | (obtain ⟨_, _, _, _, _, _, _, _, _, _, _, _, rfl, _⟩ := h; rfl)) fun f cdv A outer s H hr => by
    have sc := sc_is_fraction
    refine ⟨_, (zss_cons (zs_if (PW.pt (zw_or (zb_not (zb_val (ze_isi (T := "tuple") (by rfl) (T.free_ 6 rfl) (by rfl) (T.free_ 11 rfl) (by decide +kernel) (zv 0) (by decide +kernel)))) (zw_or (zb_cmp (zop_ne (Roomu hr 64)) (ze_callB zc_len (by rfl) (T.free_ 8 rfl) (by decide +kernel) (za_cons (zv 0) za_nil)) ze_int (by rfl)) (zw_or (zb_not (zb_val (ze_c1 C_is_whole hr (za_cons (ze_ix zix (zv 0) ze_int) za_nil)))) (zw_or1 (zb_not (zb_val (ze_c1 C_is_whole hr (za_cons (ze_ix zix (zv 0) ze_int) za_nil))))))))) (zss_one (zs_ret ze_bl)) zss_nil) (zss_one (zs_ret (ze_and (ze_cmp zop_gt (ze_ix zix (zv 0) ze_int) ze_int (by rfl)) (ze_one (ze_cmp (zop_eq (Roomu hr 64)) (ze_c1 C_common hr (za_cons (ze_callB zc_abs (by rfl) (T.free_ 12 rfl) (by decide +kernel) (za_cons (ze_ix zix (zv 0) ze_int) za_nil)) (za_cons (ze_ix zix (zv 0) ze_int) za_nil))) ze_int (by rfl))))))), fun ds S Q h => ?_⟩
    obtain ⟨q, rfl, h⟩ := h
    refine zno rfl ⟨_, eqo_int 2 2, zno rfl ⟨q.num, rfl, zno rfl ⟨q.den, rfl, zno rfl ?_⟩⟩⟩
    refine zyes (decide_eq_true (by have := q.den_pos; omega)) ⟨q.num.natAbs, q.den, by rw [abs_int], _, eqo_int _ 1, ?_⟩
    have hq : Nat.gcd q.num.natAbs q.den = 1 := q.reduced
    rw [hq]
    exact h
def sp_want_fraction : ZC := fun ds S Q => ∃ q : Rat, ds = [fr q] ∧ Q (.d .none) S
theorem sc_want_fraction : FnScope ["thing"] ["thing"] (defScope s_want_fraction) := ⟨rfl, rfl, rfl, by decide +kernel, rfl, by decide +kernel, by decide +kernel⟩
theorem C_want_fraction (T : Txt fa fn P K mg base) (C_is_fraction : Callee P w K mg base 2 "is_fraction" 1 sp_is_fraction) : Callee P w K mg base 3 "want_fraction" 1 sp_want_fraction :=
  callee T 3 18 (d := d_want_fraction) rfl rfl rfl rfl rfl (fun _ _ _ _ _ _ us hl => match us, hl with | [_], _ => rfl) sc_want_fraction (fun ds S Q h => by first | (obtain ⟨_, rfl, _⟩ := h; rfl) | (obtain ⟨_, _, rfl, _⟩ := h; rfl) | (obtain ⟨_, _, _, rfl, _⟩ := h; rfl) | (obtain ⟨_, _, _, _, rfl, _⟩ := h; rfl) | (obtain ⟨_, _, _, _, _, rfl, _⟩ := h; rfl) | (obtain ⟨_, _, _, _, _, _, rfl, _⟩ := h; rfl) | (obtain ⟨_, _, _, _, _, _, _, rfl, _⟩ := h; rfl) | (obtain ⟨_, _, _, _, _, _, _, _, rfl, _⟩ := h; rfl) | (obtain ⟨_, _, _, _, _, _, _, _, _, rfl, _⟩ := h; rfl) | (obtain ⟨_, _, _, _, _, _, _, _, _, _, rfl, _⟩ := h; rfl) | (obtain ⟨_, _, _, _, _, _, _, _, _, _, _, rfl, _⟩ := h; rfl) | (obtain ⟨_, _, _, _, _, _, _, _, _, _, _, _, rfl, _⟩ := h; rfl)) fun f cdv A outer s H hr => by
    have sc := sc_want_fraction
    refine ⟨_, (zss_one (zs_if (zb_not (zb_val (ze_c1 C_is_fraction hr (za_cons (zv 0) za_nil)))) zss_never zss_nil)), fun ds S Q h => ?_⟩
    obtain ⟨q, rfl, h⟩ := h
    exact ⟨q, rfl, zno rfl h⟩
def sp_plus : ZC := fun ds S Q => ∃ q r : Rat, ds = [fr q, fr r] ∧ Big q ∧ Big r ∧ Q (fr (q + r)) S
theorem sc_plus : FnScope ["one", "other"] ["one", "other"] (defScope s_plus) := ⟨rfl, rfl, rfl, by decide +kernel, rfl, by decide +kernel, by decide +kernel⟩
theorem C_plus (T : Txt fa fn P K mg base) (C_lowest : Callee P w K mg base 34 "lowest" 2 sp_lowest) : Callee P w K mg base 35 "plus" 2 sp_plus :=
  callee T 5 20 (d := d_plus) rfl rfl rfl rfl rfl (fun _ _ _ _ _ _ us hl => match us, hl with | [_, _], _ => rfl) sc_plus (fun ds S Q h => by first | (obtain ⟨_, rfl, _⟩ := h; rfl) | (obtain ⟨_, _, rfl, _⟩ := h; rfl) | (obtain ⟨_, _, _, rfl, _⟩ := h; rfl) | (obtain ⟨_, _, _, _, rfl, _⟩ := h; rfl) | (obtain ⟨_, _, _, _, _, rfl, _⟩ := h; rfl) | (obtain ⟨_, _, _, _, _, _, rfl, _⟩ := h; rfl) | (obtain ⟨_, _, _, _, _, _, _, rfl, _⟩ := h; rfl) | (obtain ⟨_, _, _, _, _, _, _, _, rfl, _⟩ := h; rfl) | (obtain ⟨_, _, _, _, _, _, _, _, _, rfl, _⟩ := h; rfl) | (obtain ⟨_, _, _, _, _, _, _, _, _, _, rfl, _⟩ := h; rfl) | (obtain ⟨_, _, _, _, _, _, _, _, _, _, _, rfl, _⟩ := h; rfl) | (obtain ⟨_, _, _, _, _, _, _, _, _, _, _, _, rfl, _⟩ := h; rfl)) fun f cdv A outer s H hr => by
    have sc := sc_plus
    refine ⟨_, (zss_one (zs_ret (ze_c1 C_lowest hr (za_cons (ze_op zop_add (ze_op zop_mul (ze_ix zix (zv 0) ze_int) (ze_ix zix (zv 1) ze_int)) (ze_op zop_mul (ze_ix zix (zv 1) ze_int) (ze_ix zix (zv 0) ze_int))) (za_cons (ze_op zop_mul (ze_ix zix (zv 0) ze_int) (ze_ix zix (zv 1) ze_int)) za_nil))))), fun ds S Q h => ?_⟩
    obtain ⟨q, r, rfl, bq, br, h⟩ := h
    rw [add_eq] at h
    exact ⟨bq.nd br, br.nd bq, bq.dd br, _, _, rfl, mul_ne q r, h⟩
def sp_less : ZC := fun ds S Q => ∃ q r : Rat, ds = [fr q, fr r] ∧ Big q ∧ Big r ∧ Q (fr (q - r)) S
theorem sc_less : FnScope ["one", "other"] ["one", "other"] (defScope s_less) := ⟨rfl, rfl, rfl, by decide +kernel, rfl, by decide +kernel, by decide +kernel⟩
theorem C_less (T : Txt fa fn P K mg base) (C_lowest : Callee P w K mg base 34 "lowest" 2 sp_lowest) : Callee P w K mg base 35 "less" 2 sp_less :=
  callee T 6 21 (d := d_less) rfl rfl rfl rfl rfl (fun _ _ _ _ _ _ us hl => match us, hl with | [_, _], _ => rfl) sc_less (fun ds S Q h => by first | (obtain ⟨_, rfl, _⟩ := h; rfl) | (obtain ⟨_, _, rfl, _⟩ := h; rfl) | (obtain ⟨_, _, _, rfl, _⟩ := h; rfl) | (obtain ⟨_, _, _, _, rfl, _⟩ := h; rfl) | (obtain ⟨_, _, _, _, _, rfl, _⟩ := h; rfl) | (obtain ⟨_, _, _, _, _, _, rfl, _⟩ := h; rfl) | (obtain ⟨_, _, _, _, _, _, _, rfl, _⟩ := h; rfl) | (obtain ⟨_, _, _, _, _, _, _, _, rfl, _⟩ := h; rfl) | (obtain ⟨_, _, _, _, _, _, _, _, _, rfl, _⟩ := h; rfl) | (obtain ⟨_, _, _, _, _, _, _, _, _, _, rfl, _⟩ := h; rfl) | (obtain ⟨_, _, _, _, _, _, _, _, _, _, _, rfl, _⟩ := h; rfl) | (obtain ⟨_, _, _, _, _, _, _, _, _, _, _, _, rfl, _⟩ := h; rfl)) fun f cdv A outer s H hr => by
    have sc := sc_less
    refine ⟨_, (zss_one (zs_ret (ze_c1 C_lowest hr (za_cons (ze_op zop_sub (ze_op zop_mul (ze_ix zix (zv 0) ze_int) (ze_ix zix (zv 1) ze_int)) (ze_op zop_mul (ze_ix zix (zv 1) ze_int) (ze_ix zix (zv 0) ze_int))) (za_cons (ze_op zop_mul (ze_ix zix (zv 0) ze_int) (ze_ix zix (zv 1) ze_int)) za_nil))))), fun ds S Q h => ?_⟩
    obtain ⟨q, r, rfl, bq, br, h⟩ := h
    rw [sub_eq] at h
    exact ⟨bq.nd br, br.nd bq, bq.dd br, _, _, rfl, mul_ne q r, h⟩
def sp_times : ZC := fun ds S Q => ∃ q r : Rat, ds = [fr q, fr r] ∧ Big q ∧ Big r ∧ Q (fr (q * r)) S
theorem sc_times : FnScope ["one", "other"] ["one", "other"] (defScope s_times) := ⟨rfl, rfl, rfl, by decide +kernel, rfl, by decide +kernel, by decide +kernel⟩
theorem C_times (T : Txt fa fn P K mg base) (C_lowest : Callee P w K mg base 34 "lowest" 2 sp_lowest) : Callee P w K mg base 35 "times" 2 sp_times :=
  callee T 7 22 (d := d_times) rfl rfl rfl rfl rfl (fun _ _ _ _ _ _ us hl => match us, hl with | [_, _], _ => rfl) sc_times (fun ds S Q h => by first | (obtain ⟨_, rfl, _⟩ := h; rfl) | (obtain ⟨_, _, rfl, _⟩ := h; rfl) | (obtain ⟨_, _, _, rfl, _⟩ := h; rfl) | (obtain ⟨_, _, _, _, rfl, _⟩ := h; rfl) | (obtain ⟨_, _, _, _, _, rfl, _⟩ := h; rfl) | (obtain ⟨_, _, _, _, _, _, rfl, _⟩ := h; rfl) | (obtain ⟨_, _, _, _, _, _, _, rfl, _⟩ := h; rfl) | (obtain ⟨_, _, _, _, _, _, _, _, rfl, _⟩ := h; rfl) | (obtain ⟨_, _, _, _, _, _, _, _, _, rfl, _⟩ := h; rfl) | (obtain ⟨_, _, _, _, _, _, _, _, _, _, rfl, _⟩ := h; rfl) | (obtain ⟨_, _, _, _, _, _, _, _, _, _, _, rfl, _⟩ := h; rfl) | (obtain ⟨_, _, _, _, _, _, _, _, _, _, _, _, rfl, _⟩ := h; rfl)) fun f cdv A outer s H hr => by
    have sc := sc_times
    refine ⟨_, (zss_one (zs_ret (ze_c1 C_lowest hr (za_cons (ze_op zop_mul (ze_ix zix (zv 0) ze_int) (ze_ix zix (zv 1) ze_int)) (za_cons (ze_op zop_mul (ze_ix zix (zv 0) ze_int) (ze_ix zix (zv 1) ze_int)) za_nil))))), fun ds S Q h => ?_⟩
    obtain ⟨q, r, rfl, bq, br, h⟩ := h
    rw [mul_eq] at h
    exact ⟨bq.nn br, bq.dd br, _, _, rfl, mul_ne q r, h⟩
def sp_over : ZC := fun ds S Q => ∃ q r : Rat, ds = [fr q, fr r] ∧ Big q ∧ Big r ∧ r ≠ 0 ∧ Q (fr (q / r)) S
theorem sc_over : FnScope ["one", "other"] ["one", "other"] (defScope s_over) := ⟨rfl, rfl, rfl, by decide +kernel, rfl, by decide +kernel, by decide +kernel⟩
theorem C_over (T : Txt fa fn P K mg base) (C_lowest : Callee P w K mg base 34 "lowest" 2 sp_lowest) : Callee P w K mg base 35 "over" 2 sp_over :=
  callee T 8 23 (d := d_over) rfl rfl rfl rfl rfl (fun _ _ _ _ _ _ us hl => match us, hl with | [_, _], _ => rfl) sc_over (fun ds S Q h => by first | (obtain ⟨_, rfl, _⟩ := h; rfl) | (obtain ⟨_, _, rfl, _⟩ := h; rfl) | (obtain ⟨_, _, _, rfl, _⟩ := h; rfl) | (obtain ⟨_, _, _, _, rfl, _⟩ := h; rfl) | (obtain ⟨_, _, _, _, _, rfl, _⟩ := h; rfl) | (obtain ⟨_, _, _, _, _, _, rfl, _⟩ := h; rfl) | (obtain ⟨_, _, _, _, _, _, _, rfl, _⟩ := h; rfl) | (obtain ⟨_, _, _, _, _, _, _, _, rfl, _⟩ := h; rfl) | (obtain ⟨_, _, _, _, _, _, _, _, _, rfl, _⟩ := h; rfl) | (obtain ⟨_, _, _, _, _, _, _, _, _, _, rfl, _⟩ := h; rfl) | (obtain ⟨_, _, _, _, _, _, _, _, _, _, _, rfl, _⟩ := h; rfl) | (obtain ⟨_, _, _, _, _, _, _, _, _, _, _, _, rfl, _⟩ := h; rfl)) fun f cdv A outer s H hr => by
    have sc := sc_over
    refine ⟨_, (zss_cons (zs_if (zb_cmp (zop_eq (Roomu hr 64)) (ze_ix zix (zv 1) ze_int) ze_int (by rfl)) zss_never zss_nil) (zss_one (zs_ret (ze_c1 C_lowest hr (za_cons (ze_op zop_mul (ze_ix zix (zv 0) ze_int) (ze_ix zix (zv 1) ze_int)) (za_cons (ze_op zop_mul (ze_ix zix (zv 0) ze_int) (ze_ix zix (zv 1) ze_int)) za_nil)))))), fun ds S Q h => ?_⟩
    obtain ⟨q, r, rfl, bq, br, hr0, h⟩ := h
    rw [div_eq] at h
    refine ⟨_, eqo_int _ _, zif (fun c => num_ne hr0 c) fun c => ?_⟩
    exact ⟨bq.nd br, bq.dn br, _, _, rfl, Int.mul_ne_zero (den_ne q) (num_ne hr0), h⟩
def sp_opposite : ZC := fun ds S Q => ∃ q : Rat, ds = [fr q] ∧ Q (fr (-q)) S
theorem sc_opposite : FnScope ["one"] ["one"] (defScope s_opposite) := ⟨rfl, rfl, rfl, by decide +kernel, rfl, by decide +kernel, by decide +kernel⟩
theorem C_opposite (T : Txt fa fn P K mg base) : Callee P w K mg base 1 "opposite" 1 sp_opposite :=
  callee T 9 24 (d := d_opposite) rfl rfl rfl rfl rfl (fun _ _ _ _ _ _ us hl => match us, hl with | [_], _ => rfl) sc_opposite (fun ds S Q h => by first | (obtain ⟨_, rfl, _⟩ := h; rfl) | (obtain ⟨_, _, rfl, _⟩ := h; rfl) | (obtain ⟨_, _, _, rfl, _⟩ := h; rfl) | (obtain ⟨_, _, _, _, rfl, _⟩ := h; rfl) | (obtain ⟨_, _, _, _, _, rfl, _⟩ := h; rfl) | (obtain ⟨_, _, _, _, _, _, rfl, _⟩ := h; rfl) | (obtain ⟨_, _, _, _, _, _, _, rfl, _⟩ := h; rfl) | (obtain ⟨_, _, _, _, _, _, _, _, rfl, _⟩ := h; rfl) | (obtain ⟨_, _, _, _, _, _, _, _, _, rfl, _⟩ := h; rfl) | (obtain ⟨_, _, _, _, _, _, _, _, _, _, rfl, _⟩ := h; rfl) | (obtain ⟨_, _, _, _, _, _, _, _, _, _, _, rfl, _⟩ := h; rfl) | (obtain ⟨_, _, _, _, _, _, _, _, _, _, _, _, rfl, _⟩ := h; rfl)) fun f cdv A outer s H hr => by
    have sc := sc_opposite
    refine ⟨_, (zss_one (zs_ret (ze_tup (za_cons (ze_neg (ze_ix zix (zv 0) ze_int)) (za_cons (ze_ix zix (zv 0) ze_int) za_nil))))), fun ds S Q h => ?_⟩
    obtain ⟨q, rfl, h⟩ := h
    exact h
def sp_is_below : ZC := fun ds S Q => ∃ q r : Rat, ds = [fr q, fr r] ∧ Big q ∧ Big r ∧ Q (.d (.bool (decide (q < r)))) S
theorem sc_is_below : FnScope ["one", "other"] ["one", "other"] (defScope s_is_below) := ⟨rfl, rfl, rfl, by decide +kernel, rfl, by decide +kernel, by decide +kernel⟩
theorem C_is_below (T : Txt fa fn P K mg base) : Callee P w K mg base 1 "is_below" 2 sp_is_below :=
  callee T 10 25 (d := d_is_below) rfl rfl rfl rfl rfl (fun _ _ _ _ _ _ us hl => match us, hl with | [_, _], _ => rfl) sc_is_below (fun ds S Q h => by first | (obtain ⟨_, rfl, _⟩ := h; rfl) | (obtain ⟨_, _, rfl, _⟩ := h; rfl) | (obtain ⟨_, _, _, rfl, _⟩ := h; rfl) | (obtain ⟨_, _, _, _, rfl, _⟩ := h; rfl) | (obtain ⟨_, _, _, _, _, rfl, _⟩ := h; rfl) | (obtain ⟨_, _, _, _, _, _, rfl, _⟩ := h; rfl) | (obtain ⟨_, _, _, _, _, _, _, rfl, _⟩ := h; rfl) | (obtain ⟨_, _, _, _, _, _, _, _, rfl, _⟩ := h; rfl) | (obtain ⟨_, _, _, _, _, _, _, _, _, rfl, _⟩ := h; rfl) | (obtain ⟨_, _, _, _, _, _, _, _, _, _, rfl, _⟩ := h; rfl) | (obtain ⟨_, _, _, _, _, _, _, _, _, _, _, rfl, _⟩ := h; rfl) | (obtain ⟨_, _, _, _, _, _, _, _, _, _, _, _, rfl, _⟩ := h; rfl)) fun f cdv A outer s H hr => by
    have sc := sc_is_below
    refine ⟨_, (zss_one (zs_ret (ze_cmp zop_lt (ze_op zop_mul (ze_ix zix (zv 0) ze_int) (ze_ix zix (zv 1) ze_int)) (ze_op zop_mul (ze_ix zix (zv 1) ze_int) (ze_ix zix (zv 0) ze_int)) (by rfl)))), fun ds S Q h => ?_⟩
    obtain ⟨q, r, rfl, bq, br, h⟩ := h
    rw [← lt_fr] at h
    exact ⟨bq.nd br, br.nd bq, h⟩
/-- the sum of a list, each of at most A bits -/
def sp_sum_of : ZC := fun ds S Q => ∃ (A : Nat) (l : List Rat), ds = [.d (.list (l.map frP))] ∧ (∀ q ∈ l, Sz A q) ∧ (l.length + 1) * (A + 1) + 1 ≤ 60000000 ∧ Q (fr l.sum) S
theorem sc_sum_of : FnScope ["some", "total", "one"] ["some"] (defScope s_sum_of) := ⟨rfl, rfl, rfl, by decide +kernel, rfl, by decide +kernel, by decide +kernel⟩
theorem C_sum_of (T : Txt fa fn P K mg base) (C_plus : Callee P w K mg base 35 "plus" 2 sp_plus) : Callee P w K mg base 36 "sum_of" 1 sp_sum_of :=
  callee T 11 26 (d := d_sum_of) rfl rfl rfl rfl rfl (fun _ _ _ _ _ _ us hl => match us, hl with | [_], _ => rfl) sc_sum_of (fun ds S Q h => by first | (obtain ⟨_, rfl, _⟩ := h; rfl) | (obtain ⟨_, _, rfl, _⟩ := h; rfl) | (obtain ⟨_, _, _, rfl, _⟩ := h; rfl) | (obtain ⟨_, _, _, _, rfl, _⟩ := h; rfl) | (obtain ⟨_, _, _, _, _, rfl, _⟩ := h; rfl) | (obtain ⟨_, _, _, _, _, _, rfl, _⟩ := h; rfl) | (obtain ⟨_, _, _, _, _, _, _, rfl, _⟩ := h; rfl) | (obtain ⟨_, _, _, _, _, _, _, _, rfl, _⟩ := h; rfl) | (obtain ⟨_, _, _, _, _, _, _, _, _, rfl, _⟩ := h; rfl) | (obtain ⟨_, _, _, _, _, _, _, _, _, _, rfl, _⟩ := h; rfl) | (obtain ⟨_, _, _, _, _, _, _, _, _, _, _, rfl, _⟩ := h; rfl) | (obtain ⟨_, _, _, _, _, _, _, _, _, _, _, _, rfl, _⟩ := h; rfl)) fun f cdv A outer s H hr => by
    have sc := sc_sum_of
    refine ⟨_, (zss_cons (zs_set (i := 1) sc.nd rfl (Or.inl rfl) (ze_gtup (by rfl) (T.glo_ 133 rfl) T.nought)) (zss_cons (zs_for PassesOwn.never rfl (zi_list (zv 0)) (zg_name (i := 2) sc.nd rfl (Or.inl rfl)) (zss_one (zs_set (i := 1) sc.nd rfl (Or.inl rfl) (ze_c1 C_plus hr (za_cons (zv 1) (za_cons (zv 2) za_nil)))))) (zss_one (zs_ret (zv 1))))), fun ds S Q h => ?_⟩
    obtain ⟨A, l, rfl, hl, hA, h⟩ := h
    refine zLoop_ind (α := Rat) (f := frP) (fun m ρ S' => S' = S ∧ ∃ k acc o, k + m.length = l.length ∧ (∀ q ∈ m, Sz A q) ∧ Sz (k * (A + 1) + 1) acc ∧ acc + m.sum = l.sum ∧ ρ = [some (.d (.list (l.map frP))), some (fr acc), o]) ?_ ?_ l _ S ?_
    · rintro ρ S' ⟨rfl, k, acc, o, _, _, _, e, rfl⟩
      have e2 : acc = l.sum := by rw [← e, List.sum_nil]; grind
      rw [← e2] at h
      exact h
    · rintro a m ρ S' ⟨rfl, k, acc, o, hk, hm, ha, e, rfl⟩ ih
      have hsz := hm a (by simp)
      rw [List.length_cons] at hk
      have hkl : (k + 1) * (A + 1) ≤ l.length * (A + 1) := Nat.mul_le_mul_right _ (by omega)
      have e3 : (k + 1) * (A + 1) = k * (A + 1) + (A + 1) := Nat.succ_mul ..
      have e4 : (l.length + 1) * (A + 1) = l.length * (A + 1) + (A + 1) := Nat.succ_mul ..
      refine ⟨acc, a, rfl, ha.mono (by omega), hsz.mono (by omega), ih _ _ ⟨rfl, k + 1, acc + a, some (fr a), by omega, fun q hq => hm q (by simp [hq]), (ha.add hsz).mono (by omega), ?_, rfl⟩⟩
      rw [← e, List.sum_cons]; grind
    · exact ⟨rfl, 0, 0, none, by omega, hl, Sz.zero.mono (by omega), by grind, rfl⟩
/-- the least of a list, the first of those -/
def least : Rat → List Rat → Rat
  | q, [] => q
  | q, r :: l => least (if r < q then r else q) l
def sp_least_of : ZC := fun ds S Q => ∃ (q : Rat) (l : List Rat), ds = [.d (.list ((q :: l).map frP))] ∧ (∀ r ∈ q :: l, Big r) ∧ Q (fr (least q l)) S
theorem sc_least_of : FnScope ["some", "found", "one"] ["some"] (defScope s_least_of) := ⟨rfl, rfl, rfl, by decide +kernel, rfl, by decide +kernel, by decide +kernel⟩
theorem C_least_of (T : Txt fa fn P K mg base) (C_is_below : Callee P w K mg base 1 "is_below" 2 sp_is_below) : Callee P w K mg base 2 "least_of" 1 sp_least_of :=
  callee T 12 27 (d := d_least_of) rfl rfl rfl rfl rfl (fun _ _ _ _ _ _ us hl => match us, hl with | [_], _ => rfl) sc_least_of (fun ds S Q h => by first | (obtain ⟨_, rfl, _⟩ := h; rfl) | (obtain ⟨_, _, rfl, _⟩ := h; rfl) | (obtain ⟨_, _, _, rfl, _⟩ := h; rfl) | (obtain ⟨_, _, _, _, rfl, _⟩ := h; rfl) | (obtain ⟨_, _, _, _, _, rfl, _⟩ := h; rfl) | (obtain ⟨_, _, _, _, _, _, rfl, _⟩ := h; rfl) | (obtain ⟨_, _, _, _, _, _, _, rfl, _⟩ := h; rfl) | (obtain ⟨_, _, _, _, _, _, _, _, rfl, _⟩ := h; rfl) | (obtain ⟨_, _, _, _, _, _, _, _, _, rfl, _⟩ := h; rfl) | (obtain ⟨_, _, _, _, _, _, _, _, _, _, rfl, _⟩ := h; rfl) | (obtain ⟨_, _, _, _, _, _, _, _, _, _, _, rfl, _⟩ := h; rfl) | (obtain ⟨_, _, _, _, _, _, _, _, _, _, _, _, rfl, _⟩ := h; rfl)) fun f cdv A outer s H hr => by
    have sc := sc_least_of
    refine ⟨_, (zss_cons (zs_set (i := 1) sc.nd rfl (Or.inl rfl) (ze_ix zix (zv 0) ze_int)) (zss_cons (zs_for PassesOwn.never rfl (zi_list (ze_drop (zv 0) ze_int)) (zg_name (i := 2) sc.nd rfl (Or.inl rfl)) (zss_one (zs_if (zb_val (ze_c1 C_is_below hr (za_cons (zv 2) (za_cons (zv 1) za_nil)))) (zss_one (zs_set (i := 1) sc.nd rfl (Or.inl rfl) (zv 2))) zss_nil))) (zss_one (zs_ret (zv 1))))), fun ds S Q h => ?_⟩
    obtain ⟨q, l, rfl, hl, h⟩ := h
    refine zLoop_ind (α := Rat) (f := frP) (fun m ρ S' => S' = S ∧ ∃ a o, (∀ r ∈ a :: m, Big r) ∧ least a m = least q l ∧ ρ = [some (.d (.list ((q :: l).map frP))), some (fr a), o]) ?_ ?_ l _ S ?_
    · rintro ρ S' ⟨rfl, a, o, _, e, rfl⟩
      have e2 : a = least q l := e
      rw [← e2] at h
      exact h
    · rintro b m ρ S' ⟨rfl, a, o, hb, e, rfl⟩ ih
      refine ⟨b, a, rfl, hb b (by simp), hb a (by simp), zif (fun c => ih _ _ ⟨rfl, b, some (fr b), ?_, ?_, rfl⟩) (fun c => ih _ _ ⟨rfl, a, some (fr b), ?_, ?_, rfl⟩)⟩
      · intro r hr
        rcases List.mem_cons.mp hr with z | z
        · exact hb r (by simp [z])
        · exact hb r (by simp [z])
      · rw [← e, least, if_pos c]
      · intro r hr
        rcases List.mem_cons.mp hr with z | z
        · exact hb r (by simp [z])
        · exact hb r (by simp [z])
      · rw [← e, least, if_neg c]
    · exact ⟨rfl, q, none, hl, rfl, rfl⟩
end
end Sl
set_option Elab.async false
set_option linter.all false
set_option maxRecDepth 100000
set_option maxHeartbeats 4000000
namespace Sl
open PySem PySem.Spec PyProof.Rows L2 Z
open Sg (Pt Ln PsOk PrOk Spread)
structure PtSz (p : Pt) : Prop where
  x : Sz 400 p.x
  y : Sz 400 p.y
  w : Sz 400 p.w
def PsSz (ps : List Pt) : Prop := ∀ p ∈ ps, PtSz p
def LnSz (l : Ln) : Prop := Sz 4000 l.1 ∧ Sz 4000 l.2
def PrSz (l : Ln) : Prop := Sz 16 l.1 ∧ Sz 16 l.2
/-- points that the house takes -/
structure Pts (ps : List Pt) : Prop where
  ne : ps ≠ []
  le : ps.length ≤ 12
  sz : PsSz ps
  ok : PsOk ps
def Prs (l : Ln) : Prop := PrSz l ∧ PrOk l
def spreadB : List Pt → Bool
  | [] => false
  | p :: ps => (p :: ps).any fun q => !decide (q.x = p.x)
theorem spreadB_iff (ps : List Pt) : spreadB ps = true ↔ Spread ps := by
  cases ps with
  | nil => exact Iff.intro (fun h => by cases h) (fun h => by obtain ⟨a, ha, _⟩ := h; cases ha)
  | cons p ps =>
    unfold spreadB
    rw [List.any_eq_true]
    constructor
    · rintro ⟨q, hq, h⟩
      exact ⟨q, hq, p, by simp, by simpa using h⟩
    · rintro ⟨a, ha, b, hb, n⟩
      by_cases c : a.x = p.x
      · exact ⟨b, hb, by simp; grind⟩
      · exact ⟨a, ha, by simpa using c⟩
section
variable {P : Program} {w : World} {K : PySem.W.Frag} {mg : Str → Option Value} {base : Heap}
def sp_is_above_nought : ZC := fun ds S Q => ∃ q : Rat, ds = [fr q] ∧ Big q ∧ Q (.d (.bool (decide (0 < q)))) S
theorem sc_is_above_nought : FnScope ["thing"] ["thing"] (defScope s_is_above_nought) := ⟨rfl, rfl, rfl, by decide +kernel, rfl, by decide +kernel, by decide +kernel⟩
theorem C_is_above_nought (T : Txt fa fn P K mg base) (C_is_fraction : Callee P w K mg base 2 "is_fraction" 1 sp_is_fraction) (C_is_below : Callee P w K mg base 1 "is_below" 2 sp_is_below) : Callee P w K mg base 3 "is_above_nought" 1 sp_is_above_nought :=
  callee T 13 28 (d := d_is_above_nought) rfl rfl rfl rfl rfl (fun _ _ _ _ _ _ us hl => match us, hl with | [_], _ => rfl) sc_is_above_nought (fun ds S Q h => by first | (obtain ⟨_, rfl, _⟩ := h; rfl) | (obtain ⟨_, _, rfl, _⟩ := h; rfl) | (obtain ⟨_, _, _, rfl, _⟩ := h; rfl) | (obtain ⟨_, _, _, _, rfl, _⟩ := h; rfl) | (obtain ⟨_, _, _, _, _, rfl, _⟩ := h; rfl) | (obtain ⟨_, _, _, _, _, _, rfl, _⟩ := h; rfl) | (obtain ⟨_, _, _, _, _, _, _, rfl, _⟩ := h; rfl) | (obtain ⟨_, _, _, _, _, _, _, _, rfl, _⟩ := h; rfl) | (obtain ⟨_, _, _, _, _, _, _, _, _, rfl, _⟩ := h; rfl) | (obtain ⟨_, _, _, _, _, _, _, _, _, _, rfl, _⟩ := h; rfl) | (obtain ⟨_, _, _, _, _, _, _, _, _, _, _, rfl, _⟩ := h; rfl) | (obtain ⟨_, _, _, _, _, _, _, _, _, _, _, _, rfl, _⟩ := h; rfl)) fun f cdv A outer s H hr => by
    have sc := sc_is_above_nought
    refine ⟨_, (zss_one (zs_ret (ze_and (ze_c1 C_is_fraction hr (za_cons (zv 0) za_nil)) (ze_one (ze_c1 C_is_below hr (za_cons (ze_gtup (by rfl) (T.glo_ 133 rfl) T.nought) (za_cons (zv 0) za_nil))))))), fun ds S Q h => ?_⟩
    obtain ⟨q, rfl, bq, h⟩ := h
    exact ⟨q, rfl, zyes rfl ⟨0, q, rfl, Sz.zero.big, bq, h⟩⟩
def sp_is_point : ZC := fun ds S Q => ∃ p : Pt, ds = [.d (ptP p)] ∧ PtSz p ∧ Q (.d (.bool (decide (0 < p.w)))) S
theorem sc_is_point : FnScope ["thing"] ["thing"] (defScope s_is_point) := ⟨rfl, rfl, rfl, by decide +kernel, rfl, by decide +kernel, by decide +kernel⟩
theorem C_is_point (T : Txt fa fn P K mg base) (C_is_fraction : Callee P w K mg base 2 "is_fraction" 1 sp_is_fraction) (C_is_above_nought : Callee P w K mg base 3 "is_above_nought" 1 sp_is_above_nought) : Callee P w K mg base 4 "is_point" 1 sp_is_point :=
  callee T 14 29 (d := d_is_point) rfl rfl rfl rfl rfl (fun _ _ _ _ _ _ us hl => match us, hl with | [_], _ => rfl) sc_is_point (fun ds S Q h => by first | (obtain ⟨_, rfl, _⟩ := h; rfl) | (obtain ⟨_, _, rfl, _⟩ := h; rfl) | (obtain ⟨_, _, _, rfl, _⟩ := h; rfl) | (obtain ⟨_, _, _, _, rfl, _⟩ := h; rfl) | (obtain ⟨_, _, _, _, _, rfl, _⟩ := h; rfl) | (obtain ⟨_, _, _, _, _, _, rfl, _⟩ := h; rfl) | (obtain ⟨_, _, _, _, _, _, _, rfl, _⟩ := h; rfl) | (obtain ⟨_, _, _, _, _, _, _, _, rfl, _⟩ := h; rfl) | (obtain ⟨_, _, _, _, _, _, _, _, _, rfl, _⟩ := h; rfl) | (obtain ⟨_, _, _, _, _, _, _, _, _, _, rfl, _⟩ := h; rfl) | (obtain ⟨_, _, _, _, _, _, _, _, _, _, _, rfl, _⟩ := h; rfl) | (obtain ⟨_, _, _, _, _, _, _, _, _, _, _, _, rfl, _⟩ := h; rfl)) fun f cdv A outer s H hr => by
    have sc := sc_is_point
    refine ⟨_, (zss_cons (zs_if (PW.pt (zw_or (zb_not (zb_val (ze_isi (T := "tuple") (by rfl) (T.free_ 6 rfl) (by rfl) (T.free_ 11 rfl) (by decide +kernel) (zv 0) (by decide +kernel)))) (zw_or1 (zb_cmp (zop_ne (Roomu hr 64)) (ze_callB zc_len (by rfl) (T.free_ 8 rfl) (by decide +kernel) (za_cons (zv 0) za_nil)) ze_int (by rfl))))) (zss_one (zs_ret ze_bl)) zss_nil) (zss_one (zs_ret (ze_and (ze_c1 C_is_fraction hr (za_cons (ze_ix zix (zv 0) ze_int) za_nil)) (ze_and (ze_c1 C_is_fraction hr (za_cons (ze_ix zix (zv 0) ze_int) za_nil)) (ze_one (ze_c1 C_is_above_nought hr (za_cons (ze_ix zix (zv 0) ze_int) za_nil)))))))), fun ds S Q h => ?_⟩
    obtain ⟨p, rfl, hp, h⟩ := h
    exact zno rfl ⟨_, eqo_int 3 3, zno rfl ⟨p.x, rfl, zyes rfl ⟨p.y, rfl, zyes rfl ⟨p.w, rfl, hp.w.big, h⟩⟩⟩⟩
def sp_is_points : ZC := fun ds S Q => ∃ ps : List Pt, ds = [.d (ptsP ps)] ∧ Pts ps ∧ Q (.d (.bool true)) S
theorem sc_is_points : FnScope ["thing", "one"] ["thing"] (defScope s_is_points) := ⟨rfl, rfl, rfl, by decide +kernel, rfl, by decide +kernel, by decide +kernel⟩
theorem C_is_points (T : Txt fa fn P K mg base) (C_is_point : Callee P w K mg base 4 "is_point" 1 sp_is_point) : Callee P w K mg base 5 "is_points" 1 sp_is_points :=
  callee T 15 30 (d := d_is_points) rfl rfl rfl rfl rfl (fun _ _ _ _ _ _ us hl => match us, hl with | [_], _ => rfl) sc_is_points (fun ds S Q h => by first | (obtain ⟨_, rfl, _⟩ := h; rfl) | (obtain ⟨_, _, rfl, _⟩ := h; rfl) | (obtain ⟨_, _, _, rfl, _⟩ := h; rfl) | (obtain ⟨_, _, _, _, rfl, _⟩ := h; rfl) | (obtain ⟨_, _, _, _, _, rfl, _⟩ := h; rfl) | (obtain ⟨_, _, _, _, _, _, rfl, _⟩ := h; rfl) | (obtain ⟨_, _, _, _, _, _, _, rfl, _⟩ := h; rfl) | (obtain ⟨_, _, _, _, _, _, _, _, rfl, _⟩ := h; rfl) | (obtain ⟨_, _, _, _, _, _, _, _, _, rfl, _⟩ := h; rfl) | (obtain ⟨_, _, _, _, _, _, _, _, _, _, rfl, _⟩ := h; rfl) | (obtain ⟨_, _, _, _, _, _, _, _, _, _, _, rfl, _⟩ := h; rfl) | (obtain ⟨_, _, _, _, _, _, _, _, _, _, _, _, rfl, _⟩ := h; rfl)) fun f cdv A outer s H hr => by
    have sc := sc_is_points
    refine ⟨_, (zss_cons (zs_if (PW.pt (zw_or (zb_not (zb_val (ze_isi (T := "list") (by rfl) (T.free_ 6 rfl) (by rfl) (T.free_ 2 rfl) (by decide +kernel) (zv 0) (by decide +kernel)))) (zw_or (zb_cmp zop_lt (ze_callB zc_len (by rfl) (T.free_ 8 rfl) (by decide +kernel) (za_cons (zv 0) za_nil)) ze_int (by rfl)) (zw_or1 (zb_cmp zop_gt (ze_callB zc_len (by rfl) (T.free_ 8 rfl) (by decide +kernel) (za_cons (zv 0) za_nil)) (ze_gint_ (i := 12) (by rfl) (T.int_ 135 rfl)) (by rfl)))))) (zss_one (zs_ret ze_bl)) zss_nil) (zss_one (zs_ret (ze_callB (zc_all rfl) (by rfl) (T.free_ 3 rfl) (by decide +kernel) (za_cons (ze_lc (own := [("one", 1)]) gok_one rfl sc.nd (zi_list (zv 0)) (blkOk_by rfl) (fun _ _ _ _ _ => pg_name (i := 1) sc.nd rfl (Or.inl rfl)) (fun _ _ _ _ _ => zts_nil) (fun _ _ _ _ _ => (ze_c1 C_is_point hr (za_cons (zv 1) za_nil)))) za_nil))))), fun ds S Q h => ?_⟩
    obtain ⟨ps, rfl, hp, h⟩ := h
    have hl : 1 ≤ ps.length := by have := hp.ne; cases ps with | nil => exact absurd rfl this | cons _ _ => simp
    have hl2 := hp.le
    refine zno rfl (zno (decide_eq_false (by simp; omega)) (zno (decide_eq_false (by simp; omega)) ?_))
    refine ⟨len1000 (by omega), zLcL_map (f := ptP) (fun p => .bool (decide (0 < p.w))) ps [] (fun p hm acc l' k => zyes rfl ⟨p, rfl, hp.sz p hm, k⟩) ⟨_, ps.map fun p => decide (0 < p.w), rfl, by simp [Z.seen, Function.comp_def], ?_⟩⟩
    have e : (ps.map fun p => decide (0 < p.w)).all id = true := by
      rw [List.all_map, List.all_eq_true]
      intro p hm
      exact decide_eq_true (hp.ok p hm)
    rw [e]
    exact h
def sp_is_prices : ZC := fun ds S Q => ∃ l : Ln, ds = [.d (lnP l)] ∧ Prs l ∧ Q (.d (.bool true)) S
theorem sc_is_prices : FnScope ["thing"] ["thing"] (defScope s_is_prices) := ⟨rfl, rfl, rfl, by decide +kernel, rfl, by decide +kernel, by decide +kernel⟩
theorem C_is_prices (T : Txt fa fn P K mg base) (C_is_above_nought : Callee P w K mg base 3 "is_above_nought" 1 sp_is_above_nought) : Callee P w K mg base 4 "is_prices" 1 sp_is_prices :=
  callee T 16 31 (d := d_is_prices) rfl rfl rfl rfl rfl (fun _ _ _ _ _ _ us hl => match us, hl with | [_], _ => rfl) sc_is_prices (fun ds S Q h => by first | (obtain ⟨_, rfl, _⟩ := h; rfl) | (obtain ⟨_, _, rfl, _⟩ := h; rfl) | (obtain ⟨_, _, _, rfl, _⟩ := h; rfl) | (obtain ⟨_, _, _, _, rfl, _⟩ := h; rfl) | (obtain ⟨_, _, _, _, _, rfl, _⟩ := h; rfl) | (obtain ⟨_, _, _, _, _, _, rfl, _⟩ := h; rfl) | (obtain ⟨_, _, _, _, _, _, _, rfl, _⟩ := h; rfl) | (obtain ⟨_, _, _, _, _, _, _, _, rfl, _⟩ := h; rfl) | (obtain ⟨_, _, _, _, _, _, _, _, _, rfl, _⟩ := h; rfl) | (obtain ⟨_, _, _, _, _, _, _, _, _, _, rfl, _⟩ := h; rfl) | (obtain ⟨_, _, _, _, _, _, _, _, _, _, _, rfl, _⟩ := h; rfl) | (obtain ⟨_, _, _, _, _, _, _, _, _, _, _, _, rfl, _⟩ := h; rfl)) fun f cdv A outer s H hr => by
    have sc := sc_is_prices
    refine ⟨_, (zss_cons (zs_if (PW.pt (zw_or (zb_not (zb_val (ze_isi (T := "tuple") (by rfl) (T.free_ 6 rfl) (by rfl) (T.free_ 11 rfl) (by decide +kernel) (zv 0) (by decide +kernel)))) (zw_or1 (zb_cmp (zop_ne (Roomu hr 64)) (ze_callB zc_len (by rfl) (T.free_ 8 rfl) (by decide +kernel) (za_cons (zv 0) za_nil)) ze_int (by rfl))))) (zss_one (zs_ret ze_bl)) zss_nil) (zss_one (zs_ret (ze_and (ze_c1 C_is_above_nought hr (za_cons (ze_ix zix (zv 0) ze_int) za_nil)) (ze_one (ze_c1 C_is_above_nought hr (za_cons (ze_ix zix (zv 0) ze_int) za_nil))))))), fun ds S Q h => ?_⟩
    obtain ⟨l, rfl, hl, h⟩ := h
    rw [show true = decide (0 < l.2) from (decide_eq_true hl.2.2).symm] at h
    exact zno rfl ⟨_, eqo_int 2 2, zno rfl ⟨l.1, rfl, hl.1.1.big, zyes (decide_eq_true hl.2.1) ⟨l.2, rfl, hl.1.2.big, h⟩⟩⟩
def sp_is_line : ZC := fun ds S Q => ∃ l : Ln, ds = [.d (lnP l)] ∧ Q (.d (.bool true)) S
theorem sc_is_line : FnScope ["thing"] ["thing"] (defScope s_is_line) := ⟨rfl, rfl, rfl, by decide +kernel, rfl, by decide +kernel, by decide +kernel⟩
theorem C_is_line (T : Txt fa fn P K mg base) (C_is_fraction : Callee P w K mg base 2 "is_fraction" 1 sp_is_fraction) : Callee P w K mg base 4 "is_line" 1 sp_is_line :=
  callee T 17 32 (d := d_is_line) rfl rfl rfl rfl rfl (fun _ _ _ _ _ _ us hl => match us, hl with | [_], _ => rfl) sc_is_line (fun ds S Q h => by first | (obtain ⟨_, rfl, _⟩ := h; rfl) | (obtain ⟨_, _, rfl, _⟩ := h; rfl) | (obtain ⟨_, _, _, rfl, _⟩ := h; rfl) | (obtain ⟨_, _, _, _, rfl, _⟩ := h; rfl) | (obtain ⟨_, _, _, _, _, rfl, _⟩ := h; rfl) | (obtain ⟨_, _, _, _, _, _, rfl, _⟩ := h; rfl) | (obtain ⟨_, _, _, _, _, _, _, rfl, _⟩ := h; rfl) | (obtain ⟨_, _, _, _, _, _, _, _, rfl, _⟩ := h; rfl) | (obtain ⟨_, _, _, _, _, _, _, _, _, rfl, _⟩ := h; rfl) | (obtain ⟨_, _, _, _, _, _, _, _, _, _, rfl, _⟩ := h; rfl) | (obtain ⟨_, _, _, _, _, _, _, _, _, _, _, rfl, _⟩ := h; rfl) | (obtain ⟨_, _, _, _, _, _, _, _, _, _, _, _, rfl, _⟩ := h; rfl)) fun f cdv A outer s H hr => by
    have sc := sc_is_line
    refine ⟨_, (zss_one (zs_ret (ze_and (ze_isi (T := "tuple") (by rfl) (T.free_ 6 rfl) (by rfl) (T.free_ 11 rfl) (by decide +kernel) (zv 0) (by decide +kernel)) (ze_and (ze_cmp (zop_eq (Roomu hr 64)) (ze_callB zc_len (by rfl) (T.free_ 8 rfl) (by decide +kernel) (za_cons (zv 0) za_nil)) ze_int (by rfl)) (ze_and (ze_c1 C_is_fraction hr (za_cons (ze_ix zix (zv 0) ze_int) za_nil)) (ze_one (ze_c1 C_is_fraction hr (za_cons (ze_ix zix (zv 0) ze_int) za_nil)))))))), fun ds S Q h => ?_⟩
    obtain ⟨l, rfl, h⟩ := h
    exact zyes rfl ⟨_, eqo_int 2 2, zyes rfl ⟨l.1, rfl, zyes rfl ⟨l.2, rfl, h⟩⟩⟩
def sp_want_points : ZC := fun ds S Q => ∃ ps : List Pt, ds = [.d (ptsP ps)] ∧ Pts ps ∧ Q (.d .none) S
theorem sc_want_points : FnScope ["thing"] ["thing"] (defScope s_want_points) := ⟨rfl, rfl, rfl, by decide +kernel, rfl, by decide +kernel, by decide +kernel⟩
theorem C_want_points (T : Txt fa fn P K mg base) (C_is_points : Callee P w K mg base 5 "is_points" 1 sp_is_points) : Callee P w K mg base 6 "want_points" 1 sp_want_points :=
  callee T 18 33 (d := d_want_points) rfl rfl rfl rfl rfl (fun _ _ _ _ _ _ us hl => match us, hl with | [_], _ => rfl) sc_want_points (fun ds S Q h => by first | (obtain ⟨_, rfl, _⟩ := h; rfl) | (obtain ⟨_, _, rfl, _⟩ := h; rfl) | (obtain ⟨_, _, _, rfl, _⟩ := h; rfl) | (obtain ⟨_, _, _, _, rfl, _⟩ := h; rfl) | (obtain ⟨_, _, _, _, _, rfl, _⟩ := h; rfl) | (obtain ⟨_, _, _, _, _, _, rfl, _⟩ := h; rfl) | (obtain ⟨_, _, _, _, _, _, _, rfl, _⟩ := h; rfl) | (obtain ⟨_, _, _, _, _, _, _, _, rfl, _⟩ := h; rfl) | (obtain ⟨_, _, _, _, _, _, _, _, _, rfl, _⟩ := h; rfl) | (obtain ⟨_, _, _, _, _, _, _, _, _, _, rfl, _⟩ := h; rfl) | (obtain ⟨_, _, _, _, _, _, _, _, _, _, _, rfl, _⟩ := h; rfl) | (obtain ⟨_, _, _, _, _, _, _, _, _, _, _, _, rfl, _⟩ := h; rfl)) fun f cdv A outer s H hr => by
    have sc := sc_want_points
    refine ⟨_, (zss_one (zs_if (zb_not (zb_val (ze_c1 C_is_points hr (za_cons (zv 0) za_nil)))) zss_never zss_nil)), fun ds S Q h => ?_⟩
    obtain ⟨ps, rfl, hp, h⟩ := h
    exact ⟨ps, rfl, hp, zno rfl h⟩
def sp_want_prices : ZC := fun ds S Q => ∃ l : Ln, ds = [.d (lnP l)] ∧ Prs l ∧ Q (.d .none) S
theorem sc_want_prices : FnScope ["thing"] ["thing"] (defScope s_want_prices) := ⟨rfl, rfl, rfl, by decide +kernel, rfl, by decide +kernel, by decide +kernel⟩
theorem C_want_prices (T : Txt fa fn P K mg base) (C_is_prices : Callee P w K mg base 4 "is_prices" 1 sp_is_prices) : Callee P w K mg base 6 "want_prices" 1 sp_want_prices :=
  callee T 19 34 (d := d_want_prices) rfl rfl rfl rfl rfl (fun _ _ _ _ _ _ us hl => match us, hl with | [_], _ => rfl) sc_want_prices (fun ds S Q h => by first | (obtain ⟨_, rfl, _⟩ := h; rfl) | (obtain ⟨_, _, rfl, _⟩ := h; rfl) | (obtain ⟨_, _, _, rfl, _⟩ := h; rfl) | (obtain ⟨_, _, _, _, rfl, _⟩ := h; rfl) | (obtain ⟨_, _, _, _, _, rfl, _⟩ := h; rfl) | (obtain ⟨_, _, _, _, _, _, rfl, _⟩ := h; rfl) | (obtain ⟨_, _, _, _, _, _, _, rfl, _⟩ := h; rfl) | (obtain ⟨_, _, _, _, _, _, _, _, rfl, _⟩ := h; rfl) | (obtain ⟨_, _, _, _, _, _, _, _, _, rfl, _⟩ := h; rfl) | (obtain ⟨_, _, _, _, _, _, _, _, _, _, rfl, _⟩ := h; rfl) | (obtain ⟨_, _, _, _, _, _, _, _, _, _, _, rfl, _⟩ := h; rfl) | (obtain ⟨_, _, _, _, _, _, _, _, _, _, _, _, rfl, _⟩ := h; rfl)) fun f cdv A outer s H hr => by
    have sc := sc_want_prices
    refine ⟨_, (zss_one (zs_if (zb_not (zb_val (ze_c1 C_is_prices hr (za_cons (zv 0) za_nil)))) zss_never zss_nil)), fun ds S Q h => ?_⟩
    obtain ⟨l, rfl, hp, h⟩ := h
    exact ⟨l, rfl, hp, zno rfl h⟩
def sp_want_line : ZC := fun ds S Q => ∃ l : Ln, ds = [.d (lnP l)] ∧ Q (.d .none) S
theorem sc_want_line : FnScope ["thing"] ["thing"] (defScope s_want_line) := ⟨rfl, rfl, rfl, by decide +kernel, rfl, by decide +kernel, by decide +kernel⟩
theorem C_want_line (T : Txt fa fn P K mg base) (C_is_line : Callee P w K mg base 4 "is_line" 1 sp_is_line) : Callee P w K mg base 6 "want_line" 1 sp_want_line :=
  callee T 20 35 (d := d_want_line) rfl rfl rfl rfl rfl (fun _ _ _ _ _ _ us hl => match us, hl with | [_], _ => rfl) sc_want_line (fun ds S Q h => by first | (obtain ⟨_, rfl, _⟩ := h; rfl) | (obtain ⟨_, _, rfl, _⟩ := h; rfl) | (obtain ⟨_, _, _, rfl, _⟩ := h; rfl) | (obtain ⟨_, _, _, _, rfl, _⟩ := h; rfl) | (obtain ⟨_, _, _, _, _, rfl, _⟩ := h; rfl) | (obtain ⟨_, _, _, _, _, _, rfl, _⟩ := h; rfl) | (obtain ⟨_, _, _, _, _, _, _, rfl, _⟩ := h; rfl) | (obtain ⟨_, _, _, _, _, _, _, _, rfl, _⟩ := h; rfl) | (obtain ⟨_, _, _, _, _, _, _, _, _, rfl, _⟩ := h; rfl) | (obtain ⟨_, _, _, _, _, _, _, _, _, _, rfl, _⟩ := h; rfl) | (obtain ⟨_, _, _, _, _, _, _, _, _, _, _, rfl, _⟩ := h; rfl) | (obtain ⟨_, _, _, _, _, _, _, _, _, _, _, _, rfl, _⟩ := h; rfl)) fun f cdv A outer s H hr => by
    have sc := sc_want_line
    refine ⟨_, (zss_one (zs_if (zb_not (zb_val (ze_c1 C_is_line hr (za_cons (zv 0) za_nil)))) zss_never zss_nil)), fun ds S Q h => ?_⟩
    obtain ⟨l, rfl, h⟩ := h
    exact ⟨l, rfl, zno rfl h⟩
def sp_are_spread : ZC := fun ds S Q => ∃ ps : List Pt, ds = [.d (ptsP ps)] ∧ ps ≠ [] ∧ ps.length ≤ 12 ∧ Q (.d (.bool (spreadB ps))) S
theorem sc_are_spread : FnScope ["points", "point"] ["points"] (defScope s_are_spread) := ⟨rfl, rfl, rfl, by decide +kernel, rfl, by decide +kernel, by decide +kernel⟩
theorem C_are_spread (T : Txt fa fn P K mg base) : Callee P w K mg base 1 "are_spread" 1 sp_are_spread :=
  callee T 21 36 (d := d_are_spread) rfl rfl rfl rfl rfl (fun _ _ _ _ _ _ us hl => match us, hl with | [_], _ => rfl) sc_are_spread (fun ds S Q h => by first | (obtain ⟨_, rfl, _⟩ := h; rfl) | (obtain ⟨_, _, rfl, _⟩ := h; rfl) | (obtain ⟨_, _, _, rfl, _⟩ := h; rfl) | (obtain ⟨_, _, _, _, rfl, _⟩ := h; rfl) | (obtain ⟨_, _, _, _, _, rfl, _⟩ := h; rfl) | (obtain ⟨_, _, _, _, _, _, rfl, _⟩ := h; rfl) | (obtain ⟨_, _, _, _, _, _, _, rfl, _⟩ := h; rfl) | (obtain ⟨_, _, _, _, _, _, _, _, rfl, _⟩ := h; rfl) | (obtain ⟨_, _, _, _, _, _, _, _, _, rfl, _⟩ := h; rfl) | (obtain ⟨_, _, _, _, _, _, _, _, _, _, rfl, _⟩ := h; rfl) | (obtain ⟨_, _, _, _, _, _, _, _, _, _, _, rfl, _⟩ := h; rfl) | (obtain ⟨_, _, _, _, _, _, _, _, _, _, _, _, rfl, _⟩ := h; rfl)) fun f cdv A outer s H hr => by
    have sc := sc_are_spread
    refine ⟨_, (zss_one (zs_ret (ze_callB (zc_any rfl) (by rfl) (T.free_ 14 rfl) (by decide +kernel) (za_cons (ze_lc (own := [("point", 1)]) gok_one rfl sc.nd (zi_list (zv 0)) (blkOk_by rfl) (fun _ _ _ _ _ => pg_name (i := 1) sc.nd rfl (Or.inl rfl)) (fun _ _ _ _ _ => zts_nil) (fun _ _ _ _ _ => (ze_cmp (zop_ne (Roomu hr 64)) (ze_ix zix (zv 1) ze_int) (ze_ix zix (ze_ix zix (zv 0) ze_int) ze_int) (by rfl)))) za_nil)))), fun ds S Q h => ?_⟩
    obtain ⟨ps, rfl, hn, hl, h⟩ := h
    cases ps with
    | nil => exact absurd rfl hn
    | cons p0 ps =>
      refine ⟨len1000 (by omega), zLcL_map (f := ptP) (fun p => .bool (!decide (p.x = p0.x))) (p0 :: ps) [] (fun p hm acc l' k => zyes rfl ⟨_, eqo_fr p.x p0.x, k⟩) ⟨_, (p0 :: ps).map fun p => !decide (p.x = p0.x), rfl, by simp [Z.seen, Function.comp_def], ?_⟩⟩
      rw [List.any_map]
      exact h
def sp_want_spread : ZC := fun ds S Q => ∃ ps : List Pt, ds = [.d (ptsP ps)] ∧ Pts ps ∧ Spread ps ∧ Q (.d .none) S
theorem sc_want_spread : FnScope ["points"] ["points"] (defScope s_want_spread) := ⟨rfl, rfl, rfl, by decide +kernel, rfl, by decide +kernel, by decide +kernel⟩
theorem C_want_spread (T : Txt fa fn P K mg base) (C_want_points : Callee P w K mg base 6 "want_points" 1 sp_want_points) (C_are_spread : Callee P w K mg base 1 "are_spread" 1 sp_are_spread) : Callee P w K mg base 7 "want_spread" 1 sp_want_spread :=
  callee T 22 37 (d := d_want_spread) rfl rfl rfl rfl rfl (fun _ _ _ _ _ _ us hl => match us, hl with | [_], _ => rfl) sc_want_spread (fun ds S Q h => by first | (obtain ⟨_, rfl, _⟩ := h; rfl) | (obtain ⟨_, _, rfl, _⟩ := h; rfl) | (obtain ⟨_, _, _, rfl, _⟩ := h; rfl) | (obtain ⟨_, _, _, _, rfl, _⟩ := h; rfl) | (obtain ⟨_, _, _, _, _, rfl, _⟩ := h; rfl) | (obtain ⟨_, _, _, _, _, _, rfl, _⟩ := h; rfl) | (obtain ⟨_, _, _, _, _, _, _, rfl, _⟩ := h; rfl) | (obtain ⟨_, _, _, _, _, _, _, _, rfl, _⟩ := h; rfl) | (obtain ⟨_, _, _, _, _, _, _, _, _, rfl, _⟩ := h; rfl) | (obtain ⟨_, _, _, _, _, _, _, _, _, _, rfl, _⟩ := h; rfl) | (obtain ⟨_, _, _, _, _, _, _, _, _, _, _, rfl, _⟩ := h; rfl) | (obtain ⟨_, _, _, _, _, _, _, _, _, _, _, _, rfl, _⟩ := h; rfl)) fun f cdv A outer s H hr => by
    have sc := sc_want_spread
    refine ⟨_, (zss_cons (zs_expr (ze_c1 C_want_points hr (za_cons (zv 0) za_nil))) (zss_one (zs_if (zb_not (zb_val (ze_c1 C_are_spread hr (za_cons (zv 0) za_nil)))) zss_never zss_nil))), fun ds S Q h => ?_⟩
    obtain ⟨ps, rfl, hp, hs, h⟩ := h
    exact ⟨ps, rfl, hp, ps, rfl, hp.ne, hp.le, zno (by rw [(spreadB_iff ps).mpr hs]; rfl) h⟩
def sp_is_spread : ZC := fun ds S Q => ∃ ps : List Pt, ds = [.d (ptsP ps)] ∧ Pts ps ∧ Q (.d (.bool (spreadB ps))) S
theorem sc_is_spread : FnScope ["points"] ["points"] (defScope s_is_spread) := ⟨rfl, rfl, rfl, by decide +kernel, rfl, by decide +kernel, by decide +kernel⟩
theorem C_is_spread (T : Txt fa fn P K mg base) (C_want_points : Callee P w K mg base 6 "want_points" 1 sp_want_points) (C_are_spread : Callee P w K mg base 1 "are_spread" 1 sp_are_spread) : Callee P w K mg base 7 "is_spread" 1 sp_is_spread :=
  callee T 23 38 (d := d_is_spread) rfl rfl rfl rfl rfl (fun _ _ _ _ _ _ us hl => match us, hl with | [_], _ => rfl) sc_is_spread (fun ds S Q h => by first | (obtain ⟨_, rfl, _⟩ := h; rfl) | (obtain ⟨_, _, rfl, _⟩ := h; rfl) | (obtain ⟨_, _, _, rfl, _⟩ := h; rfl) | (obtain ⟨_, _, _, _, rfl, _⟩ := h; rfl) | (obtain ⟨_, _, _, _, _, rfl, _⟩ := h; rfl) | (obtain ⟨_, _, _, _, _, _, rfl, _⟩ := h; rfl) | (obtain ⟨_, _, _, _, _, _, _, rfl, _⟩ := h; rfl) | (obtain ⟨_, _, _, _, _, _, _, _, rfl, _⟩ := h; rfl) | (obtain ⟨_, _, _, _, _, _, _, _, _, rfl, _⟩ := h; rfl) | (obtain ⟨_, _, _, _, _, _, _, _, _, _, rfl, _⟩ := h; rfl) | (obtain ⟨_, _, _, _, _, _, _, _, _, _, _, rfl, _⟩ := h; rfl) | (obtain ⟨_, _, _, _, _, _, _, _, _, _, _, _, rfl, _⟩ := h; rfl)) fun f cdv A outer s H hr => by
    have sc := sc_is_spread
    refine ⟨_, (zss_cons (zs_expr (ze_c1 C_want_points hr (za_cons (zv 0) za_nil))) (zss_one (zs_ret (ze_c1 C_are_spread hr (za_cons (zv 0) za_nil))))), fun ds S Q h => ?_⟩
    obtain ⟨ps, rfl, hp, h⟩ := h
    exact ⟨ps, rfl, hp, ps, rfl, hp.ne, hp.le, h⟩
def sp_want_stretch : ZC := fun ds S Q => ∃ q r : Rat, ds = [fr q, fr r] ∧ q ≠ 0 ∧ r ≠ 0 ∧ Q (.d .none) S
theorem sc_want_stretch : FnScope ["across", "tall", "thing"] ["across", "tall"] (defScope s_want_stretch) := ⟨rfl, rfl, rfl, by decide +kernel, rfl, by decide +kernel, by decide +kernel⟩
theorem C_want_stretch (T : Txt fa fn P K mg base) (C_is_fraction : Callee P w K mg base 2 "is_fraction" 1 sp_is_fraction) : Callee P w K mg base 7 "want_stretch" 2 sp_want_stretch :=
  callee T 24 39 (d := d_want_stretch) rfl rfl rfl rfl rfl (fun _ _ _ _ _ _ us hl => match us, hl with | [_, _], _ => rfl) sc_want_stretch (fun ds S Q h => by first | (obtain ⟨_, rfl, _⟩ := h; rfl) | (obtain ⟨_, _, rfl, _⟩ := h; rfl) | (obtain ⟨_, _, _, rfl, _⟩ := h; rfl) | (obtain ⟨_, _, _, _, rfl, _⟩ := h; rfl) | (obtain ⟨_, _, _, _, _, rfl, _⟩ := h; rfl) | (obtain ⟨_, _, _, _, _, _, rfl, _⟩ := h; rfl) | (obtain ⟨_, _, _, _, _, _, _, rfl, _⟩ := h; rfl) | (obtain ⟨_, _, _, _, _, _, _, _, rfl, _⟩ := h; rfl) | (obtain ⟨_, _, _, _, _, _, _, _, _, rfl, _⟩ := h; rfl) | (obtain ⟨_, _, _, _, _, _, _, _, _, _, rfl, _⟩ := h; rfl) | (obtain ⟨_, _, _, _, _, _, _, _, _, _, _, rfl, _⟩ := h; rfl) | (obtain ⟨_, _, _, _, _, _, _, _, _, _, _, _, rfl, _⟩ := h; rfl)) fun f cdv A outer s H hr => by
    have sc := sc_want_stretch
    refine ⟨_, (zss_one (zs_for PassesOwn.never rfl (zi_tup (ze_tup (za_cons (zv 0) (za_cons (zv 1) za_nil)))) (zg_name (i := 2) sc.nd rfl (Or.inl rfl)) (zss_one (zs_if (PW.pt (zw_or (zb_not (zb_val (ze_c1 C_is_fraction hr (za_cons (zv 2) za_nil)))) (zw_or1 (zb_cmp (zop_eq (Roomu hr 64)) (zv 2) (ze_gtup (by rfl) (T.glo_ 133 rfl) T.nought) (by rfl))))) zss_never zss_nil)))), fun ds S Q h => ?_⟩
    obtain ⟨q, r, rfl, hq, hr0, h⟩ := h
    exact ⟨q, rfl, zno rfl ⟨_, eqo_fr q 0, zno (decide_eq_false hq) ⟨r, rfl, zno rfl ⟨_, eqo_fr r 0, zno (decide_eq_false hr0) h⟩⟩⟩⟩
def tiltPt (l : Ln) (p : Pt) : Pt := ⟨p.x, p.y + (l.1 + l.2 * p.x), p.w⟩
def sp_tilted : ZC := fun ds S Q => ∃ (ps : List Pt) (l : Ln), ds = [.d (ptsP ps), .d (lnP l)] ∧ Pts ps ∧ LnSz l ∧ Q (.d (ptsP (ps.map (tiltPt l)))) S
theorem sc_tilted : FnScope ["points", "line", "x", "y", "weight"] ["points", "line"] (defScope s_tilted) := ⟨rfl, rfl, rfl, by decide +kernel, rfl, by decide +kernel, by decide +kernel⟩
theorem C_tilted (T : Txt fa fn P K mg base) (C_want_points : Callee P w K mg base 6 "want_points" 1 sp_want_points) (C_want_line : Callee P w K mg base 6 "want_line" 1 sp_want_line) (C_plus : Callee P w K mg base 35 "plus" 2 sp_plus) (C_times : Callee P w K mg base 35 "times" 2 sp_times) : Callee P w K mg base 36 "tilted" 2 sp_tilted :=
  callee T 25 40 (d := d_tilted) rfl rfl rfl rfl rfl (fun _ _ _ _ _ _ us hl => match us, hl with | [_, _], _ => rfl) sc_tilted (fun ds S Q h => by first | (obtain ⟨_, rfl, _⟩ := h; rfl) | (obtain ⟨_, _, rfl, _⟩ := h; rfl) | (obtain ⟨_, _, _, rfl, _⟩ := h; rfl) | (obtain ⟨_, _, _, _, rfl, _⟩ := h; rfl) | (obtain ⟨_, _, _, _, _, rfl, _⟩ := h; rfl) | (obtain ⟨_, _, _, _, _, _, rfl, _⟩ := h; rfl) | (obtain ⟨_, _, _, _, _, _, _, rfl, _⟩ := h; rfl) | (obtain ⟨_, _, _, _, _, _, _, _, rfl, _⟩ := h; rfl) | (obtain ⟨_, _, _, _, _, _, _, _, _, rfl, _⟩ := h; rfl) | (obtain ⟨_, _, _, _, _, _, _, _, _, _, rfl, _⟩ := h; rfl) | (obtain ⟨_, _, _, _, _, _, _, _, _, _, _, rfl, _⟩ := h; rfl) | (obtain ⟨_, _, _, _, _, _, _, _, _, _, _, _, rfl, _⟩ := h; rfl)) fun f cdv A outer s H hr => by
    have sc := sc_tilted
    refine ⟨_, (zss_cons (zs_expr (ze_c1 C_want_points hr (za_cons (zv 0) za_nil))) (zss_cons (zs_expr (ze_c1 C_want_line hr (za_cons (zv 1) za_nil))) (zss_one (zs_ret (ze_lc (own := [("x", 2), ("y", 3), ("weight", 4)]) (gok_tup (n := 3)) rfl sc.nd (zi_list (zv 0)) (blkOk_by rfl) (fun _ _ _ _ _ => pg_tup (n := 3) rfl (pgs_cons (pg_name (i := 2) sc.nd rfl (Or.inl rfl)) (pgs_cons (pg_name (i := 3) sc.nd rfl (Or.inl rfl)) (pgs_cons (pg_name (i := 4) sc.nd rfl (Or.inl rfl)) pgs_nil)))) (fun _ _ _ _ _ => zts_nil) (fun _ _ _ _ _ => (ze_tup (za_cons (zv 2) (za_cons (ze_c1 C_plus hr (za_cons (zv 3) (za_cons (ze_c1 C_plus hr (za_cons (ze_ix zix (zv 1) ze_int) (za_cons (ze_c1 C_times hr (za_cons (ze_ix zix (zv 1) ze_int) (za_cons (zv 2) za_nil))) za_nil))) za_nil))) (za_cons (zv 4) za_nil)))))))))), fun ds S Q h => ?_⟩
    obtain ⟨ps, l, rfl, hp, hl, h⟩ := h
    refine ⟨ps, rfl, hp, l, rfl, len1000 (by have := hp.le; omega), zLcL_map (f := ptP) (fun p => ptP (tiltPt l p)) ps [] (fun p hm acc l' k => ?_) ?_⟩
    · have hs := hp.sz p hm
      exact ⟨rfl, zyes rfl ⟨l.2, p.x, rfl, hl.2.big, hs.x.big, l.1, l.2 * p.x, rfl, hl.1.big, (hl.2.mul hs.x).big, p.y, _, rfl, hs.y.big, (hl.1.add (hl.2.mul hs.x)).big, k⟩⟩
    · have h : Q (.d (.list ((ps.map (tiltPt l)).map ptP))) S := h
      rw [List.map_map] at h
      exact h
def stretchPt (a t : Rat) (p : Pt) : Pt := ⟨p.x * a, p.y * t, p.w⟩
def sp_stretched : ZC := fun ds S Q => ∃ (ps : List Pt) (a t : Rat), ds = [.d (ptsP ps), fr a, fr t] ∧ Pts ps ∧ Sz 4000 a ∧ Sz 4000 t ∧ a ≠ 0 ∧ t ≠ 0 ∧ Q (.d (ptsP (ps.map (stretchPt a t)))) S
theorem sc_stretched : FnScope ["points", "across", "tall", "x", "y", "weight"] ["points", "across", "tall"] (defScope s_stretched) := ⟨rfl, rfl, rfl, by decide +kernel, rfl, by decide +kernel, by decide +kernel⟩
theorem C_stretched (T : Txt fa fn P K mg base) (C_want_points : Callee P w K mg base 6 "want_points" 1 sp_want_points) (C_want_stretch : Callee P w K mg base 7 "want_stretch" 2 sp_want_stretch) (C_times : Callee P w K mg base 35 "times" 2 sp_times) : Callee P w K mg base 36 "stretched" 3 sp_stretched :=
  callee T 26 41 (d := d_stretched) rfl rfl rfl rfl rfl (fun _ _ _ _ _ _ us hl => match us, hl with | [_, _, _], _ => rfl) sc_stretched (fun ds S Q h => by first | (obtain ⟨_, rfl, _⟩ := h; rfl) | (obtain ⟨_, _, rfl, _⟩ := h; rfl) | (obtain ⟨_, _, _, rfl, _⟩ := h; rfl) | (obtain ⟨_, _, _, _, rfl, _⟩ := h; rfl) | (obtain ⟨_, _, _, _, _, rfl, _⟩ := h; rfl) | (obtain ⟨_, _, _, _, _, _, rfl, _⟩ := h; rfl) | (obtain ⟨_, _, _, _, _, _, _, rfl, _⟩ := h; rfl) | (obtain ⟨_, _, _, _, _, _, _, _, rfl, _⟩ := h; rfl) | (obtain ⟨_, _, _, _, _, _, _, _, _, rfl, _⟩ := h; rfl) | (obtain ⟨_, _, _, _, _, _, _, _, _, _, rfl, _⟩ := h; rfl) | (obtain ⟨_, _, _, _, _, _, _, _, _, _, _, rfl, _⟩ := h; rfl) | (obtain ⟨_, _, _, _, _, _, _, _, _, _, _, _, rfl, _⟩ := h; rfl)) fun f cdv A outer s H hr => by
    have sc := sc_stretched
    refine ⟨_, (zss_cons (zs_expr (ze_c1 C_want_points hr (za_cons (zv 0) za_nil))) (zss_cons (zs_expr (ze_c1 C_want_stretch hr (za_cons (zv 1) (za_cons (zv 2) za_nil)))) (zss_one (zs_ret (ze_lc (own := [("x", 3), ("y", 4), ("weight", 5)]) (gok_tup (n := 3)) rfl sc.nd (zi_list (zv 0)) (blkOk_by rfl) (fun _ _ _ _ _ => pg_tup (n := 3) rfl (pgs_cons (pg_name (i := 3) sc.nd rfl (Or.inl rfl)) (pgs_cons (pg_name (i := 4) sc.nd rfl (Or.inl rfl)) (pgs_cons (pg_name (i := 5) sc.nd rfl (Or.inl rfl)) pgs_nil)))) (fun _ _ _ _ _ => zts_nil) (fun _ _ _ _ _ => (ze_tup (za_cons (ze_c1 C_times hr (za_cons (zv 3) (za_cons (zv 1) za_nil))) (za_cons (ze_c1 C_times hr (za_cons (zv 4) (za_cons (zv 2) za_nil))) (za_cons (zv 5) za_nil)))))))))), fun ds S Q h => ?_⟩
    obtain ⟨ps, a, t, rfl, hp, ha, ht, ha0, ht0, h⟩ := h
    refine ⟨ps, rfl, hp, a, t, rfl, ha0, ht0, len1000 (by have := hp.le; omega), zLcL_map (f := ptP) (fun p => ptP (stretchPt a t p)) ps [] (fun p hm acc l' k => ?_) ?_⟩
    · have hs := hp.sz p hm
      exact ⟨rfl, zyes rfl ⟨p.x, a, rfl, hs.x.big, ha.big, p.y, t, rfl, hs.y.big, ht.big, k⟩⟩
    · have h : Q (.d (.list ((ps.map (stretchPt a t)).map ptP))) S := h
      rw [List.map_map] at h
      exact h
end
end Sl
set_option maxRecDepth 512
set_option maxHeartbeats 200000
set_option linter.all false
namespace Sg
/-! ### the order of lines; lists of lines in order -/
def aheadB (l m : Ln) : Bool := decide (l.1 < m.1) || (decide (l.1 = m.1) && decide (l.2 < m.2))
def Ahd (l m : Ln) : Prop := aheadB l m = true
theorem ahd_iff (l m : Ln) : Ahd l m ↔ l.1 < m.1 ∨ (l.1 = m.1 ∧ l.2 < m.2) := by unfold Ahd aheadB; simp
theorem Ahd.trans {a b c : Ln} (h1 : Ahd a b) (h2 : Ahd b c) : Ahd a c := by
  rw [ahd_iff] at *
  grind
theorem Ahd.irr (a : Ln) : ¬ Ahd a a := by rw [ahd_iff]; grind
theorem ahd_tri (a b : Ln) : Ahd a b ∨ a = b ∨ Ahd b a := by
  rw [ahd_iff, ahd_iff]
  by_cases h : a.1 = b.1
  · by_cases h2 : a.2 = b.2
    · exact .inr (.inl (Prod.ext h h2))
    · grind
  · grind
def insL : List Ln → Ln → List Ln
  | [], l => [l]
  | m :: ms, l => if aheadB m l = true then m :: insL ms l else if m = l then m :: ms else l :: m :: ms
def inOrder (ls : List Ln) : List Ln := ls.foldl insL []
theorem insL_end (a : Ln) : ∀ (xs : List Ln), (∀ m ∈ xs, aheadB m a = true) → insL xs a = xs ++ [a]
  | [], _ => rfl
  | x :: xs, h => by rw [insL, if_pos (h x (by simp)), insL_end a xs fun m hm => h m (by simp [hm])]; rfl
theorem insL_at (a m : Ln) : ∀ (k : Nat) (xs : List Ln), (∀ i, i < k → ∀ q, xs[i]? = some q → aheadB q a = true) → xs[k]? = some m → aheadB m a = false → insL xs a = if m = a then xs else xs.take k ++ [a] ++ xs.drop k
  | _, [], _, e, _ => by simp at e
  | 0, x :: xs, _, e, n => by
    simp at e; subst e
    rw [insL, if_neg (by rw [n]; simp)]
    split <;> simp
  | k + 1, x :: xs, h, e, n => by
    rw [insL, if_pos (h 0 (by omega) x (by simp)), insL_at a m k xs (fun i hi q hq => h (i + 1) (by omega) q (by simpa using hq)) (by simpa using e) n]
    split <;> simp
theorem insL_mem (l m : Ln) : ∀ xs : List Ln, m ∈ insL xs l ↔ m = l ∨ m ∈ xs
  | [] => by simp [insL]
  | x :: xs => by
    unfold insL
    split
    · simp [insL_mem l m xs]; grind
    · split
      · rename_i h; subst h; simp
      · simp
theorem insL_len (l : Ln) : ∀ xs : List Ln, (insL xs l).length ≤ xs.length + 1
  | [] => by simp [insL]
  | x :: xs => by
    unfold insL
    have := insL_len l xs
    split
    · simp; omega
    · split <;> simp
abbrev Sorted (ls : List Ln) : Prop := ls.Pairwise Ahd
theorem insL_sorted (l : Ln) : ∀ xs : List Ln, Sorted xs → Sorted (insL xs l)
  | [], _ => by simp [insL, Sorted]
  | x :: xs, h => by
    obtain ⟨h1, h2⟩ := List.pairwise_cons.mp h
    unfold insL
    split
    · rename_i c
      refine List.pairwise_cons.mpr ⟨fun q hq => ?_, insL_sorted l xs h2⟩
      rcases (insL_mem l q xs).mp hq with z | z
      · subst z; exact c
      · exact h1 q z
    · rename_i c
      split
      · exact h
      · rename_i d
        have c2 : Ahd l x := by
          rcases ahd_tri x l with z | z | z
          · exact absurd z c
          · exact absurd z d
          · exact z
        refine List.pairwise_cons.mpr ⟨fun q hq => ?_, h⟩
        rcases List.mem_cons.mp hq with z | z
        · subst z; exact c2
        · exact c2.trans (h1 q z)
theorem inOrder_from : ∀ (ls acc : List Ln), Sorted acc → Sorted (ls.foldl insL acc) ∧ ∀ m, m ∈ ls.foldl insL acc ↔ m ∈ acc ∨ m ∈ ls
  | [], acc, h => ⟨h, fun m => by simp⟩
  | l :: ls, acc, h => by
    obtain ⟨h1, h2⟩ := inOrder_from ls (insL acc l) (insL_sorted l acc h)
    refine ⟨h1, fun m => ?_⟩
    rw [List.foldl_cons, h2, insL_mem]
    simp; grind
theorem inOrder_sorted (ls : List Ln) : Sorted (inOrder ls) := (inOrder_from ls [] .nil).1
theorem inOrder_mem (ls : List Ln) (m : Ln) : m ∈ inOrder ls ↔ m ∈ ls := by rw [inOrder, (inOrder_from ls [] .nil).2]; simp
/-- two ordered lists of the same lines are one -/
theorem Sorted.ext : ∀ {a b : List Ln}, Sorted a → Sorted b → (∀ m, m ∈ a ↔ m ∈ b) → a = b
  | [], [], _, _, _ => rfl
  | [], y :: b, _, _, h => absurd ((h y).mpr (by simp)) (by simp)
  | x :: a, [], _, _, h => absurd ((h x).mp (by simp)) (by simp)
  | x :: a, y :: b, ha, hb, h => by
    obtain ⟨a1, a2⟩ := List.pairwise_cons.mp ha
    obtain ⟨b1, b2⟩ := List.pairwise_cons.mp hb
    have e : x = y := by
      rcases List.mem_cons.mp ((h x).mp (by simp)) with z | z
      · exact z
      · rcases List.mem_cons.mp ((h y).mpr (by simp)) with z2 | z2
        · exact z2.symm
        · exact absurd ((b1 x z).trans (a1 y z2)) (Ahd.irr y)
    subst e
    refine congrArg _ (Sorted.ext a2 b2 fun m => ⟨fun hm => ?_, fun hm => ?_⟩)
    · rcases List.mem_cons.mp ((h m).mp (by simp [hm])) with z | z
      · subst z; exact absurd (a1 m hm) (Ahd.irr m)
      · exact z
    · rcases List.mem_cons.mp ((h m).mpr (by simp [hm])) with z | z
      · subst z; exact absurd (b1 m hm) (Ahd.irr m)
      · exact z
/-! ### all pair lines -/
def rawPairs (ps : List Pt) : List Ln := ps.zipIdx.flatMap fun q => ((ps.take q.2).filter fun o => !decide (q.1.x = o.x)).map (through q.1)
def allPairs (ps : List Pt) : List Ln := inOrder (rawPairs ps)
theorem rise_through {a b : Pt} (h : a.x ≠ b.x) : rise a (through a b) = 0 ∧ rise b (through a b) = 0 := ⟨rise_left a b, rise_right h⟩
theorem mem_take_of {ps : List Pt} {b : Pt} {k : Nat} (h : b ∈ ps.take k) : b ∈ ps := List.mem_of_mem_take h
theorem rawPairs_mem (ps : List Pt) (l : Ln) : l ∈ rawPairs ps ↔ IsPair ps l := by
  unfold rawPairs
  rw [List.mem_flatMap]
  constructor
  · rintro ⟨⟨a, k⟩, hq, hl⟩
    obtain ⟨b, hb, rfl⟩ := List.mem_map.mp hl
    obtain ⟨hb1, hb2⟩ := List.mem_filter.mp hb
    have hne : a.x ≠ b.x := by simpa using hb2
    have ha : a ∈ ps := List.fst_mem_of_mem_zipIdx hq
    exact ⟨a, ha, b, mem_take_of hb1, hne, rise_left a b, rise_right hne⟩
  · rintro ⟨a, ha, b, hb, hne, h1, h2⟩
    obtain ⟨i, hi, ea⟩ := List.getElem_of_mem ha
    obtain ⟨j, hj, eb⟩ := List.getElem_of_mem hb
    have go : ∀ (c d : Pt) (m n : Nat) (hm : m < ps.length) (hn : n < ps.length), ps[m] = c → ps[n] = d → c.x ≠ d.x → rise c l = 0 → rise d l = 0 → n < m → ∃ a, a ∈ ps.zipIdx ∧ l ∈ List.map (through a.fst) (List.filter (fun o => !decide (a.fst.x = o.x)) (List.take a.snd ps)) := by
      intro c d m n hm hn ec ed hcd r1 r2 hlt
      refine ⟨(c, m), ?_, List.mem_map.mpr ⟨d, List.mem_filter.mpr ⟨?_, by simpa using hcd⟩, through_eq hcd r1 r2⟩⟩
      · rw [List.mem_zipIdx_iff_getElem?]
        simp [List.getElem?_eq_getElem hm, ec]
      · rw [List.mem_take_iff_getElem]
        exact ⟨n, by omega, ed⟩
    rcases Nat.lt_trichotomy i j with z | z | z
    · exact go b a j i hj hi eb ea (Ne.symm hne) h2 h1 z
    · subst z; exact absurd (by rw [← ea, ← eb]) hne
    · exact go a b i j hi hj ea eb hne h1 h2 z
theorem allPairs_mem (ps : List Pt) (l : Ln) : l ∈ allPairs ps ↔ IsPair ps l := by rw [allPairs, inOrder_mem, rawPairs_mem]
theorem allPairs_sorted (ps : List Pt) : Sorted (allPairs ps) := inOrder_sorted _
end Sg
set_option Elab.async false
set_option linter.all false
set_option maxRecDepth 100000
set_option maxHeartbeats 4000000
namespace Z
open PySem PySem.Spec PyProof.Rows L2
/-! ### reading what stands in a cell -/
section
variable {S : Sto} {a : Addr} {xs : List PyData} {Q : D → Sto → Prop}
theorem zLen_ref (h : S a = some (.lst xs)) (q : Q (.d (.int xs.length)) S) : zLen [.ref a] S Q := by
  show (match Z.seen S (.ref a) with
    | some (.list xs) => Q (.d (.int xs.length)) S
    | some (.tuple xs) => Q (.d (.int xs.length)) S
    | _ => False)
  rw [seen_ref h]; exact q
theorem zIx_ref {i : Int} {d : PyData} (h : S a = some (.lst xs)) (e : pAt xs i = some d) (q : Q (.d d) S) : zIx (.ref a) (.d (.int i)) S Q := by
  show (match Z.seen S (.ref a), (D.d (.int i)) with
    | some (.list xs), .d (.int i) => (match pAt xs i with
      | some d => Q (.d d) S
      | none => False)
    | some (.tuple xs), .d (.int i) => (match pAt xs i with
      | some d => Q (.d d) S
      | none => False)
    | _, _ => False)
  rw [seen_ref h]
  show (match pAt xs i with
      | some d => Q (.d d) S
      | none => False)
  rw [e]; exact q
theorem zIx_l {i : Int} {d : PyData} (e : pAt xs i = some d) (q : Q (.d d) S) : zIx (.d (.list xs)) (.d (.int i)) S Q := by
  show (match pAt xs i with
      | some d => Q (.d d) S
      | none => False)
  rw [e]; exact q
theorem zIx_t {i : Int} {d : PyData} (e : pAt xs i = some d) (q : Q (.d d) S) : zIx (.d (.tuple xs)) (.d (.int i)) S Q := by
  show (match pAt xs i with
      | some d => Q (.d d) S
      | none => False)
  rw [e]; exact q
theorem zFor_i {zi : ZI} {g : ZG} {tb : ZS} {E : ZEnds} {ρ : Ro} (xs : List PyData) (h : ∀ R : List PyData → Sto → Prop, R xs S → zi ρ S R) (q : zLoop g tb E xs ρ S) : zFor zi g tb E ρ S := h _ q
theorem pAt_nat {α : Type} {f : α → PyData} {l : List α} {k : Nat} {x : α} (h : l[k]? = some x) : pAt (l.map f) (k : Int) = some (f x) := by
  show (l.map f)[k]? = some (f x)
  rw [List.getElem?_map, h]; rfl
theorem pAt_last {α : Type} {f : α → PyData} {l : List α} {x : α} : pAt ((l ++ [x]).map f) (-1) = some (f x) := by
  show (if 0 < ((l ++ [x]).map f).length then ((l ++ [x]).map f)[((l ++ [x]).map f).length - 1 - 0]? else none) = _
  simp
theorem Sto.put_put {c c' : Cell} : (S.put a c).put a c' = S.put a c' := by
  funext b
  unfold Sto.put
  by_cases h : b = a
  · simp [h]
  · simp [h]
theorem Sto.put_del {c : Cell} (h : S a = none) : (S.put a c).del a = S := by
  funext b
  unfold Sto.put Sto.del
  by_cases e : b = a
  · simp [e, h]
  · simp [e]
end
end Z
namespace Sl
open PySem PySem.Spec PyProof.Rows L2 Z
open Sg (Pt Ln PsOk PrOk Spread stand rise)
theorem stand_sz {l : Ln} {x : Rat} (hl : LnSz l) (hx : Sz 400 x) : Sz 8500 (stand l x) := (hl.1.add (hl.2.mul hx)).mono (by decide)
theorem rise_sz {l : Ln} {p : Pt} (hl : LnSz l) (hp : PtSz p) : Sz 9000 (rise p l) := (hp.y.sub (stand_sz hl hp.x)).mono (by decide)
theorem num_pos (q : Rat) : decide (0 < q.num) = decide (0 < q) := by
  rw [← lt_fr 0 q]
  have e : ((0 : Rat).num * (q.den : Int) < q.num * ((0 : Rat).den : Int)) = (0 < q.num) := by
    rw [show (0 : Rat).num = 0 from rfl, show (0 : Rat).den = 1 from rfl]; simp
  simp only [e]
section
variable {P : Program} {w : World} {K : PySem.W.Frag} {mg : Str → Option Value} {base : Heap}
def sp_standing : ZC := fun ds S Q => ∃ (l : Ln) (x : Rat), ds = [.d (lnP l), fr x] ∧ LnSz l ∧ Sz 400 x ∧ Q (fr (stand l x)) S
theorem sc_standing : FnScope ["line", "x"] ["line", "x"] (defScope s_standing) := ⟨rfl, rfl, rfl, by decide +kernel, rfl, by decide +kernel, by decide +kernel⟩
theorem C_standing (T : Txt fa fn P K mg base) (C_plus : Callee P w K mg base 35 "plus" 2 sp_plus) (C_times : Callee P w K mg base 35 "times" 2 sp_times) : Callee P w K mg base 36 "standing" 2 sp_standing :=
  callee T 27 42 (d := d_standing) rfl rfl rfl rfl rfl (fun _ _ _ _ _ _ us hl => match us, hl with | [_, _], _ => rfl) sc_standing (fun ds S Q h => by first | (obtain ⟨_, rfl, _⟩ := h; rfl) | (obtain ⟨_, _, rfl, _⟩ := h; rfl) | (obtain ⟨_, _, _, rfl, _⟩ := h; rfl) | (obtain ⟨_, _, _, _, rfl, _⟩ := h; rfl) | (obtain ⟨_, _, _, _, _, rfl, _⟩ := h; rfl) | (obtain ⟨_, _, _, _, _, _, rfl, _⟩ := h; rfl) | (obtain ⟨_, _, _, _, _, _, _, rfl, _⟩ := h; rfl) | (obtain ⟨_, _, _, _, _, _, _, _, rfl, _⟩ := h; rfl) | (obtain ⟨_, _, _, _, _, _, _, _, _, rfl, _⟩ := h; rfl) | (obtain ⟨_, _, _, _, _, _, _, _, _, _, rfl, _⟩ := h; rfl) | (obtain ⟨_, _, _, _, _, _, _, _, _, _, _, rfl, _⟩ := h; rfl) | (obtain ⟨_, _, _, _, _, _, _, _, _, _, _, _, rfl, _⟩ := h; rfl)) fun f cdv A outer s H hr => by
    have sc := sc_standing
    refine ⟨_, (zss_one (zs_ret (ze_c1 C_plus hr (za_cons (ze_ix zix (zv 0) ze_int) (za_cons (ze_c1 C_times hr (za_cons (ze_ix zix (zv 0) ze_int) (za_cons (zv 1) za_nil))) za_nil))))), fun ds S Q h => ?_⟩
    obtain ⟨l, x, rfl, hl, hx, h⟩ := h
    exact ⟨l.2, x, rfl, hl.2.big, hx.big, l.1, _, rfl, hl.1.big, (hl.2.mul hx).big, h⟩
def sp_stands : ZC := fun ds S Q => ∃ (l : Ln) (x : Rat), ds = [.d (lnP l), fr x] ∧ LnSz l ∧ Sz 400 x ∧ Q (fr (stand l x)) S
theorem sc_stands : FnScope ["line", "x"] ["line", "x"] (defScope s_stands) := ⟨rfl, rfl, rfl, by decide +kernel, rfl, by decide +kernel, by decide +kernel⟩
theorem C_stands (T : Txt fa fn P K mg base) (C_want_line : Callee P w K mg base 6 "want_line" 1 sp_want_line) (C_want_fraction : Callee P w K mg base 3 "want_fraction" 1 sp_want_fraction) (C_standing : Callee P w K mg base 36 "standing" 2 sp_standing) : Callee P w K mg base 37 "stands" 2 sp_stands :=
  callee T 28 43 (d := d_stands) rfl rfl rfl rfl rfl (fun _ _ _ _ _ _ us hl => match us, hl with | [_, _], _ => rfl) sc_stands (fun ds S Q h => by first | (obtain ⟨_, rfl, _⟩ := h; rfl) | (obtain ⟨_, _, rfl, _⟩ := h; rfl) | (obtain ⟨_, _, _, rfl, _⟩ := h; rfl) | (obtain ⟨_, _, _, _, rfl, _⟩ := h; rfl) | (obtain ⟨_, _, _, _, _, rfl, _⟩ := h; rfl) | (obtain ⟨_, _, _, _, _, _, rfl, _⟩ := h; rfl) | (obtain ⟨_, _, _, _, _, _, _, rfl, _⟩ := h; rfl) | (obtain ⟨_, _, _, _, _, _, _, _, rfl, _⟩ := h; rfl) | (obtain ⟨_, _, _, _, _, _, _, _, _, rfl, _⟩ := h; rfl) | (obtain ⟨_, _, _, _, _, _, _, _, _, _, rfl, _⟩ := h; rfl) | (obtain ⟨_, _, _, _, _, _, _, _, _, _, _, rfl, _⟩ := h; rfl) | (obtain ⟨_, _, _, _, _, _, _, _, _, _, _, _, rfl, _⟩ := h; rfl)) fun f cdv A outer s H hr => by
    have sc := sc_stands
    refine ⟨_, (zss_cons (zs_expr (ze_c1 C_want_line hr (za_cons (zv 0) za_nil))) (zss_cons (zs_expr (ze_c1 C_want_fraction hr (za_cons (zv 1) za_nil))) (zss_one (zs_ret (ze_c1 C_standing hr (za_cons (zv 0) (za_cons (zv 1) za_nil))))))), fun ds S Q h => ?_⟩
    obtain ⟨l, x, rfl, hl, hx, h⟩ := h
    exact ⟨l, rfl, x, rfl, l, x, rfl, hl, hx, h⟩
def sp_rise_of_lines : ZC := fun ds S Q => ∃ (p : Pt) (l : Ln), ds = [.d (ptP p), .d (lnP l)] ∧ PtSz p ∧ LnSz l ∧ Q (fr (rise p l)) S
theorem sc_rise_of_lines : FnScope ["point", "line"] ["point", "line"] (defScope s_rise_of_lines) := ⟨rfl, rfl, rfl, by decide +kernel, rfl, by decide +kernel, by decide +kernel⟩
theorem C_rise_of_lines (T : Txt fa fn P K mg base) (C_less : Callee P w K mg base 35 "less" 2 sp_less) (C_standing : Callee P w K mg base 36 "standing" 2 sp_standing) : Callee P w K mg base 37 "rise_of_lines" 2 sp_rise_of_lines :=
  callee T 29 44 (d := d_rise_of_lines) rfl rfl rfl rfl rfl (fun _ _ _ _ _ _ us hl => match us, hl with | [_, _], _ => rfl) sc_rise_of_lines (fun ds S Q h => by first | (obtain ⟨_, rfl, _⟩ := h; rfl) | (obtain ⟨_, _, rfl, _⟩ := h; rfl) | (obtain ⟨_, _, _, rfl, _⟩ := h; rfl) | (obtain ⟨_, _, _, _, rfl, _⟩ := h; rfl) | (obtain ⟨_, _, _, _, _, rfl, _⟩ := h; rfl) | (obtain ⟨_, _, _, _, _, _, rfl, _⟩ := h; rfl) | (obtain ⟨_, _, _, _, _, _, _, rfl, _⟩ := h; rfl) | (obtain ⟨_, _, _, _, _, _, _, _, rfl, _⟩ := h; rfl) | (obtain ⟨_, _, _, _, _, _, _, _, _, rfl, _⟩ := h; rfl) | (obtain ⟨_, _, _, _, _, _, _, _, _, _, rfl, _⟩ := h; rfl) | (obtain ⟨_, _, _, _, _, _, _, _, _, _, _, rfl, _⟩ := h; rfl) | (obtain ⟨_, _, _, _, _, _, _, _, _, _, _, _, rfl, _⟩ := h; rfl)) fun f cdv A outer s H hr => by
    have sc := sc_rise_of_lines
    refine ⟨_, (zss_one (zs_ret (ze_c1 C_less hr (za_cons (ze_ix zix (zv 0) ze_int) (za_cons (ze_c1 C_standing hr (za_cons (zv 1) (za_cons (ze_ix zix (zv 0) ze_int) za_nil))) za_nil))))), fun ds S Q h => ?_⟩
    obtain ⟨p, l, rfl, hp, hl, h⟩ := h
    exact ⟨l, p.x, rfl, hl, hp.x, p.y, _, rfl, hp.y.big, (stand_sz hl hp.x).big, h⟩
def sp_rises : ZC := fun ds S Q => ∃ (ps : List Pt) (l : Ln), ds = [.d (ptsP ps), .d (lnP l)] ∧ Pts ps ∧ LnSz l ∧ Q (.d (.list ((ps.map fun p => rise p l).map frP))) S
theorem sc_rises : FnScope ["points", "line", "point"] ["points", "line"] (defScope s_rises) := ⟨rfl, rfl, rfl, by decide +kernel, rfl, by decide +kernel, by decide +kernel⟩
theorem C_rises (T : Txt fa fn P K mg base) (C_want_points : Callee P w K mg base 6 "want_points" 1 sp_want_points) (C_want_line : Callee P w K mg base 6 "want_line" 1 sp_want_line) (C_rise_of_lines : Callee P w K mg base 37 "rise_of_lines" 2 sp_rise_of_lines) : Callee P w K mg base 38 "rises" 2 sp_rises :=
  callee T 30 45 (d := d_rises) rfl rfl rfl rfl rfl (fun _ _ _ _ _ _ us hl => match us, hl with | [_, _], _ => rfl) sc_rises (fun ds S Q h => by first | (obtain ⟨_, rfl, _⟩ := h; rfl) | (obtain ⟨_, _, rfl, _⟩ := h; rfl) | (obtain ⟨_, _, _, rfl, _⟩ := h; rfl) | (obtain ⟨_, _, _, _, rfl, _⟩ := h; rfl) | (obtain ⟨_, _, _, _, _, rfl, _⟩ := h; rfl) | (obtain ⟨_, _, _, _, _, _, rfl, _⟩ := h; rfl) | (obtain ⟨_, _, _, _, _, _, _, rfl, _⟩ := h; rfl) | (obtain ⟨_, _, _, _, _, _, _, _, rfl, _⟩ := h; rfl) | (obtain ⟨_, _, _, _, _, _, _, _, _, rfl, _⟩ := h; rfl) | (obtain ⟨_, _, _, _, _, _, _, _, _, _, rfl, _⟩ := h; rfl) | (obtain ⟨_, _, _, _, _, _, _, _, _, _, _, rfl, _⟩ := h; rfl) | (obtain ⟨_, _, _, _, _, _, _, _, _, _, _, _, rfl, _⟩ := h; rfl)) fun f cdv A outer s H hr => by
    have sc := sc_rises
    refine ⟨_, (zss_cons (zs_expr (ze_c1 C_want_points hr (za_cons (zv 0) za_nil))) (zss_cons (zs_expr (ze_c1 C_want_line hr (za_cons (zv 1) za_nil))) (zss_one (zs_ret (ze_lc (own := [("point", 2)]) gok_one rfl sc.nd (zi_list (zv 0)) (blkOk_by rfl) (fun _ _ _ _ _ => pg_name (i := 2) sc.nd rfl (Or.inl rfl)) (fun _ _ _ _ _ => zts_nil) (fun _ _ _ _ _ => (ze_c1 C_rise_of_lines hr (za_cons (zv 2) (za_cons (zv 1) za_nil))))))))), fun ds S Q h => ?_⟩
    obtain ⟨ps, l, rfl, hp, hl, h⟩ := h
    refine ⟨ps, rfl, hp, l, rfl, len1000 (by have := hp.le; omega), zLcL_map (f := ptP) (fun p => frP (rise p l)) ps [] (fun p hm acc l' k => zyes rfl ⟨p, l, rfl, hp.sz p hm, hl, k⟩) ?_⟩
    rw [List.map_map] at h
    exact h
def sp_sums_of : ZC := fun ds S Q => ∃ (ps : List Pt) (l : Ln), ds = [.d (ptsP ps), .d (lnP l)] ∧ ps.length ≤ 12 ∧ PsSz ps ∧ LnSz l ∧ Q (.d (prP (Sg.sums ps l).1 (Sg.sums ps l).2)) S
theorem sc_sums_of : FnScope ["points", "line", "above", "beneath", "point", "rise"] ["points", "line"] (defScope s_sums_of) := ⟨rfl, rfl, rfl, by decide +kernel, rfl, by decide +kernel, by decide +kernel⟩
theorem C_sums_of (T : Txt fa fn P K mg base) (C_rise_of_lines : Callee P w K mg base 37 "rise_of_lines" 2 sp_rise_of_lines) (C_plus : Callee P w K mg base 35 "plus" 2 sp_plus) (C_less : Callee P w K mg base 35 "less" 2 sp_less) (C_times : Callee P w K mg base 35 "times" 2 sp_times) : Callee P w K mg base 38 "sums_of" 2 sp_sums_of :=
  callee T 31 46 (d := d_sums_of) rfl rfl rfl rfl rfl (fun _ _ _ _ _ _ us hl => match us, hl with | [_, _], _ => rfl) sc_sums_of (fun ds S Q h => by first | (obtain ⟨_, rfl, _⟩ := h; rfl) | (obtain ⟨_, _, rfl, _⟩ := h; rfl) | (obtain ⟨_, _, _, rfl, _⟩ := h; rfl) | (obtain ⟨_, _, _, _, rfl, _⟩ := h; rfl) | (obtain ⟨_, _, _, _, _, rfl, _⟩ := h; rfl) | (obtain ⟨_, _, _, _, _, _, rfl, _⟩ := h; rfl) | (obtain ⟨_, _, _, _, _, _, _, rfl, _⟩ := h; rfl) | (obtain ⟨_, _, _, _, _, _, _, _, rfl, _⟩ := h; rfl) | (obtain ⟨_, _, _, _, _, _, _, _, _, rfl, _⟩ := h; rfl) | (obtain ⟨_, _, _, _, _, _, _, _, _, _, rfl, _⟩ := h; rfl) | (obtain ⟨_, _, _, _, _, _, _, _, _, _, _, rfl, _⟩ := h; rfl) | (obtain ⟨_, _, _, _, _, _, _, _, _, _, _, _, rfl, _⟩ := h; rfl)) fun f cdv A outer s H hr => by
    have sc := sc_sums_of
    refine ⟨_, (zss_cons (zs_par rfl sc.nd (i := 2) (j := 3) rfl rfl (by decide) rfl rfl (za_cons (ze_gtup (by rfl) (T.glo_ 133 rfl) T.nought) (za_cons (ze_gtup (by rfl) (T.glo_ 133 rfl) T.nought) za_nil))) (zss_cons (zs_for PassesOwn.never rfl (zi_list (zv 0)) (zg_name (i := 4) sc.nd rfl (Or.inl rfl)) (zss_cons (zs_set (i := 5) sc.nd rfl (Or.inl rfl) (ze_c1 C_rise_of_lines hr (za_cons (zv 4) (za_cons (zv 1) za_nil)))) (zss_one (zs_if (zb_cmp zop_gt (ze_ix zix (zv 5) ze_int) ze_int (by rfl)) (zss_one (zs_set (i := 2) sc.nd rfl (Or.inl rfl) (ze_c1 C_plus hr (za_cons (zv 2) (za_cons (ze_c1 C_times hr (za_cons (ze_ix zix (zv 4) ze_int) (za_cons (zv 5) za_nil))) za_nil))))) (zss_one (zs_set (i := 3) sc.nd rfl (Or.inl rfl) (ze_c1 C_less hr (za_cons (zv 3) (za_cons (ze_c1 C_times hr (za_cons (ze_ix zix (zv 4) ze_int) (za_cons (zv 5) za_nil))) za_nil))))))))) (zss_one (zs_ret (ze_tup (za_cons (zv 2) (za_cons (zv 3) za_nil))))))), fun ds S Q h => ?_⟩
    obtain ⟨ps, l, rfl, hn, hp, hl, h⟩ := h
    refine zLoop_ind (α := Pt) (f := ptP) (fun m ρ S' => S' = S ∧ ∃ k a b o1 o2, k + m.length = ps.length ∧ (∀ p ∈ m, PtSz p) ∧ Sz (k * 9500 + 1) a ∧ Sz (k * 9500 + 1) b ∧ m.foldl (fun s p => if 0 < rise p l then (s.1 + p.w * rise p l, s.2) else (s.1, s.2 - p.w * rise p l)) (a, b) = Sg.sums ps l ∧
      ρ = [some (.d (ptsP ps)), some (.d (lnP l)), some (fr a), some (fr b), o1, o2]) ?_ ?_ ps _ S ?_
    · rintro ρ S' ⟨rfl, k, a, b, o1, o2, _, _, _, _, e, rfl⟩
      have e2 : (a, b) = Sg.sums ps l := e
      rw [← e2] at h
      exact h
    · rintro p m ρ S' ⟨rfl, k, a, b, o1, o2, hk, hm, ha, hb, e, rfl⟩ ih
      have hs := hm p (by simp)
      rw [List.length_cons] at hk
      have hr1 := rise_sz hl hs
      have hwr : Sz 9400 (p.w * rise p l) := (hs.w.mul hr1).mono (by decide)
      have hk2 : k * 9500 + 1 ≤ 60000000 := by omega
      refine ⟨p, l, rfl, hs, hl, ?_⟩
      rw [List.foldl_cons] at e
      refine zyes_no (num_pos (rise p l)) (fun c => ?_) (fun c => ?_)
      · rw [if_pos c] at e
        exact ⟨p.w, _, rfl, hs.w.big, hr1.big, a, _, rfl, ha.mono hk2, hwr.big, ih _ _ ⟨rfl, k + 1, _, b, _, _, by omega, fun q hq => hm q (by simp [hq]), (ha.add hwr).mono (by omega), hb.mono (by omega), e, rfl⟩⟩
      · rw [if_neg c] at e
        exact ⟨p.w, _, rfl, hs.w.big, hr1.big, b, _, rfl, hb.mono hk2, hwr.big, ih _ _ ⟨rfl, k + 1, a, _, _, _, by omega, fun q hq => hm q (by simp [hq]), ha.mono (by omega), (hb.sub hwr).mono (by omega), e, rfl⟩⟩
    · exact ⟨rfl, 0, 0, 0, none, none, by omega, hp, Sz.zero, Sz.zero, rfl, rfl⟩
theorem sums_sz {ps : List Pt} {l : Ln} (hn : ps.length ≤ 12) (hp : PsSz ps) (hl : LnSz l) : Sz 114001 (Sg.sums ps l).1 ∧ Sz 114001 (Sg.sums ps l).2 := by
  have go : ∀ (m : List Pt) (k : Nat) (a b : Rat), k + m.length ≤ 12 → (∀ p ∈ m, PtSz p) → Sz (k * 9500 + 1) a → Sz (k * 9500 + 1) b →
      Sz 114001 (m.foldl (fun s p => if 0 < rise p l then (s.1 + p.w * rise p l, s.2) else (s.1, s.2 - p.w * rise p l)) (a, b)).1 ∧ Sz 114001 (m.foldl (fun s p => if 0 < rise p l then (s.1 + p.w * rise p l, s.2) else (s.1, s.2 - p.w * rise p l)) (a, b)).2 := by
    intro m
    induction m with
    | nil => intro k a b hk _ ha hb; exact ⟨ha.mono (by simp at hk; omega), hb.mono (by simp at hk; omega)⟩
    | cons p m ih =>
      intro k a b hk hm ha hb
      rw [List.length_cons] at hk
      have hs := hm p (by simp)
      have hwr : Sz 9400 (p.w * rise p l) := (hs.w.mul (rise_sz hl hs)).mono (by decide)
      rw [List.foldl_cons]
      by_cases c : 0 < rise p l
      · rw [if_pos c]
        exact ih (k + 1) _ _ (by omega) (fun q hq => hm q (by simp [hq])) ((ha.add hwr).mono (by omega)) (hb.mono (by omega))
      · rw [if_neg c]
        exact ih (k + 1) _ _ (by omega) (fun q hq => hm q (by simp [hq])) (ha.mono (by omega)) ((hb.sub hwr).mono (by omega))
  exact go ps 0 0 0 (by omega) hp Sz.zero Sz.zero
theorem cost_sz {ps : List Pt} {pr l : Ln} (hn : ps.length ≤ 12) (hp : PsSz ps) (hr : PrSz pr) (hl : LnSz l) : Sz 240000 (Sg.cost ps pr l) := by
  obtain ⟨h1, h2⟩ := sums_sz hn hp hl
  exact ((h1.mul hr.1).add (h2.mul hr.2)).mono (by decide)
def sp_cost_of_lines : ZC := fun ds S Q => ∃ (ps : List Pt) (pr l : Ln), ds = [.d (ptsP ps), .d (lnP pr), .d (lnP l)] ∧ ps.length ≤ 12 ∧ PsSz ps ∧ PrSz pr ∧ LnSz l ∧ Q (fr (Sg.cost ps pr l)) S
theorem sc_cost_of_lines : FnScope ["points", "prices", "line", "above", "beneath"] ["points", "prices", "line"] (defScope s_cost_of_lines) := ⟨rfl, rfl, rfl, by decide +kernel, rfl, by decide +kernel, by decide +kernel⟩
theorem C_cost_of_lines (T : Txt fa fn P K mg base) (C_sums_of : Callee P w K mg base 38 "sums_of" 2 sp_sums_of) (C_plus : Callee P w K mg base 35 "plus" 2 sp_plus) (C_times : Callee P w K mg base 35 "times" 2 sp_times) : Callee P w K mg base 39 "cost_of_lines" 3 sp_cost_of_lines :=
  callee T 32 47 (d := d_cost_of_lines) rfl rfl rfl rfl rfl (fun _ _ _ _ _ _ us hl => match us, hl with | [_, _, _], _ => rfl) sc_cost_of_lines (fun ds S Q h => by first | (obtain ⟨_, rfl, _⟩ := h; rfl) | (obtain ⟨_, _, rfl, _⟩ := h; rfl) | (obtain ⟨_, _, _, rfl, _⟩ := h; rfl) | (obtain ⟨_, _, _, _, rfl, _⟩ := h; rfl) | (obtain ⟨_, _, _, _, _, rfl, _⟩ := h; rfl) | (obtain ⟨_, _, _, _, _, _, rfl, _⟩ := h; rfl) | (obtain ⟨_, _, _, _, _, _, _, rfl, _⟩ := h; rfl) | (obtain ⟨_, _, _, _, _, _, _, _, rfl, _⟩ := h; rfl) | (obtain ⟨_, _, _, _, _, _, _, _, _, rfl, _⟩ := h; rfl) | (obtain ⟨_, _, _, _, _, _, _, _, _, _, rfl, _⟩ := h; rfl) | (obtain ⟨_, _, _, _, _, _, _, _, _, _, _, rfl, _⟩ := h; rfl) | (obtain ⟨_, _, _, _, _, _, _, _, _, _, _, _, rfl, _⟩ := h; rfl)) fun f cdv A outer s H hr => by
    have sc := sc_cost_of_lines
    refine ⟨_, (zss_cons (zs_asg (ze_c1 C_sums_of hr (za_cons (zv 0) (za_cons (zv 2) za_nil))) (zg_tup (n := 2) rfl (zgs_cons (zg_name (i := 3) sc.nd rfl (Or.inl rfl)) (zgs_cons (zg_name (i := 4) sc.nd rfl (Or.inl rfl)) zgs_nil)))) (zss_one (zs_ret (ze_c1 C_plus hr (za_cons (ze_c1 C_times hr (za_cons (zv 3) (za_cons (ze_ix zix (zv 1) ze_int) za_nil))) (za_cons (ze_c1 C_times hr (za_cons (zv 4) (za_cons (ze_ix zix (zv 1) ze_int) za_nil))) za_nil)))))), fun ds S Q h => ?_⟩
    obtain ⟨ps, pr, l, rfl, hn, hp, hr2, hl, h⟩ := h
    obtain ⟨h1, h2⟩ := sums_sz hn hp hl
    exact ⟨ps, l, rfl, hn, hp, hl, rfl, _, pr.1, rfl, h1.big, hr2.1.big, _, pr.2, rfl, h2.big, hr2.2.big, _, _, rfl, (h1.mul hr2.1).big, (h2.mul hr2.2).big, h⟩
def sp_is_ahead_lines : ZC := fun ds S Q => ∃ (l m : Ln), ds = [.d (lnP l), .d (lnP m)] ∧ (Big l.1 ∧ Big l.2) ∧ (Big m.1 ∧ Big m.2) ∧ Q (.d (.bool (Sg.aheadB l m))) S
theorem sc_is_ahead_lines : FnScope ["one", "other"] ["one", "other"] (defScope s_is_ahead_lines) := ⟨rfl, rfl, rfl, by decide +kernel, rfl, by decide +kernel, by decide +kernel⟩
theorem C_is_ahead_lines (T : Txt fa fn P K mg base) (C_is_below : Callee P w K mg base 1 "is_below" 2 sp_is_below) : Callee P w K mg base 2 "is_ahead_lines" 2 sp_is_ahead_lines :=
  callee T 33 48 (d := d_is_ahead_lines) rfl rfl rfl rfl rfl (fun _ _ _ _ _ _ us hl => match us, hl with | [_, _], _ => rfl) sc_is_ahead_lines (fun ds S Q h => by first | (obtain ⟨_, rfl, _⟩ := h; rfl) | (obtain ⟨_, _, rfl, _⟩ := h; rfl) | (obtain ⟨_, _, _, rfl, _⟩ := h; rfl) | (obtain ⟨_, _, _, _, rfl, _⟩ := h; rfl) | (obtain ⟨_, _, _, _, _, rfl, _⟩ := h; rfl) | (obtain ⟨_, _, _, _, _, _, rfl, _⟩ := h; rfl) | (obtain ⟨_, _, _, _, _, _, _, rfl, _⟩ := h; rfl) | (obtain ⟨_, _, _, _, _, _, _, _, rfl, _⟩ := h; rfl) | (obtain ⟨_, _, _, _, _, _, _, _, _, rfl, _⟩ := h; rfl) | (obtain ⟨_, _, _, _, _, _, _, _, _, _, rfl, _⟩ := h; rfl) | (obtain ⟨_, _, _, _, _, _, _, _, _, _, _, rfl, _⟩ := h; rfl) | (obtain ⟨_, _, _, _, _, _, _, _, _, _, _, _, rfl, _⟩ := h; rfl)) fun f cdv A outer s H hr => by
    have sc := sc_is_ahead_lines
    refine ⟨_, (zss_one (zs_ret (ze_or (ze_c1 C_is_below hr (za_cons (ze_ix zix (zv 0) ze_int) (za_cons (ze_ix zix (zv 1) ze_int) za_nil))) (ze_one (ze_and (ze_cmp (zop_eq (Roomu hr 64)) (ze_ix zix (zv 0) ze_int) (ze_ix zix (zv 1) ze_int) (by rfl)) (ze_one (ze_c1 C_is_below hr (za_cons (ze_ix zix (zv 0) ze_int) (za_cons (ze_ix zix (zv 1) ze_int) za_nil))))))))), fun ds S Q h => ?_⟩
    obtain ⟨l, m, rfl, hl, hm, h⟩ := h
    unfold Sg.aheadB at h
    refine ⟨l.1, m.1, rfl, hl.1, hm.1, zif (fun c => ?_) (fun c => ⟨_, eqo_fr l.1 m.1, zif (fun d => ⟨l.2, m.2, rfl, hl.2, hm.2, ?_⟩) (fun d => ?_)⟩)⟩
    · rw [decide_eq_true c] at h
      exact h
    · rw [decide_eq_false c, decide_eq_true d] at h
      exact h
    · rw [decide_eq_false c, decide_eq_false d] at h
      exact h
end
end Sl
set_option Elab.async false
set_option linter.all false
set_option maxRecDepth 100000
set_option maxHeartbeats 4000000
namespace Z
open PySem PySem.Spec PyProof.Rows L2
theorem enumP {α : Type} (f : α → PyData) (l : List α) : (l.map f).zipIdx.map (fun p => PyData.tuple [.int p.2, p.1]) = l.zipIdx.map fun q => .tuple [.int q.2, f q.1] := by
  rw [List.zipIdx_map, List.map_map]; rfl
theorem zipP {α β : Type} (f : α → PyData) (g : β → PyData) (l : List α) (m : List β) : ((l.map f).zip (m.map g)).map (fun p => PyData.tuple [p.1, p.2]) = (l.zip m).map fun q => .tuple [f q.1, g q.2] := by
  rw [List.zip_map, List.map_map]; rfl
end Z
namespace Sl
open PySem PySem.Spec PyProof.Rows L2 Z
open Sg (Pt Ln PsOk PrOk Spread stand rise allPairs inOrder insL aheadB)
section
variable {P : Program} {w : World} {K : PySem.W.Frag} {mg : Str → Option Value} {base : Heap}
def sp_in_order : ZC := fun ds S Q => ∃ ls : List Ln, ds = [.d (lnsP ls)] ∧ ls.length ≤ 500 ∧ (∀ l ∈ ls, Big l.1 ∧ Big l.2) ∧ Q (.d (lnsP (inOrder ls))) S
theorem sc_in_order : FnScope ["lines", "found", "line", "at"] ["lines"] (defScope s_in_order) := ⟨rfl, rfl, rfl, by decide +kernel, rfl, by decide +kernel, by decide +kernel⟩
theorem C_in_order (T : Txt fa fn P K mg base) (C_is_ahead_lines : Callee P w K mg base 2 "is_ahead_lines" 2 sp_is_ahead_lines) : Callee P w K mg base 3 "in_order" 1 sp_in_order :=
  callee T 34 49 (d := d_in_order) rfl rfl rfl rfl rfl (fun _ _ _ _ _ _ us hl => match us, hl with | [_], _ => rfl) sc_in_order (fun ds S Q h => by first | (obtain ⟨_, rfl, _⟩ := h; rfl) | (obtain ⟨_, _, rfl, _⟩ := h; rfl) | (obtain ⟨_, _, _, rfl, _⟩ := h; rfl) | (obtain ⟨_, _, _, _, rfl, _⟩ := h; rfl) | (obtain ⟨_, _, _, _, _, rfl, _⟩ := h; rfl) | (obtain ⟨_, _, _, _, _, _, rfl, _⟩ := h; rfl) | (obtain ⟨_, _, _, _, _, _, _, rfl, _⟩ := h; rfl) | (obtain ⟨_, _, _, _, _, _, _, _, rfl, _⟩ := h; rfl) | (obtain ⟨_, _, _, _, _, _, _, _, _, rfl, _⟩ := h; rfl) | (obtain ⟨_, _, _, _, _, _, _, _, _, _, rfl, _⟩ := h; rfl) | (obtain ⟨_, _, _, _, _, _, _, _, _, _, _, rfl, _⟩ := h; rfl) | (obtain ⟨_, _, _, _, _, _, _, _, _, _, _, _, rfl, _⟩ := h; rfl)) fun f cdv A outer s H hr => by
    have sc := sc_in_order
    refine ⟨_, (zss_cons (zs_set (i := 1) sc.nd rfl (Or.inl rfl) (ze_lstO za_nil)) (zss_cons (zs_for PassesOwn.never rfl (zi_list (zv 0)) (zg_name (i := 2) sc.nd rfl (Or.inl rfl)) (zss_cons (zs_set (i := 3) sc.nd rfl (Or.inl rfl) ze_int) (zss_cons (zs_while PassesOwn.never (PW.pt (zw_and (zb_cmp zop_lt (zv 3) (ze_callB zc_len (by rfl) (T.free_ 8 rfl) (by decide +kernel) (za_cons (zv 1) za_nil)) (by rfl)) (zw_and1 (zb_val (ze_c1 C_is_ahead_lines hr (za_cons (ze_ix zix (zv 1) (zv 3)) (za_cons (zv 2) za_nil))))))) (zss_one (zs_set (i := 3) sc.nd rfl (Or.inl rfl) (ze_op zop_add (zv 3) ze_int)))) (zss_one (zs_if (PW.pt (zw_or (zb_cmp (zop_eq (Roomu hr 64)) (zv 3) (ze_callB zc_len (by rfl) (T.free_ 8 rfl) (by decide +kernel) (za_cons (zv 1) za_nil)) (by rfl)) (zw_or1 (zb_cmp (zop_ne (Roomu hr 64)) (ze_ix zix (zv 1) (zv 3)) (zv 2) (by rfl))))) (zss_one (zs_expr (ze_bm PySem.F.plainAttrs_list PySem.F.slot_list_insert PySem.F.type_list_insert zm_insert (zv 1) (za_cons (zv 3) (za_cons (zv 2) za_nil))))) zss_nil))))) (zss_one (zs_ret (ze_frz (zv 1)))))), fun ds S Q h => ?_⟩
    obtain ⟨ls, rfl, hn, hb, h⟩ := h
    refine fun p hp => ?_
    refine zLoop_ind (α := Ln) (f := lnP) (fun m ρ S' => ∃ xs o1 o2, S' = S.put p (.lst (xs.map lnP)) ∧ m.foldl insL xs = inOrder ls ∧ xs.length + m.length ≤ 500 ∧ (∀ l ∈ xs, Big l.1 ∧ Big l.2) ∧ (∀ l ∈ m, Big l.1 ∧ Big l.2) ∧ ρ = [some (.d (lnsP ls)), some (.ref p), o1, o2]) ?_ ?_ ls _ _ ?_
    · rintro ρ S' ⟨xs, o1, o2, rfl, e, _, _, _, rfl⟩
      have e2 : xs = inOrder ls := e
      refine ⟨p, _, rfl, Sto.put_same, ?_⟩
      rw [Sto.put_del hp, e2]
      exact h
    · rintro a m ρ S' ⟨xs, o1, o2, rfl, e, hl, hx, hm, rfl⟩ ih
      rw [List.length_cons] at hl
      have ha := hm a (by simp)
      rw [List.foldl_cons] at e
      refine Exists.intro (fun n ρ S'' => S'' = S.put p (.lst (xs.map lnP)) ∧ ∃ k : Nat, k ≤ xs.length ∧ n = xs.length - k ∧ (∀ i, i < k → ∀ q, xs[i]? = some q → aheadB q a = true) ∧ ρ = [some (.d (lnsP ls)), some (.ref p), some (.d (lnP a)), some (.d (.int k))]) (And.intro ⟨_, rfl, 0, Nat.zero_le _, rfl, fun i hi => absurd hi (by omega), rfl⟩ ?_)
      rintro n ρ S'' ⟨rfl, k, hk, rfl, hah, rfl⟩
      -- what is done behind the loop
      have fin : ∀ xs' : List Ln, xs' = insL xs a → zLoop _ _ _ (m.map lnP) [some (.d (lnsP ls)), some (.ref p), some (.d (lnP a)), some (.d (.int k))] (S.put p (.lst (xs'.map lnP))) := fun xs' ex => by
        subst ex
        refine ih _ _ ⟨insL xs a, _, _, rfl, e, ?_, fun l hl => ?_, fun l hl => hm l (by simp [hl]), rfl⟩
        · have : (insL xs a).length ≤ xs.length + 1 := Sg.insL_len a xs
          omega
        · rcases (Sg.insL_mem a l xs).mp hl with z | z
          · rw [z]; exact ha
          · exact hx l z
      have put : ∀ (q : PyData), q = lnP a → xs.take k ++ [a] ++ xs.drop k = insL xs a → ∃ (p' : Addr) (xs' : List PyData) (n : Nat) (y : PyData), D.ref p = .ref p' ∧ [D.d (.int (k : Int)), .d q] = [.d (.int (.ofNat n)), .d y] ∧ (S.put p (.lst (xs.map lnP))) p' = some (.lst xs') ∧ xs'.length < 1000 ∧ n < 1000 ∧ (fun _ S1 => zLoop _ _ _ (m.map lnP) [some (.d (lnsP ls)), some (.ref p), some (.d (lnP a)), some (.d (.int k))] S1) (D.d .none) ((S.put p (.lst (xs.map lnP))).put p' (.lst (xs'.take n ++ [y] ++ xs'.drop n))) := fun q eq ex => by
        subst eq
        refine ⟨p, _, k, _, rfl, rfl, Sto.put_same, by rw [List.length_map]; omega, by omega, ?_⟩
        have := fin _ ex
        rw [Sto.put_put, ← List.map_take, ← List.map_drop]
        simpa using this
      dsimp only [zAsgG, zDPut, zwipe, zNeg, List.map_cons, List.map_nil, ztAnd, ztOr, ztNot, ztB, zOp, zCall, zaCons, zaNil, zV, zC, zgName, zgTup, zgsN, zgCons, zgNil, zSeq, zAsg, zIfS, zRet, zDrop_, zNext, List.getElem?_cons_succ, List.getElem?_cons_zero, List.set_cons_succ, List.set_cons_zero]
      refine zLen_ref Sto.put_same ?_
      rw [List.length_map]
      refine zif (fun c => ?_) (fun c => ?_)
      · have c2 : k < xs.length := by omega
        have e3 : xs[k]? = some xs[k] := List.getElem?_eq_getElem c2
        have hxk := hx _ (List.getElem_mem c2)
        refine zIx_ref Sto.put_same (pAt_nat e3) ⟨xs[k], a, rfl, hxk, ha, zboth (fun d => ?_) (fun d => ?_)⟩
        · exact ⟨_, by omega, rfl, k + 1, by omega, rfl, fun i hi q hq => by
            by_cases z : i = k
            · subst z; rw [e3] at hq; cases hq; exact d
            · exact hah i (by omega) q hq, rfl⟩
        · have e4 := Sg.insL_at a xs[k] k xs hah e3 d
          refine zLen_ref Sto.put_same ?_
          rw [List.length_map]
          refine ⟨_, eqo_int _ _, zno (decide_eq_false (by omega)) (zIx_ref Sto.put_same (pAt_nat e3) ⟨_, eqo_ln xs[k] a, zifn (fun z => ?_) (fun z => ?_)⟩)⟩
          · rw [if_neg z] at e4
            exact ⟨⟨p, _, rfl, Sto.put_same⟩, put _ rfl e4.symm⟩
          · rw [if_pos z] at e4
            exact fin xs e4.symm
      · have c2 : k = xs.length := by omega
        have e4 := Sg.insL_end a xs fun q hq => by
          obtain ⟨i, hi, eq⟩ := List.getElem_of_mem hq
          exact hah i (by omega) q (by rw [List.getElem?_eq_getElem hi, eq])
        refine zno rfl (zLen_ref Sto.put_same ?_)
        rw [List.length_map]
        refine ⟨_, eqo_int _ _, zyes (decide_eq_true (by omega)) (zyes rfl ?_)⟩
        exact ⟨⟨p, _, rfl, Sto.put_same⟩, put _ rfl (by rw [e4, c2]; simp)⟩
    · exact ⟨[], none, none, rfl, rfl, by simpa using hn, by simp, hb, rfl⟩
def sp_tilted_line : ZC := fun ds S Q => ∃ l m : Ln, ds = [.d (lnP l), .d (lnP m)] ∧ LnSz l ∧ LnSz m ∧ Q (.d (lnP (l.1 + m.1, l.2 + m.2))) S
theorem sc_tilted_line : FnScope ["line", "other"] ["line", "other"] (defScope s_tilted_line) := ⟨rfl, rfl, rfl, by decide +kernel, rfl, by decide +kernel, by decide +kernel⟩
theorem C_tilted_line (T : Txt fa fn P K mg base) (C_want_line : Callee P w K mg base 6 "want_line" 1 sp_want_line) (C_plus : Callee P w K mg base 35 "plus" 2 sp_plus) : Callee P w K mg base 36 "tilted_line" 2 sp_tilted_line :=
  callee T 35 50 (d := d_tilted_line) rfl rfl rfl rfl rfl (fun _ _ _ _ _ _ us hl => match us, hl with | [_, _], _ => rfl) sc_tilted_line (fun ds S Q h => by first | (obtain ⟨_, rfl, _⟩ := h; rfl) | (obtain ⟨_, _, rfl, _⟩ := h; rfl) | (obtain ⟨_, _, _, rfl, _⟩ := h; rfl) | (obtain ⟨_, _, _, _, rfl, _⟩ := h; rfl) | (obtain ⟨_, _, _, _, _, rfl, _⟩ := h; rfl) | (obtain ⟨_, _, _, _, _, _, rfl, _⟩ := h; rfl) | (obtain ⟨_, _, _, _, _, _, _, rfl, _⟩ := h; rfl) | (obtain ⟨_, _, _, _, _, _, _, _, rfl, _⟩ := h; rfl) | (obtain ⟨_, _, _, _, _, _, _, _, _, rfl, _⟩ := h; rfl) | (obtain ⟨_, _, _, _, _, _, _, _, _, _, rfl, _⟩ := h; rfl) | (obtain ⟨_, _, _, _, _, _, _, _, _, _, _, rfl, _⟩ := h; rfl) | (obtain ⟨_, _, _, _, _, _, _, _, _, _, _, _, rfl, _⟩ := h; rfl)) fun f cdv A outer s H hr => by
    have sc := sc_tilted_line
    refine ⟨_, (zss_cons (zs_expr (ze_c1 C_want_line hr (za_cons (zv 0) za_nil))) (zss_cons (zs_expr (ze_c1 C_want_line hr (za_cons (zv 1) za_nil))) (zss_one (zs_ret (ze_tup (za_cons (ze_c1 C_plus hr (za_cons (ze_ix zix (zv 0) ze_int) (za_cons (ze_ix zix (zv 1) ze_int) za_nil))) (za_cons (ze_c1 C_plus hr (za_cons (ze_ix zix (zv 0) ze_int) (za_cons (ze_ix zix (zv 1) ze_int) za_nil))) za_nil))))))), fun ds S Q h => ?_⟩
    obtain ⟨l, m, rfl, hl, hm, h⟩ := h
    exact ⟨l, rfl, m, rfl, l.1, m.1, rfl, hl.1.big, hm.1.big, l.2, m.2, rfl, hl.2.big, hm.2.big, h⟩
def sp_stretched_line : ZC := fun ds S Q => ∃ (l : Ln) (a t : Rat), ds = [.d (lnP l), fr a, fr t] ∧ LnSz l ∧ Sz 4000 a ∧ Sz 4000 t ∧ a ≠ 0 ∧ t ≠ 0 ∧ Q (.d (lnP (l.1 * t, l.2 * t / a))) S
theorem sc_stretched_line : FnScope ["line", "across", "tall"] ["line", "across", "tall"] (defScope s_stretched_line) := ⟨rfl, rfl, rfl, by decide +kernel, rfl, by decide +kernel, by decide +kernel⟩
theorem C_stretched_line (T : Txt fa fn P K mg base) (C_want_line : Callee P w K mg base 6 "want_line" 1 sp_want_line) (C_want_stretch : Callee P w K mg base 7 "want_stretch" 2 sp_want_stretch) (C_times : Callee P w K mg base 35 "times" 2 sp_times) (C_over : Callee P w K mg base 35 "over" 2 sp_over) : Callee P w K mg base 36 "stretched_line" 3 sp_stretched_line :=
  callee T 36 51 (d := d_stretched_line) rfl rfl rfl rfl rfl (fun _ _ _ _ _ _ us hl => match us, hl with | [_, _, _], _ => rfl) sc_stretched_line (fun ds S Q h => by first | (obtain ⟨_, rfl, _⟩ := h; rfl) | (obtain ⟨_, _, rfl, _⟩ := h; rfl) | (obtain ⟨_, _, _, rfl, _⟩ := h; rfl) | (obtain ⟨_, _, _, _, rfl, _⟩ := h; rfl) | (obtain ⟨_, _, _, _, _, rfl, _⟩ := h; rfl) | (obtain ⟨_, _, _, _, _, _, rfl, _⟩ := h; rfl) | (obtain ⟨_, _, _, _, _, _, _, rfl, _⟩ := h; rfl) | (obtain ⟨_, _, _, _, _, _, _, _, rfl, _⟩ := h; rfl) | (obtain ⟨_, _, _, _, _, _, _, _, _, rfl, _⟩ := h; rfl) | (obtain ⟨_, _, _, _, _, _, _, _, _, _, rfl, _⟩ := h; rfl) | (obtain ⟨_, _, _, _, _, _, _, _, _, _, _, rfl, _⟩ := h; rfl) | (obtain ⟨_, _, _, _, _, _, _, _, _, _, _, _, rfl, _⟩ := h; rfl)) fun f cdv A outer s H hr => by
    have sc := sc_stretched_line
    refine ⟨_, (zss_cons (zs_expr (ze_c1 C_want_line hr (za_cons (zv 0) za_nil))) (zss_cons (zs_expr (ze_c1 C_want_stretch hr (za_cons (zv 1) (za_cons (zv 2) za_nil)))) (zss_one (zs_ret (ze_tup (za_cons (ze_c1 C_times hr (za_cons (ze_ix zix (zv 0) ze_int) (za_cons (zv 2) za_nil))) (za_cons (ze_c1 C_over hr (za_cons (ze_c1 C_times hr (za_cons (ze_ix zix (zv 0) ze_int) (za_cons (zv 2) za_nil))) (za_cons (zv 1) za_nil))) za_nil))))))), fun ds S Q h => ?_⟩
    obtain ⟨l, a, t, rfl, hl, ha, ht, ha0, ht0, h⟩ := h
    exact ⟨l, rfl, a, t, rfl, ha0, ht0, l.1, t, rfl, hl.1.big, ht.big, l.2, t, rfl, hl.2.big, ht.big, _, a, rfl, (hl.2.mul ht).big, ha.big, ha0, h⟩
theorem through_sz {a b : Pt} (ha : PtSz a) (hb : PtSz b) (hne : a.x ≠ b.x) : LnSz (Sg.through a b) := by
  have h2 : b.x - a.x ≠ 0 := by grind
  have hs : Sz 1602 ((b.y - a.y) / (b.x - a.x)) := ((hb.y.sub ha.y).div (hb.x.sub ha.x) h2).mono (by decide)
  exact ⟨(ha.y.sub (hs.mul ha.x)).mono (by decide), hs.mono (by decide)⟩
def sp_line_through : ZC := fun ds S Q => ∃ a b : Pt, ds = [.d (ptP a), .d (ptP b)] ∧ PtSz a ∧ PtSz b ∧ a.x ≠ b.x ∧ Q (.d (lnP (Sg.through a b))) S
theorem sc_line_through : FnScope ["one", "other", "slope"] ["one", "other"] (defScope s_line_through) := ⟨rfl, rfl, rfl, by decide +kernel, rfl, by decide +kernel, by decide +kernel⟩
theorem C_line_through (T : Txt fa fn P K mg base) (C_over : Callee P w K mg base 35 "over" 2 sp_over) (C_less : Callee P w K mg base 35 "less" 2 sp_less) (C_times : Callee P w K mg base 35 "times" 2 sp_times) : Callee P w K mg base 36 "line_through" 2 sp_line_through :=
  callee T 37 52 (d := d_line_through) rfl rfl rfl rfl rfl (fun _ _ _ _ _ _ us hl => match us, hl with | [_, _], _ => rfl) sc_line_through (fun ds S Q h => by first | (obtain ⟨_, rfl, _⟩ := h; rfl) | (obtain ⟨_, _, rfl, _⟩ := h; rfl) | (obtain ⟨_, _, _, rfl, _⟩ := h; rfl) | (obtain ⟨_, _, _, _, rfl, _⟩ := h; rfl) | (obtain ⟨_, _, _, _, _, rfl, _⟩ := h; rfl) | (obtain ⟨_, _, _, _, _, _, rfl, _⟩ := h; rfl) | (obtain ⟨_, _, _, _, _, _, _, rfl, _⟩ := h; rfl) | (obtain ⟨_, _, _, _, _, _, _, _, rfl, _⟩ := h; rfl) | (obtain ⟨_, _, _, _, _, _, _, _, _, rfl, _⟩ := h; rfl) | (obtain ⟨_, _, _, _, _, _, _, _, _, _, rfl, _⟩ := h; rfl) | (obtain ⟨_, _, _, _, _, _, _, _, _, _, _, rfl, _⟩ := h; rfl) | (obtain ⟨_, _, _, _, _, _, _, _, _, _, _, _, rfl, _⟩ := h; rfl)) fun f cdv A outer s H hr => by
    have sc := sc_line_through
    refine ⟨_, (zss_cons (zs_set (i := 2) sc.nd rfl (Or.inl rfl) (ze_c1 C_over hr (za_cons (ze_c1 C_less hr (za_cons (ze_ix zix (zv 1) ze_int) (za_cons (ze_ix zix (zv 0) ze_int) za_nil))) (za_cons (ze_c1 C_less hr (za_cons (ze_ix zix (zv 1) ze_int) (za_cons (ze_ix zix (zv 0) ze_int) za_nil))) za_nil)))) (zss_one (zs_ret (ze_tup (za_cons (ze_c1 C_less hr (za_cons (ze_ix zix (zv 0) ze_int) (za_cons (ze_c1 C_times hr (za_cons (zv 2) (za_cons (ze_ix zix (zv 0) ze_int) za_nil))) za_nil))) (za_cons (zv 2) za_nil)))))), fun ds S Q h => ?_⟩
    obtain ⟨a, b, rfl, ha, hb, hne, h⟩ := h
    have h2 : b.x - a.x ≠ 0 := by grind
    have hs : Sz 1602 ((b.y - a.y) / (b.x - a.x)) := ((hb.y.sub ha.y).div (hb.x.sub ha.x) h2).mono (by decide)
    exact ⟨b.y, a.y, rfl, hb.y.big, ha.y.big, b.x, a.x, rfl, hb.x.big, ha.x.big, _, _, rfl, (hb.y.sub ha.y).big, (hb.x.sub ha.x).big, h2, _, a.x, rfl, hs.big, ha.x.big, a.y, _, rfl, ha.y.big, (hs.mul ha.x).big, h⟩
end
end Sl
set_option Elab.async false
set_option linter.all false
set_option maxRecDepth 100000
set_option maxHeartbeats 4000000
namespace Sl
open PySem PySem.Spec PyProof.Rows L2 Z
open Sg (Pt Ln PsOk PrOk Spread stand rise allPairs inOrder insL aheadB cost rawPairs IsPair)
theorem zip_self {α β : Type} (g : α → β) : ∀ l : List α, l.zip (l.map g) = l.map fun a => (a, g a)
  | [] => rfl
  | a :: l => by simp [zip_self g l]
def leastL : List Rat → Rat
  | [] => 0
  | q :: l => least q l
def leastC (ps : List Pt) (pr : Ln) : Rat := leastL ((allPairs ps).map (cost ps pr))
def corners (ps : List Pt) (pr : Ln) : List Ln := (allPairs ps).filter fun l => decide (cost ps pr l = leastC ps pr)
theorem pair_sz {ps : List Pt} (hp : PsSz ps) {l : Ln} (h : IsPair ps l) : LnSz l := by
  obtain ⟨a, ha, b, hb, hne, h1, h2⟩ := h
  rw [← Sg.through_eq hne h1 h2]
  exact through_sz (hp a ha) (hp b hb) hne
theorem allPairs_sz {ps : List Pt} (hp : PsSz ps) {l : Ln} (h : l ∈ allPairs ps) : LnSz l := pair_sz hp ((Sg.allPairs_mem ps l).mp h)
theorem inOrder_len (ls : List Ln) : (inOrder ls).length ≤ ls.length := by
  have go : ∀ (m acc : List Ln), (m.foldl insL acc).length ≤ acc.length + m.length := by
    intro m
    induction m with
    | nil => intro acc; simp
    | cons a m ih =>
      intro acc
      have h1 := ih (insL acc a)
      have h2 := Sg.insL_len a acc
      rw [List.foldl_cons, List.length_cons]; omega
  have := go ls []
  rw [List.length_nil, Nat.zero_add] at this
  exact this
theorem raw_len {ps : List Pt} (h : ps.length ≤ 12) : (rawPairs ps).length ≤ 144 := by
  have go : ∀ m : List (Pt × Nat), (m.flatMap fun q => ((ps.take q.2).filter fun o => !decide (q.1.x = o.x)).map (Sg.through q.1)).length ≤ 12 * m.length := by
    intro m
    induction m with
    | nil => simp
    | cons q m ih =>
      rw [List.flatMap_cons, List.length_append, List.length_cons]
      have h1 : (((ps.take q.2).filter fun o => !decide (q.1.x = o.x)).map (Sg.through q.1)).length ≤ 12 := by
        rw [List.length_map]
        refine Nat.le_trans (List.length_filter_le _ _) ?_
        rw [List.length_take]; omega
      omega
  have := go ps.zipIdx
  rw [List.length_zipIdx] at this
  unfold rawPairs
  omega
theorem all_len {ps : List Pt} (h : ps.length ≤ 12) : (allPairs ps).length ≤ 144 := Nat.le_trans (inOrder_len _) (raw_len h)
theorem all_ne {ps : List Pt} (h : Spread ps) : allPairs ps ≠ [] := by
  obtain ⟨a, ha, b, hb, n⟩ := h
  exact List.ne_nil_of_mem ((Sg.allPairs_mem ps (Sg.through a b)).mpr ⟨a, ha, b, hb, n, Sg.rise_left a b, Sg.rise_right n⟩)
section
variable {P : Program} {w : World} {K : PySem.W.Frag} {mg : Str → Option Value} {base : Heap}
def sp_all_pair_lines : ZC := fun ds S Q => ∃ ps : List Pt, ds = [.d (ptsP ps)] ∧ ps.length ≤ 12 ∧ PsSz ps ∧ Q (.d (lnsP (allPairs ps))) S
theorem sc_all_pair_lines : FnScope ["points", "found", "k", "one", "other"] ["points"] (defScope s_all_pair_lines) := ⟨rfl, rfl, rfl, by decide +kernel, rfl, by decide +kernel, by decide +kernel⟩
theorem C_all_pair_lines (T : Txt fa fn P K mg base) (C_in_order : Callee P w K mg base 3 "in_order" 1 sp_in_order) (C_line_through : Callee P w K mg base 36 "line_through" 2 sp_line_through) : Callee P w K mg base 37 "all_pair_lines" 1 sp_all_pair_lines :=
  callee T 38 53 (d := d_all_pair_lines) rfl rfl rfl rfl rfl (fun _ _ _ _ _ _ us hl => match us, hl with | [_], _ => rfl) sc_all_pair_lines (fun ds S Q h => by first | (obtain ⟨_, rfl, _⟩ := h; rfl) | (obtain ⟨_, _, rfl, _⟩ := h; rfl) | (obtain ⟨_, _, _, rfl, _⟩ := h; rfl) | (obtain ⟨_, _, _, _, rfl, _⟩ := h; rfl) | (obtain ⟨_, _, _, _, _, rfl, _⟩ := h; rfl) | (obtain ⟨_, _, _, _, _, _, rfl, _⟩ := h; rfl) | (obtain ⟨_, _, _, _, _, _, _, rfl, _⟩ := h; rfl) | (obtain ⟨_, _, _, _, _, _, _, _, rfl, _⟩ := h; rfl) | (obtain ⟨_, _, _, _, _, _, _, _, _, rfl, _⟩ := h; rfl) | (obtain ⟨_, _, _, _, _, _, _, _, _, _, rfl, _⟩ := h; rfl) | (obtain ⟨_, _, _, _, _, _, _, _, _, _, _, rfl, _⟩ := h; rfl) | (obtain ⟨_, _, _, _, _, _, _, _, _, _, _, _, rfl, _⟩ := h; rfl)) fun f cdv A outer s H hr => by
    have sc := sc_all_pair_lines
    refine ⟨_, (zss_cons (zs_set (i := 1) sc.nd rfl (Or.inl rfl) (ze_lstO za_nil)) (zss_cons (zs_for PassesOwn.never rfl (zi_enum (by rfl) (T.free_ 13 rfl) (za_cons (zv 0) za_nil)) (zg_tup (n := 2) rfl (zgs_cons (zg_name (i := 2) sc.nd rfl (Or.inl rfl)) (zgs_cons (zg_name (i := 3) sc.nd rfl (Or.inr rfl)) zgs_nil))) (zss_one (zs_expr (ze_bm PySem.F.plainAttrs_list PySem.F.slot_list_extend PySem.F.type_list_extend zm_extend (zv 1) (za_cons (ze_lc (own := [("other", 4)]) gok_one rfl sc.nd (zi_list (ze_take (zv 0) (zv 2))) (blkOk_by rfl) (fun _ _ _ _ _ => pg_name (i := 4) sc.nd rfl (Or.inl rfl)) (fun _ _ _ _ _ => zts_one (zb_cmp (zop_ne (Roomu hr 64)) (ze_ix zix (zv 3) ze_int) (ze_ix zix (zv 4) ze_int) (by rfl))) (fun _ _ _ _ _ => (ze_c1 C_line_through hr (za_cons (zv 3) (za_cons (zv 4) za_nil))))) za_nil))))) (zss_one (zs_ret (ze_c1 C_in_order hr (za_cons (ze_frz (zv 1)) za_nil)))))), fun ds S Q h => ?_⟩
    obtain ⟨ps, rfl, hn, hp, h⟩ := h
    refine fun p hS => ?_
    show zLoop _ _ _ ((ps.map ptP).zipIdx.map fun q => .tuple [.int q.2, q.1]) _ _
    rw [enumP]
    refine zLoop_ind (α := Pt × Nat) (f := fun q => .tuple [.int q.2, ptP q.1]) (fun m ρ S' => ∃ xs o1 o2 o3, S' = S.put p (.lst (xs.map lnP)) ∧ (xs ++ m.flatMap fun q => ((ps.take q.2).filter fun o => !decide (q.1.x = o.x)).map (Sg.through q.1)) = rawPairs ps ∧
      (∀ q ∈ m, q.1 ∈ ps) ∧ xs.length + 12 * m.length ≤ 144 ∧ (∀ l ∈ xs, LnSz l) ∧ ρ = [some (.d (ptsP ps)), some (.ref p), o1, o2, o3]) ?_ ?_ ps.zipIdx _ _ ?_
    · rintro ρ S' ⟨xs, o1, o2, o3, rfl, e, _, hl, hx, rfl⟩
      have e2 : xs = rawPairs ps := by simpa using e
      subst e2
      refine ⟨p, _, rfl, Sto.put_same, rawPairs ps, rfl, by simp at hl; omega, fun l hl => ⟨(hx l hl).1.big, (hx l hl).2.big⟩, ?_⟩
      rw [Sto.put_del hS]
      exact h
    · rintro ⟨a, k⟩ m ρ S' ⟨xs, o1, o2, o3, rfl, e, hm, hl, hx, rfl⟩ ih
      have ha := hm (a, k) (by simp)
      have hsa := hp a ha
      rw [List.length_cons] at hl
      rw [List.flatMap_cons, ← List.append_assoc] at e
      have hF : (((ps.take k).filter fun o => !decide (a.x = o.x)).map (Sg.through a)).length ≤ 12 := by
        rw [List.length_map]
        refine Nat.le_trans (List.length_filter_le _ _) ?_
        rw [List.length_take]; omega
      refine ⟨rfl, ⟨p, _, rfl, Sto.put_same⟩, ?_⟩
      show Nat.ble ((ps.map ptP).take k).length 1000 = true ∧ zLcL _ _ _ _ ((ps.map ptP).take k) [] _ _
      rw [← List.map_take]
      refine ⟨len1000 (by rw [List.length_take]; omega), zLcL_fm (f := ptP) (fun o => !decide (a.x = o.x)) (fun o => lnP (Sg.through a o)) (ps.take k) [] (fun b hb acc l' k1 k2 => ⟨_, eqo_fr a.x b.x, zboth (fun e => ⟨a, b, rfl, hsa, hp b (List.mem_of_mem_take hb), by simpa using e, k1 e⟩) (fun e => k2 e)⟩) ?_⟩
      refine ⟨p, _, _, rfl, rfl, Sto.put_same, ?_, ?_⟩
      · rw [List.length_map] at hF
        simp only [List.length_map, List.nil_append]; omega
      · rw [Sto.put_put]
        refine ih _ _ ⟨xs ++ ((ps.take k).filter fun o => !decide (a.x = o.x)).map (Sg.through a), _, _, _, ?_, e, fun q hq => hm q (by simp [hq]), ?_, fun l hl => ?_, rfl⟩
        · rw [List.map_append, List.map_map]; rfl
        · rw [List.length_append]; omega
        · rcases List.mem_append.mp hl with z | z
          · exact hx l z
          · obtain ⟨b, hb, rfl⟩ := List.mem_map.mp z
            obtain ⟨hb1, hb2⟩ := List.mem_filter.mp hb
            exact through_sz hsa (hp b (List.mem_of_mem_take hb1)) (by simpa using hb2)
    · refine ⟨[], none, none, none, rfl, rfl, fun q hq => List.fst_mem_of_mem_zipIdx hq, by rw [List.length_zipIdx]; simp; omega, by simp, rfl⟩
/-- points with lines -/
def Sps (ps : List Pt) : Prop := Pts ps ∧ Spread ps
def sp_pair_lines : ZC := fun ds S Q => ∃ ps : List Pt, ds = [.d (ptsP ps)] ∧ Sps ps ∧ Q (.d (lnsP (allPairs ps))) S
theorem sc_pair_lines : FnScope ["points"] ["points"] (defScope s_pair_lines) := ⟨rfl, rfl, rfl, by decide +kernel, rfl, by decide +kernel, by decide +kernel⟩
theorem C_pair_lines (T : Txt fa fn P K mg base) (C_want_points : Callee P w K mg base 6 "want_points" 1 sp_want_points) (C_want_spread : Callee P w K mg base 7 "want_spread" 1 sp_want_spread) (C_all_pair_lines : Callee P w K mg base 37 "all_pair_lines" 1 sp_all_pair_lines) : Callee P w K mg base 38 "pair_lines" 1 sp_pair_lines :=
  callee T 39 54 (d := d_pair_lines) rfl rfl rfl rfl rfl (fun _ _ _ _ _ _ us hl => match us, hl with | [_], _ => rfl) sc_pair_lines (fun ds S Q h => by first | (obtain ⟨_, rfl, _⟩ := h; rfl) | (obtain ⟨_, _, rfl, _⟩ := h; rfl) | (obtain ⟨_, _, _, rfl, _⟩ := h; rfl) | (obtain ⟨_, _, _, _, rfl, _⟩ := h; rfl) | (obtain ⟨_, _, _, _, _, rfl, _⟩ := h; rfl) | (obtain ⟨_, _, _, _, _, _, rfl, _⟩ := h; rfl) | (obtain ⟨_, _, _, _, _, _, _, rfl, _⟩ := h; rfl) | (obtain ⟨_, _, _, _, _, _, _, _, rfl, _⟩ := h; rfl) | (obtain ⟨_, _, _, _, _, _, _, _, _, rfl, _⟩ := h; rfl) | (obtain ⟨_, _, _, _, _, _, _, _, _, _, rfl, _⟩ := h; rfl) | (obtain ⟨_, _, _, _, _, _, _, _, _, _, _, rfl, _⟩ := h; rfl) | (obtain ⟨_, _, _, _, _, _, _, _, _, _, _, _, rfl, _⟩ := h; rfl)) fun f cdv A outer s H hr => by
    have sc := sc_pair_lines
    refine ⟨_, (zss_cons (zs_expr (ze_c1 C_want_points hr (za_cons (zv 0) za_nil))) (zss_cons (zs_expr (ze_c1 C_want_spread hr (za_cons (zv 0) za_nil))) (zss_one (zs_ret (ze_c1 C_all_pair_lines hr (za_cons (zv 0) za_nil)))))), fun ds S Q h => ?_⟩
    obtain ⟨ps, rfl, ⟨hp, hs⟩, h⟩ := h
    exact ⟨ps, rfl, hp, ps, rfl, hp, hs, ps, rfl, hp.le, hp.sz, h⟩
def sp_want_spread_points : ZC := fun ds S Q => ∃ (ps : List Pt) (pr : Ln), ds = [.d (ptsP ps), .d (lnP pr)] ∧ Sps ps ∧ Prs pr ∧ Q (.d .none) S
theorem sc_want_spread_points : FnScope ["points", "prices"] ["points", "prices"] (defScope s_want_spread_points) := ⟨rfl, rfl, rfl, by decide +kernel, rfl, by decide +kernel, by decide +kernel⟩
theorem C_want_spread_points (T : Txt fa fn P K mg base) (C_want_points : Callee P w K mg base 6 "want_points" 1 sp_want_points) (C_want_prices : Callee P w K mg base 6 "want_prices" 1 sp_want_prices) (C_want_spread : Callee P w K mg base 7 "want_spread" 1 sp_want_spread) : Callee P w K mg base 8 "want_spread_points" 2 sp_want_spread_points :=
  callee T 40 55 (d := d_want_spread_points) rfl rfl rfl rfl rfl (fun _ _ _ _ _ _ us hl => match us, hl with | [_, _], _ => rfl) sc_want_spread_points (fun ds S Q h => by first | (obtain ⟨_, rfl, _⟩ := h; rfl) | (obtain ⟨_, _, rfl, _⟩ := h; rfl) | (obtain ⟨_, _, _, rfl, _⟩ := h; rfl) | (obtain ⟨_, _, _, _, rfl, _⟩ := h; rfl) | (obtain ⟨_, _, _, _, _, rfl, _⟩ := h; rfl) | (obtain ⟨_, _, _, _, _, _, rfl, _⟩ := h; rfl) | (obtain ⟨_, _, _, _, _, _, _, rfl, _⟩ := h; rfl) | (obtain ⟨_, _, _, _, _, _, _, _, rfl, _⟩ := h; rfl) | (obtain ⟨_, _, _, _, _, _, _, _, _, rfl, _⟩ := h; rfl) | (obtain ⟨_, _, _, _, _, _, _, _, _, _, rfl, _⟩ := h; rfl) | (obtain ⟨_, _, _, _, _, _, _, _, _, _, _, rfl, _⟩ := h; rfl) | (obtain ⟨_, _, _, _, _, _, _, _, _, _, _, _, rfl, _⟩ := h; rfl)) fun f cdv A outer s H hr => by
    have sc := sc_want_spread_points
    refine ⟨_, (zss_cons (zs_expr (ze_c1 C_want_points hr (za_cons (zv 0) za_nil))) (zss_cons (zs_expr (ze_c1 C_want_prices hr (za_cons (zv 1) za_nil))) (zss_one (zs_expr (ze_c1 C_want_spread hr (za_cons (zv 0) za_nil)))))), fun ds S Q h => ?_⟩
    obtain ⟨ps, pr, rfl, ⟨hp, hs⟩, hr2, h⟩ := h
    exact ⟨ps, rfl, hp, pr, rfl, hr2, ps, rfl, hp, hs, h⟩
def sp_cheapest_best : ZC := fun ds S Q => ∃ (ps : List Pt) (pr : Ln), ds = [.d (ptsP ps), .d (lnP pr)] ∧ Sps ps ∧ Prs pr ∧ Q (.d (.tuple [frP (leastC ps pr), lnsP (corners ps pr)])) S
theorem sc_cheapest_best : FnScope ["points", "prices", "lines", "costs", "least", "line", "one"] ["points", "prices"] (defScope s_cheapest_best) := ⟨rfl, rfl, rfl, by decide +kernel, rfl, by decide +kernel, by decide +kernel⟩
theorem C_cheapest_best (T : Txt fa fn P K mg base) (C_all_pair_lines : Callee P w K mg base 37 "all_pair_lines" 1 sp_all_pair_lines) (C_least_of : Callee P w K mg base 2 "least_of" 1 sp_least_of) (C_cost_of_lines : Callee P w K mg base 39 "cost_of_lines" 3 sp_cost_of_lines) : Callee P w K mg base 40 "cheapest_best" 2 sp_cheapest_best :=
  callee T 41 56 (d := d_cheapest_best) rfl rfl rfl rfl rfl (fun _ _ _ _ _ _ us hl => match us, hl with | [_, _], _ => rfl) sc_cheapest_best (fun ds S Q h => by first | (obtain ⟨_, rfl, _⟩ := h; rfl) | (obtain ⟨_, _, rfl, _⟩ := h; rfl) | (obtain ⟨_, _, _, rfl, _⟩ := h; rfl) | (obtain ⟨_, _, _, _, rfl, _⟩ := h; rfl) | (obtain ⟨_, _, _, _, _, rfl, _⟩ := h; rfl) | (obtain ⟨_, _, _, _, _, _, rfl, _⟩ := h; rfl) | (obtain ⟨_, _, _, _, _, _, _, rfl, _⟩ := h; rfl) | (obtain ⟨_, _, _, _, _, _, _, _, rfl, _⟩ := h; rfl) | (obtain ⟨_, _, _, _, _, _, _, _, _, rfl, _⟩ := h; rfl) | (obtain ⟨_, _, _, _, _, _, _, _, _, _, rfl, _⟩ := h; rfl) | (obtain ⟨_, _, _, _, _, _, _, _, _, _, _, rfl, _⟩ := h; rfl) | (obtain ⟨_, _, _, _, _, _, _, _, _, _, _, _, rfl, _⟩ := h; rfl)) fun f cdv A outer s H hr => by
    have sc := sc_cheapest_best
    refine ⟨_, (zss_cons (zs_set (i := 2) sc.nd rfl (Or.inl rfl) (ze_c1 C_all_pair_lines hr (za_cons (zv 0) za_nil))) (zss_cons (zs_setLc (i := 3) (own := [("line", 5)]) gok_one rfl sc.nd rfl rfl (sw_true rfl rfl rfl (by decide +kernel)) (zi_list (zv 2)) (blkOk_by rfl) (fun _ _ _ _ _ => pg_name (i := 5) sc.nd rfl (Or.inl rfl)) (fun _ _ _ _ _ => zts_nil) (fun _ _ _ _ _ => (ze_c1 C_cost_of_lines hr (za_cons (zv 0) (za_cons (zv 1) (za_cons (zv 5) za_nil)))))) (zss_cons (zs_set (i := 4) sc.nd rfl (Or.inr rfl) (ze_c1 C_least_of hr (za_cons (zv 3) za_nil))) (zss_one (zs_ret (ze_tup (za_cons (zv 4) (za_cons (ze_lc (own := [("line", 5), ("one", 6)]) (gok_tup (n := 2)) rfl sc.nd (zi_zip (by rfl) (T.free_ 9 rfl) (za_cons (zv 2) (za_cons (zv 3) za_nil))) (blkOk_by rfl) (fun _ _ _ _ _ => pg_tup (n := 2) rfl (pgs_cons (pg_name (i := 5) sc.nd rfl (Or.inl rfl)) (pgs_cons (pg_name (i := 6) sc.nd rfl (Or.inl rfl)) pgs_nil))) (fun _ _ _ _ _ => zts_one (zb_cmp (zop_eq (Roomu hr 64)) (zv 6) (zv 4) (by rfl))) (fun _ _ _ _ _ => (zv 5))) za_nil)))))))), fun ds S Q h => ?_⟩
    obtain ⟨ps, pr, rfl, ⟨hp, hs⟩, hr2, h⟩ := h
    have hl := all_len hp.le
    refine ⟨ps, rfl, hp.le, hp.sz, len1000 (by omega), zLcL_map (f := lnP) (fun l => frP (cost ps pr l)) (allPairs ps) [] (fun l hm acc l' k => zyes rfl ⟨ps, pr, l, rfl, hp.le, hp.sz, hr2.1, allPairs_sz hp.sz hm, k⟩) ?_⟩
    have hne := all_ne hs
    have e : ∃ q l, (allPairs ps).map (cost ps pr) = q :: l := by
      cases z : allPairs ps with
      | nil => exact absurd z hne
      | cons a l => exact ⟨_, _, rfl⟩
    obtain ⟨q, l, e⟩ := e
    have e1 : [] ++ (allPairs ps).map (fun l => frP (cost ps pr l)) = (q :: l).map frP := by
      rw [← e, List.map_map]; rfl
    have e2 : least q l = leastC ps pr := by unfold leastC; rw [e]; rfl
    rw [e1]
    refine ⟨q, l, rfl, fun r hr => ?_, ?_⟩
    · rw [← e] at hr
      obtain ⟨m, hm, rfl⟩ := List.mem_map.mp hr
      exact (cost_sz hp.le hp.sz hr2.1 (allPairs_sz hp.sz hm)).big
    rw [e2]
    show Nat.ble ((((allPairs ps).map lnP).zip ((q :: l).map frP)).map fun p => PyData.tuple [p.1, p.2]).length 1000 = true ∧ zLcL _ _ _ _ ((((allPairs ps).map lnP).zip ((q :: l).map frP)).map fun p => PyData.tuple [p.1, p.2]) [] _ _
    rw [← e, zipP, zip_self, List.map_map]
    refine ⟨len1000 (by omega), zLcL_fm (f := fun l => PyData.tuple [lnP l, frP (cost ps pr l)]) (fun l => decide (cost ps pr l = leastC ps pr)) lnP (allPairs ps) [] (fun b hb acc l' k1 k2 => ⟨rfl, _, eqo_fr _ _, zboth (fun e => k1 e) (fun e => k2 e)⟩) ?_⟩
    exact h
def sp_least_cost : ZC := fun ds S Q => ∃ (ps : List Pt) (pr : Ln), ds = [.d (ptsP ps), .d (lnP pr)] ∧ Sps ps ∧ Prs pr ∧ Q (fr (leastC ps pr)) S
theorem sc_least_cost : FnScope ["points", "prices"] ["points", "prices"] (defScope s_least_cost) := ⟨rfl, rfl, rfl, by decide +kernel, rfl, by decide +kernel, by decide +kernel⟩
theorem C_least_cost (T : Txt fa fn P K mg base) (C_want_spread_points : Callee P w K mg base 8 "want_spread_points" 2 sp_want_spread_points) (C_cheapest_best : Callee P w K mg base 40 "cheapest_best" 2 sp_cheapest_best) : Callee P w K mg base 41 "least_cost" 2 sp_least_cost :=
  callee T 42 57 (d := d_least_cost) rfl rfl rfl rfl rfl (fun _ _ _ _ _ _ us hl => match us, hl with | [_, _], _ => rfl) sc_least_cost (fun ds S Q h => by first | (obtain ⟨_, rfl, _⟩ := h; rfl) | (obtain ⟨_, _, rfl, _⟩ := h; rfl) | (obtain ⟨_, _, _, rfl, _⟩ := h; rfl) | (obtain ⟨_, _, _, _, rfl, _⟩ := h; rfl) | (obtain ⟨_, _, _, _, _, rfl, _⟩ := h; rfl) | (obtain ⟨_, _, _, _, _, _, rfl, _⟩ := h; rfl) | (obtain ⟨_, _, _, _, _, _, _, rfl, _⟩ := h; rfl) | (obtain ⟨_, _, _, _, _, _, _, _, rfl, _⟩ := h; rfl) | (obtain ⟨_, _, _, _, _, _, _, _, _, rfl, _⟩ := h; rfl) | (obtain ⟨_, _, _, _, _, _, _, _, _, _, rfl, _⟩ := h; rfl) | (obtain ⟨_, _, _, _, _, _, _, _, _, _, _, rfl, _⟩ := h; rfl) | (obtain ⟨_, _, _, _, _, _, _, _, _, _, _, _, rfl, _⟩ := h; rfl)) fun f cdv A outer s H hr => by
    have sc := sc_least_cost
    refine ⟨_, (zss_cons (zs_expr (ze_c1 C_want_spread_points hr (za_cons (zv 0) (za_cons (zv 1) za_nil)))) (zss_one (zs_ret (ze_ix zix (ze_c1 C_cheapest_best hr (za_cons (zv 0) (za_cons (zv 1) za_nil))) ze_int)))), fun ds S Q h => ?_⟩
    obtain ⟨ps, pr, rfl, hs, hr2, h⟩ := h
    exact ⟨ps, pr, rfl, hs, hr2, ps, pr, rfl, hs, hr2, h⟩
def sp_corners : ZC := fun ds S Q => ∃ (ps : List Pt) (pr : Ln), ds = [.d (ptsP ps), .d (lnP pr)] ∧ Sps ps ∧ Prs pr ∧ Q (.d (lnsP (corners ps pr))) S
theorem sc_corners : FnScope ["points", "prices"] ["points", "prices"] (defScope s_corners) := ⟨rfl, rfl, rfl, by decide +kernel, rfl, by decide +kernel, by decide +kernel⟩
theorem C_corners (T : Txt fa fn P K mg base) (C_want_spread_points : Callee P w K mg base 8 "want_spread_points" 2 sp_want_spread_points) (C_cheapest_best : Callee P w K mg base 40 "cheapest_best" 2 sp_cheapest_best) : Callee P w K mg base 41 "corners" 2 sp_corners :=
  callee T 60 66 (d := d_corners) rfl rfl rfl rfl rfl (fun _ _ _ _ _ _ us hl => match us, hl with | [_, _], _ => rfl) sc_corners (fun ds S Q h => by first | (obtain ⟨_, rfl, _⟩ := h; rfl) | (obtain ⟨_, _, rfl, _⟩ := h; rfl) | (obtain ⟨_, _, _, rfl, _⟩ := h; rfl) | (obtain ⟨_, _, _, _, rfl, _⟩ := h; rfl) | (obtain ⟨_, _, _, _, _, rfl, _⟩ := h; rfl) | (obtain ⟨_, _, _, _, _, _, rfl, _⟩ := h; rfl) | (obtain ⟨_, _, _, _, _, _, _, rfl, _⟩ := h; rfl) | (obtain ⟨_, _, _, _, _, _, _, _, rfl, _⟩ := h; rfl) | (obtain ⟨_, _, _, _, _, _, _, _, _, rfl, _⟩ := h; rfl) | (obtain ⟨_, _, _, _, _, _, _, _, _, _, rfl, _⟩ := h; rfl) | (obtain ⟨_, _, _, _, _, _, _, _, _, _, _, rfl, _⟩ := h; rfl) | (obtain ⟨_, _, _, _, _, _, _, _, _, _, _, _, rfl, _⟩ := h; rfl)) fun f cdv A outer s H hr => by
    have sc := sc_corners
    refine ⟨_, (zss_cons (zs_expr (ze_c1 C_want_spread_points hr (za_cons (zv 0) (za_cons (zv 1) za_nil)))) (zss_one (zs_ret (ze_ix zix (ze_c1 C_cheapest_best hr (za_cons (zv 0) (za_cons (zv 1) za_nil))) ze_int)))), fun ds S Q h => ?_⟩
    obtain ⟨ps, pr, rfl, hs, hr2, h⟩ := h
    exact ⟨ps, pr, rfl, hs, hr2, ps, pr, rfl, hs, hr2, h⟩
def sp_best_line : ZC := fun ds S Q => ∃ (ps : List Pt) (pr : Ln) (l : Ln) (ls : List Ln), ds = [.d (ptsP ps), .d (lnP pr)] ∧ Sps ps ∧ Prs pr ∧ corners ps pr = l :: ls ∧ Q (.d (lnP l)) S
theorem sc_best_line : FnScope ["points", "prices"] ["points", "prices"] (defScope s_best_line) := ⟨rfl, rfl, rfl, by decide +kernel, rfl, by decide +kernel, by decide +kernel⟩
theorem C_best_line (T : Txt fa fn P K mg base) (C_want_spread_points : Callee P w K mg base 8 "want_spread_points" 2 sp_want_spread_points) (C_cheapest_best : Callee P w K mg base 40 "cheapest_best" 2 sp_cheapest_best) : Callee P w K mg base 41 "best_line" 2 sp_best_line :=
  callee T 43 58 (d := d_best_line) rfl rfl rfl rfl rfl (fun _ _ _ _ _ _ us hl => match us, hl with | [_, _], _ => rfl) sc_best_line (fun ds S Q h => by first | (obtain ⟨_, rfl, _⟩ := h; rfl) | (obtain ⟨_, _, rfl, _⟩ := h; rfl) | (obtain ⟨_, _, _, rfl, _⟩ := h; rfl) | (obtain ⟨_, _, _, _, rfl, _⟩ := h; rfl) | (obtain ⟨_, _, _, _, _, rfl, _⟩ := h; rfl) | (obtain ⟨_, _, _, _, _, _, rfl, _⟩ := h; rfl) | (obtain ⟨_, _, _, _, _, _, _, rfl, _⟩ := h; rfl) | (obtain ⟨_, _, _, _, _, _, _, _, rfl, _⟩ := h; rfl) | (obtain ⟨_, _, _, _, _, _, _, _, _, rfl, _⟩ := h; rfl) | (obtain ⟨_, _, _, _, _, _, _, _, _, _, rfl, _⟩ := h; rfl) | (obtain ⟨_, _, _, _, _, _, _, _, _, _, _, rfl, _⟩ := h; rfl) | (obtain ⟨_, _, _, _, _, _, _, _, _, _, _, _, rfl, _⟩ := h; rfl)) fun f cdv A outer s H hr => by
    have sc := sc_best_line
    refine ⟨_, (zss_cons (zs_expr (ze_c1 C_want_spread_points hr (za_cons (zv 0) (za_cons (zv 1) za_nil)))) (zss_one (zs_ret (ze_ix zix (ze_ix zix (ze_c1 C_cheapest_best hr (za_cons (zv 0) (za_cons (zv 1) za_nil))) ze_int) ze_int)))), fun ds S Q h => ?_⟩
    obtain ⟨ps, pr, l, ls, rfl, hs, hr2, e, h⟩ := h
    refine ⟨ps, pr, rfl, hs, hr2, ps, pr, rfl, hs, hr2, ?_⟩
    rw [e]
    exact h
def sp_is_best : ZC := fun ds S Q => ∃ (ps : List Pt) (pr : Ln) (l : Ln), ds = [.d (ptsP ps), .d (lnP pr), .d (lnP l)] ∧ Sps ps ∧ Prs pr ∧ LnSz l ∧ Q (.d (.bool (decide (cost ps pr l = leastC ps pr)))) S
theorem sc_is_best : FnScope ["points", "prices", "thing"] ["points", "prices", "thing"] (defScope s_is_best) := ⟨rfl, rfl, rfl, by decide +kernel, rfl, by decide +kernel, by decide +kernel⟩
theorem C_is_best (T : Txt fa fn P K mg base) (C_want_spread_points : Callee P w K mg base 8 "want_spread_points" 2 sp_want_spread_points) (C_is_line : Callee P w K mg base 4 "is_line" 1 sp_is_line) (C_cost_of_lines : Callee P w K mg base 39 "cost_of_lines" 3 sp_cost_of_lines) (C_cheapest_best : Callee P w K mg base 40 "cheapest_best" 2 sp_cheapest_best) : Callee P w K mg base 41 "is_best" 3 sp_is_best :=
  callee T 44 59 (d := d_is_best) rfl rfl rfl rfl rfl (fun _ _ _ _ _ _ us hl => match us, hl with | [_, _, _], _ => rfl) sc_is_best (fun ds S Q h => by first | (obtain ⟨_, rfl, _⟩ := h; rfl) | (obtain ⟨_, _, rfl, _⟩ := h; rfl) | (obtain ⟨_, _, _, rfl, _⟩ := h; rfl) | (obtain ⟨_, _, _, _, rfl, _⟩ := h; rfl) | (obtain ⟨_, _, _, _, _, rfl, _⟩ := h; rfl) | (obtain ⟨_, _, _, _, _, _, rfl, _⟩ := h; rfl) | (obtain ⟨_, _, _, _, _, _, _, rfl, _⟩ := h; rfl) | (obtain ⟨_, _, _, _, _, _, _, _, rfl, _⟩ := h; rfl) | (obtain ⟨_, _, _, _, _, _, _, _, _, rfl, _⟩ := h; rfl) | (obtain ⟨_, _, _, _, _, _, _, _, _, _, rfl, _⟩ := h; rfl) | (obtain ⟨_, _, _, _, _, _, _, _, _, _, _, rfl, _⟩ := h; rfl) | (obtain ⟨_, _, _, _, _, _, _, _, _, _, _, _, rfl, _⟩ := h; rfl)) fun f cdv A outer s H hr => by
    have sc := sc_is_best
    refine ⟨_, (zss_cons (zs_expr (ze_c1 C_want_spread_points hr (za_cons (zv 0) (za_cons (zv 1) za_nil)))) (zss_one (zs_ret (ze_and (ze_c1 C_is_line hr (za_cons (zv 2) za_nil)) (ze_one (ze_cmp (zop_eq (Roomu hr 64)) (ze_c1 C_cost_of_lines hr (za_cons (zv 0) (za_cons (zv 1) (za_cons (zv 2) za_nil)))) (ze_ix zix (ze_c1 C_cheapest_best hr (za_cons (zv 0) (za_cons (zv 1) za_nil))) ze_int) (by rfl))))))), fun ds S Q h => ?_⟩
    obtain ⟨ps, pr, l, rfl, hs, hr2, hl, h⟩ := h
    exact ⟨ps, pr, rfl, hs, hr2, l, rfl, zyes rfl ⟨ps, pr, l, rfl, hs.1.le, hs.1.sz, hr2.1, hl, ps, pr, rfl, hs, hr2, _, eqo_fr _ _, h⟩⟩
end
end Sl
set_option Elab.async false
set_option linter.all false
set_option maxRecDepth 100000
set_option maxHeartbeats 4000000
namespace Sl
open PySem PySem.Spec PyProof.Rows L2 Z
open Sg (Pt Ln PsOk PrOk Spread stand rise allPairs inOrder insL aheadB cost rawPairs IsPair)
def meetB (ps : List Pt) (l m : Ln) : Bool := ps.any fun p => decide (rise p l = 0) && decide (rise p m = 0)
def leadsB (ps : List Pt) (pr l m : Ln) : Bool := decide (cost ps pr m < cost ps pr l) && meetB ps l m
def chp (c : Ln → Rat) : Ln → List Ln → Ln
  | b, [] => b
  | b, l :: ls => chp c (if c l < c b then l else b) ls
theorem chp_mem (c : Ln → Rat) : ∀ (ls : List Ln) (b : Ln), chp c b ls = b ∨ chp c b ls ∈ ls
  | [], b => .inl rfl
  | l :: ls, b => by
    unfold chp
    rcases chp_mem c ls (if c l < c b then l else b) with h | h
    · rw [h]; split
      · exact .inr (by simp)
      · exact .inl rfl
    · exact .inr (by simp [h])
/-- a road as the program walks it -/
structure Road (ps : List Pt) (pr : Ln) (l : Ln) (r : List Ln) (z : Ln) : Prop where
  head : (r ++ [z]).head? = some l
  mem : ∀ m ∈ r ++ [z], m ∈ allPairs ps
  chain : ∀ q ∈ (r ++ [z]).zip ((r ++ [z]).drop 1), leadsB ps pr q.1 q.2 = true
  last : (allPairs ps).filter (leadsB ps pr z) = []
  len : r.length ≤ 144
theorem zip_grow {α : Type} (a b : α) : ∀ r : List α, (r ++ [a, b]).zip ((r ++ [a, b]).drop 1) = (r ++ [a]).zip ((r ++ [a]).drop 1) ++ [(a, b)]
  | [] => rfl
  | [x] => rfl
  | x :: y :: r => by
    have h := zip_grow a b (y :: r)
    simp only [List.cons_append, List.drop_succ_cons, List.drop_zero, List.zip_cons_cons] at h ⊢
    rw [h]
/-- how many pair lines cost less -/
def under (ps : List Pt) (pr z : Ln) : Nat := ((allPairs ps).filter fun m => decide (cost ps pr m < cost ps pr z)).length
theorem under_lt {ps : List Pt} {pr z y : Ln} (hy : y ∈ allPairs ps) (h : cost ps pr y < cost ps pr z) : under ps pr y < under ps pr z := by
  unfold under
  generalize allPairs ps = L at hy
  have le : ∀ L : List Ln, (L.filter fun m => decide (cost ps pr m < cost ps pr y)).length ≤ (L.filter fun m => decide (cost ps pr m < cost ps pr z)).length := by
    intro L
    induction L with
    | nil => simp
    | cons a L ih =>
      rw [List.filter_cons, List.filter_cons]
      by_cases c : cost ps pr a < cost ps pr y
      · have d : cost ps pr a < cost ps pr z := by grind
        simp [c, d]; exact ih
      · by_cases d : cost ps pr a < cost ps pr z
        · simp [c, d]; omega
        · simp [c, d]; exact ih
  induction L with
  | nil => simp at hy
  | cons a L ih =>
    rw [List.filter_cons, List.filter_cons]
    have hl := le L
    by_cases e : a = y
    · subst e
      have c : ¬ cost ps pr a < cost ps pr a := by grind
      simp [c, h]; omega
    · have hy2 : y ∈ L := by
        rcases List.mem_cons.mp hy with q | q
        · exact absurd q.symm e
        · exact q
      have i := ih hy2
      by_cases c : cost ps pr a < cost ps pr y
      · have d : cost ps pr a < cost ps pr z := by grind
        simp [c, d]; exact i
      · by_cases d : cost ps pr a < cost ps pr z
        · simp [c, d]; omega
        · simp [c, d]; exact i
theorem under_le (ps : List Pt) (pr z : Ln) : under ps pr z ≤ (allPairs ps).length := List.length_filter_le _ _
section
variable {P : Program} {w : World} {K : PySem.W.Frag} {mg : Str → Option Value} {base : Heap}
def sp_do_meet : ZC := fun ds S Q => ∃ (ps : List Pt) (l m : Ln), ds = [.d (ptsP ps), .d (lnP l), .d (lnP m)] ∧ Pts ps ∧ LnSz l ∧ LnSz m ∧ Q (.d (.bool (meetB ps l m))) S
theorem sc_do_meet : FnScope ["points", "one", "other", "rise", "more"] ["points", "one", "other"] (defScope s_do_meet) := ⟨rfl, rfl, rfl, by decide +kernel, rfl, by decide +kernel, by decide +kernel⟩
theorem C_do_meet (T : Txt fa fn P K mg base) (C_rises : Callee P w K mg base 38 "rises" 2 sp_rises) : Callee P w K mg base 39 "do_meet" 3 sp_do_meet :=
  callee T 45 60 (d := d_do_meet) rfl rfl rfl rfl rfl (fun _ _ _ _ _ _ us hl => match us, hl with | [_, _, _], _ => rfl) sc_do_meet (fun ds S Q h => by first | (obtain ⟨_, rfl, _⟩ := h; rfl) | (obtain ⟨_, _, rfl, _⟩ := h; rfl) | (obtain ⟨_, _, _, rfl, _⟩ := h; rfl) | (obtain ⟨_, _, _, _, rfl, _⟩ := h; rfl) | (obtain ⟨_, _, _, _, _, rfl, _⟩ := h; rfl) | (obtain ⟨_, _, _, _, _, _, rfl, _⟩ := h; rfl) | (obtain ⟨_, _, _, _, _, _, _, rfl, _⟩ := h; rfl) | (obtain ⟨_, _, _, _, _, _, _, _, rfl, _⟩ := h; rfl) | (obtain ⟨_, _, _, _, _, _, _, _, _, rfl, _⟩ := h; rfl) | (obtain ⟨_, _, _, _, _, _, _, _, _, _, rfl, _⟩ := h; rfl) | (obtain ⟨_, _, _, _, _, _, _, _, _, _, _, rfl, _⟩ := h; rfl) | (obtain ⟨_, _, _, _, _, _, _, _, _, _, _, _, rfl, _⟩ := h; rfl)) fun f cdv A outer s H hr => by
    have sc := sc_do_meet
    refine ⟨_, (zss_one (zs_ret (ze_callB (zc_any rfl) (by rfl) (T.free_ 14 rfl) (by decide +kernel) (za_cons (ze_lc (own := [("rise", 3), ("more", 4)]) (gok_tup (n := 2)) rfl sc.nd (zi_zip (by rfl) (T.free_ 9 rfl) (za_cons (ze_c1 C_rises hr (za_cons (zv 0) (za_cons (zv 1) za_nil))) (za_cons (ze_c1 C_rises hr (za_cons (zv 0) (za_cons (zv 2) za_nil))) za_nil))) (blkOk_by rfl) (fun _ _ _ _ _ => pg_tup (n := 2) rfl (pgs_cons (pg_name (i := 3) sc.nd rfl (Or.inl rfl)) (pgs_cons (pg_name (i := 4) sc.nd rfl (Or.inl rfl)) pgs_nil))) (fun _ _ _ _ _ => zts_nil) (fun _ _ _ _ _ => (ze_and (ze_cmp (zop_eq (Roomu hr 64)) (zv 3) (ze_gtup (by rfl) (T.glo_ 133 rfl) T.nought) (by rfl)) (ze_one (ze_cmp (zop_eq (Roomu hr 64)) (zv 4) (ze_gtup (by rfl) (T.glo_ 133 rfl) T.nought) (by rfl)))))) za_nil)))), fun ds S Q h => ?_⟩
    obtain ⟨ps, l, m, rfl, hp, hl, hm, h⟩ := h
    refine ⟨ps, l, rfl, hp, hl, ps, m, rfl, hp, hm, ?_⟩
    show Nat.ble ((((ps.map fun p => rise p l).map frP).zip ((ps.map fun p => rise p m).map frP)).map fun p => PyData.tuple [p.1, p.2]).length 1000 = true ∧ zLcL _ _ _ _ ((((ps.map fun p => rise p l).map frP).zip ((ps.map fun p => rise p m).map frP)).map fun p => PyData.tuple [p.1, p.2]) [] _ _
    rw [zipP]
    have e : (ps.map fun p => rise p l).zip (ps.map fun p => rise p m) = ps.map fun p => (rise p l, rise p m) := by
      rw [List.zip_map', ]
    rw [e, List.map_map]
    refine ⟨len1000 (by have := hp.le; omega), zLcL_map (f := fun p => PyData.tuple [frP (rise p l), frP (rise p m)]) (fun p => .bool (decide (rise p l = 0) && decide (rise p m = 0))) ps [] (fun p hm acc l' k => ⟨rfl, zyes rfl ⟨_, eqo_fr (rise p l) 0, zif (fun c => ⟨_, eqo_fr (rise p m) 0, ?_⟩) (fun c => ?_)⟩⟩) ?_⟩
    · rw [decide_eq_true c, Bool.true_and] at k; exact k
    · rw [decide_eq_false c, Bool.false_and] at k; exact k
    · refine ⟨_, ps.map fun p => decide (rise p l = 0) && decide (rise p m = 0), rfl, by simp [Z.seen, Function.comp_def], ?_⟩
      rw [List.any_map]
      exact h
def sp_leads_on : ZC := fun ds S Q => ∃ (ps : List Pt) (pr l m : Ln), ds = [.d (ptsP ps), .d (lnP pr), .d (lnP l), .d (lnP m)] ∧ Pts ps ∧ PrSz pr ∧ LnSz l ∧ LnSz m ∧ Q (.d (.bool (leadsB ps pr l m))) S
theorem sc_leads_on : FnScope ["points", "prices", "line", "other"] ["points", "prices", "line", "other"] (defScope s_leads_on) := ⟨rfl, rfl, rfl, by decide +kernel, rfl, by decide +kernel, by decide +kernel⟩
theorem C_leads_on (T : Txt fa fn P K mg base) (C_is_below : Callee P w K mg base 1 "is_below" 2 sp_is_below) (C_do_meet : Callee P w K mg base 39 "do_meet" 3 sp_do_meet) (C_cost_of_lines : Callee P w K mg base 39 "cost_of_lines" 3 sp_cost_of_lines) : Callee P w K mg base 40 "leads_on" 4 sp_leads_on :=
  callee T 46 61 (d := d_leads_on) rfl rfl rfl rfl rfl (fun _ _ _ _ _ _ us hl => match us, hl with | [_, _, _, _], _ => rfl) sc_leads_on (fun ds S Q h => by first | (obtain ⟨_, rfl, _⟩ := h; rfl) | (obtain ⟨_, _, rfl, _⟩ := h; rfl) | (obtain ⟨_, _, _, rfl, _⟩ := h; rfl) | (obtain ⟨_, _, _, _, rfl, _⟩ := h; rfl) | (obtain ⟨_, _, _, _, _, rfl, _⟩ := h; rfl) | (obtain ⟨_, _, _, _, _, _, rfl, _⟩ := h; rfl) | (obtain ⟨_, _, _, _, _, _, _, rfl, _⟩ := h; rfl) | (obtain ⟨_, _, _, _, _, _, _, _, rfl, _⟩ := h; rfl) | (obtain ⟨_, _, _, _, _, _, _, _, _, rfl, _⟩ := h; rfl) | (obtain ⟨_, _, _, _, _, _, _, _, _, _, rfl, _⟩ := h; rfl) | (obtain ⟨_, _, _, _, _, _, _, _, _, _, _, rfl, _⟩ := h; rfl) | (obtain ⟨_, _, _, _, _, _, _, _, _, _, _, _, rfl, _⟩ := h; rfl)) fun f cdv A outer s H hr => by
    have sc := sc_leads_on
    refine ⟨_, (zss_one (zs_ret (ze_and (ze_c1 C_is_below hr (za_cons (ze_c1 C_cost_of_lines hr (za_cons (zv 0) (za_cons (zv 1) (za_cons (zv 3) za_nil)))) (za_cons (ze_c1 C_cost_of_lines hr (za_cons (zv 0) (za_cons (zv 1) (za_cons (zv 2) za_nil)))) za_nil))) (ze_one (ze_c1 C_do_meet hr (za_cons (zv 0) (za_cons (zv 2) (za_cons (zv 3) za_nil)))))))), fun ds S Q h => ?_⟩
    obtain ⟨ps, pr, l, m, rfl, hp, hr2, hl, hm, h⟩ := h
    refine ⟨ps, pr, m, rfl, hp.le, hp.sz, hr2, hm, ps, pr, l, rfl, hp.le, hp.sz, hr2, hl, _, _, rfl, (cost_sz hp.le hp.sz hr2 hm).big, (cost_sz hp.le hp.sz hr2 hl).big, zif (fun c => ⟨ps, l, m, rfl, hp, hl, hm, ?_⟩) (fun c => ?_)⟩
    · unfold leadsB at h; rw [decide_eq_true c, Bool.true_and] at h; exact h
    · unfold leadsB at h; rw [decide_eq_false c, Bool.false_and] at h; exact h
def sp_cheapest_roads : ZC := fun ds S Q => ∃ (ps : List Pt) (pr : Ln) (a : Ln) (ls : List Ln), ds = [.d (ptsP ps), .d (lnP pr), .d (lnsP (a :: ls))] ∧ Pts ps ∧ PrSz pr ∧ (∀ l ∈ a :: ls, LnSz l) ∧ Q (.d (lnP (chp (cost ps pr) a (a :: ls)))) S
theorem sc_cheapest_roads : FnScope ["points", "prices", "some", "found", "line"] ["points", "prices", "some"] (defScope s_cheapest_roads) := ⟨rfl, rfl, rfl, by decide +kernel, rfl, by decide +kernel, by decide +kernel⟩
theorem C_cheapest_roads (T : Txt fa fn P K mg base) (C_is_below : Callee P w K mg base 1 "is_below" 2 sp_is_below) (C_cost_of_lines : Callee P w K mg base 39 "cost_of_lines" 3 sp_cost_of_lines) : Callee P w K mg base 40 "cheapest_roads" 3 sp_cheapest_roads :=
  callee T 47 62 (d := d_cheapest_roads) rfl rfl rfl rfl rfl (fun _ _ _ _ _ _ us hl => match us, hl with | [_, _, _], _ => rfl) sc_cheapest_roads (fun ds S Q h => by first | (obtain ⟨_, rfl, _⟩ := h; rfl) | (obtain ⟨_, _, rfl, _⟩ := h; rfl) | (obtain ⟨_, _, _, rfl, _⟩ := h; rfl) | (obtain ⟨_, _, _, _, rfl, _⟩ := h; rfl) | (obtain ⟨_, _, _, _, _, rfl, _⟩ := h; rfl) | (obtain ⟨_, _, _, _, _, _, rfl, _⟩ := h; rfl) | (obtain ⟨_, _, _, _, _, _, _, rfl, _⟩ := h; rfl) | (obtain ⟨_, _, _, _, _, _, _, _, rfl, _⟩ := h; rfl) | (obtain ⟨_, _, _, _, _, _, _, _, _, rfl, _⟩ := h; rfl) | (obtain ⟨_, _, _, _, _, _, _, _, _, _, rfl, _⟩ := h; rfl) | (obtain ⟨_, _, _, _, _, _, _, _, _, _, _, rfl, _⟩ := h; rfl) | (obtain ⟨_, _, _, _, _, _, _, _, _, _, _, _, rfl, _⟩ := h; rfl)) fun f cdv A outer s H hr => by
    have sc := sc_cheapest_roads
    refine ⟨_, (zss_cons (zs_set (i := 3) sc.nd rfl (Or.inl rfl) (ze_ix zix (zv 2) ze_int)) (zss_cons (zs_for PassesOwn.never rfl (zi_list (zv 2)) (zg_name (i := 4) sc.nd rfl (Or.inl rfl)) (zss_one (zs_if (zb_val (ze_c1 C_is_below hr (za_cons (ze_c1 C_cost_of_lines hr (za_cons (zv 0) (za_cons (zv 1) (za_cons (zv 4) za_nil)))) (za_cons (ze_c1 C_cost_of_lines hr (za_cons (zv 0) (za_cons (zv 1) (za_cons (zv 3) za_nil)))) za_nil)))) (zss_one (zs_set (i := 3) sc.nd rfl (Or.inl rfl) (zv 4))) zss_nil))) (zss_one (zs_ret (zv 3))))), fun ds S Q h => ?_⟩
    obtain ⟨ps, pr, a, ls, rfl, hp, hr2, hl, h⟩ := h
    dsimp only [zAsgG, zDPut, zwipe, zNeg, List.map_cons, List.map_nil, ztAnd, ztOr, ztNot, ztB, zOp, zCall, zaCons, zaNil, zV, zC, zgName, zgTup, zgsN, zgCons, zgNil, zSeq, zAsg, zIfS, zRet, zDrop_, zNext, List.getElem?_cons_succ, List.getElem?_cons_zero, List.set_cons_succ, List.set_cons_zero]
    refine zIx_l (d := lnP a) rfl ?_
    refine zFor_i ((a :: ls).map lnP) (fun R h => h) ?_
    refine zLoop_ind (α := Ln) (f := lnP) (fun m ρ S' => S' = S ∧ ∃ b o, (∀ l ∈ b :: m, LnSz l) ∧ chp (cost ps pr) b m = chp (cost ps pr) a (a :: ls) ∧ ρ = [some (.d (ptsP ps)), some (.d (lnP pr)), some (.d (lnsP (a :: ls))), some (.d (lnP b)), o]) ?_ ?_ (a :: ls) _ S ?_
    · rintro ρ S' ⟨rfl, b, o, _, e, rfl⟩
      have e2 : b = chp (cost ps pr) a (a :: ls) := e
      rw [← e2] at h
      exact h
    · rintro l m ρ S' ⟨rfl, b, o, hb, e, rfl⟩ ih
      have h1 := hb l (by simp)
      have h2 := hb b (by simp)
      refine ⟨ps, pr, l, rfl, hp.le, hp.sz, hr2, h1, ps, pr, b, rfl, hp.le, hp.sz, hr2, h2, _, _, rfl, (cost_sz hp.le hp.sz hr2 h1).big, (cost_sz hp.le hp.sz hr2 h2).big, zif (fun c => ?_) (fun c => ?_)⟩
      · refine ih _ _ ⟨rfl, l, some (.d (lnP l)), fun q hq => ?_, ?_, rfl⟩
        · rcases List.mem_cons.mp hq with z | z
          · rw [z]; exact h1
          · exact hb q (by simp [z])
        · rw [← e, chp, if_pos c]
      · refine ih _ _ ⟨rfl, b, some (.d (lnP l)), fun q hq => ?_, ?_, rfl⟩
        · rcases List.mem_cons.mp hq with z | z
          · rw [z]; exact h2
          · exact hb q (by simp [z])
        · rw [← e, chp, if_neg c]
    · refine ⟨rfl, a, none, fun l h => ?_, rfl, rfl⟩
      rcases List.mem_cons.mp h with z | z
      · rw [z]; exact hl a (by simp)
      · exact hl l z
def sp_road : ZC := fun ds S Q => ∃ (ps : List Pt) (pr l : Ln), ds = [.d (ptsP ps), .d (lnP pr), .d (lnP l)] ∧ Sps ps ∧ Prs pr ∧ l ∈ allPairs ps ∧ ∀ r z, Road ps pr l r z → Q (.d (lnsP (r ++ [z]))) S
theorem sc_road : FnScope ["points", "prices", "line", "some", "found", "ahead", "other"] ["points", "prices", "line"] (defScope s_road) := ⟨rfl, rfl, rfl, by decide +kernel, rfl, by decide +kernel, by decide +kernel⟩
theorem C_road (T : Txt fa fn P K mg base) (C_want_points : Callee P w K mg base 6 "want_points" 1 sp_want_points) (C_want_prices : Callee P w K mg base 6 "want_prices" 1 sp_want_prices) (C_want_line : Callee P w K mg base 6 "want_line" 1 sp_want_line) (C_want_spread : Callee P w K mg base 7 "want_spread" 1 sp_want_spread) (C_pair_lines : Callee P w K mg base 38 "pair_lines" 1 sp_pair_lines) (C_leads_on : Callee P w K mg base 40 "leads_on" 4 sp_leads_on) (C_cheapest_roads : Callee P w K mg base 40 "cheapest_roads" 3 sp_cheapest_roads) : Callee P w K mg base 42 "road" 3 sp_road :=
  callee T 48 63 (d := d_road) rfl rfl rfl rfl rfl (fun _ _ _ _ _ _ us hl => match us, hl with | [_, _, _], _ => rfl) sc_road (fun ds S Q h => by first | (obtain ⟨_, rfl, _⟩ := h; rfl) | (obtain ⟨_, _, rfl, _⟩ := h; rfl) | (obtain ⟨_, _, _, rfl, _⟩ := h; rfl) | (obtain ⟨_, _, _, _, rfl, _⟩ := h; rfl) | (obtain ⟨_, _, _, _, _, rfl, _⟩ := h; rfl) | (obtain ⟨_, _, _, _, _, _, rfl, _⟩ := h; rfl) | (obtain ⟨_, _, _, _, _, _, _, rfl, _⟩ := h; rfl) | (obtain ⟨_, _, _, _, _, _, _, _, rfl, _⟩ := h; rfl) | (obtain ⟨_, _, _, _, _, _, _, _, _, rfl, _⟩ := h; rfl) | (obtain ⟨_, _, _, _, _, _, _, _, _, _, rfl, _⟩ := h; rfl) | (obtain ⟨_, _, _, _, _, _, _, _, _, _, _, rfl, _⟩ := h; rfl) | (obtain ⟨_, _, _, _, _, _, _, _, _, _, _, _, rfl, _⟩ := h; rfl)) fun f cdv A outer s H hr => by
    have sc := sc_road
    refine ⟨_, (zss_cons (zs_expr (ze_c1 C_want_points hr (za_cons (zv 0) za_nil))) (zss_cons (zs_expr (ze_c1 C_want_prices hr (za_cons (zv 1) za_nil))) (zss_cons (zs_expr (ze_c1 C_want_line hr (za_cons (zv 2) za_nil))) (zss_cons (zs_expr (ze_c1 C_want_spread hr (za_cons (zv 0) za_nil))) (zss_cons (zs_set (i := 3) sc.nd rfl (Or.inl rfl) (ze_c1 C_pair_lines hr (za_cons (zv 0) za_nil))) (zss_cons (zs_if (zb_cmp (zop_notIn (Roomu hr 65)) (zv 2) (zv 3) (by rfl)) zss_never zss_nil) (zss_cons (zs_set (i := 4) sc.nd rfl (Or.inr rfl) (ze_lstO (za_cons (zv 2) za_nil))) (zss_cons (zs_setLc (i := 5) (own := [("other", 6)]) gok_one rfl sc.nd rfl rfl (sw_true rfl rfl rfl (by decide +kernel)) (zi_list (zv 3)) (blkOk_by rfl) (fun _ _ _ _ _ => pg_name (i := 6) sc.nd rfl (Or.inl rfl)) (fun _ _ _ _ _ => zts_one (zb_val (ze_c1 C_leads_on hr (za_cons (zv 0) (za_cons (zv 1) (za_cons (zv 2) (za_cons (zv 6) za_nil))))))) (fun _ _ _ _ _ => (zv 6))) (zss_cons (zs_while PassesOwn.never (zb_cmp (zop_ne (Roomu hr 64)) (zv 5) (ze_lst za_nil) (by rfl)) (zss_cons (zs_expr (ze_bm PySem.F.plainAttrs_list PySem.F.slot_list_append PySem.F.type_list_append zm_append (zv 4) (za_cons (ze_c1 C_cheapest_roads hr (za_cons (zv 0) (za_cons (zv 1) (za_cons (zv 5) za_nil)))) za_nil))) (zss_one (zs_setLc (i := 5) (own := [("other", 6)]) gok_one rfl sc.nd rfl rfl (sw_true rfl rfl rfl (by decide +kernel)) (zi_list (zv 3)) (blkOk_by rfl) (fun _ _ _ _ _ => pg_name (i := 6) sc.nd rfl (Or.inl rfl)) (fun _ _ _ _ _ => zts_one (zb_val (ze_c1 C_leads_on hr (za_cons (zv 0) (za_cons (zv 1) (za_cons (ze_ix zix (zv 4) (ze_neg ze_int)) (za_cons (zv 6) za_nil))))))) (fun _ _ _ _ _ => (zv 6)))))) (zss_one (zs_ret (ze_frz (zv 4))))))))))))), fun ds S Q h => ?_⟩
    obtain ⟨ps, pr, l, rfl, ⟨hp, hs⟩, hr2, hl, h⟩ := h
    have hn := all_len hp.le
    have hlz := allPairs_sz hp.sz hl
    refine ⟨ps, rfl, hp, pr, rfl, hr2, l, rfl, ps, rfl, hp, hs, ps, rfl, ⟨hp, hs⟩, _, ino_ln l (allPairs ps), zno (by rw [decide_eq_true hl]; rfl) (fun p hS => ?_)⟩
    refine ⟨len1000 (by omega), zLcL_fm (f := lnP) (leadsB ps pr l) lnP (allPairs ps) [] (fun m hm acc l' k1 k2 => ⟨ps, pr, l, m, rfl, hp, hr2.1, hlz, allPairs_sz hp.sz hm, zboth (fun e => k1 e) (fun e => k2 e)⟩) ?_⟩
    refine Exists.intro (fun n ρ S' => ∃ r z o, n = under ps pr z ∧ S' = S.put p (.lst ((r ++ [z]).map lnP)) ∧ (r ++ [z]).head? = some l ∧ (∀ m ∈ r ++ [z], m ∈ allPairs ps) ∧ (∀ q ∈ (r ++ [z]).zip ((r ++ [z]).drop 1), leadsB ps pr q.1 q.2 = true) ∧ r.length + under ps pr z ≤ 144 ∧
      ρ = [some (.d (ptsP ps)), some (.d (lnP pr)), some (.d (lnP l)), some (.d (lnsP (allPairs ps))), some (.ref p), some (.d (lnsP ((allPairs ps).filter (leadsB ps pr z)))), o]) (And.intro ⟨_, [], l, _, rfl, rfl, rfl, by simpa using hl, by simp, by have := under_le ps pr l; simp; omega, rfl⟩ ?_)
    rintro n ρ S' ⟨r, z, o, rfl, rfl, hh, hm, hc, hle, rfl⟩
    refine ⟨_, eqo_lns _ [], zifn (fun c => ?_) (fun c => ?_)⟩
    · cases e : (allPairs ps).filter (leadsB ps pr z) with
      | nil => exact absurd e c
      | cons a ls =>
        have hin : ∀ q ∈ a :: ls, q ∈ allPairs ps ∧ leadsB ps pr z q = true := fun q hq => by rw [← e] at hq; exact List.mem_filter.mp hq
        refine ⟨⟨p, _, rfl, Sto.put_same⟩, ps, pr, a, ls, rfl, hp, hr2.1, fun q hq => allPairs_sz hp.sz (hin q hq).1, ?_⟩
        have hcm : chp (cost ps pr) a (a :: ls) ∈ a :: ls := by
          rcases chp_mem (cost ps pr) (a :: ls) a with q | q
          · rw [q]; simp
          · exact q
        generalize chp (cost ps pr) a (a :: ls) = y at hcm
        obtain ⟨hy1, hy2⟩ := hin y hcm
        have hlt : cost ps pr y < cost ps pr z := by unfold leadsB at hy2; simp at hy2; exact hy2.1
        have hu := under_lt hy1 hlt
        have hyz := allPairs_sz hp.sz hy1
        refine ⟨p, _, _, rfl, rfl, Sto.put_same, by simp; omega, ?_⟩
        rw [Sto.put_put]
        have e3 : (r ++ [z]).map lnP ++ [lnP y] = ((r ++ [z]) ++ [y]).map lnP := by simp
        rw [e3]
        refine ⟨len1000 (by omega), zLcL_fm (f := lnP) (leadsB ps pr y) lnP (allPairs ps) [] (fun m hm acc l' k1 k2 => ?_) ?_⟩
        · dsimp only [zAsgG, zDPut, zwipe, zNeg, List.map_cons, List.map_nil, ztAnd, ztOr, ztNot, ztB, zOp, zCall, zaCons, zaNil, zV, zC, zgName, zgTup, zgsN, zgCons, zgNil, zSeq, zAsg, zIfS, zRet, zDrop_, zNext, List.getElem?_cons_succ, List.getElem?_cons_zero, List.set_cons_succ, List.set_cons_zero]
          refine zIx_ref Sto.put_same pAt_last ?_
          exact ⟨ps, pr, y, m, rfl, hp, hr2.1, hyz, allPairs_sz hp.sz hm, zboth (fun e => k1 e) (fun e => k2 e)⟩
        · refine ⟨_, hu, r ++ [z], y, _, rfl, rfl, ?_, ?_, ?_, ?_, rfl⟩
          · cases r with
            | nil => exact hh
            | cons x r => exact hh
          · intro m hmm
            rcases List.mem_append.mp hmm with q | q
            · exact hm m q
            · rw [List.mem_singleton.mp q]; exact hy1
          · intro q hq
            rw [List.append_assoc] at hq
            rw [show [z] ++ [y] = [z, y] from rfl, zip_grow] at hq
            rcases List.mem_append.mp hq with t | t
            · exact hc q t
            · rw [List.mem_singleton.mp t]; exact hy2
          · simp; omega
    · refine ⟨p, _, rfl, Sto.put_same, ?_⟩
      rw [Sto.put_del hS]
      exact h r z ⟨hh, hm, hc, c, by omega⟩
end
end Sl
set_option Elab.async false
set_option linter.all false
set_option maxRecDepth 100000
set_option maxHeartbeats 4000000
namespace Z
open PySem PySem.Spec PyProof.Rows L2
theorem zEq_ref {S : Sto} {a : Addr} {xs : List PyData} {y : PyData} {b : Bool} {Q : D → Sto → Prop} (h : S a = some (.lst xs)) (e : EqO (.list xs) y b) (q : Q (.d (.bool b)) S) : zEq (.ref a) (.d y) S Q := by
  show (match Z.seen S (.ref a), Z.seen S (.d y) with
  | some d, some e => ∃ b, EqO d e b ∧ Q (.d (.bool b)) S
  | _, _ => False)
  rw [seen_ref h]
  exact ⟨b, e, q⟩
theorem zLst_nil {ρ : Ro} {S : Sto} {Q : D → Sto → Prop} : zLst zaNil ρ S Q = Q (.d (.list [])) S := rfl
end Z
namespace Sl
open PySem PySem.Spec PyProof.Rows L2 Z
open Sg (Pt Ln PsOk PrOk Spread stand rise allPairs inOrder insL aheadB cost rawPairs IsPair)
def elP : Option Ln → PyData
  | none => .none
  | some l => lnP l
abbrev Deed := List Pt × Option Ln
def deedP (d : Deed) : PyData := .tuple [ptsP d.1, elP d.2]
theorem lay_el : ∀ l : Option Ln, (elP l).canLay0 = true
  | none => by simp [elP, PyData.canLay0]
  | some l => lay_ln l
theorem dep_el : ∀ l : Option Ln, (elP l).depth ≤ 2
  | none => by simp [elP, PyData.depth]
  | some l => dep_ln l
theorem lay_deed (d : Deed) : (deedP d).canLay0 = true := by
  have h1 := lay_el d.2
  have h2 := lay_list ptP lay_pt d.1
  simp only [deedP, PyData.canLay0, PyData.canLayAll0, h1, h2, Bool.and_self]
theorem dep_deed (d : Deed) : (deedP d).depth ≤ 4 := by
  have h1 := dep_el d.2
  have h2 := depth_list ptP 2 dep_pt d.1
  simp only [deedP, PyData.depth, PyData.depthAll]; omega
theorem eqo_deeds (a : Deed) (l : List Deed) : EqO (.list ((l ++ [a]).map deedP)) (.list []) false := by
  refine ⟨shaped_list deedP 4 lay_deed dep_deed (by decide) _, rfl, ?_⟩
  cases l <;> simp [PyData.eqv, PyData.eqvAll]
/-- the house as it stands -/
structure House (S : Sto) (C h q dx : Addr) (pr : Ln) (ps : List Pt) (el : Option Ln) (hist : List Deed) : Prop where
  sh : S h = some (.ins C dx [("rates", .d (lnP pr)), ("stock", .d (ptsP ps)), ("found", .d (elP el)), ("ahead", .ref q)])
  sq : S q = some (.lst (hist.map deedP))
  ne : h ≠ q
def Frame (h q : Addr) (S S' : Sto) : Prop := ∀ a, a ≠ h → a ≠ q → S' a = S a
/-- what the house tells -/
def Told (ps : List Pt) (pr : Ln) (told : List Ln) : Prop := (¬ Spread ps ∧ told = []) ∨ (Spread ps ∧ ∃ l r z, told = r ++ [z] ∧ Road ps pr l r z ∧ l ∈ allPairs ps)
section
variable {P : Program} {w : World} {K : PySem.W.Frag} {mg : Str → Option Value} {base : Heap}
def sp_is_road : ZC := fun ds S Q => ∃ (ps : List Pt) (pr l : Ln) (r : List Ln) (z : Ln), ds = [.d (ptsP ps), .d (lnP pr), .d (lnsP (r ++ [z]))] ∧ Sps ps ∧ Prs pr ∧ Road ps pr l r z ∧ Q (.d (.bool (decide (cost ps pr z = leastC ps pr)))) S
theorem sc_is_road : FnScope ["points", "prices", "thing", "some", "line", "other"] ["points", "prices", "thing"] (defScope s_is_road) := ⟨rfl, rfl, rfl, by decide +kernel, rfl, by decide +kernel, by decide +kernel⟩
theorem C_is_road (T : Txt fa fn P K mg base) (C_want_points : Callee P w K mg base 6 "want_points" 1 sp_want_points) (C_want_prices : Callee P w K mg base 6 "want_prices" 1 sp_want_prices) (C_pair_lines : Callee P w K mg base 38 "pair_lines" 1 sp_pair_lines) (C_is_best : Callee P w K mg base 41 "is_best" 3 sp_is_best) (C_is_spread : Callee P w K mg base 7 "is_spread" 1 sp_is_spread) (C_leads_on : Callee P w K mg base 40 "leads_on" 4 sp_leads_on) (C_is_line : Callee P w K mg base 4 "is_line" 1 sp_is_line) : Callee P w K mg base 42 "is_road" 3 sp_is_road :=
  callee T 49 64 (d := d_is_road) rfl rfl rfl rfl rfl (fun _ _ _ _ _ _ us hl => match us, hl with | [_, _, _], _ => rfl) sc_is_road (fun ds S Q h => by first | (obtain ⟨_, rfl, _⟩ := h; rfl) | (obtain ⟨_, _, rfl, _⟩ := h; rfl) | (obtain ⟨_, _, _, rfl, _⟩ := h; rfl) | (obtain ⟨_, _, _, _, rfl, _⟩ := h; rfl) | (obtain ⟨_, _, _, _, _, rfl, _⟩ := h; rfl) | (obtain ⟨_, _, _, _, _, _, rfl, _⟩ := h; rfl) | (obtain ⟨_, _, _, _, _, _, _, rfl, _⟩ := h; rfl) | (obtain ⟨_, _, _, _, _, _, _, _, rfl, _⟩ := h; rfl) | (obtain ⟨_, _, _, _, _, _, _, _, _, rfl, _⟩ := h; rfl) | (obtain ⟨_, _, _, _, _, _, _, _, _, _, rfl, _⟩ := h; rfl) | (obtain ⟨_, _, _, _, _, _, _, _, _, _, _, rfl, _⟩ := h; rfl) | (obtain ⟨_, _, _, _, _, _, _, _, _, _, _, _, rfl, _⟩ := h; rfl)) fun f cdv A outer s H hr => by
    have sc := sc_is_road
    refine ⟨_, (zss_cons (zs_expr (ze_c1 C_want_points hr (za_cons (zv 0) za_nil))) (zss_cons (zs_expr (ze_c1 C_want_prices hr (za_cons (zv 1) za_nil))) (zss_cons (zs_if (PW.pt (zw_or (zb_not (zb_val (ze_c1 C_is_spread hr (za_cons (zv 0) za_nil)))) (zw_or (zb_not (zb_val (ze_isi (T := "list") (by rfl) (T.free_ 6 rfl) (by rfl) (T.free_ 2 rfl) (by decide +kernel) (zv 2) (by decide +kernel)))) (zw_or1 (zb_cmp (zop_eq (Roomu hr 64)) (zv 2) (ze_lst za_nil) (by rfl)))))) (zss_one (zs_ret ze_bl)) zss_nil) (zss_cons (zs_set (i := 3) sc.nd rfl (Or.inr rfl) (ze_c1 C_pair_lines hr (za_cons (zv 0) za_nil))) (zss_cons (zs_if (zb_not (zb_val (ze_callB (zc_all rfl) (by rfl) (T.free_ 3 rfl) (by decide +kernel) (za_cons (ze_lc (own := [("line", 4)]) gok_one rfl sc.nd (zi_list (zv 2)) (blkOk_by rfl) (fun _ _ _ _ _ => pg_name (i := 4) sc.nd rfl (Or.inl rfl)) (fun _ _ _ _ _ => zts_nil) (fun _ _ _ _ _ => (ze_and (ze_c1 C_is_line hr (za_cons (zv 4) za_nil)) (ze_one (ze_cmp (zop_in (Roomu hr 65)) (zv 4) (zv 3) (by rfl)))))) za_nil)))) (zss_one (zs_ret ze_bl)) zss_nil) (zss_cons (zs_if (zb_not (zb_val (ze_callB (zc_all rfl) (by rfl) (T.free_ 3 rfl) (by decide +kernel) (za_cons (ze_lc (own := [("line", 4), ("other", 5)]) (gok_tup (n := 2)) rfl sc.nd (zi_zip (by rfl) (T.free_ 9 rfl) (za_cons (zv 2) (za_cons (ze_drop (zv 2) ze_int) za_nil))) (blkOk_by rfl) (fun _ _ _ _ _ => pg_tup (n := 2) rfl (pgs_cons (pg_name (i := 4) sc.nd rfl (Or.inl rfl)) (pgs_cons (pg_name (i := 5) sc.nd rfl (Or.inl rfl)) pgs_nil))) (fun _ _ _ _ _ => zts_nil) (fun _ _ _ _ _ => (ze_c1 C_leads_on hr (za_cons (zv 0) (za_cons (zv 1) (za_cons (zv 4) (za_cons (zv 5) za_nil))))))) za_nil)))) (zss_one (zs_ret ze_bl)) zss_nil) (zss_one (zs_ret (ze_c1 C_is_best hr (za_cons (zv 0) (za_cons (zv 1) (za_cons (ze_ix zix (zv 2) (ze_neg ze_int)) za_nil)))))))))))), fun ds S Q h => ?_⟩
    obtain ⟨ps, pr, l, r, z, rfl, ⟨hp, hs⟩, hr2, hr3, h⟩ := h
    have hzl : ∀ m ∈ r ++ [z], LnSz m := fun m hm => allPairs_sz hp.sz (hr3.mem m hm)
    have hlen : (r ++ [z]).length ≤ 1000 := by
      have := hr3.len
      rw [List.length_append]; simp; omega
    refine ⟨ps, rfl, hp, pr, rfl, hr2, ps, rfl, hp, zno (by rw [(spreadB_iff ps).mpr hs]; rfl) (zno rfl ⟨_, eqo_lns (r ++ [z]) [], zno (decide_eq_false (by simp)) ⟨ps, rfl, ⟨hp, hs⟩, ?_⟩⟩)⟩
    refine ⟨len1000 hlen, zLcL_map (f := lnP) (fun _ => .bool true) (r ++ [z]) [] (fun m hm acc l' k => zyes rfl ⟨m, rfl, zyes rfl ⟨_, ino_ln m (allPairs ps), by rw [decide_eq_true (hr3.mem m hm)]; exact k⟩⟩) ⟨_, (r ++ [z]).map fun _ => true, rfl, by simp [Z.seen, Function.comp_def], zno (by simp [List.all_map]) ?_⟩⟩
    show Nat.ble ((((r ++ [z]).map lnP).zip (((r ++ [z]).map lnP).drop 1)).map fun p => PyData.tuple [p.1, p.2]).length 1000 = true ∧ zLcL _ _ _ _ ((((r ++ [z]).map lnP).zip (((r ++ [z]).map lnP).drop 1)).map fun p => PyData.tuple [p.1, p.2]) [] _ _
    rw [← List.map_drop, zipP]
    refine ⟨len1000 (by rw [List.length_zip, List.length_drop]; omega), zLcL_map (f := fun q => PyData.tuple [lnP q.1, lnP q.2]) (fun _ => .bool true) ((r ++ [z]).zip ((r ++ [z]).drop 1)) [] (fun m hm acc l' k => ?_) ⟨_, ((r ++ [z]).zip ((r ++ [z]).drop 1)).map fun _ => true, rfl, by simp [Z.seen, Function.comp_def], zno (by simp [List.all_map]) ?_⟩⟩
    · obtain ⟨a, b⟩ := m
      have h1 := hzl a (List.of_mem_zip hm).1
      have h2 := hzl b (List.mem_of_mem_drop (List.of_mem_zip hm).2)
      have h3 := hr3.chain (a, b) hm
      exact ⟨rfl, zyes rfl ⟨ps, pr, a, b, rfl, hp, hr2.1, h1, h2, by rw [h3]; exact k⟩⟩
    · dsimp only [zAsgG, zDPut, zwipe, zNeg, List.map_cons, List.map_nil, ztAnd, ztOr, ztNot, ztB, zOp, zCall, zaCons, zaNil, zV, zC, zgName, zgTup, zgsN, zgCons, zgNil, zSeq, zAsg, zIfS, zRet, zDrop_, zNext, List.getElem?_cons_succ, List.getElem?_cons_zero, List.set_cons_succ, List.set_cons_zero]
      refine zIx_l pAt_last ?_
      exact ⟨ps, pr, z, rfl, ⟨hp, hs⟩, hr2, hzl z (by simp), h⟩
def sp_start_of : ZC := fun ds S Q => ∃ (ps : List Pt) (el : Option Ln), ds = [.d (ptsP ps), .d (elP el)] ∧ Sps ps ∧ (∀ l, el = some l → LnSz l) ∧ ∀ l ∈ allPairs ps, Q (.d (lnP l)) S
theorem sc_start_of : FnScope ["points", "elder", "lines", "near", "line", "point"] ["points", "elder"] (defScope s_start_of) := ⟨rfl, rfl, rfl, by decide +kernel, rfl, by decide +kernel, by decide +kernel⟩
theorem C_start_of (T : Txt fa fn P K mg base) (C_all_pair_lines : Callee P w K mg base 37 "all_pair_lines" 1 sp_all_pair_lines) (C_rise_of_lines : Callee P w K mg base 37 "rise_of_lines" 2 sp_rise_of_lines) : Callee P w K mg base 38 "start_of" 2 sp_start_of :=
  callee T 50 65 (d := d_start_of) rfl rfl rfl rfl rfl (fun _ _ _ _ _ _ us hl => match us, hl with | [_, _], _ => rfl) sc_start_of (fun ds S Q h => by first | (obtain ⟨_, rfl, _⟩ := h; rfl) | (obtain ⟨_, _, rfl, _⟩ := h; rfl) | (obtain ⟨_, _, _, rfl, _⟩ := h; rfl) | (obtain ⟨_, _, _, _, rfl, _⟩ := h; rfl) | (obtain ⟨_, _, _, _, _, rfl, _⟩ := h; rfl) | (obtain ⟨_, _, _, _, _, _, rfl, _⟩ := h; rfl) | (obtain ⟨_, _, _, _, _, _, _, rfl, _⟩ := h; rfl) | (obtain ⟨_, _, _, _, _, _, _, _, rfl, _⟩ := h; rfl) | (obtain ⟨_, _, _, _, _, _, _, _, _, rfl, _⟩ := h; rfl) | (obtain ⟨_, _, _, _, _, _, _, _, _, _, rfl, _⟩ := h; rfl) | (obtain ⟨_, _, _, _, _, _, _, _, _, _, _, rfl, _⟩ := h; rfl) | (obtain ⟨_, _, _, _, _, _, _, _, _, _, _, _, rfl, _⟩ := h; rfl)) fun f cdv A outer s H hr => by
    have sc := sc_start_of
    refine ⟨_, (zss_cons (zs_set (i := 2) sc.nd rfl (Or.inl rfl) (ze_c1 C_all_pair_lines hr (za_cons (zv 0) za_nil))) (zss_cons (zs_if (PW.pt (zw_or (zb_cmp zop_is (zv 1) ze_non (by rfl)) (zw_or1 (zb_cmp (zop_in (Roomu hr 65)) (zv 1) (zv 2) (by rfl))))) (zss_one (zs_ret (ze_if (zb_cmp zop_is (zv 1) ze_non (by rfl)) (ze_ix zix (zv 2) ze_int) (zv 1)))) zss_nil) (zss_cons (zs_setLc (i := 3) (own := [("point", 5)]) gok_one rfl sc.nd rfl rfl (sw_true rfl rfl rfl (by decide +kernel)) (zi_list (zv 0)) (blkOk_by rfl) (fun _ _ _ _ _ => pg_name (i := 5) sc.nd rfl (Or.inl rfl)) (fun _ _ _ _ _ => zts_one (zb_cmp (zop_eq (Roomu hr 64)) (ze_ix zix (ze_c1 C_rise_of_lines hr (za_cons (zv 5) (za_cons (zv 1) za_nil))) ze_int) ze_int (by rfl))) (fun _ _ _ _ _ => (zv 5))) (zss_cons (zs_for PassesOwn.never rfl (zi_list (zv 2)) (zg_name (i := 4) sc.nd rfl (Or.inr rfl)) (zss_one (zs_if (zb_val (ze_callB (zc_any rfl) (by rfl) (T.free_ 14 rfl) (by decide +kernel) (za_cons (ze_lc (own := [("point", 5)]) gok_one rfl sc.nd (zi_list (zv 3)) (blkOk_by rfl) (fun _ _ _ _ _ => pg_name (i := 5) sc.nd rfl (Or.inl rfl)) (fun _ _ _ _ _ => zts_nil) (fun _ _ _ _ _ => (ze_cmp (zop_eq (Roomu hr 64)) (ze_ix zix (ze_c1 C_rise_of_lines hr (za_cons (zv 5) (za_cons (zv 4) za_nil))) ze_int) ze_int (by rfl)))) za_nil))) (zss_one (zs_ret (zv 4))) zss_nil))) (zss_one (zs_ret (ze_ix zix (zv 2) ze_int))))))), fun ds S Q h => ?_⟩
    obtain ⟨ps, el, rfl, ⟨hp, hs⟩, hel, h⟩ := h
    have hne := all_ne hs
    have hal : ∀ l ∈ allPairs ps, LnSz l := fun l hl => allPairs_sz hp.sz hl
    refine ⟨ps, rfl, hp.le, hp.sz, ?_⟩
    have hfirst : ∃ a ls, allPairs ps = a :: ls := by
      cases z : allPairs ps with
      | nil => exact absurd z hne
      | cons a ls => exact ⟨a, ls, rfl⟩
    obtain ⟨a, ls, ea⟩ := hfirst
    have ha : a ∈ allPairs ps := by rw [ea]; simp
    have hpa : pAt ((allPairs ps).map lnP) 0 = some (lnP a) := by rw [ea]; rfl
    cases el with
    | none =>
      refine zyes rfl (zyes rfl (zyes rfl ?_))
      dsimp only [zAsgG, zDPut, zwipe, zNeg, List.map_cons, List.map_nil, ztAnd, ztOr, ztNot, ztB, zOp, zCall, zaCons, zaNil, zV, zC, zgName, zgTup, zgsN, zgCons, zgNil, zSeq, zAsg, zIfS, zRet, zDrop_, zNext, List.getElem?_cons_succ, List.getElem?_cons_zero, List.set_cons_succ, List.set_cons_zero]
      exact zIx_l hpa (h a ha)
    | some e =>
      refine zno rfl ⟨_, ino_ln e (allPairs ps), zif (fun c => ?_) (fun c => ?_)⟩
      · exact zno rfl (h e c)
      · refine ⟨len1000 (by have := hp.le; omega), zLcL_fm (f := ptP) (fun p => decide ((rise p e).num = 0)) ptP ps [] (fun p hm acc l' k1 k2 => ⟨p, e, rfl, hp.sz p hm, hel e rfl, _, eqo_int (rise p e).num 0, zboth (fun e => k1 e) (fun e => k2 e)⟩) ?_⟩
        have hnear : ∀ p ∈ ps.filter (fun p => decide ((rise p e).num = 0)), PtSz p := fun p hm => hp.sz p (List.mem_filter.mp hm).1
        have hnl : (ps.filter (fun p => decide ((rise p e).num = 0))).length ≤ 1000 := Nat.le_trans (List.length_filter_le _ _) (by have := hp.le; omega)
        rw [List.nil_append]
        generalize ps.filter (fun p => decide ((rise p e).num = 0)) = near at hnear hnl
        refine zLoop_ind (α := Ln) (f := lnP) (fun m ρ S' => S' = S ∧ ∃ o1 o2, (∀ l ∈ m, l ∈ allPairs ps) ∧ ρ = [some (.d (ptsP ps)), some (.d (lnP e)), some (.d (lnsP (allPairs ps))), some (.d (ptsP near)), o1, o2]) ?_ ?_ (allPairs ps) _ S ?_
        · rintro ρ S' ⟨rfl, o1, o2, _, rfl⟩
          dsimp only [zAsgG, zDPut, zwipe, zNeg, List.map_cons, List.map_nil, ztAnd, ztOr, ztNot, ztB, zOp, zCall, zaCons, zaNil, zV, zC, zgName, zgTup, zgsN, zgCons, zgNil, zSeq, zAsg, zIfS, zRet, zDrop_, zNext, List.getElem?_cons_succ, List.getElem?_cons_zero, List.set_cons_succ, List.set_cons_zero]
          exact zIx_l hpa (h a ha)
        · rintro l m ρ S' ⟨rfl, o1, o2, hm, rfl⟩ ih
          have hl := hm l (by simp)
          refine ⟨len1000 hnl, zLcL_map (f := ptP) (fun p => .bool (decide ((rise p l).num = 0))) near [] (fun p hm acc l' k => zyes rfl ⟨p, l, rfl, hnear p hm, hal l hl, _, eqo_int (rise p l).num 0, k⟩) ?_⟩
          refine ⟨_, near.map fun p => decide ((rise p l).num = 0), rfl, by simp [Z.seen, Function.comp_def], zboth (fun e => h l hl) (fun e => ?_)⟩
          exact ih _ _ ⟨rfl, _, _, fun q hq => hm q (by simp [hq]), rfl⟩
        · exact ⟨rfl, none, none, fun l hl => hl, rfl⟩
def sp_m_init (C : Addr) : ZC := fun ds S Q => ∃ (h dx : Addr) (pr : Ln), ds = [.ref h, .d (lnP pr)] ∧ S h = some (.ins C dx []) ∧ Prs pr ∧ ∀ q S', House S' C h q dx pr [] none [] → S q = none → Frame h q S S' → Q (.d .none) S'
theorem sc_m_init : FnScope ["self", "prices"] ["self", "prices"] (defScope s_m_init) := ⟨rfl, rfl, rfl, by decide +kernel, rfl, by decide +kernel, by decide +kernel⟩
theorem C_m_init (T : Txt fa fn P K mg base) (C_want_prices : Callee P w K mg base 6 "want_prices" 1 sp_want_prices) : CalleeM P w K mg base 7 (He.ga K "Kept") (He.ma K (He.ga K "Kept") "__init__") 2 (sp_m_init (He.ga K "Kept")) :=
  calleeM T 51 (d := d_m_init) rfl rfl rfl rfl (fun _ _ _ _ _ _ us hl => match us, hl with | [_, _], _ => rfl) sc_m_init (fun ds S Q h => by first | (obtain ⟨_, rfl, _⟩ := h; rfl) | (obtain ⟨_, _, rfl, _⟩ := h; rfl) | (obtain ⟨_, _, _, rfl, _⟩ := h; rfl) | (obtain ⟨_, _, _, _, rfl, _⟩ := h; rfl) | (obtain ⟨_, _, _, _, _, rfl, _⟩ := h; rfl) | (obtain ⟨_, _, _, _, _, _, rfl, _⟩ := h; rfl) | (obtain ⟨_, _, _, _, _, _, _, rfl, _⟩ := h; rfl) | (obtain ⟨_, _, _, _, _, _, _, _, rfl, _⟩ := h; rfl) | (obtain ⟨_, _, _, _, _, _, _, _, _, rfl, _⟩ := h; rfl) | (obtain ⟨_, _, _, _, _, _, _, _, _, _, rfl, _⟩ := h; rfl) | (obtain ⟨_, _, _, _, _, _, _, _, _, _, _, rfl, _⟩ := h; rfl) | (obtain ⟨_, _, _, _, _, _, _, _, _, _, _, _, rfl, _⟩ := h; rfl)) fun f cdv A outer s H hr => by
    have sc := sc_m_init
    refine ⟨_, (zss_cons (zs_expr (ze_c1 C_want_prices hr (za_cons (zv 1) za_nil))) (zss_cons (zs_fld (T.cls_ 138 rfl) (T.noat_ 149 rfl) (zv 0) (zv 1)) (zss_cons (zs_fld (T.cls_ 138 rfl) (T.noat_ 150 rfl) (zv 0) (ze_lst za_nil)) (zss_cons (zs_fld (T.cls_ 138 rfl) (T.noat_ 151 rfl) (zv 0) ze_non) (zss_one (zs_fld (T.cls_ 138 rfl) (T.noat_ 152 rfl) (zv 0) (ze_lstO za_nil))))))), fun ds S Q h => ?_⟩
    obtain ⟨o, dx, pr, rfl, hS, hr2, h⟩ := h
    refine ⟨pr, rfl, hr2, o, dx, _, rfl, hS, Nat.le_of_ble_eq_true rfl, o, dx, _, rfl, Sto.put_same, Nat.le_of_ble_eq_true rfl, o, dx, _, rfl, Sto.put_same, Nat.le_of_ble_eq_true rfl, fun q hq => ?_⟩
    rw [Sto.put_put, Sto.put_put] at hq ⊢
    have hne : o ≠ q := fun e => by rw [← e, Sto.put_same] at hq; cases hq
    have hq2 : S q = none := by rw [Sto.put_ne (Ne.symm hne)] at hq; exact hq
    refine ⟨o, dx, _, rfl, (Sto.put_ne hne).trans Sto.put_same, Nat.le_of_ble_eq_true rfl, h q _ ⟨Sto.put_same, (Sto.put_ne (Ne.symm hne)).trans Sto.put_same, hne⟩ hq2 fun a h1 h2 => ?_⟩
    rw [Sto.put_ne h1, Sto.put_ne h2, Sto.put_ne h1]
def sp_m_points (C : Addr) : ZC := fun ds S Q => ∃ h q dx pr ps el hist, ds = [.ref h] ∧ House S C h q dx pr ps el hist ∧ Q (.d (ptsP ps)) S
theorem sc_m_points : FnScope ["self"] ["self"] (defScope s_m_points) := ⟨rfl, rfl, rfl, by decide +kernel, rfl, by decide +kernel, by decide +kernel⟩
theorem C_m_points (T : Txt fa fn P K mg base) : CalleeM P w K mg base 1 (He.ga K "Kept") (He.ma K (He.ga K "Kept") "points") 1 (sp_m_points (He.ga K "Kept")) :=
  calleeM T 52 (d := d_m_points) rfl rfl rfl rfl (fun _ _ _ _ _ _ us hl => match us, hl with | [_], _ => rfl) sc_m_points (fun ds S Q h => by first | (obtain ⟨_, rfl, _⟩ := h; rfl) | (obtain ⟨_, _, rfl, _⟩ := h; rfl) | (obtain ⟨_, _, _, rfl, _⟩ := h; rfl) | (obtain ⟨_, _, _, _, rfl, _⟩ := h; rfl) | (obtain ⟨_, _, _, _, _, rfl, _⟩ := h; rfl) | (obtain ⟨_, _, _, _, _, _, rfl, _⟩ := h; rfl) | (obtain ⟨_, _, _, _, _, _, _, rfl, _⟩ := h; rfl) | (obtain ⟨_, _, _, _, _, _, _, _, rfl, _⟩ := h; rfl) | (obtain ⟨_, _, _, _, _, _, _, _, _, rfl, _⟩ := h; rfl) | (obtain ⟨_, _, _, _, _, _, _, _, _, _, rfl, _⟩ := h; rfl) | (obtain ⟨_, _, _, _, _, _, _, _, _, _, _, rfl, _⟩ := h; rfl) | (obtain ⟨_, _, _, _, _, _, _, _, _, _, _, _, rfl, _⟩ := h; rfl)) fun f cdv A outer s H hr => by
    have sc := sc_m_points
    refine ⟨_, (zss_one (zs_ret (ze_callTy zc_list (by rfl) (T.free_ 2 rfl) (by decide +kernel) (za_cons (ze_fld (T.cls_ 138 rfl) (T.noat_ 150 rfl) (zv 0)) za_nil)))), fun ds S Q h => ?_⟩
    obtain ⟨o, q, dx, pr, ps, el, hist, rfl, H, h⟩ := h
    exact ⟨o, dx, _, _, rfl, H.sh, rfl, h⟩
def sp_m_line (C : Addr) : ZC := fun ds S Q => ∃ h q dx pr ps el hist, ds = [.ref h] ∧ House S C h q dx pr ps el hist ∧ Q (.d (elP el)) S
theorem sc_m_line : FnScope ["self"] ["self"] (defScope s_m_line) := ⟨rfl, rfl, rfl, by decide +kernel, rfl, by decide +kernel, by decide +kernel⟩
theorem C_m_line (T : Txt fa fn P K mg base) : CalleeM P w K mg base 1 (He.ga K "Kept") (He.ma K (He.ga K "Kept") "line") 1 (sp_m_line (He.ga K "Kept")) :=
  calleeM T 53 (d := d_m_line) rfl rfl rfl rfl (fun _ _ _ _ _ _ us hl => match us, hl with | [_], _ => rfl) sc_m_line (fun ds S Q h => by first | (obtain ⟨_, rfl, _⟩ := h; rfl) | (obtain ⟨_, _, rfl, _⟩ := h; rfl) | (obtain ⟨_, _, _, rfl, _⟩ := h; rfl) | (obtain ⟨_, _, _, _, rfl, _⟩ := h; rfl) | (obtain ⟨_, _, _, _, _, rfl, _⟩ := h; rfl) | (obtain ⟨_, _, _, _, _, _, rfl, _⟩ := h; rfl) | (obtain ⟨_, _, _, _, _, _, _, rfl, _⟩ := h; rfl) | (obtain ⟨_, _, _, _, _, _, _, _, rfl, _⟩ := h; rfl) | (obtain ⟨_, _, _, _, _, _, _, _, _, rfl, _⟩ := h; rfl) | (obtain ⟨_, _, _, _, _, _, _, _, _, _, rfl, _⟩ := h; rfl) | (obtain ⟨_, _, _, _, _, _, _, _, _, _, _, rfl, _⟩ := h; rfl) | (obtain ⟨_, _, _, _, _, _, _, _, _, _, _, _, rfl, _⟩ := h; rfl)) fun f cdv A outer s H hr => by
    have sc := sc_m_line
    refine ⟨_, (zss_one (zs_ret (ze_fld (T.cls_ 138 rfl) (T.noat_ 151 rfl) (zv 0)))), fun ds S Q h => ?_⟩
    obtain ⟨o, q, dx, pr, ps, el, hist, rfl, H, h⟩ := h
    exact ⟨o, dx, _, _, rfl, H.sh, rfl, h⟩
def sp_m_changed (C : Addr) : ZC := fun ds S Q => ∃ h q dx pr ps el hist ps', ds = [.ref h, .d (ptsP ps')] ∧ House S C h q dx pr ps el hist ∧ Pts ps' ∧ Prs pr ∧ (∀ l, el = some l → LnSz l) ∧ hist.length < 100 ∧
  ∀ told S', Told ps' pr told → House S' C h q dx pr ps' told.getLast? (hist ++ [(ps, el)]) → Frame h q S S' → Q (.d (lnsP told)) S'
theorem sc_m_changed : FnScope ["self", "points", "lines"] ["self", "points"] (defScope s_m_changed) := ⟨rfl, rfl, rfl, by decide +kernel, rfl, by decide +kernel, by decide +kernel⟩
theorem C_m_changed (T : Txt fa fn P K mg base) (C_are_spread : Callee P w K mg base 1 "are_spread" 1 sp_are_spread) (C_road : Callee P w K mg base 42 "road" 3 sp_road) (C_start_of : Callee P w K mg base 38 "start_of" 2 sp_start_of) : CalleeM P w K mg base 43 (He.ga K "Kept") (He.ma K (He.ga K "Kept") "changed") 2 (sp_m_changed (He.ga K "Kept")) :=
  calleeM T 54 (d := d_m_changed) rfl rfl rfl rfl (fun _ _ _ _ _ _ us hl => match us, hl with | [_, _], _ => rfl) sc_m_changed (fun ds S Q h => by first | (obtain ⟨_, rfl, _⟩ := h; rfl) | (obtain ⟨_, _, rfl, _⟩ := h; rfl) | (obtain ⟨_, _, _, rfl, _⟩ := h; rfl) | (obtain ⟨_, _, _, _, rfl, _⟩ := h; rfl) | (obtain ⟨_, _, _, _, _, rfl, _⟩ := h; rfl) | (obtain ⟨_, _, _, _, _, _, rfl, _⟩ := h; rfl) | (obtain ⟨_, _, _, _, _, _, _, rfl, _⟩ := h; rfl) | (obtain ⟨_, _, _, _, _, _, _, _, rfl, _⟩ := h; rfl) | (obtain ⟨_, _, _, _, _, _, _, _, _, rfl, _⟩ := h; rfl) | (obtain ⟨_, _, _, _, _, _, _, _, _, _, rfl, _⟩ := h; rfl) | (obtain ⟨_, _, _, _, _, _, _, _, _, _, _, rfl, _⟩ := h; rfl) | (obtain ⟨_, _, _, _, _, _, _, _, _, _, _, _, rfl, _⟩ := h; rfl)) fun f cdv A outer s H hr => by
    have sc := sc_m_changed
    refine ⟨_, (zss_cons (zs_set (i := 2) sc.nd rfl (Or.inl rfl) (ze_lst za_nil)) (zss_cons (zs_if (zb_val (ze_c1 C_are_spread hr (za_cons (zv 1) za_nil))) (zss_one (zs_set (i := 2) sc.nd rfl (Or.inl rfl) (ze_c1 C_road hr (za_cons (zv 1) (za_cons (ze_fld (T.cls_ 138 rfl) (T.noat_ 149 rfl) (zv 0)) (za_cons (ze_c1 C_start_of hr (za_cons (zv 1) (za_cons (ze_fld (T.cls_ 138 rfl) (T.noat_ 151 rfl) (zv 0)) za_nil))) za_nil)))))) zss_nil) (zss_cons (zs_expr (ze_bm PySem.F.plainAttrs_list PySem.F.slot_list_append PySem.F.type_list_append zm_append (ze_fld (T.cls_ 138 rfl) (T.noat_ 152 rfl) (zv 0)) (za_cons (ze_tup (za_cons (ze_fld (T.cls_ 138 rfl) (T.noat_ 150 rfl) (zv 0)) (za_cons (ze_fld (T.cls_ 138 rfl) (T.noat_ 151 rfl) (zv 0)) za_nil))) za_nil))) (zss_cons (zs_fld (T.cls_ 138 rfl) (T.noat_ 150 rfl) (zv 0) (zv 1)) (zss_cons (zs_fld (T.cls_ 138 rfl) (T.noat_ 151 rfl) (zv 0) (ze_if (zb_cmp (zop_ne (Roomu hr 64)) (zv 2) (ze_lst za_nil) (by rfl)) (ze_ix zix (zv 2) (ze_neg ze_int)) ze_non)) (zss_one (zs_ret (ze_callTy zc_list (by rfl) (T.free_ 2 rfl) (by decide +kernel) (za_cons (zv 2) za_nil))))))))), fun ds S Q h => ?_⟩
    obtain ⟨o, q, dx, pr, ps, el, hist, ps', rfl, H, hp, hr2, hel, hl, h⟩ := h
    refine ⟨ps', rfl, hp.ne, hp.le, zboth (fun e => ?_) (fun e => ?_)⟩
    · have hs := (spreadB_iff ps').mp e
      refine ⟨o, dx, _, _, rfl, H.sh, rfl, o, dx, _, _, rfl, H.sh, rfl, ps', el, rfl, ⟨hp, hs⟩, hel, fun l hl2 => ⟨ps', pr, l, rfl, ⟨hp, hs⟩, hr2, hl2, fun r z hr3 => ?_⟩⟩
      refine ⟨o, dx, _, _, rfl, H.sh, rfl, ⟨q, _, rfl, H.sq⟩, o, dx, _, _, rfl, H.sh, rfl, o, dx, _, _, rfl, H.sh, rfl, q, _, _, rfl, rfl, H.sq, by rw [List.length_map]; omega, ?_⟩
      refine ⟨o, dx, _, rfl, (Sto.put_ne H.ne).trans H.sh, Nat.le_of_ble_eq_true rfl, _, eqo_lns (r ++ [z]) [], zyes (by rw [decide_eq_false (by simp)]; rfl) ?_⟩
      dsimp only [zAsgG, zDPut, zwipe, zNeg, List.map_cons, List.map_nil, ztAnd, ztOr, ztNot, ztB, zOp, zCall, zaCons, zaNil, zV, zC, zgName, zgTup, zgsN, zgCons, zgNil, zSeq, zAsg, zIfS, zRet, zDrop_, zNext, List.getElem?_cons_succ, List.getElem?_cons_zero, List.set_cons_succ, List.set_cons_zero]
      refine zIx_l pAt_last ?_
      refine ⟨o, dx, _, rfl, Sto.put_same, Nat.le_of_ble_eq_true rfl, h (r ++ [z]) _ (.inr ⟨hs, l, r, z, rfl, hr3, hl2⟩) ⟨?_, ?_, H.ne⟩ ?_⟩
      · rw [List.getLast?_concat]; exact Sto.put_same
      · rw [Sto.put_ne (Ne.symm H.ne), Sto.put_ne (Ne.symm H.ne), Sto.put_same, List.map_append]; rfl
      · intro a h1 h2
        rw [Sto.put_ne h1, Sto.put_ne h1, Sto.put_ne h2]
    · have hs : ¬ Spread ps' := fun z => by rw [(spreadB_iff ps').mpr z] at e; cases e
      refine ⟨o, dx, _, _, rfl, H.sh, rfl, ⟨q, _, rfl, H.sq⟩, o, dx, _, _, rfl, H.sh, rfl, o, dx, _, _, rfl, H.sh, rfl, q, _, _, rfl, rfl, H.sq, by rw [List.length_map]; omega, ?_⟩
      refine ⟨o, dx, _, rfl, (Sto.put_ne H.ne).trans H.sh, Nat.le_of_ble_eq_true rfl, _, eqo_lns [] [], zno rfl ?_⟩
      refine ⟨o, dx, _, rfl, Sto.put_same, Nat.le_of_ble_eq_true rfl, h [] _ (.inl ⟨hs, rfl⟩) ⟨?_, ?_, H.ne⟩ ?_⟩
      · exact Sto.put_same
      · rw [Sto.put_ne (Ne.symm H.ne), Sto.put_ne (Ne.symm H.ne), Sto.put_same, List.map_append]; rfl
      · intro a h1 h2
        rw [Sto.put_ne h1, Sto.put_ne h1, Sto.put_ne h2]
def sp_m_want_number (C : Addr) : ZC := fun ds S Q => ∃ h q dx pr ps el hist, ∃ k : Nat, ds = [.ref h, .d (.int k)] ∧ House S C h q dx pr ps el hist ∧ k < ps.length ∧ Q (.d .none) S
theorem sc_m_want_number : FnScope ["self", "k"] ["self", "k"] (defScope s_m_want_number) := ⟨rfl, rfl, rfl, by decide +kernel, rfl, by decide +kernel, by decide +kernel⟩
theorem C_m_want_number (T : Txt fa fn P K mg base) (C_is_whole : Callee P w K mg base 1 "is_whole" 1 sp_is_whole) : CalleeM P w K mg base 2 (He.ga K "Kept") (He.ma K (He.ga K "Kept") "want_number") 2 (sp_m_want_number (He.ga K "Kept")) :=
  calleeM T 55 (d := d_m_want_number) rfl rfl rfl rfl (fun _ _ _ _ _ _ us hl => match us, hl with | [_, _], _ => rfl) sc_m_want_number (fun ds S Q h => by first | (obtain ⟨_, rfl, _⟩ := h; rfl) | (obtain ⟨_, _, rfl, _⟩ := h; rfl) | (obtain ⟨_, _, _, rfl, _⟩ := h; rfl) | (obtain ⟨_, _, _, _, rfl, _⟩ := h; rfl) | (obtain ⟨_, _, _, _, _, rfl, _⟩ := h; rfl) | (obtain ⟨_, _, _, _, _, _, rfl, _⟩ := h; rfl) | (obtain ⟨_, _, _, _, _, _, _, rfl, _⟩ := h; rfl) | (obtain ⟨_, _, _, _, _, _, _, _, rfl, _⟩ := h; rfl) | (obtain ⟨_, _, _, _, _, _, _, _, _, rfl, _⟩ := h; rfl) | (obtain ⟨_, _, _, _, _, _, _, _, _, _, rfl, _⟩ := h; rfl) | (obtain ⟨_, _, _, _, _, _, _, _, _, _, _, rfl, _⟩ := h; rfl) | (obtain ⟨_, _, _, _, _, _, _, _, _, _, _, _, rfl, _⟩ := h; rfl)) fun f cdv A outer s H hr => by
    have sc := sc_m_want_number
    refine ⟨_, (zss_one (zs_if (PW.pt (zw_or (zb_not (zb_val (ze_c1 C_is_whole hr (za_cons (zv 1) za_nil)))) (zw_or (zb_cmp zop_lt (zv 1) ze_int (by rfl)) (zw_or1 (zb_cmp zop_ge (zv 1) (ze_callB zc_len (by rfl) (T.free_ 8 rfl) (by decide +kernel) (za_cons (ze_fld (T.cls_ 138 rfl) (T.noat_ 150 rfl) (zv 0)) za_nil)) (by rfl)))))) zss_never zss_nil)), fun ds S Q h => ?_⟩
    obtain ⟨o, q, dx, pr, ps, el, hist, k, rfl, H, hk, h⟩ := h
    exact ⟨k, rfl, zno rfl (zno (decide_eq_false (by omega)) ⟨o, dx, _, _, rfl, H.sh, rfl, zno (decide_eq_false (by rw [List.length_map]; omega)) h⟩)⟩
/-- what a deed does -/
def Done (C h q dx : Addr) (pr : Ln) (ps : List Pt) (el : Option Ln) (hist : List Deed) (ps' : List Pt) (S : Sto) (Q : D → Sto → Prop) : Prop := House S C h q dx pr ps el hist ∧ Pts ps' ∧ Prs pr ∧ (∀ l, el = some l → LnSz l) ∧ hist.length < 100 ∧
  ∀ told S', Told ps' pr told → House S' C h q dx pr ps' told.getLast? (hist ++ [(ps, el)]) → Frame h q S S' → Q (.d (lnsP told)) S'
def sp_m_put (C : Addr) : ZC := fun ds S Q => ∃ h q dx pr ps el hist, ∃ p : Pt, ds = [.ref h, fr p.x, fr p.y, fr p.w] ∧ ps.length < 12 ∧ Done C h q dx pr ps el hist (ps ++ [p]) S Q
theorem sc_m_put : FnScope ["self", "x", "y", "weight"] ["self", "x", "y", "weight"] (defScope s_m_put) := ⟨rfl, rfl, rfl, by decide +kernel, rfl, by decide +kernel, by decide +kernel⟩
theorem C_m_put (T : Txt fa fn P K mg base) (C_m_changed : CalleeM P w K mg base 43 (He.ga K "Kept") (He.ma K (He.ga K "Kept") "changed") 2 (sp_m_changed (He.ga K "Kept"))) (C_is_point : Callee P w K mg base 4 "is_point" 1 sp_is_point) : CalleeM P w K mg base 44 (He.ga K "Kept") (He.ma K (He.ga K "Kept") "put") 4 (sp_m_put (He.ga K "Kept")) :=
  calleeM T 56 (d := d_m_put) rfl rfl rfl rfl (fun _ _ _ _ _ _ us hl => match us, hl with | [_, _, _, _], _ => rfl) sc_m_put (fun ds S Q h => by first | (obtain ⟨_, rfl, _⟩ := h; rfl) | (obtain ⟨_, _, rfl, _⟩ := h; rfl) | (obtain ⟨_, _, _, rfl, _⟩ := h; rfl) | (obtain ⟨_, _, _, _, rfl, _⟩ := h; rfl) | (obtain ⟨_, _, _, _, _, rfl, _⟩ := h; rfl) | (obtain ⟨_, _, _, _, _, _, rfl, _⟩ := h; rfl) | (obtain ⟨_, _, _, _, _, _, _, rfl, _⟩ := h; rfl) | (obtain ⟨_, _, _, _, _, _, _, _, rfl, _⟩ := h; rfl) | (obtain ⟨_, _, _, _, _, _, _, _, _, rfl, _⟩ := h; rfl) | (obtain ⟨_, _, _, _, _, _, _, _, _, _, rfl, _⟩ := h; rfl) | (obtain ⟨_, _, _, _, _, _, _, _, _, _, _, rfl, _⟩ := h; rfl) | (obtain ⟨_, _, _, _, _, _, _, _, _, _, _, _, rfl, _⟩ := h; rfl)) fun f cdv A outer s H hr => by
    have sc := sc_m_put
    refine ⟨_, (zss_cons (zs_if (PW.pt (zw_or (zb_not (zb_val (ze_c1 C_is_point hr (za_cons (ze_tup (za_cons (zv 1) (za_cons (zv 2) (za_cons (zv 3) za_nil)))) za_nil)))) (zw_or1 (zb_cmp (zop_eq (Roomu hr 64)) (ze_callB zc_len (by rfl) (T.free_ 8 rfl) (by decide +kernel) (za_cons (ze_fld (T.cls_ 138 rfl) (T.noat_ 150 rfl) (zv 0)) za_nil)) (ze_gint_ (i := 12) (by rfl) (T.int_ 135 rfl)) (by rfl))))) zss_never zss_nil) (zss_one (zs_ret (ze_methC (T.cls_ 138 rfl) (T.meth_ 143 rfl) C_m_changed hr (zv 0) (za_cons (ze_op zop_cat (ze_fld (T.cls_ 138 rfl) (T.noat_ 150 rfl) (zv 0)) (ze_lst (za_cons (ze_tup (za_cons (zv 1) (za_cons (zv 2) (za_cons (zv 3) za_nil)))) za_nil))) za_nil))))), fun ds S Q h => ?_⟩
    obtain ⟨o, q, dx, pr, ps, el, hist, p, rfl, hn, H, hp, hr2, hel, hl, h⟩ := h
    have hok : 0 < p.w := hp.ok p (by simp)
    refine ⟨p, rfl, hp.sz p (by simp), zno (by rw [decide_eq_true hok]; rfl) ⟨o, dx, _, _, rfl, H.sh, rfl, _, eqo_int _ _, zno (decide_eq_false (by rw [List.length_map]; omega)) ?_⟩⟩
    refine ⟨o, dx, _, rfl, H.sh, rfl, o, dx, _, _, rfl, H.sh, rfl, Nat.ble_eq.mpr (by rw [List.length_map]; simp; omega), o, q, dx, pr, ps, el, hist, ps ++ [p], ?_, H, hp, hr2, hel, hl, h⟩
    show [D.ref o, D.d (.list (ps.map ptP ++ [ptP p]))] = [D.ref o, D.d (.list ((ps ++ [p]).map ptP))]
    rw [List.map_append]; rfl
def sp_m_take (C : Addr) : ZC := fun ds S Q => ∃ h q dx pr ps el hist, ∃ k : Nat, ds = [.ref h, .d (.int k)] ∧ k < ps.length ∧ ps.length ≤ 12 ∧ Done C h q dx pr ps el hist (ps.take k ++ ps.drop (k + 1)) S Q
theorem sc_m_take : FnScope ["self", "k"] ["self", "k"] (defScope s_m_take) := ⟨rfl, rfl, rfl, by decide +kernel, rfl, by decide +kernel, by decide +kernel⟩
theorem C_m_take (T : Txt fa fn P K mg base) (C_m_want_number : CalleeM P w K mg base 2 (He.ga K "Kept") (He.ma K (He.ga K "Kept") "want_number") 2 (sp_m_want_number (He.ga K "Kept"))) (C_m_changed : CalleeM P w K mg base 43 (He.ga K "Kept") (He.ma K (He.ga K "Kept") "changed") 2 (sp_m_changed (He.ga K "Kept"))) : CalleeM P w K mg base 44 (He.ga K "Kept") (He.ma K (He.ga K "Kept") "take") 2 (sp_m_take (He.ga K "Kept")) :=
  calleeM T 57 (d := d_m_take) rfl rfl rfl rfl (fun _ _ _ _ _ _ us hl => match us, hl with | [_, _], _ => rfl) sc_m_take (fun ds S Q h => by first | (obtain ⟨_, rfl, _⟩ := h; rfl) | (obtain ⟨_, _, rfl, _⟩ := h; rfl) | (obtain ⟨_, _, _, rfl, _⟩ := h; rfl) | (obtain ⟨_, _, _, _, rfl, _⟩ := h; rfl) | (obtain ⟨_, _, _, _, _, rfl, _⟩ := h; rfl) | (obtain ⟨_, _, _, _, _, _, rfl, _⟩ := h; rfl) | (obtain ⟨_, _, _, _, _, _, _, rfl, _⟩ := h; rfl) | (obtain ⟨_, _, _, _, _, _, _, _, rfl, _⟩ := h; rfl) | (obtain ⟨_, _, _, _, _, _, _, _, _, rfl, _⟩ := h; rfl) | (obtain ⟨_, _, _, _, _, _, _, _, _, _, rfl, _⟩ := h; rfl) | (obtain ⟨_, _, _, _, _, _, _, _, _, _, _, rfl, _⟩ := h; rfl) | (obtain ⟨_, _, _, _, _, _, _, _, _, _, _, _, rfl, _⟩ := h; rfl)) fun f cdv A outer s H hr => by
    have sc := sc_m_take
    refine ⟨_, (zss_cons (zs_expr (ze_methC (T.cls_ 138 rfl) (T.meth_ 144 rfl) C_m_want_number hr (zv 0) (za_cons (zv 1) za_nil))) (zss_one (zs_ret (ze_methC (T.cls_ 138 rfl) (T.meth_ 143 rfl) C_m_changed hr (zv 0) (za_cons (ze_op zop_cat (ze_take (ze_fld (T.cls_ 138 rfl) (T.noat_ 150 rfl) (zv 0)) (zv 1)) (ze_drop (ze_fld (T.cls_ 138 rfl) (T.noat_ 150 rfl) (zv 0)) (ze_op zop_add (zv 1) ze_int))) za_nil))))), fun ds S Q h => ?_⟩
    obtain ⟨o, q, dx, pr, ps, el, hist, k, rfl, hk, hn, H, hp, hr2, hel, hl, h⟩ := h
    refine ⟨o, dx, _, rfl, H.sh, rfl, o, q, dx, pr, ps, el, hist, k, rfl, H, hk, o, dx, _, rfl, H.sh, rfl, o, dx, _, _, rfl, H.sh, rfl, o, dx, _, _, rfl, H.sh, rfl, Nat.ble_eq.mpr (by rw [List.length_take, List.length_drop, List.length_map]; omega), o, q, dx, pr, ps, el, hist, _, ?_, H, hp, hr2, hel, hl, h⟩
    show [D.ref o, D.d (.list ((ps.map ptP).take k ++ (ps.map ptP).drop (k + 1)))] = [D.ref o, D.d (.list ((ps.take k ++ ps.drop (k + 1)).map ptP))]
    rw [List.map_append, List.map_take, List.map_drop]
def sp_m_move (C : Addr) : ZC := fun ds S Q => ∃ h q dx pr ps el hist, ∃ k : Nat, ∃ p : Pt, ds = [.ref h, .d (.int k), fr p.x, fr p.y, fr p.w] ∧ k < ps.length ∧ ps.length ≤ 12 ∧ Done C h q dx pr ps el hist (ps.take k ++ [p] ++ ps.drop (k + 1)) S Q
theorem sc_m_move : FnScope ["self", "k", "x", "y", "weight"] ["self", "k", "x", "y", "weight"] (defScope s_m_move) := ⟨rfl, rfl, rfl, by decide +kernel, rfl, by decide +kernel, by decide +kernel⟩
theorem C_m_move (T : Txt fa fn P K mg base) (C_m_want_number : CalleeM P w K mg base 2 (He.ga K "Kept") (He.ma K (He.ga K "Kept") "want_number") 2 (sp_m_want_number (He.ga K "Kept"))) (C_m_changed : CalleeM P w K mg base 43 (He.ga K "Kept") (He.ma K (He.ga K "Kept") "changed") 2 (sp_m_changed (He.ga K "Kept"))) (C_is_point : Callee P w K mg base 4 "is_point" 1 sp_is_point) : CalleeM P w K mg base 44 (He.ga K "Kept") (He.ma K (He.ga K "Kept") "move") 5 (sp_m_move (He.ga K "Kept")) :=
  calleeM T 58 (d := d_m_move) rfl rfl rfl rfl (fun _ _ _ _ _ _ us hl => match us, hl with | [_, _, _, _, _], _ => rfl) sc_m_move (fun ds S Q h => by first | (obtain ⟨_, rfl, _⟩ := h; rfl) | (obtain ⟨_, _, rfl, _⟩ := h; rfl) | (obtain ⟨_, _, _, rfl, _⟩ := h; rfl) | (obtain ⟨_, _, _, _, rfl, _⟩ := h; rfl) | (obtain ⟨_, _, _, _, _, rfl, _⟩ := h; rfl) | (obtain ⟨_, _, _, _, _, _, rfl, _⟩ := h; rfl) | (obtain ⟨_, _, _, _, _, _, _, rfl, _⟩ := h; rfl) | (obtain ⟨_, _, _, _, _, _, _, _, rfl, _⟩ := h; rfl) | (obtain ⟨_, _, _, _, _, _, _, _, _, rfl, _⟩ := h; rfl) | (obtain ⟨_, _, _, _, _, _, _, _, _, _, rfl, _⟩ := h; rfl) | (obtain ⟨_, _, _, _, _, _, _, _, _, _, _, rfl, _⟩ := h; rfl) | (obtain ⟨_, _, _, _, _, _, _, _, _, _, _, _, rfl, _⟩ := h; rfl)) fun f cdv A outer s H hr => by
    have sc := sc_m_move
    refine ⟨_, (zss_cons (zs_expr (ze_methC (T.cls_ 138 rfl) (T.meth_ 144 rfl) C_m_want_number hr (zv 0) (za_cons (zv 1) za_nil))) (zss_cons (zs_if (zb_not (zb_val (ze_c1 C_is_point hr (za_cons (ze_tup (za_cons (zv 2) (za_cons (zv 3) (za_cons (zv 4) za_nil)))) za_nil)))) zss_never zss_nil) (zss_one (zs_ret (ze_methC (T.cls_ 138 rfl) (T.meth_ 143 rfl) C_m_changed hr (zv 0) (za_cons (ze_op zop_cat (ze_op zop_cat (ze_take (ze_fld (T.cls_ 138 rfl) (T.noat_ 150 rfl) (zv 0)) (zv 1)) (ze_lst (za_cons (ze_tup (za_cons (zv 2) (za_cons (zv 3) (za_cons (zv 4) za_nil)))) za_nil))) (ze_drop (ze_fld (T.cls_ 138 rfl) (T.noat_ 150 rfl) (zv 0)) (ze_op zop_add (zv 1) ze_int))) za_nil)))))), fun ds S Q h => ?_⟩
    obtain ⟨o, q, dx, pr, ps, el, hist, k, p, rfl, hk, hn, H, hp, hr2, hel, hl, h⟩ := h
    have hok : 0 < p.w := hp.ok p (by simp)
    refine ⟨o, dx, _, rfl, H.sh, rfl, o, q, dx, pr, ps, el, hist, k, rfl, H, hk, p, rfl, hp.sz p (by simp), zno (by rw [decide_eq_true hok]; rfl) ?_⟩
    refine ⟨o, dx, _, rfl, H.sh, rfl, o, dx, _, _, rfl, H.sh, rfl, Nat.ble_eq.mpr (by rw [List.length_take, List.length_map]; simp; omega), o, dx, _, _, rfl, H.sh, rfl, Nat.ble_eq.mpr (by rw [List.length_append, List.length_take, List.length_drop, List.length_map]; simp; omega), o, q, dx, pr, ps, el, hist, _, ?_, H, hp, hr2, hel, hl, h⟩
    show [D.ref o, D.d (.list ((ps.map ptP).take k ++ [ptP p] ++ (ps.map ptP).drop (k + 1)))] = [D.ref o, D.d (.list ((ps.take k ++ [p] ++ ps.drop (k + 1)).map ptP))]
    rw [List.map_append, List.map_append, List.map_take, List.map_drop]; rfl
def sp_m_undo (C : Addr) : ZC := fun ds S Q => ∃ h q dx pr ps el hist ps0 el0, ds = [.ref h] ∧ House S C h q dx pr ps el (hist ++ [(ps0, el0)]) ∧ ∀ S', House S' C h q dx pr ps0 el0 hist → Frame h q S S' → Q (.d .none) S'
theorem sc_m_undo : FnScope ["self"] ["self"] (defScope s_m_undo) := ⟨rfl, rfl, rfl, by decide +kernel, rfl, by decide +kernel, by decide +kernel⟩
theorem C_m_undo (T : Txt fa fn P K mg base) : CalleeM P w K mg base 1 (He.ga K "Kept") (He.ma K (He.ga K "Kept") "undo") 1 (sp_m_undo (He.ga K "Kept")) :=
  calleeM T 59 (d := d_m_undo) rfl rfl rfl rfl (fun _ _ _ _ _ _ us hl => match us, hl with | [_], _ => rfl) sc_m_undo (fun ds S Q h => by first | (obtain ⟨_, rfl, _⟩ := h; rfl) | (obtain ⟨_, _, rfl, _⟩ := h; rfl) | (obtain ⟨_, _, _, rfl, _⟩ := h; rfl) | (obtain ⟨_, _, _, _, rfl, _⟩ := h; rfl) | (obtain ⟨_, _, _, _, _, rfl, _⟩ := h; rfl) | (obtain ⟨_, _, _, _, _, _, rfl, _⟩ := h; rfl) | (obtain ⟨_, _, _, _, _, _, _, rfl, _⟩ := h; rfl) | (obtain ⟨_, _, _, _, _, _, _, _, rfl, _⟩ := h; rfl) | (obtain ⟨_, _, _, _, _, _, _, _, _, rfl, _⟩ := h; rfl) | (obtain ⟨_, _, _, _, _, _, _, _, _, _, rfl, _⟩ := h; rfl) | (obtain ⟨_, _, _, _, _, _, _, _, _, _, _, rfl, _⟩ := h; rfl) | (obtain ⟨_, _, _, _, _, _, _, _, _, _, _, _, rfl, _⟩ := h; rfl)) fun f cdv A outer s H hr => by
    have sc := sc_m_undo
    refine ⟨_, (zss_cons (zs_if (zb_cmp (zop_eq (Roomu hr 64)) (ze_fld (T.cls_ 138 rfl) (T.noat_ 152 rfl) (zv 0)) (ze_lst za_nil) (by rfl)) zss_never zss_nil) (zss_one (zs_asg (ze_bm0 PySem.F.plainAttrs_list PySem.F.slot_list_pop PySem.F.type_list_pop zm_pop (ze_fld (T.cls_ 138 rfl) (T.noat_ 152 rfl) (zv 0))) (zg_tup (n := 2) rfl (zgs_cons (zg_fld (T.cls_ 138 rfl) (T.noat_ 150 rfl) (zv 0)) (zgs_cons (zg_fld (T.cls_ 138 rfl) (T.noat_ 151 rfl) (zv 0)) zgs_nil)))))), fun ds S Q h => ?_⟩
    obtain ⟨o, q, dx, pr, ps, el, hist, ps0, el0, rfl, H, h⟩ := h
    have hq := H.sq
    refine ⟨o, dx, _, _, rfl, H.sh, rfl, ?_⟩
    dsimp only [zAsgG, zDPut, zwipe, zNeg, List.map_cons, List.map_nil, ztAnd, ztOr, ztNot, ztB, zOp, zCall, zaCons, zaNil, zV, zC, zgName, zgTup, zgsN, zgCons, zgNil, zSeq, zAsg, zIfS, zRet, zDrop_, zNext, List.getElem?_cons_succ, List.getElem?_cons_zero, List.set_cons_succ, List.set_cons_zero]
    dsimp only [zLst_nil]
    refine zEq_ref hq (eqo_deeds _ _) ?_
    refine zno rfl ?_
    rw [List.map_append] at hq
    refine ⟨o, dx, _, _, rfl, H.sh, rfl, ⟨q, _, rfl, hq⟩, q, _, deedP (ps0, el0), rfl, rfl, hq, rfl, ?_⟩
    refine ⟨o, dx, _, rfl, (Sto.put_ne H.ne).trans H.sh, Nat.le_of_ble_eq_true rfl, o, dx, _, rfl, Sto.put_same, Nat.le_of_ble_eq_true rfl, h _ ⟨Sto.put_same, ?_, H.ne⟩ fun a h1 h2 => ?_⟩
    · rw [Sto.put_ne (Ne.symm H.ne), Sto.put_ne (Ne.symm H.ne), Sto.put_same]
    · rw [Sto.put_ne h1, Sto.put_ne h1, Sto.put_ne h2]
end
end Sl
set_option Elab.async false
set_option linter.all false
set_option maxRecDepth 100000
set_option maxHeartbeats 1000000
namespace Z
open PySem PySem.Spec PyProof.Rows L2
/-! ### zip of three lists of one length -/
def Itq (K : PySem.W.Frag) (a b c : Addr) : It :=
  ⟨fun i H => ∃ (us vs ws : List V) (p q r : V), (SqL K H a us ∧ SqL K H b vs ∧ SqL K H c ws) ∧ us[i]? = some p ∧ vs[i]? = some q ∧ ws[i]? = some r,
    fun i H v H' => ∃ T p q r, v = .ref T ∧ H T = none ∧ H' = upd H T (.tup [p, q, r]) ∧ (∀ us, SqL K H a us → us[i]? = some p) ∧ (∀ vs, SqL K H b vs → vs[i]? = some q) ∧ ∀ ws, SqL K H c ws → ws[i]? = some r,
    fun i H => ∃ us vs ws : List V, (SqL K H a us ∧ SqL K H b vs ∧ SqL K H c ws) ∧ us.length = i ∧ vs.length = i ∧ ws.length = i⟩
def six (n : Nat) : List Addr := [n + 5, n + 3, n + 4, n, n + 1, n + 2]
theorem six_mem {n b : Nat} (h : b ∈ six n) : b = n + 5 ∨ b = n + 3 ∨ b = n + 4 ∨ b = n ∨ b = n + 1 ∨ b = n + 2 := by simpa [six] using h
theorem six_le {n b : Nat} (h : b ∈ six n) : b ≤ n + 5 := by rcases six_mem h with q | q | q | q | q | q <;> omega
theorem six_ge {n b : Nat} (h : b ∈ six n) : n ≤ b := by rcases six_mem h with q | q | q | q | q | q <;> omega
def Tn3 (n a b c : Nat) (i : Nat) (h : Heap) : Prop := IsZip h (n + 5) (n + 3) (n + 4) .none ∧ IsTupOf3 h (n + 3) (.ref n) (.ref (n + 1)) (.ref (n + 2)) ∧ (∃ x y z, IsTupOf3 h (n + 4) x y z) ∧ h.IsListIter n a i ∧ h.IsListIter (n + 1) b i ∧ h.IsListIter (n + 2) c i
theorem sep3 {n a b c : Nat} (ha : a < n) (hb : b < n) (hc : c < n) : ZipSep3 (n + 5) (n + 3) (n + 4) n (n + 1) (n + 2) [n, a] [n + 1, b] [n + 2, c] := by
  have f : ∀ {m k : Nat}, (m < k ∨ k < m) → m ≠ k := fun h e => by omega
  have g : ∀ {m k l : Nat}, m ≠ k → m ≠ l → m ∉ ([k, l] : List Nat) := fun h1 h2 h => by simp at h; omega
  exact ⟨f (by omega), f (by omega), f (by omega), f (by omega), by simp, g (f (by omega)) (f (by omega)), g (f (by omega)) (f (by omega)), f (by omega), by simp, g (f (by omega)) (f (by omega)), g (f (by omega)) (f (by omega)), f (by omega), by simp, g (f (by omega)) (f (by omega)), g (f (by omega)) (f (by omega)), g (f (by omega)) (f (by omega)), g (f (by omega)) (f (by omega)), g (f (by omega)) (f (by omega)), g (f (by omega)) (f (by omega)), g (f (by omega)) (f (by omega)), g (f (by omega)) (f (by omega))⟩
theorem turn_three {P : Program} {w : World} {K : PySem.W.Frag} {elts : List Expr} {kk : Nat} {tpos : Pos} {n a b c : Nat} (ha : a < n) (hb : b < n) (hc : c < n) :
    Turn P w K (.Tuple elts kk tpos) (Itq K a b c) (six n) (n + 5) (Tn3 n a b c) where
  mem := by simp [six]
  obj := fun i h st d hd => by
    obtain ⟨hz, hTI, ⟨x, y, z, hTO⟩, ⟨o1, e1, _, d1⟩, ⟨o2, e2, _, d2⟩, ⟨o3, e3, _, d3⟩⟩ := st
    rcases six_mem hd with q | q | q | q | q | q <;> subst q
    · exact ⟨_, hz, fun v q => nomatch q⟩
    · exact ⟨_, hTI, fun v q => nomatch q⟩
    · exact ⟨_, hTO, fun v q => nomatch q⟩
    · exact ⟨o1, e1, fun v q => by rw [d1] at q; cases q⟩
    · exact ⟨o2, e2, fun v q => by rw [d2] at q; cases q⟩
    · exact ⟨o3, e3, fun v q => by rw [d3] at q; cases q⟩
  keep := fun i h h' st k => by
    obtain ⟨hz, hTI, ⟨x, y, z, hTO⟩, h1, h2, h3⟩ := st
    exact ⟨k _ (by simp [six]) _ hz, k _ (by simp [six]) _ hTI, ⟨x, y, z, k _ (by simp [six]) _ hTO⟩, h1.at fun o q => k _ (by simp [six]) o q, h2.at fun o q => k _ (by simp [six]) o q, h3.at fun o q => k _ (by simp [six]) o q⟩
  item := by
    intro X hP hw hK hcalm i pins s σ H E I hf st hg
    subst hP hw hK
    obtain ⟨hz, hTI, ⟨x0, y0, z0, hTO⟩, h1, h2, h3⟩ := st
    obtain ⟨us, vs, ws, p, q, r, ⟨hu, hv, hw⟩, eu, ev, ew⟩ := hg
    obtain ⟨l1, r1, p1, _⟩ := I.list hu
    obtain ⟨l2, r2, p2, _⟩ := I.list hv
    obtain ⟨l3, r3, p3, _⟩ := I.list hw
    obtain ⟨u1, f1, k1⟩ := r1.get eu
    obtain ⟨u2, f2, k2⟩ := r2.get ev
    obtain ⟨u3, f3, k3⟩ := r3.get ew
    have far : ∀ j k : Nat, j ≠ k → (n + j : Nat) ≠ n + k := fun j k h e => by omega
    have hzl : n + 5 < s.heap.objs.size := Heap.lt_size hz
    have hh := I.ok.hd hcalm
    have hA : X.A.in1.handled = none := hh
    have m1 : a ≠ n := by omega
    have m2 : b ≠ n + 1 := by omega
    have m3 : c ≠ n + 2 := by omega
    have D1 := Draws.list (prog := X.prog) (w := X.w) hA n a m1 l1.toArray
    have D2 := Draws.list (prog := X.prog) (w := X.w) hA (n + 1) b m2 l2.toArray
    have D3 := Draws.list (prog := X.prog) (w := X.w) hA (n + 2) c m3 l3.toArray
    have lt1 : i < l1.toArray.size := by rw [List.size_toArray]; exact (List.getElem?_eq_some_iff.mp f1).1
    have lt2 : i < l2.toArray.size := by rw [List.size_toArray]; exact (List.getElem?_eq_some_iff.mp f2).1
    have lt3 : i < l3.toArray.size := by rw [List.size_toArray]; exact (List.getElem?_eq_some_iff.mp f3).1
    refine wpAny_pyNext_zipD3_item (sep3 ha hb hc) D1 D2 D3 hz hTI hTO ⟨h1, p1.isList⟩ ⟨h2, p2.isList⟩ ⟨h3, p3.isList⟩ lt1 lt2 lt3
      fun x1 x2 x3 h' tk y1 y2 y3 z' TO' g1 g2 g3 hT hsz hk => ?_
    have e1 : x1 = u1 := by simpa [f1] using y1.symm
    have e2 : x2 = u2 := by simpa [f2] using y2.symm
    have e3 : x3 = u3 := by simpa [f3] using y3.symm
    subst e1 e2 e3
    refine ⟨_, rfl, wpAny_letOwnedTupleGo_zip (s := { s with heap := h', toks := tk }) z' fun h'' z'' sb => ?_⟩
    have hT2 : h''.get? s.heap.objs.size = some { cls := .type "tuple", data := .seq #[x1, x2, x3] } := (sb.2 _ (Nat.ne_of_gt hzl)).trans hT
    have fresh : ObjOk X.prog X.w (upd H s.heap.objs.size (.tup [p, q, r])) h'' s.heap.objs.size (.tup [p, q, r]) :=
      ⟨by show 3 ≤ sizeLine; decide, [x1, x2, x3], .cons k1 (.cons k2 (.cons k3 .nil)), ⟨_, hT2, rfl, _, rfl⟩⟩
    have I1 : Inv X pins σ (upd H s.heap.objs.size (.tup [p, q, r])) { s with heap := h'', toks := tk } := by
      refine I.turnedNew (t' := tk) (ch := six n) (fun d o hb q => ?_) hf (Nat.le_refl _) fresh
      have ne : ∀ m, m ∈ six n → d ≠ m := fun m hm e => hb (by rw [e]; exact hm)
      exact (sb.2 d (ne _ (by simp [six]))).trans (hk d o (ne _ (by simp [six])) (ne _ (by simp [six])) (ne _ (by simp [six])) (ne _ (by simp [six])) (ne _ (by simp [six])) q)
    refine ⟨.ref s.heap.objs.size, _, I1, rfl, ⟨_, p, q, r, rfl, I.hok.fresh (Nat.le_refl _), rfl, fun l hl => by rw [I.list_inj hl hu]; exact eu, fun l hl => by rw [I.list_inj hl hv]; exact ev, fun l hl => by rw [I.list_inj hl hw]; exact ew⟩, ⟨z'', ?_, ⟨x1, x2, x3, ?_⟩, ?_, ?_, ?_⟩, fun d hd => ?_⟩
    · exact (sb.2 (n + 3) (far 3 5 (by decide))).trans (hk (n + 3) _ (far 3 5 (by decide)) (far 3 4 (by decide)) (far 3 0 (by decide)) (far 3 1 (by decide)) (far 3 2 (by decide)) hTI)
    · exact (sb.2 (n + 4) (far 4 5 (by decide))).trans TO'
    · exact g1.1.at fun o q => (sb.2 n (far 0 5 (by decide))).trans q
    · exact g2.1.at fun o q => (sb.2 (n + 1) (far 1 5 (by decide))).trans q
    · exact g3.1.at fun o q => (sb.2 (n + 2) (far 2 5 (by decide))).trans q
    · have hlt : d < s.heap.objs.size := Nat.lt_of_le_of_lt (six_le hd) hzl
      rw [upd_ne (Nat.ne_of_lt hlt)]
      exact (hf d hd).1
  done := by
    intro X hP hw hK hcalm i pins s σ H E I hf st hg
    subst hP hw hK
    obtain ⟨hz, hTI, ⟨x0, y0, z0, hTO⟩, h1, h2, h3⟩ := st
    obtain ⟨us, vs, ws, ⟨hu, hv, hw⟩, eu, ev, ew⟩ := hg
    obtain ⟨l1, r1, p1, _⟩ := I.list hu
    obtain ⟨l2, r2, p2, _⟩ := I.list hv
    obtain ⟨l3, r3, p3, _⟩ := I.list hw
    have s1 := r1.length
    have s2 := r2.length
    have s3 := r3.length
    have hh := I.ok.hd hcalm
    have hA : X.A.in1.handled = none := hh
    have m1 : a ≠ n := by omega
    have m2 : b ≠ n + 1 := by omega
    have m3 : c ≠ n + 2 := by omega
    have D1 := Draws.list (prog := X.prog) (w := X.w) hA n a m1 l1.toArray
    have D2 := Draws.list (prog := X.prog) (w := X.w) hA (n + 1) b m2 l2.toArray
    have D3 := Draws.list (prog := X.prog) (w := X.w) hA (n + 2) c m3 l3.toArray
    refine wpAny_pyNext_zipD3_end (sep3 ha hb hc) D1 D2 D3 hz hTI hTO ⟨h1, p1.isList⟩ ⟨h2, p2.isList⟩ ⟨h3, p3.isList⟩
      (by rw [List.size_toArray]; omega) (by rw [List.size_toArray]; omega) (by rw [List.size_toArray]; omega) (.inl (by rw [List.size_toArray]; omega)) fun h' tk hk => ⟨rfl, ?_⟩
    refine I.turnedL (t' := tk) (ch := six n) (fun d o hb q => ?_) hf
    have ne : ∀ m, m ∈ six n → d ≠ m := fun m hm e => hb (by rw [e]; exact hm)
    exact hk d o (ne _ (by simp [six])) (ne _ (by simp [six])) (ne _ (by simp [six])) (ne _ (by simp [six])) (ne _ (by simp [six])) q
  self := fun A i s Q E st h => wpAny_pyIter_zip st.1 h
def iZip3 (K : PySem.W.Frag) (ta : TA) : TI := fun σ H R => ta σ H fun vs H1 => ∃ a b c us ws zs, vs = [.ref a, .ref b, .ref c] ∧ SqL K H1 a us ∧ SqL K H1 b ws ∧ SqL K H1 c zs ∧ R (Itq K a b c) H1
theorem pi_zip3 {X : Cx} {e e2 e3 : Expr} {ta : TA} {p pos tpos : Pos} {elts : List Expr} {kk : Nat} (hg : Gl X "zip") (hm : X.mg "zip" = none) (ha : PA X [e, e2, e3] ta)
    (hs : starEach [e, e2, e3] X.env = (false, eval e X.env) :: starEach [e2, e3] X.env := by rfl) (hpl : (backTo pos (starEach [e2, e3] X.env)).any (·.1) = false := by rfl) :
    PI X (.Tuple elts kk tpos) (.Call (.Name "zip" p) [e, e2, e3] [] pos) (iZip3 X.K ta) := by
  refine ⟨fun pins s σ H R I h => ?_⟩
  refine Call_ (ld_blt I hg hm PyProof.Rows.boot_zip (PyProof.Rows.callWith_type1 (thn (ha.run pos pins s σ H _ I h) fun us s1 ⟨vs, H1, I1, r1, q1⟩ => ?_) hs hpl))
  obtain ⟨a, b, c, xs, ys, zs, ex, hqx, hqy, hqz, q⟩ := q1
  subst ex
  cases r1 with
  | cons ra t1 => cases t1 with
    | cons rb t2 => cases t2 with
      | cons rc t3 =>
        cases t3
        cases ra
        cases rb
        cases rc
        obtain ⟨l1, _, p1, _⟩ := I1.list hqx
        obtain ⟨l2, _, p2, _⟩ := I1.list hqy
        obtain ⟨l3, _, p3, _⟩ := I1.list hqz
        refine zip_begins3 (begins_list a l1.toArray) (begins_list b l2.toArray) (begins_list c l3.toArray) p1.isList p2.isList p3.isList fun h' hz hTI hTO g1 g2 g3 hsz hk => wpAny_pyIter_zip hz ?_
        have I2 : Inv X pins σ H1 { s1 with heap := h' } := I1.kept (t' := s1.toks) hk
        refine ⟨s1.heap.objs.size + 5, six s1.heap.objs.size, _, _, H1, rfl, I2, turn_three p1.lt p2.lt p3.lt, ⟨hz, hTI, ⟨_, _, _, hTO⟩, ⟨_, g1, rfl, rfl⟩, ⟨_, g2, rfl, rfl⟩, ⟨_, g3, rfl, rfl⟩⟩, fun d hd => ?_, q⟩
        have hle : s1.heap.objs.size ≤ d := six_ge hd
        exact I1.fpOk hle (I1.hok.fresh hle)
def ziZip3 (za : ZTA) : ZI := fun ρ S Q => za ρ S fun ds S1 => match ds with
  | [.d (.list xs), .d (.list ys), .d (.list zs)] => (Nat.beq xs.length ys.length = true ∧ Nat.beq ys.length zs.length = true) ∧ Q ((xs.zip (ys.zip zs)).map fun p => .tuple [p.1, p.2.1, p.2.2]) S1
  | _ => False
theorem three_of {K : PySem.W.Frag} {G : Hp} {x y z : D} {vs : List V} (r : DRepAll K G [x, y, z] vs) : ∃ v u t, vs = [v, u, t] ∧ DRep K G x v ∧ DRep K G y u ∧ DRep K G z t := by
  cases r with
  | cons a t => cases t with
    | cons b t => cases t with
      | cons c t => cases t; exact ⟨_, _, _, rfl, a, b, c⟩
theorem zi_zip3 {X : Cx} {e e2 e3 : Expr} {w : ZTA} {pos p tpos : Pos} {elts : List Expr} {kk : Nat} (hg : Gl X "zip") (hm : X.mg "zip" = none) (ha : ZA X [e, e2, e3] w)
    (hs : starEach [e, e2, e3] X.env = (false, eval e X.env) :: starEach [e2, e3] X.env := by rfl) (hpl : (backTo pos (starEach [e2, e3] X.env)).any (·.1) = false := by rfl) :
    PI X (.Tuple elts kk tpos) (.Call (.Name "zip" p) [e, e2, e3] [] pos) (li X.K (ziZip3 w)) := PI.weak (pi_zip3 hg hm ha hs hpl) fun σ H R ⟨G, S, ρ, Rz, rp, er, z, k⟩ =>
  ⟨G, S, ρ, _, rp, er, z, fun ds S1 vs G1 H1 z1 s1 r1 => by
    split at z1
    · rename_i xs ys zs
      obtain ⟨⟨n1, n2⟩, z1⟩ := z1
      have n1 := Nat.eq_of_beq_eq_true n1
      have n2 := Nat.eq_of_beq_eq_true n2
      obtain ⟨v, u, t, rfl, rv, ru, rt⟩ := three_of r1
      obtain ⟨a, us, rfl, h1, h2⟩ := ZpAll.list rv
      obtain ⟨b, ws, rfl, h3, h4⟩ := ZpAll.list ru
      obtain ⟨c, ts, rfl, h5, h6⟩ := ZpAll.list rt
      have m1 := ZpAll.length h2
      have m2 := ZpAll.length h4
      have m3 := ZpAll.length h6
      have hd : ((xs.zip (ys.zip zs)).map fun p => PyData.tuple [p.1, p.2.1, p.2.2]).length = us.length := by
        rw [List.length_map, List.length_zip, List.length_zip]; omega
      refine ⟨a, b, c, us, ws, ts, rfl, .inl (.inl (s1.rp.gh _ _ h1)), .inl (.inl (s1.rp.gh _ _ h3)), .inl (.inl (s1.rp.gh _ _ h5)), k _ S1 G1 H1 _ z1 s1 ?_⟩
      refine ⟨fun i H hi q => ?_, fun H q => ⟨us, ws, ts, ⟨.inl (.inl (q.1 _ _ h1)), .inl (.inl (q.1 _ _ h3)), .inl (.inl (q.1 _ _ h5))⟩, by omega, by omega, by omega⟩, fun i H x H' hi q y => ?_⟩
      · rw [hd] at hi
        exact ⟨us, ws, ts, us[i], ws[i], ts[i], ⟨.inl (.inl (q.1 _ _ h1)), .inl (.inl (q.1 _ _ h3)), .inl (.inl (q.1 _ _ h5))⟩, List.getElem?_eq_getElem hi, List.getElem?_eq_getElem (by omega), List.getElem?_eq_getElem (by omega)⟩
      · obtain ⟨T, p, q1, r, e1, e2, e3, f1, f2, f3⟩ := y
        rw [hd] at hi
        intro d ed
        have g1 := f1 us (.inl (.inl (q.1 _ _ h1)))
        have g2 := f2 ws (.inl (.inl (q.1 _ _ h3)))
        have g3 := f3 ts (.inl (.inl (q.1 _ _ h5)))
        have i1 : i < xs.length := by omega
        have i2 : i < ys.length := by omega
        have i3 : i < zs.length := by omega
        obtain ⟨v1, j1, k1⟩ := ZpAll.get h2 (List.getElem?_eq_getElem i1)
        obtain ⟨v2, j2, k2⟩ := ZpAll.get h4 (List.getElem?_eq_getElem i2)
        obtain ⟨v3, j3, k3⟩ := ZpAll.get h6 (List.getElem?_eq_getElem i3)
        rw [g1] at j1; rw [g2] at j2; rw [g3] at j3
        cases j1; cases j2; cases j3
        have ez : ((xs.zip (ys.zip zs)).map fun p => PyData.tuple [p.1, p.2.1, p.2.2])[i]? = some (.tuple [xs[i], ys[i], zs[i]]) := by
          rw [List.getElem?_map, List.getElem?_eq_getElem (by rw [List.length_zip, List.length_zip]; omega)]
          simp
        rw [ez] at ed
        cases ed
        exact .inr ⟨T, _, _, e1, e2, e3, rfl, .cons k1 (.cons k2 (.cons k3 .nil))⟩
    · exact z1.elim⟩
end Z
set_option Elab.async false
set_option linter.all false
set_option maxRecDepth 100000
set_option maxHeartbeats 1000000
namespace Z
open PySem PySem.Spec PyProof.Rows L2
/-! ### t[::-1], t of two items -/
section
variable {prog : Program} {w : World} {A : Around} {E : Value → Shared → Prop} {s : Shared}
theorem back_two {sl : Addr} {vs : Value} {Q : Int × Int × Nat → Shared → Prop} (hs : s.heap.IsSliceOf sl .none .none vs) (ps : IsPart vs (some (-1))) (h : Q (1, -1, 2) s) :
    wpAny (model prog w) A (Builtin.Slice.sliceApplied (.ref sl) (pure (2 : Int))) Q E s := by
  obtain ⟨os, e1, _, e3⟩ := id hs
  unfold Builtin.Slice.sliceApplied Builtin.Slice.sliceFields
  refine wpAny_bind (wpAny_bind (wpAny_field e1 e3 (x := .none) rfl (wpAny_bind (wpAny_field e1 e3 (x := .none) rfl (wpAny_bind (wpAny_field e1 e3 (x := vs) rfl (wpAny_pure ?_)))))))
  refine wpAny_bind (HT.slicePart_ ps ?_)
  show wpAny _ _ (if ((-1 : Int) == 0) = true then _ else _) _ _ s
  rw [if_neg (by decide)]
  refine wpAny_bind (slicePart_none (wpAny_bind (slicePart_none (wpAny_bind (wpAny_pure ?_)))))
  exact wpAny_pure h
theorem item_back {t sl : Addr} {u v vs : Value} {Q : Value → Shared → Prop} (ht : IsTup s.heap t #[u, v]) (hs : s.heap.IsSliceOf sl .none .none vs) (ps : IsPart vs (some (-1)))
    (h : Q (.ref s.heap.objs.size) { s with heap := s.heap.push { cls := .type "tuple", data := .seq #[v, u] } }) : wpAny (model prog w) A (getItem (.ref t) (.ref sl)) Q E s := by
  have fits : sizeOk (.seq #[v, u]) := by show 2 ≤ sizeLine; decide
  obtain ⟨os, e1, e2, _⟩ := id hs
  have hT : s.TypeIs (.ref sl) "slice" := ⟨os, e1, e2⟩
  unfold getItem
  try with_reducible refine wpAny_holding ?_
  first | refine wpAny_bind (wpAny_pure ?_) | skip
  refine wpAny_bind (wpAny_sequenceKey ht.typeIs (by decide) ?_)
  refine wpAny_bind (wpAny_callSpecial?_slot (name := Str.ofString "__getitem__") ht.typeIs PyProof.Rows.slot_tuple_getitem (wpAny_call_entry PyProof.Rows.slot_tuple_getitem ht.typeIs entry_tuple_getitem ?_ (args_tuple_getitem _ _)))
  show wpAny _ _ (Builtin.Tuple.tupleItemsOf (.ref t) >>= _) _ _ s
  refine wpAny_bind (tupleItemsOf_ ht ?_)
  refine wpAny_bind (wpAny_typeOf hT ?_)
  rw [if_pos (by decide)]
  refine wpAny_bind (back_two hs ps ?_)
  first
    | exact wpAny_bind (m := Builtin.Tuple.tupleExact _) (wpAny_newObj_type (wpAny_pure ⟨_, rfl, wpAny_pure h⟩) fits)
    | exact wpAny_bind (m := Builtin.Tuple.tupleExact _) (wpAny_newObj_type (wpAny_bind (wpAny_pure (wpAny_pure ⟨_, rfl, wpAny_pure h⟩))) fits)
    | exact wpAny_bind (wpAny_bind (m := Builtin.Tuple.tupleExact _) (wpAny_newObj_type (wpAny_pure (wpAny_pure ⟨_, rfl, wpAny_pure h⟩)) fits))
    | exact wpAny_bind (wpAny_bind (m := Builtin.Tuple.tupleExact _) (wpAny_newObj_type (wpAny_pure ⟨_, rfl, wpAny_pure h⟩) fits))
end
def tRevT (K : PySem.W.Frag) (te : TE) : TE := fun σ H Q => te σ H fun x H1 => ∃ a u v, x = .ref a ∧ SqT K H1 a [u, v] ∧ ∀ p, H1 p = none → Q (.ref p) (upd H1 p (.tup [v, u]))
theorem pe_revT {X : Cx} {e : Expr} {te : TE} {k : Nat} {p1 p2 p3 pos : Pos} (he : PE X e te) : PE X (.Subscript e (.Slice none none (some (.UnaryOp .USub (.Constant (.int 1) k p1) p2)) p3) pos) (tRevT X.K te) := by
  refine ⟨fun pins s σ H Q I h => Subscript_ (thn (he.run pins s σ H _ I h) fun o s1 ⟨x, H1, I1, rx, a, i1, i2, ex, hx, q⟩ => ?_)⟩
  subst ex
  cases rx
  have step : PO X (some (.UnaryOp .USub (.Constant (.int 1) k p1) p2)) (tPart (tUn (rU fun i => .int (-i)) (tC (.int 1)))) := po_some (pe_un un_neg pe_int)
  refine wpAny_Slice (thn (po_none.run pins s1 σ H1 (fun o H2 => o = none ∧ H2 = H1) I1 ⟨rfl, rfl⟩) fun vl s2 ⟨l, H2, I2, pl, el, e2⟩ => ?_)
  subst el e2
  refine thn (po_none.run pins s2 σ H2 (fun o H3 => o = none ∧ H3 = H2) I2 ⟨rfl, rfl⟩) fun vu s3 ⟨u, H3, I3, pu, eu, e3⟩ => ?_
  subst eu e3
  refine thn (step.run pins s3 σ H3 (fun o H4 => o = some (-1) ∧ H4 = H3) I3 ⟨1, rfl, -1, rfl, rfl, rfl⟩) fun vs s4 ⟨o, H4, I4, ps, eo, e4⟩ => ?_
  subst eo e4
  cases pl
  cases pu
  have I5 : Inv X pins σ H4 { s4 with heap := s4.heap.push { cls := .type "slice", data := .fields #[.none, .none, vs] } } := I4.kept (t' := s4.toks) fun b ob q => Heap.get?_push_of_some _ q
  obtain ⟨its, r, ht, hz⟩ := I5.tuple hx
  cases r with
  | cons r1 t1 => cases t1 with
    | cons r2 t2 =>
      cases t2
      show wpAny (model X.prog X.w) X.A (subscriptTail e (.Slice none none (some (.UnaryOp .USub (.Constant (.int 1) k p1) p2)) p3) (.ref a) (.ref s4.heap.objs.size)) (EP X pins σ Q) X.xe { s4 with heap := s4.heap.push { cls := .type "slice", data := .fields #[.none, .none, vs] } }
      refine tail_any (ops := [.ref a, .ref s4.heap.objs.size]) ht.typeIs (PyProof.Rows.slot_tuple_getitem.lookup) ?_ (by with_unfolding_all rfl)
      refine item_back ht (Heap.IsSliceOf.new _ .none .none vs) ps ?_
      refine ⟨.ref _, _, I5.laid (t' := s4.toks) (o := .tup [i2, i1]) (fun b ob q => Heap.get?_push_of_some _ q) (Nat.le_refl _) ?_, rfl, q _ (I5.hok.fresh (Nat.le_refl _))⟩
      exact ⟨by show 2 ≤ sizeLine; decide, _, .cons r2 (.cons r1 .nil), IsTup.new _ _⟩
def zRevT (z : ZT) : ZT := fun ρ S Q => z ρ S fun x S1 => match x with
  | .d (.tuple [a, b]) => Q (.d (.tuple [b, a])) S1
  | _ => False
theorem ze_revT {X : Cx} {e : Expr} {z : ZT} {k : Nat} {p1 p2 p3 pos : Pos} (he : ZE X e z) : ZE X (.Subscript e (.Slice none none (some (.UnaryOp .USub (.Constant (.int 1) k p1) p2)) p3) pos) (zRevT z) :=
  PE.weak (pe_revT he) fun σ H Q ⟨G, S, ρ, R, rp, er, z, kk⟩ => ⟨G, S, ρ, _, rp, er, z, fun x S1 v G1 H1 z1 s1 r1 => by
    split at z1
    · obtain ⟨a, vs, rfl, h1, h2⟩ := ZpAll.tuple r1
      cases h2 with
      | @cons i1 _ _ _ a1 t1 => cases t1 with
        | @cons i2 _ _ _ a2 t2 =>
          cases t2
          refine ⟨a, _, _, rfl, Evl.ex_t s1.rp.gh h1, fun p hp => ?_⟩
          have s2 := Stp.new s1.rp (o := .tup [i2, i1]) hp
          exact kk _ S1 _ _ _ z1 (s1.trans s2) (.tup (.inl (.inl upd_same)) (.cons (Zp.mono s2.gg _ _ a2) (.cons (Zp.mono s2.gg _ _ a1) .nil)))
    · exact z1.elim⟩
end Z
set_option Elab.async false
set_option linter.all false
set_option maxRecDepth 100000
set_option maxHeartbeats 4000000
namespace Sl
open PySem PySem.Spec PyProof.Rows L2 Z
open Sg (Pt Ln PsOk PrOk Spread stand rise loS hiS offS)
def SgSz (q : Rat) : Prop := Sz 2000000 q
def momL (ps : List Pt) (s : List Rat) : Rat := ((ps.zip s).map fun q => q.2 * q.1.x).sum
/-- the sign that a rise asks for -/
def offO (pr : Ln) (w r : Rat) : Option Rat := if 0 < r then some (hiS pr w) else if r < 0 then some (loS pr w) else none
def oP : Option Rat → PyData
  | none => .none
  | some q => frP q
/-- signs that fit -/
structure FitL (ps : List Pt) (pr l : Ln) (s : List Rat) : Prop where
  len : s.length = ps.length
  sz : ∀ q ∈ s, SgSz q
  inn : ∀ q ∈ ps.zip s, loS pr q.1.w ≤ q.2 ∧ q.2 ≤ hiS pr q.1.w
  sum : s.sum = 0
  mom : momL ps s = 0
  off : ∀ q ∈ ps.zip s, offO pr q.1.w (rise q.1 l) = none ∨ offO pr q.1.w (rise q.1 l) = some q.2
theorem lo_sz {pr : Ln} {w : Rat} (h1 : PrSz pr) (h2 : Sz 400 w) : Sz 416 (loS pr w) := ((h1.2.mul h2).neg).mono (by decide)
theorem hi_sz {pr : Ln} {w : Rat} (h1 : PrSz pr) (h2 : Sz 400 w) : Sz 416 (hiS pr w) := (h1.1.mul h2).mono (by decide)
section
variable {P : Program} {w : World} {K : PySem.W.Frag} {mg : Str → Option Value} {base : Heap}
def sp_want_priced_signs : ZC := fun ds S Q => ∃ (ps : List Pt) (pr : Ln), ds = [.d (ptsP ps), .d (lnP pr)] ∧ Pts ps ∧ Prs pr ∧ Q (.d .none) S
theorem sc_want_priced_signs : FnScope ["points", "prices"] ["points", "prices"] (defScope s_want_priced_signs) := ⟨rfl, rfl, rfl, by decide +kernel, rfl, by decide +kernel, by decide +kernel⟩
theorem C_want_priced_signs (T : Txt fa fn P K mg base) (C_want_points : Callee P w K mg base 6 "want_points" 1 sp_want_points) (C_want_prices : Callee P w K mg base 6 "want_prices" 1 sp_want_prices) : Callee P w K mg base 7 "want_priced_signs" 2 sp_want_priced_signs :=
  callee T 80 86 (d := d_want_priced_signs) rfl rfl rfl rfl rfl (fun _ _ _ _ _ _ us hl => match us, hl with | [_, _], _ => rfl) sc_want_priced_signs (fun ds S Q h => by first | (obtain ⟨_, rfl, _⟩ := h; rfl) | (obtain ⟨_, _, rfl, _⟩ := h; rfl) | (obtain ⟨_, _, _, rfl, _⟩ := h; rfl) | (obtain ⟨_, _, _, _, rfl, _⟩ := h; rfl) | (obtain ⟨_, _, _, _, _, rfl, _⟩ := h; rfl) | (obtain ⟨_, _, _, _, _, _, rfl, _⟩ := h; rfl) | (obtain ⟨_, _, _, _, _, _, _, rfl, _⟩ := h; rfl) | (obtain ⟨_, _, _, _, _, _, _, _, rfl, _⟩ := h; rfl) | (obtain ⟨_, _, _, _, _, _, _, _, _, rfl, _⟩ := h; rfl) | (obtain ⟨_, _, _, _, _, _, _, _, _, _, rfl, _⟩ := h; rfl) | (obtain ⟨_, _, _, _, _, _, _, _, _, _, _, rfl, _⟩ := h; rfl) | (obtain ⟨_, _, _, _, _, _, _, _, _, _, _, _, rfl, _⟩ := h; rfl)) fun f cdv A outer s H hr => by
    have sc := sc_want_priced_signs
    refine ⟨_, (zss_cons (zs_expr (ze_c1 C_want_points hr (za_cons (zv 0) za_nil))) (zss_one (zs_expr (ze_c1 C_want_prices hr (za_cons (zv 1) za_nil))))), fun ds S Q h => ?_⟩
    obtain ⟨ps, pr, rfl, hp, hr2, h⟩ := h
    exact ⟨ps, rfl, hp, pr, rfl, hr2, h⟩
def sp_are_fractions_signs : ZC := fun ds S Q => ∃ (n : Nat) (l : List Rat), ds = [.d (.int n), .d (.list (l.map frP))] ∧ l.length = n ∧ n ≤ 1000 ∧ Q (.d (.bool true)) S
theorem sc_are_fractions_signs : FnScope ["many", "thing", "one"] ["many", "thing"] (defScope s_are_fractions_signs) := ⟨rfl, rfl, rfl, by decide +kernel, rfl, by decide +kernel, by decide +kernel⟩
theorem C_are_fractions_signs (T : Txt fa fn P K mg base) (C_is_fraction : Callee P w K mg base 2 "is_fraction" 1 sp_is_fraction) : Callee P w K mg base 3 "are_fractions_signs" 2 sp_are_fractions_signs :=
  callee T 81 87 (d := d_are_fractions_signs) rfl rfl rfl rfl rfl (fun _ _ _ _ _ _ us hl => match us, hl with | [_, _], _ => rfl) sc_are_fractions_signs (fun ds S Q h => by first | (obtain ⟨_, rfl, _⟩ := h; rfl) | (obtain ⟨_, _, rfl, _⟩ := h; rfl) | (obtain ⟨_, _, _, rfl, _⟩ := h; rfl) | (obtain ⟨_, _, _, _, rfl, _⟩ := h; rfl) | (obtain ⟨_, _, _, _, _, rfl, _⟩ := h; rfl) | (obtain ⟨_, _, _, _, _, _, rfl, _⟩ := h; rfl) | (obtain ⟨_, _, _, _, _, _, _, rfl, _⟩ := h; rfl) | (obtain ⟨_, _, _, _, _, _, _, _, rfl, _⟩ := h; rfl) | (obtain ⟨_, _, _, _, _, _, _, _, _, rfl, _⟩ := h; rfl) | (obtain ⟨_, _, _, _, _, _, _, _, _, _, rfl, _⟩ := h; rfl) | (obtain ⟨_, _, _, _, _, _, _, _, _, _, _, rfl, _⟩ := h; rfl) | (obtain ⟨_, _, _, _, _, _, _, _, _, _, _, _, rfl, _⟩ := h; rfl)) fun f cdv A outer s H hr => by
    have sc := sc_are_fractions_signs
    refine ⟨_, (zss_one (zs_ret (ze_and (ze_isi (T := "list") (by rfl) (T.free_ 6 rfl) (by rfl) (T.free_ 2 rfl) (by decide +kernel) (zv 1) (by decide +kernel)) (ze_and (ze_cmp (zop_eq (Roomu hr 64)) (ze_callB zc_len (by rfl) (T.free_ 8 rfl) (by decide +kernel) (za_cons (zv 1) za_nil)) (zv 0) (by rfl)) (ze_one (ze_callB (zc_all rfl) (by rfl) (T.free_ 3 rfl) (by decide +kernel) (za_cons (ze_lc (own := [("one", 2)]) gok_one rfl sc.nd (zi_list (zv 1)) (blkOk_by rfl) (fun _ _ _ _ _ => pg_name (i := 2) sc.nd rfl (Or.inl rfl)) (fun _ _ _ _ _ => zts_nil) (fun _ _ _ _ _ => (ze_c1 C_is_fraction hr (za_cons (zv 2) za_nil)))) za_nil))))))), fun ds S Q h => ?_⟩
    obtain ⟨n, l, rfl, hn, hl, h⟩ := h
    refine zyes rfl ⟨_, eqo_int _ _, zyes (decide_eq_true (by rw [List.length_map, hn])) ⟨len1000 (by omega), zLcL_map (f := frP) (fun _ => .bool true) l [] (fun q hm acc l' k => zyes rfl ⟨q, rfl, k⟩) ⟨_, l.map fun _ => true, rfl, by simp [Z.seen, Function.comp_def], ?_⟩⟩⟩
    have e : (l.map fun _ => true).all id = true := by simp [List.all_map]
    rw [e]
    exact h
def sp_sign_ends : ZC := fun ds S Q => ∃ (pr : Ln) (w : Rat), ds = [.d (lnP pr), fr w] ∧ PrSz pr ∧ Sz 400 w ∧ Q (.d (prP (loS pr w) (hiS pr w))) S
theorem sc_sign_ends : FnScope ["prices", "weight", "up", "down"] ["prices", "weight"] (defScope s_sign_ends) := ⟨rfl, rfl, rfl, by decide +kernel, rfl, by decide +kernel, by decide +kernel⟩
theorem C_sign_ends (T : Txt fa fn P K mg base) (C_opposite : Callee P w K mg base 1 "opposite" 1 sp_opposite) (C_times : Callee P w K mg base 35 "times" 2 sp_times) : Callee P w K mg base 36 "sign_ends" 2 sp_sign_ends :=
  callee T 82 88 (d := d_sign_ends) rfl rfl rfl rfl rfl (fun _ _ _ _ _ _ us hl => match us, hl with | [_, _], _ => rfl) sc_sign_ends (fun ds S Q h => by first | (obtain ⟨_, rfl, _⟩ := h; rfl) | (obtain ⟨_, _, rfl, _⟩ := h; rfl) | (obtain ⟨_, _, _, rfl, _⟩ := h; rfl) | (obtain ⟨_, _, _, _, rfl, _⟩ := h; rfl) | (obtain ⟨_, _, _, _, _, rfl, _⟩ := h; rfl) | (obtain ⟨_, _, _, _, _, _, rfl, _⟩ := h; rfl) | (obtain ⟨_, _, _, _, _, _, _, rfl, _⟩ := h; rfl) | (obtain ⟨_, _, _, _, _, _, _, _, rfl, _⟩ := h; rfl) | (obtain ⟨_, _, _, _, _, _, _, _, _, rfl, _⟩ := h; rfl) | (obtain ⟨_, _, _, _, _, _, _, _, _, _, rfl, _⟩ := h; rfl) | (obtain ⟨_, _, _, _, _, _, _, _, _, _, _, rfl, _⟩ := h; rfl) | (obtain ⟨_, _, _, _, _, _, _, _, _, _, _, _, rfl, _⟩ := h; rfl)) fun f cdv A outer s H hr => by
    have sc := sc_sign_ends
    refine ⟨_, (zss_cons (zs_asg (zv 0) (zg_tup (n := 2) rfl (zgs_cons (zg_name (i := 2) sc.nd rfl (Or.inl rfl)) (zgs_cons (zg_name (i := 3) sc.nd rfl (Or.inl rfl)) zgs_nil)))) (zss_one (zs_ret (ze_tup (za_cons (ze_c1 C_opposite hr (za_cons (ze_c1 C_times hr (za_cons (zv 3) (za_cons (zv 1) za_nil))) za_nil)) (za_cons (ze_c1 C_times hr (za_cons (zv 2) (za_cons (zv 1) za_nil))) za_nil)))))), fun ds S Q h => ?_⟩
    obtain ⟨pr, w, rfl, hr2, hw, h⟩ := h
    exact ⟨rfl, pr.2, w, rfl, hr2.2.big, hw.big, _, rfl, pr.1, w, rfl, hr2.1.big, hw.big, h⟩
def sp_is_within : ZC := fun ds S Q => ∃ (pr : Ln) (p : Pt) (q : Rat), ds = [.d (lnP pr), .d (ptP p), fr q] ∧ PrSz pr ∧ PtSz p ∧ Big q ∧ loS pr p.w ≤ q ∧ q ≤ hiS pr p.w ∧ Q (.d (.bool true)) S
theorem sc_is_within : FnScope ["prices", "point", "sign", "least", "greatest"] ["prices", "point", "sign"] (defScope s_is_within) := ⟨rfl, rfl, rfl, by decide +kernel, rfl, by decide +kernel, by decide +kernel⟩
theorem C_is_within (T : Txt fa fn P K mg base) (C_sign_ends : Callee P w K mg base 36 "sign_ends" 2 sp_sign_ends) (C_is_below : Callee P w K mg base 1 "is_below" 2 sp_is_below) : Callee P w K mg base 37 "is_within" 3 sp_is_within :=
  callee T 83 89 (d := d_is_within) rfl rfl rfl rfl rfl (fun _ _ _ _ _ _ us hl => match us, hl with | [_, _, _], _ => rfl) sc_is_within (fun ds S Q h => by first | (obtain ⟨_, rfl, _⟩ := h; rfl) | (obtain ⟨_, _, rfl, _⟩ := h; rfl) | (obtain ⟨_, _, _, rfl, _⟩ := h; rfl) | (obtain ⟨_, _, _, _, rfl, _⟩ := h; rfl) | (obtain ⟨_, _, _, _, _, rfl, _⟩ := h; rfl) | (obtain ⟨_, _, _, _, _, _, rfl, _⟩ := h; rfl) | (obtain ⟨_, _, _, _, _, _, _, rfl, _⟩ := h; rfl) | (obtain ⟨_, _, _, _, _, _, _, _, rfl, _⟩ := h; rfl) | (obtain ⟨_, _, _, _, _, _, _, _, _, rfl, _⟩ := h; rfl) | (obtain ⟨_, _, _, _, _, _, _, _, _, _, rfl, _⟩ := h; rfl) | (obtain ⟨_, _, _, _, _, _, _, _, _, _, _, rfl, _⟩ := h; rfl) | (obtain ⟨_, _, _, _, _, _, _, _, _, _, _, _, rfl, _⟩ := h; rfl)) fun f cdv A outer s H hr => by
    have sc := sc_is_within
    refine ⟨_, (zss_cons (zs_asg (ze_c1 C_sign_ends hr (za_cons (zv 0) (za_cons (ze_ix zix (zv 1) ze_int) za_nil))) (zg_tup (n := 2) rfl (zgs_cons (zg_name (i := 3) sc.nd rfl (Or.inl rfl)) (zgs_cons (zg_name (i := 4) sc.nd rfl (Or.inl rfl)) zgs_nil)))) (zss_one (zs_ret (ze_and (ze_not (ze_c1 C_is_below hr (za_cons (zv 2) (za_cons (zv 3) za_nil)))) (ze_one (ze_not (ze_c1 C_is_below hr (za_cons (zv 4) (za_cons (zv 2) za_nil))))))))), fun ds S Q h => ?_⟩
    obtain ⟨pr, p, q, rfl, hr2, hp, hq, h1, h2, h⟩ := h
    refine ⟨pr, p.w, rfl, hr2, hp.w, rfl, q, _, rfl, hq, (lo_sz hr2 hp.w).big, zyes (by rw [decide_eq_false (by grind)]; rfl) ⟨_, q, rfl, (hi_sz hr2 hp.w).big, hq, ?_⟩⟩
    rw [decide_eq_false (show ¬ hiS pr p.w < q by grind)]
    exact h
def sp_are_signs : ZC := fun ds S Q => ∃ (ps : List Pt) (pr : Ln) (s : List Rat), ds = [.d (ptsP ps), .d (lnP pr), .d (.list (s.map frP))] ∧ Pts ps ∧ Prs pr ∧ s.length = ps.length ∧ (∀ q ∈ s, SgSz q) ∧ (∀ q ∈ ps.zip s, loS pr q.1.w ≤ q.2 ∧ q.2 ≤ hiS pr q.1.w) ∧ Q (.d (.bool true)) S
theorem sc_are_signs : FnScope ["points", "prices", "thing", "point", "sign"] ["points", "prices", "thing"] (defScope s_are_signs) := ⟨rfl, rfl, rfl, by decide +kernel, rfl, by decide +kernel, by decide +kernel⟩
theorem C_are_signs (T : Txt fa fn P K mg base) (C_want_priced_signs : Callee P w K mg base 7 "want_priced_signs" 2 sp_want_priced_signs) (C_are_fractions_signs : Callee P w K mg base 3 "are_fractions_signs" 2 sp_are_fractions_signs) (C_is_within : Callee P w K mg base 37 "is_within" 3 sp_is_within) : Callee P w K mg base 38 "are_signs" 3 sp_are_signs :=
  callee T 84 90 (d := d_are_signs) rfl rfl rfl rfl rfl (fun _ _ _ _ _ _ us hl => match us, hl with | [_, _, _], _ => rfl) sc_are_signs (fun ds S Q h => by first | (obtain ⟨_, rfl, _⟩ := h; rfl) | (obtain ⟨_, _, rfl, _⟩ := h; rfl) | (obtain ⟨_, _, _, rfl, _⟩ := h; rfl) | (obtain ⟨_, _, _, _, rfl, _⟩ := h; rfl) | (obtain ⟨_, _, _, _, _, rfl, _⟩ := h; rfl) | (obtain ⟨_, _, _, _, _, _, rfl, _⟩ := h; rfl) | (obtain ⟨_, _, _, _, _, _, _, rfl, _⟩ := h; rfl) | (obtain ⟨_, _, _, _, _, _, _, _, rfl, _⟩ := h; rfl) | (obtain ⟨_, _, _, _, _, _, _, _, _, rfl, _⟩ := h; rfl) | (obtain ⟨_, _, _, _, _, _, _, _, _, _, rfl, _⟩ := h; rfl) | (obtain ⟨_, _, _, _, _, _, _, _, _, _, _, rfl, _⟩ := h; rfl) | (obtain ⟨_, _, _, _, _, _, _, _, _, _, _, _, rfl, _⟩ := h; rfl)) fun f cdv A outer s H hr => by
    have sc := sc_are_signs
    refine ⟨_, (zss_cons (zs_expr (ze_c1 C_want_priced_signs hr (za_cons (zv 0) (za_cons (zv 1) za_nil)))) (zss_cons (zs_if (zb_not (zb_val (ze_c1 C_are_fractions_signs hr (za_cons (ze_callB zc_len (by rfl) (T.free_ 8 rfl) (by decide +kernel) (za_cons (zv 0) za_nil)) (za_cons (zv 2) za_nil))))) (zss_one (zs_ret ze_bl)) zss_nil) (zss_one (zs_ret (ze_callB (zc_all rfl) (by rfl) (T.free_ 3 rfl) (by decide +kernel) (za_cons (ze_lc (own := [("point", 3), ("sign", 4)]) (gok_tup (n := 2)) rfl sc.nd (zi_zip (by rfl) (T.free_ 9 rfl) (za_cons (zv 0) (za_cons (zv 2) za_nil))) (blkOk_by rfl) (fun _ _ _ _ _ => pg_tup (n := 2) rfl (pgs_cons (pg_name (i := 3) sc.nd rfl (Or.inl rfl)) (pgs_cons (pg_name (i := 4) sc.nd rfl (Or.inl rfl)) pgs_nil))) (fun _ _ _ _ _ => zts_nil) (fun _ _ _ _ _ => (ze_c1 C_is_within hr (za_cons (zv 1) (za_cons (zv 3) (za_cons (zv 4) za_nil)))))) za_nil)))))), fun ds S Q h => ?_⟩
    obtain ⟨ps, pr, s, rfl, hp, hr2, hl, hsz, hin, h⟩ := h
    refine ⟨ps, pr, rfl, hp, hr2, ps.length, s, ?_, hl, by have := hp.le; omega, zno rfl ?_⟩
    · rw [List.length_map]
    show Nat.ble (((ps.map ptP).zip (s.map frP)).map fun p => PyData.tuple [p.1, p.2]).length 1000 = true ∧ zLcL _ _ _ _ (((ps.map ptP).zip (s.map frP)).map fun p => PyData.tuple [p.1, p.2]) [] _ _
    rw [zipP]
    refine ⟨len1000 (by rw [List.length_zip]; have := hp.le; omega), zLcL_map (f := fun q => PyData.tuple [ptP q.1, frP q.2]) (fun _ => .bool true) (ps.zip s) [] (fun q hm acc l' k => ?_) ⟨_, (ps.zip s).map fun _ => true, rfl, by simp [Z.seen, Function.comp_def], ?_⟩⟩
    · obtain ⟨p, q⟩ := q
      have hm2 := List.of_mem_zip hm
      obtain ⟨h1, h2⟩ := hin (p, q) hm
      exact ⟨rfl, zyes rfl ⟨pr, p, q, rfl, hr2.1, hp.sz p hm2.1, (hsz q hm2.2).big, h1, h2, k⟩⟩
    · have e : ((ps.zip s).map fun _ => true).all id = true := by simp [List.all_map]
      rw [e]
      exact h
def sp_moment : ZC := fun ds S Q => ∃ (ps : List Pt) (s : List Rat), ds = [.d (ptsP ps), .d (.list (s.map frP))] ∧ ps.length ≤ 12 ∧ PsSz ps ∧ (∀ q ∈ s, SgSz q) ∧ Q (fr (momL ps s)) S
theorem sc_moment : FnScope ["points", "signs", "point", "sign"] ["points", "signs"] (defScope s_moment) := ⟨rfl, rfl, rfl, by decide +kernel, rfl, by decide +kernel, by decide +kernel⟩
theorem C_moment (T : Txt fa fn P K mg base) (C_sum_of : Callee P w K mg base 36 "sum_of" 1 sp_sum_of) (C_times : Callee P w K mg base 35 "times" 2 sp_times) : Callee P w K mg base 37 "moment" 2 sp_moment :=
  callee T 85 91 (d := d_moment) rfl rfl rfl rfl rfl (fun _ _ _ _ _ _ us hl => match us, hl with | [_, _], _ => rfl) sc_moment (fun ds S Q h => by first | (obtain ⟨_, rfl, _⟩ := h; rfl) | (obtain ⟨_, _, rfl, _⟩ := h; rfl) | (obtain ⟨_, _, _, rfl, _⟩ := h; rfl) | (obtain ⟨_, _, _, _, rfl, _⟩ := h; rfl) | (obtain ⟨_, _, _, _, _, rfl, _⟩ := h; rfl) | (obtain ⟨_, _, _, _, _, _, rfl, _⟩ := h; rfl) | (obtain ⟨_, _, _, _, _, _, _, rfl, _⟩ := h; rfl) | (obtain ⟨_, _, _, _, _, _, _, _, rfl, _⟩ := h; rfl) | (obtain ⟨_, _, _, _, _, _, _, _, _, rfl, _⟩ := h; rfl) | (obtain ⟨_, _, _, _, _, _, _, _, _, _, rfl, _⟩ := h; rfl) | (obtain ⟨_, _, _, _, _, _, _, _, _, _, _, rfl, _⟩ := h; rfl) | (obtain ⟨_, _, _, _, _, _, _, _, _, _, _, _, rfl, _⟩ := h; rfl)) fun f cdv A outer s H hr => by
    have sc := sc_moment
    refine ⟨_, (zss_one (zs_ret (ze_c1 C_sum_of hr (za_cons (ze_lc (own := [("point", 2), ("sign", 3)]) (gok_tup (n := 2)) rfl sc.nd (zi_zip (by rfl) (T.free_ 9 rfl) (za_cons (zv 0) (za_cons (zv 1) za_nil))) (blkOk_by rfl) (fun _ _ _ _ _ => pg_tup (n := 2) rfl (pgs_cons (pg_name (i := 2) sc.nd rfl (Or.inl rfl)) (pgs_cons (pg_name (i := 3) sc.nd rfl (Or.inl rfl)) pgs_nil))) (fun _ _ _ _ _ => zts_nil) (fun _ _ _ _ _ => (ze_c1 C_times hr (za_cons (zv 3) (za_cons (ze_ix zix (zv 2) ze_int) za_nil))))) za_nil)))), fun ds S Q h => ?_⟩
    obtain ⟨ps, s, rfl, hn, hp, hsz, h⟩ := h
    show Nat.ble (((ps.map ptP).zip (s.map frP)).map fun p => PyData.tuple [p.1, p.2]).length 1000 = true ∧ zLcL _ _ _ _ (((ps.map ptP).zip (s.map frP)).map fun p => PyData.tuple [p.1, p.2]) [] _ _
    rw [zipP]
    refine ⟨len1000 (by rw [List.length_zip]; omega), zLcL_map (f := fun q => PyData.tuple [ptP q.1, frP q.2]) (fun q => frP (q.2 * q.1.x)) (ps.zip s) [] (fun q hm acc l' k => ?_) ?_⟩
    · obtain ⟨p, q⟩ := q
      have hm2 := List.of_mem_zip hm
      exact ⟨rfl, zyes rfl ⟨q, p.x, rfl, (hsz q hm2.2).big, (hp p hm2.1).x.big, k⟩⟩
    · refine ⟨2000400, (ps.zip s).map (fun q : Pt × Rat => q.2 * q.1.x), by rw [List.nil_append, List.map_map]; rfl, fun q hq => ?_, by rw [List.length_map, List.length_zip]; omega, h⟩
      obtain ⟨⟨p, r⟩, hm, rfl⟩ := List.mem_map.mp hq
      have hm2 := List.of_mem_zip hm
      exact ((hsz r hm2.2).mul (hp p hm2.1).x).mono (by decide)
def sp_is_balanced : ZC := fun ds S Q => ∃ (ps : List Pt) (s : List Rat), ds = [.d (ptsP ps), .d (.list (s.map frP))] ∧ Pts ps ∧ s.length = ps.length ∧ (∀ q ∈ s, SgSz q) ∧ s.sum = 0 ∧ momL ps s = 0 ∧ Q (.d (.bool true)) S
theorem sc_is_balanced : FnScope ["points", "thing"] ["points", "thing"] (defScope s_is_balanced) := ⟨rfl, rfl, rfl, by decide +kernel, rfl, by decide +kernel, by decide +kernel⟩
theorem C_is_balanced (T : Txt fa fn P K mg base) (C_want_points : Callee P w K mg base 6 "want_points" 1 sp_want_points) (C_are_fractions_signs : Callee P w K mg base 3 "are_fractions_signs" 2 sp_are_fractions_signs) (C_sum_of : Callee P w K mg base 36 "sum_of" 1 sp_sum_of) (C_moment : Callee P w K mg base 37 "moment" 2 sp_moment) : Callee P w K mg base 38 "is_balanced" 2 sp_is_balanced :=
  callee T 86 92 (d := d_is_balanced) rfl rfl rfl rfl rfl (fun _ _ _ _ _ _ us hl => match us, hl with | [_, _], _ => rfl) sc_is_balanced (fun ds S Q h => by first | (obtain ⟨_, rfl, _⟩ := h; rfl) | (obtain ⟨_, _, rfl, _⟩ := h; rfl) | (obtain ⟨_, _, _, rfl, _⟩ := h; rfl) | (obtain ⟨_, _, _, _, rfl, _⟩ := h; rfl) | (obtain ⟨_, _, _, _, _, rfl, _⟩ := h; rfl) | (obtain ⟨_, _, _, _, _, _, rfl, _⟩ := h; rfl) | (obtain ⟨_, _, _, _, _, _, _, rfl, _⟩ := h; rfl) | (obtain ⟨_, _, _, _, _, _, _, _, rfl, _⟩ := h; rfl) | (obtain ⟨_, _, _, _, _, _, _, _, _, rfl, _⟩ := h; rfl) | (obtain ⟨_, _, _, _, _, _, _, _, _, _, rfl, _⟩ := h; rfl) | (obtain ⟨_, _, _, _, _, _, _, _, _, _, _, rfl, _⟩ := h; rfl) | (obtain ⟨_, _, _, _, _, _, _, _, _, _, _, _, rfl, _⟩ := h; rfl)) fun f cdv A outer s H hr => by
    have sc := sc_is_balanced
    refine ⟨_, (zss_cons (zs_expr (ze_c1 C_want_points hr (za_cons (zv 0) za_nil))) (zss_cons (zs_if (zb_not (zb_val (ze_c1 C_are_fractions_signs hr (za_cons (ze_callB zc_len (by rfl) (T.free_ 8 rfl) (by decide +kernel) (za_cons (zv 0) za_nil)) (za_cons (zv 1) za_nil))))) (zss_one (zs_ret ze_bl)) zss_nil) (zss_one (zs_ret (ze_and (ze_cmp (zop_eq (Roomu hr 64)) (ze_c1 C_sum_of hr (za_cons (zv 1) za_nil)) (ze_gtup (by rfl) (T.glo_ 133 rfl) T.nought) (by rfl)) (ze_one (ze_cmp (zop_eq (Roomu hr 64)) (ze_c1 C_moment hr (za_cons (zv 0) (za_cons (zv 1) za_nil))) (ze_gtup (by rfl) (T.glo_ 133 rfl) T.nought) (by rfl)))))))), fun ds S Q h => ?_⟩
    obtain ⟨ps, s, rfl, hp, hl, hsz, h1, h2, h⟩ := h
    refine ⟨ps, rfl, hp, ps.length, s, by rw [List.length_map], hl, by have := hp.le; omega, zno rfl ⟨2000000, s, rfl, hsz, by have := hp.le; omega, _, eqo_fr _ 0, zyes (decide_eq_true h1) ⟨ps, s, rfl, hp.le, hp.sz, hsz, _, eqo_fr _ 0, ?_⟩⟩⟩
    rw [decide_eq_true h2]
    exact h
def sp_sign_off : ZC := fun ds S Q => ∃ (pr : Ln) (p : Pt) (r : Rat), ds = [.d (lnP pr), .d (ptP p), fr r] ∧ PrSz pr ∧ PtSz p ∧ Big r ∧ Q (.d (oP (offO pr p.w r))) S
theorem sc_sign_off : FnScope ["prices", "point", "rise", "least", "greatest"] ["prices", "point", "rise"] (defScope s_sign_off) := ⟨rfl, rfl, rfl, by decide +kernel, rfl, by decide +kernel, by decide +kernel⟩
theorem C_sign_off (T : Txt fa fn P K mg base) (C_sign_ends : Callee P w K mg base 36 "sign_ends" 2 sp_sign_ends) (C_is_below : Callee P w K mg base 1 "is_below" 2 sp_is_below) : Callee P w K mg base 37 "sign_off" 3 sp_sign_off :=
  callee T 87 93 (d := d_sign_off) rfl rfl rfl rfl rfl (fun _ _ _ _ _ _ us hl => match us, hl with | [_, _, _], _ => rfl) sc_sign_off (fun ds S Q h => by first | (obtain ⟨_, rfl, _⟩ := h; rfl) | (obtain ⟨_, _, rfl, _⟩ := h; rfl) | (obtain ⟨_, _, _, rfl, _⟩ := h; rfl) | (obtain ⟨_, _, _, _, rfl, _⟩ := h; rfl) | (obtain ⟨_, _, _, _, _, rfl, _⟩ := h; rfl) | (obtain ⟨_, _, _, _, _, _, rfl, _⟩ := h; rfl) | (obtain ⟨_, _, _, _, _, _, _, rfl, _⟩ := h; rfl) | (obtain ⟨_, _, _, _, _, _, _, _, rfl, _⟩ := h; rfl) | (obtain ⟨_, _, _, _, _, _, _, _, _, rfl, _⟩ := h; rfl) | (obtain ⟨_, _, _, _, _, _, _, _, _, _, rfl, _⟩ := h; rfl) | (obtain ⟨_, _, _, _, _, _, _, _, _, _, _, rfl, _⟩ := h; rfl) | (obtain ⟨_, _, _, _, _, _, _, _, _, _, _, _, rfl, _⟩ := h; rfl)) fun f cdv A outer s H hr => by
    have sc := sc_sign_off
    refine ⟨_, (zss_cons (zs_asg (ze_c1 C_sign_ends hr (za_cons (zv 0) (za_cons (ze_ix zix (zv 1) ze_int) za_nil))) (zg_tup (n := 2) rfl (zgs_cons (zg_name (i := 3) sc.nd rfl (Or.inl rfl)) (zgs_cons (zg_name (i := 4) sc.nd rfl (Or.inl rfl)) zgs_nil)))) (zss_cons (zs_if (zb_val (ze_c1 C_is_below hr (za_cons (ze_gtup (by rfl) (T.glo_ 133 rfl) T.nought) (za_cons (zv 2) za_nil)))) (zss_one (zs_ret (zv 4))) zss_nil) (zss_one (zs_ret (ze_if (zb_val (ze_c1 C_is_below hr (za_cons (zv 2) (za_cons (ze_gtup (by rfl) (T.glo_ 133 rfl) T.nought) za_nil)))) (zv 3) ze_non))))), fun ds S Q h => ?_⟩
    obtain ⟨pr, p, r, rfl, hr2, hp, hr3, h⟩ := h
    unfold offO at h
    refine ⟨pr, p.w, rfl, hr2, hp.w, rfl, 0, r, rfl, Sz.zero.big, hr3, zif (fun c => ?_) (fun c => ⟨r, 0, rfl, hr3, Sz.zero.big, zif (fun d => ?_) (fun d => ?_)⟩)⟩
    · rw [if_pos c] at h
      exact h
    · rw [if_neg c, if_pos d] at h
      exact h
    · rw [if_neg c, if_neg d] at h
      exact h
def sp_fit : ZC := fun ds S Q => ∃ (ps : List Pt) (pr l : Ln) (s : List Rat), ds = [.d (ptsP ps), .d (lnP pr), .d (lnP l), .d (.list (s.map frP))] ∧ Pts ps ∧ Prs pr ∧ LnSz l ∧ FitL ps pr l s ∧ Q (.d (.bool true)) S
theorem zip3P (f : Pt → PyData) (g h : Rat → PyData) (k : Pt → Rat) : ∀ (ps : List Pt) (s : List Rat), ((ps.map f).zip (((ps.map k).map g).zip (s.map h))).map (fun p => PyData.tuple [p.1, p.2.1, p.2.2]) = (ps.zip s).map fun q => .tuple [f q.1, g (k q.1), h q.2]
  | [], s => by simp
  | p :: ps, [] => by simp
  | p :: ps, q :: s => by
    have := zip3P f g h k ps s
    simp only [List.map_cons, List.zip_cons_cons, this]
theorem lay_o : ∀ o : Option Rat, (oP o).canLay0 = true
  | none => by simp [oP, PyData.canLay0]
  | some q => lay_fr q
theorem dep_o : ∀ o : Option Rat, (oP o).depth ≤ 1
  | none => by simp [oP, PyData.depth]
  | some q => dep_fr q
theorem in_two {o : Option Rat} {q : Rat} (h : o = none ∨ o = some q) : SeqAt.shaped (oP o) = true ∧ SeqAt.shaped (.tuple [.none, frP q]) = true ∧ ([PyData.none, frP q].any fun z => PyData.eqv z (oP o)) = true := by
  refine ⟨shaped_of 1 (lay_o o) (dep_o o), shaped_of 2 (by simp [PyData.canLay0, PyData.canLayAll0, lay_fr]) (by have := dep_fr q; simp only [PyData.depth, PyData.depthAll]; omega), ?_⟩
  rcases h with e | e
  · subst e; simp [oP, PyData.eqv]
  · subst e
    have := eqv_fr q q
    simp [oP, this]
theorem sc_fit : FnScope ["points", "prices", "line", "thing", "point", "rise", "sign"] ["points", "prices", "line", "thing"] (defScope s_fit) := ⟨rfl, rfl, rfl, by decide +kernel, rfl, by decide +kernel, by decide +kernel⟩
theorem C_fit (T : Txt fa fn P K mg base) (C_want_priced_signs : Callee P w K mg base 7 "want_priced_signs" 2 sp_want_priced_signs) (C_want_line : Callee P w K mg base 6 "want_line" 1 sp_want_line) (C_rises : Callee P w K mg base 38 "rises" 2 sp_rises) (C_are_signs : Callee P w K mg base 38 "are_signs" 3 sp_are_signs) (C_is_balanced : Callee P w K mg base 38 "is_balanced" 2 sp_is_balanced) (C_sign_off : Callee P w K mg base 37 "sign_off" 3 sp_sign_off) : Callee P w K mg base 39 "fit" 4 sp_fit :=
  callee T 88 94 (d := d_fit) rfl rfl rfl rfl rfl (fun _ _ _ _ _ _ us hl => match us, hl with | [_, _, _, _], _ => rfl) sc_fit (fun ds S Q h => by first | (obtain ⟨_, rfl, _⟩ := h; rfl) | (obtain ⟨_, _, rfl, _⟩ := h; rfl) | (obtain ⟨_, _, _, rfl, _⟩ := h; rfl) | (obtain ⟨_, _, _, _, rfl, _⟩ := h; rfl) | (obtain ⟨_, _, _, _, _, rfl, _⟩ := h; rfl) | (obtain ⟨_, _, _, _, _, _, rfl, _⟩ := h; rfl) | (obtain ⟨_, _, _, _, _, _, _, rfl, _⟩ := h; rfl) | (obtain ⟨_, _, _, _, _, _, _, _, rfl, _⟩ := h; rfl) | (obtain ⟨_, _, _, _, _, _, _, _, _, rfl, _⟩ := h; rfl) | (obtain ⟨_, _, _, _, _, _, _, _, _, _, rfl, _⟩ := h; rfl) | (obtain ⟨_, _, _, _, _, _, _, _, _, _, _, rfl, _⟩ := h; rfl) | (obtain ⟨_, _, _, _, _, _, _, _, _, _, _, _, rfl, _⟩ := h; rfl)) fun f cdv A outer s H hr => by
    have sc := sc_fit
    refine ⟨_, (zss_cons (zs_expr (ze_c1 C_want_priced_signs hr (za_cons (zv 0) (za_cons (zv 1) za_nil)))) (zss_cons (zs_expr (ze_c1 C_want_line hr (za_cons (zv 2) za_nil))) (zss_cons (zs_if (PW.pt (zw_or (zb_not (zb_val (ze_c1 C_are_signs hr (za_cons (zv 0) (za_cons (zv 1) (za_cons (zv 3) za_nil)))))) (zw_or1 (zb_not (zb_val (ze_c1 C_is_balanced hr (za_cons (zv 0) (za_cons (zv 3) za_nil)))))))) (zss_one (zs_ret ze_bl)) zss_nil) (zss_cons (zs_for PassesOwn.never rfl (zi_zip3 (by rfl) (T.free_ 9 rfl) (za_cons (zv 0) (za_cons (ze_c1 C_rises hr (za_cons (zv 0) (za_cons (zv 2) za_nil))) (za_cons (zv 3) za_nil)))) (zg_tup (n := 3) rfl (zgs_cons (zg_name (i := 4) sc.nd rfl (Or.inl rfl)) (zgs_cons (zg_name (i := 5) sc.nd rfl (Or.inl rfl)) (zgs_cons (zg_name (i := 6) sc.nd rfl (Or.inl rfl)) zgs_nil)))) (zss_one (zs_if (zb_cmp (zop_notInT (Roomu hr 65)) (ze_c1 C_sign_off hr (za_cons (zv 1) (za_cons (zv 4) (za_cons (zv 5) za_nil)))) (ze_tup (za_cons ze_non (za_cons (zv 6) za_nil))) (by rfl)) (zss_one (zs_ret ze_bl)) zss_nil))) (zss_one (zs_ret ze_bl)))))), fun ds S Q h => ?_⟩
    obtain ⟨ps, pr, l, s, rfl, hp, hr2, hl, hf, h⟩ := h
    refine ⟨ps, pr, rfl, hp, hr2, l, rfl, ps, pr, s, rfl, hp, hr2, hf.len, hf.sz, hf.inn, zno rfl ⟨ps, s, rfl, hp, hf.len, hf.sz, hf.sum, hf.mom, zno rfl ?_⟩⟩
    refine ⟨ps, l, rfl, hp, hl, ⟨Nat.beq_eq.mpr (by simp), Nat.beq_eq.mpr (by simp [hf.len])⟩, ?_⟩
    show zLoop _ _ _ (((ps.map ptP).zip (((ps.map fun p => rise p l).map frP).zip (s.map frP))).map fun p => PyData.tuple [p.1, p.2.1, p.2.2]) _ _
    rw [zip3P]
    refine zLoop_ind (α := Pt × Rat) (f := fun q => PyData.tuple [ptP q.1, frP (rise q.1 l), frP q.2]) (fun m ρ S' => S' = S ∧ (∀ q ∈ m, q ∈ ps.zip s) ∧ ∃ o1 o2 o3, ρ = [some (.d (ptsP ps)), some (.d (lnP pr)), some (.d (lnP l)), some (.d (.list (s.map frP))), o1, o2, o3]) ?_ ?_ (ps.zip s) _ S ?_
    · rintro ρ S' ⟨rfl, _, o1, o2, o3, rfl⟩
      exact h
    · rintro ⟨p, q⟩ m ρ S' ⟨rfl, hm, o1, o2, o3, rfl⟩ ih
      have hin := hm (p, q) (by simp)
      have hm2 := List.of_mem_zip hin
      have hps := hp.sz p hm2.1
      refine ⟨rfl, pr, p, rise p l, rfl, hr2.1, hps, (rise_sz hl hps).big, true, in_two (hf.off (p, q) hin), zno rfl ?_⟩
      exact ih _ _ ⟨rfl, fun q hq => hm q (by simp [hq]), _, _, _, rfl⟩
    · exact ⟨rfl, fun q hq => hq, none, none, none, rfl⟩
end
end Sl
set_option Elab.async false
set_option linter.all false
set_option maxRecDepth 100000
set_option maxHeartbeats 4000000
namespace Z
open PySem PySem.Spec PyProof.Rows L2
def zIsR : ZR2 := fun x y S Q => match x, y with
  | .ref _, .d .none => Q (.d (.bool false)) S
  | .d .none, .d .none => Q (.d (.bool true)) S
  | .d _, .d .none => Q (.d (.bool false)) S
  | _, _ => False
theorem zop_isR {X : Cx} : OpR X (compareOp .Is) (lr2 X.K zIsR) := OpR.lift op_isN fun x y H Q ⟨G, S, d, e, R, rp, rd, re, z, k⟩ => by
  unfold zIsR at z
  split at z
  · cases rd; cases re
    exact ⟨rfl, k _ S _ G H z (Stp.refl rp) (.bl _)⟩
  · cases rd; cases re
    exact ⟨rfl, k _ S _ G H z (Stp.refl rp) (.bl _)⟩
  · rename_i d1 hn
    cases re
    refine ⟨rfl, ?_⟩
    have hx : x ≠ .non := fun q => by
      subst q
      cases rd
      exact hn rfl
    rw [decide_eq_false hx]
    exact k _ S _ G H z (Stp.refl rp) (.bl _)
  · exact z.elim
theorem putD_new {kvs : List (Int × PyData)} {k : Int} {d : PyData} (h : ∀ q ∈ kvs, q.1 ≠ k) : putD kvs k d = kvs ++ [(k, d)] := by
  unfold putD
  rw [if_neg]
  intro c
  obtain ⟨q, hq, e⟩ := List.any_eq_true.mp c
  exact h q hq (by simpa using e)
theorem putD_mid {a b : List (Int × PyData)} {k : Int} {d0 d : PyData} (h1 : ∀ q ∈ a, q.1 ≠ k) (h2 : ∀ q ∈ b, q.1 ≠ k) : putD (a ++ (k, d0) :: b) k d = a ++ (k, d) :: b := by
  unfold putD
  rw [if_pos (by simp)]
  have same : ∀ l : List (Int × PyData), (∀ q ∈ l, q.1 ≠ k) → l.map (fun p => if p.1 = k then (p.1, d) else p) = l := by
    intro l hl
    conv => rhs; rw [← List.map_id l]
    refine List.map_congr_left fun q hq => ?_
    rw [if_neg (hl q hq)]; rfl
  rw [List.map_append, List.map_cons, same a h1, same b h2, if_pos rfl]
def Ext (S S' : Sto) : Prop := ∀ a c, S a = some c → S' a = some c
theorem Ext.refl (S : Sto) : Ext S S := fun _ _ h => h
theorem Ext.trans {S S' S2 : Sto} (h : Ext S S') (k : Ext S' S2) : Ext S S2 := fun a c e => k a c (h a c e)
theorem Ext.put {S : Sto} {p : Addr} {c : Cell} (h : S p = none) : Ext S (S.put p c) := fun a d e => by rw [Sto.put_ne fun z => by rw [z, h] at e; cases e]; exact e
theorem Ext.put2 {S S' : Sto} {p : Addr} {c : Cell} (x : Ext S S') (h : S p = none) : Ext S (S'.put p c) := fun a d e => by rw [Sto.put_ne fun z => by rw [z, h] at e; cases e]; exact x a d e
theorem Ext.none {S S' : Sto} (x : Ext S S') {p : Addr} (h : S' p = Option.none) : S p = Option.none := by
  cases e : S p with
  | none => rfl
  | some c => rw [x p c e] at h; cases h
theorem Sto.del_put {S : Sto} {p : Addr} {c : Cell} (h : S p = some c) : (S.del p).put p c = S := by
  funext b
  unfold Sto.put Sto.del
  by_cases e : b = p
  · simp [e, h]
  · simp [e]
end Z
namespace Sl
open PySem PySem.Spec PyProof.Rows L2 Z
open Sg (Pt Ln PsOk PrOk Spread stand rise loS hiS offS ptAt insX byX fillGo momentOf shareOf at0 tot)
abbrev natP (k : Nat) : PyData := .int k
theorem ptAt_get {ps : List Pt} {k : Nat} (h : k < ps.length) : ps[k]? = some (ptAt ps k) := by
  unfold ptAt
  rw [List.getD_eq_getElem?_getD, List.getElem?_eq_getElem h]; rfl
theorem pt_pAt {ps : List Pt} {k : Nat} (h : k < ps.length) : pAt (ps.map ptP) (k : Int) = some (ptP (ptAt ps k)) := pAt_nat (ptAt_get h)
theorem ptAt_sz {ps : List Pt} (hp : PsSz ps) {k : Nat} (h : k < ps.length) : PtSz (ptAt ps k) := hp _ (Sg.ptAt_mem h)
theorem insX_at (X : Nat → Rat) (k f : Nat) : ∀ (n : Nat) (xs : List Nat), (∀ i, i < n → ∀ q, xs[i]? = some q → ¬ X k < X q) → xs[n]? = some f → X k < X f → insX X xs k = xs.take n ++ [k] ++ xs.drop n
  | _, [], _, e, _ => by simp at e
  | 0, x :: xs, _, e, h => by
    simp at e; subst e
    rw [insX, if_pos h]; rfl
  | n + 1, x :: xs, h, e, h2 => by
    rw [insX, if_neg (h 0 (by omega) x (by simp)), insX_at X k f n xs (fun i hi q hq => h (i + 1) (by omega) q (by simpa using hq)) (by simpa using e) h2]; rfl
theorem insX_end (X : Nat → Rat) (k : Nat) : ∀ xs : List Nat, (∀ q ∈ xs, ¬ X k < X q) → insX X xs k = xs ++ [k]
  | [], _ => rfl
  | x :: xs, h => by rw [insX, if_neg (h x (by simp)), insX_end X k xs fun q hq => h q (by simp [hq])]; rfl
section
variable {P : Program} {w : World} {K : PySem.W.Frag} {mg : Str → Option Value} {base : Heap}
def sp_by_x : ZC := fun ds S Q => ∃ (ps : List Pt) (ks : List Nat), ds = [.d (ptsP ps), .d (.list (ks.map natP))] ∧ PsSz ps ∧ ks.length ≤ 500 ∧ (∀ k ∈ ks, k < ps.length) ∧ Q (.d (.list ((byX (fun k => (ptAt ps k).x) ks).map natP))) S
theorem sc_by_x : FnScope ["points", "numbers", "found", "k", "at"] ["points", "numbers"] (defScope s_by_x) := ⟨rfl, rfl, rfl, by decide +kernel, rfl, by decide +kernel, by decide +kernel⟩
theorem C_by_x (T : Txt fa fn P K mg base) (C_is_below : Callee P w K mg base 1 "is_below" 2 sp_is_below) : Callee P w K mg base 3 "by_x" 2 sp_by_x :=
  callee T 89 95 (d := d_by_x) rfl rfl rfl rfl rfl (fun _ _ _ _ _ _ us hl => match us, hl with | [_, _], _ => rfl) sc_by_x (fun ds S Q h => by first | (obtain ⟨_, rfl, _⟩ := h; rfl) | (obtain ⟨_, _, rfl, _⟩ := h; rfl) | (obtain ⟨_, _, _, rfl, _⟩ := h; rfl) | (obtain ⟨_, _, _, _, rfl, _⟩ := h; rfl) | (obtain ⟨_, _, _, _, _, rfl, _⟩ := h; rfl) | (obtain ⟨_, _, _, _, _, _, rfl, _⟩ := h; rfl) | (obtain ⟨_, _, _, _, _, _, _, rfl, _⟩ := h; rfl) | (obtain ⟨_, _, _, _, _, _, _, _, rfl, _⟩ := h; rfl) | (obtain ⟨_, _, _, _, _, _, _, _, _, rfl, _⟩ := h; rfl) | (obtain ⟨_, _, _, _, _, _, _, _, _, _, rfl, _⟩ := h; rfl) | (obtain ⟨_, _, _, _, _, _, _, _, _, _, _, rfl, _⟩ := h; rfl) | (obtain ⟨_, _, _, _, _, _, _, _, _, _, _, _, rfl, _⟩ := h; rfl)) fun f cdv A outer s H hr => by
    have sc := sc_by_x
    refine ⟨_, (zss_cons (zs_set (i := 2) sc.nd rfl (Or.inl rfl) (ze_lstO za_nil)) (zss_cons (zs_for PassesOwn.never rfl (zi_list (zv 1)) (zg_name (i := 3) sc.nd rfl (Or.inl rfl)) (zss_cons (zs_set (i := 4) sc.nd rfl (Or.inl rfl) ze_int) (zss_cons (zs_while PassesOwn.never (PW.pt (zw_and (zb_cmp zop_lt (zv 4) (ze_callB zc_len (by rfl) (T.free_ 8 rfl) (by decide +kernel) (za_cons (zv 2) za_nil)) (by rfl)) (zw_and1 (zb_not (zb_val (ze_c1 C_is_below hr (za_cons (ze_ix zix (ze_ix zix (zv 0) (zv 3)) ze_int) (za_cons (ze_ix zix (ze_ix zix (zv 0) (ze_ix zix (zv 2) (zv 4))) ze_int) za_nil)))))))) (zss_one (zs_set (i := 4) sc.nd rfl (Or.inl rfl) (ze_op zop_add (zv 4) ze_int)))) (zss_one (zs_expr (ze_bm PySem.F.plainAttrs_list PySem.F.slot_list_insert PySem.F.type_list_insert zm_insert (zv 2) (za_cons (zv 4) (za_cons (zv 3) za_nil)))))))) (zss_one (zs_ret (ze_frz (zv 2)))))), fun ds S Q h => ?_⟩
    obtain ⟨ps, ks, rfl, hp, hn, hk, h⟩ := h
    refine fun p hS => ?_
    refine zLoop_ind (α := Nat) (f := natP) (fun m ρ S' => ∃ xs o1 o2, S' = S.put p (.lst (xs.map natP)) ∧ m.foldl (insX fun k => (ptAt ps k).x) xs = byX (fun k => (ptAt ps k).x) ks ∧ xs.length + m.length ≤ 500 ∧ (∀ k ∈ xs, k < ps.length) ∧ (∀ k ∈ m, k < ps.length) ∧ ρ = [some (.d (ptsP ps)), some (.d (.list (ks.map natP))), some (.ref p), o1, o2]) ?_ ?_ ks _ _ ?_
    · rintro ρ S' ⟨xs, o1, o2, rfl, e, _, _, _, rfl⟩
      have e2 : xs = byX (fun k => (ptAt ps k).x) ks := e
      refine ⟨p, _, rfl, Sto.put_same, ?_⟩
      rw [Sto.put_del hS, e2]
      exact h
    · rintro a m ρ S' ⟨xs, o1, o2, rfl, e, hl, hx, hm, rfl⟩ ih
      rw [List.length_cons] at hl
      have ha := hm a (by simp)
      rw [List.foldl_cons] at e
      refine Exists.intro (fun n ρ S'' => S'' = S.put p (.lst (xs.map natP)) ∧ ∃ k : Nat, k ≤ xs.length ∧ n = xs.length - k ∧ (∀ i, i < k → ∀ q, xs[i]? = some q → ¬ (ptAt ps a).x < (ptAt ps q).x) ∧ ρ = [some (.d (ptsP ps)), some (.d (.list (ks.map natP))), some (.ref p), some (.d (natP a)), some (.d (.int k))]) (And.intro ⟨_, rfl, 0, Nat.zero_le _, rfl, fun i hi => absurd hi (by omega), rfl⟩ ?_)
      rintro n ρ S'' ⟨rfl, k, hkl, rfl, hah, rfl⟩
      have put : xs.take k ++ [a] ++ xs.drop k = insX (fun k => (ptAt ps k).x) xs a → ∃ (p' : Addr) (xs' : List PyData) (n : Nat) (y : PyData), D.ref p = .ref p' ∧ [D.d (.int (k : Int)), .d (natP a)] = [.d (.int (.ofNat n)), .d y] ∧ (S.put p (.lst (xs.map natP))) p' = some (.lst xs') ∧ xs'.length < 1000 ∧ n < 1000 ∧ (fun _ S1 => zLoop _ _ _ (m.map natP) [some (.d (ptsP ps)), some (.d (.list (ks.map natP))), some (.ref p), some (.d (natP a)), some (.d (.int k))] S1) (D.d .none) ((S.put p (.lst (xs.map natP))).put p' (.lst (xs'.take n ++ [y] ++ xs'.drop n))) := fun ex => by
        refine ⟨p, _, k, _, rfl, rfl, Sto.put_same, by rw [List.length_map]; omega, by omega, ?_⟩
        rw [Sto.put_put, ← List.map_take, ← List.map_drop]
        have e5 : (xs.take k).map natP ++ [natP a] ++ (xs.drop k).map natP = (insX (fun k => (ptAt ps k).x) xs a).map natP := by rw [← ex]; simp
        rw [e5]
        have hperm := Sg.insX_perm (fun k => (ptAt ps k).x) xs a
        refine ih _ _ ⟨_, _, _, rfl, e, ?_, fun l hl => ?_, fun l hl => hm l (by simp [hl]), rfl⟩
        · have := hperm.length_eq
          simp at this; omega
        · rcases List.mem_cons.mp (hperm.mem_iff.mp hl) with z | z
          · rw [z]; exact ha
          · exact hx l z
      dsimp only [zAsgG, zDPut, zwipe, zNeg, List.map_cons, List.map_nil, ztAnd, ztOr, ztNot, ztB, zOp, zCall, zaCons, zaNil, zV, zC, zgName, zgTup, zgsN, zgCons, zgNil, zSeq, zAsg, zIfS, zRet, zDrop_, zNext, List.getElem?_cons_succ, List.getElem?_cons_zero, List.set_cons_succ, List.set_cons_zero]
      refine zLen_ref Sto.put_same ?_
      rw [List.length_map]
      refine zif (fun c => ?_) (fun c => ?_)
      · have c2 : k < xs.length := by omega
        have e3 : xs[k]? = some xs[k] := List.getElem?_eq_getElem c2
        have hxk := hx _ (List.getElem_mem c2)
        refine zIx_l (pt_pAt ha) (zIx_t (d := frP (ptAt ps a).x) rfl (zIx_ref Sto.put_same (pAt_nat e3) (zIx_l (pt_pAt hxk) (zIx_t (d := frP (ptAt ps xs[k]).x) rfl ?_))))
        refine ⟨_, _, rfl, (ptAt_sz hp ha).x.big, (ptAt_sz hp hxk).x.big, zifn (fun d => ?_) (fun d => ?_)⟩
        · exact ⟨_, by omega, rfl, k + 1, by omega, rfl, fun i hi q hq => by
            by_cases z : i = k
            · subst z; rw [e3] at hq; cases hq; exact d
            · exact hah i (by omega) q hq, rfl⟩
        · exact ⟨⟨p, _, rfl, Sto.put_same⟩, put (insX_at _ a xs[k] k xs hah e3 d).symm⟩
      · have c2 : k = xs.length := by omega
        have e4 := insX_end (fun k => (ptAt ps k).x) a xs fun q hq => by
          obtain ⟨i, hi, eq⟩ := List.getElem_of_mem hq
          exact hah i (by omega) q (by rw [List.getElem?_eq_getElem hi, eq])
        exact zno rfl ⟨⟨p, _, rfl, Sto.put_same⟩, put (by rw [e4, c2]; simp)⟩
    · exact ⟨[], none, none, rfl, rfl, by simpa using hn, by simp, hk, rfl⟩
end
end Sl
set_option Elab.async false
set_option linter.all false
set_option maxRecDepth 100000
set_option maxHeartbeats 4000000
namespace Sl
open PySem PySem.Spec PyProof.Rows L2 Z
open Sg (Pt Ln PsOk PrOk Spread stand rise loS hiS offS ptAt insX byX fillGo momentOf shareOf at0 tot)
abbrev entP (q : Nat × Rat) : Int × PyData := (q.1, frP q.2)
theorem lk_ent (k : Nat) : ∀ f : List (Nat × Rat), lk (f.map entP) k = (f.lookup k).map frP
  | [] => rfl
  | q :: f => by
    unfold lk
    rw [List.map_cons, List.find?_cons, List.lookup_cons]
    by_cases h : q.1 = k
    · have e : (k == q.1) = true := by simp [h]
      rw [e, decide_eq_true (show ((q.1 : Nat) : Int) = k by omega)]
      rfl
    · have e : (k == q.1) = false := by simp; omega
      rw [e, decide_eq_false (show ¬ ((q.1 : Nat) : Int) = k by omega)]
      exact lk_ent k f
theorem look_map (g : Nat → Rat) (k : Nat) : ∀ ks : List Nat, k ∈ ks → (ks.map fun j => (j, g j)).lookup k = some (g k)
  | [], h => by simp at h
  | j :: ks, h => by
    rw [List.map_cons, List.lookup_cons]
    by_cases e : k = j
    · subst e; simp
    · have e2 : (k == j) = false := by simp; exact e
      rw [e2]
      exact look_map g k ks (by rcases List.mem_cons.mp h with z | z; exact absurd z e; exact z)
abbrev LoF (ps : List Pt) (pr : Ln) : Nat → Rat := fun k => loS pr (ptAt ps k).w
abbrev HiF (ps : List Pt) (pr : Ln) : Nat → Rat := fun k => hiS pr (ptAt ps k).w
abbrev XF (ps : List Pt) : Nat → Rat := fun k => (ptAt ps k).x
section
variable {P : Program} {w : World} {K : PySem.W.Frag} {mg : Str → Option Value} {base : Heap}
def sp_filled : ZC := fun ds S Q => ∃ (ps : List Pt) (pr : Ln) (ks : List Nat) (total : Rat) (f : List (Nat × Rat)), ds = [.d (ptsP ps), .d (lnP pr), .d (.list (ks.map natP)), fr total] ∧ PsSz ps ∧ PrSz pr ∧ ks.length ≤ 12 ∧ ks.Nodup ∧ (∀ k ∈ ks, k < ps.length) ∧ Sz 6000 total ∧
  Sg.filled (LoF ps pr) (HiF ps pr) ks total = some f ∧ ∀ p, S p = none → (∀ q ∈ f, Sz 22000 q.2) → Q (.ref p) (S.put p (.dic (f.map entP)))
theorem sc_filled : FnScope ["points", "prices", "numbers", "total", "found", "k", "left", "least", "greatest", "room", "more"] ["points", "prices", "numbers", "total"] (defScope s_filled) := ⟨rfl, rfl, rfl, by decide +kernel, rfl, by decide +kernel, by decide +kernel⟩
theorem C_filled (T : Txt fa fn P K mg base) (C_less : Callee P w K mg base 35 "less" 2 sp_less) (C_is_below : Callee P w K mg base 1 "is_below" 2 sp_is_below) (C_sum_of : Callee P w K mg base 36 "sum_of" 1 sp_sum_of) (C_sign_ends : Callee P w K mg base 36 "sign_ends" 2 sp_sign_ends) (C_plus : Callee P w K mg base 35 "plus" 2 sp_plus) : Callee P w K mg base 37 "filled" 4 sp_filled :=
  callee T 90 96 (d := d_filled) rfl rfl rfl rfl rfl (fun _ _ _ _ _ _ us hl => match us, hl with | [_, _, _, _], _ => rfl) sc_filled (fun ds S Q h => by first | (obtain ⟨_, rfl, _⟩ := h; rfl) | (obtain ⟨_, _, rfl, _⟩ := h; rfl) | (obtain ⟨_, _, _, rfl, _⟩ := h; rfl) | (obtain ⟨_, _, _, _, rfl, _⟩ := h; rfl) | (obtain ⟨_, _, _, _, _, rfl, _⟩ := h; rfl) | (obtain ⟨_, _, _, _, _, _, rfl, _⟩ := h; rfl) | (obtain ⟨_, _, _, _, _, _, _, rfl, _⟩ := h; rfl) | (obtain ⟨_, _, _, _, _, _, _, _, rfl, _⟩ := h; rfl) | (obtain ⟨_, _, _, _, _, _, _, _, _, rfl, _⟩ := h; rfl) | (obtain ⟨_, _, _, _, _, _, _, _, _, _, rfl, _⟩ := h; rfl) | (obtain ⟨_, _, _, _, _, _, _, _, _, _, _, rfl, _⟩ := h; rfl) | (obtain ⟨_, _, _, _, _, _, _, _, _, _, _, _, rfl, _⟩ := h; rfl)) fun f cdv A outer s H hr => by
    have sc := sc_filled
    refine ⟨_, (zss_cons (zs_set (i := 4) sc.nd rfl (Or.inr rfl) ze_dic) (zss_cons (zs_for PassesOwn.never rfl (zi_list (zv 2)) (zg_name (i := 5) sc.nd rfl (Or.inl rfl)) (zss_one (zs_dput (Roomu hr 1) (zv 4) (zv 5) (ze_ix zix (ze_c1 C_sign_ends hr (za_cons (zv 1) (za_cons (ze_ix zix (ze_ix zix (zv 0) (zv 5)) ze_int) za_nil))) ze_int)))) (zss_cons (zs_set (i := 6) sc.nd rfl (Or.inl rfl) (ze_c1 C_less hr (za_cons (zv 3) (za_cons (ze_c1 C_sum_of hr (za_cons (ze_lc (own := [("k", 5)]) gok_one rfl sc.nd (zi_list (zv 2)) (blkOk_by rfl) (fun _ _ _ _ _ => pg_name (i := 5) sc.nd rfl (Or.inl rfl)) (fun _ _ _ _ _ => zts_nil) (fun _ _ _ _ _ => (ze_dget (Roomu hr 1) (zv 4) (zv 5)))) za_nil)) za_nil)))) (zss_cons (zs_if (zb_val (ze_c1 C_is_below hr (za_cons (zv 6) (za_cons (ze_gtup (by rfl) (T.glo_ 133 rfl) T.nought) za_nil)))) (zss_one (zs_ret ze_non)) zss_nil) (zss_cons (zs_for PassesOwn.never rfl (zi_list (zv 2)) (zg_name (i := 5) sc.nd rfl (Or.inl rfl)) (zss_cons (zs_asg (ze_c1 C_sign_ends hr (za_cons (zv 1) (za_cons (ze_ix zix (ze_ix zix (zv 0) (zv 5)) ze_int) za_nil))) (zg_tup (n := 2) rfl (zgs_cons (zg_name (i := 7) sc.nd rfl (Or.inl rfl)) (zgs_cons (zg_name (i := 8) sc.nd rfl (Or.inl rfl)) zgs_nil)))) (zss_cons (zs_set (i := 9) sc.nd rfl (Or.inl rfl) (ze_c1 C_less hr (za_cons (zv 8) (za_cons (zv 7) za_nil)))) (zss_cons (zs_set (i := 10) sc.nd rfl (Or.inl rfl) (ze_if (zb_val (ze_c1 C_is_below hr (za_cons (zv 6) (za_cons (zv 9) za_nil)))) (zv 6) (zv 9))) (zss_cons (zs_dput (Roomu hr 1) (zv 4) (zv 5) (ze_c1 C_plus hr (za_cons (zv 7) (za_cons (zv 10) za_nil)))) (zss_one (zs_set (i := 6) sc.nd rfl (Or.inl rfl) (ze_c1 C_less hr (za_cons (zv 6) (za_cons (zv 10) za_nil)))))))))) (zss_one (zs_ret (ze_if (zb_cmp (zop_eq (Roomu hr 64)) (zv 6) (ze_gtup (by rfl) (T.glo_ 133 rfl) T.nought) (by rfl)) (zv 4) ze_non)))))))), fun ds S Q h => ?_⟩
    obtain ⟨ps, pr, ks, total, f, rfl, hp, hr2, hn, hnd, hk, ht, hf, h⟩ := h
    refine fun p hS => ?_
    have hlo : ∀ k ∈ ks, Sz 416 (LoF ps pr k) := fun k hm => lo_sz hr2 (ptAt_sz hp (hk k hm)).w
    have hhi : ∀ k ∈ ks, Sz 416 (HiF ps pr k) := fun k hm => hi_sz hr2 (ptAt_sz hp (hk k hm)).w
    refine zLoop_ind (α := Nat) (f := natP) (fun m ρ S' => ∃ done o1, done ++ m = ks ∧ S' = S.put p (.dic ((done.map fun k => (k, LoF ps pr k)).map entP)) ∧ ρ = [some (.d (ptsP ps)), some (.d (lnP pr)), some (.d (.list (ks.map natP))), some (fr total), some (.ref p), o1, none, none, none, none, none]) ?_ ?_ ks _ _ ⟨[], none, rfl, rfl, rfl⟩
    · rintro ρ S' ⟨done, o1, e, rfl, rfl⟩
      have e2 : done = ks := by simpa using e
      subst e2
      refine ⟨len1000 (by omega), zLcL_map (f := natP) (fun k => frP (LoF ps pr k)) done [] (fun k hm acc l' kk => zyes rfl ⟨p, _, k, _, rfl, Sto.put_same, rfl, by rw [lk_ent, look_map _ _ _ hm]; rfl, kk⟩) ?_⟩
      refine ⟨416, done.map (LoF ps pr), by rw [List.nil_append, List.map_map]; rfl, fun q hq => ?_, by rw [List.length_map]; omega, ?_⟩
      · obtain ⟨k, hm, rfl⟩ := List.mem_map.mp hq
        exact hlo k hm
      have hsum : Sz 5005 (done.map (LoF ps pr)).sum := (Sz.sum (A := 416) (fun q hq => by
        obtain ⟨k, hm, rfl⟩ := List.mem_map.mp hq
        exact hlo k hm)).mono (by rw [List.length_map]; omega)
      refine ⟨total, _, rfl, ht.big, hsum.big, ?_⟩
      have hleft : Sz 11006 (total - (done.map (LoF ps pr)).sum) := ht.sub hsum
      unfold Sg.filled at hf
      have etot : tot done (LoF ps pr) = (done.map (LoF ps pr)).sum := rfl
      simp only [etot] at hf
      generalize total - (done.map (LoF ps pr)).sum = left at hf hleft
      by_cases c : left < 0
      · rw [if_pos c] at hf; cases hf
      rw [if_neg c] at hf
      refine ⟨left, 0, rfl, hleft.big, Sz.zero.big, zno (decide_eq_false c) ?_⟩
      by_cases c2 : (fillGo (LoF ps pr) (HiF ps pr) done left).2 = 0
      case neg => rw [if_neg c2] at hf; cases hf
      rw [if_pos c2] at hf
      have hf2 : (fillGo (LoF ps pr) (HiF ps pr) done left).1 = f := Option.some.inj hf
      refine zLoop_ind (α := Nat) (f := natP) (fun m ρ S' => ∃ (fin : List (Nat × Rat)) (cur : Rat) (j : Nat) (o1 o2 o3 o4 o5 : Option D), fin.map (·.1) ++ m = done ∧ fin ++ (fillGo (LoF ps pr) (HiF ps pr) m cur).1 = f ∧ (fillGo (LoF ps pr) (HiF ps pr) m cur).2 = 0 ∧ j + m.length = done.length ∧ Sz (11006 + j * 834) cur ∧ (∀ q ∈ fin, Sz 22000 q.2) ∧
        S' = S.put p (.dic ((fin ++ m.map fun k => (k, LoF ps pr k)).map entP)) ∧ ρ = [some (.d (ptsP ps)), some (.d (lnP pr)), some (.d (.list (done.map natP))), some (fr total), some (.ref p), o1, some (fr cur), o2, o3, o4, o5]) ?_ ?_ done _ _ ⟨[], left, 0, o1, none, none, none, none, rfl, hf2, c2, by omega, hleft, by simp, rfl, rfl⟩
      · rintro ρ S' ⟨fin, cur, j, o1, o2, o3, o4, o5, e1, e2, e3, e4, e5, e6, rfl, rfl⟩
        have e2 : fin = f := by simpa [fillGo] using e2
        have e3 : cur = 0 := e3
        subst e2 e3
        refine ⟨_, eqo_fr 0 0, zyes (decide_eq_true rfl) ?_⟩
        have hq := h p hS e6
        rw [List.map_nil, List.append_nil]
        exact hq
      · rintro k m ρ S' ⟨fin, cur, j, o1, o2, o3, o4, o5, e1, e2, e3, e4, e5, e6, rfl, rfl⟩ ih
        rw [List.length_cons] at e4
        have hkm : k ∈ done := by rw [← e1]; simp
        have hks := hk k hkm
        have hpk := ptAt_sz hp hks
        have hlok := hlo k hkm
        have hhik := hhi k hkm
        have hroom : Sz 833 (HiF ps pr k - LoF ps pr k) := hhik.sub hlok
        have hj : j ≤ 11 := by omega
        have hcur : Sz 20180 cur := e5.mono (by omega)
        dsimp only [zAsgG, zDPut, zwipe, zNeg, List.map_cons, List.map_nil, ztAnd, ztOr, ztNot, ztB, zOp, zCall, zaCons, zaNil, zV, zC, zgName, zgTup, zgsN, zgCons, zgNil, zSeq, zAsg, zIfS, zRet, zDrop_, zNext, List.getElem?_cons_succ, List.getElem?_cons_zero, List.set_cons_succ, List.set_cons_zero]
        refine zIx_l (pt_pAt hks) ?_
        refine ⟨pr, (ptAt ps k).w, rfl, hr2, hpk.w, rfl, _, _, rfl, hhik.big, hlok.big, _, _, rfl, hcur.big, hroom.big, ?_⟩
        have nd : (fin.map (·.1) ++ k :: m).Nodup := by rw [e1]; exact hnd
        have n1 : ∀ q ∈ fin, q.1 ≠ k := fun q hq e => by
          have := (List.nodup_append.mp nd).2.2 q.1 (List.mem_map.mpr ⟨q, hq, rfl⟩) k (by simp)
          exact this e
        have n2 : ∀ q ∈ m, q ≠ k := fun q hq e => by
          have := (List.nodup_cons.mp (List.nodup_append.mp nd).2.1).1
          rw [e] at hq
          exact this hq
        have fin2 : ∀ (more : Rat) (o1 o2 o3 o4 o5 : Option D), Sz 20180 more → (more = if cur < HiF ps pr k - LoF ps pr k then cur else HiF ps pr k - LoF ps pr k) → Sz (11006 + (j + 1) * 834) (cur - more) → zLoop _ _ _ (m.map natP) [some (.d (ptsP ps)), some (.d (lnP pr)), some (.d (.list (done.map natP))), some (fr total), some (.ref p), o1, some (fr (cur - more)), o2, o3, o4, o5] (S.put p (.dic (((fin ++ [(k, LoF ps pr k + more)]) ++ m.map fun k => (k, LoF ps pr k)).map entP))) := fun more o1 o2 o3 o4 o5 hm1 hm2 hm3 => by
          refine ih _ _ ⟨fin ++ [(k, LoF ps pr k + more)], cur - more, j + 1, o1, o2, o3, o4, o5, ?_, ?_, ?_, by omega, hm3, ?_, rfl, rfl⟩
          · rw [List.map_append, List.append_assoc]; exact e1
          · rw [← e2, List.append_assoc]
            show _ = fin ++ (fillGo (LoF ps pr) (HiF ps pr) (k :: m) cur).1
            simp only [fillGo, ← hm2]; rfl
          · rw [← e3]
            simp only [fillGo, ← hm2]
          · intro q hq
            rcases List.mem_append.mp hq with z | z
            · exact e6 q z
            · rw [List.mem_singleton.mp z]
              exact (hlok.add hm1).mono (by decide)
        have epd : ∀ d, putD ((fin ++ (k :: m).map fun k => (k, LoF ps pr k)).map entP) k (frP d) = ((fin ++ [(k, d)]) ++ m.map fun k => (k, LoF ps pr k)).map entP := fun d => by
          rw [List.map_append, List.map_cons, List.map_cons]
          show putD (fin.map entP ++ ((k : Int), frP (LoF ps pr k)) :: (m.map fun k => (k, LoF ps pr k)).map entP) k (frP d) = _
          rw [putD_mid]
          · simp
          · intro q hq
            obtain ⟨r, hr, rfl⟩ := List.mem_map.mp hq
            have := n1 r hr
            show ((r.1 : Nat) : Int) ≠ k
            omega
          · intro q hq
            obtain ⟨r, hr, rfl⟩ := List.mem_map.mp hq
            obtain ⟨r2, hr2, rfl⟩ := List.mem_map.mp hr
            have := n2 r2 hr2
            show ((r2 : Nat) : Int) ≠ k
            omega
        have dl : ((fin ++ (k :: m).map fun k => (k, LoF ps pr k)).map entP).length < 1000 := by
          have := congrArg List.length e1
          simp at this ⊢
          omega
        refine zif (fun d => ?_) (fun d => ?_)
        · refine ⟨_, cur, rfl, hlok.big, hcur.big, p, _, k, _, rfl, Sto.put_same, rfl, rfl, dl, cur, cur, rfl, hcur.big, hcur.big, ?_⟩
          rw [Sto.put_put, epd]
          exact fin2 cur _ _ _ _ _ hcur (by rw [if_pos d]) (by rw [show cur - cur = 0 by grind]; exact Sz.zero.mono (by omega))
        · refine ⟨_, _, rfl, hlok.big, hroom.big, p, _, k, _, rfl, Sto.put_same, rfl, rfl, dl, cur, _, rfl, hcur.big, hroom.big, ?_⟩
          rw [Sto.put_put, epd]
          exact fin2 _ _ _ _ _ _ (hroom.mono (by decide)) (by rw [if_neg d]) ((e5.sub hroom).mono (by omega))
    · rintro k m ρ S' ⟨done, o1, e, rfl, rfl⟩ ih
      have hkm : k ∈ ks := by rw [← e]; simp
      have hks := hk k hkm
      have hpk := ptAt_sz hp hks
      have nd : (done ++ k :: m).Nodup := by rw [e]; exact hnd
      dsimp only [zAsgG, zDPut, zwipe, zNeg, List.map_cons, List.map_nil, ztAnd, ztOr, ztNot, ztB, zOp, zCall, zaCons, zaNil, zV, zC, zgName, zgTup, zgsN, zgCons, zgNil, zSeq, zAsg, zIfS, zRet, zDrop_, zNext, List.getElem?_cons_succ, List.getElem?_cons_zero, List.set_cons_succ, List.set_cons_zero]
      refine zIx_l (pt_pAt hks) ?_
      refine ⟨pr, (ptAt ps k).w, rfl, hr2, hpk.w, p, _, k, _, rfl, Sto.put_same, rfl, rfl, ?_, ?_⟩
      · have := congrArg List.length e
        simp at this ⊢; omega
      · rw [Sto.put_put, putD_new]
        · refine ih _ _ ⟨done ++ [k], _, by simpa using e, ?_, rfl⟩
          simp
        · intro q hq
          obtain ⟨r, hr, rfl⟩ := List.mem_map.mp hq
          obtain ⟨r2, hr2, rfl⟩ := List.mem_map.mp hr
          have := (List.nodup_append.mp nd).2.2 r2 hr2 k (by simp)
          show ((r2 : Nat) : Int) ≠ k
          omega
end
end Sl
set_option Elab.async false
set_option linter.all false
set_option maxRecDepth 100000
set_option maxHeartbeats 4000000
namespace Sl
open PySem PySem.Spec PyProof.Rows L2 Z
open Sg (Pt Ln PsOk PrOk Spread stand rise loS hiS offS ptAt insX byX fillGo momentOf shareOf at0 tot)
theorem map_ptAt (ps : List Pt) : (List.range ps.length).map (ptAt ps) = ps := by
  apply List.ext_getElem
  · simp
  · intro i h1 h2
    have h := ptAt_get (ps := ps) (k := i) (by simpa using h1)
    rw [List.getElem?_eq_getElem (by simpa using h1)] at h
    simp
    exact (Option.some.inj h).symm
theorem zipIdx_range {α : Type} (g : Nat → α) : ∀ n : Nat, ((List.range n).map g).zipIdx = (List.range n).map fun k => (g k, k)
  | 0 => rfl
  | n + 1 => by
    rw [List.range_succ, List.map_append, List.zipIdx_append, zipIdx_range g n]
    simp
theorem mom_sz {X : Nat → Rat} {f : List (Nat × Rat)} (hn : f.length ≤ 12) (h1 : ∀ q ∈ f, Sz 22000 q.2) (h2 : ∀ q ∈ f, Sz 400 (X q.1)) : Sz 270000 (momentOf X f) := by
  have h : Sz ((f.map fun q => q.2 * X q.1).length * (22400 + 1) + 1) (f.map fun q => q.2 * X q.1).sum := Sz.sum fun r hr => by
    obtain ⟨q, hq, rfl⟩ := List.mem_map.mp hr
    exact (h1 q hq).mul (h2 q hq)
  rw [List.length_map] at h
  exact h.mono (by omega)
section
variable {P : Program} {w : World} {K : PySem.W.Frag} {mg : Str → Option Value} {base : Heap}
def sp_moment_of : ZC := fun ds S Q => ∃ (ps : List Pt) (p : Addr) (f : List (Nat × Rat)), ds = [.d (ptsP ps), .ref p] ∧ S p = some (.dic (f.map entP)) ∧ PsSz ps ∧ f.length ≤ 12 ∧ (∀ q ∈ f, q.1 < ps.length ∧ Sz 22000 q.2) ∧ Q (fr (momentOf (XF ps) f)) S
theorem sc_moment_of : FnScope ["points", "found", "k", "sign"] ["points", "found"] (defScope s_moment_of) := ⟨rfl, rfl, rfl, by decide +kernel, rfl, by decide +kernel, by decide +kernel⟩
theorem C_moment_of (T : Txt fa fn P K mg base) (C_sum_of : Callee P w K mg base 36 "sum_of" 1 sp_sum_of) (C_times : Callee P w K mg base 35 "times" 2 sp_times) : Callee P w K mg base 37 "moment_of" 2 sp_moment_of :=
  callee T 91 97 (d := d_moment_of) rfl rfl rfl rfl rfl (fun _ _ _ _ _ _ us hl => match us, hl with | [_, _], _ => rfl) sc_moment_of (fun ds S Q h => by first | (obtain ⟨_, rfl, _⟩ := h; rfl) | (obtain ⟨_, _, rfl, _⟩ := h; rfl) | (obtain ⟨_, _, _, rfl, _⟩ := h; rfl) | (obtain ⟨_, _, _, _, rfl, _⟩ := h; rfl) | (obtain ⟨_, _, _, _, _, rfl, _⟩ := h; rfl) | (obtain ⟨_, _, _, _, _, _, rfl, _⟩ := h; rfl) | (obtain ⟨_, _, _, _, _, _, _, rfl, _⟩ := h; rfl) | (obtain ⟨_, _, _, _, _, _, _, _, rfl, _⟩ := h; rfl) | (obtain ⟨_, _, _, _, _, _, _, _, _, rfl, _⟩ := h; rfl) | (obtain ⟨_, _, _, _, _, _, _, _, _, _, rfl, _⟩ := h; rfl) | (obtain ⟨_, _, _, _, _, _, _, _, _, _, _, rfl, _⟩ := h; rfl) | (obtain ⟨_, _, _, _, _, _, _, _, _, _, _, _, rfl, _⟩ := h; rfl)) fun f cdv A outer s H hr => by
    have sc := sc_moment_of
    refine ⟨_, (zss_one (zs_ret (ze_c1 C_sum_of hr (za_cons (ze_lcIt (own := [("k", 2), ("sign", 3)]) rfl sc.nd (pv 1) (blkOk_by rfl) (fun _ _ _ _ _ => pg_tup (n := 2) rfl (pgs_cons (pg_name (i := 2) sc.nd rfl (Or.inl rfl)) (pgs_cons (pg_name (i := 3) sc.nd rfl (Or.inl rfl)) pgs_nil))) (fun _ _ _ _ _ => (ze_c1 C_times hr (za_cons (zv 3) (za_cons (ze_ix zix (ze_ix zix (zv 0) (zv 2)) ze_int) za_nil))))) za_nil)))), fun ds S Q h => ?_⟩
    obtain ⟨ps, p, f, rfl, hS, hp, hn, hf, h⟩ := h
    refine ⟨p, f.map entP, rfl, hS, by rw [List.length_map]; omega, ?_⟩
    rw [List.map_map]
    refine zLcL_map (f := fun q : Nat × Rat => PyData.tuple [.int q.1, frP q.2]) (fun q => frP (q.2 * XF ps q.1)) f [] (fun q hm acc l' k => ⟨rfl, zyes rfl ?_⟩) ?_
    · obtain ⟨h1, h2⟩ := hf q hm
      dsimp only [zAsgG, zDPut, zwipe, zNeg, List.map_cons, List.map_nil, ztAnd, ztOr, ztNot, ztB, zOp, zCall, zaCons, zaNil, zV, zC, zgName, zgTup, zgsN, zgCons, zgNil, zSeq, zAsg, zIfS, zRet, zDrop_, zNext, List.getElem?_cons_succ, List.getElem?_cons_zero, List.set_cons_succ, List.set_cons_zero]
      refine zIx_l (pt_pAt h1) ?_
      exact ⟨q.2, (ptAt ps q.1).x, rfl, h2.big, (ptAt_sz hp h1).x.big, k⟩
    · rw [Sto.del_put hS]
      refine ⟨22400, f.map (fun q : Nat × Rat => q.2 * XF ps q.1), by rw [List.nil_append, List.map_map]; rfl, fun r hr => ?_, by rw [List.length_map]; omega, h⟩
      obtain ⟨q, hq, rfl⟩ := List.mem_map.mp hr
      obtain ⟨h1, h2⟩ := hf q hq
      exact h2.mul (ptAt_sz hp h1).x
def sp_share_of : ZC := fun ds S Q => ∃ a b c s : Rat, ds = [fr a, fr b, fr c] ∧ Sz 270000 a ∧ Sz 270000 b ∧ Sz 10000 c ∧ shareOf a b c = some s ∧ (Sz 830000 s → Q (fr s) S)
theorem sc_share_of : FnScope ["low", "high", "wanted", "share"] ["low", "high", "wanted"] (defScope s_share_of) := ⟨rfl, rfl, rfl, by decide +kernel, rfl, by decide +kernel, by decide +kernel⟩
theorem C_share_of (T : Txt fa fn P K mg base) (C_over : Callee P w K mg base 35 "over" 2 sp_over) (C_less : Callee P w K mg base 35 "less" 2 sp_less) (C_is_below : Callee P w K mg base 1 "is_below" 2 sp_is_below) : Callee P w K mg base 36 "share_of" 3 sp_share_of :=
  callee T 92 98 (d := d_share_of) rfl rfl rfl rfl rfl (fun _ _ _ _ _ _ us hl => match us, hl with | [_, _, _], _ => rfl) sc_share_of (fun ds S Q h => by first | (obtain ⟨_, rfl, _⟩ := h; rfl) | (obtain ⟨_, _, rfl, _⟩ := h; rfl) | (obtain ⟨_, _, _, rfl, _⟩ := h; rfl) | (obtain ⟨_, _, _, _, rfl, _⟩ := h; rfl) | (obtain ⟨_, _, _, _, _, rfl, _⟩ := h; rfl) | (obtain ⟨_, _, _, _, _, _, rfl, _⟩ := h; rfl) | (obtain ⟨_, _, _, _, _, _, _, rfl, _⟩ := h; rfl) | (obtain ⟨_, _, _, _, _, _, _, _, rfl, _⟩ := h; rfl) | (obtain ⟨_, _, _, _, _, _, _, _, _, rfl, _⟩ := h; rfl) | (obtain ⟨_, _, _, _, _, _, _, _, _, _, rfl, _⟩ := h; rfl) | (obtain ⟨_, _, _, _, _, _, _, _, _, _, _, rfl, _⟩ := h; rfl) | (obtain ⟨_, _, _, _, _, _, _, _, _, _, _, _, rfl, _⟩ := h; rfl)) fun f cdv A outer s H hr => by
    have sc := sc_share_of
    refine ⟨_, (zss_cons (zs_if (zb_cmp (zop_eq (Roomu hr 64)) (zv 0) (zv 1) (by rfl)) (zss_one (zs_ret (ze_if (zb_cmp (zop_eq (Roomu hr 64)) (zv 0) (zv 2) (by rfl)) (ze_gtup (by rfl) (T.glo_ 134 rfl) T.one) ze_non))) zss_nil) (zss_cons (zs_set (i := 3) sc.nd rfl (Or.inl rfl) (ze_c1 C_over hr (za_cons (ze_c1 C_less hr (za_cons (zv 1) (za_cons (zv 2) za_nil))) (za_cons (ze_c1 C_less hr (za_cons (zv 1) (za_cons (zv 0) za_nil))) za_nil)))) (zss_cons (zs_if (PW.pt (zw_or (zb_val (ze_c1 C_is_below hr (za_cons (zv 3) (za_cons (ze_gtup (by rfl) (T.glo_ 133 rfl) T.nought) za_nil)))) (zw_or1 (zb_val (ze_c1 C_is_below hr (za_cons (ze_gtup (by rfl) (T.glo_ 134 rfl) T.one) (za_cons (zv 3) za_nil))))))) (zss_one (zs_ret ze_non)) zss_nil) (zss_one (zs_ret (zv 3)))))), fun ds S Q h => ?_⟩
    obtain ⟨a, b, c, s, rfl, ha, hb, hc, hs, h⟩ := h
    unfold shareOf at hs
    refine ⟨_, eqo_fr a b, zif (fun e => ?_) (fun e => ?_)⟩
    · rw [if_pos e] at hs
      refine ⟨_, eqo_fr a c, zif (fun e2 => ?_) (fun e2 => ?_)⟩
      · rw [if_pos e2] at hs
        have hs : (1 : Rat) = s := Option.some.inj hs
        rw [← hs] at h
        exact h (Sz.one.mono (by decide))
      · rw [if_neg e2] at hs; cases hs
    · rw [if_neg e] at hs
      have hne : b - a ≠ 0 := by grind
      have h1 : Sz 280001 (b - c) := (hb.sub hc).mono (by decide)
      have h2 : Sz 540001 (b - a) := (hb.sub ha).mono (by decide)
      have h3 : Sz 830000 ((b - c) / (b - a)) := (h1.div h2 hne).mono (by decide)
      by_cases z : (b - c) / (b - a) < 0 ∨ 1 < (b - c) / (b - a)
      · rw [if_pos z] at hs; cases hs
      · rw [if_neg z] at hs
        have hs : (b - c) / (b - a) = s := Option.some.inj hs
        rw [hs] at z h3
        have z1 : ¬ s < 0 := fun q => z (.inl q)
        have z2 : ¬ 1 < s := fun q => z (.inr q)
        refine ⟨b, c, rfl, hb.big, hc.big, b, a, rfl, hb.big, ha.big, _, _, rfl, h1.big, h2.big, hne, ?_⟩
        rw [hs]
        exact ⟨s, 0, rfl, h3.big, Sz.zero.big, zno (decide_eq_false z1) ⟨1, s, rfl, Sz.one.big, h3.big, zno (decide_eq_false z2) (h h3)⟩⟩
def sp_balanced_on : ZC := fun ds S Q => ∃ (ps : List Pt) (pr : Ln) (ks : List Nat) (total wanted : Rat) (f : List (Nat × Rat)), ds = [.d (ptsP ps), .d (lnP pr), .d (.list (ks.map natP)), fr total, fr wanted] ∧ PsSz ps ∧ PrSz pr ∧ ks.length ≤ 12 ∧ ks.Nodup ∧ (∀ k ∈ ks, k < ps.length) ∧ Sz 6000 total ∧ Sz 10000 wanted ∧
  Sg.balancedOn (XF ps) (LoF ps pr) (HiF ps pr) ks total wanted = some f ∧ ∀ p S', Ext S S' → S' p = some (.dic (f.map entP)) → (∀ q ∈ f, SgSz q.2) → Q (.ref p) S'
theorem sc_balanced_on : FnScope ["points", "prices", "on", "total", "wanted", "rising", "left", "right", "share", "found", "k"] ["points", "prices", "on", "total", "wanted"] (defScope s_balanced_on) := ⟨rfl, rfl, rfl, by decide +kernel, rfl, by decide +kernel, by decide +kernel⟩
theorem C_balanced_on (T : Txt fa fn P K mg base) (C_by_x : Callee P w K mg base 3 "by_x" 2 sp_by_x) (C_filled : Callee P w K mg base 37 "filled" 4 sp_filled) (C_share_of : Callee P w K mg base 36 "share_of" 3 sp_share_of) (C_moment_of : Callee P w K mg base 37 "moment_of" 2 sp_moment_of) (C_plus : Callee P w K mg base 35 "plus" 2 sp_plus) (C_times : Callee P w K mg base 35 "times" 2 sp_times) (C_less : Callee P w K mg base 35 "less" 2 sp_less) : Callee P w K mg base 38 "balanced_on" 5 sp_balanced_on :=
  callee T 93 99 (d := d_balanced_on) rfl rfl rfl rfl rfl (fun _ _ _ _ _ _ us hl => match us, hl with | [_, _, _, _, _], _ => rfl) sc_balanced_on (fun ds S Q h => by first | (obtain ⟨_, rfl, _⟩ := h; rfl) | (obtain ⟨_, _, rfl, _⟩ := h; rfl) | (obtain ⟨_, _, _, rfl, _⟩ := h; rfl) | (obtain ⟨_, _, _, _, rfl, _⟩ := h; rfl) | (obtain ⟨_, _, _, _, _, rfl, _⟩ := h; rfl) | (obtain ⟨_, _, _, _, _, _, rfl, _⟩ := h; rfl) | (obtain ⟨_, _, _, _, _, _, _, rfl, _⟩ := h; rfl) | (obtain ⟨_, _, _, _, _, _, _, _, rfl, _⟩ := h; rfl) | (obtain ⟨_, _, _, _, _, _, _, _, _, rfl, _⟩ := h; rfl) | (obtain ⟨_, _, _, _, _, _, _, _, _, _, rfl, _⟩ := h; rfl) | (obtain ⟨_, _, _, _, _, _, _, _, _, _, _, rfl, _⟩ := h; rfl) | (obtain ⟨_, _, _, _, _, _, _, _, _, _, _, _, rfl, _⟩ := h; rfl)) fun f cdv A outer s H hr => by
    have sc := sc_balanced_on
    refine ⟨_, (zss_cons (zs_set (i := 5) sc.nd rfl (Or.inl rfl) (ze_c1 C_by_x hr (za_cons (zv 0) (za_cons (zv 2) za_nil)))) (zss_cons (zs_set (i := 6) sc.nd rfl (Or.inl rfl) (ze_c1 C_filled hr (za_cons (zv 0) (za_cons (zv 1) (za_cons (zv 5) (za_cons (zv 3) za_nil)))))) (zss_cons (zs_if (zb_cmp zop_isR (zv 6) ze_non (by rfl)) (zss_one (zs_ret ze_non)) zss_nil) (zss_cons (zs_set (i := 7) sc.nd rfl (Or.inl rfl) (ze_c1 C_filled hr (za_cons (zv 0) (za_cons (zv 1) (za_cons (ze_rev (zv 5)) (za_cons (zv 3) za_nil)))))) (zss_cons (zs_set (i := 8) sc.nd rfl (Or.inl rfl) (ze_c1 C_share_of hr (za_cons (ze_c1 C_moment_of hr (za_cons (zv 0) (za_cons (zv 6) za_nil))) (za_cons (ze_c1 C_moment_of hr (za_cons (zv 0) (za_cons (zv 7) za_nil))) (za_cons (zv 4) za_nil))))) (zss_cons (zs_if (zb_cmp zop_isR (zv 8) ze_non (by rfl)) (zss_one (zs_ret ze_non)) zss_nil) (zss_cons (zs_set (i := 9) sc.nd rfl (Or.inl rfl) ze_dic) (zss_cons (zs_for PassesOwn.never rfl (zi_list (zv 2)) (zg_name (i := 10) sc.nd rfl (Or.inl rfl)) (zss_one (zs_dput (Roomu hr 1) (zv 9) (zv 10) (ze_c1 C_plus hr (za_cons (ze_c1 C_times hr (za_cons (zv 8) (za_cons (ze_dget (Roomu hr 1) (zv 6) (zv 10)) za_nil))) (za_cons (ze_c1 C_times hr (za_cons (ze_c1 C_less hr (za_cons (ze_gtup (by rfl) (T.glo_ 134 rfl) T.one) (za_cons (zv 8) za_nil))) (za_cons (ze_dget (Roomu hr 1) (zv 7) (zv 10)) za_nil))) za_nil)))))) (zss_one (zs_ret (zv 9))))))))))), fun ds S Q h => ?_⟩
    obtain ⟨ps, pr, ks, total, wanted, f, rfl, hp, hr2, hn, hnd, hk, ht, hw, hf, h⟩ := h
    have hperm := Sg.byX_perm (XF ps) ks
    unfold Sg.balancedOn at hf
    have hk2 : ∀ k ∈ byX (XF ps) ks, k < ps.length := fun k hm => hk k (hperm.mem_iff.mp hm)
    have hn2 : (byX (XF ps) ks).length ≤ 12 := by rw [hperm.length_eq]; exact hn
    have hnd2 : (byX (XF ps) ks).Nodup := hperm.nodup_iff.mpr hnd
    refine ⟨ps, ks, rfl, hp, by omega, hk, ?_⟩
    have hmem2 : ∀ k, k ∈ byX (XF ps) ks ↔ k ∈ ks := fun k => hperm.mem_iff
    generalize byX (XF ps) ks = rs at hf hk2 hn2 hnd2 hmem2
    cases el : Sg.filled (LoF ps pr) (HiF ps pr) rs total with
    | none => rw [el] at hf; cases hf
    | some left =>
      rw [el] at hf
      cases er : Sg.filled (LoF ps pr) (HiF ps pr) rs.reverse total with
      | none => simp only [er] at hf; cases hf
      | some right =>
        simp only [er] at hf
        cases es : shareOf (momentOf (XF ps) left) (momentOf (XF ps) right) wanted with
        | none => simp only [es] at hf; cases hf
        | some share =>
          simp only [es] at hf
          have hf : (ks.map fun k => (k, share * at0 left k + (1 - share) * at0 right k)) = f := Option.some.inj hf
          have keys : ∀ (js : List Nat) (g : List (Nat × Rat)), Sg.filled (LoF ps pr) (HiF ps pr) js total = some g → g.map (·.1) = js := fun js g e => by
            unfold Sg.filled at e
            dsimp only at e
            split at e
            · cases e
            · split at e
              · have := Option.some.inj e
                rw [← this, Sg.fillGo_keys]
              · cases e
          have kl := keys _ _ el
          have kr := keys _ _ er
          have inl : ∀ q ∈ left, q.1 ∈ rs := fun q hq => by rw [← kl]; exact List.mem_map.mpr ⟨q, hq, rfl⟩
          have inr : ∀ q ∈ right, q.1 ∈ rs := fun q hq => List.mem_reverse.mp (by rw [← kr]; exact List.mem_map.mpr ⟨q, hq, rfl⟩)
          have ll : left.length ≤ 12 := by rw [← List.length_map (f := (·.1)), kl]; exact hn2
          have lr : right.length ≤ 12 := by rw [← List.length_map (f := (·.1)), kr, List.length_reverse]; exact hn2
          refine ⟨ps, pr, rs, total, left, rfl, hp, hr2, hn2, hnd2, hk2, ht, el, fun p1 hp1 sl => ?_⟩
          refine zno rfl ⟨ps, pr, rs.reverse, total, right, ?_, hp, hr2, by rw [List.length_reverse]; exact hn2, (List.reverse_perm rs).nodup_iff.mpr hnd2, fun k hm => hk2 k (List.mem_reverse.mp hm), ht, er, fun p2 hp2 sr => ?_⟩
          · show [D.d (ptsP ps), .d (lnP pr), .d (.list (rs.map natP).reverse), fr total] = _
            rw [List.map_reverse]
          have ne12 : p1 ≠ p2 := fun e => by rw [← e, Sto.put_same] at hp2; cases hp2
          have hS2 : S p2 = none := by rw [Sto.put_ne (Ne.symm ne12)] at hp2; exact hp2
          have ml := mom_sz (X := XF ps) ll sl fun q hq => (ptAt_sz hp (hk2 _ (inl q hq))).x
          have mr := mom_sz (X := XF ps) lr sr fun q hq => (ptAt_sz hp (hk2 _ (inr q hq))).x
          refine ⟨ps, p1, left, rfl, (Sto.put_ne ne12).trans Sto.put_same, hp, ll, fun q hq => ⟨hk2 _ (inl q hq), sl q hq⟩, ps, p2, right, rfl, Sto.put_same, hp, lr, fun q hq => ⟨hk2 _ (inr q hq), sr q hq⟩, _, _, _, share, rfl, ml, mr, hw, es, fun ssz => zno rfl (fun p3 hp3 => ?_)⟩
          have ne13 : p1 ≠ p3 := fun e => by rw [← e, Sto.put_ne ne12, Sto.put_same] at hp3; cases hp3
          have ne23 : p2 ≠ p3 := fun e => by rw [← e, Sto.put_same] at hp3; cases hp3
          have hS3 : S p3 = none := by rw [Sto.put_ne (Ne.symm ne23), Sto.put_ne (Ne.symm ne13)] at hp3; exact hp3
          have get : ∀ (g : List (Nat × Rat)) (k : Nat), k ∈ g.map (·.1) → ∃ q ∈ g, q.1 = k ∧ g.lookup k = some q.2 := by
            intro g k
            induction g with
            | nil => intro h; simp at h
            | cons q g ih =>
              intro hm
              rw [List.lookup_cons]
              by_cases e : q.1 = k
              · exact ⟨q, by simp, e, by simp [e]⟩
              · have e2 : (k == q.1) = false := by simp; omega
                rw [e2]
                rw [List.map_cons] at hm
                obtain ⟨r, h1, h2, h3⟩ := ih (by rcases List.mem_cons.mp hm with z | z; exact absurd z.symm e; exact z)
                exact ⟨r, by simp [h1], h2, h3⟩
          have val : Nat → Rat := fun k => share * at0 left k + (1 - share) * at0 right k
          refine zLoop_ind (α := Nat) (f := natP) (fun m ρ S' => ∃ (done : List Nat) (o1 : Option D), done ++ m = ks ∧ S' = ((S.put p1 (.dic (left.map entP))).put p2 (.dic (right.map entP))).put p3 (.dic ((done.map fun k => (k, share * at0 left k + (1 - share) * at0 right k)).map entP)) ∧ (∀ q ∈ (done.map fun k => (k, share * at0 left k + (1 - share) * at0 right k)), SgSz q.2) ∧
            ρ = [some (.d (ptsP ps)), some (.d (lnP pr)), some (.d (.list (ks.map natP))), some (fr total), some (fr wanted), some (.d (.list (rs.map natP))), some (.ref p1), some (.ref p2), some (fr share), some (.ref p3), o1]) ?_ ?_ ks _ _ ⟨[], none, rfl, rfl, by simp, rfl⟩
          · rintro ρ S' ⟨done, o1, e, rfl, hsz, rfl⟩
            have e2 : done = ks := by simpa using e
            subst e2
            rw [hf] at hsz ⊢
            exact h p3 _ ((((Ext.refl S).put2 hp1).put2 hS2).put2 hS3) Sto.put_same hsz
          · rintro k m ρ S' ⟨done, o1, e, rfl, hsz, rfl⟩ ih
            have hkm : k ∈ ks := by rw [← e]; simp
            obtain ⟨q1, a1, a2, a3⟩ := get left k (by rw [kl]; exact (hmem2 k).mpr hkm)
            obtain ⟨q2, b1, b2, b3⟩ := get right k (by rw [kr]; exact List.mem_reverse.mpr ((hmem2 k).mpr hkm))
            have v1 : at0 left k = q1.2 := by unfold at0; rw [a3]; rfl
            have v2 : at0 right k = q2.2 := by unfold at0; rw [b3]; rfl
            have s1 := sl q1 a1
            have s2 := sr q2 b1
            have s3 : Sz 830002 (1 - share) := (Sz.one.sub ssz).mono (by decide)
            have s4 := ssz.mul s1
            have s5 := s3.mul s2
            have nd : (done ++ k :: m).Nodup := by rw [e]; exact hnd
            refine ⟨p1, _, k, _, rfl, (Sto.put_ne ne13).trans ((Sto.put_ne ne12).trans Sto.put_same), rfl, by rw [lk_ent, a3]; rfl, share, q1.2, rfl, ssz.big, s1.big, 1, share, rfl, Sz.one.big, ssz.big, p2, _, k, _, rfl, (Sto.put_ne ne23).trans Sto.put_same, rfl, by rw [lk_ent, b3]; rfl, _, q2.2, rfl, s3.big, s2.big, _, _, rfl, s4.big, s5.big, p3, _, k, _, rfl, Sto.put_same, rfl, rfl, ?_, ?_⟩
            · have := congrArg List.length e
              simp at this ⊢; omega
            · rw [Sto.put_put, putD_new]
              · refine ih _ _ ⟨done ++ [k], _, by simpa using e, ?_, ?_, rfl⟩
                · rw [List.map_append, List.map_append, ← v1, ← v2]; rfl
                · intro q hq
                  rw [List.map_append] at hq
                  rcases List.mem_append.mp hq with z | z
                  · exact hsz q z
                  · rw [List.map_singleton, List.mem_singleton] at z
                    rw [z]
                    show SgSz (share * at0 left k + (1 - share) * at0 right k)
                    rw [v1, v2]
                    exact (s4.add s5).mono (by decide)
              · intro q hq
                obtain ⟨r, hr, rfl⟩ := List.mem_map.mp hq
                obtain ⟨r2, hr2, rfl⟩ := List.mem_map.mp hr
                have := (List.nodup_append.mp nd).2.2 r2 hr2 k (by simp)
                show ((r2 : Nat) : Int) ≠ k
                omega
end
end Sl
set_option Elab.async false
set_option linter.all false
set_option maxRecDepth 100000
set_option maxHeartbeats 4000000
namespace Sl
open PySem PySem.Spec PyProof.Rows L2 Z
open Sg (Pt Ln PsOk PrOk Spread stand rise loS hiS offS ptAt insX byX fillGo momentOf shareOf at0 tot onOf signAt signsOf)
theorem look_mem {k : Nat} {v : Rat} : ∀ {f : List (Nat × Rat)}, f.lookup k = some v → (k, v) ∈ f
  | [], h => by simp at h
  | q :: f, h => by
    rw [List.lookup_cons] at h
    by_cases e : k = q.1
    · have e2 : (k == q.1) = true := by simp [e]
      rw [e2] at h
      have : q.2 = v := Option.some.inj h
      rw [e, ← this]; simp
    · have e2 : (k == q.1) = false := by simp; exact e
      rw [e2] at h
      exact List.mem_cons_of_mem _ (look_mem h)
theorem offO_eq (pr : Ln) (w r : Rat) : offO pr w r = if r = 0 then none else some (offS pr w r) := by
  unfold offO offS
  by_cases h1 : 0 < r
  · have h0 : ¬ r = 0 := by grind
    simp [h1, h0]
  · by_cases h2 : r < 0
    · have h0 : ¬ r = 0 := by grind
      simp [h1, h2, h0]
    · have h0 : r = 0 := by grind
      simp [h1, h2, h0]
theorem offS_zero (pr : Ln) (w : Rat) : offS pr w 0 = 0 := by
  unfold offS; rw [if_neg (by grind), if_neg (by grind)]
theorem map_range {β : Type} (ps : List Pt) (h : Pt → β) : ps.map h = (List.range ps.length).map fun k => h (ptAt ps k) := by
  conv => lhs; rw [← map_ptAt ps, List.map_map]
  rfl
theorem momL_range (ps : List Pt) (g : Nat → Rat) : momL ps ((List.range ps.length).map g) = tot (List.range ps.length) fun k => g k * (ptAt ps k).x := by
  unfold momL tot
  have e : ps.zip ((List.range ps.length).map g) = (List.range ps.length).map fun k => (ptAt ps k, g k) := by
    conv => lhs; arg 1; rw [← map_ptAt ps]
    rw [List.zip_map']
  rw [e, List.map_map]; rfl
theorem off_sz {pr : Ln} {w r : Rat} (h1 : PrSz pr) (h2 : Sz 400 w) : Sz 416 (offS pr w r) := by
  unfold offS
  split
  · exact hi_sz h1 h2
  · split
    · exact lo_sz h1 h2
    · exact Sz.zero.mono (by decide)
section
variable {P : Program} {w : World} {K : PySem.W.Frag} {mg : Str → Option Value} {base : Heap}
def sp_signs_of : ZC := fun ds S Q => ∃ (ps : List Pt) (pr l : Ln) (s : List Rat), ds = [.d (ptsP ps), .d (lnP pr), .d (lnP l)] ∧ Sps ps ∧ Prs pr ∧ LnSz l ∧ signsOf ps pr l = some s ∧ ∀ S', Ext S S' → (∀ q ∈ s, SgSz q) → Q (.d (.list (s.map frP))) S'
theorem sc_signs_of : FnScope ["points", "prices", "line", "told", "on", "off", "found", "point", "rise", "k", "sign"] ["points", "prices", "line"] (defScope s_signs_of) := ⟨rfl, rfl, rfl, by decide +kernel, rfl, by decide +kernel, by decide +kernel⟩
theorem C_signs_of (T : Txt fa fn P K mg base) (C_want_priced_signs : Callee P w K mg base 7 "want_priced_signs" 2 sp_want_priced_signs) (C_want_line : Callee P w K mg base 6 "want_line" 1 sp_want_line) (C_want_spread : Callee P w K mg base 7 "want_spread" 1 sp_want_spread) (C_balanced_on : Callee P w K mg base 38 "balanced_on" 5 sp_balanced_on) (C_sign_off : Callee P w K mg base 37 "sign_off" 3 sp_sign_off) (C_opposite : Callee P w K mg base 1 "opposite" 1 sp_opposite) (C_sum_of : Callee P w K mg base 36 "sum_of" 1 sp_sum_of) (C_moment : Callee P w K mg base 37 "moment" 2 sp_moment) (C_rises : Callee P w K mg base 38 "rises" 2 sp_rises) : Callee P w K mg base 39 "signs_of" 3 sp_signs_of :=
  callee T 94 100 (d := d_signs_of) rfl rfl rfl rfl rfl (fun _ _ _ _ _ _ us hl => match us, hl with | [_, _, _], _ => rfl) sc_signs_of (fun ds S Q h => by first | (obtain ⟨_, rfl, _⟩ := h; rfl) | (obtain ⟨_, _, rfl, _⟩ := h; rfl) | (obtain ⟨_, _, _, rfl, _⟩ := h; rfl) | (obtain ⟨_, _, _, _, rfl, _⟩ := h; rfl) | (obtain ⟨_, _, _, _, _, rfl, _⟩ := h; rfl) | (obtain ⟨_, _, _, _, _, _, rfl, _⟩ := h; rfl) | (obtain ⟨_, _, _, _, _, _, _, rfl, _⟩ := h; rfl) | (obtain ⟨_, _, _, _, _, _, _, _, rfl, _⟩ := h; rfl) | (obtain ⟨_, _, _, _, _, _, _, _, _, rfl, _⟩ := h; rfl) | (obtain ⟨_, _, _, _, _, _, _, _, _, _, rfl, _⟩ := h; rfl) | (obtain ⟨_, _, _, _, _, _, _, _, _, _, _, rfl, _⟩ := h; rfl) | (obtain ⟨_, _, _, _, _, _, _, _, _, _, _, _, rfl, _⟩ := h; rfl)) fun f cdv A outer s H hr => by
    have sc := sc_signs_of
    refine ⟨_, (zss_cons (zs_expr (ze_c1 C_want_priced_signs hr (za_cons (zv 0) (za_cons (zv 1) za_nil)))) (zss_cons (zs_expr (ze_c1 C_want_line hr (za_cons (zv 2) za_nil))) (zss_cons (zs_expr (ze_c1 C_want_spread hr (za_cons (zv 0) za_nil))) (zss_cons (zs_setLc (i := 3) (own := [("point", 7), ("rise", 8)]) (gok_tup (n := 2)) rfl sc.nd rfl rfl (sw_true rfl rfl rfl (by decide +kernel)) (zi_zip (by rfl) (T.free_ 9 rfl) (za_cons (zv 0) (za_cons (ze_c1 C_rises hr (za_cons (zv 0) (za_cons (zv 2) za_nil))) za_nil))) (blkOk_by rfl) (fun _ _ _ _ _ => pg_tup (n := 2) rfl (pgs_cons (pg_name (i := 7) sc.nd rfl (Or.inl rfl)) (pgs_cons (pg_name (i := 8) sc.nd rfl (Or.inl rfl)) pgs_nil))) (fun _ _ _ _ _ => zts_nil) (fun _ _ _ _ _ => (ze_c1 C_sign_off hr (za_cons (zv 1) (za_cons (zv 7) (za_cons (zv 8) za_nil)))))) (zss_cons (zs_setLc (i := 4) (own := [("k", 9), ("sign", 10)]) (gok_tup (n := 2)) rfl sc.nd rfl rfl (sw_true rfl rfl rfl (by decide +kernel)) (zi_enum (by rfl) (T.free_ 13 rfl) (za_cons (zv 3) za_nil)) (blkOk_by rfl) (fun _ _ _ _ _ => pg_tup (n := 2) rfl (pgs_cons (pg_name (i := 9) sc.nd rfl (Or.inl rfl)) (pgs_cons (pg_name (i := 10) sc.nd rfl (Or.inl rfl)) pgs_nil))) (fun _ _ _ _ _ => zts_one (zb_cmp zop_isR (zv 10) ze_non (by rfl))) (fun _ _ _ _ _ => (zv 9))) (zss_cons (zs_setLc (i := 5) (own := [("sign", 10)]) gok_one rfl sc.nd rfl rfl (sw_true rfl rfl rfl (by decide +kernel)) (zi_list (zv 3)) (blkOk_by rfl) (fun _ _ _ _ _ => pg_name (i := 10) sc.nd rfl (Or.inl rfl)) (fun _ _ _ _ _ => zts_nil) (fun _ _ _ _ _ => (ze_if (zb_cmp zop_isR (zv 10) ze_non (by rfl)) (ze_gtup (by rfl) (T.glo_ 133 rfl) T.nought) (zv 10)))) (zss_cons (zs_set (i := 6) sc.nd rfl (Or.inr rfl) (ze_c1 C_balanced_on hr (za_cons (zv 0) (za_cons (zv 1) (za_cons (zv 4) (za_cons (ze_c1 C_opposite hr (za_cons (ze_c1 C_sum_of hr (za_cons (zv 5) za_nil)) za_nil)) (za_cons (ze_c1 C_opposite hr (za_cons (ze_c1 C_moment hr (za_cons (zv 0) (za_cons (zv 5) za_nil))) za_nil)) za_nil))))))) (zss_cons (zs_if (zb_cmp zop_isR (zv 6) ze_non (by rfl)) (zss_one (zs_ret ze_non)) zss_nil) (zss_one (zs_ret (ze_lc (own := [("k", 9), ("sign", 10)]) (gok_tup (n := 2)) rfl sc.nd (zi_enum (by rfl) (T.free_ 13 rfl) (za_cons (zv 5) za_nil)) (blkOk_by rfl) (fun _ _ _ _ _ => pg_tup (n := 2) rfl (pgs_cons (pg_name (i := 9) sc.nd rfl (Or.inl rfl)) (pgs_cons (pg_name (i := 10) sc.nd rfl (Or.inl rfl)) pgs_nil))) (fun _ _ _ _ _ => zts_nil) (fun _ _ _ _ _ => (ze_dget2 (Roomu hr 1) (zv 6) (zv 9) (zv 10) ⟨by rfl, by rfl, by rfl, by rfl⟩))))))))))))), fun ds S Q h => ?_⟩
    obtain ⟨ps, pr, l, s, rfl, ⟨hp, hs⟩, hr2, hl, hsg, h⟩ := h
    have hn := hp.le
    have psz : ∀ k ∈ List.range ps.length, PtSz (ptAt ps k) := fun k hk => ptAt_sz hp.sz (List.mem_range.mp hk)
    refine ⟨ps, pr, rfl, hp, hr2, l, rfl, ps, rfl, hp, hs, ps, l, rfl, hp, hl, ?_⟩
    show Nat.ble (((ps.map ptP).zip ((ps.map fun p => rise p l).map frP)).map fun p => PyData.tuple [p.1, p.2]).length 1000 = true ∧ zLcL _ _ _ _ (((ps.map ptP).zip ((ps.map fun p => rise p l).map frP)).map fun p => PyData.tuple [p.1, p.2]) [] _ _
    rw [zipP, zip_self, List.map_map]
    refine ⟨len1000 (by omega), zLcL_map (f := fun p => PyData.tuple [ptP p, frP (rise p l)]) (fun p => oP (offO pr p.w (rise p l))) ps [] (fun p hm acc l' k => ⟨rfl, zyes rfl ⟨pr, p, rise p l, rfl, hr2.1, hp.sz p hm, (rise_sz hl (hp.sz p hm)).big, k⟩⟩) ?_⟩
    rw [List.nil_append, map_range]
    -- those on the line
    show Nat.ble ((((List.range ps.length).map fun k => oP (offO pr (ptAt ps k).w (rise (ptAt ps k) l))).zipIdx).map fun p => PyData.tuple [.int p.2, p.1]).length 1000 = true ∧ zLcL _ _ _ _ ((((List.range ps.length).map fun k => oP (offO pr (ptAt ps k).w (rise (ptAt ps k) l))).zipIdx).map fun p => PyData.tuple [.int p.2, p.1]) [] _ _
    rw [zipIdx_range, List.map_map]
    have test : ∀ (k : Nat), offO pr (ptAt ps k).w (rise (ptAt ps k) l) = if rise (ptAt ps k) l = 0 then none else some (offS pr (ptAt ps k).w (rise (ptAt ps k) l)) := fun k => offO_eq _ _ _
    refine ⟨len1000 (by rw [List.length_range]; omega), zLcL_fm (f := fun k : Nat => PyData.tuple [.int k, oP (offO pr (ptAt ps k).w (rise (ptAt ps k) l))]) (fun k => decide (rise (ptAt ps k) l = 0)) natP (List.range ps.length) [] (fun k hm acc l' k1 k2 => ?_) ?_⟩
    · rw [test k]
      refine ⟨rfl, ?_⟩
      by_cases c : rise (ptAt ps k) l = 0
      · rw [if_pos c]
        exact zyes rfl (k1 (decide_eq_true c))
      · rw [if_neg c]
        exact zno rfl (k2 (decide_eq_false c))
    rw [List.nil_append]
    show _ ∧ zLcL _ _ _ _ ((List.range ps.length).map fun k => oP (offO pr (ptAt ps k).w (rise (ptAt ps k) l))) [] _ _
    refine ⟨len1000 (by rw [List.length_range]; omega), zLcL_map (f := fun k : Nat => oP (offO pr (ptAt ps k).w (rise (ptAt ps k) l))) (fun k => frP (offS pr (ptAt ps k).w (rise (ptAt ps k) l))) (List.range ps.length) [] (fun k hm acc l' kk => ?_) ?_⟩
    · rw [test k]
      by_cases c : rise (ptAt ps k) l = 0
      · rw [if_pos c]
        rw [c, offS_zero] at kk
        exact zyes rfl (zyes rfl kk)
      · rw [if_neg c]
        exact zyes rfl (zno rfl kk)
    rw [List.nil_append]
    have osz : ∀ q ∈ (List.range ps.length).map fun k => offS pr (ptAt ps k).w (rise (ptAt ps k) l), Sz 416 q := fun q hq => by
      obtain ⟨k, hk, rfl⟩ := List.mem_map.mp hq
      exact off_sz hr2.1 (psz k hk).w
    have e1 : (List.range ps.length).map (fun k => frP (offS pr (ptAt ps k).w (rise (ptAt ps k) l))) = ((List.range ps.length).map fun k => offS pr (ptAt ps k).w (rise (ptAt ps k) l)).map frP := by rw [List.map_map]; rfl
    rw [e1]
    have lo : ((List.range ps.length).map fun k => offS pr (ptAt ps k).w (rise (ptAt ps k) l)).length ≤ 12 := by rw [List.length_map, List.length_range]; exact hn
    refine ⟨416, _, rfl, osz, by omega, _, rfl, ps, _, rfl, hn, hp.sz, fun q hq => (osz q hq).mono (by decide), _, rfl, ?_⟩
    have t1 : Sz 6000 (-((List.range ps.length).map fun k => offS pr (ptAt ps k).w (rise (ptAt ps k) l)).sum) := ((Sz.sum osz).mono (by omega)).neg
    have t2 : Sz 10000 (-(momL ps ((List.range ps.length).map fun k => offS pr (ptAt ps k).w (rise (ptAt ps k) l)))) := by
      rw [momL_range]
      have h0 : Sz (((List.range ps.length).map fun k => offS pr (ptAt ps k).w (rise (ptAt ps k) l) * (ptAt ps k).x).length * (816 + 1) + 1) (((List.range ps.length).map fun k => offS pr (ptAt ps k).w (rise (ptAt ps k) l) * (ptAt ps k).x).sum) := Sz.sum fun q hq => by
        obtain ⟨k, hk, rfl⟩ := List.mem_map.mp hq
        exact (off_sz hr2.1 (psz k hk).w).mul (psz k hk).x
      rw [List.length_map, List.length_range] at h0
      exact (h0.mono (by omega)).neg
    unfold signsOf at hsg
    have onl : (onOf ps l).length ≤ 12 := by
      unfold onOf
      refine Nat.le_trans (List.length_filter_le _ _) ?_
      rw [List.length_range]; exact hn
    cases ef : Sg.balancedOn (fun k => (ptAt ps k).x) (fun k => loS pr (ptAt ps k).w) (fun k => hiS pr (ptAt ps k).w) (onOf ps l) (-(tot (List.range ps.length) fun k => offS pr (ptAt ps k).w (rise (ptAt ps k) l))) (-(tot (List.range ps.length) fun k => offS pr (ptAt ps k).w (rise (ptAt ps k) l) * (ptAt ps k).x)) with
    | none => rw [ef] at hsg; cases hsg
    | some f =>
      rw [ef] at hsg
      have hsg : (List.range ps.length).map (signAt pr ps l f) = s := Option.some.inj hsg
      rw [momL_range] at t2 ⊢
      refine ⟨ps, pr, onOf ps l, _, _, f, rfl, hp.sz, hr2.1, onl, List.Pairwise.filter _ List.nodup_range, fun k hk => List.mem_range.mp (List.mem_filter.mp hk).1, t1, t2, ef, fun p S' hx hS' fsz => zno rfl ?_⟩
      show Nat.ble (((((List.range ps.length).map fun k => offS pr (ptAt ps k).w (rise (ptAt ps k) l)).map frP).zipIdx).map fun p => PyData.tuple [.int p.2, p.1]).length 1000 = true ∧ zLcL _ _ _ _ (((((List.range ps.length).map fun k => offS pr (ptAt ps k).w (rise (ptAt ps k) l)).map frP).zipIdx).map fun p => PyData.tuple [.int p.2, p.1]) [] _ _
      rw [← e1, zipIdx_range, List.map_map]
      refine ⟨len1000 (by rw [List.length_range]; omega), zLcL_map (f := fun k : Nat => PyData.tuple [.int k, frP (offS pr (ptAt ps k).w (rise (ptAt ps k) l))]) (fun k => frP (signAt pr ps l f k)) (List.range ps.length) [] (fun k hm acc l' kk => ⟨rfl, zyes rfl ⟨p, _, rfl, hS', k, _, hS', rfl, rfl, ?_⟩⟩) ?_⟩
      · rw [lk_ent]
        have e3 : ((f.lookup k).map frP).getD (frP (offS pr (ptAt ps k).w (rise (ptAt ps k) l))) = frP (signAt pr ps l f k) := by
          unfold signAt
          cases f.lookup k <;> rfl
        rw [e3]
        exact kk
      · rw [List.nil_append]
        have e4 : (List.range ps.length).map (fun k => frP (signAt pr ps l f k)) = s.map frP := by rw [← hsg, List.map_map]; rfl
        rw [e4]
        refine h S' hx fun q hq => ?_
        rw [← hsg] at hq
        obtain ⟨k, hk, rfl⟩ := List.mem_map.mp hq
        unfold signAt
        cases e5 : f.lookup k with
        | none => exact (off_sz hr2.1 (psz k hk).w).mono (by decide)
        | some v =>
          have hin := look_mem e5
          exact fsz (k, v) hin
def sp_best_signs : ZC := fun ds S Q => ∃ (ps : List Pt) (pr l : Ln) (ls : List Ln) (s : List Rat), ds = [.d (ptsP ps), .d (lnP pr)] ∧ Sps ps ∧ Prs pr ∧ corners ps pr = l :: ls ∧ signsOf ps pr l = some s ∧ ∀ S', Ext S S' → (∀ q ∈ s, SgSz q) → Q (.d (.list (s.map frP))) S'
theorem sc_best_signs : FnScope ["points", "prices"] ["points", "prices"] (defScope s_best_signs) := ⟨rfl, rfl, rfl, by decide +kernel, rfl, by decide +kernel, by decide +kernel⟩
theorem C_best_signs (T : Txt fa fn P K mg base) (C_want_priced_signs : Callee P w K mg base 7 "want_priced_signs" 2 sp_want_priced_signs) (C_want_spread : Callee P w K mg base 7 "want_spread" 1 sp_want_spread) (C_signs_of : Callee P w K mg base 39 "signs_of" 3 sp_signs_of) (C_best_line : Callee P w K mg base 41 "best_line" 2 sp_best_line) : Callee P w K mg base 42 "best_signs" 2 sp_best_signs :=
  callee T 95 101 (d := d_best_signs) rfl rfl rfl rfl rfl (fun _ _ _ _ _ _ us hl => match us, hl with | [_, _], _ => rfl) sc_best_signs (fun ds S Q h => by first | (obtain ⟨_, rfl, _⟩ := h; rfl) | (obtain ⟨_, _, rfl, _⟩ := h; rfl) | (obtain ⟨_, _, _, rfl, _⟩ := h; rfl) | (obtain ⟨_, _, _, _, rfl, _⟩ := h; rfl) | (obtain ⟨_, _, _, _, _, rfl, _⟩ := h; rfl) | (obtain ⟨_, _, _, _, _, _, rfl, _⟩ := h; rfl) | (obtain ⟨_, _, _, _, _, _, _, rfl, _⟩ := h; rfl) | (obtain ⟨_, _, _, _, _, _, _, _, rfl, _⟩ := h; rfl) | (obtain ⟨_, _, _, _, _, _, _, _, _, rfl, _⟩ := h; rfl) | (obtain ⟨_, _, _, _, _, _, _, _, _, _, rfl, _⟩ := h; rfl) | (obtain ⟨_, _, _, _, _, _, _, _, _, _, _, rfl, _⟩ := h; rfl) | (obtain ⟨_, _, _, _, _, _, _, _, _, _, _, _, rfl, _⟩ := h; rfl)) fun f cdv A outer s H hr => by
    have sc := sc_best_signs
    refine ⟨_, (zss_cons (zs_expr (ze_c1 C_want_priced_signs hr (za_cons (zv 0) (za_cons (zv 1) za_nil)))) (zss_cons (zs_expr (ze_c1 C_want_spread hr (za_cons (zv 0) za_nil))) (zss_one (zs_ret (ze_c1 C_signs_of hr (za_cons (zv 0) (za_cons (zv 1) (za_cons (ze_c1 C_best_line hr (za_cons (zv 0) (za_cons (zv 1) za_nil))) za_nil)))))))), fun ds S Q h => ?_⟩
    obtain ⟨ps, pr, l, ls, s, rfl, hps, hr2, hc, hsg, h⟩ := h
    have hl : l ∈ corners ps pr := by rw [hc]; simp
    have hlz := allPairs_sz hps.1.sz (List.mem_filter.mp hl).1
    exact ⟨ps, pr, rfl, hps.1, hr2, ps, rfl, hps.1, hps.2, ps, pr, l, ls, rfl, hps, hr2, hc, ps, pr, l, s, rfl, hps, hr2, hlz, hsg, h⟩
end
end Sl
set_option Elab.async false
set_option linter.all false
set_option maxRecDepth 100000
set_option maxHeartbeats 4000000
namespace Sl
open PySem PySem.Spec PyProof.Rows L2 Z
open Sg (Pt Ln PsOk PrOk Spread stand rise loS hiS phi)
/-- a place with a height: two coordinates, the height, the weight -/
structure Spot where
  x : Rat
  y : Rat
  z : Rat
  w : Rat
structure Plane where
  h : Rat
  a : Rat
  c : Rat
def spP (s : Spot) : PyData := .tuple [frP s.x, frP s.y, frP s.z, frP s.w]
def plP (p : Plane) : PyData := .tuple [frP p.h, frP p.a, frP p.c]
structure SpSz (s : Spot) : Prop where
  x : Sz 400 s.x
  y : Sz 400 s.y
  z : Sz 400 s.z
  w : Sz 400 s.w
structure PlSz (p : Plane) : Prop where
  h : Sz 15000 p.h
  a : Sz 15000 p.a
  c : Sz 15000 p.c
structure Spots (ss : List Spot) : Prop where
  ne : ss ≠ []
  le : ss.length ≤ 8
  sz : ∀ s ∈ ss, SpSz s
  ok : ∀ s ∈ ss, 0 < s.w
def riseP (s : Spot) (p : Plane) : Rat := s.z - (p.h + (p.a * s.x + p.c * s.y))
def costP (ss : List Spot) (pr : Ln) (p : Plane) : Rat := (ss.map fun s => s.w * phi pr (riseP s p)).sum
def laid (ps : List Pt) (a b : Rat) : List Spot := ps.flatMap fun p => [⟨p.x, a, p.y, p.w⟩, ⟨p.x, b, p.y, p.w⟩]
theorem riseP_sz {s : Spot} {p : Plane} (hs : SpSz s) (hp : PlSz p) : Sz 50000 (riseP s p) := (hs.z.sub (hp.h.add ((hp.a.mul hs.x).add (hp.c.mul hs.y)))).mono (by decide)
theorem rise_ends (pr : Ln) (w r : Rat) : r * (if 0 < r then pr.1 * w else -(pr.2 * w)) = w * phi pr r := by
  unfold phi
  split <;> grind
theorem part_sz {s : Spot} {p : Plane} {pr : Ln} (hs : SpSz s) (hp : PlSz p) (hr : PrSz pr) : Sz 50500 (s.w * phi pr (riseP s p)) := by
  rw [← rise_ends]
  have h1 := riseP_sz hs hp
  split
  · exact (h1.mul (hr.1.mul hs.w)).mono (by decide)
  · exact (h1.mul (hr.2.mul hs.w).neg).mono (by decide)
theorem costP_sz {ss : List Spot} {p : Plane} {pr : Ln} (hn : ss.length ≤ 8) (hs : ∀ s ∈ ss, SpSz s) (hp : PlSz p) (hr : PrSz pr) : Sz 500000 (costP ss pr p) := by
  have h : Sz ((ss.map fun s => s.w * phi pr (riseP s p)).length * (50500 + 1) + 1) (ss.map fun s => s.w * phi pr (riseP s p)).sum := Sz.sum fun q hq => by
    obtain ⟨s, hm, rfl⟩ := List.mem_map.mp hq
    exact part_sz (hs s hm) hp hr
  rw [List.length_map] at h
  exact h.mono (by omega)
theorem grow_ok (k c d : Nat) (h : d + 1 ≤ c) : k * c + 1 + d + 1 ≤ (k + 1) * c + 1 := by rw [Nat.succ_mul]; omega
theorem pick_sign {r a b : Rat} {S : Sto} {R : D → Sto → Prop} (h1 : 0 < r → R (fr b) S) (h2 : ¬ 0 < r → R (fr a) S) :
    zIx (fr r) (.d (.int 0)) S fun x S1 => zGt x (.d (.int 0)) S1 fun x S1 => zInt1 [x] S1 fun y S2 => zIx (.d (prP a b)) y S2 R := by
  show zIx (.d (prP a b)) (.d (.int (if decide (0 < r.num) = true then 1 else 0))) S R
  rw [num_pos]
  by_cases c : 0 < r
  · rw [decide_eq_true c]
    exact h1 c
  · rw [decide_eq_false c]
    exact h2 c
section
variable {P : Program} {w : World} {K : PySem.W.Frag} {mg : Str → Option Value} {base : Heap}
def sp_are_fractions_spots : ZC := fun ds S Q => ∃ (n : Nat) (l : List Rat), ds = [.d (.tuple (l.map frP)), .d (.int n)] ∧ l.length = n ∧ n ≤ 1000 ∧ Q (.d (.bool true)) S
theorem sc_are_fractions_spots : FnScope ["thing", "many", "part"] ["thing", "many"] (defScope s_are_fractions_spots) := ⟨rfl, rfl, rfl, by decide +kernel, rfl, by decide +kernel, by decide +kernel⟩
theorem C_are_fractions_spots (T : Txt fa fn P K mg base) (C_is_fraction : Callee P w K mg base 2 "is_fraction" 1 sp_is_fraction) : Callee P w K mg base 3 "are_fractions_spots" 2 sp_are_fractions_spots :=
  callee T 61 67 (d := d_are_fractions_spots) rfl rfl rfl rfl rfl (fun _ _ _ _ _ _ us hl => match us, hl with | [_, _], _ => rfl) sc_are_fractions_spots (fun ds S Q h => by first | (obtain ⟨_, rfl, _⟩ := h; rfl) | (obtain ⟨_, _, rfl, _⟩ := h; rfl) | (obtain ⟨_, _, _, rfl, _⟩ := h; rfl) | (obtain ⟨_, _, _, _, rfl, _⟩ := h; rfl) | (obtain ⟨_, _, _, _, _, rfl, _⟩ := h; rfl) | (obtain ⟨_, _, _, _, _, _, rfl, _⟩ := h; rfl) | (obtain ⟨_, _, _, _, _, _, _, rfl, _⟩ := h; rfl) | (obtain ⟨_, _, _, _, _, _, _, _, rfl, _⟩ := h; rfl) | (obtain ⟨_, _, _, _, _, _, _, _, _, rfl, _⟩ := h; rfl) | (obtain ⟨_, _, _, _, _, _, _, _, _, _, rfl, _⟩ := h; rfl) | (obtain ⟨_, _, _, _, _, _, _, _, _, _, _, rfl, _⟩ := h; rfl) | (obtain ⟨_, _, _, _, _, _, _, _, _, _, _, _, rfl, _⟩ := h; rfl)) fun f cdv A outer s H hr => by
    have sc := sc_are_fractions_spots
    refine ⟨_, (zss_one (zs_ret (ze_and (ze_isi (T := "tuple") (by rfl) (T.free_ 6 rfl) (by rfl) (T.free_ 11 rfl) (by decide +kernel) (zv 0) (by decide +kernel)) (ze_and (ze_cmp (zop_eq (Roomu hr 64)) (ze_callB zc_len (by rfl) (T.free_ 8 rfl) (by decide +kernel) (za_cons (zv 0) za_nil)) (zv 1) (by rfl)) (ze_one (ze_callB (zc_all rfl) (by rfl) (T.free_ 3 rfl) (by decide +kernel) (za_cons (ze_lc (own := [("part", 2)]) gok_one rfl sc.nd (zi_tup (zv 0)) (blkOk_by rfl) (fun _ _ _ _ _ => pg_name (i := 2) sc.nd rfl (Or.inl rfl)) (fun _ _ _ _ _ => zts_nil) (fun _ _ _ _ _ => (ze_c1 C_is_fraction hr (za_cons (zv 2) za_nil)))) za_nil))))))), fun ds S Q h => ?_⟩
    obtain ⟨n, l, rfl, hn, hl, h⟩ := h
    refine zyes rfl ⟨_, eqo_int _ _, zyes (decide_eq_true (by rw [List.length_map, hn])) ⟨len1000 (by omega), zLcL_map (f := frP) (fun _ => .bool true) l [] (fun q hm acc l' k => zyes rfl ⟨q, rfl, k⟩) ⟨_, l.map fun _ => true, rfl, by simp [Z.seen, Function.comp_def], ?_⟩⟩⟩
    have e : (l.map fun _ => true).all id = true := by simp [List.all_map]
    rw [e]
    exact h
def sp_is_spots : ZC := fun ds S Q => ∃ ss : List Spot, ds = [.d (.list (ss.map spP))] ∧ Spots ss ∧ Q (.d (.bool true)) S
theorem sc_is_spots : FnScope ["thing", "one"] ["thing"] (defScope s_is_spots) := ⟨rfl, rfl, rfl, by decide +kernel, rfl, by decide +kernel, by decide +kernel⟩
theorem C_is_spots (T : Txt fa fn P K mg base) (C_are_fractions_spots : Callee P w K mg base 3 "are_fractions_spots" 2 sp_are_fractions_spots) : Callee P w K mg base 4 "is_spots" 1 sp_is_spots :=
  callee T 62 68 (d := d_is_spots) rfl rfl rfl rfl rfl (fun _ _ _ _ _ _ us hl => match us, hl with | [_], _ => rfl) sc_is_spots (fun ds S Q h => by first | (obtain ⟨_, rfl, _⟩ := h; rfl) | (obtain ⟨_, _, rfl, _⟩ := h; rfl) | (obtain ⟨_, _, _, rfl, _⟩ := h; rfl) | (obtain ⟨_, _, _, _, rfl, _⟩ := h; rfl) | (obtain ⟨_, _, _, _, _, rfl, _⟩ := h; rfl) | (obtain ⟨_, _, _, _, _, _, rfl, _⟩ := h; rfl) | (obtain ⟨_, _, _, _, _, _, _, rfl, _⟩ := h; rfl) | (obtain ⟨_, _, _, _, _, _, _, _, rfl, _⟩ := h; rfl) | (obtain ⟨_, _, _, _, _, _, _, _, _, rfl, _⟩ := h; rfl) | (obtain ⟨_, _, _, _, _, _, _, _, _, _, rfl, _⟩ := h; rfl) | (obtain ⟨_, _, _, _, _, _, _, _, _, _, _, rfl, _⟩ := h; rfl) | (obtain ⟨_, _, _, _, _, _, _, _, _, _, _, _, rfl, _⟩ := h; rfl)) fun f cdv A outer s H hr => by
    have sc := sc_is_spots
    refine ⟨_, (zss_cons (zs_if (PW.pt (zw_or (zb_not (zb_val (ze_isi (T := "list") (by rfl) (T.free_ 6 rfl) (by rfl) (T.free_ 2 rfl) (by decide +kernel) (zv 0) (by decide +kernel)))) (zw_or (zb_cmp zop_lt (ze_callB zc_len (by rfl) (T.free_ 8 rfl) (by decide +kernel) (za_cons (zv 0) za_nil)) ze_int (by rfl)) (zw_or1 (zb_cmp zop_gt (ze_callB zc_len (by rfl) (T.free_ 8 rfl) (by decide +kernel) (za_cons (zv 0) za_nil)) (ze_gint_ (i := 8) (by rfl) (T.int_ 136 rfl)) (by rfl)))))) (zss_one (zs_ret ze_bl)) zss_nil) (zss_one (zs_ret (ze_callB (zc_all rfl) (by rfl) (T.free_ 3 rfl) (by decide +kernel) (za_cons (ze_lc (own := [("one", 1)]) gok_one rfl sc.nd (zi_list (zv 0)) (blkOk_by rfl) (fun _ _ _ _ _ => pg_name (i := 1) sc.nd rfl (Or.inl rfl)) (fun _ _ _ _ _ => zts_nil) (fun _ _ _ _ _ => (ze_and (ze_c1 C_are_fractions_spots hr (za_cons (zv 1) (za_cons ze_int za_nil))) (ze_one (ze_cmp zop_gt (ze_ix zix (ze_ix zix (zv 1) ze_int) ze_int) ze_int (by rfl)))))) za_nil))))), fun ds S Q h => ?_⟩
    obtain ⟨ss, rfl, hp, h⟩ := h
    have hl : 1 ≤ ss.length := by have := hp.ne; cases ss with | nil => exact absurd rfl this | cons _ _ => simp
    have hl2 := hp.le
    refine zno rfl (zno (decide_eq_false (by simp; omega)) (zno (decide_eq_false (by simp; omega)) ?_))
    refine ⟨len1000 (by omega), zLcL_map (f := spP) (fun _ => .bool true) ss [] (fun s hm acc l' k => zyes rfl ⟨4, [s.x, s.y, s.z, s.w], rfl, rfl, by decide, zyes rfl ?_⟩) ⟨_, ss.map fun _ => true, rfl, by simp [Z.seen, Function.comp_def], ?_⟩⟩
    · have e : decide (0 < s.w.num) = true := by rw [num_pos]; exact decide_eq_true (hp.ok s hm)
      rw [← e] at k
      exact k
    · have e : (ss.map fun _ => true).all id = true := by simp [List.all_map]
      rw [e]
      exact h
def sp_is_plane : ZC := fun ds S Q => ∃ p : Plane, ds = [.d (plP p)] ∧ Q (.d (.bool true)) S
theorem sc_is_plane : FnScope ["thing"] ["thing"] (defScope s_is_plane) := ⟨rfl, rfl, rfl, by decide +kernel, rfl, by decide +kernel, by decide +kernel⟩
theorem C_is_plane (T : Txt fa fn P K mg base) (C_are_fractions_spots : Callee P w K mg base 3 "are_fractions_spots" 2 sp_are_fractions_spots) : Callee P w K mg base 4 "is_plane" 1 sp_is_plane :=
  callee T 63 69 (d := d_is_plane) rfl rfl rfl rfl rfl (fun _ _ _ _ _ _ us hl => match us, hl with | [_], _ => rfl) sc_is_plane (fun ds S Q h => by first | (obtain ⟨_, rfl, _⟩ := h; rfl) | (obtain ⟨_, _, rfl, _⟩ := h; rfl) | (obtain ⟨_, _, _, rfl, _⟩ := h; rfl) | (obtain ⟨_, _, _, _, rfl, _⟩ := h; rfl) | (obtain ⟨_, _, _, _, _, rfl, _⟩ := h; rfl) | (obtain ⟨_, _, _, _, _, _, rfl, _⟩ := h; rfl) | (obtain ⟨_, _, _, _, _, _, _, rfl, _⟩ := h; rfl) | (obtain ⟨_, _, _, _, _, _, _, _, rfl, _⟩ := h; rfl) | (obtain ⟨_, _, _, _, _, _, _, _, _, rfl, _⟩ := h; rfl) | (obtain ⟨_, _, _, _, _, _, _, _, _, _, rfl, _⟩ := h; rfl) | (obtain ⟨_, _, _, _, _, _, _, _, _, _, _, rfl, _⟩ := h; rfl) | (obtain ⟨_, _, _, _, _, _, _, _, _, _, _, _, rfl, _⟩ := h; rfl)) fun f cdv A outer s H hr => by
    have sc := sc_is_plane
    refine ⟨_, (zss_one (zs_ret (ze_c1 C_are_fractions_spots hr (za_cons (zv 0) (za_cons ze_int za_nil))))), fun ds S Q h => ?_⟩
    obtain ⟨p, rfl, h⟩ := h
    exact ⟨3, [p.h, p.a, p.c], rfl, rfl, by decide, h⟩
def sp_want_spots : ZC := fun ds S Q => ∃ ss : List Spot, ds = [.d (.list (ss.map spP))] ∧ Spots ss ∧ Q (.d .none) S
theorem sc_want_spots : FnScope ["spots"] ["spots"] (defScope s_want_spots) := ⟨rfl, rfl, rfl, by decide +kernel, rfl, by decide +kernel, by decide +kernel⟩
theorem C_want_spots (T : Txt fa fn P K mg base) (C_is_spots : Callee P w K mg base 4 "is_spots" 1 sp_is_spots) : Callee P w K mg base 5 "want_spots" 1 sp_want_spots :=
  callee T 64 70 (d := d_want_spots) rfl rfl rfl rfl rfl (fun _ _ _ _ _ _ us hl => match us, hl with | [_], _ => rfl) sc_want_spots (fun ds S Q h => by first | (obtain ⟨_, rfl, _⟩ := h; rfl) | (obtain ⟨_, _, rfl, _⟩ := h; rfl) | (obtain ⟨_, _, _, rfl, _⟩ := h; rfl) | (obtain ⟨_, _, _, _, rfl, _⟩ := h; rfl) | (obtain ⟨_, _, _, _, _, rfl, _⟩ := h; rfl) | (obtain ⟨_, _, _, _, _, _, rfl, _⟩ := h; rfl) | (obtain ⟨_, _, _, _, _, _, _, rfl, _⟩ := h; rfl) | (obtain ⟨_, _, _, _, _, _, _, _, rfl, _⟩ := h; rfl) | (obtain ⟨_, _, _, _, _, _, _, _, _, rfl, _⟩ := h; rfl) | (obtain ⟨_, _, _, _, _, _, _, _, _, _, rfl, _⟩ := h; rfl) | (obtain ⟨_, _, _, _, _, _, _, _, _, _, _, rfl, _⟩ := h; rfl) | (obtain ⟨_, _, _, _, _, _, _, _, _, _, _, _, rfl, _⟩ := h; rfl)) fun f cdv A outer s H hr => by
    have sc := sc_want_spots
    refine ⟨_, (zss_one (zs_if (zb_not (zb_val (ze_c1 C_is_spots hr (za_cons (zv 0) za_nil)))) zss_never zss_nil)), fun ds S Q h => ?_⟩
    obtain ⟨ss, rfl, hp, h⟩ := h
    exact ⟨ss, rfl, hp, zno rfl h⟩
def sp_want_priced_spots : ZC := fun ds S Q => ∃ (ss : List Spot) (pr : Ln), ds = [.d (.list (ss.map spP)), .d (lnP pr)] ∧ Spots ss ∧ Prs pr ∧ Q (.d .none) S
theorem sc_want_priced_spots : FnScope ["spots", "prices"] ["spots", "prices"] (defScope s_want_priced_spots) := ⟨rfl, rfl, rfl, by decide +kernel, rfl, by decide +kernel, by decide +kernel⟩
theorem C_want_priced_spots (T : Txt fa fn P K mg base) (C_want_spots : Callee P w K mg base 5 "want_spots" 1 sp_want_spots) (C_want_prices : Callee P w K mg base 6 "want_prices" 1 sp_want_prices) : Callee P w K mg base 7 "want_priced_spots" 2 sp_want_priced_spots :=
  callee T 65 71 (d := d_want_priced_spots) rfl rfl rfl rfl rfl (fun _ _ _ _ _ _ us hl => match us, hl with | [_, _], _ => rfl) sc_want_priced_spots (fun ds S Q h => by first | (obtain ⟨_, rfl, _⟩ := h; rfl) | (obtain ⟨_, _, rfl, _⟩ := h; rfl) | (obtain ⟨_, _, _, rfl, _⟩ := h; rfl) | (obtain ⟨_, _, _, _, rfl, _⟩ := h; rfl) | (obtain ⟨_, _, _, _, _, rfl, _⟩ := h; rfl) | (obtain ⟨_, _, _, _, _, _, rfl, _⟩ := h; rfl) | (obtain ⟨_, _, _, _, _, _, _, rfl, _⟩ := h; rfl) | (obtain ⟨_, _, _, _, _, _, _, _, rfl, _⟩ := h; rfl) | (obtain ⟨_, _, _, _, _, _, _, _, _, rfl, _⟩ := h; rfl) | (obtain ⟨_, _, _, _, _, _, _, _, _, _, rfl, _⟩ := h; rfl) | (obtain ⟨_, _, _, _, _, _, _, _, _, _, _, rfl, _⟩ := h; rfl) | (obtain ⟨_, _, _, _, _, _, _, _, _, _, _, _, rfl, _⟩ := h; rfl)) fun f cdv A outer s H hr => by
    have sc := sc_want_priced_spots
    refine ⟨_, (zss_cons (zs_expr (ze_c1 C_want_spots hr (za_cons (zv 0) za_nil))) (zss_one (zs_expr (ze_c1 C_want_prices hr (za_cons (zv 1) za_nil))))), fun ds S Q h => ?_⟩
    obtain ⟨ss, pr, rfl, hp, hr2, h⟩ := h
    exact ⟨ss, rfl, hp, pr, rfl, hr2, h⟩
def sp_want_plane : ZC := fun ds S Q => ∃ p : Plane, ds = [.d (plP p)] ∧ Q (.d .none) S
theorem sc_want_plane : FnScope ["plane"] ["plane"] (defScope s_want_plane) := ⟨rfl, rfl, rfl, by decide +kernel, rfl, by decide +kernel, by decide +kernel⟩
theorem C_want_plane (T : Txt fa fn P K mg base) (C_is_plane : Callee P w K mg base 4 "is_plane" 1 sp_is_plane) : Callee P w K mg base 5 "want_plane" 1 sp_want_plane :=
  callee T 66 72 (d := d_want_plane) rfl rfl rfl rfl rfl (fun _ _ _ _ _ _ us hl => match us, hl with | [_], _ => rfl) sc_want_plane (fun ds S Q h => by first | (obtain ⟨_, rfl, _⟩ := h; rfl) | (obtain ⟨_, _, rfl, _⟩ := h; rfl) | (obtain ⟨_, _, _, rfl, _⟩ := h; rfl) | (obtain ⟨_, _, _, _, rfl, _⟩ := h; rfl) | (obtain ⟨_, _, _, _, _, rfl, _⟩ := h; rfl) | (obtain ⟨_, _, _, _, _, _, rfl, _⟩ := h; rfl) | (obtain ⟨_, _, _, _, _, _, _, rfl, _⟩ := h; rfl) | (obtain ⟨_, _, _, _, _, _, _, _, rfl, _⟩ := h; rfl) | (obtain ⟨_, _, _, _, _, _, _, _, _, rfl, _⟩ := h; rfl) | (obtain ⟨_, _, _, _, _, _, _, _, _, _, rfl, _⟩ := h; rfl) | (obtain ⟨_, _, _, _, _, _, _, _, _, _, _, rfl, _⟩ := h; rfl) | (obtain ⟨_, _, _, _, _, _, _, _, _, _, _, _, rfl, _⟩ := h; rfl)) fun f cdv A outer s H hr => by
    have sc := sc_want_plane
    refine ⟨_, (zss_one (zs_if (zb_not (zb_val (ze_c1 C_is_plane hr (za_cons (zv 0) za_nil)))) zss_never zss_nil)), fun ds S Q h => ?_⟩
    obtain ⟨p, rfl, h⟩ := h
    exact ⟨p, rfl, zno rfl h⟩
def spreadOf (a b c : Spot) : Rat := (b.x - a.x) * (c.y - a.y) - (c.x - a.x) * (b.y - a.y)
theorem spread_sz {a b c : Spot} (ha : SpSz a) (hb : SpSz b) (hc : SpSz c) : Sz 3300 (spreadOf a b c) := (((hb.x.sub ha.x).mul (hc.y.sub ha.y)).sub ((hc.x.sub ha.x).mul (hb.y.sub ha.y))).mono (by decide)
def sp_spread_of : ZC := fun ds S Q => ∃ a b c : Spot, ds = [.d (spP a), .d (spP b), .d (spP c)] ∧ SpSz a ∧ SpSz b ∧ SpSz c ∧ Q (fr (spreadOf a b c)) S
theorem sc_spread_of : FnScope ["one", "other", "third", "first", "second"] ["one", "other", "third"] (defScope s_spread_of) := ⟨rfl, rfl, rfl, by decide +kernel, rfl, by decide +kernel, by decide +kernel⟩
theorem C_spread_of (T : Txt fa fn P K mg base) (C_times : Callee P w K mg base 35 "times" 2 sp_times) (C_less : Callee P w K mg base 35 "less" 2 sp_less) : Callee P w K mg base 36 "spread_of" 3 sp_spread_of :=
  callee T 68 74 (d := d_spread_of) rfl rfl rfl rfl rfl (fun _ _ _ _ _ _ us hl => match us, hl with | [_, _, _], _ => rfl) sc_spread_of (fun ds S Q h => by first | (obtain ⟨_, rfl, _⟩ := h; rfl) | (obtain ⟨_, _, rfl, _⟩ := h; rfl) | (obtain ⟨_, _, _, rfl, _⟩ := h; rfl) | (obtain ⟨_, _, _, _, rfl, _⟩ := h; rfl) | (obtain ⟨_, _, _, _, _, rfl, _⟩ := h; rfl) | (obtain ⟨_, _, _, _, _, _, rfl, _⟩ := h; rfl) | (obtain ⟨_, _, _, _, _, _, _, rfl, _⟩ := h; rfl) | (obtain ⟨_, _, _, _, _, _, _, _, rfl, _⟩ := h; rfl) | (obtain ⟨_, _, _, _, _, _, _, _, _, rfl, _⟩ := h; rfl) | (obtain ⟨_, _, _, _, _, _, _, _, _, _, rfl, _⟩ := h; rfl) | (obtain ⟨_, _, _, _, _, _, _, _, _, _, _, rfl, _⟩ := h; rfl) | (obtain ⟨_, _, _, _, _, _, _, _, _, _, _, _, rfl, _⟩ := h; rfl)) fun f cdv A outer s H hr => by
    have sc := sc_spread_of
    refine ⟨_, (zss_cons (zs_set (i := 3) sc.nd rfl (Or.inl rfl) (ze_c1 C_times hr (za_cons (ze_c1 C_less hr (za_cons (ze_ix zix (zv 1) ze_int) (za_cons (ze_ix zix (zv 0) ze_int) za_nil))) (za_cons (ze_c1 C_less hr (za_cons (ze_ix zix (zv 2) ze_int) (za_cons (ze_ix zix (zv 0) ze_int) za_nil))) za_nil)))) (zss_cons (zs_set (i := 4) sc.nd rfl (Or.inl rfl) (ze_c1 C_times hr (za_cons (ze_c1 C_less hr (za_cons (ze_ix zix (zv 2) ze_int) (za_cons (ze_ix zix (zv 0) ze_int) za_nil))) (za_cons (ze_c1 C_less hr (za_cons (ze_ix zix (zv 1) ze_int) (za_cons (ze_ix zix (zv 0) ze_int) za_nil))) za_nil)))) (zss_one (zs_ret (ze_c1 C_less hr (za_cons (zv 3) (za_cons (zv 4) za_nil))))))), fun ds S Q h => ?_⟩
    obtain ⟨a, b, c, rfl, ha, hb, hc, h⟩ := h
    exact ⟨b.x, a.x, rfl, hb.x.big, ha.x.big, c.y, a.y, rfl, hc.y.big, ha.y.big, _, _, rfl, (hb.x.sub ha.x).big, (hc.y.sub ha.y).big, c.x, a.x, rfl, hc.x.big, ha.x.big, b.y, a.y, rfl, hb.y.big, ha.y.big, _, _, rfl, (hc.x.sub ha.x).big, (hb.y.sub ha.y).big, _, _, rfl, ((hb.x.sub ha.x).mul (hc.y.sub ha.y)).big, ((hc.x.sub ha.x).mul (hb.y.sub ha.y)).big, h⟩
def sp_laid_twice : ZC := fun ds S Q => ∃ (ps : List Pt) (a b : Rat), ds = [.d (ptsP ps), fr a, fr b] ∧ Pts ps ∧ ps.length ≤ 4 ∧ a ≠ b ∧ Q (.d (.list ((laid ps a b).map spP))) S
theorem sc_laid_twice : FnScope ["points", "one", "other", "found", "x", "y", "weight"] ["points", "one", "other"] (defScope s_laid_twice) := ⟨rfl, rfl, rfl, by decide +kernel, rfl, by decide +kernel, by decide +kernel⟩
theorem C_laid_twice (T : Txt fa fn P K mg base) (C_is_points : Callee P w K mg base 5 "is_points" 1 sp_is_points) (C_is_fraction : Callee P w K mg base 2 "is_fraction" 1 sp_is_fraction) : Callee P w K mg base 6 "laid_twice" 3 sp_laid_twice :=
  callee T 69 75 (d := d_laid_twice) rfl rfl rfl rfl rfl (fun _ _ _ _ _ _ us hl => match us, hl with | [_, _, _], _ => rfl) sc_laid_twice (fun ds S Q h => by first | (obtain ⟨_, rfl, _⟩ := h; rfl) | (obtain ⟨_, _, rfl, _⟩ := h; rfl) | (obtain ⟨_, _, _, rfl, _⟩ := h; rfl) | (obtain ⟨_, _, _, _, rfl, _⟩ := h; rfl) | (obtain ⟨_, _, _, _, _, rfl, _⟩ := h; rfl) | (obtain ⟨_, _, _, _, _, _, rfl, _⟩ := h; rfl) | (obtain ⟨_, _, _, _, _, _, _, rfl, _⟩ := h; rfl) | (obtain ⟨_, _, _, _, _, _, _, _, rfl, _⟩ := h; rfl) | (obtain ⟨_, _, _, _, _, _, _, _, _, rfl, _⟩ := h; rfl) | (obtain ⟨_, _, _, _, _, _, _, _, _, _, rfl, _⟩ := h; rfl) | (obtain ⟨_, _, _, _, _, _, _, _, _, _, _, rfl, _⟩ := h; rfl) | (obtain ⟨_, _, _, _, _, _, _, _, _, _, _, _, rfl, _⟩ := h; rfl)) fun f cdv A outer s H hr => by
    have sc := sc_laid_twice
    refine ⟨_, (zss_cons (zs_if (PW.pt (zw_or (zb_not (zb_val (ze_c1 C_is_points hr (za_cons (zv 0) za_nil)))) (zw_or1 (zb_cmp zop_gt (ze_callB zc_len (by rfl) (T.free_ 8 rfl) (by decide +kernel) (za_cons (zv 0) za_nil)) (ze_gint_ (i := 4) (by rfl) (T.int_ 137 rfl)) (by rfl))))) zss_never zss_nil) (zss_cons (zs_if (PW.pt (zw_or (zb_not (zb_val (ze_c1 C_is_fraction hr (za_cons (zv 1) za_nil)))) (zw_or (zb_not (zb_val (ze_c1 C_is_fraction hr (za_cons (zv 2) za_nil)))) (zw_or1 (zb_cmp (zop_eq (Roomu hr 64)) (zv 1) (zv 2) (by rfl)))))) zss_never zss_nil) (zss_cons (zs_set (i := 3) sc.nd rfl (Or.inl rfl) (ze_lstO za_nil)) (zss_cons (zs_for PassesOwn.never rfl (zi_list (zv 0)) (zg_tup (n := 3) rfl (zgs_cons (zg_name (i := 4) sc.nd rfl (Or.inl rfl)) (zgs_cons (zg_name (i := 5) sc.nd rfl (Or.inl rfl)) (zgs_cons (zg_name (i := 6) sc.nd rfl (Or.inl rfl)) zgs_nil)))) (zss_one (zs_expr (ze_bm PySem.F.plainAttrs_list PySem.F.slot_list_extend PySem.F.type_list_extend zm_extend (zv 3) (za_cons (ze_lst (za_cons (ze_tup (za_cons (zv 4) (za_cons (zv 1) (za_cons (zv 5) (za_cons (zv 6) za_nil))))) (za_cons (ze_tup (za_cons (zv 4) (za_cons (zv 2) (za_cons (zv 5) (za_cons (zv 6) za_nil))))) za_nil))) za_nil))))) (zss_one (zs_ret (ze_frz (zv 3)))))))), fun ds S Q h => ?_⟩
    obtain ⟨ps, a, b, rfl, hp, hn, hab, h⟩ := h
    refine ⟨ps, rfl, hp, zno rfl (zno (decide_eq_false (by rw [List.length_map]; omega)) ⟨a, rfl, zno rfl ⟨b, rfl, zno rfl ⟨_, eqo_fr a b, zno (decide_eq_false hab) (fun p hS => ?_)⟩⟩⟩)⟩
    refine zLoop_ind (α := Pt) (f := ptP) (fun m ρ S' => ∃ (xs : List Spot) (o1 o2 o3 : Option D), S' = S.put p (.lst (xs.map spP)) ∧ xs ++ laid m a b = laid ps a b ∧ xs.length + 2 * m.length ≤ 8 ∧ ρ = [some (.d (ptsP ps)), some (fr a), some (fr b), some (.ref p), o1, o2, o3]) ?_ ?_ ps _ _ ⟨[], none, none, none, rfl, rfl, by simp; omega, rfl⟩
    · rintro ρ S' ⟨xs, o1, o2, o3, rfl, e, _, rfl⟩
      have e2 : xs = laid ps a b := by simpa [laid] using e
      subst e2
      refine ⟨p, _, rfl, Sto.put_same, ?_⟩
      rw [Sto.put_del hS]
      exact h
    · rintro q m ρ S' ⟨xs, o1, o2, o3, rfl, e, hl, rfl⟩ ih
      rw [List.length_cons] at hl
      refine ⟨rfl, ⟨p, _, rfl, Sto.put_same⟩, p, _, _, rfl, rfl, Sto.put_same, by simp; omega, ?_⟩
      rw [Sto.put_put]
      refine ih _ _ ⟨xs ++ [⟨q.x, a, q.y, q.w⟩, ⟨q.x, b, q.y, q.w⟩], _, _, _, ?_, ?_, by simp; omega, rfl⟩
      · rw [List.map_append]; rfl
      · rw [List.append_assoc]; exact e
def sp_rise_of_spots : ZC := fun ds S Q => ∃ (s : Spot) (p : Plane), ds = [.d (spP s), .d (plP p)] ∧ SpSz s ∧ PlSz p ∧ Q (fr (riseP s p)) S
theorem sc_rise_of_spots : FnScope ["spot", "plane", "height", "along", "across"] ["spot", "plane"] (defScope s_rise_of_spots) := ⟨rfl, rfl, rfl, by decide +kernel, rfl, by decide +kernel, by decide +kernel⟩
theorem C_rise_of_spots (T : Txt fa fn P K mg base) (C_less : Callee P w K mg base 35 "less" 2 sp_less) (C_plus : Callee P w K mg base 35 "plus" 2 sp_plus) (C_times : Callee P w K mg base 35 "times" 2 sp_times) : Callee P w K mg base 36 "rise_of_spots" 2 sp_rise_of_spots :=
  callee T 70 76 (d := d_rise_of_spots) rfl rfl rfl rfl rfl (fun _ _ _ _ _ _ us hl => match us, hl with | [_, _], _ => rfl) sc_rise_of_spots (fun ds S Q h => by first | (obtain ⟨_, rfl, _⟩ := h; rfl) | (obtain ⟨_, _, rfl, _⟩ := h; rfl) | (obtain ⟨_, _, _, rfl, _⟩ := h; rfl) | (obtain ⟨_, _, _, _, rfl, _⟩ := h; rfl) | (obtain ⟨_, _, _, _, _, rfl, _⟩ := h; rfl) | (obtain ⟨_, _, _, _, _, _, rfl, _⟩ := h; rfl) | (obtain ⟨_, _, _, _, _, _, _, rfl, _⟩ := h; rfl) | (obtain ⟨_, _, _, _, _, _, _, _, rfl, _⟩ := h; rfl) | (obtain ⟨_, _, _, _, _, _, _, _, _, rfl, _⟩ := h; rfl) | (obtain ⟨_, _, _, _, _, _, _, _, _, _, rfl, _⟩ := h; rfl) | (obtain ⟨_, _, _, _, _, _, _, _, _, _, _, rfl, _⟩ := h; rfl) | (obtain ⟨_, _, _, _, _, _, _, _, _, _, _, _, rfl, _⟩ := h; rfl)) fun f cdv A outer s H hr => by
    have sc := sc_rise_of_spots
    refine ⟨_, (zss_cons (zs_asg (zv 1) (zg_tup (n := 3) rfl (zgs_cons (zg_name (i := 2) sc.nd rfl (Or.inl rfl)) (zgs_cons (zg_name (i := 3) sc.nd rfl (Or.inl rfl)) (zgs_cons (zg_name (i := 4) sc.nd rfl (Or.inl rfl)) zgs_nil))))) (zss_one (zs_ret (ze_c1 C_less hr (za_cons (ze_ix zix (zv 0) ze_int) (za_cons (ze_c1 C_plus hr (za_cons (zv 2) (za_cons (ze_c1 C_plus hr (za_cons (ze_c1 C_times hr (za_cons (zv 3) (za_cons (ze_ix zix (zv 0) ze_int) za_nil))) (za_cons (ze_c1 C_times hr (za_cons (zv 4) (za_cons (ze_ix zix (zv 0) ze_int) za_nil))) za_nil))) za_nil))) za_nil)))))), fun ds S Q h => ?_⟩
    obtain ⟨s, p, rfl, hs, hp, h⟩ := h
    exact ⟨rfl, p.a, s.x, rfl, hp.a.big, hs.x.big, p.c, s.y, rfl, hp.c.big, hs.y.big, _, _, rfl, (hp.a.mul hs.x).big, (hp.c.mul hs.y).big, p.h, _, rfl, hp.h.big, ((hp.a.mul hs.x).add (hp.c.mul hs.y)).big, s.z, _, rfl, hs.z.big, (hp.h.add ((hp.a.mul hs.x).add (hp.c.mul hs.y))).big, h⟩
def sp_ends_of : ZC := fun ds S Q => ∃ (s : Spot) (pr : Ln), ds = [.d (spP s), .d (lnP pr)] ∧ SpSz s ∧ PrSz pr ∧ Q (.d (prP (-(pr.2 * s.w)) (pr.1 * s.w))) S
theorem sc_ends_of : FnScope ["spot", "prices"] ["spot", "prices"] (defScope s_ends_of) := ⟨rfl, rfl, rfl, by decide +kernel, rfl, by decide +kernel, by decide +kernel⟩
theorem C_ends_of (T : Txt fa fn P K mg base) (C_opposite : Callee P w K mg base 1 "opposite" 1 sp_opposite) (C_times : Callee P w K mg base 35 "times" 2 sp_times) : Callee P w K mg base 36 "ends_of" 2 sp_ends_of :=
  callee T 71 77 (d := d_ends_of) rfl rfl rfl rfl rfl (fun _ _ _ _ _ _ us hl => match us, hl with | [_, _], _ => rfl) sc_ends_of (fun ds S Q h => by first | (obtain ⟨_, rfl, _⟩ := h; rfl) | (obtain ⟨_, _, rfl, _⟩ := h; rfl) | (obtain ⟨_, _, _, rfl, _⟩ := h; rfl) | (obtain ⟨_, _, _, _, rfl, _⟩ := h; rfl) | (obtain ⟨_, _, _, _, _, rfl, _⟩ := h; rfl) | (obtain ⟨_, _, _, _, _, _, rfl, _⟩ := h; rfl) | (obtain ⟨_, _, _, _, _, _, _, rfl, _⟩ := h; rfl) | (obtain ⟨_, _, _, _, _, _, _, _, rfl, _⟩ := h; rfl) | (obtain ⟨_, _, _, _, _, _, _, _, _, rfl, _⟩ := h; rfl) | (obtain ⟨_, _, _, _, _, _, _, _, _, _, rfl, _⟩ := h; rfl) | (obtain ⟨_, _, _, _, _, _, _, _, _, _, _, rfl, _⟩ := h; rfl) | (obtain ⟨_, _, _, _, _, _, _, _, _, _, _, _, rfl, _⟩ := h; rfl)) fun f cdv A outer s H hr => by
    have sc := sc_ends_of
    refine ⟨_, (zss_one (zs_ret (ze_tup (za_cons (ze_c1 C_opposite hr (za_cons (ze_c1 C_times hr (za_cons (ze_ix zix (zv 1) ze_int) (za_cons (ze_ix zix (zv 0) ze_int) za_nil))) za_nil)) (za_cons (ze_c1 C_times hr (za_cons (ze_ix zix (zv 1) ze_int) (za_cons (ze_ix zix (zv 0) ze_int) za_nil))) za_nil))))), fun ds S Q h => ?_⟩
    obtain ⟨s, pr, rfl, hs, hr2, h⟩ := h
    exact ⟨pr.2, s.w, rfl, hr2.2.big, hs.w.big, _, rfl, pr.1, s.w, rfl, hr2.1.big, hs.w.big, h⟩
def sp_cost_of_spots : ZC := fun ds S Q => ∃ (ss : List Spot) (pr : Ln) (p : Plane), ds = [.d (.list (ss.map spP)), .d (lnP pr), .d (plP p)] ∧ ss.length ≤ 8 ∧ (∀ s ∈ ss, SpSz s) ∧ PrSz pr ∧ PlSz p ∧ Q (fr (costP ss pr p)) S
theorem sc_cost_of_spots : FnScope ["spots", "prices", "plane", "found", "spot", "rise"] ["spots", "prices", "plane"] (defScope s_cost_of_spots) := ⟨rfl, rfl, rfl, by decide +kernel, rfl, by decide +kernel, by decide +kernel⟩
theorem C_cost_of_spots (T : Txt fa fn P K mg base) (C_rise_of_spots : Callee P w K mg base 36 "rise_of_spots" 2 sp_rise_of_spots) (C_plus : Callee P w K mg base 35 "plus" 2 sp_plus) (C_times : Callee P w K mg base 35 "times" 2 sp_times) (C_ends_of : Callee P w K mg base 36 "ends_of" 2 sp_ends_of) : Callee P w K mg base 37 "cost_of_spots" 3 sp_cost_of_spots :=
  callee T 72 78 (d := d_cost_of_spots) rfl rfl rfl rfl rfl (fun _ _ _ _ _ _ us hl => match us, hl with | [_, _, _], _ => rfl) sc_cost_of_spots (fun ds S Q h => by first | (obtain ⟨_, rfl, _⟩ := h; rfl) | (obtain ⟨_, _, rfl, _⟩ := h; rfl) | (obtain ⟨_, _, _, rfl, _⟩ := h; rfl) | (obtain ⟨_, _, _, _, rfl, _⟩ := h; rfl) | (obtain ⟨_, _, _, _, _, rfl, _⟩ := h; rfl) | (obtain ⟨_, _, _, _, _, _, rfl, _⟩ := h; rfl) | (obtain ⟨_, _, _, _, _, _, _, rfl, _⟩ := h; rfl) | (obtain ⟨_, _, _, _, _, _, _, _, rfl, _⟩ := h; rfl) | (obtain ⟨_, _, _, _, _, _, _, _, _, rfl, _⟩ := h; rfl) | (obtain ⟨_, _, _, _, _, _, _, _, _, _, rfl, _⟩ := h; rfl) | (obtain ⟨_, _, _, _, _, _, _, _, _, _, _, rfl, _⟩ := h; rfl) | (obtain ⟨_, _, _, _, _, _, _, _, _, _, _, _, rfl, _⟩ := h; rfl)) fun f cdv A outer s H hr => by
    have sc := sc_cost_of_spots
    refine ⟨_, (zss_cons (zs_set (i := 3) sc.nd rfl (Or.inl rfl) (ze_gtup (by rfl) (T.glo_ 133 rfl) T.nought)) (zss_cons (zs_for PassesOwn.never rfl (zi_list (zv 0)) (zg_name (i := 4) sc.nd rfl (Or.inl rfl)) (zss_cons (zs_set (i := 5) sc.nd rfl (Or.inl rfl) (ze_c1 C_rise_of_spots hr (za_cons (zv 4) (za_cons (zv 2) za_nil)))) (zss_one (zs_set (i := 3) sc.nd rfl (Or.inl rfl) (ze_c1 C_plus hr (za_cons (zv 3) (za_cons (ze_c1 C_times hr (za_cons (zv 5) (za_cons (ze_ix zix (ze_c1 C_ends_of hr (za_cons (zv 4) (za_cons (zv 1) za_nil))) (ze_callTy zc_int1 (by rfl) (T.free_ 1 rfl) (by decide +kernel) (za_cons (ze_cmp zop_gt (ze_ix zix (zv 5) ze_int) ze_int (by rfl)) za_nil))) za_nil))) za_nil))))))) (zss_one (zs_ret (zv 3))))), fun ds S Q h => ?_⟩
    obtain ⟨ss, pr, p, rfl, hn, hs, hr2, hp, h⟩ := h
    refine zLoop_ind (α := Spot) (f := spP) (fun m ρ S' => S' = S ∧ ∃ (k : Nat) (acc : Rat) (o1 o2 : Option D), k + m.length = ss.length ∧ (∀ s ∈ m, SpSz s) ∧ Sz (k * 50600 + 1) acc ∧ acc + costP m pr p = costP ss pr p ∧ ρ = [some (.d (.list (ss.map spP))), some (.d (lnP pr)), some (.d (plP p)), some (fr acc), o1, o2]) ?_ ?_ ss _ S ⟨rfl, 0, 0, none, none, by omega, hs, Sz.zero, by grind, rfl⟩
    · rintro ρ S' ⟨rfl, k, acc, o1, o2, _, _, _, e, rfl⟩
      have e2 : acc = costP ss pr p := by rw [← e]; show acc = acc + 0; grind
      rw [← e2] at h
      exact h
    · rintro s m ρ S' ⟨rfl, k, acc, o1, o2, hk, hm, ha, e, rfl⟩ ih
      have hss := hm s (by simp)
      rw [List.length_cons] at hk
      have h1 := riseP_sz hss hp
      have h2 := part_sz hss hp hr2
      have hb : k * 50600 + 1 ≤ 60000000 := by omega
      have key : ∀ v : Rat, v = (if 0 < riseP s p then pr.1 * s.w else -(pr.2 * s.w)) → riseP s p * v = s.w * phi pr (riseP s p) := fun v hv => by rw [hv, rise_ends]
      have next : ∀ v : Rat, v = s.w * phi pr (riseP s p) → acc + v + costP m pr p = costP ss pr p := fun v hv => by
        rw [← e, hv]
        show _ = acc + (s.w * phi pr (riseP s p) + costP m pr p)
        grind
      refine ⟨s, p, rfl, hss, hp, s, pr, rfl, hss, hr2, ?_⟩
      have grow : k * 50600 + 1 + 50500 + 1 ≤ (k + 1) * 50600 + 1 := grow_ok k 50600 50500 (by decide)
      dsimp only [zAsgG, zDPut, zwipe, zNeg, List.map_cons, List.map_nil, ztAnd, ztOr, ztNot, ztB, zOp, zCall, zaCons, zaNil, zV, zC, zgName, zgTup, zgsN, zgCons, zgNil, zSeq, zAsg, zIfS, zRet, zDrop_, zNext, List.getElem?_cons_succ, List.getElem?_cons_zero, List.set_cons_succ, List.set_cons_zero]
      refine pick_sign (fun c => ?_) (fun c => ?_)
      · have hv := key (pr.1 * s.w) (by rw [if_pos c])
        have b1 : Big (pr.1 * s.w) := (hr2.1.mul hss.w).big
        have b2 : Big (riseP s p) := h1.big
        refine ⟨riseP s p, pr.1 * s.w, rfl, b2, b1, acc, riseP s p * (pr.1 * s.w), rfl, ha.mono hb, ?_, ih _ _ ⟨rfl, k + 1, _, _, _, by omega, fun q hq => hm q (by simp [hq]), ?_, next _ hv, rfl⟩⟩
        · rw [hv]; exact h2.big
        · rw [hv]; exact Sz.mono (ha.add h2) grow
      · have hv := key (-(pr.2 * s.w)) (by rw [if_neg c])
        have b1 : Big (-(pr.2 * s.w)) := ((hr2.2.mul hss.w).neg).big
        have b2 : Big (riseP s p) := h1.big
        refine ⟨riseP s p, -(pr.2 * s.w), rfl, b2, b1, acc, riseP s p * -(pr.2 * s.w), rfl, ha.mono hb, ?_, ih _ _ ⟨rfl, k + 1, _, _, _, by omega, fun q hq => hm q (by simp [hq]), ?_, next _ hv, rfl⟩⟩
        · rw [hv]; exact h2.big
        · rw [hv]; exact Sz.mono (ha.add h2) grow
def sp_plane_cost : ZC := fun ds S Q => ∃ (ss : List Spot) (pr : Ln) (p : Plane), ds = [.d (.list (ss.map spP)), .d (lnP pr), .d (plP p)] ∧ Spots ss ∧ Prs pr ∧ PlSz p ∧ Q (fr (costP ss pr p)) S
theorem sc_plane_cost : FnScope ["spots", "prices", "plane"] ["spots", "prices", "plane"] (defScope s_plane_cost) := ⟨rfl, rfl, rfl, by decide +kernel, rfl, by decide +kernel, by decide +kernel⟩
theorem C_plane_cost (T : Txt fa fn P K mg base) (C_want_priced_spots : Callee P w K mg base 7 "want_priced_spots" 2 sp_want_priced_spots) (C_want_plane : Callee P w K mg base 5 "want_plane" 1 sp_want_plane) (C_cost_of_spots : Callee P w K mg base 37 "cost_of_spots" 3 sp_cost_of_spots) : Callee P w K mg base 38 "plane_cost" 3 sp_plane_cost :=
  callee T 73 79 (d := d_plane_cost) rfl rfl rfl rfl rfl (fun _ _ _ _ _ _ us hl => match us, hl with | [_, _, _], _ => rfl) sc_plane_cost (fun ds S Q h => by first | (obtain ⟨_, rfl, _⟩ := h; rfl) | (obtain ⟨_, _, rfl, _⟩ := h; rfl) | (obtain ⟨_, _, _, rfl, _⟩ := h; rfl) | (obtain ⟨_, _, _, _, rfl, _⟩ := h; rfl) | (obtain ⟨_, _, _, _, _, rfl, _⟩ := h; rfl) | (obtain ⟨_, _, _, _, _, _, rfl, _⟩ := h; rfl) | (obtain ⟨_, _, _, _, _, _, _, rfl, _⟩ := h; rfl) | (obtain ⟨_, _, _, _, _, _, _, _, rfl, _⟩ := h; rfl) | (obtain ⟨_, _, _, _, _, _, _, _, _, rfl, _⟩ := h; rfl) | (obtain ⟨_, _, _, _, _, _, _, _, _, _, rfl, _⟩ := h; rfl) | (obtain ⟨_, _, _, _, _, _, _, _, _, _, _, rfl, _⟩ := h; rfl) | (obtain ⟨_, _, _, _, _, _, _, _, _, _, _, _, rfl, _⟩ := h; rfl)) fun f cdv A outer s H hr => by
    have sc := sc_plane_cost
    refine ⟨_, (zss_cons (zs_expr (ze_c1 C_want_priced_spots hr (za_cons (zv 0) (za_cons (zv 1) za_nil)))) (zss_cons (zs_expr (ze_c1 C_want_plane hr (za_cons (zv 2) za_nil))) (zss_one (zs_ret (ze_c1 C_cost_of_spots hr (za_cons (zv 0) (za_cons (zv 1) (za_cons (zv 2) za_nil)))))))), fun ds S Q h => ?_⟩
    obtain ⟨ss, pr, p, rfl, hs, hr2, hp, h⟩ := h
    exact ⟨ss, pr, rfl, hs, hr2, p, rfl, ss, pr, p, rfl, hs.le, hs.sz, hr2.1, hp, h⟩
end
end Sl
set_option Elab.async false
set_option linter.all false
set_option maxRecDepth 100000
set_option maxHeartbeats 4000000
namespace Sl
open PySem PySem.Spec PyProof.Rows L2 Z
open Sg (Pt Ln PsOk PrOk Spread stand rise loS hiS phi)
theorem Plane.ext {p q : Plane} (h1 : p.h = q.h) (h2 : p.a = q.a) (h3 : p.c = q.c) : p = q := by cases p; cases q; simp at *; exact ⟨h1, h2, h3⟩
instance : DecidableEq Plane := fun p q => if h : p.h = q.h ∧ p.a = q.a ∧ p.c = q.c then .isTrue (Plane.ext h.1 h.2.1 h.2.2) else .isFalse fun e => h (by subst e; exact ⟨rfl, rfl, rfl⟩)
theorem lay_pl (p : Plane) : (plP p).canLay0 = true := by simp [plP, PyData.canLay0, PyData.canLayAll0, lay_fr]
theorem dep_pl (p : Plane) : (plP p).depth ≤ 2 := by
  have h1 := dep_fr p.h
  have h2 := dep_fr p.a
  have h3 := dep_fr p.c
  simp only [plP, PyData.depth, PyData.depthAll]; omega
theorem eqv_pl (p q : Plane) : PyData.eqv (plP p) (plP q) = decide (p = q) := by
  have e : PyData.eqv (plP p) (plP q) = (PyData.eqv (frP p.h) (frP q.h) && (PyData.eqv (frP p.a) (frP q.a) && (PyData.eqv (frP p.c) (frP q.c) && true))) := by simp only [plP, PyData.eqv, PyData.eqvAll]
  rw [e, eqv_fr, eqv_fr, eqv_fr]
  obtain ⟨a, b, c⟩ := p
  obtain ⟨a', b', c'⟩ := q
  by_cases h1 : a = a' <;> by_cases h2 : b = b' <;> by_cases h3 : c = c' <;> simp [h1, h2, h3]
theorem ino_pl (l : Plane) (ls : List Plane) : InO (plP l) (ls.map plP) (decide (l ∈ ls)) := by
  refine ⟨shaped_of 2 (lay_pl l) (dep_pl l), shaped_list plP 2 lay_pl dep_pl (by decide) ls, ?_⟩
  induction ls with
  | nil => simp
  | cons m ls ih =>
    rw [List.map_cons, List.any_cons, ih, eqv_pl]
    by_cases h1 : m = l
    · simp [h1]
    · have h2 : ¬ l = m := fun q => h1 q.symm
      by_cases h3 : l ∈ ls <;> simp [h1, h2, h3]
theorem eqo_pls (l m : List Plane) : EqO (.list (l.map plP)) (.list (m.map plP)) (decide (l = m)) := eqo_list plP 2 lay_pl dep_pl (by decide) eqv_pl l m
abbrev Tri := Nat × Nat × Nat
def s0 : Spot := ⟨0, 0, 0, 1⟩
def sAt (ss : List Spot) (k : Nat) : Spot := ss.getD k s0
theorem sAt_get {ss : List Spot} {k : Nat} (h : k < ss.length) : ss[k]? = some (sAt ss k) := by
  unfold sAt
  rw [List.getD_eq_getElem?_getD, List.getElem?_eq_getElem h]; rfl
theorem sAt_mem {ss : List Spot} {k : Nat} (h : k < ss.length) : sAt ss k ∈ ss := List.mem_of_getElem? (sAt_get h)
def trP (ss : List Spot) (t : Tri) : PyData := .tuple [spP (sAt ss t.1), spP (sAt ss t.2.1), spP (sAt ss t.2.2)]
def trisK (k : Nat) : List Tri := (List.range k).flatMap fun j => (List.range j).map fun i => (i, j, k)
def tris (n : Nat) : List Tri := (List.range n).flatMap trisK
theorem tris_mem {n : Nat} {t : Tri} : t ∈ tris n ↔ t.1 < t.2.1 ∧ t.2.1 < t.2.2 ∧ t.2.2 < n := by
  obtain ⟨i, j, k⟩ := t
  unfold tris trisK
  simp only [List.mem_flatMap, List.mem_map, List.mem_range, Prod.mk.injEq]
  constructor
  · rintro ⟨a, h1, b, h2, c, h3, rfl, rfl, rfl⟩; exact ⟨h3, h2, h1⟩
  · rintro ⟨h3, h2, h1⟩; exact ⟨k, h1, j, h2, i, h3, rfl, rfl, rfl⟩
section
variable {P : Program} {w : World} {K : PySem.W.Frag} {mg : Str → Option Value} {base : Heap}
def sp_triples : ZC := fun ds S Q => ∃ ss : List Spot, ds = [.d (.list (ss.map spP))] ∧ ss.length ≤ 8 ∧ Q (.d (.list ((tris ss.length).map (trP ss)))) S
theorem sc_triples : FnScope ["row", "found", "k", "j", "i"] ["row"] (defScope s_triples) := ⟨rfl, rfl, rfl, by decide +kernel, rfl, by decide +kernel, by decide +kernel⟩
theorem C_triples (T : Txt fa fn P K mg base) : Callee P w K mg base 1 "triples" 1 sp_triples :=
  callee T 67 73 (d := d_triples) rfl rfl rfl rfl rfl (fun _ _ _ _ _ _ us hl => match us, hl with | [_], _ => rfl) sc_triples (fun ds S Q h => by first | (obtain ⟨_, rfl, _⟩ := h; rfl) | (obtain ⟨_, _, rfl, _⟩ := h; rfl) | (obtain ⟨_, _, _, rfl, _⟩ := h; rfl) | (obtain ⟨_, _, _, _, rfl, _⟩ := h; rfl) | (obtain ⟨_, _, _, _, _, rfl, _⟩ := h; rfl) | (obtain ⟨_, _, _, _, _, _, rfl, _⟩ := h; rfl) | (obtain ⟨_, _, _, _, _, _, _, rfl, _⟩ := h; rfl) | (obtain ⟨_, _, _, _, _, _, _, _, rfl, _⟩ := h; rfl) | (obtain ⟨_, _, _, _, _, _, _, _, _, rfl, _⟩ := h; rfl) | (obtain ⟨_, _, _, _, _, _, _, _, _, _, rfl, _⟩ := h; rfl) | (obtain ⟨_, _, _, _, _, _, _, _, _, _, _, rfl, _⟩ := h; rfl) | (obtain ⟨_, _, _, _, _, _, _, _, _, _, _, _, rfl, _⟩ := h; rfl)) fun f cdv A outer s H hr => by
    have sc := sc_triples
    refine ⟨_, (zss_cons (zs_set (i := 1) sc.nd rfl (Or.inl rfl) (ze_lstO za_nil)) (zss_cons (zs_for PassesOwn.never rfl (zi_range (by rfl) (T.free_ 10 rfl) (za_cons (ze_callB zc_len (by rfl) (T.free_ 8 rfl) (by decide +kernel) (za_cons (zv 0) za_nil)) za_nil)) (zg_name (i := 2) sc.nd rfl (Or.inr rfl)) (zss_one (zs_for PassesOwn.never rfl (zi_range (by rfl) (T.free_ 10 rfl) (za_cons (zv 2) za_nil)) (zg_name (i := 3) sc.nd rfl (Or.inr rfl)) (zss_one (zs_expr (ze_bm PySem.F.plainAttrs_list PySem.F.slot_list_extend PySem.F.type_list_extend zm_extend (zv 1) (za_cons (ze_lc (own := [("i", 4)]) gok_one rfl sc.nd (zi_range (by rfl) (T.free_ 10 rfl) (za_cons (zv 3) za_nil)) (blkOk_by rfl) (fun _ _ _ _ _ => pg_name (i := 4) sc.nd rfl (Or.inl rfl)) (fun _ _ _ _ _ => zts_nil) (fun _ _ _ _ _ => (ze_tup (za_cons (ze_ix zix (zv 0) (zv 4)) (za_cons (ze_ix zix (zv 0) (zv 3)) (za_cons (ze_ix zix (zv 0) (zv 2)) za_nil)))))) za_nil))))))) (zss_one (zs_ret (ze_frz (zv 1)))))), fun ds S Q h => ?_⟩
    obtain ⟨ss, rfl, hn, h⟩ := h
    refine fun p hS => ⟨by rw [List.length_map]; omega, ?_⟩
    rw [List.length_map]
    refine zLoop_ind (α := Nat) (f := natP) (fun m ρ S' => ∃ (xs : List Tri) (o1 o2 o3 : Option D), S' = S.put p (.lst (xs.map (trP ss))) ∧ xs ++ m.flatMap trisK = tris ss.length ∧ xs.length + 64 * m.length ≤ 512 ∧ (∀ k ∈ m, k < ss.length) ∧ ρ = [some (.d (.list (ss.map spP))), some (.ref p), o1, o2, o3]) ?_ ?_ (List.range ss.length) _ _ ⟨[], none, none, none, rfl, rfl, by rw [List.length_range, List.length_nil]; omega, fun k hk => List.mem_range.mp hk, rfl⟩
    · rintro ρ S' ⟨xs, o1, o2, o3, rfl, e, _, _, rfl⟩
      have e2 : xs = tris ss.length := by simpa using e
      subst e2
      refine ⟨p, _, rfl, Sto.put_same, ?_⟩
      rw [Sto.put_del hS]
      exact h
    · rintro k m ρ S' ⟨xs, o1, o2, o3, rfl, e, hl, hm, rfl⟩ ih
      have hk := hm k (by simp)
      rw [List.length_cons] at hl
      rw [List.flatMap_cons] at e
      refine ⟨by omega, ?_⟩
      refine zLoop_ind (α := Nat) (f := natP) (fun m2 ρ S' => ∃ (ys : List Tri) (o2 o3 : Option D), S' = S.put p (.lst (ys.map (trP ss))) ∧ ys ++ (m2.flatMap fun j => (List.range j).map fun i => (i, j, k)) = xs ++ trisK k ∧ ys.length + 8 * m2.length ≤ xs.length + 64 ∧ (∀ j ∈ m2, j < k) ∧ ρ = [some (.d (.list (ss.map spP))), some (.ref p), some (.d (natP k)), o2, o3]) ?_ ?_ (List.range k) _ _ ⟨xs, o2, o3, rfl, rfl, by rw [List.length_range]; omega, fun j hj => List.mem_range.mp hj, rfl⟩
      · rintro ρ S' ⟨ys, o2, o3, rfl, e2, hl2, _, rfl⟩
        have e2 : ys = xs ++ trisK k := by simpa using e2
        refine ih _ _ ⟨ys, _, _, _, rfl, by rw [e2, List.append_assoc]; exact e, by simp at hl2; omega, fun q hq => hm q (by simp [hq]), rfl⟩
      · rintro j m2 ρ S' ⟨ys, o2, o3, rfl, e2, hl2, hm2, rfl⟩ ih2
        have hj := hm2 j (by simp)
        rw [List.length_cons] at hl2
        rw [List.flatMap_cons, ← List.append_assoc] at e2
        refine ⟨⟨p, _, rfl, Sto.put_same⟩, by omega, ?_⟩
        refine ⟨len1000 (by rw [List.length_range]; omega), zLcL_map (f := natP) (fun i => trP ss (i, j, k)) (List.range j) [] (fun i hi acc l' kk => zyes rfl ?_) ?_⟩
        · have hi2 := List.mem_range.mp hi
          dsimp only [zTup, zAsgG, zDPut, zwipe, zNeg, List.map_cons, List.map_nil, ztAnd, ztOr, ztNot, ztB, zOp, zCall, zaCons, zaNil, zV, zC, zgName, zgTup, zgsN, zgCons, zgNil, zSeq, zAsg, zIfS, zRet, zDrop_, zNext, List.getElem?_cons_succ, List.getElem?_cons_zero, List.set_cons_succ, List.set_cons_zero]
          refine zIx_l (pAt_nat (sAt_get (show i < ss.length by omega))) ?_
          refine zIx_l (pAt_nat (sAt_get (show j < ss.length by omega))) ?_
          refine zIx_l (pAt_nat (sAt_get hk)) ?_
          exact kk
        · refine ⟨p, _, _, rfl, rfl, Sto.put_same, by simp; omega, ?_⟩
          rw [Sto.put_put]
          refine ih2 _ _ ⟨ys ++ (List.range j).map fun i => (i, j, k), _, _, ?_, e2, by simp; omega, fun q hq => hm2 q (by simp [hq]), rfl⟩
          rw [List.map_append, List.map_map]; rfl
def planeThrough (a b c : Spot) : Option Plane := if spreadOf a b c = 0 then none else
  some ⟨a.z - (((b.z - a.z) * (c.y - a.y) - (c.z - a.z) * (b.y - a.y)) / spreadOf a b c * a.x + ((b.x - a.x) * (c.z - a.z) - (c.x - a.x) * (b.z - a.z)) / spreadOf a b c * a.y),
    ((b.z - a.z) * (c.y - a.y) - (c.z - a.z) * (b.y - a.y)) / spreadOf a b c, ((b.x - a.x) * (c.z - a.z) - (c.x - a.x) * (b.z - a.z)) / spreadOf a b c⟩
def plO : Option Plane → PyData
  | none => .none
  | some p => plP p
theorem through3_sz {a b c : Spot} (ha : SpSz a) (hb : SpSz b) (hc : SpSz c) (h : spreadOf a b c ≠ 0) : Sz 6600 (((b.z - a.z) * (c.y - a.y) - (c.z - a.z) * (b.y - a.y)) / spreadOf a b c) ∧ Sz 6600 (((b.x - a.x) * (c.z - a.z) - (c.x - a.x) * (b.z - a.z)) / spreadOf a b c) := by
  have h0 := spread_sz ha hb hc
  exact ⟨((((hb.z.sub ha.z).mul (hc.y.sub ha.y)).sub ((hc.z.sub ha.z).mul (hb.y.sub ha.y))).div h0 h).mono (by decide), ((((hb.x.sub ha.x).mul (hc.z.sub ha.z)).sub ((hc.x.sub ha.x).mul (hb.z.sub ha.z))).div h0 h).mono (by decide)⟩
theorem plane_sz {a b c : Spot} (ha : SpSz a) (hb : SpSz b) (hc : SpSz c) {p : Plane} (h : planeThrough a b c = some p) : PlSz p := by
  unfold planeThrough at h
  by_cases e : spreadOf a b c = 0
  · rw [if_pos e] at h; cases h
  · rw [if_neg e] at h
    cases h
    obtain ⟨h1, h2⟩ := through3_sz ha hb hc e
    exact ⟨(ha.z.sub ((h1.mul ha.x).add (h2.mul ha.y))).mono (by decide), h1.mono (by decide), h2.mono (by decide)⟩
def sp_plane_through : ZC := fun ds S Q => ∃ a b c : Spot, ds = [.d (spP a), .d (spP b), .d (spP c)] ∧ SpSz a ∧ SpSz b ∧ SpSz c ∧ Q (.d (plO (planeThrough a b c))) S
theorem sc_plane_through : FnScope ["one", "other", "third", "below", "x", "y", "z", "far_x", "far_y", "far_z", "along", "across", "height", "k"] ["one", "other", "third"] (defScope s_plane_through) := ⟨rfl, rfl, rfl, by decide +kernel, rfl, by decide +kernel, by decide +kernel⟩
theorem C_plane_through (T : Txt fa fn P K mg base) (C_spread_of : Callee P w K mg base 36 "spread_of" 3 sp_spread_of) (C_over : Callee P w K mg base 35 "over" 2 sp_over) (C_less : Callee P w K mg base 35 "less" 2 sp_less) (C_plus : Callee P w K mg base 35 "plus" 2 sp_plus) (C_times : Callee P w K mg base 35 "times" 2 sp_times) : Callee P w K mg base 37 "plane_through" 3 sp_plane_through :=
  callee T 74 80 (d := d_plane_through) rfl rfl rfl rfl rfl (fun _ _ _ _ _ _ us hl => match us, hl with | [_, _, _], _ => rfl) sc_plane_through (fun ds S Q h => by first | (obtain ⟨_, rfl, _⟩ := h; rfl) | (obtain ⟨_, _, rfl, _⟩ := h; rfl) | (obtain ⟨_, _, _, rfl, _⟩ := h; rfl) | (obtain ⟨_, _, _, _, rfl, _⟩ := h; rfl) | (obtain ⟨_, _, _, _, _, rfl, _⟩ := h; rfl) | (obtain ⟨_, _, _, _, _, _, rfl, _⟩ := h; rfl) | (obtain ⟨_, _, _, _, _, _, _, rfl, _⟩ := h; rfl) | (obtain ⟨_, _, _, _, _, _, _, _, rfl, _⟩ := h; rfl) | (obtain ⟨_, _, _, _, _, _, _, _, _, rfl, _⟩ := h; rfl) | (obtain ⟨_, _, _, _, _, _, _, _, _, _, rfl, _⟩ := h; rfl) | (obtain ⟨_, _, _, _, _, _, _, _, _, _, _, rfl, _⟩ := h; rfl) | (obtain ⟨_, _, _, _, _, _, _, _, _, _, _, _, rfl, _⟩ := h; rfl)) fun f cdv A outer s H hr => by
    have sc := sc_plane_through
    refine ⟨_, (zss_cons (zs_set (i := 3) sc.nd rfl (Or.inl rfl) (ze_c1 C_spread_of hr (za_cons (zv 0) (za_cons (zv 1) (za_cons (zv 2) za_nil))))) (zss_cons (zs_if (zb_cmp (zop_eq (Roomu hr 64)) (zv 3) (ze_gtup (by rfl) (T.glo_ 133 rfl) T.nought) (by rfl)) (zss_one (zs_ret ze_non)) zss_nil) (zss_cons (zs_asg (ze_lc (own := [("k", 13)]) gok_one rfl sc.nd (zi_range (by rfl) (T.free_ 10 rfl) (za_cons ze_int za_nil)) (blkOk_by rfl) (fun _ _ _ _ _ => pg_name (i := 13) sc.nd rfl (Or.inl rfl)) (fun _ _ _ _ _ => zts_nil) (fun _ _ _ _ _ => (ze_c1 C_less hr (za_cons (ze_ix zix (zv 1) (zv 13)) (za_cons (ze_ix zix (zv 0) (zv 13)) za_nil))))) (zg_unl (n := 3) rfl (zgs_cons (zg_name (i := 4) sc.nd rfl (Or.inl rfl)) (zgs_cons (zg_name (i := 5) sc.nd rfl (Or.inl rfl)) (zgs_cons (zg_name (i := 6) sc.nd rfl (Or.inl rfl)) zgs_nil))))) (zss_cons (zs_asg (ze_lc (own := [("k", 13)]) gok_one rfl sc.nd (zi_range (by rfl) (T.free_ 10 rfl) (za_cons ze_int za_nil)) (blkOk_by rfl) (fun _ _ _ _ _ => pg_name (i := 13) sc.nd rfl (Or.inl rfl)) (fun _ _ _ _ _ => zts_nil) (fun _ _ _ _ _ => (ze_c1 C_less hr (za_cons (ze_ix zix (zv 2) (zv 13)) (za_cons (ze_ix zix (zv 0) (zv 13)) za_nil))))) (zg_unl (n := 3) rfl (zgs_cons (zg_name (i := 7) sc.nd rfl (Or.inl rfl)) (zgs_cons (zg_name (i := 8) sc.nd rfl (Or.inl rfl)) (zgs_cons (zg_name (i := 9) sc.nd rfl (Or.inl rfl)) zgs_nil))))) (zss_cons (zs_set (i := 10) sc.nd rfl (Or.inl rfl) (ze_c1 C_over hr (za_cons (ze_c1 C_less hr (za_cons (ze_c1 C_times hr (za_cons (zv 6) (za_cons (zv 8) za_nil))) (za_cons (ze_c1 C_times hr (za_cons (zv 9) (za_cons (zv 5) za_nil))) za_nil))) (za_cons (zv 3) za_nil)))) (zss_cons (zs_set (i := 11) sc.nd rfl (Or.inl rfl) (ze_c1 C_over hr (za_cons (ze_c1 C_less hr (za_cons (ze_c1 C_times hr (za_cons (zv 4) (za_cons (zv 9) za_nil))) (za_cons (ze_c1 C_times hr (za_cons (zv 7) (za_cons (zv 6) za_nil))) za_nil))) (za_cons (zv 3) za_nil)))) (zss_cons (zs_set (i := 12) sc.nd rfl (Or.inl rfl) (ze_c1 C_less hr (za_cons (ze_ix zix (zv 0) ze_int) (za_cons (ze_c1 C_plus hr (za_cons (ze_c1 C_times hr (za_cons (zv 10) (za_cons (ze_ix zix (zv 0) ze_int) za_nil))) (za_cons (ze_c1 C_times hr (za_cons (zv 11) (za_cons (ze_ix zix (zv 0) ze_int) za_nil))) za_nil))) za_nil)))) (zss_one (zs_ret (ze_tup (za_cons (zv 12) (za_cons (zv 10) (za_cons (zv 11) za_nil))))))))))))), fun ds S Q h => ?_⟩
    obtain ⟨a, b, c, rfl, ha, hb, hc, h⟩ := h
    unfold planeThrough at h
    have h0 := spread_sz ha hb hc
    refine ⟨a, b, c, rfl, ha, hb, hc, _, eqo_fr _ 0, zif (fun e => ?_) (fun e => ?_)⟩
    · rw [if_pos e] at h
      exact h
    · rw [if_neg e] at h
      obtain ⟨h1, h2⟩ := through3_sz ha hb hc e
      refine ⟨by decide, rfl, zyes rfl ⟨b.x, a.x, rfl, hb.x.big, ha.x.big, zyes rfl ⟨b.y, a.y, rfl, hb.y.big, ha.y.big, zyes rfl ⟨b.z, a.z, rfl, hb.z.big, ha.z.big, rfl, ?_⟩⟩⟩⟩
      refine ⟨by decide, rfl, zyes rfl ⟨c.x, a.x, rfl, hc.x.big, ha.x.big, zyes rfl ⟨c.y, a.y, rfl, hc.y.big, ha.y.big, zyes rfl ⟨c.z, a.z, rfl, hc.z.big, ha.z.big, rfl, ?_⟩⟩⟩⟩
      dsimp only [zstart, List.map, List.length_cons, List.length_nil, Nat.reduceAdd, Nat.reduceSub, List.reduceReplicate, List.cons_append, List.nil_append, List.append_nil, List.set_cons_succ, List.set_cons_zero]
      dsimp only [zTup, zAsgG, zDPut, zwipe, zNeg, List.map_cons, List.map_nil, ztAnd, ztOr, ztNot, ztB, zOp, zCall, zaCons, zaNil, zV, zC, zgName, zgTup, zgsN, zgCons, zgNil, zSeq, zAsg, zIfS, zRet, zDrop_, zNext, List.getElem?_cons_succ, List.getElem?_cons_zero, List.set_cons_succ, List.set_cons_zero]
      refine ⟨_, _, rfl, (hb.z.sub ha.z).big, (hc.y.sub ha.y).big, _, _, rfl, (hc.z.sub ha.z).big, (hb.y.sub ha.y).big, _, _, rfl, ((hb.z.sub ha.z).mul (hc.y.sub ha.y)).big, ((hc.z.sub ha.z).mul (hb.y.sub ha.y)).big, _, _, rfl, (((hb.z.sub ha.z).mul (hc.y.sub ha.y)).sub ((hc.z.sub ha.z).mul (hb.y.sub ha.y))).big, h0.big, e, ?_⟩
      refine ⟨_, _, rfl, (hb.x.sub ha.x).big, (hc.z.sub ha.z).big, _, _, rfl, (hc.x.sub ha.x).big, (hb.z.sub ha.z).big, _, _, rfl, ((hb.x.sub ha.x).mul (hc.z.sub ha.z)).big, ((hc.x.sub ha.x).mul (hb.z.sub ha.z)).big, _, _, rfl, (((hb.x.sub ha.x).mul (hc.z.sub ha.z)).sub ((hc.x.sub ha.x).mul (hb.z.sub ha.z))).big, h0.big, e, ?_⟩
      exact ⟨_, a.x, rfl, h1.big, ha.x.big, _, a.y, rfl, h2.big, ha.y.big, _, _, rfl, (h1.mul ha.x).big, (h2.mul ha.y).big, a.z, _, rfl, ha.z.big, ((h1.mul ha.x).add (h2.mul ha.y)).big, h⟩
def aheadPl (p q : Plane) : Bool := if ¬ p.h = q.h then decide (p.h < q.h) else if ¬ p.a = q.a then decide (p.a < q.a) else if ¬ p.c = q.c then decide (p.c < q.c) else false
def sp_is_ahead_planes : ZC := fun ds S Q => ∃ p q : Plane, ds = [.d (plP p), .d (plP q)] ∧ PlSz p ∧ PlSz q ∧ Q (.d (.bool (aheadPl p q))) S
theorem sc_is_ahead_planes : FnScope ["plane", "other", "mine", "theirs"] ["plane", "other"] (defScope s_is_ahead_planes) := ⟨rfl, rfl, rfl, by decide +kernel, rfl, by decide +kernel, by decide +kernel⟩
theorem C_is_ahead_planes (T : Txt fa fn P K mg base) (C_is_below : Callee P w K mg base 1 "is_below" 2 sp_is_below) : Callee P w K mg base 2 "is_ahead_planes" 2 sp_is_ahead_planes :=
  callee T 75 81 (d := d_is_ahead_planes) rfl rfl rfl rfl rfl (fun _ _ _ _ _ _ us hl => match us, hl with | [_, _], _ => rfl) sc_is_ahead_planes (fun ds S Q h => by first | (obtain ⟨_, rfl, _⟩ := h; rfl) | (obtain ⟨_, _, rfl, _⟩ := h; rfl) | (obtain ⟨_, _, _, rfl, _⟩ := h; rfl) | (obtain ⟨_, _, _, _, rfl, _⟩ := h; rfl) | (obtain ⟨_, _, _, _, _, rfl, _⟩ := h; rfl) | (obtain ⟨_, _, _, _, _, _, rfl, _⟩ := h; rfl) | (obtain ⟨_, _, _, _, _, _, _, rfl, _⟩ := h; rfl) | (obtain ⟨_, _, _, _, _, _, _, _, rfl, _⟩ := h; rfl) | (obtain ⟨_, _, _, _, _, _, _, _, _, rfl, _⟩ := h; rfl) | (obtain ⟨_, _, _, _, _, _, _, _, _, _, rfl, _⟩ := h; rfl) | (obtain ⟨_, _, _, _, _, _, _, _, _, _, _, rfl, _⟩ := h; rfl) | (obtain ⟨_, _, _, _, _, _, _, _, _, _, _, _, rfl, _⟩ := h; rfl)) fun f cdv A outer s H hr => by
    have sc := sc_is_ahead_planes
    refine ⟨_, (zss_cons (zs_for PassesOwn.never rfl (zi_zipT (by rfl) (T.free_ 9 rfl) (za_cons (zv 0) (za_cons (zv 1) za_nil))) (zg_tup (n := 2) rfl (zgs_cons (zg_name (i := 2) sc.nd rfl (Or.inl rfl)) (zgs_cons (zg_name (i := 3) sc.nd rfl (Or.inl rfl)) zgs_nil))) (zss_one (zs_if (zb_cmp (zop_ne (Roomu hr 64)) (zv 2) (zv 3) (by rfl)) (zss_one (zs_ret (ze_c1 C_is_below hr (za_cons (zv 2) (za_cons (zv 3) za_nil))))) zss_nil))) (zss_one (zs_ret ze_bl))), fun ds S Q h => ?_⟩
    obtain ⟨p, q, rfl, hp, hq, h⟩ := h
    unfold aheadPl at h
    refine ⟨rfl, _, eqo_fr p.h q.h, zifn (fun e => ⟨p.h, q.h, rfl, hp.h.big, hq.h.big, ?_⟩) (fun e => ⟨rfl, _, eqo_fr p.a q.a, zifn (fun e2 => ⟨p.a, q.a, rfl, hp.a.big, hq.a.big, ?_⟩) (fun e2 => ⟨rfl, _, eqo_fr p.c q.c, zifn (fun e3 => ⟨p.c, q.c, rfl, hp.c.big, hq.c.big, ?_⟩) (fun e3 => ?_)⟩)⟩)⟩
    · rw [if_pos e] at h; exact h
    · rw [if_neg (fun z => z e), if_pos e2] at h; exact h
    · rw [if_neg (fun z => z e), if_neg (fun z => z e2), if_pos e3] at h; exact h
    · rw [if_neg (fun z => z e), if_neg (fun z => z e2), if_neg (fun z => z e3)] at h; exact h
def putIn (ls : List Plane) : Option Plane → List Plane
  | none => ls
  | some p => if p ∈ ls then ls else ls.filter (aheadPl · p) ++ [p] ++ ls.drop (ls.filter (aheadPl · p)).length
def sp_put_in : ZC := fun ds S Q => ∃ (ls : List Plane) (o : Option Plane), ds = [.d (.list (ls.map plP)), .d (plO o)] ∧ ls.length ≤ 900 ∧ (∀ p ∈ ls, PlSz p) ∧ (∀ p, o = some p → PlSz p) ∧ Q (.d (.list ((putIn ls o).map plP))) S
theorem sc_put_in : FnScope ["planes", "plane", "ahead", "one"] ["planes", "plane"] (defScope s_put_in) := ⟨rfl, rfl, rfl, by decide +kernel, rfl, by decide +kernel, by decide +kernel⟩
theorem C_put_in (T : Txt fa fn P K mg base) (C_is_ahead_planes : Callee P w K mg base 2 "is_ahead_planes" 2 sp_is_ahead_planes) : Callee P w K mg base 3 "put_in" 2 sp_put_in :=
  callee T 76 82 (d := d_put_in) rfl rfl rfl rfl rfl (fun _ _ _ _ _ _ us hl => match us, hl with | [_, _], _ => rfl) sc_put_in (fun ds S Q h => by first | (obtain ⟨_, rfl, _⟩ := h; rfl) | (obtain ⟨_, _, rfl, _⟩ := h; rfl) | (obtain ⟨_, _, _, rfl, _⟩ := h; rfl) | (obtain ⟨_, _, _, _, rfl, _⟩ := h; rfl) | (obtain ⟨_, _, _, _, _, rfl, _⟩ := h; rfl) | (obtain ⟨_, _, _, _, _, _, rfl, _⟩ := h; rfl) | (obtain ⟨_, _, _, _, _, _, _, rfl, _⟩ := h; rfl) | (obtain ⟨_, _, _, _, _, _, _, _, rfl, _⟩ := h; rfl) | (obtain ⟨_, _, _, _, _, _, _, _, _, rfl, _⟩ := h; rfl) | (obtain ⟨_, _, _, _, _, _, _, _, _, _, rfl, _⟩ := h; rfl) | (obtain ⟨_, _, _, _, _, _, _, _, _, _, _, rfl, _⟩ := h; rfl) | (obtain ⟨_, _, _, _, _, _, _, _, _, _, _, _, rfl, _⟩ := h; rfl)) fun f cdv A outer s H hr => by
    have sc := sc_put_in
    refine ⟨_, (zss_cons (zs_if (PW.pt (zw_or (zb_cmp zop_is (zv 1) ze_non (by rfl)) (zw_or1 (zb_cmp (zop_in (Roomu hr 65)) (zv 1) (zv 0) (by rfl))))) (zss_one (zs_ret (zv 0))) zss_nil) (zss_cons (zs_setLc (i := 2) (own := [("one", 3)]) gok_one rfl sc.nd rfl rfl (sw_true rfl rfl rfl (by decide +kernel)) (zi_list (zv 0)) (blkOk_by rfl) (fun _ _ _ _ _ => pg_name (i := 3) sc.nd rfl (Or.inl rfl)) (fun _ _ _ _ _ => zts_one (zb_val (ze_c1 C_is_ahead_planes hr (za_cons (zv 3) (za_cons (zv 1) za_nil))))) (fun _ _ _ _ _ => (zv 3))) (zss_one (zs_ret (ze_op zop_cat (ze_op zop_cat (zv 2) (ze_lst (za_cons (zv 1) za_nil))) (ze_drop (zv 0) (ze_callB zc_len (by rfl) (T.free_ 8 rfl) (by decide +kernel) (za_cons (zv 2) za_nil)))))))), fun ds S Q h => ?_⟩
    obtain ⟨ls, o, rfl, hn, hl, ho, h⟩ := h
    cases o with
    | none => exact zyes rfl (zyes rfl h)
    | some p =>
      have hp := ho p rfl
      dsimp only [putIn] at h
      refine zno rfl ⟨_, ino_pl p ls, zif (fun c => ?_) (fun c => ?_)⟩
      · rw [if_pos c] at h
        exact h
      · rw [if_neg c] at h
        have hfl := List.length_filter_le (aheadPl · p) ls
        refine ⟨len1000 (by omega), zLcL_fm (f := plP) (fun q => aheadPl q p) plP ls [] (fun q hm acc l' k1 k2 => ⟨q, p, rfl, hl q hm, hp, zboth (fun e => k1 e) (fun e => k2 e)⟩) ?_⟩
        rw [List.nil_append]
        show Nat.ble (((ls.filter fun q => aheadPl q p).map plP).length + 1) 1000 = true ∧ _
        refine ⟨Nat.ble_eq.mpr (by rw [List.length_map]; omega), Nat.ble_eq.mpr (by rw [List.length_append, List.length_drop, List.length_map, List.length_map]; simp; omega), ?_⟩
        have e : (ls.filter fun q => aheadPl q p).map plP ++ [plP p] ++ (ls.map plP).drop ((ls.filter fun q => aheadPl q p).map plP).length = (ls.filter (aheadPl · p) ++ [p] ++ ls.drop (ls.filter (aheadPl · p)).length).map plP := by
          rw [List.map_append, List.map_append, List.map_drop, List.length_map]; rfl
        rw [← e] at h
        exact h
end
end Sl
set_option Elab.async false
set_option linter.all false
set_option maxRecDepth 100000
set_option maxHeartbeats 4000000
namespace Sl
open PySem PySem.Spec PyProof.Rows L2 Z
open Sg (Pt Ln PsOk PrOk Spread stand rise loS hiS phi)
def thr (ss : List Spot) (t : Tri) : Option Plane := planeThrough (sAt ss t.1) (sAt ss t.2.1) (sAt ss t.2.2)
def planesOf (ss : List Spot) : List Plane := (tris ss.length).foldl (fun f t => putIn f (thr ss t)) []
def leastPl (ss : List Spot) (pr : Ln) : Rat := leastL ((planesOf ss).map (costP ss pr))
theorem trisK_len (k : Nat) (hk : k ≤ 8) : (trisK k).length ≤ 64 := by
  unfold trisK
  have go : ∀ m : List Nat, (∀ j ∈ m, j < k) → (m.flatMap fun j => (List.range j).map fun i => ((i, j, k) : Tri)).length ≤ 8 * m.length := by
    intro m
    induction m with
    | nil => intro _; simp
    | cons a m ih =>
      intro h
      rw [List.flatMap_cons, List.length_append, List.length_map, List.length_range, List.length_cons]
      have h1 := h a (by simp)
      have h2 := ih fun j hj => h j (by simp [hj])
      omega
  have := go (List.range k) fun j hj => List.mem_range.mp hj
  rw [List.length_range] at this
  omega
theorem tris_len {n : Nat} (hn : n ≤ 8) : (tris n).length ≤ 512 := by
  unfold tris
  have go : ∀ m : List Nat, (∀ k ∈ m, k ≤ 8) → (m.flatMap trisK).length ≤ 64 * m.length := by
    intro m
    induction m with
    | nil => intro _; simp
    | cons a m ih =>
      intro h
      rw [List.flatMap_cons, List.length_append, List.length_cons]
      have h1 := trisK_len a (h a (by simp))
      have h2 := ih fun j hj => h j (by simp [hj])
      omega
  have := go (List.range n) fun k hk => by have := List.mem_range.mp hk; omega
  rw [List.length_range] at this
  omega
theorem putIn_len (ls : List Plane) (o : Option Plane) : (putIn ls o).length ≤ ls.length + 1 := by
  cases o with
  | none => simp [putIn]
  | some p =>
    unfold putIn
    dsimp only
    split
    · omega
    · have := List.length_filter_le (aheadPl · p) ls
      simp; omega
theorem putIn_sub {ls : List Plane} {o : Option Plane} {q : Plane} (h : q ∈ putIn ls o) : q ∈ ls ∨ o = some q := by
  cases o with
  | none => exact .inl h
  | some p =>
    unfold putIn at h
    dsimp only at h
    split at h
    · exact .inl h
    · rcases List.mem_append.mp h with z | z
      · rcases List.mem_append.mp z with z | z
        · exact .inl (List.mem_filter.mp z).1
        · rw [List.mem_singleton.mp z]; exact .inr rfl
      · exact .inl (List.mem_of_mem_drop z)
section
variable {P : Program} {w : World} {K : PySem.W.Frag} {mg : Str → Option Value} {base : Heap}
def sp_planes_through_three : ZC := fun ds S Q => ∃ ss : List Spot, ds = [.d (.list (ss.map spP))] ∧ ss.length ≤ 8 ∧ (∀ s ∈ ss, SpSz s) ∧ (∀ ls : List Plane, ls = planesOf ss → ls.length ≤ 512 → (∀ p ∈ ls, PlSz p) → Q (.d (.list (ls.map plP))) S)
theorem sc_planes_through_three : FnScope ["spots", "found", "one", "other", "third"] ["spots"] (defScope s_planes_through_three) := ⟨rfl, rfl, rfl, by decide +kernel, rfl, by decide +kernel, by decide +kernel⟩
theorem C_planes_through_three (T : Txt fa fn P K mg base) (C_triples : Callee P w K mg base 1 "triples" 1 sp_triples) (C_put_in : Callee P w K mg base 3 "put_in" 2 sp_put_in) (C_plane_through : Callee P w K mg base 37 "plane_through" 3 sp_plane_through) : Callee P w K mg base 38 "planes_through_three" 1 sp_planes_through_three :=
  callee T 77 83 (d := d_planes_through_three) rfl rfl rfl rfl rfl (fun _ _ _ _ _ _ us hl => match us, hl with | [_], _ => rfl) sc_planes_through_three (fun ds S Q h => by first | (obtain ⟨_, rfl, _⟩ := h; rfl) | (obtain ⟨_, _, rfl, _⟩ := h; rfl) | (obtain ⟨_, _, _, rfl, _⟩ := h; rfl) | (obtain ⟨_, _, _, _, rfl, _⟩ := h; rfl) | (obtain ⟨_, _, _, _, _, rfl, _⟩ := h; rfl) | (obtain ⟨_, _, _, _, _, _, rfl, _⟩ := h; rfl) | (obtain ⟨_, _, _, _, _, _, _, rfl, _⟩ := h; rfl) | (obtain ⟨_, _, _, _, _, _, _, _, rfl, _⟩ := h; rfl) | (obtain ⟨_, _, _, _, _, _, _, _, _, rfl, _⟩ := h; rfl) | (obtain ⟨_, _, _, _, _, _, _, _, _, _, rfl, _⟩ := h; rfl) | (obtain ⟨_, _, _, _, _, _, _, _, _, _, _, rfl, _⟩ := h; rfl) | (obtain ⟨_, _, _, _, _, _, _, _, _, _, _, _, rfl, _⟩ := h; rfl)) fun f cdv A outer s H hr => by
    have sc := sc_planes_through_three
    refine ⟨_, (zss_cons (zs_set (i := 1) sc.nd rfl (Or.inl rfl) (ze_lst za_nil)) (zss_cons (zs_for PassesOwn.never rfl (zi_list (ze_c1 C_triples hr (za_cons (zv 0) za_nil))) (zg_tup (n := 3) rfl (zgs_cons (zg_name (i := 2) sc.nd rfl (Or.inl rfl)) (zgs_cons (zg_name (i := 3) sc.nd rfl (Or.inl rfl)) (zgs_cons (zg_name (i := 4) sc.nd rfl (Or.inl rfl)) zgs_nil)))) (zss_one (zs_set (i := 1) sc.nd rfl (Or.inl rfl) (ze_c1 C_put_in hr (za_cons (zv 1) (za_cons (ze_c1 C_plane_through hr (za_cons (zv 2) (za_cons (zv 3) (za_cons (zv 4) za_nil)))) za_nil)))))) (zss_one (zs_ret (zv 1))))), fun ds S Q h => ?_⟩
    obtain ⟨ss, rfl, hn, hs, h⟩ := h
    have hsz : ∀ t ∈ tris ss.length, SpSz (sAt ss t.1) ∧ SpSz (sAt ss t.2.1) ∧ SpSz (sAt ss t.2.2) := fun t ht => by
      obtain ⟨h1, h2, h3⟩ := tris_mem.mp ht
      exact ⟨hs _ (sAt_mem (by omega)), hs _ (sAt_mem (by omega)), hs _ (sAt_mem h3)⟩
    refine ⟨ss, rfl, hn, ?_⟩
    refine zLoop_ind (α := Tri) (f := trP ss) (fun m ρ S' => S' = S ∧ ∃ (ls : List Plane) (o1 o2 o3 : Option D), m.foldl (fun f t => putIn f (thr ss t)) ls = planesOf ss ∧ ls.length + m.length ≤ 512 ∧ (∀ p ∈ ls, PlSz p) ∧ (∀ t ∈ m, t ∈ tris ss.length) ∧ ρ = [some (.d (.list (ss.map spP))), some (.d (.list (ls.map plP))), o1, o2, o3]) ?_ ?_ (tris ss.length) _ S ⟨rfl, [], none, none, none, rfl, by have := tris_len hn; simp; omega, by simp, fun t ht => ht, rfl⟩
    · rintro ρ S' ⟨rfl, ls, o1, o2, o3, e, hl, hp, _, rfl⟩
      exact h ls e (by simpa using hl) hp
    · rintro t m ρ S' ⟨rfl, ls, o1, o2, o3, e, hl, hp, hm, rfl⟩ ih
      obtain ⟨z1, z2, z3⟩ := hsz t (hm t (by simp))
      rw [List.length_cons] at hl
      have hth : ∀ q, thr ss t = some q → PlSz q := fun q hq => plane_sz z1 z2 z3 hq
      refine ⟨rfl, sAt ss t.1, sAt ss t.2.1, sAt ss t.2.2, rfl, z1, z2, z3, ls, thr ss t, rfl, ?_, hp, hth, ?_⟩
      · omega
      · have h2 := putIn_len ls (thr ss t)
        refine ih _ _ ⟨rfl, putIn ls (thr ss t), _, _, _, e, by omega, fun q hq => ?_, fun q hq => hm q (by simp [hq]), rfl⟩
        rcases putIn_sub hq with z | z
        · exact hp q z
        · exact hth q z
def sp_cheapest_planes : ZC := fun ds S Q => ∃ (ss : List Spot) (pr : Ln), ds = [.d (.list (ss.map spP)), .d (lnP pr)] ∧ Spots ss ∧ Prs pr ∧ planesOf ss ≠ [] ∧ ∀ x, Q (.d (.tuple [frP (leastPl ss pr), x])) S
theorem sc_cheapest_planes : FnScope ["spots", "prices", "planes", "costs", "least", "plane", "number"] ["spots", "prices"] (defScope s_cheapest_planes) := ⟨rfl, rfl, rfl, by decide +kernel, rfl, by decide +kernel, by decide +kernel⟩
theorem C_cheapest_planes (T : Txt fa fn P K mg base) (C_want_priced_spots : Callee P w K mg base 7 "want_priced_spots" 2 sp_want_priced_spots) (C_planes_through_three : Callee P w K mg base 38 "planes_through_three" 1 sp_planes_through_three) (C_least_of : Callee P w K mg base 2 "least_of" 1 sp_least_of) (C_cost_of_spots : Callee P w K mg base 37 "cost_of_spots" 3 sp_cost_of_spots) : Callee P w K mg base 40 "cheapest_planes" 2 sp_cheapest_planes :=
  callee T 78 84 (d := d_cheapest_planes) rfl rfl rfl rfl rfl (fun _ _ _ _ _ _ us hl => match us, hl with | [_, _], _ => rfl) sc_cheapest_planes (fun ds S Q h => by first | (obtain ⟨_, rfl, _⟩ := h; rfl) | (obtain ⟨_, _, rfl, _⟩ := h; rfl) | (obtain ⟨_, _, _, rfl, _⟩ := h; rfl) | (obtain ⟨_, _, _, _, rfl, _⟩ := h; rfl) | (obtain ⟨_, _, _, _, _, rfl, _⟩ := h; rfl) | (obtain ⟨_, _, _, _, _, _, rfl, _⟩ := h; rfl) | (obtain ⟨_, _, _, _, _, _, _, rfl, _⟩ := h; rfl) | (obtain ⟨_, _, _, _, _, _, _, _, rfl, _⟩ := h; rfl) | (obtain ⟨_, _, _, _, _, _, _, _, _, rfl, _⟩ := h; rfl) | (obtain ⟨_, _, _, _, _, _, _, _, _, _, rfl, _⟩ := h; rfl) | (obtain ⟨_, _, _, _, _, _, _, _, _, _, _, rfl, _⟩ := h; rfl) | (obtain ⟨_, _, _, _, _, _, _, _, _, _, _, _, rfl, _⟩ := h; rfl)) fun f cdv A outer s H hr => by
    have sc := sc_cheapest_planes
    refine ⟨_, (zss_cons (zs_expr (ze_c1 C_want_priced_spots hr (za_cons (zv 0) (za_cons (zv 1) za_nil)))) (zss_cons (zs_set (i := 2) sc.nd rfl (Or.inl rfl) (ze_c1 C_planes_through_three hr (za_cons (zv 0) za_nil))) (zss_cons (zs_if (zb_cmp (zop_eq (Roomu hr 64)) (zv 2) (ze_lst za_nil) (by rfl)) zss_never zss_nil) (zss_cons (zs_setLc (i := 3) (own := [("plane", 5)]) gok_one rfl sc.nd rfl rfl (sw_true rfl rfl rfl (by decide +kernel)) (zi_list (zv 2)) (blkOk_by rfl) (fun _ _ _ _ _ => pg_name (i := 5) sc.nd rfl (Or.inl rfl)) (fun _ _ _ _ _ => zts_nil) (fun _ _ _ _ _ => (ze_c1 C_cost_of_spots hr (za_cons (zv 0) (za_cons (zv 1) (za_cons (zv 5) za_nil)))))) (zss_cons (zs_set (i := 4) sc.nd rfl (Or.inr rfl) (ze_c1 C_least_of hr (za_cons (zv 3) za_nil))) (zss_one (zs_ret (ze_tup (za_cons (zv 4) (za_cons (ze_lc (own := [("plane", 5), ("number", 6)]) (gok_tup (n := 2)) rfl sc.nd (zi_zip (by rfl) (T.free_ 9 rfl) (za_cons (zv 2) (za_cons (zv 3) za_nil))) (blkOk_by rfl) (fun _ _ _ _ _ => pg_tup (n := 2) rfl (pgs_cons (pg_name (i := 5) sc.nd rfl (Or.inl rfl)) (pgs_cons (pg_name (i := 6) sc.nd rfl (Or.inl rfl)) pgs_nil))) (fun _ _ _ _ _ => zts_one (zb_cmp (zop_eq (Roomu hr 64)) (zv 6) (zv 4) (by rfl))) (fun _ _ _ _ _ => (zv 5))) za_nil)))))))))), fun ds S Q h => ?_⟩
    obtain ⟨ss, pr, rfl, hs, hr2, hne, h⟩ := h
    refine ⟨ss, pr, rfl, hs, hr2, ss, rfl, hs.le, hs.sz, fun ls els hl hp => ?_⟩
    rw [← els] at hne
    refine ⟨_, eqo_pls ls [], zno (decide_eq_false hne) ?_⟩
    refine ⟨len1000 (by omega), zLcL_map (f := plP) (fun p => frP (costP ss pr p)) ls [] (fun p hm acc l' k => zyes rfl ⟨ss, pr, p, rfl, hs.le, hs.sz, hr2.1, hp p hm, k⟩) ?_⟩
    have e : ∃ q l, ls.map (costP ss pr) = q :: l := by
      cases z : ls with
      | nil => exact absurd z hne
      | cons a l => exact ⟨_, _, rfl⟩
    obtain ⟨q, l, e⟩ := e
    have e1 : [] ++ ls.map (fun p => frP (costP ss pr p)) = (q :: l).map frP := by
      rw [← e, List.map_map]; rfl
    have e2 : least q l = leastPl ss pr := by unfold leastPl; rw [← els, e]; rfl
    rw [e1]
    refine ⟨q, l, rfl, fun r hr => ?_, ?_⟩
    · rw [← e] at hr
      obtain ⟨m, hm, rfl⟩ := List.mem_map.mp hr
      exact (costP_sz hs.le hs.sz (hp m hm) hr2.1).big
    rw [e2]
    show Nat.ble (((ls.map plP).zip ((q :: l).map frP)).map fun p => PyData.tuple [p.1, p.2]).length 1000 = true ∧ zLcL _ _ _ _ (((ls.map plP).zip ((q :: l).map frP)).map fun p => PyData.tuple [p.1, p.2]) [] _ _
    rw [← e, zipP, zip_self, List.map_map]
    refine ⟨len1000 (by omega), zLcL_fm (f := fun p => PyData.tuple [plP p, frP (costP ss pr p)]) (fun p => decide (costP ss pr p = leastPl ss pr)) plP ls [] (fun b hb acc l' k1 k2 => ⟨rfl, _, eqo_fr _ _, zboth (fun e => k1 e) (fun e => k2 e)⟩) ?_⟩
    exact h _
def sp_least_plane_cost : ZC := fun ds S Q => ∃ (ss : List Spot) (pr : Ln), ds = [.d (.list (ss.map spP)), .d (lnP pr)] ∧ Spots ss ∧ Prs pr ∧ planesOf ss ≠ [] ∧ Q (fr (leastPl ss pr)) S
theorem sc_least_plane_cost : FnScope ["spots", "prices"] ["spots", "prices"] (defScope s_least_plane_cost) := ⟨rfl, rfl, rfl, by decide +kernel, rfl, by decide +kernel, by decide +kernel⟩
theorem C_least_plane_cost (T : Txt fa fn P K mg base) (C_cheapest_planes : Callee P w K mg base 40 "cheapest_planes" 2 sp_cheapest_planes) : Callee P w K mg base 41 "least_plane_cost" 2 sp_least_plane_cost :=
  callee T 79 85 (d := d_least_plane_cost) rfl rfl rfl rfl rfl (fun _ _ _ _ _ _ us hl => match us, hl with | [_, _], _ => rfl) sc_least_plane_cost (fun ds S Q h => by first | (obtain ⟨_, rfl, _⟩ := h; rfl) | (obtain ⟨_, _, rfl, _⟩ := h; rfl) | (obtain ⟨_, _, _, rfl, _⟩ := h; rfl) | (obtain ⟨_, _, _, _, rfl, _⟩ := h; rfl) | (obtain ⟨_, _, _, _, _, rfl, _⟩ := h; rfl) | (obtain ⟨_, _, _, _, _, _, rfl, _⟩ := h; rfl) | (obtain ⟨_, _, _, _, _, _, _, rfl, _⟩ := h; rfl) | (obtain ⟨_, _, _, _, _, _, _, _, rfl, _⟩ := h; rfl) | (obtain ⟨_, _, _, _, _, _, _, _, _, rfl, _⟩ := h; rfl) | (obtain ⟨_, _, _, _, _, _, _, _, _, _, rfl, _⟩ := h; rfl) | (obtain ⟨_, _, _, _, _, _, _, _, _, _, _, rfl, _⟩ := h; rfl) | (obtain ⟨_, _, _, _, _, _, _, _, _, _, _, _, rfl, _⟩ := h; rfl)) fun f cdv A outer s H hr => by
    have sc := sc_least_plane_cost
    refine ⟨_, (zss_one (zs_ret (ze_ix zix (ze_c1 C_cheapest_planes hr (za_cons (zv 0) (za_cons (zv 1) za_nil))) ze_int))), fun ds S Q h => ?_⟩
    obtain ⟨ss, pr, rfl, hs, hr2, hne, h⟩ := h
    exact ⟨ss, pr, rfl, hs, hr2, hne, fun x => h⟩
end
end Sl
set_option Elab.async false
set_option linter.all false
set_option maxRecDepth 100000
set_option maxHeartbeats 4000000
namespace Sl
open PySem PySem.Spec PyProof.Rows L2 Z
open Sg (Pt Ln PsOk PrOk Spread stand rise loS hiS phi)
/-- the law's pot of draws, at t -/
def Pot (S : Sto) (t : Addr) : Prop := ∃ a b : Int, S t = some (.lst [.int a, .int b]) ∧ 0 ≤ b ∧ b < 2147483648
/-- the store, but for the pot -/
def But (t : Addr) (S S' : Sto) : Prop := Pot S' t ∧ ∀ a, a ≠ t → S' a = S a
theorem But.trans {t : Addr} {S S' S2 : Sto} (h : But t S S') (k : But t S' S2) : But t S S2 := ⟨k.1, fun a n => (k.2 a n).trans (h.2 a n)⟩
theorem But.refl {t : Addr} {S : Sto} (h : Pot S t) : But t S S := ⟨h, fun _ _ => rfl⟩
theorem But.put {t : Addr} {S : Sto} {a b : Int} (h1 : 0 ≤ b) (h2 : b < 2147483648) : But t S (S.put t (.lst [.int a, .int b])) := ⟨⟨a, b, Sto.put_same, h1, h2⟩, fun _ n => Sto.put_ne n⟩
theorem no_long {i j : Int} (h : j.natAbs < 2 ^ 200) : Builtin.divisionGoesByPylong i j = false := by
  unfold Builtin.divisionGoesByPylong
  have hd : (if (j == 0) = true then 0 else j.natAbs.log2 / 30 + 1) ≤ 300 := by
    split
    · omega
    · by_cases z : j.natAbs = 0
      · rw [z]; decide
      · have := (Nat.log2_lt z).mpr h
        omega
  simp only [Bool.and_eq_false_iff, decide_eq_false_iff_not]
  left
  omega
section
variable {P : Program} {w : World} {K : PySem.W.Frag} {mg : Str → Option Value} {base : Heap}
def sp_law_low : ZC := fun ds S Q => ∃ n d : Int, ds = [.d (.int n), .d (.int d)] ∧ d ≠ 0 ∧ Q (fr (Rat.divInt n d)) S
theorem sc_law_low : FnScope ["_law_top", "_law_bottom", "_law_one", "_law_other"] ["_law_top", "_law_bottom"] (defScope s_law_low) := ⟨rfl, rfl, rfl, by decide +kernel, rfl, by decide +kernel, by decide +kernel⟩
theorem C_law_low (T : Txt fa fn P K mg base) : Callee P w K mg base 34 "_law_low" 2 sp_law_low :=
  callee T 100 106 (d := d_law_low) rfl rfl rfl rfl rfl (fun _ _ _ _ _ _ us hl => match us, hl with | [_, _], _ => rfl) sc_law_low (fun ds S Q h => by first | (obtain ⟨_, rfl, _⟩ := h; rfl) | (obtain ⟨_, _, rfl, _⟩ := h; rfl) | (obtain ⟨_, _, _, rfl, _⟩ := h; rfl) | (obtain ⟨_, _, _, _, rfl, _⟩ := h; rfl) | (obtain ⟨_, _, _, _, _, rfl, _⟩ := h; rfl) | (obtain ⟨_, _, _, _, _, _, rfl, _⟩ := h; rfl) | (obtain ⟨_, _, _, _, _, _, _, rfl, _⟩ := h; rfl) | (obtain ⟨_, _, _, _, _, _, _, _, rfl, _⟩ := h; rfl) | (obtain ⟨_, _, _, _, _, _, _, _, _, rfl, _⟩ := h; rfl) | (obtain ⟨_, _, _, _, _, _, _, _, _, _, rfl, _⟩ := h; rfl) | (obtain ⟨_, _, _, _, _, _, _, _, _, _, _, rfl, _⟩ := h; rfl) | (obtain ⟨_, _, _, _, _, _, _, _, _, _, _, _, rfl, _⟩ := h; rfl)) fun f cdv A outer s H hr => by
    have sc := sc_law_low
    refine ⟨_, (zss_cons (zs_par rfl sc.nd (i := 2) (j := 3) rfl rfl (by decide) rfl rfl (za_cons (ze_callB zc_abs (by rfl) (T.free_ 12 rfl) (by decide +kernel) (za_cons (zv 0) za_nil)) (za_cons (ze_callB zc_abs (by rfl) (T.free_ 12 rfl) (by decide +kernel) (za_cons (zv 1) za_nil)) za_nil))) (zss_cons (zs_while PassesOwn.never (zb_cmp zop_gt (zv 3) ze_int (by rfl)) (zss_one (zs_par rfl sc.nd (i := 2) (j := 3) rfl rfl (by decide) rfl rfl (za_cons (zv 3) (za_cons (ze_op zop_mod (zv 2) (zv 3)) za_nil))))) (zss_cons (zs_if (zb_cmp zop_lt (zv 1) ze_int (by rfl)) (zss_one (zs_set (i := 2) sc.nd rfl (Or.inl rfl) (ze_neg (zv 2)))) zss_nil) (zss_one (zs_ret (ze_tup (za_cons (ze_op (zop_fdiv ⟨T.seer, T.tree, hr, ⟨_, rfl⟩, rfl, rfl⟩) (zv 0) (zv 2)) (za_cons (ze_op (zop_fdiv ⟨T.seer, T.tree, hr, ⟨_, rfl⟩, rfl, rfl⟩) (zv 1) (zv 2)) za_nil)))))))), fun ds S Q h => ?_⟩
    obtain ⟨n, d, rfl, hd, h⟩ := h
    refine Exists.intro (fun m ρ S' => ∃ x : Nat, ρ = [some (.d (.int n)), some (.d (.int d)), some (.d (.int x)), some (.d (.int m))] ∧ S' = S ∧ Nat.gcd x m = Nat.gcd n.natAbs d.natAbs) (And.intro ⟨d.natAbs, n.natAbs, ?_, rfl, rfl⟩ ?_)
    · rw [← abs_int, ← abs_int]; rfl
    rintro m ρ S' ⟨x, rfl, rfl, e⟩
    refine zif (fun c => ?_) (fun c => ?_)
    · refine ⟨by omega, x % m, Nat.mod_lt _ (by omega), m, by rw [Int.natCast_emod]; rfl, rfl, ?_⟩
      rw [← e, Nat.gcd_comm x m, Nat.gcd_rec m x, Nat.gcd_comm]
    · have : m = 0 := by omega
      subst this
      rw [Nat.gcd_zero_right] at e
      subst e
      have hg : Nat.gcd n.natAbs d.natAbs ≠ 0 := fun q => hd (by have := Nat.gcd_eq_zero_iff.mp q; omega)
      have e := low_fr (n := n) hd rfl
      have h : Q (.d (frP (Rat.divInt n d))) S' := h
      refine zif (fun c => ?_) (fun c => ?_)
      · refine ⟨by omega, by omega, ?_⟩
        rw [if_pos c] at e
        rw [← e] at h
        exact h
      · refine ⟨by omega, by omega, ?_⟩
        rw [if_neg c] at e
        rw [← e] at h
        exact h
def sp_law_plus : ZC := fun ds S Q => ∃ q r : Rat, ds = [fr q, fr r] ∧ Big q ∧ Big r ∧ Q (fr (q + r)) S
theorem sc_law_plus : FnScope ["_law_one", "_law_other"] ["_law_one", "_law_other"] (defScope s_law_plus) := ⟨rfl, rfl, rfl, by decide +kernel, rfl, by decide +kernel, by decide +kernel⟩
theorem C_law_plus (T : Txt fa fn P K mg base) (C_law_low : Callee P w K mg base 34 "_law_low" 2 sp_law_low) : Callee P w K mg base 35 "_law_plus" 2 sp_law_plus :=
  callee T 101 107 (d := d_law_plus) rfl rfl rfl rfl rfl (fun _ _ _ _ _ _ us hl => match us, hl with | [_, _], _ => rfl) sc_law_plus (fun ds S Q h => by first | (obtain ⟨_, rfl, _⟩ := h; rfl) | (obtain ⟨_, _, rfl, _⟩ := h; rfl) | (obtain ⟨_, _, _, rfl, _⟩ := h; rfl) | (obtain ⟨_, _, _, _, rfl, _⟩ := h; rfl) | (obtain ⟨_, _, _, _, _, rfl, _⟩ := h; rfl) | (obtain ⟨_, _, _, _, _, _, rfl, _⟩ := h; rfl) | (obtain ⟨_, _, _, _, _, _, _, rfl, _⟩ := h; rfl) | (obtain ⟨_, _, _, _, _, _, _, _, rfl, _⟩ := h; rfl) | (obtain ⟨_, _, _, _, _, _, _, _, _, rfl, _⟩ := h; rfl) | (obtain ⟨_, _, _, _, _, _, _, _, _, _, rfl, _⟩ := h; rfl) | (obtain ⟨_, _, _, _, _, _, _, _, _, _, _, rfl, _⟩ := h; rfl) | (obtain ⟨_, _, _, _, _, _, _, _, _, _, _, _, rfl, _⟩ := h; rfl)) fun f cdv A outer s H hr => by
    have sc := sc_law_plus
    refine ⟨_, (zss_one (zs_ret (ze_c1 C_law_low hr (za_cons (ze_op zop_add (ze_op zop_mul (ze_ix zix (zv 0) ze_int) (ze_ix zix (zv 1) ze_int)) (ze_op zop_mul (ze_ix zix (zv 1) ze_int) (ze_ix zix (zv 0) ze_int))) (za_cons (ze_op zop_mul (ze_ix zix (zv 0) ze_int) (ze_ix zix (zv 1) ze_int)) za_nil))))), fun ds S Q h => ?_⟩
    obtain ⟨q, r, rfl, bq, br, h⟩ := h
    rw [add_eq] at h
    exact ⟨bq.nd br, br.nd bq, bq.dd br, _, _, rfl, mul_ne q r, h⟩
def sp_law_less : ZC := fun ds S Q => ∃ q r : Rat, ds = [fr q, fr r] ∧ Big q ∧ Big r ∧ Q (fr (q - r)) S
theorem sc_law_less : FnScope ["_law_one", "_law_other"] ["_law_one", "_law_other"] (defScope s_law_less) := ⟨rfl, rfl, rfl, by decide +kernel, rfl, by decide +kernel, by decide +kernel⟩
theorem C_law_less (T : Txt fa fn P K mg base) (C_law_low : Callee P w K mg base 34 "_law_low" 2 sp_law_low) : Callee P w K mg base 35 "_law_less" 2 sp_law_less :=
  callee T 102 108 (d := d_law_less) rfl rfl rfl rfl rfl (fun _ _ _ _ _ _ us hl => match us, hl with | [_, _], _ => rfl) sc_law_less (fun ds S Q h => by first | (obtain ⟨_, rfl, _⟩ := h; rfl) | (obtain ⟨_, _, rfl, _⟩ := h; rfl) | (obtain ⟨_, _, _, rfl, _⟩ := h; rfl) | (obtain ⟨_, _, _, _, rfl, _⟩ := h; rfl) | (obtain ⟨_, _, _, _, _, rfl, _⟩ := h; rfl) | (obtain ⟨_, _, _, _, _, _, rfl, _⟩ := h; rfl) | (obtain ⟨_, _, _, _, _, _, _, rfl, _⟩ := h; rfl) | (obtain ⟨_, _, _, _, _, _, _, _, rfl, _⟩ := h; rfl) | (obtain ⟨_, _, _, _, _, _, _, _, _, rfl, _⟩ := h; rfl) | (obtain ⟨_, _, _, _, _, _, _, _, _, _, rfl, _⟩ := h; rfl) | (obtain ⟨_, _, _, _, _, _, _, _, _, _, _, rfl, _⟩ := h; rfl) | (obtain ⟨_, _, _, _, _, _, _, _, _, _, _, _, rfl, _⟩ := h; rfl)) fun f cdv A outer s H hr => by
    have sc := sc_law_less
    refine ⟨_, (zss_one (zs_ret (ze_c1 C_law_low hr (za_cons (ze_op zop_sub (ze_op zop_mul (ze_ix zix (zv 0) ze_int) (ze_ix zix (zv 1) ze_int)) (ze_op zop_mul (ze_ix zix (zv 1) ze_int) (ze_ix zix (zv 0) ze_int))) (za_cons (ze_op zop_mul (ze_ix zix (zv 0) ze_int) (ze_ix zix (zv 1) ze_int)) za_nil))))), fun ds S Q h => ?_⟩
    obtain ⟨q, r, rfl, bq, br, h⟩ := h
    rw [sub_eq] at h
    exact ⟨bq.nd br, br.nd bq, bq.dd br, _, _, rfl, mul_ne q r, h⟩
def sp_law_times : ZC := fun ds S Q => ∃ q r : Rat, ds = [fr q, fr r] ∧ Big q ∧ Big r ∧ Q (fr (q * r)) S
theorem sc_law_times : FnScope ["_law_one", "_law_other"] ["_law_one", "_law_other"] (defScope s_law_times) := ⟨rfl, rfl, rfl, by decide +kernel, rfl, by decide +kernel, by decide +kernel⟩
theorem C_law_times (T : Txt fa fn P K mg base) (C_law_low : Callee P w K mg base 34 "_law_low" 2 sp_law_low) : Callee P w K mg base 35 "_law_times" 2 sp_law_times :=
  callee T 103 109 (d := d_law_times) rfl rfl rfl rfl rfl (fun _ _ _ _ _ _ us hl => match us, hl with | [_, _], _ => rfl) sc_law_times (fun ds S Q h => by first | (obtain ⟨_, rfl, _⟩ := h; rfl) | (obtain ⟨_, _, rfl, _⟩ := h; rfl) | (obtain ⟨_, _, _, rfl, _⟩ := h; rfl) | (obtain ⟨_, _, _, _, rfl, _⟩ := h; rfl) | (obtain ⟨_, _, _, _, _, rfl, _⟩ := h; rfl) | (obtain ⟨_, _, _, _, _, _, rfl, _⟩ := h; rfl) | (obtain ⟨_, _, _, _, _, _, _, rfl, _⟩ := h; rfl) | (obtain ⟨_, _, _, _, _, _, _, _, rfl, _⟩ := h; rfl) | (obtain ⟨_, _, _, _, _, _, _, _, _, rfl, _⟩ := h; rfl) | (obtain ⟨_, _, _, _, _, _, _, _, _, _, rfl, _⟩ := h; rfl) | (obtain ⟨_, _, _, _, _, _, _, _, _, _, _, rfl, _⟩ := h; rfl) | (obtain ⟨_, _, _, _, _, _, _, _, _, _, _, _, rfl, _⟩ := h; rfl)) fun f cdv A outer s H hr => by
    have sc := sc_law_times
    refine ⟨_, (zss_one (zs_ret (ze_c1 C_law_low hr (za_cons (ze_op zop_mul (ze_ix zix (zv 0) ze_int) (ze_ix zix (zv 1) ze_int)) (za_cons (ze_op zop_mul (ze_ix zix (zv 0) ze_int) (ze_ix zix (zv 1) ze_int)) za_nil))))), fun ds S Q h => ?_⟩
    obtain ⟨q, r, rfl, bq, br, h⟩ := h
    rw [mul_eq] at h
    exact ⟨bq.nn br, bq.dd br, _, _, rfl, mul_ne q r, h⟩
def sp_law_below : ZC := fun ds S Q => ∃ q r : Rat, ds = [fr q, fr r] ∧ Big q ∧ Big r ∧ Q (.d (.bool (decide (q < r)))) S
theorem sc_law_below : FnScope ["_law_one", "_law_other"] ["_law_one", "_law_other"] (defScope s_law_below) := ⟨rfl, rfl, rfl, by decide +kernel, rfl, by decide +kernel, by decide +kernel⟩
theorem C_law_below (T : Txt fa fn P K mg base) : Callee P w K mg base 1 "_law_below" 2 sp_law_below :=
  callee T 104 110 (d := d_law_below) rfl rfl rfl rfl rfl (fun _ _ _ _ _ _ us hl => match us, hl with | [_, _], _ => rfl) sc_law_below (fun ds S Q h => by first | (obtain ⟨_, rfl, _⟩ := h; rfl) | (obtain ⟨_, _, rfl, _⟩ := h; rfl) | (obtain ⟨_, _, _, rfl, _⟩ := h; rfl) | (obtain ⟨_, _, _, _, rfl, _⟩ := h; rfl) | (obtain ⟨_, _, _, _, _, rfl, _⟩ := h; rfl) | (obtain ⟨_, _, _, _, _, _, rfl, _⟩ := h; rfl) | (obtain ⟨_, _, _, _, _, _, _, rfl, _⟩ := h; rfl) | (obtain ⟨_, _, _, _, _, _, _, _, rfl, _⟩ := h; rfl) | (obtain ⟨_, _, _, _, _, _, _, _, _, rfl, _⟩ := h; rfl) | (obtain ⟨_, _, _, _, _, _, _, _, _, _, rfl, _⟩ := h; rfl) | (obtain ⟨_, _, _, _, _, _, _, _, _, _, _, rfl, _⟩ := h; rfl) | (obtain ⟨_, _, _, _, _, _, _, _, _, _, _, _, rfl, _⟩ := h; rfl)) fun f cdv A outer s H hr => by
    have sc := sc_law_below
    refine ⟨_, (zss_one (zs_ret (ze_cmp zop_lt (ze_op zop_mul (ze_ix zix (zv 0) ze_int) (ze_ix zix (zv 1) ze_int)) (ze_op zop_mul (ze_ix zix (zv 1) ze_int) (ze_ix zix (zv 0) ze_int)) (by rfl)))), fun ds S Q h => ?_⟩
    obtain ⟨q, r, rfl, bq, br, h⟩ := h
    rw [← lt_fr] at h
    exact ⟨bq.nd br, br.nd bq, h⟩
def sp_law_cell : ZC := fun ds S Q => ∃ (ns : List Int) (k : Nat), ds = [.ro ns, .d (.int k)] ∧ ∀ i : Int, Q (.d (.int i)) S
theorem sc_law_cell : FnScope ["_law_script", "_law_k"] ["_law_script", "_law_k"] (defScope s_law_cell) := ⟨rfl, rfl, rfl, by decide +kernel, rfl, by decide +kernel, by decide +kernel⟩
theorem C_law_cell (T : Txt fa fn P K mg base) : Callee P w K mg base 1 "_law_cell" 2 sp_law_cell :=
  callee T 96 102 (d := d_law_cell) rfl rfl rfl rfl rfl (fun _ _ _ _ _ _ us hl => match us, hl with | [_, _], _ => rfl) sc_law_cell (fun ds S Q h => by first | (obtain ⟨_, rfl, _⟩ := h; rfl) | (obtain ⟨_, _, rfl, _⟩ := h; rfl) | (obtain ⟨_, _, _, rfl, _⟩ := h; rfl) | (obtain ⟨_, _, _, _, rfl, _⟩ := h; rfl) | (obtain ⟨_, _, _, _, _, rfl, _⟩ := h; rfl) | (obtain ⟨_, _, _, _, _, _, rfl, _⟩ := h; rfl) | (obtain ⟨_, _, _, _, _, _, _, rfl, _⟩ := h; rfl) | (obtain ⟨_, _, _, _, _, _, _, _, rfl, _⟩ := h; rfl) | (obtain ⟨_, _, _, _, _, _, _, _, _, rfl, _⟩ := h; rfl) | (obtain ⟨_, _, _, _, _, _, _, _, _, _, rfl, _⟩ := h; rfl) | (obtain ⟨_, _, _, _, _, _, _, _, _, _, _, rfl, _⟩ := h; rfl) | (obtain ⟨_, _, _, _, _, _, _, _, _, _, _, _, rfl, _⟩ := h; rfl)) fun f cdv A outer s H hr => by
    have sc := sc_law_cell
    refine ⟨_, (zss_cons (zs_if (zb_cmp zop_lt (zv 1) (ze_callB zc_len (by rfl) (T.free_ 8 rfl) (by decide +kernel) (za_cons (zv 0) za_nil)) (by rfl)) (zss_one (zs_ret (ze_ix zix (zv 0) (zv 1)))) zss_nil) (zss_one (zs_ret ze_int))), fun ds S Q h => ?_⟩
    obtain ⟨ns, k, rfl, h⟩ := h
    refine zif (fun c => ?_) (fun c => h 0)
    have c2 : k < ns.length := by rw [List.length_map] at c; omega
    dsimp only [zAsgG, zDPut, zwipe, zNeg, List.map_cons, List.map_nil, ztAnd, ztOr, ztNot, ztB, zOp, zCall, zaCons, zaNil, zV, zC, zgName, zgTup, zgsN, zgCons, zgNil, zSeq, zAsg, zIfS, zRet, zDrop_, zNext, List.getElem?_cons_succ, List.getElem?_cons_zero, List.set_cons_succ, List.set_cons_zero]
    have e : pAt (ns.map PyData.int) (k : Int) = some (.int ns[k]) := pAt_nat (List.getElem?_eq_getElem c2)
    show (match pAt (ns.map PyData.int) (k : Int) with
      | some d => Q (.d d) S
      | none => False)
    rw [e]
    exact h _
def sp_law_pot : ZC := fun ds S Q => ∃ i : Int, ds = [.d (.int i)] ∧ ∀ t S', S t = none → Pot S' t → (∀ a, a ≠ t → S' a = S a) → Q (.ref t) S'
theorem sc_law_pot : FnScope ["_law_cell_here"] ["_law_cell_here"] (defScope s_law_pot) := ⟨rfl, rfl, rfl, by decide +kernel, rfl, by decide +kernel, by decide +kernel⟩
theorem C_law_pot (T : Txt fa fn P K mg base) : Callee P w K mg base 1 "_law_pot" 1 sp_law_pot :=
  callee T 97 103 (d := d_law_pot) rfl rfl rfl rfl rfl (fun _ _ _ _ _ _ us hl => match us, hl with | [_], _ => rfl) sc_law_pot (fun ds S Q h => by first | (obtain ⟨_, rfl, _⟩ := h; rfl) | (obtain ⟨_, _, rfl, _⟩ := h; rfl) | (obtain ⟨_, _, _, rfl, _⟩ := h; rfl) | (obtain ⟨_, _, _, _, rfl, _⟩ := h; rfl) | (obtain ⟨_, _, _, _, _, rfl, _⟩ := h; rfl) | (obtain ⟨_, _, _, _, _, _, rfl, _⟩ := h; rfl) | (obtain ⟨_, _, _, _, _, _, _, rfl, _⟩ := h; rfl) | (obtain ⟨_, _, _, _, _, _, _, _, rfl, _⟩ := h; rfl) | (obtain ⟨_, _, _, _, _, _, _, _, _, rfl, _⟩ := h; rfl) | (obtain ⟨_, _, _, _, _, _, _, _, _, _, rfl, _⟩ := h; rfl) | (obtain ⟨_, _, _, _, _, _, _, _, _, _, _, rfl, _⟩ := h; rfl) | (obtain ⟨_, _, _, _, _, _, _, _, _, _, _, _, rfl, _⟩ := h; rfl)) fun f cdv A outer s H hr => by
    have sc := sc_law_pot
    refine ⟨_, (zss_one (zs_ret (ze_lstO (za_cons (ze_callB (zc_max2 rfl) (by rfl) (T.free_ 0 rfl) (by decide +kernel) (za_cons ze_int (za_cons (ze_op zop_sub (ze_callB zc_abs (by rfl) (T.free_ 12 rfl) (by decide +kernel) (za_cons (zv 0) za_nil)) (ze_op zop_pow ze_int ze_int)) za_nil))) (za_cons (ze_op zop_add (ze_op zop_mod (ze_callB zc_abs (by rfl) (T.free_ 12 rfl) (by decide +kernel) (za_cons (zv 0) za_nil)) ze_int) ze_int) za_nil))))), fun ds S Q h => ?_⟩
    obtain ⟨i, rfl, h⟩ := h
    refine ⟨⟨by decide, by decide, by decide⟩, by show (0 : Int) < 2147483629; decide, fun t ht => h t _ ht ⟨_, _, Sto.put_same, ?_, ?_⟩ fun a n => Sto.put_ne n⟩
    · have := Int.emod_nonneg (if i < 0 then -i else i) (show (2147483629 : Int) ≠ 0 by decide)
      omega
    · have := Int.emod_lt_of_pos (if i < 0 then -i else i) (show (0 : Int) < 2147483629 by decide)
      omega
/-- a draw: some number below many -/
def sp_law_draw : ZC := fun ds S Q => ∃ (t : Addr) (many : Int), ds = [.ref t, .d (.int many)] ∧ Pot S t ∧ 0 < many ∧ many.natAbs < 2 ^ 200 ∧ ∀ r S', 0 ≤ r → r < many → But t S S' → Q (.d (.int r)) S'
theorem sc_law_draw : FnScope ["_law_pot_here", "_law_many", "_law_digit"] ["_law_pot_here", "_law_many"] (defScope s_law_draw) := ⟨rfl, rfl, rfl, by decide +kernel, rfl, by decide +kernel, by decide +kernel⟩
theorem C_law_draw (T : Txt fa fn P K mg base) : Callee P w K mg base 1 "_law_draw" 2 sp_law_draw :=
  callee T 98 104 (d := d_law_draw) rfl rfl rfl rfl rfl (fun _ _ _ _ _ _ us hl => match us, hl with | [_, _], _ => rfl) sc_law_draw (fun ds S Q h => by first | (obtain ⟨_, rfl, _⟩ := h; rfl) | (obtain ⟨_, _, rfl, _⟩ := h; rfl) | (obtain ⟨_, _, _, rfl, _⟩ := h; rfl) | (obtain ⟨_, _, _, _, rfl, _⟩ := h; rfl) | (obtain ⟨_, _, _, _, _, rfl, _⟩ := h; rfl) | (obtain ⟨_, _, _, _, _, _, rfl, _⟩ := h; rfl) | (obtain ⟨_, _, _, _, _, _, _, rfl, _⟩ := h; rfl) | (obtain ⟨_, _, _, _, _, _, _, _, rfl, _⟩ := h; rfl) | (obtain ⟨_, _, _, _, _, _, _, _, _, rfl, _⟩ := h; rfl) | (obtain ⟨_, _, _, _, _, _, _, _, _, _, rfl, _⟩ := h; rfl) | (obtain ⟨_, _, _, _, _, _, _, _, _, _, _, rfl, _⟩ := h; rfl) | (obtain ⟨_, _, _, _, _, _, _, _, _, _, _, _, rfl, _⟩ := h; rfl)) fun f cdv A outer s H hr => by
    have sc := sc_law_draw
    refine ⟨_, (zss_cons (zs_if (zb_cmp zop_gt (ze_ix zix (zv 0) ze_int) ze_int (by rfl)) (zss_cons (zs_asg (ze_callB zc_divmod (by rfl) (T.free_ 4 rfl) (by decide +kernel) (za_cons (ze_ix zix (zv 0) ze_int) (za_cons (zv 1) za_nil))) (zg_tup (n := 2) rfl (zgs_cons (zg_sub (zv 0) ze_int) (zgs_cons (zg_name (i := 2) sc.nd rfl (Or.inl rfl)) zgs_nil)))) (zss_one (zs_ret (zv 2)))) zss_nil) (zss_cons (zs_asg (ze_op zop_mod (ze_op zop_add (ze_op zop_mul (ze_ix zix (zv 0) ze_int) ze_int) ze_int) ze_int) (zg_sub (zv 0) ze_int)) (zss_one (zs_ret (ze_op zop_mod (ze_op zop_div (ze_op zop_mod (ze_op zop_mul (ze_ix zix (zv 0) ze_int) (ze_ix zix (zv 0) ze_int)) ze_int) ze_int) (zv 1)))))), fun ds S Q h => ?_⟩
    obtain ⟨t, many, rfl, ⟨a, b, hS, hb1, hb2⟩, hm, hm2, h⟩ := h
    have g0 : ∀ {R : D → Sto → Prop}, R (.d (.int a)) S → zIx (.ref t) (.d (.int 0)) S R := fun q => zIx_ref hS rfl q
    have g1 : ∀ {R : D → Sto → Prop}, R (.d (.int b)) S → zIx (.ref t) (.d (.int 1)) S R := fun q => zIx_ref hS rfl q
    dsimp only [zAsgG, zDPut, zwipe, zNeg, List.map_cons, List.map_nil, ztAnd, ztOr, ztNot, ztB, zOp, zCall, zaCons, zaNil, zV, zC, zgName, zgTup, zgsN, zgCons, zgNil, zSeq, zAsg, zIfS, zRet, zDrop_, zNext, List.getElem?_cons_succ, List.getElem?_cons_zero, List.set_cons_succ, List.set_cons_zero]
    refine g0 (zif (fun c => ?_) (fun c => ?_))
    · show zIx (.ref t) (.d (.int 0)) S _
      refine g0 ?_
      refine ⟨⟨hm, no_long hm2⟩, rfl, t, _, 0, _, rfl, hS, rfl, rfl, Nat.le_of_ble_eq_true rfl, ?_⟩
      exact h (a % many) _ (Int.emod_nonneg a (by omega)) (Int.emod_lt_of_pos a hm) (But.put hb1 hb2)
    · show zIx (.ref t) (.d (.int 1)) S _
      refine g1 ?_
      have m1 : IntMulOk b 48271 := mulOk (A := 31) (B := 16) (by omega) (by decide) (by decide)
      have n0 := Int.emod_nonneg (b * 48271 + 11) (show (2147483647 : Int) ≠ 0 by decide)
      have n1 := Int.emod_lt_of_pos (b * 48271 + 11) (show (0 : Int) < 2147483647 by decide)
      refine ⟨m1, by show (0 : Int) < 2147483647; decide, t, _, 1, _, rfl, hS, rfl, rfl, Nat.le_of_ble_eq_true rfl, ?_⟩
      show zRet _ _ _ (S.put t (.lst [.int a, .int ((b * 48271 + 11) % 2147483647)]))
      generalize (b * 48271 + 11) % 2147483647 = c2 at n0 n1
      have m2 : IntMulOk c2 c2 := mulOk (A := 31) (B := 31) (by omega) (by omega) (by decide)
      have bt := But.put (t := t) (S := S) (a := a) (b := c2) n0 (by omega)
      generalize hS2 : S.put t (.lst [.int a, .int c2]) = S2 at bt
      have hS3 : S2 t = some (.lst [.int a, .int c2]) := by rw [← hS2]; exact Sto.put_same
      have g2 : ∀ {R : D → Sto → Prop}, R (.d (.int c2)) S2 → zIx (.ref t) (.d (.int 1)) S2 R := fun q => zIx_ref hS3 rfl q
      show zRet _ _ [some (.ref t), some (.d (.int many)), none] S2
      dsimp only [zAsgG, zDPut, zwipe, zNeg, List.map_cons, List.map_nil, ztAnd, ztOr, ztNot, ztB, zOp, zCall, zaCons, zaNil, zV, zC, zgName, zgTup, zgsN, zgCons, zgNil, zSeq, zAsg, zIfS, zRet, zDrop_, zNext, List.getElem?_cons_succ, List.getElem?_cons_zero, List.set_cons_succ, List.set_cons_zero]
      refine g2 ?_
      refine g2 ?_
      exact ⟨m2, by show (0 : Int) < 2147483629; decide, ⟨by decide, by decide⟩, hm, h _ S2 (Int.emod_nonneg _ (by omega)) (Int.emod_lt_of_pos _ hm) bt⟩
end
end Sl
set_option Elab.async false
set_option linter.all false
set_option maxRecDepth 100000
set_option maxHeartbeats 4000000
namespace Sl
open PySem PySem.Spec PyProof.Rows L2 Z
open Sg (Pt Ln PsOk PrOk Spread stand rise loS hiS phi)
theorem divInt_pos {n d : Int} (hn : 0 < n) (hd : 0 < d) : 0 < Rat.divInt n d := by
  rw [Rat.divInt_eq_div]
  exact Sg.div_pos (by exact_mod_cast hn) (by exact_mod_cast hd)
theorem big60 {u : Int} (h0 : 0 ≤ u) (h1 : u < 10 ^ 60 - 1) : (1 + u).natAbs < 2 ^ 201 := by omega
section
variable {P : Program} {w : World} {K : PySem.W.Frag} {mg : Str → Option Value} {base : Heap}
def sp_law_small : ZC := fun ds S Q => ∃ t : Addr, ds = [.ref t] ∧ Pot S t ∧ ∀ q S', Sz 4 q → But t S S' → Q (fr q) S'
theorem sc_law_small : FnScope ["_law_pot_here"] ["_law_pot_here"] (defScope s_law_small) := ⟨rfl, rfl, rfl, by decide +kernel, rfl, by decide +kernel, by decide +kernel⟩
theorem C_law_small (T : Txt fa fn P K mg base) (C_law_low : Callee P w K mg base 34 "_law_low" 2 sp_law_low) (C_law_draw : Callee P w K mg base 1 "_law_draw" 2 sp_law_draw) : Callee P w K mg base 35 "_law_small" 1 sp_law_small :=
  callee T 105 111 (d := d_law_small) rfl rfl rfl rfl rfl (fun _ _ _ _ _ _ us hl => match us, hl with | [_], _ => rfl) sc_law_small (fun ds S Q h => by first | (obtain ⟨_, rfl, _⟩ := h; rfl) | (obtain ⟨_, _, rfl, _⟩ := h; rfl) | (obtain ⟨_, _, _, rfl, _⟩ := h; rfl) | (obtain ⟨_, _, _, _, rfl, _⟩ := h; rfl) | (obtain ⟨_, _, _, _, _, rfl, _⟩ := h; rfl) | (obtain ⟨_, _, _, _, _, _, rfl, _⟩ := h; rfl) | (obtain ⟨_, _, _, _, _, _, _, rfl, _⟩ := h; rfl) | (obtain ⟨_, _, _, _, _, _, _, _, rfl, _⟩ := h; rfl) | (obtain ⟨_, _, _, _, _, _, _, _, _, rfl, _⟩ := h; rfl) | (obtain ⟨_, _, _, _, _, _, _, _, _, _, rfl, _⟩ := h; rfl) | (obtain ⟨_, _, _, _, _, _, _, _, _, _, _, rfl, _⟩ := h; rfl) | (obtain ⟨_, _, _, _, _, _, _, _, _, _, _, _, rfl, _⟩ := h; rfl)) fun f cdv A outer s H hr => by
    have sc := sc_law_small
    refine ⟨_, (zss_one (zs_ret (ze_c1 C_law_low hr (za_cons (ze_op zop_sub (ze_c1 C_law_draw hr (za_cons (zv 0) (za_cons ze_int za_nil))) ze_int) (za_cons (ze_op zop_add ze_int (ze_c1 C_law_draw hr (za_cons (zv 0) (za_cons ze_int za_nil)))) za_nil))))), fun ds S Q h => ?_⟩
    obtain ⟨t, rfl, hS, h⟩ := h
    refine ⟨t, 13, rfl, hS, by decide, by decide, fun r S1 r0 r1 b1 => ⟨t, 4, rfl, b1.1, by decide, by decide, fun u S2 u0 u1 b2 => ⟨r - 6, 1 + u, rfl, by omega, h _ S2 (Sz.of_divInt (B := 0) (by omega) (by omega) (by omega)) (b1.trans b2)⟩⟩⟩
def sp_law_some : ZC := fun ds S Q => ∃ t : Addr, ds = [.ref t] ∧ Pot S t ∧ ∀ q S', Sz 4 q → 0 < q → But t S S' → Q (fr q) S'
theorem sc_law_some : FnScope ["_law_pot_here"] ["_law_pot_here"] (defScope s_law_some) := ⟨rfl, rfl, rfl, by decide +kernel, rfl, by decide +kernel, by decide +kernel⟩
theorem C_law_some (T : Txt fa fn P K mg base) (C_law_low : Callee P w K mg base 34 "_law_low" 2 sp_law_low) (C_law_draw : Callee P w K mg base 1 "_law_draw" 2 sp_law_draw) : Callee P w K mg base 35 "_law_some" 1 sp_law_some :=
  callee T 117 123 (d := d_law_some) rfl rfl rfl rfl rfl (fun _ _ _ _ _ _ us hl => match us, hl with | [_], _ => rfl) sc_law_some (fun ds S Q h => by first | (obtain ⟨_, rfl, _⟩ := h; rfl) | (obtain ⟨_, _, rfl, _⟩ := h; rfl) | (obtain ⟨_, _, _, rfl, _⟩ := h; rfl) | (obtain ⟨_, _, _, _, rfl, _⟩ := h; rfl) | (obtain ⟨_, _, _, _, _, rfl, _⟩ := h; rfl) | (obtain ⟨_, _, _, _, _, _, rfl, _⟩ := h; rfl) | (obtain ⟨_, _, _, _, _, _, _, rfl, _⟩ := h; rfl) | (obtain ⟨_, _, _, _, _, _, _, _, rfl, _⟩ := h; rfl) | (obtain ⟨_, _, _, _, _, _, _, _, _, rfl, _⟩ := h; rfl) | (obtain ⟨_, _, _, _, _, _, _, _, _, _, rfl, _⟩ := h; rfl) | (obtain ⟨_, _, _, _, _, _, _, _, _, _, _, rfl, _⟩ := h; rfl) | (obtain ⟨_, _, _, _, _, _, _, _, _, _, _, _, rfl, _⟩ := h; rfl)) fun f cdv A outer s H hr => by
    have sc := sc_law_some
    refine ⟨_, (zss_one (zs_ret (ze_c1 C_law_low hr (za_cons (ze_op zop_add ze_int (ze_c1 C_law_draw hr (za_cons (zv 0) (za_cons ze_int za_nil)))) (za_cons (ze_op zop_add ze_int (ze_c1 C_law_draw hr (za_cons (zv 0) (za_cons ze_int za_nil)))) za_nil))))), fun ds S Q h => ?_⟩
    obtain ⟨t, rfl, hS, h⟩ := h
    refine ⟨t, 6, rfl, hS, by decide, by decide, fun r S1 r0 r1 b1 => ⟨t, 4, rfl, b1.1, by decide, by decide, fun u S2 u0 u1 b2 => ⟨1 + r, 1 + u, rfl, by omega, h _ S2 (Sz.of_divInt (B := 0) (by omega) (by omega) (by omega)) (divInt_pos (by omega) (by omega)) (b1.trans b2)⟩⟩⟩
def sp_law_great : ZC := fun ds S Q => ∃ (t : Addr) (many : Int), ds = [.ref t, .d (.int many)] ∧ Pot S t ∧ 0 < many ∧ many.natAbs < 2 ^ 200 ∧ ∀ r S', 0 ≤ r → r < many → But t S S' → Q (.d (.int r)) S'
theorem sc_law_great : FnScope ["_law_pot_here", "_law_many", "_law_found", "_law_k"] ["_law_pot_here", "_law_many"] (defScope s_law_great) := ⟨rfl, rfl, rfl, by decide +kernel, rfl, by decide +kernel, by decide +kernel⟩
theorem C_law_great (T : Txt fa fn P K mg base) (C_law_draw : Callee P w K mg base 1 "_law_draw" 2 sp_law_draw) : Callee P w K mg base 2 "_law_great" 2 sp_law_great :=
  callee T 99 105 (d := d_law_great) rfl rfl rfl rfl rfl (fun _ _ _ _ _ _ us hl => match us, hl with | [_, _], _ => rfl) sc_law_great (fun ds S Q h => by first | (obtain ⟨_, rfl, _⟩ := h; rfl) | (obtain ⟨_, _, rfl, _⟩ := h; rfl) | (obtain ⟨_, _, _, rfl, _⟩ := h; rfl) | (obtain ⟨_, _, _, _, rfl, _⟩ := h; rfl) | (obtain ⟨_, _, _, _, _, rfl, _⟩ := h; rfl) | (obtain ⟨_, _, _, _, _, _, rfl, _⟩ := h; rfl) | (obtain ⟨_, _, _, _, _, _, _, rfl, _⟩ := h; rfl) | (obtain ⟨_, _, _, _, _, _, _, _, rfl, _⟩ := h; rfl) | (obtain ⟨_, _, _, _, _, _, _, _, _, rfl, _⟩ := h; rfl) | (obtain ⟨_, _, _, _, _, _, _, _, _, _, rfl, _⟩ := h; rfl) | (obtain ⟨_, _, _, _, _, _, _, _, _, _, _, rfl, _⟩ := h; rfl) | (obtain ⟨_, _, _, _, _, _, _, _, _, _, _, _, rfl, _⟩ := h; rfl)) fun f cdv A outer s H hr => by
    have sc := sc_law_great
    refine ⟨_, (zss_cons (zs_if (zb_cmp zop_gt (ze_ix zix (zv 0) ze_int) ze_int (by rfl)) (zss_one (zs_ret (ze_c1 C_law_draw hr (za_cons (zv 0) (za_cons (zv 1) za_nil))))) zss_nil) (zss_cons (zs_set (i := 2) sc.nd rfl (Or.inl rfl) ze_int) (zss_cons (zs_for PassesOwn.never rfl (zi_range (by rfl) (T.free_ 10 rfl) (za_cons ze_int za_nil)) (zg_name (i := 3) sc.nd rfl (Or.inl rfl)) (zss_one (zs_set (i := 2) sc.nd rfl (Or.inl rfl) (ze_op zop_add (ze_op zop_mul (zv 2) ze_int) (ze_c1 C_law_draw hr (za_cons (zv 0) (za_cons ze_int za_nil))))))) (zss_one (zs_ret (ze_op zop_mod (zv 2) (zv 1))))))), fun ds S Q h => ?_⟩
    obtain ⟨t, many, rfl, hS, hm, hm2, h⟩ := h
    obtain ⟨a, b, hS2, _, _⟩ := id hS
    have g0 : ∀ {R : D → Sto → Prop}, R (.d (.int a)) S → zIx (.ref t) (.d (.int 0)) S R := fun q => zIx_ref hS2 rfl q
    dsimp only [zAsgG, zDPut, zwipe, zNeg, List.map_cons, List.map_nil, ztAnd, ztOr, ztNot, ztB, zOp, zCall, zaCons, zaNil, zV, zC, zgName, zgTup, zgsN, zgCons, zgNil, zSeq, zAsg, zIfS, zRet, zDrop_, zNext, List.getElem?_cons_succ, List.getElem?_cons_zero, List.set_cons_succ, List.set_cons_zero]
    refine g0 (zif (fun c => ⟨t, many, rfl, hS, hm, hm2, fun r S' r0 r1 b => h r S' r0 r1 b⟩) (fun c => ?_))
    refine ⟨by decide, ?_⟩
    show zLoop _ _ _ ((List.range 7).map natP) _ _
    refine zLoop_ind (α := Nat) (f := natP) (fun m ρ S' => But t S S' ∧ ∃ (j : Nat) (acc : Int) (o1 : Option D), j + m.length = 7 ∧ 0 ≤ acc ∧ acc < 2 ^ (31 * j) ∧ ρ = [some (.ref t), some (.d (.int many)), some (.d (.int acc)), o1]) ?_ ?_ (List.range 7) _ S ⟨But.refl hS, 0, 0, none, rfl, by decide, by decide, rfl⟩
    · rintro ρ S' ⟨bt, j, acc, o1, hj, h0, h1, rfl⟩
      exact ⟨hm, h _ S' (Int.emod_nonneg _ (by omega)) (Int.emod_lt_of_pos _ hm) bt⟩
    · rintro k m ρ S' ⟨bt, j, acc, o1, hj, h0, h1, rfl⟩ ih
      rw [List.length_cons] at hj
      have hb : acc.natAbs < 2 ^ (31 * j) := by
        have : ((acc.natAbs : Nat) : Int) = acc := by omega
        have e : ((2 ^ (31 * j) : Nat) : Int) = (2 : Int) ^ (31 * j) := by push_cast; rfl
        omega
      have m1 : IntMulOk acc 1000000007 := mulOk (A := 31 * j) (B := 30) hb (by decide) (by omega)
      refine ⟨m1, t, 400000000, rfl, bt.1, by decide, by decide, fun r S2 r0 r1 b2 => ?_⟩
      refine ih _ _ ⟨bt.trans b2, j + 1, acc * 1000000007 + r, some (.d (natP k)), by omega, by omega, ?_, rfl⟩
      have e : (2 : Int) ^ (31 * (j + 1)) = 2 ^ (31 * j) * 2147483648 := by rw [Nat.mul_succ, Int.pow_add]; rfl
      rw [e]
      omega
def sp_law_above_nought : ZC := fun ds S Q => ∃ t : Addr, ds = [.ref t] ∧ Pot S t ∧ ∀ q S', Sz 201 q → 0 < q → But t S S' → Q (fr q) S'
theorem sc_law_above_nought : FnScope ["_law_pot_here", "_law_way"] ["_law_pot_here"] (defScope s_law_above_nought) := ⟨rfl, rfl, rfl, by decide +kernel, rfl, by decide +kernel, by decide +kernel⟩
theorem C_law_above_nought (T : Txt fa fn P K mg base) (C_law_draw : Callee P w K mg base 1 "_law_draw" 2 sp_law_draw) (C_law_low : Callee P w K mg base 34 "_law_low" 2 sp_law_low) (C_law_great : Callee P w K mg base 2 "_law_great" 2 sp_law_great) : Callee P w K mg base 35 "_law_above_nought" 1 sp_law_above_nought :=
  callee T 107 113 (d := d_law_above_nought) rfl rfl rfl rfl rfl (fun _ _ _ _ _ _ us hl => match us, hl with | [_], _ => rfl) sc_law_above_nought (fun ds S Q h => by first | (obtain ⟨_, rfl, _⟩ := h; rfl) | (obtain ⟨_, _, rfl, _⟩ := h; rfl) | (obtain ⟨_, _, _, rfl, _⟩ := h; rfl) | (obtain ⟨_, _, _, _, rfl, _⟩ := h; rfl) | (obtain ⟨_, _, _, _, _, rfl, _⟩ := h; rfl) | (obtain ⟨_, _, _, _, _, _, rfl, _⟩ := h; rfl) | (obtain ⟨_, _, _, _, _, _, _, rfl, _⟩ := h; rfl) | (obtain ⟨_, _, _, _, _, _, _, _, rfl, _⟩ := h; rfl) | (obtain ⟨_, _, _, _, _, _, _, _, _, rfl, _⟩ := h; rfl) | (obtain ⟨_, _, _, _, _, _, _, _, _, _, rfl, _⟩ := h; rfl) | (obtain ⟨_, _, _, _, _, _, _, _, _, _, _, rfl, _⟩ := h; rfl) | (obtain ⟨_, _, _, _, _, _, _, _, _, _, _, _, rfl, _⟩ := h; rfl)) fun f cdv A outer s H hr => by
    have sc := sc_law_above_nought
    refine ⟨_, (zss_cons (zs_set (i := 1) sc.nd rfl (Or.inl rfl) (ze_c1 C_law_draw hr (za_cons (zv 0) (za_cons ze_int za_nil)))) (zss_cons (zs_if (zb_cmp zop_lt (zv 1) ze_int (by rfl)) (zss_one (zs_ret (ze_tup (za_cons ze_int (za_cons ze_int za_nil))))) zss_nil) (zss_cons (zs_if (zb_cmp zop_lt (zv 1) ze_int (by rfl)) (zss_one (zs_ret (ze_c1 C_law_low hr (za_cons (ze_op zop_add ze_int (ze_c1 C_law_draw hr (za_cons (zv 0) (za_cons ze_int za_nil)))) (za_cons (ze_op zop_add ze_int (ze_c1 C_law_draw hr (za_cons (zv 0) (za_cons ze_int za_nil)))) za_nil))))) zss_nil) (zss_one (zs_ret (ze_c1 C_law_low hr (za_cons (ze_op zop_add ze_int (ze_c1 C_law_great hr (za_cons (zv 0) (za_cons (ze_op zop_sub (ze_op zop_pow ze_int ze_int) ze_int) za_nil)))) (za_cons (ze_op zop_add ze_int (ze_c1 C_law_great hr (za_cons (zv 0) (za_cons (ze_op zop_sub (ze_op zop_pow ze_int ze_int) ze_int) za_nil)))) za_nil)))))))), fun ds S Q h => ?_⟩
    obtain ⟨t, rfl, hS, h⟩ := h
    refine ⟨t, 6, rfl, hS, by decide, by decide, fun r S1 r0 r1 b1 => zif (fun c => ?_) (fun c => zif (fun d => ?_) (fun d => ?_))⟩
    · exact h 1 S1 (Sz.one.mono (by decide)) (by decide) b1
    · refine ⟨t, 6, rfl, b1.1, by decide, by decide, fun u S2 u0 u1 b2 => ⟨t, 4, rfl, b2.1, by decide, by decide, fun v S3 v0 v1 b3 => ⟨1 + u, 1 + v, rfl, by omega, h _ S3 ((Sz.of_divInt (A := 4) (B := 0) (by omega) (by omega) (by omega)).mono (by decide)) (divInt_pos (by omega) (by omega)) ((b1.trans b2).trans b3)⟩⟩⟩
    · refine ⟨⟨by decide, by decide, by decide⟩, t, 10 ^ 60 - 1, rfl, b1.1, by decide, by decide, fun u S2 u0 u1 b2 => ⟨⟨by decide, by decide, by decide⟩, t, 10 ^ 60 - 1, rfl, b2.1, by decide, by decide, fun v S3 v0 v1 b3 => ⟨1 + u, 1 + v, rfl, by omega, h _ S3 (Sz.of_divInt (A := 201) (B := 0) (by omega) (big60 u0 u1) (big60 v0 v1)) (divInt_pos (by omega) (by omega)) ((b1.trans b2).trans b3)⟩⟩⟩
end
end Sl
set_option Elab.async false
set_option linter.all false
set_option maxRecDepth 100000
set_option maxHeartbeats 4000000
namespace Sl
open PySem PySem.Spec PyProof.Rows L2 Z
open Sg (Pt Ln PsOk PrOk Spread stand rise loS hiS phi)
section
variable {P : Program} {w : World} {K : PySem.W.Frag} {mg : Str → Option Value} {base : Heap}
def sp_law_far : ZC := fun ds S Q => ∃ t : Addr, ds = [.ref t] ∧ Pot S t ∧ ∀ q S', Sz 201 q → But t S S' → Q (fr q) S'
theorem sc_law_far : FnScope ["_law_pot_here"] ["_law_pot_here"] (defScope s_law_far) := ⟨rfl, rfl, rfl, by decide +kernel, rfl, by decide +kernel, by decide +kernel⟩
theorem C_law_far (T : Txt fa fn P K mg base) (C_law_low : Callee P w K mg base 34 "_law_low" 2 sp_law_low) (C_law_great : Callee P w K mg base 2 "_law_great" 2 sp_law_great) : Callee P w K mg base 35 "_law_far" 1 sp_law_far :=
  callee T 106 112 (d := d_law_far) rfl rfl rfl rfl rfl (fun _ _ _ _ _ _ us hl => match us, hl with | [_], _ => rfl) sc_law_far (fun ds S Q h => by first | (obtain ⟨_, rfl, _⟩ := h; rfl) | (obtain ⟨_, _, rfl, _⟩ := h; rfl) | (obtain ⟨_, _, _, rfl, _⟩ := h; rfl) | (obtain ⟨_, _, _, _, rfl, _⟩ := h; rfl) | (obtain ⟨_, _, _, _, _, rfl, _⟩ := h; rfl) | (obtain ⟨_, _, _, _, _, _, rfl, _⟩ := h; rfl) | (obtain ⟨_, _, _, _, _, _, _, rfl, _⟩ := h; rfl) | (obtain ⟨_, _, _, _, _, _, _, _, rfl, _⟩ := h; rfl) | (obtain ⟨_, _, _, _, _, _, _, _, _, rfl, _⟩ := h; rfl) | (obtain ⟨_, _, _, _, _, _, _, _, _, _, rfl, _⟩ := h; rfl) | (obtain ⟨_, _, _, _, _, _, _, _, _, _, _, rfl, _⟩ := h; rfl) | (obtain ⟨_, _, _, _, _, _, _, _, _, _, _, _, rfl, _⟩ := h; rfl)) fun f cdv A outer s H hr => by
    have sc := sc_law_far
    refine ⟨_, (zss_one (zs_ret (ze_c1 C_law_low hr (za_cons (ze_op zop_add (ze_op zop_sub (ze_c1 C_law_great hr (za_cons (zv 0) (za_cons (ze_op zop_sub (ze_op zop_mul ze_int (ze_op zop_pow ze_int ze_int)) ze_int) za_nil))) (ze_op zop_pow ze_int ze_int)) ze_int) (za_cons (ze_op zop_add ze_int (ze_c1 C_law_great hr (za_cons (zv 0) (za_cons (ze_op zop_sub (ze_op zop_pow ze_int ze_int) ze_int) za_nil)))) za_nil))))), fun ds S Q h => ?_⟩
    obtain ⟨t, rfl, hS, h⟩ := h
    refine ⟨⟨by decide, by decide, by decide⟩, mulOk (A := 2) (B := 210) (by decide) (by decide) (by decide), t, 2 * 10 ^ 59 - 1, rfl, hS, by decide, by decide, fun u S2 u0 u1 b2 => ⟨⟨by decide, by decide, by decide⟩, ⟨by decide, by decide, by decide⟩, t, 10 ^ 59 - 1, rfl, b2.1, by decide, by decide, fun v S3 v0 v1 b3 => ⟨u - 10 ^ 59 + 1, 1 + v, rfl, by omega, h _ S3 (Sz.of_divInt (A := 201) (B := 0) (by omega) (by omega) (by omega)) (b2.trans b3)⟩⟩⟩
def sp_law_stand : ZC := fun ds S Q => ∃ (l : Ln) (x : Rat), ds = [.d (lnP l), fr x] ∧ LnSz l ∧ Sz 400 x ∧ Q (fr (stand l x)) S
theorem sc_law_stand : FnScope ["_law_line", "_law_x"] ["_law_line", "_law_x"] (defScope s_law_stand) := ⟨rfl, rfl, rfl, by decide +kernel, rfl, by decide +kernel, by decide +kernel⟩
theorem C_law_stand (T : Txt fa fn P K mg base) (C_law_plus : Callee P w K mg base 35 "_law_plus" 2 sp_law_plus) (C_law_times : Callee P w K mg base 35 "_law_times" 2 sp_law_times) : Callee P w K mg base 36 "_law_stand" 2 sp_law_stand :=
  callee T 112 118 (d := d_law_stand) rfl rfl rfl rfl rfl (fun _ _ _ _ _ _ us hl => match us, hl with | [_, _], _ => rfl) sc_law_stand (fun ds S Q h => by first | (obtain ⟨_, rfl, _⟩ := h; rfl) | (obtain ⟨_, _, rfl, _⟩ := h; rfl) | (obtain ⟨_, _, _, rfl, _⟩ := h; rfl) | (obtain ⟨_, _, _, _, rfl, _⟩ := h; rfl) | (obtain ⟨_, _, _, _, _, rfl, _⟩ := h; rfl) | (obtain ⟨_, _, _, _, _, _, rfl, _⟩ := h; rfl) | (obtain ⟨_, _, _, _, _, _, _, rfl, _⟩ := h; rfl) | (obtain ⟨_, _, _, _, _, _, _, _, rfl, _⟩ := h; rfl) | (obtain ⟨_, _, _, _, _, _, _, _, _, rfl, _⟩ := h; rfl) | (obtain ⟨_, _, _, _, _, _, _, _, _, _, rfl, _⟩ := h; rfl) | (obtain ⟨_, _, _, _, _, _, _, _, _, _, _, rfl, _⟩ := h; rfl) | (obtain ⟨_, _, _, _, _, _, _, _, _, _, _, _, rfl, _⟩ := h; rfl)) fun f cdv A outer s H hr => by
    have sc := sc_law_stand
    refine ⟨_, (zss_one (zs_ret (ze_c1 C_law_plus hr (za_cons (ze_ix zix (zv 0) ze_int) (za_cons (ze_c1 C_law_times hr (za_cons (ze_ix zix (zv 0) ze_int) (za_cons (zv 1) za_nil))) za_nil))))), fun ds S Q h => ?_⟩
    obtain ⟨l, x, rfl, hl, hx, h⟩ := h
    exact ⟨l.2, x, rfl, hl.2.big, hx.big, l.1, _, rfl, hl.1.big, (hl.2.mul hx).big, h⟩
def sp_law_rise : ZC := fun ds S Q => ∃ (p : Pt) (l : Ln), ds = [.d (ptP p), .d (lnP l)] ∧ PtSz p ∧ LnSz l ∧ Q (fr (rise p l)) S
theorem sc_law_rise : FnScope ["_law_point", "_law_line"] ["_law_point", "_law_line"] (defScope s_law_rise) := ⟨rfl, rfl, rfl, by decide +kernel, rfl, by decide +kernel, by decide +kernel⟩
theorem C_law_rise (T : Txt fa fn P K mg base) (C_law_less : Callee P w K mg base 35 "_law_less" 2 sp_law_less) (C_law_stand : Callee P w K mg base 36 "_law_stand" 2 sp_law_stand) : Callee P w K mg base 37 "_law_rise" 2 sp_law_rise :=
  callee T 113 119 (d := d_law_rise) rfl rfl rfl rfl rfl (fun _ _ _ _ _ _ us hl => match us, hl with | [_, _], _ => rfl) sc_law_rise (fun ds S Q h => by first | (obtain ⟨_, rfl, _⟩ := h; rfl) | (obtain ⟨_, _, rfl, _⟩ := h; rfl) | (obtain ⟨_, _, _, rfl, _⟩ := h; rfl) | (obtain ⟨_, _, _, _, rfl, _⟩ := h; rfl) | (obtain ⟨_, _, _, _, _, rfl, _⟩ := h; rfl) | (obtain ⟨_, _, _, _, _, _, rfl, _⟩ := h; rfl) | (obtain ⟨_, _, _, _, _, _, _, rfl, _⟩ := h; rfl) | (obtain ⟨_, _, _, _, _, _, _, _, rfl, _⟩ := h; rfl) | (obtain ⟨_, _, _, _, _, _, _, _, _, rfl, _⟩ := h; rfl) | (obtain ⟨_, _, _, _, _, _, _, _, _, _, rfl, _⟩ := h; rfl) | (obtain ⟨_, _, _, _, _, _, _, _, _, _, _, rfl, _⟩ := h; rfl) | (obtain ⟨_, _, _, _, _, _, _, _, _, _, _, _, rfl, _⟩ := h; rfl)) fun f cdv A outer s H hr => by
    have sc := sc_law_rise
    refine ⟨_, (zss_one (zs_ret (ze_c1 C_law_less hr (za_cons (ze_ix zix (zv 0) ze_int) (za_cons (ze_c1 C_law_stand hr (za_cons (zv 1) (za_cons (ze_ix zix (zv 0) ze_int) za_nil))) za_nil))))), fun ds S Q h => ?_⟩
    obtain ⟨p, l, rfl, hp, hl, h⟩ := h
    exact ⟨l, p.x, rfl, hl, hp.x, p.y, _, rfl, hp.y.big, (stand_sz hl hp.x).big, h⟩
def sp_law_is_ahead : ZC := fun ds S Q => ∃ (l m : Ln), ds = [.d (lnP l), .d (lnP m)] ∧ (Big l.1 ∧ Big l.2) ∧ (Big m.1 ∧ Big m.2) ∧ Q (.d (.bool (Sg.aheadB l m))) S
theorem sc_law_is_ahead : FnScope ["_law_one", "_law_other"] ["_law_one", "_law_other"] (defScope s_law_is_ahead) := ⟨rfl, rfl, rfl, by decide +kernel, rfl, by decide +kernel, by decide +kernel⟩
theorem C_law_is_ahead (T : Txt fa fn P K mg base) (C_law_below : Callee P w K mg base 1 "_law_below" 2 sp_law_below) : Callee P w K mg base 2 "_law_is_ahead" 2 sp_law_is_ahead :=
  callee T 115 121 (d := d_law_is_ahead) rfl rfl rfl rfl rfl (fun _ _ _ _ _ _ us hl => match us, hl with | [_, _], _ => rfl) sc_law_is_ahead (fun ds S Q h => by first | (obtain ⟨_, rfl, _⟩ := h; rfl) | (obtain ⟨_, _, rfl, _⟩ := h; rfl) | (obtain ⟨_, _, _, rfl, _⟩ := h; rfl) | (obtain ⟨_, _, _, _, rfl, _⟩ := h; rfl) | (obtain ⟨_, _, _, _, _, rfl, _⟩ := h; rfl) | (obtain ⟨_, _, _, _, _, _, rfl, _⟩ := h; rfl) | (obtain ⟨_, _, _, _, _, _, _, rfl, _⟩ := h; rfl) | (obtain ⟨_, _, _, _, _, _, _, _, rfl, _⟩ := h; rfl) | (obtain ⟨_, _, _, _, _, _, _, _, _, rfl, _⟩ := h; rfl) | (obtain ⟨_, _, _, _, _, _, _, _, _, _, rfl, _⟩ := h; rfl) | (obtain ⟨_, _, _, _, _, _, _, _, _, _, _, rfl, _⟩ := h; rfl) | (obtain ⟨_, _, _, _, _, _, _, _, _, _, _, _, rfl, _⟩ := h; rfl)) fun f cdv A outer s H hr => by
    have sc := sc_law_is_ahead
    refine ⟨_, (zss_one (zs_ret (ze_or (ze_c1 C_law_below hr (za_cons (ze_ix zix (zv 0) ze_int) (za_cons (ze_ix zix (zv 1) ze_int) za_nil))) (ze_one (ze_and (ze_cmp (zop_eq (Roomu hr 64)) (ze_ix zix (zv 0) ze_int) (ze_ix zix (zv 1) ze_int) (by rfl)) (ze_one (ze_c1 C_law_below hr (za_cons (ze_ix zix (zv 0) ze_int) (za_cons (ze_ix zix (zv 1) ze_int) za_nil))))))))), fun ds S Q h => ?_⟩
    obtain ⟨l, m, rfl, hl, hm, h⟩ := h
    unfold Sg.aheadB at h
    refine ⟨l.1, m.1, rfl, hl.1, hm.1, zif (fun c => ?_) (fun c => ⟨_, eqo_fr l.1 m.1, zif (fun d => ⟨l.2, m.2, rfl, hl.2, hm.2, ?_⟩) (fun d => ?_)⟩)⟩
    · rw [decide_eq_true c] at h
      exact h
    · rw [decide_eq_false c, decide_eq_true d] at h
      exact h
    · rw [decide_eq_false c, decide_eq_false d] at h
      exact h
def sp_law_spread : ZC := fun ds S Q => ∃ ps : List Pt, ds = [.d (ptsP ps)] ∧ ps ≠ [] ∧ ps.length ≤ 12 ∧ Q (.d (.bool (spreadB ps))) S
theorem sc_law_spread : FnScope ["_law_points_here", "_law_point"] ["_law_points_here"] (defScope s_law_spread) := ⟨rfl, rfl, rfl, by decide +kernel, rfl, by decide +kernel, by decide +kernel⟩
theorem C_law_spread (T : Txt fa fn P K mg base) : Callee P w K mg base 1 "_law_spread" 1 sp_law_spread :=
  callee T 110 116 (d := d_law_spread) rfl rfl rfl rfl rfl (fun _ _ _ _ _ _ us hl => match us, hl with | [_], _ => rfl) sc_law_spread (fun ds S Q h => by first | (obtain ⟨_, rfl, _⟩ := h; rfl) | (obtain ⟨_, _, rfl, _⟩ := h; rfl) | (obtain ⟨_, _, _, rfl, _⟩ := h; rfl) | (obtain ⟨_, _, _, _, rfl, _⟩ := h; rfl) | (obtain ⟨_, _, _, _, _, rfl, _⟩ := h; rfl) | (obtain ⟨_, _, _, _, _, _, rfl, _⟩ := h; rfl) | (obtain ⟨_, _, _, _, _, _, _, rfl, _⟩ := h; rfl) | (obtain ⟨_, _, _, _, _, _, _, _, rfl, _⟩ := h; rfl) | (obtain ⟨_, _, _, _, _, _, _, _, _, rfl, _⟩ := h; rfl) | (obtain ⟨_, _, _, _, _, _, _, _, _, _, rfl, _⟩ := h; rfl) | (obtain ⟨_, _, _, _, _, _, _, _, _, _, _, rfl, _⟩ := h; rfl) | (obtain ⟨_, _, _, _, _, _, _, _, _, _, _, _, rfl, _⟩ := h; rfl)) fun f cdv A outer s H hr => by
    have sc := sc_law_spread
    refine ⟨_, (zss_one (zs_ret (ze_cmp (zop_ne (Roomu hr 64)) (ze_lc (own := [("_law_point", 1)]) gok_one rfl sc.nd (zi_list (zv 0)) (blkOk_by rfl) (fun _ _ _ _ _ => pg_name (i := 1) sc.nd rfl (Or.inl rfl)) (fun _ _ _ _ _ => zts_one (zb_cmp (zop_ne (Roomu hr 64)) (ze_ix zix (zv 1) ze_int) (ze_ix zix (ze_ix zix (zv 0) ze_int) ze_int) (by rfl))) (fun _ _ _ _ _ => (zv 1))) (ze_lst za_nil) (by rfl)))), fun ds S Q h => ?_⟩
    obtain ⟨ps, rfl, hn, hl, h⟩ := h
    cases ps with
    | nil => exact absurd rfl hn
    | cons p0 ps =>
      refine ⟨len1000 (by omega), zLcL_fm (f := ptP) (fun p => !decide (p.x = p0.x)) ptP (p0 :: ps) [] (fun p hm acc l' k1 k2 => ⟨_, eqo_fr p.x p0.x, zboth (fun e => k1 e) (fun e => k2 e)⟩) ⟨_, eqo_pts _ [], ?_⟩⟩
      have e : (!decide ((p0 :: ps).filter (fun p => !decide (p.x = p0.x)) = [])) = spreadB (p0 :: ps) := by
        show _ = (p0 :: ps).any fun q => !decide (q.x = p0.x)
        generalize p0 :: ps = L
        induction L with
        | nil => rfl
        | cons a L ih =>
          rw [List.filter_cons, List.any_cons, ← ih]
          by_cases c : a.x = p0.x <;> simp [c]
      rw [← e] at h
      exact h
end
end Sl
set_option Elab.async false
set_option linter.all false
set_option maxRecDepth 100000
set_option maxHeartbeats 4000000
namespace Sl
open PySem PySem.Spec PyProof.Rows L2 Z
open Sg (Pt Ln PsOk PrOk Spread stand rise loS hiS phi)
theorem Sz.int {A : Nat} {i : Int} (h : i.natAbs < 2 ^ A) (h2 : 1 < 2 ^ A := by decide) : Sz A (i : Rat) := ⟨h, h2⟩
section
variable {P : Program} {w : World} {K : PySem.W.Frag} {mg : Str → Option Value} {base : Heap}
def sp_law_spot : ZC := fun ds S Q => ∃ (t : Addr) (mn : Int) (l : Ln), ds = [.ref t, .d (.int mn), .d (lnP l)] ∧ Pot S t ∧ Sz 4 l.1 ∧ Sz 4 l.2 ∧ ∀ x y S', Sz 201 x → Sz 201 y → But t S S' → Q (.d (prP x y)) S'
theorem sc_law_spot : FnScope ["_law_pot_here", "_law_manner", "_law_line", "_law_x", "_law_y"] ["_law_pot_here", "_law_manner", "_law_line"] (defScope s_law_spot) := ⟨rfl, rfl, rfl, by decide +kernel, rfl, by decide +kernel, by decide +kernel⟩
theorem C_law_spot (T : Txt fa fn P K mg base) (C_law_plus : Callee P w K mg base 35 "_law_plus" 2 sp_law_plus) (C_law_small : Callee P w K mg base 35 "_law_small" 1 sp_law_small) (C_law_times : Callee P w K mg base 35 "_law_times" 2 sp_law_times) (C_law_far : Callee P w K mg base 35 "_law_far" 1 sp_law_far) (C_law_draw : Callee P w K mg base 1 "_law_draw" 2 sp_law_draw) : Callee P w K mg base 37 "_law_spot" 3 sp_law_spot :=
  callee T 108 114 (d := d_law_spot) rfl rfl rfl rfl rfl (fun _ _ _ _ _ _ us hl => match us, hl with | [_, _, _], _ => rfl) sc_law_spot (fun ds S Q h => by first | (obtain ⟨_, rfl, _⟩ := h; rfl) | (obtain ⟨_, _, rfl, _⟩ := h; rfl) | (obtain ⟨_, _, _, rfl, _⟩ := h; rfl) | (obtain ⟨_, _, _, _, rfl, _⟩ := h; rfl) | (obtain ⟨_, _, _, _, _, rfl, _⟩ := h; rfl) | (obtain ⟨_, _, _, _, _, _, rfl, _⟩ := h; rfl) | (obtain ⟨_, _, _, _, _, _, _, rfl, _⟩ := h; rfl) | (obtain ⟨_, _, _, _, _, _, _, _, rfl, _⟩ := h; rfl) | (obtain ⟨_, _, _, _, _, _, _, _, _, rfl, _⟩ := h; rfl) | (obtain ⟨_, _, _, _, _, _, _, _, _, _, rfl, _⟩ := h; rfl) | (obtain ⟨_, _, _, _, _, _, _, _, _, _, _, rfl, _⟩ := h; rfl) | (obtain ⟨_, _, _, _, _, _, _, _, _, _, _, _, rfl, _⟩ := h; rfl)) fun f cdv A outer s H hr => by
    have sc := sc_law_spot
    refine ⟨_, (zss_cons (zs_if (zb_cmp zop_lt (zv 1) ze_int (by rfl)) (zss_one (zs_ret (ze_tup (za_cons (ze_tup (za_cons (ze_op zop_sub (ze_c1 C_law_draw hr (za_cons (zv 0) (za_cons ze_int za_nil))) ze_int) (za_cons ze_int za_nil))) (za_cons (ze_tup (za_cons (ze_op zop_sub (ze_c1 C_law_draw hr (za_cons (zv 0) (za_cons ze_int za_nil))) ze_int) (za_cons ze_int za_nil))) za_nil))))) zss_nil) (zss_cons (zs_if (zb_cmp (zop_eq (Roomu hr 64)) (zv 1) ze_int (by rfl)) (zss_one (zs_ret (ze_tup (za_cons (ze_c1 C_law_small hr (za_cons (zv 0) za_nil)) (za_cons (ze_c1 C_law_small hr (za_cons (zv 0) za_nil)) za_nil))))) zss_nil) (zss_cons (zs_if (zb_cmp (zop_eq (Roomu hr 64)) (zv 1) ze_int (by rfl)) (zss_cons (zs_set (i := 3) sc.nd rfl (Or.inl rfl) (ze_tup (za_cons (ze_op zop_sub (ze_c1 C_law_draw hr (za_cons (zv 0) (za_cons ze_int za_nil))) ze_int) (za_cons ze_int za_nil)))) (zss_cons (zs_set (i := 4) sc.nd rfl (Or.inl rfl) (ze_c1 C_law_plus hr (za_cons (ze_ix zix (zv 2) ze_int) (za_cons (ze_c1 C_law_times hr (za_cons (ze_ix zix (zv 2) ze_int) (za_cons (zv 3) za_nil))) za_nil)))) (zss_one (zs_ret (ze_tup (za_cons (zv 3) (za_cons (ze_c1 C_law_plus hr (za_cons (zv 4) (za_cons (ze_tup (za_cons (ze_callTy zc_int1 (by rfl) (T.free_ 1 rfl) (by decide +kernel) (za_cons (ze_cmp (zop_eq (Roomu hr 64)) (ze_c1 C_law_draw hr (za_cons (zv 0) (za_cons ze_int za_nil))) ze_int (by rfl)) za_nil)) (za_cons ze_int za_nil))) za_nil))) za_nil))))))) zss_nil) (zss_cons (zs_if (zb_cmp (zop_eq (Roomu hr 64)) (zv 1) ze_int (by rfl)) (zss_one (zs_ret (ze_tup (za_cons (ze_c1 C_law_far hr (za_cons (zv 0) za_nil)) (za_cons (ze_c1 C_law_far hr (za_cons (zv 0) za_nil)) za_nil))))) zss_nil) (zss_one (zs_ret (ze_tup (za_cons (ze_tup (za_cons (ze_callTy zc_int1 (by rfl) (T.free_ 1 rfl) (by decide +kernel) (za_cons (ze_cmp (zop_eq (Roomu hr 64)) (ze_c1 C_law_draw hr (za_cons (zv 0) (za_cons ze_int za_nil))) ze_int (by rfl)) za_nil)) (za_cons ze_int za_nil))) (za_cons (ze_tup (za_cons (ze_op zop_sub (ze_c1 C_law_draw hr (za_cons (zv 0) (za_cons ze_int za_nil))) ze_int) (za_cons ze_int za_nil))) za_nil))))))))), fun ds S Q h => ?_⟩
    obtain ⟨t, mn, l, rfl, hS, hl1, hl2, h⟩ := h
    refine zif (fun c => ?_) (fun c => ?_)
    · exact ⟨t, 5, rfl, hS, by decide, by decide, fun r S1 r0 r1 b1 => ⟨t, 5, rfl, b1.1, by decide, by decide, fun u S2 u0 u1 b2 => h ((r - 2 : Int) : Rat) ((u - 2 : Int) : Rat) S2 ((Sz.int (A := 4) (by omega)).mono (by decide)) ((Sz.int (A := 4) (by omega)).mono (by decide)) (b1.trans b2)⟩⟩
    refine ⟨_, eqo_int _ _, zif (fun c => ?_) (fun c => ⟨_, eqo_int _ _, zif (fun c => ?_) (fun c => ⟨_, eqo_int _ _, zif (fun c => ?_) (fun c => ?_)⟩)⟩)⟩
    · exact ⟨t, rfl, hS, fun x S1 hx b1 => ⟨t, rfl, b1.1, fun y S2 hy b2 => h x y S2 (hx.mono (by decide)) (hy.mono (by decide)) (b1.trans b2)⟩⟩
    · refine ⟨t, 9, rfl, hS, by decide, by decide, fun r S1 r0 r1 b1 => ?_⟩
      have hx : Sz 4 (((r - 4 : Int)) : Rat) := Sz.int (by omega)
      refine ⟨l.2, ((r - 4 : Int) : Rat), rfl, hl2.big, hx.big, l.1, _, rfl, hl1.big, (hl2.mul hx).big, t, 4, rfl, b1.1, by decide, by decide, fun u S2 u0 u1 b2 => ⟨_, eqo_int _ _, ?_⟩⟩
      have hi : Sz 1 (((if decide (u = 0) = true then 1 else 0 : Int)) : Rat) := Sz.int (by split <;> decide)
      have hy := (hl1.add (hl2.mul hx))
      exact ⟨_, (((if decide (u = 0) = true then 1 else 0 : Int)) : Rat), rfl, hy.big, hi.big, h _ _ S2 (hx.mono (by decide)) ((hy.add hi).mono (by decide)) (b1.trans b2)⟩
    · exact ⟨t, rfl, hS, fun x S1 hx b1 => ⟨t, rfl, b1.1, fun y S2 hy b2 => h x y S2 hx hy (b1.trans b2)⟩⟩
    · exact ⟨t, 6, rfl, hS, by decide, by decide, fun r S1 r0 r1 b1 => ⟨_, eqo_int _ _, t, 7, rfl, b1.1, by decide, by decide, fun u S2 u0 u1 b2 => h (((if decide (r = 0) = true then 1 else 0 : Int)) : Rat) ((u - 3 : Int) : Rat) S2 ((Sz.int (A := 1) (by split <;> decide)).mono (by decide)) ((Sz.int (A := 4) (by omega)).mono (by decide)) (b1.trans b2)⟩⟩
end
end Sl
set_option Elab.async false
set_option linter.all false
set_option maxRecDepth 100000
set_option maxHeartbeats 1000000
namespace Z
open PySem PySem.Spec PyProof.Rows L2
/-! ### a comprehension over a list that may change, but does not meanwhile: the body may read it -/
def zLcR (p : Addr) (xs : List PyData) (g : ZG) (t : ZTT) (e : ZT) (ρ : Ro) : List PyData → List PyData → Sto → (List PyData → Sto → Prop) → Prop
  | [], acc, S, Q => S p = some (.lst xs) ∧ Q acc S
  | d :: ds, acc, S, Q => S p = some (.lst xs) ∧ g (.d d) ρ S fun ρ1 S1 => t ρ1 S1 fun b S2 => zIte b (e ρ1 S2 fun x S3 => match x with
      | .d y => zLcR p xs g t e ρ ds (acc ++ [y]) S3 Q
      | _ => False) (zLcR p xs g t e ρ ds acc S2 Q)
def zLcRef (i : Nat) (g : ZG) (js : List Nat) (t : ZTT) (e : ZT) : ZT := fun ρ S Q => ∃ p xs, ρ[i]? = some (some (.ref p)) ∧ S p = some (.lst xs) ∧ xs.length ≤ 1000 ∧ zLcR p xs g t e (zwipe ρ js) xs [] S fun acc S2 => Q (.d (.list acc)) S2
/-- the heap still shows xs at p -/
def Shows (K : PySem.W.Frag) (p : Addr) (xs : List PyData) (H : Hp) : Prop := ∃ vs, H p = some (.lst vs) ∧ vs.length = xs.length
theorem walk_ref {K : PySem.W.Frag} {p : Addr} {xs : List PyData} : Walk (Itl K p) xs.length (Shows K p xs) (fun i H x H' => H' = H ∧ ∀ vs, H p = some (.lst vs) → vs[i]? = some x) :=
  ⟨fun i H hi ⟨vs, e, l⟩ => ⟨vs, vs[i]'(by omega), .inl (.inl e), List.getElem?_eq_getElem (by omega)⟩, fun H ⟨vs, e, l⟩ => ⟨vs, .inl (.inl e), by omega⟩, fun i H x H' hi q y => ⟨y.1, fun vs e => y.2 vs (.inl (.inl e))⟩⟩
theorem lc_ref {K : PySem.W.Frag} {g : TG} {zg : ZG} {js : List Nat} {t : ZTT} {e : ZT} {σ : L2.St} {ρ : Ro} {G1 H1 : Hp} {S1 : Sto} {p : Addr} {xs : List PyData} {Qz : List PyData → Sto → Prop} {Qd : Hp → Prop} {D : Addr}
    (hg : GOk K js g zg) (er : ERep K G1 ρ σ) (rp : Rp K G1 S1 H1) (hl : xs.length ≤ 1000) (z : zLcR p xs zg t e (zwipe ρ js) xs [] S1 Qz) (hD : H1 D = none)
    (k : ∀ acc S' G' H', Qz acc S' → Stp K G1 S1 H1 G' S' H' → Zp K G' (.ref D) (.list acc) → Qd H') :
    ∃ W : Nat → Nat → Hp → Prop, (∃ m, W 0 m (upd H1 D (.lst []))) ∧ ∀ i m H, W i m H →
      ((Itl K p).stop i H ∧ Qd H) ∨ ((Itl K p).go i H ∧ ∃ Nx : Hp → Prop, (∀ H', Nx H' → ∃ m', m' < m ∧ W (i + 1) m' H') ∧ ∀ x H', (Itl K p).yld i H x H' → g x (wipe σ js) H' fun σ2 H2 => wipe σ2 js = wipe σ js ∧ ltt K t σ2 H2 fun b H3 =>
        if b = true then lt K e σ2 H3 fun y H4 => ∃ acc, H4 D = some (.lst acc) ∧ acc.length < sizeLine ∧ Nx (upd H4 D (.lst (acc ++ [y]))) else Nx H3) := by
  have gD : G1 D = none := by
    cases q : G1 D with
    | none => rfl
    | some o => rw [rp.gh D o q] at hD; cases hD
  have sD : S1 D = none := fresh_S rp hD
  have at_ : ∀ ds acc S, zLcR p xs zg t e (zwipe ρ js) ds acc S Qz → S p = some (.lst xs) := fun ds acc S h => by
    cases ds with
    | nil => exact h.1
    | cons d ds => exact h.1
  refine lc_it (walk_ref (xs := xs)) (fun i H => ∃ G2 S2 acc vs, Stp K G1 S1 H1 G2 S2 H ∧ H D = some (.lst vs) ∧ G2 D = none ∧ S2 D = none ∧ ZpAll K G2 vs acc ∧ acc.length ≤ i ∧ zLcR p xs zg t e (zwipe ρ js) (xs.drop i) acc S2 Qz)
    ⟨G1, S1, [], [], (Stp.refl rp).off hD gD sD, upd_same, gD, sD, .nil, Nat.le_refl _, z⟩ (fun i H _ ⟨G2, S2, acc, vs, s2, _, _, _, _, _, z2⟩ => ?_) ?_ ?_
  · obtain ⟨_, ws, e1, e2⟩ := s2.rp.cell p _ (at_ _ _ _ z2)
    exact ⟨ws, e1, ZpAll.length e2⟩
  · rintro i x H2 H3 hi ⟨G2, S2, acc, vs, s2, d1, d2, d3, d4, d5, z2⟩ ⟨rfl, y⟩
    obtain ⟨_, ws, w1, w2⟩ := s2.rp.cell p _ (at_ _ _ _ z2)
    obtain ⟨d, ed⟩ : ∃ d, xs[i]? = some d := ⟨xs[i], List.getElem?_eq_getElem hi⟩
    obtain ⟨v, ev, h3⟩ := ZpAll.get w2 ed
    rw [y ws w1] at ev
    cases ev
    have ez : xs.drop i = d :: xs.drop (i + 1) := by
      obtain ⟨h4, h5⟩ := List.getElem?_eq_some_iff.mp ed
      rw [← h5, List.drop_eq_getElem_cons h4]
    rw [ez] at z2
    refine hg G2 H3 S2 d x (zwipe ρ js) (wipe σ js) _ _ s2.rp ((er.mono s2.gg).wipe js) h3 z2.2 fun ρ4 ws z4 er4 => ⟨wipe_setAll σ js ws, ?_⟩
    refine ⟨G2, S2, ρ4, _, s2.rp, er4, z4, fun b S5 G5 H5 z5 s5 => ?_⟩
    obtain ⟨f1, f2, f3⟩ := keepD s5 d1 d2 d3
    cases b with
    | true =>
      refine ⟨G5, S5, ρ4, _, s5.rp, er4.mono s5.gg, z5.1 rfl, fun y6 S6 v6 G6 H6 z6 s6 r6 => ?_⟩
      obtain ⟨g1, g2, g3⟩ := keepD s6 f1 f2 f3
      have st := (s2.trans s5).trans s6
      have hvl : vs.length = acc.length := ZpAll.length d4
      cases y6 with
      | ref _ => exact False.elim z6
      | ro _ => exact False.elim z6
      | d y7 =>
        refine ⟨vs, g1, small_lt (by omega), G6, S6, acc ++ [y7], vs ++ [v6], st.off hD g2 g3, upd_same, g2, g3, ZpAll.append (ZpAll.mono (s5.gg.trans s6.gg) _ _ d4) (.cons r6 .nil), by simp; omega, z6⟩
    | false =>
      exact ⟨G5, S5, acc, vs, s2.trans s5, f1, f2, f3, ZpAll.mono s5.gg _ _ d4, by omega, z5.2 rfl⟩
  · rintro H2 ⟨G2, S2, acc, vs, s2, d1, d2, d3, d4, d5, z2⟩
    rw [List.drop_length] at z2
    have sd := s2.done hD d1 d2 d3
    exact k acc S2 _ H2 z2.2 sd (.lst upd_same (ZpAll.mono (Evl.Ex.new d2) _ _ d4))
theorem ze_lcR {X : Cx} {elt tg : Expr} {ifs : List Expr} {scope : Scope} {own : List (Str × Nat)} {pos npos : Pos} {x : Str} {g : TG} {zg : ZG} {t : ZTT} {e : ZT} {i : Nat} (hgk : GOk X.K (own.map (·.2)) g zg) (hc : X.calm = true) (hN : X.N.Nodup)
    (hv : PE X (.Name x npos) (tVar i)) (ok : BlkOk X.N X.env.scope scope own)
    (hg : ∀ (s : Shared) (H : Hp) (C : Addr) (cl : List (Str × Addr)) (fp : List Addr), PG (X.blk s H scope (compEnvC scope cl C X.env) fp) tg g) (ht : ∀ (s : Shared) (H : Hp) (C : Addr) (cl : List (Str × Addr)) (fp : List Addr), PTs (X.blk s H scope (compEnvC scope cl C X.env) fp) ifs (ltt X.K t))
    (he : ∀ (s : Shared) (H : Hp) (C : Addr) (cl : List (Str × Addr)) (fp : List Addr), ZE (X.blk s H scope (compEnvC scope cl C X.env) fp) elt e) (hs : ∀ y, foldedSetIterable (.Name x npos) X.env y = pure y := by intro _; rfl) :
    ZE X (.ListComp elt [⟨tg, .Name x npos, ifs, 0⟩] scope pos) (zLcRef i zg (own.map (·.2)) t e) := PE.weak (pe_lc hc hN (pi_list hv) ok hg ht he hs) fun σ H Q ⟨G, S, ρ, R, rp, er, ⟨p, xs, ei, hp, hl, z⟩, k⟩ => by
  obtain ⟨v, ev, rv⟩ := er.2 i _ ei
  cases rv
  obtain ⟨gp, vs, h1, h2⟩ := rp.cell p _ hp
  refine ⟨_, ev, p, rfl, ⟨vs, .inl (.inl h1)⟩, fun D hD => ?_⟩
  exact lc_ref (Qd := Q (.ref D)) hgk er rp hl z hD fun acc S' G' H' q s2 r => k _ S' _ G' H' q s2 r
end Z
set_option Elab.async false
set_option linter.all false
set_option maxRecDepth 100000
set_option maxHeartbeats 4000000
namespace Z
open PySem PySem.Spec PyProof.Rows L2
theorem zLcR_fm {α : Type} {f : α → PyData} {p : Addr} {xs : List PyData} {g : ZG} {t : ZTT} {e : ZT} {ρ : Ro} {Q : List PyData → Sto → Prop} {S : Sto} (hS : S p = some (.lst xs)) (pr : α → Bool) (h : α → PyData) : ∀ (l : List α) (acc : List PyData),
    (∀ a ∈ l, ∀ acc l', (pr a = true → zLcR p xs g t e ρ l' (acc ++ [h a]) S Q) → (pr a = false → zLcR p xs g t e ρ l' acc S Q) → g (.d (f a)) ρ S fun ρ1 S1 => t ρ1 S1 fun b S2 => zIte b (e ρ1 S2 fun x S3 => match x with
      | .d y => zLcR p xs g t e ρ l' (acc ++ [y]) S3 Q
      | _ => False) (zLcR p xs g t e ρ l' acc S2 Q)) → Q (acc ++ (l.filter pr).map h) S → zLcR p xs g t e ρ (l.map f) acc S Q
  | [], acc, _, q => ⟨hS, by simpa using q⟩
  | a :: l, acc, st, q => by
    refine ⟨hS, st a (by simp) acc (l.map f) (fun e => ?_) (fun e => ?_)⟩
    · refine zLcR_fm hS pr h l (acc ++ [h a]) (fun b hb => st b (by simp [hb])) ?_
      rw [List.filter_cons_of_pos e] at q
      simpa using q
    · refine zLcR_fm hS pr h l acc (fun b hb => st b (by simp [hb])) ?_
      rw [List.filter_cons_of_neg (by rw [e]; simp)] at q
      exact q
end Z
namespace Sl
open PySem PySem.Spec PyProof.Rows L2 Z
open Sg (Pt Ln PsOk PrOk Spread stand rise loS hiS phi)
section
variable {P : Program} {w : World} {K : PySem.W.Frag} {mg : Str → Option Value} {base : Heap}
def sp_law_spread_ref : ZC := fun ds S Q => ∃ (p : Addr) (ps : List Pt), ds = [.ref p] ∧ S p = some (.lst (ps.map ptP)) ∧ ps ≠ [] ∧ ps.length ≤ 12 ∧ Q (.d (.bool (spreadB ps))) S
theorem sc_law_spread_ref : FnScope ["_law_points_here", "_law_point"] ["_law_points_here"] (defScope s_law_spread) := ⟨rfl, rfl, rfl, by decide +kernel, rfl, by decide +kernel, by decide +kernel⟩
theorem C_law_spread_ref (T : Txt fa fn P K mg base) : Callee P w K mg base 1 "_law_spread" 1 sp_law_spread_ref :=
  callee T 110 116 (d := d_law_spread) rfl rfl rfl rfl rfl (fun _ _ _ _ _ _ us hl => match us, hl with | [_], _ => rfl) sc_law_spread_ref (fun ds S Q h => by first | (obtain ⟨_, rfl, _⟩ := h; rfl) | (obtain ⟨_, _, rfl, _⟩ := h; rfl) | (obtain ⟨_, _, _, rfl, _⟩ := h; rfl) | (obtain ⟨_, _, _, _, rfl, _⟩ := h; rfl) | (obtain ⟨_, _, _, _, _, rfl, _⟩ := h; rfl) | (obtain ⟨_, _, _, _, _, _, rfl, _⟩ := h; rfl) | (obtain ⟨_, _, _, _, _, _, _, rfl, _⟩ := h; rfl) | (obtain ⟨_, _, _, _, _, _, _, _, rfl, _⟩ := h; rfl) | (obtain ⟨_, _, _, _, _, _, _, _, _, rfl, _⟩ := h; rfl) | (obtain ⟨_, _, _, _, _, _, _, _, _, _, rfl, _⟩ := h; rfl) | (obtain ⟨_, _, _, _, _, _, _, _, _, _, _, rfl, _⟩ := h; rfl) | (obtain ⟨_, _, _, _, _, _, _, _, _, _, _, _, rfl, _⟩ := h; rfl)) fun f cdv A outer s H hr => by
    have sc := sc_law_spread_ref
    refine ⟨_, (zss_one (zs_ret (ze_cmp (zop_ne (Roomu hr 64)) (ze_lcR (own := [("_law_point", 1)]) gok_one rfl sc.nd (pv 0) (blkOk_by rfl) (fun _ _ _ _ _ => pg_name (i := 1) sc.nd rfl (Or.inl rfl)) (fun _ _ _ _ _ => zts_one (zb_cmp (zop_ne (Roomu hr 64)) (ze_ix zix (zv 1) ze_int) (ze_ix zix (ze_ix zix (zv 0) ze_int) ze_int) (by rfl))) (fun _ _ _ _ _ => (zv 1))) (ze_lst za_nil) (by rfl)))), fun ds S Q h => ?_⟩
    obtain ⟨p, ps, rfl, hS, hn, hl, h⟩ := h
    cases ps with
    | nil => exact absurd rfl hn
    | cons p0 ps =>
      refine ⟨p, (p0 :: ps).map ptP, rfl, hS, by rw [List.length_map]; omega, ?_⟩
      refine zLcR_fm (f := ptP) hS (fun p => !decide (p.x = p0.x)) ptP (p0 :: ps) [] (fun q hm acc l' k1 k2 => ?_) ⟨_, eqo_pts _ [], ?_⟩
      · dsimp only [zAsgG, zDPut, zwipe, zNeg, List.map_cons, List.map_nil, ztAnd, ztOr, ztNot, ztB, zOp, zCall, zaCons, zaNil, zV, zC, zgName, zgTup, zgsN, zgCons, zgNil, zSeq, zAsg, zIfS, zRet, zDrop_, zNext, List.getElem?_cons_succ, List.getElem?_cons_zero, List.set_cons_succ, List.set_cons_zero]
        refine zIx_t (xs := [frP q.x, frP q.y, frP q.w]) (i := 0) (d := frP q.x) rfl ?_
        refine zIx_ref (i := 0) (d := ptP p0) hS rfl ?_
        exact ⟨_, eqo_fr q.x p0.x, zboth (fun e => k1 e) (fun e => k2 e)⟩
      · have e : (!decide ((p0 :: ps).filter (fun p => !decide (p.x = p0.x)) = [])) = spreadB (p0 :: ps) := by
          show _ = (p0 :: ps).any fun q => !decide (q.x = p0.x)
          generalize p0 :: ps = L
          induction L with
          | nil => rfl
          | cons a L ih =>
            rw [List.filter_cons, List.any_cons, ← ih]
            by_cases c : a.x = p0.x <;> simp [c]
        rw [← e] at h
        exact h
end
end Sl
set_option Elab.async false
set_option linter.all false
set_option maxRecDepth 100000
set_option maxHeartbeats 4000000
namespace Z
open PySem PySem.Spec PyProof.Rows L2
theorem zNe_ref {S : Sto} {a : Addr} {xs : List PyData} {y : PyData} {b : Bool} {Q : D → Sto → Prop} (h : S a = some (.lst xs)) (e : EqO (.list xs) y b) (q : Q (.d (.bool (!b))) S) : zNe (.ref a) (.d y) S Q := by
  show (match Z.seen S (.ref a), Z.seen S (.d y) with
  | some d, some e => ∃ b, EqO d e b ∧ Q (.d (.bool (!b))) S
  | _, _ => False)
  rw [seen_ref h]
  exact ⟨b, e, q⟩
theorem pick_flag {b : Bool} {u v : PyData} {S : Sto} {R : D → Sto → Prop} (h1 : b = true → R (.d v) S) (h2 : b = false → R (.d u) S) : zInt1 [.d (.bool b)] S fun y S2 => zIx (.d (.list [u, v])) y S2 R := by
  cases b with
  | true => exact h1 rfl
  | false => exact h2 rfl
theorem pick_fr {b : Bool} {u v : Rat} {S : Sto} {R : D → Sto → Prop} (h : ∀ q, q = u ∨ q = v → R (fr q) S) : zInt1 [.d (.bool b)] S fun y S2 => zIx (.d (.list [frP u, frP v])) y S2 R := pick_flag (fun _ => h v (.inr rfl)) (fun _ => h u (.inl rfl))
end Z
namespace Sl
open PySem PySem.Spec PyProof.Rows L2 Z
open Sg (Pt Ln PsOk PrOk Spread stand rise loS hiS phi)
/-- points of numbers of so many bits -/
def PzN (A : Nat) (ps : List Pt) : Prop := ∀ p ∈ ps, Sz A p.x ∧ Sz A p.y ∧ Sz A p.w
theorem PzN.sz {A : Nat} {ps : List Pt} (h : PzN A ps) (ha : A ≤ 400 := by decide) : PsSz ps := fun p hp => let ⟨a, b, c⟩ := h p hp; ⟨a.mono ha, b.mono ha, c.mono ha⟩
section
variable {P : Program} {w : World} {K : PySem.W.Frag} {mg : Str → Option Value} {base : Heap}
def sp_law_points : ZC := fun ds S Q => ∃ (t : Addr) (most : Nat), ds = [.ref t, .d (.int most)] ∧ Pot S t ∧ 1 ≤ most ∧ most ≤ 11 ∧ ∀ p ps S', p ≠ t → S p = none → S' p = some (.lst (ps.map ptP)) → Pot S' t → (∀ a, a ≠ t → a ≠ p → S' a = S a) → ps ≠ [] → ps.length ≤ most → PzN 201 ps → PsOk ps → Q (.ref p) S'
theorem sc_law_points : FnScope ["_law_pot_here", "_law_most", "_law_manner", "_law_line", "_law_points_here", "_law_k", "_law_x", "_law_y"] ["_law_pot_here", "_law_most"] (defScope s_law_points) := ⟨rfl, rfl, rfl, by decide +kernel, rfl, by decide +kernel, by decide +kernel⟩
theorem C_law_points (T : Txt fa fn P K mg base) (C_law_draw : Callee P w K mg base 1 "_law_draw" 2 sp_law_draw) (C_law_small : Callee P w K mg base 35 "_law_small" 1 sp_law_small) (C_law_spot : Callee P w K mg base 37 "_law_spot" 3 sp_law_spot) (C_law_above_nought : Callee P w K mg base 35 "_law_above_nought" 1 sp_law_above_nought) : Callee P w K mg base 38 "_law_points" 2 sp_law_points :=
  callee T 109 115 (d := d_law_points) rfl rfl rfl rfl rfl (fun _ _ _ _ _ _ us hl => match us, hl with | [_, _], _ => rfl) sc_law_points (fun ds S Q h => by first | (obtain ⟨_, rfl, _⟩ := h; rfl) | (obtain ⟨_, _, rfl, _⟩ := h; rfl) | (obtain ⟨_, _, _, rfl, _⟩ := h; rfl) | (obtain ⟨_, _, _, _, rfl, _⟩ := h; rfl) | (obtain ⟨_, _, _, _, _, rfl, _⟩ := h; rfl) | (obtain ⟨_, _, _, _, _, _, rfl, _⟩ := h; rfl) | (obtain ⟨_, _, _, _, _, _, _, rfl, _⟩ := h; rfl) | (obtain ⟨_, _, _, _, _, _, _, _, rfl, _⟩ := h; rfl) | (obtain ⟨_, _, _, _, _, _, _, _, _, rfl, _⟩ := h; rfl) | (obtain ⟨_, _, _, _, _, _, _, _, _, _, rfl, _⟩ := h; rfl) | (obtain ⟨_, _, _, _, _, _, _, _, _, _, _, rfl, _⟩ := h; rfl) | (obtain ⟨_, _, _, _, _, _, _, _, _, _, _, _, rfl, _⟩ := h; rfl)) fun f cdv A outer s H hr => by
    have sc := sc_law_points
    refine ⟨_, (zss_cons (zs_set (i := 2) sc.nd rfl (Or.inl rfl) (ze_c1 C_law_draw hr (za_cons (zv 0) (za_cons ze_int za_nil)))) (zss_cons (zs_set (i := 3) sc.nd rfl (Or.inl rfl) (ze_tup (za_cons (ze_c1 C_law_small hr (za_cons (zv 0) za_nil)) (za_cons (ze_c1 C_law_small hr (za_cons (zv 0) za_nil)) za_nil)))) (zss_cons (zs_set (i := 4) sc.nd rfl (Or.inl rfl) (ze_lstO za_nil)) (zss_cons (zs_for PassesOwn.never rfl (zi_range (by rfl) (T.free_ 10 rfl) (za_cons (ze_op zop_add ze_int (ze_c1 C_law_draw hr (za_cons (zv 0) (za_cons (ze_ix zix (ze_lst (za_cons (zv 1) (za_cons (ze_callB (zc_min2 rfl) (by rfl) (T.free_ 7 rfl) (by decide +kernel) (za_cons (zv 1) (za_cons ze_int za_nil))) za_nil))) (ze_callTy zc_int1 (by rfl) (T.free_ 1 rfl) (by decide +kernel) (za_cons (ze_cmp (zop_eq (Roomu hr 64)) (zv 2) ze_int (by rfl)) za_nil))) za_nil)))) za_nil)) (zg_name (i := 5) sc.nd rfl (Or.inl rfl)) (zss_one (zs_if (PW.pt (zw_and (zb_cmp (zop_ne (Roomu hr 64)) (zv 4) (ze_lst za_nil) (by rfl)) (zw_and1 (zb_cmp (zop_eq (Roomu hr 64)) (ze_c1 C_law_draw hr (za_cons (zv 0) (za_cons ze_int za_nil))) ze_int (by rfl))))) (zss_one (zs_expr (ze_bm PySem.F.plainAttrs_list PySem.F.slot_list_append PySem.F.type_list_append zm_append (zv 4) (za_cons (ze_ix zix (zv 4) (ze_c1 C_law_draw hr (za_cons (zv 0) (za_cons (ze_callB zc_len (by rfl) (T.free_ 8 rfl) (by decide +kernel) (za_cons (zv 4) za_nil)) za_nil)))) za_nil)))) (zss_cons (zs_asg (ze_c1 C_law_spot hr (za_cons (zv 0) (za_cons (zv 2) (za_cons (zv 3) za_nil)))) (zg_tup (n := 2) rfl (zgs_cons (zg_name (i := 6) sc.nd rfl (Or.inl rfl)) (zgs_cons (zg_name (i := 7) sc.nd rfl (Or.inl rfl)) zgs_nil)))) (zss_one (zs_expr (ze_bm PySem.F.plainAttrs_list PySem.F.slot_list_append PySem.F.type_list_append zm_append (zv 4) (za_cons (ze_tup (za_cons (zv 6) (za_cons (zv 7) (za_cons (ze_ix zix (ze_lst (za_cons (ze_c1 C_law_above_nought hr (za_cons (zv 0) za_nil)) (za_cons (ze_tup (za_cons (ze_op zop_add ze_int (ze_c1 C_law_draw hr (za_cons (zv 0) (za_cons ze_int za_nil)))) (za_cons ze_int za_nil))) za_nil))) (ze_callTy zc_int1 (by rfl) (T.free_ 1 rfl) (by decide +kernel) (za_cons (ze_cmp (zop_eq (Roomu hr 64)) (zv 2) ze_int (by rfl)) za_nil))) za_nil)))) za_nil)))))))) (zss_one (zs_ret (zv 4))))))), fun ds S Q h => ?_⟩
    obtain ⟨t, most, rfl, hS, hm1, hm2, h⟩ := h
    refine ⟨t, 6, rfl, hS, by decide, by decide, fun mn S1 mn0 mn1 b1 => ⟨t, rfl, b1.1, fun l1 S2 hl1 b2 => ⟨t, rfl, b2.1, fun l2 S3 hl2 b3 => fun p hp => ?_⟩⟩⟩
    have b13 := (b1.trans b2).trans b3
    have htp : p ≠ t := fun e => by obtain ⟨a, b, e2, _⟩ := b3.1; rw [e, e2] at hp; cases hp
    have hSp : S p = none := by rw [← b13.2 p htp]; exact hp
    have hS4 : Pot (S3.put p (.lst [])) t := by obtain ⟨a, b, e, q⟩ := b3.1; exact ⟨a, b, (Sto.put_ne (Ne.symm htp)).trans e, q⟩
    refine ⟨_, eqo_int mn 4, ?_⟩
    by_cases hb : mn = 4
    all_goals
      (try rw [decide_eq_true hb])
      (try rw [decide_eq_false hb])
      refine ⟨t, _, rfl, hS4, (by first | omega | (split <;> omega)), (by first | omega | (split <;> omega)), fun r S4 r0 r1 b4 => ?_⟩
      have r2 : r < most := by first | exact r1 | (split at r1 <;> omega)
      obtain ⟨n, rfl⟩ := Int.eq_ofNat_of_zero_le r0
      show (1 + n : Nat) ≤ 100000 ∧ zLoop _ _ _ ((List.range (1 + n)).map natP) _ _
      refine ⟨by omega, ?_⟩
      refine zLoop_ind (α := Nat) (f := natP) (fun m ρ S' => ∃ (ps : List Pt) (o5 o6 o7 : Option D), S' p = some (.lst (ps.map ptP)) ∧ Pot S' t ∧ (∀ a, a ≠ t → a ≠ p → S' a = S a) ∧ ps.length + m.length = 1 + n ∧ PzN 201 ps ∧ PsOk ps ∧ ρ = [some (.ref t), some (.d (.int most)), some (.d (.int mn)), some (.d (lnP (l1, l2))), some (.ref p), o5, o6, o7]) ?_ ?_ (List.range (1 + n)) _ S4
        ⟨[], none, none, none, (b4.2 p htp).trans Sto.put_same, b4.1, fun a h1 h2 => (b4.2 a h1).trans ((Sto.put_ne h2).trans (b13.2 a h1)), by simp, fun q hq => by simp at hq, fun q hq => by simp at hq, rfl⟩
      · rintro ρ S' ⟨ps, o5, o6, o7, e, pot, fra, hl, sz, ok, rfl⟩
        have hl : ps.length = 1 + n := by simpa using hl
        exact h p ps S' htp hSp e pot fra (fun z => by rw [z] at hl; simp at hl; omega) (by omega) sz ok
      · rintro k m ρ S' ⟨ps, o5, o6, o7, e, pot, fra, hl, sz, ok, rfl⟩ ih
        rw [List.length_cons] at hl
        dsimp only [zAsgG, zDPut, zwipe, zNeg, List.map_cons, List.map_nil, ztAnd, ztOr, ztNot, ztB, zOp, zCall, zaCons, zaNil, zV, zC, zgName, zgTup, zgsN, zgCons, zgNil, zSeq, zAsg, zIfS, zRet, zDrop_, zNext, List.getElem?_cons_succ, List.getElem?_cons_zero, List.set_cons_succ, List.set_cons_zero]
        dsimp only [zLst_nil]
        refine zNe_ref e (eqo_pts ps []) ?_
        refine (fun (els : ∀ S5 : Sto, But t S' S5 → _) => zifn (fun ne => ⟨t, 8, rfl, pot, by decide, by decide, fun u S5 u0 u1 b5 => ⟨_, eqo_int u 0, zif (fun c => ?app) (fun c => els S5 b5)⟩⟩) (fun ne => ?emp)) (fun S5 b5 => ?oth)
        case emp => exact zno rfl (els S' (But.refl pot))
        case app =>
          have e5 := (b5.2 p htp).trans e
          refine ⟨⟨p, _, rfl, e5⟩, ?_⟩
          dsimp only [zAsgG, zDPut, zwipe, zNeg, List.map_cons, List.map_nil, ztAnd, ztOr, ztNot, ztB, zOp, zCall, zaCons, zaNil, zV, zC, zgName, zgTup, zgsN, zgCons, zgNil, zSeq, zAsg, zIfS, zRet, zDrop_, zNext, List.getElem?_cons_succ, List.getElem?_cons_zero, List.set_cons_succ, List.set_cons_zero]
          refine zLen_ref e5 ⟨t, _, rfl, b5.1, ?_, ?_, fun v S6 v0 v1 b6 => ?_⟩
          · rw [List.length_map]
            have : ps.length ≠ 0 := fun z => ne (List.eq_nil_of_length_eq_zero z)
            omega
          · rw [List.length_map]; omega
          · rw [List.length_map] at v1
            obtain ⟨v, rfl⟩ := Int.eq_ofNat_of_zero_le v0
            have e6 := (b6.2 p htp).trans e5
            have v2 : v < ps.length := by omega
            refine zIx_ref e6 (pAt_nat (List.getElem?_eq_getElem v2)) ?_
            refine ⟨p, _, _, rfl, rfl, e6, by rw [List.length_map]; omega, ?_⟩
            have pot6 := b6.1
            refine ih _ _ ⟨ps ++ [ps[v]], _, _, _, by rw [Sto.put_same, List.map_append]; rfl, ?_, fun a h1 h2 => ?_, by rw [List.length_append]; simp; omega, ?_, ?_, rfl⟩
            · obtain ⟨a, b, q1, q2⟩ := pot6; exact ⟨a, b, (Sto.put_ne (Ne.symm htp)).trans q1, q2⟩
            · rw [Sto.put_ne h2, b6.2 a h1, b5.2 a h1]; exact fra a h1 h2
            · intro q hq
              rcases List.mem_append.mp hq with z | z
              · exact sz q z
              · rw [List.mem_singleton.mp z]; exact sz _ (List.getElem_mem v2)
            · intro q hq
              rcases List.mem_append.mp hq with z | z
              · exact ok q z
              · rw [List.mem_singleton.mp z]; exact ok _ (List.getElem_mem v2)
        case oth =>
          have e5 := (b5.2 p htp).trans e
          have pot5 := b5.1
          have fra5 := fun a h1 h2 => (b5.2 a h1).trans (fra a h1 h2)
          refine ⟨t, mn, (l1, l2), rfl, pot5, hl1, hl2, fun x yy S6 hx hy b6 => ?_⟩
          refine ⟨rfl, ⟨p, _, rfl, (b6.2 p htp).trans e5⟩, ?_⟩
          refine ⟨t, rfl, b6.1, fun w S7 hw w0 b7 => ⟨t, 3, rfl, b7.1, by decide, by decide, fun r S8 r0 r1 b8 => ?_⟩⟩
          have hS8 : S8 p = some (.lst (ps.map ptP)) := ((b8.2 p htp).trans ((b7.2 p htp).trans (b6.2 p htp))).trans e5
          have pot8 := b8.1
          refine ⟨_, eqo_int mn 4, ?_⟩
          dsimp only [zAsgG, zDPut, zwipe, zNeg, List.map_cons, List.map_nil, ztAnd, ztOr, ztNot, ztB, zOp, zCall, zaCons, zaNil, zV, zC, zgName, zgTup, zgsN, zgCons, zgNil, zSeq, zAsg, zIfS, zRet, zDrop_, zNext, List.getElem?_cons_succ, List.getElem?_cons_zero, List.set_cons_succ, List.set_cons_zero]
          refine pick_fr (u := w) (v := ((1 + r : Int) : Rat)) fun v hv => ?_
          have hv2 : Sz 201 v ∧ 0 < v := by
            rcases hv with rfl | rfl
            · exact ⟨hw, w0⟩
            · exact ⟨Sz.int (A := 4) (by omega) |>.mono (by decide), by exact_mod_cast (show (0 : Int) < 1 + r by omega)⟩
          refine ⟨p, _, _, rfl, rfl, hS8, by rw [List.length_map]; omega, ?_⟩
          refine ih _ _ ⟨ps ++ [⟨x, yy, v⟩], _, _, _, by rw [Sto.put_same, List.map_append]; rfl, ?_, fun a h1 h2 => ?_, by rw [List.length_append]; simp; omega, ?_, ?_, rfl⟩
          · obtain ⟨a, b, q1, q2⟩ := pot8; exact ⟨a, b, (Sto.put_ne (Ne.symm htp)).trans q1, q2⟩
          · rw [Sto.put_ne h2, b8.2 a h1, b7.2 a h1, b6.2 a h1]; exact fra5 a h1 h2
          · intro q hq
            rcases List.mem_append.mp hq with z | z
            · exact sz q z
            · rw [List.mem_singleton.mp z]; exact ⟨hx, hy, hv2.1⟩
          · intro q hq
            rcases List.mem_append.mp hq with z | z
            · exact ok q z
            · rw [List.mem_singleton.mp z]; exact hv2.2
end
end Sl
set_option maxRecDepth 512
set_option maxHeartbeats 200000
set_option linter.all false
namespace Sg
/-! ### the two fillings bracket: signs there are -/
theorem fill_ok {lo hi : Nat → Rat} {ks : List Nat} {T : Rat} (hne : ks ≠ []) (hlh : ∀ k ∈ ks, lo k ≤ hi k) (h0 : tot ks lo ≤ T) (h1 : T ≤ tot ks hi) :
    ∃ pre j s suf, ks = pre ++ j :: suf ∧ filled lo hi ks T = some ((pre.map fun k => (k, hi k)) ++ (j, s) :: (suf.map fun k => (k, lo k))) ∧ lo j ≤ s ∧ s ≤ hi j ∧ tot ((pre.map fun k => (k, hi k)) ++ (j, s) :: (suf.map fun k => (k, lo k))) (fun q => q.2) = T := by
  have hr : T - tot ks lo ≤ tot ks (fun k => hi k - lo k) := by
    have e := tot_add ks hi (fun k => (-1) * lo k)
    have e3 := tot_mul ks (-1) lo
    have e2 := tot_congr ks (fun k => hi k - lo k) (fun k => hi k + (-1) * lo k) fun k _ => by grind
    grind
  obtain ⟨r1, pre, j, s, suf, r2, r3, r4, r5⟩ := fillGo_spec lo hi ks (T - tot ks lo) hlh (by grind) hr hne
  refine ⟨pre, j, s, suf, r2, ?_, r4, r5, ?_⟩
  · unfold filled
    simp only
    rw [if_neg (by grind), if_pos r1, r3]
  · have := fillGo_sum lo hi ks (T - tot ks lo)
    rw [r1, r3] at this
    grind
theorem fill_in {lo hi : Nat → Rat} {pre suf : List Nat} {j : Nat} {s : Rat} (hlh : ∀ k ∈ pre ++ j :: suf, lo k ≤ hi k) (h4 : lo j ≤ s) (h5 : s ≤ hi j) :
    ∀ q ∈ (pre.map fun k => (k, hi k)) ++ (j, s) :: (suf.map fun k => (k, lo k)), lo q.1 ≤ q.2 ∧ q.2 ≤ hi q.1 := by
  intro q hq
  rcases List.mem_append.mp hq with z | z
  · obtain ⟨k, hk, rfl⟩ := List.mem_map.mp z
    have := hlh k (by simp [hk])
    exact ⟨this, Rat.le_refl⟩
  · rcases List.mem_cons.mp z with rfl | z
    · exact ⟨h4, h5⟩
    · obtain ⟨k, hk, rfl⟩ := List.mem_map.mp z
      have := hlh k (by simp [hk])
      exact ⟨Rat.le_refl, this⟩
theorem fill_keys (lo hi : Nat → Rat) (pre suf : List Nat) (j : Nat) (s : Rat) : ((pre.map fun k => (k, hi k)) ++ (j, s) :: (suf.map fun k => (k, lo k))).map (·.1) = pre ++ j :: suf := by
  simp [Function.comp_def]
def lowM (X lo hi : Nat → Rat) (on : List Nat) (j : Nat) : Rat := tot on fun k => if X k < X j then hi k * (X k - X j) else lo k * (X k - X j)
def highM (X lo hi : Nat → Rat) (on : List Nat) (j : Nat) : Rat := tot on fun k => if X k < X j then lo k * (X k - X j) else hi k * (X k - X j)
theorem balanced_some {X lo hi : Nat → Rat} {on : List Nat} {T M : Rat} (hn : on.Nodup) (h2 : ∃ a ∈ on, ∃ b ∈ on, X a ≠ X b) (hlh : ∀ k ∈ on, lo k ≤ hi k)
    (hl : ∀ j ∈ on, lowM X lo hi on j ≤ M - X j * T) (hh : ∀ j ∈ on, M - X j * T ≤ highM X lo hi on j) :
    ∃ f, balancedOn X lo hi on T M = some f ∧ f.map (·.1) = on ∧ (∀ q ∈ f, lo q.1 ≤ q.2 ∧ q.2 ≤ hi q.1) ∧ tot f (fun q => q.2) = T ∧ tot f (fun q => q.2 * X q.1) = M := by
  have hne : on ≠ [] := by obtain ⟨a, ha, _⟩ := h2; exact List.ne_nil_of_mem ha
  obtain ⟨a, ha, hal⟩ := least_ex on X hne
  obtain ⟨b, hb, hbl⟩ := most_ex on X hne
  have hab : X a < X b := by
    obtain ⟨c, hc, d, hd, n⟩ := h2
    have := hal c hc; have := hal d hd; have := hbl c hc; have := hbl d hd
    grind
  -- the total is within the ends
  have la := hl a ha
  have lb := hl b hb
  have ua := hh a ha
  have ub := hh b hb
  have e1 : lowM X lo hi on a = tot on (fun k => lo k * (X k - X a)) := tot_congr _ _ _ fun k hk => by
    have := hal k hk; rw [if_neg (by grind)]
  have e2 : highM X lo hi on a = tot on (fun k => hi k * (X k - X a)) := tot_congr _ _ _ fun k hk => by
    have := hal k hk; rw [if_neg (by grind)]
  have e3 : lowM X lo hi on b = tot on (fun k => hi k * (X k - X b)) := tot_congr _ _ _ fun k hk => by
    have := hbl k hk
    split
    · rfl
    · have : X k = X b := by grind
      rw [this]; grind
  have e4 : highM X lo hi on b = tot on (fun k => lo k * (X k - X b)) := tot_congr _ _ _ fun k hk => by
    have := hbl k hk
    split
    · rfl
    · have : X k = X b := by grind
      rw [this]; grind
  have part : ∀ (g : Nat → Rat) (c : Rat), tot on (fun k => g k * (X k - c)) = tot on (fun k => g k * X k) - c * tot on g := fun g c => by
    rw [← tot_mul]
    have e : tot on (fun k => g k * X k) = tot on (fun k => g k * (X k - c) + c * g k) := tot_congr _ _ _ fun k _ => by grind
    rw [e, tot_add]; grind
  rw [e1, part] at la
  rw [e2, part] at ua
  rw [e3, part] at lb
  rw [e4, part] at ub
  have cancel : ∀ u v : Rat, (X b - X a) * u ≤ (X b - X a) * v → u ≤ v := fun u v h => by
    rcases Rat.le_total (a := u) (b := v) with z | z
    · exact z
    · have := Rat.mul_nonneg (a := X b - X a) (b := u - v) (by grind) (by grind)
      have e : (X b - X a) * (u - v) = 0 := by grind
      rcases Rat.mul_eq_zero.mp e with y | y <;> grind
  have t0 : tot on lo ≤ T := cancel _ _ (by grind)
  have t1 : T ≤ tot on hi := cancel _ _ (by grind)
  -- from the left
  have pe := byX_perm X on
  have so := byX_sorted X on
  have ne1 : byX X on ≠ [] := fun z => hne (by rw [z] at pe; exact List.Perm.nil_eq pe ▸ rfl)
  have mm : ∀ {ks : List Nat}, ks.Perm on → ∀ k ∈ ks, lo k ≤ hi k := fun p k hk => hlh k (p.mem_iff.mp hk)
  obtain ⟨p1, j1, s1, q1, r1, f1, l1, u1, m1⟩ := fill_ok (T := T) ne1 (mm pe) (by rw [tot_perm pe]; exact t0) (by rw [tot_perm pe]; exact t1)
  have pe2 : (byX X on).reverse.Perm on := (List.reverse_perm _).trans pe
  have ne2 : (byX X on).reverse ≠ [] := by simpa using ne1
  obtain ⟨p2, j2, s2, q2, r2, f2, l2, u2, m2⟩ := fill_ok (T := T) ne2 (mm pe2) (by rw [tot_perm pe2]; exact t0) (by rw [tot_perm pe2]; exact t1)
  generalize hL : (p1.map fun k => (k, hi k)) ++ (j1, s1) :: (q1.map fun k => (k, lo k)) = L at f1 m1
  generalize hR : (p2.map fun k => (k, hi k)) ++ (j2, s2) :: (q2.map fun k => (k, lo k)) = R at f2 m2
  have kL : L.map (·.1) = byX X on := by rw [← hL, fill_keys, r1]
  have kR : R.map (·.1) = (byX X on).reverse := by rw [← hR, fill_keys, r2]
  have iL : ∀ q ∈ L, lo q.1 ≤ q.2 ∧ q.2 ≤ hi q.1 := by rw [← hL]; exact fill_in (by rw [← r1]; exact mm pe) l1 u1
  have iR : ∀ q ∈ R, lo q.1 ≤ q.2 ∧ q.2 ≤ hi q.1 := by rw [← hR]; exact fill_in (by rw [← r2]; exact mm pe2) l2 u2
  have j1m : j1 ∈ on := pe.mem_iff.mp (by rw [r1]; simp)
  have j2m : j2 ∈ on := pe2.mem_iff.mp (by rw [r2]; simp)
  have low : momentOf X L ≤ M := by
    rw [r1] at so
    obtain ⟨_, so2, so3⟩ := List.pairwise_append.mp so
    have h := pivot_rise lo hi X p1 q1 j1 s1 (fun k hk => so3 k hk j1 (by simp)) (fun k hk => (List.pairwise_cons.mp so2).1 k hk)
    rw [hL, moment_about, m1, ← r1, tot_perm pe] at h
    have := hl j1 j1m
    unfold lowM at this
    unfold momentOf
    grind
  have high : M ≤ momentOf X R := by
    have so' : ((byX X on).reverse).Pairwise (fun a b => X b ≤ X a) := List.pairwise_reverse.mpr (byX_sorted X on)
    rw [r2] at so'
    obtain ⟨_, so2, so3⟩ := List.pairwise_append.mp so'
    have h := pivot_fall lo hi X p2 q2 j2 s2 (fun k hk => so3 k hk j2 (by simp)) (fun k hk => (List.pairwise_cons.mp so2).1 k hk)
    rw [hR, moment_about, m2, ← r2, tot_perm pe2] at h
    have := hh j2 j2m
    unfold highM at this
    unfold momentOf
    grind
  obtain ⟨s, es, s0, s3, sm⟩ := shareOf_some low high
  have pL : (L.map (·.1)).Perm on := by rw [kL]; exact pe
  have pR : (R.map (·.1)).Perm on := by rw [kR]; exact pe2
  have nL : (L.map (·.1)).Nodup := pL.nodup_iff.mpr hn
  have nR : (R.map (·.1)).Nodup := pR.nodup_iff.mpr hn
  have aL : ∀ k ∈ on, lo k ≤ at0 L k ∧ at0 L k ≤ hi k := fun k hk => by
    obtain ⟨q, hq, e⟩ := List.mem_map.mp (pL.mem_iff.mpr hk)
    subst e
    rw [at0_of nL hq]; exact iL q hq
  have aR : ∀ k ∈ on, lo k ≤ at0 R k ∧ at0 R k ≤ hi k := fun k hk => by
    obtain ⟨q, hq, e⟩ := List.mem_map.mp (pR.mem_iff.mpr hk)
    subst e
    rw [at0_of nR hq]; exact iR q hq
  refine ⟨on.map fun k => (k, s * at0 L k + (1 - s) * at0 R k), ?_, ?_, ?_, ?_, ?_⟩
  · unfold balancedOn
    rw [f1]
    simp only
    rw [f2]
    simp only
    rw [es]
  · rw [List.map_map]; simp [Function.comp_def]
  · intro q hq
    obtain ⟨k, hk, rfl⟩ := List.mem_map.mp hq
    obtain ⟨a1, a2⟩ := aL k hk
    obtain ⟨b1, b2⟩ := aR k hk
    have c1 := Rat.mul_nonneg (a := s) (b := at0 L k - lo k) s0 (by grind)
    have c2 := Rat.mul_nonneg (a := 1 - s) (b := at0 R k - lo k) (by grind) (by grind)
    have c3 := Rat.mul_nonneg (a := s) (b := hi k - at0 L k) s0 (by grind)
    have c4 := Rat.mul_nonneg (a := 1 - s) (b := hi k - at0 R k) (by grind) (by grind)
    constructor
    · show lo k ≤ s * at0 L k + (1 - s) * at0 R k
      grind
    · show s * at0 L k + (1 - s) * at0 R k ≤ hi k
      grind
  · rw [tot_map]
    show tot on (fun k => s * at0 L k + (1 - s) * at0 R k) = T
    rw [tot_add, tot_mul, tot_mul, tot_at0 pL hn (fun _ v => v), tot_at0 pR hn (fun _ v => v), m1, m2]
    grind
  · rw [tot_map]
    show tot on (fun k => (s * at0 L k + (1 - s) * at0 R k) * X k) = M
    have e : tot on (fun k => (s * at0 L k + (1 - s) * at0 R k) * X k) = tot on (fun k => s * (at0 L k * X k) + (1 - s) * (at0 R k * X k)) := tot_congr _ _ _ fun k _ => by grind
    rw [e, tot_add, tot_mul, tot_mul, tot_at0 pL hn (fun k v => v * X k), tot_at0 pR hn (fun k v => v * X k)]
    exact sm
end Sg
set_option maxRecDepth 512
set_option maxHeartbeats 200000
set_option linter.all false
namespace Sg
theorem lookup_none {f : List (Nat × Rat)} {k : Nat} (h : k ∉ f.map (·.1)) : f.lookup k = none := by
  induction f with
  | nil => rfl
  | cons p f ih =>
    obtain ⟨a, b⟩ := p
    rw [List.map_cons, List.mem_cons] at h
    rw [List.lookup_cons]
    have : (k == a) = false := by simpa using fun e => h (.inl e)
    simp only [this]
    exact ih fun z => h (.inr z)
theorem lookup_some {f : List (Nat × Rat)} {q : Nat × Rat} (hn : (f.map (·.1)).Nodup) (h : q ∈ f) : f.lookup q.1 = some q.2 := by
  induction f with
  | nil => simp at h
  | cons p f ih =>
    rw [List.map_cons, List.nodup_cons] at hn
    obtain ⟨pk, pv⟩ := p
    obtain ⟨qk, qv⟩ := q
    rw [List.lookup_cons]
    rcases List.mem_cons.mp h with e | h
    · cases e; simp
    · have ne : qk ≠ pk := fun e => hn.1 (by rw [← e]; exact List.mem_map.mpr ⟨(qk, qv), h, rfl⟩)
      have : (qk == pk) = false := by simpa using ne
      simp only [this]
      exact ih hn.2 h
theorem offS_on {pr : Pr} {w : Rat} : offS pr w 0 = 0 := by unfold offS; rw [if_neg (by grind), if_neg (by grind)]
theorem onOf_mem {ps : List Pt} {l : Ln} {k : Nat} : k ∈ onOf ps l ↔ k < ps.length ∧ rise (ptAt ps k) l = 0 := by unfold onOf; simp
theorem onOf_nodup (ps : List Pt) (l : Ln) : (onOf ps l).Nodup := List.Pairwise.filter _ List.nodup_range
/-- over all numbers: those on the line, the others -/
theorem tot_onOf (ps : List Pt) (l : Ln) (f g h : Nat → Rat) (h1 : ∀ k < ps.length, rise (ptAt ps k) l = 0 → f k = g k) (h2 : ∀ k < ps.length, rise (ptAt ps k) l ≠ 0 → f k = h k) (h3 : ∀ k < ps.length, rise (ptAt ps k) l = 0 → h k = 0) :
    tot (List.range ps.length) f = tot (onOf ps l) g + tot (List.range ps.length) h := by
  have e1 := tot_filter (List.range ps.length) (fun k => decide (rise (ptAt ps k) l = 0)) f
  have e2 := tot_filter (List.range ps.length) (fun k => decide (rise (ptAt ps k) l = 0)) h
  have e3 : tot ((List.range ps.length).filter fun k => decide (rise (ptAt ps k) l = 0)) f = tot (onOf ps l) g := tot_congr _ _ _ fun k hk => by
    have := List.mem_filter.mp hk
    exact h1 k (List.mem_range.mp this.1) (by simpa using this.2)
  have e4 : tot ((List.range ps.length).filter fun k => decide (rise (ptAt ps k) l = 0)) h = 0 := by
    have : tot ((List.range ps.length).filter fun k => decide (rise (ptAt ps k) l = 0)) h = tot ((List.range ps.length).filter fun k => decide (rise (ptAt ps k) l = 0)) fun k => (0 : Rat) * h k := tot_congr _ _ _ fun k hk => by
      have := List.mem_filter.mp hk
      rw [h3 k (List.mem_range.mp this.1) (by simpa using this.2)]; grind
    rw [this, tot_mul]; grind
  have e5 : tot ((List.range ps.length).filter fun k => !decide (rise (ptAt ps k) l = 0)) f = tot ((List.range ps.length).filter fun k => !decide (rise (ptAt ps k) l = 0)) h := tot_congr _ _ _ fun k hk => by
    have := List.mem_filter.mp hk
    exact h2 k (List.mem_range.mp this.1) (by simpa using this.2)
  grind
theorem loc_signs {ps : List Pt} {pr : Pr} {l : Ln} (hp : PrOk pr) (ho : PsOk ps) (h : LocBest ps pr l) (h2 : IsPair ps l) : ∃ s, signsOf ps pr l = some s ∧ s.length = ps.length ∧ Fits ps pr l (fun k => s.getD k 0) := by
  have hlh : ∀ k < ps.length, loS pr (ptAt ps k).w ≤ hiS pr (ptAt ps k).w := fun k hk => lo_le_hi hp (by have := ho _ (ptAt_mem hk); grind)
  have moms : ∀ c : Rat, tot (List.range ps.length) (fun k => offS pr (ptAt ps k).w (rise (ptAt ps k) l) * ((ptAt ps k).x - c)) = tot (List.range ps.length) (fun k => offS pr (ptAt ps k).w (rise (ptAt ps k) l) * (ptAt ps k).x) - c * tot (List.range ps.length) (fun k => offS pr (ptAt ps k).w (rise (ptAt ps k) l)) := fun c => by
    rw [← tot_mul]
    have e : tot (List.range ps.length) (fun k => offS pr (ptAt ps k).w (rise (ptAt ps k) l) * (ptAt ps k).x) = tot (List.range ps.length) (fun k => offS pr (ptAt ps k).w (rise (ptAt ps k) l) * ((ptAt ps k).x - c) + c * offS pr (ptAt ps k).w (rise (ptAt ps k) l)) := tot_congr _ _ _ fun k _ => by grind
    rw [e, tot_add]; grind
  have gr : ∀ j ∈ onOf ps l, ∀ sg, 0 ≤ tot (List.range ps.length) fun k => grow pr l (ptAt ps j).x sg (ptAt ps k) := fun j hj sg => by
    obtain ⟨j1, j2⟩ := onOf_mem.mp hj
    have := h.grow (ptAt_mem j1) j2 sg
    rw [← tot_range] at this
    exact this
  obtain ⟨f, ef, kf, inn, sf, mf⟩ := balanced_some (X := fun k => (ptAt ps k).x) (lo := fun k => loS pr (ptAt ps k).w) (hi := fun k => hiS pr (ptAt ps k).w) (on := onOf ps l)
      (T := -(tot (List.range ps.length) fun k => offS pr (ptAt ps k).w (rise (ptAt ps k) l))) (M := -(tot (List.range ps.length) fun k => offS pr (ptAt ps k).w (rise (ptAt ps k) l) * (ptAt ps k).x))
      (onOf_nodup ps l)
      (by
        obtain ⟨a, ha, b, hb, n, r1, r2⟩ := h2
        obtain ⟨i, hi, rfl⟩ := mem_ptAt ha
        obtain ⟨j, hj, rfl⟩ := mem_ptAt hb
        exact ⟨i, onOf_mem.mpr ⟨hi, r1⟩, j, onOf_mem.mpr ⟨hj, r2⟩, n⟩)
      (fun k hk => hlh k (onOf_mem.mp hk).1)
      (fun j hj => by
        have g := gr j hj 1
        rw [tot_onOf ps l (fun k => grow pr l (ptAt ps j).x 1 (ptAt ps k))
          (fun k => (-1) * (if (ptAt ps k).x < (ptAt ps j).x then hiS pr (ptAt ps k).w * ((ptAt ps k).x - (ptAt ps j).x) else loS pr (ptAt ps k).w * ((ptAt ps k).x - (ptAt ps j).x)))
          (fun k => (-1) * (offS pr (ptAt ps k).w (rise (ptAt ps k) l) * ((ptAt ps k).x - (ptAt ps j).x)))
          (fun k hk r => by
            simp only [grow]
            rw [if_pos r]
            split
            · rw [phi_pos pr (by grind)]; unfold hiS; grind
            · rw [phi_neg pr (by grind)]; unfold loS; grind)
          (fun k hk r => by simp only [grow]; rw [if_neg r]; grind)
          (fun k hk r => by rw [r, offS_on]; grind), tot_mul, tot_mul, moms] at g
        unfold lowM
        grind)
      (fun j hj => by
        have g := gr j hj (-1)
        rw [tot_onOf ps l (fun k => grow pr l (ptAt ps j).x (-1) (ptAt ps k))
          (fun k => (if (ptAt ps k).x < (ptAt ps j).x then loS pr (ptAt ps k).w * ((ptAt ps k).x - (ptAt ps j).x) else hiS pr (ptAt ps k).w * ((ptAt ps k).x - (ptAt ps j).x)))
          (fun k => (offS pr (ptAt ps k).w (rise (ptAt ps k) l) * ((ptAt ps k).x - (ptAt ps j).x)))
          (fun k hk r => by
            simp only [grow]
            rw [if_pos r]
            split
            · rw [phi_neg pr (by grind)]; unfold loS; grind
            · rw [phi_pos pr (by grind)]; unfold hiS; grind)
          (fun k hk r => by simp only [grow]; rw [if_neg r]; grind)
          (fun k hk r => by rw [r, offS_on]; grind), moms] at g
        unfold highM
        grind)
  have nf : (f.map (·.1)).Nodup := by rw [kf]; exact onOf_nodup ps l
  have on_ : ∀ k ∈ onOf ps l, signAt pr ps l f k = at0 f k := fun k hk => by
    obtain ⟨q, hq, e⟩ := List.mem_map.mp (show k ∈ f.map (·.1) by rw [kf]; exact hk)
    subst e
    unfold signAt at0
    rw [lookup_some nf hq]; rfl
  have inn2 : ∀ k ∈ onOf ps l, loS pr (ptAt ps k).w ≤ at0 f k ∧ at0 f k ≤ hiS pr (ptAt ps k).w := fun k hk => by
    obtain ⟨q, hq, e⟩ := List.mem_map.mp (show k ∈ f.map (·.1) by rw [kf]; exact hk)
    subst e
    rw [at0_of nf hq]; exact inn q hq
  have off_ : ∀ k < ps.length, rise (ptAt ps k) l ≠ 0 → signAt pr ps l f k = offS pr (ptAt ps k).w (rise (ptAt ps k) l) := fun k hk r => by
    unfold signAt
    rw [lookup_none (by rw [kf, onOf_mem]; exact fun z => r z.2)]; rfl
  refine ⟨(List.range ps.length).map (signAt pr ps l f), by unfold signsOf; rw [ef], by simp, ?_⟩
  have get : ∀ k < ps.length, ((List.range ps.length).map (signAt pr ps l f)).getD k 0 = signAt pr ps l f k := fun k hk => by
    rw [List.getD_eq_getElem?_getD, List.getElem?_map, List.getElem?_range hk]; rfl
  have both : ∀ k < ps.length, loS pr (ptAt ps k).w ≤ signAt pr ps l f k ∧ signAt pr ps l f k ≤ hiS pr (ptAt ps k).w := fun k hk => by
    by_cases r : rise (ptAt ps k) l = 0
    · have m := onOf_mem.mpr ⟨hk, r⟩
      rw [on_ k m]; exact inn2 k m
    · rw [off_ k hk r]
      have := hlh k hk
      unfold offS
      split
      · exact ⟨this, Rat.le_refl⟩
      · rw [if_pos (by grind)]; exact ⟨Rat.le_refl, this⟩
  have pk : (f.map (·.1)).Perm (onOf ps l) := by rw [kf]
  refine ⟨fun k hk => by rw [get k hk]; exact (both k hk).1, fun k hk => by rw [get k hk]; exact (both k hk).2, ?_, ?_, fun k hk r => by rw [get k hk]; exact off_ k hk r⟩
  · rw [tot_onOf ps l _ (at0 f) (fun k => offS pr (ptAt ps k).w (rise (ptAt ps k) l)) (fun k hk r => by rw [get k hk]; exact on_ k (onOf_mem.mpr ⟨hk, r⟩)) (fun k hk r => by rw [get k hk]; exact off_ k hk r) (fun k hk r => by rw [r, offS_on]),
      tot_at0 pk (onOf_nodup ps l) (fun _ v => v), sf]
    grind
  · rw [tot_onOf ps l _ (fun k => at0 f k * (ptAt ps k).x) (fun k => offS pr (ptAt ps k).w (rise (ptAt ps k) l) * (ptAt ps k).x) (fun k hk r => by rw [get k hk, on_ k (onOf_mem.mpr ⟨hk, r⟩)]) (fun k hk r => by rw [get k hk, off_ k hk r]) (fun k hk r => by rw [r, offS_on]; grind),
      tot_at0 pk (onOf_nodup ps l) (fun k v => v * (ptAt ps k).x), mf]
    grind
/-- a pair line that is best among those through its points is best -/
theorem loc_best {ps : List Pt} {pr : Pr} {l : Ln} (hp : PrOk pr) (ho : PsOk ps) (h : LocBest ps pr l) (h2 : IsPair ps l) : Best ps pr l := by
  obtain ⟨s, _, _, F⟩ := loc_signs hp ho h h2
  exact F.best
theorem Best.loc {ps : List Pt} {pr : Pr} {l : Ln} (h : Best ps pr l) : LocBest ps pr l := fun _ _ _ n _ => h n
/-- no pair line that meets it costs less: it is best -/
theorem road_end {ps : List Pt} {pr : Pr} {l : Ln} (hp : PrOk pr) (ho : PsOk ps) (h2 : IsPair ps l) (h : ∀ m, IsPair ps m → (∃ p ∈ ps, rise p l = 0 ∧ rise p m = 0) → cost ps pr l ≤ cost ps pr m) : Best ps pr l :=
  loc_best hp ho (fun p hm hr n hn => by
    obtain ⟨m, m1, m2, m3⟩ := pencil hp ho h2.spread hm hn
    have := h m m1 ⟨p, hm, hr, m2⟩
    grind) h2
end Sg
set_option maxRecDepth 512
set_option maxHeartbeats 200000
set_option linter.all false
namespace Sg
/-! ### putting in by counting those ahead -/
theorem filter_drop {α : Type} (lt : α → α → Bool) (tr : ∀ a b c, lt a b = true → lt b c = true → lt a c = true) (p : α) : ∀ L : List α, L.Pairwise (fun a b => lt a b = true) →
    L.filter (fun q => lt q p) ++ L.drop (L.filter fun q => lt q p).length = L ∧ ∀ q ∈ L.drop (L.filter fun q => lt q p).length, lt q p = false
  | [], _ => ⟨rfl, by simp⟩
  | a :: L, h => by
    obtain ⟨h1, h2⟩ := List.pairwise_cons.mp h
    by_cases c : lt a p = true
    · rw [List.filter_cons_of_pos (p := fun q => lt q p) c]
      obtain ⟨i1, i2⟩ := filter_drop lt tr p L h2
      exact ⟨by simpa using i1, by simpa using i2⟩
    · have e : L.filter (fun q => lt q p) = [] := List.filter_eq_nil_iff.mpr fun q hq z => c (tr a q p (h1 q hq) z)
      rw [List.filter_cons_of_neg (p := fun q => lt q p) c, e]
      refine ⟨by simp, fun q hq => ?_⟩
      have hq : q ∈ a :: L := by simpa using hq
      rcases List.mem_cons.mp hq with z | z
      · subst z; simpa using c
      · cases d : lt q p with
        | false => rfl
        | true => exact absurd (tr a q p (h1 q z) d) c
/-- put in: those ahead, the new one, the others -/
def putBy {α : Type} (lt : α → α → Bool) (L : List α) (p : α) : List α := L.take (L.filter fun q => lt q p).length ++ [p] ++ L.drop (L.filter fun q => lt q p).length
theorem take_filter {α : Type} (lt : α → α → Bool) (tr : ∀ a b c, lt a b = true → lt b c = true → lt a c = true) (p : α) (L : List α) (h : L.Pairwise (fun a b => lt a b = true)) : L.take (L.filter fun q => lt q p).length = L.filter fun q => lt q p := by
  obtain ⟨h1, _⟩ := filter_drop lt tr p L h
  generalize hF : (L.filter fun q => lt q p) = F at *
  rw [← h1, List.take_left]
theorem putBy_mem {α : Type} {lt : α → α → Bool} {p q : α} {L : List α} : q ∈ putBy lt L p ↔ q = p ∨ q ∈ L := by
  unfold putBy
  have e := List.take_append_drop (L.filter fun q => lt q p).length L
  rw [List.mem_append, List.mem_append, List.mem_singleton]
  constructor
  · rintro ((h | h) | h)
    · exact .inr (List.mem_of_mem_take h)
    · exact .inl h
    · exact .inr (List.mem_of_mem_drop h)
  · rintro (h | h)
    · exact .inl (.inr h)
    · rw [← e] at h
      rcases List.mem_append.mp h with z | z
      · exact .inl (.inl z)
      · exact .inr z
theorem putBy_sorted {α : Type} {lt : α → α → Bool} (tr : ∀ a b c, lt a b = true → lt b c = true → lt a c = true) (tri : ∀ a b, lt a b = true ∨ a = b ∨ lt b a = true) {p : α} {L : List α} (h : L.Pairwise (fun a b => lt a b = true)) (hp : p ∉ L) : (putBy lt L p).Pairwise fun a b => lt a b = true := by
  obtain ⟨h1, h2⟩ := filter_drop lt tr p L h
  have e := take_filter lt tr p L h
  unfold putBy
  have hb : ∀ q ∈ L.drop (L.filter fun q => lt q p).length, lt p q = true := fun q hq => by
    rcases tri p q with z | z | z
    · exact z
    · subst z; exact absurd (List.mem_of_mem_drop hq) hp
    · rw [h2 q hq] at z; cases z
  have ha : ∀ q ∈ L.take (L.filter fun q => lt q p).length, lt q p = true := fun q hq => by
    rw [e] at hq; exact (List.mem_filter.mp hq).2
  rw [List.append_assoc]
  refine List.pairwise_append.mpr ⟨h.sublist (List.take_sublist _ _), List.pairwise_append.mpr ⟨List.pairwise_singleton _ _, h.sublist (List.drop_sublist _ _), fun a ha b hb' => ?_⟩, fun a hma b hmb => ?_⟩
  · rw [List.mem_singleton.mp ha]; exact hb b hb'
  · rcases List.mem_append.mp hmb with z | z
    · rw [List.mem_singleton.mp z]; exact ha a hma
    · exact tr a p b (ha a hma) (hb b z)
/-- the law's own sorting -/
def sortL (ls : List Ln) : List Ln := ls.foldl (putBy aheadB) []
theorem ahead_tr (a b c : Ln) (h1 : aheadB a b = true) (h2 : aheadB b c = true) : aheadB a c = true := Ahd.trans h1 h2
theorem sortL_from : ∀ (ls acc : List Ln), Sorted acc → (acc ++ ls).Nodup → Sorted (ls.foldl (putBy aheadB) acc) ∧ ∀ m, m ∈ ls.foldl (putBy aheadB) acc ↔ m ∈ acc ∨ m ∈ ls
  | [], acc, h, _ => ⟨h, fun m => by simp⟩
  | l :: ls, acc, h, hn => by
    have hl : l ∉ acc := fun z => by
      have := (List.nodup_append.mp hn).2.2 l z l (by simp)
      exact this rfl
    have hn2 : (putBy aheadB acc l ++ ls).Nodup := by
      have p : (putBy aheadB acc l).Perm (l :: acc) := by
        unfold putBy
        have e := List.take_append_drop (acc.filter fun q => aheadB q l).length acc
        rw [List.append_assoc]
        refine List.perm_middle.trans ?_
        show (l :: (acc.take _ ++ acc.drop _)).Perm _
        rw [e]
      refine ((p.append_right ls).trans ?_).nodup_iff.mpr hn
      exact List.perm_middle.symm
    obtain ⟨h1, h2⟩ := sortL_from ls (putBy aheadB acc l) (putBy_sorted ahead_tr ahd_tri h hl) hn2
    refine ⟨h1, fun m => ?_⟩
    rw [List.foldl_cons, h2, putBy_mem]
    simp; grind
theorem Sorted.nodup {ls : List Ln} (h : Sorted ls) : ls.Nodup := h.imp fun h e => by subst e; exact Ahd.irr _ h
theorem sortL_eq {ls ms : List Ln} (hn : ls.Nodup) (hm : Sorted ms) (h : ∀ m, m ∈ ms ↔ m ∈ ls) : ms = sortL ls := by
  obtain ⟨h1, h2⟩ := sortL_from ls [] .nil (by simpa using hn)
  exact Sorted.ext hm h1 fun m => by rw [h]; unfold sortL at *; simp [h2]

/-! ### the points taken along -/
theorem phi_up (pr : Pr) {t : Rat} (h : 0 < t) (r : Rat) : phi pr (t * r) = t * phi pr r := by
  unfold phi
  by_cases c : 0 < r
  · rw [if_pos c, if_pos (Rat.mul_pos h c)]; grind
  · have : ¬ 0 < t * r := fun z => by
      have := Rat.mul_nonneg (a := t) (b := -r) (by grind) (by grind)
      grind
    rw [if_neg c, if_neg this]; grind
theorem phi_down (pr : Pr) {t : Rat} (h : t < 0) (r : Rat) : phi pr (t * r) = (-t) * phi (pr.2, pr.1) r := by
  rcases Rat.le_total (a := r) (b := 0) with c | c
  · have := Rat.mul_nonneg (a := -t) (b := -r) (by grind) (by grind)
    rw [phi_pos pr (by grind), phi_neg _ c]; grind
  · have := Rat.mul_nonneg (a := -t) (b := r) (by grind) (by grind)
    rw [phi_neg pr (by grind), phi_pos _ c]; grind
structure Along (ps : List Pt) (T : Pt → Pt) (F : Ln → Ln) (pr pr' : Pr) (k : Rat) : Prop where
  pos : 0 < k
  inj : ∀ a b, F a = F b → a = b
  onto : ∀ m, ∃ l, F l = m
  x : ∀ p q : Pt, (T p).x = (T q).x ↔ p.x = q.x
  zero : ∀ p l, rise (T p) (F l) = 0 ↔ rise p l = 0
  cost : ∀ l, cost (ps.map T) pr (F l) = k * cost ps pr' l
theorem Along.pair {ps : List Pt} {T : Pt → Pt} {F : Ln → Ln} {pr pr' : Pr} {k : Rat} (h : Along ps T F pr pr' k) (l : Ln) : IsPair (ps.map T) (F l) ↔ IsPair ps l := by
  constructor
  · rintro ⟨a, ha, b, hb, n, r1, r2⟩
    obtain ⟨p, hp, rfl⟩ := List.mem_map.mp ha
    obtain ⟨q, hq, rfl⟩ := List.mem_map.mp hb
    exact ⟨p, hp, q, hq, fun e => n ((h.x p q).mpr e), (h.zero p l).mp r1, (h.zero q l).mp r2⟩
  · rintro ⟨p, hp, q, hq, n, r1, r2⟩
    exact ⟨T p, List.mem_map_of_mem hp, T q, List.mem_map_of_mem hq, fun e => n ((h.x p q).mp e), (h.zero p l).mpr r1, (h.zero q l).mpr r2⟩
theorem Along.best {ps : List Pt} {T : Pt → Pt} {F : Ln → Ln} {pr pr' : Pr} {k : Rat} (h : Along ps T F pr pr' k) (l : Ln) : Best (ps.map T) pr (F l) ↔ Best ps pr' l := by
  have hk := h.pos
  constructor
  · intro b m
    have := b (F m)
    rw [h.cost, h.cost] at this
    rcases Rat.le_total (a := Sg.cost ps pr' l) (b := Sg.cost ps pr' m) with z | z
    · exact z
    · have z2 := Rat.mul_nonneg (a := k) (b := Sg.cost ps pr' l - Sg.cost ps pr' m) (by grind) (by grind)
      have e : k * (Sg.cost ps pr' l - Sg.cost ps pr' m) = 0 := by grind
      rcases Rat.mul_eq_zero.mp e with y | y <;> grind
  · intro b m
    obtain ⟨n, rfl⟩ := h.onto m
    rw [h.cost, h.cost]
    have z2 := Rat.mul_nonneg (a := k) (b := Sg.cost ps pr' n - Sg.cost ps pr' l) (by grind) (by have := b n; grind)
    grind
theorem Along.spread {ps : List Pt} {T : Pt → Pt} {F : Ln → Ln} {pr pr' : Pr} {k : Rat} (h : Along ps T F pr pr' k) (hs : Spread ps) : Spread (ps.map T) := by
  obtain ⟨a, ha, b, hb, n⟩ := hs
  exact ⟨T a, List.mem_map_of_mem ha, T b, List.mem_map_of_mem hb, fun e => n ((h.x a b).mp e)⟩
theorem along_tilt (ps : List Pt) (pr : Pr) (v : Ln) : Along ps (fun p => ⟨p.x, p.y + (v.1 + v.2 * p.x), p.w⟩) (fun l => (l.1 + v.1, l.2 + v.2)) pr pr 1 where
  pos := by decide
  inj := fun a b e => by
    have := congrArg Prod.fst e; have := congrArg Prod.snd e
    exact Prod.ext (by grind) (by grind)
  onto := fun m => ⟨(m.1 - v.1, m.2 - v.2), Prod.ext (by simp; grind) (by simp; grind)⟩
  x := fun p q => Iff.rfl
  zero := fun p l => by unfold rise stand; grind
  cost := fun l => by
    rw [cost_eq, cost_eq, tot_map, Rat.one_mul]
    refine tot_congr _ _ _ fun p _ => ?_
    have e : rise ⟨p.x, p.y + (v.1 + v.2 * p.x), p.w⟩ (l.1 + v.1, l.2 + v.2) = rise p l := by unfold rise stand; grind
    show p.w * phi pr (rise ⟨p.x, p.y + (v.1 + v.2 * p.x), p.w⟩ (l.1 + v.1, l.2 + v.2)) = _
    rw [e]
theorem rise_stretch {a t : Rat} (ha : a ≠ 0) (p : Pt) (l : Ln) : rise ⟨p.x * a, p.y * t, p.w⟩ (l.1 * t, l.2 * t / a) = t * rise p l := by
  unfold rise stand
  have : l.2 * t / a * (p.x * a) = t * (l.2 * p.x) := by grind
  simp only
  rw [this]; grind
theorem mul_zero_iff {t r : Rat} (ht : t ≠ 0) : t * r = 0 ↔ r = 0 := by
  constructor
  · intro h
    rcases Rat.mul_eq_zero.mp h with z | z
    · exact absurd z ht
    · exact z
  · intro h; rw [h]; grind
theorem along_stretch (ps : List Pt) (pr pr' : Pr) {a t k : Rat} (ha : a ≠ 0) (h : (0 < t ∧ k = t ∧ pr' = pr) ∨ (t < 0 ∧ k = -t ∧ pr' = (pr.2, pr.1))) :
    Along ps (fun p => ⟨p.x * a, p.y * t, p.w⟩) (fun l => (l.1 * t, l.2 * t / a)) pr pr' k := by
  have ht : t ≠ 0 := by rcases h with h | h <;> grind
  have cancel : ∀ {u v c : Rat}, c ≠ 0 → u * c = v * c → u = v := fun {u v c} hc e => by
    have : c * (u - v) = 0 := by grind
    have := (mul_zero_iff hc).mp this
    grind
  refine ⟨by rcases h with h | h <;> grind, fun l m e => ?_, fun m => ⟨(m.1 / t, m.2 * a / t), ?_⟩, fun p q => ?_, fun p l => ?_, fun l => ?_⟩
  · have e1 : l.1 * t = m.1 * t := congrArg Prod.fst e
    have e2 : l.2 * t / a = m.2 * t / a := congrArg Prod.snd e
    have e3 : l.2 * t = m.2 * t := by
      have e4 : l.2 * t / a * a = m.2 * t / a * a := by rw [e2]
      rw [Rat.div_mul_cancel ha, Rat.div_mul_cancel ha] at e4
      exact e4
    exact Prod.ext (cancel ht e1) (cancel ht e3)
  · refine Prod.ext ?_ ?_
    · show m.1 / t * t = m.1
      exact Rat.div_mul_cancel ht
    · show m.2 * a / t * t / a = m.2
      rw [Rat.div_mul_cancel ht]
      exact Rat.mul_div_cancel ha
  · show p.x * a = q.x * a ↔ p.x = q.x
    exact ⟨fun e => cancel ha e, fun e => by rw [e]⟩
  · show rise ⟨p.x * a, p.y * t, p.w⟩ (l.1 * t, l.2 * t / a) = 0 ↔ _
    rw [rise_stretch ha]
    exact mul_zero_iff ht
  · rw [cost_eq, cost_eq, tot_map, ← tot_mul]
    refine tot_congr _ _ _ fun p _ => ?_
    show p.w * phi pr (rise ⟨p.x * a, p.y * t, p.w⟩ (l.1 * t, l.2 * t / a)) = _
    rw [rise_stretch ha]
    rcases h with ⟨h1, rfl, rfl⟩ | ⟨h1, rfl, rfl⟩
    · rw [phi_up _ h1]; grind
    · rw [phi_down _ h1]; grind
/-! ### a point put on the line -/
theorem cost_on {ps : List Pt} {pr : Pr} {p : Pt} {l : Ln} (h : rise p l = 0) : cost (ps ++ [p]) pr l = cost ps pr l := by
  rw [cost_append, cost_cons, h, phi_pos pr Rat.le_refl]
  have : cost [] pr l = 0 := by rw [cost_eq]; rfl
  rw [this]; grind
theorem cost_more {ps : List Pt} {pr : Pr} (hp : PrOk pr) {p : Pt} (hw : 0 < p.w) (l : Ln) : cost ps pr l ≤ cost (ps ++ [p]) pr l := by
  rw [cost_append]
  have := cost_nonneg (ps := [p]) hp (fun q hq => by rw [List.mem_singleton.mp hq]; exact hw) l
  grind
theorem best_on {ps : List Pt} {pr : Pr} (hp : PrOk pr) {p : Pt} (hw : 0 < p.w) {l : Ln} (h : rise p l = 0) (hb : Best ps pr l) : Best (ps ++ [p]) pr l := fun m => by
  rw [cost_on h]
  have := hb m
  have := cost_more (ps := ps) hp hw m
  grind
/-! ### the law's own cost -/
def lawCost (ps : List Pt) (pr : Pr) (l : Ln) : Rat := ps.foldl (fun s p => if 0 < rise p l then s + p.w * rise p l * pr.1 else if rise p l < 0 then s - p.w * rise p l * pr.2 else s) 0
theorem lawCost_eq (ps : List Pt) (pr : Pr) (l : Ln) : lawCost ps pr l = cost ps pr l := by
  have go : ∀ (ps : List Pt) (s : Rat), ps.foldl (fun s p => if 0 < rise p l then s + p.w * rise p l * pr.1 else if rise p l < 0 then s - p.w * rise p l * pr.2 else s) s = s + tot ps fun p => p.w * phi pr (rise p l) := by
    intro ps
    induction ps with
    | nil => intro s; rw [tot_nil]; show s = s + 0; grind
    | cons p ps ih =>
      intro s
      rw [List.foldl_cons, ih, tot_cons]
      unfold phi
      split
      · grind
      · split
        · grind
        · have : rise p l = 0 := by grind
          rw [this]; grind
  unfold lawCost
  rw [go, cost_eq]; grind
end Sg
set_option Elab.async false
set_option linter.all false
set_option maxRecDepth 100000
set_option maxHeartbeats 4000000
namespace Sl
open PySem PySem.Spec PyProof.Rows L2 Z
open Sg (Pt Ln PsOk PrOk Spread stand rise loS hiS phi allPairs cost IsPair Best tot)
/-! ### the least, the corners -/
theorem least_spec : ∀ (l : List Rat) (q : Rat), (least q l ≤ q ∧ ∀ r ∈ l, least q l ≤ r) ∧ (least q l = q ∨ least q l ∈ l)
  | [], q => ⟨⟨Rat.le_refl, by simp⟩, .inl rfl⟩
  | r :: l, q => by
    unfold least
    obtain ⟨⟨h1, h2⟩, h3⟩ := least_spec l (if r < q then r else q)
    refine ⟨⟨?_, fun a ha => ?_⟩, ?_⟩
    · by_cases c : r < q
      · rw [if_pos c] at h1 ⊢; grind
      · rw [if_neg c] at h1 ⊢; exact h1
    · rcases List.mem_cons.mp ha with z | z
      · subst z
        by_cases c : a < q
        · rw [if_pos c] at h1 ⊢; exact h1
        · rw [if_neg c] at h1 ⊢; grind
      · exact h2 a z
    · rcases h3 with z | z
      · by_cases c : r < q
        · rw [if_pos c] at z ⊢; exact .inr (by rw [z]; simp)
        · rw [if_neg c] at z ⊢; exact .inl z
      · exact .inr (by simp [z])
theorem leastL_spec {l : List Rat} (h : l ≠ []) : (∀ r ∈ l, leastL l ≤ r) ∧ leastL l ∈ l := by
  cases l with
  | nil => exact absurd rfl h
  | cons q l =>
    obtain ⟨⟨h1, h2⟩, h3⟩ := least_spec l q
    refine ⟨fun r hr => ?_, ?_⟩
    · rcases List.mem_cons.mp hr with z | z
      · rw [z]; exact h1
      · exact h2 r z
    · rcases h3 with z | z
      · show least q l ∈ _; rw [z]; simp
      · exact List.mem_cons_of_mem _ z
theorem leastC_spec {ps : List Pt} {pr : Ln} (hs : Spread ps) : (∀ l, IsPair ps l → leastC ps pr ≤ cost ps pr l) ∧ ∃ l, IsPair ps l ∧ cost ps pr l = leastC ps pr := by
  have hne : (allPairs ps).map (cost ps pr) ≠ [] := by simpa using all_ne hs
  obtain ⟨h1, h2⟩ := leastL_spec hne
  refine ⟨fun l hl => h1 _ (List.mem_map_of_mem ((Sg.allPairs_mem ps l).mpr hl)), ?_⟩
  obtain ⟨l, hl, e⟩ := List.mem_map.mp h2
  exact ⟨l, (Sg.allPairs_mem ps l).mp hl, e⟩
theorem leastC_le {ps : List Pt} {pr : Ln} (hp : PrOk pr) (ho : PsOk ps) (hs : Spread ps) (n : Ln) : leastC ps pr ≤ cost ps pr n := by
  obtain ⟨l, h1, h2⟩ := Sg.pair_least hp ho hs n
  have := (leastC_spec (pr := pr) hs).1 l h1
  grind
theorem best_iff {ps : List Pt} {pr : Ln} (hp : PrOk pr) (ho : PsOk ps) (hs : Spread ps) (l : Ln) : Best ps pr l ↔ cost ps pr l = leastC ps pr := by
  constructor
  · intro h
    obtain ⟨m, _, e⟩ := (leastC_spec (pr := pr) hs).2
    have h1 := h m
    have h2 := leastC_le hp ho hs l
    grind
  · intro h m
    have := leastC_le hp ho hs m
    grind
theorem corners_mem {ps : List Pt} {pr : Ln} (hp : PrOk pr) (ho : PsOk ps) (hs : Spread ps) (l : Ln) : l ∈ corners ps pr ↔ IsPair ps l ∧ Best ps pr l := by
  unfold corners
  rw [List.mem_filter, Sg.allPairs_mem, best_iff hp ho hs]
  simp
theorem corners_sorted (ps : List Pt) (pr : Ln) : Sg.Sorted (corners ps pr) := List.Pairwise.filter _ (Sg.allPairs_sorted ps)
theorem corners_ne {ps : List Pt} {pr : Ln} (hp : PrOk pr) (ho : PsOk ps) (hs : Spread ps) : corners ps pr ≠ [] := by
  obtain ⟨l, h1, h2⟩ := Sg.best_pair hp ho hs
  exact List.ne_nil_of_mem ((corners_mem hp ho hs l).mpr ⟨h1, h2⟩)
theorem corners_cons {ps : List Pt} {pr : Ln} (hp : PrOk pr) (ho : PsOk ps) (hs : Spread ps) : ∃ l ls, corners ps pr = l :: ls ∧ IsPair ps l ∧ Best ps pr l := by
  cases e : corners ps pr with
  | nil => exact absurd e (corners_ne hp ho hs)
  | cons l ls => exact ⟨l, ls, rfl, (corners_mem hp ho hs l).mp (by rw [e]; simp)⟩
/-! ### roads -/
theorem road_best {ps : List Pt} {pr l z : Ln} {r : List Ln} (hp : PrOk pr) (ho : PsOk ps) (R : Road ps pr l r z) : Best ps pr z := by
  have hz : IsPair ps z := (Sg.allPairs_mem ps z).mp (R.mem z (by simp))
  refine Sg.road_end hp ho hz fun m hm ⟨p, hpm, r1, r2⟩ => ?_
  have hm2 := (Sg.allPairs_mem ps m).mpr hm
  have e := List.filter_eq_nil_iff.mp R.last m hm2
  have meet : meetB ps z m = true := by
    unfold meetB
    rw [List.any_eq_true]
    exact ⟨p, hpm, by rw [decide_eq_true r1, decide_eq_true r2]; rfl⟩
  unfold leadsB at e
  rw [meet, Bool.and_true] at e
  have : ¬ cost ps pr m < cost ps pr z := by simpa using e
  grind
/-! ### signs -/
theorem zip_get {α β : Type} {a : List α} {b : List β} {q : α × β} (h : q ∈ a.zip b) : ∃ k : Nat, a[k]? = some q.1 ∧ b[k]? = some q.2 := by
  obtain ⟨k, e⟩ := List.getElem?_of_mem h
  rw [List.getElem?_zip_eq_some] at e
  exact ⟨k, e⟩
theorem fitL_of {ps : List Pt} {pr l : Ln} {s : List Rat} (hl : s.length = ps.length) (hz : ∀ q ∈ s, SgSz q) (F : Sg.Fits ps pr l (fun k => s.getD k 0)) : FitL ps pr l s := by
  have at_ : ∀ q ∈ ps.zip s, ∃ k, k < ps.length ∧ Sg.ptAt ps k = q.1 ∧ s.getD k 0 = q.2 := fun q hq => by
    obtain ⟨k, h1, h2⟩ := zip_get hq
    obtain ⟨hk, _⟩ := List.getElem?_eq_some_iff.mp h1
    exact ⟨k, hk, by unfold Sg.ptAt; rw [List.getD_eq_getElem?_getD, h1]; rfl, by rw [List.getD_eq_getElem?_getD, h2]; rfl⟩
  have tots : ∀ g : Pt → Rat → Rat, ((ps.zip s).map fun q => g q.1 q.2).sum = tot (List.range ps.length) fun k => g (Sg.ptAt ps k) (s.getD k 0) := fun g => by
    unfold tot
    congr 1
    apply List.ext_getElem
    · simp [hl]
    · intro i h1 h2
      have h3 : i < ps.length := by simpa using h2
      have h4 : i < s.length := by omega
      simp [Sg.ptAt, h3, h4]
  have sums : s.sum = tot (List.range ps.length) fun k => s.getD k 0 := by
    rw [← tots fun _ v => v]
    congr 1
    apply List.ext_getElem
    · simp [hl]
    · intro i h1 h2
      simp
  refine ⟨hl, hz, fun q hq => ?_, ?_, ?_, fun q hq => ?_⟩
  · obtain ⟨k, hk, e1, e2⟩ := at_ q hq
    have := F.lo k hk
    have h2 := F.hi k hk
    rw [e1, e2] at *
    exact ⟨this, h2⟩
  · rw [sums]; exact F.sum
  · unfold momL
    rw [tots fun p v => v * p.x]; exact F.mom
  · obtain ⟨k, hk, e1, e2⟩ := at_ q hq
    by_cases c : rise q.1 l = 0
    · left; unfold offO; rw [c, if_neg (by grind), if_neg (by grind)]
    · right
      have := F.off k hk (by rw [e1]; exact c)
      rw [e1, e2] at this
      rw [this]
      unfold offO Sg.offS
      split
      · rfl
      · rw [if_pos (by grind), if_pos (by grind)]
/-- signs of best lines fit each best line -/
theorem signs_fit {ps : List Pt} {pr l m : Ln} (hp : PrOk pr) (ho : PsOk ps) (h1 : IsPair ps l) (h2 : Best ps pr l) (hm : Best ps pr m) : ∃ s, Sg.signsOf ps pr l = some s ∧ ((∀ q ∈ s, SgSz q) → FitL ps pr m s) := by
  obtain ⟨s, e, hl, F⟩ := Sg.loc_signs hp ho h2.loc h1
  exact ⟨s, e, fun hz => fitL_of hl hz (F.all hp ho hm)⟩
end Sl
set_option Elab.async false
set_option linter.all false
set_option maxRecDepth 100000
set_option maxHeartbeats 4000000
namespace Sl
open PySem PySem.Spec PyProof.Rows L2 Z
open Sg (Pt Ln PsOk PrOk Spread stand rise loS hiS phi)
section
variable {P : Program} {w : World} {K : PySem.W.Frag} {mg : Str → Option Value} {base : Heap}
def sp_law_spread_points : ZC := fun ds S Q => ∃ t : Addr, ds = [.ref t, .d (.int 8)] ∧ Pot S t ∧ ∀ ps S', Spread ps → ps.length ≤ 8 → PzN 210 ps → PsOk ps → But t S S' → Q (.d (ptsP ps)) S'
theorem sc_law_spread_points : FnScope ["_law_pot_here", "_law_most", "_law_points_here"] ["_law_pot_here", "_law_most"] (defScope s_law_spread_points) := ⟨rfl, rfl, rfl, by decide +kernel, rfl, by decide +kernel, by decide +kernel⟩
theorem C_law_spread_points (T : Txt fa fn P K mg base) (C_law_points : Callee P w K mg base 38 "_law_points" 2 sp_law_points) (C_law_spread_ref : Callee P w K mg base 1 "_law_spread" 1 sp_law_spread_ref) (C_law_plus : Callee P w K mg base 35 "_law_plus" 2 sp_law_plus) (C_law_small : Callee P w K mg base 35 "_law_small" 1 sp_law_small) (C_law_draw : Callee P w K mg base 1 "_law_draw" 2 sp_law_draw) : Callee P w K mg base 39 "_law_spread_points" 2 sp_law_spread_points :=
  callee T 111 117 (d := d_law_spread_points) rfl rfl rfl rfl rfl (fun _ _ _ _ _ _ us hl => match us, hl with | [_, _], _ => rfl) sc_law_spread_points (fun ds S Q h => by first | (obtain ⟨_, rfl, _⟩ := h; rfl) | (obtain ⟨_, _, rfl, _⟩ := h; rfl) | (obtain ⟨_, _, _, rfl, _⟩ := h; rfl) | (obtain ⟨_, _, _, _, rfl, _⟩ := h; rfl) | (obtain ⟨_, _, _, _, _, rfl, _⟩ := h; rfl) | (obtain ⟨_, _, _, _, _, _, rfl, _⟩ := h; rfl) | (obtain ⟨_, _, _, _, _, _, _, rfl, _⟩ := h; rfl) | (obtain ⟨_, _, _, _, _, _, _, _, rfl, _⟩ := h; rfl) | (obtain ⟨_, _, _, _, _, _, _, _, _, rfl, _⟩ := h; rfl) | (obtain ⟨_, _, _, _, _, _, _, _, _, _, rfl, _⟩ := h; rfl) | (obtain ⟨_, _, _, _, _, _, _, _, _, _, _, rfl, _⟩ := h; rfl) | (obtain ⟨_, _, _, _, _, _, _, _, _, _, _, _, rfl, _⟩ := h; rfl)) fun f cdv A outer s H hr => by
    have sc := sc_law_spread_points
    refine ⟨_, (zss_cons (zs_set (i := 2) sc.nd rfl (Or.inl rfl) (ze_c1 C_law_points hr (za_cons (zv 0) (za_cons (ze_op zop_sub (zv 1) ze_int) za_nil)))) (zss_cons (zs_if (zb_not (zb_val (ze_c1 C_law_spread_ref hr (za_cons (zv 2) za_nil)))) (zss_one (zs_expr (ze_bm PySem.F.plainAttrs_list PySem.F.slot_list_append PySem.F.type_list_append zm_append (zv 2) (za_cons (ze_tup (za_cons (ze_c1 C_law_plus hr (za_cons (ze_ix zix (ze_ix zix (zv 2) ze_int) ze_int) (za_cons (ze_tup (za_cons (ze_op zop_add ze_int (ze_c1 C_law_draw hr (za_cons (zv 0) (za_cons ze_int za_nil)))) (za_cons ze_int za_nil))) za_nil))) (za_cons (ze_c1 C_law_small hr (za_cons (zv 0) za_nil)) (za_cons (ze_tup (za_cons ze_int (za_cons ze_int za_nil))) za_nil)))) za_nil)))) zss_nil) (zss_one (zs_ret (ze_frz (zv 2)))))), fun ds S Q h => ?_⟩
    obtain ⟨t, rfl, hS, h⟩ := h
    refine ⟨t, 7, rfl, hS, by decide, by decide, fun p ps S1 hpt hSp e pot fra ne hl sz ok => ?_⟩
    have fin : ∀ (S2 : Sto) (qs : List Pt), S2 p = some (.lst (qs.map ptP)) → Pot S2 t → (∀ a, a ≠ t → a ≠ p → S2 a = S a) → Spread qs → qs.length ≤ 8 → PzN 210 qs → PsOk qs → ∃ p' xs, D.ref p = .ref p' ∧ S2 p' = some (.lst xs) ∧ Q (.d (.list xs)) (S2.del p') := fun S2 qs e2 pot2 fra2 hs hl2 sz2 ok2 => by
      refine ⟨p, _, rfl, e2, h qs _ hs hl2 sz2 ok2 ⟨?_, fun a n => ?_⟩⟩
      · obtain ⟨a, b, q1, q2⟩ := pot2; exact ⟨a, b, (Sto.del_ne (Ne.symm hpt)).trans q1, q2⟩
      · by_cases c : a = p
        · rw [c, Sto.del_same, hSp]
        · rw [Sto.del_ne c]; exact fra2 a n c
    refine ⟨p, ps, rfl, e, ne, by omega, zboth (fun c => ?_) (fun c => ?_)⟩
    · have ns : ¬ Spread ps := fun z => by rw [(spreadB_iff ps).mpr z] at c; cases c
      cases ps with
      | nil => exact absurd rfl ne
      | cons p0 ps =>
      dsimp only [zstart, List.map, List.length_cons, List.length_nil, Nat.reduceAdd, Nat.reduceSub, List.reduceReplicate, List.cons_append, List.nil_append, List.append_nil, List.set_cons_succ, List.set_cons_zero]
      refine ⟨⟨p, _, rfl, e⟩, ?_⟩
      dsimp only [zTup, zAsgG, zDPut, zwipe, zNeg, List.map_cons, List.map_nil, ztAnd, ztOr, ztNot, ztB, zOp, zCall, zaCons, zaNil, zV, zC, zgName, zgTup, zgsN, zgCons, zgNil, zSeq, zAsg, zIfS, zRet, zDrop_, zNext, List.getElem?_cons_succ, List.getElem?_cons_zero, List.set_cons_succ, List.set_cons_zero]
      refine zIx_ref (i := 0) (d := ptP p0) e rfl ?_
      refine zIx_t (xs := [frP p0.x, frP p0.y, frP p0.w]) (i := 0) (d := frP p0.x) rfl ?_
      refine ⟨t, 3, rfl, pot, by decide, by decide, fun r S2 r0 r1 b2 => ?_⟩
      have hr1 : Sz 4 ((1 + r : Int) : Rat) := Sz.int (A := 4) (by omega)
      have hx := (sz p0 (by simp)).1
      refine ⟨p0.x, ((1 + r : Int) : Rat), rfl, hx.big, hr1.big, t, rfl, b2.1, fun y S3 hy b3 => ?_⟩
      have e3 : S3 p = some (.lst ((p0 :: ps).map ptP)) := ((b3.2 p hpt).trans (b2.2 p hpt)).trans e
      refine ⟨p, _, _, rfl, rfl, e3, by simp at hl ⊢; omega, ?_⟩
      have pot3 := b3.1
      refine fin _ (p0 :: ps ++ [⟨p0.x + ((1 + r : Int) : Rat), y, 1⟩]) (by rw [Sto.put_same, List.map_append]; rfl) ?_ (fun a h1 h2 => ?_) ?_ (by simp at hl ⊢; omega) ?_ ?_
      · obtain ⟨a, b, q1, q2⟩ := pot3; exact ⟨a, b, (Sto.put_ne (Ne.symm hpt)).trans q1, q2⟩
      · rw [Sto.put_ne h2, b3.2 a h1, b2.2 a h1]; exact fra a h1 h2
      · have : (0 : Rat) < ((1 + r : Int) : Rat) := by exact_mod_cast (show (0 : Int) < 1 + r by omega)
        exact ⟨p0, by simp, _, List.mem_append_right _ (List.mem_singleton_self _), show p0.x ≠ p0.x + ((1 + r : Int) : Rat) by grind⟩
      · intro q hq
        rcases List.mem_append.mp hq with z | z
        · obtain ⟨a, b, c⟩ := sz q z; exact ⟨a.mono (by decide), b.mono (by decide), c.mono (by decide)⟩
        · rw [List.mem_singleton.mp z]; exact ⟨(hx.add hr1).mono (by decide), hy.mono (by decide), Sz.one.mono (by decide)⟩
      · intro q hq
        rcases List.mem_append.mp hq with z | z
        · exact ok q z
        · rw [List.mem_singleton.mp z]; show (0 : Rat) < 1; decide
    · have sp : Spread ps := (spreadB_iff ps).mp (by simpa using c)
      exact fin S1 ps e pot fra sp (by omega) (fun q hq => let ⟨a, b, c⟩ := sz q hq; ⟨a.mono (by decide), b.mono (by decide), c.mono (by decide)⟩) ok
end
end Sl
set_option Elab.async false
set_option linter.all false
set_option maxRecDepth 100000
set_option maxHeartbeats 4000000
namespace Sl
open PySem PySem.Spec PyProof.Rows L2 Z
open Sg (Pt Ln PsOk PrOk Spread stand rise loS hiS phi)
def six (p : Pt) : List Int := [p.x.num, p.x.den, p.y.num, p.y.den, p.w.num, p.w.den]
/-- the law's points: short numbers -/
structure Shrt (ps : List Pt) : Prop where
  sp : Spread ps
  le : ps.length ≤ 8
  ok : PsOk ps
  sz : PzN 20 ps
section
variable {P : Program} {w : World} {K : PySem.W.Frag} {mg : Str → Option Value} {base : Heap}
def sp_law_short_points : ZC := fun ds S Q => ∃ t : Addr, ds = [.ref t] ∧ Pot S t ∧ ∀ ps S', Shrt ps → But t S S' → Q (.d (ptsP ps)) S'
theorem sc_law_short_points : FnScope ["_law_pot_here", "_law_points_here", "_law_x", "_law_y", "_law_weight", "_law_number"] ["_law_pot_here"] (defScope s_law_short_points) := ⟨rfl, rfl, rfl, by decide +kernel, rfl, by decide +kernel, by decide +kernel⟩
theorem C_law_short_points (T : Txt fa fn P K mg base) (C_law_spread_points : Callee P w K mg base 39 "_law_spread_points" 2 sp_law_spread_points) : Callee P w K mg base 40 "_law_short_points" 1 sp_law_short_points :=
  callee T 116 122 (d := d_law_short_points) rfl rfl rfl rfl rfl (fun _ _ _ _ _ _ us hl => match us, hl with | [_], _ => rfl) sc_law_short_points (fun ds S Q h => by first | (obtain ⟨_, rfl, _⟩ := h; rfl) | (obtain ⟨_, _, rfl, _⟩ := h; rfl) | (obtain ⟨_, _, _, rfl, _⟩ := h; rfl) | (obtain ⟨_, _, _, _, rfl, _⟩ := h; rfl) | (obtain ⟨_, _, _, _, _, rfl, _⟩ := h; rfl) | (obtain ⟨_, _, _, _, _, _, rfl, _⟩ := h; rfl) | (obtain ⟨_, _, _, _, _, _, _, rfl, _⟩ := h; rfl) | (obtain ⟨_, _, _, _, _, _, _, _, rfl, _⟩ := h; rfl) | (obtain ⟨_, _, _, _, _, _, _, _, _, rfl, _⟩ := h; rfl) | (obtain ⟨_, _, _, _, _, _, _, _, _, _, rfl, _⟩ := h; rfl) | (obtain ⟨_, _, _, _, _, _, _, _, _, _, _, rfl, _⟩ := h; rfl) | (obtain ⟨_, _, _, _, _, _, _, _, _, _, _, _, rfl, _⟩ := h; rfl)) fun f cdv A outer s H hr => by
    have sc := sc_law_short_points
    refine ⟨_, (zss_cons (zs_set (i := 1) sc.nd rfl (Or.inl rfl) (ze_c1 C_law_spread_points hr (za_cons (zv 0) (za_cons ze_int za_nil)))) (zss_cons (zs_if (zb_cmp zop_lt (ze_callB (zc_maxL rfl) (by rfl) (T.free_ 0 rfl) (by decide +kernel) (za_cons (ze_lc (own := [("_law_x", 2), ("_law_y", 3), ("_law_weight", 4)]) (gok_tup (n := 3)) rfl sc.nd (zi_list (zv 1)) (blkOk_by rfl) (fun _ _ _ _ _ => pg_tup (n := 3) rfl (pgs_cons (pg_name (i := 2) sc.nd rfl (Or.inl rfl)) (pgs_cons (pg_name (i := 3) sc.nd rfl (Or.inl rfl)) (pgs_cons (pg_name (i := 4) sc.nd rfl (Or.inl rfl)) pgs_nil)))) (fun _ _ _ _ _ => zts_nil) (fun _ _ _ _ _ => (ze_callB (zc_maxL rfl) (by rfl) (T.free_ 0 rfl) (by decide +kernel) (za_cons (ze_lc (own := [("_law_number", 5)]) gok_one rfl sc.nd (zi_tup (ze_op zop_catT (ze_op zop_catT (zv 2) (zv 3)) (zv 4))) (blkOk_by rfl) (fun _ _ _ _ _ => pg_name (i := 5) sc.nd rfl (Or.inl rfl)) (fun _ _ _ _ _ => zts_nil) (fun _ _ _ _ _ => (ze_callB zc_abs (by rfl) (T.free_ 12 rfl) (by decide +kernel) (za_cons (zv 5) za_nil)))) za_nil)))) za_nil)) (ze_op zop_pow ze_int ze_int) (by rfl)) (zss_one (zs_ret (zv 1))) zss_nil) (zss_one (zs_ret (ze_lst (za_cons (ze_tup (za_cons (ze_tup (za_cons ze_int (za_cons ze_int za_nil))) (za_cons (ze_tup (za_cons ze_int (za_cons ze_int za_nil))) (za_cons (ze_tup (za_cons ze_int (za_cons ze_int za_nil))) za_nil)))) (za_cons (ze_tup (za_cons (ze_tup (za_cons ze_int (za_cons ze_int za_nil))) (za_cons (ze_tup (za_cons ze_int (za_cons ze_int za_nil))) (za_cons (ze_tup (za_cons ze_int (za_cons ze_int za_nil))) za_nil)))) (za_cons (ze_tup (za_cons (ze_tup (za_cons ze_int (za_cons ze_int za_nil))) (za_cons (ze_tup (za_cons ze_int (za_cons ze_int za_nil))) (za_cons (ze_tup (za_cons ze_int (za_cons ze_int za_nil))) za_nil)))) (za_cons (ze_tup (za_cons (ze_tup (za_cons ze_int (za_cons ze_int za_nil))) (za_cons (ze_tup (za_cons ze_int (za_cons ze_int za_nil))) (za_cons (ze_tup (za_cons ze_int (za_cons ze_int za_nil))) za_nil)))) za_nil))))))))), fun ds S Q h => ?_⟩
    obtain ⟨t, rfl, hS, h⟩ := h
    refine ⟨t, rfl, hS, fun ps S1 sp hl sz ok b1 => ?_⟩
    have hle := hl
    refine ⟨len1000 (by omega), zLcL_ind (f := ptP) (fun l acc S' => S' = S1 ∧ ∃ (ns : List Int) (dn : List Pt), acc = ns.map PyData.int ∧ dn ++ l = ps ∧ ns.length = dn.length ∧ ∀ p ∈ dn, ∃ m ∈ ns, ∀ y ∈ six p, (y.natAbs : Int) ≤ m) ?_ ?_ ps [] S1 ⟨rfl, [], [], rfl, rfl, rfl, by simp⟩⟩
    · rintro acc S' ⟨rfl, ns, dn, rfl, e, hn, hm⟩
      have e2 : dn = ps := by simpa using e
      subst e2
      refine ⟨_, ns, rfl, rfl, ?_, fun m m1 m2 => ⟨⟨by decide, by decide, by decide⟩, zif (fun c => ?_) (fun c => ?_)⟩⟩
      · obtain ⟨a, ha, _⟩ := sp
        have := List.length_pos_of_mem ha
        omega
      · refine h dn S' ⟨sp, hl, ok, fun p hp => ?_⟩ b1
        obtain ⟨m', k1, k2⟩ := hm p hp
        have k3 := m2 m' k1
        have c : m < 1000000 := c
        have big : ∀ y ∈ six p, y.natAbs < 2 ^ 20 := fun y hy => by
          have := k2 y hy
          omega
        have q1 := big p.x.num (by simp [six])
        have q2 := big p.x.den (by simp [six])
        have q3 := big p.y.num (by simp [six])
        have q4 := big p.y.den (by simp [six])
        have q5 := big p.w.num (by simp [six])
        have q6 := big p.w.den (by simp [six])
        exact ⟨⟨q1, by simpa using q2⟩, ⟨q3, by simpa using q4⟩, ⟨q5, by simpa using q6⟩⟩
      · have e2 : ptsP [⟨0, 0, 1⟩, ⟨1, 2, Rat.divInt 1 2⟩, ⟨2, 0, 1⟩, ⟨2, 5, 3⟩] = .list [.tuple [.tuple [.int 0, .int 1], .tuple [.int 0, .int 1], .tuple [.int 1, .int 1]], .tuple [.tuple [.int 1, .int 1], .tuple [.int 2, .int 1], .tuple [.int 1, .int 2]], .tuple [.tuple [.int 2, .int 1], .tuple [.int 0, .int 1], .tuple [.int 1, .int 1]], .tuple [.tuple [.int 2, .int 1], .tuple [.int 5, .int 1], .tuple [.int 3, .int 1]]] := by
          have : Rat.divInt 1 2 = ⟨1, 2, by decide, by decide⟩ := by decide
          rw [this]; rfl
        have k := h [⟨0, 0, 1⟩, ⟨1, 2, Rat.divInt 1 2⟩, ⟨2, 0, 1⟩, ⟨2, 5, 3⟩] S' ⟨⟨⟨0, 0, 1⟩, by simp, ⟨2, 0, 1⟩, by simp, by decide⟩, by decide, ?_, ?_⟩ b1
        · rw [e2] at k
          exact k
        · intro p hp
          simp only [List.mem_cons, List.not_mem_nil, or_false] at hp
          rcases hp with rfl | rfl | rfl | rfl <;> decide
        · intro p hp
          simp only [List.mem_cons, List.not_mem_nil, or_false] at hp
          rcases hp with rfl | rfl | rfl | rfl <;> exact ⟨⟨by decide, by decide⟩, ⟨by decide, by decide⟩, ⟨by decide, by decide⟩⟩
    · rintro p l acc S' ⟨rfl, ns, dn, rfl, e, hn, hm⟩ ih
      refine ⟨rfl, zyes rfl ?_⟩
      refine ⟨rfl, rfl, rfl, zLcL_map (f := PyData.int) (fun i => .int (if i < 0 then -i else i)) (six p) [] (fun i hi acc l' k => zyes rfl k) ?_⟩
      refine ⟨_, (six p).map fun i => if i < 0 then -i else i, rfl, by rw [List.map_map]; rfl, by simp [six], fun m m1 m2 => ?_⟩
      refine ih _ _ ⟨rfl, ns ++ [m], dn ++ [p], by simp, by simpa using e, by simp [hn], fun q hq => ?_⟩
      rcases List.mem_append.mp hq with z | z
      · obtain ⟨m', k1, k2⟩ := hm q z
        exact ⟨m', by simp [k1], k2⟩
      · rw [List.mem_singleton.mp z]
        refine ⟨m, by simp, fun y hy => ?_⟩
        have := m2 _ (List.mem_map_of_mem (f := fun i : Int => if i < 0 then -i else i) hy)
        rw [abs_int] at this
        exact this
end
end Sl
set_option Elab.async false
set_option linter.all false
set_option maxRecDepth 100000
set_option maxHeartbeats 4000000
namespace Sl
open PySem PySem.Spec PyProof.Rows L2 Z
open Sg (Pt Ln PsOk PrOk Spread stand rise loS hiS phi aheadB)
theorem num_neg (q : Rat) : decide (q.num < 0) = decide (q < 0) := by
  have e := Rat.num_nonneg (q := q)
  by_cases h : q < 0
  · rw [decide_eq_true h, decide_eq_true]
    by_cases c : 0 ≤ q.num
    · have := e.mp c; grind
    · omega
  · rw [decide_eq_false h, decide_eq_false]
    have := e.mpr (by grind)
    omega
section
variable {P : Program} {w : World} {K : PySem.W.Frag} {mg : Str → Option Value} {base : Heap}
def sp_law_cost : ZC := fun ds S Q => ∃ (ps : List Pt) (pr l : Ln), ds = [.d (ptsP ps), .d (lnP pr), .d (lnP l)] ∧ ps.length ≤ 12 ∧ PsSz ps ∧ PrSz pr ∧ LnSz l ∧ Q (fr (Sg.cost ps pr l)) S
theorem sc_law_cost : FnScope ["_law_points_here", "_law_prices", "_law_line", "_law_total", "_law_point", "_law_rise_here"] ["_law_points_here", "_law_prices", "_law_line"] (defScope s_law_cost) := ⟨rfl, rfl, rfl, by decide +kernel, rfl, by decide +kernel, by decide +kernel⟩
theorem C_law_cost (T : Txt fa fn P K mg base) (C_law_rise : Callee P w K mg base 37 "_law_rise" 2 sp_law_rise) (C_law_plus : Callee P w K mg base 35 "_law_plus" 2 sp_law_plus) (C_law_less : Callee P w K mg base 35 "_law_less" 2 sp_law_less) (C_law_times : Callee P w K mg base 35 "_law_times" 2 sp_law_times) : Callee P w K mg base 38 "_law_cost" 3 sp_law_cost :=
  callee T 114 120 (d := d_law_cost) rfl rfl rfl rfl rfl (fun _ _ _ _ _ _ us hl => match us, hl with | [_, _, _], _ => rfl) sc_law_cost (fun ds S Q h => by first | (obtain ⟨_, rfl, _⟩ := h; rfl) | (obtain ⟨_, _, rfl, _⟩ := h; rfl) | (obtain ⟨_, _, _, rfl, _⟩ := h; rfl) | (obtain ⟨_, _, _, _, rfl, _⟩ := h; rfl) | (obtain ⟨_, _, _, _, _, rfl, _⟩ := h; rfl) | (obtain ⟨_, _, _, _, _, _, rfl, _⟩ := h; rfl) | (obtain ⟨_, _, _, _, _, _, _, rfl, _⟩ := h; rfl) | (obtain ⟨_, _, _, _, _, _, _, _, rfl, _⟩ := h; rfl) | (obtain ⟨_, _, _, _, _, _, _, _, _, rfl, _⟩ := h; rfl) | (obtain ⟨_, _, _, _, _, _, _, _, _, _, rfl, _⟩ := h; rfl) | (obtain ⟨_, _, _, _, _, _, _, _, _, _, _, rfl, _⟩ := h; rfl) | (obtain ⟨_, _, _, _, _, _, _, _, _, _, _, _, rfl, _⟩ := h; rfl)) fun f cdv A outer s H hr => by
    have sc := sc_law_cost
    refine ⟨_, (zss_cons (zs_set (i := 3) sc.nd rfl (Or.inl rfl) (ze_tup (za_cons ze_int (za_cons ze_int za_nil)))) (zss_cons (zs_for PassesOwn.never rfl (zi_list (zv 0)) (zg_name (i := 4) sc.nd rfl (Or.inl rfl)) (zss_cons (zs_set (i := 5) sc.nd rfl (Or.inl rfl) (ze_c1 C_law_rise hr (za_cons (zv 4) (za_cons (zv 2) za_nil)))) (zss_cons (zs_if (zb_cmp zop_gt (ze_ix zix (zv 5) ze_int) ze_int (by rfl)) (zss_one (zs_set (i := 3) sc.nd rfl (Or.inl rfl) (ze_c1 C_law_plus hr (za_cons (zv 3) (za_cons (ze_c1 C_law_times hr (za_cons (ze_c1 C_law_times hr (za_cons (ze_ix zix (zv 4) ze_int) (za_cons (zv 5) za_nil))) (za_cons (ze_ix zix (zv 1) ze_int) za_nil))) za_nil))))) zss_nil) (zss_one (zs_if (zb_cmp zop_lt (ze_ix zix (zv 5) ze_int) ze_int (by rfl)) (zss_one (zs_set (i := 3) sc.nd rfl (Or.inl rfl) (ze_c1 C_law_less hr (za_cons (zv 3) (za_cons (ze_c1 C_law_times hr (za_cons (ze_c1 C_law_times hr (za_cons (ze_ix zix (zv 4) ze_int) (za_cons (zv 5) za_nil))) (za_cons (ze_ix zix (zv 1) ze_int) za_nil))) za_nil))))) zss_nil))))) (zss_one (zs_ret (zv 3))))), fun ds S Q h => ?_⟩
    obtain ⟨ps, pr, l, rfl, hn, hp, hr2, hl, h⟩ := h
    have fold := Sg.lawCost_eq ps pr l
    rw [← fold] at h
    refine zLoop_ind (α := Pt) (f := ptP) (fun m ρ S' => S' = S ∧ ∃ k a o1 o2, k + m.length = ps.length ∧ (∀ p ∈ m, PtSz p) ∧ Sz (k * 9500 + 1) a ∧ m.foldl (fun s p => if 0 < rise p l then s + p.w * rise p l * pr.1 else if rise p l < 0 then s - p.w * rise p l * pr.2 else s) a = Sg.lawCost ps pr l ∧
      ρ = [some (.d (ptsP ps)), some (.d (lnP pr)), some (.d (lnP l)), some (fr a), o1, o2]) ?_ ?_ ps _ S ⟨rfl, 0, 0, none, none, by omega, hp, Sz.zero, rfl, rfl⟩
    · rintro ρ S' ⟨rfl, k, a, o1, o2, _, _, _, e, rfl⟩
      have e2 : a = Sg.lawCost ps pr l := e
      rw [← e2] at h
      exact h
    · rintro p m ρ S' ⟨rfl, k, a, o1, o2, hk, hm, ha, e, rfl⟩ ih
      have hs := hm p (by simp)
      rw [List.length_cons] at hk
      have hr1 := rise_sz hl hs
      have hwr : Sz 9400 (p.w * rise p l) := (hs.w.mul hr1).mono (by decide)
      have h1 : Sz 9416 (p.w * rise p l * pr.1) := hwr.mul hr2.1
      have h2 : Sz 9416 (p.w * rise p l * pr.2) := hwr.mul hr2.2
      have hk2 : k * 9500 + 1 ≤ 60000000 := by omega
      refine ⟨p, l, rfl, hs, hl, ?_⟩
      rw [List.foldl_cons] at e
      refine zyes_no (num_pos (rise p l)) (fun c => ?_) (fun c => ?_)
      · rw [if_pos c] at e
        refine ⟨p.w, _, rfl, hs.w.big, hr1.big, _, pr.1, rfl, hwr.big, hr2.1.big, a, _, rfl, ha.mono hk2, h1.big, zyes_no (num_neg (rise p l)) (fun d => absurd d (by grind)) (fun d => ih _ _ ⟨rfl, k + 1, _, _, _, by omega, fun q hq => hm q (by simp [hq]), (ha.add h1).mono (by omega), e, rfl⟩)⟩
      · rw [if_neg c] at e
        refine zyes_no (num_neg (rise p l)) (fun d => ?_) (fun d => ?_)
        · rw [if_pos d] at e
          exact ⟨p.w, _, rfl, hs.w.big, hr1.big, _, pr.2, rfl, hwr.big, hr2.2.big, a, _, rfl, ha.mono hk2, h2.big, ih _ _ ⟨rfl, k + 1, _, _, _, by omega, fun q hq => hm q (by simp [hq]), (ha.sub h2).mono (by omega), e, rfl⟩⟩
        · rw [if_neg d] at e
          exact ih _ _ ⟨rfl, k + 1, _, _, _, by omega, fun q hq => hm q (by simp [hq]), ha.mono (by omega), e, rfl⟩
def sp_law_sorted : ZC := fun ds S Q => ∃ ls : List Ln, ds = [.d (lnsP ls)] ∧ ls.length ≤ 500 ∧ (∀ l ∈ ls, Big l.1 ∧ Big l.2) ∧ Q (.d (lnsP (Sg.sortL ls))) S
theorem sc_law_sorted : FnScope ["_law_lines", "_law_found", "_law_line", "_law_at", "_law_other"] ["_law_lines"] (defScope s_law_sorted) := ⟨rfl, rfl, rfl, by decide +kernel, rfl, by decide +kernel, by decide +kernel⟩
theorem C_law_sorted (T : Txt fa fn P K mg base) (C_law_is_ahead : Callee P w K mg base 2 "_law_is_ahead" 2 sp_law_is_ahead) : Callee P w K mg base 3 "_law_sorted" 1 sp_law_sorted :=
  callee T 122 128 (d := d_law_sorted) rfl rfl rfl rfl rfl (fun _ _ _ _ _ _ us hl => match us, hl with | [_], _ => rfl) sc_law_sorted (fun ds S Q h => by first | (obtain ⟨_, rfl, _⟩ := h; rfl) | (obtain ⟨_, _, rfl, _⟩ := h; rfl) | (obtain ⟨_, _, _, rfl, _⟩ := h; rfl) | (obtain ⟨_, _, _, _, rfl, _⟩ := h; rfl) | (obtain ⟨_, _, _, _, _, rfl, _⟩ := h; rfl) | (obtain ⟨_, _, _, _, _, _, rfl, _⟩ := h; rfl) | (obtain ⟨_, _, _, _, _, _, _, rfl, _⟩ := h; rfl) | (obtain ⟨_, _, _, _, _, _, _, _, rfl, _⟩ := h; rfl) | (obtain ⟨_, _, _, _, _, _, _, _, _, rfl, _⟩ := h; rfl) | (obtain ⟨_, _, _, _, _, _, _, _, _, _, rfl, _⟩ := h; rfl) | (obtain ⟨_, _, _, _, _, _, _, _, _, _, _, rfl, _⟩ := h; rfl) | (obtain ⟨_, _, _, _, _, _, _, _, _, _, _, _, rfl, _⟩ := h; rfl)) fun f cdv A outer s H hr => by
    have sc := sc_law_sorted
    refine ⟨_, (zss_cons (zs_set (i := 1) sc.nd rfl (Or.inl rfl) (ze_lst za_nil)) (zss_cons (zs_for PassesOwn.never rfl (zi_list (zv 0)) (zg_name (i := 2) sc.nd rfl (Or.inr rfl)) (zss_cons (zs_set (i := 3) sc.nd rfl (Or.inl rfl) (ze_callB zc_len (by rfl) (T.free_ 8 rfl) (by decide +kernel) (za_cons (ze_lc (own := [("_law_other", 4)]) gok_one rfl sc.nd (zi_list (zv 1)) (blkOk_by rfl) (fun _ _ _ _ _ => pg_name (i := 4) sc.nd rfl (Or.inl rfl)) (fun _ _ _ _ _ => zts_one (zb_val (ze_c1 C_law_is_ahead hr (za_cons (zv 4) (za_cons (zv 2) za_nil))))) (fun _ _ _ _ _ => (zv 4))) za_nil))) (zss_one (zs_set (i := 1) sc.nd rfl (Or.inl rfl) (ze_op zop_cat (ze_op zop_cat (ze_take (zv 1) (zv 3)) (ze_lst (za_cons (zv 2) za_nil))) (ze_drop (zv 1) (zv 3))))))) (zss_one (zs_ret (zv 1))))), fun ds S Q h => ?_⟩
    obtain ⟨ls, rfl, hn, hb, h⟩ := h
    refine zLoop_ind (α := Ln) (f := lnP) (fun m ρ S' => S' = S ∧ ∃ xs o2 o3 o4, m.foldl (Sg.putBy aheadB) xs = Sg.sortL ls ∧ xs.length + m.length ≤ 500 ∧ (∀ l ∈ xs, Big l.1 ∧ Big l.2) ∧ (∀ l ∈ m, Big l.1 ∧ Big l.2) ∧ ρ = [some (.d (lnsP ls)), some (.d (lnsP xs)), o2, o3, o4]) ?_ ?_ ls _ _ ⟨rfl, [], none, none, none, rfl, by simpa using hn, by simp, hb, rfl⟩
    · rintro ρ S' ⟨rfl, xs, o2, o3, o4, e, _, _, _, rfl⟩
      have e2 : xs = Sg.sortL ls := e
      rw [← e2] at h
      exact h
    · rintro a m ρ S' ⟨rfl, xs, o2, o3, o4, e, hl, hx, hm, rfl⟩ ih
      rw [List.length_cons] at hl
      have ha := hm a (by simp)
      rw [List.foldl_cons] at e
      have hfl := List.length_filter_le (fun q => aheadB q a) xs
      refine ⟨len1000 (by omega), zLcL_fm (f := lnP) (fun q => aheadB q a) lnP xs [] (fun q hq acc l' k1 k2 => ⟨q, a, rfl, hx q hq, ha, zboth k1 k2⟩) ?_⟩
      rw [List.nil_append]
      show Nat.ble (((xs.map lnP).take ((xs.filter fun q => aheadB q a).map lnP).length).length + 1) 1000 = true ∧ _
      refine ⟨Nat.ble_eq.mpr (by rw [List.length_take, List.length_map]; omega), Nat.ble_eq.mpr (by rw [List.length_append, List.length_take, List.length_drop, List.length_map, List.length_map]; simp; omega), ?_⟩
      have e3 : (xs.map lnP).take ((xs.filter fun q => aheadB q a).map lnP).length ++ [lnP a] ++ (xs.map lnP).drop ((xs.filter fun q => aheadB q a).map lnP).length = (Sg.putBy aheadB xs a).map lnP := by
        unfold Sg.putBy
        rw [List.map_append, List.map_append, List.map_take, List.map_drop, List.length_map]; rfl
      have bg : ∀ l ∈ Sg.putBy aheadB xs a, Big l.1 ∧ Big l.2 := fun l hl => by
        rcases Sg.putBy_mem.mp hl with z | z
        · rw [z]; exact ha
        · exact hx l z
      have pl : (Sg.putBy aheadB xs a).length = xs.length + 1 := by
        unfold Sg.putBy
        rw [List.length_append, List.length_append, List.length_take, List.length_drop]; simp; omega
      refine ih _ _ ⟨rfl, Sg.putBy aheadB xs a, _, _, _, e, by omega, bg, fun q hq => hm q (by simp [hq]), congrArg (fun z => [some (D.d (lnsP ls)), some (D.d (PyData.list z)), some (D.d (lnP a)), some (D.d (PyData.int ((xs.filter fun q => aheadB q a).map lnP).length)), o4]) e3⟩
def outP (q : Nat × Int) : PyData := .tuple [.int q.1, .int q.2]
def sp_law_outer : ZC := fun ds S Q => ∃ (ps : List Pt) (ls : List Ln), ds = [.d (ptsP ps), .d (lnsP ls)] ∧ ps.length ≤ 12 ∧ PsSz ps ∧ ls ≠ [] ∧ ls.length ≤ 500 ∧ (∀ l ∈ ls, LnSz l) ∧ ∀ fs : List (Nat × Int), fs.length ≤ ps.length → (∀ q ∈ fs, ∃ p, ps[q.1]? = some p ∧ (q.2 = 1 ∨ q.2 = -1) ∧ ∀ l ∈ ls, 0 < (q.2 : Rat) * rise p l) → Q (.d (.list (fs.map outP))) S
theorem sc_law_outer : FnScope ["_law_points_here", "_law_lines", "_law_found", "_law_k", "_law_point", "_law_tops", "_law_line"] ["_law_points_here", "_law_lines"] (defScope s_law_outer) := ⟨rfl, rfl, rfl, by decide +kernel, rfl, by decide +kernel, by decide +kernel⟩
theorem C_law_outer (T : Txt fa fn P K mg base) (C_law_rise : Callee P w K mg base 37 "_law_rise" 2 sp_law_rise) : Callee P w K mg base 38 "_law_outer" 2 sp_law_outer :=
  callee T 119 125 (d := d_law_outer) rfl rfl rfl rfl rfl (fun _ _ _ _ _ _ us hl => match us, hl with | [_, _], _ => rfl) sc_law_outer (fun ds S Q h => by first | (obtain ⟨_, rfl, _⟩ := h; rfl) | (obtain ⟨_, _, rfl, _⟩ := h; rfl) | (obtain ⟨_, _, _, rfl, _⟩ := h; rfl) | (obtain ⟨_, _, _, _, rfl, _⟩ := h; rfl) | (obtain ⟨_, _, _, _, _, rfl, _⟩ := h; rfl) | (obtain ⟨_, _, _, _, _, _, rfl, _⟩ := h; rfl) | (obtain ⟨_, _, _, _, _, _, _, rfl, _⟩ := h; rfl) | (obtain ⟨_, _, _, _, _, _, _, _, rfl, _⟩ := h; rfl) | (obtain ⟨_, _, _, _, _, _, _, _, _, rfl, _⟩ := h; rfl) | (obtain ⟨_, _, _, _, _, _, _, _, _, _, rfl, _⟩ := h; rfl) | (obtain ⟨_, _, _, _, _, _, _, _, _, _, _, rfl, _⟩ := h; rfl) | (obtain ⟨_, _, _, _, _, _, _, _, _, _, _, _, rfl, _⟩ := h; rfl)) fun f cdv A outer s H hr => by
    have sc := sc_law_outer
    refine ⟨_, (zss_cons (zs_set (i := 2) sc.nd rfl (Or.inl rfl) (ze_lstO za_nil)) (zss_cons (zs_for PassesOwn.never rfl (zi_enum (by rfl) (T.free_ 13 rfl) (za_cons (zv 0) za_nil)) (zg_tup (n := 2) rfl (zgs_cons (zg_name (i := 3) sc.nd rfl (Or.inl rfl)) (zgs_cons (zg_name (i := 4) sc.nd rfl (Or.inr rfl)) zgs_nil))) (zss_cons (zs_setLc (i := 5) (own := [("_law_line", 6)]) gok_one rfl sc.nd rfl rfl (sw_true rfl rfl rfl (by decide +kernel)) (zi_list (zv 1)) (blkOk_by rfl) (fun _ _ _ _ _ => pg_name (i := 6) sc.nd rfl (Or.inl rfl)) (fun _ _ _ _ _ => zts_nil) (fun _ _ _ _ _ => (ze_ix zix (ze_c1 C_law_rise hr (za_cons (zv 4) (za_cons (zv 6) za_nil))) ze_int))) (zss_one (zs_if (PW.pt (zw_or (zb_cmp zop_gt (ze_callB (zc_minL rfl) (by rfl) (T.free_ 7 rfl) (by decide +kernel) (za_cons (zv 5) za_nil)) ze_int (by rfl)) (zw_or1 (zb_cmp zop_lt (ze_callB (zc_maxL rfl) (by rfl) (T.free_ 0 rfl) (by decide +kernel) (za_cons (zv 5) za_nil)) ze_int (by rfl))))) (zss_one (zs_expr (ze_bm PySem.F.plainAttrs_list PySem.F.slot_list_append PySem.F.type_list_append zm_append (zv 2) (za_cons (ze_tup (za_cons (zv 3) (za_cons (ze_op zop_sub ze_int (ze_op zop_mul ze_int (ze_callTy zc_int1 (by rfl) (T.free_ 1 rfl) (by decide +kernel) (za_cons (ze_cmp zop_lt (ze_callB (zc_maxL rfl) (by rfl) (T.free_ 0 rfl) (by decide +kernel) (za_cons (zv 5) za_nil)) ze_int (by rfl)) za_nil)))) za_nil))) za_nil)))) zss_nil)))) (zss_one (zs_ret (ze_frz (zv 2)))))), fun ds S Q h => ?_⟩
    obtain ⟨ps, ls, rfl, hn, hp, hne, hl, hb, h⟩ := h
    refine fun p hS => ?_
    show zLoop _ _ _ ((ps.map ptP).zipIdx.map fun q => .tuple [.int q.2, q.1]) _ _
    rw [enumP]
    refine zLoop_ind (α := Pt × Nat) (f := fun q => .tuple [.int q.2, ptP q.1]) (fun m ρ S' => ∃ (fs : List (Nat × Int)) (o1 o2 o3 o4 : Option D), S' = S.put p (.lst (fs.map outP)) ∧ fs.length + m.length ≤ ps.length ∧ (∀ q ∈ m, ps[q.2]? = some q.1) ∧
      (∀ q ∈ fs, ∃ p, ps[q.1]? = some p ∧ (q.2 = 1 ∨ q.2 = -1) ∧ ∀ l ∈ ls, 0 < (q.2 : Rat) * rise p l) ∧ ρ = [some (.d (ptsP ps)), some (.d (lnsP ls)), some (.ref p), o1, o2, o3, o4]) ?_ ?_ ps.zipIdx _ _ ⟨[], none, none, none, none, rfl, by simp, fun q hq => ?_, by simp, rfl⟩
    · rintro ρ S' ⟨fs, o1, o2, o3, o4, rfl, hl2, _, hf, rfl⟩
      refine ⟨p, _, rfl, Sto.put_same, ?_⟩
      rw [Sto.put_del hS]
      exact h fs (by simpa using hl2) hf
    · rintro ⟨a, k⟩ m ρ S' ⟨fs, o1, o2, o3, o4, rfl, hl2, hm, hf, rfl⟩ ih
      rw [List.length_cons] at hl2
      have hk : ps[k]? = some a := hm (a, k) (by simp)
      have hs : PtSz a := hp a (List.mem_of_getElem? hk)
      have hpos : 0 < (ls.map fun l => (rise a l).num).length := by
        rw [List.length_map]
        exact List.length_pos_iff.mpr hne
      refine ⟨rfl, len1000 (by omega), zLcL_map (f := lnP) (fun l => PyData.int (rise a l).num) ls [] (fun l hlm acc l' kk => zyes rfl ⟨a, l, rfl, hs, hb l hlm, kk⟩) ?_⟩
      have hseen : ∀ S2 : Sto, Z.seen S2 (.d (.list ([] ++ ls.map fun l => PyData.int (rise a l).num))) = some (.list ((ls.map fun l => (rise a l).num).map PyData.int)) := fun S2 => by
        show some (PyData.list ([] ++ ls.map fun l => PyData.int (rise a l).num)) = _
        rw [List.map_map]; rfl
      have ex : ∀ {m : Int}, m ∈ (ls.map fun l => (rise a l).num) → ∃ l ∈ ls, (rise a l).num = m := fun h => List.mem_map.mp h
      have al : ∀ {l : Ln}, l ∈ ls → (rise a l).num ∈ ls.map fun l => (rise a l).num := fun h => List.mem_map_of_mem (f := fun l => (rise a l).num) h
      have key : ∀ v : Int, (v = 1 ∧ ∀ l ∈ ls, 0 < (rise a l).num) ∨ (v = -1 ∧ ∀ l ∈ ls, (rise a l).num < 0) → ∃ p, ps[k]? = some p ∧ (v = 1 ∨ v = -1) ∧ ∀ l ∈ ls, 0 < (v : Rat) * rise p l := fun v hv => by
        refine ⟨a, hk, by rcases hv with h | h <;> simp [h.1], fun l hl3 => ?_⟩
        rcases hv with ⟨rfl, h⟩ | ⟨rfl, h⟩
        · have := of_decide_eq_true ((num_pos (rise a l)).symm.trans (decide_eq_true (h l hl3)))
          show 0 < (1 : Rat) * rise a l
          grind
        · have := of_decide_eq_true ((num_neg (rise a l)).symm.trans (decide_eq_true (h l hl3)))
          show 0 < (-1 : Rat) * rise a l
          grind
      have mo : ∀ b : Bool, IntMulOk 2 (if b = true then 1 else 0) := fun b => by
        cases b
        · exact mulOk (A := 2) (B := 1) (by decide) (by decide) (by decide)
        · exact mulOk (A := 2) (B := 1) (by decide) (by decide) (by decide)
      have nxt : ∀ v : Int, ((v = 1 ∧ ∀ l ∈ ls, 0 < (rise a l).num) ∨ (v = -1 ∧ ∀ l ∈ ls, (rise a l).num < 0)) → ∀ q ∈ fs ++ [(k, v)], ∃ p, ps[q.1]? = some p ∧ (q.2 = 1 ∨ q.2 = -1) ∧ ∀ l ∈ ls, 0 < (q.2 : Rat) * rise p l := fun v hv q hq => by
        rcases List.mem_append.mp hq with z | z
        · exact hf q z
        · rw [List.mem_singleton.mp z]; exact key v hv
      refine ⟨_, ls.map fun l => (rise a l).num, rfl, hseen _, hpos, fun m0 n1 n2 => zif (fun c => zyes rfl ?_) (fun c => ⟨_, ls.map fun l => (rise a l).num, rfl, hseen _, hpos, fun m1 k1 k2 => zif (fun d => ?_) (fun d => ?_)⟩)⟩
      · refine ⟨⟨p, _, rfl, Sto.put_same⟩, _, ls.map fun l => (rise a l).num, rfl, hseen _, hpos, fun m2 j1 j2 => ⟨mo _, p, _, _, rfl, rfl, Sto.put_same, by rw [List.length_map]; omega, ?_⟩⟩
        rw [Sto.put_put]
        refine ih _ _ ⟨fs ++ [(k, 1 - 2 * (if decide (m2 < 0) = true then 1 else 0))], _, _, _, _, by rw [List.map_append]; rfl, by simp; omega, fun q hq => hm q (by simp [hq]), nxt _ (.inl ⟨?_, fun l hl3 => ?_⟩), rfl⟩
        · obtain ⟨l, hl3, e⟩ := ex j1
          have := n2 _ (al hl3)
          rw [decide_eq_false (by omega)]; rfl
        · have := n2 _ (al hl3)
          omega
      · refine ⟨⟨p, _, rfl, Sto.put_same⟩, _, ls.map fun l => (rise a l).num, rfl, hseen _, hpos, fun m2 j1 j2 => ⟨mo _, p, _, _, rfl, rfl, Sto.put_same, by rw [List.length_map]; omega, ?_⟩⟩
        rw [Sto.put_put]
        refine ih _ _ ⟨fs ++ [(k, 1 - 2 * (if decide (m2 < 0) = true then 1 else 0))], _, _, _, _, by rw [List.map_append]; rfl, by simp; omega, fun q hq => hm q (by simp [hq]), nxt _ (.inr ⟨?_, fun l hl3 => ?_⟩), rfl⟩
        · obtain ⟨l, hl3, e⟩ := ex j1
          have := k2 _ (al hl3)
          rw [decide_eq_true (by omega)]; rfl
        · have := k2 _ (al hl3)
          omega
      · exact ih _ _ ⟨fs, _, _, _, _, rfl, by omega, fun q hq => hm q (by simp [hq]), hf, rfl⟩
    · obtain ⟨q1, q2⟩ := q
      rw [List.mem_zipIdx_iff_getElem?] at hq
      exact hq
end
end Sl
set_option Elab.async false
set_option linter.all false
set_option maxRecDepth 100000
set_option maxHeartbeats 4000000
namespace Sl
open PySem PySem.Spec PyProof.Rows L2 Z
open Sg (Pt Ln PsOk PrOk Spread stand rise loS hiS phi aheadB allPairs cost IsPair Best)
theorem pAt_last {α : Type} {f : α → PyData} {r : List α} {z : α} : pAt ((r ++ [z]).map f) (-1) = some (f z) := by
  show (if 0 < ((r ++ [z]).map f).length then ((r ++ [z]).map f)[((r ++ [z]).map f).length - 1 - 0]? else none) = _
  rw [if_pos (by simp)]
  simp
theorem eqo_el (a b : Option Ln) : EqO (elP a) (elP b) (decide (a = b)) := by
  refine ⟨shaped_of 2 (lay_el a) (dep_el a), shaped_of 2 (lay_el b) (dep_el b), ?_⟩
  cases a with
  | none => cases b with
    | none => rfl
    | some b => simp [elP, PyData.eqv, lnP, prP]
  | some a => cases b with
    | none => simp [elP, PyData.eqv, lnP, prP]
    | some b =>
      show PyData.eqv (lnP a) (lnP b) = _
      rw [eqv_ln]; simp
section
variable {P : Program} {w : World} {K : PySem.W.Frag} {mg : Str → Option Value} {base : Heap}
def sp_law_told_right (C : Addr) : ZC := fun ds S Q => ∃ h q dx pr ps hist told, ds = [.ref h, .d (ptsP ps), .d (lnP pr), .d (lnsP told)] ∧ House S C h q dx pr ps told.getLast? hist ∧ Pts ps ∧ Prs pr ∧ Told ps pr told ∧ Q (.d (.bool true)) S
theorem sc_law_told_right : FnScope ["_law_house", "_law_points_here", "_law_prices", "_law_told"] ["_law_house", "_law_points_here", "_law_prices", "_law_told"] (defScope s_law_told_right) := ⟨rfl, rfl, rfl, by decide +kernel, rfl, by decide +kernel, by decide +kernel⟩
theorem C_law_told_right (T : Txt fa fn P K mg base) (C_m_points : CalleeM P w K mg base 1 (He.ga K "Kept") (He.ma K (He.ga K "Kept") "points") 1 (sp_m_points (He.ga K "Kept"))) (C_is_best : Callee P w K mg base 41 "is_best" 3 sp_is_best) (C_law_spread : Callee P w K mg base 1 "_law_spread" 1 sp_law_spread) (C_is_road : Callee P w K mg base 42 "is_road" 3 sp_is_road) (C_m_line : CalleeM P w K mg base 1 (He.ga K "Kept") (He.ma K (He.ga K "Kept") "line") 1 (sp_m_line (He.ga K "Kept"))) (C_pair_lines : Callee P w K mg base 38 "pair_lines" 1 sp_pair_lines) : Callee P w K mg base 45 "_law_told_right" 4 (sp_law_told_right (He.ga K "Kept")) :=
  callee T 118 124 (d := d_law_told_right) rfl rfl rfl rfl rfl (fun _ _ _ _ _ _ us hl => match us, hl with | [_, _, _, _], _ => rfl) sc_law_told_right (fun ds S Q h => by first | (obtain ⟨_, rfl, _⟩ := h; rfl) | (obtain ⟨_, _, rfl, _⟩ := h; rfl) | (obtain ⟨_, _, _, rfl, _⟩ := h; rfl) | (obtain ⟨_, _, _, _, rfl, _⟩ := h; rfl) | (obtain ⟨_, _, _, _, _, rfl, _⟩ := h; rfl) | (obtain ⟨_, _, _, _, _, _, rfl, _⟩ := h; rfl) | (obtain ⟨_, _, _, _, _, _, _, rfl, _⟩ := h; rfl) | (obtain ⟨_, _, _, _, _, _, _, _, rfl, _⟩ := h; rfl) | (obtain ⟨_, _, _, _, _, _, _, _, _, rfl, _⟩ := h; rfl) | (obtain ⟨_, _, _, _, _, _, _, _, _, _, rfl, _⟩ := h; rfl) | (obtain ⟨_, _, _, _, _, _, _, _, _, _, _, rfl, _⟩ := h; rfl) | (obtain ⟨_, _, _, _, _, _, _, _, _, _, _, _, rfl, _⟩ := h; rfl)) fun f cdv A outer s H hr => by
    have sc := sc_law_told_right
    refine ⟨_, (zss_cons (zs_if (zb_cmp (zop_ne (Roomu hr 64)) (ze_methC0 (T.cls_ 138 rfl) (T.meth_ 141 rfl) C_m_points hr (zv 0)) (zv 1) (by rfl)) (zss_one (zs_ret ze_bl)) zss_nil) (zss_cons (zs_if (PW.pt (zw_or (zb_cmp (zop_eq (Roomu hr 64)) (zv 1) (ze_lst za_nil) (by rfl)) (zw_or1 (zb_not (zb_val (ze_c1 C_law_spread hr (za_cons (zv 1) za_nil))))))) (zss_one (zs_ret (ze_and (ze_cmp (zop_eq (Roomu hr 64)) (zv 3) (ze_lst za_nil) (by rfl)) (ze_one (ze_cmp zop_is (ze_methC0 (T.cls_ 138 rfl) (T.meth_ 142 rfl) C_m_line hr (zv 0)) ze_non (by rfl)))))) zss_nil) (zss_cons (zs_if (PW.pt (zw_or (zb_not (zb_val (ze_c1 C_is_road hr (za_cons (zv 1) (za_cons (zv 2) (za_cons (zv 3) za_nil)))))) (zw_or1 (zb_cmp (zop_ne (Roomu hr 64)) (ze_methC0 (T.cls_ 138 rfl) (T.meth_ 142 rfl) C_m_line hr (zv 0)) (ze_ix zix (zv 3) (ze_neg ze_int)) (by rfl))))) (zss_one (zs_ret ze_bl)) zss_nil) (zss_one (zs_ret (ze_and (ze_c1 C_is_best hr (za_cons (zv 1) (za_cons (zv 2) (za_cons (ze_methC0 (T.cls_ 138 rfl) (T.meth_ 142 rfl) C_m_line hr (zv 0)) za_nil)))) (ze_one (ze_cmp (zop_in (Roomu hr 65)) (ze_ix zix (zv 3) ze_int) (ze_c1 C_pair_lines hr (za_cons (zv 1) za_nil)) (by rfl))))))))), fun ds S Q h => ?_⟩
    obtain ⟨o, q, dx, pr, ps, hist, told, rfl, H, hp, hr2, ht, h⟩ := h
    refine ⟨o, dx, _, rfl, H.sh, rfl, o, q, dx, pr, ps, _, hist, rfl, H, _, eqo_pts ps ps, zno (by simp) ⟨_, eqo_pts ps [], zno (decide_eq_false hp.ne) ⟨ps, rfl, hp.ne, hp.le, ?_⟩⟩⟩
    rcases ht with ⟨ns, rfl⟩ | ⟨sp, l, r, z, rfl, R, hl⟩
    · refine zyes (by cases e : spreadB ps with | false => rfl | true => exact absurd ((spreadB_iff ps).mp e) ns) ⟨_, eqo_lns [] [], zyes (by simp) ⟨o, dx, _, rfl, H.sh, rfl, o, q, dx, pr, ps, _, hist, rfl, H, h⟩⟩
    · have e : (r ++ [z]).getLast? = some z := by simp
      rw [e] at H
      have hb := road_best hr2.2 hp.ok R
      have hc := (best_iff hr2.2 hp.ok sp z).mp hb
      have hz := allPairs_sz hp.sz (R.mem z (by simp))
      refine zno (by rw [(spreadB_iff ps).mpr sp]; rfl) ⟨ps, pr, l, r, z, rfl, ⟨hp, sp⟩, hr2, R, zno (by rw [decide_eq_true hc]; rfl) ⟨o, dx, _, rfl, H.sh, rfl, o, q, dx, pr, ps, _, hist, rfl, H, ?_⟩⟩
      dsimp only [zstart, List.map, List.length_cons, List.length_nil, Nat.reduceAdd, Nat.reduceSub, List.reduceReplicate, List.cons_append, List.nil_append, List.append_nil, List.set_cons_succ, List.set_cons_zero]
      dsimp only [zAsgG, zDPut, zwipe, zNeg, List.map_cons, List.map_nil, ztAnd, ztOr, ztNot, ztB, zOp, zCall, zaCons, zaNil, zV, zC, zgName, zgTup, zgsN, zgCons, zgNil, zSeq, zAsg, zIfS, zRet, zDrop_, zNext, List.getElem?_cons_succ, List.getElem?_cons_zero, List.set_cons_succ, List.set_cons_zero]
      refine zIx_l (i := -1) (d := lnP z) pAt_last ?_
      refine ⟨_, eqo_el (some z) (some z), zno (by simp) ⟨o, dx, _, rfl, H.sh, rfl, o, q, dx, pr, ps, _, hist, rfl, H, ps, pr, z, rfl, ⟨hp, sp⟩, hr2, hz, zyes (decide_eq_true hc) ?_⟩⟩
      have e0 : pAt ((r ++ [z]).map lnP) 0 = some (lnP l) := by
        have k := R.head
        rw [List.head?_eq_getElem?] at k
        exact pAt_nat (k := 0) k
      show zOp zIn (zOp zIx (zV 3) (zC (PyData.int 0))) _ [some (.ref o), some (.d (ptsP ps)), some (.d (lnP pr)), some (.d (lnsP (r ++ [z])))] S Q
      dsimp only [zAsgG, zDPut, zwipe, zNeg, List.map_cons, List.map_nil, ztAnd, ztOr, ztNot, ztB, zOp, zCall, zaCons, zaNil, zV, zC, zgName, zgTup, zgsN, zgCons, zgNil, zSeq, zAsg, zIfS, zRet, zDrop_, zNext, List.getElem?_cons_succ, List.getElem?_cons_zero, List.set_cons_succ, List.set_cons_zero]
      refine zIx_l (i := 0) (d := lnP l) e0 ?_
      refine ⟨ps, rfl, ⟨hp, sp⟩, _, ino_ln l (allPairs ps), ?_⟩
      rw [decide_eq_true hl]
      exact h
end
end Sl
set_option Elab.async false
set_option linter.all false
set_option maxRecDepth 100000
set_option maxHeartbeats 4000000
namespace Sl
open PySem PySem.Spec PyProof.Rows L2 Z
open Sg (Pt Ln PsOk PrOk Spread stand rise loS hiS phi allPairs cost IsPair Best tot)
/-! ### short points, what they become -/
theorem PzN.mono {A B : Nat} {ps : List Pt} (h : PzN A ps) (ha : A ≤ B) : PzN B ps := fun p hp => let ⟨a, b, c⟩ := h p hp; ⟨a.mono ha, b.mono ha, c.mono ha⟩
theorem Spread.ne {ps : List Pt} (h : Spread ps) : ps ≠ [] := let ⟨_, ha, _⟩ := h; List.ne_nil_of_mem ha
theorem Spread.two {ps : List Pt} (h : Spread ps) : 2 ≤ ps.length := by
  obtain ⟨a, ha, b, hb, n⟩ := h
  match ps, ha, hb with
  | [c], ha, hb => rw [List.mem_singleton.mp ha, List.mem_singleton.mp hb] at n; exact absurd rfl n
  | _ :: _ :: _, _, _ => simp
theorem Shrt.pts {ps : List Pt} (h : Shrt ps) : Pts ps := ⟨Spread.ne h.sp, by have := h.le; omega, h.sz.sz, h.ok⟩
theorem Shrt.sps {ps : List Pt} (h : Shrt ps) : Sps ps := ⟨h.pts, h.sp⟩
theorem split_at {ps : List Pt} {k : Nat} {p : Pt} (h : ps[k]? = some p) : ps = ps.take k ++ p :: ps.drop (k + 1) := by
  obtain ⟨hk, e⟩ := List.getElem?_eq_some_iff.mp h
  rw [← e, ← List.drop_eq_getElem_cons hk, List.take_append_drop]
theorem mem_mid {α : Type} {a b c : α} {pre suf : List α} (h : a ∈ pre ++ [b] ++ suf) : a = b ∨ a ∈ pre ++ c :: suf := by
  simp at h ⊢; grind
theorem spread_mid {pre suf : List Pt} {p p' : Pt} (hx : p'.x = p.x) (h : Spread (pre ++ p :: suf)) : Spread (pre ++ [p'] ++ suf) := by
  have go : ∀ a ∈ pre ++ p :: suf, ∃ a' ∈ pre ++ [p'] ++ suf, a'.x = a.x := fun a ha => by
    rcases List.mem_append.mp ha with z | z
    · exact ⟨a, by simp [z], rfl⟩
    · rcases List.mem_cons.mp z with rfl | z
      · exact ⟨p', by simp, hx⟩
      · exact ⟨a, by simp [z], rfl⟩
  obtain ⟨a, ha, b, hb, n⟩ := h
  obtain ⟨a', h1, e1⟩ := go a ha
  obtain ⟨b', h2, e2⟩ := go b hb
  exact ⟨a', h1, b', h2, by rw [e1, e2]; exact n⟩
/-- a point farther out: the corners, the best lines stay -/
theorem out_stays {ps : List Pt} {k : Nat} {p p' : Pt} {pr : Ln} {sg : Rat} (hk : ps[k]? = some p) (hp : PrOk pr) (ho : PsOk ps) (hs : Spread ps) (hx : p'.x = p.x) (hw : p'.w = p.w) (hsg : sg = 1 ∨ sg = -1) (hout : 0 < sg * (p'.y - p.y))
    (hc : ∀ l ∈ corners ps pr, 0 < sg * rise p l) :
    Spread (ps.take k ++ [p'] ++ ps.drop (k + 1)) ∧ PsOk (ps.take k ++ [p'] ++ ps.drop (k + 1)) ∧ corners (ps.take k ++ [p'] ++ ps.drop (k + 1)) pr = corners ps pr ∧ ∀ z, IsPair ps z → Best ps pr z → Best (ps.take k ++ [p'] ++ ps.drop (k + 1)) pr z := by
  have e := split_at hk
  generalize ps.take k = pre at *
  generalize ps.drop (k + 1) = suf at *
  subst e
  have hs2 := spread_mid hx hs
  have ho2 : PsOk (pre ++ [p'] ++ suf) := fun q hq => by
    rcases mem_mid (c := p) hq with z | z
    · rw [z, hw]; exact ho p (by simp)
    · exact ho q z
  have hcor : ∀ l, IsPair (pre ++ p :: suf) l → Best (pre ++ p :: suf) pr l → 0 < sg * rise p l := fun l h1 h2 => hc l ((corners_mem hp ho hs l).mpr ⟨h1, h2⟩)
  have out := Sg.outward (p' := p') hp ho hs hx hw hsg hout hcor
  have e2 : pre ++ p' :: suf = pre ++ [p'] ++ suf := by simp
  rw [e2] at out
  refine ⟨hs2, ho2, Sg.Sorted.ext (corners_sorted _ _) (corners_sorted _ _) fun m => ?_, fun z h1 h2 => ((out z).mpr ⟨h1, h2⟩).2⟩
  rw [corners_mem hp ho2 hs2, corners_mem hp ho hs]
  exact out m
/-- a point put on a best line: the least cost stays -/
theorem put_stays {ps : List Pt} {pr : Ln} {p : Pt} {z : Ln} (hp : PrOk pr) (ho : PsOk ps) (hs : Spread ps) (hw : 0 < p.w) (hr : rise p z = 0) (hb : Best ps pr z) :
    Spread (ps ++ [p]) ∧ PsOk (ps ++ [p]) ∧ Best (ps ++ [p]) pr z ∧ leastC (ps ++ [p]) pr = leastC ps pr := by
  have hs2 : Spread (ps ++ [p]) := let ⟨a, ha, b, hb, n⟩ := hs; ⟨a, by simp [ha], b, by simp [hb], n⟩
  have ho2 : PsOk (ps ++ [p]) := fun q hq => by
    rcases List.mem_append.mp hq with z | z
    · exact ho q z
    · rw [List.mem_singleton.mp z]; exact hw
  have hb2 := Sg.best_on hp hw hr hb
  refine ⟨hs2, ho2, hb2, ?_⟩
  rw [← (best_iff hp ho2 hs2 z).mp hb2, ← (best_iff hp ho hs z).mp hb, Sg.cost_on hr]
/-- lines through short points are short -/
theorem pair_short {A : Nat} {ps : List Pt} (h : PzN A ps) {l : Ln} (hl : IsPair ps l) : Sz (A + (4 * A + 2) + A + 1) l.1 ∧ Sz (4 * A + 2) l.2 := by
  obtain ⟨a, ha, b, hb, n, r1, r2⟩ := hl
  obtain ⟨a1, a2, _⟩ := h a ha
  obtain ⟨b1, b2, _⟩ := h b hb
  have e := Sg.through_eq n r1 r2
  have hs : Sz (4 * A + 2) ((b.y - a.y) / (b.x - a.x)) := ((b2.sub a2).div (b1.sub a1) (by grind)).mono (by omega)
  rw [← e]
  exact ⟨(a2.sub (hs.mul a1)).mono (by omega), hs⟩
theorem House.ext {S S' : Sto} {C h q dx : Addr} {pr : Ln} {ps : List Pt} {el : Option Ln} {hist : List Deed} (H : House S C h q dx pr ps el hist) (e : Ext S S') : House S' C h q dx pr ps el hist := ⟨e _ _ H.sh, e _ _ H.sq, H.ne⟩
theorem House.at {S S' : Sto} {C h q dx : Addr} {pr : Ln} {ps : List Pt} {el : Option Ln} {hist : List Deed} (H : House S C h q dx pr ps el hist) (e1 : S' h = S h) (e2 : S' q = S q) : House S' C h q dx pr ps el hist := ⟨e1.trans H.sh, e2.trans H.sq, H.ne⟩
theorem House.but {S S' : Sto} {t C h q dx : Addr} {pr : Ln} {ps : List Pt} {el : Option Ln} {hist : List Deed} (H : House S C h q dx pr ps el hist) (b : But t S S') (h1 : t ≠ h) (h2 : t ≠ q) : House S' C h q dx pr ps el hist := H.at (b.2 h (Ne.symm h1)) (b.2 q (Ne.symm h2))
theorem Pot.ext {S S' : Sto} {t : Addr} (h : Pot S t) (e : Ext S S') : Pot S' t := let ⟨a, b, q, r⟩ := h; ⟨a, b, e _ _ q, r⟩
theorem Pot.frame {S S' : Sto} {t h q : Addr} (p : Pot S t) (f : Frame h q S S') (h1 : t ≠ h) (h2 : t ≠ q) : Pot S' t := let ⟨a, b, k, r⟩ := p; ⟨a, b, (f t h1 h2).trans k, r⟩
end Sl
set_option Elab.async false
set_option linter.all false
set_option maxRecDepth 100000
set_option maxHeartbeats 4000000
namespace Sl
open PySem PySem.Spec PyProof.Rows L2 Z
open Sg (Pt Ln PsOk PrOk Spread stand rise loS hiS phi aheadB allPairs cost IsPair Best)
theorem lay_out (q : Nat × Int) : (outP q).canLay0 = true := by simp [outP, PyData.canLay0, PyData.canLayAll0]
theorem dep_out (q : Nat × Int) : (outP q).depth ≤ 1 := by simp [outP, PyData.depth, PyData.depthAll]
theorem eqv_out (p q : Nat × Int) : PyData.eqv (outP p) (outP q) = decide (p = q) := by
  have e : PyData.eqv (outP p) (outP q) = (((p.1 : Int) == (q.1 : Int)) && ((p.2 == q.2) && true)) := by simp only [outP, PyData.eqv, PyData.eqvAll]
  rw [e]
  obtain ⟨a, b⟩ := p
  obtain ⟨c, d⟩ := q
  by_cases h1 : a = c <;> by_cases h2 : b = d <;> simp [h1, h2] <;> omega
theorem eqo_outs (l m : List (Nat × Int)) : EqO (.list (l.map outP)) (.list (m.map outP)) (decide (l = m)) := eqo_list outP 1 lay_out dep_out (by decide) eqv_out l m
section
variable {P : Program} {w : World} {K : PySem.W.Frag} {mg : Str → Option Value} {base : Heap}
/-- the pot, the house with its points and a best line: all as ahead -/
def Stays (C t h q dx : Addr) (pr : Ln) (ps : List Pt) (z : Ln) (hist : List Deed) (S : Sto) (Q : D → Sto → Prop) : Prop :=
  Pot S t ∧ House S C h q dx pr ps (some z) hist ∧ t ≠ h ∧ t ≠ q ∧ Shrt ps ∧ Prs pr ∧ IsPair ps z ∧ Best ps pr z ∧ hist.length < 50 ∧ ∀ S', Pot S' t → House S' C h q dx pr ps (some z) hist → Q (.d (.bool true)) S'
def sp_law_outward (C : Addr) : ZC := fun ds S Q => ∃ t h q dx pr ps z hist, ds = [.ref t, .ref h, .d (ptsP ps), .d (lnP pr)] ∧ Stays C t h q dx pr ps z hist S Q
theorem sc_law_outward : FnScope ["_law_pot_here", "_law_house", "_law_points_here", "_law_prices", "_law_lines", "_law_line", "_law_some_here", "_law_k", "_law_sign", "_law_x", "_law_y", "_law_weight", "_law_moved", "_law_after", "_law_told"] ["_law_pot_here", "_law_house", "_law_points_here", "_law_prices"] (defScope s_law_outward) := ⟨rfl, rfl, rfl, by decide +kernel, rfl, by decide +kernel, by decide +kernel⟩
theorem C_law_outward (T : Txt fa fn P K mg base) (C_law_outer : Callee P w K mg base 38 "_law_outer" 2 sp_law_outer) (C_m_move : CalleeM P w K mg base 44 (He.ga K "Kept") (He.ma K (He.ga K "Kept") "move") 5 (sp_m_move (He.ga K "Kept"))) (C_m_undo : CalleeM P w K mg base 1 (He.ga K "Kept") (He.ma K (He.ga K "Kept") "undo") 1 (sp_m_undo (He.ga K "Kept"))) (C_corners : Callee P w K mg base 41 "corners" 2 sp_corners) (C_m_line : CalleeM P w K mg base 1 (He.ga K "Kept") (He.ma K (He.ga K "Kept") "line") 1 (sp_m_line (He.ga K "Kept"))) (C_law_draw : Callee P w K mg base 1 "_law_draw" 2 sp_law_draw) (C_law_plus : Callee P w K mg base 35 "_law_plus" 2 sp_law_plus) (C_law_times : Callee P w K mg base 35 "_law_times" 2 sp_law_times) (C_law_told_right : Callee P w K mg base 45 "_law_told_right" 4 (sp_law_told_right (He.ga K "Kept"))) (C_is_best : Callee P w K mg base 41 "is_best" 3 sp_is_best) (C_fit : Callee P w K mg base 39 "fit" 4 sp_fit) (C_m_points : CalleeM P w K mg base 1 (He.ga K "Kept") (He.ma K (He.ga K "Kept") "points") 1 (sp_m_points (He.ga K "Kept"))) (C_law_some : Callee P w K mg base 35 "_law_some" 1 sp_law_some) (C_best_signs : Callee P w K mg base 42 "best_signs" 2 sp_best_signs) : Callee P w K mg base 46 "_law_outward" 4 (sp_law_outward (He.ga K "Kept")) :=
  callee T 120 126 (d := d_law_outward) rfl rfl rfl rfl rfl (fun _ _ _ _ _ _ us hl => match us, hl with | [_, _, _, _], _ => rfl) sc_law_outward (fun ds S Q h => by first | (obtain ⟨_, rfl, _⟩ := h; rfl) | (obtain ⟨_, _, rfl, _⟩ := h; rfl) | (obtain ⟨_, _, _, rfl, _⟩ := h; rfl) | (obtain ⟨_, _, _, _, rfl, _⟩ := h; rfl) | (obtain ⟨_, _, _, _, _, rfl, _⟩ := h; rfl) | (obtain ⟨_, _, _, _, _, _, rfl, _⟩ := h; rfl) | (obtain ⟨_, _, _, _, _, _, _, rfl, _⟩ := h; rfl) | (obtain ⟨_, _, _, _, _, _, _, _, rfl, _⟩ := h; rfl) | (obtain ⟨_, _, _, _, _, _, _, _, _, rfl, _⟩ := h; rfl) | (obtain ⟨_, _, _, _, _, _, _, _, _, _, rfl, _⟩ := h; rfl) | (obtain ⟨_, _, _, _, _, _, _, _, _, _, _, rfl, _⟩ := h; rfl) | (obtain ⟨_, _, _, _, _, _, _, _, _, _, _, _, rfl, _⟩ := h; rfl)) fun f cdv A outer s H hr => by
    have sc := sc_law_outward
    refine ⟨_, (zss_cons (zs_par rfl sc.nd (i := 4) (j := 5) rfl rfl (by decide) rfl rfl (za_cons (ze_c1 C_corners hr (za_cons (zv 2) (za_cons (zv 3) za_nil))) (za_cons (ze_methC0 (T.cls_ 138 rfl) (T.meth_ 142 rfl) C_m_line hr (zv 1)) za_nil))) (zss_cons (zs_set (i := 6) sc.nd rfl (Or.inl rfl) (ze_c1 C_law_outer hr (za_cons (zv 2) (za_cons (zv 4) za_nil)))) (zss_cons (zs_if (zb_cmp (zop_eq (Roomu hr 64)) (zv 6) (ze_lst za_nil) (by rfl)) (zss_one (zs_ret ze_bl)) zss_nil) (zss_cons (zs_asg (ze_ix zix (zv 6) (ze_c1 C_law_draw hr (za_cons (zv 0) (za_cons (ze_callB zc_len (by rfl) (T.free_ 8 rfl) (by decide +kernel) (za_cons (zv 6) za_nil)) za_nil)))) (zg_tup (n := 2) rfl (zgs_cons (zg_name (i := 7) sc.nd rfl (Or.inl rfl)) (zgs_cons (zg_name (i := 8) sc.nd rfl (Or.inl rfl)) zgs_nil)))) (zss_cons (zs_asg (ze_ix zix (zv 2) (zv 7)) (zg_tup (n := 3) rfl (zgs_cons (zg_name (i := 9) sc.nd rfl (Or.inl rfl)) (zgs_cons (zg_name (i := 10) sc.nd rfl (Or.inl rfl)) (zgs_cons (zg_name (i := 11) sc.nd rfl (Or.inl rfl)) zgs_nil))))) (zss_cons (zs_set (i := 12) sc.nd rfl (Or.inl rfl) (ze_tup (za_cons (zv 9) (za_cons (ze_c1 C_law_plus hr (za_cons (zv 10) (za_cons (ze_c1 C_law_times hr (za_cons (ze_tup (za_cons (zv 8) (za_cons ze_int za_nil))) (za_cons (ze_c1 C_law_some hr (za_cons (zv 0) za_nil)) za_nil))) za_nil))) (za_cons (zv 11) za_nil))))) (zss_cons (zs_set (i := 13) sc.nd rfl (Or.inl rfl) (ze_op zop_cat (ze_op zop_cat (ze_take (zv 2) (zv 7)) (ze_lst (za_cons (zv 12) za_nil))) (ze_drop (zv 2) (ze_op zop_add (zv 7) ze_int)))) (zss_cons (zs_set (i := 14) sc.nd rfl (Or.inl rfl) (ze_methC (T.cls_ 138 rfl) (T.meth_ 147 rfl) C_m_move hr (zv 1) (za_cons (zv 7) (za_cons (ze_ix zix (zv 12) ze_int) (za_cons (ze_ix zix (zv 12) ze_int) (za_cons (ze_ix zix (zv 12) ze_int) za_nil)))))) (zss_cons (zs_if (PW.pt (zw_or (zb_not (zb_val (ze_c1 C_law_told_right hr (za_cons (zv 1) (za_cons (zv 13) (za_cons (zv 3) (za_cons (zv 14) za_nil))))))) (zw_or1 (zb_not (zb_val (ze_c1 C_is_best hr (za_cons (zv 13) (za_cons (zv 3) (za_cons (zv 5) za_nil))))))))) (zss_one (zs_ret ze_bl)) zss_nil) (zss_cons (zs_if (PW.pt (zw_or (zb_cmp (zop_ne (Roomu hr 64)) (ze_c1 C_corners hr (za_cons (zv 13) (za_cons (zv 3) za_nil))) (zv 4) (by rfl)) (zw_or1 (zb_not (zb_val (ze_c1 C_fit hr (za_cons (zv 13) (za_cons (zv 3) (za_cons (zv 5) (za_cons (ze_c1 C_best_signs hr (za_cons (zv 13) (za_cons (zv 3) za_nil))) za_nil)))))))))) (zss_one (zs_ret ze_bl)) zss_nil) (zss_cons (zs_expr (ze_methC0 (T.cls_ 138 rfl) (T.meth_ 148 rfl) C_m_undo hr (zv 1))) (zss_one (zs_ret (ze_and (ze_cmp (zop_eq (Roomu hr 64)) (ze_methC0 (T.cls_ 138 rfl) (T.meth_ 141 rfl) C_m_points hr (zv 1)) (zv 2) (by rfl)) (ze_one (ze_cmp (zop_eq (Roomu hr 64)) (ze_methC0 (T.cls_ 138 rfl) (T.meth_ 142 rfl) C_m_line hr (zv 1)) (zv 5) (by rfl))))))))))))))))), fun ds S Q h => ?_⟩
    obtain ⟨t, o, q, dx, pr, ps, z, hist, rfl, hS, H, hto, htq, sh, hr2, hz1, hz2, hh, h⟩ := h
    have hp := sh.pts
    have hzs := pair_sz hp.sz hz1
    have hcl : ∀ l ∈ corners ps pr, LnSz l := fun l hl => pair_sz hp.sz ((corners_mem hr2.2 hp.ok sh.sp l).mp hl).1
    have hcn : (corners ps pr).length ≤ 500 := Nat.le_trans (List.length_filter_le _ _) (Nat.le_trans (all_len hp.le) (by decide))
    refine ⟨ps, pr, rfl, sh.sps, hr2, o, dx, _, rfl, H.sh, rfl, o, q, dx, pr, ps, _, hist, rfl, H, ?_⟩
    refine ⟨ps, corners ps pr, rfl, hp.le, hp.sz, corners_ne hr2.2 hp.ok sh.sp, hcn, hcl, fun fs hf1 hf2 => ?_⟩
    refine ⟨_, eqo_outs fs [], zif (fun c => h S hS H) (fun c => ?_)⟩
    have hfl : 0 < fs.length := by
      have : fs.length ≠ 0 := fun e => c (List.eq_nil_of_length_eq_zero e)
      omega
    have hle := sh.le
    dsimp only [zstart, List.map, List.length_cons, List.length_nil, Nat.reduceAdd, Nat.reduceSub, List.reduceReplicate, List.cons_append, List.nil_append, List.append_nil, List.set_cons_succ, List.set_cons_zero]
    dsimp only [zTup, zAsgG, zDPut, zwipe, zNeg, List.map_cons, List.map_nil, ztAnd, ztOr, ztNot, ztB, zOp, zCall, zaCons, zaNil, zV, zC, zgName, zgTup, zgsN, zgCons, zgNil, zSeq, zAsg, zIfS, zRet, zDrop_, zNext, List.getElem?_cons_succ, List.getElem?_cons_zero, List.set_cons_succ, List.set_cons_zero]
    refine ⟨t, _, rfl, hS, by rw [List.length_map]; omega, by rw [List.length_map]; omega, fun v S1 v0 v1 b1 => ?_⟩
    rw [List.length_map] at v1
    obtain ⟨v, rfl⟩ := Int.eq_ofNat_of_zero_le v0
    have v2 : v < fs.length := by omega
    obtain ⟨p, hk, hsg, hcs⟩ := hf2 fs[v] (List.getElem_mem v2)
    have hel := List.getElem?_eq_getElem v2
    generalize fs[v] = e at hk hsg hcs hel
    obtain ⟨k, sg⟩ := e
    dsimp only at hk hsg hcs
    refine zIx_l (pAt_nat hel) ?_
    refine ⟨rfl, ?_⟩
    dsimp only [zTup, zAsgG, zDPut, zwipe, zNeg, List.map_cons, List.map_nil, ztAnd, ztOr, ztNot, ztB, zOp, zCall, zaCons, zaNil, zV, zC, zgName, zgTup, zgsN, zgCons, zgNil, zSeq, zAsg, zIfS, zRet, zDrop_, zNext, List.getElem?_cons_succ, List.getElem?_cons_zero, List.set_cons_succ, List.set_cons_zero]
    refine zIx_l (pAt_nat hk) ?_
    refine ⟨rfl, ?_⟩
    dsimp only [zTup, zAsgG, zDPut, zwipe, zNeg, List.map_cons, List.map_nil, ztAnd, ztOr, ztNot, ztB, zOp, zCall, zaCons, zaNil, zV, zC, zgName, zgTup, zgsN, zgCons, zgNil, zSeq, zAsg, zIfS, zRet, zDrop_, zNext, List.getElem?_cons_succ, List.getElem?_cons_zero, List.set_cons_succ, List.set_cons_zero]
    have hps := sh.sz p (List.mem_of_getElem? hk)
    have hkl : k < ps.length := (List.getElem?_eq_some_iff.mp hk).1
    refine ⟨t, rfl, b1.1, fun u S2 hu u0 b2 => ?_⟩
    have hsz : Sz 1 (sg : Rat) := by rcases hsg with rfl | rfl <;> exact ⟨by decide, by decide⟩
    have hy := hps.2.1.add (hsz.mul hu)
    refine ⟨(sg : Rat), u, rfl, hsz.big, hu.big, p.y, _, rfl, hps.2.1.big, (hsz.mul hu).big, ?_⟩
    refine ⟨Nat.ble_eq.mpr (by rw [List.length_take, List.length_map]; simp; omega), Nat.ble_eq.mpr (by rw [List.length_append, List.length_take, List.length_drop, List.length_map]; simp; omega), ?_⟩
    have hb := b1.trans b2
    have H2 := H.but hb hto htq
    generalize hp' : (⟨p.x, p.y + (sg : Rat) * u, p.w⟩ : Pt) = p'
    have e3 : List.take k (List.map ptP ps) ++ [PyData.tuple [frP p.x, frP (p.y + (sg : Rat) * u), frP p.w]] ++ List.drop (k + 1) (List.map ptP ps) = (ps.take k ++ [p'] ++ ps.drop (k + 1)).map ptP := by
      subst hp'
      rw [List.map_append, List.map_append, List.map_take, List.map_drop]; rfl
    have e4 : (PyData.tuple [frP p.x, frP (p.y + (sg : Rat) * u), frP p.w]) = .tuple [frP p'.x, frP p'.y, frP p'.w] := by subst hp'; rfl
    have hsr : (sg : Rat) = 1 ∨ (sg : Rat) = -1 := by rcases hsg with rfl | rfl <;> simp
    have hx : p'.x = p.x := by subst hp'; rfl
    have hw : p'.w = p.w := by subst hp'; rfl
    have hyy : p'.y = p.y + (sg : Rat) * u := by subst hp'; rfl
    obtain ⟨as, ao, ac, ab⟩ := out_stays hk hr2.2 hp.ok sh.sp hx hw hsr (by rw [hyy]; rcases hsr with q | q <;> rw [q] <;> grind) hcs
    have asz : PzN 40 (ps.take k ++ [p'] ++ ps.drop (k + 1)) := fun q hq => by
      rcases mem_mid (c := p) hq with y | y
      · rw [y, hx, hw, hyy]; exact ⟨hps.1.mono (by decide), hy.mono (by decide), hps.2.2.mono (by decide)⟩
      · rw [← split_at hk] at y
        obtain ⟨a1, a2, a3⟩ := sh.sz q y
        exact ⟨a1.mono (by decide), a2.mono (by decide), a3.mono (by decide)⟩
    have ale : (ps.take k ++ [p'] ++ ps.drop (k + 1)).length ≤ 8 := by
      rw [List.length_append, List.length_append, List.length_take, List.length_drop]; simp; omega
    have ap : Pts (ps.take k ++ [p'] ++ ps.drop (k + 1)) := ⟨Spread.ne as, by omega, asz.sz, ao⟩
    have az := ab z hz1 hz2
    rw [e3]
    dsimp only
    rw [e4]
    have hzz : ∀ l, some z = some l → LnSz l := fun l e => by cases e; exact hzs
    refine ⟨o, dx, _, rfl, H2.sh, rfl, o, q, dx, pr, ps, some z, hist, k, p', rfl, hkl, hp.le, H2, ap, hr2, hzz, by omega, fun told S3 ht H3 F3 => ?_⟩
    have hS3 := b2.1.frame F3 hto htq
    refine ⟨o, q, dx, pr, _, _, told, rfl, H3, ap, hr2, ht, zno rfl ⟨_, pr, z, rfl, ⟨ap, as⟩, hr2, hzs, zno ?_ ⟨_, pr, rfl, ⟨ap, as⟩, hr2, _, eqo_lns _ _, zno ?_ ?_⟩⟩⟩
    · rw [(best_iff hr2.2 ao as z).mp az]; simp
    · rw [ac]; simp
    obtain ⟨l, ls, el, i1, i2⟩ := corners_cons hr2.2 ao as
    obtain ⟨s, es, fs'⟩ := signs_fit hr2.2 ao i1 i2 az
    refine ⟨_, pr, l, ls, s, rfl, ⟨ap, as⟩, hr2, el, es, fun S4 x4 hs4 => ⟨_, pr, z, s, rfl, ap, hr2, hzs, fs' hs4, zno rfl ?_⟩⟩
    have H4 := H3.ext x4
    refine ⟨o, dx, _, rfl, H4.sh, rfl, o, q, dx, pr, _, _, hist, ps, some z, rfl, H4, fun S5 H5 F5 => ?_⟩
    refine ⟨o, dx, _, rfl, H5.sh, rfl, o, q, dx, pr, _, _, _, rfl, H5, _, eqo_pts ps ps, zyes (by simp) ⟨o, dx, _, rfl, H5.sh, rfl, o, q, dx, pr, _, _, _, rfl, H5, _, eqo_el (some z) (some z), ?_⟩⟩
    rw [decide_eq_true rfl]
    exact h S5 ((hS3.ext x4).frame F5 hto htq) H5
end
end Sl
set_option Elab.async false
set_option linter.all false
set_option maxRecDepth 100000
set_option maxHeartbeats 4000000
namespace Sl
open PySem PySem.Spec PyProof.Rows L2 Z
open Sg (Pt Ln PsOk PrOk Spread stand rise loS hiS phi aheadB allPairs cost IsPair Best)
theorem told_sz {ps : List Pt} {pr : Ln} {told : List Ln} (hp : Pts ps) (h : Told ps pr told) : ∀ l, told.getLast? = some l → LnSz l := fun l e => by
  rcases h with ⟨_, rfl⟩ | ⟨_, l', r, z, rfl, R, _⟩
  · cases e
  · have e2 : (r ++ [z]).getLast? = some z := by simp
    rw [e2] at e
    cases e
    exact allPairs_sz hp.sz (R.mem _ (by simp))
theorem drop_mem {α : Type} {l : List α} {k : Nat} {a : α} (h : a ∈ l.take k ++ l.drop (k + 1)) : a ∈ l := by
  rcases List.mem_append.mp h with z | z
  · exact List.mem_of_mem_take z
  · exact List.mem_of_mem_drop z
section
variable {P : Program} {w : World} {K : PySem.W.Frag} {mg : Str → Option Value} {base : Heap}
def sp_law_put_on (C : Addr) : ZC := fun ds S Q => ∃ t h q dx pr ps z hist, ds = [.ref t, .ref h, .d (ptsP ps), .d (lnP pr)] ∧ Stays C t h q dx pr ps z hist S Q
theorem sc_law_put_on : FnScope ["_law_pot_here", "_law_house", "_law_points_here", "_law_prices", "_law_line", "_law_least", "_law_x", "_law_point", "_law_told", "_law_after"] ["_law_pot_here", "_law_house", "_law_points_here", "_law_prices"] (defScope s_law_put_on) := ⟨rfl, rfl, rfl, by decide +kernel, rfl, by decide +kernel, by decide +kernel⟩
theorem C_law_put_on (T : Txt fa fn P K mg base) (C_law_small : Callee P w K mg base 35 "_law_small" 1 sp_law_small) (C_m_put : CalleeM P w K mg base 44 (He.ga K "Kept") (He.ma K (He.ga K "Kept") "put") 4 (sp_m_put (He.ga K "Kept"))) (C_m_take : CalleeM P w K mg base 44 (He.ga K "Kept") (He.ma K (He.ga K "Kept") "take") 2 (sp_m_take (He.ga K "Kept"))) (C_m_undo : CalleeM P w K mg base 1 (He.ga K "Kept") (He.ma K (He.ga K "Kept") "undo") 1 (sp_m_undo (He.ga K "Kept"))) (C_m_line : CalleeM P w K mg base 1 (He.ga K "Kept") (He.ma K (He.ga K "Kept") "line") 1 (sp_m_line (He.ga K "Kept"))) (C_least_cost : Callee P w K mg base 41 "least_cost" 2 sp_least_cost) (C_stands : Callee P w K mg base 37 "stands" 2 sp_stands) (C_law_some : Callee P w K mg base 35 "_law_some" 1 sp_law_some) (C_law_draw : Callee P w K mg base 1 "_law_draw" 2 sp_law_draw) (C_law_told_right : Callee P w K mg base 45 "_law_told_right" 4 (sp_law_told_right (He.ga K "Kept"))) (C_is_best : Callee P w K mg base 41 "is_best" 3 sp_is_best) (C_fit : Callee P w K mg base 39 "fit" 4 sp_fit) (C_m_points : CalleeM P w K mg base 1 (He.ga K "Kept") (He.ma K (He.ga K "Kept") "points") 1 (sp_m_points (He.ga K "Kept"))) (C_best_signs : Callee P w K mg base 42 "best_signs" 2 sp_best_signs) : Callee P w K mg base 46 "_law_put_on" 4 (sp_law_put_on (He.ga K "Kept")) :=
  callee T 121 127 (d := d_law_put_on) rfl rfl rfl rfl rfl (fun _ _ _ _ _ _ us hl => match us, hl with | [_, _, _, _], _ => rfl) sc_law_put_on (fun ds S Q h => by first | (obtain ⟨_, rfl, _⟩ := h; rfl) | (obtain ⟨_, _, rfl, _⟩ := h; rfl) | (obtain ⟨_, _, _, rfl, _⟩ := h; rfl) | (obtain ⟨_, _, _, _, rfl, _⟩ := h; rfl) | (obtain ⟨_, _, _, _, _, rfl, _⟩ := h; rfl) | (obtain ⟨_, _, _, _, _, _, rfl, _⟩ := h; rfl) | (obtain ⟨_, _, _, _, _, _, _, rfl, _⟩ := h; rfl) | (obtain ⟨_, _, _, _, _, _, _, _, rfl, _⟩ := h; rfl) | (obtain ⟨_, _, _, _, _, _, _, _, _, rfl, _⟩ := h; rfl) | (obtain ⟨_, _, _, _, _, _, _, _, _, _, rfl, _⟩ := h; rfl) | (obtain ⟨_, _, _, _, _, _, _, _, _, _, _, rfl, _⟩ := h; rfl) | (obtain ⟨_, _, _, _, _, _, _, _, _, _, _, _, rfl, _⟩ := h; rfl)) fun f cdv A outer s H hr => by
    have sc := sc_law_put_on
    refine ⟨_, (zss_cons (zs_par rfl sc.nd (i := 4) (j := 5) rfl rfl (by decide) rfl rfl (za_cons (ze_methC0 (T.cls_ 138 rfl) (T.meth_ 142 rfl) C_m_line hr (zv 1)) (za_cons (ze_c1 C_least_cost hr (za_cons (zv 2) (za_cons (zv 3) za_nil))) za_nil))) (zss_cons (zs_set (i := 6) sc.nd rfl (Or.inl rfl) (ze_c1 C_law_small hr (za_cons (zv 0) za_nil))) (zss_cons (zs_set (i := 7) sc.nd rfl (Or.inl rfl) (ze_tup (za_cons (zv 6) (za_cons (ze_c1 C_stands hr (za_cons (zv 4) (za_cons (zv 6) za_nil))) (za_cons (ze_c1 C_law_some hr (za_cons (zv 0) za_nil)) za_nil))))) (zss_cons (zs_set (i := 8) sc.nd rfl (Or.inl rfl) (ze_methC (T.cls_ 138 rfl) (T.meth_ 145 rfl) C_m_put hr (zv 1) (za_cons (ze_ix zix (zv 7) ze_int) (za_cons (ze_ix zix (zv 7) ze_int) (za_cons (ze_ix zix (zv 7) ze_int) za_nil))))) (zss_cons (zs_set (i := 9) sc.nd rfl (Or.inl rfl) (ze_op zop_cat (zv 2) (ze_lst (za_cons (zv 7) za_nil)))) (zss_cons (zs_if (PW.pt (zw_or (zb_not (zb_val (ze_c1 C_law_told_right hr (za_cons (zv 1) (za_cons (zv 9) (za_cons (zv 3) (za_cons (zv 8) za_nil))))))) (zw_or1 (zb_not (zb_val (ze_c1 C_is_best hr (za_cons (zv 9) (za_cons (zv 3) (za_cons (zv 4) za_nil))))))))) (zss_one (zs_ret ze_bl)) zss_nil) (zss_cons (zs_if (PW.pt (zw_or (zb_cmp (zop_ne (Roomu hr 64)) (ze_c1 C_least_cost hr (za_cons (zv 9) (za_cons (zv 3) za_nil))) (zv 5) (by rfl)) (zw_or1 (zb_not (zb_val (ze_c1 C_fit hr (za_cons (zv 9) (za_cons (zv 3) (za_cons (zv 4) (za_cons (ze_c1 C_best_signs hr (za_cons (zv 9) (za_cons (zv 3) za_nil))) za_nil)))))))))) (zss_one (zs_ret ze_bl)) zss_nil) (zss_cons (zs_set (i := 8) sc.nd rfl (Or.inl rfl) (ze_methC (T.cls_ 138 rfl) (T.meth_ 146 rfl) C_m_take hr (zv 1) (za_cons (ze_c1 C_law_draw hr (za_cons (zv 0) (za_cons (ze_callB zc_len (by rfl) (T.free_ 8 rfl) (by decide +kernel) (za_cons (zv 9) za_nil)) za_nil))) za_nil))) (zss_cons (zs_if (PW.pt (zw_or (zb_not (zb_val (ze_c1 C_law_told_right hr (za_cons (zv 1) (za_cons (ze_methC0 (T.cls_ 138 rfl) (T.meth_ 141 rfl) C_m_points hr (zv 1)) (za_cons (zv 3) (za_cons (zv 8) za_nil))))))) (zw_or1 (zb_cmp (zop_ne (Roomu hr 64)) (ze_callB zc_len (by rfl) (T.free_ 8 rfl) (by decide +kernel) (za_cons (ze_methC0 (T.cls_ 138 rfl) (T.meth_ 141 rfl) C_m_points hr (zv 1)) za_nil)) (ze_callB zc_len (by rfl) (T.free_ 8 rfl) (by decide +kernel) (za_cons (zv 2) za_nil)) (by rfl))))) (zss_one (zs_ret ze_bl)) zss_nil) (zss_cons (zs_expr (ze_methC0 (T.cls_ 138 rfl) (T.meth_ 148 rfl) C_m_undo hr (zv 1))) (zss_cons (zs_expr (ze_methC0 (T.cls_ 138 rfl) (T.meth_ 148 rfl) C_m_undo hr (zv 1))) (zss_one (zs_ret (ze_and (ze_cmp (zop_eq (Roomu hr 64)) (ze_methC0 (T.cls_ 138 rfl) (T.meth_ 141 rfl) C_m_points hr (zv 1)) (zv 2) (by rfl)) (ze_one (ze_cmp (zop_eq (Roomu hr 64)) (ze_methC0 (T.cls_ 138 rfl) (T.meth_ 142 rfl) C_m_line hr (zv 1)) (zv 4) (by rfl))))))))))))))))), fun ds S Q h => ?_⟩
    obtain ⟨t, o, q, dx, pr, ps, z, hist, rfl, hS, H, hto, htq, sh, hr2, hz1, hz2, hh, h⟩ := h
    have hp := sh.pts
    have hle := sh.le
    have hzs := pair_sz hp.sz hz1
    have hzz : ∀ l, some z = some l → LnSz l := fun l e => by cases e; exact hzs
    refine ⟨o, dx, _, rfl, H.sh, rfl, o, q, dx, pr, ps, _, hist, rfl, H, ps, pr, rfl, sh.sps, hr2, t, rfl, hS, fun x S1 hx b1 => ?_⟩
    refine ⟨z, x, rfl, hzs, hx.mono (by decide), t, rfl, b1.1, fun u S2 hu u0 b2 => ?_⟩
    have hb := b1.trans b2
    have H2 := H.but hb hto htq
    dsimp only [zstart, List.map, List.length_cons, List.length_nil, Nat.reduceAdd, Nat.reduceSub, List.reduceReplicate, List.cons_append, List.nil_append, List.append_nil, List.set_cons_succ, List.set_cons_zero]
    dsimp only [zTup, zAsgG, zDPut, zwipe, zNeg, List.map_cons, List.map_nil, ztAnd, ztOr, ztNot, ztB, zOp, zCall, zaCons, zaNil, zV, zC, zgName, zgTup, zgsN, zgCons, zgNil, zSeq, zAsg, zIfS, zRet, zDrop_, zNext, List.getElem?_cons_succ, List.getElem?_cons_zero, List.set_cons_succ, List.set_cons_zero]
    generalize hp' : (⟨x, stand z x, u⟩ : Pt) = p'
    have hx' : p'.x = x := by subst hp'; rfl
    have hy' : p'.y = stand z x := by subst hp'; rfl
    have hw' : p'.w = u := by subst hp'; rfl
    have e4 : (PyData.tuple [frP x, frP (stand z x), frP u]) = ptP p' := by subst hp'; rfl
    have on : rise p' z = 0 := by unfold rise; rw [hx', hy']; grind
    obtain ⟨l1, l2⟩ := pair_short sh.sz hz1
    obtain ⟨as, ao, ab, al⟩ := put_stays hr2.2 hp.ok sh.sp (by rw [hw']; exact u0) on hz2
    have asz : PsSz (ps ++ [p']) := fun r hr => by
      rcases List.mem_append.mp hr with y | y
      · exact hp.sz r y
      · rw [List.mem_singleton.mp y]
        exact ⟨by rw [hx']; exact hx.mono (by decide), by rw [hy']; exact (l1.add (l2.mul hx)).mono (by decide), by rw [hw']; exact hu.mono (by decide)⟩
    have alen : (ps ++ [p']).length = ps.length + 1 := by simp
    have ap : Pts (ps ++ [p']) := ⟨Spread.ne as, by omega, asz, ao⟩
    refine ⟨o, dx, _, rfl, H2.sh, rfl, o, q, dx, pr, ps, some z, hist, p', by subst hp'; rfl, by omega, H2, ap, hr2, hzz, by omega, fun told S3 ht H3 F3 => ?_⟩
    have hS3 := b2.1.frame F3 hto htq
    refine ⟨Nat.ble_eq.mpr (by rw [List.length_map]; simp; omega), ?_⟩
    have e3 : List.map ptP ps ++ [PyData.tuple [frP x, frP (stand z x), frP u]] = (ps ++ [p']).map ptP := by
      rw [e4, List.map_append]; rfl
    rw [e3]
    dsimp only
    refine ⟨o, q, dx, pr, _, _, told, rfl, H3, ap, hr2, ht, zno rfl ⟨_, pr, z, rfl, ⟨ap, as⟩, hr2, hzs, zno ?_ ⟨_, pr, rfl, ⟨ap, as⟩, hr2, _, eqo_fr _ _, zno ?_ ?_⟩⟩⟩
    · rw [(best_iff hr2.2 ao as z).mp ab]; simp
    · rw [al]; simp
    obtain ⟨l, ls, el, i1, i2⟩ := corners_cons hr2.2 ao as
    obtain ⟨s, es, fs'⟩ := signs_fit hr2.2 ao i1 i2 ab
    refine ⟨_, pr, l, ls, s, rfl, ⟨ap, as⟩, hr2, el, es, fun S4 x4 hs4 => ⟨_, pr, z, s, rfl, ap, hr2, hzs, fs' hs4, zno rfl ?_⟩⟩
    have H4 := H3.ext x4
    have hS4 := hS3.ext x4
    refine ⟨o, dx, _, rfl, H4.sh, rfl, t, _, rfl, hS4, by rw [List.length_map]; omega, by rw [List.length_map]; omega, fun v S5 v0 v1 b5 => ?_⟩
    rw [List.length_map] at v1
    obtain ⟨k, rfl⟩ := Int.eq_ofNat_of_zero_le v0
    have hk : k < (ps ++ [p']).length := by omega
    have H5 := H4.but b5 hto htq
    have bl : ((ps ++ [p']).take k ++ (ps ++ [p']).drop (k + 1)).length = ps.length := by
      rw [List.length_append, List.length_take, List.length_drop]; omega
    have bp : Pts ((ps ++ [p']).take k ++ (ps ++ [p']).drop (k + 1)) := ⟨fun e => by rw [e] at bl; have := Spread.two sh.sp; simp at bl; omega, by omega, fun r hr => asz r (drop_mem hr), fun r hr => ao r (drop_mem hr)⟩
    refine ⟨o, q, dx, pr, _, _, _, k, rfl, hk, ap.le, H5, bp, hr2, told_sz ap ht, by simp; omega, fun told2 S6 ht2 H6 F6 => ?_⟩
    refine ⟨o, dx, _, rfl, H6.sh, rfl, o, q, dx, pr, _, _, _, rfl, H6, ?_⟩
    refine ⟨o, q, dx, pr, _, _, told2, rfl, H6, bp, hr2, ht2, zno rfl ⟨o, dx, _, rfl, H6.sh, rfl, o, q, dx, pr, _, _, _, rfl, H6, _, eqo_int _ _, zno ?_ ?_⟩⟩
    · rw [List.length_map, List.length_map, bl]; simp
    refine ⟨o, dx, _, rfl, H6.sh, rfl, o, q, dx, pr, _, _, _, _, _, rfl, H6, fun S7 H7 F7 => ?_⟩
    refine ⟨o, dx, _, rfl, H7.sh, rfl, o, q, dx, pr, _, _, _, _, _, rfl, H7, fun S8 H8 F8 => ?_⟩
    refine ⟨o, dx, _, rfl, H8.sh, rfl, o, q, dx, pr, _, _, _, rfl, H8, _, eqo_pts ps ps, zyes (by simp) ⟨o, dx, _, rfl, H8.sh, rfl, o, q, dx, pr, _, _, _, rfl, H8, _, eqo_el (some z) (some z), ?_⟩⟩
    rw [decide_eq_true rfl]
    exact h S8 (((b5.1.frame F6 hto htq).frame F7 hto htq).frame F8 hto htq) H8
end
end Sl
set_option Elab.async false
set_option linter.all false
set_option maxRecDepth 100000
set_option maxHeartbeats 4000000
namespace Sl
open PySem PySem.Spec PyProof.Rows L2 Z
open Sg (Pt Ln PsOk PrOk Spread stand rise loS hiS phi allPairs cost IsPair Best tot Along)
/-! ### points taken along -/
theorem corners_along {ps : List Pt} {T : Pt → Pt} {F : Ln → Ln} {pr pr' : Ln} {k : Rat} (A : Along ps T F pr pr' k) (hp : PrOk pr) (hp' : PrOk pr') (ho : PsOk ps) (ho' : PsOk (ps.map T)) (hs : Spread ps) :
    corners (ps.map T) pr = Sg.sortL ((corners ps pr').map F) := by
  refine Sg.sortL_eq ?_ (corners_sorted _ _) fun m => ?_
  · have h := (corners_sorted ps pr').nodup
    unfold List.Nodup at h ⊢
    rw [List.pairwise_map]
    exact h.imp fun n e => n (A.inj _ _ e)
  · obtain ⟨l, rfl⟩ := A.onto m
    rw [corners_mem hp ho' (A.spread hs), A.pair, A.best, ← corners_mem hp' ho hs]
    constructor
    · exact fun h => List.mem_map_of_mem h
    · intro h
      obtain ⟨l', h1, h2⟩ := List.mem_map.mp h
      rw [← A.inj _ _ h2]; exact h1
/-! ### planes -/
theorem costP_laid (a b : Rat) (pr : Ln) (p : Plane) : ∀ ps : List Pt, costP (laid ps a b) pr p = cost ps pr (p.h + p.c * a, p.a) + cost ps pr (p.h + p.c * b, p.a)
  | [] => by rw [Sg.cost_eq, Sg.cost_eq]; unfold costP laid tot; simp; grind
  | q :: ps => by
    have ih := costP_laid a b pr p ps
    rw [Sg.cost_cons, Sg.cost_cons]
    have e : costP (laid (q :: ps) a b) pr p = q.w * phi pr (riseP ⟨q.x, a, q.y, q.w⟩ p) + (q.w * phi pr (riseP ⟨q.x, b, q.y, q.w⟩ p) + costP (laid ps a b) pr p) := by
      unfold costP laid
      rw [List.flatMap_cons, List.map_append, List.sum_append]
      simp only [List.map_cons, List.map_nil, List.sum_cons, List.sum_nil]
      grind
    have r1 : riseP ⟨q.x, a, q.y, q.w⟩ p = rise q (p.h + p.c * a, p.a) := by unfold riseP rise stand; grind
    have r2 : riseP ⟨q.x, b, q.y, q.w⟩ p = rise q (p.h + p.c * b, p.a) := by unfold riseP rise stand; grind
    rw [e, ih, r1, r2]; grind
theorem aheadPl_iff (p q : Plane) : aheadPl p q = true ↔ p.h < q.h ∨ (p.h = q.h ∧ (p.a < q.a ∨ (p.a = q.a ∧ p.c < q.c))) := by
  unfold aheadPl
  by_cases h1 : p.h = q.h
  · rw [if_neg (fun z => z h1)]
    by_cases h2 : p.a = q.a
    · rw [if_neg (fun z => z h2)]
      by_cases h3 : p.c = q.c
      · rw [if_neg (fun z => z h3)]
        simp; grind
      · rw [if_pos h3]
        simp; grind
    · rw [if_pos h2]
      simp; grind
  · rw [if_pos h1]
    simp; grind
theorem aheadPl_tr (a b c : Plane) (h1 : aheadPl a b = true) (h2 : aheadPl b c = true) : aheadPl a c = true := by
  rw [aheadPl_iff] at *; grind
theorem aheadPl_tri (a b : Plane) : aheadPl a b = true ∨ a = b ∨ aheadPl b a = true := by
  rw [aheadPl_iff, aheadPl_iff]
  by_cases h : a.h = b.h
  · by_cases h2 : a.a = b.a
    · by_cases h3 : a.c = b.c
      · exact .inr (.inl (Plane.ext h h2 h3))
      · grind
    · grind
  · grind
abbrev SortPl (ls : List Plane) : Prop := ls.Pairwise fun a b => aheadPl a b = true
theorem putIn_ok {ls : List Plane} (h : SortPl ls) (o : Option Plane) : SortPl (putIn ls o) ∧ ∀ q, q ∈ putIn ls o ↔ q ∈ ls ∨ o = some q := by
  cases o with
  | none => exact ⟨h, fun q => by simp [putIn]⟩
  | some p =>
    unfold putIn
    dsimp only
    by_cases c : p ∈ ls
    · rw [if_pos c]
      exact ⟨h, fun q => ⟨.inl, fun z => by
        rcases z with z | z
        · exact z
        · cases z; exact c⟩⟩
    · rw [if_neg c]
      have e : ls.filter (aheadPl · p) ++ [p] ++ ls.drop (ls.filter (aheadPl · p)).length = Sg.putBy aheadPl ls p := by
        unfold Sg.putBy
        rw [Sg.take_filter aheadPl aheadPl_tr p ls h]
      rw [e]
      refine ⟨Sg.putBy_sorted aheadPl_tr aheadPl_tri h c, fun q => ?_⟩
      rw [Sg.putBy_mem]
      constructor
      · rintro (z | z)
        · exact .inr (by rw [z])
        · exact .inl z
      · rintro (z | z)
        · exact .inr z
        · cases z; exact .inl rfl
theorem planes_from (ss : List Spot) : ∀ (ts : List Tri) (ls : List Plane), SortPl ls → ∀ q, q ∈ ts.foldl (fun f t => putIn f (thr ss t)) ls ↔ q ∈ ls ∨ ∃ t ∈ ts, thr ss t = some q
  | [], ls, _, q => by simp
  | t :: ts, ls, h, q => by
    obtain ⟨h1, h2⟩ := putIn_ok h (thr ss t)
    rw [List.foldl_cons, planes_from ss ts _ h1 q, h2]
    simp; grind
theorem planesOf_mem (ss : List Spot) (q : Plane) : q ∈ planesOf ss ↔ ∃ t ∈ tris ss.length, thr ss t = some q := by
  unfold planesOf
  rw [planes_from ss _ [] .nil]; simp
theorem laid_at (a b : Rat) : ∀ (ps : List Pt) (i : Nat) (p : Pt), ps[i]? = some p → (laid ps a b)[2 * i]? = some ⟨p.x, a, p.y, p.w⟩ ∧ (laid ps a b)[2 * i + 1]? = some ⟨p.x, b, p.y, p.w⟩
  | [], _, _, h => by simp at h
  | q :: ps, 0, p, h => by
    simp at h; subst h
    exact ⟨rfl, rfl⟩
  | q :: ps, i + 1, p, h => by
    have ih := laid_at a b ps i p (by simpa using h)
    have e : laid (q :: ps) a b = [⟨q.x, a, q.y, q.w⟩, ⟨q.x, b, q.y, q.w⟩] ++ laid ps a b := rfl
    rw [e]
    have e1 : 2 * (i + 1) = 2 * i + 2 := by omega
    rw [e1]
    exact ih
theorem laid_len (a b : Rat) : ∀ ps : List Pt, (laid ps a b).length = 2 * ps.length
  | [] => rfl
  | q :: ps => by
    have e : laid (q :: ps) a b = [⟨q.x, a, q.y, q.w⟩, ⟨q.x, b, q.y, q.w⟩] ++ laid ps a b := rfl
    rw [e, List.length_append, laid_len a b ps, List.length_cons]; simp; omega
theorem plane_of_two {a b : Rat} (hab : a ≠ b) {p q : Pt} {l : Ln} (n : p.x ≠ q.x) (r1 : rise p l = 0) (r2 : rise q l = 0) :
    planeThrough ⟨p.x, a, p.y, p.w⟩ ⟨p.x, b, p.y, p.w⟩ ⟨q.x, a, q.y, q.w⟩ = some ⟨l.1, l.2, 0⟩ := by
  have hD : spreadOf ⟨p.x, a, p.y, p.w⟩ ⟨p.x, b, p.y, p.w⟩ ⟨q.x, a, q.y, q.w⟩ = (p.x - q.x) * (b - a) := by unfold spreadOf; grind
  have hD0 : (p.x - q.x) * (b - a) ≠ 0 := fun e => by
    rcases Rat.mul_eq_zero.mp e with z | z
    · exact n (by grind)
    · exact hab (by grind)
  unfold planeThrough
  rw [if_neg (by rw [hD]; exact hD0), hD]
  unfold rise stand at r1 r2
  have y1 : p.y = l.1 + l.2 * p.x := by grind
  have y2 : q.y = l.1 + l.2 * q.x := by grind
  generalize hg : (p.x - q.x) * (b - a) = D at hD0
  have e1 : ((p.y - p.y) * (a - a) - (q.y - p.y) * (b - a)) / D = l.2 := by
    have : (p.y - p.y) * (a - a) - (q.y - p.y) * (b - a) = l.2 * D := by rw [← hg, y1, y2]; grind
    rw [this]; exact Rat.mul_div_cancel hD0
  have e2 : ((p.x - p.x) * (q.y - p.y) - (q.x - p.x) * (p.y - p.y)) / D = 0 := by
    have : (p.x - p.x) * (q.y - p.y) - (q.x - p.x) * (p.y - p.y) = 0 * D := by grind
    rw [this]; exact Rat.mul_div_cancel hD0
  show some (Plane.mk (p.y - (((p.y - p.y) * (a - a) - (q.y - p.y) * (b - a)) / D * p.x + ((p.x - p.x) * (q.y - p.y) - (q.x - p.x) * (p.y - p.y)) / D * a)) (((p.y - p.y) * (a - a) - (q.y - p.y) * (b - a)) / D) (((p.x - p.x) * (q.y - p.y) - (q.x - p.x) * (p.y - p.y)) / D)) = _
  rw [e1, e2]
  have e3 : p.y - (l.2 * p.x + 0 * a) = l.1 := by rw [y1]; grind
  rw [e3]
theorem sAt_of {ss : List Spot} {k : Nat} {s : Spot} (h : ss[k]? = some s) : sAt ss k = s := by
  unfold sAt
  rw [List.getD_eq_getElem?_getD, h]; rfl
theorem plane_in {ps : List Pt} {a b : Rat} (hab : a ≠ b) {l : Ln} (h : IsPair ps l) : ⟨l.1, l.2, 0⟩ ∈ planesOf (laid ps a b) := by
  obtain ⟨p, hp, q, hq, n, r1, r2⟩ := h
  rw [planesOf_mem, laid_len]
  obtain ⟨i, ei⟩ := List.getElem?_of_mem hp
  obtain ⟨j, ej⟩ := List.getElem?_of_mem hq
  have go : ∀ (i j : Nat) (p q : Pt), ps[i]? = some p → ps[j]? = some q → p.x ≠ q.x → rise p l = 0 → rise q l = 0 → i < j → ∃ t ∈ tris (2 * ps.length), thr (laid ps a b) t = some ⟨l.1, l.2, 0⟩ := by
    intro i j p q ei ej n r1 r2 hij
    have hj := (List.getElem?_eq_some_iff.mp ej).1
    obtain ⟨s1, s2⟩ := laid_at a b ps i p ei
    obtain ⟨s3, _⟩ := laid_at a b ps j q ej
    refine ⟨(2 * i, 2 * i + 1, 2 * j), tris_mem.mpr ⟨by dsimp only; omega, by dsimp only; omega, by dsimp only; omega⟩, ?_⟩
    unfold thr
    dsimp only
    rw [sAt_of s1, sAt_of s2, sAt_of s3]
    exact plane_of_two hab n r1 r2
  rcases Nat.lt_trichotomy i j with z | z | z
  · exact go i j p q ei ej n r1 r2 z
  · subst z
    rw [ei] at ej
    cases ej
    exact absurd rfl n
  · exact go j i q p ej ei (Ne.symm n) r2 r1 z
theorem planes_laid {ps : List Pt} {a b : Rat} {pr : Ln} (hab : a ≠ b) (hp : PrOk pr) (ho : PsOk ps) (hs : Spread ps) : planesOf (laid ps a b) ≠ [] ∧ leastPl (laid ps a b) pr = 2 * leastC ps pr := by
  obtain ⟨l, h1, h2⟩ := (leastC_spec (pr := pr) hs).2
  have hin := plane_in hab h1
  have hne : planesOf (laid ps a b) ≠ [] := List.ne_nil_of_mem hin
  refine ⟨hne, ?_⟩
  have hne2 : (planesOf (laid ps a b)).map (costP (laid ps a b) pr) ≠ [] := by simpa using hne
  obtain ⟨k1, k2⟩ := leastL_spec hne2
  have lo := k1 _ (List.mem_map_of_mem (f := costP (laid ps a b) pr) hin)
  rw [costP_laid] at lo
  dsimp only at lo
  have e0 : ∀ y : Rat, l.1 + 0 * y = l.1 := fun y => by grind
  rw [e0, e0, h2] at lo
  obtain ⟨p, _, e⟩ := List.mem_map.mp k2
  rw [costP_laid] at e
  have m1 := leastC_le hp ho hs (p.h + p.c * a, p.a)
  have m2 := leastC_le hp ho hs (p.h + p.c * b, p.a)
  unfold leastPl
  grind
theorem plane_level (ps : List Pt) (a b : Rat) (pr l : Ln) : costP (laid ps a b) pr ⟨l.1, l.2, 0⟩ = 2 * cost ps pr l := by
  rw [costP_laid]
  have e0 : ∀ y : Rat, l.1 + 0 * y = l.1 := fun y => by grind
  dsimp only
  rw [e0, e0]; grind
theorem laid_spots {ps : List Pt} {a b : Rat} (hp : Pts ps) (hl : ps.length ≤ 4) (ha : Sz 400 a) (hb : Sz 400 b) : Spots (laid ps a b) := by
  have key : ∀ s ∈ laid ps a b, ∃ p ∈ ps, s = ⟨p.x, a, p.y, p.w⟩ ∨ s = ⟨p.x, b, p.y, p.w⟩ := fun s hs => by
    obtain ⟨p, hm, h⟩ := List.mem_flatMap.mp hs
    exact ⟨p, hm, by simpa using h⟩
  refine ⟨fun e => ?_, by rw [laid_len]; omega, fun s hs => ?_, fun s hs => ?_⟩
  · have := laid_len a b ps
    rw [e] at this
    have n := hp.ne
    exact n (List.eq_nil_of_length_eq_zero (by simp at this; omega))
  · obtain ⟨p, hm, h⟩ := key s hs
    have z := hp.sz p hm
    rcases h with rfl | rfl
    · exact ⟨z.x, ha, z.y, z.w⟩
    · exact ⟨z.x, hb, z.y, z.w⟩
  · obtain ⟨p, hm, h⟩ := key s hs
    have z := hp.ok p hm
    rcases h with rfl | rfl <;> exact z
end Sl
set_option Elab.async false
set_option linter.all false
set_option maxRecDepth 100000
set_option maxHeartbeats 4000000
namespace Sl
open PySem PySem.Spec PyProof.Rows L2 Z
open Sg (Pt Ln PsOk PrOk Spread stand rise loS hiS phi aheadB allPairs cost IsPair Best Along)
theorem corners_len {ps : List Pt} (pr : Ln) (h : ps.length ≤ 12) : (corners ps pr).length ≤ 144 := Nat.le_trans (List.length_filter_le _ _) (all_len h)
theorem corners_pair {ps : List Pt} {pr l : Ln} (h : l ∈ corners ps pr) : IsPair ps l := (Sg.allPairs_mem ps l).mp (List.mem_filter.mp h).1
theorem map_ok {ps : List Pt} {T : Pt → Pt} (h : PsOk ps) (hT : ∀ p, (T p).w = p.w) : PsOk (ps.map T) := fun q hq => by
  obtain ⟨p, hp, rfl⟩ := List.mem_map.mp hq
  rw [hT]; exact h p hp
theorem pick_ln {b : Bool} {u v : Ln} {S : Sto} {R : D → Sto → Prop} (h : ∀ q, (b = false ∧ q = u) ∨ (b = true ∧ q = v) → R (.d (lnP q)) S) : zInt1 [.d (.bool b)] S fun y S2 => zIx (.d (.list [lnP u, lnP v])) y S2 R :=
  pick_flag (fun e => h v (.inr ⟨e, rfl⟩)) (fun e => h u (.inl ⟨e, rfl⟩))
theorem own_prices {pr : Ln} {q : Rat} {ρ : Ro} {S : Sto} {R : D → Sto → Prop} (h2 : ρ[2]? = some (some (.d (lnP pr)))) (h : ∀ pr', (decide (q.num < 0) = false ∧ pr' = pr) ∨ (decide (q.num < 0) = true ∧ pr' = (pr.2, pr.1)) → R (.d (lnP pr')) S) :
    zLst (zaCons (zV 2) (zaCons (zRevT (zV 2)) zaNil)) ρ S fun x S1 => zIx (.d (frP q)) (.d (.int 0)) S1 fun x1 S1 => zLt x1 (.d (.int 0)) S1 fun x2 S1 => zInt1 [x2] S1 fun y S2 => zIx x y S2 R := by
  dsimp only [zLst, zaCons, zV, zRevT, zaNil]
  rw [h2]
  dsimp only
  exact pick_ln h
theorem lns_map (F : Ln → Ln) (L : List Ln) : [D.d (.list ([] ++ L.map fun l => lnP (F l)))] = [D.d (lnsP (L.map F))] := by
  show [D.d (.list ([] ++ L.map fun l => lnP (F l)))] = [D.d (.list ((L.map F).map lnP))]
  rw [List.map_map]; rfl
theorem map_pzn {A B : Nat} {ps : List Pt} {T : Pt → Pt} (h : PzN A ps) (hT : ∀ p, Sz A p.x ∧ Sz A p.y ∧ Sz A p.w → Sz B (T p).x ∧ Sz B (T p).y ∧ Sz B (T p).w) : PzN B (ps.map T) := fun q hq => by
  obtain ⟨p, hp, rfl⟩ := List.mem_map.mp hq
  exact hT p (h p hp)
section
variable {P : Program} {w : World} {K : PySem.W.Frag} {mg : Str → Option Value} {base : Heap}
def sp_law_along : ZC := fun ds S Q => ∃ (t : Addr) (ps : List Pt) (pr : Ln), ds = [.ref t, .d (ptsP ps), .d (lnP pr)] ∧ Pot S t ∧ Shrt ps ∧ Prs pr ∧ ∀ S', But t S S' → Q (.d (.bool true)) S'
theorem sc_law_along : FnScope ["_law_pot_here", "_law_points_here", "_law_prices", "_law_by", "_law_due", "_law_across", "_law_tall", "_law_own", "_law_line"] ["_law_pot_here", "_law_points_here", "_law_prices"] (defScope s_law_along) := ⟨rfl, rfl, rfl, by decide +kernel, rfl, by decide +kernel, by decide +kernel⟩
theorem C_law_along (T : Txt fa fn P K mg base) (C_law_small : Callee P w K mg base 35 "_law_small" 1 sp_law_small) (C_tilted_line : Callee P w K mg base 36 "tilted_line" 2 sp_tilted_line) (C_corners : Callee P w K mg base 41 "corners" 2 sp_corners) (C_law_sorted : Callee P w K mg base 3 "_law_sorted" 1 sp_law_sorted) (C_law_some : Callee P w K mg base 35 "_law_some" 1 sp_law_some) (C_law_times : Callee P w K mg base 35 "_law_times" 2 sp_law_times) (C_stretched_line : Callee P w K mg base 36 "stretched_line" 3 sp_stretched_line) (C_tilted : Callee P w K mg base 36 "tilted" 2 sp_tilted) (C_stretched : Callee P w K mg base 36 "stretched" 3 sp_stretched) (C_law_draw : Callee P w K mg base 1 "_law_draw" 2 sp_law_draw) : Callee P w K mg base 42 "_law_along" 3 sp_law_along :=
  callee T 123 129 (d := d_law_along) rfl rfl rfl rfl rfl (fun _ _ _ _ _ _ us hl => match us, hl with | [_, _, _], _ => rfl) sc_law_along (fun ds S Q h => by first | (obtain ⟨_, rfl, _⟩ := h; rfl) | (obtain ⟨_, _, rfl, _⟩ := h; rfl) | (obtain ⟨_, _, _, rfl, _⟩ := h; rfl) | (obtain ⟨_, _, _, _, rfl, _⟩ := h; rfl) | (obtain ⟨_, _, _, _, _, rfl, _⟩ := h; rfl) | (obtain ⟨_, _, _, _, _, _, rfl, _⟩ := h; rfl) | (obtain ⟨_, _, _, _, _, _, _, rfl, _⟩ := h; rfl) | (obtain ⟨_, _, _, _, _, _, _, _, rfl, _⟩ := h; rfl) | (obtain ⟨_, _, _, _, _, _, _, _, _, rfl, _⟩ := h; rfl) | (obtain ⟨_, _, _, _, _, _, _, _, _, _, rfl, _⟩ := h; rfl) | (obtain ⟨_, _, _, _, _, _, _, _, _, _, _, rfl, _⟩ := h; rfl) | (obtain ⟨_, _, _, _, _, _, _, _, _, _, _, _, rfl, _⟩ := h; rfl)) fun f cdv A outer s H hr => by
    have sc := sc_law_along
    refine ⟨_, (zss_cons (zs_set (i := 3) sc.nd rfl (Or.inr rfl) (ze_tup (za_cons (ze_c1 C_law_small hr (za_cons (zv 0) za_nil)) (za_cons (ze_c1 C_law_small hr (za_cons (zv 0) za_nil)) za_nil)))) (zss_cons (zs_setLc (i := 4) (own := [("_law_line", 8)]) gok_one rfl sc.nd rfl rfl (sw_true rfl rfl rfl (by decide +kernel)) (zi_list (ze_c1 C_corners hr (za_cons (zv 1) (za_cons (zv 2) za_nil)))) (blkOk_by rfl) (fun _ _ _ _ _ => pg_name (i := 8) sc.nd rfl (Or.inl rfl)) (fun _ _ _ _ _ => zts_nil) (fun _ _ _ _ _ => (ze_c1 C_tilted_line hr (za_cons (zv 8) (za_cons (zv 3) za_nil))))) (zss_cons (zs_if (zb_cmp (zop_ne (Roomu hr 64)) (ze_c1 C_corners hr (za_cons (ze_c1 C_tilted hr (za_cons (zv 1) (za_cons (zv 3) za_nil))) (za_cons (zv 2) za_nil))) (ze_c1 C_law_sorted hr (za_cons (zv 4) za_nil)) (by rfl)) (zss_one (zs_ret ze_bl)) zss_nil) (zss_cons (zs_asg (ze_tup (za_cons (ze_c1 C_law_some hr (za_cons (zv 0) za_nil)) (za_cons (ze_c1 C_law_times hr (za_cons (ze_c1 C_law_some hr (za_cons (zv 0) za_nil)) (za_cons (ze_tup (za_cons (ze_op zop_sub ze_int (ze_op zop_mul ze_int (ze_c1 C_law_draw hr (za_cons (zv 0) (za_cons ze_int za_nil))))) (za_cons ze_int za_nil))) za_nil))) za_nil))) (zg_tup (n := 2) rfl (zgs_cons (zg_name (i := 5) sc.nd rfl (Or.inr rfl)) (zgs_cons (zg_name (i := 6) sc.nd rfl (Or.inr rfl)) zgs_nil)))) (zss_cons (zs_set (i := 7) sc.nd rfl (Or.inl rfl) (ze_ix zix (ze_lst (za_cons (zv 2) (za_cons (ze_revT (zv 2)) za_nil))) (ze_callTy zc_int1 (by rfl) (T.free_ 1 rfl) (by decide +kernel) (za_cons (ze_cmp zop_lt (ze_ix zix (zv 6) ze_int) ze_int (by rfl)) za_nil)))) (zss_cons (zs_setLc (i := 4) (own := [("_law_line", 8)]) gok_one rfl sc.nd rfl rfl (sw_true rfl rfl rfl (by decide +kernel)) (zi_list (ze_c1 C_corners hr (za_cons (zv 1) (za_cons (zv 7) za_nil)))) (blkOk_by rfl) (fun _ _ _ _ _ => pg_name (i := 8) sc.nd rfl (Or.inl rfl)) (fun _ _ _ _ _ => zts_nil) (fun _ _ _ _ _ => (ze_c1 C_stretched_line hr (za_cons (zv 8) (za_cons (zv 5) (za_cons (zv 6) za_nil)))))) (zss_one (zs_ret (ze_cmp (zop_eq (Roomu hr 64)) (ze_c1 C_corners hr (za_cons (ze_c1 C_stretched hr (za_cons (zv 1) (za_cons (zv 5) (za_cons (zv 6) za_nil)))) (za_cons (zv 2) za_nil))) (ze_c1 C_law_sorted hr (za_cons (zv 4) za_nil)) (by rfl)))))))))), fun ds S Q h => ?_⟩
    obtain ⟨t, ps, pr, rfl, hS, sh, hr2, h⟩ := h
    have hp := sh.pts
    have hle := sh.le
    refine ⟨t, rfl, hS, fun v1 S1 h1 b1 => ⟨t, rfl, b1.1, fun v2 S2 h2 b2 => ?_⟩⟩
    dsimp only [zstart, List.map, List.length_cons, List.length_nil, Nat.reduceAdd, Nat.reduceSub, List.reduceReplicate, List.cons_append, List.nil_append, List.append_nil, List.set_cons_succ, List.set_cons_zero]
    dsimp only [zTup, zAsgG, zDPut, zwipe, zNeg, List.map_cons, List.map_nil, ztAnd, ztOr, ztNot, ztB, zOp, zCall, zaCons, zaNil, zV, zC, zgName, zgTup, zgsN, zgCons, zgNil, zSeq, zAsg, zIfS, zRet, zDrop_, zNext, List.getElem?_cons_succ, List.getElem?_cons_zero, List.set_cons_succ, List.set_cons_zero]
    have hv : LnSz (v1, v2) := ⟨h1.mono (by decide), h2.mono (by decide)⟩
    have at_ := Sg.along_tilt ps pr (v1, v2)
    have tok : PsOk (ps.map (tiltPt (v1, v2))) := map_ok hp.ok fun _ => rfl
    have tsz : PzN 60 (ps.map (tiltPt (v1, v2))) := map_pzn sh.sz fun p ⟨a, b, c⟩ => ⟨a.mono (by decide), (b.add (h1.add (h2.mul a))).mono (by decide), c.mono (by decide)⟩
    have tsp : Spread (ps.map (tiltPt (v1, v2))) := at_.spread sh.sp
    have tpt : Pts (ps.map (tiltPt (v1, v2))) := ⟨Spread.ne tsp, by rw [List.length_map]; omega, tsz.sz, tok⟩
    have tc : corners (ps.map (tiltPt (v1, v2))) pr = Sg.sortL ((corners ps pr).map fun l => (l.1 + v1, l.2 + v2)) := corners_along at_ hr2.2 hr2.2 hp.ok tok sh.sp
    have cl := corners_len pr hp.le
    have lsz : ∀ {l : Ln}, IsPair ps l → Sz 200 l.1 ∧ Sz 200 l.2 := fun hl => let ⟨a, b⟩ := pair_short sh.sz hl; ⟨a.mono (by decide), b.mono (by decide)⟩
    refine ⟨ps, pr, rfl, sh.sps, hr2, len1000 (by omega), zLcL_map (f := lnP) (fun l => lnP (l.1 + v1, l.2 + v2)) (corners ps pr) [] (fun l hm acc l' k => zyes rfl ⟨l, (v1, v2), rfl, pair_sz hp.sz (corners_pair hm), hv, k⟩) ?_⟩
    refine ⟨ps, (v1, v2), rfl, hp, hv, _, pr, rfl, ⟨tpt, tsp⟩, hr2, (corners ps pr).map fun l => (l.1 + v1, l.2 + v2), lns_map _ _, by rw [List.length_map]; omega, fun m hm => ?_, _, eqo_lns _ _, zno ?_ ?_⟩
    · obtain ⟨l, hl, rfl⟩ := List.mem_map.mp hm
      obtain ⟨q1, q2⟩ := lsz (corners_pair hl)
      exact ⟨(q1.add h1).big, (q2.add h2).big⟩
    · rw [tc]; simp
    refine ⟨t, rfl, b2.1, fun a S3 ha a0 b3 => ⟨t, rfl, b3.1, fun u S4 hu u0 b4 => ⟨t, 2, rfl, b4.1, by decide, by decide, fun r S5 r0 r1 b5 => ⟨mulOk (A := 2) (B := 2) (by decide) (by omega) (by decide), ?_⟩⟩⟩⟩
    have hsg : Sz 2 ((1 - 2 * r : Int) : Rat) := Sz.int (by omega)
    refine ⟨u, ((1 - 2 * r : Int) : Rat), rfl, hu.big, hsg.big, rfl, ?_⟩
    have ht : Sz 6 (u * ((1 - 2 * r : Int) : Rat)) := hu.mul hsg
    have ht0 : u * ((1 - 2 * r : Int) : Rat) ≠ 0 := fun e => by
      rcases Rat.mul_eq_zero.mp e with z | z
      · grind
      · have : (1 - 2 * r : Int) = 0 := by exact_mod_cast z
        omega
    generalize u * ((1 - 2 * r : Int) : Rat) = tl at ht ht0
    have ha0 : a ≠ 0 := by grind
    dsimp only
    refine own_prices rfl fun pr' hpr => ?_
    have hk : (0 < tl ∧ pr' = pr) ∨ (tl < 0 ∧ pr' = (pr.2, pr.1)) := by
      rw [num_neg] at hpr
      rcases hpr with ⟨c, e⟩ | ⟨c, e⟩
      · have := of_decide_eq_false c
        exact .inl ⟨by grind, e⟩
      · exact .inr ⟨of_decide_eq_true c, e⟩
    have hr' : Prs pr' := by
      rcases hk with ⟨_, rfl⟩ | ⟨_, rfl⟩
      · exact hr2
      · exact ⟨⟨hr2.1.2, hr2.1.1⟩, hr2.2.2, hr2.2.1⟩
    obtain ⟨k, hal⟩ : ∃ k, Along ps (stretchPt a tl) (fun l => (l.1 * tl, l.2 * tl / a)) pr pr' k := by
      rcases hk with ⟨c, e⟩ | ⟨c, e⟩
      · exact ⟨tl, Sg.along_stretch ps pr pr' ha0 (.inl ⟨c, rfl, e⟩)⟩
      · exact ⟨-tl, Sg.along_stretch ps pr pr' ha0 (.inr ⟨c, rfl, e⟩)⟩
    have sok : PsOk (ps.map (stretchPt a tl)) := map_ok hp.ok fun _ => rfl
    have ssz : PzN 60 (ps.map (stretchPt a tl)) := map_pzn sh.sz fun p ⟨x, y, z⟩ => ⟨(x.mul ha).mono (by decide), (y.mul ht).mono (by decide), z.mono (by decide)⟩
    have ssp : Spread (ps.map (stretchPt a tl)) := hal.spread sh.sp
    have spt : Pts (ps.map (stretchPt a tl)) := ⟨Spread.ne ssp, by rw [List.length_map]; omega, ssz.sz, sok⟩
    have sc2 := corners_along hal hr2.2 hr'.2 hp.ok sok sh.sp
    have cl2 := corners_len pr' hp.le
    refine ⟨ps, pr', rfl, sh.sps, hr', len1000 (by omega), zLcL_map (f := lnP) (fun l => lnP (l.1 * tl, l.2 * tl / a)) (corners ps pr') [] (fun l hm acc l' k => zyes rfl ⟨l, a, tl, rfl, pair_sz hp.sz (corners_pair hm), ha.mono (by decide), ht.mono (by decide), ha0, ht0, k⟩) ?_⟩
    refine ⟨ps, a, tl, rfl, hp, ha.mono (by decide), ht.mono (by decide), ha0, ht0, _, pr, rfl, ⟨spt, ssp⟩, hr2, (corners ps pr').map fun l => (l.1 * tl, l.2 * tl / a), lns_map _ _, by rw [List.length_map]; omega, fun m hm => ?_, _, eqo_lns _ _, ?_⟩
    · obtain ⟨l, hl, rfl⟩ := List.mem_map.mp hm
      obtain ⟨q1, q2⟩ := lsz (corners_pair hl)
      exact ⟨(q1.mul ht).big, ((q2.mul ht).div ha ha0).big⟩
    rw [decide_eq_true sc2]
    exact h S5 ((((b1.trans b2).trans b3).trans b4).trans b5)
end
end Sl
set_option Elab.async false
set_option linter.all false
set_option maxRecDepth 100000
set_option maxHeartbeats 4000000
namespace Sl
open PySem PySem.Spec PyProof.Rows L2 Z
open Sg (Pt Ln PsOk PrOk Spread stand rise loS hiS phi aheadB allPairs cost IsPair Best Along)
theorem zTake_pts {i : Nat} (n : Nat) {ρ : Ro} {S : Sto} {Q : D → Sto → Prop} {ps : List Pt} (h : ρ[i]? = some (some (.d (ptsP ps)))) (q : Q (.d (ptsP (ps.take n))) S) : zTake (zV i) (zC (.int n)) ρ S Q := by
  unfold zTake zV zC
  rw [h]
  show Q (.d (.list ((ps.map ptP).take n))) S
  rw [← List.map_take]
  exact q
theorem leastC_big {ps : List Pt} {pr : Ln} (hp : Sps ps) (hr : Prs pr) : Big (leastC ps pr) := by
  obtain ⟨l, h1, h2⟩ := (leastC_spec (pr := pr) hp.2).2
  rw [← h2]
  exact (cost_sz hp.1.le hp.1.sz hr.1 (pair_sz hp.1.sz h1)).big
theorem take_pts {ps : List Pt} {n : Nat} (h : Pts ps) (hn : n ≠ 0) : Pts (ps.take n) := by
  refine ⟨fun e => ?_, by rw [List.length_take]; have := h.le; omega, fun p hp => h.sz p (List.mem_of_mem_take hp), fun p hp => h.ok p (List.mem_of_mem_take hp)⟩
  rcases List.take_eq_nil_iff.mp e with z | z
  · exact hn z
  · exact h.ne z
theorem two_fr : PyData.tuple [.int 2, .int 1] = frP 2 := rfl
section
variable {P : Program} {w : World} {K : PySem.W.Frag} {mg : Str → Option Value} {base : Heap}
def sp_law_laid : ZC := fun ds S Q => ∃ (t : Addr) (ps : List Pt) (pr : Ln), ds = [.ref t, .d (ptsP ps), .d (lnP pr)] ∧ Pot S t ∧ Shrt ps ∧ Prs pr ∧ ∀ S', But t S S' → Q (.d (.bool true)) S'
theorem sc_law_laid : FnScope ["_law_pot_here", "_law_points_here", "_law_prices", "_law_few", "_law_one", "_law_other", "_law_laid_here", "_law_across", "_law_longer", "_law_least", "_law_line"] ["_law_pot_here", "_law_points_here", "_law_prices"] (defScope s_law_laid) := ⟨rfl, rfl, rfl, by decide +kernel, rfl, by decide +kernel, by decide +kernel⟩
theorem C_law_laid (T : Txt fa fn P K mg base) (C_law_small : Callee P w K mg base 35 "_law_small" 1 sp_law_small) (C_law_plus : Callee P w K mg base 35 "_law_plus" 2 sp_law_plus) (C_laid_twice : Callee P w K mg base 6 "laid_twice" 3 sp_laid_twice) (C_pair_lines : Callee P w K mg base 38 "pair_lines" 1 sp_pair_lines) (C_law_spread : Callee P w K mg base 1 "_law_spread" 1 sp_law_spread) (C_law_some : Callee P w K mg base 35 "_law_some" 1 sp_law_some) (C_least_plane_cost : Callee P w K mg base 41 "least_plane_cost" 2 sp_least_plane_cost) (C_law_times : Callee P w K mg base 35 "_law_times" 2 sp_law_times) (C_law_draw : Callee P w K mg base 1 "_law_draw" 2 sp_law_draw) (C_law_far : Callee P w K mg base 35 "_law_far" 1 sp_law_far) (C_stretched : Callee P w K mg base 36 "stretched" 3 sp_stretched) (C_least_cost : Callee P w K mg base 41 "least_cost" 2 sp_least_cost) (C_plane_cost : Callee P w K mg base 38 "plane_cost" 3 sp_plane_cost) (C_law_cost : Callee P w K mg base 38 "_law_cost" 3 sp_law_cost) : Callee P w K mg base 45 "_law_laid" 3 sp_law_laid :=
  callee T 124 130 (d := d_law_laid) rfl rfl rfl rfl rfl (fun _ _ _ _ _ _ us hl => match us, hl with | [_, _, _], _ => rfl) sc_law_laid (fun ds S Q h => by first | (obtain ⟨_, rfl, _⟩ := h; rfl) | (obtain ⟨_, _, rfl, _⟩ := h; rfl) | (obtain ⟨_, _, _, rfl, _⟩ := h; rfl) | (obtain ⟨_, _, _, _, rfl, _⟩ := h; rfl) | (obtain ⟨_, _, _, _, _, rfl, _⟩ := h; rfl) | (obtain ⟨_, _, _, _, _, _, rfl, _⟩ := h; rfl) | (obtain ⟨_, _, _, _, _, _, _, rfl, _⟩ := h; rfl) | (obtain ⟨_, _, _, _, _, _, _, _, rfl, _⟩ := h; rfl) | (obtain ⟨_, _, _, _, _, _, _, _, _, rfl, _⟩ := h; rfl) | (obtain ⟨_, _, _, _, _, _, _, _, _, _, rfl, _⟩ := h; rfl) | (obtain ⟨_, _, _, _, _, _, _, _, _, _, _, rfl, _⟩ := h; rfl) | (obtain ⟨_, _, _, _, _, _, _, _, _, _, _, _, rfl, _⟩ := h; rfl)) fun f cdv A outer s H hr => by
    have sc := sc_law_laid
    refine ⟨_, (zss_cons (zs_set (i := 3) sc.nd rfl (Or.inl rfl) (ze_take (zv 1) ze_int)) (zss_cons (zs_if (zb_not (zb_val (ze_c1 C_law_spread hr (za_cons (zv 3) za_nil)))) (zss_one (zs_ret ze_bl)) zss_nil) (zss_cons (zs_set (i := 4) sc.nd rfl (Or.inl rfl) (ze_c1 C_law_small hr (za_cons (zv 0) za_nil))) (zss_cons (zs_set (i := 5) sc.nd rfl (Or.inl rfl) (ze_c1 C_law_plus hr (za_cons (zv 4) (za_cons (ze_c1 C_law_some hr (za_cons (zv 0) za_nil)) za_nil)))) (zss_cons (zs_set (i := 6) sc.nd rfl (Or.inl rfl) (ze_c1 C_laid_twice hr (za_cons (zv 3) (za_cons (zv 4) (za_cons (zv 5) za_nil))))) (zss_cons (zs_if (zb_cmp (zop_ne (Roomu hr 64)) (ze_c1 C_least_plane_cost hr (za_cons (zv 6) (za_cons (zv 2) za_nil))) (ze_c1 C_law_times hr (za_cons (ze_tup (za_cons ze_int (za_cons ze_int za_nil))) (za_cons (ze_c1 C_least_cost hr (za_cons (zv 3) (za_cons (zv 2) za_nil))) za_nil))) (by rfl)) (zss_one (zs_ret ze_bl)) zss_nil) (zss_cons (zs_if (zb_cmp (zop_eq (Roomu hr 64)) (ze_c1 C_law_draw hr (za_cons (zv 0) (za_cons ze_int za_nil))) ze_int (by rfl)) (zss_cons (zs_set (i := 7) sc.nd rfl (Or.inl rfl) (ze_c1 C_law_far hr (za_cons (zv 0) za_nil))) (zss_cons (zs_if (zb_cmp (zop_eq (Roomu hr 64)) (ze_ix zix (zv 7) ze_int) ze_int (by rfl)) (zss_one (zs_set (i := 7) sc.nd rfl (Or.inl rfl) (ze_tup (za_cons ze_int (za_cons ze_int za_nil))))) zss_nil) (zss_cons (zs_set (i := 8) sc.nd rfl (Or.inl rfl) (ze_c1 C_stretched hr (za_cons (ze_take (zv 3) ze_int) (za_cons (zv 7) (za_cons (ze_c1 C_law_some hr (za_cons (zv 0) za_nil)) za_nil))))) (zss_one (zs_if (zb_val (ze_c1 C_law_spread hr (za_cons (ze_take (zv 3) ze_int) za_nil))) (zss_cons (zs_set (i := 9) sc.nd rfl (Or.inl rfl) (ze_c1 C_least_plane_cost hr (za_cons (ze_c1 C_laid_twice hr (za_cons (zv 8) (za_cons (zv 4) (za_cons (zv 5) za_nil)))) (za_cons (zv 2) za_nil)))) (zss_one (zs_if (zb_cmp (zop_ne (Roomu hr 64)) (zv 9) (ze_c1 C_law_times hr (za_cons (ze_tup (za_cons ze_int (za_cons ze_int za_nil))) (za_cons (ze_c1 C_least_cost hr (za_cons (zv 8) (za_cons (zv 2) za_nil))) za_nil))) (by rfl)) (zss_one (zs_ret ze_bl)) zss_nil))) zss_nil))))) zss_nil) (zss_cons (zs_for PassesOwn.never rfl (zi_list (ze_c1 C_pair_lines hr (za_cons (zv 3) za_nil))) (zg_name (i := 10) sc.nd rfl (Or.inl rfl)) (zss_one (zs_if (zb_cmp (zop_ne (Roomu hr 64)) (ze_c1 C_plane_cost hr (za_cons (zv 6) (za_cons (zv 2) (za_cons (ze_op zop_catT (zv 10) (ze_tup (za_cons (ze_tup (za_cons ze_int (za_cons ze_int za_nil))) za_nil))) za_nil)))) (ze_c1 C_law_times hr (za_cons (ze_tup (za_cons ze_int (za_cons ze_int za_nil))) (za_cons (ze_c1 C_law_cost hr (za_cons (zv 3) (za_cons (zv 2) (za_cons (zv 10) za_nil)))) za_nil))) (by rfl)) (zss_one (zs_ret ze_bl)) zss_nil))) (zss_one (zs_ret ze_bl)))))))))), fun ds S Q h => ?_⟩
    obtain ⟨t, ps, pr, rfl, hS, sh, hr2, h⟩ := h
    have hp := sh.pts
    have hle := sh.le
    dsimp only [zstart, List.map, List.length_cons, List.length_nil, Nat.reduceAdd, Nat.reduceSub, List.reduceReplicate, List.cons_append, List.nil_append, List.append_nil, List.set_cons_succ, List.set_cons_zero]
    dsimp only [zTup, zAsgG, zDPut, zwipe, zNeg, List.map_cons, List.map_nil, ztAnd, ztOr, ztNot, ztB, zOp, zCall, zaCons, zaNil, zV, zC, zgName, zgTup, zgsN, zgCons, zgNil, zSeq, zAsg, zIfS, zRet, zDrop_, zNext, List.getElem?_cons_succ, List.getElem?_cons_zero, List.set_cons_succ, List.set_cons_zero]
    refine zTake_pts (i := 1) (ps := ps) 4 rfl ?_
    generalize hfew : ps.take 4 = few
    have fp : Pts few := by rw [← hfew]; exact take_pts hp (by decide)
    have fl : few.length ≤ 4 := by rw [← hfew, List.length_take]; omega
    have fsz : PzN 20 few := fun p hm => by rw [← hfew] at hm; exact sh.sz p (List.mem_of_mem_take hm)
    refine ⟨few, rfl, fp.ne, fp.le, zboth (fun _ => h S (But.refl hS)) (fun c => ?_)⟩
    have sp : Spread few := (spreadB_iff few).mp (by simpa using c)
    have fs : Sps few := ⟨fp, sp⟩
    refine ⟨t, rfl, hS, fun one S1 h1 b1 => ⟨t, rfl, b1.1, fun u S2 hu u0 b2 => ⟨one, u, rfl, h1.big, hu.big, ?_⟩⟩⟩
    have ho := h1.add hu
    have hne : one ≠ one + u := by grind
    generalize one + u = other at ho hne
    have hlaid := laid_spots fp fl (h1.mono (by decide)) (ho.mono (by decide))
    obtain ⟨pn, pl⟩ := planes_laid hne hr2.2 fp.ok sp
    have lb := leastC_big fs hr2
    have b12 := b1.trans b2
    have two : Big 2 := (Sz.int (A := 4) (i := 2) (by decide)).big
    refine ⟨few, one, other, rfl, fp, fl, hne, _, pr, rfl, hlaid, hr2, pn, few, pr, rfl, fs, hr2, 2, leastC few pr, rfl, two, lb, _, eqo_fr _ _, zno (by rw [pl]; simp) ?_⟩
    have tail : ∀ (o7 o8 o9 o10 : Option D) (S' : Sto), But t S S' → zFor (ziL (zCall sp_pair_lines (zaCons (zV 3) zaNil))) (zgName 10)
        (zIfS (ztB (zOp zNe (zCall sp_plane_cost (zaCons (zV 6) (zaCons (zV 2) (zaCons (zOp zCatT (zV 10) (zTup (zaCons (zTup (zaCons (zC (.int 0)) (zaCons (zC (.int 1)) zaNil))) zaNil))) zaNil))))
          (zCall sp_law_times (zaCons (zTup (zaCons (zC (.int 2)) (zaCons (zC (.int 1)) zaNil))) (zaCons (zCall sp_law_cost (zaCons (zV 3) (zaCons (zV 2) (zaCons (zV 10) zaNil)))) zaNil))))) (zRet (zC (.bool false))) zNext)
        { nx := zRet (zC (.bool true)) { nx := fun _ S' => Q (.d .none) S', rt := Q }, rt := Q }
        [some (.ref t), some (.d (ptsP ps)), some (.d (lnP pr)), some (.d (ptsP few)), some (fr one), some (fr other), some (.d (.list ((laid few one other).map spP))), o7, o8, o9, o10] S' := fun o7 o8 o9 o10 S' bb => by
      refine ⟨few, rfl, fs, ?_⟩
      refine zLoop_ind (α := Ln) (f := lnP) (fun m ρ S'' => S'' = S' ∧ ∃ o : Option D, (∀ l ∈ m, IsPair few l) ∧ ρ = [some (.ref t), some (.d (ptsP ps)), some (.d (lnP pr)), some (.d (ptsP few)), some (fr one), some (fr other), some (.d (.list ((laid few one other).map spP))), o7, o8, o9, o]) ?_ ?_ (allPairs few) _ S' ⟨rfl, o10, fun l hl => (Sg.allPairs_mem few l).mp hl, rfl⟩
      · rintro ρ S'' ⟨rfl, o, _, rfl⟩
        exact h S'' bb
      · rintro l m ρ S'' ⟨rfl, o, hm, rfl⟩ ih
        have hl := hm l (by simp)
        have hls := pair_sz fp.sz hl
        have cb := (cost_sz fp.le fp.sz hr2.1 hls).big
        have e0 : costP (laid few one other) pr ⟨l.1, l.2, 0⟩ = 2 * cost few pr l := plane_level few one other pr l
        refine ⟨rfl, _, pr, ⟨l.1, l.2, 0⟩, rfl, hlaid, hr2, ⟨hls.1.mono (by decide), hls.2.mono (by decide), Sz.zero.mono (by decide)⟩, few, pr, l, rfl, fp.le, fp.sz, hr2.1, hls, 2, _, rfl, two, cb, _, eqo_fr _ _, zno (by rw [e0]; simp) ?_⟩
        exact ih _ _ ⟨rfl, _, fun q hq => hm q (by simp [hq]), rfl⟩
    refine ⟨t, 8, rfl, b2.1, by decide, by decide, fun r S3 r0 r1 b3 => ⟨_, eqo_int r 5, zif (fun c => ?_) (fun c => tail _ _ _ _ S3 (b12.trans b3))⟩⟩
    have b13 := b12.trans b3
    refine (fun (mid : ∀ (a : Rat) (S' : Sto), a ≠ 0 → Sz 201 a → But t S S' → _) => ⟨t, rfl, b3.1, fun a S4 ha b4 => ⟨_, eqo_int a.num 0, zif (fun c => ?seven) (fun c => mid a S4 (fun e => c (by rw [e]; rfl)) ha (b13.trans b4))⟩⟩) (fun a S4 ha hsz b4 => ?mid)
    case seven => exact mid 7 S4 (by decide) ((Sz.int (A := 4) (i := 7) (by decide)).mono (by decide)) (b13.trans b4)
    case mid =>
      refine zTake_pts (i := 3) (ps := few) 3 rfl ?_
      have f3 : Pts (few.take 3) := take_pts fp (by decide)
      have f3z : PzN 20 (few.take 3) := fun p hm => fsz p (List.mem_of_mem_take hm)
      have f3l : (few.take 3).length ≤ 3 := by rw [List.length_take]; omega
      refine ⟨t, rfl, b4.1, fun u S5 hu u0 b5 => ?_⟩
      have hu0 : u ≠ 0 := by grind
      have bb := b4.trans b5
      refine ⟨few.take 3, a, u, rfl, f3, hsz.mono (by decide), hu.mono (by decide), ha, hu0, ?_⟩
      refine zTake_pts (i := 3) (ps := few) 3 rfl ?_
      generalize few.take 3 = f at f3 f3z f3l
      have sok : PsOk (f.map (stretchPt a u)) := map_ok f3.ok fun _ => rfl
      have ssz : PzN 230 (f.map (stretchPt a u)) := map_pzn f3z fun p ⟨x, y, z⟩ => ⟨(x.mul hsz).mono (by decide), (y.mul hu).mono (by decide), z.mono (by decide)⟩
      have spt : Pts (f.map (stretchPt a u)) := ⟨by simpa using f3.ne, by rw [List.length_map]; omega, ssz.sz, sok⟩
      refine ⟨f, rfl, f3.ne, f3.le, zboth (fun e => ?_) (fun e => tail _ _ _ _ S5 bb)⟩
      have f3s : Spread f := (spreadB_iff f).mp e
      have ssp : Spread (f.map (stretchPt a u)) := (Sg.along_stretch f pr pr ha (.inl ⟨u0, rfl, rfl⟩)).spread f3s
      have sl : (f.map (stretchPt a u)).length ≤ 4 := by rw [List.length_map]; omega
      have hlaid2 := laid_spots spt sl (h1.mono (by decide)) (ho.mono (by decide))
      obtain ⟨pn2, pl2⟩ := planes_laid hne hr2.2 sok ssp
      have lb2 := leastC_big (pr := pr) ⟨spt, ssp⟩ hr2
      refine ⟨f.map (stretchPt a u), one, other, rfl, spt, sl, hne, _, pr, rfl, hlaid2, hr2, pn2, _, pr, rfl, ⟨spt, ssp⟩, hr2, 2, leastC (f.map (stretchPt a u)) pr, rfl, two, lb2, _, eqo_fr _ _, zno (by rw [pl2]; simp) (tail _ _ _ _ S5 bb)⟩
end
end Sl
set_option Elab.async false
set_option linter.all false
set_option maxRecDepth 100000
set_option maxHeartbeats 4000000
namespace Sl
open PySem PySem.Spec PyProof.Rows L2 Z
open Sg (Pt Ln PsOk PrOk Spread stand rise loS hiS phi aheadB allPairs cost IsPair Best Along)
theorem range_two {ns : List Int} {ρ : Ro} {S : Sto} {R : List PyData → Sto → Prop} (h : ρ[0]? = some (some (.ro ns))) (q : ∀ n : Nat, R ((List.range n).map natP) S) :
    ziRange (zaCons (zCall zMax2 (zaCons (zC (.int 1)) (zaCons (zCall zMin2 (zaCons (zC (.int 2)) (zaCons (zCall zLen (zaCons (zV 0) zaNil)) zaNil))) zaNil))) zaNil) ρ S R := by
  dsimp only [ziRange, zaCons, zCall, zC, zaNil, zV]
  rw [h]
  show (match ([D.d (.int (if (if ((ns.map PyData.int).length : Int) < 2 then ((ns.map PyData.int).length : Int) else 2) > 1 then (if ((ns.map PyData.int).length : Int) < 2 then ((ns.map PyData.int).length : Int) else 2) else 1))] : List D) with
    | [.d (.int (.ofNat n))] => n ≤ 100000 ∧ R ((List.range n).map fun (k : Nat) => PyData.int k) S
    | _ => False)
  by_cases c : ((ns.map PyData.int).length : Int) < 2
  · rw [if_pos c, if_neg (by omega)]
    exact ⟨by decide, q 1⟩
  · rw [if_neg c, if_pos (by decide)]
    exact ⟨by decide, q 2⟩
theorem zTake_next {i j n : Nat} {ρ : Ro} {S : Sto} {Q : D → Sto → Prop} {ps : List Pt} (h : ρ[i]? = some (some (.d (ptsP ps)))) (hj : ρ[j]? = some (some (.d (.int n)))) (q : Q (.d (ptsP (ps.take (n + 1)))) S) : zTake (zV i) (zOp zAdd (zV j) (zC (.int 1))) ρ S Q := by
  dsimp only [zTake, zOp, zV, zC]
  rw [h]
  dsimp only
  rw [hj]
  show Q (.d (.list ((ps.map ptP).take (n + 1)))) S
  rw [← List.map_take]
  exact q
theorem Pot.put {S : Sto} {t x : Addr} {c : Cell} (h : Pot S t) (n : t ≠ x) : Pot (S.put x c) t := let ⟨a, b, q, r⟩ := h; ⟨a, b, (Sto.put_ne n).trans q, r⟩
theorem Pot.some {S : Sto} {t : Addr} (h : Pot S t) : S t ≠ none := by obtain ⟨a, b, q, _⟩ := h; rw [q]; simp
section
variable {P : Program} {w : World} {K : PySem.W.Frag} {mg : Str → Option Value} {base : Heap}
def sp_law : ZC := fun ds S Q => ∃ ns : List Int, ds = [.ro ns] ∧ ∀ S', Q (.d (.bool true)) S'
theorem sc_law : FnScope ["_law_script", "_law_k", "_law_pot_here", "_law_points_here", "_law_prices", "_law_house", "_law_j", "_law_point"] ["_law_script"] (defScope s_law) := ⟨rfl, rfl, rfl, by decide +kernel, rfl, by decide +kernel, by decide +kernel⟩
theorem C_law (T : Txt fa fn P K mg base) (C_law_pot : Callee P w K mg base 1 "_law_pot" 1 sp_law_pot) (C_law_short_points : Callee P w K mg base 40 "_law_short_points" 1 sp_law_short_points) (C_m_init : CalleeM P w K mg base 7 (He.ga K "Kept") (He.ma K (He.ga K "Kept") "__init__") 2 (sp_m_init (He.ga K "Kept"))) (C_law_cell : Callee P w K mg base 1 "_law_cell" 2 sp_law_cell) (C_law_some : Callee P w K mg base 35 "_law_some" 1 sp_law_some) (C_law_told_right : Callee P w K mg base 45 "_law_told_right" 4 (sp_law_told_right (He.ga K "Kept"))) (C_law_outward : Callee P w K mg base 46 "_law_outward" 4 (sp_law_outward (He.ga K "Kept"))) (C_law_put_on : Callee P w K mg base 46 "_law_put_on" 4 (sp_law_put_on (He.ga K "Kept"))) (C_law_along : Callee P w K mg base 42 "_law_along" 3 sp_law_along) (C_law_laid : Callee P w K mg base 45 "_law_laid" 3 sp_law_laid) (C_m_put : CalleeM P w K mg base 44 (He.ga K "Kept") (He.ma K (He.ga K "Kept") "put") 4 (sp_m_put (He.ga K "Kept"))) {f : Addr} {fd : FuncData} (F : FunD K d_law.name d_law.qual d_law.params d_law.body d_law.scope [] [] f fd) : FnOk P w K mg base CX0 47 f fd ["_law_script"] (lp K sp_law) :=
  zfn F sc_law (fun ds S Q h => by first | (obtain ⟨_, rfl, _⟩ := h; rfl) | (obtain ⟨_, _, rfl, _⟩ := h; rfl) | (obtain ⟨_, _, _, rfl, _⟩ := h; rfl) | (obtain ⟨_, _, _, _, rfl, _⟩ := h; rfl) | (obtain ⟨_, _, _, _, _, rfl, _⟩ := h; rfl) | (obtain ⟨_, _, _, _, _, _, rfl, _⟩ := h; rfl) | (obtain ⟨_, _, _, _, _, _, _, rfl, _⟩ := h; rfl) | (obtain ⟨_, _, _, _, _, _, _, _, rfl, _⟩ := h; rfl) | (obtain ⟨_, _, _, _, _, _, _, _, _, rfl, _⟩ := h; rfl) | (obtain ⟨_, _, _, _, _, _, _, _, _, _, rfl, _⟩ := h; rfl) | (obtain ⟨_, _, _, _, _, _, _, _, _, _, _, rfl, _⟩ := h; rfl) | (obtain ⟨_, _, _, _, _, _, _, _, _, _, _, _, rfl, _⟩ := h; rfl)) fun cdv A outer s H hr => by
    have sc := sc_law
    refine ⟨_, (zss_cons (zs_for PassesOwn.never rfl (zi_range (by rfl) (T.free_ 10 rfl) (za_cons (ze_callB (zc_max2 rfl) (by rfl) (T.free_ 0 rfl) (by decide +kernel) (za_cons ze_int (za_cons (ze_callB (zc_min2 rfl) (by rfl) (T.free_ 7 rfl) (by decide +kernel) (za_cons ze_int (za_cons (ze_callB zc_len (by rfl) (T.free_ 8 rfl) (by decide +kernel) (za_cons (zv 0) za_nil)) za_nil))) za_nil))) za_nil)) (zg_name (i := 1) sc.nd rfl (Or.inl rfl)) (zss_cons (zs_set (i := 2) sc.nd rfl (Or.inl rfl) (ze_c1 C_law_pot hr (za_cons (ze_c1 C_law_cell hr (za_cons (zv 0) (za_cons (zv 1) za_nil))) za_nil))) (zss_cons (zs_set (i := 3) sc.nd rfl (Or.inl rfl) (ze_c1 C_law_short_points hr (za_cons (zv 2) za_nil))) (zss_cons (zs_set (i := 4) sc.nd rfl (Or.inl rfl) (ze_tup (za_cons (ze_c1 C_law_some hr (za_cons (zv 2) za_nil)) (za_cons (ze_c1 C_law_some hr (za_cons (zv 2) za_nil)) za_nil)))) (zss_cons (zs_set (i := 5) sc.nd rfl (Or.inl rfl) (ze_makeC (T.mkr_ 139 rfl) C_m_init hr (by rfl) (T.glo_ 132 rfl) (za_cons (zv 4) za_nil))) (zss_cons (zs_for PassesOwn.never rfl (zi_enum (by rfl) (T.free_ 13 rfl) (za_cons (zv 3) za_nil)) (zg_tup (n := 2) rfl (zgs_cons (zg_name (i := 6) sc.nd rfl (Or.inl rfl)) (zgs_cons (zg_name (i := 7) sc.nd rfl (Or.inl rfl)) zgs_nil))) (zss_one (zs_if (zb_not (zb_val (ze_c1 C_law_told_right hr (za_cons (zv 5) (za_cons (ze_take (zv 3) (ze_op zop_add (zv 6) ze_int)) (za_cons (zv 4) (za_cons (ze_methC (T.cls_ 138 rfl) (T.meth_ 145 rfl) C_m_put hr (zv 5) (za_cons (ze_ix zix (zv 7) ze_int) (za_cons (ze_ix zix (zv 7) ze_int) (za_cons (ze_ix zix (zv 7) ze_int) za_nil)))) za_nil))))))) (zss_one (zs_ret ze_bl)) zss_nil))) (zss_cons (zs_if (PW.pt (zw_or (zb_not (zb_val (ze_c1 C_law_outward hr (za_cons (zv 2) (za_cons (zv 5) (za_cons (zv 3) (za_cons (zv 4) za_nil))))))) (zw_or1 (zb_not (zb_val (ze_c1 C_law_put_on hr (za_cons (zv 2) (za_cons (zv 5) (za_cons (zv 3) (za_cons (zv 4) za_nil)))))))))) (zss_one (zs_ret ze_bl)) zss_nil) (zss_one (zs_if (PW.pt (zw_or (zb_not (zb_val (ze_c1 C_law_along hr (za_cons (zv 2) (za_cons (zv 3) (za_cons (zv 4) za_nil)))))) (zw_or1 (zb_not (zb_val (ze_c1 C_law_laid hr (za_cons (zv 2) (za_cons (zv 3) (za_cons (zv 4) za_nil))))))))) (zss_one (zs_ret ze_bl)) zss_nil))))))))) (zss_one (zs_ret ze_bl))), fun ds S Q h => ?_⟩
    obtain ⟨ns, rfl, h⟩ := h
    dsimp only [zstart, List.map, List.length_cons, List.length_nil, Nat.reduceAdd, Nat.reduceSub, List.reduceReplicate, List.cons_append, List.nil_append, List.append_nil, List.set_cons_succ, List.set_cons_zero]
    dsimp only [zTup, zAsgG, zDPut, zwipe, zNeg, List.map_cons, List.map_nil, ztAnd, ztOr, ztNot, ztB, zOp, zCall, zaCons, zaNil, zV, zC, zgName, zgTup, zgsN, zgCons, zgNil, zSeq, zAsg, zIfS, zRet, zDrop_, zNext, List.getElem?_cons_succ, List.getElem?_cons_zero, List.set_cons_succ, List.set_cons_zero]
    refine range_two (ns := ns) rfl fun n => ?_
    refine zLoop_ind (α := Nat) (f := natP) (fun m ρ S' => ∃ o1 o2 o3 o4 o5 o6 o7 : Option D, ρ = [some (.ro ns), o1, o2, o3, o4, o5, o6, o7]) ?_ ?_ (List.range n) _ S ⟨_, _, _, _, _, _, _, rfl⟩
    · rintro ρ S' ⟨o1, o2, o3, o4, o5, o6, o7, rfl⟩
      exact h S'
    rintro k m ρ S' ⟨o1, o2, o3, o4, o5, o6, o7, rfl⟩ ih
    refine ⟨ns, k, rfl, fun i => ⟨i, rfl, fun t S1 ht pot fr1 => ⟨t, rfl, pot, fun ps S2 sh b2 => ⟨t, rfl, b2.1, fun p1 S3 h1 p10 b3 => ⟨t, rfl, b3.1, fun p2 S4 h2 p20 b4 => fun x dx hx => ?_⟩⟩⟩⟩⟩
    have prs : Prs (p1, p2) := ⟨⟨h1.mono (by decide), h2.mono (by decide)⟩, p10, p20⟩
    have hp := sh.pts
    have hle := sh.le
    have htx : t ≠ x := fun e => b4.1.some (by rw [e]; exact hx)
    refine ⟨x, dx, (p1, p2), rfl, Sto.put_same, prs, fun q S5 H5 hq F5 => ⟨⟨_, rfl, rfl⟩, ?_⟩⟩
    have pot5' := b4.1.put (c := .ins (He.ga K "Kept") dx []) htx
    have htq : t ≠ q := fun e => pot5'.some (by rw [e]; exact hq)
    have pot5 := pot5'.frame F5 htx htq
    show zLoop _ _ _ ((ps.map ptP).zipIdx.map fun q => .tuple [.int q.2, q.1]) _ _
    rw [enumP]
    refine zLoop_ind (α := Pt × Nat) (f := fun q => .tuple [.int q.2, ptP q.1]) (fun m ρ S' => ∃ (n : Nat) (el : Option Ln) (hist : List Deed) (o6 o7 : Option D), m = ps.zipIdx.drop n ∧ n ≤ ps.length ∧ hist.length = n ∧ Pot S' t ∧ House S' (He.ga K "Kept") x q dx (p1, p2) (ps.take n) el hist ∧ ((n = 0 ∧ el = none) ∨ ∃ told, Pts (ps.take n) ∧ Told (ps.take n) (p1, p2) told ∧ el = told.getLast?) ∧
      ρ = [some (.ro ns), some (.d (natP k)), some (.ref t), some (.d (ptsP ps)), some (.d (lnP (p1, p2))), some (.ref x), o6, o7]) ?_ ?_ ps.zipIdx _ S5 ⟨0, none, [], o6, o7, rfl, by omega, rfl, pot5, H5, .inl ⟨rfl, rfl⟩, ?_⟩
    · rintro ρ S6 ⟨n, el, hist, o6, o7, e, hn, hh, pot6, H6, hel, rfl⟩
      have hn2 : n = ps.length := by
        have := List.drop_eq_nil_iff.mp e.symm
        rw [List.length_zipIdx] at this
        omega
      subst hn2
      rw [List.take_length] at H6 hel
      have two := Spread.two sh.sp
      rcases hel with ⟨z, _⟩ | ⟨told, _, T, rfl⟩
      · omega
      rcases T with ⟨ns, _⟩ | ⟨_, l, r, z, rfl, R, _⟩
      · exact absurd sh.sp ns
      have e : (r ++ [z]).getLast? = some z := by simp
      rw [e] at H6
      have hz1 : IsPair ps z := (Sg.allPairs_mem ps z).mp (R.mem z (by simp))
      have hz2 := road_best prs.2 hp.ok R
      have go : ∀ (S7 : Sto) (Q7 : D → Sto → Prop), Pot S7 t → House S7 (He.ga K "Kept") x q dx (p1, p2) ps (some z) hist → (∀ S8, Pot S8 t → House S8 (He.ga K "Kept") x q dx (p1, p2) ps (some z) hist → Q7 (.d (.bool true)) S8) → Stays (He.ga K "Kept") t x q dx (p1, p2) ps z hist S7 Q7 :=
        fun S7 Q7 a b c => ⟨a, b, htx, htq, sh, prs, hz1, hz2, by omega, c⟩
      refine ⟨t, x, q, dx, (p1, p2), ps, z, hist, rfl, go _ _ pot6 H6 fun S7 pot7 H7 => zno rfl ⟨t, x, q, dx, (p1, p2), ps, z, hist, rfl, go _ _ pot7 H7 fun S8 pot8 H8 => zno rfl ?_⟩⟩
      refine ⟨t, ps, (p1, p2), rfl, pot8, sh, prs, fun S9 b9 => zno rfl ⟨t, ps, (p1, p2), rfl, b9.1, sh, prs, fun S10 b10 => zno rfl ?_⟩⟩
      exact ih _ _ ⟨_, _, _, _, _, _, _, rfl⟩
    · rintro ⟨p, j⟩ l ρ S6 ⟨n, el, hist, o6, o7, e, hn, hh, pot6, H6, hel, rfl⟩ ih2
      have hlt : n < ps.length := by
        apply Classical.byContradiction
        intro c
        rw [List.drop_eq_nil_of_le (by rw [List.length_zipIdx]; omega)] at e
        cases e
      rw [List.drop_eq_getElem_cons (by rw [List.length_zipIdx]; exact hlt)] at e
      injection e with e1 e2
      rw [List.getElem_zipIdx] at e1
      simp only [Prod.mk.injEq, Nat.zero_add] at e1
      obtain ⟨ep, ej⟩ := e1
      subst ej
      have ek : ps.take j ++ [p] = ps.take (j + 1) := by rw [ep, List.take_append_getElem]
      have np : Pts (ps.take (j + 1)) := take_pts hp (by omega)
      have hsz : ∀ l, el = some l → LnSz l := fun l e => by
        rcases hel with ⟨_, z⟩ | ⟨told, ap, T, z⟩
        · rw [z] at e; cases e
        · rw [z] at e; exact told_sz ap T l e
      refine ⟨rfl, ?_⟩
      dsimp only [zTup, zAsgG, zDPut, zwipe, zNeg, List.map_cons, List.map_nil, ztAnd, ztOr, ztNot, ztB, zOp, zCall, zaCons, zaNil, zV, zC, zgName, zgTup, zgsN, zgCons, zgNil, zSeq, zAsg, zIfS, zRet, zDrop_, zNext, List.getElem?_cons_succ, List.getElem?_cons_zero, List.set_cons_succ, List.set_cons_zero]
      refine zTake_next (i := 3) (j := 6) (n := j) (ps := ps) rfl rfl ?_
      refine ⟨x, dx, _, rfl, H6.sh, rfl, x, q, dx, (p1, p2), ps.take j, el, hist, p, rfl, by rw [List.length_take]; omega, H6, by rw [ek]; exact np, prs, hsz, by omega, fun told S7 T H7 F7 => ?_⟩
      rw [ek] at T H7
      refine ⟨x, q, dx, (p1, p2), _, _, told, rfl, H7, np, prs, T, zno rfl ?_⟩
      exact ih2 _ _ ⟨j + 1, _, _, _, _, e2, hlt, by simp [hh], pot6.frame F7 htx htq, H7, .inr ⟨told, np, T, rfl⟩, rfl⟩
    · rfl
end
end Sl
set_option Elab.async false
set_option linter.all false
set_option maxRecDepth 100000
set_option maxHeartbeats 4000000
namespace Sl
open PySem PySem.Spec PyProof.Rows L2 Z
/-! ### the law's call, over a heap of which it is known that nobody watches -/
/-- an abstract heap that holds the script alone, or nothing -/
theorem start_heap {P : Program} {w : World} {K : PySem.W.Frag} {h : Heap} {a : Addr} {vs : List Value} {ns : List Int} (KX : K.In h) (lst : h.get? a = some { cls := .type "list", data := .seq vs.toArray }) (hin : IntsAre vs ns) (short : ns.length ≤ sizeLine) :
    ∃ H : Hp, Only H ∧ SqL K H a (ns.map V.int) ∧ HOk P w H h ∧ ∀ b, H b = none ∨ (b = a ∧ K.lookup a = none) := by
  have rv := vals_ints hin
  cases q : K.lookup a with
  | some o =>
    have eo : o = { cls := .type "list", data := .seq vs.toArray } := Option.some.inj ((KX a o q).symm.trans lst)
    subst eo
    have hl : vs.toArray.size ≤ sizeLine := by rw [List.size_toArray, hin.length]; exact short
    refine ⟨fun _ => none, fun _ => .inl rfl, .inr ⟨_, vs.toArray, _, q, rfl, rfl, rfl, hl, by simpa using rv⟩, fun b u z => absurd (show (none : Option HO) = some u from z) (by simp), fun _ => .inl rfl⟩
  | none =>
    let H : Hp := fun b => if b = a then some (.frz { cls := .type "list", data := .seq vs.toArray } (.lst (ns.map V.int))) else none
    have Ha : H a = some (.frz { cls := .type "list", data := .seq vs.toArray } (.lst (ns.map V.int))) := if_pos rfl
    have Hn : ∀ b, b ≠ a → H b = none := fun b n => if_neg n
    refine ⟨H, fun b => ?_, .inl (.inr ⟨_, Ha⟩), fun b u z => ?_, fun b => ?_⟩
    · by_cases c : b = a
      · subst c; exact .inr ⟨_, _, Ha⟩
      · exact .inl (Hn b c)
    · by_cases c : b = a
      · subst c
        obtain rfl := Option.some.inj (Ha.symm.trans z)
        exact ⟨lst, by rw [List.length_map]; exact short, vs, _, rv, lst⟩
      · exact nomatch (Hn b c).symm.trans z
    · by_cases c : b = a
      · exact .inr ⟨c, rfl⟩
      · exact .inl (Hn b c)
theorem seer_call {P : Program} {w : World} {K : PySem.W.Frag} {mg mb : Str → Option Value} {k : Nat} {f a : Addr} {fd : FuncData} {x : Str} {sp : Sp} {s : Shared} {vs : List Value} {ns : List Int}
    (KX : K.In s.heap) (nsG : s.heap.Ns mainGlobals mg) (nsB : s.heap.Ns builtinsNs mb) (eqB : ∀ x : Str, x ≠ "__name__" → mb x = bootBuiltins x) (lim : s.heap.NoLimit) (see : s.heap.NoSeer) (gen : s.gens = #[])
    (lst : s.heap.get? a = some { cls := .type "list", data := .seq vs.toArray }) (hin : IntsAre vs ns) (short : ns.length ≤ sizeLine) (room : Room k callerA)
    (keeps : ∀ base : Heap, K.In base → base.Ns mainGlobals mg → base.NoSeer → FnOk P w K mg base CX0 k f fd [x] sp) (bind : ∀ (s : Shared) (u : Value), BindsTo s fd ⟨[u], []⟩ [(x, u)])
    (due : ∀ H : Hp, Only H → SqL K H a (ns.map V.int) → sp [.ref a] H (fun v _ => v = .bl true) fun _ _ _ => False) :
    codeAny (model P w) callerA (.call (.ref f) ⟨[.ref a], []⟩) (fun r s' => r = .ok (.ret (.bool true)) ∧ OldK s.heap s'.heap ∧ s'.os = s.os ∧ AllBare s'.gens) s := by
  obtain ⟨H, only, sq, hok, own⟩ := start_heap (P := P) (w := w) KX lst hin short
  -- what is no list stays seen
  have up : ∀ {b : Addr} {o : Obj}, s.heap.get? b = some o → (b = a → K.lookup a ≠ none ∨ o.data ≠ .seq vs.toArray) → (hidT s.heap H).get? b = some o := fun {b o} e n => by
    rcases own b with z | ⟨rfl, z⟩
    · exact hidT_get e z
    · rcases n rfl with y | y
      · exact absurd z y
      · refine absurd ?_ y
        rw [← Option.some.inj (lst.symm.trans e)]
  have upK : K.In (hidT s.heap H) := fun b o e => up (KX b o e) fun z => .inl (by rw [← z, e]; simp)
  have upN : ∀ {b : Addr} {m : Str → Option Value}, s.heap.Ns b m → (hidT s.heap H).Ns b m := fun hm => by
    obtain ⟨o, es, ep, e, d, r⟩ := hm
    exact ⟨o, es, ep, up e fun _ => .inr (by rw [d]; intro z; cases z), d, r⟩
  have upS : (hidT s.heap H).NoSeer := by
    refine ⟨?_, ?_, ?_, ?_⟩
    · obtain ⟨m, p, q⟩ := see.statics; exact ⟨m, upN p, q⟩
    · obtain ⟨m, p, q⟩ := see.mods; exact ⟨m, upN p, q⟩
    · obtain ⟨m, p, q⟩ := see.imp; exact ⟨m, upN p, q⟩
    · obtain ⟨m, bm, ob, p, q, e, c, d⟩ := see.main
      refine ⟨m, bm, ob, upN p, q, up e fun z => .inr fun y => ?_, c, d⟩
      subst z
      rw [lst] at e
      rw [← Option.some.inj e] at c
      simp at c
  have upL : (hidT s.heap H).NoLimit := by obtain ⟨m, p, q⟩ := lim; exact ⟨m, upN p, q⟩
  have env : Env0 P w K mg (hidT s.heap H) callerA [] s H :=
    { frames := rfl, mod := ⟨upK, upN nsG, ⟨mb, upN nsB, eqB⟩, upL⟩, bs := fun b o e => of_hidT e, bsz := Nat.le_of_eq (hidT_size _ _), funs := trivial, frf := fun b z => (nomatch z), hok := hok, bare := .of_eq gen }
  have run := (keeps _ upK (upN nsG) upS).run callerA [] s H ⟨[.ref a], []⟩ [.ref a] [.ref a] _ _ room env (bind s (.ref a)) (.cons rfl .nil) (due H only sq)
  refine codeAny_mono run fun r s' h => ?_
  match r, h with
  | .error e, h => exact nomatch h
  | .ok .next, h => exact nomatch h
  | .ok .brk, h => exact nomatch h
  | .ok .cont, h => exact nomatch h
  | .ok (.ret u), ⟨v, H', os, bare, un, hok', rel, q⟩ =>
    have q : v = .bl true := q
    subst q
    have eu : u = Value.bool true := rel
    subst eu
    refine ⟨rfl, .of_keep fun b o e => ?_, os, bare⟩
    rcases only b with z | ⟨o2, xs, z⟩
    · exact un.keep b o e z (fun y => (nomatch y)) (fun y => (nomatch y))
    · have e1 := (hok b _ z).1
      have e2 := (hok' b _ (un.frzs b o2 _ z)).1
      rw [e2, ← e1, e]
theorem walk_seer {l : PySem.W.OpenLaw} {n k : Nat} {q : Program} {loose : List Str} {XP : (Str → Option Value) → Heap → Prop} {YP : World → Heap → Prop} {d : DefRec} {x : Str}
    (hn : l.most = some n) (small : n ≤ sizeLine) (plain : d.params.defaults = []) (room : Room k callerA) (imp : importsNone q = true)
    (F : ∀ (w : World) (mg : Str → Option Value) (f : Addr) (h : Heap), YP w h → h.Ns mainGlobals mg → mg d.name = some (.ref f) →
      ∃ (K : PySem.W.Frag) (fd : FuncData) (sp : Sp), K.In h ∧ (∀ (s : Shared) (u : Value), BindsTo s fd ⟨[u], []⟩ [(x, u)]) ∧
        (∀ (H : Hp) (a : Addr) (ns : List Int), Only H → SqL K H a (ns.map V.int) → sp [.ref a] H (fun v _ => v = .bl true) fun _ _ _ => False) ∧
        ∀ base : Heap, K.In base → base.Ns mainGlobals mg → base.NoSeer → FnOk l.prog w K mg base CX0 k f fd [x] sp) :
    PySem.W.WalkO q loose XP YP l.row.toRowW d [] (fun f vs => PySem.call f vs) := by
  refine Att.attach_call hn plain fun w s₀ s₁ mg mb f o pm cd doc a vs ns G Y ho hd hcd hmg hobj hints hlen hg => ?_
  obtain ⟨K, fd, sp, KX, bind, due, keeps⟩ := F w mg f _ Y G.T.g hmg
  exact seer_call KX G.T.g G.T.b G.T.builtins G.T.nolimit (G.T.seer imp) hg hobj hints (Nat.le_trans hlen small) room keeps bind fun H => due H a ns
end Sl
set_option Elab.async false
set_option linter.all false
set_option maxRecDepth 100000
set_option maxHeartbeats 4000000
namespace Sl
open PySem PySem.Spec PyProof.Rows L2 Z
theorem law_ok {P : Program} {w : World} {K : PySem.W.Frag} {mg : Str → Option Value} {base : Heap} (T : Txt fa fn P K mg base) {f : Addr} {fd : FuncData} (F : FunD K d_law.name d_law.qual d_law.params d_law.body d_law.scope [] [] f fd) : FnOk P w K mg base CX0 47 f fd ["_law_script"] (lp K sp_law) := by
  have c_is_whole := C_is_whole (w := w) T 
  have c_common := C_common (w := w) T 
  have c_lowest := C_lowest (w := w) T c_common
  have c_is_fraction := C_is_fraction (w := w) T c_is_whole c_common
  have c_want_fraction := C_want_fraction (w := w) T c_is_fraction
  have c_plus := C_plus (w := w) T c_lowest
  have c_less := C_less (w := w) T c_lowest
  have c_times := C_times (w := w) T c_lowest
  have c_over := C_over (w := w) T c_lowest
  have c_opposite := C_opposite (w := w) T 
  have c_is_below := C_is_below (w := w) T 
  have c_sum_of := C_sum_of (w := w) T c_plus
  have c_least_of := C_least_of (w := w) T c_is_below
  have c_is_above_nought := C_is_above_nought (w := w) T c_is_fraction c_is_below
  have c_is_point := C_is_point (w := w) T c_is_fraction c_is_above_nought
  have c_is_points := C_is_points (w := w) T c_is_point
  have c_is_prices := C_is_prices (w := w) T c_is_above_nought
  have c_is_line := C_is_line (w := w) T c_is_fraction
  have c_want_points := C_want_points (w := w) T c_is_points
  have c_want_prices := C_want_prices (w := w) T c_is_prices
  have c_want_line := C_want_line (w := w) T c_is_line
  have c_are_spread := C_are_spread (w := w) T 
  have c_want_spread := C_want_spread (w := w) T c_want_points c_are_spread
  have c_is_spread := C_is_spread (w := w) T c_want_points c_are_spread
  have c_want_stretch := C_want_stretch (w := w) T c_is_fraction
  have c_tilted := C_tilted (w := w) T c_want_points c_want_line c_plus c_times
  have c_stretched := C_stretched (w := w) T c_want_points c_want_stretch c_times
  have c_standing := C_standing (w := w) T c_plus c_times
  have c_stands := C_stands (w := w) T c_want_line c_want_fraction c_standing
  have c_rise_of_lines := C_rise_of_lines (w := w) T c_less c_standing
  have c_rises := C_rises (w := w) T c_want_points c_want_line c_rise_of_lines
  have c_sums_of := C_sums_of (w := w) T c_rise_of_lines c_plus c_less c_times
  have c_cost_of_lines := C_cost_of_lines (w := w) T c_sums_of c_plus c_times
  have c_is_ahead_lines := C_is_ahead_lines (w := w) T c_is_below
  have c_in_order := C_in_order (w := w) T c_is_ahead_lines
  have c_tilted_line := C_tilted_line (w := w) T c_want_line c_plus
  have c_stretched_line := C_stretched_line (w := w) T c_want_line c_want_stretch c_times c_over
  have c_line_through := C_line_through (w := w) T c_over c_less c_times
  have c_all_pair_lines := C_all_pair_lines (w := w) T c_in_order c_line_through
  have c_pair_lines := C_pair_lines (w := w) T c_want_points c_want_spread c_all_pair_lines
  have c_want_spread_points := C_want_spread_points (w := w) T c_want_points c_want_prices c_want_spread
  have c_cheapest_best := C_cheapest_best (w := w) T c_all_pair_lines c_least_of c_cost_of_lines
  have c_least_cost := C_least_cost (w := w) T c_want_spread_points c_cheapest_best
  have c_corners := C_corners (w := w) T c_want_spread_points c_cheapest_best
  have c_best_line := C_best_line (w := w) T c_want_spread_points c_cheapest_best
  have c_is_best := C_is_best (w := w) T c_want_spread_points c_is_line c_cost_of_lines c_cheapest_best
  have c_do_meet := C_do_meet (w := w) T c_rises
  have c_leads_on := C_leads_on (w := w) T c_is_below c_do_meet c_cost_of_lines
  have c_cheapest_roads := C_cheapest_roads (w := w) T c_is_below c_cost_of_lines
  have c_road := C_road (w := w) T c_want_points c_want_prices c_want_line c_want_spread c_pair_lines c_leads_on c_cheapest_roads
  have c_is_road := C_is_road (w := w) T c_want_points c_want_prices c_pair_lines c_is_best c_is_spread c_leads_on c_is_line
  have c_start_of := C_start_of (w := w) T c_all_pair_lines c_rise_of_lines
  have c_m_init := C_m_init (w := w) T c_want_prices
  have c_m_points := C_m_points (w := w) T 
  have c_m_line := C_m_line (w := w) T 
  have c_m_changed := C_m_changed (w := w) T c_are_spread c_road c_start_of
  have c_m_want_number := C_m_want_number (w := w) T c_is_whole
  have c_m_put := C_m_put (w := w) T c_m_changed c_is_point
  have c_m_take := C_m_take (w := w) T c_m_want_number c_m_changed
  have c_m_move := C_m_move (w := w) T c_m_want_number c_m_changed c_is_point
  have c_m_undo := C_m_undo (w := w) T 
  have c_want_priced_signs := C_want_priced_signs (w := w) T c_want_points c_want_prices
  have c_are_fractions_signs := C_are_fractions_signs (w := w) T c_is_fraction
  have c_sign_ends := C_sign_ends (w := w) T c_opposite c_times
  have c_is_within := C_is_within (w := w) T c_sign_ends c_is_below
  have c_are_signs := C_are_signs (w := w) T c_want_priced_signs c_are_fractions_signs c_is_within
  have c_moment := C_moment (w := w) T c_sum_of c_times
  have c_is_balanced := C_is_balanced (w := w) T c_want_points c_are_fractions_signs c_sum_of c_moment
  have c_sign_off := C_sign_off (w := w) T c_sign_ends c_is_below
  have c_fit := C_fit (w := w) T c_want_priced_signs c_want_line c_rises c_are_signs c_is_balanced c_sign_off
  have c_by_x := C_by_x (w := w) T c_is_below
  have c_filled := C_filled (w := w) T c_less c_is_below c_sum_of c_sign_ends c_plus
  have c_moment_of := C_moment_of (w := w) T c_sum_of c_times
  have c_share_of := C_share_of (w := w) T c_over c_less c_is_below
  have c_balanced_on := C_balanced_on (w := w) T c_by_x c_filled c_share_of c_moment_of c_plus c_times c_less
  have c_signs_of := C_signs_of (w := w) T c_want_priced_signs c_want_line c_want_spread c_balanced_on c_sign_off c_opposite c_sum_of c_moment c_rises
  have c_best_signs := C_best_signs (w := w) T c_want_priced_signs c_want_spread c_signs_of c_best_line
  have c_are_fractions_spots := C_are_fractions_spots (w := w) T c_is_fraction
  have c_is_spots := C_is_spots (w := w) T c_are_fractions_spots
  have c_is_plane := C_is_plane (w := w) T c_are_fractions_spots
  have c_want_spots := C_want_spots (w := w) T c_is_spots
  have c_want_priced_spots := C_want_priced_spots (w := w) T c_want_spots c_want_prices
  have c_want_plane := C_want_plane (w := w) T c_is_plane
  have c_spread_of := C_spread_of (w := w) T c_times c_less
  have c_laid_twice := C_laid_twice (w := w) T c_is_points c_is_fraction
  have c_rise_of_spots := C_rise_of_spots (w := w) T c_less c_plus c_times
  have c_ends_of := C_ends_of (w := w) T c_opposite c_times
  have c_cost_of_spots := C_cost_of_spots (w := w) T c_rise_of_spots c_plus c_times c_ends_of
  have c_plane_cost := C_plane_cost (w := w) T c_want_priced_spots c_want_plane c_cost_of_spots
  have c_triples := C_triples (w := w) T 
  have c_plane_through := C_plane_through (w := w) T c_spread_of c_over c_less c_plus c_times
  have c_is_ahead_planes := C_is_ahead_planes (w := w) T c_is_below
  have c_put_in := C_put_in (w := w) T c_is_ahead_planes
  have c_planes_through_three := C_planes_through_three (w := w) T c_triples c_put_in c_plane_through
  have c_cheapest_planes := C_cheapest_planes (w := w) T c_want_priced_spots c_planes_through_three c_least_of c_cost_of_spots
  have c_least_plane_cost := C_least_plane_cost (w := w) T c_cheapest_planes
  have c_law_low := C_law_low (w := w) T 
  have c_law_plus := C_law_plus (w := w) T c_law_low
  have c_law_less := C_law_less (w := w) T c_law_low
  have c_law_times := C_law_times (w := w) T c_law_low
  have c_law_below := C_law_below (w := w) T 
  have c_law_cell := C_law_cell (w := w) T 
  have c_law_pot := C_law_pot (w := w) T 
  have c_law_draw := C_law_draw (w := w) T 
  have c_law_small := C_law_small (w := w) T c_law_low c_law_draw
  have c_law_some := C_law_some (w := w) T c_law_low c_law_draw
  have c_law_great := C_law_great (w := w) T c_law_draw
  have c_law_above_nought := C_law_above_nought (w := w) T c_law_draw c_law_low c_law_great
  have c_law_far := C_law_far (w := w) T c_law_low c_law_great
  have c_law_stand := C_law_stand (w := w) T c_law_plus c_law_times
  have c_law_rise := C_law_rise (w := w) T c_law_less c_law_stand
  have c_law_is_ahead := C_law_is_ahead (w := w) T c_law_below
  have c_law_spread := C_law_spread (w := w) T 
  have c_law_spot := C_law_spot (w := w) T c_law_plus c_law_small c_law_times c_law_far c_law_draw
  have c_law_spread_ref := C_law_spread_ref (w := w) T 
  have c_law_points := C_law_points (w := w) T c_law_draw c_law_small c_law_spot c_law_above_nought
  have c_law_spread_points := C_law_spread_points (w := w) T c_law_points c_law_spread_ref c_law_plus c_law_small c_law_draw
  have c_law_short_points := C_law_short_points (w := w) T c_law_spread_points
  have c_law_cost := C_law_cost (w := w) T c_law_rise c_law_plus c_law_less c_law_times
  have c_law_sorted := C_law_sorted (w := w) T c_law_is_ahead
  have c_law_outer := C_law_outer (w := w) T c_law_rise
  have c_law_told_right := C_law_told_right (w := w) T c_m_points c_is_best c_law_spread c_is_road c_m_line c_pair_lines
  have c_law_outward := C_law_outward (w := w) T c_law_outer c_m_move c_m_undo c_corners c_m_line c_law_draw c_law_plus c_law_times c_law_told_right c_is_best c_fit c_m_points c_law_some c_best_signs
  have c_law_put_on := C_law_put_on (w := w) T c_law_small c_m_put c_m_take c_m_undo c_m_line c_least_cost c_stands c_law_some c_law_draw c_law_told_right c_is_best c_fit c_m_points c_best_signs
  have c_law_along := C_law_along (w := w) T c_law_small c_tilted_line c_corners c_law_sorted c_law_some c_law_times c_stretched_line c_tilted c_stretched c_law_draw
  have c_law_laid := C_law_laid (w := w) T c_law_small c_law_plus c_laid_twice c_pair_lines c_law_spread c_law_some c_least_plane_cost c_law_times c_law_draw c_law_far c_stretched c_least_cost c_plane_cost c_law_cost
  exact C_law (w := w) T c_law_pot c_law_short_points c_m_init c_law_cell c_law_some c_law_told_right c_law_outward c_law_put_on c_law_along c_law_laid c_m_put F
/-- the text's facts, off what the head tells -/
theorem txt_of {P : Program} {K : PySem.W.Frag} {base : Heap} {mg : Str → Option Value} (d : He.SaysD fa fn K) (m : ex K = true) (X : K.In base) (G : base.Ns mainGlobals mg) (see : base.NoSeer) (tree : P.given.tree = none) : Txt fa fn P K mg base := by
  have m : (He.tupB K "NOUGHT" [.int 0, .int 1] && He.tupB K "ONE" [.int 1, .int 1]) = true := m
  obtain ⟨m1, m2⟩ := He.ba m
  exact {
    says := d
    glo := fun x k => He.glo_ok X G (d.facts k)
    free := fun x k => He.free_ok X G (d.facts k)
    int := fun x i k => He.int_ok X G (d.facts k)
    cls := fun x k => He.cls_ok (d.facts k)
    noat := fun x f k => He.noat_ok (d.facts k)
    meth := fun x m k => He.meth_ok (d.facts k)
    mkr := fun x k => He.mkr_ok (d.facts k)
    nought := fun H => He.tupB_ok m1 H
    one := fun H => He.tupB_ok m2 H
    seer := see
    tree := tree }
/-- the law's promise, of the script -/
theorem law_due {K : PySem.W.Frag} (H : Hp) (a : Addr) (ns : List Int) (hS : SqL K H a (ns.map V.int)) : lp K sp_law [.ref a] H (fun v _ => v = .bl true) fun _ _ _ => False :=
  ⟨H, fun _ => none, [.ro ns], fun d _ => d = .d (.bool true), ⟨fun _ _ e => e, fun _ _ e => nomatch e⟩, .cons ⟨a, rfl, hS⟩ .nil, ⟨ns, rfl, fun _ => rfl⟩, fun d S' v G' H' e _ r => by
    subst e
    cases r
    rfl⟩
theorem law_end (w : World) (mg : Str → Option Value) (f : Addr) (h : Heap) (Y : hkL.says w h) (G : h.Ns mainGlobals mg) (e : mg "law" = some (.ref f)) :
    ∃ (K : PySem.W.Frag) (fd : FuncData) (sp : Sp), K.In h ∧ (∀ (s : Shared) (u : Value), BindsTo s fd ⟨[u], []⟩ [("_law_script", u)]) ∧
      (∀ (H : Hp) (a : Addr) (ns : List Int), Only H → SqL K H a (ns.map V.int) → sp [.ref a] H (fun v _ => v = .bl true) fun _ _ _ => False) ∧
      ∀ base : Heap, K.In base → base.Ns mainGlobals mg → base.NoSeer → FnOk (PySem.Challenge.rw_signlines_k98_whole_moved_put_on_and_lai).prog w K mg base CX0 47 f fd ["_law_script"] sp := by
  obtain ⟨K, KX, c, m⟩ := Y
  obtain ⟨fd, F⟩ := He.SaysD.def_ c 125 (d := d_law) rfl
  have e1 : d_law.dvs K = [] := rfl
  have e0 : d_law.kws K = [] := rfl
  have e2 : He.fAd K d_law.at_ = He.ga K "law" := rfl
  rw [e1, e0, e2] at F
  have g := He.glo_ok KX G (He.SaysD.fact c 131 (f := .glo "law") rfl)
  have ef : He.ga K "law" = f := by
    rw [g] at e
    injection e with e
    injection e
  rw [ef] at F
  have b := FunD.bindsA (ps := ["_law_script"]) F fun _ _ _ _ _ _ us hl => match us, hl with | [_], _ => rfl
  exact ⟨K, fd, lp K sp_law, KX, fun s v => b s [v] rfl, fun H a ns _ hS => law_due H a ns hS, fun base X2 G2 see => law_ok (txt_of c m X2 G2 see rfl) F⟩
end Sl
open PySem PySem.W PySem.Calls PyProof.Rows
set_option Elab.async false
set_option maxRecDepth 100000 in
set_option maxHeartbeats 0 in
theorem PySem.Challenge.cw_signlines_k98_whole_moved_put_on_and_lai_holds : PySem.Challenge.rw_signlines_k98_whole_moved_put_on_and_lai.Holds := by
  w_on; o_law
  refine HandSHeadRun.head_any (r := OpenLaw.row PySem.Challenge.rw_signlines_k98_whole_moved_put_on_and_lai) (q := view (OpenLaw.row PySem.Challenge.rw_signlines_k98_whole_moved_put_on_and_lai).prog [160]) (H := Sl.hkL) (ob := Sl.obL) (M := 20000) (loose := Sl.nm) (d := HandSHeadRun.topDef (OpenLaw.row PySem.Challenge.rw_signlines_k98_whole_moved_put_on_and_lai).prog 160) (kwd := []) Sl.obL_eq
    (by kernel_rfl) (fun s => by kernel_rfl) Sl.run (by kernel_rfl) (by kernel_rfl) (by kernel_rfl) (by rfl) (by first | assumption | decide +kernel) (by decide +kernel) ⟨rfl, rfl, rfl, rfl, rfl, by decide +kernel⟩ ?hw ?hc
  case hw => w_witness2
  case hc =>
    refine Sl.walk_seer (l := PySem.Challenge.rw_signlines_k98_whole_moved_put_on_and_lai) (n := 63) (k := 47) (x := "_law_script") rfl (by decide) (by kernel_rfl) ⟨rfl, by decide, by decide⟩ (by kernel_rfl) ?F
    intro w mg f h Y G hmg0
    have hmg : mg ("law" : PySem.Str) = some (.ref f) := by
      have e : (HandSHeadRun.topDef (OpenLaw.row PySem.Challenge.rw_signlines_k98_whole_moved_put_on_and_lai).prog 160).name = ("law" : PySem.Str) := by kernel_rfl
      rw [← e]
      exact hmg0
    exact Sl.law_end w mg f h Y G hmg
