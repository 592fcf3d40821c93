import PyProof.Rows.All
import Wide.All
import OpenK.AllK
import Wide.FinOn
import HandS.ForMost
import HandS.Exc
import HandS.ExcOwn
import HandS.TryOnly
import HandS.WordsExc
import HandS.Strs
import HandS.SetKeys
import HandS.DictComp
import HandS.Conv
import HandS.TupAny
import HandS.Wide
import HandS.IsInst
import HandS.Zip
import HandS.NoneIn
import HandS.Style
import HandS.RaiseMore
import HandS.ExcIs
import HandS.ExcValue
import HandS.Defaults
import HandS.RevTup
import HandS.Walk
import KE.GoesEnum
import KE.KeyNested
import KE.KRevSl
import PyProof.ReprRoads
import PyProof.ReprLen
import PySem.Challenge.RW_roundpost_k47_whole_no_rota_of_a_tree_is
set_option Elab.async false
set_option linter.all false
set_option maxRecDepth 100000
set_option maxHeartbeats 200000
namespace R
open PySem PySem.Spec PyProof.Rows L2
def topS (i : Nat) : Stmt := PySem.Challenge.pw_roundpost_k47_whole_no_rota_of_a_tree_is.main.body.getD i (.Pass ⟨0, 0, 0, 0⟩)
abbrev s_names_of_roads : Stmt := topS 2
abbrev s_other_end : Stmt := topS 3
abbrev s_steps_from : Stmt := topS 4
abbrev s_distance_rows : Stmt := topS 5
abbrev s_first_way : Stmt := topS 6
abbrev s_has_one_piece : Stmt := topS 7
abbrev s_is_tree_web : Stmt := topS 8
abbrev s_way_places : Stmt := topS 9
abbrev s_is_name : Stmt := topS 22
abbrev s_is_row_of : Stmt := topS 23
abbrev s_are_of : Stmt := topS 24
abbrev s_are_names : Stmt := topS 29
abbrev s_is_road : Stmt := topS 30
abbrev s_is_web_form : Stmt := topS 31
abbrev s_need_web : Stmt := topS 32
abbrev s_need_one_piece : Stmt := topS 33
abbrev s_need_tree : Stmt := topS 34
abbrev s_is_rota : Stmt := topS 35
abbrev s_need_rota : Stmt := topS 36
abbrev s_is_round : Stmt := topS 37
abbrev s_need_week : Stmt := topS 38
abbrev s_round_of : Stmt := topS 39
abbrev s_ends_by_road : Stmt := topS 41
abbrev s_news_places : Stmt := topS 42
abbrev s_arrivals_from : Stmt := topS 43
abbrev s_days_from : Stmt := topS 44
abbrev s_day_rows : Stmt := topS 45
abbrev s_exchanged : Stmt := topS 47
abbrev s_end_numbers : Stmt := topS 49
abbrev s_named : Stmt := topS 50
abbrev s_longest : Stmt := topS 51
abbrev s_least_days : Stmt := topS 52
abbrev s_middle_of : Stmt := topS 53
abbrev s_rota_by_levels : Stmt := topS 54
abbrev s_greatest_days : Stmt := topS 55
abbrev s_better_index : Stmt := topS 56
abbrev s_best_tree_rota : Stmt := topS 59
abbrev s_least_slowest : Stmt := topS 60
abbrev s_kept_best : Stmt := topS 61
abbrev s_slowest : Stmt := topS 63
abbrev s_law_feed : Stmt := topS 65
abbrev s_law_draw : Stmt := topS 66
abbrev s_law_one : Stmt := topS 67
abbrev s_law_mixed : Stmt := topS 68
abbrev s_law_names : Stmt := topS 69
abbrev s_law_sized : Stmt := topS 70
abbrev s_law_table : Stmt := topS 71
abbrev s_law_rotas : Stmt := topS 72
abbrev s_law_orders : Stmt := topS 73
abbrev s_law_unlike : Stmt := topS 74
abbrev s_law_distances : Stmt := topS 75
abbrev s_law_no_web : Stmt := topS 76
abbrev s_law_bad_web : Stmt := topS 77
abbrev s_law_bad_tree : Stmt := topS 78
abbrev s_law_is_best : Stmt := topS 79
abbrev s_law_flags : Stmt := topS 80
abbrev s_law_refused_right : Stmt := topS 81
abbrev s_law_greatest : Stmt := topS 82
abbrev s_law_small_right : Stmt := topS 83
abbrev s_law_great_right : Stmt := topS 84
abbrev s_law : Stmt := topS 85
abbrev n_names_of_roads : List Str := ["web", "road"]
theorem sc_names_of_roads : FnScope n_names_of_roads ["web"] (defScope s_names_of_roads) := ⟨rfl, rfl, rfl, by decide +kernel, rfl, by decide +kernel, by decide +kernel⟩
abbrev n_other_end : List Str := ["road", "place"]
theorem sc_other_end : FnScope n_other_end ["road", "place"] (defScope s_other_end) := ⟨rfl, rfl, rfl, by decide +kernel, rfl, by decide +kernel, by decide +kernel⟩
abbrev n_steps_from : List Str := ["web", "place", "found", "left", "here", "road"]
theorem sc_steps_from : FnScope n_steps_from ["web", "place"] (defScope s_steps_from) := ⟨rfl, rfl, rfl, by decide +kernel, rfl, by decide +kernel, by decide +kernel⟩
abbrev n_distance_rows : List Str := ["web", "found", "place", "steps", "other"]
theorem sc_distance_rows : FnScope n_distance_rows ["web"] (defScope s_distance_rows) := ⟨rfl, rfl, rfl, by decide +kernel, rfl, by decide +kernel, by decide +kernel⟩
abbrev n_first_way : List Str := ["web", "place", "other", "steps", "found", "here", "nearer", "road"]
theorem sc_first_way : FnScope n_first_way ["web", "place", "other"] (defScope s_first_way) := ⟨rfl, rfl, rfl, by decide +kernel, rfl, by decide +kernel, by decide +kernel⟩
abbrev n_has_one_piece : List Str := ["web"]
theorem sc_has_one_piece : FnScope n_has_one_piece ["web"] (defScope s_has_one_piece) := ⟨rfl, rfl, rfl, by decide +kernel, rfl, by decide +kernel, by decide +kernel⟩
abbrev n_is_tree_web : List Str := ["web"]
theorem sc_is_tree_web : FnScope n_is_tree_web ["web"] (defScope s_is_tree_web) := ⟨rfl, rfl, rfl, by decide +kernel, rfl, by decide +kernel, by decide +kernel⟩
abbrev n_way_places : List Str := ["web", "place", "way", "roads", "found", "here", "name", "road"]
theorem sc_way_places : FnScope n_way_places ["web", "place", "way"] (defScope s_way_places) := ⟨rfl, rfl, rfl, by decide +kernel, rfl, by decide +kernel, by decide +kernel⟩
abbrev n_is_name : List Str := ["thing", "sign"]
theorem sc_is_name : FnScope n_is_name ["thing"] (defScope s_is_name) := ⟨rfl, rfl, rfl, by decide +kernel, rfl, by decide +kernel, by decide +kernel⟩
abbrev n_is_row_of : List Str := ["thing", "least", "most"]
theorem sc_is_row_of : FnScope n_is_row_of ["thing", "least", "most"] (defScope s_is_row_of) := ⟨rfl, rfl, rfl, by decide +kernel, rfl, by decide +kernel, by decide +kernel⟩
abbrev n_are_of : List Str := ["thing", "names", "part"]
theorem sc_are_of : FnScope n_are_of ["thing", "names"] (defScope s_are_of) := ⟨rfl, rfl, rfl, by decide +kernel, rfl, by decide +kernel, by decide +kernel⟩
abbrev n_are_names : List Str := ["thing", "name"]
theorem sc_are_names : FnScope n_are_names ["thing"] (defScope s_are_names) := ⟨rfl, rfl, rfl, by decide +kernel, rfl, by decide +kernel, by decide +kernel⟩
abbrev n_is_road : List Str := ["thing", "places"]
theorem sc_is_road : FnScope n_is_road ["thing", "places"] (defScope s_is_road) := ⟨rfl, rfl, rfl, by decide +kernel, rfl, by decide +kernel, by decide +kernel⟩
abbrev n_is_web_form : List Str := ["thing", "road"]
theorem sc_is_web_form : FnScope n_is_web_form ["thing"] (defScope s_is_web_form) := ⟨rfl, rfl, rfl, by decide +kernel, rfl, by decide +kernel, by decide +kernel⟩
abbrev n_need_web : List Str := ["web"]
theorem sc_need_web : FnScope n_need_web ["web"] (defScope s_need_web) := ⟨rfl, rfl, rfl, by decide +kernel, rfl, by decide +kernel, by decide +kernel⟩
abbrev n_need_one_piece : List Str := ["web"]
theorem sc_need_one_piece : FnScope n_need_one_piece ["web"] (defScope s_need_one_piece) := ⟨rfl, rfl, rfl, by decide +kernel, rfl, by decide +kernel, by decide +kernel⟩
abbrev n_need_tree : List Str := ["web"]
theorem sc_need_tree : FnScope n_need_tree ["web"] (defScope s_need_tree) := ⟨rfl, rfl, rfl, by decide +kernel, rfl, by decide +kernel, by decide +kernel⟩
abbrev n_is_rota : List Str := ["web", "thing"]
theorem sc_is_rota : FnScope n_is_rota ["web", "thing"] (defScope s_is_rota) := ⟨rfl, rfl, rfl, by decide +kernel, rfl, by decide +kernel, by decide +kernel⟩
abbrev n_need_rota : List Str := ["web", "rota"]
theorem sc_need_rota : FnScope n_need_rota ["web", "rota"] (defScope s_need_rota) := ⟨rfl, rfl, rfl, by decide +kernel, rfl, by decide +kernel, by decide +kernel⟩
abbrev n_is_round : List Str := ["web", "thing"]
theorem sc_is_round : FnScope n_is_round ["web", "thing"] (defScope s_is_round) := ⟨rfl, rfl, rfl, by decide +kernel, rfl, by decide +kernel, by decide +kernel⟩
abbrev n_need_week : List Str := ["web", "week", "one"]
theorem sc_need_week : FnScope n_need_week ["web", "week"] (defScope s_need_week) := ⟨rfl, rfl, rfl, by decide +kernel, rfl, by decide +kernel, by decide +kernel⟩
abbrev n_round_of : List Str := ["week", "day"]
theorem sc_round_of : FnScope n_round_of ["week", "day"] (defScope s_round_of) := ⟨rfl, rfl, rfl, by decide +kernel, rfl, by decide +kernel, by decide +kernel⟩
abbrev n_ends_by_road : List Str := ["web", "name", "one", "other"]
theorem sc_ends_by_road : FnScope n_ends_by_road ["web"] (defScope s_ends_by_road) := ⟨rfl, rfl, rfl, by decide +kernel, rfl, by decide +kernel, by decide +kernel⟩
abbrev n_news_places : List Str := ["web", "week", "place", "ends", "walked", "found", "before", "one", "other", "row", "road"]
theorem sc_news_places : FnScope n_news_places ["web", "week", "place"] (defScope s_news_places) := ⟨rfl, rfl, rfl, by decide +kernel, rfl, by decide +kernel, by decide +kernel⟩
abbrev n_arrivals_from : List Str := ["web", "week", "place", "moment", "missed", "ends", "many", "found", "day", "first", "index", "road", "one", "other", "name"]
theorem sc_arrivals_from : FnScope n_arrivals_from ["web", "week", "place", "moment", "missed"] (defScope s_arrivals_from) := ⟨rfl, rfl, rfl, by decide +kernel, rfl, by decide +kernel, by decide +kernel⟩
abbrev n_days_from : List Str := ["web", "week", "place", "arrivals", "found", "moment"]
theorem sc_days_from : FnScope n_days_from ["web", "week", "place"] (defScope s_days_from) := ⟨rfl, rfl, rfl, by decide +kernel, rfl, by decide +kernel, by decide +kernel⟩
abbrev n_day_rows : List Str := ["web", "week", "place"]
theorem sc_day_rows : FnScope n_day_rows ["web", "week"] (defScope s_day_rows) := ⟨rfl, rfl, rfl, by decide +kernel, rfl, by decide +kernel, by decide +kernel⟩
abbrev n_exchanged : List Str := ["rota", "index"]
theorem sc_exchanged : FnScope n_exchanged ["rota", "index"] (defScope s_exchanged) := ⟨rfl, rfl, rfl, by decide +kernel, rfl, by decide +kernel, by decide +kernel⟩
abbrev n_end_numbers : List Str := ["web", "name", "one", "other"]
theorem sc_end_numbers : FnScope n_end_numbers ["web"] (defScope s_end_numbers) := ⟨rfl, rfl, rfl, by decide +kernel, rfl, by decide +kernel, by decide +kernel⟩
abbrev n_named : List Str := ["web", "numbers", "names", "number"]
theorem sc_named : FnScope n_named ["web", "numbers"] (defScope s_named) := ⟨rfl, rfl, rfl, by decide +kernel, rfl, by decide +kernel, by decide +kernel⟩
abbrev n_longest : List Str := ["web", "rows", "far", "at", "row"]
theorem sc_longest : FnScope n_longest ["web"] (defScope s_longest) := ⟨rfl, rfl, rfl, by decide +kernel, rfl, by decide +kernel, by decide +kernel⟩
abbrev n_least_days : List Str := ["web"]
theorem sc_least_days : FnScope n_least_days ["web"] (defScope s_least_days) := ⟨rfl, rfl, rfl, by decide +kernel, rfl, by decide +kernel, by decide +kernel⟩
abbrev n_middle_of : List Str := ["web", "far", "place", "other", "places"]
theorem sc_middle_of : FnScope n_middle_of ["web"] (defScope s_middle_of) := ⟨rfl, rfl, rfl, by decide +kernel, rfl, by decide +kernel, by decide +kernel⟩
abbrev n_rota_by_levels : List Str := ["web", "middle", "rows", "odd", "even", "number", "one", "other", "level", "place", "at"]
theorem sc_rota_by_levels : FnScope n_rota_by_levels ["web"] (defScope s_rota_by_levels) := ⟨rfl, rfl, rfl, by decide +kernel, rfl, by decide +kernel, by decide +kernel⟩
abbrev n_greatest_days : List Str := ["web", "rota", "row"]
theorem sc_greatest_days : FnScope n_greatest_days ["web", "rota"] (defScope s_greatest_days) := ⟨rfl, rfl, rfl, by decide +kernel, rfl, by decide +kernel, by decide +kernel⟩
abbrev n_better_index : List Str := ["web", "rota", "days", "index"]
theorem sc_better_index : FnScope n_better_index ["web", "rota", "days"] (defScope s_better_index) := ⟨rfl, rfl, rfl, by decide +kernel, rfl, by decide +kernel, by decide +kernel⟩
abbrev n_best_tree_rota : List Str := ["web"]
theorem sc_best_tree_rota : FnScope n_best_tree_rota ["web"] (defScope s_best_tree_rota) := ⟨rfl, rfl, rfl, by decide +kernel, rfl, by decide +kernel, by decide +kernel⟩
abbrev n_least_slowest : List Str := ["web", "rota"]
theorem sc_least_slowest : FnScope n_least_slowest ["web"] (defScope s_least_slowest) := ⟨rfl, rfl, rfl, by decide +kernel, rfl, by decide +kernel, by decide +kernel⟩
abbrev n_kept_best : List Str := ["web", "rota", "days"]
theorem sc_kept_best : FnScope n_kept_best ["web", "rota"] (defScope s_kept_best) := ⟨rfl, rfl, rfl, by decide +kernel, rfl, by decide +kernel, by decide +kernel⟩
abbrev n_slowest : List Str := ["web", "week", "best", "place", "row", "other", "day"]
theorem sc_slowest : FnScope n_slowest ["web", "week"] (defScope s_slowest) := ⟨rfl, rfl, rfl, by decide +kernel, rfl, by decide +kernel, by decide +kernel⟩
abbrev n_law_feed : List Str := ["_law_script", "_law_k", "_law_cell"]
theorem sc_law_feed : FnScope n_law_feed ["_law_script", "_law_k"] (defScope s_law_feed) := ⟨rfl, rfl, rfl, by decide +kernel, rfl, by decide +kernel, by decide +kernel⟩
abbrev n_law_draw : List Str := ["_law_feed_here", "_law_many", "_law_rest", "_law_got", "_law_stir"]
theorem sc_law_draw : FnScope n_law_draw ["_law_feed_here", "_law_many"] (defScope s_law_draw) := ⟨rfl, rfl, rfl, by decide +kernel, rfl, by decide +kernel, by decide +kernel⟩
abbrev n_law_one : List Str := ["_law_feed_here", "_law_things"]
theorem sc_law_one : FnScope n_law_one ["_law_feed_here", "_law_things"] (defScope s_law_one) := ⟨rfl, rfl, rfl, by decide +kernel, rfl, by decide +kernel, by decide +kernel⟩
abbrev n_law_mixed : List Str := ["_law_feed_here", "_law_things", "_law_pool", "_law_got", "_law_turn"]
theorem sc_law_mixed : FnScope n_law_mixed ["_law_feed_here", "_law_things"] (defScope s_law_mixed) := ⟨rfl, rfl, rfl, by decide +kernel, rfl, by decide +kernel, by decide +kernel⟩
abbrev n_law_names : List Str := ["_law_feed_here", "_law_many"]
theorem sc_law_names : FnScope n_law_names ["_law_feed_here", "_law_many"] (defScope s_law_names) := ⟨rfl, rfl, rfl, by decide +kernel, rfl, by decide +kernel, by decide +kernel⟩
abbrev n_law_sized : List Str := ["_law_feed_here", "_law_many", "_law_more", "_law_shape", "_law_names_here", "_law_ties", "_law_at", "_law_back", "_law_turn", "_law_one_here", "_law_roads", "_law_tie", "_law_road"]
theorem sc_law_sized : FnScope n_law_sized ["_law_feed_here", "_law_many", "_law_more"] (defScope s_law_sized) := ⟨rfl, rfl, rfl, by decide +kernel, rfl, by decide +kernel, by decide +kernel⟩
abbrev n_law_table : List Str := ["_law_web", "_law_rota", "_law_road", "_law_ends", "_law_known", "_law_day", "_law_one_here", "_law_other", "_law_here", "_law_there", "_law_source", "_law_at"]
theorem sc_law_table : FnScope n_law_table ["_law_web", "_law_rota"] (defScope s_law_table) := ⟨rfl, rfl, rfl, by decide +kernel, rfl, by decide +kernel, by decide +kernel⟩
abbrev n_law_rotas : List Str := ["_law_web", "_law_got", "_law_turn", "_law_longer", "_law_row", "_law_road"]
theorem sc_law_rotas : FnScope n_law_rotas ["_law_web"] (defScope s_law_rotas) := ⟨rfl, rfl, rfl, by decide +kernel, rfl, by decide +kernel, by decide +kernel⟩
abbrev n_law_orders : List Str := ["_law_web", "_law_rota", "_law_ends", "_law_road", "_law_place"]
theorem sc_law_orders : FnScope n_law_orders ["_law_web", "_law_rota"] (defScope s_law_orders) := ⟨rfl, rfl, rfl, by decide +kernel, rfl, by decide +kernel, by decide +kernel⟩
abbrev n_law_unlike : List Str := ["_law_web", "_law_got", "_law_rota", "_law_orders_here"]
theorem sc_law_unlike : FnScope n_law_unlike ["_law_web"] (defScope s_law_unlike) := ⟨rfl, rfl, rfl, by decide +kernel, rfl, by decide +kernel, by decide +kernel⟩
abbrev n_law_distances : List Str := ["_law_web", "_law_got", "_law_place", "_law_far", "_law_border", "_law_turn", "_law_more", "_law_road", "_law_one_here", "_law_other", "_law_here", "_law_there"]
theorem sc_law_distances : FnScope n_law_distances ["_law_web"] (defScope s_law_distances) := ⟨rfl, rfl, rfl, by decide +kernel, rfl, by decide +kernel, by decide +kernel⟩
abbrev n_law_no_web : List Str := ["_law_feed_here", "_law_web", "_law_places", "_law_roads", "_law_one_here", "_law_new", "_law_some"]
theorem sc_law_no_web : FnScope n_law_no_web ["_law_feed_here", "_law_web"] (defScope s_law_no_web) := ⟨rfl, rfl, rfl, by decide +kernel, rfl, by decide +kernel, by decide +kernel⟩
abbrev n_law_bad_web : List Str := ["_law_feed_here", "_law_web", "_law_places", "_law_roads", "_law_twins", "_law_road", "_law_k"]
theorem sc_law_bad_web : FnScope n_law_bad_web ["_law_feed_here", "_law_web"] (defScope s_law_bad_web) := ⟨rfl, rfl, rfl, by decide +kernel, rfl, by decide +kernel, by decide +kernel⟩
abbrev n_law_bad_tree : List Str := ["_law_feed_here", "_law_web", "_law_one_here", "_law_other", "_law_ends", "_law_road"]
theorem sc_law_bad_tree : FnScope n_law_bad_tree ["_law_feed_here", "_law_web"] (defScope s_law_bad_tree) := ⟨rfl, rfl, rfl, by decide +kernel, rfl, by decide +kernel, by decide +kernel⟩
abbrev n_law_is_best : List Str := ["_law_web", "_law_rota", "_law_far", "_law_road", "_law_row"]
theorem sc_law_is_best : FnScope n_law_is_best ["_law_web", "_law_rota"] (defScope s_law_is_best) := ⟨rfl, rfl, rfl, by decide +kernel, rfl, by decide +kernel, by decide +kernel⟩
abbrev n_law_flags : List Str := ["_law_web", "_law_caught", "e"]
theorem sc_law_flags : FnScope n_law_flags ["_law_web"] (defScope s_law_flags) := ⟨rfl, rfl, rfl, by decide +kernel, rfl, by decide +kernel, by decide +kernel⟩
abbrev n_law_refused_right : List Str := ["_law_feed_here", "_law_web", "_law_bad", "_law_is_web", "_law_many"]
theorem sc_law_refused_right : FnScope n_law_refused_right ["_law_feed_here", "_law_web"] (defScope s_law_refused_right) := ⟨rfl, rfl, rfl, by decide +kernel, rfl, by decide +kernel, by decide +kernel⟩
abbrev n_law_greatest : List Str := ["_law_web", "_law_rota", "_law_row"]
theorem sc_law_greatest : FnScope n_law_greatest ["_law_web", "_law_rota"] (defScope s_law_greatest) := ⟨rfl, rfl, rfl, by decide +kernel, rfl, by decide +kernel, by decide +kernel⟩
abbrev n_law_small_right : List Str := ["_law_feed_here", "_law_web", "_law_many", "_law_best", "_law_far", "_law_rota", "_law_row"]
theorem sc_law_small_right : FnScope n_law_small_right ["_law_feed_here", "_law_web"] (defScope s_law_small_right) := ⟨rfl, rfl, rfl, by decide +kernel, rfl, by decide +kernel, by decide +kernel⟩
abbrev n_law_great_right : List Str := ["_law_feed_here", "_law_web", "_law_best", "_law_names_here", "_law_least", "_law_rotas_here", "_law_turn", "_law_at", "_law_rota", "_law_days", "_law_road"]
theorem sc_law_great_right : FnScope n_law_great_right ["_law_feed_here", "_law_web"] (defScope s_law_great_right) := ⟨rfl, rfl, rfl, by decide +kernel, rfl, by decide +kernel, by decide +kernel⟩
abbrev n_law : List Str := ["_law_script", "_law_k", "_law_feed_here", "_law_turn", "_law_web"]
theorem sc_law : FnScope n_law ["_law_script"] (defScope s_law) := ⟨rfl, rfl, rfl, by decide +kernel, rfl, by decide +kernel, by decide +kernel⟩
end R
set_option maxHeartbeats 200000
namespace R
open PySem PySem.Spec PyProof.Rows L2
/-! ### the defs of the text -/
/-- the def x (its statement st) stands behind the top -/
def DefAt (K : PySem.W.Frag) (mg : Str → Option Value) (x : Str) (st : Stmt) (ps : List Str) : Prop :=
  ∃ f fd, Fun K x x st f fd ∧ Binds K fd ps [] ∧ mg x = some (.ref f)
theorem df_mk {K : PySem.W.Frag} {h : Heap} {mg : Str → Option Value} {x : Str} {st : Stmt} {ps : List Str} {f : Addr} {oc : Value} {od an : Option Addr} {osl : Array (Option Value)} {kV doc pm cdv ct : Value} (X : K.In h) (G : h.Ns mainGlobals mg)
    (a : PySem.W.nsIn K mainGlobals x = some (some (.ref f)))
    (l : K.lookup f = some ⟨oc, od, .func (PySem.W.fnOf x x (defArgs st) (defBody st) (defScope st) .none kV doc pm an cdv ct), osl⟩)
    (c : PySem.W.codeIn K cdv x = true) (k : PySem.W.keepIn K (.ref f) = true)
    (b : ∀ (kV doc pm : Value) (an : Option Addr) (cdv ct : Value) (us : List Value), us.length = ps.length → bindArgs (PySem.W.fnOf x x (defArgs st) (defBody st) (defScope st) .none kV doc pm an cdv ct) ⟨us, []⟩ = pure (ps.zip us)) : DefAt K mg x st ps := by
  have F := fun_mk (st := st) l c k
  exact ⟨f, _, F, F.binds b, PySem.W.mg_of X G a⟩
/-- the def x keeps the promise sp -/
def Ok (P : Program) (w : World) (K : PySem.W.Frag) (mg : Str → Option Value) (base : Heap) (CX : CXT) (k : Nat) (x : Str) (ps : List Str) (sp : Sp) : Prop :=
  ∃ f fd, mg x = some (.ref f) ∧ PySem.W.keepIn K (.ref f) = true ∧ Binds K fd ps [] ∧ FnOk P w K mg base CX k f fd ps sp
section
variable {P : Program} {w : World} {K : PySem.W.Frag} {mg : Str → Option Value} {base : Heap}
theorem ok_of {x : Str} {st : Stmt} {N ps : List Str} {k : Nat} {sp : Sp} (F : DefAt K mg x st ps) (S : FnScope N ps (defScope st)) (len : ∀ vs H Q E, sp vs H Q E → vs.length = ps.length)
    (hbody : ∀ (f : Addr) (cdv : Value) (A : Around) (outer : List Env) (s : Shared) (H : Hp) (vs : List V) (Q : VK) (E : XK), Room k (A.deeper (envOfC x (defScope st) s.heap.objs.size f cdv)) → sp vs H Q E →
      ∃ t, PSs (cxOf CX0 P w K mg base N x (defScope st) f cdv A outer s H E).nox (defBody st) t ∧ t { nx := fun _ H' => Q .non H', rt := Q } (start N vs) H) : Ok P w K mg base CX0 (k + 1) x ps sp := by
  obtain ⟨f, fd, F1, b, g⟩ := F
  exact ⟨f, fd, g, F1.kp, b, F1.ok S len fun cdv A outer s H vs Q E => hbody f cdv A outer s H vs Q E⟩
theorem okX_of {x : Str} {st : Stmt} {N ps : List Str} {k : Nat} {sp : Sp} (F : DefAt K mg x st ps) (S : FnScope N ps (defScope st)) (len : ∀ vs H Q E, sp vs H Q E → vs.length = ps.length)
    (hbody : ∀ (f : Addr) (cdv : Value) (A : Around) (outer : List Env) (s : Shared) (H : Hp) (vs : List V) (Q : VK) (E : XK), Room k (A.deeper (envOfC x (defScope st) s.heap.objs.size f cdv)) → sp vs H Q E →
      ∃ t, PSs (cxOf (L2.CX P w) P w K mg base N x (defScope st) f cdv A outer s H E) (defBody st) t ∧ t { nx := fun _ H' => Q .non H', rt := Q } (start N vs) H) : Ok P w K mg base (L2.CX P w) (k + 1) x ps sp := by
  obtain ⟨f, fd, F1, b, g⟩ := F
  exact ⟨f, fd, g, F1.kp, b, F1.okX S len fun cdv A outer s H vs Q E => hbody f cdv A outer s H vs Q E⟩
theorem Ok.mono {CX : CXT} {j k : Nat} {x : Str} {ps : List Str} {sp : Sp} (G : Ok P w K mg base CX j x ps sp) (h : j ≤ k) : Ok P w K mg base CX k x ps sp := by
  obtain ⟨f, fd, g, kp, b, F⟩ := G
  exact ⟨f, fd, g, kp, b, F.mono h⟩
end
section
variable {X : Cx} {CX : CXT} {k j : Nat} {ps : List Str} {sp : Sp} {E : XK} {x : Str} {p pos : Pos} {e : Expr} {es : List Expr} {t : TA}
theorem pe_co (G : Ok X.prog X.w X.K X.mg X.base CX j x ps sp) (hr : Room k X.A) (hx : Passes CX X E) (ha : PA X (e :: es) t) (hjk : j ≤ k := by decide) (hg : Gl X x := by rfl)
    (hdb : (x == ("__debug__" : Str)) = false := by decide) (he : starEach (e :: es) X.env = (false, eval e X.env) :: starEach es X.env := by rfl) (hpl : (backTo pos (starEach es X.env)).any (·.1) = false := by rfl) :
    PE X (.Call (.Name x p) (e :: es) [] pos) (tCall sp [] E t) := by
  obtain ⟨f, fd, g, kp, b, F⟩ := G
  exact pe_call F (hr.mono hjk) hg g kp b .nil hx ha hdb he hpl
/-- what is never run -/
theorem pe_dead {e : Expr} : PE X e (fun _ _ _ => False) := ⟨fun _ _ _ _ _ _ h => h.elim⟩
theorem ps_dead {st : Stmt} : PS X st (fun _ _ _ => False) := ⟨fun _ _ _ _ _ _ h => h.elim⟩
theorem pss_dead {st : List Stmt} : PSs X st (fun _ _ _ => False) := ⟨fun _ _ _ _ _ _ h => h.elim⟩
end
end R
set_option maxHeartbeats 4000000
namespace L2
open PySem PySem.Spec PyProof.Rows
/-! ### heaps -/
theorem Same.new {H : Hp} {p : Addr} {o : HO} (h : H p = none) : Same H (upd H p o) := fun b x e => by
  rw [upd_ne (ne_of_none e h)]
  exact e
/-- a new object of ours is changed -/
theorem Same.over {H0 H : Hp} {p : Addr} {o : HO} (s : Same H0 H) (h : H0 p = none) : Same H0 (upd H p o) := fun b x e => by
  rw [upd_ne (ne_of_none e h)]
  exact s b x e
theorem Same.seqT {K : PySem.W.Frag} {H H' : Hp} {a : Addr} {xs : List V} (e : Same H H') (h : SqT K H a xs) : SqT K H' a xs := by
  rcases h with (h | ⟨o, h⟩) | h
  · exact .inl (.inl (e _ _ h))
  · exact .inl (.inr ⟨o, e _ _ h⟩)
  · exact .inr h
theorem SqT.at {K : PySem.W.Frag} {H : Hp} {a : Addr} {xs : List V} (h : H a = some (.tup xs)) : SqT K H a xs := .inl (.inl h)
theorem SqL.at {K : PySem.W.Frag} {H : Hp} {a : Addr} {xs : List V} (h : H a = some (.lst xs)) : SqL K H a xs := .inl (.inl h)
/-! ### data -/
mutual
theorem Dp.mono {K : PySem.W.Frag} {H H' : Hp} (e : Same H H') : ∀ {v : V} {d : PyData}, Dp K H v d → Dp K H' v d
  | _, _, .non => .non
  | _, _, .bl b => .bl b
  | _, _, .int i => .int i
  | _, _, .str x => .str x
  | _, _, .lst h a => .lst (e.seq h) (DpAll.mono e a)
  | _, _, .tup h a => .tup (Same.seqT e h) (DpAll.mono e a)
theorem DpAll.mono {K : PySem.W.Frag} {H H' : Hp} (e : Same H H') : ∀ {vs : List V} {ds : List PyData}, DpAll K H vs ds → DpAll K H' vs ds
  | _, _, .nil => .nil
  | _, _, .cons a b => .cons (Dp.mono e a) (DpAll.mono e b)
end
section
variable {K : PySem.W.Frag} {H H' : Hp} {v : V} {vs ws : List V} {d : PyData} {ds es : List PyData}
theorem DpAll.length : ∀ {vs : List V} {ds : List PyData}, DpAll K H vs ds → vs.length = ds.length
  | _, _, .nil => rfl
  | _, _, .cons _ b => by rw [List.length_cons, List.length_cons, DpAll.length b]
theorem DpAll.get : ∀ {vs : List V} {ds : List PyData} {i : Nat} {d : PyData}, DpAll K H vs ds → ds[i]? = some d → ∃ v, vs[i]? = some v ∧ Dp K H v d
  | _, _, _, _, .nil, e => by simp at e
  | _, _, 0, _, .cons a _, e => by simp at e; subst e; exact ⟨_, rfl, a⟩
  | _, _, i + 1, _, .cons _ b, e => by
    obtain ⟨v, h1, h2⟩ := DpAll.get (i := i) b (by simpa using e)
    exact ⟨v, by simpa using h1, h2⟩
theorem DpAll.get' : ∀ {vs : List V} {ds : List PyData} {i : Nat} {v : V}, DpAll K H vs ds → vs[i]? = some v → ∃ d, ds[i]? = some d ∧ Dp K H v d
  | _, _, _, _, .nil, e => by simp at e
  | _, _, 0, _, .cons a _, e => by simp at e; subst e; exact ⟨_, rfl, a⟩
  | _, _, i + 1, _, .cons _ b, e => by
    obtain ⟨v, h1, h2⟩ := DpAll.get' (i := i) b (by simpa using e)
    exact ⟨v, by simpa using h1, h2⟩
theorem DpAll.both {i : Nat} (h : DpAll K H vs ds) (a : vs[i]? = some v) (b : ds[i]? = some d) : Dp K H v d := by
  obtain ⟨d', e, r⟩ := h.get' a
  rw [b] at e; cases e; exact r
theorem DpAll.append : ∀ {vs ws : List V} {ds es : List PyData}, DpAll K H vs ds → DpAll K H ws es → DpAll K H (vs ++ ws) (ds ++ es)
  | _, _, _, _, .nil, s => s
  | _, _, _, _, .cons r t, s => .cons r (DpAll.append t s)
theorem DpAll.snoc (a : DpAll K H vs ds) (b : Dp K H v d) : DpAll K H (vs ++ [v]) (ds ++ [d]) := a.append (.cons b .nil)
theorem DpAll.take : ∀ {vs : List V} {ds : List PyData} (n : Nat), DpAll K H vs ds → DpAll K H (vs.take n) (ds.take n)
  | _, _, 0, _ => .nil
  | _, _, _ + 1, .nil => .nil
  | _, _, n + 1, .cons r t => .cons r (DpAll.take n t)
theorem DpAll.drop : ∀ {vs : List V} {ds : List PyData} (n : Nat), DpAll K H vs ds → DpAll K H (vs.drop n) (ds.drop n)
  | _, _, 0, r => r
  | _, _, _ + 1, .nil => .nil
  | _, _, n + 1, .cons _ t => DpAll.drop n t
theorem Dp.tupI {ds : List PyData} (h : Dp K H v (.tuple ds)) : ∃ a xs, v = .ref a ∧ SqT K H a xs ∧ DpAll K H xs ds := by
  cases h with | tup h a => exact ⟨_, _, rfl, h, a⟩
theorem Dp.lstI {ds : List PyData} (h : Dp K H v (.list ds)) : ∃ a xs, v = .ref a ∧ SqL K H a xs ∧ DpAll K H xs ds := by
  cases h with | lst h a => exact ⟨_, _, rfl, h, a⟩
theorem Dp.intI {i : Int} (h : Dp K H v (.int i)) : v = .int i := by cases h; rfl
theorem Dp.strI {x : Str} (h : Dp K H v (.str x)) : v = .str x := by cases h; rfl
theorem Dp.blI {b : Bool} (h : Dp K H v (.bool b)) : v = .bl b := by cases h; rfl
theorem Dp.nonI (h : Dp K H v .none) : v = .non := by cases h; rfl
theorem DpAll.strs : ∀ {l : List Str} {vs : List V}, DpAll K H vs (l.map PyData.str) → vs = l.map V.str
  | [], _, .nil => rfl
  | x :: r, _, .cons a b => by rw [Dp.strI a, DpAll.strs b]; rfl
theorem DpAll.ofStrs : ∀ (l : List Str), DpAll K H (l.map V.str) (l.map PyData.str)
  | [] => .nil
  | x :: r => .cons (.str x) (DpAll.ofStrs r)
theorem DpAll.ints : ∀ {l : List Int} {vs : List V}, DpAll K H vs (l.map PyData.int) → vs = l.map V.int
  | [], _, .nil => rfl
  | x :: r, _, .cons a b => by rw [Dp.intI a, DpAll.ints b]; rfl
theorem DpAll.ofInts : ∀ (l : List Int), DpAll K H (l.map V.int) (l.map PyData.int)
  | [] => .nil
  | x :: r => .cons (.int x) (DpAll.ofInts r)
theorem DpAll.bls : ∀ {l : List Bool} {vs : List V}, DpAll K H vs (l.map PyData.bool) → vs = l.map V.bl
  | [], _, .nil => rfl
  | x :: r, _, .cons a b => by rw [Dp.blI a, DpAll.bls b]; rfl
end
end L2
namespace R
open PySem PySem.Spec PyProof.Rows L2
/-! ### webs -/
structure Web where
  P : List Str
  R : List (Str × Str × Str)
def roadD (r : Str × Str × Str) : PyData := .tuple [.str r.1, .str r.2.1, .str r.2.2]
def strsT (l : List Str) : PyData := .tuple (l.map .str)
def Web.d (W : Web) : PyData := .tuple [strsT W.P, .tuple (W.R.map roadD)]
def Web.names (W : Web) : List Str := W.R.map (·.1)
/-- a web in the heap: its parts -/
structure WebAt (K : PySem.W.Frag) (H : Hp) (v : V) (W : Web) : Prop where
  dp : Dp K H v W.d
  pl : W.P.length ≤ 100
  rl : W.R.length ≤ 100
  okP : W.P.all PyData.strOk = true
  okR : W.names.all PyData.strOk = true
theorem WebAt.mono {K : PySem.W.Frag} {H H' : Hp} {v : V} {W : Web} (h : WebAt K H v W) (e : Same H H') : WebAt K H' v W := ⟨h.dp.mono e, h.pl, h.rl, h.okP, h.okR⟩
/-! ### texts compared -/
theorem lay_strs : ∀ {l : List Str}, l.all PyData.strOk = true → PyData.canLayAll0 (l.map PyData.str) = true
  | [], _ => rfl
  | x :: r, h => by
    rw [List.all_cons, Bool.and_eq_true] at h
    show (PyData.canLay0 (.str x) && PyData.canLayAll0 (r.map PyData.str)) = true
    rw [lay_strs h.2, Bool.and_true]
    exact h.1
theorem depth_strs : ∀ l : List Str, PyData.depthAll (l.map PyData.str) = 0
  | [] => rfl
  | x :: r => by
    show max (PyData.depth (.str x)) (PyData.depthAll (r.map PyData.str)) = 0
    rw [depth_strs r]; rfl
theorem shaped_lst {l : List Str} (h : l.all PyData.strOk = true) : SeqAt.shaped (.list (l.map PyData.str)) = true := by
  show (PyData.canLayAll0 (l.map PyData.str) && decide (PyData.depthAll (l.map PyData.str) + 1 ≤ 64)) = true
  rw [lay_strs h, depth_strs]; rfl
theorem eqvAll_strs : ∀ l m : List Str, PyData.eqvAll (l.map PyData.str) (m.map PyData.str) = decide (l = m)
  | [], [] => rfl
  | [], _ :: _ => by simp [PyData.eqvAll]
  | _ :: _, [] => by simp [PyData.eqvAll]
  | x :: l, y :: m => by
    show (PyData.eqv (.str x) (.str y) && PyData.eqvAll (l.map PyData.str) (m.map PyData.str)) = _
    rw [eqvAll_strs l m]
    show ((x == y) && decide (l = m)) = decide (x :: l = y :: m)
    by_cases e : x = y
    · subst e; simp
    · simp [e]
theorem eqv_lst (l m : List Str) : PyData.eqv (.list (l.map PyData.str)) (.list (m.map PyData.str)) = decide (l = m) := by
  rw [PyData.eqv]; exact eqvAll_strs l m
theorem WebAt.parts {K : PySem.W.Frag} {H : Hp} {v : V} {W : Web} (h : WebAt K H v W) : ∃ a p r rs, v = .ref a ∧ SqT K H a [.ref p, .ref r] ∧ SqT K H p (W.P.map V.str) ∧ SqT K H r rs ∧ DpAll K H rs (W.R.map roadD) := by
  obtain ⟨a, xs, rfl, h1, h2⟩ := h.dp.tupI
  cases h2 with
  | cons hp h3 =>
    cases h3 with
    | cons hr h4 =>
      cases h4
      obtain ⟨p, ps, rfl, hp1, hp2⟩ := hp.tupI
      obtain ⟨r, rs, rfl, hr1, hr2⟩ := hr.tupI
      have e := hp2.strs
      subst e
      exact ⟨a, p, r, rs, rfl, h1, hp1, hr1, hr2⟩
theorem road_parts {K : PySem.W.Frag} {H : Hp} {v : V} {r : Str × Str × Str} (h : Dp K H v (roadD r)) : ∃ a, v = .ref a ∧ SqT K H a [.str r.1, .str r.2.1, .str r.2.2] := by
  obtain ⟨a, xs, rfl, h1, h2⟩ := h.tupI
  have e : xs = [V.str r.1, V.str r.2.1, V.str r.2.2] := DpAll.strs (l := [r.1, r.2.1, r.2.2]) h2
  subst e
  exact ⟨a, rfl, h1⟩
theorem small_ {n m : Nat} (h : n ≤ m) (hm : m ≤ 16777215 := by decide) : n < sizeLine := by
  have : sizeLine = 16777216 := sizeLine_eq
  omega
/-- the tuple's i-th item -/
theorem ix0 {α : Type} {a : α} {l : List α} : atI (a :: l) 0 = some a := atI_nat (j := 0) rfl
theorem ix1 {α : Type} {a b : α} {l : List α} : atI (a :: b :: l) 1 = some b := atI_nat (j := 1) rfl
theorem ix2 {α : Type} {a b c : α} {l : List α} : atI (a :: b :: c :: l) 2 = some c := atI_nat (j := 2) rfl
def lettersS : Str := "abcdefghijklmnopqrstuvwxyz"
def signsS : Str := "abcdefghijklmnopqrstuvwxyz0123456789"
structure Blt (mg : Str → Option Value) : Prop where
  len_ : mg "len" = none
  set_ : mg "set" = none
  tuple_ : mg "tuple" = none
  list_ : mg "list" = none
  dict_ : mg "dict" = none
  int_ : mg "int" = none
  str_ : mg "str" = none
  max_ : mg "max" = none
  min_ : mg "min" = none
  all_ : mg "all" = none
  sum_ : mg "sum" = none
  sorted_ : mg "sorted" = none
  isinstance_ : mg "isinstance" = none
  repr_ : mg "repr" = none
  range_ : mg "range" = none
  enumerate_ : mg "enumerate" = none
  zip_ : mg "zip" = none
  LETTERS : ∃ t, mg "LETTERS" = some (.str lettersS t)
  SIGNS : ∃ t, mg "SIGNS" = some (.str signsS t)
  MOST_SIGNS : ∃ t, mg "MOST_SIGNS" = some (.int 8 t)
  MOST_PLACES : ∃ t, mg "MOST_PLACES" = some (.int 10 t)
  MOST_ROADS_webforms : ∃ t, mg "MOST_ROADS_webforms" = some (.int 14 t)
  MOST_ROUNDS : ∃ t, mg "MOST_ROUNDS" = some (.int 4 t)
  MOST_ROADS_best : ∃ t, mg "MOST_ROADS_best" = some (.int 6 t)
end R
set_option maxHeartbeats 4000000
namespace R
open PySem PySem.Spec PyProof.Rows L2
theorem hu64 {A : Around} {k : Nat} (hr : Room k A) : A.units + 64 < cLine := by have := hr.un; omega
/-! ### the rules whose readings speak of the written part, with that part named (so that they stand in a comprehension's block too) -/
section
variable {X : Cx} (K : PySem.W.Frag)
theorem ixT (h : X.K = K := by rfl) : IxR X (rIxT K) := by subst h; exact ix_tup
theorem ixL (h : X.K = K := by rfl) : IxR X (rIxL K) := by subst h; exact ix_list
theorem inS (h : X.K = K := by rfl) : OpR X (compareOp .In) (rIn K false) := by subst h; exact op_in_seq
theorem ninS (h : X.K = K := by rfl) : OpR X (compareOp .NotIn) (rIn K true) := by subst h; exact op_notIn_seq
theorem slT (h : X.K = K := by rfl) : SlR X (rSlA K) := by subst h; exact sl_tupA
theorem slL (h : X.K = K := by rfl) : SlR X (rSlL K) := by subst h; exact sl_list
def rLen (K : PySem.W.Frag) : List V → Hp → VK → Prop := fun xs H Q => ∃ p ys, xs = [.ref p] ∧ (SqL K H p ys ∨ SqT K H p ys) ∧ Q (.int ys.length) H
theorem lenS (h : X.K = K := by rfl) : CallR X (.builtin "len") (rLen K) := by subst h; exact call_len_seq
def rListOf (K : PySem.W.Frag) : List V → Hp → VK → Prop := fun xs H Q => ∃ p ys, xs = [.ref p] ∧ (SqL K H p ys ∨ SqT K H p ys) ∧ ∀ l, H l = none → Q (.ref l) (upd H l (.lst ys))
theorem listOf (h : X.K = K := by rfl) : CallR X (.type "list") (rListOf K) := by subst h; exact call_list_of
def rTupOf (K : PySem.W.Frag) : List V → Hp → VK → Prop := fun xs H Q => ∃ p ys, xs = [.ref p] ∧ ((SqL K H p ys ∧ ∀ l, H l = none → Q (.ref l) (upd H l (.tup ys))) ∨ (SqT K H p ys ∧ Q (.ref p) H))
theorem tupOf (h : X.K = K := by rfl) : CallR X (.type "tuple") (rTupOf K) := by subst h; exact call_tuple_of
theorem maxL (hc : X.calm = true) (h : X.K = K := by rfl) : CallR X (.builtin "max") (rMax K) := by subst h; exact cr_max hc
theorem minL (hc : X.calm = true) (h : X.K = K := by rfl) : CallR X (.builtin "min") (rMin K) := by subst h; exact cr_min hc
theorem allL (hc : X.calm = true) (h : X.K = K := by rfl) : CallR X (.builtin "all") (rAll K) := by subst h; exact cr_all hc
theorem sumL (hc : X.calm = true) (h : X.K = K := by rfl) : CallR X (.builtin "sum") (rSum K) := by subst h; exact cr_sum hc
theorem isiK (h : X.K = K := by rfl) : CallR X (.builtin "isinstance") (rIsi K) := by subst h; exact call_isi
def rDictP (K : PySem.W.Frag) : List V → Hp → VK → Prop := fun xs H Q => ∃ (a : Addr) (ps : List Addr) (kvs : List (Key × V)), xs = [.ref a] ∧ SqL K H a (ps.map V.ref) ∧ Paired (fun p kv => SqT K H p [kV kv.1, kv.2]) ps kvs ∧
    ∀ p, H p = none → Q (.ref p) (upd H p (.dK (mergeK [] kvs)))
theorem dictP (hc : X.calm = true) (h : X.K = K := by rfl) : CallR X (.type "dict") (rDictP K) := by subst h; exact call_dictP hc
theorem eqD {hu : X.A.units + 64 < cLine} (h : X.K = K := by rfl) : OpR X (compareOp .Eq) (rEqD K) := by subst h; exact op_eqD hu
theorem neD {hu : X.A.units + 64 < cLine} (h : X.K = K := by rfl) : OpR X (compareOp .NotEq) (rNeD K) := by subst h; exact op_neD hu
theorem catA (h : X.K = K := by rfl) : OpR X (binaryOp .Add) (rCatA K) := by subst h; exact op_catA
theorem mtIndex (h : X.K = K := by rfl) : MtR X "list.index" (rIndex K) := by subst h; exact mt_index
def rTupIndex (K : PySem.W.Frag) : V → List V → Hp → VK → Prop := fun x xs H Q => ∃ p, ∃ ys : List Str, ∃ z j, x = .ref p ∧ xs = [.str z] ∧ SqT K H p (ys.map V.str) ∧ ys[j]? = some z ∧ (∀ m, m < j → ys[m]? ≠ some z) ∧ Q (.int (j : Nat)) H
theorem mtTupIndex (h : X.K = K := by rfl) : MtR X "tuple.index" (rTupIndex K) := by subst h; exact mt_tup_index
variable {tg l : Expr} {tl : TE} {pos : Pos}
theorem piL (hl : PE X l tl) (h : X.K = K := by rfl) : PI X tg l (iList K tl) := by subst h; exact pi_list hl
theorem piT (hl : PE X l tl) (h : X.K = K := by rfl) : PI X tg l (iTup K tl) := by subst h; exact pi_tup hl
theorem pgT {es : List Expr} {k : Nat} {t : TGs} {n : Nat} (hc : X.calm = true) (h : PGs X es t) (hK : X.K = K := by rfl)
    (hn : (assignEach es X.env).length = n := by rfl) (hst : (assignEach es X.env).findIdx? (·.1) = none := by rfl) : PG X (.Tuple es k pos) (gTup K n t) := by subst hK; exact pg_tup hc h hn hst
theorem pgU {es : List Expr} {k : Nat} {t : TGs} {n : Nat} (hc : X.calm = true) (h : PGs X es t) (hK : X.K = K := by rfl)
    (hn : (assignEach es X.env).length = n := by rfl) (hst : (assignEach es X.env).findIdx? (·.1) = none := by rfl) : PG X (.Tuple es k pos) (gUnl K n t) := by subst hK; exact pg_unl hc h hn hst
theorem bmK {o e : Expr} {es : List Expr} {to : TE} {t : TA} {name : Str} {apos cpos : Pos} {T id : String} {r : V → List V → Hp → VK → Prop} (pa : PlainAttrs T) (slot : Slot T name id) (hty : typeOf (.builtin id) = pure (.type "method_descriptor")) (hm : MtR X id r) (ho : PE X o to) (ha : PA X (e :: es) t)
    (hK : X.K = K := by rfl) (hbase : attributeBase o name X.env (eval o X.env) = eval o X.env := by rfl)
    (hfew : ((backTo cpos (starEach (e :: es) X.env)).all (fun x => !x.1) && (backToKw cpos (keywordEach [] X.env)).all (fun x => x.1.isSome)
      && decide ((e :: es).length + ([] : List Keyword).length + (if ([] : List Keyword).isEmpty then 0 else 1) < 30)) = true := by rfl)
    (hline : (apos.endLine == cpos.line) = true := by rfl) (hs : starEach (e :: es) X.env = (false, eval e X.env) :: starEach es X.env := by rfl) (hplain : (backTo cpos (starEach es X.env)).any (·.1) = false := by rfl) :
    PE X (.Call (.Attribute o name apos) (e :: es) [] cpos) (tBM K T r to t) := by subst hK; exact pe_bm pa slot hty hm ho ha hbase hfew hline hs hplain
theorem enumL {e : Expr} {ta : TA} {p pos tpos : Pos} {elts : List Expr} {kk : Nat} (hg : Gl X "enumerate") (hm : X.mg "enumerate" = none) (ha : PA X [e] ta) (hK : X.K = K := by rfl) (hs : starEach [e] X.env = [(false, eval e X.env)] := by rfl) :
    PI X (.Tuple elts kk tpos) (.Call (.Name "enumerate" p) [e] [] pos) (iEnum K ta) := by subst hK; exact pi_enum hg hm ha hs
theorem zipL {e e2 : Expr} {ta : TA} {p pos tpos : Pos} {elts : List Expr} {kk : Nat} (hg : Gl X "zip") (hm : X.mg "zip" = none) (ha : PA X [e, e2] ta) (hK : X.K = K := by rfl)
    (hs : starEach [e, e2] X.env = (false, eval e X.env) :: starEach [e2] X.env := by rfl) (hpl : (backTo pos (starEach [e2] X.env)).any (·.1) = false := by rfl) :
    PI X (.Tuple elts kk tpos) (.Call (.Name "zip" p) [e, e2] [] pos) (iZip K ta) := by subst hK; exact pi_zip hg hm ha hs hpl
/-- name = {..} on one line, the name a local -/
theorem ps_setDc {i : Nat} {y : Str} {py : Pos} {kx vx tg iter : Expr} {ifs : List Expr} {scope : Scope} {own : List (Str × Nat)} {pos spos : Pos} {wi : TI} {g : TG} {tt : TT} {tk tv : TE} (hc : X.calm = true) (hN : X.N.Nodup) (hy : X.N[i]? = some y) (hyl : X.env.scope.names.lookup y = some .local)
    (hsw : swapsWith (.DictComp kx vx [⟨tg, iter, ifs, 0⟩] scope pos) (some (.Name y py)) spos.line X.env = pure true) (hi : PI X tg iter wi) (ok : BlkOk X.N X.env.scope scope own)
    (hg : ∀ (s : Shared) (H : Hp) (C : Addr) (cl : List (Str × Addr)) (fp : List Addr), PG (X.blk s H scope (compEnvC scope cl C X.env) fp) tg g) (ht : ∀ (s : Shared) (H : Hp) (C : Addr) (cl : List (Str × Addr)) (fp : List Addr), PTs (X.blk s H scope (compEnvC scope cl C X.env) fp) ifs tt)
    (hk : ∀ (s : Shared) (H : Hp) (C : Addr) (cl : List (Str × Addr)) (fp : List Addr), PE (X.blk s H scope (compEnvC scope cl C X.env) fp) kx tk)
    (he : ∀ (s : Shared) (H : Hp) (C : Addr) (cl : List (Str × Addr)) (fp : List Addr), PE (X.blk s H scope (compEnvC scope cl C X.env) fp) vx tv) (hs : ∀ x, foldedSetIterable iter X.env x = pure x := by intro _; rfl) :
    PS X (.Assign [.Name y py] (.DictComp kx vx [⟨tg, iter, ifs, 0⟩] scope pos) spos) (tAsg (tDc wi g tt tk tv (own.map (·.2))) (gName i)) := by
  refine ⟨fun pins s σ H D I h => ?_⟩
  rw [exec_Assign_Name_used _ _ _ _ hsw]
  refine wpAny_bind (wpAny_standAt (wpAny_bind ?_))
  show wpAny _ X.A (do let _ ← comprehension (.DictComp kx vx [⟨tg, iter, ifs, 0⟩] scope pos) scope X.env _ newDict false (eval iter X.env) (some (assign (.Name y py) X.env))) _ _ s
  have h : tDc wi g tt tk tv (own.map (·.2)) σ H (fun x H1 => gName i x σ H1 D.nx) := h
  refine wpAny_bind (thn (dc_core (Qf := fun _ s' => SP X pins D .next s') hc hN I hi ok hg ht hk he hs h fun L C s' m H' I' q hn f => ?_) fun _ s' hq => wpAny_pure (wpAny_pure hq))
  show wpAny _ _ (assign (.Name y py) X.env (.ref L)) _ _ _
  refine wpAny_assign_Name (store_ok2 (v := V.ref L) I' hN hy (.inl hyl) rfl (fun s2 I2 ⟨a, sb, ha⟩ => ?_) (.inr hyl))
  obtain ⟨f0, f1, f2, f3, f4, f5⟩ := f
  have haC : C ≠ a := by
    rcases ha with z | z
    · rw [z]; exact f1
    · exact fun e => f4 y a z e.symm
  refine ⟨m, hn.sameBut sb haC, fun h3 sb3 => ?_⟩
  exact ⟨_, H', I2.turned (t' := s2.toks) (fun b o hb e => (sb3.2 b hb).trans e) f0 f1 f3 f4 f5, q⟩
theorem sw_trueD {kx vx : Expr} {gs : List Comprehension} {scope : Scope} {pos py : Pos} {y : Str} {l : Nat} {env : Env} (hk : env.scope.kind = .function) (hy : env.scope.names.lookup y = some .local) (hl : (py.line == pos.line) = true)
    (ha : (scope.names.any fun (n, k) => n == y && (k == .local || k == .cell)) = false) : swapsWith (.DictComp kx vx gs scope pos) (some (.Name y py)) l env = pure true := by
  have ky : env.kindOf y = some .local := hy
  have hb : env.blockKind = .function := by unfold Env.blockKind; rw [hk]; rfl
  unfold swapsWith
  simp only [hb, ky, ha, Expr.pos, hl]
  rfl
/-- no bound of a slice, its reading in sight -/
abbrev tNoA : TO := fun _ H Q => Q none H
theorem poN : PO X none tNoA := po_none
end
end R
set_option maxHeartbeats 4000000
/-! the rules again, their readings in sight (so that a lemma about one step can be applied where the reading stands) -/
namespace R
open PySem PySem.Spec PyProof.Rows L2
abbrev aVar (i : Nat) : TE := fun σ H Q => ∃ v, σ[i]? = some (some v) ∧ Q v H
abbrev aC (v : V) : TE := fun _ H Q => Q v H
abbrev aOp (r : R2) (ta tb : TE) : TE := fun σ H Q => ta σ H fun x H1 => tb σ H1 fun y H2 => r x y H2 Q
abbrev aUn (r : V → Hp → VK → Prop) (ta : TE) : TE := fun σ H Q => ta σ H fun x H1 => r x H1 Q
abbrev aChain (r r' : R2) (ta tb tc : TE) : TE := fun σ H Q => ta σ H fun x H1 => tb σ H1 fun y H2 => r x y H2 fun z H3 => ∃ k, z = .bl k ∧ (if k = true then tc σ H3 fun w' H4 => r' y w' H4 Q else Q (.bl false) H3)
abbrev aNil : TA := fun _ H Q => Q [] H
abbrev aCons (ta : TE) (tr : TA) : TA := fun σ H Q => ta σ H fun x H1 => tr σ H1 fun xs H2 => Q (x :: xs) H2
abbrev aTup (t : TA) : TE := fun σ H Q => t σ H fun xs H1 => xs.length ≤ sizeLine ∧ ∀ p, H1 p = none → Q (.ref p) (upd H1 p (.tup xs))
abbrev aLst (t : TA) : TE := fun σ H Q => t σ H fun xs H1 => xs.length ≤ sizeLine ∧ ∀ p, H1 p = none → Q (.ref p) (upd H1 p (.lst xs))
abbrev aCall (sp : Sp) (E : XK) (t : TA) : TE := fun σ H Q => t σ H fun vs H1 => sp (vs ++ []) H1 Q E
abbrev aCB (r : List V → Hp → VK → Prop) (t : TA) : TE := fun σ H Q => t σ H fun vs H1 => r vs H1 Q
abbrev aPart (t : TE) : TO := fun σ H Q => t σ H fun x H1 => ∃ i, x = .int i ∧ Q (some i) H1
abbrev aSl (r : V → Option Int → Option Int → Hp → VK → Prop) (te : TE) (tl th : TO) : TE := fun σ H Q => te σ H fun x H1 => tl σ H1 fun l H2 => th σ H2 fun u H3 => r x l u H3 Q
abbrev aBM (K : PySem.W.Frag) (T : String) (r : V → List V → Hp → VK → Prop) (to : TE) (t : TA) : TE := fun σ H Q => to σ H fun x H1 => tyV K T x H1 ∧ t σ H1 fun xs H2 => r x xs H2 Q
abbrev aDGet (td ty : TE) : TE := fun σ H Q => td σ H fun x H1 => ty σ H1 fun y H2 => ∃ a v, x = .ref a ∧ DGet H2 a y (some v) ∧ Q v H2
abbrev aDGet1 (td ty : TE) : TE := fun σ H Q => td σ H fun x H1 => ∃ a, x = .ref a ∧ IsD H1 a ∧ ty σ H1 fun y H2 => ∃ o, DGet H2 a y o ∧ Q (o.getD .non) H2
abbrev aDIn (ty td : TE) : TE := fun σ H Q => ty σ H fun y H1 => td σ H1 fun x H2 => ∃ a o, x = .ref a ∧ DGet H2 a y o ∧ Q (.bl o.isSome) H2
abbrev aDNotIn (ty td : TE) : TE := fun σ H Q => ty σ H fun y H1 => td σ H1 fun x H2 => ∃ a o, x = .ref a ∧ DGet H2 a y o ∧ Q (.bl (!o.isSome)) H2
abbrev aIsN (ta : TE) : TE := fun σ H Q => ta σ H fun x H1 => Q (.bl (decide (x = .non))) H1
abbrev aB (t : TE) : TT := fun σ H Q => t σ H fun x H1 => ∃ c, x = .bl c ∧ Q c H1
abbrev aAnd (t u : TT) : TT := fun σ H Q => t σ H fun c H1 => if c = true then u σ H1 Q else Q false H1
abbrev aOr (t u : TT) : TT := fun σ H Q => t σ H fun c H1 => if c = true then Q true H1 else u σ H1 Q
abbrev aNot (t : TT) : TT := fun σ H Q => t σ H fun c H1 => Q (!c) H1
abbrev aAndV (ta tb : TE) : TE := fun σ H Q => ta σ H fun x H1 => ∃ c, x = .bl c ∧ if c = true then tb σ H1 Q else Q (.bl false) H1
abbrev aOrV (ta tb : TE) : TE := fun σ H Q => ta σ H fun x H1 => ∃ c, x = .bl c ∧ if c = true then Q (.bl true) H1 else tb σ H1 Q
abbrev aNotV (ta : TE) : TE := fun σ H Q => ta σ H fun x H1 => ∃ c, x = .bl c ∧ Q (.bl (!c)) H1
abbrev aIf (t : TT) (ta tb : TE) : TE := fun σ H Q => t σ H fun c H1 => if c = true then ta σ H1 Q else tb σ H1 Q
abbrev aNext : TS := fun D σ H => D.nx σ H
abbrev aSeq (t u : TS) : TS := fun D σ H => t { D with nx := u D } σ H
abbrev aDrop (te : TE) : TS := fun D σ H => te σ H fun _ H1 => D.nx σ H1
abbrev aRet (te : TE) : TS := fun D σ H => te σ H D.rt
abbrev aIfS (c : TT) (t u : TS) : TS := fun D σ H => c σ H fun b H1 => if b = true then t D σ H1 else u D σ H1
abbrev aAsg (te : TE) (g : TG) : TS := fun D σ H => te σ H fun x H1 => g x σ H1 D.nx
abbrev aDPut (td ty tv : TE) : TS := fun D σ H => tv σ H fun v H1 => td σ H1 fun x H2 => ty σ H2 fun y H3 => ∃ a H4, x = .ref a ∧ DPut H3 a y v H4 ∧ D.nx σ H4
section
variable {X : Cx} {a b c o i e : Expr} {ta tb tc te td ty tv : TE} {pos p : Pos}
theorem av (i : Nat) {x : Str} (hN : X.N[i]? = some x := by rfl) (hv : Vis X.env.scope x := by first | exact Or.inl rfl | exact Or.inr (Or.inl rfl) | exact Or.inr (Or.inr rfl)) (hd : (x == ("__debug__" : Str)) = false := by decide)
    (hcd : (x == ("__classdict__" : Str)) = false := by decide) : PE X (.Name x pos) (aVar i) := pe_var hN hv hd hcd
theorem ae_int {z : Int} {j} : PE X (.Constant (.int z) j pos) (aC (.int z)) := pe_int
theorem ae_bl {z : Bool} {j} : PE X (.Constant (.bool z) j pos) (aC (.bl z)) := pe_bl
theorem ae_non {j} : PE X (.Constant .none j pos) (aC .non) := pe_non
theorem ae_str {x : Str} {j} : PE X (.Constant (.str x) j pos) (aC (.str x)) := pe_str
theorem ae_glob {x : Str} {v : V} {u : Value} (hg : Gl X x) (hm : X.mg x = some u) (r : RelV v u) (hd : (x == ("__debug__" : Str)) = false := by decide) : PE X (.Name x pos) (aC v) := pe_glob hg hm r hd
theorem ae_bltn {x : Str} {v : V} {u : Value} (hg : Gl X x) (hm : X.mg x = none) (hv : bootBuiltins x = some u) (r : RelV v u) (hn : x ≠ "__name__" := by decide) (hd : (x == ("__debug__" : Str)) = false := by decide) : PE X (.Name x pos) (aC v) := pe_bltn hg hm hv r hn hd
theorem ae_op {op : Operator} {r : R2} (ho : OpR X (binaryOp op) r) (ha : PE X a ta) (hb : PE X b tb) : PE X (.BinOp a op b pos) (aOp r ta tb) := pe_op ho ha hb
theorem ae_un {op : UnaryOp} {r : V → Hp → VK → Prop} (ho : UnR X (unaryOp op) r) (ha : PE X a ta) : PE X (.UnaryOp op a pos) (aUn r ta) := pe_un ho ha
theorem ae_cmpR {op : CmpOp} {r : R2} (ho : OpR X (compareOp op) r) (ha : PE X a ta) (hb : PE X b tb) (hm : behindInMarks op b = false) : PE X (.Compare a [op] [b] pos) (aOp r ta tb) := pe_cmpR ho ha hb hm
theorem at_cmpR {op : CmpOp} {r : R2} (ho : OpR X (compareOp op) r) (ha : PE X a ta) (hb : PE X b tb) (hm : behindInMarks op b = false) : PT X (.Compare a [op] [b] pos) (aB (aOp r ta tb)) := pt_cmpR ho ha hb hm
theorem ae_chain {op op' : CmpOp} {r r' : R2} (ho : OpR X (compareOp op) r) (ho' : OpR X (compareOp op') r') (ha : PE X a ta) (hb : PE X b tb) (hc : PE X c tc)
    (hm : lastMarks [op, op'] [b, c] = false := by with_unfolding_all rfl) : PE X (.Compare a [op, op'] [b, c] pos) (aChain r r' ta tb tc) := pe_chain ho ho' ha hb hc hm
theorem at_chain {op op' : CmpOp} {r r' : R2} (ho : OpR X (compareOp op) r) (ho' : OpR X (compareOp op') r') (ha : PE X a ta) (hb : PE X b tb) (hc : PE X c tc)
    (hm : lastMarks [op, op'] [b, c] = false := by with_unfolding_all rfl) : PT X (.Compare a [op, op'] [b, c] pos) (aB (aChain r r' ta tb tc)) := pt_chain ho ho' ha hb hc hm
theorem ae_ix {r : R2} (hr : IxR X r) (ha : PE X a ta) (hb : PE X b tb) (hs : PlainIx b) : PE X (.Subscript a b pos) (aOp r ta tb) := pe_ix hr ha hb hs
theorem aa_nil : PA X [] aNil := pa_nil
theorem aa_cons {es : List Expr} {t : TA} (ha : PE X e te) (hr : PA X es t) (hs : starEach (e :: es) X.env = (false, eval e X.env) :: starEach es X.env := by rfl) : PA X (e :: es) (aCons te t) := pa_cons ha hr hs
theorem ae_tup {x1} {es : List Expr} {t : TA} (h : PA X es t) : PE X (.Tuple es x1 pos) (aTup t) := pe_tup h
theorem ae_lst {es : List Expr} {t : TA} (h : PA X es t) : PE X (.List es pos) (aLst t) := pe_lst h
theorem ae_callB {x : Str} {id : String} {es : List Expr} {t : TA} {r : List V → Hp → VK → Prop} (hc : CallR X (.builtin id) r) (hg : Gl X x) (hm : X.mg x = none) (hv : bootBuiltins x = some (.builtin id)) (ha : PA X (e :: es) t) (hn : x ≠ "__name__" := by decide) (hdb : (x == ("__debug__" : Str)) = false := by decide)
    (he : starEach (e :: es) X.env = (false, eval e X.env) :: starEach es X.env := by rfl) (hpl : (backTo pos (starEach es X.env)).any (·.1) = false := by rfl) : PE X (.Call (.Name x p) (e :: es) [] pos) (aCB r t) := pe_callB hc hg hm hv ha hn hdb he hpl
theorem ae_callTy {x : Str} {T : String} {es : List Expr} {t : TA} {r : List V → Hp → VK → Prop} (hc : CallR X (.type T) r) (hg : Gl X x) (hm : X.mg x = none) (hv : bootBuiltins x = some (.type T)) (ha : PA X (e :: es) t) (hn : x ≠ "__name__" := by decide) (hdb : (x == ("__debug__" : Str)) = false := by decide)
    (he : starEach (e :: es) X.env = (false, eval e X.env) :: starEach es X.env := by rfl) (hpl : (backTo pos (starEach es X.env)).any (·.1) = false := by rfl) : PE X (.Call (.Name x p) (e :: es) [] pos) (aCB r t) := pe_callTy hc hg hm hv ha hn hdb he hpl
theorem ae_co {CX : CXT} {k j : Nat} {ps : List Str} {sp : Sp} {E : XK} {x : Str} {es : List Expr} {t : TA} (G : Ok X.prog X.w X.K X.mg X.base CX j x ps sp) (hr : Room k X.A) (hx : Passes CX X E) (ha : PA X (e :: es) t) (hjk : j ≤ k := by decide) (hg : Gl X x := by rfl)
    (hdb : (x == ("__debug__" : Str)) = false := by decide) (he : starEach (e :: es) X.env = (false, eval e X.env) :: starEach es X.env := by rfl) (hpl : (backTo pos (starEach es X.env)).any (·.1) = false := by rfl) :
    PE X (.Call (.Name x p) (e :: es) [] pos) (aCall sp E t) := pe_co G hr hx ha hjk hg hdb he hpl
theorem ao_some (h : PE X e te) : PO X (some e) (aPart te) := po_some h
theorem ae_slice {lo hi : Option Expr} {tl th : TO} {p2 : Pos} {r : V → Option Int → Option Int → Hp → VK → Prop} (hr : SlR X r) (he : PE X e te) (hl : PO X lo tl) (hu : PO X hi th) : PE X (.Subscript e (.Slice lo hi none p2) pos) (aSl r te tl th) := pe_slice hr he hl hu
theorem ae_bm (K : PySem.W.Frag) {es : List Expr} {to : TE} {t : TA} {name : Str} {apos cpos : Pos} {T id : String} {r : V → List V → Hp → VK → Prop} (pa : PlainAttrs T) (slot : Slot T name id) (hty : typeOf (.builtin id) = pure (.type "method_descriptor")) (hm : MtR X id r) (ho : PE X o to) (ha : PA X (e :: es) t)
    (hK : X.K = K := by rfl) (hbase : attributeBase o name X.env (eval o X.env) = eval o X.env := by rfl)
    (hfew : ((backTo cpos (starEach (e :: es) X.env)).all (fun x => !x.1) && (backToKw cpos (keywordEach [] X.env)).all (fun x => x.1.isSome)
      && decide ((e :: es).length + ([] : List Keyword).length + (if ([] : List Keyword).isEmpty then 0 else 1) < 30)) = true := by rfl)
    (hline : (apos.endLine == cpos.line) = true := by rfl) (hs : starEach (e :: es) X.env = (false, eval e X.env) :: starEach es X.env := by rfl) (hplain : (backTo cpos (starEach es X.env)).any (·.1) = false := by rfl) :
    PE X (.Call (.Attribute o name apos) (e :: es) [] cpos) (aBM K T r to t) := bmK K pa slot hty hm ho ha hK hbase hfew hline hs hplain
theorem ae_dget (hu : X.A.units + 1 < cLine) (ho : PE X o td) (hi : PE X i ty) (hs : NoSl i) : PE X (.Subscript o i pos) (aDGet td ty) := pe_dget hu ho hi hs
theorem ae_dget1 {apos cpos : Pos} (hu : X.A.units + 1 < cLine) (ho : PE X o td) (he : PE X e ty) (m : M1 X o "get" apos e cpos) : PE X (.Call (.Attribute o "get" apos) [e] [] cpos) (aDGet1 td ty) := pe_dget1 hu ho he m
theorem ac_din (hu : X.A.units + 1 < cLine) (hi : PE X i ty) (ho : PE X o td) : PC X .In i o (aDIn ty td) := pc_din hu hi ho
theorem ac_dnotin (hu : X.A.units + 1 < cLine) (hi : PE X i ty) (ho : PE X o td) : PC X .NotIn i o (aDNotIn ty td) := pc_dnotin hu hi ho
theorem ac_isN {j pos'} (ha : PE X a ta) : PC X .Is a (.Constant .none j pos') (aIsN ta) := pc_isN ha
theorem at_cmp {op : CmpOp} {t : TE} (h : PC X op a b t) (hm : behindInMarks op b = false := by first | exact nobehind _ (by decide) (by decide) | rfl) : PT X (.Compare a [op] [b] pos) (aB t) := pt_cmp h hm
theorem at_val {t : TE} (h : PE X e t) (he : ∀ whole, PySem.isTrue e X.env whole = (do let v ← whole; standAt e.pos; holding [v] (truthy v)) := by intro _; rfl) : PT X e (aB t) := pt_val h he
theorem aw_and {rest : List Expr} {t u : TT} (ha : PT X a t) (hr : PW X (.BoolOp .And (b :: rest) pos) u) : PW X (.BoolOp .And (a :: b :: rest) pos) (aAnd t u) := pw_and ha hr
theorem aw_or {rest : List Expr} {t u : TT} (ha : PT X a t) (hr : PW X (.BoolOp .Or (b :: rest) pos) u) : PW X (.BoolOp .Or (a :: b :: rest) pos) (aOr t u) := pw_or ha hr
theorem at_not {t : TT} (ha : PT X a t) : PT X (.UnaryOp .Not a pos) (aNot t) := pt_not ha
theorem ae_and {rest : List Expr} (ha : PE X a ta) (hr : PE X (.BoolOp .And (b :: rest) pos) tb) : PE X (.BoolOp .And (a :: b :: rest) pos) (aAndV ta tb) := pe_and ha hr
theorem ae_or {rest : List Expr} (ha : PE X a ta) (hr : PE X (.BoolOp .Or (b :: rest) pos) tb) : PE X (.BoolOp .Or (a :: b :: rest) pos) (aOrV ta tb) := pe_or ha hr
theorem ae_not (ha : PE X a ta) : PE X (.UnaryOp .Not a pos) (aNotV ta) := pe_not ha
theorem ae_ifExp {t : TT} (hc : PT X c t) (ha : PE X a ta) (hb : PE X b tb) : PE X (.IfExp c a b pos) (aIf t ta tb) := pe_ifExp hc ha hb
variable {st : Stmt} {rest : List Stmt} {t u : TS}
theorem ass_nil : PSs X [] aNext := pss_nil
theorem ass_cons (h1 : PS X st t) (h2 : PSs X rest u) : PSs X (st :: rest) (aSeq t u) := pss_cons h1 h2
theorem as_expr (he : PE X e te) (hs : swapsWith e none pos.line X.env = pure false := by rfl) : PS X (.Expr e pos) (aDrop te) := ps_expr he hs
theorem as_ret (he : PE X e te) : PS X (.Return (some e) pos) (aRet te) := ps_ret he
theorem as_if {x y : List Stmt} {tc : TT} (hc : PT X c tc) (ha : PSs X x t) (hb : PSs X y u) : PS X (.If c x y pos) (aIfS tc t u) := ps_if hc ha hb
theorem as_asg {tg : Expr} {g : TG} (he : PE X e te) (hg : PG X tg g) (hs : swapsWithSole [tg] e pos.line X.env = pure false := by rfl) (hw : swappedStores [tg] e X.env = pure none := by rfl)
    (h1 : (assignEach [tg] X.env).map (·.2) = [assign tg X.env] := by rfl) : PS X (.Assign [tg] e pos) (aAsg te g) := ps_asg he hg hs hw h1
abbrev agName (i : Nat) : TG := fun v σ H Q => Q (σ.set i (some v)) H
theorem as_set {i : Nat} {x : Str} {pos' : Pos} (hN : X.N.Nodup) (hi : X.N[i]? = some x) (hx : Loc X.env.scope x) (he : PE X e te) (hs : swapsWith e (some (.Name x pos')) pos.line X.env = pure false := by rfl) (hf : X.fn x = true ∨ X.env.scope.names.lookup x = some .local := by first | exact .inl rfl | exact .inr rfl | assumption) :
    PS X (.Assign [.Name x pos'] e pos) (aAsg te (agName i)) := ps_set hN hi hx he hs hf
theorem as_dput {value : Expr} {pos' : Pos} (hu : X.A.units + 1 < cLine) (ho : PE X o td) (hi : PE X i ty) (hv : PE X value tv) (hs : swapsWith value (some (.Subscript o i pos')) pos.line X.env = pure false) :
    PS X (.Assign [.Subscript o i pos'] value pos) (aDPut td ty tv) := ps_dput hu ho hi hv hs
end
end R
set_option maxHeartbeats 4000000
/-! places reached from a place, and how far they are -/
namespace R
open PySem L2
def lk {β : Type} (f : List (Str × β)) (x : Str) : Option β := (f.find? fun p => decide (p.1 = x)).map (·.2)
section
variable {β : Type}
theorem lk_nil (x : Str) : lk ([] : List (Str × β)) x = none := rfl
theorem lk_cons (p : Str × β) (f : List (Str × β)) (x : Str) : lk (p :: f) x = if p.1 = x then some p.2 else lk f x := by
  unfold lk
  rw [List.find?_cons]
  by_cases h : p.1 = x
  · rw [if_pos h, decide_eq_true h]; rfl
  · rw [if_neg h, decide_eq_false h]
theorem lk_append (f g : List (Str × β)) (x : Str) : lk (f ++ g) x = (lk f x).or (lk g x) := by
  induction f with
  | nil => rfl
  | cons p f ih =>
    rw [List.cons_append, lk_cons, lk_cons, ih]
    split <;> rfl
theorem lk_none {f : List (Str × β)} {x : Str} : lk f x = none ↔ x ∉ f.map (·.1) := by
  induction f with
  | nil => simp [lk_nil]
  | cons p f ih =>
    rw [lk_cons, List.map_cons, List.mem_cons, not_or]
    by_cases h : p.1 = x
    · rw [if_pos h]; simp [h]
    · rw [if_neg h, ih]; exact ⟨fun k => ⟨fun e => h e.symm, k⟩, fun k => k.2⟩
theorem lk_some_mem {f : List (Str × β)} {x : Str} {b : β} (h : lk f x = some b) : (x, b) ∈ f := by
  induction f with
  | nil => cases h
  | cons p f ih =>
    rw [lk_cons] at h
    by_cases e : p.1 = x
    · rw [if_pos e] at h
      cases h
      subst e
      exact List.mem_cons_self
    · rw [if_neg e] at h
      exact List.mem_cons_of_mem _ (ih h)
theorem lk_of_mem {f : List (Str × β)} {x : Str} {b : β} (hn : (f.map (·.1)).Nodup) (h : (x, b) ∈ f) : lk f x = some b := by
  induction f with
  | nil => cases h
  | cons p f ih =>
    rw [lk_cons]
    rw [List.map_cons, List.nodup_cons] at hn
    rcases List.mem_cons.mp h with e | h
    · rw [← e, if_pos rfl]
    · by_cases e : p.1 = x
      · exact absurd (List.mem_map.mpr ⟨_, h, e.symm⟩) hn.1
      · rw [if_neg e]; exact ih hn.2 h
theorem lk_key {f : List (Str × β)} {x : Str} (h : x ∈ f.map (·.1)) : ∃ b, lk f x = some b := by
  cases e : lk f x with
  | none => exact absurd h (lk_none.mp e)
  | some b => exact ⟨b, rfl⟩
/-- the dict that stands for it -/
def kvF (g : β → V) (f : List (Str × β)) : List (Key × V) := f.map fun p => (.inr p.1, g p.2)
theorem valV_kvF (g : β → V) (f : List (Str × β)) (x : Str) : valV (kvF g f) (Sum.inr x) = (lk f x).map g := by
  induction f with
  | nil => rfl
  | cons p f ih =>
    rw [lk_cons]
    show valV ((Sum.inr p.1, g p.2) :: kvF g f) (Sum.inr x) = _
    by_cases h : p.1 = x
    · rw [if_pos h, valV_pos (by rw [h])]; rfl
    · rw [if_neg h, valV_neg (fun e => h (Sum.inr.inj e)), ih]
theorem kvF_snoc (g : β → V) (f : List (Str × β)) (x : Str) (b : β) : kvF g (f ++ [(x, b)]) = kvF g f ++ [(Sum.inr x, g b)] := by
  unfold kvF; rw [List.map_append]; rfl
theorem kvF_put (g : β → V) (f : List (Str × β)) (x : Str) (b : β) (h : lk f x = none) : putK (kvF g f) (Sum.inr x) (g b) = kvF g (f ++ [(x, b)]) := by
  rw [kvF_snoc, putK_new]
  rw [valV_kvF, h]; rfl
theorem kvF_len (g : β → V) (f : List (Str × β)) : (kvF g f).length = f.length := by unfold kvF; rw [List.length_map]
end
abbrev Road := Str × Str × Str
def otherEnd (r : Road) (p : Str) : Str := if r.2.1 = p then r.2.2 else r.2.1
/-- x is an end of r -/
def inc (x : Str) (r : Road) : Prop := x = r.2.1 ∨ x = r.2.2
instance (x : Str) (r : Road) : Decidable (inc x r) := by unfold inc; exact inferInstance
theorem otherEnd_or {r : Road} {x : Str} (h : inc x r) : (x = r.2.1 ∧ otherEnd r x = r.2.2) ∨ (x = r.2.2 ∧ otherEnd r x = r.2.1) := by
  unfold otherEnd
  by_cases e : r.2.1 = x
  · rw [if_pos e]; exact .inl ⟨e.symm, rfl⟩
  · rw [if_neg e]
    rcases h with h | h
    · exact absurd h.symm e
    · exact .inr ⟨h, rfl⟩
structure Wf (W : Web) : Prop where
  nd : W.P.Nodup
  nn : W.names.Nodup
  ends : ∀ r ∈ W.R, r.2.1 ∈ W.P ∧ r.2.2 ∈ W.P
theorem Wf.other {W : Web} (h : Wf W) {r : Road} {x : Str} (hr : r ∈ W.R) : otherEnd r x ∈ W.P := by
  unfold otherEnd
  split
  · exact (h.ends r hr).2
  · exact (h.ends r hr).1
/-- d tells the distances of a tree -/
structure TreeD (W : Web) (d : Str → Str → Nat) : Prop extends Wf W where
  cnt : W.R.length + 1 = W.P.length
  zero : ∀ a ∈ W.P, ∀ b ∈ W.P, d a b = 0 ↔ a = b
  symm : ∀ a ∈ W.P, ∀ b ∈ W.P, d a b = d b a
  edge : ∀ r ∈ W.R, ∀ a ∈ W.P, d a r.2.1 = d a r.2.2 + 1 ∨ d a r.2.2 = d a r.2.1 + 1
  next : ∀ a ∈ W.P, ∀ x ∈ W.P, a ≠ x → ∃ r ∈ W.R, inc x r ∧ d a (otherEnd r x) + 1 = d a x
  uniq : ∀ a ∈ W.P, ∀ x ∈ W.P, ∀ r ∈ W.R, ∀ s ∈ W.R, inc x r → inc x s → d a (otherEnd r x) + 1 = d a x → d a (otherEnd s x) + 1 = d a x → r = s
/-- what is found new from here (which stands at n), the roads looked at one by one -/
def newAt (here : Str) (n : Nat) (f : List (Str × Nat)) (rs : List Road) : List (Str × Nat) :=
  rs.foldl (fun new r => if inc here r ∧ lk (f ++ new) (otherEnd r here) = none then new ++ [(otherEnd r here, n + 1)] else new) []
theorem newAt_snoc (here : Str) (n : Nat) (f : List (Str × Nat)) (rs : List Road) (r : Road) :
    newAt here n f (rs ++ [r]) = if inc here r ∧ lk (f ++ newAt here n f rs) (otherEnd r here) = none then newAt here n f rs ++ [(otherEnd r here, n + 1)] else newAt here n f rs := by
  unfold newAt; rw [List.foldl_append]; rfl
/-- the search stands so: f found (with their distances), left to be looked at -/
structure BInv (W : Web) (p : Str) (f : List (Str × Nat)) (left : List Str) : Prop where
  nd : (f.map (·.1)).Nodup
  sub : ∀ x ∈ f.map (·.1), x ∈ W.P
  head : p ∈ f.map (·.1)
  lsub : ∀ x ∈ left, x ∈ f.map (·.1)
  llen : left.length ≤ f.length
  done : ∀ x ∈ f.map (·.1), x ∉ left → ∀ r ∈ W.R, inc x r → otherEnd r x ∈ f.map (·.1)
  tree : ∀ d, TreeD W d → ∀ x n, (x, n) ∈ f → n = d p x ∧ (x ≠ p → ∀ r ∈ W.R, inc x r → d p (otherEnd r x) + 1 = d p x → otherEnd r x ∈ f.map (·.1))
  reach : ∀ C : Str → Prop, C p → (∀ r ∈ W.R, ∀ x, inc x r → C x → C (otherEnd r x)) → ∀ x ∈ f.map (·.1), C x
theorem BInv.start {W : Web} {p : Str} (hp : p ∈ W.P) : BInv W p [(p, 0)] [p] where
  nd := by simp
  sub := by simp [hp]
  head := by simp
  lsub := by simp
  llen := Nat.le_refl _
  done := by simp
  tree := fun d T x n h => by
    simp only [List.mem_singleton] at h
    cases h
    exact ⟨((T.zero p hp p hp).mpr rfl).symm, fun h => absurd rfl h⟩
  reach := fun C h _ x hx => by
    simp only [List.map_cons, List.map_nil, List.mem_singleton] at hx
    subst hx; exact h
theorem length_le_of_nodup_sub {α : Type} [DecidableEq α] : ∀ {l m : List α}, l.Nodup → (∀ x ∈ l, x ∈ m) → l.length ≤ m.length
  | [], _, _, _ => Nat.zero_le _
  | a :: l, m, hl, h => by
    rw [List.nodup_cons] at hl
    have ha : a ∈ m := h a List.mem_cons_self
    have ih := length_le_of_nodup_sub (l := l) (m := m.erase a) hl.2 fun x hx => by
      have ne : x ≠ a := fun e => hl.1 (e ▸ hx)
      exact (List.mem_erase_of_ne ne).mpr (h x (List.mem_cons_of_mem _ hx))
    rw [List.length_erase_of_mem ha] at ih
    have : 0 < m.length := List.length_pos_of_mem ha
    rw [List.length_cons]
    omega
theorem revInd {α : Type} {p : List α → Prop} (h0 : p []) (hs : ∀ l a, p l → p (l ++ [a])) (l : List α) : p l := by
  have : ∀ l : List α, p l.reverse := fun l => by
    induction l with
    | nil => exact h0
    | cons a l ih => rw [List.reverse_cons]; exact hs _ _ ih
  have := this l.reverse
  rwa [List.reverse_reverse] at this
theorem BInv.len {W : Web} {p : Str} {f : List (Str × Nat)} {left : List Str} (b : BInv W p f left) : f.length ≤ W.P.length := by
  have := length_le_of_nodup_sub b.nd b.sub
  rwa [List.length_map] at this
/-- one place looked at, some of the roads done -/
structure BMid (W : Web) (p here : Str) (n : Nat) (f : List (Str × Nat)) (rest : List Str) (rs : List Road) (new : List (Str × Nat)) : Prop where
  nd : ((f ++ new).map (·.1)).Nodup
  sub : ∀ x ∈ (f ++ new).map (·.1), x ∈ W.P
  here_new : ∀ x m, (x, m) ∈ new → m = n + 1 ∧ ∃ r ∈ W.R, inc here r ∧ otherEnd r here = x
  seen : ∀ r ∈ rs, inc here r → otherEnd r here ∈ (f ++ new).map (·.1)
theorem BMid.all {W : Web} {p here : Str} {n : Nat} {f : List (Str × Nat)} {rest : List Str} (hw : Wf W) (b : BInv W p f (here :: rest)) (rs : List Road) : (∀ r ∈ rs, r ∈ W.R) → BMid W p here n f rest rs (newAt here n f rs) := by
  refine revInd (p := fun rs => (∀ r ∈ rs, r ∈ W.R) → BMid W p here n f rest rs (newAt here n f rs)) ?_ ?_ rs
  · intro _
    exact ⟨by simpa [newAt] using b.nd, by simpa [newAt] using b.sub, by simp [newAt], by simp⟩
  · intro rs r ih hs
    have I := ih fun r hr => hs r (List.mem_append_left _ hr)
    have hr : r ∈ W.R := hs r (by simp)
    rw [newAt_snoc]
    by_cases c : inc here r ∧ lk (f ++ newAt here n f rs) (otherEnd r here) = none
    · rw [if_pos c]
      have hno := lk_none.mp c.2
      refine ⟨?_, ?_, ?_, ?_⟩
      · rw [← List.append_assoc, List.map_append]
        exact nd_snoc I.nd hno
      · intro x hx
        rw [← List.append_assoc, List.map_append] at hx
        rcases List.mem_append.mp hx with h | h
        · exact I.sub x h
        · simp only [List.map_cons, List.map_nil, List.mem_singleton] at h
          rw [h]; exact hw.other hr
      · intro x m hx
        rcases List.mem_append.mp hx with h | h
        · exact I.here_new x m h
        · simp only [List.mem_singleton] at h
          cases h
          exact ⟨rfl, r, hr, c.1, rfl⟩
      · intro q hq hi
        rw [← List.append_assoc, List.map_append]
        rcases List.mem_append.mp hq with h | h
        · exact List.mem_append_left _ (I.seen q h hi)
        · simp only [List.mem_singleton] at h
          subst h
          exact List.mem_append_right _ (by simp)
    · rw [if_neg c]
      refine ⟨I.nd, I.sub, I.here_new, fun q hq hi => ?_⟩
      rcases List.mem_append.mp hq with h | h
      · exact I.seen q h hi
      · simp only [List.mem_singleton] at h
        subst h
        refine Classical.byContradiction fun k => c ⟨hi, lk_none.mpr k⟩
theorem BInv.step {W : Web} {p here : Str} {n : Nat} {f : List (Str × Nat)} {rest : List Str} (hw : Wf W) (hp : p ∈ W.P) (b : BInv W p f (here :: rest)) (hn : lk f here = some n) :
    BInv W p (f ++ newAt here n f W.R) (rest ++ (newAt here n f W.R).map (·.1)) := by
  have M : BMid W p here n f rest W.R (newAt here n f W.R) := BMid.all hw b W.R fun _ h => h
  generalize newAt here n f W.R = new at M ⊢
  have hh : here ∈ f.map (·.1) := b.lsub here List.mem_cons_self
  have hl : ∀ {x}, x ∈ f.map (·.1) → x ∈ (f ++ new).map (·.1) := fun h => by rw [List.map_append]; exact List.mem_append_left _ h
  have hr : ∀ {x}, x ∈ new.map (·.1) → x ∈ (f ++ new).map (·.1) := fun h => by rw [List.map_append]; exact List.mem_append_right _ h
  refine ⟨M.nd, M.sub, hl b.head, fun x hx => ?_, ?_, fun x hx hx' r hr' hi => ?_, fun d T x m hm => ?_, fun C h0 hC x hx => ?_⟩
  · rcases List.mem_append.mp hx with h | h
    · exact hl (b.lsub x (List.mem_cons_of_mem _ h))
    · exact hr h
  · have := b.llen
    rw [List.length_cons] at this
    rw [List.length_append, List.length_append, List.length_map]
    omega
  · rw [List.map_append] at hx
    rcases List.mem_append.mp hx with h | h
    · by_cases e : x = here
      · subst e; exact M.seen r hr' hi
      · refine hl (b.done x h (fun k => ?_) r hr' hi)
        rcases List.mem_cons.mp k with k | k
        · exact e k
        · exact hx' (List.mem_append_left _ k)
    · exact absurd (List.mem_append_right _ h) hx'
  · have hx : x ∈ W.P := M.sub x (List.mem_map.mpr ⟨_, hm, rfl⟩)
    rcases List.mem_append.mp hm with h | h
    · obtain ⟨h1, h2⟩ := b.tree d T x m h
      exact ⟨h1, fun e r hr' hi q => hl (h2 e r hr' hi q)⟩
    · obtain ⟨e, r, hr', hi, he⟩ := M.here_new x m h
      obtain ⟨hd, hpar⟩ := b.tree d T here n (lk_some_mem hn)
      have hxn : x ∉ f.map (·.1) := fun k => by
        have z := M.nd
        rw [List.map_append, List.nodup_append] at z
        exact z.2.2 x k x (List.mem_map.mpr ⟨_, h, rfl⟩) rfl
      have key : d p x = d p here + 1 := by
        have E := T.edge r hr' p hp
        have far : ¬ d p x + 1 = d p here := fun q => by
          by_cases e' : here = p
          · subst e'
            rw [(T.zero here hp here hp).mpr rfl] at q
            omega
          · have := hpar e' r hr' hi (by rw [he]; exact q)
            rw [he] at this
            exact hxn this
        rcases otherEnd_or hi with ⟨h1, h2⟩ | ⟨h1, h2⟩ <;> rw [← h1, ← h2, he] at E <;> omega
      refine ⟨by rw [e, hd, key], fun _ s hs hi' q => ?_⟩
      have xr : inc x r := by
        rcases otherEnd_or hi with ⟨h1, h2⟩ | ⟨h1, h2⟩
        · right; rw [← he, h2]
        · left; rw [← he, h2]
      have ox : otherEnd r x = here := by
        have ne : ¬ r.2.1 = r.2.2 := fun z => by
          have E := T.edge r hr' p hp
          rw [z] at E
          omega
        unfold otherEnd at he ⊢
        by_cases z : r.2.1 = here
        · rw [if_pos z] at he
          rw [if_neg (fun k => ne (by rw [k, he]))]
          exact z
        · rw [if_neg z] at he
          rw [if_pos he]
          rcases hi with hi | hi
          · exact absurd hi.symm z
          · exact hi.symm
      have : s = r := T.uniq p hp x hx s hs r hr' hi' xr q (by rw [ox]; exact key.symm)
      rw [this, ox]
      exact hl hh
  · rw [List.map_append] at hx
    rcases List.mem_append.mp hx with h | h
    · exact b.reach C h0 hC x h
    · obtain ⟨⟨y, m⟩, hm, rfl⟩ := List.mem_map.mp h
      obtain ⟨_, r, hr', hi, he⟩ := M.here_new _ _ hm
      show C y
      rw [← he]
      exact hC r hr' here hi (b.reach C h0 hC here hh)
/-- what the search gives -/
structure StepsOk (W : Web) (p : Str) (f : List (Str × Nat)) : Prop where
  nd : (f.map (·.1)).Nodup
  sub : ∀ x ∈ f.map (·.1), x ∈ W.P
  head : p ∈ f.map (·.1)
  reach : ∀ C : Str → Prop, C p → (∀ r ∈ W.R, ∀ x, inc x r → C x → C (otherEnd r x)) → ∀ x ∈ f.map (·.1), C x
  tree : ∀ d, TreeD W d → ∀ x ∈ W.P, lk f x = some (d p x)
theorem BInv.fin {W : Web} {p : Str} {f : List (Str × Nat)} (hp : p ∈ W.P) (b : BInv W p f []) : StepsOk W p f where
  nd := b.nd
  sub := b.sub
  head := b.head
  reach := b.reach
  tree := fun d T => by
    have all : ∀ k x, x ∈ W.P → d p x = k → x ∈ f.map (·.1) := by
      intro k
      induction k with
      | zero => intro x hx e; rw [← (T.zero p hp x hx).mp e]; exact b.head
      | succ k ih =>
        intro x hx e
        have ne : p ≠ x := fun z => by
          rw [(T.zero p hp x hx).mpr z] at e; cases e
        obtain ⟨r, hr, hi, q⟩ := T.next p hp x hx ne
        have hy := ih (otherEnd r x) (T.other hr) (by omega)
        have back : otherEnd r (otherEnd r x) = x ∧ inc (otherEnd r x) r := by
          have ne : ¬ r.2.1 = r.2.2 := fun z => by
            have E := T.edge r hr p hp
            rw [z] at E
            omega
          rcases otherEnd_or hi with ⟨h1, h2⟩ | ⟨h1, h2⟩
          · rw [h2]; exact ⟨by unfold otherEnd; rw [if_neg ne, h1], .inr rfl⟩
          · rw [h2]; exact ⟨by unfold otherEnd; rw [if_pos rfl, h1], .inl rfl⟩
        have := b.done _ hy (by simp) r hr back.2
        rwa [back.1] at this
    intro x hx
    obtain ⟨m, hm⟩ := lk_key (all _ x hx rfl)
    rw [hm, (b.tree d T x m (lk_some_mem hm)).1]
theorem StepsOk.len {W : Web} {p : Str} {f : List (Str × Nat)} (b : StepsOk W p f) : f.length ≤ W.P.length := by
  have := length_le_of_nodup_sub b.nd b.sub
  rwa [List.length_map] at this
/-- all of a tree's places are found -/
theorem StepsOk.treeLen {W : Web} {p : Str} {f : List (Str × Nat)} {d : Str → Str → Nat} (T : TreeD W d) (b : StepsOk W p f) : f.length = W.P.length := by
  refine Nat.le_antisymm b.len ?_
  have := length_le_of_nodup_sub (m := f.map (·.1)) T.nd fun x hx => by
    have h := b.tree d T x hx
    exact List.mem_map.mpr ⟨_, lk_some_mem h, rfl⟩
  rwa [List.length_map] at this
/-- a place that no road reaches from p is not found -/
theorem StepsOk.lenLt {W : Web} {p z : Str} {f : List (Str × Nat)} (b : StepsOk W p f) (hz : z ∈ W.P) (hne : p ≠ z) (hno : ∀ r ∈ W.R, r.2.1 ≠ z ∧ r.2.2 ≠ z) : f.length < W.P.length := by
  have hnz : z ∉ f.map (·.1) := fun k => b.reach (fun x => x ≠ z) hne (fun r hr x _ _ => by
    unfold otherEnd
    split
    · exact (hno r hr).2
    · exact (hno r hr).1) z k rfl
  have h1 : (z :: f.map (·.1)).Nodup := List.nodup_cons.mpr ⟨hnz, b.nd⟩
  have := length_le_of_nodup_sub (m := W.P) h1 fun x hx => by
    rcases List.mem_cons.mp hx with rfl | h
    · exact hz
    · exact b.sub x h
  rw [List.length_cons, List.length_map] at this
  exact this
end R
set_option maxHeartbeats 4000000
namespace R
open PySem PySem.Spec PyProof.Rows L2
section
variable {P : Program} {w : World} {K : PySem.W.Frag} {mg : Str → Option Value} {base : Heap}
def sp_other_end (K : PySem.W.Frag) : Sp := fun vs H Q _ => ∃ v r p, vs = [v, .str p] ∧ Dp K H v (roadD r) ∧ Q (.str (otherEnd r p)) H
theorem ok_other_end (F : DefAt K mg "other_end" s_other_end ["road", "place"]) : Ok P w K mg base CX0 1 "other_end" ["road", "place"] (sp_other_end K) := by
  refine ok_of F sc_other_end (fun vs H Q E h => by obtain ⟨_, _, _, rfl, _⟩ := h; rfl) fun f cdv A outer s H vs Q E hr h => ?_
  obtain ⟨v, r, p, rfl, hv, q⟩ := h
  refine ⟨_, (pss_one (as_ret (ae_ifExp (at_cmpR op_eq (ae_ix (ixT K) (av 0) ae_int (fun _ _ => rfl)) (av 1) (nomark _)) (ae_ix (ixT K) (av 0) ae_int (fun _ _ => rfl)) (ae_ix (ixT K) (av 0) ae_int (fun _ _ => rfl))))), ?_⟩
  obtain ⟨a, rfl, ha⟩ := road_parts hv
  refine ⟨_, rfl, a, _, _, _, rfl, rfl, ha, ix1, _, rfl, rfl, _, rfl, ?_⟩
  unfold otherEnd at q
  refine ite2 (fun e => ?_) (fun e => ?_)
  · have e : r.2.1 = p := V.str.inj (of_decide_eq_true e)
    rw [if_pos e] at q
    exact ⟨_, rfl, a, _, _, _, rfl, rfl, ha, ix2, q⟩
  · have e : ¬ r.2.1 = p := fun z => e (decide_eq_true (by rw [z]))
    rw [if_neg e] at q
    exact ⟨_, rfl, a, _, _, _, rfl, rfl, ha, ix1, q⟩
def sp_names_of_roads (K : PySem.W.Frag) : Sp := fun vs H Q _ => ∃ v W, vs = [v] ∧ WebAt K H v W ∧ ∀ H' p, Same H H' → H p = none → H' p = some (.lst (W.names.map V.str)) → Q (.ref p) H'
theorem ok_names_of_roads (F : DefAt K mg "names_of_roads" s_names_of_roads ["web"]) : Ok P w K mg base CX0 1 "names_of_roads" ["web"] (sp_names_of_roads K) := by
  refine ok_of F sc_names_of_roads (fun vs H Q E h => by obtain ⟨_, _, rfl, _⟩ := h; rfl) fun f cdv A outer s H vs Q E hr h => ?_
  obtain ⟨v, W, rfl, hv, q⟩ := h
  refine ⟨_, (pss_one (as_ret (pe_lc (own := [("road", 1)]) (g := (gName 1)) (tt := tYes) rfl sc_names_of_roads.nd (piT K (ae_ix (ixT K) (av 0) ae_int (fun _ _ => rfl))) (blkOk_by (own := [("road", 1)]) (N := n_names_of_roads) (sc := (defScope s_names_of_roads)) (by decide +kernel)) (fun _ _ _ _ _ => (pg_name (i := 1) sc_names_of_roads.nd rfl (Or.inl rfl))) (fun _ _ _ _ _ => pts_nil) (fun _ _ _ _ _ => (ae_ix (ixT K) (av 1) ae_int (fun _ _ => rfl)))))), ?_⟩
  obtain ⟨a, p, r, rs, rfl, hA, hP, hR, hrs⟩ := hv.parts
  refine ⟨_, rfl, a, _, _, _, rfl, rfl, hA, ix1, r, rfl, ⟨_, hR⟩, fun D hD => ?_⟩
  have s0 : Same H (upd H D (.lst [])) := Same.new hD
  refine lc_tup (K := K) (a := r) (xs := rs) (fun i H' => Same H H' ∧ H' D = some (.lst ((W.names.take i).map V.str))) ⟨s0, upd_same⟩ (fun i H' _ h => h.1.seqT hR) ?_ ?_
  · rintro i x H' hx ⟨s1, hd⟩
    obtain ⟨d, hd1, hd2⟩ := hrs.get' hx
    rw [List.getElem?_map] at hd1
    obtain ⟨rd, e1, rfl⟩ := Option.map_eq_some_iff.mp hd1
    obtain ⟨b, rfl, hb⟩ := road_parts (hd2.mono s1)
    refine ⟨rfl, ?_⟩
    refine ⟨_, rfl, b, _, _, _, rfl, rfl, hb, ix0, _, hd, ?_, s1.over hD, ?_⟩
    · rw [List.length_map, List.length_take]
      exact small_ (Nat.le_trans (Nat.min_le_right _ _) (by unfold Web.names; rw [List.length_map]; exact hv.rl))
    · rw [upd_same, List.take_add_one, show W.names[i]? = some rd.1 by unfold Web.names; rw [List.getElem?_map, e1]; rfl, List.map_append]
      rfl
  · rintro H' ⟨s1, hd⟩
    rw [List.take_of_length_le (by unfold Web.names; rw [List.length_map, hrs.length, List.length_map]; exact Nat.le_refl _)] at hd
    exact q H' D s1 hD hd
/-! ### steps_from -/
def gI (n : Nat) : V := V.int (n : Int)
theorem inV_str (x : Str) (l : List Str) : inV (.str x) (l.map V.str) = decide (x ∈ l) := by
  unfold inV
  rw [List.any_map]
  induction l with
  | nil => simp
  | cons y l ih =>
    rw [List.any_cons, ih]
    show ((y == x) || decide (x ∈ l)) = _
    by_cases e : y = x
    · subst e; simp
    · simp [e, Ne.symm e]
theorem flat_strs (l : List Str) : (l.map V.str).all flatV = true := by
  induction l with
  | nil => rfl
  | cons x l ih => rw [List.map_cons, List.all_cons, ih]; rfl
theorem cut_road (a b c : V) : cutV [a, b, c] (some 1) none = [b, c] := rfl
/-- road[1:] -/
theorem road_tail {r : Road} {H : Hp} {b : Addr} {Q : VK} (hb : SqT K H b [.str r.1, .str r.2.1, .str r.2.2]) (q : ∀ p H', Same H H' → H' p = some (.tup ([r.2.1, r.2.2].map V.str)) → Q (.ref p) H') : rSlA K (.ref b) (some 1) none H Q := by
  refine ⟨b, _, rfl, hb, fun h => ?_, fun _ p hp => ?_⟩
  · exact absurd h.1 (by show ¬ HT.sIx 3 0 (some 1) = 0; decide)
  · exact q p _ (Same.new hp) (by rw [upd_same]; rfl)
theorem inc_dec (x : Str) (r : Road) : decide (x ∈ [r.2.1, r.2.2]) = decide (inc x r) := by
  unfold inc
  by_cases h : x = r.2.1 <;> by_cases h' : x = r.2.2 <;> simp [h, h']
theorem seq0 (n : Nat) : seqIndex? 0 (n + 1) = some 0 := by
  unfold seqIndex?
  simp
def sp_steps_from (K : PySem.W.Frag) : Sp := fun vs H Q _ => ∃ v W p, vs = [v, .str p] ∧ WebAt K H v W ∧ Wf W ∧ p ∈ W.P ∧ ∀ H' d f, Same H H' → H d = none → H' d = some (.dK (kvF gI f)) → StepsOk W p f → Q (.ref d) H'
theorem dgetF {β : Type} {g : β → V} {f : List (Str × β)} {H : Hp} {d : Addr} {x : Str} (h : H d = some (.dK (kvF g f))) : DGet H d (.str x) ((lk f x).map g) := by
  rw [← valV_kvF]; exact DGet.k (k := Sum.inr x) h
theorem ok_steps_from (F : DefAt K mg "steps_from" s_steps_from ["web", "place"]) (G_other_end : Ok P w K mg base CX0 1 "other_end" ["road", "place"] (sp_other_end K)) :
    Ok P w K mg base CX0 2 "steps_from" ["web", "place"] (sp_steps_from K) := by
  refine ok_of F sc_steps_from (fun vs H Q E h => by obtain ⟨_, _, _, rfl, _⟩ := h; rfl) fun f cdv A outer s H vs Q E hr h => ?_
  obtain ⟨v, W, p, rfl, hv, hw, hp, q⟩ := h
  refine ⟨_, (ass_cons (as_set (i := 2) sc_steps_from.nd rfl (Or.inl rfl) (pe_disp (pps_cons (av 1) ae_int pps_nil) (by rfl) (by rfl) (fun z => by cases z) (by decide)))
    (ass_cons (as_set (i := 3) sc_steps_from.nd rfl (Or.inl rfl) (ae_lst (aa_cons (av 1) aa_nil)))
    (ass_cons (ps_while PassesOwn.never (at_cmpR (neD K (hu := hu64 hr)) (av 3) (ae_lst aa_nil) (nomark _))
      (ass_cons (as_set (i := 4) sc_steps_from.nd rfl (Or.inl rfl) (ae_bm K PySem.F.plainAttrs_list PySem.F.slot_list_pop PySem.F.type_list_pop mt_popAt (av 3) (aa_cons ae_int aa_nil)))
      (pss_one (ps_for PassesOwn.never rfl (piT K (ae_ix (ixT K) (av 0) ae_int (fun _ _ => rfl))) (pg_name (i := 5) sc_steps_from.nd rfl (Or.inl rfl))
        (pss_one (as_if (PW.pt (aw_and (at_cmpR (inS K) (av 4) (ae_slice (slT K) (av 5) (ao_some ae_int) poN) (by rfl)) (pw_and1 (at_cmp (ac_dnotin (hu_of hr) (ae_co G_other_end hr pass0 (aa_cons (av 5) (aa_cons (av 4) aa_nil))) (av 2))))))
          (ass_cons (as_dput (hu_of hr) (av 2) (ae_co G_other_end hr pass0 (aa_cons (av 5) (aa_cons (av 4) aa_nil))) (ae_op op_add (ae_dget (hu_of hr) (av 2) (av 4) (fun _ _ => rfl)) ae_int) rfl)
          (pss_one (as_expr (ae_bm K PySem.F.plainAttrs_list PySem.F.slot_list_append PySem.F.type_list_append mt_append (av 3) (aa_cons (ae_co G_other_end hr pass0 (aa_cons (av 5) (aa_cons (av 4) aa_nil))) aa_nil)))))
          ass_nil))))))
    (pss_one (as_ret (av 2)))))), ?_⟩
  obtain ⟨a, pp, r, rs, rfl, hA, hP, hR, hrs⟩ := hv.parts
  -- found = {place: 0}
  refine fun d hd => ⟨_, rfl, upd_same, [(.inr p, .int 0)], rfl, by show 1 ≤ 15; decide, ?_⟩
  rw [upd_upd]
  -- left = [place]
  refine ⟨_, rfl, by show 1 ≤ sizeLine; decide, fun l hl => ?_⟩
  have sd : Same H (upd H d (.dK (mergeK [] [(Sum.inr p, V.int 0)]))) := Same.new hd
  have nl : H l = none := sd.free hl
  have ndl : d ≠ l := fun e => by rw [e, upd_same] at hl; cases hl
  refine ⟨fun m σ H' => ∃ f left y4 y5, σ = [some (.ref a), some (.str p), some (.ref d), some (.ref l), y4, y5] ∧ Same H H' ∧ H' d = some (.dK (kvF gI f)) ∧ H' l = some (.lst (left.map V.str)) ∧ BInv W p f left ∧ m = W.P.length + left.length - f.length,
    ⟨_, [(p, 0)], [p], none, none, rfl, sd.over nl, (by rw [upd_ne ndl, upd_same]; rfl), upd_same, BInv.start hp, rfl⟩, ?_⟩
  rintro m σ H' ⟨f, left, y4, y5, rfl, s1, hd1, hl1, b, rfl⟩
  have lok : left.all PyData.strOk = true := List.all_eq_true.mpr fun x hx => List.all_eq_true.mp hv.okP x (b.sub x (b.lsub x hx))
  refine ⟨_, rfl, Nat.zero_le _, fun e he => ?_⟩
  have s2 : Same H' (upd H' e (.lst [])) := Same.new he
  refine ⟨.list (left.map .str), .list ([].map .str), .lst (SqL.at (s2 _ _ hl1)) (DpAll.ofStrs _), .lst (SqL.at upd_same) .nil, shaped_lst lok, rfl, ?_⟩
  rw [eqv_lst]
  refine ⟨_, rfl, ?_⟩
  cases left with
  | nil =>
    refine ⟨_, rfl, q _ d f (s1.trans s2) hd (s2 _ _ hd1) (BInv.fin hp b)⟩
  | cons here rest =>
    -- here = left.pop(0)
    have hh : here ∈ f.map (·.1) := b.lsub here List.mem_cons_self
    obtain ⟨n, hn⟩ := lk_key hh
    have el : (upd H' e (.lst [])) l = some (.lst ((here :: rest).map V.str)) := s2 _ _ hl1
    have ed : (upd H' e (.lst [])) d = some (.dK (kvF gI f)) := s2 _ _ hd1
    refine ⟨fun σ'' H'' => ∃ y5, σ'' = [some (.ref a), some (.str p), some (.ref d), some (.ref l), some (.str here), y5] ∧ Same H H'' ∧ H'' d = some (.dK (kvF gI (f ++ newAt here n f W.R))) ∧ H'' l = some (.lst ((rest ++ (newAt here n f W.R).map (·.1)).map V.str)), ?_, ?_⟩
    · rintro σ'' H'' ⟨y5', rfl, h1, h2, h3⟩
      refine ⟨_, ?_, f ++ newAt here n f W.R, rest ++ (newAt here n f W.R).map (·.1), _, _, rfl, h1, h2, h3, b.step hw hp hn, rfl⟩
      have L1 := (b.step hw hp hn).len
      have L2 := b.llen
      rw [List.length_append] at L1 ⊢
      rw [List.length_append, List.length_map]
      rw [List.length_cons] at L2 ⊢
      omega
    refine ⟨_, rfl, .inl ⟨rfl, _, SqL.at el⟩, l, _, 0, 0, .str here, rfl, rfl, el, by decide, by decide, seq0 _, rfl, ?_⟩
    -- the roads
    have s3 : Same H (upd (upd H' e (.lst [])) l (.lst (((here :: rest).map V.str).eraseIdx 0))) := (s1.trans s2).over nl
    refine ⟨_, rfl, a, _, _, _, rfl, rfl, s3.seqT hA, ix1, r, rfl, ⟨_, s3.seqT hR⟩, ?_⟩
    refine for_tup (K := K) (a := r) (xs := rs) (fun i σ'' H'' => ∃ y5, σ'' = [some (.ref a), some (.str p), some (.ref d), some (.ref l), some (.str here), y5] ∧ Same H H'' ∧ H'' d = some (.dK (kvF gI (f ++ newAt here n f (W.R.take i)))) ∧ H'' l = some (.lst ((rest ++ (newAt here n f (W.R.take i)).map (·.1)).map V.str)))
      ⟨y5, rfl, s3, ?_, ?_⟩ (fun i σ'' H'' _ h => by obtain ⟨_, _, s, _⟩ := h; exact s.seqT hR) ?_ ?_
    · rw [upd_ne ndl, ed]
      simp [newAt]
    · rw [upd_same]
      simp [newAt]
    · rintro i x σ'' H'' hx ⟨y5', rfl, t1, t2, t3⟩
      obtain ⟨dd, hd2, hd3⟩ := hrs.get' hx
      rw [List.getElem?_map] at hd2
      obtain ⟨rd, e1, rfl⟩ := Option.map_eq_some_iff.mp hd2
      have hrd : Dp K H'' x (roadD rd) := hd3.mono t1
      obtain ⟨b', rfl, hb⟩ := road_parts hrd
      have M : BMid W p here n f rest (W.R.take i) (newAt here n f (W.R.take i)) := BMid.all hw b _ fun _ h => List.mem_of_mem_take h
      have en : newAt here n f (W.R.take (i + 1)) = if inc here rd ∧ lk (f ++ newAt here n f (W.R.take i)) (otherEnd rd here) = none then newAt here n f (W.R.take i) ++ [(otherEnd rd here, n + 1)] else newAt here n f (W.R.take i) := by
        rw [List.take_add_one, e1]
        exact newAt_snoc here n f (W.R.take i) rd
      rw [en]
      generalize newAt here n f (W.R.take i) = new at *
      -- here in road[1:]
      refine ⟨_, rfl, _, rfl, _, rfl, ?_⟩
      refine road_tail hb fun c H3 u1 u2 => ?_
      refine ⟨c, _, rfl, .inr (SqT.at u2), rfl, flat_strs _, ?_⟩
      rw [inV_str, inc_dec]
      refine ⟨_, rfl, ?_⟩
      have v1 := t1.trans u1
      have d3 := u1 _ _ t2
      have l3 := u1 _ _ t3
      refine ite2 (fun c1 => ?_) (fun c1 => ?_)
      · have c1 := of_decide_eq_true c1
        -- other_end(road, here) not in found
        refine ⟨_, rfl, _, rfl, _, _, _, rfl, hrd.mono u1, _, rfl, d, _, rfl, dgetF d3, _, rfl, ?_⟩
        by_cases c2 : lk (f ++ new) (otherEnd rd here) = none
        · rw [if_pos ⟨c1, c2⟩, c2]
          have hn' : lk (f ++ new) here = some n := by rw [lk_append, hn]; rfl
          -- found[..] = found[here] + 1
          refine ⟨_, rfl, _, rfl, d, gI n, rfl, ?_, _, _, rfl, rfl, ?_⟩
          · have := dgetF (x := here) d3
            rw [hn'] at this
            exact this
          refine ⟨_, rfl, _, rfl, _, rfl, _, _, _, rfl, hrd.mono u1, d, _, rfl, DPut.k (k := Sum.inr (otherEnd rd here)) d3 ?_, ?_⟩
          · rw [kvF_len]
            refine small_ (m := 100) (Nat.le_trans ?_ hv.pl)
            have := length_le_of_nodup_sub M.nd M.sub
            rwa [List.length_map] at this
          have ep : putK (kvF gI (f ++ new)) (Sum.inr (otherEnd rd here)) (V.int ((n : Int) + 1)) = kvF gI (f ++ (new ++ [(otherEnd rd here, n + 1)])) := by
            rw [← List.append_assoc]
            exact kvF_put gI _ _ (n + 1) c2
          rw [ep]
          generalize kvF gI (f ++ (new ++ [(otherEnd rd here, n + 1)])) = kk
          have w1 : Same H (upd H3 d (.dK kk)) := v1.over hd
          have lw : (upd H3 d (.dK kk)) l = some (.lst ((rest ++ new.map (·.1)).map V.str)) := by rw [upd_ne ndl.symm]; exact l3
          -- left.append(..)
          refine ⟨_, rfl, .inl ⟨rfl, _, SqL.at lw⟩, _, rfl, _, rfl, _, _, _, rfl, (hd3.mono w1), l, _, _, rfl, rfl, lw, ?_, ?_⟩
          · rw [List.length_map]
            refine small_ (m := 100) (Nat.le_trans ?_ hv.pl)
            have := length_le_of_nodup_sub M.nd M.sub
            rw [List.length_map, List.length_append] at this
            have L2 := b.llen
            rw [List.length_cons] at L2
            rw [List.length_append, List.length_map]
            omega
          · refine ⟨_, rfl, w1.over nl, by rw [upd_ne ndl, upd_same], ?_⟩
            rw [upd_same]
            simp
        · rw [if_neg (show ¬ (inc here rd ∧ lk (f ++ new) (otherEnd rd here) = none) from fun k => c2 k.2)]
          obtain ⟨m, hm⟩ := Option.ne_none_iff_exists'.mp c2
          rw [hm]
          exact ⟨_, rfl, v1, d3, l3⟩
      · have c1 : ¬ inc here rd := fun k => c1 (decide_eq_true k)
        rw [if_neg (show ¬ (inc here rd ∧ lk (f ++ new) (otherEnd rd here) = none) from fun k => c1 k.1)]
        exact ⟨_, rfl, v1, d3, l3⟩
    · rintro σ'' H'' ⟨y5', rfl, t1, t2, t3⟩
      have hl : rs.length = W.R.length := by rw [hrs.length, List.length_map]
      rw [hl, List.take_length] at t2 t3
      exact ⟨_, rfl, t1, t2, t3⟩
end
end R
set_option maxHeartbeats 4000000
/-! comprehensions whose turns change nothing that stood -/
namespace R
open PySem PySem.Spec PyProof.Rows L2
/-- the heap without D -/
def wo (H : Hp) (D : Addr) : Hp := fun b => if b = D then none else H b
section
variable {H H' H1 : Hp} {D p : Addr} {o : HO}
theorem wo_at : wo H D D = none := by unfold wo; rw [if_pos rfl]
theorem wo_ne {b : Addr} (h : b ≠ D) : wo H D b = H b := by unfold wo; rw [if_neg h]
theorem wo_some {b : Addr} (h : wo H D b = some o) : b ≠ D ∧ H b = some o := by
  unfold wo at h
  split at h
  · cases h
  · rename_i k; exact ⟨k, h⟩
theorem wo_same : Same (wo H D) H := fun b o e => (wo_some e).2
theorem wo_mono (s : Same H H') : Same (wo H D) (wo H' D) := fun b o e => by
  rw [wo_ne (wo_some e).1]; exact s b o (wo_some e).2
theorem wo_upd : wo (upd H D o) D = wo H D := by
  funext b
  by_cases h : b = D
  · subst h; rw [wo_at, wo_at]
  · rw [wo_ne h, wo_ne h, upd_ne h]
theorem wo_updS : Same (wo H D) (wo (upd H D o) D) := by rw [wo_upd]; exact Same.refl _
theorem wo_of (s : Same H1 H) (h : H1 D = none) : Same H1 (wo H D) := fun b o e => by
  rw [wo_ne (ne_of_none e h)]; exact s b o e
theorem wo_new (h : H p = none) (hd : p ≠ D) : Same (wo H D) (wo (upd H p o) D) := wo_mono (Same.new h)
end
/-- data of tuples alone -/
def tupOnly : PyData → Bool
  | .none | .bool _ | .int _ | .str _ => true
  | .tuple xs => tupAll xs
  | _ => false
where tupAll : List PyData → Bool
  | [] => true
  | x :: xs => tupOnly x && tupAll xs
/-- tuples stay -/
def SameT (H H' : Hp) : Prop := (∀ b xs, H b = some (.tup xs) → H' b = some (.tup xs)) ∧ ∀ b o u, H b = some (.frz o u) → H' b = some (.frz o u)
theorem SameT.seqT {K : PySem.W.Frag} {H H' : Hp} {a : Addr} {xs : List V} (e : SameT H H') (h : SqT K H a xs) : SqT K H' a xs := by
  rcases h with (h | ⟨o, h⟩) | h
  · exact .inl (.inl (e.1 _ _ h))
  · exact .inl (.inr ⟨o, e.2 _ _ _ h⟩)
  · exact .inr h
mutual
theorem dp_sameT {K : PySem.W.Frag} {H H' : Hp} (e : SameT H H') : ∀ {v : V} {d : PyData}, Dp K H v d → tupOnly d = true → Dp K H' v d
  | _, _, .non, _ => .non
  | _, _, .bl b, _ => .bl b
  | _, _, .int i, _ => .int i
  | _, _, .str x, _ => .str x
  | _, _, .lst _ _, h => by rw [tupOnly.eq_def] at h; cases h
  | _, _, .tup h a, t => .tup (e.seqT h) (dpAll_sameT e a (by rw [tupOnly.eq_def] at t; exact t))
theorem dpAll_sameT {K : PySem.W.Frag} {H H' : Hp} (e : SameT H H') : ∀ {vs : List V} {ds : List PyData}, DpAll K H vs ds → tupOnly.tupAll ds = true → DpAll K H' vs ds
  | _, _, .nil, _ => .nil
  | _, _, .cons a b, t => by
    rw [tupOnly.tupAll, Bool.and_eq_true] at t
    exact .cons (dp_sameT e a t.1) (dpAll_sameT e b t.2)
end
theorem sameT_wo {H : Hp} {D : Addr} {xs : List V} (h : H D = some (.lst xs)) : SameT H (wo H D) :=
  ⟨fun b ys e => by rw [wo_ne (ne_of e h (by intro z; cases z))]; exact e, fun b o u e => by rw [wo_ne (ne_of e h (by intro z; cases z))]; exact e⟩
theorem sameT_woD {H : Hp} {D : Addr} {xs : List (Key × V)} (h : H D = some (.dK xs)) : SameT H (wo H D) :=
  ⟨fun b ys e => by rw [wo_ne (ne_of e h (by intro z; cases z))]; exact e, fun b o u e => by rw [wo_ne (ne_of e h (by intro z; cases z))]; exact e⟩
theorem Same.sameT {H H' : Hp} (s : Same H H') : SameT H H' := ⟨fun _ _ e => s _ _ e, fun _ _ _ e => s _ _ e⟩
theorem SameT.trans {H H1 H2 : Hp} (a : SameT H H1) (b : SameT H1 H2) : SameT H H2 := ⟨fun _ _ e => b.1 _ _ (a.1 _ _ e), fun _ _ _ e => b.2 _ _ _ (a.2 _ _ _ e)⟩
theorem tup_strs : ∀ l : List Str, tupOnly.tupAll (l.map PyData.str) = true
  | [] => rfl
  | x :: l => by rw [List.map_cons, tupOnly.tupAll, tup_strs l]; rfl
theorem tup_strsT (l : List Str) : tupOnly (strsT l) = true := by unfold strsT; rw [tupOnly.eq_def]; exact tup_strs l
theorem tup_road (r : Road) : tupOnly (roadD r) = true := tup_strsT [r.1, r.2.1, r.2.2]
theorem tup_roads : ∀ l : List Road, tupOnly.tupAll (l.map roadD) = true
  | [] => rfl
  | x :: l => by rw [List.map_cons, tupOnly.tupAll, tup_roads l, tup_road]; rfl
theorem tup_web (W : Web) : tupOnly W.d = true := by
  unfold Web.d
  rw [tupOnly.eq_def]
  show tupOnly.tupAll _ = true
  rw [tupOnly.tupAll, tupOnly.tupAll, tupOnly.tupAll, tup_strsT]
  show (true && (tupOnly (.tuple (W.R.map roadD)) && true)) = true
  rw [tupOnly.eq_def]
  simp [tup_roads]
theorem WebAt.sameT {K : PySem.W.Frag} {H H' : Hp} {v : V} {W : Web} (h : WebAt K H v W) (e : SameT H H') : WebAt K H' v W := ⟨dp_sameT e h.dp (tup_web W), h.pl, h.rl, h.okP, h.okR⟩
section
variable {K : PySem.W.Frag} {a : Addr} {xs : List V} {g : TG} {tt : TT} {te : TE} {vs : List Nat} {σ : L2.St} {H1 : Hp} {D : Addr} {Qd : Hp → Prop}
/-- [.. for x in a tuple]: item i becomes the data es[i] -/
theorem lc_tupD (es : List PyData) (hD : H1 D = none) (ha : SqT K H1 a xs) (hlen : es.length = xs.length) (hz : xs.length ≤ 100000)
    (hs : ∀ (i : Nat) (x : V) (e : PyData) (H : Hp) (acc : List V) (Q : VK), Same H1 H → H D = some (.lst acc) → xs[i]? = some x → es[i]? = some e → (∀ y H4, Same H H4 → Dp K (wo H4 D) y e → Q y H4) → g x (wipe σ vs) H fun σ2 H2 => wipe σ2 vs = wipe σ vs ∧ te σ2 H2 Q)
    (hd : ∀ H ys, Same H1 H → H D = some (.lst ys) → DpAll K (wo H D) ys es → Qd H) :
    ∃ W : Nat → Nat → Hp → Prop, (∃ m, W 0 m (upd H1 D (.lst []))) ∧ ∀ i m H, W i m H →
      ((Itt K a).stop i H ∧ Qd H) ∨ ((Itt K a).go i H ∧ ∃ Nx : Hp → Prop, (∀ H', Nx H' → ∃ m', m' < m ∧ W (i + 1) m' H') ∧ ∀ x H', (Itt K a).yld i H x H' → g x (wipe σ vs) H' fun σ2 H2 => wipe σ2 vs = wipe σ vs ∧ tYes σ2 H2 fun b H3 =>
        if b = true then te σ2 H3 fun y H4 => ∃ acc, H4 D = some (.lst acc) ∧ acc.length < sizeLine ∧ Nx (upd H4 D (.lst (acc ++ [y]))) else Nx H3) := by
  refine lc_tup (K := K) (a := a) (xs := xs) (fun i H => Same H1 H ∧ ∃ ys, H D = some (.lst ys) ∧ DpAll K (wo H D) ys (es.take i)) ⟨Same.new hD, [], upd_same, .nil⟩ (fun i H _ h => h.1.seqT ha) ?_ ?_
  · rintro i x H hx ⟨s, ys, hy, hda⟩
    obtain ⟨hi, _⟩ := List.getElem?_eq_some_iff.mp hx
    have he : es[i]? = some (es[i]'(by omega)) := List.getElem?_eq_getElem (by omega)
    refine hs i x _ H ys _ s hy hx he fun y H4 s4 hd4 => ⟨ys, s4 _ _ hy, ?_, (s.trans s4).over hD, ys ++ [y], upd_same, ?_⟩
    · rw [hda.length, List.length_take]
      exact small_ (m := 100000) (by omega)
    · rw [wo_upd, List.take_add_one, he]
      exact (hda.mono (wo_mono s4)).snoc hd4
  · rintro H ⟨s, ys, hy, hda⟩
    rw [← hlen, List.take_length] at hda
    exact hd H ys s hy hda
/-- .. over a list -/
theorem lc_lstD (es : List PyData) (hD : H1 D = none) (ha : SqL K H1 a xs) (hlen : es.length = xs.length) (hz : xs.length ≤ 100000)
    (hs : ∀ (i : Nat) (x : V) (e : PyData) (H : Hp) (acc : List V) (Q : VK), Same H1 H → H D = some (.lst acc) → xs[i]? = some x → es[i]? = some e → (∀ y H4, Same H H4 → Dp K (wo H4 D) y e → Q y H4) → g x (wipe σ vs) H fun σ2 H2 => wipe σ2 vs = wipe σ vs ∧ te σ2 H2 Q)
    (hd : ∀ H ys, Same H1 H → H D = some (.lst ys) → DpAll K (wo H D) ys es → Qd H) :
    ∃ W : Nat → Nat → Hp → Prop, (∃ m, W 0 m (upd H1 D (.lst []))) ∧ ∀ i m H, W i m H →
      ((Itl K a).stop i H ∧ Qd H) ∨ ((Itl K a).go i H ∧ ∃ Nx : Hp → Prop, (∀ H', Nx H' → ∃ m', m' < m ∧ W (i + 1) m' H') ∧ ∀ x H', (Itl K a).yld i H x H' → g x (wipe σ vs) H' fun σ2 H2 => wipe σ2 vs = wipe σ vs ∧ tYes σ2 H2 fun b H3 =>
        if b = true then te σ2 H3 fun y H4 => ∃ acc, H4 D = some (.lst acc) ∧ acc.length < sizeLine ∧ Nx (upd H4 D (.lst (acc ++ [y]))) else Nx H3) := by
  refine lc_list (K := K) (a := a) (xs := xs) (fun i H => Same H1 H ∧ ∃ ys, H D = some (.lst ys) ∧ DpAll K (wo H D) ys (es.take i)) ⟨Same.new hD, [], upd_same, .nil⟩ (fun i H _ h => h.1.seq ha) ?_ ?_
  · rintro i x H hx ⟨s, ys, hy, hda⟩
    obtain ⟨hi, _⟩ := List.getElem?_eq_some_iff.mp hx
    have he : es[i]? = some (es[i]'(by omega)) := List.getElem?_eq_getElem (by omega)
    refine hs i x _ H ys _ s hy hx he fun y H4 s4 hd4 => ⟨ys, s4 _ _ hy, ?_, (s.trans s4).over hD, ys ++ [y], upd_same, ?_⟩
    · rw [hda.length, List.length_take]
      exact small_ (m := 100000) (by omega)
    · rw [wo_upd, List.take_add_one, he]
      exact (hda.mono (wo_mono s4)).snoc hd4
  · rintro H ⟨s, ys, hy, hda⟩
    rw [← hlen, List.take_length] at hda
    exact hd H ys s hy hda
/-- .. over range(n) -/
theorem lc_rngD {lo : Int} {n : Nat} (es : List PyData) (hD : H1 D = none) (hlen : es.length = n) (hz : n ≤ 100000)
    (hs : ∀ (i : Nat) (e : PyData) (H : Hp) (acc : List V) (Q : VK), Same H1 H → H D = some (.lst acc) → i < n → es[i]? = some e → (∀ y H4, Same H H4 → Dp K (wo H4 D) y e → Q y H4) → g (.int (lo + i)) (wipe σ vs) H fun σ2 H2 => wipe σ2 vs = wipe σ vs ∧ te σ2 H2 Q)
    (hd : ∀ H ys, Same H1 H → H D = some (.lst ys) → DpAll K (wo H D) ys es → Qd H) :
    ∃ W : Nat → Nat → Hp → Prop, (∃ m, W 0 m (upd H1 D (.lst []))) ∧ ∀ i m H, W i m H →
      ((Itr lo n).stop i H ∧ Qd H) ∨ ((Itr lo n).go i H ∧ ∃ Nx : Hp → Prop, (∀ H', Nx H' → ∃ m', m' < m ∧ W (i + 1) m' H') ∧ ∀ x H', (Itr lo n).yld i H x H' → g x (wipe σ vs) H' fun σ2 H2 => wipe σ2 vs = wipe σ vs ∧ tYes σ2 H2 fun b H3 =>
        if b = true then te σ2 H3 fun y H4 => ∃ acc, H4 D = some (.lst acc) ∧ acc.length < sizeLine ∧ Nx (upd H4 D (.lst (acc ++ [y]))) else Nx H3) := by
  refine lc_range (fun i H => Same H1 H ∧ ∃ ys, H D = some (.lst ys) ∧ DpAll K (wo H D) ys (es.take i)) ⟨Same.new hD, [], upd_same, .nil⟩ ?_ ?_
  · rintro i H hi ⟨s, ys, hy, hda⟩
    have he : es[i]? = some (es[i]'(by omega)) := List.getElem?_eq_getElem (by omega)
    refine hs i _ H ys _ s hy hi he fun y H4 s4 hd4 => ⟨ys, s4 _ _ hy, ?_, (s.trans s4).over hD, ys ++ [y], upd_same, ?_⟩
    · rw [hda.length, List.length_take]
      exact small_ (m := 100000) (by omega)
    · rw [wo_upd, List.take_add_one, he]
      exact (hda.mono (wo_mono s4)).snoc hd4
  · rintro H ⟨s, ys, hy, hda⟩
    rw [← hlen, List.take_length] at hda
    exact hd H ys s hy hda
/-- [.. for x in a tuple if ..]: item i becomes es[i], or falls out -/
theorem lc_tupF (es : List (Option PyData)) (hD : H1 D = none) (ha : SqT K H1 a xs) (hlen : es.length = xs.length) (hz : xs.length ≤ 100000)
    (hs : ∀ (i : Nat) (x : V) (e : Option PyData) (H : Hp) (acc : List V) (Q : VK) (Q0 : Hp → Prop), Same H1 H → H D = some (.lst acc) → xs[i]? = some x → es[i]? = some e → (∀ y H4 d, Same H H4 → e = some d → Dp K (wo H4 D) y d → Q y H4) → (∀ H4, Same H H4 → e = none → Q0 H4) →
      g x (wipe σ vs) H fun σ2 H2 => wipe σ2 vs = wipe σ vs ∧ tt σ2 H2 fun b H3 => if b = true then te σ2 H3 Q else Q0 H3)
    (hd : ∀ H ys, Same H1 H → H D = some (.lst ys) → DpAll K (wo H D) ys (es.filterMap id) → Qd H) :
    ∃ W : Nat → Nat → Hp → Prop, (∃ m, W 0 m (upd H1 D (.lst []))) ∧ ∀ i m H, W i m H →
      ((Itt K a).stop i H ∧ Qd H) ∨ ((Itt K a).go i H ∧ ∃ Nx : Hp → Prop, (∀ H', Nx H' → ∃ m', m' < m ∧ W (i + 1) m' H') ∧ ∀ x H', (Itt K a).yld i H x H' → g x (wipe σ vs) H' fun σ2 H2 => wipe σ2 vs = wipe σ vs ∧ tt σ2 H2 fun b H3 =>
        if b = true then te σ2 H3 fun y H4 => ∃ acc, H4 D = some (.lst acc) ∧ acc.length < sizeLine ∧ Nx (upd H4 D (.lst (acc ++ [y]))) else Nx H3) := by
  refine lc_tup (K := K) (a := a) (xs := xs) (fun i H => Same H1 H ∧ ∃ ys, H D = some (.lst ys) ∧ DpAll K (wo H D) ys ((es.take i).filterMap id)) ⟨Same.new hD, [], upd_same, .nil⟩ (fun i H _ h => h.1.seqT ha) ?_ ?_
  · rintro i x H hx ⟨s, ys, hy, hda⟩
    obtain ⟨hi, _⟩ := List.getElem?_eq_some_iff.mp hx
    have he : es[i]? = some (es[i]'(by omega)) := List.getElem?_eq_getElem (by omega)
    refine hs i x _ H ys _ _ s hy hx he (fun y H4 d s4 ed hd4 => ⟨ys, s4 _ _ hy, ?_, (s.trans s4).over hD, ys ++ [y], upd_same, ?_⟩) fun H4 s4 en => ⟨s.trans s4, ys, s4 _ _ hy, ?_⟩
    · rw [hda.length]
      have : ((es.take i).filterMap id).length ≤ (es.take i).length := List.length_filterMap_le ..
      rw [List.length_take] at this
      exact small_ (m := 100000) (by omega)
    · rw [wo_upd, List.take_add_one, he, ed, List.filterMap_append]
      exact (hda.mono (wo_mono s4)).snoc hd4
    · rw [List.take_add_one, he, en, List.filterMap_append]
      have := hda.mono (wo_mono (D := D) s4)
      simpa using this
  · rintro H ⟨s, ys, hy, hda⟩
    rw [← hlen, List.take_length] at hda
    exact hd H ys s hy hda
end
/-- the list at D is data -/
theorem dp_list {K : PySem.W.Frag} {H : Hp} {D : Addr} {ys : List V} {es : List PyData} (h : H D = some (.lst ys)) (a : DpAll K (wo H D) ys es) : Dp K H (.ref D) (.list es) := .lst (SqL.at h) (a.mono wo_same)
end R
set_option maxHeartbeats 4000000
namespace R
open PySem PySem.Spec PyProof.Rows L2
section
variable {P : Program} {w : World} {K : PySem.W.Frag} {mg : Str → Option Value} {base : Heap}
def intsD (l : List Int) : PyData := .list (l.map .int)
def rowsD (m : List (List Int)) : PyData := .list (m.map intsD)
def dRow (W : Web) (d : Str → Str → Nat) (p : Str) : List Int := W.P.map fun q => (d p q : Int)
def dRows (W : Web) (d : Str → Str → Nat) : List (List Int) := W.P.map (dRow W d)
/-- item i of a mapped list -/
theorem at_map {α β : Type} {f : α → β} {l : List α} {i : Nat} {y : β} (h : (l.map f)[i]? = some y) : ∃ x, l[i]? = some x ∧ y = f x := by
  rw [List.getElem?_map] at h
  obtain ⟨x, h1, h2⟩ := Option.map_eq_some_iff.mp h
  exact ⟨x, h1, h2.symm⟩
theorem map_at {α β : Type} {f : α → β} {l : List α} {i : Nat} {x : α} (h : l[i]? = some x) : (l.map f)[i]? = some (f x) := by rw [List.getElem?_map, h]; rfl
theorem mem_at {α : Type} {l : List α} {i : Nat} {x : α} (h : l[i]? = some x) : x ∈ l := List.mem_of_getElem? h
def sp_distance_rows (K : PySem.W.Frag) : Sp := fun vs H Q _ => ∃ v W d, vs = [v] ∧ WebAt K H v W ∧ TreeD W d ∧ ∀ H' v', Same H H' → Dp K H' v' (rowsD (dRows W d)) → Q v' H'
theorem ok_distance_rows (F : DefAt K mg "distance_rows" s_distance_rows ["web"]) (G_steps_from : Ok P w K mg base CX0 2 "steps_from" ["web", "place"] (sp_steps_from K)) :
    Ok P w K mg base CX0 3 "distance_rows" ["web"] (sp_distance_rows K) := by
  refine ok_of F sc_distance_rows (fun vs H Q E h => by obtain ⟨_, _, _, rfl, _⟩ := h; rfl) fun f cdv A outer s H vs Q E hr h => ?_
  obtain ⟨v, W, d, rfl, hv, T, q⟩ := h
  refine ⟨_, (ass_cons (as_set (i := 1) sc_distance_rows.nd rfl (Or.inl rfl) (ae_lst aa_nil))
    (ass_cons (ps_for PassesOwn.never rfl (piT K (ae_ix (ixT K) (av 0) ae_int (fun _ _ => rfl))) (pg_name (i := 2) sc_distance_rows.nd rfl (Or.inl rfl))
      (ass_cons (as_set (i := 3) sc_distance_rows.nd rfl (Or.inr rfl) (ae_co G_steps_from hr pass0 (aa_cons (av 0) (aa_cons (av 2) aa_nil))))
      (pss_one (as_expr (ae_bm K PySem.F.plainAttrs_list PySem.F.slot_list_append PySem.F.type_list_append mt_append (av 1) (aa_cons (pe_lc (own := [("other", 4)]) (g := (gName 4)) (tt := tYes) rfl sc_distance_rows.nd (piT K (ae_ix (ixT K) (av 0) ae_int (fun _ _ => rfl))) (blkOk_by (own := [("other", 4)]) (N := n_distance_rows) (sc := (defScope s_distance_rows)) (by decide +kernel)) (fun _ _ _ _ _ => (pg_name (i := 4) sc_distance_rows.nd rfl (Or.inl rfl))) (fun _ _ _ _ _ => pts_nil) (fun _ _ _ _ _ => (ae_dget1 (hu_of hr) (av 3) (av 4) ⟨rfl, rfl, rfl, rfl⟩))) aa_nil))))))
    (pss_one (as_ret (av 1))))), ?_⟩
  obtain ⟨a, pp, r, rs, rfl, hA, hP, hR, hrs⟩ := hv.parts
  refine ⟨Nat.zero_le _, fun l hl => ?_⟩
  have s0 : Same H (upd H l (.lst [])) := Same.new hl
  refine ⟨_, rfl, a, _, _, _, rfl, rfl, s0.seqT hA, ix0, pp, rfl, ⟨_, s0.seqT hP⟩, ?_⟩
  refine for_tup (K := K) (a := pp) (xs := W.P.map V.str) (fun i σ H' => ∃ y2 y3 y4, σ = [some (.ref a), some (.ref l), y2, y3, y4] ∧ Same H H' ∧ ∃ ys, H' l = some (.lst ys) ∧ DpAll K (wo H' l) ys (((dRows W d).map intsD).take i))
    ⟨none, none, none, rfl, s0, [], upd_same, .nil⟩ (fun i σ H' _ h => by obtain ⟨_, _, _, _, s, _⟩ := h; exact s.seqT hP) ?_ ?_
  · rintro i x σ H' hx ⟨y2, y3, y4, rfl, s1, ys, hy, hda⟩
    obtain ⟨p, hp, rfl⟩ := at_map hx
    have hp' := mem_at hp
    refine ⟨_, rfl, _, rfl, _, W, p, rfl, hv.mono s1, T.toWf, hp', fun H1 dd f t1 nd hd hs => ?_⟩
    have hy1 := t1 _ _ hy
    refine ⟨_, rfl, .inl ⟨rfl, _, SqL.at hy1⟩, _, rfl, a, _, _, _, rfl, rfl, (s1.trans t1).seqT hA, ix0, pp, rfl, ⟨_, (s1.trans t1).seqT hP⟩, fun D hD => ?_⟩
    refine lc_tupD (K := K) (a := pp) (xs := W.P.map V.str) ((dRow W d p).map .int) hD ((s1.trans t1).seqT hP) (by unfold dRow; simp) (by rw [List.length_map]; exact Nat.le_trans hv.pl (by decide)) ?_ ?_
    · intro j x e H2 acc Q2 u1 _ hx2 he k
      obtain ⟨o, ho, rfl⟩ := at_map hx2
      refine ⟨rfl, _, rfl, dd, rfl, .inl ⟨_, .inl (u1 _ _ hd)⟩, _, rfl, _, dgetF (u1 _ _ hd), ?_⟩
      rw [hs.tree d T o (mem_at ho)]
      obtain ⟨z, hz, rfl⟩ := at_map he
      unfold dRow at hz
      rw [List.getElem?_map, ho] at hz
      cases hz
      exact k _ _ (Same.refl _) (.int _)
    · intro H2 ys2 u1 hy2 hda2
      have hlD : l ≠ D := ne_of_none hy1 hD
      refine ⟨l, ys, .ref D, rfl, rfl, u1 _ _ hy1, ?_, ?_⟩
      · rw [hda.length, List.length_take]
        refine small_ (m := 100) (Nat.le_trans (Nat.min_le_right _ _) ?_)
        unfold dRows
        rw [List.length_map, List.length_map]; exact hv.pl
      · refine ⟨_, _, _, rfl, ((s1.trans t1).trans u1).over hl, _, upd_same, ?_⟩
        rw [wo_upd, List.take_add_one]
        have er : ((dRows W d).map intsD)[i]? = some (intsD (dRow W d p)) := by
          unfold dRows
          rw [map_at (map_at hp)]
        rw [er]
        refine (hda.mono (wo_mono (t1.trans u1))).snoc (.lst (xs := ys2) (SqL.at ?_) ?_)
        · rw [wo_ne hlD.symm]; exact hy2
        · have e : ys2 = (dRow W d p).map V.int := hda2.ints
          rw [e]; exact DpAll.ofInts _
  · rintro σ H' ⟨y2, y3, y4, rfl, s1, ys, hy, hda⟩
    rw [List.take_of_length_le (by unfold dRows; simp)] at hda
    exact ⟨_, rfl, q H' _ s1 (dp_list hy hda)⟩
/-! ### trees -/
/-- what is_tree_web answers -/
def IsTreeB (W : Web) (b : Bool) : Prop := ∃ p0 f, W.P.head? = some p0 ∧ StepsOk W p0 f ∧ b = (decide ((f.length : Int) = (W.P.length : Int)) && decide ((W.R.length : Int) = (W.P.length : Int) - 1))
theorem IsTreeB.tree {W : Web} {d : Str → Str → Nat} {b : Bool} (T : TreeD W d) (h : IsTreeB W b) : b = true := by
  obtain ⟨p0, f, _, hs, rfl⟩ := h
  have e1 := hs.treeLen T
  have e2 := T.cnt
  simp only [Bool.and_eq_true, decide_eq_true_eq]
  omega
theorem IsTreeB.count {W : Web} {b : Bool} (n : W.R.length + 1 ≠ W.P.length) (h : IsTreeB W b) : b = false := by
  obtain ⟨p0, f, _, hs, rfl⟩ := h
  have : decide ((W.R.length : Int) = (W.P.length : Int) - 1) = false := decide_eq_false (by omega)
  rw [this, Bool.and_false]
theorem IsTreeB.lone {W : Web} {b : Bool} {z p0 : Str} (h0 : W.P.head? = some p0) (hz : z ∈ W.P) (hne : p0 ≠ z) (hno : ∀ r ∈ W.R, r.2.1 ≠ z ∧ r.2.2 ≠ z) (h : IsTreeB W b) : b = false := by
  obtain ⟨p1, f, h1, hs, rfl⟩ := h
  rw [h0] at h1
  cases h1
  have := hs.lenLt hz hne hno
  have : decide ((f.length : Int) = (W.P.length : Int)) = false := decide_eq_false (by omega)
  rw [this, Bool.false_and]
def sp_has_one_piece (K : PySem.W.Frag) : Sp := fun vs H Q _ => ∃ v W p0, vs = [v] ∧ WebAt K H v W ∧ Wf W ∧ W.P.head? = some p0 ∧ ∀ H' f, Same H H' → StepsOk W p0 f → Q (.bl (decide ((f.length : Int) = (W.P.length : Int)))) H'
theorem ok_has_one_piece (F : DefAt K mg "has_one_piece" s_has_one_piece ["web"]) (B : Blt mg) (G_steps_from : Ok P w K mg base CX0 2 "steps_from" ["web", "place"] (sp_steps_from K)) :
    Ok P w K mg base CX0 3 "has_one_piece" ["web"] (sp_has_one_piece K) := by
  refine ok_of F sc_has_one_piece (fun vs H Q E h => by obtain ⟨_, _, _, rfl, _⟩ := h; rfl) fun f cdv A outer s H vs Q E hr h => ?_
  obtain ⟨v, W, p0, rfl, hv, hw, h0, q⟩ := h
  refine ⟨_, (pss_one (as_ret (ae_cmpR op_eq (ae_callB call_lenD (by rfl) B.len_ PySem.boot_len (aa_cons (ae_co G_steps_from hr pass0 (aa_cons (av 0) (aa_cons (ae_ix (ixT K) (ae_ix (ixT K) (av 0) ae_int (fun _ _ => rfl)) ae_int (fun _ _ => rfl)) aa_nil))) aa_nil)) (ae_callB (lenS K) (by rfl) B.len_ PySem.boot_len (aa_cons (ae_ix (ixT K) (av 0) ae_int (fun _ _ => rfl)) aa_nil)) (nomark _)))), ?_⟩
  obtain ⟨a, pp, r, rs, rfl, hA, hP, hR, hrs⟩ := hv.parts
  have g0 : (W.P.map V.str)[0]? = some (.str p0) := map_at (by rw [← List.head?_eq_getElem?]; exact h0)
  have hp0 : p0 ∈ W.P := mem_at (i := 0) (by rw [← List.head?_eq_getElem?]; exact h0)
  refine ⟨_, rfl, _, rfl, a, _, _, _, rfl, rfl, hA, ix0, pp, _, _, _, rfl, rfl, hP, atI_nat (j := 0) g0, _, W, p0, rfl, hv, hw, hp0, fun H1 dd f t1 nd hd hs => ?_⟩
  refine ⟨dd, _, rfl, hd, _, rfl, a, _, _, _, rfl, rfl, t1.seqT hA, ix0, pp, _, rfl, .inr (t1.seqT hP), rfl, ?_⟩
  rw [kvF_len, List.length_map]
  have e : decide (V.int (f.length : Int) = V.int (W.P.length : Int)) = decide ((f.length : Int) = (W.P.length : Int)) := by
    by_cases k : (f.length : Int) = (W.P.length : Int)
    · rw [k]; simp
    · rw [decide_eq_false k, decide_eq_false (fun z => k (V.int.inj z))]
  rw [e]
  exact q _ _ t1 hs
def sp_is_tree_web (K : PySem.W.Frag) : Sp := fun vs H Q _ => ∃ v W p0, vs = [v] ∧ WebAt K H v W ∧ Wf W ∧ W.P.head? = some p0 ∧ ∀ H' b, Same H H' → IsTreeB W b → Q (.bl b) H'
theorem ok_is_tree_web (F : DefAt K mg "is_tree_web" s_is_tree_web ["web"]) (B : Blt mg) (G_has_one_piece : Ok P w K mg base CX0 3 "has_one_piece" ["web"] (sp_has_one_piece K)) :
    Ok P w K mg base CX0 4 "is_tree_web" ["web"] (sp_is_tree_web K) := by
  refine ok_of F sc_is_tree_web (fun vs H Q E h => by obtain ⟨_, _, _, rfl, _⟩ := h; rfl) fun f cdv A outer s H vs Q E hr h => ?_
  obtain ⟨v, W, p0, rfl, hv, hw, h0, q⟩ := h
  refine ⟨_, (pss_one (as_ret (ae_and (ae_co G_has_one_piece hr pass0 (aa_cons (av 0) aa_nil)) (pe_one (ae_cmpR op_eq (ae_callB (lenS K) (by rfl) B.len_ PySem.boot_len (aa_cons (ae_ix (ixT K) (av 0) ae_int (fun _ _ => rfl)) aa_nil)) (ae_op op_sub (ae_callB (lenS K) (by rfl) B.len_ PySem.boot_len (aa_cons (ae_ix (ixT K) (av 0) ae_int (fun _ _ => rfl)) aa_nil)) ae_int) (nomark _)))))), ?_⟩
  obtain ⟨a, pp, r, rs, rfl, hA, hP, hR, hrs⟩ := hv.parts
  refine ⟨_, rfl, _, W, p0, rfl, hv, hw, h0, fun H1 f t1 hs => ⟨_, rfl, ?_⟩⟩
  refine ite2 (fun c => ?_) (fun c => ?_)
  · refine ⟨_, rfl, a, _, _, _, rfl, rfl, t1.seqT hA, ix1, r, _, rfl, .inr (t1.seqT hR), _, rfl, a, _, _, _, rfl, rfl, t1.seqT hA, ix0, pp, _, rfl, .inr (t1.seqT hP), _, _, rfl, rfl, rfl, ?_⟩
    rw [hrs.length, List.length_map, List.length_map]
    have e : decide (V.int (W.R.length : Int) = V.int ((W.P.length : Int) - 1)) = decide ((W.R.length : Int) = (W.P.length : Int) - 1) := by
      by_cases k : (W.R.length : Int) = (W.P.length : Int) - 1
      · rw [k]; simp
      · rw [decide_eq_false k, decide_eq_false (fun z => k (V.int.inj z))]
    rw [e]
    exact q _ _ t1 ⟨p0, f, h0, hs, by rw [c, Bool.true_and]⟩
  · have c : decide ((f.length : Int) = (W.P.length : Int)) = false := by
      cases k : decide ((f.length : Int) = (W.P.length : Int)) with
      | true => exact absurd k c
      | false => rfl
    exact q _ _ t1 ⟨p0, f, h0, hs, by rw [c, Bool.false_and]⟩
end
end R
set_option maxHeartbeats 200000
/-! len(set(t)), t a tuple of texts, any number of them -/
namespace R
open PySem PySem.Spec PyProof.Rows L2
/-- how many unlike ones -/
def dcount : List Str → Nat
  | [] => 0
  | x :: r => if x ∈ r then dcount r else dcount r + 1
theorem dcount_le : ∀ l : List Str, dcount l ≤ l.length
  | [] => Nat.le_refl _
  | x :: r => by
    unfold dcount
    have := dcount_le r
    split <;> (rw [List.length_cons]; omega)
theorem dcount_nodup : ∀ l : List Str, dcount l = l.length ↔ l.Nodup
  | [] => by simp [dcount]
  | x :: r => by
    have ih := dcount_nodup r
    have le := dcount_le r
    rw [List.nodup_cons]
    unfold dcount
    by_cases h : x ∈ r
    · rw [if_pos h, List.length_cons]
      exact ⟨fun e => by omega, fun k => absurd h k.1⟩
    · rw [if_neg h, List.length_cons]
      exact ⟨fun e => ⟨h, ih.mp (by omega)⟩, fun k => by rw [ih.mpr k.2]⟩
theorem take_rev {xs : List Str} {i : Nat} {x : Str} (h : xs[i]? = some x) : (xs.take (i + 1)).reverse = x :: (xs.take i).reverse := by
  rw [List.take_add_one, h, List.reverse_append]; rfl
section
variable {prog : Program} {w : World} {A : Around} {RR : Result → Shared → Prop} {it : Addr} {fp wr : List Addr} {GG : Array GenState → Array GenState → Prop} {n : Nat} {PP : Nat → Value → Prop} {St1 : Nat → Shared → Prop}
/-- the set at S holds the first i of xs -/
def Holds1 (prog : Program) (w : World) (h : Heap) (S : Addr) (xs : List Str) (i : Nat) : Prop := h.SetOf (PySem.strKind prog w) S (fun k => decide (k ∈ xs.take i)) (dcount (xs.take i).reverse)
theorem Holds1.keep {h h' : Heap} {S : Addr} {xs : List Str} {i : Nat} (k : ∀ o, h.get? S = some o → h'.get? S = some o) (x : Holds1 prog w h S xs i) : Holds1 prog w h' S xs i := by
  obtain ⟨o, es, ep, t, ho, more⟩ := x
  exact ⟨o, es, ep, t, k o ho, more⟩
theorem upd_loop (L : WalksS prog w A.in1 it fp wr GG n PP St1) (S : Addr) (nS : S ∉ fp) (xs : List Str) (hlen : xs.length = n) (hfew : n + 1 < scanBound) (hv : ∀ i v, PP i v → ∃ x t, xs[i]? = some x ∧ v = .str x t)
    (j : Nat) : ∀ (i : Nat) (s : Shared), i + j = n → St1 i s → Holds1 prog w s.heap S xs i →
      (∀ s', Moved (S :: wr) GG s s' → Holds1 prog w s'.heap S xs n → RR (.ok (.ret .none)) s') → codeAny (model prog w) A (.builtin "set.update.loop" ⟨[.ref S, .ref it], []⟩) RR s := by
  have nw : S ∉ wr := fun z => nS (L.sub _ z)
  have cons_ : ∀ b ∈ wr, b ∈ S :: wr := fun _ z => List.mem_cons_of_mem _ z
  have quiet := PyProof.Rows.F.plain_set_update_loop
  induction j with
  | zero =>
    intro i s e st hS fin
    obtain rfl : i = n := e
    refine codeAny_builtin PyProof.Rows.F.entry_set_update_loop ?_
    rw [Around.under_plainId quiet _]
    show wpAny _ A.in1 (pyNext (.ref it) >>= _) _ _ s
    refine wpAny_bind (L.done s _ _ st fun s' m => ?_)
    show wpAny _ A.in1 (ret Value.none) _ _ s'
    exact wpAny_pure (fin s' (m.mono cons_) (hS.keep fun o q => m.heap S o nw q))
  | succ j ih =>
    intro i s e st hS fin
    have lt : i < n := by omega
    refine codeAny_builtin PyProof.Rows.F.entry_set_update_loop ?_
    rw [Around.under_plainId quiet _]
    show wpAny _ A.in1 (pyNext (.ref it) >>= _) _ _ s
    refine wpAny_bind (L.item i s _ _ lt st fun v s' hp st' m => ?_)
    obtain ⟨x, t, hx, rfl⟩ := hv i v hp
    have hS' : Holds1 prog w s'.heap S xs i := hS.keep fun o q => m.heap S o nw q
    show wpAny _ A.in1 (holding [Value.str x t] (setAdd S (.str x t)) >>= _) _ _ s'
    refine wpAny_bind (wpAny_holding ?_)
    unfold setAdd
    refine wpAny_holding (wpAny_bind ((PySem.strKind prog w).pyHash (k := x) (strKind_is _ _ _ _) ?_))
    have room : dcount (xs.take i).reverse + 1 < scanBound := by
      have := dcount_le (xs.take i).reverse
      rw [List.length_reverse, List.length_take] at this
      omega
    refine wpAny_setAddHashed_of (knd := PySem.strKind prog w) (s := { s' with toks := s'.toks + 1 }) (strKind_is _ _ _ _) rfl hS' room fun h' but hS2 => ?_
    have hS3 : Holds1 prog w h' S xs (i + 1) := by
      refine SetOf_congr hS2 (fun k => ?_) ?_
      · rw [List.take_add_one, hx]
        simp only [Option.toList_some, List.mem_append, List.mem_singleton]
        by_cases a : k ∈ xs.take i <;> by_cases b : k = x <;> simp [a, b]
      · rw [take_rev hx]
        show _ = if x ∈ (xs.take i).reverse then dcount (xs.take i).reverse else dcount (xs.take i).reverse + 1
        by_cases a : x ∈ xs.take i <;> simp [a]
    refine wpAny_pure ⟨plainId_quiet quiet _, ih (i + 1) _ (by omega) (L.frame _ s' _ _ st' (Nat.le_succ _) fun b hb o q => ?_) hS3 fun s'' m2 hS4 => ?_⟩
    · rw [but.2 b (fun z => nS (z ▸ hb))]; exact q
    · refine fin s'' (Moved.trans L.gtrans ((m.mono cons_).then_heap (Nat.le_succ _) fun b o hb q => ?_) m2) hS4
      rw [but.2 b (fun z => hb (by rw [z]; exact List.mem_cons_self))]; exact q
end
section
variable {prog : Program} {w : World} {A : Around} {E : Value → Shared → Prop} {s : Shared}
abbrev noSet (led : Bool) : Obj := { cls := .type "set", dict := none, data := .set #[] 0 (.fresh 0 0 led) }
set_option maxHeartbeats 3200000 in
theorem set_of_tuple {l : Addr} {its : Array Value} {xs : List Str} {Q : Value → Shared → Prop} (hh : A.handled = none) (hl : s.heap.IsTuple l its) (hi : StrsAre its.toList xs) (few : xs.length + 1 < scanBound)
    (q : ∀ (h' : Heap) (tk : Nat), Holds1 prog w h' s.heap.objs.size xs xs.length → (∀ b o, s.heap.get? b = some o → h'.get? b = some o) → Q (.ref s.heap.objs.size) { s with heap := h', toks := tk }) :
    wpAny (model prog w) A (call (.type "set") [.ref l]) Q E s := by
  have hsz : its.size = xs.length := by rw [← StrsAre.len_eq hi, Array.length_toList]
  obtain ⟨c, tl, hmro⟩ := PySem.F.called_set.mro
  have made := PySem.F.called_set.made
  have sub := PySem.F.called_set.sub
  have notT := PySem.F.called_set.notType
  have can := PySem.F.called_set.canCreate
  have tc := PySem.F.typeCall_set_1 (.ref l)
  refine wpAny_call (codeAny_of_tree ?_)
  show wpAny _ _ (callAny (.type "set") _) _ _ _
  refine wpAny_pure ⟨Code.quiet_builtin _ (by decide +kernel), codeAny_builtin PySem.F.entry_type_call ?_⟩
  rw [Around.under_plain (weight_type_call_type "set" [.ref l] []) rfl]
  repeat (any_goals (first | assumption | wp_step))
  refine codeAny_mono (code_set_new_1 (.ref l) (E := E) (Q₁ := fun ob s₁ => ∃ led, ob = .ref s.heap.objs.size ∧ s₁ = { s with heap := s.heap.push (noSet led) }) fun led => ⟨led, rfl, rfl⟩) fun r s₁ hr => ?_
  rcases r with e | fl
  · exact hr
  cases fl with
  | ret ob =>
    obtain ⟨led, rfl, rfl⟩ := hr
    have atS : (s.heap.push (noSet led)).get? s.heap.objs.size = some (noSet led) := Heap.get?_push_size _ rfl
    have tyS : Shared.TypeIs { s with heap := s.heap.push (noSet led) } (.ref s.heap.objs.size) "set" := ⟨_, atS, rfl⟩
    have lo := PySem.F.called_set.init.lookup
    have bd := PySem.F.called_set.init.bind (.ref s.heap.objs.size)
    repeat (any_goals (first | assumption | wp_step))
    refine codeAny_mono (codeAny_call_builtin (R := wants (fun r s₂ => r = .none ∧ ∃ h' tk, s₂ = { s with heap := h', toks := tk } ∧ Holds1 prog w h' s.heap.objs.size xs xs.length ∧ (∀ b o, s.heap.get? b = some o → h'.get? b = some o)) E)
      PySem.F.called_set.init.plain PySem.F.entry_set_init (check_set_init_1 tyS ?_)) fun r₂ s₂ hr₂ => ?_
    · obtain ⟨ol, hol, hcl, nl, hdl⟩ := hl
      obtain ⟨ocls, odict, odata, oslots⟩ := ol
      simp only at hcl hdl
      subst hcl; subst hdl
      have hol' : (s.heap.push (noSet led)).get? l = some { cls := .type "tuple", dict := odict, data := .seq its nl, slots := oslots } := Heap.get?_push_of_some _ hol
      have t1 := PySem.F.sub_tuple_set
      have t2 := PySem.F.sub_tuple_frozenset
      have t3 : (Value.type "tuple" == Value.type "dict") = false := by decide
      have hl1 : (s.heap.push (noSet led)).IsTuple l its := ⟨_, hol', rfl, nl, rfl⟩
      unfold Builtin.«set.__init__» noKeywords Builtin.Frozenset.updateFrom
      generalize hPI : pyIter = PI
      wp_walk
      subst hPI
      refine wpAny_pyIter_tuple hl1 (wpAny_bind (wpAny_runValue ?_))
      have lS : l < s.heap.objs.size := Heap.lt_size hol
      have z1 : (s.heap.push (noSet led)).objs.size = s.heap.objs.size + 1 := Heap.size_push ..
      have hlI : l ≠ (s.heap.push (noSet led)).objs.size := by rw [z1]; exact Nat.ne_of_lt (Nat.lt_succ_of_lt lS)
      have nS : s.heap.objs.size ∉ [(s.heap.push (noSet led)).objs.size, l] := by
        rw [z1]
        intro z
        rcases List.mem_cons.mp z with z | z
        · exact Nat.ne_of_lt (Nat.lt_succ_self _) z
        · exact Nat.ne_of_gt lS (List.mem_singleton.mp z)
      have hv : ∀ (i : Nat) (v : Value), its[i]? = some v → ∃ x t, xs[i]? = some x ∧ v = .str x t := fun i v hv => by
        have lt : i < its.size := by
          rcases Nat.lt_or_ge i its.size with k | k
          · exact k
          · rw [Array.getElem?_eq_none k] at hv; cases hv
        obtain ⟨t, e⟩ := SS.strs_at hi i v (by rw [Array.getElem?_toList]; exact hv)
        refine ⟨xs.getD i Str.empty, t, ?_, e⟩
        rw [List.getD_eq_getElem?_getD, List.getElem?_eq_getElem (by omega)]; rfl
      have hh3 : A.in1.in1.in1.handled = none := by simp [hh]
      refine upd_loop ((Walks.tuple hh3 _ l hlI its).toS) s.heap.objs.size nS xs hsz.symm (by rw [hsz]; exact few) hv its.size 0 _ (by omega) ⟨⟨_, Heap.get?_push_size _ rfl, rfl, rfl⟩, (hl1.push _)⟩ ?_ ?_
      · have g := Heap.get?_push_of_some { cls := .type "tuple_iterator", data := .fields #[.ref l, .int 0 0] } atS
        exact SetOf_congr ((setObjOf_fresh (knd := PySem.strKind prog w) led).setOf g (by unfold scanBound; omega)) (fun _ => by simp) rfl
      · intro s' m hS'
        obtain ⟨h', g', d', tk', os'⟩ := s'
        obtain rfl : g' = s.gens := m.gens
        obtain rfl : d' = s.drawn := m.drawn
        obtain rfl : os' = s.os := m.os
        show wpAny _ _ _ _ _ _
        refine wpAny_pure ?_
        show wpAny _ _ (ret Value.none) _ _ _
        rw [hsz] at hS'
        refine wpAny_pure ⟨rfl, h', tk', rfl, hS', fun b o e => ?_⟩
        have hb := Heap.lt_size e
        refine m.heap b o (fun z => ?_) (Heap.get?_push_of_some _ (Heap.get?_push_of_some _ e))
        rcases List.mem_cons.mp z with z | z
        · exact Nat.ne_of_lt hb z
        · rw [List.mem_singleton, z1] at z
          exact Nat.ne_of_lt (Nat.lt_succ_of_lt hb) z
    · rcases r₂ with e₂ | fl₂
      · exact hr₂
      cases fl₂ with
      | ret r =>
        obtain ⟨rfl, h', tk, rfl, hS', k'⟩ := hr₂
        repeat (any_goals (first | assumption | wp_step))
        exact q _ _ hS' k'
      | _ => exact hr₂.elim
  | _ => exact hr.elim
end
section
variable {X : Cx} (K : PySem.W.Frag)
def tLenSetS (ta : TE) : TE := fun σ H Q => ta σ H fun x H1 => ∃ l, ∃ xs : List Str, x = .ref l ∧ SqT K H1 l (xs.map V.str) ∧ xs.length ≤ 1000 ∧ Q (.int (dcount xs.reverse : Nat)) H1
theorem pe_lenSetS {a : Expr} {ta : TE} {p p2 q pos : Pos} (hc : X.calm = true) (hm : X.mg "len" = none) (hm2 : X.mg "set" = none) (ha : PE X a ta) (hK : X.K = K := by rfl) (hg : Gl X "len" := by rfl) (hg2 : Gl X "set" := by rfl)
    (na : starEach [a] X.env = (false, eval a X.env) :: starEach [] X.env := by rfl) : PE X (.Call (.Name "len" p) [.Call (.Name "set" p2) [a] [] q] [] pos) (tLenSetS K ta) := by
  subst hK
  refine ⟨fun pins s σ H Q I h => ?_⟩
  refine Call_ (ld_blt I hg hm boot_len (callWith_builtin1 (args_cons ?_ rfl) rfl rfl))
  refine Call_ (ld_blt I hg2 hm2 boot_set (callWith_type1 (args_cons (thn (ha.run pins s σ H _ I h) fun v s1 ⟨x, H1, I1, r1, q1⟩ => args_nil ?_) na) na rfl))
  obtain ⟨l, xs, rfl, hq, few, q1⟩ := q1
  cases r1
  obtain ⟨its, r, pl, hz⟩ := I1.tuple hq
  refine set_of_tuple (xs := xs) (I1.ok.hd hc) pl (by simpa using strsAre_of r) (by unfold scanBound; omega) fun h' tk hS k => args_nil ?_
  obtain ⟨o, es, ep, t, ho, hex, hd, _, _, _, hf, hn⟩ := hS
  rw [List.take_length] at hn
  have le := dcount_le xs.reverse
  rw [List.length_reverse] at le
  have I2 : Inv X pins σ H1 { s1 with heap := h', toks := tk } := I1.kept k
  exact call_len_set ho hex hd hf (by rw [hn]; omega) ⟨.int (dcount xs.reverse : Nat), H1, I2.tok _, ⟨_, by rw [hn]⟩, q1⟩
end
end R
set_option maxHeartbeats 4000000
/-! what is a name, a road, a web: of any object -/
namespace R
open PySem PySem.Spec PyProof.Rows L2
/-! ### the plain answers -/
def isStrD : PyData → Bool
  | .str _ => true
  | _ => false
def isTupD : PyData → Bool
  | .tuple _ => true
  | _ => false
def headIn (x : Str) : Bool := match x.cps.toList with
  | c :: _ => decide (c ∈ lettersS.cps.toList)
  | [] => false
def nameOk (x : Str) : Bool := decide (1 ≤ x.length) && decide (x.length ≤ 8) && headIn x && x.cps.toList.all fun c => decide (c ∈ signsS.cps.toList)
def isNameD : PyData → Bool
  | .str x => nameOk x
  | _ => false
def txts : List PyData → List Str
  | [] => []
  | .str x :: r => x :: txts r
  | _ :: r => txts r
theorem txts_map : ∀ l : List Str, txts (l.map .str) = l
  | [] => rfl
  | x :: r => by rw [List.map_cons, txts, txts_map r]
theorem map_strs : ∀ {ds : List PyData}, ds.all isStrD = true → (txts ds).map PyData.str = ds
  | [], _ => rfl
  | d :: r, h => by
    rw [List.all_cons, Bool.and_eq_true] at h
    cases d with
    | str x => rw [txts, List.map_cons, map_strs h.2]
    | _ => cases h.1
theorem names_strs {ds : List PyData} (h : ds.all isNameD = true) : ds.all isStrD = true := by
  rw [List.all_eq_true] at h ⊢
  intro d hd
  have := h d hd
  cases d with
  | str x => rfl
  | _ => cases this
def rowB (d : PyData) (lo hi : Int) : Bool := match d with
  | .tuple ds => decide (lo ≤ ds.length) && decide ((ds.length : Int) ≤ hi)
  | _ => false
def partIn (l : List Str) : PyData → Bool
  | .str x => decide (x ∈ l)
  | _ => false
def areOfB (ds : List PyData) (l : List Str) : Bool := ds.all (partIn l) && decide (txts ds).Nodup
def areNamesB (ds : List PyData) : Bool := ds.all isNameD && decide (txts ds).Nodup
def isRoadB (d : PyData) (l : List Str) : Bool := match d with
  | .tuple [a, b, c] => isNameD a && areOfB [b, c] l
  | _ => false
def firstD : PyData → PyData
  | .tuple (a :: _) => a
  | _ => .none
def web4 (ps : List PyData) : PyData → Bool
  | .tuple rs => (rs.all fun r => isRoadB r (txts ps)) && areNamesB (rs.map firstD)
  | _ => false
def web3 (ps : List PyData) (d2 : PyData) : Bool := areNamesB ps && (rowB d2 0 14 && web4 ps d2)
def web2 (d1 d2 : PyData) : Bool := rowB d1 1 10 && (match d1 with | .tuple ps => web3 ps d2 | _ => false)
def isWebB (d : PyData) : Bool := rowB d 2 2 && (match d with | .tuple [d1, d2] => web2 d1 d2 | _ => false)
/-- no text and no tuple in it is long -/
def smallD : PyData → Bool
  | .str x => decide (x.length ≤ 1000)
  | .tuple xs => decide (xs.length ≤ 1000) && smallAll xs
  | _ => true
where smallAll : List PyData → Bool
  | [] => true
  | x :: xs => smallD x && smallAll xs
theorem small_mem : ∀ {ds : List PyData} {d : PyData}, smallD.smallAll ds = true → d ∈ ds → smallD d = true
  | e :: r, d, h, hd => by
    rw [smallD.smallAll, Bool.and_eq_true] at h
    rcases List.mem_cons.mp hd with rfl | hd
    · exact h.1
    · exact small_mem h.2 hd
theorem small_tup {ds : List PyData} (h : smallD (.tuple ds) = true) : ds.length ≤ 1000 ∧ smallD.smallAll ds = true := by
  rw [smallD.eq_def] at h
  simp only [Bool.and_eq_true, decide_eq_true_eq] at h
  exact h
section
variable {K : PySem.W.Frag} {H : Hp} {v : V} {d : PyData}
theorem isiT' {v : V} {a b : String} {r : Bool} {Q : VK} (t : TyX K H v (.type a)) (k : kitB a b = some r) (q : Q (.bl r) H) : rIsi K [v, .ty b] H Q := ⟨_, _, _, _, _, rfl, .ty _, t, kit_ty k, q⟩
theorem tyX_lst {a : Addr} {xs : List V} (h : SqL K H a xs) : TyX K H (.ref a) (.type "list") := by
  rcases h with (h | ⟨o, h⟩) | ⟨o, its, n, h, hc, _⟩
  · exact .base (.lst h)
  · exact .base (.frz h)
  · exact .kList h hc
theorem tyX_tup {a : Addr} {xs : List V} (h : SqT K H a xs) : TyX K H (.ref a) (.type "tuple") := by
  rcases h with (h | ⟨o, h⟩) | ⟨o, its, n, h, hc, _⟩
  · exact .base (.tup h)
  · exact .fTuple h
  · exact .kTuple h hc
theorem isi_str {Q : VK} (h : Dp K H v d) (q : Q (.bl (isStrD d)) H) : rIsi K [v, .ty "str"] H Q := by
  cases h with
  | non => exact isiT' (r := false) (.base .non) (by decide +kernel) q
  | bl b => exact isiT' (r := false) (.base (.bl b)) (by decide +kernel) q
  | int i => exact isiT' (r := false) (.base (.int i)) (by decide +kernel) q
  | str x => exact isiT' (r := true) (.base (.str x)) (by decide +kernel) q
  | lst hl _ => exact isiT' (r := false) (tyX_lst hl) (by decide +kernel) q
  | tup ht _ => exact isiT' (r := false) (tyX_tup ht) (by decide +kernel) q
theorem isi_tup {Q : VK} (h : Dp K H v d) (q : Q (.bl (isTupD d)) H) : rIsi K [v, .ty "tuple"] H Q := by
  cases h with
  | non => exact isiT' (r := false) (.base .non) (by decide +kernel) q
  | bl b => exact isiT' (r := false) (.base (.bl b)) (by decide +kernel) q
  | int i => exact isiT' (r := false) (.base (.int i)) (by decide +kernel) q
  | str x => exact isiT' (r := false) (.base (.str x)) (by decide +kernel) q
  | lst hl _ => exact isiT' (r := false) (tyX_lst hl) (by decide +kernel) q
  | tup ht _ => exact isiT' (r := true) (tyX_tup ht) (by decide +kernel) q
end
theorem all_map_id {α : Type} (f : α → Bool) (l : List α) : (l.map f).all id = l.all f := by rw [List.all_map]; rfl
theorem toList_len (x : Str) : x.cps.toList.length = x.length := by rw [Array.length_toList]; rfl
theorem head_at {x : Str} (h : 1 ≤ x.length) : ∃ c r, x.cps.toList = c :: r ∧ headIn x = decide (c ∈ lettersS.cps.toList) := by
  unfold headIn
  cases e : x.cps.toList with
  | nil =>
    have := toList_len x
    rw [e] at this
    simp at this
    omega
  | cons c r => exact ⟨c, r, rfl, rfl⟩
section
variable {P : Program} {w : World} {K : PySem.W.Frag} {mg : Str → Option Value} {base : Heap}
def sp_is_name (K : PySem.W.Frag) : Sp := fun vs H Q _ => ∃ v d, vs = [v] ∧ Dp K H v d ∧ smallD d = true ∧ ∀ H', Same H H' → Q (.bl (isNameD d)) H'
theorem ok_is_name (F : DefAt K mg "is_name" s_is_name ["thing"]) (B : Blt mg) : Ok P w K mg base CX0 1 "is_name" ["thing"] (sp_is_name K) := by
  refine ok_of F sc_is_name (fun vs H Q E h => by obtain ⟨_, _, rfl, _⟩ := h; rfl) fun f cdv A outer s H vs Q E hr h => ?_
  obtain ⟨v, d, rfl, hd, sm, q⟩ := h
  refine ⟨_, (ass_cons (as_if (PW.pt (aw_or (at_not (at_val (ae_callB (isiK K) (by rfl) B.isinstance_ (by decide +kernel) (aa_cons (av 0) (aa_cons (ae_bltn (v := .ty "str") (by rfl) B.str_ (by decide +kernel) rfl) aa_nil))))) (pw_or1 (at_not (at_chain op_le op_le ae_int (ae_callB call_len_str (by rfl) B.len_ PySem.boot_len (aa_cons (av 0) aa_nil)) (ae_glob (v := .int 8) (by rfl) B.MOST_SIGNS.choose_spec ⟨_, rfl⟩))))))
      (pss_one (as_ret ae_bl))
      ass_nil)
    (pss_one (as_ret (ae_and (ae_cmpR op_in_sign (ae_ix ix_str (av 0) ae_int (fun _ _ => rfl)) (ae_glob (v := .str lettersS) (by rfl) B.LETTERS.choose_spec ⟨_, rfl⟩) (by rfl)) (pe_one (ae_callB (allL K rfl) (by rfl) B.all_ (by decide +kernel) (aa_cons (pe_lc (own := [("sign", 1)]) (g := (gName 1)) (tt := tYes) rfl sc_is_name.nd (pi_str (av 0)) (blkOk_by (own := [("sign", 1)]) (N := n_is_name) (sc := (defScope s_is_name)) (by decide +kernel)) (fun _ _ _ _ _ => (pg_name (i := 1) sc_is_name.nd rfl (Or.inl rfl))) (fun _ _ _ _ _ => pts_nil) (fun _ _ _ _ _ => (ae_cmpR op_in_sign (av 1) (ae_glob (v := .str signsS) (by rfl) B.SIGNS.choose_spec ⟨_, rfl⟩) (by rfl)))) aa_nil))))))), ?_⟩
  refine ⟨_, rfl, isi_str hd ⟨_, rfl, ?_⟩⟩
  by_cases ds : isStrD d = true
  · cases d with
    | str x =>
      cases hd
      have lx : x.length ≤ 1000 := by rw [smallD.eq_def] at sm; simpa using sm
      refine ⟨_, rfl, x, rfl, Nat.le_of_lt (small_ lx), _, _, rfl, rfl, _, rfl, ?_⟩
      refine ite2 (fun c1 => ?_) (fun c1 => ?_)
      · have c1 : (1 : Int) ≤ x.length := of_decide_eq_true c1
        refine ⟨_, _, rfl, rfl, _, rfl, ?_⟩
        by_cases c2 : (x.length : Int) ≤ 8
        · rw [decide_eq_true c2]
          obtain ⟨c, r, ec, eh⟩ := head_at (x := x) (by omega)
          refine ⟨_, rfl, x, 0, c, rfl, rfl, Nat.le_of_lt (small_ lx), by rw [ec]; exact ix0, c, _, rfl, rfl, _, rfl, ?_⟩
          rw [← eh]
          have q2 : ∀ b, b = x.cps.toList.all (fun c => decide (c ∈ signsS.cps.toList)) → ∀ H', Same H H' → Q (.bl (headIn x && b)) H' := fun b eb H' s => by
            have := q H' s
            show Q (V.bl (headIn x && b)) H'
            rw [show isNameD (.str x) = (headIn x && b) by
              show nameOk x = _
              unfold nameOk
              rw [decide_eq_true (show 1 ≤ x.length by omega), decide_eq_true (show x.length ≤ 8 by omega), eb]; rfl] at this
            exact this
          by_cases c3 : headIn x = true
          · rw [c3] at q2 ⊢
            refine ⟨_, rfl, x, rfl, fun D hD => ?_⟩
            refine lc_it walk_str (fun i H' => Same H H' ∧ H' D = some (.lst (((x.cps.toList.take i).map fun c => decide (c ∈ signsS.cps.toList)).map V.bl))) ⟨Same.new hD, upd_same⟩ (fun _ _ _ _ => trivial) ?_ ?_
            · rintro i y H1 H2 hi ⟨s1, hd1⟩ ⟨rfl, c', hc', rfl⟩
              refine ⟨rfl, _, rfl, _, _, rfl, rfl, _, hd1, ?_, s1.over hD, ?_⟩
              · rw [List.length_map, List.length_map, List.length_take, toList_len]
                exact small_ (Nat.le_trans (Nat.min_le_right _ _) lx)
              · have hc2 : x.cps.toList[i]? = some c' := by rw [Array.getElem?_toList]; exact hc'
                rw [upd_same, List.take_add_one, hc2, List.map_append, List.map_append]
                rfl
            · rintro H1 ⟨s1, hd1⟩
              rw [show x.cps.size = x.cps.toList.length from (Array.length_toList ..).symm, List.take_length] at hd1
              refine ⟨D, _, rfl, SqL.at hd1, ?_⟩
              rw [all_map_id]
              exact q2 _ rfl H1 s1
          · have c3 : headIn x = false := by cases k : headIn x with | true => exact absurd k c3 | false => rfl
            rw [c3] at q2 ⊢
            exact q2 _ rfl H (Same.refl H)
        · rw [decide_eq_false c2]
          have := q H (Same.refl H)
          rw [show isNameD (.str x) = false by
            show nameOk x = false
            unfold nameOk
            rw [decide_eq_false (show ¬ x.length ≤ 8 by omega)]; simp] at this
          exact this
      · have c1 : ¬ (1 : Int) ≤ x.length := fun z => c1 (decide_eq_true z)
        have := q H (Same.refl H)
        rw [show isNameD (.str x) = false by
          show nameOk x = false
          unfold nameOk
          rw [decide_eq_false (show ¬ 1 ≤ x.length by omega)]; simp] at this
        exact ⟨_, rfl, this⟩
    | _ => cases ds
  · have e1 : isStrD d = false := by cases k : isStrD d with | true => exact absurd k ds | false => rfl
    rw [e1]
    have := q H (Same.refl H)
    rw [show isNameD d = false by cases d with | str x => cases e1 | _ => rfl] at this
    exact this
def sp_is_row_of (K : PySem.W.Frag) : Sp := fun vs H Q _ => ∃ v d lo hi, vs = [v, .int lo, .int hi] ∧ Dp K H v d ∧ Q (.bl (rowB d lo hi)) H
theorem ok_is_row_of (F : DefAt K mg "is_row_of" s_is_row_of ["thing", "least", "most"]) (B : Blt mg) : Ok P w K mg base CX0 1 "is_row_of" ["thing", "least", "most"] (sp_is_row_of K) := by
  refine ok_of F sc_is_row_of (fun vs H Q E h => by obtain ⟨_, _, _, _, rfl, _⟩ := h; rfl) fun f cdv A outer s H vs Q E hr h => ?_
  obtain ⟨v, d, lo, hi, rfl, hd, q⟩ := h
  refine ⟨_, (pss_one (as_ret (ae_and (ae_callB (isiK K) (by rfl) B.isinstance_ (by decide +kernel) (aa_cons (av 0) (aa_cons (ae_bltn (v := .ty "tuple") (by rfl) B.tuple_ (by decide +kernel) rfl) aa_nil))) (pe_one (ae_chain op_le op_le (av 1) (ae_callB (lenS K) (by rfl) B.len_ PySem.boot_len (aa_cons (av 0) aa_nil)) (av 2)))))), ?_⟩
  refine ⟨_, rfl, isi_tup hd ⟨_, rfl, ?_⟩⟩
  by_cases ds : isTupD d = true
  · cases d with
    | tuple es =>
      obtain ⟨a, xs, rfl, h1, h2⟩ := hd.tupI
      refine ⟨_, rfl, _, rfl, a, xs, rfl, .inr h1, _, _, rfl, rfl, _, rfl, ?_⟩
      rw [h2.length]
      unfold rowB at q
      refine ite2 (fun c1 => ?_) (fun c1 => ?_)
      · simp only [c1, Bool.true_and] at q
        exact ⟨_, rfl, _, _, rfl, rfl, q⟩
      · have c1 : decide (lo ≤ (es.length : Int)) = false := by cases k : decide (lo ≤ (es.length : Int)) with | true => exact absurd k c1 | false => rfl
        simp only [c1, Bool.false_and] at q
        exact q
    | _ => cases ds
  · have e1 : isTupD d = false := by cases k : isTupD d with | true => exact absurd k ds | false => rfl
    rw [e1]
    rw [show rowB d lo hi = false by cases d with | tuple x => cases e1 | _ => rfl] at q
    exact q
end
end R
set_option maxHeartbeats 4000000
namespace R
open PySem PySem.Spec PyProof.Rows L2
theorem bfalse {b : Bool} (h : ¬ b = true) : b = false := by cases b with | true => exact absurd rfl h | false => rfl
theorem v_int_eq {a b : Int} : decide (V.int a = V.int b) = decide (a = b) := by
  by_cases k : a = b
  · rw [k]; simp
  · rw [decide_eq_false k, decide_eq_false (fun z => k (V.int.inj z))]
theorem nodup_count (xs : List Str) : decide (((dcount xs.reverse : Nat) : Int) = (xs.length : Int)) = decide xs.Nodup := by
  have h := dcount_nodup xs.reverse
  rw [List.length_reverse, (List.reverse_perm xs).nodup_iff] at h
  by_cases k : xs.Nodup
  · rw [decide_eq_true k, decide_eq_true (by rw [h.mpr k])]
  · rw [decide_eq_false k, decide_eq_false (fun z => k (h.mp (by omega)))]
theorem part_str {ds : List PyData} {l : List Str} (h : ds.all (partIn l) = true) : ds.all isStrD = true := by
  rw [List.all_eq_true] at h ⊢
  intro d hd
  have := h d hd
  cases d with
  | str x => rfl
  | _ => cases this
/-- a list or a tuple of texts -/
def SeqS (K : PySem.W.Frag) (H : Hp) (u : V) (l : List Str) : Prop := ∃ a, u = .ref a ∧ (SqL K H a (l.map V.str) ∨ SqT K H a (l.map V.str))
theorem SeqS.mono {K : PySem.W.Frag} {H H' : Hp} {u : V} {l : List Str} (s : Same H H') (h : SeqS K H u l) : SeqS K H' u l := by
  obtain ⟨a, e, h⟩ := h
  exact ⟨a, e, h.imp (fun z => s.seq z) fun z => s.seqT z⟩
theorem SeqS.tup {K : PySem.W.Frag} {H : Hp} {u : V} {l : List Str} (h : Dp K H u (strsT l)) : SeqS K H u l := by
  obtain ⟨a, xs, e, h1, h2⟩ := h.tupI
  rw [h2.strs] at h1
  exact ⟨a, e, .inr h1⟩
section
variable {P : Program} {w : World} {K : PySem.W.Frag} {mg : Str → Option Value} {base : Heap}
/-- len(set(t)) == len(t) -/
theorem set_eq {H : Hp} {a : Addr} {xs : List Str} {σ : L2.St} {i : Nat} {Q : VK} (hi : σ[i]? = some (some (.ref a))) (h : SqT K H a (xs.map V.str)) (hl : xs.length ≤ 1000) (q : Q (.bl (decide xs.Nodup)) H) :
    aOp rEq (tLenSetS K (aVar i)) (aCB (rLen K) (aCons (aVar i) aNil)) σ H Q := by
  refine ⟨_, hi, a, xs, rfl, h, hl, _, hi, a, _, rfl, .inr h, rfl, ?_⟩
  rw [List.length_map, v_int_eq, nodup_count]
  exact q
def sp_are_of (K : PySem.W.Frag) : Sp := fun vs H Q _ => ∃ v u ds l, vs = [v, u] ∧ Dp K H v (.tuple ds) ∧ ds.length ≤ 1000 ∧ SeqS K H u l ∧ ∀ H', Same H H' → Q (.bl (areOfB ds l)) H'
theorem ok_are_of (F : DefAt K mg "are_of" s_are_of ["thing", "names"]) (B : Blt mg) : Ok P w K mg base CX0 1 "are_of" ["thing", "names"] (sp_are_of K) := by
  refine ok_of F sc_are_of (fun vs H Q E h => by obtain ⟨_, _, _, _, rfl, _⟩ := h; rfl) fun f cdv A outer s H vs Q E hr h => ?_
  obtain ⟨v, u, ds, l, rfl, hd, sm, hu, q⟩ := h
  refine ⟨_, (ass_cons (as_if (at_not (at_val (ae_callB (allL K rfl) (by rfl) B.all_ (by decide +kernel) (aa_cons (pe_lc (own := [("part", 2)]) (g := (gName 2)) (tt := tYes) rfl sc_are_of.nd (piT K (av 0)) (blkOk_by (own := [("part", 2)]) (N := n_are_of) (sc := (defScope s_are_of)) (by decide +kernel)) (fun _ _ _ _ _ => (pg_name (i := 2) sc_are_of.nd rfl (Or.inl rfl))) (fun _ _ _ _ _ => pts_nil) (fun _ _ _ _ _ => (ae_and (ae_callB (isiK K) (by rfl) B.isinstance_ (by decide +kernel) (aa_cons (av 2) (aa_cons (ae_bltn (v := .ty "str") (by rfl) B.str_ (by decide +kernel) rfl) aa_nil))) (pe_one (ae_cmpR (inS K) (av 2) (av 1) (by rfl)))))) aa_nil))))
      (pss_one (as_ret ae_bl))
      ass_nil)
    (pss_one (as_ret (ae_cmpR op_eq (pe_lenSetS K rfl B.len_ B.set_ (av 0)) (ae_callB (lenS K) (by rfl) B.len_ PySem.boot_len (aa_cons (av 0) aa_nil)) (nomark _))))), ?_⟩
  obtain ⟨a, xs, rfl, h1, h2⟩ := hd.tupI
  refine ⟨_, rfl, a, rfl, ⟨_, h1⟩, fun D hD => ?_⟩
  refine lc_tupD (K := K) (a := a) (xs := xs) (ds.map fun d => .bool (partIn l d)) hD h1 (by rw [List.length_map, h2.length]) (by rw [h2.length]; exact Nat.le_trans sm (by decide)) ?_ ?_
  · intro i x e H' acc Q' s1 _ hx he k
    obtain ⟨d, hd1, rfl⟩ := at_map he
    have hdx := (h2.both hx hd1).mono s1
    refine ⟨rfl, _, rfl, isi_str hdx ⟨_, rfl, ?_⟩⟩
    refine ite2 (fun c => ?_) (fun c => ?_)
    · cases d with
      | str y =>
        cases hdx
        obtain ⟨b, rfl, hb⟩ := hu.mono s1
        refine ⟨_, rfl, _, rfl, b, _, rfl, hb, rfl, flat_strs _, ?_⟩
        rw [inV_str]
        exact k _ _ (Same.refl _) (.bl _)
      | _ => cases c
    · have e0 : partIn l d = false := by cases d with | str y => exact absurd rfl c | _ => rfl
      rw [e0] at k
      exact k _ _ (Same.refl _) (.bl _)
  · intro H' ys s1 hy hda
    rw [show (ds.map fun d => PyData.bool (partIn l d)) = (ds.map (partIn l)).map PyData.bool by rw [List.map_map]; rfl] at hda
    have ey := hda.bls
    subst ey
    refine ⟨D, _, rfl, SqL.at hy, _, rfl, ?_⟩
    rw [all_map_id]
    unfold areOfB at q
    by_cases c : ds.all (partIn l) = true
    · rw [c] at q ⊢
      have em := map_strs (part_str c)
      have h1' : SqT K H' a ((txts ds).map V.str) := by
        rw [← em] at h2
        rw [← h2.strs]
        exact s1.seqT h1
      have hl : (txts ds).length = ds.length := by rw [← List.length_map (f := PyData.str), em]
      exact set_eq rfl h1' (by rw [hl]; exact sm) (q H' s1)
    · rw [bfalse c] at q ⊢
      exact q H' s1
def sp_are_names (K : PySem.W.Frag) : Sp := fun vs H Q _ => ∃ v ds, vs = [v] ∧ Dp K H v (.tuple ds) ∧ smallD (.tuple ds) = true ∧ ∀ H', Same H H' → Q (.bl (areNamesB ds)) H'
theorem ok_are_names (F : DefAt K mg "are_names" s_are_names ["thing"]) (B : Blt mg) (G_is_name : Ok P w K mg base CX0 1 "is_name" ["thing"] (sp_is_name K)) : Ok P w K mg base CX0 2 "are_names" ["thing"] (sp_are_names K) := by
  refine ok_of F sc_are_names (fun vs H Q E h => by obtain ⟨_, _, rfl, _⟩ := h; rfl) fun f cdv A outer s H vs Q E hr h => ?_
  obtain ⟨v, ds, rfl, hd, sm, q⟩ := h
  refine ⟨_, (pss_one (as_ret (ae_and (ae_callB (allL K rfl) (by rfl) B.all_ (by decide +kernel) (aa_cons (pe_lc (own := [("name", 1)]) (g := (gName 1)) (tt := tYes) rfl sc_are_names.nd (piT K (av 0)) (blkOk_by (own := [("name", 1)]) (N := n_are_names) (sc := (defScope s_are_names)) (by decide +kernel)) (fun _ _ _ _ _ => (pg_name (i := 1) sc_are_names.nd rfl (Or.inl rfl))) (fun _ _ _ _ _ => pts_nil) (fun _ _ _ _ _ => (ae_co G_is_name hr pass0 (aa_cons (av 1) aa_nil)))) aa_nil)) (pe_one (ae_cmpR op_eq (pe_lenSetS K rfl B.len_ B.set_ (av 0)) (ae_callB (lenS K) (by rfl) B.len_ PySem.boot_len (aa_cons (av 0) aa_nil)) (nomark _)))))), ?_⟩
  obtain ⟨a, xs, rfl, h1, h2⟩ := hd.tupI
  obtain ⟨sl, sa⟩ := small_tup sm
  refine ⟨_, rfl, a, rfl, ⟨_, h1⟩, fun D hD => ?_⟩
  refine lc_tupD (K := K) (a := a) (xs := xs) (ds.map fun d => .bool (isNameD d)) hD h1 (by rw [List.length_map, h2.length]) (by rw [h2.length]; exact Nat.le_trans sl (by decide)) ?_ ?_
  · intro i x e H' acc Q' s1 hD1 hx he k
    obtain ⟨d, hd1, rfl⟩ := at_map he
    have hdx := (h2.both hx hd1).mono s1
    exact ⟨rfl, _, rfl, _, d, rfl, hdx, small_mem sa (mem_at hd1), fun H4 s4 => k _ _ s4 (.bl _)⟩
  · intro H' ys s1 hy hda
    rw [show (ds.map fun d => PyData.bool (isNameD d)) = (ds.map isNameD).map PyData.bool by rw [List.map_map]; rfl] at hda
    have ey := hda.bls
    subst ey
    refine ⟨D, _, rfl, SqL.at hy, _, rfl, ?_⟩
    rw [all_map_id]
    unfold areNamesB at q
    by_cases c : ds.all isNameD = true
    · rw [c] at q ⊢
      have em := map_strs (names_strs c)
      have h1' : SqT K H' a ((txts ds).map V.str) := by
        rw [← em] at h2
        rw [← h2.strs]
        exact s1.seqT h1
      have hl : (txts ds).length = ds.length := by rw [← List.length_map (f := PyData.str), em]
      exact set_eq rfl h1' (by rw [hl]; exact sl) (q H' s1)
    · rw [bfalse c] at q ⊢
      exact q H' s1
def sp_is_road (K : PySem.W.Frag) : Sp := fun vs H Q _ => ∃ v u d l, vs = [v, u] ∧ Dp K H v d ∧ smallD d = true ∧ SeqS K H u l ∧ ∀ H', Same H H' → Q (.bl (isRoadB d l)) H'
theorem ok_is_road (F : DefAt K mg "is_road" s_is_road ["thing", "places"]) (B : Blt mg) (G_is_row_of : Ok P w K mg base CX0 1 "is_row_of" ["thing", "least", "most"] (sp_is_row_of K)) (G_is_name : Ok P w K mg base CX0 1 "is_name" ["thing"] (sp_is_name K))
    (G_are_of : Ok P w K mg base CX0 1 "are_of" ["thing", "names"] (sp_are_of K)) : Ok P w K mg base CX0 2 "is_road" ["thing", "places"] (sp_is_road K) := by
  refine ok_of F sc_is_road (fun vs H Q E h => by obtain ⟨_, _, _, _, rfl, _⟩ := h; rfl) fun f cdv A outer s H vs Q E hr h => ?_
  obtain ⟨v, u, d, l, rfl, hd, sm, hu, q⟩ := h
  refine ⟨_, (pss_one (as_ret (ae_and (ae_co G_is_row_of hr pass0 (aa_cons (av 0) (aa_cons ae_int (aa_cons ae_int aa_nil)))) (ae_and (ae_co G_is_name hr pass0 (aa_cons (ae_ix (ixT K) (av 0) ae_int (fun _ _ => rfl)) aa_nil)) (pe_one (ae_co G_are_of hr pass0 (aa_cons (ae_slice (slT K) (av 0) (ao_some ae_int) poN) (aa_cons (av 1) aa_nil)))))))), ?_⟩
  refine ⟨_, rfl, _, d, 3, 3, rfl, hd, _, rfl, ?_⟩
  by_cases c : rowB d 3 3 = true
  · rw [c]
    cases d with
    | tuple ds =>
      have hl : ds.length = 3 := by
        unfold rowB at c
        simp only [Bool.and_eq_true, decide_eq_true_eq] at c
        omega
      match ds, hl with
      | [d1, d2, d3], _ =>
        obtain ⟨a, xs, rfl, h1, h2⟩ := hd.tupI
        cases h2 with
        | cons e1 h2 => cases h2 with
          | cons e2 h2 => cases h2 with
            | cons e3 h2 =>
              cases h2
              rename_i v1 v2 v3
              obtain ⟨_, sa⟩ := small_tup sm
              refine ⟨_, rfl, a, _, _, _, rfl, rfl, h1, ix0, _, d1, rfl, e1, small_mem sa (by simp), fun H1 s1 => ⟨_, rfl, ?_⟩⟩
              have q : ∀ H', Same H H' → Q (.bl (isNameD d1 && areOfB [d2, d3] l)) H' := q
              by_cases c1 : isNameD d1 = true
              · rw [c1] at q ⊢
                refine ⟨_, rfl, _, rfl, a, _, rfl, s1.seqT h1, fun hh => absurd hh.1 (by show ¬ HT.sIx 3 0 (some 1) = 0; decide), fun _ p hp => ?_⟩
                have s2 := s1.trans (Same.new (o := .tup (cutV [v1, v2, v3] (some 1) none)) hp)
                refine ⟨_, rfl, _, _, [d2, d3], l, rfl, .tup (xs := [v2, v3]) (SqT.at (by rw [upd_same]; rfl)) (.cons (e2.mono s2) (.cons (e3.mono s2) .nil)), by show 2 ≤ 1000; decide, hu.mono s2, fun H3 s3 => q H3 (s2.trans s3)⟩
              · rw [bfalse c1] at q ⊢
                exact q H1 s1
    | _ => cases c
  · rw [bfalse c]
    have : isRoadB d l = false := by
      unfold isRoadB
      split
      · exact absurd rfl c
      · rfl
    rw [this] at q
    exact q H (Same.refl H)
end
end R
set_option maxHeartbeats 4000000
namespace R
open PySem PySem.Spec PyProof.Rows L2
theorem btrue {b : Bool} (h : ¬ b = false) : b = true := by cases b with | true => rfl | false => exact absurd rfl h
theorem rowB_tup {d : PyData} {lo hi : Int} (h : rowB d lo hi = true) : ∃ ds, d = .tuple ds ∧ lo ≤ ds.length ∧ (ds.length : Int) ≤ hi := by
  cases d with
  | tuple ds =>
    unfold rowB at h
    simp only [Bool.and_eq_true, decide_eq_true_eq] at h
    exact ⟨ds, rfl, h⟩
  | _ => cases h
theorem road_first {d : PyData} {l : List Str} (h : isRoadB d l = true) : ∃ a b c, d = .tuple [a, b, c] := by
  unfold isRoadB at h
  split at h
  · exact ⟨_, _, _, rfl⟩
  · cases h
theorem small_first {d : PyData} {l : List Str} (h : isRoadB d l = true) (s : smallD d = true) : smallD (firstD d) = true := by
  obtain ⟨a, b, c, rfl⟩ := road_first h
  exact small_mem (small_tup s).2 (by show a ∈ [a, b, c]; simp)
theorem small_all {f : PyData → PyData} : ∀ {ds : List PyData}, (∀ d ∈ ds, smallD (f d) = true) → smallD.smallAll (ds.map f) = true
  | [], _ => rfl
  | d :: r, h => by
    rw [List.map_cons, smallD.smallAll, Bool.and_eq_true]
    exact ⟨h d List.mem_cons_self, small_all fun e he => h e (List.mem_cons_of_mem _ he)⟩
theorem small_mk {ds : List PyData} (h : ds.length ≤ 1000) (s : smallD.smallAll ds = true) : smallD (.tuple ds) = true := by
  rw [smallD.eq_def]
  simp only [Bool.and_eq_true, decide_eq_true_eq]
  exact ⟨h, s⟩
section
variable {P : Program} {w : World} {K : PySem.W.Frag} {mg : Str → Option Value} {base : Heap}
def sp_is_web_form (K : PySem.W.Frag) : Sp := fun vs H Q _ => ∃ v d, vs = [v] ∧ Dp K H v d ∧ smallD d = true ∧ ∀ H', Same H H' → Q (.bl (isWebB d)) H'
theorem ok_is_web_form (F : DefAt K mg "is_web_form" s_is_web_form ["thing"]) (B : Blt mg) (G_is_row_of : Ok P w K mg base CX0 1 "is_row_of" ["thing", "least", "most"] (sp_is_row_of K)) (G_are_names : Ok P w K mg base CX0 2 "are_names" ["thing"] (sp_are_names K))
    (G_is_road : Ok P w K mg base CX0 2 "is_road" ["thing", "places"] (sp_is_road K)) : Ok P w K mg base CX0 3 "is_web_form" ["thing"] (sp_is_web_form K) := by
  refine ok_of F sc_is_web_form (fun vs H Q E h => by obtain ⟨_, _, rfl, _⟩ := h; rfl) fun f cdv A outer s H vs Q E hr h => ?_
  obtain ⟨v, d, rfl, hd, sm, q⟩ := h
  refine ⟨_, (ass_cons (as_if (PW.pt (aw_or (at_not (at_val (ae_co G_is_row_of hr pass0 (aa_cons (av 0) (aa_cons ae_int (aa_cons ae_int aa_nil)))))) (aw_or (at_not (at_val (ae_co G_is_row_of hr pass0 (aa_cons (ae_ix (ixT K) (av 0) ae_int (fun _ _ => rfl)) (aa_cons ae_int (aa_cons (ae_glob (v := .int 10) (by rfl) B.MOST_PLACES.choose_spec ⟨_, rfl⟩) aa_nil)))))) (pw_or1 (at_not (at_val (ae_co G_are_names hr pass0 (aa_cons (ae_ix (ixT K) (av 0) ae_int (fun _ _ => rfl)) aa_nil))))))))
      (pss_one (as_ret ae_bl))
      ass_nil)
    (ass_cons (as_if (PW.pt (aw_or (at_not (at_val (ae_co G_is_row_of hr pass0 (aa_cons (ae_ix (ixT K) (av 0) ae_int (fun _ _ => rfl)) (aa_cons ae_int (aa_cons (ae_glob (v := .int 14) (by rfl) B.MOST_ROADS_webforms.choose_spec ⟨_, rfl⟩) aa_nil)))))) (pw_or1 (at_not (at_val (ae_callB (allL K rfl) (by rfl) B.all_ (by decide +kernel) (aa_cons (pe_lc (own := [("road", 1)]) (g := (gName 1)) (tt := tYes) rfl sc_is_web_form.nd (piT K (ae_ix (ixT K) (av 0) ae_int (fun _ _ => rfl))) (blkOk_by (own := [("road", 1)]) (N := n_is_web_form) (sc := (defScope s_is_web_form)) (by decide +kernel)) (fun _ _ _ _ _ => (pg_name (i := 1) sc_is_web_form.nd rfl (Or.inl rfl))) (fun _ _ _ _ _ => pts_nil) (fun _ _ _ _ _ => (ae_co G_is_road hr pass0 (aa_cons (av 1) (aa_cons (ae_ix (ixT K) (av 0) ae_int (fun _ _ => rfl)) aa_nil))))) aa_nil)))))))
      (pss_one (as_ret ae_bl))
      ass_nil)
    (pss_one (as_ret (ae_co G_are_names hr pass0 (aa_cons (ae_callTy (tupOf K) (by rfl) B.tuple_ (by decide +kernel) (aa_cons (pe_lc (own := [("road", 1)]) (g := (gName 1)) (tt := tYes) rfl sc_is_web_form.nd (piT K (ae_ix (ixT K) (av 0) ae_int (fun _ _ => rfl))) (blkOk_by (own := [("road", 1)]) (N := n_is_web_form) (sc := (defScope s_is_web_form)) (by decide +kernel)) (fun _ _ _ _ _ => (pg_name (i := 1) sc_is_web_form.nd rfl (Or.inl rfl))) (fun _ _ _ _ _ => pts_nil) (fun _ _ _ _ _ => (ae_ix (ixT K) (av 1) ae_int (fun _ _ => rfl)))) aa_nil)) aa_nil)))))), ?_⟩
  refine ⟨_, rfl, _, d, 2, 2, rfl, hd, _, rfl, ?_⟩
  unfold isWebB at q
  by_cases c1 : rowB d 2 2 = false
  · rw [c1] at q ⊢
    exact q H (Same.refl H)
  have c1 := btrue c1
  rw [c1] at q ⊢
  obtain ⟨ds, rfl, l1, l2⟩ := rowB_tup c1
  match ds, (show ds.length = 2 by omega) with
  | [d1, d2], _ =>
    obtain ⟨a, xs, rfl, h1, h2⟩ := hd.tupI
    cases h2 with
    | cons e1 h2 => cases h2 with
      | cons e2 h2 =>
        cases h2
        rename_i v1 v2
        obtain ⟨_, sa⟩ := small_tup sm
        have s1 := small_mem sa (d := d1) (by simp)
        have s2 := small_mem sa (d := d2) (by simp)
        have q : ∀ H', Same H H' → Q (.bl (web2 d1 d2)) H' := q
        unfold web2 at q
        refine ⟨_, rfl, a, _, _, _, rfl, rfl, h1, ix0, _, d1, 1, 10, rfl, e1, _, rfl, ?_⟩
        by_cases c2 : rowB d1 1 10 = false
        · rw [c2] at q ⊢
          exact q H (Same.refl H)
        have c2 := btrue c2
        rw [c2] at q ⊢
        obtain ⟨ps, rfl, _, _⟩ := rowB_tup c2
        have q : ∀ H', Same H H' → Q (.bl (web3 ps d2)) H' := q
        unfold web3 at q
        refine ⟨_, rfl, a, _, _, _, rfl, rfl, h1, ix0, _, ps, rfl, e1, s1, fun H1 t1 => ⟨_, rfl, ?_⟩⟩
        by_cases c3 : areNamesB ps = false
        · rw [c3] at q ⊢
          exact q H1 t1
        have c3 := btrue c3
        rw [c3] at q ⊢
        -- the roads
        refine ⟨_, rfl, a, _, _, _, rfl, rfl, t1.seqT h1, ix1, _, d2, 0, 14, rfl, e2.mono t1, _, rfl, ?_⟩
        by_cases c4 : rowB d2 0 14 = false
        · rw [c4] at q ⊢
          exact q H1 t1
        have c4 := btrue c4
        rw [c4] at q ⊢
        obtain ⟨rs, rfl, _, hrl⟩ := rowB_tup c4
        have q : ∀ H', Same H H' → Q (.bl ((rs.all fun r => isRoadB r (txts ps)) && areNamesB (rs.map firstD))) H' := q
        have ep : ps.all isStrD = true := by
          unfold areNamesB at c3
          rw [Bool.and_eq_true] at c3
          exact names_strs c3.1
        have hu : SeqS K H v1 (txts ps) := SeqS.tup (by unfold strsT; rw [map_strs ep]; exact e1)
        obtain ⟨b, ys, rfl, g1, g2⟩ := e2.tupI
        obtain ⟨sl, sb⟩ := small_tup s2
        refine ⟨_, rfl, a, _, _, _, rfl, rfl, t1.seqT h1, ix1, b, rfl, ⟨_, t1.seqT g1⟩, fun D hD => ?_⟩
        refine lc_tupD (K := K) (a := b) (xs := ys) (rs.map fun d => .bool (isRoadB d (txts ps))) hD (t1.seqT g1) (by rw [List.length_map, g2.length]) (by rw [g2.length]; exact Nat.le_trans sl (by decide)) ?_ ?_
        · intro i x e H' acc Q' u1 hD1 hx he k
          obtain ⟨r, hr1, rfl⟩ := at_map he
          have hrx := (g2.both hx hr1).mono (t1.trans u1)
          exact ⟨rfl, _, rfl, _, rfl, a, _, _, _, rfl, rfl, (t1.trans u1).seqT h1, ix0, _, _, r, txts ps, rfl, hrx, small_mem sb (mem_at hr1), hu.mono (t1.trans u1), fun H4 s4 => k _ _ s4 (.bl _)⟩
        · intro H2 zs u1 hz hda
          rw [show (rs.map fun d => PyData.bool (isRoadB d (txts ps))) = (rs.map fun d => isRoadB d (txts ps)).map PyData.bool by rw [List.map_map]; rfl] at hda
          have ez := hda.bls
          subst ez
          refine ⟨D, _, rfl, SqL.at hz, _, rfl, ?_⟩
          rw [all_map_id]
          have t2 := t1.trans u1
          by_cases c5 : (rs.all fun r => isRoadB r (txts ps)) = false
          · rw [c5] at q ⊢
            exact q H2 t2
          have c5 := btrue c5
          rw [c5] at q ⊢
          have allR : ∀ r ∈ rs, isRoadB r (txts ps) = true := fun r hr => List.all_eq_true.mp c5 r hr
          refine ⟨_, rfl, a, _, _, _, rfl, rfl, t2.seqT h1, ix1, b, rfl, ⟨_, t2.seqT g1⟩, fun D2 hD2 => ?_⟩
          refine lc_tupD (K := K) (a := b) (xs := ys) (rs.map firstD) hD2 (t2.seqT g1) (by rw [List.length_map, g2.length]) (by rw [g2.length]; exact Nat.le_trans sl (by decide)) ?_ ?_
          · intro i x e H' acc Q' w1 hDw hx he k
            obtain ⟨r, hr1, rfl⟩ := at_map he
            have hrx := (g2.both hx hr1).mono (t2.trans w1)
            obtain ⟨p1, p2, p3, rfl⟩ := road_first (allR r (mem_at hr1))
            obtain ⟨c, vs, rfl, k1, k2⟩ := hrx.tupI
            cases k2 with
            | cons f1 k2 =>
              refine ⟨rfl, _, rfl, c, _, _, _, rfl, rfl, k1, ix0, k _ _ (Same.refl _) ?_⟩
              have hn : isNameD p1 = true := by
                have := allR _ (mem_at hr1)
                have : (isNameD p1 && areOfB [p2, p3] (txts ps)) = true := this
                rw [Bool.and_eq_true] at this
                exact this.1
              cases p1 with
              | str z => cases f1; exact .str z
              | _ => cases hn
          · intro H3 zs w1 hz3 hda3
            refine ⟨D2, _, rfl, .inl ⟨SqL.at hz3, fun m hm => ?_⟩⟩
            have w2 : Same H3 (upd H3 m (.tup zs)) := Same.new hm
            refine ⟨_, rs.map firstD, rfl, .tup (SqT.at upd_same) ((hda3.mono wo_same).mono w2), small_mk (by rw [List.length_map]; exact sl) (small_all fun r hr => small_first (allR r hr) (small_mem sb hr)), fun H4 s4 => q H4 (((t2.trans w1).trans w2).trans s4)⟩
end
end R
set_option maxHeartbeats 4000000
/-! ways in a tree -/
namespace R
open PySem L2
theorem lk_iff_mem {β : Type} {f : List (Str × β)} (hn : (f.map (·.1)).Nodup) {x : Str} {b : β} : lk f x = some b ↔ (x, b) ∈ f := ⟨lk_some_mem, lk_of_mem hn⟩
theorem TreeD.ne {W : Web} {d : Str → Str → Nat} (T : TreeD W d) {r : Road} (hr : r ∈ W.R) : r.2.1 ≠ r.2.2 := fun z => by
  have E := T.edge r hr r.2.1 (T.ends r hr).1
  rw [← z] at E
  omega
theorem TreeD.back {W : Web} {d : Str → Str → Nat} (T : TreeD W d) {r : Road} {x : Str} (hr : r ∈ W.R) (hi : inc x r) : otherEnd r (otherEnd r x) = x ∧ inc (otherEnd r x) r := by
  have ne := T.ne hr
  rcases otherEnd_or hi with ⟨h1, h2⟩ | ⟨h1, h2⟩
  · rw [h2]; exact ⟨by unfold otherEnd; rw [if_neg ne, h1], .inr rfl⟩
  · rw [h2]; exact ⟨by unfold otherEnd; rw [if_pos rfl, h1], .inl rfl⟩
theorem TreeD.step {W : Web} {d : Str → Str → Nat} (T : TreeD W d) {r : Road} {x a : Str} (hr : r ∈ W.R) (hi : inc x r) (ha : a ∈ W.P) : d a x = d a (otherEnd r x) + 1 ∨ d a (otherEnd r x) = d a x + 1 := by
  have E := T.edge r hr a ha
  rcases otherEnd_or hi with ⟨h1, h2⟩ | ⟨h1, h2⟩ <;> rw [h2, h1] <;> omega
theorem Wf.inP {W : Web} (h : Wf W) {r : Road} {x : Str} (hr : r ∈ W.R) (hi : inc x r) : x ∈ W.P := by
  rcases hi with rfl | rfl
  · exact (h.ends r hr).1
  · exact (h.ends r hr).2
/-- l leads from x to t, always nearer -/
inductive Way (W : Web) (d : Str → Str → Nat) (t : Str) : Str → List Road → Prop
  | nil : Way W d t t []
  | cons {x : Str} {r : Road} {l : List Road} : r ∈ W.R → inc x r → d t (otherEnd r x) + 1 = d t x → Way W d t (otherEnd r x) l → Way W d t x (r :: l)
theorem Way.ex {W : Web} {d : Str → Str → Nat} (T : TreeD W d) {t : Str} (ht : t ∈ W.P) : ∀ (n : Nat) (x : Str), x ∈ W.P → d t x = n → ∃ l, Way W d t x l
  | 0, x, hx, e => by
    have := (T.zero t ht x hx).mp e
    subst this
    exact ⟨[], .nil⟩
  | n + 1, x, hx, e => by
    have ne : t ≠ x := fun z => by
      rw [(T.zero t ht x hx).mpr z] at e; cases e
    obtain ⟨r, hr, hi, q⟩ := T.next t ht x hx ne
    obtain ⟨l, hl⟩ := Way.ex T ht n (otherEnd r x) (T.other hr) (by omega)
    exact ⟨r :: l, .cons hr hi q hl⟩
theorem Way.len {W : Web} {d : Str → Str → Nat} (T : TreeD W d) {t x : Str} {l : List Road} (ht : t ∈ W.P) (h : Way W d t x l) : l.length = d t x := by
  induction h with
  | nil => exact ((T.zero t ht t ht).mpr rfl).symm
  | cons hr hi q _ ih => rw [List.length_cons, ih]; exact q
theorem Way.one {W : Web} {d : Str → Str → Nat} (T : TreeD W d) {t : Str} (ht : t ∈ W.P) {x : Str} {l : List Road} (h : Way W d t x l) : ∀ {m : List Road}, Way W d t x m → l = m := by
  induction h with
  | nil =>
    intro m hm
    cases hm with
    | nil => rfl
    | cons hr hi q _ => rw [(T.zero t ht t ht).mpr rfl] at q; cases q
  | cons hr hi q hl ih =>
    intro m hm
    cases hm with
    | nil => rw [(T.zero t ht t ht).mpr rfl] at q; cases q
    | cons hr' hi' q' hl' =>
      have := T.uniq t ht _ (T.inP hr hi) _ hr _ hr' hi hi' q q'
      subst this
      rw [ih hl']
/-- l can be gone from x -/
inductive Goes (W : Web) : Str → List Road → Prop
  | nil {x : Str} : Goes W x []
  | cons {x : Str} {r : Road} {l : List Road} : r ∈ W.R → inc x r → Goes W (otherEnd r x) l → Goes W x (r :: l)
theorem Way.goes {W : Web} {d : Str → Str → Nat} {t x : Str} {l : List Road} (h : Way W d t x l) : Goes W x l := by
  induction h with
  | nil => exact .nil
  | cons hr hi _ _ ih => exact .cons hr hi ih
def endOf (x : Str) (l : List Road) : Str := l.foldl (fun y r => otherEnd r y) x
def stops : Str → List Road → List Str
  | _, [] => []
  | x, r :: l => otherEnd r x :: stops (otherEnd r x) l
theorem endOf_snoc (x : Str) (l : List Road) (r : Road) : endOf x (l ++ [r]) = otherEnd r (endOf x l) := by unfold endOf; rw [List.foldl_append]; rfl
theorem stops_snoc : ∀ (x : Str) (l : List Road) (r : Road), stops x (l ++ [r]) = stops x l ++ [otherEnd r (endOf x l)]
  | _, [], _ => rfl
  | x, s :: l, r => by
    show otherEnd s x :: stops (otherEnd s x) (l ++ [r]) = _
    rw [stops_snoc]; rfl
theorem stops_len : ∀ (x : Str) (l : List Road), (stops x l).length = l.length
  | _, [] => rfl
  | x, s :: l => by show (stops (otherEnd s x) l).length + 1 = _; rw [stops_len]; rfl
theorem Goes.at {W : Web} : ∀ {x : Str} {l : List Road} (i : Nat) {r : Road}, Goes W x l → l[i]? = some r → r ∈ W.R ∧ inc (endOf x (l.take i)) r
  | _, _, _, _, .nil, e => by simp at e
  | _, _, 0, _, .cons hr hi _, e => by simp at e; subst e; exact ⟨hr, hi⟩
  | _, _, i + 1, _, .cons hr hi hl, e => Goes.at i hl (by simpa using e)
theorem Goes.stops {W : Web} (hw : Wf W) {x : Str} {l : List Road} (h : Goes W x l) : ∀ y ∈ stops x l, y ∈ W.P := by
  induction h with
  | nil => intro y hy; cases hy
  | cons hr hi _ ih =>
    intro y hy
    rcases List.mem_cons.mp hy with rfl | hy
    · exact hw.other hr
    · exact ih y hy
theorem Way.less {W : Web} {d : Str → Str → Nat} {t x : Str} {l : List Road} (h : Way W d t x l) : ∀ y ∈ R.stops x l, d t y < d t x := by
  induction h with
  | nil => intro y hy; cases hy
  | cons hr hi q _ ih =>
    intro y hy
    rcases List.mem_cons.mp hy with rfl | hy
    · omega
    · have := ih y hy; omega
theorem Way.nd {W : Web} {d : Str → Str → Nat} {t x : Str} {l : List Road} (h : Way W d t x l) : (x :: R.stops x l).Nodup := by
  induction h with
  | nil => exact List.nodup_cons.mpr ⟨by simp [R.stops], List.nodup_nil⟩
  | cons hr hi q hl ih =>
    refine List.nodup_cons.mpr ⟨fun k => ?_, ih⟩
    have := (Way.cons hr hi q hl).less _ k
    omega
theorem TreeD.lt {W : Web} {d : Str → Str → Nat} (T : TreeD W d) {t x : Str} (ht : t ∈ W.P) (hx : x ∈ W.P) : d t x < W.P.length := by
  obtain ⟨l, hl⟩ := Way.ex T ht (d t x) x hx rfl
  have := length_le_of_nodup_sub hl.nd fun y hy => by
    rcases List.mem_cons.mp hy with rfl | hy
    · exact hx
    · exact hl.goes.stops T.toWf y hy
  rw [List.length_cons, stops_len, hl.len T ht] at this
  exact this
/-- the one item of a list for which p holds -/
theorem filter_one {α : Type} {p : α → Bool} {a : α} : ∀ {l : List α}, l.Nodup → a ∈ l → p a = true → (∀ b ∈ l, p b = true → b = a) → l.filter p = [a]
  | [], _, h, _, _ => by cases h
  | b :: l, hn, h, pa, u => by
    rw [List.nodup_cons] at hn
    by_cases e : b = a
    · subst e
      rw [List.filter_cons, if_pos pa]
      have : l.filter p = [] := List.filter_eq_nil_iff.mpr fun c hc k => hn.1 (u c (List.mem_cons_of_mem _ hc) k ▸ hc)
      rw [this]
    · have hb : ¬ p b = true := fun k => e (u b List.mem_cons_self k)
      rw [List.filter_cons, if_neg hb]
      refine filter_one hn.2 ?_ pa fun c hc => u c (List.mem_cons_of_mem _ hc)
      rcases List.mem_cons.mp h with h | h
      · exact absurd h.symm e
      · exact h
theorem nodup_of_names {W : Web} (h : W.names.Nodup) : W.R.Nodup := by
  unfold Web.names at h
  exact List.Pairwise.of_map (fun r : Road => r.1) (fun a b n e => n (by rw [e])) h
theorem filterMap_if {α β : Type} (p : α → Prop) [DecidablePred p] (f : α → β) : ∀ l : List α, (l.map fun r => if p r then some (f r) else none).filterMap id = (l.filter fun r => decide (p r)).map f
  | [] => rfl
  | a :: l => by
    rw [List.map_cons, List.filter_cons]
    by_cases h : p a
    · rw [if_pos h, if_pos (decide_eq_true h), List.filterMap_cons_some (f := id) (b := f a) rfl, filterMap_if p f l]; rfl
    · rw [if_neg h, if_neg (by simpa using h), List.filterMap_cons_none (f := id) rfl, filterMap_if p f l]
/-- names and what stands for them -/
theorem zip_lk {α β : Type} {key : α → Str} {R : α → β → Prop} : ∀ {l : List α} {ys : List β}, (l.map key).Nodup → Paired R l ys → ∀ {a : α}, a ∈ l → ∃ y, lk ((l.map key).zip ys) (key a) = some y ∧ R a y
  | [], _, _, _, _, h => by cases h
  | b :: l, _, hn, .cons (b := y) rb rl, a, h => by
    rw [List.map_cons, List.nodup_cons] at hn
    rw [List.map_cons, List.zip_cons_cons, lk_cons]
    by_cases e : key b = key a
    · rw [if_pos e]
      rcases List.mem_cons.mp h with h | h
      · subst h; exact ⟨_, rfl, rb⟩
      · exact absurd (e ▸ List.mem_map.mpr ⟨_, h, rfl⟩) hn.1
    · rw [if_neg e]
      rcases List.mem_cons.mp h with h | h
      · subst h; exact absurd rfl e
      · exact zip_lk hn.2 rl h
end R
set_option maxHeartbeats 4000000
/-! what is a web -/
namespace R
open PySem L2
structure WebOk (W : Web) : Prop where
  p1 : 1 ≤ W.P.length
  p10 : W.P.length ≤ 10
  r14 : W.R.length ≤ 14
  pn : W.P.all nameOk = true
  pd : W.P.Nodup
  rn : W.names.all nameOk = true
  rd : W.names.Nodup
  re : ∀ r ∈ W.R, r.2.1 ∈ W.P ∧ r.2.2 ∈ W.P ∧ r.2.1 ≠ r.2.2
theorem WebOk.wf {W : Web} (h : WebOk W) : Wf W := ⟨h.pd, h.rd, fun r hr => ⟨(h.re r hr).1, (h.re r hr).2.1⟩⟩
theorem all_names (l : List Str) : (l.map PyData.str).all isNameD = l.all nameOk := by rw [List.all_map]; rfl
theorem areNames_strs (l : List Str) : areNamesB (l.map PyData.str) = (l.all nameOk && decide l.Nodup) := by
  unfold areNamesB
  rw [all_names, txts_map]
theorem isRoad_road (r : Road) (l : List Str) : isRoadB (roadD r) l = (nameOk r.1 && (decide (r.2.1 ∈ l) && decide (r.2.2 ∈ l) && decide (r.2.1 ≠ r.2.2))) := by
  show (nameOk r.1 && areOfB [.str r.2.1, .str r.2.2] l) = _
  unfold areOfB
  have e : decide (txts [PyData.str r.2.1, PyData.str r.2.2]).Nodup = decide (r.2.1 ≠ r.2.2) := by
    show decide ([r.2.1, r.2.2] : List Str).Nodup = _
    by_cases h : r.2.1 = r.2.2 <;> simp [h]
  rw [e]
  show (nameOk r.1 && ((decide (r.2.1 ∈ l) && (decide (r.2.2 ∈ l) && true)) && decide (r.2.1 ≠ r.2.2))) = _
  rw [Bool.and_true]
theorem firsts (R : List Road) : (R.map roadD).map firstD = (R.map (·.1)).map PyData.str := by
  rw [List.map_map, List.map_map]; rfl
theorem isWeb_web {W : Web} (h : WebOk W) : isWebB W.d = true := by
  have e1 : rowB (strsT W.P) 1 10 = true := by
    show (decide ((1 : Int) ≤ ((W.P.map PyData.str).length : Nat)) && decide (((W.P.map PyData.str).length : Int) ≤ 10)) = true
    rw [List.length_map]
    have := h.p1
    have := h.p10
    simp only [Bool.and_eq_true, decide_eq_true_eq]
    omega
  have e2 : areNamesB (W.P.map PyData.str) = true := by rw [areNames_strs, h.pn, decide_eq_true h.pd]; rfl
  have e3 : rowB (.tuple (W.R.map roadD)) 0 14 = true := by
    show (decide ((0 : Int) ≤ ((W.R.map roadD).length : Nat)) && decide (((W.R.map roadD).length : Int) ≤ 14)) = true
    rw [List.length_map]
    have := h.r14
    simp only [Bool.and_eq_true, decide_eq_true_eq]
    omega
  have e4 : (W.R.map roadD).all (fun r => isRoadB r (txts (W.P.map PyData.str))) = true := by
    rw [List.all_map, List.all_eq_true]
    intro r hr
    show isRoadB (roadD r) _ = true
    rw [isRoad_road, txts_map]
    obtain ⟨a, b, c⟩ := h.re r hr
    have n : nameOk r.1 = true := List.all_eq_true.mp h.rn r.1 (List.mem_map.mpr ⟨r, hr, rfl⟩)
    rw [n, decide_eq_true a, decide_eq_true b, decide_eq_true c]; rfl
  have e5 : areNamesB ((W.R.map roadD).map firstD) = true := by
    rw [firsts, areNames_strs]
    show (W.names.all nameOk && decide W.names.Nodup) = true
    rw [h.rn, decide_eq_true h.rd]; rfl
  show (rowB (.tuple [strsT W.P, .tuple (W.R.map roadD)]) 2 2 && web2 (strsT W.P) (.tuple (W.R.map roadD))) = true
  unfold web2
  rw [e1]
  show (true && (true && web3 (W.P.map PyData.str) (.tuple (W.R.map roadD)))) = true
  unfold web3
  rw [e2, e3]
  show (true && (true && (true && (((W.R.map roadD).all fun r => isRoadB r (txts (W.P.map PyData.str))) && areNamesB ((W.R.map roadD).map firstD))))) = true
  rw [e4, e5]; rfl
theorem str_inj {a b : Str} (h : PyData.str a = PyData.str b) : a = b := PyData.str.inj h
theorem map_str_inj {l m : List Str} (h : l.map PyData.str = m.map PyData.str) : l = m := by
  have := congrArg txts h
  rwa [txts_map, txts_map] at this
theorem road_inj {r s : Road} (h : roadD r = roadD s) : r = s := by
  unfold roadD at h
  injection h with h
  injection h with a h
  injection h with b h
  injection h with c h
  obtain ⟨r1, r2, r3⟩ := r
  obtain ⟨s1, s2, s3⟩ := s
  rw [show r1 = s1 from str_inj a, show r2 = s2 from str_inj b, show r3 = s3 from str_inj c]
theorem map_road_inj : ∀ {l m : List Road}, l.map roadD = m.map roadD → l = m
  | [], [], _ => rfl
  | [], _ :: _, h => by cases h
  | _ :: _, [], h => by cases h
  | a :: l, b :: m, h => by
    rw [List.map_cons, List.map_cons] at h
    injection h with h1 h2
    rw [road_inj h1, map_road_inj h2]
theorem web_inj {W W' : Web} (h : W.d = W'.d) : W = W' := by
  unfold Web.d strsT at h
  injection h with h
  injection h with a h
  injection h with b h
  injection a with a
  injection b with b
  obtain ⟨P, R⟩ := W
  obtain ⟨P', R'⟩ := W'
  rw [show P = P' from map_str_inj a, show R = R' from map_road_inj b]
theorem roads_of {l : List Str} : ∀ {rs : List PyData}, rs.all (fun r => isRoadB r l) = true → ∃ R : List Road, rs = R.map roadD
  | [], _ => ⟨[], rfl⟩
  | d :: rs, h => by
    rw [List.all_cons, Bool.and_eq_true] at h
    obtain ⟨R, rfl⟩ := roads_of h.2
    obtain ⟨a, b, c, rfl⟩ := road_first h.1
    have h1 : (isNameD a && areOfB [b, c] l) = true := h.1
    unfold areOfB at h1
    simp only [List.all_cons, List.all_nil, Bool.and_true, Bool.and_eq_true] at h1
    obtain ⟨ha, ⟨hb, hc⟩, _⟩ := h1
    cases a with
    | str x =>
      cases b with
      | str y =>
        cases c with
        | str z => exact ⟨(x, y, z) :: R, rfl⟩
        | _ => cases hc
      | _ => cases hb
    | _ => cases ha
theorem webOk_of {d : PyData} (h : isWebB d = true) : ∃ W, d = W.d ∧ WebOk W := by
  unfold isWebB at h
  rw [Bool.and_eq_true] at h
  obtain ⟨h0, h⟩ := h
  obtain ⟨ds, rfl, l1, l2⟩ := rowB_tup h0
  match ds, (show ds.length = 2 by omega) with
  | [d1, d2], _ =>
    have h : web2 d1 d2 = true := h
    unfold web2 at h
    rw [Bool.and_eq_true] at h
    obtain ⟨h1, h⟩ := h
    obtain ⟨ps, rfl, a1, a2⟩ := rowB_tup h1
    have h : web3 ps d2 = true := h
    unfold web3 at h
    rw [Bool.and_eq_true, Bool.and_eq_true] at h
    obtain ⟨h2, h3, h⟩ := h
    obtain ⟨rs, rfl, b1, b2⟩ := rowB_tup h3
    have h : ((rs.all fun r => isRoadB r (txts ps)) && areNamesB (rs.map firstD)) = true := h
    rw [Bool.and_eq_true] at h
    obtain ⟨h4, h5⟩ := h
    have ep : (txts ps).map PyData.str = ps := map_strs (names_strs (by unfold areNamesB at h2; rw [Bool.and_eq_true] at h2; exact h2.1))
    obtain ⟨R, rfl⟩ := roads_of h4
    generalize txts ps = P at ep h4
    subst ep
    refine ⟨⟨P, R⟩, rfl, ?_⟩
    rw [areNames_strs, Bool.and_eq_true, decide_eq_true_eq] at h2
    rw [firsts, areNames_strs, Bool.and_eq_true, decide_eq_true_eq] at h5
    rw [List.length_map] at a1 a2 b1 b2
    refine ⟨by show 1 ≤ P.length; omega, by show P.length ≤ 10; omega, by show R.length ≤ 14; omega, h2.1, h2.2, h5.1, h5.2, fun r hr => ?_⟩
    have := List.all_eq_true.mp h4 (roadD r) (List.mem_map.mpr ⟨r, hr, rfl⟩)
    rw [isRoad_road] at this
    simp only [Bool.and_eq_true, decide_eq_true_eq] at this
    exact ⟨this.2.1.1, this.2.1.2, this.2.2⟩
theorem signs_ok : signsS.cps.toList.all (fun c => decide (c < 0x110000)) = true := by decide +kernel
theorem strOk_name {x : Str} (h : nameOk x = true) : PyData.strOk x = true := by
  unfold nameOk at h
  simp only [Bool.and_eq_true] at h
  have h := h.2
  unfold PyData.strOk
  rw [← Array.all_toList, List.all_eq_true]
  intro c hc
  have := of_decide_eq_true (List.all_eq_true.mp h c hc)
  exact List.all_eq_true.mp signs_ok c this
theorem strOk_names {l : List Str} (h : l.all nameOk = true) : l.all PyData.strOk = true := List.all_eq_true.mpr fun x hx => strOk_name (List.all_eq_true.mp h x hx)
theorem WebOk.at {W : Web} {K : PySem.W.Frag} {H : Hp} {v : V} (o : WebOk W) (h : Dp K H v W.d) : WebAt K H v W := ⟨h, Nat.le_trans o.p10 (by decide), Nat.le_trans o.r14 (by decide), strOk_names o.pn, strOk_names o.rn⟩
theorem WebOk.hd {W : Web} (o : WebOk W) : ∃ p0, W.P.head? = some p0 := by
  have := o.p1
  cases e : W.P with
  | nil => rw [e] at this; cases this
  | cons p r => exact ⟨p, rfl⟩
theorem small_name {x : Str} (h : nameOk x = true) : smallD (.str x) = true := by
  unfold nameOk at h
  simp only [Bool.and_eq_true, decide_eq_true_eq] at h
  rw [smallD.eq_def]
  have := h.1.1.2
  simp only [decide_eq_true_eq]
  omega
theorem small_strs : ∀ {l : List Str}, l.all nameOk = true → smallD.smallAll (l.map PyData.str) = true
  | [], _ => rfl
  | x :: r, h => by
    rw [List.all_cons, Bool.and_eq_true] at h
    rw [List.map_cons, smallD.smallAll, small_name h.1, small_strs h.2]; rfl
theorem small_strsT {l : List Str} (h : l.all nameOk = true) (hl : l.length ≤ 1000) : smallD (strsT l) = true := small_mk (by rw [List.length_map]; exact hl) (small_strs h)
theorem small_roads : ∀ {R : List Road}, (∀ r ∈ R, smallD (roadD r) = true) → smallD.smallAll (R.map roadD) = true
  | [], _ => rfl
  | r :: R, h => by
    rw [List.map_cons, smallD.smallAll, Bool.and_eq_true]
    exact ⟨h r List.mem_cons_self, small_roads fun e he => h e (List.mem_cons_of_mem _ he)⟩
theorem WebOk.small {W : Web} (o : WebOk W) : smallD W.d = true := by
  have hr : ∀ {R : List Road}, (∀ r ∈ R, smallD (roadD r) = true) → smallD.smallAll (R.map roadD) = true := fun h => small_roads h
  refine small_mk (by show 2 ≤ 1000; decide) ?_
  rw [smallD.smallAll, smallD.smallAll, smallD.smallAll, small_strsT o.pn (Nat.le_trans o.p10 (by decide))]
  rw [small_mk (by rw [List.length_map]; exact Nat.le_trans o.r14 (by decide)) (hr fun r hm => ?_)]
  · rfl
  · obtain ⟨a, b, _⟩ := o.re r hm
    refine small_mk (by show 3 ≤ 1000; decide) (small_strs (l := [r.1, r.2.1, r.2.2]) ?_)
    simp only [List.all_cons, List.all_nil, Bool.and_true, Bool.and_eq_true]
    exact ⟨List.all_eq_true.mp o.rn r.1 (List.mem_map.mpr ⟨r, hm, rfl⟩), List.all_eq_true.mp o.pn _ a, List.all_eq_true.mp o.pn _ b⟩
end R
set_option maxHeartbeats 4000000
/-! the day on which a place hears of another -/
namespace R
open PySem L2
def ixOf : List Str → Str → Nat
  | [], _ => 0
  | y :: l, x => if y = x then 0 else ixOf l x + 1
theorem ixOf_at : ∀ {l : List Str} {i : Nat} {x : Str}, l.Nodup → l[i]? = some x → ixOf l x = i
  | [], i, _, _, h => by simp at h
  | y :: l, 0, x, _, h => by
    simp at h
    subst h
    show (if y = y then 0 else _) = 0
    rw [if_pos rfl]
  | y :: l, i + 1, x, hn, h => by
    rw [List.nodup_cons] at hn
    have h : l[i]? = some x := by simpa using h
    have ne : ¬ y = x := fun e => hn.1 (e ▸ List.mem_of_getElem? h)
    show (if y = x then 0 else ixOf l x + 1) = i + 1
    rw [if_neg ne, ixOf_at hn.2 h]
theorem ixOf_mem : ∀ {l : List Str} {x : Str}, x ∈ l → l[ixOf l x]? = some x
  | y :: l, x, h => by
    show (y :: l)[if y = x then 0 else ixOf l x + 1]? = some x
    by_cases e : y = x
    · rw [if_pos e, e]; rfl
    · rw [if_neg e]
      rcases List.mem_cons.mp h with h | h
      · exact absurd h.symm e
      · have := ixOf_mem h
        simpa using this
theorem ixOf_lt {l : List Str} {x : Str} (h : x ∈ l) : ixOf l x < l.length := (List.getElem?_eq_some_iff.mp (ixOf_mem h)).1
theorem ixOf_inj {l : List Str} {x y : Str} (hx : x ∈ l) (hy : y ∈ l) (e : ixOf l x = ixOf l y) : x = y := by
  have a := ixOf_mem hx
  rw [e, ixOf_mem hy] at a
  exact (Option.some.inj a).symm
def rk (rt : List Str) (r : Road) : Nat := ixOf rt r.1
def dayOf (rt : List Str) : List Road → Nat
  | [] => 0
  | [_] => 1
  | r :: s :: l => dayOf rt (s :: l) + if rk rt s < rk rt r then 0 else 1
noncomputable def wayOf (W : Web) (d : Str → Str → Nat) (t x : Str) : List Road := Classical.epsilon (Way W d t x)
noncomputable def dy (W : Web) (d : Str → Str → Nat) (rt : List Str) (t x : Str) : Nat := dayOf rt (wayOf W d t x)
noncomputable def lastRk (W : Web) (d : Str → Str → Nat) (rt : List Str) (t x : Str) : Nat := match wayOf W d t x with
  | [] => 0
  | r :: _ => rk rt r
/-- r is a rota of W -/
structure RotaOf (W : Web) (r : List Str) : Prop where
  perm : r.Perm W.names
theorem RotaOf.len {W : Web} {r : List Str} (h : RotaOf W r) : r.length = W.R.length := by rw [h.perm.length_eq]; unfold Web.names; rw [List.length_map]
theorem RotaOf.mem {W : Web} {rt : List Str} (h : RotaOf W rt) {r : Road} (hr : r ∈ W.R) : r.1 ∈ rt := h.perm.mem_iff.mpr (List.mem_map.mpr ⟨r, hr, rfl⟩)
theorem RotaOf.nd {W : Web} {rt : List Str} (hw : Wf W) (h : RotaOf W rt) : rt.Nodup := h.perm.nodup_iff.mpr hw.nn
theorem name_inj {W : Web} (hw : Wf W) {r s : Road} (hr : r ∈ W.R) (hs : s ∈ W.R) (e : r.1 = s.1) : r = s := by
  obtain ⟨i, hi⟩ := List.getElem?_of_mem hr
  obtain ⟨j, hj⟩ := List.getElem?_of_mem hs
  have a : W.names[i]? = some r.1 := by unfold Web.names; rw [List.getElem?_map, hi]; rfl
  have b : W.names[j]? = some r.1 := by unfold Web.names; rw [List.getElem?_map, hj, e]; rfl
  have : i = j := nd_ix hw.nn a b
  subst this
  rw [hi] at hj
  exact Option.some.inj hj
theorem rk_inj {W : Web} {rt : List Str} (hw : Wf W) (h : RotaOf W rt) {r s : Road} (hr : r ∈ W.R) (hs : s ∈ W.R) (e : rk rt r = rk rt s) : r = s :=
  name_inj hw hr hs (ixOf_inj (h.mem hr) (h.mem hs) e)
section
variable {W : Web} {d : Str → Str → Nat} {rt : List Str} {t x y : Str} {l : List Road}
theorem Way.inP' (T : TreeD W d) (ht : t ∈ W.P) (h : Way W d t x l) : x ∈ W.P := by
  cases h with
  | nil => exact ht
  | cons hr hi _ _ => exact T.inP hr hi
theorem wayOf_ok (T : TreeD W d) (ht : t ∈ W.P) (hx : x ∈ W.P) : Way W d t x (wayOf W d t x) := Classical.epsilon_spec (Way.ex T ht _ x hx rfl)
theorem wayOf_eq (T : TreeD W d) (ht : t ∈ W.P) (h : Way W d t x l) : wayOf W d t x = l := (wayOf_ok T ht (h.inP' T ht)).one T ht h
theorem dy_eq (T : TreeD W d) (ht : t ∈ W.P) (h : Way W d t x l) : dy W d rt t x = dayOf rt l := by unfold dy; rw [wayOf_eq T ht h]
theorem dy_self (T : TreeD W d) (ht : t ∈ W.P) : dy W d rt t t = 0 := by rw [dy_eq T ht .nil]; rfl
theorem last_eq {r : Road} (T : TreeD W d) (ht : t ∈ W.P) (h : Way W d t x (r :: l)) : lastRk W d rt t x = rk rt r := by unfold lastRk; rw [wayOf_eq T ht h]
theorem dayOf_pos {r : Road} {l : List Road} : 1 ≤ dayOf rt (r :: l) := by
  induction l generalizing r with
  | nil => exact Nat.le_refl _
  | cons s l ih =>
    show 1 ≤ dayOf rt (s :: l) + _
    have := ih (r := s)
    omega
theorem dayOf_le : ∀ l : List Road, dayOf rt l ≤ l.length
  | [] => Nat.le_refl _
  | [_] => Nat.le_refl _
  | r :: s :: l => by
    show dayOf rt (s :: l) + (if rk rt s < rk rt r then 0 else 1) ≤ (s :: l).length + 1
    have := dayOf_le (s :: l)
    split <;> omega
theorem dy_le (T : TreeD W d) (ht : t ∈ W.P) (hx : x ∈ W.P) : dy W d rt t x ≤ d t x := by
  have h := wayOf_ok T ht hx
  rw [dy_eq T ht h, ← h.len T ht]
  exact dayOf_le _
theorem dy_zero (T : TreeD W d) (ht : t ∈ W.P) (hx : x ∈ W.P) : dy W d rt t x = 0 ↔ x = t := by
  constructor
  · intro e
    have h := wayOf_ok T ht hx
    rw [dy_eq T ht h] at e
    cases h' : wayOf W d t x with
    | nil => rw [h'] at h; cases h; rfl
    | cons r l => rw [h'] at e; have := dayOf_pos (rt := rt) (r := r) (l := l); omega
  · intro e; subst e; exact dy_self T ht
/-- the day at the farther end of a road -/
theorem dy_step (T : TreeD W d) (ht : t ∈ W.P) {r : Road} (hr : r ∈ W.R) (hi : inc x r) (q : d t (otherEnd r x) + 1 = d t x) :
    (otherEnd r x = t ∧ dy W d rt t x = 1) ∨ (otherEnd r x ≠ t ∧ dy W d rt t x = dy W d rt t (otherEnd r x) + if lastRk W d rt t (otherEnd r x) < rk rt r then 0 else 1) := by
  have hy := wayOf_ok T ht (T.other hr (x := x))
  have hx : Way W d t x (r :: wayOf W d t (otherEnd r x)) := .cons hr hi q hy
  rw [dy_eq T ht hx]
  cases h' : wayOf W d t (otherEnd r x) with
  | nil =>
    rw [h'] at hy
    refine .inl ⟨?_, rfl⟩
    generalize otherEnd r x = y at hy
    cases hy
    rfl
  | cons s l =>
    rw [h'] at hy
    refine .inr ⟨fun e => ?_, ?_⟩
    · rw [e] at hy
      have := hy.one T ht .nil
      cases this
    · rw [dy_eq T ht hy, last_eq T ht hy]
      rfl
theorem last_step (T : TreeD W d) (ht : t ∈ W.P) {r : Road} (hr : r ∈ W.R) (hi : inc x r) (q : d t (otherEnd r x) + 1 = d t x) : lastRk W d rt t x = rk rt r :=
  last_eq T ht (.cons hr hi q (wayOf_ok T ht (T.other hr)))
/-- day k, the first i roads walked: the news stands at x -/
def Kn (W : Web) (d : Str → Str → Nat) (rt : List Str) (t : Str) (k i : Nat) (x : Str) : Prop := dy W d rt t x < k ∨ (dy W d rt t x = k ∧ lastRk W d rt t x < i)
theorem kn_start (T : TreeD W d) (ht : t ∈ W.P) (hx : x ∈ W.P) : Kn W d rt t 1 0 x ↔ x = t := by
  unfold Kn
  rw [← dy_zero (rt := rt) T ht hx]
  omega
theorem kn_day (T : TreeD W d) (hR : RotaOf W rt) (ht : t ∈ W.P) (hx : x ∈ W.P) {k : Nat} (hk : 1 ≤ k) : Kn W d rt t k rt.length x ↔ Kn W d rt t (k + 1) 0 x := by
  unfold Kn
  have : dy W d rt t x = k → lastRk W d rt t x < rt.length := fun e => by
    have h := wayOf_ok T ht hx
    cases h' : wayOf W d t x with
    | nil =>
      rw [h'] at h
      rw [dy_eq T ht h] at e
      have e : 0 = k := e
      omega
    | cons r l =>
      rw [h'] at h
      rw [last_eq T ht h]
      cases h with
      | cons hr _ _ _ => exact ixOf_lt (hR.mem hr)
  omega
/-- one road walked: the far end hears when the near end knows -/
theorem kn_far (T : TreeD W d) (ht : t ∈ W.P) {r : Road} (hr : r ∈ W.R) (hi : inc x r) (q : d t (otherEnd r x) + 1 = d t x) {k i : Nat} (hk : 1 ≤ k) (hri : rk rt r = i) :
    (Kn W d rt t k i x → Kn W d rt t k i (otherEnd r x)) ∧ (Kn W d rt t k i (otherEnd r x) → ¬ Kn W d rt t k i x → dy W d rt t x = k) ∧ (Kn W d rt t k (i + 1) x ↔ Kn W d rt t k i (otherEnd r x)) := by
  have L := last_step (rt := rt) T ht hr hi q
  unfold Kn
  rcases dy_step (rt := rt) T ht hr hi q with ⟨e, h⟩ | ⟨e, h⟩
  · rw [e, dy_self T ht, h, L, hri]
    omega
  · rw [L, h, hri]
    split <;> omega
/-- other places hear nothing -/
theorem kn_else (T : TreeD W d) (hR : RotaOf W rt) (ht : t ∈ W.P) {r : Road} (hr : r ∈ W.R) {z : Str} (hz : z ∈ W.P) (hn : ¬ (inc z r ∧ d t (otherEnd r z) + 1 = d t z)) {k i : Nat} (hk : 1 ≤ k) (hri : rk rt r = i) :
    Kn W d rt t k (i + 1) z ↔ Kn W d rt t k i z := by
  unfold Kn
  have : dy W d rt t z = k → lastRk W d rt t z ≠ i := fun e e' => by
    have h := wayOf_ok T ht hz
    cases h' : wayOf W d t z with
    | nil =>
      rw [h'] at h
      rw [dy_eq T ht h] at e
      have e : 0 = k := e
      omega
    | cons s l =>
      rw [h'] at h
      rw [last_eq T ht h] at e'
      cases h with
      | cons hs hi q _ =>
        have : s = r := rk_inj T.toWf hR hs hr (e'.trans hri.symm)
        subst this
        exact hn ⟨hi, q⟩
  omega
/-- one road walked -/
theorem kn_road (T : TreeD W d) (hR : RotaOf W rt) (ht : t ∈ W.P) {r : Road} (hr : r ∈ W.R) {k i : Nat} (hk : 1 ≤ k) (hi : rt[i]? = some r.1) :
    (∀ z ∈ W.P, Kn W d rt t k (i + 1) z ↔ Kn W d rt t k i z ∨ (z = r.2.1 ∧ Kn W d rt t k i r.2.2) ∨ (z = r.2.2 ∧ Kn W d rt t k i r.2.1)) ∧
    (Kn W d rt t k i r.2.1 → ¬ Kn W d rt t k i r.2.2 → dy W d rt t r.2.2 = k) ∧ (Kn W d rt t k i r.2.2 → ¬ Kn W d rt t k i r.2.1 → dy W d rt t r.2.1 = k) := by
  have hri : rk rt r = i := ixOf_at (hR.nd T.toWf) hi
  have ne := T.ne hr
  have o1 : otherEnd r r.2.1 = r.2.2 := by unfold otherEnd; rw [if_pos rfl]
  have o2 : otherEnd r r.2.2 = r.2.1 := by unfold otherEnd; rw [if_neg ne]
  rcases T.edge r hr t ht with e | e
  · have A := kn_far (rt := rt) T ht hr (x := r.2.1) (.inl rfl) (by rw [o1]; omega) hk hri
    rw [o1] at A
    obtain ⟨A1, A2, A3⟩ := A
    refine ⟨fun z hz => ?_, fun h n => absurd (A1 h) n, A2⟩
    by_cases ez : z = r.2.1
    · subst ez
      constructor
      · intro h; exact .inr (.inl ⟨rfl, A3.mp h⟩)
      · rintro (h | ⟨_, h⟩ | ⟨h, _⟩)
        · exact A3.mpr (A1 h)
        · exact A3.mpr h
        · exact absurd h ne
    · have B := kn_else (rt := rt) T hR ht hr hz (fun ⟨h1, h2⟩ => by
        rcases h1 with h1 | h1
        · exact ez h1
        · rw [h1, o2] at h2; omega) hk hri
      rw [B]
      constructor
      · exact .inl
      · rintro (h | ⟨h, _⟩ | ⟨h, h'⟩)
        · exact h
        · exact absurd h ez
        · rw [h]; exact A1 h'
  · have A := kn_far (rt := rt) T ht hr (x := r.2.2) (.inr rfl) (by rw [o2]; omega) hk hri
    rw [o2] at A
    obtain ⟨A1, A2, A3⟩ := A
    refine ⟨fun z hz => ?_, A2, fun h n => absurd (A1 h) n⟩
    by_cases ez : z = r.2.2
    · subst ez
      constructor
      · intro h; exact .inr (.inr ⟨rfl, A3.mp h⟩)
      · rintro (h | ⟨h, _⟩ | ⟨_, h⟩)
        · exact A3.mpr (A1 h)
        · exact absurd h.symm ne
        · exact A3.mpr h
    · have B := kn_else (rt := rt) T hR ht hr hz (fun ⟨h1, h2⟩ => by
        rcases h1 with h1 | h1
        · rw [h1, o1] at h2; omega
        · exact ez h1) hk hri
      rw [B]
      constructor
      · exact .inl
      · rintro (h | ⟨h, h'⟩ | ⟨h, _⟩)
        · exact h
        · rw [h]; exact A1 h'
        · exact absurd h ez
theorem kn_all (T : TreeD W d) (ht : t ∈ W.P) (hx : x ∈ W.P) {k : Nat} (hk : W.P.length ≤ k) : Kn W d rt t k 0 x := by
  have := dy_le (rt := rt) T ht hx
  have := T.lt ht hx
  exact .inl (by omega)
end
end R
set_option maxHeartbeats 4000000
namespace R
open PySem PySem.Spec PyProof.Rows L2
/-- a class of errors of the text, over ValueError -/
structure ClsF (K : PySem.W.Frag) (mg : Str → Option Value) (x : Str) (C : Addr) : Prop where
  g : mg x = some (.ref C)
  x : PySem.W.excIn K C [.type "ValueError", .type "Exception", .type "BaseException", .type "object"] "ValueError.__new__" = true
  k : PySem.W.keepIn K (.ref C) = true
  b : PySem.W.subIn K (.ref C) (.type "BaseException") = some true
  t : PySem.W.typeIn K (.ref C) = some (.type "type")
section
variable {P : Program} {w : World} {K : PySem.W.Frag} {mg : Str → Option Value} {base : Heap} {cW cT : Addr}
def sp_need_web (K : PySem.W.Frag) (cW : Addr) : Sp := fun vs H Q E => ∃ v d, vs = [v] ∧ Dp K H v d ∧ smallD d = true ∧ (isWebB d = true → ∀ H', Same H H' → Q .non H') ∧ (isWebB d = false → ∀ H', Same H H' → E (.ref cW) none H')
theorem ok_need_web (F : DefAt K mg "need_web" s_need_web ["web"]) (CBadWeb : ClsF K mg "BadWeb" cW) (G_is_web_form : Ok P w K mg base CX0 3 "is_web_form" ["thing"] (sp_is_web_form K)) : Ok P w K mg base (L2.CX P w) 4 "need_web" ["web"] (sp_need_web K cW) := by
  refine okX_of F sc_need_web (fun vs H Q E h => by obtain ⟨_, _, rfl, _⟩ := h; rfl) fun f cdv A outer s H vs Q E hr h => ?_
  obtain ⟨v, d, rfl, hd, sm, q1, q2⟩ := h
  refine ⟨_, (pss_one (as_if (at_not (at_val (ae_co G_is_web_form hr pass0 (aa_cons (av 0) aa_nil))))
      (pss_one (ps_raise rfl (takes_of rfl rfl rfl rfl) (pmk_own PySem.F.excBase_ValueError CBadWeb.x CBadWeb.g CBadWeb.k (raises_own CBadWeb.b CBadWeb.t) rfl)))
      ass_nil)), ?_⟩
  refine ⟨_, rfl, _, d, rfl, hd, sm, fun H1 s1 => ⟨_, rfl, ?_⟩⟩
  by_cases c : isWebB d = true
  · rw [c]
    exact q1 c H1 s1
  · rw [bfalse c]
    exact q2 (bfalse c) H1 s1
def sp_need_tree (K : PySem.W.Frag) (cW cT : Addr) : Sp := fun vs H Q E => ∃ v d, vs = [v] ∧ Dp K H v d ∧ smallD d = true ∧ (isWebB d = false → ∀ H', Same H H' → E (.ref cW) none H') ∧
  (∀ W b, d = W.d → WebOk W → IsTreeB W b → b = true → ∀ H', Same H H' → Q .non H') ∧ (∀ W b, d = W.d → WebOk W → IsTreeB W b → b = false → ∀ H', Same H H' → E (.ref cT) none H')
theorem ok_need_tree (F : DefAt K mg "need_tree" s_need_tree ["web"]) (CBadTree : ClsF K mg "BadTree" cT) (G_need_web : Ok P w K mg base (L2.CX P w) 4 "need_web" ["web"] (sp_need_web K cW)) (G_is_tree_web : Ok P w K mg base CX0 4 "is_tree_web" ["web"] (sp_is_tree_web K)) :
    Ok P w K mg base (L2.CX P w) 5 "need_tree" ["web"] (sp_need_tree K cW cT) := by
  refine okX_of F sc_need_tree (fun vs H Q E h => by obtain ⟨_, _, rfl, _⟩ := h; rfl) fun f cdv A outer s H vs Q E hr h => ?_
  obtain ⟨v, d, rfl, hd, sm, q1, q2, q3⟩ := h
  refine ⟨_, (ass_cons (as_expr (ae_co G_need_web hr (passes_call (takes_of rfl rfl rfl rfl) fun _ _ _ _ h => h) (aa_cons (av 0) aa_nil)))
    (pss_one (as_if (at_not (at_val (ae_co G_is_tree_web hr pass0 (aa_cons (av 0) aa_nil))))
      (pss_one (ps_raise rfl (takes_of rfl rfl rfl rfl) (pmk_own PySem.F.excBase_ValueError CBadTree.x CBadTree.g CBadTree.k (raises_own CBadTree.b CBadTree.t) rfl)))
      ass_nil))), ?_⟩
  refine ⟨_, rfl, _, d, rfl, hd, sm, fun c H1 s1 => ?_, fun c H1 s1 => q1 c H1 s1⟩
  obtain ⟨W, rfl, o⟩ := webOk_of c
  obtain ⟨p0, h0⟩ := o.hd
  refine ⟨_, rfl, _, W, p0, rfl, o.at (hd.mono s1), o.wf, h0, fun H2 b s2 hb => ⟨_, rfl, ?_⟩⟩
  cases b with
  | true => exact q2 W true rfl o hb rfl H2 (s1.trans s2)
  | false => exact q3 W false rfl o hb rfl H2 (s1.trans s2)
def sp_need_one_piece (K : PySem.W.Frag) : Sp := fun vs H Q _ => ∃ v W d, vs = [v] ∧ WebOk W ∧ Dp K H v W.d ∧ TreeD W d ∧ ∀ H', Same H H' → Q .non H'
theorem ok_need_one_piece (F : DefAt K mg "need_one_piece" s_need_one_piece ["web"]) (G_need_web : Ok P w K mg base (L2.CX P w) 4 "need_web" ["web"] (sp_need_web K cW)) (G_has_one_piece : Ok P w K mg base CX0 3 "has_one_piece" ["web"] (sp_has_one_piece K)) :
    Ok P w K mg base CX0 5 "need_one_piece" ["web"] (sp_need_one_piece K) := by
  refine ok_of F sc_need_one_piece (fun vs H Q E h => by obtain ⟨_, _, _, rfl, _⟩ := h; rfl) fun f cdv A outer s H vs Q E hr h => ?_
  obtain ⟨v, W, d, rfl, o, hd, T, q⟩ := h
  refine ⟨_, (ass_cons (as_expr (ae_co G_need_web hr passL (aa_cons (av 0) aa_nil)))
    (pss_one (as_if (at_not (at_val (ae_co G_has_one_piece hr pass0 (aa_cons (av 0) aa_nil))))
      (pss_one ps_dead)
      ass_nil))), ?_⟩
  obtain ⟨p0, h0⟩ := o.hd
  refine ⟨_, rfl, _, W.d, rfl, hd, o.small, fun _ H1 s1 => ?_, fun c => by rw [isWeb_web o] at c; cases c⟩
  refine ⟨_, rfl, _, W, p0, rfl, o.at (hd.mono s1), o.wf, h0, fun H2 f s2 hs => ⟨_, rfl, ?_⟩⟩
  rw [decide_eq_true (show ((f.length : Int) = (W.P.length : Int)) by rw [hs.treeLen T])]
  exact q H2 (s1.trans s2)
/-! ### rotas and weeks -/
theorem areOf_rota {W : Web} {r : List Str} (hw : Wf W) (h : RotaOf W r) : areOfB (r.map PyData.str) W.names = true := by
  unfold areOfB
  rw [txts_map, decide_eq_true (h.perm.nodup_iff.mpr hw.nn), Bool.and_true, List.all_map, List.all_eq_true]
  intro x hx
  exact decide_eq_true (h.perm.mem_iff.mp hx)
def sp_is_rota (K : PySem.W.Frag) : Sp := fun vs H Q _ => ∃ v u W r, vs = [v, u] ∧ WebAt K H v W ∧ Wf W ∧ Dp K H u (strsT r) ∧ RotaOf W r ∧ ∀ H', Same H H' → Q (.bl true) H'
theorem ok_is_rota (F : DefAt K mg "is_rota" s_is_rota ["web", "thing"]) (B : Blt mg) (G_is_row_of : Ok P w K mg base CX0 1 "is_row_of" ["thing", "least", "most"] (sp_is_row_of K)) (G_are_of : Ok P w K mg base CX0 1 "are_of" ["thing", "names"] (sp_are_of K))
    (G_names_of_roads : Ok P w K mg base CX0 1 "names_of_roads" ["web"] (sp_names_of_roads K)) : Ok P w K mg base CX0 2 "is_rota" ["web", "thing"] (sp_is_rota K) := by
  refine ok_of F sc_is_rota (fun vs H Q E h => by obtain ⟨_, _, _, _, rfl, _⟩ := h; rfl) fun f cdv A outer s H vs Q E hr h => ?_
  obtain ⟨v, u, W, r, rfl, hv, hw, hu, hR, q⟩ := h
  refine ⟨_, (pss_one (as_ret (ae_and (ae_co G_is_row_of hr pass0 (aa_cons (av 1) (aa_cons (ae_callB (lenS K) (by rfl) B.len_ PySem.boot_len (aa_cons (ae_ix (ixT K) (av 0) ae_int (fun _ _ => rfl)) aa_nil)) (aa_cons (ae_callB (lenS K) (by rfl) B.len_ PySem.boot_len (aa_cons (ae_ix (ixT K) (av 0) ae_int (fun _ _ => rfl)) aa_nil)) aa_nil)))) (pe_one (ae_co G_are_of hr pass0 (aa_cons (av 1) (aa_cons (ae_co G_names_of_roads hr pass0 (aa_cons (av 0) aa_nil)) aa_nil))))))), ?_⟩
  obtain ⟨a, pp, rr, rs, rfl, hA, hP, hRR, hrs⟩ := hv.parts
  have lr : rs.length = W.R.length := by rw [hrs.length, List.length_map]
  refine ⟨_, rfl, _, rfl, a, _, _, _, rfl, rfl, hA, ix1, rr, _, rfl, .inr hRR, _, rfl, a, _, _, _, rfl, rfl, hA, ix1, rr, _, rfl, .inr hRR, _, strsT r, _, _, rfl, hu, _, rfl, ?_⟩
  have e : rowB (strsT r) (rs.length : Int) (rs.length : Int) = true := by
    show (decide ((rs.length : Int) ≤ ((r.map PyData.str).length : Nat)) && decide (((r.map PyData.str).length : Int) ≤ rs.length)) = true
    have := hR.len
    rw [List.length_map]
    simp only [Bool.and_eq_true, decide_eq_true_eq]
    omega
  rw [e]
  refine ⟨_, rfl, _, rfl, _, W, rfl, hv, fun H1 p s1 np hp => ?_⟩
  refine ⟨_, _, r.map PyData.str, W.names, rfl, hu.mono s1, ?_, ⟨p, rfl, .inl (SqL.at hp)⟩, fun H2 s2 => ?_⟩
  · rw [List.length_map, hR.len]
    exact Nat.le_trans hv.rl (by decide)
  · rw [areOf_rota hw hR]
    exact q H2 (s1.trans s2)
def sp_need_rota (K : PySem.W.Frag) : Sp := fun vs H Q _ => ∃ v u W r, vs = [v, u] ∧ WebAt K H v W ∧ Wf W ∧ Dp K H u (strsT r) ∧ RotaOf W r ∧ ∀ H', Same H H' → Q .non H'
theorem ok_need_rota (F : DefAt K mg "need_rota" s_need_rota ["web", "rota"]) (G_is_rota : Ok P w K mg base CX0 2 "is_rota" ["web", "thing"] (sp_is_rota K)) : Ok P w K mg base CX0 3 "need_rota" ["web", "rota"] (sp_need_rota K) := by
  refine ok_of F sc_need_rota (fun vs H Q E h => by obtain ⟨_, _, _, _, rfl, _⟩ := h; rfl) fun f cdv A outer s H vs Q E hr h => ?_
  obtain ⟨v, u, W, r, rfl, hv, hw, hu, hR, q⟩ := h
  refine ⟨_, (pss_one (as_if (at_not (at_val (ae_co G_is_rota hr pass0 (aa_cons (av 0) (aa_cons (av 1) aa_nil)))))
      (pss_one ps_dead)
      ass_nil)), ?_⟩
  exact ⟨_, rfl, _, rfl, _, _, W, r, rfl, hv, hw, hu, hR, fun H1 s1 => ⟨_, rfl, q H1 s1⟩⟩
def sp_is_round (K : PySem.W.Frag) : Sp := sp_is_rota K
theorem ok_is_round (F : DefAt K mg "is_round" s_is_round ["web", "thing"]) (B : Blt mg) (G_are_of : Ok P w K mg base CX0 1 "are_of" ["thing", "names"] (sp_are_of K))
    (G_names_of_roads : Ok P w K mg base CX0 1 "names_of_roads" ["web"] (sp_names_of_roads K)) : Ok P w K mg base CX0 2 "is_round" ["web", "thing"] (sp_is_round K) := by
  refine ok_of F sc_is_round (fun vs H Q E h => by obtain ⟨_, _, _, _, rfl, _⟩ := h; rfl) fun f cdv A outer s H vs Q E hr h => ?_
  obtain ⟨v, u, W, r, rfl, hv, hw, hu, hR, q⟩ := h
  refine ⟨_, (pss_one (as_ret (ae_and (ae_callB (isiK K) (by rfl) B.isinstance_ (by decide +kernel) (aa_cons (av 1) (aa_cons (ae_bltn (v := .ty "tuple") (by rfl) B.tuple_ (by decide +kernel) rfl) aa_nil))) (pe_one (ae_co G_are_of hr pass0 (aa_cons (av 1) (aa_cons (ae_co G_names_of_roads hr pass0 (aa_cons (av 0) aa_nil)) aa_nil))))))), ?_⟩
  refine ⟨_, rfl, isi_tup hu ⟨_, rfl, ?_⟩⟩
  refine ⟨_, rfl, _, rfl, _, W, rfl, hv, fun H1 p s1 np hp => ?_⟩
  refine ⟨_, _, r.map PyData.str, W.names, rfl, hu.mono s1, ?_, ⟨p, rfl, .inl (SqL.at hp)⟩, fun H2 s2 => ?_⟩
  · rw [List.length_map, hR.len]
    exact Nat.le_trans hv.rl (by decide)
  · rw [areOf_rota hw hR]
    exact q H2 (s1.trans s2)
def weekD (r : List Str) : PyData := .tuple [strsT r]
def sp_need_week (K : PySem.W.Frag) : Sp := fun vs H Q _ => ∃ v u W r, vs = [v, u] ∧ WebAt K H v W ∧ Wf W ∧ Dp K H u (weekD r) ∧ RotaOf W r ∧ ∀ H', Same H H' → Q .non H'
theorem ok_need_week (F : DefAt K mg "need_week" s_need_week ["web", "week"]) (B : Blt mg) (G_is_row_of : Ok P w K mg base CX0 1 "is_row_of" ["thing", "least", "most"] (sp_is_row_of K)) (G_is_round : Ok P w K mg base CX0 2 "is_round" ["web", "thing"] (sp_is_round K)) :
    Ok P w K mg base CX0 3 "need_week" ["web", "week"] (sp_need_week K) := by
  refine ok_of F sc_need_week (fun vs H Q E h => by obtain ⟨_, _, _, _, rfl, _⟩ := h; rfl) fun f cdv A outer s H vs Q E hr h => ?_
  obtain ⟨v, u, W, r, rfl, hv, hw, hu, hR, q⟩ := h
  refine ⟨_, (pss_one (as_if (PW.pt (aw_or (at_not (at_val (ae_co G_is_row_of hr pass0 (aa_cons (av 1) (aa_cons ae_int (aa_cons (ae_glob (v := .int 4) (by rfl) B.MOST_ROUNDS.choose_spec ⟨_, rfl⟩) aa_nil)))))) (pw_or1 (at_not (at_val (ae_callB (allL K rfl) (by rfl) B.all_ (by decide +kernel) (aa_cons (pe_lc (own := [("one", 2)]) (g := (gName 2)) (tt := tYes) rfl sc_need_week.nd (piT K (av 1)) (blkOk_by (own := [("one", 2)]) (N := n_need_week) (sc := (defScope s_need_week)) (by decide +kernel)) (fun _ _ _ _ _ => (pg_name (i := 2) sc_need_week.nd rfl (Or.inl rfl))) (fun _ _ _ _ _ => pts_nil) (fun _ _ _ _ _ => (ae_co G_is_round hr pass0 (aa_cons (av 0) (aa_cons (av 2) aa_nil))))) aa_nil)))))))
      (pss_one ps_dead)
      ass_nil)), ?_⟩
  refine ⟨_, rfl, _, weekD r, 1, 4, rfl, hu, _, rfl, ?_⟩
  obtain ⟨b, xs, rfl, h1, h2⟩ := hu.tupI
  refine ⟨_, rfl, b, rfl, ⟨_, h1⟩, fun D hD => ?_⟩
  refine lc_tupD (K := K) (a := b) (xs := xs) [.bool true] hD h1 h2.length.symm (by rw [h2.length]; show 1 ≤ 100000; decide) ?_ ?_
  · intro i x e H' acc Q' s1 hD1 hx he k
    have hi : i < 1 := (List.getElem?_eq_some_iff.mp he).1
    obtain rfl : i = 0 := by omega
    have hdx := (h2.both (d := strsT r) hx rfl).mono s1
    cases he
    exact ⟨rfl, _, rfl, _, rfl, _, _, W, r, rfl, hv.mono s1, hw, hdx, hR, fun H4 s4 => k _ _ s4 (.bl _)⟩
  · intro H' ys s1 hy hda
    have ey : ys = [true].map V.bl := DpAll.bls (l := [true]) hda
    subst ey
    exact ⟨D, [true], rfl, SqL.at hy, _, rfl, q H' s1⟩
def sp_round_of (K : PySem.W.Frag) : Sp := fun vs H Q _ => ∃ u r n, vs = [u, .int n] ∧ Dp K H u (weekD r) ∧ ∀ v, Dp K H v (strsT r) → Q v H
theorem ok_round_of (F : DefAt K mg "round_of" s_round_of ["week", "day"]) (B : Blt mg) : Ok P w K mg base CX0 1 "round_of" ["week", "day"] (sp_round_of K) := by
  refine ok_of F sc_round_of (fun vs H Q E h => by obtain ⟨_, _, _, rfl, _⟩ := h; rfl) fun f cdv A outer s H vs Q E hr h => ?_
  obtain ⟨u, r, n, rfl, hu, q⟩ := h
  refine ⟨_, (pss_one (as_ret (ae_ix (ixT K) (av 0) (ae_op op_mod (ae_op op_sub (av 1) ae_int) (ae_callB (lenS K) (by rfl) B.len_ PySem.boot_len (aa_cons (av 0) aa_nil))) (fun _ _ => rfl)))), ?_⟩
  obtain ⟨b, xs, rfl, h1, h2⟩ := hu.tupI
  cases h2 with
  | cons e1 h2 =>
    cases h2
    rename_i v1
    refine ⟨_, rfl, _, rfl, _, _, rfl, rfl, _, rfl, b, _, rfl, .inr h1, _, _, rfl, rfl, ?_, b, _, _, v1, rfl, rfl, h1, ?_, q v1 e1⟩
    · show (0 : Int) < 1; decide
    · have : (n - 1) % (([v1].length : Nat) : Int) = 0 := by show (n - 1) % 1 = 0; omega
      rw [this]
      exact ix0
end
end R
set_option maxHeartbeats 4000000
namespace R
open PySem PySem.Spec PyProof.Rows L2
section
variable {P : Program} {w : World} {K : PySem.W.Frag} {mg : Str → Option Value} {base : Heap}
theorem nat_lt_int {a b : Nat} : decide ((a : Int) < (b : Int)) = decide (a < b) := by
  by_cases h : a < b
  · rw [decide_eq_true h, decide_eq_true (by omega)]
  · rw [decide_eq_false h, decide_eq_false (by omega)]
theorem v_str_eq {x y : Str} : decide (V.str x = V.str y) = decide (x = y) := by
  by_cases h : x = y
  · subst h; simp
  · rw [decide_eq_false h, decide_eq_false (fun z => h (V.str.inj z))]
/-- the roads at x that lead nearer to t: one -/
theorem nearer_one {W : Web} {d : Str → Str → Nat} (T : TreeD W d) {t x : Str} (ht : t ∈ W.P) {r : Road} (hr : r ∈ W.R) (hi : inc x r) (q : d t (otherEnd r x) + 1 = d t x) :
    (W.R.filter fun r => decide (inc x r ∧ d t (otherEnd r x) < d t x)) = [r] := by
  refine filter_one (nodup_of_names T.nn) hr (decide_eq_true ⟨hi, by omega⟩) fun s hs k => ?_
  obtain ⟨k1, k2⟩ := of_decide_eq_true k
  have := T.step hs k1 ht
  exact T.uniq t ht x (T.inP hr hi) s hs r hr k1 hi (by omega) q
def sp_first_way (K : PySem.W.Frag) : Sp := fun vs H Q _ => ∃ v W d x t, vs = [v, .str x, .str t] ∧ WebAt K H v W ∧ TreeD W d ∧ x ∈ W.P ∧ t ∈ W.P ∧ ∀ H' v' l, Same H H' → Way W d t x l → Dp K H' v' (strsT (l.map (·.1))) → Q v' H'
theorem ok_first_way (F : DefAt K mg "first_way" s_first_way ["web", "place", "other"]) (B : Blt mg) (G_steps_from : Ok P w K mg base CX0 2 "steps_from" ["web", "place"] (sp_steps_from K)) (G_other_end : Ok P w K mg base CX0 1 "other_end" ["road", "place"] (sp_other_end K)) :
    Ok P w K mg base CX0 3 "first_way" ["web", "place", "other"] (sp_first_way K) := by
  refine ok_of F sc_first_way (fun vs H Q E h => by obtain ⟨_, _, _, _, _, rfl, _⟩ := h; rfl) fun f cdv A outer s H vs Q E hr h => ?_
  obtain ⟨v, W, d, x, t, rfl, hv, T, hx, ht, q⟩ := h
  refine ⟨_, (ass_cons (as_set (i := 3) sc_first_way.nd rfl (Or.inr rfl) (ae_co G_steps_from hr pass0 (aa_cons (av 0) (aa_cons (av 2) aa_nil))))
    (ass_cons (as_if (at_cmp (ac_dnotin (hu_of hr) (av 1) (av 3)))
      (pss_one (as_ret ae_non))
      ass_nil)
    (ass_cons (as_set (i := 4) sc_first_way.nd rfl (Or.inl rfl) (ae_lst aa_nil))
    (ass_cons (as_set (i := 5) sc_first_way.nd rfl (Or.inr rfl) (av 1))
    (ass_cons (ps_while PassesOwn.never (at_cmpR op_ne (av 5) (av 2) (nomark _))
      (ass_cons (ps_setLc (i := 6) (own := [("road", 7)]) (g := (gName 7)) rfl sc_first_way.nd rfl rfl (sw_true rfl rfl rfl (by decide +kernel)) (piT K (ae_ix (ixT K) (av 0) ae_int (fun _ _ => rfl))) (blkOk_by (own := [("road", 7)]) (N := n_first_way) (sc := (defScope s_first_way)) (by decide +kernel)) (fun _ _ _ _ _ => (pg_name (i := 7) sc_first_way.nd rfl (Or.inl rfl))) (fun _ _ _ _ _ => (pts_one (PW.pt (aw_and (at_cmpR (inS K) (av 5) (ae_slice (slT K) (av 7) (ao_some ae_int) poN) (by rfl)) (pw_and1 (at_cmpR op_lt (ae_dget (hu_of hr) (av 3) (ae_co G_other_end hr pass0 (aa_cons (av 7) (aa_cons (av 5) aa_nil))) (fun _ _ => rfl)) (ae_dget (hu_of hr) (av 3) (av 5) (fun _ _ => rfl)) (nomark _))))))) (fun _ _ _ _ _ => (av 7)))
      (ass_cons (as_expr (ae_bm K PySem.F.plainAttrs_list PySem.F.slot_list_append PySem.F.type_list_append mt_append (av 4) (aa_cons (ae_ix (ixT K) (ae_ix (ixL K) (av 6) ae_int (fun _ _ => rfl)) ae_int (fun _ _ => rfl)) aa_nil)))
      (pss_one (as_set (i := 5) sc_first_way.nd rfl (Or.inr rfl) (ae_co G_other_end hr pass0 (aa_cons (ae_ix (ixL K) (av 6) ae_int (fun _ _ => rfl)) (aa_cons (av 5) aa_nil))))))))
    (pss_one (as_ret (ae_callTy (tupOf K) (by rfl) B.tuple_ (by decide +kernel) (aa_cons (av 4) aa_nil))))))))), ?_⟩
  obtain ⟨a, pp, r, rs, rfl, hA, hP, hR, hrs⟩ := hv.parts
  -- steps = steps_from(web, other)
  refine ⟨_, rfl, _, rfl, _, W, t, rfl, hv, T.toWf, ht, fun H1 dd f s1 nd hd hs => ?_⟩
  -- if place not in steps
  refine ⟨_, rfl, _, rfl, dd, _, rfl, dgetF hd, _, rfl, ?_⟩
  rw [hs.tree d T x hx]
  -- found = []; here = place
  refine ⟨Nat.zero_le _, fun l hl => ⟨_, rfl, ?_⟩⟩
  have s2 : Same H1 (upd H1 l (.lst [])) := Same.new hl
  have nl : H l = none := s1.free hl
  refine ⟨fun m σ H' => ∃ y done y6 y7, σ = [some (.ref a), some (.str x), some (.str t), some (.ref dd), some (.ref l), some (.str y), y6, y7] ∧ Same H1 H' ∧ H' l = some (.lst (List.map V.str (List.map (·.1) done))) ∧ y ∈ W.P ∧ (∀ rest, Way W d t y rest → Way W d t x (done ++ rest)) ∧ done.length + m = d t x ∧ m = d t y,
    ⟨_, x, [], none, none, rfl, s2, upd_same, hx, fun _ k => k, Nat.zero_add _, rfl⟩, ?_⟩
  rintro m σ H' ⟨y, done, y6, y7, rfl, s3, hl3, hy, hway, hlen, rfl⟩
  have hd3 := s3 _ _ hd
  refine ⟨_, rfl, _, rfl, rfl, _, rfl, ?_⟩
  rw [v_str_eq]
  by_cases e : y = t
  · subst e
    rw [decide_eq_true rfl]
    -- return tuple(found)
    refine ⟨_, rfl, l, _, rfl, .inl ⟨SqL.at hl3, fun c hc => ?_⟩⟩
    have w1 := hway [] .nil
    rw [List.append_nil] at w1
    refine q _ _ done ((s1.trans s3).trans (Same.new hc)) w1 (.tup (SqT.at upd_same) ?_)
    exact DpAll.ofStrs _
  · rw [decide_eq_false e]
    have ty : t ≠ y := fun z => e z.symm
    obtain ⟨r0, hr0, hi0, q0⟩ := T.next t ht y hy ty
    refine ⟨fun σ' H'' => ∃ y6 y7, σ' = [some (.ref a), some (.str x), some (.str t), some (.ref dd), some (.ref l), some (.str (otherEnd r0 y)), y6, y7] ∧ Same H1 H'' ∧ H'' l = some (.lst (List.map V.str (List.map (·.1) (done ++ [r0])))), ?_, ?_⟩
    · rintro σ' H'' ⟨z6, z7, rfl, u1, u2⟩
      refine ⟨d t (otherEnd r0 y), by omega, _, done ++ [r0], _, _, rfl, u1, u2, T.other hr0, fun rest k => ?_, ?_, rfl⟩
      · rw [List.append_assoc]
        exact hway _ (.cons hr0 hi0 q0 k)
      · rw [List.length_append, List.length_singleton]; omega
    have sa := s1.trans s3
    -- nearer = [..]
    refine ⟨_, rfl, a, _, _, _, rfl, rfl, sa.seqT hA, ix1, r, rfl, ⟨_, sa.seqT hR⟩, fun D hD => ?_⟩
    refine lc_tupF (K := K) (a := r) (xs := rs) (W.R.map fun r => if inc y r ∧ d t (otherEnd r y) < d t y then some (roadD r) else none) hD (sa.seqT hR) (by rw [hrs.length, List.length_map, List.length_map]) (by rw [hrs.length, List.length_map]; exact Nat.le_trans hv.rl (by decide)) ?_ ?_
    · intro i v0 e0 H4 acc Q4 Q0 u1 hD4 hx4 he4 k1 k0
      obtain ⟨rd, hrd1, rfl⟩ := at_map he4
      have hrd : Dp K H4 v0 (roadD rd) := (hrs.both hx4 (map_at hrd1)).mono (sa.trans u1)
      have hrm := mem_at hrd1
      obtain ⟨b, rfl, hb⟩ := road_parts hrd
      refine ⟨rfl, _, rfl, _, rfl, _, rfl, ?_⟩
      refine road_tail hb fun c H5 w1 w2 => ?_
      refine ⟨c, _, rfl, .inr (SqT.at w2), rfl, flat_strs _, ?_⟩
      rw [inV_str, inc_dec]
      refine ⟨_, rfl, ?_⟩
      refine ite2 (fun c1 => ?_) (fun c1 => ?_)
      · have c1 : inc y rd := of_decide_eq_true c1
        have hd5 := w1 _ _ (u1 _ _ hd3)
        have g1 := dgetF (x := otherEnd rd y) hd5
        have g2 := dgetF (x := y) hd5
        rw [hs.tree d T _ (T.other hrm)] at g1
        rw [hs.tree d T y hy] at g2
        refine ⟨_, rfl, _, rfl, _, rfl, _, _, _, rfl, hrd.mono w1, dd, _, rfl, g1, _, rfl, _, rfl, dd, _, rfl, g2, _, _, rfl, rfl, _, rfl, ?_⟩
        rw [nat_lt_int]
        refine ite2 (fun c2 => ?_) (fun c2 => ?_)
        · have c2 := of_decide_eq_true c2
          rw [if_pos ⟨c1, c2⟩] at k1
          refine ⟨_, rfl, k1 _ H5 _ w1 rfl ?_⟩
          exact dp_sameT (sameT_wo (w1 _ _ hD4)) (hrd.mono w1) (tup_road rd)
        · have c2 : ¬ d t (otherEnd rd y) < d t y := fun z => c2 (decide_eq_true z)
          exact k0 H5 w1 (if_neg fun z => c2 z.2)
      · have c1 : ¬ inc y rd := fun z => c1 (decide_eq_true z)
        exact k0 H5 w1 (if_neg fun z => c1 z.1)
    · intro H4 ys u1 hy4 hda
      rw [filterMap_if (fun r => inc y r ∧ d t (otherEnd r y) < d t y) roadD, nearer_one T ht hr0 hi0 q0] at hda
      cases hda with
      | cons h1 h2 =>
        cases h2
        have h1 := h1.mono wo_same
        have hl4 := u1 _ _ hl3
        obtain ⟨b, rfl, hb⟩ := road_parts h1
        refine ⟨_, rfl, .inl ⟨rfl, _, SqL.at hl4⟩, _, rfl, D, _, _, _, rfl, rfl, SqL.at hy4, ix0, b, _, _, _, rfl, rfl, hb, ix0, l, _, _, rfl, rfl, hl4, ?_, ?_⟩
        · rw [List.length_map, List.length_map]
          refine small_ (m := 100) ?_
          have : (d t x) ≤ W.P.length := Nat.le_of_lt (T.lt ht hx)
          exact Nat.le_trans (by omega) (Nat.le_trans this hv.pl)
        · have s5 : Same H1 (upd H4 l (.lst (List.map V.str (List.map (·.1) done) ++ [V.str r0.1]))) := (s3.trans u1).over hl
          have hDl : D ≠ l := fun z => by rw [z, hl3] at hD; cases hD
          have h5 : (upd H4 l (.lst (List.map V.str (List.map (·.1) done) ++ [V.str r0.1]))) D = some (.lst [V.ref b]) := by rw [upd_ne hDl]; exact hy4
          have hnl : SameT H4 (upd H4 l (.lst (List.map V.str (List.map (·.1) done) ++ [V.str r0.1]))) :=
            ⟨fun c ys e => by rw [upd_ne (ne_of e hl4 (by intro z; cases z))]; exact e, fun c o u e => by rw [upd_ne (ne_of e hl4 (by intro z; cases z))]; exact e⟩
          refine ⟨_, rfl, D, _, _, _, rfl, rfl, SqL.at h5, ix0, _, rfl, _, _, _, rfl, dp_sameT hnl h1 (tup_road r0), _, _, rfl, s5, ?_⟩
          rw [upd_same, List.map_append, List.map_append]
          rfl
end
end R
set_option maxHeartbeats 4000000
namespace R
open PySem PySem.Spec PyProof.Rows L2
section
variable {P : Program} {w : World} {K : PySem.W.Frag} {mg : Str → Option Value} {base : Heap}
theorem dpAll_paired {H : Hp} : ∀ {l : List Road} {vs : List V}, DpAll K H vs (l.map roadD) → Paired (fun r v => Dp K H v (roadD r)) l vs
  | [], _, .nil => .nil
  | _ :: _, _, .cons a b => .cons a (dpAll_paired b)
/-- {road[0]: road for road in web[1]} -/
theorem lk_take_none {β : Type} {l : List Str} {rs : List β} (h : l.Nodup) (hlen : l.length ≤ rs.length) {i : Nat} {x : Str} (e : l[i]? = some x) : lk ((l.zip rs).take i) x = none := by
  rw [lk_none]
  intro k
  rw [List.map_take, List.map_fst_zip hlen] at k
  obtain ⟨j, hj⟩ := List.getElem?_of_mem k
  rw [List.getElem?_take] at hj
  split at hj
  · rename_i hji
    have := nd_ix h hj e
    omega
  · cases hj
def sp_way_places (K : PySem.W.Frag) : Sp := fun vs H Q _ => ∃ v W x u l, vs = [v, .str x, u] ∧ WebAt K H v W ∧ Wf W ∧ Dp K H u (strsT (l.map (·.1))) ∧ l.length ≤ 100 ∧ Goes W x l ∧ ∀ H' v', Same H H' → Dp K H' v' (strsT (stops x l)) → Q v' H'
theorem ok_way_places (F : DefAt K mg "way_places" s_way_places ["web", "place", "way"]) (B : Blt mg) (G_other_end : Ok P w K mg base CX0 1 "other_end" ["road", "place"] (sp_other_end K)) :
    Ok P w K mg base CX0 2 "way_places" ["web", "place", "way"] (sp_way_places K) := by
  refine ok_of F sc_way_places (fun vs H Q E h => by obtain ⟨_, _, _, _, _, rfl, _⟩ := h; rfl) fun f cdv A outer s H vs Q E hr h => ?_
  obtain ⟨v, W, x, u, l, rfl, hv, hw, hu, hl, hg, q⟩ := h
  refine ⟨_, (ass_cons (ps_setDc (i := 3) (own := [("road", 7)]) (g := (gName 7)) (tt := tYes) rfl sc_way_places.nd rfl rfl (sw_trueD rfl rfl rfl (by decide +kernel)) (piT K (ae_ix (ixT K) (av 0) ae_int (fun _ _ => rfl))) (blkOk_by (own := [("road", 7)]) (N := n_way_places) (sc := (defScope s_way_places)) (by decide +kernel)) (fun _ _ _ _ _ => (pg_name (i := 7) sc_way_places.nd rfl (Or.inl rfl))) (fun _ _ _ _ _ => pts_nil) (fun _ _ _ _ _ => (ae_ix (ixT K) (av 7) ae_int (fun _ _ => rfl))) (fun _ _ _ _ _ => (av 7)))
    (ass_cons (as_set (i := 4) sc_way_places.nd rfl (Or.inl rfl) (ae_lst aa_nil))
    (ass_cons (as_set (i := 5) sc_way_places.nd rfl (Or.inl rfl) (av 1))
    (ass_cons (ps_for PassesOwn.never rfl (piT K (av 2)) (pg_name (i := 6) sc_way_places.nd rfl (Or.inl rfl))
      (ass_cons (as_if (at_cmpR (ninS K) (av 5) (ae_slice (slT K) (ae_dget (hu_of hr) (av 3) (av 6) (fun _ _ => rfl)) (ao_some ae_int) poN) (by rfl))
        (pss_one (as_ret ae_non))
        ass_nil)
      (ass_cons (as_set (i := 5) sc_way_places.nd rfl (Or.inl rfl) (ae_co G_other_end hr pass0 (aa_cons (ae_dget (hu_of hr) (av 3) (av 6) (fun _ _ => rfl)) (aa_cons (av 5) aa_nil))))
      (pss_one (as_expr (ae_bm K PySem.F.plainAttrs_list PySem.F.slot_list_append PySem.F.type_list_append mt_append (av 4) (aa_cons (av 5) aa_nil)))))))
    (pss_one (as_ret (ae_callTy (tupOf K) (by rfl) B.tuple_ (by decide +kernel) (aa_cons (av 4) aa_nil)))))))), ?_⟩
  obtain ⟨a, pp, r, rs, rfl, hA, hP, hR, hrs⟩ := hv.parts
  obtain ⟨ua, us, rfl, hU, hus⟩ := hu.tupI
  have eu := hus.strs
  subst eu
  -- roads
  refine ⟨_, rfl, a, _, _, _, rfl, rfl, hA, ix1, r, rfl, ⟨_, hR⟩, fun D hD => ?_⟩
  refine dc_tup (K := K) (a := r) (xs := rs) (fun i H' => Same H H' ∧ H' D = some (.dK (kvF (fun v : V => v) ((W.names.zip rs).take i)))) ⟨Same.new hD, upd_same⟩ (fun i H' _ h => h.1.seqT hR) ?_ ?_
  · rintro i y H' hy ⟨s1, hd⟩
    obtain ⟨dd, hd1, hd2⟩ := hrs.get' hy
    obtain ⟨rd, e1, rfl⟩ := at_map hd1
    obtain ⟨b, rfl, hb⟩ := road_parts (hd2.mono s1)
    have en : W.names[i]? = some rd.1 := map_at e1
    have ez : (W.names.zip rs)[i]? = some (rd.1, V.ref b) := by rw [List.getElem?_zip_eq_some]; exact ⟨en, hy⟩
    refine ⟨rfl, _, rfl, b, _, _, _, rfl, rfl, hb, ix0, _, rfl, _, Sum.inr rd.1, rfl, hd, ?_, s1.over hD, ?_⟩
    · rw [kvF_len, List.length_take]
      refine small_ (m := 100) (Nat.le_trans (Nat.min_le_right _ _) ?_)
      rw [List.length_zip]
      refine Nat.le_trans (Nat.min_le_left _ _) ?_
      unfold Web.names; rw [List.length_map]; exact hv.rl
    · rw [upd_same, List.take_add_one, ez]
      exact congrArg (fun z => some (HO.dK z)) (kvF_put (fun v : V => v) _ _ _ (lk_take_none hw.nn (by rw [hrs.length, List.length_map]; unfold Web.names; rw [List.length_map]; exact Nat.le_refl _) en))
  · rintro H1 ⟨s1, hd⟩
    rw [List.take_of_length_le (by rw [List.length_zip]; exact Nat.min_le_right _ _)] at hd
    have key : ∀ rd ∈ W.R, ∃ v, lk (W.names.zip rs) rd.1 = some v ∧ Dp K H v (roadD rd) := fun rd hm => zip_lk (key := fun r : Road => r.1) (R := fun r v => Dp K H v (roadD r)) hw.nn (dpAll_paired hrs) hm
    -- found = []; here = place
    refine ⟨Nat.zero_le _, fun m hm => ⟨_, rfl, ?_⟩⟩
    have sm : Same H1 (upd H1 m (.lst [])) := Same.new hm
    refine ⟨_, rfl, ua, rfl, ⟨_, (s1.trans sm).seqT hU⟩, ?_⟩
    refine for_tup (K := K) (a := ua) (xs := List.map V.str (List.map (·.1) l)) (fun i σ H' => ∃ y6 y7, σ = [some (.ref a), some (.str x), some (.ref ua), some (.ref D), some (.ref m), some (.str (endOf x (l.take i))), y6, y7] ∧ Same H1 H' ∧ H' m = some (.lst ((stops x (l.take i)).map V.str)))
      ⟨none, none, rfl, sm, upd_same⟩ (fun i σ H' _ h => by obtain ⟨_, _, _, s, _⟩ := h; exact (s1.trans s).seqT hU) ?_ ?_
    · rintro i y σ H' hy ⟨y6, y7, rfl, s2, hm2⟩
      obtain ⟨nm, hn1, rfl⟩ := at_map hy
      obtain ⟨rd, hrd, rfl⟩ := at_map hn1
      obtain ⟨hm1, hi⟩ := hg.at i hrd
      obtain ⟨rv, hlk, hdp⟩ := key rd hm1
      have hd2 := s2 _ _ hd
      have gd := dgetF (g := fun v : V => v) (x := rd.1) hd2
      rw [hlk] at gd
      have hdp2 := hdp.mono (s1.trans s2)
      obtain ⟨b, rfl, hb⟩ := road_parts hdp2
      -- if here not in roads[name][1:]
      refine ⟨_, rfl, _, rfl, _, rfl, D, _, rfl, gd, _, rfl, ?_⟩
      refine road_tail hb fun c H3 u1 u2 => ?_
      refine ⟨c, _, rfl, .inr (SqT.at u2), rfl, flat_strs _, ?_⟩
      rw [inV_str, inc_dec, decide_eq_true hi]
      refine ⟨_, rfl, ?_⟩
      have gd3 := dgetF (g := fun v : V => v) (x := rd.1) (u1 _ _ hd2)
      rw [hlk] at gd3
      have hm3 := u1 _ _ hm2
      -- here = other_end(roads[name], here); found.append(here)
      refine ⟨_, rfl, _, rfl, D, _, rfl, gd3, _, rfl, _, _, _, rfl, hdp2.mono u1, ?_⟩
      refine ⟨_, rfl, .inl ⟨rfl, _, SqL.at hm3⟩, _, rfl, m, _, _, rfl, rfl, hm3, ?_, ?_⟩
      · rw [List.length_map, stops_len, List.length_take]
        exact small_ (m := 100) (Nat.le_trans (Nat.min_le_right _ _) hl)
      · have et : l.take (i + 1) = l.take i ++ [rd] := by rw [List.take_add_one, hrd]; rfl
        refine ⟨some (.str rd.1), y7, ?_, (s2.trans u1).over hm, ?_⟩
        · rw [et, endOf_snoc]; rfl
        · rw [upd_same, et, stops_snoc, List.map_append]; rfl
    · rintro σ H' ⟨y6, y7, rfl, s2, hm2⟩
      rw [List.length_map, List.length_map, List.take_length] at hm2
      refine ⟨_, rfl, m, _, rfl, .inl ⟨SqL.at hm2, fun c hc => ?_⟩⟩
      exact q _ _ ((s1.trans s2).trans (Same.new hc)) (.tup (SqT.at upd_same) (DpAll.ofStrs _))
end
end R
set_option maxHeartbeats 4000000
/-! enumerate(tuple), zip(tuple, list) -/
namespace PySem
open Sem (wp)
open AutoSeq1 (wpAny_loadPart')
theorem k47_enum_new1 {v : Value} {o : Obj} {H : Heap → Prop} (B : Begins v o H) :
    Meets (Builtin.«enumerate.__new__» ⟨[.type "enumerate", v], []⟩) (fun _ R s => H s.heap ∧
      R (.ok (.ret (.ref (s.heap.push o).objs.size))) { s with heap := (s.heap.push o).push { cls := .type "enumerate", data := .fields #[.none, .bool false, .ref s.heap.objs.size, rawInt 0, .none, .none] } }) :=
  .of_wp fun prog w A R s h => by
    obtain ⟨hp, g, d, tk, os⟩ := s
    obtain ⟨h1, h⟩ := h
    have hsub := sub_enumerate
    have q1 : ∀ {A' : Around} {E : Value → Shared → Prop} {Q : Value → Shared → Prop}, Q (.ref hp.objs.size) ⟨hp.push o, g, d, tk, os⟩ → wpAny (model prog w) A' (pyIter v) Q E ⟨hp, g, d, tk, os⟩ :=
      fun q => B.iter prog w _ _ ⟨hp, g, d, tk, os⟩ _ h1 q
    wp_walk using q1
    refine wpAny_stack_any fun st => wpAny_pure ?_
    split
    · rename_i c _ _ _ _ _
      cases (c == Value.type "enumerate")
      · wp_walk using q1
        exact ⟨_, rfl, h⟩
      · wp_walk using q1
        exact ⟨_, rfl, h⟩
    · wp_walk using q1
      exact ⟨_, rfl, h⟩
section
variable {prog : Program} {w : World} {A : Around} {E : Value → Shared → Prop} {s : Shared}
theorem k47_call_enum {v : Value} {o : Obj} {H : Heap → Prop} {Q : Value → Shared → Prop} (B : Begins v o H) (h1 : H s.heap)
    (h : ∀ h', IsEnum h' (s.heap.objs.size + 1) s.heap.objs.size 0 .none → h'.get? s.heap.objs.size = some o → h'.objs.size = s.heap.objs.size + 2 →
      (∀ b o, s.heap.get? b = some o → h'.get? b = some o) → Q (.ref (s.heap.objs.size + 1)) { s with heap := h' }) :
    wpAny (model prog w) A (call (.type "enumerate") [v]) Q E s := by
  refine callType_new F.called_enumerate (by decide) (F.typeCall_enumerate_1 _) (F.newCall_enumerate_1 _) (fun obj => F.args_object_init_2 obj _) F.entry_enumerate_new
    (k47_enum_new1 B) ⟨h1, ?_⟩
  have hz : (s.heap.push o).objs.size = s.heap.objs.size + 1 := Heap.size_push ..
  show _ ∧ _
  rw [hz]
  have he := Heap.get?_push_size (s.heap.push o) (o := { cls := .type "enumerate", data := .fields #[.none, .bool false, .ref s.heap.objs.size, rawInt 0, .none, .none] }) rfl
  rw [hz] at he
  exact ⟨⟨_, he, rfl⟩, h _ he (Heap.get?_push_of_some _ (Heap.get?_push_size _ B.free)) (by rw [Heap.size_push, hz]) fun b o x => Heap.get?_push_of_some _ (Heap.get?_push_of_some _ x)⟩
end
end PySem
namespace R
open PySem PySem.Spec PyProof.Rows L2
theorem ty_ne {a b : String} (h : a ≠ b) : Value.type a ≠ Value.type b := fun e => h (Value.type.inj e)
theorem tup_ne_iter {h : Heap} {a it : Addr} {i : Nat} {xs : Array Value} (p : h.IsTuple a xs) (q : h.IsTupleIter it a i) : a ≠ it := fun e => by
  subst e
  obtain ⟨o, ho, hc, _⟩ := p
  obtain ⟨o', ho', hc', _⟩ := q
  rw [ho] at ho'; cases ho'
  exact ty_ne (by decide) (hc.symm.trans hc')
theorem tup_ne_enum {h : Heap} {a e it : Addr} {c : Int} {old : Value} {xs : Array Value} (p : h.IsTuple a xs) (q : IsEnum h e it c old) : e ≠ a := fun z => by
  subst z
  obtain ⟨o, ho, hc, _⟩ := p
  have q : h.get? e = _ := q
  rw [ho] at q
  have q := Option.some.inj q
  subst q
  exact ty_ne (by decide) hc.symm
/-- the tuple at a, each item in a new pair -/
def IteT (K : PySem.W.Frag) (a : Addr) : It :=
  ⟨fun i H => ∃ (xs : List V) (x : V), SqT K H a xs ∧ xs[i]? = some x, fun i H v H' => ∃ T x, v = .ref T ∧ H T = none ∧ H' = upd H T (.tup [.int (i : Nat), x]) ∧ ∀ xs, SqT K H a xs → xs[i]? = some x, fun i H => ∃ xs : List V, SqT K H a xs ∧ xs.length = i⟩
theorem turn_enumT {P : Program} {w : World} {K : PySem.W.Frag} {elts : List Expr} {kk : Nat} {tpos : Pos} (a e it : Addr) :
    Turn P w K (.Tuple elts kk tpos) (IteT K a) [e, it] e (fun i h => (∃ old, IsEnum h e it ((i : Nat) : Int) old) ∧ h.IsTupleIter it a i ∧ e ≠ it) where
  mem := by simp
  obj := fun i h st b hb => by
    obtain ⟨⟨old, he⟩, ⟨o, ho, hc, hd⟩, _⟩ := st
    have e' : b = e ∨ b = it := by simpa using hb
    rcases e' with z | z
    · rw [z]; exact ⟨_, he, fun v q => nomatch q⟩
    · rw [z]; exact ⟨o, ho, fun v q => by rw [hd] at q; cases q⟩
  keep := fun i h h' st k => let ⟨⟨old, he⟩, hi, hne⟩ := st; ⟨⟨old, k e (by simp) _ he⟩, hi.at fun o q => k it (by simp) o q, hne⟩
  item := by
    intro X hP hw hK hc i pins s σ H E I hf st hg
    subst hP hw hK
    obtain ⟨⟨old, he⟩, hit, hne⟩ := st
    obtain ⟨xs, x, hq, hx⟩ := hg
    obtain ⟨its, rv, p, hz⟩ := I.tuple hq
    have p : s.heap.IsTuple a its.toArray := p
    obtain ⟨u, hu, ru⟩ := rv.get hx
    have hel : e < s.heap.objs.size := Heap.lt_size he
    have hil : it < s.heap.objs.size := by obtain ⟨_, q, _⟩ := hit; exact Heap.lt_size q
    have hlt : i < its.toArray.size := by
      have := (List.getElem?_eq_some_iff.mp hu).1
      simpa using this
    refine wpAny_pyNext_enum_itemD (Draws.tuple (A := X.A.in1) (I.ok.hd hc) it a (tup_ne_iter p hit) its.toArray) he ⟨hit, p⟩ hlt hne (by simp [hne, tup_ne_enum p he]) fun u' h' tk hP ho hst' hT hsz hk => ?_
    have hP : its.toArray[i]? = some u' := hP
    have eu : u' = u := by
      have : its[i]? = some u' := by simpa using hP
      rw [hu] at this
      exact (Option.some.inj this).symm
    subst eu
    refine ⟨_, rfl, wpAny_letOwnedTupleGo_enum (s := { s with heap := h', toks := tk + 1 }) ho fun h'' he' sb => ?_⟩
    have hT2 : h''.get? s.heap.objs.size = some { cls := .type "tuple", data := .seq #[.int i tk, u'] } := (sb.2 _ (Nat.ne_of_gt hel)).trans hT
    have new : ObjOk X.prog X.w (upd H s.heap.objs.size (.tup [.int (i : Nat), x])) h'' s.heap.objs.size (.tup [.int (i : Nat), x]) :=
      ⟨by show 2 ≤ sizeLine; decide, [.int i tk, u'], .cons ⟨_, rfl⟩ (.cons ru .nil), ⟨_, hT2, rfl, _, rfl⟩⟩
    have I1 : Inv X pins σ (upd H s.heap.objs.size (.tup [.int (i : Nat), x])) { s with heap := h'', toks := tk + 1 } :=
      I.turnedNew (ch := [e, it]) (fun b ob hb q => (sb.2 b (fun z => hb (by simp [z]))).trans (hk b ob (fun z => hb (by simp [z])) (fun z => hb (by simp [z])) q)) hf (Nat.le_refl _) new
    refine ⟨.ref s.heap.objs.size, _, I1, rfl, ⟨_, x, rfl, I.hok.fresh (Nat.le_refl _), rfl, fun ys hy => by rw [I.tuple_inj hy hq]; exact hx⟩, ⟨⟨u', ?_⟩, hst'.1.at fun o q => (sb.2 it (Ne.symm hne)).trans q, hne⟩, fun b hb => ?_⟩
    · have e1 : ((i + 1 : Nat) : Int) = (i : Int) + 1 := by omega
      rw [e1]; exact he'
    · have hb' : b < s.heap.objs.size := by
        have e' : b = e ∨ b = it := by simpa using hb
        rcases e' with z | z
        · rw [z]; exact hel
        · rw [z]; exact hil
      rw [upd_ne (Nat.ne_of_lt hb')]
      exact (hf b hb).1
  done := by
    intro X hP hw hK hc i pins s σ H E I hf st hg
    subst hP hw hK
    obtain ⟨⟨old, he⟩, hit, hne⟩ := st
    obtain ⟨xs, hq, hx⟩ := hg
    obtain ⟨its, rv, p, hz⟩ := I.tuple hq
    have p : s.heap.IsTuple a its.toArray := p
    obtain ⟨f0, f1, f2, f3, f4, f5⟩ := hf it (by simp)
    have hl := rv.length
    have ei : i = its.toArray.size := by simp; omega
    exact wpAny_pyNext_enum_endD (Draws.tuple (A := X.A.in1) (I.ok.hd hc) it a (tup_ne_iter p hit) its.toArray) he (by rw [← ei]; exact ⟨hit, p⟩) fun h' eb => ⟨rfl, I.turned (t' := s.toks) (fun b o hb q => eb b o hb q) f0 f1 f3 f4 f5⟩
  self := fun A i s Q E st h => let ⟨⟨_, he⟩, _⟩ := st; wpAny_pyIter_enum he h
def iEnumT (K : PySem.W.Frag) (ta : TA) : TI := fun σ H R => ta σ H fun vs H1 => ∃ a xs, vs = [.ref a] ∧ SqT K H1 a xs ∧ R (IteT K a) H1
theorem enumT {X : Cx} (K : PySem.W.Frag) {e : Expr} {ta : TA} {p pos tpos : Pos} {elts : List Expr} {kk : Nat} (hg : Gl X "enumerate") (hm : X.mg "enumerate" = none) (ha : PA X [e] ta) (hK : X.K = K := by rfl) (hs : starEach [e] X.env = [(false, eval e X.env)] := by rfl) :
    PI X (.Tuple elts kk tpos) (.Call (.Name "enumerate" p) [e] [] pos) (iEnumT K ta) := by
  subst hK
  refine ⟨fun pins s σ H R I h => ?_⟩
  refine Call_ (ld_blt I hg hm boot_enumerate (PyProof.Rows.callWith_type1 (thn (ha.run pos pins s σ H _ I h) fun us s1 ⟨vs, H1, I1, r1, q1⟩ => ?_) hs rfl))
  obtain ⟨a, xs, ex, hq, q⟩ := q1
  subst ex
  cases r1 with
  | cons r rr =>
    cases rr
    cases r
    obtain ⟨its, rv, p', hz⟩ := I1.tuple hq
    have p' : s1.heap.IsTuple a its.toArray := p'
    refine k47_call_enum (begins_tuple a its.toArray) p' fun h' he hit hsz hk => wpAny_pyIter_enum he ?_
    have I2 : Inv X pins σ H1 { s1 with heap := h' } := I1.kept (t' := s1.toks) hk
    refine ⟨s1.heap.objs.size + 1, [s1.heap.objs.size + 1, s1.heap.objs.size], _, _, H1, rfl, I2, turn_enumT a (s1.heap.objs.size + 1) s1.heap.objs.size, ⟨⟨.none, he⟩, ⟨_, hit, rfl, rfl⟩, Nat.succ_ne_self _⟩, fun b hb => ?_, q⟩
    have e' : b = s1.heap.objs.size + 1 ∨ b = s1.heap.objs.size := by simpa using hb
    have hle : s1.heap.objs.size ≤ b := by
      rcases e' with z | z
      · rw [z]; exact Nat.le_add_right _ _
      · rw [z]; exact Nat.le_refl _
    exact I1.fpOk hle (I1.hok.fresh hle)
/-- a loop over enumerate(tuple) -/
theorem for_enumT {K : PySem.W.Frag} {a : Addr} {xs : List V} {g : TG} {tb : TS} {D : Ends} {σ : L2.St} {H : Hp} (Pv : Nat → L2.St → Hp → Prop) (h0 : Pv 0 σ H) (hq : ∀ i σ H, i ≤ xs.length → Pv i σ H → SqT K H a xs)
    (hs : ∀ (i : Nat) (x : V) (T : Addr) (σ : L2.St) (H : Hp), xs[i]? = some x → Pv i σ H → H T = none → g (.ref T) σ (upd H T (.tup [.int (i : Nat), x])) fun σ2 H2 => tb { D with nx := Pv (i + 1), ct := Pv (i + 1), bk := D.nx } σ2 H2) (hd : ∀ σ H, Pv xs.length σ H → D.nx σ H) :
    ∃ W : Nat → Nat → L2.St → Hp → Prop, (∃ m, W 0 m σ H) ∧ ∀ i m σ H, W i m σ H →
      ((IteT K a).stop i H ∧ D.nx σ H) ∨ ((IteT K a).go i H ∧ ∃ N : L2.St → Hp → Prop, (∀ σ' H', N σ' H' → ∃ m', m' < m ∧ W (i + 1) m' σ' H') ∧ ∀ v H', (IteT K a).yld i H v H' → g v σ H' fun σ2 H2 => tb { D with nx := N, ct := N, bk := D.nx } σ2 H2) := by
  refine for_it (J := IteT K a) (n := xs.length) (G := fun H => SqT K H a xs) (Y := fun i H v H' => ∃ T x, v = .ref T ∧ H T = none ∧ H' = upd H T (.tup [.int (i : Nat), x]) ∧ xs[i]? = some x) ⟨fun i H hi h => ⟨xs, xs[i], h, by simp [hi]⟩, fun H h => ⟨xs, h, rfl⟩, fun i H x H' hi h y => ?_⟩ Pv h0 hq ?_ hd
  · obtain ⟨T, x', rfl, hT, rfl, f⟩ := y
    exact ⟨T, x', rfl, hT, rfl, f xs h⟩
  · rintro i x σ H H' hi p ⟨T, x', rfl, hT, rfl, f⟩
    exact hs i x' T σ H f p hT
/-! ### zip(tuple, list) -/
theorem lst_ne_iter {h : Heap} {a it : Addr} {i : Nat} {xs : Array Value} (p : h.IsList a xs) (q : h.IsListIter it a i) : a ≠ it := fun e => by
  subst e
  obtain ⟨o, ho, hc, _⟩ := p
  obtain ⟨o', ho', hc', _⟩ := q
  rw [ho] at ho'; cases ho'
  exact ty_ne (by decide) (hc.symm.trans hc')
/-- cells of two classes lie apart -/
theorem apart_of {h : Heap} {a b : Addr} {o o' : Obj} (p : h.get? a = some o) (q : h.get? b = some o') (n : o.cls ≠ o'.cls) : a ≠ b := fun e => by
  subst e
  rw [p] at q; cases q
  exact n rfl
def ItzTL (K : PySem.W.Frag) (a b : Addr) : It :=
  ⟨fun i H => ∃ (xs ys : List V) (x y : V), SqT K H a xs ∧ SqL K H b ys ∧ xs[i]? = some x ∧ ys[i]? = some y,
    fun i H v H' => ∃ T x y, v = .ref T ∧ H T = none ∧ H' = upd H T (.tup [x, y]) ∧ (∀ xs, SqT K H a xs → xs[i]? = some x) ∧ ∀ ys, SqL K H b ys → ys[i]? = some y,
    fun i H => ∃ xs ys : List V, SqT K H a xs ∧ SqL K H b ys ∧ xs.length = i ∧ ys.length = i⟩
structure ZipAp (z TI TO i1 i2 : Addr) : Prop where
  TIz : TI ≠ z
  TOz : TO ≠ z
  TITO : TI ≠ TO
  TIi1 : TI ≠ i1
  TIi2 : TI ≠ i2
  TOi1 : TO ≠ i1
  TOi2 : TO ≠ i2
  zi1 : z ≠ i1
  zi2 : z ≠ i2
  i12 : i1 ≠ i2
theorem zipSep {h : Heap} {z TI TO i1 i2 a b : Addr} {i : Nat} {xs ys : Array Value} {u v : Value} (A : ZipAp z TI TO i1 i2) (hz : IsZip h z TI TO .none) (hTI : IsTupOf2 h TI (.ref i1) (.ref i2)) (hTO : IsTupOf2 h TO u v)
    (h1 : h.IsTupleIter i1 a i) (h2 : h.IsListIter i2 b i) (ha : h.IsTuple a xs) (hb : h.IsList b ys) (nTO : TO ≠ a) : ZipSep2 z TI TO i1 i2 [i1, a] [i2, b] := by
  obtain ⟨oa, ea, ca, _⟩ := ha
  obtain ⟨ob, eb, cb, _⟩ := hb
  obtain ⟨o1, e1, c1, _⟩ := h1
  obtain ⟨o2, e2, c2, _⟩ := h2
  have hz' : h.get? z = some _ := hz
  have hTO' : h.get? TO = some _ := hTO
  have ca : oa.cls = .type "tuple" := ca
  have cb : ob.cls = .type "list" := cb
  have c1 : o1.cls = .type "tuple_iterator" := c1
  have c2 : o2.cls = .type "list_iterator" := c2
  have za : z ≠ a := apart_of hz' ea (by rw [ca]; exact ty_ne (by decide))
  have zb : z ≠ b := apart_of hz' eb (by rw [cb]; exact ty_ne (by decide))
  have Tb : TO ≠ b := apart_of hTO' eb (by rw [cb]; exact ty_ne (by decide))
  have i1b : i1 ≠ b := apart_of e1 eb (by rw [c1, cb]; exact ty_ne (by decide))
  have i2a : i2 ≠ a := apart_of e2 ea (by rw [c2, ca]; exact ty_ne (by decide))
  exact ⟨A.TIz, A.TOz, A.TITO, A.TIi1, by simp, by simp [A.zi1, za], by simp [A.TOi1, nTO], A.TIi2, by simp, by simp [A.zi2, zb], by simp [A.TOi2, Tb], by simp [A.i12, i1b], by simp [A.i12.symm, i2a]⟩
theorem turn_zipTL {P : Program} {w : World} {K : PySem.W.Frag} {elts : List Expr} {kk : Nat} {tpos : Pos} {a b z TI TO i1 i2 : Addr} (D : ZipAp z TI TO i1 i2) (nTO : TO ≠ a) :
    Turn P w K (.Tuple elts kk tpos) (ItzTL K a b) [z, TI, TO, i1, i2] z (fun i h => IsZip h z TI TO .none ∧ IsTupOf2 h TI (.ref i1) (.ref i2) ∧ (∃ x y, IsTupOf2 h TO x y) ∧ h.IsTupleIter i1 a i ∧ h.IsListIter i2 b i) where
  mem := by simp
  obj := fun i h st c hc => by
    obtain ⟨hz, hTI, ⟨x, y, hTO⟩, ⟨o1, e1, _, d1⟩, ⟨o2, e2, _, d2⟩⟩ := st
    have e' : c = z ∨ c = TI ∨ c = TO ∨ c = i1 ∨ c = i2 := by simpa using hc
    rcases e' with q | q | q | q | q
    · rw [q]; exact ⟨_, hz, fun v q => nomatch q⟩
    · rw [q]; exact ⟨_, hTI, fun v q => nomatch q⟩
    · rw [q]; exact ⟨_, hTO, fun v q => nomatch q⟩
    · rw [q]; exact ⟨o1, e1, fun v q => by rw [d1] at q; cases q⟩
    · rw [q]; exact ⟨o2, e2, fun v q => by rw [d2] at q; cases q⟩
  keep := fun i h h' st k => by
    obtain ⟨hz, hTI, ⟨x, y, hTO⟩, h1, h2⟩ := st
    exact ⟨k z (by simp) _ hz, k TI (by simp) _ hTI, ⟨x, y, k TO (by simp) _ hTO⟩, h1.at fun o q => k i1 (by simp) o q, h2.at fun o q => k i2 (by simp) o q⟩
  item := by
    intro X hP hw hK hc i pins s σ H E I hf st hg
    subst hP hw hK
    obtain ⟨hz, hTI, ⟨x0, y0, hTO⟩, h1, h2⟩ := st
    obtain ⟨xs, ys, x, y, hqx, hqy, hx, hy⟩ := hg
    obtain ⟨its, rv, p, _⟩ := I.tuple hqx
    obtain ⟨its2, rv2, p2, _⟩ := I.list hqy
    have p : s.heap.IsTuple a its.toArray := p
    have p2 : s.heap.IsList b its2.toArray := p2.isList
    obtain ⟨u, hu, ru⟩ := rv.get hx
    obtain ⟨u2, hu2, ru2⟩ := rv2.get hy
    have hzl : z < s.heap.objs.size := Heap.lt_size hz
    have l1 : i < its.toArray.size := by have := (List.getElem?_eq_some_iff.mp hu).1; simpa using this
    have l2 : i < its2.toArray.size := by have := (List.getElem?_eq_some_iff.mp hu2).1; simpa using this
    refine wpAny_pyNext_zipD2_item (zipSep D hz hTI hTO h1 h2 p p2 nTO) (Draws.tuple (A := X.A.in1) (I.ok.hd hc) i1 a (tup_ne_iter p h1) its.toArray) (Draws.list (A := X.A.in1) (I.ok.hd hc) i2 b (lst_ne_iter p2 h2) its2.toArray) hz hTI hTO ⟨h1, p⟩ ⟨h2, p2⟩ l1 l2 fun v1 v2 h' tk P1 P2 z' TO' h1' h2' hT hsz hk => ?_
    have P1 : its.toArray[i]? = some v1 := P1
    have P2 : its2.toArray[i]? = some v2 := P2
    obtain rfl : v1 = u := by
      have : its[i]? = some v1 := by simpa using P1
      rw [hu] at this
      exact (Option.some.inj this).symm
    obtain rfl : v2 = u2 := by
      have : its2[i]? = some v2 := by simpa using P2
      rw [hu2] at this
      exact (Option.some.inj this).symm
    refine ⟨_, rfl, wpAny_letOwnedTupleGo_zip (s := { s with heap := h', toks := tk }) z' fun h'' z'' sb => ?_⟩
    have hT2 : h''.get? s.heap.objs.size = some { cls := .type "tuple", data := .seq #[v1, v2] } := (sb.2 _ (Nat.ne_of_gt hzl)).trans hT
    have new : ObjOk X.prog X.w (upd H s.heap.objs.size (.tup [x, y])) h'' s.heap.objs.size (.tup [x, y]) :=
      ⟨by show 2 ≤ sizeLine; decide, [v1, v2], .cons ru (.cons ru2 .nil), ⟨_, hT2, rfl, _, rfl⟩⟩
    have I1 : Inv X pins σ (upd H s.heap.objs.size (.tup [x, y])) { s with heap := h'', toks := tk } :=
      I.turnedNew (t' := tk) (ch := [z, TI, TO, i1, i2]) (fun c o hb q => (sb.2 c (fun q' => hb (by simp [q']))).trans (hk c o (fun q' => hb (by simp [q'])) (fun q' => hb (by simp [q'])) (fun q' => hb (by simp [q'])) (fun q' => hb (by simp [q'])) q)) hf (Nat.le_refl _) new
    refine ⟨.ref s.heap.objs.size, _, I1, rfl, ⟨_, x, y, rfl, I.hok.fresh (Nat.le_refl _), rfl, fun l hl => by rw [I.tuple_inj hl hqx]; exact hx, fun l hl => by rw [I.list_inj hl hqy]; exact hy⟩, ⟨z'', ?_, ⟨v1, v2, ?_⟩, ?_, ?_⟩, fun c hcm => ?_⟩
    · exact (sb.2 _ D.TIz).trans (hk _ _ D.TIz D.TITO D.TIi1 D.TIi2 hTI)
    · exact (sb.2 _ D.TOz).trans TO'
    · exact h1'.1.at fun o q => (sb.2 _ D.zi1.symm).trans q
    · exact h2'.1.at fun o q => (sb.2 _ D.zi2.symm).trans q
    · have hlt : c < s.heap.objs.size := by
        have e' : c = z ∨ c = TI ∨ c = TO ∨ c = i1 ∨ c = i2 := by simpa using hcm
        rcases e' with q | q | q | q | q
        · rw [q]; exact hzl
        · rw [q]; exact Heap.lt_size hTI
        · rw [q]; exact Heap.lt_size hTO
        · rw [q]; obtain ⟨_, e1, _⟩ := h1; exact Heap.lt_size e1
        · rw [q]; obtain ⟨_, e2, _⟩ := h2; exact Heap.lt_size e2
      rw [upd_ne (Nat.ne_of_lt hlt)]
      exact (hf c hcm).1
  done := by
    intro X hP hw hK hc i pins s σ H E I hf st hg
    subst hP hw hK
    obtain ⟨hz, hTI, ⟨x0, y0, hTO⟩, h1, h2⟩ := st
    obtain ⟨xs, ys, hqx, hqy, e1, e2⟩ := hg
    obtain ⟨its, rv, p, _⟩ := I.tuple hqx
    obtain ⟨its2, rv2, p2, _⟩ := I.list hqy
    have p : s.heap.IsTuple a its.toArray := p
    have p2 : s.heap.IsList b its2.toArray := p2.isList
    have l1 := rv.length
    have l2 := rv2.length
    exact wpAny_pyNext_zipD2_end (zipSep D hz hTI hTO h1 h2 p p2 nTO) (Draws.tuple (A := X.A.in1) (I.ok.hd hc) i1 a (tup_ne_iter p h1) its.toArray) (Draws.list (A := X.A.in1) (I.ok.hd hc) i2 b (lst_ne_iter p2 h2) its2.toArray) hz hTI hTO ⟨h1, p⟩ ⟨h2, p2⟩ (by simp; omega) (by simp; omega) (by simp; omega) fun h' tk hk => ⟨rfl, I.turnedL (t' := tk) (ch := [z, TI, TO, i1, i2]) (fun c o hb q =>
      hk c o (fun q' => hb (by simp [q'])) (fun q' => hb (by simp [q'])) (fun q' => hb (by simp [q'])) (fun q' => hb (by simp [q'])) q) hf⟩
  self := fun A i s Q E st h => wpAny_pyIter_zip st.1 h
def iZipTL (K : PySem.W.Frag) (ta : TA) : TI := fun σ H R => ta σ H fun vs H1 => ∃ a b xs ys, vs = [.ref a, .ref b] ∧ SqT K H1 a xs ∧ SqL K H1 b ys ∧ R (ItzTL K a b) H1
theorem zipTL {X : Cx} (K : PySem.W.Frag) {e e2 : Expr} {ta : TA} {p pos tpos : Pos} {elts : List Expr} {kk : Nat} (hg : Gl X "zip") (hm : X.mg "zip" = none) (ha : PA X [e, e2] ta) (hK : X.K = K := by rfl)
    (hs : starEach [e, e2] X.env = (false, eval e X.env) :: starEach [e2] X.env := by rfl) (hpl : (backTo pos (starEach [e2] X.env)).any (·.1) = false := by rfl) :
    PI X (.Tuple elts kk tpos) (.Call (.Name "zip" p) [e, e2] [] pos) (iZipTL K ta) := by
  subst hK
  refine ⟨fun pins s σ H R I h => ?_⟩
  refine Call_ (ld_blt I hg hm PyProof.Rows.boot_zip (PyProof.Rows.callWith_type1 (thn (ha.run pos pins s σ H _ I h) fun us s1 ⟨vs, H1, I1, r1, q1⟩ => ?_) hs hpl))
  obtain ⟨a, b, xs, ys, ex, hqx, hqy, q⟩ := q1
  subst ex
  cases r1 with
  | cons r rr =>
    cases rr with
    | cons r' rr =>
      cases rr
      cases r
      cases r'
      obtain ⟨its, rv, p1, _⟩ := I1.tuple hqx
      obtain ⟨its2, rv2, p2, _⟩ := I1.list hqy
      have p1 : s1.heap.IsTuple a its.toArray := p1
      obtain ⟨o1, ho1, _⟩ := id p1
      refine zip_begins2 (begins_tuple a its.toArray) (begins_list b its2.toArray) p1 p2.isList fun h' hz hTI hTO h1 h2 hsz hk => wpAny_pyIter_zip hz ?_
      have I2 : Inv X pins σ H1 { s1 with heap := h' } := I1.kept (t' := s1.toks) hk
      have Dz := PySem.W.ktu_apart s1.heap.objs.size a b (Heap.lt_size ho1) p2.lt
      refine ⟨s1.heap.objs.size + 4, [s1.heap.objs.size + 4, s1.heap.objs.size + 2, s1.heap.objs.size + 3, s1.heap.objs.size, s1.heap.objs.size + 1], _, _, H1, rfl, I2, turn_zipTL ⟨Dz.TIz, Dz.TOz, Dz.TITO, Dz.TIi1, Dz.TIi2, Dz.TOi1, Dz.TOi2, Dz.i1z.symm, Dz.i2z.symm, Dz.i12⟩ Dz.l1TO.symm, ⟨hz, hTI, ⟨_, _, hTO⟩, ⟨_, h1, rfl, rfl⟩, ⟨_, h2, rfl, rfl⟩⟩, fun c hcm => ?_, q⟩
      · have e' : c = s1.heap.objs.size + 4 ∨ c = s1.heap.objs.size + 2 ∨ c = s1.heap.objs.size + 3 ∨ c = s1.heap.objs.size ∨ c = s1.heap.objs.size + 1 := by simpa using hcm
        have hle : s1.heap.objs.size ≤ c := by
          rcases e' with z | z | z | z | z
          · rw [z]; exact Nat.le_add_right _ _
          · rw [z]; exact Nat.le_add_right _ _
          · rw [z]; exact Nat.le_add_right _ _
          · rw [z]; exact Nat.le_refl _
          · rw [z]; exact Nat.le_add_right _ _
        exact I1.fpOk hle (I1.hok.fresh hle)
theorem for_zipTL {K : PySem.W.Frag} {a b : Addr} {xs ys : List V} {g : TG} {tb : TS} {D : Ends} {σ : L2.St} {H : Hp} (hl : xs.length = ys.length) (Pv : Nat → L2.St → Hp → Prop) (h0 : Pv 0 σ H) (hq : ∀ i σ H, i ≤ xs.length → Pv i σ H → SqT K H a xs ∧ SqL K H b ys)
    (hs : ∀ (i : Nat) (x y : V) (T : Addr) (σ : L2.St) (H : Hp), xs[i]? = some x → ys[i]? = some y → Pv i σ H → H T = none → g (.ref T) σ (upd H T (.tup [x, y])) fun σ2 H2 => tb { D with nx := Pv (i + 1), ct := Pv (i + 1), bk := D.nx } σ2 H2) (hd : ∀ σ H, Pv xs.length σ H → D.nx σ H) :
    ∃ W : Nat → Nat → L2.St → Hp → Prop, (∃ m, W 0 m σ H) ∧ ∀ i m σ H, W i m σ H →
      ((ItzTL K a b).stop i H ∧ D.nx σ H) ∨ ((ItzTL K a b).go i H ∧ ∃ N : L2.St → Hp → Prop, (∀ σ' H', N σ' H' → ∃ m', m' < m ∧ W (i + 1) m' σ' H') ∧ ∀ v H', (ItzTL K a b).yld i H v H' → g v σ H' fun σ2 H2 => tb { D with nx := N, ct := N, bk := D.nx } σ2 H2) := by
  refine for_it (J := ItzTL K a b) (n := xs.length) (G := fun H => SqT K H a xs ∧ SqL K H b ys) (Y := fun i H v H' => ∃ T x y, v = .ref T ∧ H T = none ∧ H' = upd H T (.tup [x, y]) ∧ xs[i]? = some x ∧ ys[i]? = some y) ⟨fun i H hi h => ⟨xs, ys, xs[i], ys[i]'(by omega), h.1, h.2, by simp [hi], by simp⟩, fun H h => ⟨xs, ys, h.1, h.2, rfl, hl.symm⟩, fun i H x H' hi h y => ?_⟩ Pv h0 hq ?_ hd
  · obtain ⟨T, x', y', rfl, hT, rfl, f1, f2⟩ := y
    exact ⟨T, x', y', rfl, hT, rfl, f1 xs h.1, f2 ys h.2⟩
  · rintro i x σ H H' hi p ⟨T, x', y', rfl, hT, rfl, f1, f2⟩
    exact hs i x' y' T σ H f1 f2 p hT
end R
set_option maxHeartbeats 4000000
namespace R
open PySem PySem.Spec PyProof.Rows L2
/-- the ends of a road -/
def endsD (r : Road) : PyData := strsT [r.2.1, r.2.2]
theorem ends_parts {K : PySem.W.Frag} {H : Hp} {v : V} {r : Road} (h : Dp K H v (endsD r)) : ∃ a, v = .ref a ∧ SqT K H a [.str r.2.1, .str r.2.2] := by
  obtain ⟨a, xs, rfl, h1, h2⟩ := h.tupI
  have e : xs = [V.str r.2.1, V.str r.2.2] := DpAll.strs (l := [r.2.1, r.2.2]) h2
  subst e
  exact ⟨a, rfl, h1⟩
/-- the roads in the order of the rota -/
theorem roads_of_names {W : Web} : ∀ {l : List Str}, (∀ x ∈ l, x ∈ W.names) → ∃ rds : List Road, rds.map (·.1) = l ∧ ∀ r ∈ rds, r ∈ W.R
  | [], _ => ⟨[], rfl, by simp⟩
  | x :: l, h => by
    obtain ⟨rds, e, m⟩ := roads_of_names (l := l) fun y hy => h y (List.mem_cons_of_mem _ hy)
    obtain ⟨r, hr, hx⟩ := List.mem_map.mp (h x List.mem_cons_self)
    refine ⟨r :: rds, by rw [List.map_cons, e, hx], fun s hs => ?_⟩
    rcases List.mem_cons.mp hs with rfl | hs
    · exact hr
    · exact m s hs
theorem RotaOf.roads {W : Web} {rt : List Str} (hw : Wf W) (h : RotaOf W rt) : ∃ rds : List Road, rds.map (·.1) = rt ∧ (∀ r ∈ rds, r ∈ W.R) ∧ ∀ r ∈ W.R, r ∈ rds := by
  obtain ⟨rds, e, m⟩ := roads_of_names (W := W) (l := rt) fun x hx => h.perm.mem_iff.mp hx
  refine ⟨rds, e, m, fun r hr => ?_⟩
  have : r.1 ∈ rds.map (·.1) := by rw [e]; exact h.mem hr
  obtain ⟨s, hs, es⟩ := List.mem_map.mp this
  rw [← name_inj hw (m s hs) hr es]
  exact hs
theorem zip_take {α β : Type} {b : β} : ∀ {i : Nat} {l : List α} {ys : List β}, ys.length = i → (l.zip (ys ++ [b])).take i = (l.zip ys).take i
  | 0, _, _, _ => rfl
  | i + 1, [], _, _ => by simp
  | i + 1, x :: l, [], h => by cases h
  | i + 1, x :: l, y :: ys, h => by
    rw [List.cons_append, List.zip_cons_cons, List.zip_cons_cons, List.take_succ_cons, List.take_succ_cons, zip_take (by simpa using h)]
section
variable {P : Program} {w : World} {K : PySem.W.Frag} {mg : Str → Option Value} {base : Heap}
/-- the dict of the roads' ends -/
def EndsAt (K : PySem.W.Frag) (H : Hp) (D : Addr) (W : Web) : Prop := ∃ f : List (Str × V), H D = some (.dK (kvF (fun v : V => v) f)) ∧ ∀ rd ∈ W.R, ∃ v, lk f rd.1 = some v ∧ Dp K (wo H D) v (endsD rd)
theorem EndsAt.mono {H H' : Hp} {D : Addr} {W : Web} (h : EndsAt K H D W) (e : Same H H') : EndsAt K H' D W := by
  obtain ⟨f, h1, h2⟩ := h
  exact ⟨f, e _ _ h1, fun rd hm => let ⟨v, a, b⟩ := h2 rd hm; ⟨v, a, b.mono (wo_mono e)⟩⟩
def sp_ends_by_road (K : PySem.W.Frag) : Sp := fun vs H Q _ => ∃ v W, vs = [v] ∧ WebAt K H v W ∧ Wf W ∧ ∀ H' D, Same H H' → H D = none → EndsAt K H' D W → Q (.ref D) H'
theorem ok_ends_by_road (F : DefAt K mg "ends_by_road" s_ends_by_road ["web"]) : Ok P w K mg base CX0 1 "ends_by_road" ["web"] (sp_ends_by_road K) := by
  refine ok_of F sc_ends_by_road (fun vs H Q E h => by obtain ⟨_, _, rfl, _⟩ := h; rfl) fun f cdv A outer s H vs Q E hr h => ?_
  obtain ⟨v, W, rfl, hv, hw, q⟩ := h
  refine ⟨_, (pss_one (as_ret (pe_dc (own := [("name", 1), ("one", 2), ("other", 3)]) (g := (gTup K 3 (gCons (gName 1) (gCons (gName 2) (gCons (gName 3) gNil))))) (tt := tYes) rfl sc_ends_by_road.nd (piT K (ae_ix (ixT K) (av 0) ae_int (fun _ _ => rfl))) (blkOk_by (own := [("name", 1), ("one", 2), ("other", 3)]) (N := n_ends_by_road) (sc := (defScope s_ends_by_road)) (by decide +kernel)) (fun _ _ _ _ _ => (pgT K rfl (pgs_cons (pg_name (i := 1) sc_ends_by_road.nd rfl (Or.inl rfl)) (pgs_cons (pg_name (i := 2) sc_ends_by_road.nd rfl (Or.inl rfl)) (pgs_cons (pg_name (i := 3) sc_ends_by_road.nd rfl (Or.inl rfl)) pgs_nil))))) (fun _ _ _ _ _ => pts_nil) (fun _ _ _ _ _ => (av 1)) (fun _ _ _ _ _ => (ae_tup (aa_cons (av 2) (aa_cons (av 3) aa_nil))))))), ?_⟩
  obtain ⟨a, pp, r, rs, rfl, hA, hP, hR, hrs⟩ := hv.parts
  refine ⟨_, rfl, a, _, _, _, rfl, rfl, hA, ix1, r, rfl, ⟨_, hR⟩, fun D hD => ?_⟩
  refine dc_tup (K := K) (a := r) (xs := rs) (fun i H' => Same H H' ∧ ∃ ys, H' D = some (.dK (kvF (fun v : V => v) ((W.names.zip ys).take i))) ∧ ys.length = i ∧ DpAll K (wo H' D) ys ((W.R.map endsD).take i)) ⟨Same.new hD, [], upd_same, rfl, .nil⟩ (fun i H' _ h => h.1.seqT hR) ?_ ?_
  · rintro i y H' hy ⟨s1, ys, hd, hl, hda⟩
    obtain ⟨dd, hd1, hd2⟩ := hrs.get' hy
    obtain ⟨rd, e1, rfl⟩ := at_map hd1
    obtain ⟨b, rfl, hb⟩ := road_parts (hd2.mono s1)
    have en : W.names[i]? = some rd.1 := map_at e1
    have hi : i < W.names.length := (List.getElem?_eq_some_iff.mp en).1
    have hnl : W.names.length ≤ 100 := by unfold Web.names; rw [List.length_map]; exact hv.rl
    refine ⟨b, _, rfl, hb, rfl, _, _, rfl, _, _, rfl, _, _, rfl, rfl, rfl, ?_⟩
    refine ⟨_, rfl, _, rfl, _, rfl, by show 2 ≤ sizeLine; decide, fun p hp => ?_⟩
    have pD : D ≠ p := ne_of_none hd hp
    refine ⟨_, Sum.inr rd.1, rfl, by rw [upd_ne pD]; exact hd, ?_, (s1.trans (Same.new hp)).over hD, ys ++ [.ref p], ?_, by rw [List.length_append, hl]; rfl, ?_⟩
    · rw [kvF_len, List.length_take]
      refine small_ (m := 100) (Nat.le_trans (Nat.min_le_right _ _) ?_)
      rw [List.length_zip]
      exact Nat.le_trans (Nat.min_le_left _ _) hnl
    · rw [upd_same]
      have ez : (W.names.zip (ys ++ [V.ref p]))[i]? = some (rd.1, V.ref p) := by rw [List.getElem?_zip_eq_some]; exact ⟨en, by rw [← hl]; simp⟩
      have et : (W.names.zip (ys ++ [V.ref p])).take i = (W.names.zip ys).take i := by
        exact zip_take hl
      rw [List.take_add_one, ez, et]
      refine congrArg (fun z => some (HO.dK z)) (kvF_put (fun v : V => v) _ _ _ ?_)
      rw [lk_none]
      intro k
      rw [List.map_take, ] at k
      obtain ⟨j, hj⟩ := List.getElem?_of_mem k
      rw [List.getElem?_take] at hj
      split at hj
      · rename_i hji
        rw [List.getElem?_map] at hj
        obtain ⟨⟨n1, v1⟩, h1, h2⟩ := Option.map_eq_some_iff.mp hj
        have h1 := (List.getElem?_zip_eq_some.mp h1).1
        have h2 : n1 = rd.1 := h2
        subst h2
        have := nd_ix hw.nn h1 en
        omega
      · cases hj
    · rw [wo_upd, List.take_add_one, map_at e1]
      refine (hda.mono (wo_new hp pD.symm)).snoc ?_
      refine .tup (xs := [.str rd.2.1, .str rd.2.2]) (SqT.at ?_) (DpAll.ofStrs [rd.2.1, rd.2.2])
      rw [wo_ne pD.symm, upd_same]
  · rintro H1 ⟨s1, ys, hd, hl, hda⟩
    refine q H1 D s1 hD ⟨_, hd, fun rd hm => ?_⟩
    have hlen : rs.length = W.R.length := by rw [hrs.length, List.length_map]
    rw [hlen] at hl
    rw [List.take_of_length_le (by rw [List.length_zip]; omega)]
    rw [hlen, List.take_of_length_le (by rw [List.length_map]; exact Nat.le_refl _)] at hda
    have pr : ∀ {l : List Road} {vs : List V}, DpAll K (wo H1 D) vs (l.map endsD) → Paired (fun r v => Dp K (wo H1 D) v (endsD r)) l vs := by
      intro l
      induction l with
      | nil => intro vs h; cases h; exact .nil
      | cons r l ih => intro vs h; cases h with | cons h1 h2 => exact .cons h1 (ih h2)
    exact zip_lk (key := fun r : Road => r.1) (R := fun r v => Dp K (wo H1 D) v (endsD r)) hw.nn (pr hda) hm
end
end R
set_option maxHeartbeats 4000000
namespace R
open PySem PySem.Spec PyProof.Rows L2
/-! ### sets of places, as dicts of True -/
def uT (_ : Unit) : V := V.bl true
def addU (f : List (Str × Unit)) (x : Str) : List (Str × Unit) := if lk f x = none then f ++ [(x, ())] else f
theorem put_same {β : Type} {g : β → V} {b : β} {x : Str} : ∀ {f : List (Str × β)}, (∀ c, g c = g b) → lk f x ≠ none → putK (kvF g f) (Sum.inr x) (g b) = kvF g f := by
  intro f hg h
  have e : (kvF g f).any (fun kv => decide (kv.1 = (Sum.inr x : Key))) = true := by rw [valV_any, valV_kvF]; cases h' : lk f x with
    | none => exact absurd h' h
    | some c => rfl
  unfold putK
  rw [if_pos e]
  unfold kvF
  rw [List.map_map]
  refine List.map_congr_left fun p _ => ?_
  show (if (Sum.inr p.1 : Key) = Sum.inr x then (Sum.inr p.1, g b) else (Sum.inr p.1, g p.2)) = (Sum.inr p.1, g p.2)
  rw [hg p.2]
  split <;> rfl
theorem put_addU (f : List (Str × Unit)) (x : Str) : putK (kvF uT f) (Sum.inr x) (.bl true) = kvF uT (addU f x) := by
  unfold addU
  by_cases h : lk f x = none
  · rw [if_pos h]; exact kvF_put uT f x () h
  · rw [if_neg h]; exact put_same (g := uT) (b := ()) (fun _ => rfl) h
theorem keys_addU (f : List (Str × Unit)) (x y : Str) : y ∈ (addU f x).map (·.1) ↔ y ∈ f.map (·.1) ∨ y = x := by
  unfold addU
  by_cases h : lk f x = none
  · rw [if_pos h]; simp
  · rw [if_neg h]
    constructor
    · exact .inl
    · rintro (h' | rfl)
      · exact h'
      · exact Classical.byContradiction fun k => h (lk_none.mpr k)
theorem nd_addU {f : List (Str × Unit)} {x : Str} (h : (f.map (·.1)).Nodup) : ((addU f x).map (·.1)).Nodup := by
  unfold addU
  by_cases e : lk f x = none
  · rw [if_pos e, List.map_append]; exact nd_snoc h (lk_none.mp e)
  · rw [if_neg e]; exact h
theorem ext_addU (f : List (Str × Unit)) (x : Str) : ∃ g, addU f x = f ++ g := by
  unfold addU
  split
  · exact ⟨_, rfl⟩
  · exact ⟨[], (List.append_nil _).symm⟩
theorem some_iff {β : Type} {f : List (Str × β)} {x : Str} {g : β → V} : ((lk f x).map g).isSome = decide (x ∈ f.map (·.1)) := by
  cases h : lk f x with
  | none => rw [decide_eq_false (lk_none.mp h)]; rfl
  | some b => rw [decide_eq_true (List.mem_map.mpr ⟨_, lk_some_mem h, rfl⟩)]; rfl
/-- f holds what the search may hold -/
structure UInv (W : Web) (p : Str) (f : List (Str × Unit)) : Prop where
  nd : (f.map (·.1)).Nodup
  sub : ∀ x ∈ f.map (·.1), x ∈ W.P
  head : p ∈ f.map (·.1)
theorem UInv.len {W : Web} {p : Str} {f : List (Str × Unit)} (b : UInv W p f) : f.length ≤ W.P.length := by
  have := length_le_of_nodup_sub b.nd b.sub
  rwa [List.length_map] at this
theorem UInv.add {W : Web} {p x : Str} {f : List (Str × Unit)} (b : UInv W p f) (hx : x ∈ W.P) : UInv W p (addU f x) where
  nd := nd_addU b.nd
  sub := fun y hy => ((keys_addU f x y).mp hy).elim (b.sub y) fun e => e ▸ hx
  head := (keys_addU f x p).mpr (.inl b.head)
/-- shut: whoever is tied to one within is within -/
def Shut (W : Web) (f : List (Str × Unit)) : Prop := ∀ r ∈ W.R, (r.2.1 ∈ f.map (·.1) ∨ r.2.2 ∈ f.map (·.1)) → r.2.1 ∈ f.map (·.1) ∧ r.2.2 ∈ f.map (·.1)
theorem UInv.all {W : Web} {d : Str → Str → Nat} {p : Str} {f : List (Str × Unit)} (T : TreeD W d) (hp : p ∈ W.P) (b : UInv W p f) (hs : Shut W f) : ∀ x ∈ W.P, x ∈ f.map (·.1) := by
  have all : ∀ k x, x ∈ W.P → d p x = k → x ∈ f.map (·.1) := by
    intro k
    induction k with
    | zero => intro x hx e; rw [← (T.zero p hp x hx).mp e]; exact b.head
    | succ k ih =>
      intro x hx e
      have ne : p ≠ x := fun z => by
        rw [(T.zero p hp x hx).mpr z] at e; cases e
      obtain ⟨r, hr, hi, q⟩ := T.next p hp x hx ne
      have hy := ih (otherEnd r x) (T.other hr) (by omega)
      rcases otherEnd_or hi with ⟨h1, h2⟩ | ⟨h1, h2⟩
      · rw [h2] at hy; rw [h1]; exact (hs r hr (.inr hy)).1
      · rw [h2] at hy; rw [h1]; exact (hs r hr (.inl hy)).2
  exact fun x hx => all _ x hx rfl
theorem UInv.full {W : Web} {d : Str → Str → Nat} {p : Str} {f : List (Str × Unit)} (T : TreeD W d) (hp : p ∈ W.P) (b : UInv W p f) (hs : Shut W f) : f.length = W.P.length := by
  refine Nat.le_antisymm b.len ?_
  have := length_le_of_nodup_sub (m := f.map (·.1)) T.nd (b.all T hp hs)
  rwa [List.length_map] at this
section
variable {P : Program} {w : World} {K : PySem.W.Frag} {mg : Str → Option Value} {base : Heap}
/-- the week's one round -/
theorem week_parts {H : Hp} {u : V} {rt : List Str} (h : Dp K H u (weekD rt)) : ∃ b c, u = .ref b ∧ SqT K H b [.ref c] ∧ SqT K H c (rt.map V.str) := by
  obtain ⟨b, xs, rfl, h1, h2⟩ := h.tupI
  cases h2 with
  | cons e1 h2 =>
    cases h2
    obtain ⟨c, ys, rfl, h3, h4⟩ := e1.tupI
    rw [h4.strs] at h3
    exact ⟨b, c, rfl, h1, h3⟩
def sp_news_places (K : PySem.W.Frag) : Sp := fun vs H Q _ => ∃ v u W d rt p, vs = [v, u, .str p] ∧ WebAt K H v W ∧ TreeD W d ∧ RotaOf W rt ∧ Dp K H u (weekD rt) ∧ p ∈ W.P ∧ ∀ H' D kvs, Same H H' → H' D = some (.dK kvs) → kvs.length = W.P.length → Q (.ref D) H'
theorem ok_news_places (F : DefAt K mg "news_places" s_news_places ["web", "week", "place"]) (B : Blt mg) (G_ends_by_road : Ok P w K mg base CX0 1 "ends_by_road" ["web"] (sp_ends_by_road K)) : Ok P w K mg base CX0 2 "news_places" ["web", "week", "place"] (sp_news_places K) := by
  refine ok_of F sc_news_places (fun vs H Q E h => by obtain ⟨_, _, _, _, _, _, rfl, _⟩ := h; rfl) fun f cdv A outer s H vs Q E hr h => ?_
  obtain ⟨v, u, W, d, rt, p, rfl, hv, T, hR, hu, hp, q⟩ := h
  refine ⟨_, (ass_cons (as_set (i := 3) sc_news_places.nd rfl (Or.inr rfl) (ae_co G_ends_by_road hr pass0 (aa_cons (av 0) aa_nil)))
    (ass_cons (ps_setLc2 (i := 4) (own := [("row", 9), ("road", 10)]) (g := (gName 9)) (g1 := (gName 10)) (vs1 := [10]) (tt := tYes) (tt1 := tYes) rfl sc_news_places.nd rfl rfl (sw_true rfl rfl rfl (by decide +kernel)) (piT K (av 1)) (blkOk_by (own := [("row", 9), ("road", 10)]) (N := n_news_places) (sc := (defScope s_news_places)) (by decide +kernel)) (by decide) (fun _ _ _ _ _ => (pg_name (i := 9) sc_news_places.nd rfl (Or.inl rfl))) (fun _ _ _ _ _ => pts_nil) (fun _ _ _ _ _ => (piT K (av 9))) (fun _ _ _ _ _ => (pg_name (i := 10) sc_news_places.nd rfl (Or.inl rfl))) (fun _ _ _ _ _ => pts_nil) (fun _ _ _ _ _ => (ae_dget (hu_of hr) (av 3) (av 10) (fun _ _ => rfl))))
    (ass_cons (as_set (i := 5) sc_news_places.nd rfl (Or.inl rfl) (pe_disp (pps_cons (av 2) ae_bl pps_nil) (by rfl) (by rfl) (fun z => by cases z) (by decide)))
    (ass_cons (as_set (i := 6) sc_news_places.nd rfl (Or.inl rfl) ae_int)
    (ass_cons (ps_while PassesOwn.never (at_cmpR op_gt (ae_callB call_lenD (by rfl) B.len_ PySem.boot_len (aa_cons (av 5) aa_nil)) (av 6) (nomark _))
      (ass_cons (as_set (i := 6) sc_news_places.nd rfl (Or.inl rfl) (ae_callB call_lenD (by rfl) B.len_ PySem.boot_len (aa_cons (av 5) aa_nil)))
      (pss_one (ps_for PassesOwn.never rfl (piL K (av 4)) (pgT K rfl (pgs_cons (pg_name (i := 7) sc_news_places.nd rfl (Or.inl rfl)) (pgs_cons (pg_name (i := 8) sc_news_places.nd rfl (Or.inl rfl)) pgs_nil)))
        (pss_one (as_if (PW.pt (aw_or (at_cmp (ac_din (hu_of hr) (av 7) (av 5))) (pw_or1 (at_cmp (ac_din (hu_of hr) (av 8) (av 5))))))
          (ass_cons (as_dput (hu_of hr) (av 5) (av 7) ae_bl rfl)
          (pss_one (as_dput (hu_of hr) (av 5) (av 8) ae_bl rfl)))
          ass_nil))))))
    (pss_one (as_ret (av 5)))))))), ?_⟩
  obtain ⟨b, c, rfl, hb, hc⟩ := week_parts hu
  obtain ⟨rds, erd, m1, m2⟩ := hR.roads T.toWf
  have rl : rt.length ≤ 100 := by rw [hR.len]; exact hv.rl
  have rdl : rds.length = rt.length := by rw [← erd, List.length_map]
  -- ends
  refine ⟨_, rfl, _, W, rfl, hv, T.toWf, fun H1 De s1 nDe hE => ?_⟩
  -- walked
  have hb1 := s1.seqT hb
  have hc1 := s1.seqT hc
  refine ⟨_, rfl, b, rfl, ⟨_, hb1⟩, fun L hL => ?_⟩
  let Dn : Hp → Prop := fun H' => Same H1 H' ∧ ∃ ys, H' L = some (.lst ys) ∧ DpAll K (wo H' L) ys (rds.map endsD)
  refine ⟨fun i m H' => (i = 0 ∧ m = 1 ∧ H' = upd H1 L (.lst [])) ∨ (i = 1 ∧ m = 0 ∧ Dn H'), ⟨1, .inl ⟨rfl, rfl, rfl⟩⟩, ?_⟩
  have sL : Same H1 (upd H1 L (.lst [])) := Same.new hL
  rintro i m H' (⟨rfl, rfl, rfl⟩ | ⟨rfl, rfl, hdn⟩)
  · refine .inr ⟨⟨[.ref c], .ref c, sL.seqT hb1, rfl⟩, Dn, fun H' h => ⟨0, by decide, .inr ⟨rfl, rfl, h⟩⟩, fun x H' y => ?_⟩
    obtain ⟨rfl, y⟩ := y
    have y := y _ (sL.seqT hb1)
    cases y
    refine ⟨rfl, ?_⟩
    refine ⟨_, rfl, c, rfl, ⟨_, sL.seqT hc1⟩, ?_⟩
    refine lc_tupD (K := K) (a := c) (xs := rt.map V.str) (rds.map endsD) hL hc1 (by rw [List.length_map, List.length_map, rdl]) (by rw [List.length_map]; omega) ?_ ?_
    · intro i x e H2 acc Q2 u1 hL2 hx he k
      obtain ⟨rd, hrd, rfl⟩ := at_map he
      have ex : x = .str rd.1 := by
        rw [← erd, List.map_map, List.getElem?_map, hrd] at hx
        cases hx; rfl
      subst ex
      obtain ⟨g, hg1, hg2⟩ := hE.mono u1
      obtain ⟨v2, hv1, hv2⟩ := hg2 rd (m1 rd (mem_at hrd))
      have dg := dgetF (g := fun v : V => v) (x := rd.1) hg1
      rw [hv1] at dg
      refine ⟨rfl, _, rfl, _, rfl, De, _, rfl, dg, ?_⟩
      exact k _ H2 (Same.refl _) (dp_sameT (sameT_wo hL2) (hv2.mono wo_same) (tup_strsT _))
    · exact fun H2 ys u1 hy hda => ⟨u1, ys, hy, hda⟩
  · refine .inl ⟨⟨_, hdn.1.seqT hb1, Nat.le_refl _⟩, ?_⟩
    obtain ⟨s2, ys, hy, hda⟩ := hdn
    -- found = {place: True}
    refine fun D hD => ⟨_, rfl, upd_same, [(.inr p, .bl true)], rfl, by show 1 ≤ 15; decide, ?_⟩
    rw [upd_upd]
    have sD : Same H' (upd H' D (.dK (mergeK [] [(Sum.inr p, V.bl true)]))) := Same.new hD
    -- before = 0
    refine ⟨fun m σ H2 => ∃ (g : List (Str × Unit)) (bf : Nat) (y7 y8 : Option V), σ = [some v, some (.ref b), some (.str p), some (.ref De), some (.ref L), some (.ref D), some (.int bf), y7, y8, none, none] ∧ Same H' H2 ∧ H2 D = some (.dK (kvF uT g)) ∧ UInv W p g ∧ bf ≤ g.length ∧ (g.length = bf → Shut W g) ∧ m = W.P.length - bf,
      ⟨_, [(p, ())], 0, none, none, rfl, sD, upd_same, ⟨by simp, by simp [hp], by simp⟩, Nat.zero_le _, (fun e => by cases e), rfl⟩, ?_⟩
    rintro m σ H2 ⟨g, bf, y7, y8, rfl, s3, hd, hI, hbf, hsh, rfl⟩
    refine ⟨_, rfl, D, _, rfl, hd, _, rfl, _, _, rfl, rfl, _, rfl, ?_⟩
    rw [kvF_len, nat_lt_int]
    refine ite2 (fun c1 => ?_) (fun c1 => ?_)
    · have c1 := of_decide_eq_true c1
      have hgl := hI.len
      refine ⟨fun σ' H3 => ∃ (g' : List (Str × Unit)) (y7 y8 : Option V), σ' = [some v, some (.ref b), some (.str p), some (.ref De), some (.ref L), some (.ref D), some (.int (g.length : Nat)), y7, y8, none, none] ∧ Same H' H3 ∧ H3 D = some (.dK (kvF uT g')) ∧ UInv W p g' ∧ g.length ≤ g'.length ∧ (g'.length = g.length → Shut W g'), ?_, ?_⟩
      · rintro σ' H3 ⟨g', z7, z8, rfl, a1, a2, a3, a4, a5⟩
        exact ⟨_, (by omega : W.P.length - g.length < W.P.length - bf), g', g.length, z7, z8, rfl, a1, a2, a3, a4, a5, rfl⟩
      -- before = len(found)
      refine ⟨_, rfl, D, _, rfl, hd, ?_⟩
      rw [kvF_len]
      have hL3 : H2 L = some (.lst ys) := s3 _ _ hy
      refine ⟨_, rfl, L, rfl, ⟨_, SqL.at hL3⟩, ?_⟩
      have hyl : ys.length = rds.length := by rw [hda.length, List.length_map]
      refine for_list (K := K) (a := L) (xs := ys) (fun i σ' H3 => ∃ (g' gx : List (Str × Unit)) (y7 y8 : Option V), σ' = [some v, some (.ref b), some (.str p), some (.ref De), some (.ref L), some (.ref D), some (.int (g.length : Nat)), y7, y8, none, none] ∧ Same H' H3 ∧ H3 D = some (.dK (kvF uT g')) ∧ UInv W p g' ∧ g' = g ++ gx ∧
          ∀ j rd, j < i → rds[j]? = some rd → (rd.2.1 ∈ g.map (·.1) ∨ rd.2.2 ∈ g.map (·.1)) → rd.2.1 ∈ g'.map (·.1) ∧ rd.2.2 ∈ g'.map (·.1))
        ⟨g, [], y7, y8, rfl, s3, hd, hI, (List.append_nil _).symm, fun j rd hj => by omega⟩ (fun i σ' H3 _ h => by obtain ⟨_, _, _, _, _, s, _⟩ := h; exact s.seq (SqL.at hy)) ?_ ?_
      · rintro i x σ' H3 hx ⟨g', gx, z7, z8, rfl, s4, hd4, hI4, hgx, hc4⟩
        obtain ⟨e, he1, he2⟩ := hda.get' hx
        obtain ⟨rd, hrd, rfl⟩ := at_map he1
        obtain ⟨eb, rfl, heb⟩ := ends_parts ((he2.mono wo_same).mono s4)
        have hm := m1 rd (mem_at hrd)
        obtain ⟨p1, p2⟩ := T.ends rd hm
        refine ⟨eb, _, rfl, heb, rfl, _, _, rfl, _, _, rfl, rfl, ?_⟩
        have old : ∀ {y}, y ∈ g.map (·.1) → y ∈ g'.map (·.1) := fun h => by rw [hgx, List.map_append]; exact List.mem_append_left _ h
        -- add both
        have put : ∀ (D' : Ends), (∀ H4, Same H' H4 → H4 D = some (.dK (kvF uT (addU (addU g' rd.2.1) rd.2.2))) → D'.nx [some v, some (.ref b), some (.str p), some (.ref De), some (.ref L), some (.ref D), some (.int (g.length : Nat)), some (.str rd.2.1), some (.str rd.2.2), none, none] H4) →
            aSeq (aDPut (aVar 5) (aVar 7) (aC (.bl true))) (aDPut (aVar 5) (aVar 8) (aC (.bl true))) D' [some v, some (.ref b), some (.str p), some (.ref De), some (.ref L), some (.ref D), some (.int (g.length : Nat)), some (.str rd.2.1), some (.str rd.2.2), none, none] H3 := by
          intro D' k
          refine ⟨_, rfl, _, rfl, D, _, rfl, DPut.k (k := Sum.inr rd.2.1) hd4 ?_, ?_⟩
          · rw [kvF_len]; exact small_ (m := 100) (Nat.le_trans hI4.len hv.pl)
          rw [put_addU]
          have hI5 := hI4.add p1
          refine ⟨_, rfl, _, rfl, D, _, rfl, DPut.k (k := Sum.inr rd.2.2) upd_same ?_, ?_⟩
          · rw [kvF_len]; exact small_ (m := 100) (Nat.le_trans hI5.len hv.pl)
          rw [put_addU, upd_upd]
          exact k _ (s4.over hD) upd_same
        have fin : ∀ H4, Same H' H4 → H4 D = some (.dK (kvF uT (addU (addU g' rd.2.1) rd.2.2))) → ∃ (g' gx : List (Str × Unit)) (y7 y8 : Option V), [some v, some (V.ref b), some (.str p), some (.ref De), some (.ref L), some (.ref D), some (.int (g.length : Nat)), some (.str rd.2.1), some (.str rd.2.2), none, none] = [some v, some (.ref b), some (.str p), some (.ref De), some (.ref L), some (.ref D), some (.int (g.length : Nat)), y7, y8, none, none] ∧ Same H' H4 ∧ H4 D = some (.dK (kvF uT g')) ∧ UInv W p g' ∧ g' = g ++ gx ∧
          ∀ j rd, j < i + 1 → rds[j]? = some rd → (rd.2.1 ∈ g.map (·.1) ∨ rd.2.2 ∈ g.map (·.1)) → rd.2.1 ∈ g'.map (·.1) ∧ rd.2.2 ∈ g'.map (·.1) := by
          intro H4 s5 hd5
          obtain ⟨g1, e1⟩ := ext_addU g' rd.2.1
          obtain ⟨g2, e2⟩ := ext_addU (addU g' rd.2.1) rd.2.2
          have up : ∀ {y}, y ∈ g'.map (·.1) → y ∈ (addU (addU g' rd.2.1) rd.2.2).map (·.1) := fun h => (keys_addU _ _ _).mpr (.inl ((keys_addU _ _ _).mpr (.inl h)))
          refine ⟨_, gx ++ g1 ++ g2, _, _, rfl, s5, hd5, (hI4.add p1).add p2, by rw [e2, e1, hgx]; simp, fun j rd' hj hrd' hor => ?_⟩
          by_cases ej : j < i
          · obtain ⟨h1, h2⟩ := hc4 j rd' ej hrd' hor
            exact ⟨up h1, up h2⟩
          · have : j = i := by omega
            subst this
            rw [hrd] at hrd'
            cases hrd'
            exact ⟨(keys_addU _ _ _).mpr (.inl ((keys_addU _ _ _).mpr (.inr rfl))), (keys_addU _ _ _).mpr (.inr rfl)⟩
        -- if one in found or other in found
        refine ⟨_, rfl, _, rfl, D, _, rfl, dgetF hd4, _, rfl, ?_⟩
        rw [some_iff]
        refine ite2 (fun c2 => ?_) (fun c2 => ?_)
        · refine put _ ?_
          exact fin
        · refine ⟨_, rfl, _, rfl, D, _, rfl, dgetF hd4, _, rfl, ?_⟩
          rw [some_iff]
          refine ite2 (fun c3 => ?_) (fun c3 => ?_)
          · refine put _ ?_
            exact fin
          · refine ⟨g', gx, _, _, rfl, s4, hd4, hI4, hgx, fun j rd' hj hrd' hor => ?_⟩
            by_cases ej : j < i
            · exact hc4 j rd' ej hrd' hor
            · have : j = i := by omega
              subst this
              rw [hrd] at hrd'
              cases hrd'
              rcases hor with h | h
              · exact absurd (decide_eq_true (old h)) c2
              · exact absurd (decide_eq_true (old h)) c3
      · rintro σ' H3 ⟨g', gx, z7, z8, rfl, s4, hd4, hI4, hgx, hc4⟩
        refine ⟨g', z7, z8, rfl, s4, hd4, hI4, by rw [hgx, List.length_append]; omega, fun e r hr hor => ?_⟩
        have : gx = [] := by
          rw [hgx, List.length_append] at e
          exact List.length_eq_zero_iff.mp (by omega)
        subst this
        rw [List.append_nil] at hgx
        subst hgx
        obtain ⟨j, hj⟩ := List.getElem?_of_mem (m2 r hr)
        exact hc4 j r (by rw [hyl]; exact (List.getElem?_eq_some_iff.mp hj).1) hj hor
    · have e : g.length = bf := by
        have : ¬ bf < g.length := fun z => c1 (decide_eq_true z)
        omega
      exact ⟨_, rfl, q H2 D _ ((s1.trans s2).trans s3) hd (by rw [kvF_len]; exact hI.full T hp (hsh e))⟩
end
end R
set_option maxHeartbeats 4000000
namespace R
open PySem PySem.Spec PyProof.Rows L2
section
variable {P : Program} {w : World} {K : PySem.W.Frag} {mg : Str → Option Value} {base : Heap}
/-- the day told of x -/
noncomputable def dy1 (W : Web) (d : Str → Str → Nat) (rt : List Str) (p x : Str) : Nat := if x = p then 1 else dy W d rt p x
def momD (a b : Int) : PyData := .tuple [.int a, .int b]
/-- what has been found by day k, road i -/
structure ArrI (K : PySem.W.Frag) (H : Hp) (D : Addr) (W : Web) (d : Str → Str → Nat) (rt : List Str) (p : Str) (k i : Nat) (f : List (Str × V)) : Prop where
  at_ : H D = some (.dK (kvF (fun v : V => v) f))
  nd : (f.map (·.1)).Nodup
  sub : ∀ x ∈ f.map (·.1), x ∈ W.P
  kn : ∀ z ∈ W.P, z ∈ f.map (·.1) ↔ Kn W d rt p k i z
  val : ∀ z v, lk f z = some v → ∃ j : Int, Dp K (wo H D) v (momD (dy1 W d rt p z) j)
theorem ArrI.len {H : Hp} {D : Addr} {W : Web} {d : Str → Str → Nat} {rt : List Str} {p : Str} {k i : Nat} {f : List (Str × V)} (b : ArrI K H D W d rt p k i f) : f.length ≤ W.P.length := by
  have := length_le_of_nodup_sub b.nd b.sub
  rwa [List.length_map] at this
theorem ArrI.mono {H H' : Hp} {D : Addr} {W : Web} {d : Str → Str → Nat} {rt : List Str} {p : Str} {k i : Nat} {f : List (Str × V)} (b : ArrI K H D W d rt p k i f) (e : Same H H') : ArrI K H' D W d rt p k i f :=
  ⟨e _ _ b.at_, b.nd, b.sub, b.kn, fun z v h => let ⟨j, hj⟩ := b.val z v h; ⟨j, hj.mono (wo_mono e)⟩⟩
theorem ArrI.all {H : Hp} {D : Addr} {W : Web} {d : Str → Str → Nat} {rt : List Str} {p : Str} {k i : Nat} {f : List (Str × V)} (b : ArrI K H D W d rt p k i f) (h : W.P.length ≤ f.length) : ∀ x ∈ W.P, x ∈ f.map (·.1) := by
  intro x hx
  refine Classical.byContradiction fun n => ?_
  have h1 : (x :: f.map (·.1)).Nodup := List.nodup_cons.mpr ⟨n, b.nd⟩
  have := length_le_of_nodup_sub (m := W.P) h1 fun y hy => by
    rcases List.mem_cons.mp hy with rfl | hy
    · exact hx
    · exact b.sub y hy
  rw [List.length_cons, List.length_map] at this
  omega
theorem sameT_updD {H : Hp} {D : Addr} {kvs : List (Key × V)} {o : HO} (h : H D = some (.dK kvs)) : SameT H (upd H D o) :=
  ⟨fun b ys e => by rw [upd_ne (ne_of e h (by intro z; cases z))]; exact e, fun b o' u e => by rw [upd_ne (ne_of e h (by intro z; cases z))]; exact e⟩
theorem ArrI.put {H : Hp} {D : Addr} {W : Web} {d : Str → Str → Nat} {rt : List Str} {p : Str} {k i : Nat} {g : List (Str × V)} (b : ArrI K H D W d rt p k i g) {c : Str} {q : Addr} {j : Int} (hc : c ∈ W.P) (hn : c ∉ g.map (·.1)) (hq : SqT K (wo H D) q [.int (k : Nat), .int j])
    (hk : dy1 W d rt p c = k) (hkn : ∀ z ∈ W.P, Kn W d rt p k (i + 1) z ↔ Kn W d rt p k i z ∨ z = c) : ArrI K (upd H D (.dK (kvF (fun v : V => v) (g ++ [(c, .ref q)])))) D W d rt p k (i + 1) (g ++ [(c, .ref q)]) where
  at_ := upd_same
  nd := by rw [List.map_append]; exact nd_snoc b.nd hn
  sub := fun x hx => by
    rw [List.map_append] at hx
    rcases List.mem_append.mp hx with h | h
    · exact b.sub x h
    · simp only [List.map_cons, List.map_nil, List.mem_singleton] at h
      rw [h]; exact hc
  kn := fun z hz => by
    rw [hkn z hz, ← b.kn z hz, List.map_append, List.mem_append]
    simp
  val := fun z v h => by
    rw [wo_upd]
    rw [lk_append] at h
    cases e : lk g z with
    | some v' =>
      rw [e] at h
      cases h
      exact b.val z v e
    | none =>
      rw [e] at h
      have h : lk [(c, V.ref q)] z = some v := h
      rw [lk_cons] at h
      by_cases ez : c = z
      · rw [if_pos ez] at h
        cases h
        subst ez
        exact ⟨j, .tup hq (by rw [hk]; exact DpAll.ofInts [(k : Int), j])⟩
      · rw [if_neg ez] at h
        cases h
theorem ArrI.stay {H : Hp} {D : Addr} {W : Web} {d : Str → Str → Nat} {rt : List Str} {p : Str} {k i k' i' : Nat} {g : List (Str × V)} (b : ArrI K H D W d rt p k i g) (hkn : ∀ z ∈ W.P, Kn W d rt p k' i' z ↔ Kn W d rt p k i z) : ArrI K H D W d rt p k' i' g :=
  ⟨b.at_, b.nd, b.sub, fun z hz => by rw [hkn z hz]; exact b.kn z hz, b.val⟩
def sp_arrivals_from (K : PySem.W.Frag) : Sp := fun vs H Q _ => ∃ v u W d rt p mo e, vs = [v, u, .str p, mo, .ref e] ∧ WebAt K H v W ∧ TreeD W d ∧ RotaOf W rt ∧ Dp K H u (weekD rt) ∧ p ∈ W.P ∧ Dp K H mo (momD 1 0) ∧ H e = some (.dT []) ∧
  ∀ H' v' (js : Str → Int), Same H H' → Dp K H' v' (.list (W.P.map fun x => momD (dy1 W d rt p x) (js x))) → Q v' H'
theorem ok_arrivals_from (F : DefAt K mg "arrivals_from" s_arrivals_from ["web", "week", "place", "moment", "missed"]) (B : Blt mg) (G_ends_by_road : Ok P w K mg base CX0 1 "ends_by_road" ["web"] (sp_ends_by_road K)) (G_news_places : Ok P w K mg base CX0 2 "news_places" ["web", "week", "place"] (sp_news_places K)) (G_round_of : Ok P w K mg base CX0 1 "round_of" ["week", "day"] (sp_round_of K)) :
    Ok P w K mg base CX0 3 "arrivals_from" ["web", "week", "place", "moment", "missed"] (sp_arrivals_from K) := by
  refine ok_of F sc_arrivals_from (fun vs H Q E h => by obtain ⟨_, _, _, _, _, _, _, _, rfl, _⟩ := h; rfl) fun f cdv A outer s H vs Q E hr h => ?_
  obtain ⟨v, u, W, d, rt, p, mo, e, rfl, hv, T, hR, hu, hp, hmo, he, q⟩ := h
  refine ⟨_, (ass_cons (as_set (i := 5) sc_arrivals_from.nd rfl (Or.inl rfl) (ae_co G_ends_by_road hr pass0 (aa_cons (av 0) aa_nil)))
    (ass_cons (as_set (i := 6) sc_arrivals_from.nd rfl (Or.inl rfl) (ae_callB call_lenD (by rfl) B.len_ PySem.boot_len (aa_cons (ae_co G_news_places hr pass0 (aa_cons (av 0) (aa_cons (av 1) (aa_cons (av 2) aa_nil)))) aa_nil)))
    (ass_cons (as_set (i := 7) sc_arrivals_from.nd rfl (Or.inr rfl) (pe_disp (pps_cons (av 2) (av 3) pps_nil) (by rfl) (by rfl) (fun z => by cases z) (by decide)))
    (ass_cons (as_asg (av 3) (pgT K rfl (pgs_cons (pg_name (i := 8) sc_arrivals_from.nd rfl (Or.inl rfl)) (pgs_cons (pg_name (i := 9) sc_arrivals_from.nd rfl (Or.inl rfl)) pgs_nil))))
    (ass_cons (ps_while PassesOwn.never (at_cmpR op_lt (ae_callB call_lenD (by rfl) B.len_ PySem.boot_len (aa_cons (av 7) aa_nil)) (av 6) (nomark _))
      (ass_cons (ps_for PassesOwn.never rfl (enumT K (by rfl) B.enumerate_ (aa_cons (ae_co G_round_of hr pass0 (aa_cons (av 1) (aa_cons (av 8) aa_nil))) aa_nil)) (pgT K rfl (pgs_cons (pg_name (i := 10) sc_arrivals_from.nd rfl (Or.inl rfl)) (pgs_cons (pg_name (i := 11) sc_arrivals_from.nd rfl (Or.inl rfl)) pgs_nil)))
        (ass_cons (as_asg (ae_dget (hu_of hr) (av 5) (av 11) (fun _ _ => rfl)) (pgT K rfl (pgs_cons (pg_name (i := 12) sc_arrivals_from.nd rfl (Or.inl rfl)) (pgs_cons (pg_name (i := 13) sc_arrivals_from.nd rfl (Or.inl rfl)) pgs_nil))))
        (pss_one (as_if (PW.pt (aw_and (at_cmpR op_ge (av 10) (av 9) (nomark _)) (aw_and (at_cmpR op_ne (pe_cmp (ac_din (hu_of hr) (av 12) (av 7)) rfl) (pe_cmp (ac_din (hu_of hr) (av 13) (av 7)) rfl) (nomark _)) (pw_and1 (at_cmp (ac_dnotin (hu_of hr) (ae_tup (aa_cons (av 8) (aa_cons (av 11) aa_nil))) (av 4)))))))
          (pss_one (as_dput (hu_of hr) (av 7) (ae_ifExp (at_cmp (ac_din (hu_of hr) (av 12) (av 7))) (av 13) (av 12)) (ae_tup (aa_cons (av 8) (aa_cons (ae_op op_add (av 10) ae_int) aa_nil))) rfl))
          ass_nil))))
      (pss_one (ps_par (i := 8) (j := 9) rfl sc_arrivals_from.nd rfl rfl (by decide) rfl rfl (aa_cons (ae_op op_add (av 8) ae_int) (aa_cons ae_int aa_nil)) (by rfl)))))
    (pss_one (as_ret (pe_lc (own := [("name", 14)]) (g := (gName 14)) (tt := tYes) rfl sc_arrivals_from.nd (piT K (ae_ix (ixT K) (av 0) ae_int (fun _ _ => rfl))) (blkOk_by (own := [("name", 14)]) (N := n_arrivals_from) (sc := (defScope s_arrivals_from)) (by decide +kernel)) (fun _ _ _ _ _ => (pg_name (i := 14) sc_arrivals_from.nd rfl (Or.inl rfl))) (fun _ _ _ _ _ => pts_nil) (fun _ _ _ _ _ => (ae_dget1 (hu_of hr) (av 7) (av 14) ⟨rfl, rfl, rfl, rfl⟩)))))))))), ?_⟩
  obtain ⟨a, pp, r, rs, rfl, hA, hP, hRR, hrs⟩ := hv.parts
  obtain ⟨rds, erd, m1, m2⟩ := hR.roads T.toWf
  have rl : rt.length ≤ 100 := by rw [hR.len]; exact hv.rl
  have rdl : rds.length = rt.length := by rw [← erd, List.length_map]
  -- ends
  refine ⟨_, rfl, _, W, rfl, hv, T.toWf, fun H1 De s1 nDe hE => ?_⟩
  -- many
  refine ⟨_, rfl, _, rfl, _, rfl, _, _, W, d, rt, p, rfl, hv.mono s1, T, hR, hu.mono s1, hp, fun H2 Dn kvs s2 hDn hn => ?_⟩
  refine ⟨Dn, _, rfl, hDn, ?_⟩
  rw [hn]
  -- found = {place: moment}
  refine fun D hD => ⟨_, rfl, mo, rfl, ?_⟩
  refine ⟨upd_same, [(.inr p, mo)], rfl, by show 1 ≤ 15; decide, ?_⟩
  rw [upd_upd]
  have s12 := s1.trans s2
  have sD : Same H2 (upd H2 D (.dK (mergeK [] [(Sum.inr p, mo)]))) := Same.new hD
  -- day, first = moment
  obtain ⟨ma, ms, rfl, hm1, hm2⟩ := ((hmo.mono s12).mono sD).tupI
  have em : ms = [1, 0].map V.int := DpAll.ints (l := [1, 0]) hm2
  subst em
  refine ⟨_, rfl, ma, _, rfl, hm1, rfl, _, _, rfl, _, _, rfl, rfl, ?_⟩
  -- the days
  refine ⟨fun m σ H3 => ∃ (k : Nat) (g : List (Str × V)) (z10 z11 z12 z13 : Option V), σ = [some (.ref a), some u, some (.str p), some (.ref ma), some (.ref e), some (.ref De), some (.int (W.P.length : Nat)), some (.ref D), some (.int (k : Nat)), some (.int 0), z10, z11, z12, z13, none] ∧ Same H2 H3 ∧ 1 ≤ k ∧ ArrI K H3 D W d rt p k 0 g ∧ m = W.P.length - k,
    ⟨_, 1, [(p, .ref ma)], none, none, none, none, rfl, sD, Nat.le_refl _, ⟨upd_same, by simp, by simp [hp], fun z hz => by rw [kn_start T hp hz]; simp, fun z x hx => ?_⟩, rfl⟩, ?_⟩
  · rw [lk_cons] at hx
    by_cases ez : p = z
    · rw [if_pos ez] at hx
      cases hx
      subst ez
      refine ⟨0, ?_⟩
      rw [wo_upd]
      unfold dy1
      rw [if_pos rfl]
      exact (hmo.mono s12).mono (wo_of (Same.refl _) hD)
    · rw [if_neg ez] at hx
      cases hx
  rintro m σ H3 ⟨k, g, z10, z11, z12, z13, rfl, s3, hk, hI, rfl⟩
  refine ⟨_, rfl, D, _, rfl, hI.at_, _, rfl, _, _, rfl, rfl, _, rfl, ?_⟩
  rw [kvF_len, nat_lt_int]
  refine ite2 (fun c1 => ?_) (fun c1 => ?_)
  · have c1 := of_decide_eq_true c1
    have hkn : k < W.P.length := by
      refine Classical.byContradiction fun n => ?_
      have := length_le_of_nodup_sub (m := g.map (·.1)) T.nd fun x hx => (hI.kn x hx).mpr (kn_all T hp hx (by omega))
      rw [List.length_map] at this
      omega
    refine ⟨fun σ' H4 => ∃ (g : List (Str × V)) (z10 z11 z12 z13 : Option V), σ' = [some (.ref a), some u, some (.str p), some (.ref ma), some (.ref e), some (.ref De), some (.int (W.P.length : Nat)), some (.ref D), some (.int ((k + 1 : Nat) : Int)), some (.int 0), z10, z11, z12, z13, none] ∧ Same H2 H4 ∧ ArrI K H4 D W d rt p (k + 1) 0 g, ?_, ?_⟩
    · rintro σ' H4 ⟨g', y10, y11, y12, y13, rfl, t1, t2⟩
      exact ⟨_, (by omega : W.P.length - (k + 1) < W.P.length - k), k + 1, g', y10, y11, y12, y13, rfl, t1, by omega, t2, rfl⟩
    -- the rounds
    have hu3 := hu.mono (s12.trans s3)
    refine ⟨_, rfl, _, rfl, _, rt, (k : Int), rfl, hu3, fun v1 hv1 => ?_⟩
    obtain ⟨c, cs, rfl, hc1, hc2⟩ := hv1.tupI
    rw [hc2.strs] at hc1
    refine ⟨c, _, rfl, hc1, ?_⟩
    refine for_enumT (K := K) (a := c) (xs := rt.map V.str) (fun i σ' H4 => ∃ (g : List (Str × V)) (z10 z11 z12 z13 : Option V), σ' = [some (.ref a), some u, some (.str p), some (.ref ma), some (.ref e), some (.ref De), some (.int (W.P.length : Nat)), some (.ref D), some (.int (k : Nat)), some (.int 0), z10, z11, z12, z13, none] ∧ Same H2 H4 ∧ SameT H3 H4 ∧ ArrI K H4 D W d rt p k i g)
      ⟨g, z10, z11, z12, z13, rfl, s3, ⟨fun _ _ e => e, fun _ _ _ e => e⟩, hI⟩ (fun i σ' H4 _ h => by obtain ⟨_, _, _, _, _, _, _, s, _⟩ := h; exact s.seqT hc1) ?_ ?_
    · rintro i x T0 σ' H4 hx ⟨g4, y10, y11, y12, y13, rfl, t1, t2, hI4⟩ hT0
      obtain ⟨nm, hnm, rfl⟩ := at_map hx
      obtain ⟨rd, hrd, rfl⟩ := at_map (erd ▸ hnm)
      have hm := m1 rd (mem_at hrd)
      have t3 : Same H4 (upd H4 T0 (.tup [.int (i : Nat), .str rd.1])) := Same.new hT0
      refine ⟨T0, _, rfl, SqT.at upd_same, rfl, _, _, rfl, _, _, rfl, rfl, ?_⟩
      generalize upd H4 T0 (.tup [.int (i : Nat), .str rd.1]) = H5 at t3
      have hI5 := hI4.mono t3
      have s5 := t1.trans t3
      -- one, other = ends[road]
      obtain ⟨ge, hg1, hg2⟩ := hE.mono (s2.trans s5)
      obtain ⟨v2, hv1, hv2⟩ := hg2 rd hm
      have dg := dgetF (g := fun v : V => v) (x := rd.1) hg1
      rw [hv1] at dg
      obtain ⟨eb, rfl, heb⟩ := ends_parts (hv2.mono wo_same)
      refine ⟨_, rfl, _, rfl, De, _, rfl, dg, eb, _, rfl, heb, rfl, _, _, rfl, _, _, rfl, rfl, ?_⟩
      obtain ⟨p1, p2⟩ := T.ends rd hm
      obtain ⟨R1, R2, R3⟩ := kn_road T hR hp hm hk hnm
      -- index >= first
      refine ⟨_, rfl, _, rfl, _, _, rfl, rfl, _, rfl, ?_⟩
      refine ite2 (fun _ => ?_) (fun c2 => absurd (decide_eq_true (by omega)) c2)
      refine ⟨_, rfl, _, rfl, D, _, rfl, dgetF hI5.at_, _, rfl, _, rfl, D, _, rfl, dgetF hI5.at_, rfl, _, rfl, ?_⟩
      rw [some_iff, some_iff]
      have q1 := hI5.kn rd.2.1 p1
      have q2 := hI5.kn rd.2.2 p2
      have pk : p ∈ g4.map (·.1) := (hI5.kn p hp).mpr (.inl (by rw [dy_self T hp]; omega))
      have ne := T.ne hm
      have t5 : SameT H3 H5 := t2.trans (R.Same.sameT t3)
      refine ite2 (fun c3 => ?_) (fun c3 => ?_)
      · -- (day, road) not in missed
        refine ⟨_, rfl, _, rfl, by show 2 ≤ sizeLine; decide, fun q hq => ?_⟩
        have t6 : Same H5 (upd H5 q (.tup [.int (k : Nat), .str rd.1])) := Same.new hq
        have hqq : upd H5 q (.tup [.int (k : Nat), .str rd.1]) q = some (.tup (([Sum.inl (k : Int), Sum.inr rd.1] : List Key).map kV)) := upd_same
        generalize upd H5 q (.tup [.int (k : Nat), .str rd.1]) = H6 at t6 hqq
        have hI6 := hI5.mono t6
        have s6 := s5.trans t6
        refine ⟨_, rfl, e, _, rfl, DGet.t (k := [Sum.inl (k : Int), Sum.inr rd.1]) (s6 _ _ (s2 _ _ (s1 _ _ he))) hqq, _, rfl, ?_⟩
        refine ite2 (fun _ => ?_) (fun h => absurd rfl h)
        -- found[..] = (day, index + 1)
        refine ⟨_, rfl, _, rfl, _, _, rfl, rfl, by show 2 ≤ sizeLine; decide, fun q' hq' => ?_⟩
        have t7 : Same H6 (upd H6 q' (.tup [.int (k : Nat), .int ((i : Nat) + 1)])) := Same.new hq'
        have hq7 : upd H6 q' (.tup [.int (k : Nat), .int ((i : Nat) + 1)]) q' = some (.tup [.int (k : Nat), .int ((i : Nat) + 1)]) := upd_same
        generalize upd H6 q' (.tup [.int (k : Nat), .int ((i : Nat) + 1)]) = H7 at t7 hq7
        have hI7 := hI6.mono t7
        have s7 := s6.trans t7
        have hqD : q' ≠ D := ne_of hq7 hI7.at_ (by intro z; cases z)
        have hsq : SqT K (wo H7 D) q' [.int (k : Nat), .int ((i : Nat) + 1)] := SqT.at (by rw [wo_ne hqD]; exact hq7)
        have t8 : SameT H3 H7 := (t5.trans (R.Same.sameT t6)).trans (R.Same.sameT t7)
        have small : (kvF (fun v : V => v) g4).length < sizeLine := by rw [kvF_len]; exact small_ (m := 100) (Nat.le_trans hI7.len hv.pl)
        refine ⟨_, rfl, _, rfl, _, rfl, D, _, rfl, dgetF hI7.at_, _, rfl, ?_⟩
        rw [some_iff]
        refine ite2 (fun c4 => ?_) (fun c4 => ?_)
        · have c4 := of_decide_eq_true c4
          have c5 : rd.2.2 ∉ g4.map (·.1) := fun h => by
            rw [decide_eq_true c4, decide_eq_true h] at c3
            revert c3; decide
          refine ⟨_, rfl, D, _, rfl, DPut.k (k := Sum.inr rd.2.2) hI7.at_ small, ?_⟩
          rw [kvF_put (fun v : V => v) g4 rd.2.2 (V.ref q') (lk_none.mpr c5)]
          refine ⟨_, _, _, _, _, rfl, s7.over hD, t8.trans (sameT_updD hI7.at_), hI7.put p2 c5 hsq ?_ fun z hz => ?_⟩
          · unfold dy1
            rw [if_neg (show ¬ rd.2.2 = p from fun e => c5 (by rw [e]; exact pk))]
            exact R2 (q1.mp c4) (fun h => c5 (q2.mpr h))
          · rw [R1 z hz]
            constructor
            · rintro (h | ⟨_, h⟩ | ⟨h, _⟩)
              · exact .inl h
              · exact absurd (q2.mpr h) c5
              · exact .inr h
            · rintro (h | h)
              · exact .inl h
              · exact .inr (.inr ⟨h, q1.mp c4⟩)
        · have c4 : rd.2.1 ∉ g4.map (·.1) := fun z => c4 (decide_eq_true z)
          have c5 : rd.2.2 ∈ g4.map (·.1) := Classical.byContradiction fun h => by
            rw [decide_eq_false c4, decide_eq_false h] at c3
            revert c3; decide
          refine ⟨_, rfl, D, _, rfl, DPut.k (k := Sum.inr rd.2.1) hI7.at_ small, ?_⟩
          rw [kvF_put (fun v : V => v) g4 rd.2.1 (V.ref q') (lk_none.mpr c4)]
          refine ⟨_, _, _, _, _, rfl, s7.over hD, t8.trans (sameT_updD hI7.at_), hI7.put p1 c4 hsq ?_ fun z hz => ?_⟩
          · unfold dy1
            rw [if_neg (show ¬ rd.2.1 = p from fun e => c4 (by rw [e]; exact pk))]
            exact R3 (q2.mp c5) (fun h => c4 (q1.mpr h))
          · rw [R1 z hz]
            constructor
            · rintro (h | ⟨h, _⟩ | ⟨_, h⟩)
              · exact .inl h
              · exact .inr h
              · exact absurd (q1.mpr h) c4
            · rintro (h | h)
              · exact .inl h
              · exact .inr (.inl ⟨h, q2.mp c5⟩)
      · refine ⟨_, _, _, _, _, rfl, s5, t5, hI5.stay fun z hz => ?_⟩
        have both : rd.2.1 ∈ g4.map (·.1) ↔ rd.2.2 ∈ g4.map (·.1) := by
          by_cases h1 : rd.2.1 ∈ g4.map (·.1) <;> by_cases h2 : rd.2.2 ∈ g4.map (·.1)
          · exact ⟨fun _ => h2, fun _ => h1⟩
          · rw [decide_eq_true h1, decide_eq_false h2] at c3
            exact absurd (by decide) c3
          · rw [decide_eq_false h1, decide_eq_true h2] at c3
            exact absurd (by decide) c3
          · exact ⟨fun h => absurd h h1, fun h => absurd h h2⟩
        rw [q1, q2] at both
        rw [R1 z hz]
        constructor
        · rintro (h | ⟨h, h'⟩ | ⟨h, h'⟩)
          · exact h
          · rw [h]; exact both.mpr h'
          · rw [h]; exact both.mp h'
        · exact .inl
    · rintro σ' H4 ⟨g4, y10, y11, y12, y13, rfl, t1, t2, hI4⟩
      rw [List.length_map] at hI4
      refine ⟨_, rfl, _, _, rfl, rfl, _, _, rfl, ?_⟩
      exact ⟨g4, y10, y11, y12, y13, rfl, t1, hI4.stay fun z hz => (kn_day T hR hp hz hk).symm⟩
  · have c1 : W.P.length ≤ g.length := Nat.le_of_not_lt fun z => c1 (decide_eq_true z)
    have all := hI.all c1
    have key : ∀ z, ∃ j : Int, ∀ v, lk g z = some v → Dp K (wo H3 D) v (momD (dy1 W d rt p z) j) := fun z => by
      cases h : lk g z with
      | none => exact ⟨0, fun v e => by cases e⟩
      | some v =>
        obtain ⟨j, hj⟩ := hI.val z v h
        exact ⟨j, fun v' e => by cases e; exact hj⟩
    obtain ⟨js, hjs⟩ := Classical.axiomOfChoice key
    have s13 := s12.trans s3
    refine ⟨_, rfl, a, _, _, _, rfl, rfl, s13.seqT hA, ix0, pp, rfl, ⟨_, s13.seqT hP⟩, fun L hL => ?_⟩
    refine lc_tupD (K := K) (a := pp) (xs := W.P.map V.str) (W.P.map fun x => momD (dy1 W d rt p x) (js x)) hL (s13.seqT hP) (by simp) (by rw [List.length_map]; exact Nat.le_trans hv.pl (by decide)) ?_ ?_
    · intro i x ee H4 acc Q2 u1 hL4 hx hee kk
      obtain ⟨nm, hnm, rfl⟩ := at_map hx
      have hd4 := u1 _ _ hI.at_
      obtain ⟨vv, hvv⟩ := lk_key (all nm (mem_at hnm))
      refine ⟨rfl, _, rfl, D, rfl, .inl ⟨_, .inl hd4⟩, _, rfl, _, dgetF hd4, ?_⟩
      rw [hvv]
      rw [map_at hnm] at hee
      cases hee
      exact kk _ H4 (Same.refl _) (dp_sameT (sameT_wo hL4) (((hjs nm vv hvv).mono wo_same).mono u1) rfl)
    · exact fun H4 ys u1 hy hda => q H4 _ js (s13.trans u1) (dp_list hy hda)
end
end R
set_option maxHeartbeats 4000000
/-! tuples whose object is known to have no dict of its own: their methods -/
namespace R
open PySem PySem.Spec PyProof.Rows L2
/-- the tuple at p is one that a call of tuple made -/
def ZT (H : Hp) (p : Addr) : Prop := ∃ o u, H p = some (.frz o u) ∧ o.cls = .type "tuple" ∧ o.dict = none
theorem ZT.mono {H H' : Hp} {p : Addr} (h : ZT H p) (e : Same H H') : ZT H' p := let ⟨o, u, a, b⟩ := h; ⟨o, u, e _ _ a, b⟩
theorem ZT.sameT {H H' : Hp} {p : Addr} (h : ZT H p) (e : SameT H H') : ZT H' p := let ⟨o, u, a, b⟩ := h; ⟨o, u, e.2 _ _ _ a, b⟩
/-- t.m(..), t a tuple -/
abbrev aZM (r : V → List V → Hp → VK → Prop) (to : TE) (t : TA) : TE := fun σ H Q => to σ H fun x H1 => (∃ p, x = .ref p ∧ ZT H1 p) ∧ t σ H1 fun xs H2 => r x xs H2 Q
section
variable {X : Cx} (K : PySem.W.Frag)
theorem ae_zm {o e : Expr} {es : List Expr} {to : TE} {t : TA} {name : Str} {apos cpos : Pos} {id : String} {r : V → List V → Hp → VK → Prop} (slot : Slot "tuple" name id) (hty : typeOf (.builtin id) = pure (.type "method_descriptor")) (hm : MtR X id r) (ho : PE X o to) (ha : PA X (e :: es) t)
    (hbase : attributeBase o name X.env (eval o X.env) = eval o X.env := by rfl)
    (hfew : ((backTo cpos (starEach (e :: es) X.env)).all (fun x => !x.1) && (backToKw cpos (keywordEach [] X.env)).all (fun x => x.1.isSome)
      && decide ((e :: es).length + ([] : List Keyword).length + (if ([] : List Keyword).isEmpty then 0 else 1) < 30)) = true := by rfl)
    (hline : (apos.endLine == cpos.line) = true := by rfl) (hs : starEach (e :: es) X.env = (false, eval e X.env) :: starEach es X.env := by rfl) (hplain : (backTo cpos (starEach es X.env)).any (·.1) = false := by rfl) :
    PE X (.Call (.Attribute o name apos) (e :: es) [] cpos) (aZM r to t) := by
  refine ⟨fun pins s σ H Q I h => ?_⟩
  refine wpAny_Call_method_late hbase hfew hline rfl (thn (ho.run pins s σ H _ I h) fun v s1 ⟨x, H1, I1, r1, ⟨p, ex, ob, u, hp, hc, hd⟩, q1⟩ => ?_)
  subst ex
  have r1' := r1
  cases r1'
  have hx := (I1.hok p _ hp).1
  refine ⟨"tuple", id, PySem.F.plainAttrs_tuple, slot, hty, ⟨ob, hx, hc⟩, fun a e => by cases e; exact ⟨ob, hx, hd⟩, ?_⟩
  have hA := ha.run cpos pins s1 σ H1 _ I1 q1
  rw [hs] at hA ⊢
  refine Calls.callWith_builtin (by show (false || (backTo cpos (starEach es X.env)).any (·.1)) = false; rw [hplain] <;> rfl) (Calls.evalArgs_plain ?_)
  exact thn hA fun us s2 ⟨vs, H2, I2, r2, q2⟩ => hm pins s2 σ H2 _ vs _ us Q I2 r1 r2 q2
def rTupOfZ (K : PySem.W.Frag) : List V → Hp → VK → Prop := fun xs H Q => ∃ p ys, xs = [.ref p] ∧ SqL K H p ys ∧ ∀ l o, H l = none → o.cls = .type "tuple" → o.dict = none → Q (.ref l) (upd H l (.frz o (.tup ys)))
theorem tupOfZ (h : X.K = K := by rfl) : CallR X (.type "tuple") (rTupOfZ K) := by
  subst h
  intro pins s σ H xs us Q I r h
  obtain ⟨p, ys, rfl, hq, q⟩ := h
  obtain ⟨u, rfl, rx⟩ := vals1 r
  cases rx
  obtain ⟨its, r', pl, hz⟩ := I.list hq
  have hlen := r'.length
  refine call_tuple_list pl.isList (fun h' kp => ?_) (by simp only [List.size_toArray] <;> omega)
  have I1 : Inv X pins σ H { s with heap := h' } := I.kept (t' := s.toks) kp
  have hg := Heap.get?_push_size h' (o := { cls := .type "tuple", data := .seq its.toArray }) rfl
  exact ⟨.ref h'.objs.size, _, I1.laid (t' := s.toks) (fun b o e => Heap.get?_push_of_some _ e) (Nat.le_refl _) (show ObjOk X.prog X.w _ _ _ (.frz { cls := .type "tuple", data := .seq its.toArray } (.tup ys)) from ⟨hg, hz, its, r', IsTup.new _ _⟩), rfl, q _ _ (I1.hok.fresh (Nat.le_refl _)) rfl rfl⟩
end
/-- a web whose places' tuple is such a one -/
structure WebZ (K : PySem.W.Frag) (H : Hp) (v : V) (W : Web) : Prop where
  at_ : WebAt K H v W
  z : ∃ a p r rs, v = .ref a ∧ SqT K H a [.ref p, .ref r] ∧ SqT K H p (W.P.map V.str) ∧ SqT K H r rs ∧ DpAll K H rs (W.R.map roadD) ∧ ZT H p
theorem WebZ.mono {K : PySem.W.Frag} {H H' : Hp} {v : V} {W : Web} (h : WebZ K H v W) (e : Same H H') : WebZ K H' v W :=
  ⟨h.at_.mono e, let ⟨a, p, r, rs, ev, h1, h2, h3, h4, h5⟩ := h.z; ⟨a, p, r, rs, ev, e.seqT h1, e.seqT h2, e.seqT h3, h4.mono e, h5.mono e⟩⟩
theorem dpAll_roads_sameT {K : PySem.W.Frag} {H H' : Hp} {rs : List V} {R : List Road} (h : DpAll K H rs (R.map roadD)) (e : SameT H H') : DpAll K H' rs (R.map roadD) := dpAll_sameT e h (tup_roads R)
theorem WebZ.sameT {K : PySem.W.Frag} {H H' : Hp} {v : V} {W : Web} (h : WebZ K H v W) (e : SameT H H') : WebZ K H' v W :=
  ⟨h.at_.sameT e, let ⟨a, p, r, rs, ev, h1, h2, h3, h4, h5⟩ := h.z; ⟨a, p, r, rs, ev, e.seqT h1, e.seqT h2, e.seqT h3, dpAll_roads_sameT h4 e, h5.sameT e⟩⟩
end R
set_option maxHeartbeats 4000000
namespace R
open PySem PySem.Spec PyProof.Rows L2
section
variable {P : Program} {w : World} {K : PySem.W.Frag} {mg : Str → Option Value} {base : Heap}
/-- the row of the days on which the places hear of a -/
noncomputable def yRow (W : Web) (d : Str → Str → Nat) (rt : List Str) (a : Str) : List Int := W.P.map fun x => (dy W d rt a x : Int)
noncomputable def yRows (W : Web) (d : Str → Str → Nat) (rt : List Str) : List (List Int) := W.P.map (yRow W d rt)
theorem ixN_n {n j : Nat} (hj : j < n) : ixN n (j : Int) = some j := by
  unfold ixN
  have h1 : (0 : Int) ≤ (j : Int) := by omega
  have h2 : (j : Int) < (n : Int) := by omega
  rw [if_pos h1, if_pos h2, Int.toNat_natCast]
theorem SqL.wo {H : Hp} {L D : Addr} {xs : List V} (h : SqL K H L xs) (ne : L ≠ D) : SqL K (wo H D) L xs := by
  rcases h with (h | ⟨o, h⟩) | h
  · exact .inl (.inl (by rw [wo_ne ne]; exact h))
  · exact .inl (.inr ⟨o, by rw [wo_ne ne]; exact h⟩)
  · exact .inr h
theorem dp_ints_wo {H : Hp} {L D : Addr} {l : List Int} (h : Dp K H (.ref L) (intsD l)) (ne : L ≠ D) : Dp K (wo H D) (.ref L) (intsD l) := by
  obtain ⟨L', ys, e, h1, h2⟩ := h.lstI
  cases e
  rw [h2.ints] at h1
  exact .lst (SqL.wo h1 ne) (DpAll.ofInts _)
/-- place.index in the web -/
theorem place_ix {W : Web} {H : Hp} {pp : Addr} {p : Str} {Q : VK} (hn : W.P.Nodup) (hp : p ∈ W.P) (hP : SqT K H pp (W.P.map V.str)) (q : Q (.int (ixOf W.P p : Nat)) H) : rTupIndex K (.ref pp) [.str p] H Q :=
  ⟨pp, W.P, p, ixOf W.P p, rfl, rfl, hP, ixOf_mem hp, fun m hm e => by have := nd_ix hn e (ixOf_mem hp); omega, q⟩
def sp_days_from (K : PySem.W.Frag) : Sp := fun vs H Q _ => ∃ v u W d rt p, vs = [v, u, .str p] ∧ WebZ K H v W ∧ TreeD W d ∧ RotaOf W rt ∧ Dp K H u (weekD rt) ∧ p ∈ W.P ∧ ∀ H' L, Same H H' → H L = none → Dp K H' (.ref L) (intsD (yRow W d rt p)) → Q (.ref L) H'
theorem ok_days_from (F : DefAt K mg "days_from" s_days_from ["web", "week", "place"]) (B : Blt mg) (G_arrivals_from : Ok P w K mg base CX0 3 "arrivals_from" ["web", "week", "place", "moment", "missed"] (sp_arrivals_from K)) : Ok P w K mg base CX0 4 "days_from" ["web", "week", "place"] (sp_days_from K) := by
  refine ok_of F sc_days_from (fun vs H Q E h => by obtain ⟨_, _, _, _, _, _, rfl, _⟩ := h; rfl) fun f cdv A outer s H vs Q E hr h => ?_
  obtain ⟨v, u, W, d, rt, p, rfl, hz, T, hR, hu, hp, q⟩ := h
  refine ⟨_, (ass_cons (as_set (i := 3) sc_days_from.nd rfl (Or.inl rfl) (ae_co G_arrivals_from hr pass0 (aa_cons (av 0) (aa_cons (av 1) (aa_cons (av 2) (aa_cons (ae_tup (aa_cons ae_int (aa_cons ae_int aa_nil))) (aa_cons pe_dnewT aa_nil)))))))
    (ass_cons (ps_setLc (i := 4) (own := [("moment", 5)]) (g := (gName 5)) (tt := tYes) rfl sc_days_from.nd rfl rfl (sw_true rfl rfl rfl (by decide +kernel)) (piL K (av 3)) (blkOk_by (own := [("moment", 5)]) (N := n_days_from) (sc := (defScope s_days_from)) (by decide +kernel)) (fun _ _ _ _ _ => (pg_name (i := 5) sc_days_from.nd rfl (Or.inl rfl))) (fun _ _ _ _ _ => pts_nil) (fun _ _ _ _ _ => (ae_ifExp (at_cmp (ac_isN (av 5))) ae_non (ae_ix (ixT K) (av 5) ae_int (fun _ _ => rfl)))))
    (ass_cons (as_asg ae_int (pg_sub (av 4) (ae_zm PySem.F.slot_tuple_index PySem.F.type_tuple_index (mtTupIndex K) (ae_ix (ixT K) (av 0) ae_int (fun _ _ => rfl)) (aa_cons (av 2) aa_nil)) set_list))
    (pss_one (as_ret (av 4)))))), ?_⟩
  have hv := hz.at_
  obtain ⟨a, pp, r, rs, rfl, hA, hP, hRR, hrs, hZ⟩ := hz.z
  -- arrivals
  refine ⟨_, rfl, _, rfl, _, rfl, by show 2 ≤ sizeLine; decide, fun mo hmo => fun e he => ?_⟩
  have s0 : Same H (upd H mo (.tup [.int 1, .int 0])) := Same.new hmo
  have s1 : Same (upd H mo (.tup [.int 1, .int 0])) (upd (upd H mo (.tup [.int 1, .int 0])) e (.dT [])) := Same.new he
  have s2 := s0.trans s1
  refine ⟨_, _, W, d, rt, p, _, e, rfl, hv.mono s2, T, hR, hu.mono s2, hp, (Dp.tup (xs := [.int 1, .int 0]) (SqT.at upd_same) (DpAll.ofInts [1, 0])).mono s1, upd_same, fun H1 v1 js s3 hd1 => ?_⟩
  obtain ⟨L, xs, rfl, hL, hxs⟩ := hd1.lstI
  have s4 := s2.trans s3
  -- found
  refine ⟨_, rfl, L, rfl, ⟨_, hL⟩, fun D hD => ?_⟩
  have hlen : xs.length = W.P.length := by rw [hxs.length, List.length_map]
  refine lc_lstD (K := K) (a := L) (xs := xs) (W.P.map fun x => .int (dy1 W d rt p x)) hD hL (by rw [List.length_map, hlen]) (by rw [hlen]; exact Nat.le_trans hv.pl (by decide)) ?_ ?_
  · intro i x ee H2 acc Q2 u1 hD2 hx hee k
    obtain ⟨nm, hnm, rfl⟩ := at_map hee
    have hdx := (hxs.both hx (map_at hnm)).mono u1
    obtain ⟨ma, ms, rfl, h1, h2⟩ := hdx.tupI
    have em : ms = [(dy1 W d rt p nm : Int), js nm].map V.int := DpAll.ints (l := [(dy1 W d rt p nm : Int), js nm]) h2
    subst em
    refine ⟨rfl, _, rfl, _, rfl, ?_⟩
    refine ite2 (fun c => ?_) (fun c => ?_)
    · exact absurd (of_decide_eq_true c) (by intro z; cases z)
    · exact ⟨_, rfl, ma, _, _, _, rfl, rfl, h1, ix0, k _ H2 (Same.refl _) (.int _)⟩
  · intro H2 ys u1 hy hda
    have hys : ys = (W.P.map fun x => (dy1 W d rt p x : Int)).map V.int := DpAll.ints (by rw [List.map_map]; exact hda)
    have s5 := s4.trans u1
    -- found[web[0].index(place)] = 0
    refine ⟨_, rfl, _, rfl, a, _, _, _, rfl, rfl, s5.seqT hA, ix0, ⟨pp, rfl, hZ.mono s5⟩, _, rfl, ?_⟩
    refine place_ix T.nd hp (s5.seqT hP) ?_
    refine ⟨D, ys, _, ixOf W.P p, rfl, rfl, hy, ?_, ?_⟩
    · rw [hys, List.length_map, List.length_map]
      exact ixN_n (ixOf_lt hp)
    · refine ⟨_, rfl, q _ _ (s5.over (s4.free hD)) (s4.free hD) ?_⟩
      refine .lst (SqL.at upd_same) ?_
      have e1 : ys.set (ixOf W.P p) (V.int 0) = (yRow W d rt p).map V.int := by
        rw [hys]
        apply List.ext_getElem?
        intro j
        rw [List.getElem?_set]
        unfold yRow
        simp only [List.getElem?_map, List.length_map]
        by_cases ej : ixOf W.P p = j
        · subst ej
          rw [if_pos rfl, if_pos (ixOf_lt hp), ixOf_mem hp]
          show some (V.int 0) = some (V.int (dy W d rt p p : Nat))
          rw [dy_self T hp]; rfl
        · rw [if_neg ej]
          cases e3 : W.P[j]? with
          | none => rfl
          | some y =>
            show some (V.int (dy1 W d rt p y : Nat)) = some (V.int (dy W d rt p y : Nat))
            unfold dy1
            rw [if_neg]
            intro z
            rw [z] at e3
            exact ej (nd_ix T.nd (ixOf_mem hp) e3)
      rw [e1]
      exact DpAll.ofInts _
def sp_day_rows (K : PySem.W.Frag) : Sp := fun vs H Q _ => ∃ v u W d rt, vs = [v, u] ∧ WebZ K H v W ∧ TreeD W d ∧ RotaOf W rt ∧ Dp K H u (weekD rt) ∧ ∀ H' v', Same H H' → Dp K H' v' (rowsD (yRows W d rt)) → Q v' H'
theorem ok_day_rows (F : DefAt K mg "day_rows" s_day_rows ["web", "week"]) (B : Blt mg) (G_days_from : Ok P w K mg base CX0 4 "days_from" ["web", "week", "place"] (sp_days_from K)) : Ok P w K mg base CX0 5 "day_rows" ["web", "week"] (sp_day_rows K) := by
  refine ok_of F sc_day_rows (fun vs H Q E h => by obtain ⟨_, _, _, _, _, rfl, _⟩ := h; rfl) fun f cdv A outer s H vs Q E hr h => ?_
  obtain ⟨v, u, W, d, rt, rfl, hz, T, hR, hu, q⟩ := h
  refine ⟨_, (pss_one (as_ret (pe_lc (own := [("place", 2)]) (g := (gName 2)) (tt := tYes) rfl sc_day_rows.nd (piT K (ae_ix (ixT K) (av 0) ae_int (fun _ _ => rfl))) (blkOk_by (own := [("place", 2)]) (N := n_day_rows) (sc := (defScope s_day_rows)) (by decide +kernel)) (fun _ _ _ _ _ => (pg_name (i := 2) sc_day_rows.nd rfl (Or.inl rfl))) (fun _ _ _ _ _ => pts_nil) (fun _ _ _ _ _ => (ae_co G_days_from hr pass0 (aa_cons (av 0) (aa_cons (av 1) (aa_cons (av 2) aa_nil)))))))), ?_⟩
  have hv := hz.at_
  obtain ⟨a, pp, r, rs, rfl, hA, hP, hRR, hrs⟩ := hv.parts
  refine ⟨_, rfl, a, _, _, _, rfl, rfl, hA, ix0, pp, rfl, ⟨_, hP⟩, fun D hD => ?_⟩
  refine lc_tupD (K := K) (a := pp) (xs := W.P.map V.str) ((yRows W d rt).map intsD) hD hP (by unfold yRows; simp) (by rw [List.length_map]; exact Nat.le_trans hv.pl (by decide)) ?_ ?_
  · intro i x e H2 acc Q2 u1 hD2 hx he k
    obtain ⟨nm, hnm, rfl⟩ := at_map hx
    obtain ⟨y, hy, rfl⟩ := at_map he
    unfold yRows at hy
    rw [map_at hnm] at hy
    cases hy
    refine ⟨rfl, _, rfl, _, rfl, _, rfl, _, _, W, d, rt, nm, rfl, hz.mono u1, T, hR, hu.mono u1, mem_at hnm, fun H3 v3 s3 n3 hd3 => ?_⟩
    exact k _ _ s3 (dp_ints_wo hd3 (ne_of_none hD2 n3).symm)
  · exact fun H2 ys u1 hy hda => q _ _ u1 (dp_list hy hda)
end
end R
set_option maxHeartbeats 4000000
/-! ways turned about; the least and the greatest number of days -/
namespace R
open PySem L2
section
variable {W : Web} {d : Str → Str → Nat} {rt : List Str} {t x y : Str} {l : List Road}
theorem endOf_inP (T : TreeD W d) (ht : t ∈ W.P) (h : Way W d t x l) (i : Nat) : endOf x (l.take i) ∈ W.P := by
  induction h generalizing i with
  | nil => simpa [endOf] using ht
  | cons hr hi q hl ih =>
    cases i with
    | zero => exact T.inP hr hi
    | succ i => exact ih i
theorem way_down (T : TreeD W d) (ht : t ∈ W.P) (h : Way W d t x l) : ∀ i, i ≤ l.length → d t (endOf x (l.take i)) + i = l.length := by
  induction h with
  | nil =>
    intro i hi
    have hi : i = 0 := by simpa using hi
    subst hi
    have : d t t = 0 := (T.zero t ht t ht).mpr rfl
    simpa [endOf] using this
  | @cons x r l hr hi q hl ih =>
    intro i h
    cases i with
    | zero =>
      have := hl.len T ht
      show d t _ + 0 = _ + 1
      rw [this]
      exact q.symm
    | succ i =>
      have := ih i (by rw [List.length_cons] at h; omega)
      have e : endOf x ((r :: l).take (i + 1)) = endOf (otherEnd r x) (l.take i) := rfl
      rw [List.length_cons, e]
      omega
theorem way_up (T : TreeD W d) (h : Way W d t x l) {a : Str} (ha : a ∈ W.P) : ∀ i, d a (endOf x (l.take i)) ≤ d a x + i := by
  induction h with
  | nil => intro i; simp [endOf]
  | @cons x r l hr hi q hl ih =>
    intro i
    cases i with
    | zero => exact Nat.le_refl _
    | succ i =>
      have := ih i
      have S := T.step hr hi ha
      show d a (endOf (otherEnd r x) (l.take i)) ≤ _
      omega
theorem way_end (h : Way W d t x l) : endOf x l = t := by
  induction h with
  | nil => rfl
  | cons hr hi q hl ih => exact ih
theorem tri (T : TreeD W d) {a b c : Str} (ha : a ∈ W.P) (hb : b ∈ W.P) (hc : c ∈ W.P) : d a b ≤ d a c + d c b := by
  obtain ⟨l, hl⟩ := Way.ex T hb _ c hc rfl
  have := way_up T hl ha l.length
  rw [List.take_length, way_end hl, hl.len T hb, T.symm b hb c hc] at this
  exact this
theorem way_far (T : TreeD W d) (ht : t ∈ W.P) (h : Way W d t x l) : ∀ i, i ≤ l.length → d x (endOf x (l.take i)) = i := by
  intro i hi
  have hx := h.inP' T ht
  have hc := endOf_inP T ht h i
  have h1 := way_up T h hx i
  rw [(T.zero x hx x hx).mpr rfl] at h1
  have h2 := way_down T ht h i hi
  have h3 := tri T hx ht hc
  have h4 := h.len T ht
  have h5 := T.symm t ht _ hc
  have h6 := T.symm t ht _ hx
  omega
/-- the way back -/
theorem way_back (T : TreeD W d) (ht : t ∈ W.P) (h : Way W d t x l) : ∀ i, i ≤ l.length → Way W d x (endOf x (l.take i)) (l.take i).reverse := by
  have hx := h.inP' T ht
  intro i
  induction i with
  | zero => intro _; exact .nil
  | succ i ih =>
    intro hi
    have hi' : i < l.length := hi
    have e : l[i]? = some l[i] := List.getElem?_eq_getElem hi'
    obtain ⟨hm, hc⟩ := h.goes.at i e
    have et : l.take (i + 1) = l.take i ++ [l[i]] := by rw [List.take_add_one, e]; rfl
    have B := T.back hm hc
    rw [et, List.reverse_append, endOf_snoc]
    refine .cons hm B.2 ?_ ?_
    · rw [B.1]
      have h1 := way_far T ht h i (by omega)
      have h2 := way_far T ht h (i + 1) hi
      rw [et, endOf_snoc] at h2
      omega
    · rw [B.1]; exact ih (by omega)
theorem way_rev (T : TreeD W d) (ht : t ∈ W.P) (h : Way W d t x l) : Way W d x t l.reverse := by
  have := way_back T ht h l.length (Nat.le_refl _)
  rwa [List.take_length, way_end h] at this
/-! ### falls and rises -/
def falls (rt : List Str) : List Road → Nat
  | r :: s :: l => falls rt (s :: l) + if rk rt s < rk rt r then 0 else 1
  | _ => 0
def rises (rt : List Str) : List Road → Nat
  | r :: s :: l => rises rt (s :: l) + if rk rt r < rk rt s then 0 else 1
  | _ => 0
theorem dayOf_falls : ∀ (r : Road) (l : List Road), dayOf rt (r :: l) = 1 + falls rt (r :: l)
  | _, [] => rfl
  | r, s :: l => by
    show dayOf rt (s :: l) + _ = 1 + (falls rt (s :: l) + _)
    rw [dayOf_falls s l]
    omega
theorem falls_snoc : ∀ (l : List Road) (r s : Road), falls rt (l ++ [r, s]) = falls rt (l ++ [r]) + if rk rt s < rk rt r then 0 else 1
  | [], r, s => by show 0 + _ = 0 + _; rfl
  | [a], r, s => by show (0 + _) + _ = (0 + _) + _; omega
  | a :: b :: l, r, s => by
    show falls rt (b :: l ++ [r, s]) + _ = (falls rt (b :: l ++ [r]) + _) + _
    rw [falls_snoc (b :: l) r s]
    omega
theorem falls_rev : ∀ l : List Road, falls rt l.reverse = rises rt l
  | [] => rfl
  | [_] => rfl
  | r :: s :: l => by
    have : (r :: s :: l).reverse = l.reverse ++ [s, r] := by simp
    rw [this, falls_snoc]
    have e : l.reverse ++ [s] = (s :: l).reverse := by simp
    rw [e, falls_rev (s :: l)]
    rfl
theorem falls_rises (hw : Wf W) (hR : RotaOf W rt) : ∀ (r : Road) (l : List Road), (∀ q ∈ r :: l, q ∈ W.R) → (r :: l).Nodup → falls rt (r :: l) + rises rt (r :: l) = l.length
  | _, [], _, _ => rfl
  | r, s :: l, hm, hn => by
    have ih := falls_rises hw hR s l (fun q hq => hm q (List.mem_cons_of_mem _ hq)) (List.nodup_cons.mp hn).2
    show (falls rt (s :: l) + (if rk rt s < rk rt r then 0 else 1)) + (rises rt (s :: l) + (if rk rt r < rk rt s then 0 else 1)) = l.length + 1
    have ne : rk rt r ≠ rk rt s := fun e => by
      have := rk_inj hw hR (hm r List.mem_cons_self) (hm s (by simp)) e
      subst this
      exact (List.nodup_cons.mp hn).1 List.mem_cons_self
    by_cases h : rk rt s < rk rt r
    · rw [if_pos h, if_neg (by omega)]; omega
    · rw [if_neg h, if_pos (by omega)]; omega
theorem way_roads (h : Way W d t x l) : ∀ q ∈ l, q ∈ W.R := by
  induction h with
  | nil => intro q hq; cases hq
  | cons hr hi q hl ih =>
    intro s hs
    rcases List.mem_cons.mp hs with rfl | hs
    · exact hr
    · exact ih s hs
theorem way_nearer (h : Way W d t x l) : ∀ q ∈ l, (d t q.2.1 ≤ d t x ∧ d t q.2.2 ≤ d t x) := by
  induction h with
  | nil => intro q hq; cases hq
  | cons hr hi q hl ih =>
    intro s hs
    rcases List.mem_cons.mp hs with rfl | hs
    · rcases otherEnd_or hi with ⟨h1, h2⟩ | ⟨h1, h2⟩ <;> rw [← h1] <;> rw [h2] at q <;> omega
    · have := ih s hs
      omega
theorem way_nd (h : Way W d t x l) : l.Nodup := by
  induction h with
  | nil => exact List.nodup_nil
  | cons hr hi q hl ih =>
    refine List.nodup_cons.mpr ⟨fun k => ?_, ih⟩
    have := way_nearer hl _ k
    rcases otherEnd_or hi with ⟨h1, h2⟩ | ⟨h1, h2⟩ <;> rw [← h1] at this <;> omega
/-- there and back -/
theorem both_ways (T : TreeD W d) (hR : RotaOf W rt) (hx : x ∈ W.P) (hy : y ∈ W.P) (ne : x ≠ y) : dy W d rt x y + dy W d rt y x = d x y + 1 := by
  obtain ⟨l, hl⟩ := Way.ex T hx _ y hy rfl
  rw [dy_eq T hx hl, dy_eq T hy (way_rev T hx hl), ← hl.len T hx]
  cases l with
  | nil => cases hl; exact absurd rfl ne
  | cons r l =>
    have h1 := falls_rises T.toWf hR r l (way_roads hl) (way_nd hl)
    have h2 := falls_rev (rt := rt) (r :: l)
    cases e : (r :: l).reverse with
    | nil => simp at e
    | cons s m =>
      rw [dayOf_falls, dayOf_falls, ← e, h2, List.length_cons]
      omega
theorem days_least (T : TreeD W d) (hR : RotaOf W rt) (hx : x ∈ W.P) (hy : y ∈ W.P) (ne : x ≠ y) : d x y / 2 + 1 ≤ dy W d rt x y ∨ d x y / 2 + 1 ≤ dy W d rt y x := by
  have := both_ways T hR hx hy ne
  omega
/-- a rota by which the news takes a day for each road -/
theorem slow_day : ∀ {l m : List Road}, ((l ++ m).map (·.1)).Nodup → ∀ {rt : List Str} {k : Nat}, (∀ i r, l[i]? = some r → rk rt r = i + k) → dayOf rt l = l.length
  | [], _, _, _, _, _ => rfl
  | [_], _, _, _, _, _ => rfl
  | r :: s :: l, m, hn, rt, k, h => by
    have ih := slow_day (l := s :: l) (m := m) (by rw [List.cons_append, List.map_cons, List.nodup_cons] at hn; exact hn.2) (rt := rt) (k := k + 1) fun i q hq => by
      have := h (i + 1) q (by simpa using hq)
      omega
    show dayOf rt (s :: l) + (if rk rt s < rk rt r then 0 else 1) = (s :: l).length + 1
    have h0 := h 0 r rfl
    have h1 := h 1 s rfl
    rw [ih, if_neg (by omega)]
/-- a rota with l's roads first -/
theorem rota_first (hw : Wf W) (hm : ∀ q ∈ l, q ∈ W.R) (hn : l.Nodup) : ∃ rt, RotaOf W rt ∧ ∀ i r, l[i]? = some r → rk rt r = i := by
  have hln : (l.map (·.1)).Nodup := by
    have : ∀ {l : List Road}, (∀ q ∈ l, q ∈ W.R) → l.Nodup → (l.map (·.1)).Nodup := by
      intro l
      induction l with
      | nil => intro _ _; exact List.nodup_nil
      | cons a l ih =>
        intro hm hn
        rw [List.nodup_cons] at hn
        rw [List.map_cons, List.nodup_cons]
        refine ⟨fun k => ?_, ih (fun q hq => hm q (List.mem_cons_of_mem _ hq)) hn.2⟩
        obtain ⟨b, hb, e⟩ := List.mem_map.mp k
        have := name_inj hw (hm b (List.mem_cons_of_mem _ hb)) (hm a List.mem_cons_self) e
        exact hn.1 (this ▸ hb)
    exact this hm hn
  have hsub : ∀ z ∈ l.map (·.1), z ∈ W.names := fun z hz => by
    obtain ⟨b, hb, e⟩ := List.mem_map.mp hz
    exact List.mem_map.mpr ⟨b, hm b hb, e⟩
  have hnd : (l.map (·.1) ++ W.names.filter (fun z => decide (z ∉ l.map (·.1)))).Nodup := by
    rw [List.nodup_append]
    refine ⟨hln, hw.nn.filter _, fun a ha b hb e => ?_⟩
    have := of_decide_eq_true (List.mem_filter.mp hb).2
    exact this (e ▸ ha)
  refine ⟨_, ⟨(List.perm_ext_iff_of_nodup hnd hw.nn).mpr fun z => ?_⟩, fun i r hr => ?_⟩
  · rw [List.mem_append, List.mem_filter]
    constructor
    · rintro (h | h)
      · exact hsub z h
      · exact h.1
    · intro h
      by_cases k : z ∈ l.map (·.1)
      · exact .inl k
      · exact .inr ⟨h, decide_eq_true k⟩
  · refine ixOf_at hnd ?_
    have hi : i < (l.map (·.1)).length := by rw [List.length_map]; exact (List.getElem?_eq_some_iff.mp hr).1
    rw [List.getElem?_append_left hi, List.getElem?_map, hr]; rfl
theorem worst (T : TreeD W d) (hx : x ∈ W.P) (hy : y ∈ W.P) : ∃ rt, RotaOf W rt ∧ dy W d rt x y = d x y := by
  obtain ⟨l, hl⟩ := Way.ex T hx _ y hy rfl
  obtain ⟨rt, hR, hk⟩ := rota_first T.toWf (way_roads hl) (way_nd hl)
  refine ⟨rt, hR, ?_⟩
  rw [dy_eq T hx hl, ← hl.len T hx]
  refine slow_day (m := []) (k := 0) ?_ fun i r h => hk i r h
  rw [List.append_nil]
  have := hR.nd T.toWf
  have e : ∀ i r, l[i]? = some r → ixOf rt r.1 = i := hk
  rw [List.nodup_iff_pairwise_ne, List.pairwise_map]
  refine (List.pairwise_iff_getElem.mpr fun i j hi hj hij => ?_)
  intro k
  have a := e i _ (List.getElem?_eq_getElem hi)
  have b := e j _ (List.getElem?_eq_getElem hj)
  rw [k, b] at a
  omega
/-! ### rotas alike -/
theorem ix_filter {q : Str → Bool} : ∀ {l : List Str} {a b : Str}, a ∈ l → b ∈ l → q a = true → q b = true → (ixOf l a < ixOf l b ↔ ixOf (l.filter q) a < ixOf (l.filter q) b)
  | z :: l, a, b, ha, hb, qa, qb => by
    by_cases hz : q z = true
    · rw [List.filter_cons, if_pos hz]
      show (if z = a then 0 else ixOf l a + 1) < (if z = b then 0 else ixOf l b + 1) ↔ (if z = a then 0 else ixOf (l.filter q) a + 1) < (if z = b then 0 else ixOf (l.filter q) b + 1)
      by_cases e1 : z = a
      · by_cases e2 : z = b
        · rw [if_pos e1, if_pos e2, if_pos e1, if_pos e2]
        · rw [if_pos e1, if_neg e2, if_pos e1, if_neg e2]; omega
      · by_cases e2 : z = b
        · simp [e1, e2]
        · have ha : a ∈ l := (List.mem_cons.mp ha).resolve_left fun e => e1 e.symm
          have hb : b ∈ l := (List.mem_cons.mp hb).resolve_left fun e => e2 e.symm
          have := ix_filter ha hb qa qb
          rw [if_neg e1, if_neg e2, if_neg e1, if_neg e2]
          omega
    · have e1 : ¬ z = a := fun e => hz (e ▸ qa)
      have e2 : ¬ z = b := fun e => hz (e ▸ qb)
      have ha : a ∈ l := (List.mem_cons.mp ha).resolve_left fun e => e1 e.symm
      have hb : b ∈ l := (List.mem_cons.mp hb).resolve_left fun e => e2 e.symm
      have := ix_filter ha hb qa qb
      rw [List.filter_cons, if_neg hz]
      show (if z = a then 0 else ixOf l a + 1) < (if z = b then 0 else ixOf l b + 1) ↔ _
      rw [if_neg e1, if_neg e2]
      omega
/-- q tells, of a name, whether its road ends at a place -/
theorem days_alike {rt' : List Str} {q : Str → Str → Bool} (T : TreeD W d) (hR : RotaOf W rt) (hR' : RotaOf W rt') (hq : ∀ r ∈ W.R, ∀ y ∈ W.P, inc y r → q y r.1 = true) (he : ∀ y ∈ W.P, rt.filter (q y) = rt'.filter (q y)) (ht : t ∈ W.P) (hx : x ∈ W.P) : dy W d rt t x = dy W d rt' t x := by
  have h := wayOf_ok T ht hx
  rw [dy_eq T ht h, dy_eq T ht h]
  generalize wayOf W d t x = l at h
  clear hx
  induction h with
  | nil => rfl
  | @cons x r l hr hi qq hl ih =>
    cases l with
    | nil => rfl
    | cons s l =>
      show dayOf rt (s :: l) + _ = dayOf rt' (s :: l) + _
      rw [ih]
      cases hl with
      | cons hs hi' _ _ =>
        have hy : otherEnd r x ∈ W.P := T.other hr
        have B := T.back hr hi
        have q1 := hq r hr _ hy B.2
        have q2 := hq s hs _ hy hi'
        have a := ix_filter (q := q (otherEnd r x)) (hR.mem hs) (hR.mem hr) q2 q1
        have b := ix_filter (q := q (otherEnd r x)) (hR'.mem hs) (hR'.mem hr) q2 q1
        rw [he _ hy] at a
        have c : (rk rt s < rk rt r) ↔ (rk rt' s < rk rt' r) := a.trans b.symm
        by_cases k : rk rt s < rk rt r
        · rw [if_pos k, if_pos (c.mp k)]
        · rw [if_neg k, if_neg (fun z => k (c.mpr z))]
end
end R
set_option maxHeartbeats 4000000
/-! the middle of a tree; the rota by levels -/
namespace R
open PySem L2
section
variable {W : Web} {d : Str → Str → Nat} {rt : List Str} {t x y : Str} {l : List Road}
/-- whom one reaches over r, turned away from p, one reaches through c -/
theorem out (T : TreeD W d) {p c : Str} (hp : p ∈ W.P) (hc : c ∈ W.P) {r : Road} (hr : r ∈ W.R) (hi : inc c r) (no : ¬ d p (otherEnd r c) + 1 = d p c) :
    ∀ (k : Nat) (y : Str), y ∈ W.P → d c y = k + 1 → d y (otherEnd r c) + 1 = d y c → d p y = d p c + (k + 1) := by
  have hz : otherEnd r c ∈ W.P := T.other hr
  intro k
  induction k with
  | zero =>
    intro y hy e q
    have e' := T.symm c hc y hy
    have e0 : d y (otherEnd r c) = 0 := by omega
    have := (T.zero y hy _ hz).mp e0
    have S := T.step hr hi hp
    rw [this]
    omega
  | succ k ih =>
    intro y hy e q
    have ne : c ≠ y := fun z => by rw [(T.zero c hc y hy).mpr z] at e; cases e
    obtain ⟨s, hs, his, qs⟩ := T.next c hc y hy ne
    have hy' : otherEnd s y ∈ W.P := T.other hs
    have e1 : d c (otherEnd s y) = k + 1 := by omega
    have c1 := T.symm c hc y hy
    have c2 := T.symm c hc _ hy'
    have c3 := T.symm _ hz _ hy'
    have c4 := T.symm _ hz y hy
    have S1 := T.step hs his hz
    have S2 := T.step hr hi hy'
    have Bk := T.back hs his
    have ne' : c ≠ otherEnd s y := fun z => by rw [(T.zero c hc _ hy').mpr z] at e1; cases e1
    obtain ⟨s2, hs2, his2, qs2⟩ := T.next c hc _ hy' ne'
    have hy2 : otherEnd s2 (otherEnd s y) ∈ W.P := T.other hs2
    -- r leads to the one before, too
    have q' : d (otherEnd s y) (otherEnd r c) + 1 = d (otherEnd s y) c := by
      rcases Nat.lt_or_ge (d (otherEnd s y) (otherEnd r c)) (k + 1) with h | h
      · omega
      · exfalso
        have f1 : d (otherEnd r c) (otherEnd s y) = k + 2 := by omega
        have f2 : d (otherEnd r c) y = k + 1 := by omega
        have S3 := T.step hs2 his2 hz
        have S4 := T.step hr hi hy2
        have c5 := T.symm c hc _ hy2
        have c6 := T.symm _ hz _ hy2
        have f3 : d (otherEnd r c) (otherEnd s2 (otherEnd s y)) + 1 = d (otherEnd r c) (otherEnd s y) := by omega
        have f4 : d (otherEnd r c) (otherEnd s (otherEnd s y)) + 1 = d (otherEnd r c) (otherEnd s y) := by rw [Bk.1]; omega
        have := T.uniq _ hz _ hy' s2 hs2 s hs his2 Bk.2 f3 f4
        rw [this, Bk.1] at qs2
        omega
    have g := ih (otherEnd s y) hy' e1 q'
    have S5 := T.step hs his hp
    rcases S5 with S5 | S5
    · omega
    · exfalso
      -- then s leads from there to p, as s2 does
      have S6 := T.step hs2 his2 hp
      have f1 : d p (otherEnd s (otherEnd s y)) + 1 = d p (otherEnd s y) := by rw [Bk.1]; omega
      have f2 : d p (otherEnd s2 (otherEnd s y)) + 1 = d p (otherEnd s y) := by
        cases k with
        | zero =>
          have : otherEnd s2 (otherEnd s y) = c := ((T.zero c hc _ hy2).mp (by omega)).symm
          rw [this]; omega
        | succ k =>
          -- the one before that lies on the same side
          have e2 : d c (otherEnd s2 (otherEnd s y)) = k + 1 := by omega
          have S7 := T.step hr hi hy2
          have c7 := T.symm c hc _ hy2
          have c8 := T.symm _ hz _ hy2
          have S8 := T.step hs2 his2 hz
          have h1 := tri T hp hy hc
          have h2 := tri T hp hy2 hc
          omega
      have := T.uniq p hp _ hy' s hs s2 hs2 Bk.2 his2 f1 f2
      rw [← this, Bk.1] at qs2
      omega
/-- n is the greatest distance, from x to y -/
structure Far (W : Web) (d : Str → Str → Nat) (n : Nat) (x y : Str) : Prop where
  hx : x ∈ W.P
  hy : y ∈ W.P
  eq : d x y = n
  le : ∀ a ∈ W.P, ∀ b ∈ W.P, d a b ≤ n
/-- from c on the way from x to t, nobody is farther than the farther of these two -/
theorem cen (T : TreeD W d) {n : Nat} (F : Far W d n x t) {c : Str} (hc : c ∈ W.P) (e : d x c + d c t = n) (hy : y ∈ W.P) (ne : c ≠ y) {r : Road} (hr : r ∈ W.R) (hi : inc c r) (q : d y (otherEnd r c) + 1 = d y c) :
    (¬ d x (otherEnd r c) + 1 = d x c ∧ d c y ≤ d c t) ∨ (¬ d t (otherEnd r c) + 1 = d t c ∧ d c y ≤ d x c) := by
  have ho : otherEnd r c ∈ W.P := T.other hr
  cases k : d c y with
  | zero => exact absurd ((T.zero c hc y hy).mp k) ne
  | succ k' =>
    by_cases h1 : d x (otherEnd r c) + 1 = d x c
    · by_cases h2 : d t (otherEnd r c) + 1 = d t c
      · exfalso
        have := tri T F.hx F.hy ho
        have s1 := T.symm _ ho t F.hy
        have s2 := T.symm c hc t F.hy
        have := F.eq
        omega
      · right
        have := out T F.hy hc hr hi h2 k' y hy k q
        have le := F.le t F.hy y hy
        have s2 := T.symm c hc t F.hy
        exact ⟨h2, by omega⟩
    · left
      have := out T F.hx hc hr hi h1 k' y hy k q
      have le := F.le x F.hx y hy
      exact ⟨h1, by omega⟩
/-- the middle: one place or two -/
inductive MidOf (W : Web) (d : Str → Str → Nat) (h : Nat) : List Str → Prop
  | one {c : Str} : c ∈ W.P → (∀ y ∈ W.P, d c y ≤ h) → MidOf W d h [c]
  | two {c1 c2 : Str} {z : Road} : z ∈ W.R → inc c1 z → otherEnd z c1 = c2 → (∀ y ∈ W.P, d c1 y ≤ h ∨ d c2 y ≤ h) → MidOf W d h [c1, c2]
theorem stops_at : ∀ {l : List Road} {x : Str} (i : Nat), i ≤ l.length → (x :: stops x l)[i]? = some (endOf x (l.take i))
  | _, _, 0, _ => by simp [endOf]
  | [], _, i + 1, h => by simp at h
  | r :: l, x, i + 1, h => by
    have := stops_at (l := l) (x := otherEnd r x) i (by simpa using h)
    show (otherEnd r x :: stops (otherEnd r x) l)[i]? = _
    rw [this]; rfl
theorem cut_one {α : Type} {L : List α} {i : Nat} {a : α} (h : L[i]? = some a) : (L.drop i).take 1 = [a] := by
  obtain ⟨hi, e⟩ := List.getElem?_eq_some_iff.mp h
  rw [List.drop_eq_getElem_cons hi, e]; rfl
theorem cut_two {α : Type} {L : List α} {i : Nat} {a b : α} (h : L[i]? = some a) (h' : L[i + 1]? = some b) : (L.drop i).take 2 = [a, b] := by
  obtain ⟨hi, e⟩ := List.getElem?_eq_some_iff.mp h
  obtain ⟨hi', e'⟩ := List.getElem?_eq_some_iff.mp h'
  rw [List.drop_eq_getElem_cons hi, List.drop_eq_getElem_cons hi', e, e']; rfl
theorem mid_of (T : TreeD W d) {n : Nat} (F : Far W d n x t) (hl : Way W d t x l) : MidOf W d (n / 2) (((x :: stops x l).drop (n / 2)).take (n - n / 2 + 1 - n / 2)) := by
  have ln : l.length = n := by rw [hl.len T F.hy, T.symm t F.hy x F.hx, F.eq]
  have hc := endOf_inP T F.hy hl (n / 2)
  have f1 := way_far T F.hy hl (n / 2) (by omega)
  have f2 := way_down T F.hy hl (n / 2) (by omega)
  have a1 := stops_at (l := l) (x := x) (n / 2) (by omega)
  have s1 := T.symm t F.hy _ hc
  have e : d x (endOf x (l.take (n / 2))) + d (endOf x (l.take (n / 2))) t = n := by omega
  by_cases hn : n = 2 * (n / 2)
  · have ek : n - n / 2 + 1 - n / 2 = 1 := by omega
    rw [ek, cut_one a1]
    refine .one hc fun y hy => ?_
    by_cases ne : endOf x (l.take (n / 2)) = y
    · rw [(T.zero _ hc y hy).mpr ne]; omega
    · obtain ⟨r, hr, hi, q⟩ := T.next y hy _ hc (fun e => ne e.symm)
      rcases cen T F hc e hy ne hr hi q with h | h
      · have := h.2; omega
      · have := h.2; omega
  · have ek : n - n / 2 + 1 - n / 2 = 2 := by omega
    have a2 := stops_at (l := l) (x := x) (n / 2 + 1) (by omega)
    rw [ek, cut_two a1 a2]
    have hlt : n / 2 < l.length := by omega
    have el : l[n / 2]? = some l[n / 2] := List.getElem?_eq_getElem hlt
    obtain ⟨hz, hiz⟩ := hl.goes.at (n / 2) el
    have et : endOf x (l.take (n / 2 + 1)) = otherEnd l[n / 2] (endOf x (l.take (n / 2))) := by
      rw [List.take_add_one, el]
      exact endOf_snoc x (l.take (n / 2)) l[n / 2]
    have g2 := way_down T F.hy hl (n / 2 + 1) (by omega)
    refine .two hz hiz et.symm fun y hy => ?_
    by_cases ne : endOf x (l.take (n / 2)) = y
    · left; rw [(T.zero _ hc y hy).mpr ne]; omega
    · obtain ⟨r, hr, hi, q⟩ := T.next y hy _ hc (fun e => ne e.symm)
      rcases cen T F hc e hy ne hr hi q with h | h
      · by_cases tt : d t (otherEnd r (endOf x (l.take (n / 2)))) + 1 = d t (endOf x (l.take (n / 2)))
        · -- r is the road onward
          right
          have := T.uniq t F.hy _ hc r hr _ hz hi hiz tt (by rw [← et]; omega)
          rw [et, ← this]
          have := h.2
          have s2 := T.symm y hy _ hc
          have s3 := T.symm y hy _ (T.other hr (x := endOf x (l.take (n / 2))))
          omega
        · left
          cases k : d (endOf x (l.take (n / 2))) y with
          | zero => omega
          | succ k' =>
            have := out T F.hy hc hr hi tt k' y hy k q
            have := F.le t F.hy y hy
            omega
      · left
        have := h.2
        omega
/-! ### levels -/
structure Lev (W : Web) (d : Str → Str → Nat) (h : Nat) (dep : Str → Nat) (lv : Road → Nat) : Prop where
  dh : ∀ y ∈ W.P, dep y ≤ h
  cls : ∀ r ∈ W.R, ∀ y, inc y r → (lv r = dep y ∧ dep (otherEnd r y) = dep y - 1) ∨ (lv r = dep y + 1 ∧ dep (otherEnd r y) = dep y + 1)
  up1 : ∀ y, ∀ r ∈ W.R, ∀ s ∈ W.R, inc y r → inc y s → lv r = dep y → lv s = dep y → r = s
theorem lev_days (T : TreeD W d) {h : Nat} {dep : Str → Nat} {lv : Road → Nat} (L : Lev W d h dep lv) (ho : ∀ r ∈ W.R, ∀ s ∈ W.R, lv r % 2 = 1 → lv s % 2 = 0 → rk rt r < rk rt s) (ht : t ∈ W.P) :
    ∀ {l : List Road} {x : Str} {r : Road}, Way W d t x (r :: l) → (lv r = dep x + 1 ∧ dayOf rt (r :: l) + (dep x + 1) / 2 ≤ 1 + h / 2) ∨ (lv r = dep x ∧ dayOf rt (r :: l) ≤ 1 + h / 2 + (dep x + 1) / 2)
  | [], x, r, hw => by
    cases hw with
    | cons hr hi q hl =>
      have hx := T.inP hr hi
      have c := L.cls r hr x hi
      have d1 := L.dh x hx
      have d2 := L.dh _ (T.other hr (x := x))
      have e : dayOf rt [r] = 1 := rfl
      rw [e]
      omega
  | s :: l, x, r, hw => by
    cases hw with
    | cons hr hi q hl =>
      have ih := lev_days T L ho ht hl
      cases hl with
      | cons hs his qs hl' =>
        have B := T.back hr hi
        have c := L.cls r hr _ B.2
        rw [B.1] at c
        have ne : ¬ (lv s = dep (otherEnd r x) ∧ lv r = dep (otherEnd r x)) := fun ⟨k1, k2⟩ => by
          have := L.up1 _ r hr s hs B.2 his k2 k1
          subst this
          rw [B.1] at qs
          omega
        have o := ho s hs r hr
        have e : dayOf rt (r :: s :: l) = dayOf rt (s :: l) + if rk rt s < rk rt r then 0 else 1 := rfl
        rw [e]
        by_cases k : rk rt s < rk rt r
        · rw [if_pos k]
          omega
        · rw [if_neg k]
          have o' : ¬ (lv s % 2 = 1 ∧ lv r % 2 = 0) := fun ⟨k1, k2⟩ => k (o k1 k2)
          omega
theorem lev_most (T : TreeD W d) {h : Nat} {dep : Str → Nat} {lv : Road → Nat} (L : Lev W d h dep lv) (ho : ∀ r ∈ W.R, ∀ s ∈ W.R, lv r % 2 = 1 → lv s % 2 = 0 → rk rt r < rk rt s) (ht : t ∈ W.P) (hx : x ∈ W.P) : dy W d rt t x ≤ h + 1 := by
  have hw := wayOf_ok T ht hx
  rw [dy_eq T ht hw]
  have := L.dh x hx
  cases e : wayOf W d t x with
  | nil => exact Nat.zero_le _
  | cons r l =>
    rw [e] at hw
    have := lev_days (rt := rt) T L ho ht hw
    omega
end
end R
set_option maxHeartbeats 4000000
namespace R
open PySem PySem.Spec PyProof.Rows L2
/-! ### greatest of a list -/
def mx : List Int → Int
  | [] => 0
  | [a] => a
  | a :: b :: l => max a (mx (b :: l))
theorem mx_ge : ∀ {l : List Int} {y : Int}, y ∈ l → y ≤ mx l
  | [a], y, h => by
    simp at h
    subst h
    exact Int.le_refl _
  | a :: b :: l, y, h => by
    show y ≤ max a (mx (b :: l))
    rcases List.mem_cons.mp h with rfl | h
    · omega
    · have := mx_ge h
      omega
theorem mx_mem : ∀ {l : List Int}, l ≠ [] → mx l ∈ l
  | [a], _ => by simp [mx]
  | a :: b :: l, _ => by
    show max a (mx (b :: l)) ∈ _
    have := mx_mem (l := b :: l) (by simp)
    by_cases h : mx (b :: l) ≤ a
    · rw [show max a (mx (b :: l)) = a by omega]; exact List.mem_cons_self
    · rw [show max a (mx (b :: l)) = mx (b :: l) by omega]; exact List.mem_cons_of_mem _ this
theorem mx_eq {l : List Int} {m : Int} (h : m ∈ l) (g : ∀ y ∈ l, y ≤ m) : m = mx l := by
  have h1 := mx_ge h
  have h2 := g _ (mx_mem (List.ne_nil_of_mem h))
  omega
def ixI : List Int → Int → Nat
  | [], _ => 0
  | y :: l, x => if y = x then 0 else ixI l x + 1
theorem ixI_mem : ∀ {l : List Int} {x : Int}, x ∈ l → l[ixI l x]? = some x
  | y :: l, x, h => by
    show (y :: l)[if y = x then 0 else ixI l x + 1]? = some x
    by_cases e : y = x
    · rw [if_pos e, e]; rfl
    · rw [if_neg e]
      rcases List.mem_cons.mp h with h | h
      · exact absurd h.symm e
      · have := ixI_mem h
        simpa using this
theorem ixI_first : ∀ {l : List Int} {x z : Int} {m : Nat}, m < ixI l x → l[m]? = some z → z ≠ x
  | [], _, _, _, h, _ => by cases h
  | y :: l, x, z, m, h, e => by
    have h : m < if y = x then 0 else ixI l x + 1 := h
    by_cases ey : y = x
    · rw [if_pos ey] at h; cases h
    · rw [if_neg ey] at h
      cases m with
      | zero => simp at e; subst e; exact ey
      | succ m => exact ixI_first (l := l) (m := m) (by omega) (by simpa using e)
theorem eqV_int (a b : Int) : eqV (.int a) (.int b) = decide (a = b) := by
  by_cases h : a = b
  · subst h; simp [eqV]
  · rw [decide_eq_false h]; simp [eqV, h]
theorem flat_ints (l : List Int) : (l.map V.int).all flatV = true := by rw [List.all_map]; exact List.all_eq_true.mpr fun _ _ => rfl
section
variable {P : Program} {w : World} {K : PySem.W.Frag} {mg : Str → Option Value} {base : Heap}
/-- xs.index(v), whole numbers -/
theorem ix_ints {H : Hp} {L : Addr} {l : List Int} {v : Int} {Q : VK} (hL : SqL K H L (l.map V.int)) (hv : v ∈ l) (q : Q (.int (ixI l v : Nat)) H) : rIndex K (.ref L) [.int v] H Q := by
  refine ⟨L, l.map V.int, .int v, ixI l v, .int v, rfl, rfl, hL, rfl, flat_ints l, ?_, ?_, fun m z' hm e => ?_, q⟩
  · rw [List.getElem?_map, ixI_mem hv]; rfl
  · rw [eqV_int]; exact decide_eq_true rfl
  · obtain ⟨y, hy, rfl⟩ := at_map e
    rw [eqV_int]
    exact decide_eq_false (ixI_first hm hy)
/-- max(xs) -/
theorem max_ints {H : Hp} {L : Addr} {l : List Int} {Q : VK} (hL : SqL K H L (l.map V.int)) (hl : l ≠ []) (q : Q (.int (mx l)) H) : rMax K [.ref L] H Q :=
  ⟨L, l, rfl, hL, List.length_pos_iff.mpr hl, fun m h g => by rw [mx_eq h g]; exact q⟩
/-- [max(row) for row in rows] -/
theorem lc_maxes {m : List (List Int)} {L : Addr} {xs : List V} {i : Nat} {σ : L2.St} {H1 : Hp} {D : Addr} {Qd : Hp → Prop} (hD : H1 D = none) (hL : SqL K H1 L xs) (hm : DpAll K H1 xs (m.map intsD)) (hne : ∀ row ∈ m, row ≠ []) (hz : m.length ≤ 100000)
    (h1 : ∀ x, ((wipe σ [i]).set i (some x))[i]? = some (some x)) (h2 : ∀ x, wipe ((wipe σ [i]).set i (some x)) [i] = wipe σ [i])
    (hd : ∀ H, Same H1 H → H D = some (.lst ((m.map mx).map V.int)) → Qd H) :
    ∃ W : Nat → Nat → Hp → Prop, (∃ k, W 0 k (upd H1 D (.lst []))) ∧ ∀ j k H, W j k H →
      ((Itl K L).stop j H ∧ Qd H) ∨ ((Itl K L).go j H ∧ ∃ Nx : Hp → Prop, (∀ H', Nx H' → ∃ k', k' < k ∧ W (j + 1) k' H') ∧ ∀ x H', (Itl K L).yld j H x H' → (gName i) x (wipe σ [i]) H' fun σ2 H2 => wipe σ2 [i] = wipe σ [i] ∧ tYes σ2 H2 fun b H3 =>
        if b = true then (aCB (rMax K) (aCons (aVar i) aNil)) σ2 H3 fun y H4 => ∃ acc, H4 D = some (.lst acc) ∧ acc.length < sizeLine ∧ Nx (upd H4 D (.lst (acc ++ [y]))) else Nx H3) := by
  have hlen : xs.length = m.length := by rw [hm.length, List.length_map]
  refine lc_lstD (K := K) (a := L) (xs := xs) ((m.map mx).map .int) hD hL (by rw [hlen]; simp) (by omega) ?_ ?_
  · intro j x e H acc Q2 u1 hD2 hx he k
    obtain ⟨v, hv, rfl⟩ := at_map he
    obtain ⟨row, hrow, rfl⟩ := at_map hv
    have hdx := (hm.both hx (map_at hrow)).mono u1
    obtain ⟨R, ys, rfl, hR, hys⟩ := hdx.lstI
    rw [hys.ints] at hR
    refine ⟨h2 _, ?_⟩
    refine ⟨_, h1 _, ?_⟩
    exact max_ints hR (hne row (mem_at hrow)) (k _ _ (Same.refl _) (.int _))
  · intro H ys u1 hy hda
    have : ys = (m.map mx).map V.int := DpAll.ints hda
    rw [this] at hy
    exact hd H u1 hy
def farD (n : Nat) (x y : Str) : PyData := .tuple [.int n, .str x, .str y]
theorem far_parts {H : Hp} {v : V} {n : Nat} {x y : Str} (h : Dp K H v (farD n x y)) : ∃ a, v = .ref a ∧ SqT K H a [.int n, .str x, .str y] := by
  obtain ⟨a, xs, rfl, h1, h2⟩ := h.tupI
  cases h2 with
  | cons e1 h2 => cases h2 with
    | cons e2 h2 => cases h2 with
      | cons e3 h2 =>
        cases h2
        rw [e1.intI, e2.strI, e3.strI] at h1
        exact ⟨a, rfl, h1⟩
theorem dRows_ne {W : Web} {d : Str → Str → Nat} (hp : W.P ≠ []) : ∀ row ∈ dRows W d, row ≠ [] := by
  intro row h
  obtain ⟨a, _, rfl⟩ := List.mem_map.mp h
  unfold dRow
  simpa using hp
theorem TreeD.pne {W : Web} {d : Str → Str → Nat} (T : TreeD W d) : W.P ≠ [] := fun e => by have := T.cnt; rw [e] at this; simp at this
/-- the greatest of all -/
theorem great_all {W : Web} {f : Str → Str → Nat} (hp : W.P ≠ []) : ∃ x y, x ∈ W.P ∧ y ∈ W.P ∧ mx ((W.P.map fun a => W.P.map fun b => (f a b : Int)).map mx) = (f x y : Nat) ∧ ∀ a ∈ W.P, ∀ b ∈ W.P, f a b ≤ f x y := by
  have h1 := mx_mem (l := (W.P.map fun a => W.P.map fun b => (f a b : Int)).map mx) (by simpa using hp)
  obtain ⟨row, hrow, e1⟩ := List.mem_map.mp h1
  obtain ⟨x, hx, rfl⟩ := List.mem_map.mp hrow
  have h2 := mx_mem (l := W.P.map fun b => (f x b : Int)) (by simpa using hp)
  obtain ⟨y, hy, e2⟩ := List.mem_map.mp h2
  refine ⟨x, y, hx, hy, by rw [← e1, ← e2], fun a ha b hb => ?_⟩
  have g1 := mx_ge (l := W.P.map fun b => (f a b : Int)) (List.mem_map.mpr ⟨b, hb, rfl⟩)
  have g2 := mx_ge (l := (W.P.map fun a => W.P.map fun b => (f a b : Int)).map mx) (List.mem_map.mpr ⟨_, List.mem_map.mpr ⟨a, ha, rfl⟩, rfl⟩)
  rw [← e1, ← e2] at g2
  omega
noncomputable def fX (W : Web) (d : Str → Str → Nat) : Str := (W.P[ixI ((dRows W d).map mx) (mx ((dRows W d).map mx))]?).getD ""
noncomputable def fY (W : Web) (d : Str → Str → Nat) : Str := (W.P[ixI (dRow W d (fX W d)) (mx ((dRows W d).map mx))]?).getD ""
noncomputable def fN (W : Web) (d : Str → Str → Nat) : Nat := d (fX W d) (fY W d)
def sp_longest (K : PySem.W.Frag) : Sp := fun vs H Q _ => ∃ v W d, vs = [v] ∧ WebAt K H v W ∧ TreeD W d ∧ ∀ H' v', Same H H' → Far W d (fN W d) (fX W d) (fY W d) → Dp K H' v' (farD (fN W d) (fX W d) (fY W d)) → Q v' H'
theorem ok_longest (F : DefAt K mg "longest" s_longest ["web"]) (B : Blt mg) (G_distance_rows : Ok P w K mg base CX0 3 "distance_rows" ["web"] (sp_distance_rows K)) : Ok P w K mg base CX0 4 "longest" ["web"] (sp_longest K) := by
  refine ok_of F sc_longest (fun vs H Q E h => by obtain ⟨_, _, _, rfl, _⟩ := h; rfl) fun f cdv A outer s H vs Q E hr h => ?_
  obtain ⟨v, W, d, rfl, hv, T, q⟩ := h
  refine ⟨_, (ass_cons (as_set (i := 1) sc_longest.nd rfl (Or.inl rfl) (ae_co G_distance_rows hr pass0 (aa_cons (av 0) aa_nil)))
    (ass_cons (as_set (i := 2) sc_longest.nd rfl (Or.inl rfl) (ae_callB (maxL K rfl) (by rfl) B.max_ (by decide +kernel) (aa_cons (pe_lc (own := [("row", 4)]) (g := (gName 4)) (tt := tYes) rfl sc_longest.nd (piL K (av 1)) (blkOk_by (own := [("row", 4)]) (N := n_longest) (sc := (defScope s_longest)) (by decide +kernel)) (fun _ _ _ _ _ => (pg_name (i := 4) sc_longest.nd rfl (Or.inl rfl))) (fun _ _ _ _ _ => pts_nil) (fun _ _ _ _ _ => (ae_callB (maxL K rfl) (by rfl) B.max_ (by decide +kernel) (aa_cons (av 4) aa_nil)))) aa_nil)))
    (ass_cons (as_set (i := 3) sc_longest.nd rfl (Or.inl rfl) (ae_bm K PySem.F.plainAttrs_list PySem.F.slot_list_index PySem.F.type_list_index (mtIndex K) (pe_lc (own := [("row", 4)]) (g := (gName 4)) (tt := tYes) rfl sc_longest.nd (piL K (av 1)) (blkOk_by (own := [("row", 4)]) (N := n_longest) (sc := (defScope s_longest)) (by decide +kernel)) (fun _ _ _ _ _ => (pg_name (i := 4) sc_longest.nd rfl (Or.inl rfl))) (fun _ _ _ _ _ => pts_nil) (fun _ _ _ _ _ => (ae_callB (maxL K rfl) (by rfl) B.max_ (by decide +kernel) (aa_cons (av 4) aa_nil)))) (aa_cons (av 2) aa_nil)))
    (pss_one (as_ret (ae_tup (aa_cons (av 2) (aa_cons (ae_ix (ixT K) (ae_ix (ixT K) (av 0) ae_int (fun _ _ => rfl)) (av 3) (fun _ _ => rfl)) (aa_cons (ae_ix (ixT K) (ae_ix (ixT K) (av 0) ae_int (fun _ _ => rfl)) (ae_bm K PySem.F.plainAttrs_list PySem.F.slot_list_index PySem.F.type_list_index (mtIndex K) (ae_ix (ixL K) (av 1) (av 3) (fun _ _ => rfl)) (aa_cons (av 2) aa_nil)) (fun _ _ => rfl)) aa_nil))))))))), ?_⟩
  obtain ⟨a, pp, r, rs, rfl, hA, hP, hRR, hrs⟩ := hv.parts
  have hpl : W.P.length ≤ 100000 := Nat.le_trans hv.pl (by decide)
  have hml : (dRows W d).length ≤ 100000 := by unfold dRows; rw [List.length_map]; exact hpl
  refine ⟨_, rfl, _, W, d, rfl, hv, T, fun H1 v1 s1 hd1 => ?_⟩
  obtain ⟨L, xs, rfl, hL, hxs⟩ := hd1.lstI
  have ne := dRows_ne (d := d) T.pne
  have mne : (dRows W d).map mx ≠ [] := by unfold dRows; simpa using T.pne
  -- far
  refine ⟨_, rfl, L, rfl, ⟨_, hL⟩, fun D hD => ?_⟩
  refine lc_maxes (m := dRows W d) hD hL hxs ne hml (fun _ => rfl) (fun _ => rfl) fun H2 s2 hD2 => ?_
  refine max_ints (SqL.at hD2) mne ?_
  -- at
  refine ⟨_, rfl, L, rfl, ⟨_, s2.seq hL⟩, fun D' hD' => ?_⟩
  refine lc_maxes (m := dRows W d) hD' (s2.seq hL) (hxs.mono s2) ne hml (fun _ => rfl) (fun _ => rfl) fun H3 s3 hD3 => ?_
  refine ⟨.inl ⟨rfl, _, SqL.at hD3⟩, _, rfl, ?_⟩
  have m1 := mx_mem mne
  refine ix_ints (SqL.at hD3) m1 ?_
  have s4 := (s1.trans s2).trans s3
  -- what stands there
  have j1 := ixI_mem m1
  obtain ⟨row, hrow, e1⟩ := at_map j1
  obtain ⟨p, hp, rfl⟩ := at_map hrow
  have rne : dRow W d p ≠ [] := ne _ (mem_at hrow)
  have m2 : mx ((dRows W d).map mx) ∈ dRow W d p := by rw [e1]; exact mx_mem rne
  have j2 := ixI_mem m2
  obtain ⟨o, ho, e2⟩ := at_map j2
  obtain ⟨x, y, hx, hy, e3, hall⟩ := great_all (f := d) T.pne
  have e4 : mx ((dRows W d).map mx) = (d x y : Nat) := e3
  have e5 : d p o = d x y := by have := e2.symm.trans e4; omega
  obtain ⟨vr, hvr, hdr⟩ := hxs.get (map_at (f := intsD) hrow)
  obtain ⟨R, ys, rfl, hR, hys⟩ := hdr.lstI
  rw [hys.ints] at hR
  refine ⟨_, rfl, _, rfl, a, _, _, _, rfl, rfl, s4.seqT hA, ix0, _, rfl, pp, _, _, _, rfl, rfl, s4.seqT hP, atI_nat (map_at hp), ?_⟩
  refine ⟨_, rfl, a, _, _, _, rfl, rfl, s4.seqT hA, ix0, _, rfl, _, rfl, L, _, _, _, rfl, rfl, (s2.trans s3).seq hL, atI_nat hvr, .inl ⟨rfl, _, (s2.trans s3).seq hR⟩, _, rfl, ?_⟩
  refine ix_ints ((s2.trans s3).seq hR) m2 ?_
  refine ⟨pp, _, _, _, rfl, rfl, s4.seqT hP, atI_nat (map_at ho), by show 3 ≤ sizeLine; decide, fun c hc => ?_⟩
  have ep : fX W d = p := by unfold fX; rw [hp]; rfl
  have eo : fY W d = o := by unfold fY; rw [ep, ho]; rfl
  have en : fN W d = d x y := by unfold fN; rw [ep, eo]; exact e5
  rw [ep, eo, en] at q
  rw [e4]
  refine q _ _ (s4.trans (Same.new hc)) ⟨mem_at hp, mem_at ho, e5, fun a ha b hb => hall a ha b hb⟩ ?_
  exact .tup (xs := [.int (d x y : Nat), .str p, .str o]) (SqT.at upd_same) (.cons (.int _) (.cons (.str _) (.cons (.str _) .nil)))
end
end R
set_option maxHeartbeats 4000000
/-! the rota by levels is best -/
namespace R
open PySem L2
def mnN : List Nat → Nat
  | [] => 0
  | [a] => a
  | a :: b :: l => min a (mnN (b :: l))
theorem mnN_le : ∀ {l : List Nat} {y : Nat}, y ∈ l → mnN l ≤ y
  | [a], y, h => by
    simp at h
    subst h
    exact Nat.le_refl _
  | a :: b :: l, y, h => by
    show min a (mnN (b :: l)) ≤ y
    rcases List.mem_cons.mp h with rfl | h
    · omega
    · have := mnN_le h
      omega
theorem mnN_mem : ∀ {l : List Nat}, l ≠ [] → mnN l ∈ l
  | [a], _ => by simp [mnN]
  | a :: b :: l, _ => by
    show min a (mnN (b :: l)) ∈ _
    have := mnN_mem (l := b :: l) (by simp)
    by_cases h : a ≤ mnN (b :: l)
    · rw [show min a (mnN (b :: l)) = a by omega]; exact List.mem_cons_self
    · rw [show min a (mnN (b :: l)) = mnN (b :: l) by omega]; exact List.mem_cons_of_mem _ this
theorem mnN_eq {l : List Nat} {m : Nat} (h : m ∈ l) (g : ∀ y ∈ l, m ≤ y) : m = mnN l := by
  have h1 := mnN_le h
  have h2 := g _ (mnN_mem (List.ne_nil_of_mem h))
  omega
/-- how near the middle a road's nearer end lies -/
def near (d : Str → Str → Nat) (ms : List Str) (r : Road) : Nat := mnN (ms.map fun c => min (d c r.2.1) (d c r.2.2))
/-- the road's place is in the second half -/
def evenR (d : Str → Str → Nat) (ms : List Str) (r : Road) : Bool := decide (r.2.1 ∈ ms ∧ r.2.2 ∈ ms) || decide ((1 + near d ms r) % 2 = 0)
def lvR (d : Str → Str → Nat) (ms : List Str) (r : Road) : Nat := if r.2.1 ∈ ms ∧ r.2.2 ∈ ms then 0 else 1 + near d ms r
def levRota (W : Web) (d : Str → Str → Nat) (ms : List Str) : List Str := (W.R.filter fun r => !evenR d ms r).map (·.1) ++ (W.R.filter fun r => evenR d ms r).map (·.1)
section
variable {W : Web} {d : Str → Str → Nat} {ms : List Str}
theorem even_lv (r : Road) : evenR d ms r = decide (lvR d ms r % 2 = 0) := by
  unfold evenR lvR
  by_cases h : r.2.1 ∈ ms ∧ r.2.2 ∈ ms
  · rw [if_pos h, decide_eq_true h]; rfl
  · rw [if_neg h, decide_eq_false h]; rfl
theorem levRota_ok (hw : Wf W) : RotaOf W (levRota W d ms) := by
  have nd : ∀ p : Road → Bool, ((W.R.filter p).map (·.1)).Nodup := fun p => by
    have := hw.nn
    unfold Web.names at this
    exact this.sublist (List.Sublist.map _ List.filter_sublist)
  refine ⟨(List.perm_ext_iff_of_nodup ?_ hw.nn).mpr fun z => ?_⟩
  · unfold levRota
    rw [List.nodup_append]
    refine ⟨nd _, nd _, fun a ha b hb e => ?_⟩
    obtain ⟨r, hr, e1⟩ := List.mem_map.mp ha
    obtain ⟨s, hs, e2⟩ := List.mem_map.mp hb
    rw [List.mem_filter] at hr hs
    have : r = s := name_inj hw hr.1 hs.1 (by rw [e1, e2, e])
    subst this
    have h1 := hr.2
    rw [hs.2] at h1
    cases h1
  · unfold levRota Web.names
    rw [List.mem_append, List.mem_map, List.mem_map, List.mem_map]
    constructor
    · rintro (⟨r, hr, e⟩ | ⟨r, hr, e⟩)
      · exact ⟨r, (List.mem_filter.mp hr).1, e⟩
      · exact ⟨r, (List.mem_filter.mp hr).1, e⟩
    · rintro ⟨r, hr, e⟩
      by_cases h : evenR d ms r = true
      · exact .inr ⟨r, List.mem_filter.mpr ⟨hr, h⟩, e⟩
      · refine .inl ⟨r, List.mem_filter.mpr ⟨hr, ?_⟩, e⟩
        show (!evenR d ms r) = true
        simpa using h
theorem ixOf_left : ∀ {l m : List Str} {x : Str}, x ∈ l → ixOf (l ++ m) x = ixOf l x
  | y :: l, m, x, h => by
    show (if y = x then 0 else ixOf (l ++ m) x + 1) = if y = x then 0 else ixOf l x + 1
    by_cases e : y = x
    · rw [if_pos e, if_pos e]
    · rw [if_neg e, if_neg e, ixOf_left ((List.mem_cons.mp h).resolve_left fun z => e z.symm)]
theorem ixOf_right : ∀ {l m : List Str} {x : Str}, x ∉ l → l.length ≤ ixOf (l ++ m) x
  | [], _, _, _ => Nat.zero_le _
  | y :: l, m, x, h => by
    have e : ¬ y = x := fun z => h (by rw [z]; exact List.mem_cons_self)
    have := ixOf_right (l := l) (m := m) (x := x) fun k => h (List.mem_cons_of_mem _ k)
    show l.length + 1 ≤ if y = x then 0 else ixOf (l ++ m) x + 1
    rw [if_neg e]
    omega
theorem levRota_order (hw : Wf W) {r s : Road} (hr : r ∈ W.R) (hs : s ∈ W.R) (h1 : lvR d ms r % 2 = 1) (h2 : lvR d ms s % 2 = 0) : rk (levRota W d ms) r < rk (levRota W d ms) s := by
  have e1 : evenR d ms r = false := by rw [even_lv]; exact decide_eq_false (by omega)
  have e2 : evenR d ms s = true := by rw [even_lv]; exact decide_eq_true h2
  have m1 : r.1 ∈ (W.R.filter fun r => !evenR d ms r).map (·.1) := List.mem_map.mpr ⟨r, List.mem_filter.mpr ⟨hr, by rw [e1]; rfl⟩, rfl⟩
  have m2 : s.1 ∉ (W.R.filter fun r => !evenR d ms r).map (·.1) := fun k => by
    obtain ⟨q, hq, e⟩ := List.mem_map.mp k
    rw [List.mem_filter] at hq
    have : q = s := name_inj hw hq.1 hs e
    subst this
    have h3 := hq.2
    rw [e2] at h3
    cases h3
  unfold rk levRota
  rw [ixOf_left m1]
  exact Nat.lt_of_lt_of_le (ixOf_lt m1) (ixOf_right m2)
/-- how deep a place lies -/
def depR (d : Str → Str → Nat) (ms : List Str) (y : Str) : Nat := mnN (ms.map fun c => d c y)
theorem lev_one (T : TreeD W d) {h : Nat} {c : Str} (hc : c ∈ W.P) (hh : ∀ y ∈ W.P, d c y ≤ h) : Lev W d h (depR d [c]) (lvR d [c]) := by
  have lv : ∀ r ∈ W.R, lvR d [c] r = 1 + min (d c r.2.1) (d c r.2.2) := fun r hr => by
    unfold lvR
    rw [if_neg]
    · rfl
    · rintro ⟨h1, h2⟩
      simp only [List.mem_singleton] at h1 h2
      exact T.ne hr (h1.trans h2.symm)
  have lv' : ∀ r ∈ W.R, ∀ y, inc y r → lvR d [c] r = 1 + min (d c y) (d c (otherEnd r y)) := fun r hr y hi => by
    rw [lv r hr]
    rcases otherEnd_or hi with ⟨h1, h2⟩ | ⟨h1, h2⟩ <;> rw [h2, h1] <;> omega
  refine ⟨hh, fun r hr y hi => ?_, fun y r hr s hs hi hi' e e' => ?_⟩
  · have := T.step hr hi hc
    rw [lv' r hr y hi]
    show (1 + min (d c y) (d c (otherEnd r y)) = d c y ∧ d c (otherEnd r y) = d c y - 1) ∨ (1 + min (d c y) (d c (otherEnd r y)) = d c y + 1 ∧ d c (otherEnd r y) = d c y + 1)
    omega
  · rw [lv' r hr y hi] at e
    rw [lv' s hs y hi'] at e'
    have e : 1 + min (d c y) (d c (otherEnd r y)) = d c y := e
    have e' : 1 + min (d c y) (d c (otherEnd s y)) = d c y := e'
    exact T.uniq c hc y (T.inP hr hi) r hr s hs hi hi' (by omega) (by omega)
theorem lev_two (T : TreeD W d) {h : Nat} {c1 c2 : Str} {z : Road} (hz : z ∈ W.R) (hi1 : inc c1 z) (hi2 : otherEnd z c1 = c2) (hh : ∀ y ∈ W.P, d c1 y ≤ h ∨ d c2 y ≤ h) : Lev W d h (depR d [c1, c2]) (lvR d [c1, c2]) := by
  have hc1 := T.inP hz hi1
  have hc2 : c2 ∈ W.P := by rw [← hi2]; exact T.other hz
  have hb := T.back hz hi1
  rw [hi2] at hb
  -- each place lies nearer to one of the two
  have side : ∀ y ∈ W.P, d c1 y = d c2 y + 1 ∨ d c2 y = d c1 y + 1 := fun y hy => by
    have := T.step hz hi1 hy
    rw [hi2] at this
    have s1 := T.symm c1 hc1 y hy
    have s2 := T.symm c2 hc2 y hy
    omega
  have dp : ∀ y, depR d [c1, c2] y = min (d c1 y) (d c2 y) := fun _ => rfl
  have z0 : ∀ c ∈ W.P, d c c = 0 := fun c hc => (T.zero c hc c hc).mpr rfl
  -- both ends within: depth 0 each
  have inn : ∀ y ∈ W.P, y ∈ [c1, c2] ↔ min (d c1 y) (d c2 y) = 0 := fun y hy => by
    constructor
    · intro h
      simp only [List.mem_cons, List.mem_nil_iff, or_false] at h
      rcases h with rfl | rfl
      · have := z0 _ hy; omega
      · have := z0 _ hy; omega
    · intro h
      rcases Nat.lt_or_ge (d c1 y) (d c2 y) with k | k
      · have := (T.zero c1 hc1 y hy).mp (by omega)
        simp [this]
      · have := (T.zero c2 hc2 y hy).mp (by omega)
        simp [this]
  -- a road over two sides joins the two
  have cross : ∀ r ∈ W.R, ∀ y, inc y r → d c2 y = d c1 y + 1 → d c1 (otherEnd r y) = d c2 (otherEnd r y) + 1 → d c1 y = 0 ∧ d c2 (otherEnd r y) = 0 := by
    intro r hr y hi k1 k2
    have hy := T.inP hr hi
    have hy' : otherEnd r y ∈ W.P := T.other hr
    have S1 := T.step hr hi hc1
    have S2 := T.step hr hi hc2
    have B := T.back hr hi
    have e0 : d c2 (otherEnd r y) = d c1 y := by omega
    refine Classical.byContradiction fun n => ?_
    have pos : d c1 y ≠ 0 := fun k => n ⟨k, by omega⟩
    have ne : c2 ≠ otherEnd r y := fun k => by
      have := (T.zero c2 hc2 _ hy').mpr k
      omega
    obtain ⟨q, hq, hiq, qq⟩ := T.next c2 hc2 _ hy' ne
    have hw : otherEnd q (otherEnd r y) ∈ W.P := T.other hq
    have S3 := T.step hq hiq hc1
    have sw := side _ hw
    have f1 : d c1 (otherEnd q (otherEnd r y)) + 1 = d c1 (otherEnd r y) := by omega
    have f2 : d c1 (otherEnd r (otherEnd r y)) + 1 = d c1 (otherEnd r y) := by rw [B.1]; omega
    have := T.uniq c1 hc1 _ hy' q hq r hr hiq B.2 f1 f2
    subst this
    rw [B.1] at qq
    omega
  have cross' : ∀ r ∈ W.R, ∀ y, inc y r → d c1 y = d c2 y + 1 → d c2 (otherEnd r y) = d c1 (otherEnd r y) + 1 → d c2 y = 0 ∧ d c1 (otherEnd r y) = 0 := by
    intro r hr y hi k1 k2
    have B := T.back hr hi
    have := cross r hr (otherEnd r y) B.2 k2 (by rw [B.1]; exact k1)
    rw [B.1] at this
    exact ⟨this.2, this.1⟩
  -- depths of the two ends
  have step : ∀ r ∈ W.R, ∀ y, inc y r → (min (d c1 y) (d c2 y) = 0 ∧ min (d c1 (otherEnd r y)) (d c2 (otherEnd r y)) = 0) ∨
      ((d c1 y < d c2 y ↔ d c1 (otherEnd r y) < d c2 (otherEnd r y)) ∧ (min (d c1 (otherEnd r y)) (d c2 (otherEnd r y)) = min (d c1 y) (d c2 y) + 1 ∨ min (d c1 y) (d c2 y) = min (d c1 (otherEnd r y)) (d c2 (otherEnd r y)) + 1)) := by
    intro r hr y hi
    have hy := T.inP hr hi
    have hy' : otherEnd r y ∈ W.P := T.other hr
    have S1 := T.step hr hi hc1
    have S2 := T.step hr hi hc2
    have a := side y hy
    have b := side _ hy'
    have c := cross r hr y hi
    have c' := cross' r hr y hi
    omega
  have lv : ∀ r ∈ W.R, ∀ y, inc y r → lvR d [c1, c2] r = if min (d c1 y) (d c2 y) = 0 ∧ min (d c1 (otherEnd r y)) (d c2 (otherEnd r y)) = 0 then 0 else 1 + min (min (d c1 y) (d c2 y)) (min (d c1 (otherEnd r y)) (d c2 (otherEnd r y))) := by
    intro r hr y hi
    have hy := T.inP hr hi
    have hy' : otherEnd r y ∈ W.P := T.other hr
    have nr : near d [c1, c2] r = min (min (d c1 r.2.1) (d c1 r.2.2)) (min (d c2 r.2.1) (d c2 r.2.2)) := rfl
    unfold lvR
    rw [nr]
    rcases otherEnd_or hi with ⟨h1, h2⟩ | ⟨h1, h2⟩
    · rw [h2] at hy' ⊢
      rw [h1] at hy ⊢
      simp only [inn _ hy, inn _ hy']
      split <;> omega
    · rw [h2] at hy' ⊢
      rw [h1] at hy ⊢
      simp only [inn _ hy, inn _ hy']
      split
      · rw [if_pos (by omega)]
      · rw [if_neg (by omega)]; omega
  refine ⟨fun y hy => ?_, fun r hr y hi => ?_, fun y r hr s hs hi hi' e e' => ?_⟩
  · rw [dp]
    rcases hh y hy with h | h <;> omega
  · rw [dp, dp, lv r hr y hi]
    have := step r hr y hi
    split <;> omega
  · have hy := T.inP hr hi
    rw [dp, lv r hr y hi] at e
    rw [dp, lv s hs y hi'] at e'
    have a := step r hr y hi
    have b := step s hs y hi'
    have hr' : otherEnd r y ∈ W.P := T.other hr
    have hs' : otherEnd s y ∈ W.P := T.other hs
    have sy := side y hy
    have sr := side _ hr'
    have ss := side _ hs'
    have A1 := T.step hr hi hc1
    have A2 := T.step hr hi hc2
    have B1 := T.step hs hi' hc1
    have B2 := T.step hs hi' hc2
    by_cases k0 : min (d c1 y) (d c2 y) = 0
    · -- at one of the two: both roads lead to the other
      rw [k0] at e e' a b
      have er : min (d c1 (otherEnd r y)) (d c2 (otherEnd r y)) = 0 := by
        refine Classical.byContradiction fun n => ?_
        rw [if_neg (fun k => n k.2)] at e
        omega
      have es : min (d c1 (otherEnd s y)) (d c2 (otherEnd s y)) = 0 := by
        refine Classical.byContradiction fun n => ?_
        rw [if_neg (fun k => n k.2)] at e'
        omega
      rcases Nat.lt_or_ge (d c1 y) (d c2 y) with k | k
      · exact T.uniq c2 hc2 y hy r hr s hs hi hi' (by omega) (by omega)
      · exact T.uniq c1 hc1 y hy r hr s hs hi hi' (by omega) (by omega)
    · rw [if_neg (fun k => k0 k.1)] at e e'
      rcases Nat.lt_or_ge (d c1 y) (d c2 y) with k | k
      · exact T.uniq c1 hc1 y hy r hr s hs hi hi' (by omega) (by omega)
      · exact T.uniq c2 hc2 y hy r hr s hs hi hi' (by omega) (by omega)
/-- the rota by levels keeps within the least days -/
theorem level_best (T : TreeD W d) {h : Nat} (M : MidOf W d h ms) {t x : Str} (ht : t ∈ W.P) (hx : x ∈ W.P) : dy W d (levRota W d ms) t x ≤ h + 1 := by
  cases M with
  | one hc hh => exact lev_most T (lev_one T hc hh) (fun r hr s hs => levRota_order T.toWf hr hs) ht hx
  | two hz hi e hh => exact lev_most T (lev_two T hz hi e hh) (fun r hr s hs => levRota_order T.toWf hr hs) ht hx
end
end R
set_option maxHeartbeats 4000000
namespace R
open PySem PySem.Spec PyProof.Rows L2
section
variable {P : Program} {w : World} {K : PySem.W.Frag} {mg : Str → Option Value} {base : Heap}
theorem v_bl_eq {a b : Bool} : decide (V.bl a = V.bl b) = decide (a = b) := by
  by_cases h : a = b
  · subst h; simp
  · rw [decide_eq_false h, decide_eq_false (fun z => h (V.bl.inj z))]
/-! data cut, joined, made tuples -/
def cutD (ds : List PyData) (lo hi : Option Int) : List PyData := (ds.drop (HT.sIx ds.length 0 lo)).take (HT.sIx ds.length ds.length hi - HT.sIx ds.length 0 lo)
theorem sl_dp {H : Hp} {v : V} {ds : List PyData} {lo hi : Option Int} {Q : VK} (h : Dp K H v (.tuple ds)) (q : ∀ v' H', Same H H' → Dp K H' v' (.tuple (cutD ds lo hi)) → Q v' H') : rSlA K v lo hi H Q := by
  obtain ⟨a, xs, rfl, h1, h2⟩ := h.tupI
  have el := h2.length
  refine ⟨a, xs, rfl, h1, fun k => ?_, fun _ p hp => ?_⟩
  · refine q _ _ (Same.refl _) (.tup h1 ?_)
    have : cutD ds lo hi = ds := by
      unfold cutD
      rw [← el, k.1, k.2, List.drop_zero, Nat.sub_zero, el, List.take_length]
    rw [this]; exact h2
  · refine q _ _ (Same.new hp) (.tup (SqT.at upd_same) ?_)
    have := ((h2.drop (HT.sIx ds.length 0 lo)).take (HT.sIx ds.length ds.length hi - HT.sIx ds.length 0 lo)).mono (Same.new (o := .tup (cutV xs lo hi)) hp)
    unfold cutV
    unfold cutV at this
    rw [el] at this ⊢
    exact this
theorem cat_dp {H : Hp} {x y : V} {ds es : List PyData} {Q : VK} (h1 : Dp K H x (.tuple ds)) (h2 : Dp K H y (.tuple es)) (hl : ds.length + es.length ≤ 100000) (q : ∀ v' H', Same H H' → Dp K H' v' (.tuple (ds ++ es)) → Q v' H') : rCatA K x y H Q := by
  obtain ⟨a, xs, rfl, a1, a2⟩ := h1.tupI
  obtain ⟨b, ys, rfl, b1, b2⟩ := h2.tupI
  have e1 := a2.length
  have e2 := b2.length
  refine ⟨a, b, xs, ys, rfl, rfl, a1, b1, ?_, fun k => ?_, fun _ k => ?_, fun _ _ p hp => ?_⟩
  · have : sizeLine = 16777216 := sizeLine_eq
    omega
  · subst k
    cases a2
    exact q _ _ (Same.refl _) h2
  · subst k
    cases b2
    rw [List.append_nil] at q
    exact q _ _ (Same.refl _) h1
  · exact q _ _ (Same.new hp) (.tup (SqT.at upd_same) ((a2.append b2).mono (Same.new hp)))
theorem tup_dp {H : Hp} {x : V} {ds : List PyData} {Q : VK} (h : Dp K H x (.list ds)) (q : ∀ v' H', Same H H' → Dp K H' v' (.tuple ds) → Q v' H') : rTupOf K [x] H Q := by
  obtain ⟨a, xs, rfl, a1, a2⟩ := h.lstI
  exact ⟨a, xs, rfl, .inl ⟨a1, fun c hc => q _ _ (Same.new hc) (.tup (SqT.at upd_same) (a2.mono (Same.new hc)))⟩⟩
/-- the least days -/
def leastN (W : Web) (n : Nat) : Nat := if W.P.length = 1 then 0 else n / 2 + 1
theorem far_ex {W : Web} {d : Str → Str → Nat} (T : TreeD W d) : ∃ n x y, Far W d n x y := by
  obtain ⟨x, y, hx, hy, _, h⟩ := great_all (f := d) T.pne
  exact ⟨d x y, x, y, hx, hy, rfl, h⟩
def sp_least_days (K : PySem.W.Frag) : Sp := fun vs H Q _ => ∃ v W d, vs = [v] ∧ WebAt K H v W ∧ TreeD W d ∧ ∀ H' n x y, Same H H' → Far W d n x y → Q (.int (leastN W n : Nat)) H'
theorem ok_least_days (F : DefAt K mg "least_days" s_least_days ["web"]) (B : Blt mg) (G_longest : Ok P w K mg base CX0 4 "longest" ["web"] (sp_longest K)) : Ok P w K mg base CX0 5 "least_days" ["web"] (sp_least_days K) := by
  refine ok_of F sc_least_days (fun vs H Q E h => by obtain ⟨_, _, _, rfl, _⟩ := h; rfl) fun f cdv A outer s H vs Q E hr h => ?_
  obtain ⟨v, W, d, rfl, hv, T, q⟩ := h
  refine ⟨_, (pss_one (as_ret (ae_ifExp (at_cmpR op_eq (ae_callB (lenS K) (by rfl) B.len_ PySem.boot_len (aa_cons (ae_ix (ixT K) (av 0) ae_int (fun _ _ => rfl)) aa_nil)) ae_int (nomark _)) ae_int (ae_op op_add (ae_op op_fdiv (ae_ix (ixT K) (ae_co G_longest hr pass0 (aa_cons (av 0) aa_nil)) ae_int (fun _ _ => rfl)) ae_int) ae_int)))), ?_⟩
  obtain ⟨a, pp, r, rs, rfl, hA, hP, hRR, hrs⟩ := hv.parts
  refine ⟨_, rfl, a, _, _, _, rfl, rfl, hA, ix0, pp, _, rfl, .inr hP, rfl, _, rfl, ?_⟩
  rw [v_int_eq, List.length_map]
  refine ite2 (fun c => ?_) (fun c => ?_)
  · have c := of_decide_eq_true c
    obtain ⟨n, x, y, F⟩ := far_ex T
    have := q H n x y (Same.refl _) F
    unfold leastN at this
    rw [if_pos (by omega)] at this
    exact this
  · have c : ¬ (W.P.length : Int) = 1 := fun z => c (decide_eq_true z)
    refine ⟨_, rfl, _, W, d, rfl, hv, T, fun H1 v1 s1 F hd => ?_⟩
    obtain ⟨b, rfl, hb⟩ := far_parts hd
    refine ⟨b, _, _, _, rfl, rfl, hb, ix0, _, _, rfl, rfl, ⟨by decide, by decide⟩, _, _, rfl, rfl, ?_⟩
    have := q H1 _ _ _ s1 F
    unfold leastN at this
    rw [if_neg (by omega)] at this
    exact this
def greatN (m : List (List Int)) : Int := mx (m.map mx)
theorem yRows_ne {W : Web} {d : Str → Str → Nat} {rt : List Str} (hp : W.P ≠ []) : ∀ row ∈ yRows W d rt, row ≠ [] := by
  intro row h
  obtain ⟨a, _, rfl⟩ := List.mem_map.mp h
  unfold yRow
  simpa using hp
def sp_greatest_days (K : PySem.W.Frag) : Sp := fun vs H Q _ => ∃ v u W d rt, vs = [v, u] ∧ WebZ K H v W ∧ TreeD W d ∧ RotaOf W rt ∧ Dp K H u (strsT rt) ∧ ∀ H', Same H H' → Q (.int (greatN (yRows W d rt))) H'
theorem ok_greatest_days (F : DefAt K mg "greatest_days" s_greatest_days ["web", "rota"]) (B : Blt mg) (G_day_rows : Ok P w K mg base CX0 5 "day_rows" ["web", "week"] (sp_day_rows K)) : Ok P w K mg base CX0 6 "greatest_days" ["web", "rota"] (sp_greatest_days K) := by
  refine ok_of F sc_greatest_days (fun vs H Q E h => by obtain ⟨_, _, _, _, _, rfl, _⟩ := h; rfl) fun f cdv A outer s H vs Q E hr h => ?_
  obtain ⟨v, u, W, d, rt, rfl, hz, T, hR, hu, q⟩ := h
  refine ⟨_, (pss_one (as_ret (ae_callB (maxL K rfl) (by rfl) B.max_ (by decide +kernel) (aa_cons (pe_lc (own := [("row", 2)]) (g := (gName 2)) (tt := tYes) rfl sc_greatest_days.nd (piL K (ae_co G_day_rows hr pass0 (aa_cons (av 0) (aa_cons (ae_tup (aa_cons (av 1) aa_nil)) aa_nil)))) (blkOk_by (own := [("row", 2)]) (N := n_greatest_days) (sc := (defScope s_greatest_days)) (by decide +kernel)) (fun _ _ _ _ _ => (pg_name (i := 2) sc_greatest_days.nd rfl (Or.inl rfl))) (fun _ _ _ _ _ => pts_nil) (fun _ _ _ _ _ => (ae_callB (maxL K rfl) (by rfl) B.max_ (by decide +kernel) (aa_cons (av 2) aa_nil)))) aa_nil)))), ?_⟩
  refine ⟨_, rfl, _, rfl, by show 1 ≤ sizeLine; decide, fun p hp => ?_⟩
  have s0 : Same H (upd H p (.tup [u])) := Same.new hp
  refine ⟨_, _, W, d, rt, rfl, hz.mono s0, T, hR, .tup (xs := [u]) (SqT.at upd_same) (.cons (hu.mono s0) .nil), fun H1 v1 s1 hd => ?_⟩
  obtain ⟨L, xs, rfl, hL, hxs⟩ := hd.lstI
  refine ⟨L, rfl, ⟨_, hL⟩, fun D hD => ?_⟩
  have hml : (yRows W d rt).length ≤ 100000 := by unfold yRows; rw [List.length_map]; exact Nat.le_trans hz.at_.pl (by decide)
  refine lc_maxes (m := yRows W d rt) hD hL hxs (yRows_ne T.pne) hml (fun _ => rfl) (fun _ => rfl) fun H2 s2 hD2 => ?_
  exact max_ints (SqL.at hD2) (by unfold yRows; simpa using T.pne) (q _ ((s0.trans s1).trans s2))
def numD (W : Web) (r : Road) : PyData := momD (ixOf W.P r.2.1 : Nat) (ixOf W.P r.2.2 : Nat)
def sp_end_numbers (K : PySem.W.Frag) : Sp := fun vs H Q _ => ∃ v W, vs = [v] ∧ WebZ K H v W ∧ Wf W ∧ ∀ H' L, Same H H' → H L = none → Dp K H' (.ref L) (.list (W.R.map (numD W))) → Q (.ref L) H'
theorem ok_end_numbers (F : DefAt K mg "end_numbers" s_end_numbers ["web"]) (B : Blt mg) : Ok P w K mg base CX0 1 "end_numbers" ["web"] (sp_end_numbers K) := by
  refine ok_of F sc_end_numbers (fun vs H Q E h => by obtain ⟨_, _, rfl, _⟩ := h; rfl) fun f cdv A outer s H vs Q E hr h => ?_
  obtain ⟨v, W, rfl, hz, hw, q⟩ := h
  refine ⟨_, (pss_one (as_ret (pe_lc (own := [("name", 1), ("one", 2), ("other", 3)]) (g := (gTup K 3 (gCons (gName 1) (gCons (gName 2) (gCons (gName 3) gNil))))) (tt := tYes) rfl sc_end_numbers.nd (piT K (ae_ix (ixT K) (av 0) ae_int (fun _ _ => rfl))) (blkOk_by (own := [("name", 1), ("one", 2), ("other", 3)]) (N := n_end_numbers) (sc := (defScope s_end_numbers)) (by decide +kernel)) (fun _ _ _ _ _ => (pgT K rfl (pgs_cons (pg_name (i := 1) sc_end_numbers.nd rfl (Or.inl rfl)) (pgs_cons (pg_name (i := 2) sc_end_numbers.nd rfl (Or.inl rfl)) (pgs_cons (pg_name (i := 3) sc_end_numbers.nd rfl (Or.inl rfl)) pgs_nil))))) (fun _ _ _ _ _ => pts_nil) (fun _ _ _ _ _ => (ae_tup (aa_cons (ae_zm PySem.F.slot_tuple_index PySem.F.type_tuple_index (mtTupIndex K) (ae_ix (ixT K) (av 0) ae_int (fun _ _ => rfl)) (aa_cons (av 2) aa_nil)) (aa_cons (ae_zm PySem.F.slot_tuple_index PySem.F.type_tuple_index (mtTupIndex K) (ae_ix (ixT K) (av 0) ae_int (fun _ _ => rfl)) (aa_cons (av 3) aa_nil)) aa_nil))))))), ?_⟩
  have hv := hz.at_
  obtain ⟨a, pp, r, rs, rfl, hA, hP, hR, hrs, hZ⟩ := hz.z
  refine ⟨_, rfl, a, _, _, _, rfl, rfl, hA, ix1, r, rfl, ⟨_, hR⟩, fun D hD => ?_⟩
  refine lc_tupD (K := K) (a := r) (xs := rs) (W.R.map (numD W)) hD hR (by rw [hrs.length, List.length_map, List.length_map]) (by rw [hrs.length, List.length_map]; exact Nat.le_trans hv.rl (by decide)) ?_ ?_
  · intro i x e H2 acc Q2 s1 hD2 hx he k
    obtain ⟨rd, e1, rfl⟩ := at_map he
    obtain ⟨b, rfl, hb⟩ := road_parts ((hrs.both hx (map_at e1)).mono s1)
    obtain ⟨p1, p2⟩ := hw.ends rd (mem_at e1)
    refine ⟨b, _, rfl, hb, rfl, _, _, rfl, _, _, rfl, _, _, rfl, rfl, rfl, ?_⟩
    refine ⟨_, rfl, a, _, _, _, rfl, rfl, s1.seqT hA, ix0, ⟨pp, rfl, hZ.mono s1⟩, _, rfl, ?_⟩
    refine place_ix hw.nd p1 (s1.seqT hP) ?_
    refine ⟨_, rfl, a, _, _, _, rfl, rfl, s1.seqT hA, ix0, ⟨pp, rfl, hZ.mono s1⟩, _, rfl, ?_⟩
    refine place_ix hw.nd p2 (s1.seqT hP) ?_
    refine ⟨by show 2 ≤ sizeLine; decide, fun p hp => ?_⟩
    refine k _ _ (Same.new hp) ?_
    have pD : p ≠ D := (ne_of_none hD2 hp).symm
    exact .tup (xs := [.int (ixOf W.P rd.2.1 : Nat), .int (ixOf W.P rd.2.2 : Nat)]) (SqT.at (by rw [wo_ne pD, upd_same])) (DpAll.ofInts [(ixOf W.P rd.2.1 : Int), (ixOf W.P rd.2.2 : Int)])
  · exact fun H2 ys u1 hy hda => q _ _ u1 hD (dp_list hy hda)
def nmAt (W : Web) (n : Nat) : Str := (W.names[n]?).getD ""
theorem nmAt_eq {W : Web} {n : Nat} (h : n < W.R.length) : W.names[n]? = some (nmAt W n) := by
  have : n < W.names.length := by unfold Web.names; rw [List.length_map]; exact h
  unfold nmAt
  rw [List.getElem?_eq_getElem this]; rfl
def natV (l : List Nat) : List V := l.map fun (n : Nat) => V.int n
def sp_named (K : PySem.W.Frag) : Sp := fun vs H Q _ => ∃ v L W ns, vs = [v, .ref L] ∧ WebAt K H v W ∧ SqL K H L (natV ns) ∧ ns.length ≤ 1000 ∧ (∀ n ∈ ns, n < W.R.length) ∧ ∀ H' v', Same H H' → Dp K H' v' (strsT (ns.map (nmAt W))) → Q v' H'
theorem ok_named (F : DefAt K mg "named" s_named ["web", "numbers"]) (B : Blt mg) (G_names_of_roads : Ok P w K mg base CX0 1 "names_of_roads" ["web"] (sp_names_of_roads K)) : Ok P w K mg base CX0 2 "named" ["web", "numbers"] (sp_named K) := by
  refine ok_of F sc_named (fun vs H Q E h => by obtain ⟨_, _, _, _, rfl, _⟩ := h; rfl) fun f cdv A outer s H vs Q E hr h => ?_
  obtain ⟨v, L, W, ns, rfl, hv, hL, hl, hn, q⟩ := h
  refine ⟨_, (ass_cons (as_set (i := 2) sc_named.nd rfl (Or.inr rfl) (ae_co G_names_of_roads hr pass0 (aa_cons (av 0) aa_nil)))
    (pss_one (as_ret (ae_callTy (tupOf K) (by rfl) B.tuple_ (by decide +kernel) (aa_cons (pe_lc (own := [("number", 3)]) (g := (gName 3)) (tt := tYes) rfl sc_named.nd (piL K (av 1)) (blkOk_by (own := [("number", 3)]) (N := n_named) (sc := (defScope s_named)) (by decide +kernel)) (fun _ _ _ _ _ => (pg_name (i := 3) sc_named.nd rfl (Or.inl rfl))) (fun _ _ _ _ _ => pts_nil) (fun _ _ _ _ _ => (ae_ix (ixL K) (av 2) (av 3) (fun _ _ => rfl)))) aa_nil))))), ?_⟩
  refine ⟨_, rfl, _, W, rfl, hv, fun H1 p s1 np hp => ?_⟩
  refine ⟨_, rfl, L, rfl, ⟨_, s1.seq hL⟩, fun D hD => ?_⟩
  refine lc_lstD (K := K) (a := L) (xs := natV ns) ((ns.map (nmAt W)).map .str) hD (s1.seq hL) (by unfold natV; simp) (by unfold natV; rw [List.length_map]; omega) ?_ ?_
  · intro i x e H2 acc Q2 u1 hD2 hx he k
    obtain ⟨n, e1, rfl⟩ := at_map (f := fun (n : Nat) => V.int n) hx
    obtain ⟨y, hy, rfl⟩ := at_map he
    rw [map_at e1] at hy
    cases hy
    refine ⟨rfl, _, rfl, _, rfl, p, _, _, _, rfl, rfl, SqL.at (u1 _ _ hp), atI_nat (map_at (nmAt_eq (hn n (mem_at e1)))), k _ _ (Same.refl _) (.str _)⟩
  · exact fun H2 ys u1 hy hda => tup_dp (dp_list hy hda) fun v' H' s' hd' => q _ _ ((s1.trans u1).trans s') hd'
/-- the middle of a tree, as the program finds it -/
noncomputable def msOf (W : Web) (d : Str → Str → Nat) : List Str := (((fX W d) :: stops (fX W d) (wayOf W d (fY W d) (fX W d))).drop (fN W d / 2)).take (fN W d - fN W d / 2 + 1 - fN W d / 2)
theorem msOf_mid {W : Web} {d : Str → Str → Nat} (T : TreeD W d) (F : Far W d (fN W d) (fX W d) (fY W d)) : MidOf W d (fN W d / 2) (msOf W d) := mid_of T F (wayOf_ok T F.hy F.hx)
def sp_middle_of (K : PySem.W.Frag) : Sp := fun vs H Q _ => ∃ v W d, vs = [v] ∧ WebAt K H v W ∧ TreeD W d ∧ ∀ H' v', Same H H' → Far W d (fN W d) (fX W d) (fY W d) → Dp K H' v' (strsT (msOf W d)) → Q v' H'
theorem ok_middle_of (F : DefAt K mg "middle_of" s_middle_of ["web"]) (B : Blt mg) (G_longest : Ok P w K mg base CX0 4 "longest" ["web"] (sp_longest K)) (G_first_way : Ok P w K mg base CX0 3 "first_way" ["web", "place", "other"] (sp_first_way K)) (G_way_places : Ok P w K mg base CX0 2 "way_places" ["web", "place", "way"] (sp_way_places K)) : Ok P w K mg base CX0 5 "middle_of" ["web"] (sp_middle_of K) := by
  refine ok_of F sc_middle_of (fun vs H Q E h => by obtain ⟨_, _, _, rfl, _⟩ := h; rfl) fun f cdv A outer s H vs Q E hr h => ?_
  obtain ⟨v, W, d, rfl, hv, T, q⟩ := h
  refine ⟨_, (ass_cons (as_asg (ae_co G_longest hr pass0 (aa_cons (av 0) aa_nil)) (pgT K rfl (pgs_cons (pg_name (i := 1) sc_middle_of.nd rfl (Or.inl rfl)) (pgs_cons (pg_name (i := 2) sc_middle_of.nd rfl (Or.inl rfl)) (pgs_cons (pg_name (i := 3) sc_middle_of.nd rfl (Or.inl rfl)) pgs_nil)))))
    (ass_cons (as_set (i := 4) sc_middle_of.nd rfl (Or.inl rfl) (ae_op (catA K) (ae_tup (aa_cons (av 2) aa_nil)) (ae_co G_way_places hr pass0 (aa_cons (av 0) (aa_cons (av 2) (aa_cons (ae_co G_first_way hr pass0 (aa_cons (av 0) (aa_cons (av 2) (aa_cons (av 3) aa_nil)))) aa_nil))))))
    (pss_one (as_ret (ae_slice (slT K) (av 4) (ao_some (ae_op op_fdiv (av 1) ae_int)) (ao_some (ae_op op_add (ae_op op_sub (av 1) (ae_op op_fdiv (av 1) ae_int)) ae_int))))))), ?_⟩
  refine ⟨_, rfl, _, W, d, rfl, hv, T, fun H1 v1 s1 F hd => ?_⟩
  generalize en : fN W d = n at F hd
  generalize ex : fX W d = x at F hd
  generalize ey : fY W d = y at F hd
  obtain ⟨b, rfl, hb⟩ := far_parts hd
  refine ⟨b, _, rfl, hb, rfl, _, _, rfl, _, _, rfl, _, _, rfl, rfl, ?_⟩
  -- places
  refine ⟨_, rfl, by show 1 ≤ sizeLine; decide, fun p hp => ?_⟩
  have s2 : Same H1 (upd H1 p (.tup [.str x])) := Same.new hp
  have s12 := s1.trans s2
  have hpx : Dp K (upd H1 p (.tup [.str x])) (.ref p) (strsT [x]) := .tup (xs := [.str x]) (SqT.at upd_same) (DpAll.ofStrs [x])
  refine ⟨_, rfl, _, rfl, _, rfl, _, rfl, _, rfl, _, W, d, x, y, rfl, hv.mono s12, T, F.hx, F.hy, fun H3 v3 l s3 hl hd3 => ?_⟩
  have s13 := s12.trans s3
  have ln : l.length = n := by rw [hl.len T F.hy, T.symm y F.hy x F.hx, F.eq]
  have nl : n < W.P.length := by rw [← F.eq]; exact T.lt F.hx F.hy
  have pl := hv.pl
  refine ⟨_, W, x, _, l, rfl, hv.mono s13, T.toWf, hd3, by omega, hl.goes, fun H4 v4 s4 hd4 => ?_⟩
  refine cat_dp ((hpx.mono s3).mono s4) hd4 (by rw [List.length_map, List.length_map, stops_len]; show 1 + _ ≤ _; omega) fun v5 H5 s5 hd5 => ?_
  have e5 : PyData.tuple ([x].map PyData.str ++ (stops x l).map PyData.str) = strsT (x :: stops x l) := rfl
  rw [e5] at hd5
  -- the cut
  refine ⟨_, rfl, _, rfl, _, _, rfl, rfl, ⟨by decide, by decide⟩, _, rfl, _, rfl, _, rfl, _, _, rfl, rfl, ⟨by decide, by decide⟩, _, _, rfl, rfl, _, _, rfl, rfl, _, rfl, ?_⟩
  refine sl_dp hd5 fun v6 H6 s6 hd6 => ?_
  have el : wayOf W d y x = l := wayOf_eq T F.hy hl
  have em : msOf W d = ((x :: stops x l).drop (n / 2)).take (n - n / 2 + 1 - n / 2) := by unfold msOf; rw [en, ex, ey, el]
  rw [en, ex, ey, em] at q
  refine q H6 v6 ((s13.trans s4).trans (s5.trans s6)) F ?_
  have ec : cutD ((x :: stops x l).map PyData.str) (some ((n : Int) / 2)) (some ((n : Int) - (n : Int) / 2 + 1)) = (((x :: stops x l).drop (n / 2)).take (n - n / 2 + 1 - n / 2)).map PyData.str := by
    unfold cutD
    have h1 : ((n : Int) / 2) = ((n / 2 : Nat) : Int) := by omega
    have h2 : ((n : Int) - (n : Int) / 2 + 1) = ((n - n / 2 + 1 : Nat) : Int) := by omega
    rw [h1, show ((n : Int) - ((n / 2 : Nat) : Int) + 1) = ((n - n / 2 + 1 : Nat) : Int) by omega, HT.sIx_nat, HT.sIx_nat, List.length_map, List.length_cons, stops_len, ln, Nat.min_eq_left (by omega), Nat.min_eq_left (by omega), List.map_take, List.map_drop]
  rw [ec] at hd6
  exact hd6
end
end R
set_option maxHeartbeats 4000000
namespace R
open PySem PySem.Spec PyProof.Rows L2
/-- a loop over enumerate(list) -/
theorem for_enumL {K : PySem.W.Frag} {a : Addr} {xs : List V} {g : TG} {tb : TS} {D : Ends} {σ : L2.St} {H : Hp} (Pv : Nat → L2.St → Hp → Prop) (h0 : Pv 0 σ H) (hq : ∀ i σ H, i ≤ xs.length → Pv i σ H → SqL K H a xs)
    (hs : ∀ (i : Nat) (x : V) (T : Addr) (σ : L2.St) (H : Hp), xs[i]? = some x → Pv i σ H → H T = none → g (.ref T) σ (upd H T (.tup [.int (i : Nat), x])) fun σ2 H2 => tb { D with nx := Pv (i + 1), ct := Pv (i + 1), bk := D.nx } σ2 H2) (hd : ∀ σ H, Pv xs.length σ H → D.nx σ H) :
    ∃ W : Nat → Nat → L2.St → Hp → Prop, (∃ m, W 0 m σ H) ∧ ∀ i m σ H, W i m σ H →
      ((Ite K a).stop i H ∧ D.nx σ H) ∨ ((Ite K a).go i H ∧ ∃ N : L2.St → Hp → Prop, (∀ σ' H', N σ' H' → ∃ m', m' < m ∧ W (i + 1) m' σ' H') ∧ ∀ v H', (Ite K a).yld i H v H' → g v σ H' fun σ2 H2 => tb { D with nx := N, ct := N, bk := D.nx } σ2 H2) := by
  refine for_it (J := Ite K a) (n := xs.length) (G := fun H => SqL K H a xs) (Y := fun i H v H' => ∃ T x, v = .ref T ∧ H T = none ∧ H' = upd H T (.tup [.int (i : Nat), x]) ∧ xs[i]? = some x) ⟨fun i H hi h => ⟨xs, xs[i], h, by simp [hi]⟩, fun H h => ⟨xs, h, Nat.le_refl _⟩, fun i H x H' hi h y => ?_⟩ Pv h0 hq ?_ hd
  · obtain ⟨T, x', rfl, hT, rfl, f⟩ := y
    exact ⟨T, x', rfl, hT, rfl, f xs h⟩
  · rintro i x σ H H' hi p ⟨T, x', rfl, hT, rfl, f⟩
    exact hs i x' T σ H f p hT
theorem MidOf.inP {W : Web} {d : Str → Str → Nat} {h : Nat} {ms : List Str} (T : TreeD W d) (M : MidOf W d h ms) : ms ≠ [] ∧ ms.length ≤ 2 ∧ ∀ c ∈ ms, c ∈ W.P := by
  cases M with
  | one hc _ => exact ⟨by simp, by simp, by simp [hc]⟩
  | two hz hi e _ => exact ⟨by simp, by simp, by rw [← e]; simp [T.inP hz hi, T.other hz]⟩
/-- the items of a list picked by their places -/
def pkB {α : Type} (q : α → Bool) (R : List α) (j : Nat) : Bool := ((R[j]?).map q).getD false
theorem pick {α β : Type} {q : α → Bool} {f : α → β} {b0 : β} : ∀ (R : List α), ((List.range R.length).filter (pkB q R)).map (fun j => ((R.map f)[j]?).getD b0) = (R.filter q).map f := by
  refine revInd (p := fun R => ((List.range R.length).filter (pkB q R)).map (fun j => ((R.map f)[j]?).getD b0) = (R.filter q).map f) rfl ?_
  intro R a ih
  have e1 : (List.range R.length).filter (pkB q (R ++ [a])) = (List.range R.length).filter (pkB q R) := by
    refine List.filter_congr fun j hj => ?_
    unfold pkB
    rw [List.getElem?_append_left (List.mem_range.mp hj)]
  have e0 : ((List.range R.length).filter (pkB q R)).map (fun j => (((R ++ [a]).map f)[j]?).getD b0) = (R.filter q).map f := by
    rw [← ih]
    refine List.map_congr_left fun j hj => ?_
    have := List.mem_range.mp (List.mem_filter.mp hj).1
    rw [List.map_append, List.getElem?_append_left (by rw [List.length_map]; exact this)]
  rw [List.length_append, List.length_singleton, List.range_succ, List.filter_append, List.map_append, e1, e0, List.filter_append (l₁ := R), List.map_append (l₁ := R.filter q)]
  congr 1
  have e2 : pkB q (R ++ [a]) R.length = q a := by unfold pkB; simp
  by_cases h : q a = true
  · rw [List.filter_cons, e2, if_pos h, List.filter_cons, if_pos h]
    simp
  · rw [List.filter_cons, e2, if_neg h, List.filter_cons, if_neg h]
    rfl
/-- where the j-th road goes -/
def evAt (W : Web) (d : Str → Str → Nat) (ms : List Str) (j : Nat) : Bool := pkB (fun r => evenR d ms r) W.R j
def odAt (W : Web) (d : Str → Str → Nat) (ms : List Str) (j : Nat) : Bool := pkB (fun r => !evenR d ms r) W.R j
theorem levRota_eq {W : Web} {d : Str → Str → Nat} {ms : List Str} : (((List.range W.R.length).filter (odAt W d ms)) ++ ((List.range W.R.length).filter (evAt W d ms))).map (nmAt W) = levRota W d ms := by
  rw [List.map_append]
  have h1 := pick (q := fun r => !evenR d ms r) (f := fun r : Road => r.1) (b0 := ("" : Str)) W.R
  have h2 := pick (q := fun r => evenR d ms r) (f := fun r : Road => r.1) (b0 := ("" : Str)) W.R
  unfold levRota
  rw [← h1, ← h2]
  rfl
theorem pk_snoc (q : Nat → Bool) (i : Nat) : (List.range (i + 1)).filter q = (List.range i).filter q ++ if q i = true then [i] else [] := by
  rw [List.range_succ, List.filter_append, List.filter_cons]
  rfl
theorem SqL.over {K : PySem.W.Frag} {H : Hp} {N l : Addr} {xs : List V} {o : HO} (h : SqL K H N xs) (ne : N ≠ l) : SqL K (upd H l o) N xs := by
  rcases h with (h | ⟨o', h⟩) | h
  · exact .inl (.inl (by rw [upd_ne ne]; exact h))
  · exact .inl (.inr ⟨o', by rw [upd_ne ne]; exact h⟩)
  · exact .inr h
theorem sameT_updL {H : Hp} {D : Addr} {xs : List V} {o : HO} (h : H D = some (.lst xs)) : SameT H (upd H D o) :=
  ⟨fun b ys e => by rw [upd_ne (ne_of e h (by intro z; cases z))]; exact e, fun b o' u e => by rw [upd_ne (ne_of e h (by intro z; cases z))]; exact e⟩
theorem natV_snoc (l : List Nat) (n : Nat) : natV (l ++ [n]) = natV l ++ [V.int n] := by unfold natV; rw [List.map_append]; rfl
theorem flat_nat (l : List Nat) : (natV l).all flatV = true := by unfold natV; rw [List.all_map]; exact List.all_eq_true.mpr fun _ _ => rfl
theorem inV_nat (n : Nat) (l : List Nat) : inV (.int n) (natV l) = decide (n ∈ l) := by
  unfold inV natV
  rw [List.any_map]
  induction l with
  | nil => simp
  | cons y l ih =>
    rw [List.any_cons, ih]
    show (eqV (.int y) (.int n) || decide (n ∈ l)) = _
    rw [eqV_int]
    by_cases e : y = n
    · subst e; simp
    · have e' : ¬ (y : Int) = (n : Int) := by omega
      simp [e', Ne.symm e]
theorem ix_mem_map {l ms : List Str} {x : Str} (hx : x ∈ l) (hm : ∀ c ∈ ms, c ∈ l) : ixOf l x ∈ ms.map (ixOf l) ↔ x ∈ ms := by
  constructor
  · intro h
    obtain ⟨c, hc, e⟩ := List.mem_map.mp h
    rw [ixOf_inj hx (hm c hc) e.symm]; exact hc
  · intro h; exact List.mem_map.mpr ⟨x, h, rfl⟩
section
variable {P : Program} {w : World} {K : PySem.W.Frag} {mg : Str → Option Value} {base : Heap}
/-- the best rota, as the program finds it -/
noncomputable def bestR (W : Web) (d : Str → Str → Nat) : List Str := levRota W d (msOf W d)
def sp_rota_by_levels (K : PySem.W.Frag) : Sp := fun vs H Q _ => ∃ v W d, vs = [v] ∧ WebZ K H v W ∧ TreeD W d ∧ ∀ H' v', Same H H' → Far W d (fN W d) (fX W d) (fY W d) → Dp K H' v' (strsT (bestR W d)) → Q v' H'
theorem ok_rota_by_levels (F : DefAt K mg "rota_by_levels" s_rota_by_levels ["web"]) (B : Blt mg) (G_middle_of : Ok P w K mg base CX0 5 "middle_of" ["web"] (sp_middle_of K)) (G_distance_rows : Ok P w K mg base CX0 3 "distance_rows" ["web"] (sp_distance_rows K)) (G_end_numbers : Ok P w K mg base CX0 1 "end_numbers" ["web"] (sp_end_numbers K)) (G_named : Ok P w K mg base CX0 2 "named" ["web", "numbers"] (sp_named K)) :
    Ok P w K mg base CX0 6 "rota_by_levels" ["web"] (sp_rota_by_levels K) := by
  refine ok_of F sc_rota_by_levels (fun vs H Q E h => by obtain ⟨_, _, _, rfl, _⟩ := h; rfl) fun f cdv A outer s H vs Q E hr h => ?_
  obtain ⟨v, W, d, rfl, hz, T, q⟩ := h
  refine ⟨_, (ass_cons (ps_setLc (i := 1) (own := [("place", 9)]) (g := (gName 9)) (tt := tYes) rfl sc_rota_by_levels.nd rfl rfl (sw_true rfl rfl rfl (by decide +kernel)) (piT K (ae_co G_middle_of hr pass0 (aa_cons (av 0) aa_nil))) (blkOk_by (own := [("place", 9)]) (N := n_rota_by_levels) (sc := (defScope s_rota_by_levels)) (by decide +kernel)) (fun _ _ _ _ _ => (pg_name (i := 9) sc_rota_by_levels.nd rfl (Or.inl rfl))) (fun _ _ _ _ _ => pts_nil) (fun _ _ _ _ _ => (ae_zm PySem.F.slot_tuple_index PySem.F.type_tuple_index (mtTupIndex K) (ae_ix (ixT K) (av 0) ae_int (fun _ _ => rfl)) (aa_cons (av 9) aa_nil))))
    (ass_cons (as_set (i := 2) sc_rota_by_levels.nd rfl (Or.inr rfl) (ae_co G_distance_rows hr pass0 (aa_cons (av 0) aa_nil)))
    (ass_cons (ps_par (i := 3) (j := 4) rfl sc_rota_by_levels.nd rfl rfl (by decide) rfl rfl (aa_cons (ae_lst aa_nil) (aa_cons (ae_lst aa_nil) aa_nil)) (by rfl))
    (ass_cons (ps_for PassesOwn.never rfl (enumL K (by rfl) B.enumerate_ (aa_cons (ae_co G_end_numbers hr pass0 (aa_cons (av 0) aa_nil)) aa_nil)) (pgT K rfl (pgs_cons (pg_name (i := 5) sc_rota_by_levels.nd rfl (Or.inl rfl)) (pgs_cons (pgT K rfl (pgs_cons (pg_name (i := 6) sc_rota_by_levels.nd rfl (Or.inr rfl)) (pgs_cons (pg_name (i := 7) sc_rota_by_levels.nd rfl (Or.inr rfl)) pgs_nil))) pgs_nil)))
      (ass_cons (as_set (i := 8) sc_rota_by_levels.nd rfl (Or.inl rfl) (ae_op op_add ae_int (ae_callB (minL K rfl) (by rfl) B.min_ (by decide +kernel) (aa_cons (pe_lc (own := [("at", 10)]) (g := (gName 10)) (tt := tYes) rfl sc_rota_by_levels.nd (piL K (av 1)) (blkOk_by (own := [("at", 10)]) (N := n_rota_by_levels) (sc := (defScope s_rota_by_levels)) (by decide +kernel)) (fun _ _ _ _ _ => (pg_name (i := 10) sc_rota_by_levels.nd rfl (Or.inl rfl))) (fun _ _ _ _ _ => pts_nil) (fun _ _ _ _ _ => (ae_callB (call_min2 rfl) (by rfl) B.min_ (by decide +kernel) (aa_cons (ae_ix (ixL K) (ae_ix (ixL K) (av 2) (av 10) (fun _ _ => rfl)) (av 6) (fun _ _ => rfl)) (aa_cons (ae_ix (ixL K) (ae_ix (ixL K) (av 2) (av 10) (fun _ _ => rfl)) (av 7) (fun _ _ => rfl)) aa_nil))))) aa_nil))))
      (pss_one (as_if (PW.pt (aw_or (PW.pt (aw_and (at_cmpR (inS K) (av 6) (av 1) (by rfl)) (pw_and1 (at_cmpR (inS K) (av 7) (av 1) (by rfl))))) (pw_or1 (at_cmpR op_eq (ae_op op_mod (av 8) ae_int) ae_int (nomark _)))))
        (pss_one (as_expr (ae_bm K PySem.F.plainAttrs_list PySem.F.slot_list_append PySem.F.type_list_append mt_append (av 4) (aa_cons (av 5) aa_nil))))
        (pss_one (as_expr (ae_bm K PySem.F.plainAttrs_list PySem.F.slot_list_append PySem.F.type_list_append mt_append (av 3) (aa_cons (av 5) aa_nil))))))))
    (pss_one (as_ret (ae_co G_named hr pass0 (aa_cons (av 0) (aa_cons (ae_op op_cat (av 3) (av 4)) aa_nil))))))))), ?_⟩
  have hv := hz.at_
  obtain ⟨a, pp, r, rs, rfl, hA, hP, hR, hrs, hZ⟩ := hz.z
  -- middle
  refine ⟨_, rfl, _, W, d, rfl, hv, T, fun H1 v1 s1 FF hd1 => ?_⟩
  have M := msOf_mid T FF
  generalize ems : msOf W d = ms at hd1 M
  obtain ⟨mne, ml, mP⟩ := M.inP T
  obtain ⟨m0, mxs, rfl, hm1, hm2⟩ := hd1.tupI
  rw [hm2.strs] at hm1
  refine ⟨m0, rfl, ⟨_, hm1⟩, fun D hD => ?_⟩
  refine lc_tupD (K := K) (a := m0) (xs := ms.map V.str) (ms.map fun c => .int (ixOf W.P c : Nat)) hD hm1 (by simp) (by rw [List.length_map]; omega) ?_ ?_
  · intro i x e H2 acc Q2 u1 hD2 hx he k
    obtain ⟨c, hc, rfl⟩ := at_map hx
    rw [map_at hc] at he
    cases he
    have s2 := s1.trans u1
    refine ⟨rfl, _, rfl, a, _, _, _, rfl, rfl, s2.seqT hA, ix0, ⟨pp, rfl, hZ.mono s2⟩, _, rfl, ?_⟩
    exact place_ix T.nd (mP c (mem_at hc)) (s2.seqT hP) (k _ _ (Same.refl _) (.int _))
  intro H2 ys u1 hy hda
  have eys : ys = natV (ms.map (ixOf W.P)) := by
    have : ys = (ms.map fun c => (ixOf W.P c : Int)).map V.int := DpAll.ints (by rw [List.map_map]; exact hda)
    rw [this]; unfold natV; rw [List.map_map, List.map_map]; rfl
  subst eys
  have s2 := s1.trans u1
  -- rows
  refine ⟨_, rfl, _, W, d, rfl, hv.mono s2, T, fun H3 v3 s3 hd3 => ?_⟩
  obtain ⟨L, xs, rfl, hL, hxs⟩ := hd3.lstI
  have s23 := s2.trans s3
  have hy3 := s3 _ _ hy
  -- odd, even
  refine ⟨Nat.zero_le _, fun l1 hl1 => ⟨Nat.zero_le _, fun l2 hl2 => ⟨_, _, rfl, ?_⟩⟩⟩
  have t1 : Same H3 (upd H3 l1 (.lst [])) := Same.new hl1
  have t2 : Same (upd H3 l1 (.lst [])) (upd (upd H3 l1 (.lst [])) l2 (.lst [])) := Same.new hl2
  have n12 : l1 ≠ l2 := ne_of_none upd_same hl2
  have g1 : upd (upd H3 l1 (.lst [])) l2 (.lst []) l1 = some (.lst []) := by rw [upd_ne n12, upd_same]
  have g2 : upd (upd H3 l1 (.lst [])) l2 (.lst []) l2 = some (.lst []) := upd_same
  have t12 := t1.trans t2
  have n1 : H3 l1 = none := hl1
  have n2 : H3 l2 = none := t1.free hl2
  generalize upd (upd H3 l1 (.lst [])) l2 (.lst []) = H4 at t12 g1 g2
  clear t1 t2
  -- the numbers of the ends
  have s24 := s23.trans t12
  refine ⟨_, rfl, _, W, rfl, hz.mono s24, T.toWf, fun H5 N s5 nN hd5 => ?_⟩
  obtain ⟨N', ns, eN, hN, hns⟩ := hd5.lstI
  cases eN
  have nsl : ns.length = W.R.length := by rw [hns.length, List.length_map]
  refine ⟨N, _, rfl, hN, ?_⟩
  have s35 := t12.trans s5
  have a1 := s5 _ _ g1
  have a2 := s5 _ _ g2
  -- what is kept: all of H5 but the two lists
  have rl := hv.rl
  have smallL : ∀ (p : Nat → Bool) (i : Nat), i ≤ ns.length → (natV ((List.range i).filter p)).length < sizeLine := fun p i hi => by
    unfold natV
    rw [List.length_map]
    refine small_ (m := 100) (Nat.le_trans (List.length_filter_le ..) ?_)
    rw [List.length_range]
    omega
  have nN1 : N ≠ l1 ∧ N ≠ l2 := ⟨(ne_of_none g1 nN).symm, (ne_of_none g2 nN).symm⟩
  refine for_enumL (K := K) (a := N) (xs := ns) (fun i σ H' => ∃ y5 y6 y7 y8, σ = [some (.ref a), some (.ref D), some (.ref L), some (.ref l1), some (.ref l2), y5, y6, y7, y8, none, none] ∧ Same H3 H' ∧ SqL K H' N ns ∧ SameT H5 H' ∧ H' l1 = some (.lst (natV ((List.range i).filter (odAt W d ms)))) ∧ H' l2 = some (.lst (natV ((List.range i).filter (evAt W d ms)))))
    ⟨none, none, none, none, rfl, s35, hN, ⟨fun _ _ e => e, fun _ _ _ e => e⟩, a1, a2⟩ (fun i σ H' _ h => by obtain ⟨_, _, _, _, _, _, s, _⟩ := h; exact s) ?_ ?_
  · rintro i x T0 σ H' hx ⟨y5, y6, y7, y8, rfl, b1, b2, b3, b4, b5⟩ hT0
    obtain ⟨e, he, hdx⟩ := hns.get' hx
    obtain ⟨rd, hrd, rfl⟩ := at_map he
    have hm := mem_at hrd
    obtain ⟨p1, p2⟩ := T.ends rd hm
    have t0 : Same H' (upd H' T0 (.tup [.int (i : Nat), x])) := Same.new hT0
    have hdx' := (dp_sameT b3 hdx rfl).mono t0
    obtain ⟨nb, nxs, rfl, hnb, hnx⟩ := hdx'.tupI
    have enx : nxs = [(ixOf W.P rd.2.1 : Int), (ixOf W.P rd.2.2 : Int)].map V.int := DpAll.ints (l := [(ixOf W.P rd.2.1 : Int), (ixOf W.P rd.2.2 : Int)]) hnx
    subst enx
    refine ⟨T0, _, rfl, SqT.at upd_same, rfl, _, _, rfl, _, _, rfl, nb, _, rfl, hnb, rfl, _, _, rfl, _, _, rfl, rfl, rfl, ?_⟩
    have c1 := b1.trans t0
    have c2 := t0.seq b2
    have c3 := b3.trans (R.Same.sameT t0)
    have c4 := t0 _ _ b4
    have c5 := t0 _ _ b5
    generalize upd H' T0 (.tup [.int (i : Nat), .ref nb]) = H6 at c1 c2 c3 c4 c5
    clear b1 b2 b3 b4 b5 hdx' hnb hnx t0
    have hyD := c1 _ _ hy3
    have hL6 := c1.seq hL
    -- level
    refine ⟨_, rfl, D, rfl, ⟨_, SqL.at hyD⟩, fun M' hM' => ?_⟩
    refine lc_lstD (K := K) (a := D) (xs := natV (ms.map (ixOf W.P))) (ms.map fun c => .int (min (d c rd.2.1) (d c rd.2.2) : Nat)) hM' (SqL.at hyD) (by unfold natV; simp) (by unfold natV; rw [List.length_map, List.length_map]; omega) ?_ ?_
    · intro j x e H7 acc Q2 u1' hM7 hx7 he7 k
      obtain ⟨nn, hnn, rfl⟩ := at_map (f := fun (n : Nat) => V.int n) hx7
      obtain ⟨c, hc, rfl⟩ := at_map hnn
      rw [map_at hc] at he7
      cases he7
      have hcP := mP c (mem_at hc)
      have hcx : (dRows W d)[ixOf W.P c]? = some (dRow W d c) := map_at (ixOf_mem hcP)
      obtain ⟨vr, hvr, hdr⟩ := hxs.get (map_at (f := intsD) hcx)
      obtain ⟨Rr, ys2, rfl, hRr, hys2⟩ := hdr.lstI
      rw [hys2.ints] at hRr
      have s37 := c1.trans u1'
      have e1 : ((dRow W d c).map V.int)[ixOf W.P rd.2.1]? = some (.int (d c rd.2.1 : Nat)) := map_at (map_at (ixOf_mem p1))
      have e2 : ((dRow W d c).map V.int)[ixOf W.P rd.2.2]? = some (.int (d c rd.2.2 : Nat)) := map_at (map_at (ixOf_mem p2))
      refine ⟨rfl, _, rfl, _, rfl, L, _, _, _, rfl, rfl, s37.seq hL, atI_nat hvr, _, rfl, Rr, _, _, _, rfl, rfl, s37.seq hRr, atI_nat e1, _, rfl, _, rfl, L, _, _, _, rfl, rfl, s37.seq hL, atI_nat hvr, _, rfl, Rr, _, _, _, rfl, rfl, s37.seq hRr, atI_nat e2, _, _, rfl, ?_⟩
      refine k _ _ (Same.refl _) ?_
      have em : (if (d c rd.2.2 : Int) < (d c rd.2.1 : Int) then (d c rd.2.2 : Int) else (d c rd.2.1 : Int)) = ((min (d c rd.2.1) (d c rd.2.2) : Nat) : Int) := by split <;> omega
      rw [em]
      exact .int _
    intro H7 ys7 u1' hy7 hda7
    have ey7 : ys7 = (ms.map fun c => ((min (d c rd.2.1) (d c rd.2.2) : Nat) : Int)).map V.int := DpAll.ints (by rw [List.map_map]; exact hda7)
    subst ey7
    refine ⟨M', _, rfl, SqL.at hy7, ?_, fun m hm1 hm2 => ⟨_, _, rfl, rfl, ?_⟩⟩
    · rw [List.length_map]; exact List.length_pos_iff.mpr mne
    have em : m = (near d ms rd : Nat) := by
      obtain ⟨c, hc, rfl⟩ := List.mem_map.mp hm1
      have : min (d c rd.2.1) (d c rd.2.2) = near d ms rd := mnN_eq (List.mem_map.mpr ⟨c, hc, rfl⟩) fun y hy => by
        obtain ⟨c', hc', rfl⟩ := List.mem_map.mp hy
        have := hm2 _ (List.mem_map.mpr ⟨c', hc', rfl⟩)
        omega
      rw [this]
    subst em
    have d1 := c1.trans u1'
    have d2 := u1'.seq c2
    have d3 := c3.trans (R.Same.sameT u1')
    have d4 := u1' _ _ c4
    have d5 := u1' _ _ c5
    have hyD7 := u1' _ _ hyD
    have hil : i < ns.length := (List.getElem?_eq_some_iff.mp hx).1
    have ev : evAt W d ms i = evenR d ms rd := by unfold evAt pkB; rw [hrd]; rfl
    have od : odAt W d ms i = !evenR d ms rd := by unfold odAt pkB; rw [hrd]; rfl
    have putE : ∀ (D' : Ends), evenR d ms rd = true → (∀ H8 y5 y6 y7 y8, Same H3 H8 → SqL K H8 N ns → SameT H5 H8 → H8 l1 = some (.lst (natV ((List.range (i + 1)).filter (odAt W d ms)))) → H8 l2 = some (.lst (natV ((List.range (i + 1)).filter (evAt W d ms)))) → D'.nx [some (.ref a), some (.ref D), some (.ref L), some (.ref l1), some (.ref l2), y5, y6, y7, y8, none, none] H8) →
        aDrop (aBM K "list" rAppend (aVar 4) (aCons (aVar 5) aNil)) D' [some (.ref a), some (.ref D), some (.ref L), some (.ref l1), some (.ref l2), some (.int (i : Nat)), some (.int (ixOf W.P rd.2.1 : Nat)), some (.int (ixOf W.P rd.2.2 : Nat)), some (.int (1 + (near d ms rd : Nat))), none, none] H7 := by
      intro D' c k
      refine ⟨_, rfl, .inl ⟨rfl, _, SqL.at d5⟩, _, rfl, l2, _, _, rfl, rfl, d5, smallL _ i (by omega), ?_⟩
      refine k _ _ _ _ _ (d1.over n2) (SqL.over d2 nN1.2) (d3.trans (sameT_updL d5)) ?_ ?_
      · rw [upd_ne n12, d4, pk_snoc, od, c]
        simp
      · rw [upd_same, pk_snoc, ev, c, if_pos rfl, natV_snoc]
    have putO : ∀ (D' : Ends), evenR d ms rd = false → (∀ H8 y5 y6 y7 y8, Same H3 H8 → SqL K H8 N ns → SameT H5 H8 → H8 l1 = some (.lst (natV ((List.range (i + 1)).filter (odAt W d ms)))) → H8 l2 = some (.lst (natV ((List.range (i + 1)).filter (evAt W d ms)))) → D'.nx [some (.ref a), some (.ref D), some (.ref L), some (.ref l1), some (.ref l2), y5, y6, y7, y8, none, none] H8) →
        aDrop (aBM K "list" rAppend (aVar 3) (aCons (aVar 5) aNil)) D' [some (.ref a), some (.ref D), some (.ref L), some (.ref l1), some (.ref l2), some (.int (i : Nat)), some (.int (ixOf W.P rd.2.1 : Nat)), some (.int (ixOf W.P rd.2.2 : Nat)), some (.int (1 + (near d ms rd : Nat))), none, none] H7 := by
      intro D' c k
      refine ⟨_, rfl, .inl ⟨rfl, _, SqL.at d4⟩, _, rfl, l1, _, _, rfl, rfl, d4, smallL _ i (by omega), ?_⟩
      refine k _ _ _ _ _ (d1.over n1) (SqL.over d2 nN1.1) (d3.trans (sameT_updL d4)) ?_ ?_
      · rw [upd_same, pk_snoc, od, c]
        show some (HO.lst (natV _ ++ [V.int (i : Nat)])) = some (HO.lst (natV (_ ++ [i])))
        rw [natV_snoc]
      · rw [upd_ne n12.symm, d5, pk_snoc, ev, c]
        simp
    have i1 : ixOf W.P rd.2.1 ∈ ms.map (ixOf W.P) ↔ rd.2.1 ∈ ms := ix_mem_map p1 mP
    have i2 : ixOf W.P rd.2.2 ∈ ms.map (ixOf W.P) ↔ rd.2.2 ∈ ms := ix_mem_map p2 mP
    have par : ∀ Q : TT → Prop, True := fun _ => trivial
    have lvl : ∀ (b : Bool), b = (decide ((1 + near d ms rd) % 2 = 0)) → (decide ((1 + (near d ms rd : Int)) % 2 = 0)) = b := fun b e => by
      rw [e]
      by_cases h : (1 + near d ms rd) % 2 = 0
      · rw [decide_eq_true h, decide_eq_true (by omega)]
      · rw [decide_eq_false h, decide_eq_false (by omega)]
    have fin : ∀ H8 y5 y6 y7 y8, Same H3 H8 → SqL K H8 N ns → SameT H5 H8 → H8 l1 = some (.lst (natV ((List.range (i + 1)).filter (odAt W d ms)))) → H8 l2 = some (.lst (natV ((List.range (i + 1)).filter (evAt W d ms)))) → ∃ z5 z6 z7 z8, [some (.ref a), some (.ref D), some (.ref L), some (.ref l1), some (.ref l2), y5, y6, y7, y8, none, none] = [some (V.ref a), some (.ref D), some (.ref L), some (.ref l1), some (.ref l2), z5, z6, z7, z8, none, none] ∧ Same H3 H8 ∧ SqL K H8 N ns ∧ SameT H5 H8 ∧ H8 l1 = some (.lst (natV ((List.range (i + 1)).filter (odAt W d ms)))) ∧ H8 l2 = some (.lst (natV ((List.range (i + 1)).filter (evAt W d ms)))) :=
      fun H8 y5 y6 y7 y8 q1 q2 q3 q4 q5 => ⟨_, _, _, _, rfl, q1, q2, q3, q4, q5⟩
    -- if one in middle and other in middle or level % 2 == 0
    refine ⟨_, rfl, _, rfl, D, _, rfl, .inl (SqL.at hyD7), rfl, flat_nat _, _, rfl, ?_⟩
    have tail : ∀ {D' : Ends}, ¬ (rd.2.1 ∈ ms ∧ rd.2.2 ∈ ms) → (∀ H8 y5 y6 y7 y8, Same H3 H8 → SqL K H8 N ns → SameT H5 H8 → H8 l1 = some (.lst (natV ((List.range (i + 1)).filter (odAt W d ms)))) → H8 l2 = some (.lst (natV ((List.range (i + 1)).filter (evAt W d ms)))) → D'.nx [some (.ref a), some (.ref D), some (.ref L), some (.ref l1), some (.ref l2), y5, y6, y7, y8, none, none] H8) →
        (aB (aOp rEq (aOp (rI (fun _ j => 0 < j) fun i j => .int (i % j)) (aVar 8) (aC (.int 2))) (aC (.int 0)))) [some (.ref a), some (.ref D), some (.ref L), some (.ref l1), some (.ref l2), some (.int (i : Nat)), some (.int (ixOf W.P rd.2.1 : Nat)), some (.int (ixOf W.P rd.2.2 : Nat)), some (.int (1 + (near d ms rd : Nat))), none, none] H7 fun b H1 => if b = true then aDrop (aBM K "list" rAppend (aVar 4) (aCons (aVar 5) aNil)) D' [some (.ref a), some (.ref D), some (.ref L), some (.ref l1), some (.ref l2), some (.int (i : Nat)), some (.int (ixOf W.P rd.2.1 : Nat)), some (.int (ixOf W.P rd.2.2 : Nat)), some (.int (1 + (near d ms rd : Nat))), none, none] H1 else aDrop (aBM K "list" rAppend (aVar 3) (aCons (aVar 5) aNil)) D' [some (.ref a), some (.ref D), some (.ref L), some (.ref l1), some (.ref l2), some (.int (i : Nat)), some (.int (ixOf W.P rd.2.1 : Nat)), some (.int (ixOf W.P rd.2.2 : Nat)), some (.int (1 + (near d ms rd : Nat))), none, none] H1 := by
      intro D' no k
      refine ⟨_, rfl, _, _, rfl, rfl, by show (0 : Int) < 2; decide, rfl, _, rfl, ?_⟩
      rw [v_int_eq, lvl _ rfl]
      have ee : evenR d ms rd = decide ((1 + near d ms rd) % 2 = 0) := by unfold evenR; rw [decide_eq_false no]; rfl
      refine ite2 (fun h => ?_) (fun h => ?_)
      · exact putE D' (by rw [ee]; exact h) k
      · exact putO D' (by rw [ee]; exact bfalse h) k
    rw [inV_nat]
    refine ite2 (fun k1 => ?_) (fun k1 => ?_)
    · have k1 := i1.mp (of_decide_eq_true k1)
      refine ⟨_, rfl, _, rfl, D, _, rfl, .inl (SqL.at hyD7), rfl, flat_nat _, _, rfl, ?_⟩
      rw [inV_nat]
      refine ite2 (fun k2 => ?_) (fun k2 => ?_)
      · have k2 := i2.mp (of_decide_eq_true k2)
        refine putE _ (by unfold evenR; rw [decide_eq_true ⟨k1, k2⟩]; rfl) ?_
        exact fin
      · refine tail (fun z => k2 (decide_eq_true (i2.mpr z.2))) ?_
        exact fin
    · refine tail (fun z => k1 (decide_eq_true (i1.mpr z.1))) ?_
      exact fin
  · rintro σ H' ⟨y5, y6, y7, y8, rfl, b1, b2, b3, b4, b5⟩
    rw [nsl] at b4 b5
    refine ⟨_, rfl, _, rfl, _, rfl, l1, l2, _, _, rfl, rfl, b4, b5, ?_, fun p hp => ?_⟩
    · have h1 := smallL (odAt W d ms) W.R.length (by omega)
      unfold natV
      rw [List.length_map, List.length_map]
      have h2 : ((List.range W.R.length).filter (odAt W d ms)).length ≤ (List.range W.R.length).length := List.length_filter_le ..
      have h3 : ((List.range W.R.length).filter (evAt W d ms)).length ≤ (List.range W.R.length).length := List.length_filter_le ..
      rw [List.length_range] at h2 h3
      have : sizeLine = 16777216 := sizeLine_eq
      omega
    · have s6 : Same H' (upd H' p (.lst (natV ((List.range W.R.length).filter (odAt W d ms)) ++ natV ((List.range W.R.length).filter (evAt W d ms))))) := Same.new hp
      have s7 := (s23.trans b1).trans s6
      refine ⟨_, p, W, ((List.range W.R.length).filter (odAt W d ms)) ++ ((List.range W.R.length).filter (evAt W d ms)), rfl, hv.mono s7, SqL.at ?_, ?_, ?_, fun H8 v8 s8 hd8 => ?_⟩
      · rw [upd_same]; unfold natV; rw [List.map_append]
      · have h2 : ((List.range W.R.length).filter (odAt W d ms)).length ≤ (List.range W.R.length).length := List.length_filter_le ..
        have h3 : ((List.range W.R.length).filter (evAt W d ms)).length ≤ (List.range W.R.length).length := List.length_filter_le ..
        rw [List.length_range] at h2 h3
        rw [List.length_append]
        omega
      · intro n hn
        rcases List.mem_append.mp hn with h | h
        · exact List.mem_range.mp (List.mem_filter.mp h).1
        · exact List.mem_range.mp (List.mem_filter.mp h).1
      · rw [levRota_eq, ← ems] at hd8
        exact q H8 v8 (s7.trans s8) FF hd8
end
end R
set_option maxHeartbeats 4000000
namespace R
open PySem PySem.Spec PyProof.Rows L2
section
variable {P : Program} {w : World} {K : PySem.W.Frag} {mg : Str → Option Value} {base : Heap} {cW cT : Addr}
def sp_best_tree_rota (K : PySem.W.Frag) (cW cT : Addr) : Sp := fun vs H Q E => ∃ v dt, vs = [v] ∧ Dp K H v dt ∧ smallD dt = true ∧ (isWebB dt = false → ∀ H', Same H H' → E (.ref cW) none H') ∧
  (∀ W b, dt = W.d → WebOk W → IsTreeB W b → b = false → ∀ H', Same H H' → E (.ref cT) none H') ∧
  (∀ W b, dt = W.d → WebOk W → IsTreeB W b → b = true → ∃ d, TreeD W d ∧ WebZ K H v W ∧ ∀ H' v', Same H H' → Far W d (fN W d) (fX W d) (fY W d) → Dp K H' v' (strsT (bestR W d)) → Q v' H')
theorem ok_best_tree_rota (F : DefAt K mg "best_tree_rota" s_best_tree_rota ["web"]) (G_need_tree : Ok P w K mg base (L2.CX P w) 5 "need_tree" ["web"] (sp_need_tree K cW cT)) (G_rota_by_levels : Ok P w K mg base CX0 6 "rota_by_levels" ["web"] (sp_rota_by_levels K)) :
    Ok P w K mg base (L2.CX P w) 7 "best_tree_rota" ["web"] (sp_best_tree_rota K cW cT) := by
  refine okX_of F sc_best_tree_rota (fun vs H Q E h => by obtain ⟨_, _, rfl, _⟩ := h; rfl) fun f cdv A outer s H vs Q E hr h => ?_
  obtain ⟨v, dt, rfl, hd, sm, q1, q2, q3⟩ := h
  refine ⟨_, (ass_cons (as_expr (ae_co G_need_tree hr (passes_call (takes_of rfl rfl rfl rfl) fun _ _ _ _ h => h) (aa_cons (av 0) aa_nil)))
    (pss_one (as_ret (ae_co G_rota_by_levels hr pass0 (aa_cons (av 0) aa_nil))))), ?_⟩
  refine ⟨_, rfl, _, dt, rfl, hd, sm, fun c H1 s1 => q1 c H1 s1, fun W b e o hb hbt H1 s1 => ?_, fun W b e o hb hbt H1 s1 => q2 W b e o hb hbt H1 s1⟩
  obtain ⟨d, T, hz, q⟩ := q3 W b e o hb hbt
  exact ⟨_, rfl, _, W, d, rfl, hz.mono s1, T, fun H2 v2 s2 FF hd2 => q H2 v2 (s1.trans s2) FF hd2⟩
def sp_least_slowest (K : PySem.W.Frag) : Sp := fun vs H Q _ => ∃ v W d, vs = [v] ∧ WebOk W ∧ Dp K H v W.d ∧ TreeD W d ∧ ∀ H' n x y, Same H H' → Far W d n x y → Q (.int (leastN W n : Nat)) H'
theorem ok_least_slowest (F : DefAt K mg "least_slowest" s_least_slowest ["web"]) (B : Blt mg) (G_need_one_piece : Ok P w K mg base CX0 5 "need_one_piece" ["web"] (sp_need_one_piece K)) (G_is_tree_web : Ok P w K mg base CX0 4 "is_tree_web" ["web"] (sp_is_tree_web K)) (G_least_days : Ok P w K mg base CX0 5 "least_days" ["web"] (sp_least_days K)) :
    Ok P w K mg base CX0 6 "least_slowest" ["web"] (sp_least_slowest K) := by
  refine ok_of F sc_least_slowest (fun vs H Q E h => by obtain ⟨_, _, _, rfl, _⟩ := h; rfl) fun f cdv A outer s H vs Q E hr h => ?_
  obtain ⟨v, W, d, rfl, o, hd, T, q⟩ := h
  refine ⟨_, (ass_cons (as_expr (ae_co G_need_one_piece hr pass0 (aa_cons (av 0) aa_nil)))
    (ass_cons (as_if (at_val (ae_co G_is_tree_web hr pass0 (aa_cons (av 0) aa_nil)))
      (pss_one (as_ret (ae_co G_least_days hr pass0 (aa_cons (av 0) aa_nil))))
      ass_nil)
    (ass_cons (as_if (at_cmpR op_gt (ae_callB (lenS K) (by rfl) B.len_ PySem.boot_len (aa_cons (ae_ix (ixT K) (av 0) ae_int (fun _ _ => rfl)) aa_nil)) (ae_glob (v := .int 6) (by rfl) B.MOST_ROADS_best.choose_spec ⟨_, rfl⟩) (nomark _))
      (pss_one ps_dead)
      ass_nil)
    (pss_one (as_ret pe_dead))))), ?_⟩
  obtain ⟨p0, h0⟩ := o.hd
  refine ⟨_, rfl, _, W, d, rfl, o, hd, T, fun H1 s1 => ?_⟩
  refine ⟨_, rfl, _, W, p0, rfl, o.at (hd.mono s1), T.toWf, h0, fun H2 b s2 hb => ⟨_, rfl, ?_⟩⟩
  rw [hb.tree T]
  exact ⟨_, rfl, _, W, d, rfl, o.at (hd.mono (s1.trans s2)), T, fun H3 n x y s3 FF => q H3 n x y ((s1.trans s2).trans s3) FF⟩
def sp_kept_best (K : PySem.W.Frag) : Sp := fun vs H Q _ => ∃ v u W d rt, vs = [v, u] ∧ WebOk W ∧ WebZ K H v W ∧ TreeD W d ∧ RotaOf W rt ∧ Dp K H u (strsT rt) ∧ (∀ n x y, Far W d n x y → greatN (yRows W d rt) = (leastN W n : Nat)) ∧ ∀ H', Same H H' → Q .non H'
theorem ok_kept_best (F : DefAt K mg "kept_best" s_kept_best ["web", "rota"]) (B : Blt mg) (G_need_tree : Ok P w K mg base (L2.CX P w) 5 "need_tree" ["web"] (sp_need_tree K cW cT)) (G_need_rota : Ok P w K mg base CX0 3 "need_rota" ["web", "rota"] (sp_need_rota K)) (G_greatest_days : Ok P w K mg base CX0 6 "greatest_days" ["web", "rota"] (sp_greatest_days K)) (G_least_days : Ok P w K mg base CX0 5 "least_days" ["web"] (sp_least_days K)) :
    Ok P w K mg base CX0 7 "kept_best" ["web", "rota"] (sp_kept_best K) := by
  refine ok_of F sc_kept_best (fun vs H Q E h => by obtain ⟨_, _, _, _, _, rfl, _⟩ := h; rfl) fun f cdv A outer s H vs Q E hr h => ?_
  obtain ⟨v, u, W, d, rt, rfl, o, hz, T, hR, hu, hg, q⟩ := h
  refine ⟨_, (ass_cons (as_expr (ae_co G_need_tree hr passL (aa_cons (av 0) aa_nil)))
    (ass_cons (as_expr (ae_co G_need_rota hr pass0 (aa_cons (av 0) (aa_cons (av 1) aa_nil))))
    (ass_cons (as_set (i := 2) sc_kept_best.nd rfl (Or.inl rfl) (ae_co G_greatest_days hr pass0 (aa_cons (av 0) (aa_cons (av 1) aa_nil))))
    (pss_one (as_ret (ae_ifExp (at_cmpR op_eq (av 2) (ae_co G_least_days hr pass0 (aa_cons (av 0) aa_nil)) (nomark _)) ae_non pe_dead)))))), ?_⟩
  have hd := hz.at_.dp
  refine ⟨_, rfl, _, W.d, rfl, hd, o.small, fun c => (by rw [isWeb_web o] at c; cases c), fun W' b e o' hb hbt H1 s1 => ?_, fun W' b e o' hb hbt => ?_⟩
  · refine ⟨_, rfl, _, rfl, _, _, W, rt, rfl, hz.at_.mono s1, T.toWf, hu.mono s1, hR, fun H2 s2 => ?_⟩
    have s12 := s1.trans s2
    refine ⟨_, rfl, _, rfl, _, _, W, d, rt, rfl, hz.mono s12, T, hR, hu.mono s12, fun H3 s3 => ?_⟩
    have s13 := s12.trans s3
    refine ⟨_, rfl, _, rfl, _, W, d, rfl, hz.at_.mono s13, T, fun H4 n x y s4 FF => ?_⟩
    refine ⟨rfl, _, rfl, ?_⟩
    rw [v_int_eq, hg n x y FF]
    refine ite2 (fun _ => ?_) (fun c => absurd (decide_eq_true rfl) c)
    exact q H4 (s13.trans s4)
  · have : W = W' := web_inj e
    subst this
    rw [hb.tree T] at hbt
    cases hbt
def bestD (m : Int) (p q : Str) : PyData := .tuple [.int m, .str p, .str q]
theorem best_parts {H : Hp} {v : V} {m : Int} {p q : Str} (h : Dp K H v (bestD m p q)) : ∃ a, v = .ref a ∧ SqT K H a [.int m, .str p, .str q] := by
  obtain ⟨a, xs, rfl, h1, h2⟩ := h.tupI
  cases h2 with
  | cons e1 h2 => cases h2 with
    | cons e2 h2 => cases h2 with
      | cons e3 h2 =>
        cases h2
        rw [e1.intI, e2.strI, e3.strI] at h1
        exact ⟨a, rfl, h1⟩
/-- m is the greatest so far -/
structure SoFar (m : Int) (R : List (List Int)) (i j : Nat) : Prop where
  pos : 0 ≤ m
  mem : m = 0 ∨ ∃ row ∈ R, m ∈ row
  le : ∀ i' row, i' < i → R[i']? = some row → ∀ y ∈ row, y ≤ m
  le' : ∀ j' row y, j' < j → R[i]? = some row → row[j']? = some y → y ≤ m
theorem SoFar.great {m : Int} {R : List (List Int)} (h : SoFar m R R.length 0) (hne : R ≠ []) (h0 : ∀ row ∈ R, row ≠ []) (hp : ∀ row ∈ R, ∀ y ∈ row, 0 ≤ y) : greatN R = m := by
  unfold greatN
  have m1 := mx_mem (l := R.map mx) (by simpa using hne)
  obtain ⟨row, hrow, e⟩ := List.mem_map.mp m1
  have m2 := mx_mem (h0 row hrow)
  rw [e] at m2
  obtain ⟨i, hi⟩ := List.getElem?_of_mem hrow
  have u := h.le i row (List.getElem?_eq_some_iff.mp hi).1 hi _ m2
  rcases h.mem with h' | ⟨row', hr', hm'⟩
  · have := hp row hrow _ m2
    omega
  · have a1 := mx_ge hm'
    have a2 := mx_ge (List.mem_map.mpr ⟨row', hr', rfl⟩ : mx row' ∈ R.map mx)
    omega
def sp_slowest (K : PySem.W.Frag) : Sp := fun vs H Q _ => ∃ v u W d rt, vs = [v, u] ∧ WebOk W ∧ WebZ K H v W ∧ TreeD W d ∧ RotaOf W rt ∧ Dp K H u (weekD rt) ∧ ∀ H' v' p q, Same H H' → Dp K H' v' (bestD (greatN (yRows W d rt)) p q) → Q v' H'
theorem ok_slowest (F : DefAt K mg "slowest" s_slowest ["web", "week"]) (B : Blt mg) (G_need_web : Ok P w K mg base (L2.CX P w) 4 "need_web" ["web"] (sp_need_web K cW)) (G_need_week : Ok P w K mg base CX0 3 "need_week" ["web", "week"] (sp_need_week K)) (G_day_rows : Ok P w K mg base CX0 5 "day_rows" ["web", "week"] (sp_day_rows K)) :
    Ok P w K mg base CX0 6 "slowest" ["web", "week"] (sp_slowest K) := by
  refine ok_of F sc_slowest (fun vs H Q E h => by obtain ⟨_, _, _, _, _, rfl, _⟩ := h; rfl) fun f cdv A outer s H vs Q E hr h => ?_
  obtain ⟨v, u, W, d, rt, rfl, o, hz, T, hR, hu, q⟩ := h
  refine ⟨_, (ass_cons (as_expr (ae_co G_need_web hr passL (aa_cons (av 0) aa_nil)))
    (ass_cons (as_expr (ae_co G_need_week hr pass0 (aa_cons (av 0) (aa_cons (av 1) aa_nil))))
    (ass_cons (as_set (i := 2) sc_slowest.nd rfl (Or.inl rfl) (ae_tup (aa_cons ae_int (aa_cons (ae_ix (ixT K) (ae_ix (ixT K) (av 0) ae_int (fun _ _ => rfl)) ae_int (fun _ _ => rfl)) (aa_cons (ae_ix (ixT K) (ae_ix (ixT K) (av 0) ae_int (fun _ _ => rfl)) ae_int (fun _ _ => rfl)) aa_nil)))))
    (ass_cons (ps_for PassesOwn.never rfl (zipTL K (by rfl) B.zip_ (aa_cons (ae_ix (ixT K) (av 0) ae_int (fun _ _ => rfl)) (aa_cons (ae_co G_day_rows hr pass0 (aa_cons (av 0) (aa_cons (av 1) aa_nil))) aa_nil))) (pgT K rfl (pgs_cons (pg_name (i := 3) sc_slowest.nd rfl (Or.inl rfl)) (pgs_cons (pg_name (i := 4) sc_slowest.nd rfl (Or.inl rfl)) pgs_nil)))
      (pss_one (ps_for PassesOwn.never rfl (zipTL K (by rfl) B.zip_ (aa_cons (ae_ix (ixT K) (av 0) ae_int (fun _ _ => rfl)) (aa_cons (av 4) aa_nil))) (pgT K rfl (pgs_cons (pg_name (i := 5) sc_slowest.nd rfl (Or.inl rfl)) (pgs_cons (pg_name (i := 6) sc_slowest.nd rfl (Or.inl rfl)) pgs_nil)))
        (ass_cons (as_if (at_cmp (ac_isN (av 6)))
          (pss_one (as_ret (ae_tup (aa_cons ae_non (aa_cons (av 3) (aa_cons (av 5) aa_nil))))))
          ass_nil)
        (pss_one (as_if (at_cmpR op_gt (av 6) (ae_ix (ixT K) (av 2) ae_int (fun _ _ => rfl)) (nomark _))
          (pss_one (as_set (i := 2) sc_slowest.nd rfl (Or.inl rfl) (ae_tup (aa_cons (av 6) (aa_cons (av 3) (aa_cons (av 5) aa_nil))))))
          ass_nil))))))
    (pss_one (as_ret (av 2))))))), ?_⟩
  have hd := hz.at_.dp
  refine ⟨_, rfl, _, W.d, rfl, hd, o.small, fun _ H1 s1 => ?_, fun c => by rw [isWeb_web o] at c; cases c⟩
  refine ⟨_, rfl, _, rfl, _, _, W, rt, rfl, hz.at_.mono s1, T.toWf, hu.mono s1, hR, fun H2 s2 => ?_⟩
  have s12 := s1.trans s2
  have hz2 := hz.mono s12
  have hv2 := hz2.at_
  obtain ⟨a, pp, r, rs, rfl, hA, hP, hRR, hrs⟩ := hv2.parts
  obtain ⟨p0, h0⟩ := o.hd
  have g0 : (W.P.map V.str)[0]? = some (.str p0) := map_at (by rw [← List.head?_eq_getElem?]; exact h0)
  -- best
  refine ⟨_, rfl, a, _, _, _, rfl, rfl, hA, ix0, pp, _, _, _, rfl, rfl, hP, atI_nat (j := 0) g0, _, rfl, a, _, _, _, rfl, rfl, hA, ix0, pp, _, _, _, rfl, rfl, hP, atI_nat (j := 0) g0, by show 3 ≤ sizeLine; decide, fun b0 hb0 => ?_⟩
  have s3 : Same H2 (upd H2 b0 (.tup [.int 0, .str p0, .str p0])) := Same.new hb0
  have hbest : Dp K (upd H2 b0 (.tup [.int 0, .str p0, .str p0])) (.ref b0) (bestD 0 p0 p0) := .tup (xs := [.int 0, .str p0, .str p0]) (SqT.at upd_same) (.cons (.int _) (.cons (.str _) (.cons (.str _) .nil)))
  generalize upd H2 b0 (.tup [.int 0, .str p0, .str p0]) = H3 at s3 hbest
  -- rows
  refine ⟨_, rfl, a, _, _, _, rfl, rfl, s3.seqT hA, ix0, _, rfl, _, rfl, _, _, W, d, rt, rfl, hz2.mono s3, T, hR, (hu.mono s12).mono s3, fun H4 v4 s4 hd4 => ?_⟩
  obtain ⟨L, xs, rfl, hL, hxs⟩ := hd4.lstI
  have s34 := s3.trans s4
  have yl : (yRows W d rt).length = W.P.length := by unfold yRows; rw [List.length_map]
  have xl : xs.length = W.P.length := by rw [hxs.length, List.length_map, yl]
  refine ⟨pp, L, _, _, rfl, s34.seqT hP, hL, ?_⟩
  refine for_zipTL (K := K) (a := pp) (b := L) (xs := W.P.map V.str) (ys := xs) (by rw [List.length_map, xl]) (fun i σ H' => ∃ m p q bv y3 y4 y5 y6, σ = [some (.ref a), some u, some bv, y3, y4, y5, y6] ∧ Same H4 H' ∧ Dp K H' bv (bestD m p q) ∧ SoFar m (yRows W d rt) i 0)
    ⟨0, p0, p0, .ref b0, none, none, none, none, rfl, Same.refl _, hbest.mono s4, ⟨by decide, .inl rfl, fun _ _ h => by omega, fun _ _ _ h => by omega⟩⟩ (fun i σ H' _ h => by obtain ⟨_, _, _, _, _, _, _, _, _, s, _⟩ := h; exact ⟨(s34.trans s).seqT hP, s.seq hL⟩) ?_ ?_
  · rintro i x y T0 σ H' hx hy ⟨m, p, q', bv, y3, y4, y5, y6, rfl, t1, hb, sf⟩ hT0
    obtain ⟨pl, hpl, rfl⟩ := at_map hx
    have t2 : Same H' (upd H' T0 (.tup [.str pl, y])) := Same.new hT0
    obtain ⟨e, he, hdy⟩ := hxs.get' hy
    obtain ⟨row, hrow, rfl⟩ := at_map he
    obtain ⟨Rr, ys2, rfl, hRr, hys2⟩ := hdy.lstI
    rw [hys2.ints] at hRr
    refine ⟨T0, _, rfl, SqT.at upd_same, rfl, _, _, rfl, _, _, rfl, rfl, ?_⟩
    have t12 := t1.trans t2
    have hb' := hb.mono t2
    generalize upd H' T0 (.tup [.str pl, .ref Rr]) = H5 at t2 t12 hb'
    have s35 := s34.trans t12
    have rowl : row.length = W.P.length := by
      obtain ⟨z, _, e⟩ := at_map hrow
      rw [e]; unfold yRow; rw [List.length_map]
    refine ⟨_, rfl, a, _, _, _, rfl, rfl, s35.seqT hA, ix0, _, rfl, pp, Rr, _, _, rfl, s35.seqT hP, t12.seq hRr, ?_⟩
    refine for_zipTL (K := K) (a := pp) (b := Rr) (xs := W.P.map V.str) (ys := row.map V.int) (by rw [List.length_map, List.length_map, rowl]) (fun j σ H' => ∃ m p q bv y5 y6, σ = [some (.ref a), some u, some bv, some (.str pl), some (.ref Rr), y5, y6] ∧ Same H4 H' ∧ Dp K H' bv (bestD m p q) ∧ SoFar m (yRows W d rt) i j)
      ⟨m, p, q', bv, y5, y6, rfl, t12, hb', sf⟩ (fun j σ H' _ h => by obtain ⟨_, _, _, _, _, _, _, s, _⟩ := h; exact ⟨(s34.trans s).seqT hP, s.seq hRr⟩) ?_ ?_
    · rintro j x y T1 σ H' hx hy ⟨m, p, q', bv, y5, y6, rfl, t1, hb, sf⟩ hT1
      obtain ⟨ot, hot, rfl⟩ := at_map hx
      obtain ⟨dyv, hdyv, rfl⟩ := at_map hy
      have t2 : Same H' (upd H' T1 (.tup [.str ot, .int dyv])) := Same.new hT1
      refine ⟨T1, _, rfl, SqT.at upd_same, rfl, _, _, rfl, _, _, rfl, rfl, ?_⟩
      have t12 := t1.trans t2
      have hb' := hb.mono t2
      generalize upd H' T1 (.tup [.str ot, .int dyv]) = H6 at t2 t12 hb'
      refine ⟨_, rfl, _, rfl, ?_⟩
      refine ite2 (fun c => absurd (of_decide_eq_true c) (by intro z; cases z)) (fun _ => ?_)
      obtain ⟨bb, rfl, hbb⟩ := best_parts hb'
      refine ⟨_, rfl, _, rfl, bb, _, _, _, rfl, rfl, hbb, ix0, _, _, rfl, rfl, _, rfl, ?_⟩
      refine ite2 (fun c => ?_) (fun c => ?_)
      · have c := of_decide_eq_true c
        refine ⟨_, rfl, _, rfl, _, rfl, by show 3 ≤ sizeLine; decide, fun nb hnb => ?_⟩
        refine ⟨dyv, pl, ot, .ref nb, _, _, rfl, t12.trans (Same.new hnb), .tup (xs := [.int dyv, .str pl, .str ot]) (SqT.at upd_same) (.cons (.int _) (.cons (.str _) (.cons (.str _) .nil))), ?_⟩
        refine ⟨by have := sf.pos; omega, .inr ⟨row, mem_at hrow, mem_at hdyv⟩, fun i' row' h1 h2 y hy => ?_, fun j' row' y h1 h2 h3 => ?_⟩
        · have := sf.le i' row' h1 h2 y hy; omega
        · by_cases ej : j' < j
          · have := sf.le' j' row' y ej h2 h3; omega
          · have : j' = j := by omega
            subst this
            rw [hrow] at h2
            cases h2
            rw [hdyv] at h3
            cases h3
            exact Int.le_refl _
      · have c : ¬ m < dyv := fun z => c (decide_eq_true z)
        refine ⟨m, p, q', .ref bb, _, _, rfl, t12, hb', ⟨sf.pos, sf.mem, sf.le, fun j' row' y h1 h2 h3 => ?_⟩⟩
        by_cases ej : j' < j
        · exact sf.le' j' row' y ej h2 h3
        · have : j' = j := by omega
          subst this
          rw [hrow] at h2
          cases h2
          rw [hdyv] at h3
          cases h3
          omega
    · rintro σ H' ⟨m, p, q', bv, y5, y6, rfl, t1, hb, sf⟩
      rw [List.length_map] at sf
      refine ⟨m, p, q', bv, _, _, _, _, rfl, t1, hb, ⟨sf.pos, sf.mem, fun i' row' h1 h2 y hy => ?_, fun _ _ _ h => by omega⟩⟩
      by_cases ei : i' < i
      · exact sf.le i' row' ei h2 y hy
      · have : i' = i := by omega
        subst this
        rw [hrow] at h2
        cases h2
        obtain ⟨j, hj⟩ := List.getElem?_of_mem hy
        exact sf.le' j row y (by rw [← rowl]; exact (List.getElem?_eq_some_iff.mp hj).1) hrow hj
  · rintro σ H' ⟨m, p, q', bv, y3, y4, y5, y6, rfl, t1, hb, sf⟩
    rw [List.length_map, ← yl] at sf
    have e := sf.great (by unfold yRows; simpa using T.pne) (yRows_ne T.pne) (fun row hrow y hy => by
      obtain ⟨z, _, rfl⟩ := List.mem_map.mp hrow
      obtain ⟨x, _, rfl⟩ := List.mem_map.mp hy
      omega)
    refine ⟨_, rfl, q H' bv p q' ((s12.trans s34).trans t1) ?_⟩
    rw [e]; exact hb
end
end R
set_option maxHeartbeats 4000000
namespace R
open PySem PySem.Spec PyProof.Rows L2
/-! ### the feed -/
/-- the feed at f: enough for n draws more -/
def Feed (H : Hp) (f : Addr) (n : Nat) : Prop := ∃ a b c : Int, H f = some (.lst [.int a, .int b, .int c]) ∧ 0 ≤ a ∧ 0 ≤ b ∧ b < 2 ^ 200 ∧ 0 ≤ c ∧ c + n ≤ 2 ^ 200
/-- all but what stands at f -/
def SameB (f : Addr) (H H' : Hp) : Prop := Same (wo H f) (wo H' f)
theorem Feed.less {H : Hp} {f : Addr} {n m : Nat} (h : Feed H f n) (hm : m ≤ n) : Feed H f m := by
  obtain ⟨a, b, c, h1, h2, h3, h4, h5, h6⟩ := h
  exact ⟨a, b, c, h1, h2, h3, h4, h5, by omega⟩
theorem Feed.mono {H H' : Hp} {f : Addr} {n : Nat} (h : Feed H f n) (s : Same H H') : Feed H' f n := by
  obtain ⟨a, b, c, h1, h2⟩ := h
  exact ⟨a, b, c, s _ _ h1, h2⟩
theorem Feed.some {H : Hp} {f : Addr} {n : Nat} (h : Feed H f n) : ∃ xs, H f = some (.lst xs) := by
  obtain ⟨a, b, c, h1, _⟩ := h
  exact ⟨_, h1⟩
theorem SameB.refl (f : Addr) (H : Hp) : SameB f H H := Same.refl _
theorem SameB.trans {f : Addr} {H H1 H2 : Hp} (a : SameB f H H1) (b : SameB f H1 H2) : SameB f H H2 := Same.trans a b
theorem Same.b {f : Addr} {H H' : Hp} (s : Same H H') : SameB f H H' := wo_mono s
theorem SameB.get {f b : Addr} {H H' : Hp} {o : HO} (s : SameB f H H') (ne : b ≠ f) (h : H b = some o) : H' b = some o := by
  have := s b o (by rw [wo_ne ne]; exact h)
  exact (wo_some this).2
theorem SameB.sameT {f : Addr} {H H' : Hp} {xs : List V} (s : SameB f H H') (h : H f = some (.lst xs)) : SameT H H' :=
  ⟨fun b ys e => s.get (ne_of e h (by intro z; cases z)) e, fun b o u e => s.get (ne_of e h (by intro z; cases z)) e⟩
theorem SameB.free {f p : Addr} {H H' : Hp} (s : SameB f H H') (ne : p ≠ f) (h : H' p = none) : H p = none := by
  cases e : H p with
  | none => rfl
  | some o => rw [s.get ne e] at h; cases h
theorem SameB.upd {f : Addr} {H : Hp} {o : HO} : SameB f H (upd H f o) := wo_updS
theorem SameB.over {f p : Addr} {H H' : Hp} {o : HO} (s : SameB f H H') (h : H p = none) (ne : p ≠ f) : SameB f H (L2.upd H' p o) := fun b u e => by
  have hb := (wo_some e).1
  have he := (wo_some e).2
  have hp : b ≠ p := ne_of_none he h
  rw [wo_ne hb, upd_ne hp]
  exact s.get hb he
theorem SameB.sq {K : PySem.W.Frag} {f p : Addr} {H H' : Hp} {xs : List V} (s : SameB f H H') (ne : p ≠ f) (h : SqL K H p xs) : SqL K H' p xs := by
  rcases h with (h | ⟨o, h⟩) | h
  · exact .inl (.inl (s.get ne h))
  · exact .inl (.inr ⟨o, s.get ne h⟩)
  · exact .inr h
section
variable {P : Program} {w : World} {K : PySem.W.Frag} {mg : Str → Option Value} {base : Heap}
def sp_law_feed (K : PySem.W.Frag) : Sp := fun vs H Q _ => ∃ (p : Addr) (ns : List Int) (k : Int), vs = [.ref p, .int k] ∧ SqL K H p (ns.map V.int) ∧ 0 ≤ k ∧ k < 100 ∧ ∀ H' f, Same H H' → H f = none → Feed H' f 1000000000 → Q (.ref f) H'
theorem ok_law_feed (F : DefAt K mg "_law_feed" s_law_feed ["_law_script", "_law_k"]) (B : Blt mg) : Ok P w K mg base CX0 1 "_law_feed" ["_law_script", "_law_k"] (sp_law_feed K) := by
  refine ok_of F sc_law_feed (fun vs H Q E h => by obtain ⟨_, _, _, rfl, _⟩ := h; rfl) fun f cdv A outer s H vs Q E hr h => ?_
  obtain ⟨p, ns, k, rfl, hp, k0, k1, q⟩ := h
  refine ⟨_, (ass_cons (as_set (i := 2) sc_law_feed.nd rfl (Or.inl rfl) (ae_op op_add (ae_op op_mul ae_int (av 1)) (ae_callB (sumL K rfl) (by rfl) B.sum_ (by decide +kernel) (aa_cons (ae_slice (slL K) (av 0) poN (ao_some ae_int)) aa_nil))))
    (ass_cons (as_if (at_cmpR op_lt (av 1) (ae_callB (lenS K) (by rfl) B.len_ PySem.boot_len (aa_cons (av 0) aa_nil)) (nomark _))
      (pss_one (as_set (i := 2) sc_law_feed.nd rfl (Or.inl rfl) (ae_ix (ixL K) (av 0) (av 1) (fun _ _ => rfl))))
      ass_nil)
    (pss_one (as_ret (ae_lst (aa_cons (ae_callB (call_max2 rfl) (by rfl) B.max_ (by decide +kernel) (aa_cons ae_int (aa_cons (ae_op op_sub (av 2) (ae_op op_pow ae_int ae_int)) aa_nil))) (aa_cons (ae_op op_mod (ae_callTy call_int1 (by rfl) B.int_ (by decide +kernel) (aa_cons (ae_op op_add (ae_op op_mul (av 2) ae_int) (ae_op op_mul ae_int (av 1))) aa_nil)) (ae_op op_add (ae_op op_pow ae_int ae_int) ae_int)) (aa_cons ae_int aa_nil)))))))), ?_⟩
  -- the cell
  have fin : ∀ (cell : Int) (H1 : Hp), Same H H1 → ∀ l, H1 l = none → Feed (upd H1 l (.lst [.int (if cell - 10 ^ 18 > 0 then cell - 10 ^ 18 else 0), .int ((cell * 19 + 7 * k) % (10 ^ 39 + 23)), .int 0])) l 1000000000 := by
    intro cell H1 s1 l hl
    refine ⟨_, _, _, upd_same, ?_, Int.emod_nonneg _ (by decide), ?_, Int.le_refl _, by decide⟩
    · split <;> omega
    · exact Int.lt_trans (Int.emod_lt_of_pos _ (by decide)) (by decide)
  have rest : ∀ (cell : Int) (H1 : Hp), Same H H1 → aRet (aLst (aCons (aCB (fun xs H Q => ∃ i j, xs = [V.int i, V.int j] ∧ Q (.int (if j > i then j else i)) H) (aCons (aC (.int 0)) (aCons (aOp (rI0 fun i j => .int (i - j)) (aVar 2) (aOp (rI CPow fun i j => .int (i ^ j.toNat)) (aC (.int 10)) (aC (.int 18)))) aNil)))
      (aCons (aOp (rI (fun _ j => 0 < j) fun i j => .int (i % j)) (aCB (fun xs H Q => (∃ i, xs = [V.int i] ∧ Q (.int i) H) ∨ ∃ k, xs = [V.bl k] ∧ Q (.int (if k then 1 else 0)) H) (aCons (aOp (rI0 fun i j => .int (i + j)) (aOp (rI CMul fun i j => .int (i * j)) (aVar 2) (aC (.int 19))) (aOp (rI CMul fun i j => .int (i * j)) (aC (.int 7)) (aVar 1))) aNil))
          (aOp (rI0 fun i j => .int (i + j)) (aOp (rI CPow fun i j => .int (i ^ j.toNat)) (aC (.int 10)) (aC (.int 39))) (aC (.int 23)))) (aCons (aC (.int 0)) aNil))))
      { nx := fun _ H' => Q .non H', rt := Q } [some (.ref p), some (.int k), some (.int cell)] H1 := by
    intro cell H1 s1
    refine ⟨_, rfl, _, _, rfl, rfl, ⟨by decide, by decide, by decide⟩, _, _, rfl, rfl, _, _, rfl, ?_⟩
    refine ⟨_, rfl, _, _, rfl, rfl, .inr ⟨by decide, by decide⟩, _, rfl, _, _, rfl, rfl, .inl ⟨by decide, by decide⟩, _, _, rfl, rfl, .inl ⟨_, rfl, ?_⟩⟩
    refine ⟨_, _, rfl, rfl, ⟨by decide, by decide, by decide⟩, _, _, rfl, rfl, _, _, rfl, rfl, ?_, ?_⟩
    · show (0 : Int) < 10 ^ 39 + 23; decide
    · refine ⟨by show 3 ≤ sizeLine; decide, fun l hl => ?_⟩
      exact q _ l (s1.trans (Same.new hl)) (s1.free hl) (fin cell H1 s1 l hl)
  refine ⟨_, rfl, _, _, rfl, rfl, .inl ⟨by decide, by decide⟩, ?_⟩
  refine ⟨_, rfl, _, rfl, p, _, rfl, hp, fun l hl => ?_⟩
  have s1 : Same H (upd H l (.lst (cutV (ns.map V.int) none (some 1)))) := Same.new hl
  refine ⟨l, ns.take 1, rfl, SqL.at (by rw [upd_same]; unfold cutV; rw [HT.sIx_none, show (1 : Int) = ((1 : Nat) : Int) by rfl, HT.sIx_nat, List.drop_zero, Nat.sub_zero, List.map_take]; simp), ?_⟩
  refine ⟨_, _, rfl, rfl, ?_⟩
  -- within the script
  refine ⟨_, rfl, _, rfl, p, _, rfl, .inl (s1.seq hp), _, _, rfl, rfl, _, rfl, ?_⟩
  refine ite2 (fun c => ?_) (fun c => ?_)
  · have c := of_decide_eq_true c
    rw [List.length_map] at c
    have hk : ns[k.toNat]? = some (ns[k.toNat]'(by omega)) := List.getElem?_eq_getElem (by omega)
    have ek : k = (k.toNat : Nat) := by omega
    refine ⟨_, rfl, _, rfl, p, _, _, _, rfl, rfl, s1.seq hp, (by rw [ek]; exact atI_nat (map_at hk)), ?_⟩
    exact rest _ _ s1
  · exact rest _ _ s1
end
end R
set_option maxHeartbeats 4000000
namespace R
open PySem PySem.Spec PyProof.Rows L2
theorem seqN {j n : Nat} (h : j < n) : seqIndex? (j : Int) n = some j := by
  unfold seqIndex?
  simp
  omega
/-- a list mixed is the list of mixed ones -/
theorem perm_inv {α β : Type} {f : α → β} {ys xs : List β} (h : ys.Perm xs) : ∀ {l : List α}, xs = l.map f → ∃ l' : List α, l'.Perm l ∧ ys = l'.map f := by
  induction h with
  | nil => intro l e; exact ⟨l, List.Perm.refl _, e⟩
  | cons x _ ih =>
    intro l e
    cases l with
    | nil => cases e
    | cons a l =>
      rw [List.map_cons] at e
      injection e with e1 e2
      obtain ⟨l', p, e'⟩ := ih e2
      exact ⟨a :: l', p.cons a, by rw [List.map_cons, e1, e']⟩
  | swap x y _ =>
    intro l e
    match l, e with
    | a :: b :: l, e =>
      rw [List.map_cons, List.map_cons] at e
      injection e with e1 e2
      injection e2 with e2 e3
      exact ⟨b :: a :: l, List.Perm.swap _ _ _, by rw [List.map_cons, List.map_cons, e1, e2, e3]⟩
  | trans _ _ ih1 ih2 =>
    intro l e
    obtain ⟨l1, p1, e1⟩ := ih2 e
    obtain ⟨l2, p2, e2⟩ := ih1 e1
    exact ⟨l2, p2.trans p1, e2⟩
theorem erase_perm {α : Type} {x : α} : ∀ {l : List α} {i : Nat}, l[i]? = some x → (x :: l.eraseIdx i).Perm l
  | [], i, h => by simp at h
  | y :: l, 0, h => by simp at h; subst h; exact List.Perm.refl _
  | y :: l, i + 1, h => by
    have := erase_perm (l := l) (i := i) (by simpa using h)
    rw [List.eraseIdx_cons_succ]
    exact (List.Perm.swap y x _).trans (this.cons y)
section
variable {P : Program} {w : World} {K : PySem.W.Frag} {mg : Str → Option Value} {base : Heap}
def sp_law_draw (_ : PySem.W.Frag) : Sp := fun vs H Q _ => ∃ (f : Addr) (m : Int) (n : Nat), vs = [.ref f, .int m] ∧ Feed H f (n + 1) ∧ 0 < m ∧ m < 1073741824 ∧ ∀ H' r, SameB f H H' → Feed H' f n → (∀ p, H p = none → H' p = none) → 0 ≤ r → r < m → Q (.int r) H'
theorem ok_law_draw (F : DefAt K mg "_law_draw" s_law_draw ["_law_feed_here", "_law_many"]) (B : Blt mg) : Ok P w K mg base CX0 1 "_law_draw" ["_law_feed_here", "_law_many"] (sp_law_draw K) := by
  refine ok_of F sc_law_draw (fun vs H Q E h => by obtain ⟨_, _, _, rfl, _⟩ := h; rfl) fun f cdv A outer s H vs Q E hr h => ?_
  obtain ⟨f, m, n, rfl, ⟨a, b, c, hf, ha, hb, hb2, hc, hcn⟩, m0, m1, q⟩ := h
  refine ⟨_, (ass_cons (as_if (at_cmpR op_gt (ae_ix (ixL K) (av 0) ae_int (fun _ _ => rfl)) ae_int (nomark _))
      (ass_cons (as_set (i := 2) sc_law_draw.nd rfl (Or.inl rfl) (ae_op op_fdiv (ae_ix (ixL K) (av 0) ae_int (fun _ _ => rfl)) (av 1)))
      (ass_cons (as_set (i := 3) sc_law_draw.nd rfl (Or.inl rfl) (ae_op op_sub (ae_ix (ixL K) (av 0) ae_int (fun _ _ => rfl)) (ae_op op_mul (av 2) (av 1))))
      (ass_cons (as_asg (av 2) (pg_sub (av 0) ae_int set_list))
      (pss_one (as_ret (av 3))))))
      ass_nil)
    (ass_cons (as_asg (ae_op op_add (ae_ix (ixL K) (av 0) ae_int (fun _ _ => rfl)) ae_int) (pg_sub (av 0) ae_int set_list))
    (ass_cons (as_set (i := 4) sc_law_draw.nd rfl (Or.inl rfl) (ae_op op_add (ae_ix (ixL K) (av 0) ae_int (fun _ _ => rfl)) (ae_op op_mul ae_int (ae_ix (ixL K) (av 0) ae_int (fun _ _ => rfl)))))
    (ass_cons (as_set (i := 4) sc_law_draw.nd rfl (Or.inl rfl) (ae_op op_mod (ae_callTy call_int1 (by rfl) B.int_ (by decide +kernel) (aa_cons (ae_op op_add (ae_op op_mulW (ae_op op_mulW (av 4) (av 4)) (av 4)) (ae_op op_mul ae_int (ae_ix (ixL K) (av 0) ae_int (fun _ _ => rfl)))) aa_nil)) (ae_op op_add (ae_op op_pow ae_int ae_int) ae_int)))
    (ass_cons (as_set (i := 4) sc_law_draw.nd rfl (Or.inl rfl) (ae_op op_mod (ae_callTy call_int1 (by rfl) B.int_ (by decide +kernel) (aa_cons (ae_op op_add (ae_op op_mulW (av 4) (av 4)) ae_int) aa_nil)) (ae_op op_add (ae_op op_pow ae_int ae_int) ae_int)))
    (pss_one (as_ret (ae_op op_mod (ae_callTy call_int1 (by rfl) B.int_ (by decide +kernel) (aa_cons (ae_op op_fdiv (av 4) (ae_op op_pow ae_int ae_int)) aa_nil)) (av 1))))))))), ?_⟩
  have fr : ∀ (o : HO) (p : Addr), H p = none → upd H f o p = none := fun o p hp => by
    rw [upd_ne (fun e => by rw [e, hf] at hp; cases hp)]; exact hp
  refine ⟨_, rfl, f, _, _, _, rfl, rfl, SqL.at hf, ix0, _, _, rfl, rfl, _, rfl, ?_⟩
  refine ite2 (fun k => ?_) (fun k => ?_)
  · have k := of_decide_eq_true k
    -- the rest
    refine ⟨_, rfl, f, _, _, _, rfl, rfl, SqL.at hf, ix0, _, rfl, _, _, rfl, rfl, ⟨m0, m1⟩, ?_⟩
    refine ⟨_, rfl, f, _, _, _, rfl, rfl, SqL.at hf, ix0, _, rfl, _, rfl, _, _, rfl, rfl, .inr ⟨by omega, by omega⟩, _, _, rfl, rfl, ?_⟩
    refine ⟨_, rfl, _, rfl, f, _, _, 0, rfl, rfl, hf, rfl, ?_⟩
    refine ⟨_, rfl, q _ _ SameB.upd ⟨a / m, b, c, upd_same, Int.ediv_nonneg ha (by omega), hb, hb2, hc, by omega⟩ (fr _) ?_ ?_⟩
    · have h1 := Int.emod_nonneg a (show m ≠ 0 by omega)
      have h2 := Int.emod_add_mul_ediv a m
      have h3 : m * (a / m) = a / m * m := Int.mul_comm _ _
      omega
    · have h1 := Int.emod_lt_of_pos a m0
      have h2 := Int.emod_add_mul_ediv a m
      have h3 : m * (a / m) = a / m * m := Int.mul_comm _ _
      omega
  · -- the count
    refine ⟨_, rfl, f, _, _, _, rfl, rfl, SqL.at hf, ix2, _, _, rfl, rfl, _, rfl, f, _, _, 2, rfl, rfl, hf, rfl, ?_⟩
    have hf1 : upd H f (.lst ([V.int a, .int b, .int c].set 2 (.int (c + 1)))) f = some (.lst [.int a, .int b, .int (c + 1)]) := upd_same
    have sb : SameB f H (upd H f (.lst ([V.int a, .int b, .int c].set 2 (.int (c + 1))))) := SameB.upd
    have fr1 := fr (.lst ([V.int a, .int b, .int c].set 2 (.int (c + 1))))
    generalize upd H f (.lst ([V.int a, .int b, .int c].set 2 (.int (c + 1)))) = H1 at hf1 sb fr1
    -- the stir
    refine ⟨_, rfl, f, _, _, _, rfl, rfl, SqL.at hf1, ix1, _, rfl, f, _, _, _, rfl, rfl, SqL.at hf1, ix2, _, _, rfl, rfl, .inl ⟨by decide, by decide⟩, _, _, rfl, rfl, ?_⟩
    have b1 : (b + 6700417 * (c + 1)).natAbs < 2 ^ 224 := by omega
    show aSeq _ _ _ [_, _, _, _, some (.int (b + 6700417 * (c + 1)))] _
    generalize b + 6700417 * (c + 1) = z at b1
    have b2 := wide_lt b1 b1
    refine ⟨_, rfl, _, rfl, _, _, rfl, rfl, wide_mul (a := 224) (b := 224) b1 b1 (by decide) (by decide) (by decide), _, rfl, _, _, rfl, rfl, wide_mul (a := 448) (b := 224) b2 b1 (by decide) (by decide) (by decide), _, rfl, f, _, _, _, rfl, rfl, SqL.at hf1, ix2, _, _, rfl, rfl, .inl ⟨by decide, by decide⟩, _, _, rfl, rfl, .inl ⟨_, rfl, ?_⟩⟩
    refine ⟨_, _, rfl, rfl, ⟨by decide, by decide, by decide⟩, _, _, rfl, rfl, _, _, rfl, rfl, ?_, ?_⟩
    · show (0 : Int) < 10 ^ 43 + 57; decide
    have b3 : ((z * z * z + 15485863 * (c + 1)) % (10 ^ 43 + 57) : Int).natAbs < 2 ^ 150 := by
      have h1 := Int.emod_nonneg (z * z * z + 15485863 * (c + 1)) (show (10 ^ 43 + 57 : Int) ≠ 0 by decide)
      have h2 := Int.emod_lt_of_pos (z * z * z + 15485863 * (c + 1)) (show (0 : Int) < 10 ^ 43 + 57 by decide)
      have h3 : (10 ^ 43 + 57 : Int) < 2 ^ 150 := by decide
      omega
    show aSeq _ _ _ [_, _, _, _, some (.int ((z * z * z + 15485863 * (c + 1)) % (10 ^ 43 + 57)))] _
    generalize (z * z * z + 15485863 * (c + 1)) % (10 ^ 43 + 57) = y at b3
    refine ⟨_, rfl, _, rfl, _, _, rfl, rfl, wide_mul (a := 150) (b := 150) b3 b3 (by decide) (by decide) (by decide), _, _, rfl, rfl, .inl ⟨_, rfl, ?_⟩⟩
    refine ⟨_, _, rfl, rfl, ⟨by decide, by decide, by decide⟩, _, _, rfl, rfl, _, _, rfl, rfl, ?_, ?_⟩
    · show (0 : Int) < 10 ^ 38 + 133; decide
    refine ⟨_, rfl, _, _, rfl, rfl, ⟨by decide, by decide, by decide⟩, _, _, rfl, rfl, ⟨by decide, by decide⟩, .inl ⟨_, rfl, ?_⟩⟩
    refine ⟨_, rfl, _, _, rfl, rfl, m0, ?_⟩
    exact q _ _ sb ⟨a, b, c + 1, hf1, ha, hb, hb2, by omega, by omega⟩ fr1 (Int.emod_nonneg _ (by omega)) (Int.emod_lt_of_pos _ m0)
def sp_law_one (K : PySem.W.Frag) : Sp := fun vs H Q _ => ∃ (f p : Addr) (xs : List V) (n : Nat), vs = [.ref f, .ref p] ∧ Feed H f (n + 1) ∧ SqL K H p xs ∧ p ≠ f ∧ xs ≠ [] ∧ xs.length ≤ 100000 ∧ ∀ H' x, SameB f H H' → Feed H' f n → (∀ p, H p = none → H' p = none) → x ∈ xs → Q x H'
theorem ok_law_one (F : DefAt K mg "_law_one" s_law_one ["_law_feed_here", "_law_things"]) (B : Blt mg) (G_law_draw : Ok P w K mg base CX0 1 "_law_draw" ["_law_feed_here", "_law_many"] (sp_law_draw K)) : Ok P w K mg base CX0 2 "_law_one" ["_law_feed_here", "_law_things"] (sp_law_one K) := by
  refine ok_of F sc_law_one (fun vs H Q E h => by obtain ⟨_, _, _, _, rfl, _⟩ := h; rfl) fun f cdv A outer s H vs Q E hr h => ?_
  obtain ⟨f, p, xs, n, rfl, hf, hp, pf, xne, xl, q⟩ := h
  refine ⟨_, (pss_one (as_ret (ae_ix (ixL K) (av 1) (ae_co G_law_draw hr pass0 (aa_cons (av 0) (aa_cons (ae_callB (lenS K) (by rfl) B.len_ PySem.boot_len (aa_cons (av 1) aa_nil)) aa_nil))) (fun _ _ => rfl)))), ?_⟩
  have x0 : 0 < xs.length := List.length_pos_iff.mpr xne
  refine ⟨_, rfl, _, rfl, _, rfl, p, _, rfl, .inl hp, f, (xs.length : Int), n, rfl, hf, by omega, by omega, fun H1 r sb hf1 fr r0 r1 => ?_⟩
  have hk : xs[r.toNat]? = some (xs[r.toNat]'(by omega)) := List.getElem?_eq_getElem (by omega)
  have ek : r = (r.toNat : Nat) := by omega
  refine ⟨p, xs, r, _, rfl, rfl, sb.sq pf hp, (by rw [ek]; exact atI_nat hk), ?_⟩
  exact q _ _ sb hf1 fr (mem_at hk)
def sp_law_mixed (K : PySem.W.Frag) : Sp := fun vs H Q _ => ∃ (f p : Addr) (xs : List V) (n : Nat), vs = [.ref f, .ref p] ∧ Feed H f (n + xs.length) ∧ (SqL K H p xs ∨ SqT K H p xs) ∧ p ≠ f ∧ xs.length ≤ 1000 ∧
  ∀ H' L ys, SameB f H H' → Feed H' f n → H L = none → H' L = some (.lst ys) → ys.Perm xs → Q (.ref L) H'
theorem ok_law_mixed (F : DefAt K mg "_law_mixed" s_law_mixed ["_law_feed_here", "_law_things"]) (B : Blt mg) (G_law_draw : Ok P w K mg base CX0 1 "_law_draw" ["_law_feed_here", "_law_many"] (sp_law_draw K)) : Ok P w K mg base CX0 2 "_law_mixed" ["_law_feed_here", "_law_things"] (sp_law_mixed K) := by
  refine ok_of F sc_law_mixed (fun vs H Q E h => by obtain ⟨_, _, _, _, rfl, _⟩ := h; rfl) fun f cdv A outer s H vs Q E hr h => ?_
  obtain ⟨f, p, xs, n, rfl, hf, hp, pf, xl, q⟩ := h
  refine ⟨_, (ass_cons (ps_par (i := 2) (j := 3) rfl sc_law_mixed.nd rfl rfl (by decide) rfl rfl (aa_cons (ae_callTy (listOf K) (by rfl) B.list_ (by decide +kernel) (aa_cons (av 1) aa_nil)) (aa_cons (ae_lst aa_nil) aa_nil)) (by rfl))
    (ass_cons (ps_for PassesOwn.never rfl (pi_range1 rfl B.range_ (aa_cons (ae_callB (lenS K) (by rfl) B.len_ PySem.boot_len (aa_cons (av 1) aa_nil)) aa_nil)) (pg_name (i := 4) sc_law_mixed.nd rfl (Or.inl rfl))
      (pss_one (as_expr (ae_bm K PySem.F.plainAttrs_list PySem.F.slot_list_append PySem.F.type_list_append mt_append (av 3) (aa_cons (ae_bm K PySem.F.plainAttrs_list PySem.F.slot_list_pop PySem.F.type_list_pop mt_popAt (av 2) (aa_cons (ae_co G_law_draw hr pass0 (aa_cons (av 0) (aa_cons (ae_callB (lenS K) (by rfl) B.len_ PySem.boot_len (aa_cons (av 2) aa_nil)) aa_nil))) aa_nil)) aa_nil)))))
    (pss_one (as_ret (av 3))))), ?_⟩
  -- pool, got
  refine ⟨_, rfl, p, _, rfl, hp, fun l1 hl1 => ⟨Nat.zero_le _, fun l2 hl2 => ⟨_, _, rfl, ?_⟩⟩⟩
  have t1 : Same H (upd H l1 (.lst xs)) := Same.new hl1
  have t2 : Same (upd H l1 (.lst xs)) (upd (upd H l1 (.lst xs)) l2 (.lst [])) := Same.new hl2
  have n12 : l1 ≠ l2 := ne_of_none upd_same hl2
  have g1 : upd (upd H l1 (.lst xs)) l2 (.lst []) l1 = some (.lst xs) := by rw [upd_ne n12, upd_same]
  have g2 : upd (upd H l1 (.lst xs)) l2 (.lst []) l2 = some (.lst []) := upd_same
  have n2 : H l2 = none := t1.free hl2
  have f1 : l1 ≠ f := fun e => by obtain ⟨_, z⟩ := hf.some; rw [e, z] at hl1; cases hl1
  have f2 : l2 ≠ f := fun e => by obtain ⟨_, z⟩ := hf.some; rw [e, z] at n2; cases n2
  have t12 := t1.trans t2
  have hp2 : SqL K (upd (upd H l1 (.lst xs)) l2 (.lst [])) p xs ∨ SqT K (upd (upd H l1 (.lst xs)) l2 (.lst [])) p xs := hp.imp t12.seq t12.seqT
  generalize upd (upd H l1 (.lst xs)) l2 (.lst []) = H1 at t12 g1 g2 hp2
  refine ⟨_, rfl, p, _, rfl, hp2, _, rfl, by omega, by omega, ?_⟩
  refine for_range (fun i σ H' => ∃ (y4 : Option V) (ps gs : List V), σ = [some (.ref f), some (.ref p), some (.ref l1), some (.ref l2), y4] ∧ SameB f H H' ∧ Feed H' f (n + (xs.length - i)) ∧ H' l1 = some (.lst ps) ∧ H' l2 = some (.lst gs) ∧ gs.length = i ∧ ps.length + i = xs.length ∧ (gs ++ ps).Perm xs)
    ⟨none, xs, [], rfl, R.Same.b t12, hf.mono t12, g1, g2, rfl, rfl, List.Perm.refl _⟩ ?_ ?_
  · rintro i σ H' hi ⟨y4, ps, gs, rfl, sb, hf', h1, h2, gl, pl, pm⟩
    have hi : i < xs.length := by omega
    refine ⟨_, rfl, .inl ⟨rfl, _, SqL.at h2⟩, _, rfl, .inl ⟨rfl, _, SqL.at h1⟩, _, rfl, _, rfl, l1, _, rfl, .inl (SqL.at h1), f, (ps.length : Int), n + (xs.length - (i + 1)), rfl, ?_, by omega, by omega, fun H2 r sb2 hf2 _ r0 r1 => ?_⟩
    · exact hf'.less (by omega)
    have h1' := sb2.get f1 h1
    have h2' := sb2.get f2 h2
    have hk : ps[r.toNat]? = some (ps[r.toNat]'(by omega)) := List.getElem?_eq_getElem (by omega)
    have ek : r = (r.toNat : Nat) := by omega
    refine ⟨l1, ps, r, r.toNat, _, rfl, rfl, h1', by omega, by omega, (by rw [ek]; exact seqN (by omega)), hk, ?_⟩
    refine ⟨l2, gs, _, rfl, rfl, by rw [upd_ne n12.symm]; exact h2', small_ (m := 1000) (by omega), ?_⟩
    refine ⟨_, ps.eraseIdx r.toNat, _, rfl, (((sb.trans sb2).over hl1 f1).over n2 f2), ?_, by rw [upd_ne n12, upd_same], upd_same, by rw [List.length_append, gl]; rfl, ?_, ?_⟩
    · obtain ⟨a, b, c, z1, z2⟩ := hf2
      exact ⟨a, b, c, by rw [upd_ne f2.symm, upd_ne f1.symm]; exact z1, z2⟩
    · rw [List.length_eraseIdx, if_pos (by omega)]; omega
    · rw [List.append_assoc]
      exact ((erase_perm hk).append_left gs).trans pm
  · rintro σ H' ⟨y4, ps, gs, rfl, sb, hf', h1, h2, gl, pl, pm⟩
    have : ps = [] := List.length_eq_zero_iff.mp (by omega)
    subst this
    rw [List.append_nil] at pm
    exact ⟨_, rfl, q H' l2 gs sb (hf'.less (by omega)) n2 h2 pm⟩
/-- the names that are drawn from -/
def namesL : List Str := ["a", "b10", "b9", "zz", "c", "q1w2e3r4", "d", "x", "m0", "road", "k", "e5", "y", "i2"]
def sp_law_names (K : PySem.W.Frag) : Sp := fun vs H Q _ => ∃ (f : Addr) (m n : Nat), vs = [.ref f, .int m] ∧ Feed H f (n + 14) ∧ m ≤ 14 ∧
  ∀ H' L (l : List Str), SameB f H H' → Feed H' f n → H L = none → H' L = some (.lst (l.map V.str)) → l.length = m → l.Nodup → l.all nameOk = true → (∀ x ∈ l, x ∈ namesL) → Q (.ref L) H'
theorem ok_law_names (F : DefAt K mg "_law_names" s_law_names ["_law_feed_here", "_law_many"]) (B : Blt mg) (G_law_mixed : Ok P w K mg base CX0 2 "_law_mixed" ["_law_feed_here", "_law_things"] (sp_law_mixed K)) : Ok P w K mg base CX0 3 "_law_names" ["_law_feed_here", "_law_many"] (sp_law_names K) := by
  refine ok_of F sc_law_names (fun vs H Q E h => by obtain ⟨_, _, _, rfl, _⟩ := h; rfl) fun f cdv A outer s H vs Q E hr h => ?_
  obtain ⟨f, m, n, rfl, hf, hm, q⟩ := h
  refine ⟨_, (pss_one (as_ret (ae_slice (slL K) (ae_co G_law_mixed hr pass0 (aa_cons (av 0) (aa_cons (ae_lst (aa_cons ae_str (aa_cons ae_str (aa_cons ae_str (aa_cons ae_str (aa_cons ae_str (aa_cons ae_str (aa_cons ae_str (aa_cons ae_str (aa_cons ae_str (aa_cons ae_str (aa_cons ae_str (aa_cons ae_str (aa_cons ae_str (aa_cons ae_str aa_nil))))))))))))))) aa_nil))) poN (ao_some (av 1))))), ?_⟩
  refine ⟨_, rfl, by show 14 ≤ sizeLine; decide, fun p hp => ?_⟩
  have s1 : Same H (upd H p (.lst (namesL.map V.str))) := Same.new hp
  have pf : p ≠ f := fun e => by obtain ⟨_, z⟩ := hf.some; rw [e, z] at hp; cases hp
  refine ⟨f, p, namesL.map V.str, n, rfl, hf.mono s1, .inl (SqL.at upd_same), pf, by show 14 ≤ 1000; decide, fun H1 L ys sb hf1 nL hL pm => ?_⟩
  obtain ⟨l, pl, rfl⟩ := perm_inv pm rfl
  refine ⟨_, rfl, _, rfl, L, _, rfl, SqL.at hL, fun c hc => ?_⟩
  have sb1 := (R.Same.b (f := f) s1).trans sb
  have cf : c ≠ f := fun e => by obtain ⟨_, z⟩ := hf1.some; rw [e, z] at hc; cases hc
  have ll : l.length = 14 := pl.length_eq
  have ec : cutV (l.map V.str) none (some (m : Int)) = (l.take m).map V.str := by
    unfold cutV
    rw [HT.sIx_none, HT.sIx_nat, List.drop_zero, Nat.sub_zero, List.length_map, List.map_take, Nat.min_eq_left (by omega)]
  rw [ec]
  have nd : namesL.Nodup := by decide +kernel
  have no : namesL.all nameOk = true := by decide +kernel
  have mem : ∀ x ∈ l.take m, x ∈ namesL := fun x hx => pl.mem_iff.mp (List.mem_of_mem_take hx)
  refine q _ c (l.take m) (sb1.trans (R.Same.b (Same.new hc))) (hf1.mono (Same.new hc)) (sb1.free cf hc) upd_same (by rw [List.length_take]; omega) ((pl.nodup_iff.mpr nd).sublist (List.take_sublist _ _)) ?_ mem
  exact List.all_eq_true.mpr fun x hx => List.all_eq_true.mp no x (mem x hx)
end
end R
set_option maxHeartbeats 4000000
/-! trees grown leaf by leaf -/
namespace R
open PySem L2
abbrev Tie := Str × Str
structure TE (P : List Str) (E : List Tie) (d : Str → Str → Nat) : Prop where
  zero : ∀ a ∈ P, ∀ b ∈ P, d a b = 0 ↔ a = b
  symm : ∀ a ∈ P, ∀ b ∈ P, d a b = d b a
  edge : ∀ e ∈ E, ∀ a ∈ P, d a e.1 = d a e.2 + 1 ∨ d a e.2 = d a e.1 + 1
  next : ∀ a ∈ P, ∀ x ∈ P, a ≠ x → ∃ e ∈ E, (x = e.1 ∧ d a e.2 + 1 = d a x) ∨ (x = e.2 ∧ d a e.1 + 1 = d a x)
  ends : ∀ e ∈ E, e.1 ∈ P ∧ e.2 ∈ P
theorem TE.one (p : Str) : TE [p] [] (fun _ _ => 0) where
  zero := fun a ha b hb => by simp only [List.mem_singleton] at ha hb; simp [ha, hb]
  symm := fun _ _ _ _ => rfl
  edge := fun e he => by cases he
  next := fun a ha x hx ne => by simp only [List.mem_singleton] at ha hx; exact absurd (ha.trans hx.symm) ne
  ends := fun e he => by cases he
def leafD (d : Str → Str → Nat) (u v a b : Str) : Nat := if a = v then (if b = v then 0 else d u b + 1) else if b = v then d a u + 1 else d a b
theorem TE.leaf {P : List Str} {E : List Tie} {d : Str → Str → Nat} {u v : Str} (T : TE P E d) (hu : u ∈ P) (hv : v ∉ P) : TE (P ++ [v]) (E ++ [(v, u)]) (leafD d u v) := by
  have ne : ∀ {a}, a ∈ P → ¬ a = v := fun ha e => hv (e ▸ ha)
  have l1 : ∀ a ∈ P, ∀ b ∈ P, leafD d u v a b = d a b := fun a ha b hb => by unfold leafD; rw [if_neg (ne ha), if_neg (ne hb)]
  have l2 : ∀ a ∈ P, leafD d u v a v = d a u + 1 := fun a ha => by unfold leafD; rw [if_neg (ne ha), if_pos rfl]
  have l3 : ∀ b ∈ P, leafD d u v v b = d u b + 1 := fun b hb => by unfold leafD; rw [if_pos rfl, if_neg (ne hb)]
  have l4 : leafD d u v v v = 0 := by unfold leafD; rw [if_pos rfl, if_pos rfl]
  have mem : ∀ {a}, a ∈ P ++ [v] → a ∈ P ∨ a = v := fun h => by simpa using h
  have inl : ∀ {a}, a ∈ P → a ∈ P ++ [v] := fun h => List.mem_append_left _ h
  refine ⟨fun a ha b hb => ?_, fun a ha b hb => ?_, fun e he a ha => ?_, fun a ha x hx nx => ?_, fun e he => ?_⟩
  · rcases mem ha with ha1 | rfl
    · rcases mem hb with hb1 | rfl
      · rw [l1 a ha1 b hb1]; exact T.zero a ha1 b hb1
      · rw [l2 a ha1]; exact ⟨fun z => by omega, fun z => absurd z (ne ha1)⟩
    · rcases mem hb with hb1 | rfl
      · rw [l3 b hb1]; exact ⟨fun z => by omega, fun z => absurd z.symm (ne hb1)⟩
      · rw [l4]; simp
  · rcases mem ha with ha1 | rfl
    · rcases mem hb with hb1 | rfl
      · rw [l1 a ha1 b hb1, l1 b hb1 a ha1]; exact T.symm a ha1 b hb1
      · rw [l2 a ha1, l3 a ha1, T.symm a ha1 u hu]
    · rcases mem hb with hb1 | rfl
      · rw [l3 b hb1, l2 b hb1, T.symm b hb1 u hu]
      · rfl
  · rcases List.mem_append.mp he with he1 | he1
    · obtain ⟨e1, e2⟩ := T.ends e he1
      rcases mem ha with ha1 | rfl
      · rw [l1 a ha1 _ e1, l1 a ha1 _ e2]; exact T.edge e he1 a ha1
      · rw [l3 _ e1, l3 _ e2]
        have := T.edge e he1 u hu
        omega
    · simp only [List.mem_singleton] at he1
      subst he1
      show leafD d u v a v = leafD d u v a u + 1 ∨ leafD d u v a u = leafD d u v a v + 1
      rcases mem ha with ha1 | rfl
      · rw [l2 a ha1, l1 a ha1 u hu]; exact .inl rfl
      · rw [l4, l3 u hu, (T.zero u hu u hu).mpr rfl]; exact .inr rfl
  · rcases mem ha with ha1 | rfl
    · rcases mem hx with hx1 | rfl
      · obtain ⟨e, he, h⟩ := T.next a ha1 x hx1 nx
        obtain ⟨e1, e2⟩ := T.ends e he
        refine ⟨e, List.mem_append_left _ he, ?_⟩
        rw [l1 a ha1 x hx1, l1 a ha1 _ e1, l1 a ha1 _ e2]
        exact h
      · refine ⟨(x, u), List.mem_append_right _ (by simp), .inl ⟨rfl, ?_⟩⟩
        show leafD d u x a u + 1 = leafD d u x a x
        rw [l2 a ha1, l1 a ha1 u hu]
    · rcases mem hx with hx1 | rfl
      · by_cases xu : u = x
        · subst xu
          refine ⟨(a, u), List.mem_append_right _ (by simp), .inr ⟨rfl, ?_⟩⟩
          show leafD d u a a a + 1 = leafD d u a a u
          rw [l4, l3 u hu, (T.zero u hu u hu).mpr rfl]
        · obtain ⟨e, he, h⟩ := T.next u hu x hx1 xu
          obtain ⟨e1, e2⟩ := T.ends e he
          refine ⟨e, List.mem_append_left _ he, ?_⟩
          rw [l3 x hx1, l3 _ e1, l3 _ e2]
          rcases h with ⟨h1, h2⟩ | ⟨h1, h2⟩
          · exact .inl ⟨h1, by omega⟩
          · exact .inr ⟨h1, by omega⟩
      · exact absurd rfl nx
  · rcases List.mem_append.mp he with he1 | he1
    · exact ⟨inl (T.ends e he1).1, inl (T.ends e he1).2⟩
    · simp only [List.mem_singleton] at he1
      subst he1
      exact ⟨List.mem_append_right _ (by simp), inl hu⟩
/-- what covers as many as it holds holds each once -/
theorem nodup_cover {α : Type} [DecidableEq α] : ∀ {l m : List α}, l.Nodup → (∀ x ∈ l, x ∈ m) → m.length ≤ l.length → m.Nodup
  | [], m, _, _, h => by
    have : m = [] := List.length_eq_zero_iff.mp (by simpa using h)
    subst this
    exact List.nodup_nil
  | x :: l, m, hl, hs, h => by
    rw [List.nodup_cons] at hl
    have hx : x ∈ m := hs x List.mem_cons_self
    have hsub : ∀ y ∈ l, y ∈ m.erase x := fun y hy => by
      have ne : y ≠ x := fun e => hl.1 (e ▸ hy)
      exact (List.mem_erase_of_ne ne).mpr (hs y (List.mem_cons_of_mem _ hy))
    have le := List.length_erase_of_mem hx
    have pos := List.length_pos_of_mem hx
    rw [List.length_cons] at h
    have ih := nodup_cover hl.2 hsub (by omega)
    have nx : x ∉ m.erase x := fun k => by
      have := length_le_of_nodup_sub (l := x :: l) (m := m.erase x) (List.nodup_cons.mpr hl) fun y hy => by
        rcases List.mem_cons.mp hy with rfl | hy
        · exact k
        · exact hsub y hy
      rw [List.length_cons] at this
      omega
    exact ((List.perm_cons_erase hx).nodup_iff).mpr (List.nodup_cons.mpr ⟨nx, ih⟩)
def Flip (e e' : Tie) : Prop := e' = e ∨ e' = (e.2, e.1)
theorem TE.tree {P : List Str} {E : List Tie} {d : Str → Str → Nat} (T : TE P E d) {W : Web} (nd : W.P.Nodup) (nn : W.names.Nodup) (hP : ∀ x, x ∈ W.P ↔ x ∈ P) (h1 : ∀ r ∈ W.R, ∃ e ∈ E, Flip e (r.2.1, r.2.2)) (h2 : ∀ e ∈ E, ∃ r ∈ W.R, Flip e (r.2.1, r.2.2)) (cnt : W.R.length + 1 = W.P.length) : TreeD W d := by
  have edge : ∀ r ∈ W.R, ∀ a ∈ W.P, d a r.2.1 = d a r.2.2 + 1 ∨ d a r.2.2 = d a r.2.1 + 1 := fun r hr a ha => by
    obtain ⟨e, he, f⟩ := h1 r hr
    have := T.edge e he a ((hP a).mp ha)
    rcases f with f | f
    · rw [← f] at this; exact this
    · have f1 : r.2.1 = e.2 := congrArg Prod.fst f
      have f2 : r.2.2 = e.1 := congrArg Prod.snd f
      rw [f1, f2]; omega
  have next : ∀ a ∈ W.P, ∀ x ∈ W.P, a ≠ x → ∃ r ∈ W.R, inc x r ∧ d a (otherEnd r x) + 1 = d a x := fun a ha x hx ne => by
    obtain ⟨e, he, h⟩ := T.next a ((hP a).mp ha) x ((hP x).mp hx) ne
    obtain ⟨r, hr, f⟩ := h2 e he
    have E := edge r hr a ha
    have nr : r.2.1 ≠ r.2.2 := fun z => by rw [z] at E; omega
    refine ⟨r, hr, ?_⟩
    rcases f with f | f
    · have f1 : r.2.1 = e.1 := congrArg Prod.fst f
      have f2 : r.2.2 = e.2 := congrArg Prod.snd f
      rcases h with ⟨g1, g2⟩ | ⟨g1, g2⟩
      · refine ⟨.inl (by rw [g1, f1]), ?_⟩
        unfold otherEnd
        rw [if_pos (by rw [g1, f1]), f2]; exact g2
      · refine ⟨.inr (by rw [g1, f2]), ?_⟩
        unfold otherEnd
        rw [if_neg (by rw [g1, ← f2]; exact nr), f1]; exact g2
    · have f1 : r.2.1 = e.2 := congrArg Prod.fst f
      have f2 : r.2.2 = e.1 := congrArg Prod.snd f
      rcases h with ⟨g1, g2⟩ | ⟨g1, g2⟩
      · refine ⟨.inr (by rw [g1, f2]), ?_⟩
        unfold otherEnd
        rw [if_neg (by rw [g1, ← f2]; exact nr), f1]; exact g2
      · refine ⟨.inl (by rw [g1, f1]), ?_⟩
        unfold otherEnd
        rw [if_pos (by rw [g1, f1]), f2]; exact g2
  refine ⟨⟨nd, nn, fun r hr => ?_⟩, cnt, fun a ha b hb => T.zero a ((hP a).mp ha) b ((hP b).mp hb), fun a ha b hb => T.symm a ((hP a).mp ha) b ((hP b).mp hb), edge, next, fun a ha x hx r hr s hs hi hi' q q' => ?_⟩
  · obtain ⟨e, he, f⟩ := h1 r hr
    obtain ⟨e1, e2⟩ := T.ends e he
    rcases f with f | f
    · have f1 : r.2.1 = e.1 := congrArg Prod.fst f
      have f2 : r.2.2 = e.2 := congrArg Prod.snd f
      rw [f1, f2]; exact ⟨(hP _).mpr e1, (hP _).mpr e2⟩
    · have f1 : r.2.1 = e.2 := congrArg Prod.fst f
      have f2 : r.2.2 = e.1 := congrArg Prod.snd f
      rw [f1, f2]; exact ⟨(hP _).mpr e2, (hP _).mpr e1⟩
  · -- each road has one farther end; there are as many roads as places but a
    let far : Road → Str := fun r => if d a r.2.2 < d a r.2.1 then r.2.1 else r.2.2
    have fx : ∀ r ∈ W.R, ∀ x, inc x r → d a (otherEnd r x) + 1 = d a x → far r = x := fun r hr x hi q => by
      have E := edge r hr a ha
      rcases otherEnd_or hi with ⟨g1, g2⟩ | ⟨g1, g2⟩
      · rw [g2, g1] at q
        show (if d a r.2.2 < d a r.2.1 then r.2.1 else r.2.2) = x
        rw [if_pos (by omega), g1]
      · rw [g2, g1] at q
        show (if d a r.2.2 < d a r.2.1 then r.2.1 else r.2.2) = x
        rw [if_neg (by omega), g1]
    have F : (W.R.map far).Nodup := by
      refine nodup_cover (l := W.P.erase a) (nd.erase a) (fun y hy => ?_) ?_
      · have ya : a ≠ y := fun e => by
          rw [← e] at hy
          exact (List.Nodup.mem_erase_iff nd).mp hy |>.1 rfl
        have yP : y ∈ W.P := List.mem_of_mem_erase hy
        obtain ⟨r, hr, hi, q⟩ := next a ha y yP ya
        exact List.mem_map.mpr ⟨r, hr, fx r hr y hi q⟩
      · rw [List.length_map, List.length_erase_of_mem ha]; omega
    obtain ⟨i, gi⟩ := List.getElem?_of_mem hr
    obtain ⟨j, gj⟩ := List.getElem?_of_mem hs
    have a1 : (W.R.map far)[i]? = some x := by rw [List.getElem?_map, gi]; exact congrArg some (fx r hr x hi q)
    have a2 : (W.R.map far)[j]? = some x := by rw [List.getElem?_map, gj]; exact congrArg some (fx s hs x hi' q')
    have : i = j := nd_ix F a1 a2
    subst this
    rw [gi] at gj
    exact Option.some.inj gj
end R
set_option maxHeartbeats 4000000
namespace R
open PySem PySem.Spec PyProof.Rows L2
def tieD (e : Tie) : PyData := strsT [e.1, e.2]
theorem tie_parts {K : PySem.W.Frag} {H : Hp} {v : V} {e : Tie} (h : Dp K H v (tieD e)) : ∃ a, v = .ref a ∧ SqT K H a [.str e.1, .str e.2] := by
  obtain ⟨a, xs, rfl, h1, h2⟩ := h.tupI
  have e' : xs = [V.str e.1, V.str e.2] := DpAll.strs (l := [e.1, e.2]) h2
  subst e'
  exact ⟨a, rfl, h1⟩
theorem tup_ties : ∀ E : List Tie, tupOnly.tupAll (E.map tieD) = true
  | [] => rfl
  | e :: E => by rw [List.map_cons, tupOnly.tupAll, tup_ties E, Bool.and_true]; exact tup_strsT _
def webOf (P : List Str) (rd : List Str) (E : List Tie) : Web := ⟨P, (rd.zip E).map fun p => (p.1, p.2.1, p.2.2)⟩
theorem webOf_names {P rd : List Str} {E : List Tie} (h : rd.length = E.length) : (webOf P rd E).names = rd := by
  unfold webOf Web.names
  rw [List.map_map]
  exact List.map_fst_zip (by omega)
theorem webOf_ties {P rd : List Str} {E : List Tie} (h : rd.length = E.length) : (webOf P rd E).R.map (fun r => (r.2.1, r.2.2)) = E := by
  unfold webOf
  rw [List.map_map]
  exact List.map_snd_zip (by omega)
theorem webOf_len {P rd : List Str} {E : List Tie} (h : rd.length = E.length) : (webOf P rd E).R.length = E.length := by
  unfold webOf
  rw [List.length_map, List.length_zip]; omega
section
variable {P : Program} {w : World} {K : PySem.W.Frag} {mg : Str → Option Value} {base : Heap}
theorem if_pick {c : Bool} {v1 v2 i : Nat} {σ : L2.St} {H : Hp} {Q : VK} (h1 : σ[i]? = some (some (.int (v1 : Nat)))) (hQ : ∀ m : Nat, (m = if c = true then v1 else v2) → Q (.int (m : Nat)) H) : if c = true then aVar i σ H Q else aC (.int (v2 : Nat)) σ H Q := by
  cases c with
  | true => exact ⟨_, h1, hQ v1 rfl⟩
  | false => exact hQ v2 rfl
theorem dp_perm {H : Hp} {ys ys' : List V} (h : ys'.Perm ys) : ∀ {ds : List PyData}, DpAll K H ys ds → ∃ ds' : List PyData, ds'.Perm ds ∧ DpAll K H ys' ds' := by
  induction h with
  | nil => intro ds h; exact ⟨ds, List.Perm.refl _, h⟩
  | cons x _ ih =>
    intro ds h
    cases h with
    | cons a b =>
      obtain ⟨ds', p, h'⟩ := ih b
      exact ⟨_, p.cons _, .cons a h'⟩
  | swap x y _ =>
    intro ds h
    cases h with
    | cons a b => cases b with
      | cons a' b' => exact ⟨_, List.Perm.swap _ _ _, .cons a' (.cons a b')⟩
  | trans _ _ ih1 ih2 =>
    intro ds h
    obtain ⟨d1, p1, h1⟩ := ih2 h
    obtain ⟨d2, p2, h2⟩ := ih1 h1
    exact ⟨d2, p2.trans p1, h2⟩
theorem Flip.mem {e e' : Tie} (h : Flip e e') {P : Str → Prop} (h1 : P e.1) (h2 : P e.2) : P e'.1 ∧ P e'.2 := by
  rcases h with rfl | rfl
  · exact ⟨h1, h2⟩
  · exact ⟨h2, h1⟩
theorem Flip.ne {e e' : Tie} (h : Flip e e') (n : e.1 ≠ e.2) : e'.1 ≠ e'.2 := by
  rcases h with rfl | rfl
  · exact n
  · exact n.symm
/-- what a web that is drawn keeps -/
structure Drawn (W : Web) (many : Nat) : Prop where
  ok : WebOk W
  len : W.P.length = many
  inN : ∀ x ∈ W.names, x ∈ namesL
  inP : ∀ x ∈ W.P, x ∈ namesL
theorem Drawn.new {W : Web} {many : Nat} (h : Drawn W many) {x : Str} (hx : namesL.contains x = false) : x ∉ W.names ∧ x ∉ W.P :=
  ⟨fun k => by have := h.inN x k; rw [List.contains_eq_mem, decide_eq_false_iff_not] at hx; exact hx this, fun k => by have := h.inP x k; rw [List.contains_eq_mem, decide_eq_false_iff_not] at hx; exact hx this⟩
def sp_law_sized (K : PySem.W.Frag) : Sp := fun vs H Q _ => ∃ (f : Addr) (many more n : Nat), vs = [.ref f, .int (many : Nat), .int (more : Nat)] ∧ Feed H f (n + 200) ∧ 1 ≤ many ∧ many ≤ 10 ∧ more ≤ 4 ∧
  ∀ H' v W, SameB f H H' → Feed H' f n → WebZ K H' v W → Drawn W many → (more = 0 → ∃ d, TreeD W d) → (1 ≤ more → 2 ≤ many → W.R.length + 1 ≠ W.P.length) → Q v H'
theorem ok_law_sized (F : DefAt K mg "_law_sized" s_law_sized ["_law_feed_here", "_law_many", "_law_more"]) (B : Blt mg) (G_law_draw : Ok P w K mg base CX0 1 "_law_draw" ["_law_feed_here", "_law_many"] (sp_law_draw K)) (G_law_mixed : Ok P w K mg base CX0 2 "_law_mixed" ["_law_feed_here", "_law_things"] (sp_law_mixed K)) (G_law_names : Ok P w K mg base CX0 3 "_law_names" ["_law_feed_here", "_law_many"] (sp_law_names K)) :
    Ok P w K mg base CX0 4 "_law_sized" ["_law_feed_here", "_law_many", "_law_more"] (sp_law_sized K) := by
  refine ok_of F sc_law_sized (fun vs H Q E h => by obtain ⟨_, _, _, _, rfl, _⟩ := h; rfl) fun f cdv A outer s H vs Q E hr h => ?_
  obtain ⟨f, many, more, n, rfl, hf, m1, m10, mo4, q⟩ := h
  refine ⟨_, (ass_cons (ps_par3 (i := 3) (j := 4) (l := 5) rfl sc_law_sized.nd rfl rfl rfl (by decide) (by decide) (by decide) rfl rfl rfl (aa_cons (ae_co G_law_draw hr pass0 (aa_cons (av 0) (aa_cons ae_int aa_nil))) (aa_cons (ae_co G_law_names hr pass0 (aa_cons (av 0) (aa_cons (av 1) aa_nil))) (aa_cons (ae_lst aa_nil) aa_nil))) (by rfl))
    (ass_cons (ps_for PassesOwn.never rfl (pi_range2 rfl B.range_ (aa_cons ae_int (aa_cons (av 1) aa_nil))) (pg_name (i := 6) sc_law_sized.nd rfl (Or.inl rfl))
      (ass_cons (as_set (i := 7) sc_law_sized.nd rfl (Or.inl rfl) (ae_ifExp (at_cmpR op_eq (av 3) ae_int (nomark _)) (ae_op op_sub (av 6) ae_int) (ae_ifExp (at_cmpR op_eq (av 3) ae_int (nomark _)) ae_int (ae_co G_law_draw hr pass0 (aa_cons (av 0) (aa_cons (av 6) aa_nil))))))
      (pss_one (as_expr (ae_bm K PySem.F.plainAttrs_list PySem.F.slot_list_append PySem.F.type_list_append mt_append (av 5) (aa_cons (ae_tup (aa_cons (ae_ix (ixL K) (av 4) (av 6) (fun _ _ => rfl)) (aa_cons (ae_ix (ixL K) (av 4) (av 7) (fun _ _ => rfl)) aa_nil))) aa_nil))))))
    (ass_cons (ps_for PassesOwn.never rfl (pi_range1 rfl B.range_ (aa_cons (ae_ifExp (at_cmpR op_gt (av 1) ae_int (nomark _)) (av 2) ae_int) aa_nil)) (pg_name (i := 8) sc_law_sized.nd rfl (Or.inl rfl))
      (ass_cons (as_set (i := 9) sc_law_sized.nd rfl (Or.inl rfl) (ae_co G_law_draw hr pass0 (aa_cons (av 0) (aa_cons (av 1) aa_nil))))
      (pss_one (as_expr (ae_bm K PySem.F.plainAttrs_list PySem.F.slot_list_append PySem.F.type_list_append mt_append (av 5) (aa_cons (ae_tup (aa_cons (ae_ix (ixL K) (av 4) (av 9) (fun _ _ => rfl)) (aa_cons (ae_ix (ixL K) (av 4) (ae_op op_mod (ae_callTy call_int1 (by rfl) B.int_ (by decide +kernel) (aa_cons (ae_op op_add (ae_op op_add (av 9) ae_int) (ae_co G_law_draw hr pass0 (aa_cons (av 0) (aa_cons (ae_op op_sub (av 1) ae_int) aa_nil)))) aa_nil)) (av 1)) (fun _ _ => rfl)) aa_nil))) aa_nil))))))
    (ass_cons (ps_setLc (i := 5) (own := [("_law_tie", 11)]) (g := (gName 11)) (tt := tYes) rfl sc_law_sized.nd rfl rfl (sw_true rfl rfl rfl (by decide +kernel)) (piL K (ae_co G_law_mixed hr pass0 (aa_cons (av 0) (aa_cons (av 5) aa_nil)))) (blkOk_by (own := [("_law_tie", 11)]) (N := n_law_sized) (sc := (defScope s_law_sized)) (by decide +kernel)) (fun _ _ _ _ _ => (pg_name (i := 11) sc_law_sized.nd rfl (Or.inl rfl))) (fun _ _ _ _ _ => pts_nil) (fun _ _ _ _ _ => (ae_ifExp (at_cmpR op_eq (ae_co G_law_draw hr pass0 (aa_cons (av 0) (aa_cons ae_int aa_nil))) ae_int (nomark _)) (ae_tup (aa_cons (ae_ix (ixT K) (av 11) ae_int (fun _ _ => rfl)) (aa_cons (ae_ix (ixT K) (av 11) ae_int (fun _ _ => rfl)) aa_nil))) (av 11))))
    (ass_cons (as_set (i := 10) sc_law_sized.nd rfl (Or.inl rfl) (ae_co G_law_names hr pass0 (aa_cons (av 0) (aa_cons (ae_callB (lenS K) (by rfl) B.len_ PySem.boot_len (aa_cons (av 5) aa_nil)) aa_nil))))
    (pss_one (as_ret (ae_tup (aa_cons (ae_callTy (tupOfZ K) (by rfl) B.tuple_ (by decide +kernel) (aa_cons (ae_co G_law_mixed hr pass0 (aa_cons (av 0) (aa_cons (av 4) aa_nil))) aa_nil)) (aa_cons (ae_callTy (tupOf K) (by rfl) B.tuple_ (by decide +kernel) (aa_cons (pe_lc (own := [("_law_road", 12), ("_law_tie", 11)]) (g := (gTup K 2 (gCons (gName 12) (gCons (gName 11) gNil)))) (tt := tYes) rfl sc_law_sized.nd (zipL K (by rfl) B.zip_ (aa_cons (av 10) (aa_cons (av 5) aa_nil))) (blkOk_by (own := [("_law_road", 12), ("_law_tie", 11)]) (N := n_law_sized) (sc := (defScope s_law_sized)) (by decide +kernel)) (fun _ _ _ _ _ => (pgT K rfl (pgs_cons (pg_name (i := 12) sc_law_sized.nd rfl (Or.inl rfl)) (pgs_cons (pg_name (i := 11) sc_law_sized.nd rfl (Or.inl rfl)) pgs_nil)))) (fun _ _ _ _ _ => pts_nil) (fun _ _ _ _ _ => (ae_op (catA K) (ae_tup (aa_cons (av 12) aa_nil)) (av 11)))) aa_nil)) aa_nil)))))))))), ?_⟩
  have nf : ∀ {H : Hp} {p : Addr} {k : Nat}, Feed H f k → H p = none → p ≠ f := fun hf hp e => by obtain ⟨_, z⟩ := hf.some; rw [e, z] at hp; cases hp
  -- shape, names, ties
  refine ⟨_, rfl, f, 4, n + 199, rfl, hf, by decide, by decide, fun H1 shape sb1 hf1 _ _ _ => ?_⟩
  refine ⟨_, rfl, _, rfl, f, many, n + 185, rfl, hf1, by omega, fun H2 nmL nms sb2 hf2 nL hL hlen hnd hok hno => ?_⟩
  refine ⟨Nat.zero_le _, fun l5 hl5 => ⟨_, _, _, rfl, ?_⟩⟩
  have fL : nmL ≠ f := nf hf1 nL
  have f5 : l5 ≠ f := nf hf2 hl5
  have n5 : nmL ≠ l5 := ne_of_none hL hl5
  have s3 : Same H2 (upd H2 l5 (.lst [])) := Same.new hl5
  have g5 : upd H2 l5 (.lst []) l5 = some (.lst []) := upd_same
  have hf3 := hf2.mono s3
  have hL3 := s3 _ _ hL
  have sb3 := (sb1.trans sb2).trans (R.Same.b (f := f) s3)
  have nl5 : H l5 = none := (sb1.trans sb2).free f5 hl5
  have nlL : H nmL = none := sb1.free fL nL
  generalize upd H2 l5 (.lst []) = H3 at s3 g5 hf3 hL3 sb3
  have nameAt : ∀ {j : Nat}, j < many → ∃ x, nms[j]? = some x := fun hj => ⟨_, List.getElem?_eq_getElem (by omega)⟩
  -- the ties of a tree
  refine ⟨_, rfl, _, _, rfl, ⟨by decide, by decide, by omega, by omega⟩, ?_⟩
  refine for_range (fun i σ H' => ∃ (y6 y7 : Option V) (ys : List V) (E : List Tie) (d : Str → Str → Nat), σ = [some (.ref f), some (.int (many : Nat)), some (.int (more : Nat)), some (.int shape), some (.ref nmL), some (.ref l5), y6, y7, none, none, none, none, none] ∧ SameB f H H' ∧ Feed H' f (n + 150 - i) ∧ H' nmL = some (.lst (nms.map V.str)) ∧ H' l5 = some (.lst ys) ∧ DpAll K H' ys (E.map tieD) ∧ E.length = i ∧ TE (nms.take (i + 1)) E d)
    ⟨none, none, [], [], fun _ _ => 0, rfl, sb3, hf3.less (by omega), hL3, g5, .nil, rfl, ?_⟩ ?_ ?_
  · obtain ⟨x, hx⟩ := nameAt (j := 0) (by omega)
    rw [List.take_add_one, hx]
    exact TE.one x
  · rintro i σ H' hi ⟨y6, y7, ys, E, d, rfl, sb, hf', hL', h5, hda, hE, hT⟩
    have hi : i + 1 < many := by omega
    -- the tie put
    have body : ∀ (D' : Ends) (H4 : Hp) (k : Nat) (vk : V), vk = .int (k : Nat) → k < i + 1 → SameB f H' H4 → Feed H4 f (n + 150 - (i + 1)) →
        (∀ H5 y6 y7 ys E d, SameB f H H5 → Feed H5 f (n + 150 - (i + 1)) → H5 nmL = some (.lst (nms.map V.str)) → H5 l5 = some (.lst ys) → DpAll K H5 ys (E.map tieD) → E.length = i + 1 → TE (nms.take (i + 1 + 1)) E d → D'.nx [some (.ref f), some (.int (many : Nat)), some (.int (more : Nat)), some (.int shape), some (.ref nmL), some (.ref l5), y6, y7, none, none, none, none, none] H5) →
        aDrop (aBM K "list" rAppend (aVar 5) (aCons (aTup (aCons (aOp (rIxL K) (aVar 4) (aVar 6)) (aCons (aOp (rIxL K) (aVar 4) (aVar 7)) aNil))) aNil)) D' [some (.ref f), some (.int (many : Nat)), some (.int (more : Nat)), some (.int shape), some (.ref nmL), some (.ref l5), some (.int (1 + (i : Nat))), some vk, none, none, none, none, none] H4 := by
      intro D' H4 k vk ek hk sb4 hf4 kk
      subst ek
      have hL4 := sb4.get fL hL'
      have h54 := sb4.get f5 h5
      obtain ⟨x, hx⟩ := nameAt (j := i + 1) hi
      obtain ⟨y, hy⟩ := nameAt (j := k) (by omega)
      obtain ⟨xs0, hf0⟩ := hf'.some
      have hda4 := dpAll_sameT (sb4.sameT hf0) hda (tup_ties E)
      refine ⟨_, rfl, .inl ⟨rfl, _, SqL.at h54⟩, _, rfl, _, rfl, nmL, _, _, _, rfl, rfl, SqL.at hL4, (by rw [show (1 + (i : Int)) = ((i + 1 : Nat) : Int) by omega]; exact atI_nat (map_at hx)), _, rfl, _, rfl, nmL, _, _, _, rfl, rfl, SqL.at hL4, atI_nat (map_at hy), by show 2 ≤ sizeLine; decide, fun p hp => ?_⟩
      have t1 : Same H4 (upd H4 p (.tup [.str x, .str y])) := Same.new hp
      refine ⟨l5, _, _, rfl, rfl, t1 _ _ h54, ?_, ?_⟩
      · rw [hda.length, List.length_map, hE]; exact small_ (m := 100) (by omega)
      have pf : p ≠ f := nf hf4 hp
      have p5 : p ≠ l5 := (ne_of_none h54 hp).symm
      have gp : upd H4 p (.tup [.str x, .str y]) p = some (.tup [.str x, .str y]) := upd_same
      have tT := sameT_updL (o := .lst (ys ++ [.ref p])) (t1 _ _ h54)
      refine kk _ _ _ _ (E ++ [(x, y)]) (leafD d y x) ?_ ?_ ?_ upd_same ?_ (by rw [List.length_append, hE]; rfl) ?_
      · exact ((sb.trans sb4).trans (R.Same.b t1)).over nl5 f5
      · obtain ⟨a, b, c, z1, z2⟩ := hf4.mono t1
        exact ⟨a, b, c, by rw [upd_ne f5.symm]; exact z1, z2⟩
      · rw [upd_ne n5]; exact t1 _ _ hL4
      · rw [List.map_append]
        refine (dpAll_sameT tT (hda4.mono t1) (tup_ties E)).snoc ?_
        exact dp_sameT tT (.tup (xs := [.str x, .str y]) (SqT.at gp) (DpAll.ofStrs [x, y])) (tup_strsT _)
      · have et : nms.take (i + 1 + 1) = nms.take (i + 1) ++ [x] := by rw [List.take_add_one, hx]; rfl
        rw [et]
        refine hT.leaf ?_ ?_
        · refine List.mem_of_getElem? (i := k) ?_
          rw [List.getElem?_take, if_pos hk]; exact hy
        · intro hm
          obtain ⟨j, hj⟩ := List.getElem?_of_mem hm
          rw [List.getElem?_take] at hj
          split at hj
          · have := nd_ix hnd hj hx
            omega
          · cases hj
    have fin : ∀ H5 (y6 y7 : Option V) (ys : List V) (E : List Tie) (d : Str → Str → Nat), SameB f H H5 → Feed H5 f (n + 150 - (i + 1)) → H5 nmL = some (.lst (nms.map V.str)) → H5 l5 = some (.lst ys) → DpAll K H5 ys (E.map tieD) → E.length = i + 1 → TE (nms.take (i + 1 + 1)) E d →
        ∃ (z6 z7 : Option V) (ys : List V) (E : List Tie) (d : Str → Str → Nat), [some (.ref f), some (.int (many : Nat)), some (.int (more : Nat)), some (.int shape), some (.ref nmL), some (.ref l5), y6, y7, none, none, none, none, none] = [some (V.ref f), some (.int (many : Nat)), some (.int (more : Nat)), some (.int shape), some (.ref nmL), some (.ref l5), z6, z7, none, none, none, none, none] ∧ SameB f H H5 ∧ Feed H5 f (n + 150 - (i + 1)) ∧ H5 nmL = some (.lst (nms.map V.str)) ∧ H5 l5 = some (.lst ys) ∧ DpAll K H5 ys (E.map tieD) ∧ E.length = i + 1 ∧ TE (nms.take (i + 1 + 1)) E d :=
      fun H5 y6 y7 ys E d q1 q2 q3 q4 q5 q6 q7 => ⟨_, _, ys, E, d, rfl, q1, q2, q3, q4, q5, q6, q7⟩
    refine ⟨_, rfl, rfl, _, rfl, ?_⟩
    refine ite2 (fun c => ?_) (fun c => ?_)
    · refine ⟨_, rfl, _, _, rfl, rfl, ?_⟩
      refine body _ H' i _ (congrArg V.int (by omega)) (by omega) (SameB.refl _ _) (hf'.less (by omega)) ?_
      exact fin
    · refine ⟨_, rfl, rfl, _, rfl, ?_⟩
      refine ite2 (fun c2 => ?_) (fun c2 => ?_)
      · refine body _ H' 0 _ rfl (by omega) (SameB.refl _ _) (hf'.less (by omega)) ?_
        exact fin
      · refine ⟨_, rfl, _, rfl, f, (1 + (i : Int)), n + 150 - (i + 1), rfl, hf'.less (by omega), by omega, by omega, fun H4 r sb4 hf4 _ r0 r1 => ?_⟩
        refine body _ H4 r.toNat _ (congrArg V.int (by omega)) (by omega) sb4 hf4 ?_
        exact fin
  · rintro σ H' ⟨y6, y7, ys, E, d, rfl, sb, hf', hL', h5, hda, hE, hT⟩
    have hm' : (((many : Nat) : Int) - 1).toNat = many - 1 := by omega
    rw [hm'] at hE hT hf'
    have eT : nms.take (many - 1 + 1) = nms := List.take_of_length_le (by omega)
    rw [eT] at hT
    -- more ties
    refine ⟨_, rfl, _, _, rfl, rfl, _, rfl, ?_⟩
    refine if_pick (i := 2) (v1 := more) (v2 := 0) rfl fun m2 hm2 => ?_
    have hm2' : m2 ≤ 4 ∧ (1 ≤ m2 → 2 ≤ many) ∧ (more = 0 → m2 = 0) ∧ (1 ≤ more → 2 ≤ many → 1 ≤ m2) := by
      by_cases hc : (1 : Int) < (many : Nat)
      · rw [if_pos (decide_eq_true hc)] at hm2; omega
      · rw [if_neg (fun z => hc (of_decide_eq_true z))] at hm2; omega
    obtain ⟨m24, m2m, m20, m21⟩ := hm2'
    refine ⟨_, rfl, by omega, by omega, ?_⟩
    have hE0 : E.length = many - 1 := hE
    refine for_range (fun i σ H' => ∃ (y8 y9 : Option V) (ys : List V) (X : List Tie), σ = [some (.ref f), some (.int (many : Nat)), some (.int (more : Nat)), some (.int shape), some (.ref nmL), some (.ref l5), y6, y7, y8, y9, none, none, none] ∧ SameB f H H' ∧ Feed H' f (n + 140 - 2 * i) ∧ H' nmL = some (.lst (nms.map V.str)) ∧ H' l5 = some (.lst ys) ∧ DpAll K H' ys ((E ++ X).map tieD) ∧ X.length = i ∧ ∀ e ∈ X, (e.1 ∈ nms ∧ e.2 ∈ nms) ∧ e.1 ≠ e.2)
      ⟨none, none, ys, [], rfl, sb, hf'.less (by omega), hL', h5, by rw [List.append_nil]; exact hda, rfl, fun e he => by cases he⟩ ?_ ?_
    · rintro i σ H' hi ⟨y8, y9, ys, X, rfl, sb, hf', hL', h5, hda, hX, hXe⟩
      have hi : i < m2 := by omega
      have hm2 : 2 ≤ many := m2m (by omega)
      refine ⟨_, rfl, _, rfl, f, (many : Int), n + 140 - 2 * i - 1, rfl, hf'.less (by omega), by omega, by omega, fun H4 r sb4 hf4 _ r0 r1 => ?_⟩
      have hL4 := sb4.get fL hL'
      have h54 := sb4.get f5 h5
      obtain ⟨x, hx⟩ := nameAt (j := r.toNat) (by omega)
      refine ⟨_, rfl, .inl ⟨rfl, _, SqL.at h54⟩, _, rfl, _, rfl, nmL, _, _, _, rfl, rfl, SqL.at hL4, (by rw [show r = ((r.toNat : Nat) : Int) by omega]; exact atI_nat (map_at hx)), _, rfl, _, rfl, _, _, rfl, rfl, _, rfl, _, rfl, _, _, rfl, rfl, f, ((many : Int) - 1), n + 140 - 2 * (i + 1), rfl, hf4.less (by omega), by omega, by omega, fun H6 r2 sb6 hf6 _ u0 u1 => ?_⟩
      have hL6 := sb6.get fL hL4
      have h56 := sb6.get f5 h54
      have q0 := Int.emod_nonneg (r + 1 + r2) (show ((many : Nat) : Int) ≠ 0 by omega)
      have q1 := Int.emod_lt_of_pos (r + 1 + r2) (show (0 : Int) < (many : Nat) by omega)
      have q2 : (r + 1 + r2) % ((many : Nat) : Int) ≠ r := fun e => by
        have h2 := Int.emod_add_mul_ediv (r + 1 + r2) ((many : Nat) : Int)
        rw [e] at h2
        have h3 : ((many : Nat) : Int) * ((r + 1 + r2) / ((many : Nat) : Int)) = 1 + r2 := by omega
        have h4 : (r + 1 + r2) / ((many : Nat) : Int) = 0 ∨ (r + 1 + r2) / ((many : Nat) : Int) ≥ 1 ∨ (r + 1 + r2) / ((many : Nat) : Int) ≤ -1 := by omega
        rcases h4 with h4 | h4 | h4
        · rw [h4] at h3; simp at h3; omega
        · have := Int.mul_le_mul_of_nonneg_left h4 (show (0 : Int) ≤ (many : Nat) by omega)
          omega
        · have := Int.mul_le_mul_of_nonneg_left h4 (show (0 : Int) ≤ (many : Nat) by omega)
          omega
      generalize hk : (r + 1 + r2) % ((many : Nat) : Int) = k at q0 q1 q2
      obtain ⟨y, hy⟩ := nameAt (j := k.toNat) (by omega)
      obtain ⟨xs0, hf0⟩ := hf'.some
      obtain ⟨xs4, hf40⟩ := hf4.some
      have hda6 := dpAll_sameT (sb6.sameT hf40) (dpAll_sameT (sb4.sameT hf0) hda (tup_ties _)) (tup_ties _)
      refine ⟨_, _, rfl, rfl, .inl ⟨_, rfl, _, rfl, _, _, rfl, rfl, ?_, nmL, _, _, _, rfl, rfl, SqL.at hL6, (by rw [hk, show k = ((k.toNat : Nat) : Int) by omega]; exact atI_nat (map_at hy)), by show 2 ≤ sizeLine; decide, fun p hp => ?_⟩⟩
      · show (0 : Int) < (many : Nat); omega
      have t1 : Same H6 (upd H6 p (.tup [.str x, .str y])) := Same.new hp
      refine ⟨l5, _, _, rfl, rfl, t1 _ _ h56, ?_, ?_⟩
      · rw [hda.length, List.length_map, List.length_append, hE0, hX]; exact small_ (m := 100) (by omega)
      have gp : upd H6 p (.tup [.str x, .str y]) p = some (.tup [.str x, .str y]) := upd_same
      have tT := sameT_updL (o := .lst (ys ++ [.ref p])) (t1 _ _ h56)
      refine ⟨_, _, _, X ++ [(x, y)], rfl, ?_, ?_, ?_, upd_same, ?_, by rw [List.length_append, hX]; rfl, ?_⟩
      · exact (((sb.trans sb4).trans sb6).trans (R.Same.b t1)).over nl5 f5
      · obtain ⟨a, b, c, z1, z2⟩ := hf6.mono t1
        exact ⟨a, b, c, by rw [upd_ne f5.symm]; exact z1, z2⟩
      · rw [upd_ne n5]; exact t1 _ _ hL6
      · rw [← List.append_assoc, List.map_append]
        refine (dpAll_sameT tT (hda6.mono t1) (tup_ties _)).snoc ?_
        exact dp_sameT tT (.tup (xs := [.str x, .str y]) (SqT.at gp) (DpAll.ofStrs [x, y])) (tup_strsT _)
      · intro e he
        rcases List.mem_append.mp he with he | he
        · exact hXe e he
        · simp only [List.mem_singleton] at he
          subst he
          refine ⟨⟨mem_at hx, mem_at hy⟩, fun (z : x = y) => ?_⟩
          rw [z] at hx
          have := nd_ix hnd hx hy
          omega
    · rintro σ H' ⟨y8, y9, ys, X, rfl, sb, hf', hL', h5, hda, hX, hXe⟩
      have hX : X.length = m2 := by omega
      have lE : (E ++ X).length = many - 1 + m2 := by rw [List.length_append, hE0, hX]
      have endsE : ∀ e ∈ E ++ X, (e.1 ∈ nms ∧ e.2 ∈ nms) ∧ e.1 ≠ e.2 := fun e he => by
        rcases List.mem_append.mp he with he | he
        · refine ⟨hT.ends e he, fun z => ?_⟩
          have := hT.edge e he e.1 (hT.ends e he).1
          rw [← z] at this
          omega
        · exact hXe e he
      generalize hEE : E ++ X = EE at hda lE endsE
      have yl : ys.length = many - 1 + m2 := by rw [hda.length, List.length_map, lE]
      -- the ties mixed
      refine ⟨_, rfl, _, rfl, f, l5, ys, n + 110, rfl, hf'.less (by omega), .inl (SqL.at h5), f5, by omega, fun H4 L ys4 sb4 hf4 nL4 hL4 pm => ?_⟩
      obtain ⟨xs0, hf0⟩ := hf'.some
      have hda4 := dpAll_sameT (sb4.sameT hf0) hda (tup_ties EE)
      obtain ⟨ds4, pd, hd4⟩ := dp_perm pm hda4
      obtain ⟨Em, pE, rfl⟩ := perm_inv pd rfl
      have lEm : Em.length = many - 1 + m2 := by rw [pE.length_eq, lE]
      have yl4 : ys4.length = Em.length := by rw [hd4.length, List.length_map]
      have fL4 : L ≠ f := nf hf' nL4
      refine ⟨L, rfl, ⟨_, SqL.at hL4⟩, fun D hD => ?_⟩
      have fD : D ≠ f := nf hf4 hD
      have nm4 := sb4.get fL hL'
      refine lc_list (K := K) (a := L) (xs := ys4) (fun i H' => SameB f H4 H' ∧ Feed H' f (n + 110 - i) ∧ ∃ (zs : List V) (E' : List Tie), H' D = some (.lst zs) ∧ DpAll K H' zs (E'.map tieD) ∧ E'.length = i ∧ (∀ e' ∈ E', ∃ e ∈ Em.take i, Flip e e') ∧ ∀ e ∈ Em.take i, ∃ e' ∈ E', Flip e e')
        ⟨R.Same.b (Same.new hD), hf4.mono (Same.new hD), [], [], upd_same, .nil, rfl, fun e he => (by cases he), fun e he => (by simp at he)⟩ (fun i H' _ h => h.1.sq fL4 (SqL.at hL4)) ?_ ?_
      · rintro i x H5 hx ⟨sb5, hf5, zs, E', hz, hdz, lE', c1, c2⟩
        have hil : i < ys4.length := (List.getElem?_eq_some_iff.mp hx).1
        obtain ⟨dx, hdx1, hdx2⟩ := hd4.get' hx
        obtain ⟨e, he, rfl⟩ := at_map hdx1
        obtain ⟨xs4, hf40⟩ := hf4.some
        have hdx5 := dp_sameT (sb5.sameT hf40) hdx2 (tup_strsT _)
        -- whichever way, a tie is put
        have put : ∀ (H7 : Hp) (v : V) (e' : Tie), SameB f H5 H7 → Feed H7 f (n + 110 - (i + 1)) → Dp K H7 v (tieD e') → Flip e e' → ∃ acc, H7 D = some (.lst acc) ∧ acc.length < sizeLine ∧ (SameB f H4 (upd H7 D (.lst (acc ++ [v]))) ∧ Feed (upd H7 D (.lst (acc ++ [v]))) f (n + 110 - (i + 1)) ∧ ∃ (zs : List V) (E' : List Tie), upd H7 D (.lst (acc ++ [v])) D = some (.lst zs) ∧ DpAll K (upd H7 D (.lst (acc ++ [v]))) zs (E'.map tieD) ∧ E'.length = i + 1 ∧ (∀ e' ∈ E', ∃ e ∈ Em.take (i + 1), Flip e e') ∧ ∀ e ∈ Em.take (i + 1), ∃ e' ∈ E', Flip e e') := by
          intro H7 v e' sb7 hf7 hv fl
          have hz7 := sb7.get fD hz
          have tT := sameT_updL (o := .lst (zs ++ [v])) hz7
          obtain ⟨xs5, hf50⟩ := hf5.some
          refine ⟨zs, hz7, ?_, (sb5.trans sb7).over hD fD, ?_, zs ++ [v], E' ++ [e'], upd_same, ?_, by rw [List.length_append, lE']; rfl, fun e2 he2 => ?_, fun e2 he2 => ?_⟩
          · rw [hdz.length, List.length_map, lE']; exact small_ (m := 100) (by omega)
          · obtain ⟨a, b, c, z1, z2⟩ := hf7
            exact ⟨a, b, c, by rw [upd_ne fD.symm]; exact z1, z2⟩
          · rw [List.map_append]
            exact (dpAll_sameT tT (dpAll_sameT (sb7.sameT hf50) hdz (tup_ties E')) (tup_ties E')).snoc (dp_sameT tT hv (tup_strsT _))
          · rw [List.take_add_one, he]
            rcases List.mem_append.mp he2 with he2 | he2
            · obtain ⟨e3, h3, h4⟩ := c1 e2 he2
              exact ⟨e3, List.mem_append_left _ h3, h4⟩
            · simp only [List.mem_singleton] at he2
              subst he2
              exact ⟨e, List.mem_append_right _ (by simp), fl⟩
          · rw [List.take_add_one, he] at he2
            rcases List.mem_append.mp he2 with he2 | he2
            · obtain ⟨e3, h3, h4⟩ := c2 e2 he2
              exact ⟨e3, List.mem_append_left _ h3, h4⟩
            · have : e2 = e := by simpa using he2
              subst this
              exact ⟨e', List.mem_append_right _ (by simp), fl⟩
        refine ⟨rfl, ?_⟩
        refine ⟨_, rfl, f, 2, n + 110 - (i + 1), rfl, hf5.less (by omega), by decide, by decide, fun H6 r sb6 hf6 _ r0 r1 => ?_⟩
        obtain ⟨xs5, hf50⟩ := hf5.some
        have hdx6 := dp_sameT (sb6.sameT hf50) hdx5 (tup_strsT _)
        refine ⟨rfl, _, rfl, ?_⟩
        refine ite2 (fun c => ?_) (fun c => ?_)
        · obtain ⟨tb, rfl, htb⟩ := tie_parts hdx6
          refine ⟨_, rfl, tb, _, _, _, rfl, rfl, htb, ix1, _, rfl, tb, _, _, _, rfl, rfl, htb, ix0, by show 2 ≤ sizeLine; decide, fun p hp => ?_⟩
          have t1 : Same H6 (upd H6 p (.tup [.str e.2, .str e.1])) := Same.new hp
          exact put _ _ (e.2, e.1) (sb6.trans (R.Same.b t1)) (hf6.mono t1) (.tup (xs := [.str e.2, .str e.1]) (SqT.at upd_same) (DpAll.ofStrs [e.2, e.1])) (.inr rfl)
        · exact ⟨_, rfl, put H6 x e sb6 hf6 hdx6 (.inl rfl)⟩
      rintro H5 ⟨sb5, hf5, zs, E', hz, hdz, lE', c1, c2⟩
      rw [yl4, List.take_length] at c1 c2
      rw [yl4, lEm] at lE'
      have zl : zs.length = many - 1 + m2 := by rw [hdz.length, List.length_map, lE']
      -- roads
      refine ⟨_, rfl, _, rfl, D, _, rfl, .inl (SqL.at hz), f, zs.length, n + 76, rfl, hf5.less (by omega), by omega, fun H6 rL rd sb6 hf6 nrL hrL rdl rdn rdo rdno => ?_⟩
      have nm6 := sb6.get fL (sb5.get fL nm4)
      have hz6 := sb6.get fD hz
      obtain ⟨xs5, hf50⟩ := hf5.some
      have hdz6 := dpAll_sameT (sb6.sameT hf50) hdz (tup_ties E')
      -- the places mixed
      refine ⟨_, rfl, _, rfl, f, nmL, nms.map V.str, n + 60, rfl, hf6.less (by rw [List.length_map]; omega), .inl (SqL.at nm6), fL, by rw [List.length_map]; omega, fun H7 pL ps sb7 hf7 npL hpL pmP => ?_⟩
      obtain ⟨PP, pPP, rfl⟩ := perm_inv pmP rfl
      refine ⟨pL, _, rfl, SqL.at hpL, fun pt o hpt oc od => ?_⟩
      have t1 : Same H7 (upd H7 pt (.frz o (.tup (PP.map V.str)))) := Same.new hpt
      have gpt : upd H7 pt (.frz o (.tup (PP.map V.str))) pt = some (.frz o (.tup (PP.map V.str))) := upd_same
      obtain ⟨xs6, hf60⟩ := hf6.some
      have frL : rL ≠ f := nf hf5 nrL
      have hrL7 := t1 _ _ (sb7.get frL hrL)
      have hz7 := t1 _ _ (sb7.get fD hz6)
      have hdz7 := (dpAll_sameT (sb7.sameT hf60) hdz6 (tup_ties E')).mono t1
      have hf8 := hf7.mono t1
      have sb8 : SameB f H (upd H7 pt (.frz o (.tup (PP.map V.str)))) := ((((sb.trans sb4).trans sb5).trans sb6).trans sb7).trans (R.Same.b t1)
      generalize upd H7 pt (.frz o (.tup (PP.map V.str))) = H8 at t1 gpt hrL7 hz7 hdz7 hf8 sb8
      have lrd : rd.length = E'.length := by omega
      -- the roads
      refine ⟨_, rfl, _, rfl, rL, D, _, _, rfl, SqL.at hrL7, SqL.at hz7, fun D2 hD2 => ?_⟩
      refine lc_it (walk_zip (K := K) (a := rL) (b := D) (xs := rd.map V.str) (ys := zs) (n := E'.length) (by rw [List.length_map]; omega)) (fun i H' => Same H8 H' ∧ ∃ ws, H' D2 = some (.lst ws) ∧ DpAll K (wo H' D2) ws (((webOf PP rd E').R.map roadD).take i)) ⟨Same.new hD2, [], upd_same, .nil⟩ (fun i H' _ h => ⟨SqL.at (h.1 _ _ hrL7), SqL.at (h.1 _ _ hz7)⟩) ?_ ?_
      · rintro i x H9 H10 hi ⟨s9, ws, hw, hdw⟩ ⟨T, nm, ti, rfl, hT0, rfl, hnm, hti⟩
        obtain ⟨rn, hrn, rfl⟩ := at_map hnm
        obtain ⟨dt, hdt1, hdt2⟩ := hdz7.get' hti
        obtain ⟨e, he, rfl⟩ := at_map hdt1
        have t9 : Same H9 (upd H9 T (.tup [.str rn, ti])) := Same.new hT0
        refine ⟨T, _, rfl, SqT.at upd_same, rfl, _, _, rfl, _, _, rfl, rfl, rfl, ?_⟩
        have s10 := s9.trans t9
        have hw10 := t9 _ _ hw
        have TD : T ≠ D2 := (ne_of_none hw hT0).symm
        have hdw10 : DpAll K (wo (upd H9 T (.tup [.str rn, ti])) D2) ws (((webOf PP rd E').R.map roadD).take i) := hdw.mono (wo_mono t9)
        generalize upd H9 T (.tup [.str rn, ti]) = H10 at t9 s10 hw10 hdw10
        refine ⟨_, rfl, by show 1 ≤ sizeLine; decide, fun p hp => ?_⟩
        have tp : Same H10 (upd H10 p (.tup [.str rn])) := Same.new hp
        have hdp : Dp K (upd H10 p (.tup [.str rn])) (.ref p) (strsT [rn]) := .tup (xs := [.str rn]) (SqT.at upd_same) (DpAll.ofStrs [rn])
        refine ⟨_, rfl, ?_⟩
        refine cat_dp hdp ((hdt2.mono s10).mono tp) (by show 1 + 2 ≤ 100000; decide) fun v11 H11 s11 hd11 => ?_
        have hw11 := s11 _ _ (tp _ _ hw10)
        refine ⟨ws, hw11, ?_, ((s10.trans tp).trans s11).over hD2, ws ++ [v11], upd_same, ?_⟩
        · rw [hdw.length, List.length_take]; exact small_ (m := 100) (by omega)
        · have er : ((webOf PP rd E').R.map roadD)[i]? = some (roadD (rn, e.1, e.2)) := by
            refine map_at ?_
            unfold webOf
            refine map_at (f := fun p : Str × Tie => (p.1, p.2.1, p.2.2)) (x := (rn, e)) ?_
            rw [List.getElem?_zip_eq_some]; exact ⟨hrn, he⟩
          rw [wo_upd, List.take_add_one, er]
          refine (hdw10.mono (wo_mono (tp.trans s11))).snoc ?_
          exact dp_sameT (sameT_wo hw11) hd11 (tup_road (rn, e.1, e.2))
      · rintro H9 ⟨s9, ws, hw, hdw⟩
        rw [List.take_of_length_le (by rw [List.length_map, webOf_len lrd]; exact Nat.le_refl _)] at hdw
        refine tup_dp (dp_list hw hdw) fun v10 H10 s10 hd10 => ?_
        obtain ⟨ra, rws, rfl, hr1, hr2⟩ := hd10.tupI
        refine ⟨by show 2 ≤ sizeLine; decide, fun wa hwa => ?_⟩
        have s11 : Same H10 (upd H10 wa (.tup [.ref pt, .ref ra])) := Same.new hwa
        have s811 := (s9.trans s10).trans s11
        have gpt11 := s811 _ _ gpt
        have hsqP : SqT K (upd H10 wa (.tup [.ref pt, .ref ra])) pt (PP.map V.str) := .inl (.inr ⟨o, gpt11⟩)
        have hsqR := s11.seqT hr1
        have hdR := hr2.mono s11
        have hwa11 : SqT K (upd H10 wa (.tup [.ref pt, .ref ra])) wa [.ref pt, .ref ra] := SqT.at upd_same
        -- what W is
        have nameP : PP.all nameOk = true := List.all_eq_true.mpr fun x hx => List.all_eq_true.mp hok x (pPP.mem_iff.mp hx)
        have lPP : PP.length = many := by rw [pPP.length_eq, hlen]
        have ndP : PP.Nodup := pPP.nodup_iff.mpr hnd
        have ndr : (webOf PP rd E').names.Nodup := by rw [webOf_names lrd]; exact rdn
        have tiesOf : ∀ r ∈ (webOf PP rd E').R, (r.2.1, r.2.2) ∈ E' := fun r hr => by
          rw [← webOf_ties (P := PP) lrd]; exact List.mem_map.mpr ⟨r, hr, rfl⟩
        have ofTies : ∀ e ∈ E', ∃ r ∈ (webOf PP rd E').R, (r.2.1, r.2.2) = e := fun e he => by
          rw [← webOf_ties (P := PP) lrd] at he
          obtain ⟨r, hr, e'⟩ := List.mem_map.mp he
          exact ⟨r, hr, e'⟩
        have ok : WebOk (webOf PP rd E') := {
          p1 := by show 1 ≤ PP.length; omega
          p10 := by show PP.length ≤ 10; omega
          r14 := by rw [webOf_len lrd]; omega
          pn := nameP
          pd := ndP
          rn := by rw [webOf_names lrd]; exact rdo
          rd := ndr
          re := fun r hr => by
            obtain ⟨e, he, fl⟩ := c1 _ (tiesOf r hr)
            obtain ⟨⟨e1, e2⟩, en⟩ := endsE e (pE.mem_iff.mp he)
            have := fl.mem (P := fun x => x ∈ nms) e1 e2
            exact ⟨pPP.mem_iff.mpr this.1, pPP.mem_iff.mpr this.2, fl.ne en⟩ }
        have hdW : Dp K (upd H10 wa (.tup [.ref pt, .ref ra])) (.ref wa) (webOf PP rd E').d := .tup hwa11 (.cons (.tup hsqP (DpAll.ofStrs PP)) (.cons (.tup hsqR hdR) .nil))
        refine q _ _ (webOf PP rd E') (sb8.trans (R.Same.b s811)) ((hf8.less (by omega)).mono s811) ⟨ok.at hdW, wa, pt, ra, rws, rfl, hwa11, hsqP, hsqR, hdR, o, _, gpt11, oc, od⟩ ⟨ok, lPP, by rw [webOf_names lrd]; exact rdno, fun x hx => hno x (pPP.mem_iff.mp hx)⟩ (fun e0 => ?_) fun g1 g2 => ?_
        · have : X = [] := List.length_eq_zero_iff.mp (by have := m20 e0; omega)
          subst this
          rw [List.append_nil] at hEE
          subst hEE
          refine ⟨d, hT.tree ndP ndr (fun x => pPP.mem_iff) (fun r hr => ?_) (fun e he => ?_) ?_⟩
          · obtain ⟨e, he, fl⟩ := c1 _ (tiesOf r hr)
            exact ⟨e, pE.mem_iff.mp he, fl⟩
          · obtain ⟨e', he', fl⟩ := c2 e (pE.mem_iff.mpr he)
            obtain ⟨r, hr, e1⟩ := ofTies e' he'
            exact ⟨r, hr, by rw [e1]; exact fl⟩
          · rw [webOf_len lrd]
            show E'.length + 1 = PP.length
            have := m20 e0
            omega
        · rw [webOf_len lrd]
          show E'.length + 1 ≠ PP.length
          have := m21 g1 g2
          omega
end
end R
set_option maxHeartbeats 4000000
namespace R
open PySem PySem.Spec PyProof.Rows L2
/-! ### the law's own distances -/
/-- by turn t: f holds who lies within t -/
structure FarI (W : Web) (d : Str → Str → Nat) (p : Str) (t : Nat) (f : List (Str × Nat)) (bl : List Str) : Prop where
  nd : (f.map (·.1)).Nodup
  sub : ∀ x ∈ f.map (·.1), x ∈ W.P
  val : ∀ x m, (x, m) ∈ f → m = d p x ∧ m ≤ t
  all : ∀ x ∈ W.P, d p x ≤ t → x ∈ f.map (·.1)
  bord : ∀ x, x ∈ bl ↔ x ∈ W.P ∧ d p x = t
  bl_ : bl.length ≤ 100
/-- within a turn -/
structure FarM (W : Web) (d : Str → Str → Nat) (p : Str) (t : Nat) (f new : List (Str × Nat)) (bl : List Str) (dn : List Tie) : Prop where
  nd : ((f ++ new).map (·.1)).Nodup
  sub : ∀ x ∈ (f ++ new).map (·.1), x ∈ W.P
  val : ∀ x m, (x, m) ∈ new → m = t + 1 ∧ d p x = t + 1
  done : ∀ q ∈ dn, q.1 ∈ bl → q.2 ∈ (f ++ new).map (·.1)
theorem FarM.len {W : Web} {d : Str → Str → Nat} {p : Str} {t : Nat} {f new : List (Str × Nat)} {bl : List Str} {dn : List Tie} (b : FarM W d p t f new bl dn) : f.length + new.length ≤ W.P.length := by
  have := length_le_of_nodup_sub b.nd b.sub
  rwa [List.length_map, List.length_append] at this
theorem FarM.add {W : Web} {d : Str → Str → Nat} {p : Str} {t : Nat} {f new : List (Str × Nat)} {bl : List Str} {dn : List Tie} (T : TreeD W d) (hp : p ∈ W.P) (I : FarI W d p t f bl) (b : FarM W d p t f new bl dn) {x y : Str} {r : Road} (hr : r ∈ W.R) (hi : inc x r) (ho : otherEnd r x = y) (hx : x ∈ bl) (hy : y ∉ (f ++ new).map (·.1)) :
    FarM W d p t f (new ++ [(y, t + 1)]) bl (dn ++ [(x, y)]) := by
  have yP : y ∈ W.P := by rw [← ho]; exact T.other hr
  have S := T.step hr hi hp
  rw [ho] at S
  have dx := ((I.bord x).mp hx).2
  have dyy : d p y = t + 1 := by
    rcases S with S | S
    · exfalso
      refine hy ?_
      rw [List.map_append]
      exact List.mem_append_left _ (I.all y yP (by omega))
    · omega
  refine ⟨?_, fun z hz => ?_, fun z m hz => ?_, fun q hq hb => ?_⟩
  · rw [← List.append_assoc, List.map_append]; exact nd_snoc b.nd hy
  · rw [← List.append_assoc, List.map_append] at hz
    rcases List.mem_append.mp hz with h | h
    · exact b.sub z h
    · have : z = y := by simpa using h
      rw [this]; exact yP
  · rcases List.mem_append.mp hz with h | h
    · exact b.val z m h
    · simp only [List.mem_singleton] at h
      cases h
      exact ⟨rfl, dyy⟩
  · rw [← List.append_assoc, List.map_append]
    rcases List.mem_append.mp hq with h | h
    · exact List.mem_append_left _ (b.done q h hb)
    · simp only [List.mem_singleton] at h
      subst h
      exact List.mem_append_right _ (by simp)
theorem FarM.stay {W : Web} {d : Str → Str → Nat} {p : Str} {t : Nat} {f new : List (Str × Nat)} {bl : List Str} {dn : List Tie} (b : FarM W d p t f new bl dn) {x y : Str} (h : x ∈ bl → y ∈ (f ++ new).map (·.1)) : FarM W d p t f new bl (dn ++ [(x, y)]) :=
  ⟨b.nd, b.sub, b.val, fun q hq hb => by
    rcases List.mem_append.mp hq with k | k
    · exact b.done q k hb
    · simp only [List.mem_singleton] at k
      subst k
      exact h hb⟩
def bothWays (R : List Road) : List Tie := R.flatMap fun r => [(r.2.1, r.2.2), (r.2.2, r.2.1)]
theorem FarM.next {W : Web} {d : Str → Str → Nat} {p : Str} {t : Nat} {f new : List (Str × Nat)} {bl : List Str} (T : TreeD W d) (hp : p ∈ W.P) (I : FarI W d p t f bl) (b : FarM W d p t f new bl (bothWays W.R)) (hPl : W.P.length ≤ 100) : FarI W d p (t + 1) (f ++ new) (new.map (·.1)) := by
  have all1 : ∀ x ∈ W.P, d p x = t + 1 → x ∈ (f ++ new).map (·.1) := fun x hx e => by
    have ne : p ≠ x := fun z => by rw [(T.zero p hp x hx).mpr z] at e; cases e
    obtain ⟨r, hr, hi, q⟩ := T.next p hp x hx ne
    have hb : otherEnd r x ∈ bl := (I.bord _).mpr ⟨T.other hr, by omega⟩
    rcases otherEnd_or hi with ⟨h1, h2⟩ | ⟨h1, h2⟩
    · exact b.done (r.2.2, r.2.1) (List.mem_flatMap.mpr ⟨r, hr, by simp⟩) (by rw [← h2]; exact hb) |> fun z => by rw [h1]; exact z
    · exact b.done (r.2.1, r.2.2) (List.mem_flatMap.mpr ⟨r, hr, by simp⟩) (by rw [← h2]; exact hb) |> fun z => by rw [h1]; exact z
  refine ⟨b.nd, b.sub, fun x m h => ?_, fun x hx h => ?_, fun x => ?_, ?_⟩
  · rcases List.mem_append.mp h with h | h
    · obtain ⟨h1, h2⟩ := I.val x m h
      exact ⟨h1, by omega⟩
    · obtain ⟨h1, h2⟩ := b.val x m h
      exact ⟨by omega, by omega⟩
  · rcases Nat.lt_or_ge (d p x) (t + 1) with k | k
    · rw [List.map_append]; exact List.mem_append_left _ (I.all x hx (by omega))
    · exact all1 x hx (by omega)
  · constructor
    · intro h
      obtain ⟨⟨z, m⟩, hm, rfl⟩ := List.mem_map.mp h
      refine ⟨b.sub z ?_, (b.val z m hm).2⟩
      rw [List.map_append]; exact List.mem_append_right _ h
    · rintro ⟨hx, e⟩
      have := all1 x hx e
      rw [List.map_append] at this
      rcases List.mem_append.mp this with h | h
      · obtain ⟨⟨z, m⟩, hm, rfl⟩ := List.mem_map.mp h
        obtain ⟨h1, h2⟩ := I.val z m hm
        have e : d p z = t + 1 := e
        omega
      · exact h
  · rw [List.length_map]
    have := b.len
    omega
theorem bothWays_snoc (R : List Road) (r : Road) : bothWays (R ++ [r]) = bothWays R ++ [(r.2.1, r.2.2)] ++ [(r.2.2, r.2.1)] := by
  unfold bothWays; rw [List.flatMap_append]; simp
section
variable {P : Program} {w : World} {K : PySem.W.Frag} {mg : Str → Option Value} {base : Heap}
def sp_law_distances (K : PySem.W.Frag) : Sp := fun vs H Q _ => ∃ v W d, vs = [v] ∧ WebAt K H v W ∧ TreeD W d ∧ ∀ H' v', Same H H' → Dp K H' v' (rowsD (dRows W d)) → Q v' H'
theorem ok_law_distances (F : DefAt K mg "_law_distances" s_law_distances ["_law_web"]) (B : Blt mg) : Ok P w K mg base CX0 1 "_law_distances" ["_law_web"] (sp_law_distances K) := by
  refine ok_of F sc_law_distances (fun vs H Q E h => by obtain ⟨_, _, _, rfl, _⟩ := h; rfl) fun f cdv A outer s H vs Q E hr h => ?_
  obtain ⟨v, W, d, rfl, hv, T, q⟩ := h
  refine ⟨_, (ass_cons (as_set (i := 1) sc_law_distances.nd rfl (Or.inl rfl) (ae_lst aa_nil))
    (ass_cons (ps_for PassesOwn.never rfl (piT K (ae_ix (ixT K) (av 0) ae_int (fun _ _ => rfl))) (pg_name (i := 2) sc_law_distances.nd rfl (Or.inl rfl))
      (ass_cons (as_asg (ae_tup (aa_cons (pe_disp (pps_cons (av 2) ae_int pps_nil) (by rfl) (by rfl) (fun z => by cases z) (by decide)) (aa_cons (ae_lst (aa_cons (av 2) aa_nil)) aa_nil))) (pgT K rfl (pgs_cons (pg_name (i := 3) sc_law_distances.nd rfl (Or.inr rfl)) (pgs_cons (pg_name (i := 4) sc_law_distances.nd rfl (Or.inl rfl)) pgs_nil))))
      (ass_cons (ps_for PassesOwn.never rfl (pi_range1 rfl B.range_ (aa_cons (ae_callB (lenS K) (by rfl) B.len_ PySem.boot_len (aa_cons (ae_ix (ixT K) (av 0) ae_int (fun _ _ => rfl)) aa_nil)) aa_nil)) (pg_name (i := 5) sc_law_distances.nd rfl (Or.inl rfl))
        (ass_cons (as_set (i := 6) sc_law_distances.nd rfl (Or.inl rfl) (ae_lst aa_nil))
        (ass_cons (ps_for PassesOwn.never rfl (piT K (ae_ix (ixT K) (av 0) ae_int (fun _ _ => rfl))) (pgT K rfl (pgs_cons (pg_name (i := 7) sc_law_distances.nd rfl (Or.inl rfl)) (pgs_cons (pg_name (i := 8) sc_law_distances.nd rfl (Or.inl rfl)) (pgs_cons (pg_name (i := 9) sc_law_distances.nd rfl (Or.inl rfl)) pgs_nil))))
          (pss_one (ps_for PassesOwn.never rfl (piL K (ae_lst (aa_cons (ae_tup (aa_cons (av 8) (aa_cons (av 9) aa_nil))) (aa_cons (ae_tup (aa_cons (av 9) (aa_cons (av 8) aa_nil))) aa_nil)))) (pgT K rfl (pgs_cons (pg_name (i := 10) sc_law_distances.nd rfl (Or.inl rfl)) (pgs_cons (pg_name (i := 11) sc_law_distances.nd rfl (Or.inl rfl)) pgs_nil)))
            (pss_one (as_if (PW.pt (aw_and (at_cmpR (inS K) (av 10) (av 4) (by rfl)) (pw_and1 (at_cmp (ac_dnotin (hu_of hr) (av 11) (av 3))))))
              (ass_cons (as_dput (hu_of hr) (av 3) (av 11) (ae_op op_add (av 5) ae_int) rfl)
              (pss_one (as_expr (ae_bm K PySem.F.plainAttrs_list PySem.F.slot_list_append PySem.F.type_list_append mt_append (av 6) (aa_cons (av 11) aa_nil)))))
              ass_nil)))))
        (pss_one (as_set (i := 4) sc_law_distances.nd rfl (Or.inl rfl) (av 6))))))
      (pss_one (as_expr (ae_bm K PySem.F.plainAttrs_list PySem.F.slot_list_append PySem.F.type_list_append mt_append (av 1) (aa_cons (pe_lc (own := [("_law_other", 9)]) (g := (gName 9)) (tt := tYes) rfl sc_law_distances.nd (piT K (ae_ix (ixT K) (av 0) ae_int (fun _ _ => rfl))) (blkOk_by (own := [("_law_other", 9)]) (N := n_law_distances) (sc := (defScope s_law_distances)) (by decide +kernel)) (fun _ _ _ _ _ => (pg_name (i := 9) sc_law_distances.nd rfl (Or.inl rfl))) (fun _ _ _ _ _ => pts_nil) (fun _ _ _ _ _ => (ae_dget1 (hu_of hr) (av 3) (av 9) ⟨rfl, rfl, rfl, rfl⟩))) aa_nil)))))))
    (pss_one (as_ret (av 1))))), ?_⟩
  obtain ⟨a, pp, r, rs, rfl, hA, hP, hR, hrs⟩ := hv.parts
  have pl := hv.pl
  have rl := hv.rl
  refine ⟨Nat.zero_le _, fun l hl => ?_⟩
  have s0 : Same H (upd H l (.lst [])) := Same.new hl
  refine ⟨_, rfl, a, _, _, _, rfl, rfl, s0.seqT hA, ix0, pp, rfl, ⟨_, s0.seqT hP⟩, ?_⟩
  refine for_tup (K := K) (a := pp) (xs := W.P.map V.str) (fun i σ H' => ∃ y2 y3 y4 y5 y6 y7 y8 y9 y10 y11, σ = [some (.ref a), some (.ref l), y2, y3, y4, y5, y6, y7, y8, y9, y10, y11] ∧ Same H H' ∧ ∃ ys, H' l = some (.lst ys) ∧ DpAll K (wo H' l) ys (((dRows W d).map intsD).take i))
    ⟨none, none, none, none, none, none, none, none, none, none, rfl, s0, [], upd_same, .nil⟩ (fun i σ H' _ h => by obtain ⟨_, _, _, _, _, _, _, _, _, _, _, s, _⟩ := h; exact s.seqT hP) ?_ ?_
  · rintro i x σ H' hx ⟨y2, y3, y4, y5, y6, y7, y8, y9, y10, y11, rfl, s1, ys, hy, hda⟩
    obtain ⟨p, hp, rfl⟩ := at_map hx
    have hpP := mem_at hp
    -- far, border
    refine fun D hD => ⟨_, rfl, upd_same, [(.inr p, .int 0)], rfl, by show 1 ≤ 15; decide, ?_⟩
    rw [upd_upd]
    have tD : Same H' (upd H' D (.dK (mergeK [] [(Sum.inr p, V.int 0)]))) := Same.new hD
    have gD : upd H' D (.dK (mergeK [] [(Sum.inr p, V.int 0)])) D = some (.dK (kvF gI [(p, 0)])) := upd_same
    generalize upd H' D (.dK (mergeK [] [(Sum.inr p, V.int 0)])) = H1 at tD gD
    refine ⟨_, rfl, by show 1 ≤ sizeLine; decide, fun B0 hB0 => ⟨by show 2 ≤ sizeLine; decide, fun T0 hT0 => ?_⟩⟩
    have tB : Same H1 (upd H1 B0 (.lst [V.str p])) := Same.new hB0
    have gB : upd H1 B0 (.lst [V.str p]) B0 = some (.lst ([p].map V.str)) := upd_same
    refine ⟨T0, _, rfl, SqT.at upd_same, rfl, _, _, rfl, _, _, rfl, rfl, ?_⟩
    have tT : Same (upd H1 B0 (.lst [V.str p])) (upd (upd H1 B0 (.lst [V.str p])) T0 (.tup [.ref D, .ref B0])) := Same.new hT0
    have gD2 := tT _ _ (tB _ _ gD)
    have gB2 := tT _ _ gB
    have t3 := (tD.trans tB).trans tT
    have nB : H' B0 = none := tD.free hB0
    generalize upd (upd H1 B0 (.lst [V.str p])) T0 (.tup [.ref D, .ref B0]) = H2 at gD2 gB2 t3
    -- the turns
    have sa := s1.trans t3
    refine ⟨_, rfl, a, _, _, _, rfl, rfl, sa.seqT hA, ix0, pp, _, rfl, .inr (sa.seqT hP), _, rfl, by omega, by rw [List.length_map]; omega, ?_⟩
    refine for_range (fun t σ H3 => ∃ (Bd : Addr) (g : List (Str × Nat)) (bl : List Str) (y5 y6 y7 y8 y9 y10 y11 : Option V), σ = [some (.ref a), some (.ref l), some (.str p), some (.ref D), some (.ref Bd), y5, y6, y7, y8, y9, y10, y11] ∧ Same H' H3 ∧ H' Bd = none ∧ H3 D = some (.dK (kvF gI g)) ∧ H3 Bd = some (.lst (bl.map V.str)) ∧ FarI W d p t g bl)
      ⟨B0, [(p, 0)], [p], y5, y6, y7, y8, y9, y10, y11, rfl, t3, nB, gD2, gB2, ⟨by simp, by simp [hpP], fun x m h => by simp only [List.mem_singleton] at h; cases h; exact ⟨((T.zero p hpP p hpP).mpr rfl).symm, Nat.le_refl _⟩, fun x hx h => by
        have := (T.zero p hpP x hx).mp (by omega)
        simp [this], fun x => ?_, by show 1 ≤ 100; decide⟩⟩ ?_ ?_
    · simp only [List.mem_singleton]
      constructor
      · rintro rfl; exact ⟨hpP, (T.zero x hpP x hpP).mpr rfl⟩
      · rintro ⟨hx, e⟩; exact ((T.zero p hpP x hx).mp e).symm
    · rintro t σ H3 ht ⟨Bd, g, bl, y5, y6, y7, y8, y9, y10, y11, rfl, u1, nBd, hDd, hBd, I⟩
      -- more
      refine ⟨Nat.zero_le _, fun M hM => ?_⟩
      have uM : Same H3 (upd H3 M (.lst [])) := Same.new hM
      have nM : H' M = none := u1.free hM
      have nDM : D ≠ M := ne_of_none hDd hM
      have nBM : Bd ≠ M := ne_of_none hBd hM
      have sb := (s1.trans u1).trans uM
      refine ⟨_, rfl, a, _, _, _, rfl, rfl, sb.seqT hA, ix1, r, rfl, ⟨_, sb.seqT hR⟩, ?_⟩
      refine for_tup (K := K) (a := r) (xs := rs) (fun j σ H4 => ∃ (new : List (Str × Nat)) (y7 y8 y9 y10 y11 : Option V), σ = [some (.ref a), some (.ref l), some (.str p), some (.ref D), some (.ref Bd), some (.int (0 + (t : Nat))), some (.ref M), y7, y8, y9, y10, y11] ∧ Same H' H4 ∧ H4 D = some (.dK (kvF gI (g ++ new))) ∧ H4 Bd = some (.lst (bl.map V.str)) ∧ H4 M = some (.lst ((new.map (·.1)).map V.str)) ∧ FarM W d p t g new bl (bothWays (W.R.take j)))
        ⟨[], y7, y8, y9, y10, y11, rfl, u1.trans uM, by rw [List.append_nil]; exact uM _ _ hDd, uM _ _ hBd, upd_same, ⟨by rw [List.append_nil]; exact I.nd, by rw [List.append_nil]; exact I.sub, fun x m h => (by cases h), fun q hq => (by simp [bothWays] at hq)⟩⟩ (fun j σ H4 _ h => by obtain ⟨_, _, _, _, _, _, _, s, _⟩ := h; exact (s1.trans s).seqT hR) ?_ ?_
      · rintro j x σ H4 hx ⟨new, y7, y8, y9, y10, y11, rfl, w1, w2, w3, w4, FM⟩
        obtain ⟨dd, hd1, hd2⟩ := hrs.get' hx
        obtain ⟨rd, e1, rfl⟩ := at_map hd1
        have hm := mem_at e1
        obtain ⟨b, rfl, hb⟩ := road_parts (hd2.mono (s1.trans w1))
        refine ⟨b, _, rfl, hb, rfl, _, _, rfl, _, _, rfl, _, _, rfl, rfl, ?_⟩
        -- the two ways
        refine ⟨_, rfl, _, rfl, by show 2 ≤ sizeLine; decide, fun q1 hq1 => ?_⟩
        have v1 : Same H4 (upd H4 q1 (.tup [.str rd.2.1, .str rd.2.2])) := Same.new hq1
        have k1 : upd H4 q1 (.tup [.str rd.2.1, .str rd.2.2]) q1 = some (.tup [.str rd.2.1, .str rd.2.2]) := upd_same
        generalize upd H4 q1 (.tup [.str rd.2.1, .str rd.2.2]) = H5 at v1 k1
        refine ⟨_, rfl, _, rfl, by show 2 ≤ sizeLine; decide, fun q2 hq2 => ?_⟩
        have v2 : Same H5 (upd H5 q2 (.tup [.str rd.2.2, .str rd.2.1])) := Same.new hq2
        have k2 : upd H5 q2 (.tup [.str rd.2.2, .str rd.2.1]) q2 = some (.tup [.str rd.2.2, .str rd.2.1]) := upd_same
        have k1' := v2 _ _ k1
        generalize upd H5 q2 (.tup [.str rd.2.2, .str rd.2.1]) = H6 at v2 k2 k1'
        refine ⟨by show 2 ≤ sizeLine; decide, fun LL hLL => ?_⟩
        have v3 : Same H6 (upd H6 LL (.lst [.ref q1, .ref q2])) := Same.new hLL
        have kL : upd H6 LL (.lst [.ref q1, .ref q2]) LL = some (.lst [.ref q1, .ref q2]) := upd_same
        have k2' := v3 _ _ k2
        have k1'' := v3 _ _ k1'
        have v123 := (v1.trans v2).trans v3
        have nLD : LL ≠ D := (ne_of_none (v2 _ _ (v1 _ _ w2)) hLL).symm
        have nLM : LL ≠ M := (ne_of_none (v2 _ _ (v1 _ _ w4)) hLL).symm
        generalize upd H6 LL (.lst [.ref q1, .ref q2]) = H7 at v3 kL k2' k1'' v123
        have ways : ∀ k, k < 2 → ∃ q x y, [V.ref q1, V.ref q2][k]? = some (.ref q) ∧ H7 q = some (.tup [.str x, .str y]) ∧ (bothWays [rd])[k]? = some (x, y) ∧ inc x rd ∧ otherEnd rd x = y := by
          intro k hk
          have ne := T.ne hm
          match k, hk with
          | 0, _ => exact ⟨q1, rd.2.1, rd.2.2, rfl, k1'', rfl, .inl rfl, by unfold otherEnd; rw [if_pos rfl]⟩
          | 1, _ => exact ⟨q2, rd.2.2, rd.2.1, rfl, k2', rfl, .inr rfl, by unfold otherEnd; rw [if_neg ne]⟩
        refine ⟨LL, rfl, ⟨_, SqL.at kL⟩, ?_⟩
        refine for_list (K := K) (a := LL) (xs := [.ref q1, .ref q2]) (fun k σ H8 => ∃ (new : List (Str × Nat)) (y10 y11 : Option V), σ = [some (.ref a), some (.ref l), some (.str p), some (.ref D), some (.ref Bd), some (.int (0 + (t : Nat))), some (.ref M), some (.str rd.1), some (.str rd.2.1), some (.str rd.2.2), y10, y11] ∧ Same H' H8 ∧ H8 LL = some (.lst [.ref q1, .ref q2]) ∧ H8 q1 = some (.tup [.str rd.2.1, .str rd.2.2]) ∧ H8 q2 = some (.tup [.str rd.2.2, .str rd.2.1]) ∧ H8 D = some (.dK (kvF gI (g ++ new))) ∧ H8 Bd = some (.lst (bl.map V.str)) ∧ H8 M = some (.lst ((new.map (·.1)).map V.str)) ∧ FarM W d p t g new bl (bothWays (W.R.take j) ++ (bothWays [rd]).take k))
          ⟨new, y10, y11, rfl, w1.trans v123, kL, k1'', k2', v123 _ _ w2, v123 _ _ w3, v123 _ _ w4, by rw [List.take_zero, List.append_nil]; exact FM⟩ (fun k σ H8 _ h => by obtain ⟨_, _, _, _, _, s, _⟩ := h; exact SqL.at s) ?_ ?_
        · rintro k x σ H8 hx8 ⟨new, y10, y11, rfl, x1, x2, x3, x4, x5, x6, x7, FM⟩
          have hk : k < 2 := (List.getElem?_eq_some_iff.mp hx8).1
          obtain ⟨qq, xh, yt, e8, _, hbw, hi, ho⟩ := ways k hk
          have hq8 : H8 qq = some (.tup [.str xh, .str yt]) := by
            match k, hk with
            | 0, _ => cases e8; cases hbw; exact x3
            | 1, _ => cases e8; cases hbw; exact x4
          rw [e8] at hx8
          cases hx8
          refine ⟨qq, _, rfl, SqT.at hq8, rfl, _, _, rfl, _, _, rfl, rfl, ?_⟩
          have ebw : bothWays (W.R.take j) ++ (bothWays [rd]).take (k + 1) = (bothWays (W.R.take j) ++ (bothWays [rd]).take k) ++ [(xh, yt)] := by
            rw [List.take_add_one, hbw, List.append_assoc]; rfl
          rw [ebw]
          refine ⟨_, rfl, _, rfl, Bd, _, rfl, .inl (SqL.at x6), rfl, flat_strs _, _, rfl, ?_⟩
          rw [inV_str]
          refine ite2 (fun c => ?_) (fun c => ?_)
          · have c := of_decide_eq_true c
            refine ⟨_, rfl, _, rfl, D, _, rfl, dgetF x5, _, rfl, ?_⟩
            rw [some_iff]
            refine ite2 (fun c2 => ?_) (fun c2 => ?_)
            · have c2 : yt ∉ (g ++ new).map (·.1) := fun z => by rw [decide_eq_true z] at c2; cases c2
              have hlen := FM.len
              refine ⟨_, rfl, _, _, rfl, rfl, _, rfl, _, rfl, D, _, rfl, DPut.k (k := Sum.inr yt) x5 (by rw [kvF_len, List.length_append]; exact small_ (m := 100) (by omega)), ?_⟩
              have ep : putK (kvF gI (g ++ new)) (Sum.inr yt) (V.int (0 + (t : Nat) + 1)) = kvF gI (g ++ (new ++ [(yt, t + 1)])) := by
                rw [← List.append_assoc, show V.int (0 + ((t : Nat) : Int) + 1) = gI (t + 1) from congrArg V.int (by omega)]
                exact kvF_put gI _ _ (t + 1) (lk_none.mpr c2)
              rw [ep]
              generalize hkk : kvF gI (g ++ (new ++ [(yt, t + 1)])) = kk
              have x8 : upd H8 D (.dK kk) M = some (.lst ((new.map (·.1)).map V.str)) := by rw [upd_ne nDM.symm]; exact x7
              refine ⟨_, rfl, .inl ⟨rfl, _, SqL.at x8⟩, _, rfl, M, _, _, rfl, rfl, x8, ?_, ?_⟩
              · rw [List.length_map, List.length_map]; exact small_ (m := 100) (by omega)
              have nqD : ∀ {b xs}, H8 b = some (.tup xs) → b ≠ D := fun h e => by subst e; rw [x5] at h; cases h
              have nqM : ∀ {b xs}, H8 b = some (.tup xs) → b ≠ M := fun h e => by subst e; rw [x7] at h; cases h
              refine ⟨new ++ [(yt, t + 1)], _, _, rfl, (x1.over hD).over nM, ?_, ?_, ?_, ?_, ?_, ?_, FM.add T hpP I hm hi ho c c2⟩
              · rw [upd_ne nLM, upd_ne nLD]; exact x2
              · rw [upd_ne (nqM x3), upd_ne (nqD x3)]; exact x3
              · rw [upd_ne (nqM x4), upd_ne (nqD x4)]; exact x4
              · rw [upd_ne nDM, upd_same, hkk]
              · rw [upd_ne nBM, upd_ne (fun e => by rw [e] at x6; rw [x5] at x6; cases x6)]; exact x6
              · rw [upd_same, List.map_append, List.map_append]; rfl
            · exact ⟨new, _, _, rfl, x1, x2, x3, x4, x5, x6, x7, FM.stay fun _ => Classical.byContradiction fun z => c2 (by rw [decide_eq_false z]; rfl)⟩
          · exact ⟨new, _, _, rfl, x1, x2, x3, x4, x5, x6, x7, FM.stay fun z => absurd (decide_eq_true z) c⟩
        · rintro σ H8 ⟨new, y10, y11, rfl, x1, x2, x3, x4, x5, x6, x7, FM⟩
          refine ⟨new, _, _, _, _, _, rfl, x1, x5, x6, x7, ?_⟩
          rw [List.take_add_one, e1]
          have : bothWays (W.R.take j ++ [rd]) = bothWays (W.R.take j) ++ (bothWays [rd]).take 2 := by rw [bothWays_snoc, List.append_assoc]; rfl
          show FarM W d p t g new bl (bothWays (W.R.take j ++ [rd]))
          rw [this]; exact FM
      · rintro σ H4 ⟨new, y7, y8, y9, y10, y11, rfl, w1, w2, w3, w4, FM⟩
        have hrl : rs.length = W.R.length := by rw [hrs.length, List.length_map]
        rw [hrl, List.take_length] at FM
        refine ⟨_, rfl, M, g ++ new, new.map (·.1), _, _, _, _, _, _, _, rfl, w1, nM, w2, w4, FM.next T hpP I pl⟩
    · rintro σ H3 ⟨Bd, g, bl, y5, y6, y7, y8, y9, y10, y11, rfl, u1, nBd, hDd, hBd, I⟩
      have et : ((W.P.map V.str).length : Int).toNat = W.P.length := by rw [List.length_map]; omega
      rw [et] at I
      have hy3 := u1 _ _ hy
      have sb := s1.trans u1
      refine ⟨_, rfl, .inl ⟨rfl, _, SqL.at hy3⟩, _, rfl, a, _, _, _, rfl, rfl, sb.seqT hA, ix0, pp, rfl, ⟨_, sb.seqT hP⟩, fun D2 hD2 => ?_⟩
      refine lc_tupD (K := K) (a := pp) (xs := W.P.map V.str) ((dRow W d p).map .int) hD2 (sb.seqT hP) (by unfold dRow; simp) (by rw [List.length_map]; omega) ?_ ?_
      · intro j x e H4 acc Q2 w1 _ hx4 he k
        obtain ⟨o, ho, rfl⟩ := at_map hx4
        have hd4 := w1 _ _ hDd
        refine ⟨rfl, _, rfl, D, rfl, .inl ⟨_, .inl hd4⟩, _, rfl, _, dgetF hd4, ?_⟩
        have hoP := mem_at ho
        obtain ⟨m, hm⟩ := lk_key (I.all o hoP (by have := T.lt hpP hoP; omega))
        have := (I.val o m (lk_some_mem hm)).1
        rw [hm]
        obtain ⟨z, hz, rfl⟩ := at_map he
        unfold dRow at hz
        rw [map_at ho] at hz
        cases hz
        rw [this]
        exact k _ _ (Same.refl _) (.int _)
      · intro H4 ys2 w1 hy2 hda2
        have hlD : l ≠ D2 := ne_of_none hy3 hD2
        refine ⟨l, ys, .ref D2, rfl, rfl, w1 _ _ hy3, ?_, ?_⟩
        · rw [hda.length, List.length_take]
          refine small_ (m := 100) (Nat.le_trans (Nat.min_le_right _ _) ?_)
          unfold dRows
          rw [List.length_map, List.length_map]; exact pl
        · refine ⟨_, _, _, _, _, _, _, _, _, _, rfl, (sb.trans w1).over hl, _, upd_same, ?_⟩
          rw [wo_upd, List.take_add_one]
          have er : ((dRows W d).map intsD)[i]? = some (intsD (dRow W d p)) := by
            unfold dRows
            rw [map_at (map_at hp)]
          rw [er]
          refine (hda.mono (wo_mono (u1.trans w1))).snoc (.lst (xs := ys2) (SqL.at ?_) ?_)
          · rw [wo_ne hlD.symm]; exact hy2
          · have e : ys2 = (dRow W d p).map V.int := hda2.ints
            rw [e]; exact DpAll.ofInts _
  · rintro σ H' ⟨y2, y3, y4, y5, y6, y7, y8, y9, y10, y11, rfl, s1, ys, hy, hda⟩
    rw [List.take_of_length_le (by unfold dRows; simp)] at hda
    exact ⟨_, rfl, q H' _ s1 (dp_list hy hda)⟩
end
end R
set_option maxHeartbeats 4000000
namespace R
open PySem PySem.Spec PyProof.Rows L2
/-! ### the law's own table of days -/
abbrev NN := List (Nat × Nat)
def lkN (g : NN) (s : Nat) : Option Nat := (g.find? fun p => decide (p.1 = s)).map (·.2)
def kvN (g : NN) : List (Key × V) := g.map fun p => (Sum.inl (p.1 : Int), V.int (p.2 : Nat))
theorem lkN_cons (p : Nat × Nat) (g : NN) (s : Nat) : lkN (p :: g) s = if p.1 = s then some p.2 else lkN g s := by
  unfold lkN
  rw [List.find?_cons]
  by_cases h : p.1 = s
  · rw [if_pos h, decide_eq_true h]; rfl
  · rw [if_neg h, decide_eq_false h]
theorem lkN_none : ∀ {g : NN} {s : Nat}, lkN g s = none ↔ s ∉ g.map (·.1)
  | [], s => by simp [lkN]
  | p :: g, s => by
    rw [lkN_cons, List.map_cons, List.mem_cons, not_or]
    by_cases h : p.1 = s
    · rw [if_pos h]; simp [h]
    · rw [if_neg h, lkN_none]; exact ⟨fun k => ⟨fun e => h e.symm, k⟩, fun k => k.2⟩
theorem lkN_mem : ∀ {g : NN} {s m : Nat}, lkN g s = some m → (s, m) ∈ g
  | [], s, m, h => by cases h
  | p :: g, s, m, h => by
    rw [lkN_cons] at h
    by_cases e : p.1 = s
    · rw [if_pos e] at h
      cases h
      subst e
      exact List.mem_cons_self
    · rw [if_neg e] at h
      exact List.mem_cons_of_mem _ (lkN_mem h)
theorem valV_kvN : ∀ (g : NN) (s : Nat), valV (kvN g) (Sum.inl (s : Int)) = (lkN g s).map fun m => V.int (m : Nat)
  | [], _ => rfl
  | p :: g, s => by
    rw [lkN_cons]
    show valV ((Sum.inl (p.1 : Int), V.int (p.2 : Nat)) :: kvN g) (Sum.inl (s : Int)) = _
    by_cases h : p.1 = s
    · rw [if_pos h, valV_pos (by rw [h])]; rfl
    · rw [if_neg h, valV_neg (fun e => h (by have := Sum.inl.inj e; omega)), valV_kvN g s]
theorem kvN_len (g : NN) : (kvN g).length = g.length := by unfold kvN; rw [List.length_map]
theorem kvN_put (g : NN) (s k : Nat) (h : lkN g s = none) : putK (kvN g) (Sum.inl (s : Int)) (V.int (k : Nat)) = kvN (g ++ [(s, k)]) := by
  rw [putK_new]
  · unfold kvN; rw [List.map_append]; rfl
  · rw [valV_kvN, h]; rfl
def addN (k : Nat) (g : NN) (s : Nat) : NN := if lkN g s = none then g ++ [(s, k)] else g
def mergeN (k : Nat) (g : NN) (ss : List Nat) : NN := ss.foldl (addN k) g
theorem mergeN_snoc (k : Nat) (g : NN) (ss : List Nat) (s : Nat) : mergeN k g (ss ++ [s]) = addN k (mergeN k g ss) s := by unfold mergeN; rw [List.foldl_append]; rfl
theorem mergeN_keys (k : Nat) (g : NN) (ss : List Nat) : ∀ s, s ∈ (mergeN k g ss).map (·.1) ↔ s ∈ g.map (·.1) ∨ s ∈ ss := by
  refine revInd (p := fun ss => ∀ s, s ∈ (mergeN k g ss).map (·.1) ↔ s ∈ g.map (·.1) ∨ s ∈ ss) (fun s => by simp [mergeN]) (fun ss a ih s => ?_) ss
  rw [mergeN_snoc]
  unfold addN
  by_cases h : lkN (mergeN k g ss) a = none
  · rw [if_pos h, List.map_append, List.mem_append, ih s, List.mem_append]
    simp [or_assoc]
  · rw [if_neg h, ih s, List.mem_append]
    constructor
    · rintro (h' | h')
      · exact .inl h'
      · exact .inr (.inl h')
    · rintro (h' | h' | h')
      · exact .inl h'
      · exact .inr h'
      · have : s = a := by simpa using h'
        subst this
        have := Classical.byContradiction fun z => h (lkN_none.mpr z)
        exact (ih _).mp this
theorem mergeN_nd (k : Nat) (g : NN) (hg : (g.map (·.1)).Nodup) (ss : List Nat) : ((mergeN k g ss).map (·.1)).Nodup := by
  refine revInd (p := fun ss => ((mergeN k g ss).map (·.1)).Nodup) hg (fun ss a ih => ?_) ss
  rw [mergeN_snoc]
  unfold addN
  by_cases h : lkN (mergeN k g ss) a = none
  · rw [if_pos h, List.map_append]; exact nd_snoc ih (lkN_none.mp h)
  · rw [if_neg h]; exact ih
theorem mergeN_val (k : Nat) (g : NN) (ss : List Nat) : ∀ s m, (s, m) ∈ mergeN k g ss → (s, m) ∈ g ∨ (m = k ∧ s ∈ ss ∧ s ∉ g.map (·.1)) := by
  refine revInd (p := fun ss => ∀ s m, (s, m) ∈ mergeN k g ss → (s, m) ∈ g ∨ (m = k ∧ s ∈ ss ∧ s ∉ g.map (·.1))) (fun s m h => .inl h) (fun ss a ih s m h => ?_) ss
  rw [mergeN_snoc] at h
  unfold addN at h
  by_cases e : lkN (mergeN k g ss) a = none
  · rw [if_pos e] at h
    rcases List.mem_append.mp h with h | h
    · rcases ih s m h with h' | ⟨h1, h2, h3⟩
      · exact .inl h'
      · exact .inr ⟨h1, List.mem_append_left _ h2, h3⟩
    · simp only [List.mem_singleton] at h
      cases h
      refine .inr ⟨rfl, by simp, fun z => ?_⟩
      exact lkN_none.mp e ((mergeN_keys k g ss _).mpr (.inl z))
  · rw [if_neg e] at h
    rcases ih s m h with h' | ⟨h1, h2, h3⟩
    · exact .inl h'
    · exact .inr ⟨h1, List.mem_append_left _ h2, h3⟩
/-- what the place p knows on day k, i roads walked -/
structure TabP (W : Web) (d : Str → Str → Nat) (rt : List Str) (k i : Nat) (p : Str) (g : NN) : Prop where
  nd : (g.map (·.1)).Nodup
  sub : ∀ s ∈ g.map (·.1), s < W.P.length
  kn : ∀ (s : Nat) (a : Str), W.P[s]? = some a → (s ∈ g.map (·.1) ↔ Kn W d rt a k i p)
  val : ∀ (s m : Nat) (a : Str), (s, m) ∈ g → W.P[s]? = some a → m = dy W d rt a p
theorem TabP.len {W : Web} {d : Str → Str → Nat} {rt : List Str} {k i : Nat} {p : Str} {g : NN} (b : TabP W d rt k i p g) : g.length ≤ W.P.length := by
  have := length_le_of_nodup_sub (m := List.range W.P.length) b.nd fun s hs => List.mem_range.mpr (b.sub s hs)
  rwa [List.length_map, List.length_range] at this
theorem TabP.to {W : Web} {d : Str → Str → Nat} {rt : List Str} {k i k' i' : Nat} {p : Str} {g : NN} (b : TabP W d rt k i p g) (h : ∀ (s : Nat) (a : Str), W.P[s]? = some a → (Kn W d rt a k' i' p ↔ Kn W d rt a k i p)) : TabP W d rt k' i' p g :=
  ⟨b.nd, b.sub, fun s a e => (b.kn s a e).trans (h s a e).symm, b.val⟩
theorem TabP.merge {W : Web} {d : Str → Str → Nat} {rt : List Str} {k i k' i' : Nat} {p : Str} {g : NN} {ss : List Nat} (b : TabP W d rt k i p g) (hs : ∀ s ∈ ss, s < W.P.length) (h : ∀ (s : Nat) (a : Str), W.P[s]? = some a → (Kn W d rt a k' i' p ↔ (Kn W d rt a k i p ∨ s ∈ ss))) (hv : ∀ (s : Nat) (a : Str), W.P[s]? = some a → s ∈ ss → ¬ Kn W d rt a k i p → dy W d rt a p = k) : TabP W d rt k' i' p (mergeN k g ss) := by
  refine ⟨mergeN_nd k g b.nd ss, fun s h => ?_, fun s a e => ?_, fun s m a hm e => ?_⟩
  · rcases (mergeN_keys k g ss s).mp h with h | h
    · exact b.sub s h
    · exact hs s h
  · rw [mergeN_keys, b.kn s a e, h s a e]
  · rcases mergeN_val k g ss s m hm with h' | ⟨h1, h2, h3⟩
    · exact b.val s m a h' e
    · rw [h1]
      exact (hv s a e h2 (fun z => h3 ((b.kn s a e).mpr z))).symm
theorem merge_kvF : ∀ {f g : List (Str × V)}, ((g ++ f).map (·.1)).Nodup → mergeK (kvF (fun v : V => v) g) (kvF (fun v : V => v) f) = kvF (fun v : V => v) (g ++ f)
  | [], g, _ => by rw [List.append_nil]; rfl
  | p :: f, g, h => by
    have e : g ++ p :: f = (g ++ [p]) ++ f := by simp
    have hn : lk g p.1 = none := lk_none.mpr fun z => by
      rw [List.map_append, List.nodup_append] at h
      exact h.2.2 _ z _ (List.mem_map.mpr ⟨p, List.mem_cons_self, rfl⟩) rfl
    show mergeK (putK (kvF (fun v : V => v) g) (Sum.inr p.1) p.2) (kvF (fun v : V => v) f) = _
    rw [kvF_put (fun v : V => v) g p.1 p.2 hn, e]
    exact merge_kvF (by rw [← e]; exact h)
section
variable {P : Program} {w : World} {K : PySem.W.Frag} {mg : Str → Option Value} {base : Heap}
/-- dict of pairs (name, value) -/
theorem dict_dp {H : Hp} {D : Addr} {ys : List V} {nms : List Str} {es : List PyData} {Q : VK} (hy : H D = some (.lst ys)) (hd : DpAll K (wo H D) ys ((nms.zip es).map fun p => .tuple [.str p.1, p.2])) (hl : nms.length = es.length) (nn : nms.Nodup) (ht : tupOnly.tupAll es = true)
    (q : ∀ p vs, H p = none → DpAll K (wo (upd H p (.dK (kvF (fun v : V => v) (nms.zip vs)))) p) vs es → Q (.ref p) (upd H p (.dK (kvF (fun v : V => v) (nms.zip vs))))) : rDictP K [.ref D] H Q := by
  have dec : ∀ {nms : List Str} {es : List PyData} {ys : List V}, DpAll K (wo H D) ys ((nms.zip es).map fun p => .tuple [.str p.1, p.2]) → nms.length = es.length → ∃ (ps : List Addr) (vs : List V), ys = ps.map V.ref ∧ vs.length = nms.length ∧ Paired (fun p kv => SqT K H p [kV kv.1, kv.2]) ps (kvF (fun v : V => v) (nms.zip vs)) ∧ DpAll K (wo H D) vs es := by
    intro nms
    induction nms with
    | nil =>
      intro es ys h hl
      have : es = [] := List.length_eq_zero_iff.mp (by simpa using hl.symm)
      subst this
      cases h
      exact ⟨[], [], rfl, rfl, .nil, .nil⟩
    | cons nm nms ih =>
      intro es ys h hl
      cases es with
      | nil => cases hl
      | cons e es =>
        cases h with
        | cons h1 h2 =>
          obtain ⟨ps, vs, e1, e2, e3, e4⟩ := ih h2 (by simpa using hl)
          obtain ⟨a, xs, rfl, g1, g2⟩ := h1.tupI
          cases g2 with
          | cons g2 g3 => cases g3 with
            | cons g3 g4 =>
              cases g4
              rw [g2.strI] at g1
              refine ⟨a :: ps, _ :: vs, by rw [List.map_cons, e1], by rw [List.length_cons, List.length_cons, e2], ?_, .cons g3 e4⟩
              refine .cons ?_ e3
              rcases g1 with (g1 | ⟨o, g1⟩) | g1
              · exact .inl (.inl (wo_some g1).2)
              · exact .inl (.inr ⟨o, (wo_some g1).2⟩)
              · exact .inr g1
  obtain ⟨ps, vs, rfl, e2, e3, e4⟩ := dec hd hl
  refine ⟨D, ps, kvF (fun v : V => v) (nms.zip vs), rfl, SqL.at hy, e3, fun p hp => ?_⟩
  have em : mergeK [] (kvF (fun v : V => v) (nms.zip vs)) = kvF (fun v : V => v) (nms.zip vs) := by
    have := merge_kvF (f := nms.zip vs) (g := []) (by rw [List.nil_append, List.map_fst_zip (by omega)]; exact nn)
    rw [List.nil_append] at this
    exact this
  rw [em]
  refine q p vs hp ?_
  have s1 : SameT (wo H D) (wo (upd H p (.dK (kvF (fun v : V => v) (nms.zip vs)))) p) := by
    refine ⟨fun b xs e => ?_, fun b o u e => ?_⟩
    · have hb := (wo_some e).2
      have hbp : b ≠ p := ne_of_none hb hp
      rw [wo_ne hbp, upd_ne hbp]; exact hb
    · have hb := (wo_some e).2
      have hbp : b ≠ p := ne_of_none hb hp
      rw [wo_ne hbp, upd_ne hbp]; exact hb
  exact dpAll_sameT s1 e4 ht
end
end R
set_option maxHeartbeats 4000000
namespace R
open PySem PySem.Spec PyProof.Rows L2
theorem zip_maps {α β γ : Type} (f : α → β) (g : α → γ) : ∀ l : List α, (l.map f).zip (l.map g) = l.map fun x => (f x, g x)
  | [] => rfl
  | a :: l => by rw [List.map_cons, List.map_cons, List.zip_cons_cons, zip_maps f g l, List.map_cons]
theorem num_tup (W : Web) : ∀ l : List Road, tupOnly.tupAll (l.map (numD W)) = true
  | [] => rfl
  | r :: l => by rw [List.map_cons, tupOnly.tupAll, num_tup W l, Bool.and_true]; rfl
def setG (gs : Nat → NN) (j : Nat) (g : NN) : Nat → NN := fun m => if m = j then g else gs m
section
variable {P : Program} {w : World} {K : PySem.W.Frag} {mg : Str → Option Value} {base : Heap}
/-- the dicts of the places -/
def Tab (H : Hp) (ds : List Addr) (gs : Nat → NN) : Prop := ∀ j D, ds[j]? = some D → H D = some (.dK (kvN (gs j)))
theorem Tab.mono {H H' : Hp} {ds : List Addr} {gs : Nat → NN} (h : Tab H ds gs) (e : Same H H') : Tab H' ds gs := fun j D hj => e _ _ (h j D hj)
theorem Tab.set {H : Hp} {ds : List Addr} {gs : Nat → NN} (h : Tab H ds gs) (nd : ds.Nodup) {j : Nat} {D : Addr} (hj : ds[j]? = some D) (g : NN) : Tab (upd H D (.dK (kvN g))) ds (setG gs j g) := fun m D' hm => by
  unfold setG
  by_cases e : m = j
  · subst e
    rw [hj] at hm
    cases hm
    rw [if_pos rfl, upd_same]
  · rw [if_neg e, upd_ne (fun z => e (by subst z; exact nd_ix nd hm hj))]
    exact h m D' hm
/-- news from the place ja to the place jb -/
theorem dir_walk {f : Addr} {σ0 σ1 σ2 σ3 σ4 σ6 σ7 σ10 σ11 : Option V} {H1 H8 : Hp} {ds : List Addr} {gs : Nat → NN} {k ja jb : Nat} {A Bd : Addr} {D' : Ends} (nd : ds.Nodup) (fr : ∀ D ∈ ds, H1 D = none) (s1 : Same H1 H8) (ht : Tab H8 ds gs) (ha : ds[ja]? = some A) (hb : ds[jb]? = some Bd) (ne : A ≠ Bd) (sz : ∀ ss, (∀ s ∈ ss, s ∈ (gs ja).map (·.1)) → (mergeN k (gs jb) ss).length ≤ 1000)
    (kk : ∀ H9 y10, Same H1 H9 → (∀ b o, b ∉ ds → H8 b = some o → H9 b = some o) → Tab H9 ds (setG gs jb (mergeN k (gs jb) ((gs ja).map (·.1)))) → D'.nx [σ0, σ1, σ2, σ3, σ4, some (.int (1 + (k - 1 : Nat))), σ6, σ7, some (.ref A), some (.ref Bd), y10, σ11] H9) (hk : 1 ≤ k) :
    tFor (iList K (aCB rListD (aCons (aVar 8) aNil))) (gName 10) (aDrop (tDSetd (aVar 9) (aVar 10) (aVar 5))) D' [σ0, σ1, σ2, σ3, σ4, some (.int (1 + (k - 1 : Nat))), σ6, σ7, some (.ref A), some (.ref Bd), σ10, σ11] H8 := by
  have hA := ht ja A ha
  have hB := ht jb Bd hb
  refine ⟨_, rfl, A, _, rfl, hA, fun Lk hLk => ?_⟩
  have t1 : Same H8 (upd H8 Lk (.lst ((kvN (gs ja)).map fun kv => kV kv.1))) := Same.new hLk
  have gL : upd H8 Lk (.lst ((kvN (gs ja)).map fun kv => kV kv.1)) Lk = some (.lst (((gs ja).map (·.1)).map fun (s : Nat) => V.int s)) := by
    rw [upd_same]; unfold kvN; rw [List.map_map, List.map_map]; rfl
  have nLB : Lk ≠ Bd := (ne_of_none hB hLk).symm
  generalize upd H8 Lk (.lst ((kvN (gs ja)).map fun kv => kV kv.1)) = H9 at t1 gL
  have bm : Bd ∈ ds := List.mem_of_getElem? hb
  refine ⟨Lk, rfl, ⟨_, SqL.at gL⟩, ?_⟩
  refine for_list (K := K) (a := Lk) (xs := ((gs ja).map (·.1)).map fun (s : Nat) => V.int s) (fun i σ H => ∃ y10, σ = [σ0, σ1, σ2, σ3, σ4, some (.int (1 + (k - 1 : Nat))), σ6, σ7, some (.ref A), some (.ref Bd), y10, σ11] ∧ Same H1 H ∧ H Lk = some (.lst (((gs ja).map (·.1)).map fun (s : Nat) => V.int s)) ∧ (∀ b o, b ∉ ds → H8 b = some o → H b = some o) ∧ Tab H ds (setG gs jb (mergeN k (gs jb) (((gs ja).map (·.1)).take i))))
    ⟨σ10, rfl, s1.trans t1, gL, fun b o _ e => t1 b o e, ?_⟩ (fun i σ H _ h => by obtain ⟨_, _, _, s, _⟩ := h; exact SqL.at s) ?_ ?_
  · have : setG gs jb (mergeN k (gs jb) (((gs ja).map (·.1)).take 0)) = gs := by
      funext m
      unfold setG
      by_cases e : m = jb
      · rw [if_pos e, e]; rfl
      · rw [if_neg e]
    rw [this]
    exact ht.mono t1
  · rintro i x σ H hx ⟨y10, rfl, u1, u2, u3, u4⟩
    obtain ⟨s, hs, rfl⟩ := at_map (f := fun (s : Nat) => V.int s) hx
    have hBd := u4 jb Bd hb
    have eB : setG gs jb (mergeN k (gs jb) (((gs ja).map (·.1)).take i)) jb = mergeN k (gs jb) (((gs ja).map (·.1)).take i) := by unfold setG; rw [if_pos rfl]
    rw [eB] at hBd
    have e1 : ((gs ja).map (·.1)).take (i + 1) = ((gs ja).map (·.1)).take i ++ [s] := by rw [List.take_add_one, hs]; rfl
    have hn : H1 Bd = none := fr Bd bm
    refine ⟨_, rfl, Bd, rfl, .inl ⟨_, .inl hBd⟩, _, rfl, _, rfl, _, Sum.inl (s : Int), hBd, rfl, ?_, fun v hv => ?_, fun hv => ?_⟩
    · rw [kvN_len]
      exact small_ (m := 1000) (sz _ fun z hz => List.mem_of_mem_take hz)
    · rw [valV_kvN] at hv
      have : lkN (mergeN k (gs jb) (((gs ja).map (·.1)).take i)) s ≠ none := fun z => by rw [z] at hv; cases hv
      refine ⟨_, rfl, u1, u2, u3, ?_⟩
      rw [e1, mergeN_snoc]
      unfold addN
      rw [if_neg this]
      exact u4
    · rw [valV_kvN] at hv
      have hz : lkN (mergeN k (gs jb) (((gs ja).map (·.1)).take i)) s = none := by
        cases z : lkN (mergeN k (gs jb) (((gs ja).map (·.1)).take i)) s with
        | none => rfl
        | some m => rw [z] at hv; cases hv
      have ek : V.int (1 + ((k - 1 : Nat) : Int)) = V.int (k : Nat) := congrArg V.int (by omega)
      rw [ek, kvN_put _ s k hz]
      refine ⟨_, rfl, u1.over hn, by rw [upd_ne nLB]; exact u2, fun b o hb' e => by rw [upd_ne (fun z => hb' (by rw [z]; exact bm))]; exact u3 b o hb' e, ?_⟩
      rw [e1, mergeN_snoc]
      unfold addN
      rw [if_pos hz]
      have := u4.set nd hb (mergeN k (gs jb) (((gs ja).map (·.1)).take i) ++ [(s, k)])
      have e2 : setG (setG gs jb (mergeN k (gs jb) (((gs ja).map (·.1)).take i))) jb (mergeN k (gs jb) (((gs ja).map (·.1)).take i) ++ [(s, k)]) = setG gs jb (mergeN k (gs jb) (((gs ja).map (·.1)).take i) ++ [(s, k)]) := by
        funext m
        unfold setG
        by_cases e : m = jb
        · rw [if_pos e, if_pos e]
        · rw [if_neg e, if_neg e, if_neg e]
      rw [e2] at this
      exact this
  · rintro σ H ⟨y10, rfl, u1, u2, u3, u4⟩
    rw [List.length_map, List.take_length] at u4
    exact kk H y10 u1 u3 u4
def sp_law_table (K : PySem.W.Frag) : Sp := fun vs H Q _ => ∃ v u W d rt, vs = [v, u] ∧ WebZ K H v W ∧ TreeD W d ∧ RotaOf W rt ∧ Dp K H u (strsT rt) ∧ ∀ H' v', Same H H' → Dp K H' v' (rowsD (yRows W d rt)) → Q v' H'
theorem ok_law_table (F : DefAt K mg "_law_table" s_law_table ["_law_web", "_law_rota"]) (B : Blt mg) : Ok P w K mg base CX0 1 "_law_table" ["_law_web", "_law_rota"] (sp_law_table K) := by
  refine ok_of F sc_law_table (fun vs H Q E h => by obtain ⟨_, _, _, _, _, rfl, _⟩ := h; rfl) fun f cdv A outer s H vs Q E hr h => ?_
  obtain ⟨v, u, W, d, rt, rfl, hz, T, hRo, hu, q⟩ := h
  refine ⟨_, (ass_cons (as_set (i := 3) sc_law_table.nd rfl (Or.inl rfl) (ae_callTy (dictP K rfl) (by rfl) B.dict_ (by decide +kernel) (aa_cons (pe_lc (own := [("_law_road", 2)]) (g := (gName 2)) (tt := tYes) rfl sc_law_table.nd (piT K (ae_ix (ixT K) (av 0) ae_int (fun _ _ => rfl))) (blkOk_by (own := [("_law_road", 2)]) (N := n_law_table) (sc := (defScope s_law_table)) (by decide +kernel)) (fun _ _ _ _ _ => (pg_name (i := 2) sc_law_table.nd rfl (Or.inl rfl))) (fun _ _ _ _ _ => pts_nil) (fun _ _ _ _ _ => (ae_tup (aa_cons (ae_ix (ixT K) (av 2) ae_int (fun _ _ => rfl)) (aa_cons (ae_tup (aa_cons (ae_zm PySem.F.slot_tuple_index PySem.F.type_tuple_index (mtTupIndex K) (ae_ix (ixT K) (av 0) ae_int (fun _ _ => rfl)) (aa_cons (ae_ix (ixT K) (av 2) ae_int (fun _ _ => rfl)) aa_nil)) (aa_cons (ae_zm PySem.F.slot_tuple_index PySem.F.type_tuple_index (mtTupIndex K) (ae_ix (ixT K) (av 0) ae_int (fun _ _ => rfl)) (aa_cons (ae_ix (ixT K) (av 2) ae_int (fun _ _ => rfl)) aa_nil)) aa_nil))) aa_nil))))) aa_nil)))
    (ass_cons (as_set (i := 4) sc_law_table.nd rfl (Or.inr rfl) (pe_lc (own := [("_law_at", 11)]) (g := (gName 11)) (tt := tYes) rfl sc_law_table.nd (pi_range1 rfl B.range_ (aa_cons (ae_callB (lenS K) (by rfl) B.len_ PySem.boot_len (aa_cons (ae_ix (ixT K) (av 0) ae_int (fun _ _ => rfl)) aa_nil)) aa_nil)) (blkOk_by (own := [("_law_at", 11)]) (N := n_law_table) (sc := (defScope s_law_table)) (by decide +kernel)) (fun _ _ _ _ _ => (pg_name (i := 11) sc_law_table.nd rfl (Or.inl rfl))) (fun _ _ _ _ _ => pts_nil) (fun _ _ _ _ _ => (pe_disp (pps_cons (av 11) ae_int pps_nil) (by rfl) (by rfl) (fun z => by cases z) (by decide)))))
    (ass_cons (ps_for PassesOwn.never rfl (pi_range2 rfl B.range_ (aa_cons ae_int (aa_cons (ae_op op_add (ae_callB (lenS K) (by rfl) B.len_ PySem.boot_len (aa_cons (ae_ix (ixT K) (av 0) ae_int (fun _ _ => rfl)) aa_nil)) ae_int) aa_nil))) (pg_name (i := 5) sc_law_table.nd rfl (Or.inl rfl))
      (pss_one (ps_for PassesOwn.never rfl (piT K (av 1)) (pg_name (i := 2) sc_law_table.nd rfl (Or.inl rfl))
        (ass_cons (as_asg (ae_dget (hu_of hr) (av 3) (av 2) (fun _ _ => rfl)) (pgT K rfl (pgs_cons (pg_name (i := 6) sc_law_table.nd rfl (Or.inl rfl)) (pgs_cons (pg_name (i := 7) sc_law_table.nd rfl (Or.inl rfl)) pgs_nil))))
        (pss_one (ps_for PassesOwn.never rfl (piL K (ae_lst (aa_cons (ae_tup (aa_cons (ae_ix (ixL K) (av 4) (av 6) (fun _ _ => rfl)) (aa_cons (ae_ix (ixL K) (av 4) (av 7) (fun _ _ => rfl)) aa_nil))) (aa_cons (ae_tup (aa_cons (ae_ix (ixL K) (av 4) (av 7) (fun _ _ => rfl)) (aa_cons (ae_ix (ixL K) (av 4) (av 6) (fun _ _ => rfl)) aa_nil))) aa_nil)))) (pgT K rfl (pgs_cons (pg_name (i := 8) sc_law_table.nd rfl (Or.inl rfl)) (pgs_cons (pg_name (i := 9) sc_law_table.nd rfl (Or.inl rfl)) pgs_nil)))
          (pss_one (ps_for PassesOwn.never rfl (piL K (ae_callTy (call_list_dK rfl) (by rfl) B.list_ (by decide +kernel) (aa_cons (av 8) aa_nil))) (pg_name (i := 10) sc_law_table.nd rfl (Or.inl rfl))
            (pss_one (as_expr (pe_dsetd (av 9) (av 10) (av 5) ⟨rfl, rfl, rfl, rfl⟩)))))))))))
    (pss_one (as_ret (pe_lc (own := [("_law_at", 11)]) (g := (gName 11)) (tt := tYes) rfl sc_law_table.nd (pi_range1 rfl B.range_ (aa_cons (ae_callB (lenS K) (by rfl) B.len_ PySem.boot_len (aa_cons (ae_ix (ixT K) (av 0) ae_int (fun _ _ => rfl)) aa_nil)) aa_nil)) (blkOk_by (own := [("_law_at", 11)]) (N := n_law_table) (sc := (defScope s_law_table)) (by decide +kernel)) (fun _ _ _ _ _ => (pg_name (i := 11) sc_law_table.nd rfl (Or.inr rfl))) (fun _ _ _ _ _ => pts_nil) (fun _ _ _ _ _ => (pe_lc (own := [("_law_there", 9)]) (g := (gName 9)) (tt := tYes) rfl sc_law_table.nd (piL K (av 4)) (blkOk_by (own := [("_law_there", 9)]) (N := n_law_table) (sc := _) (by rfl)) (fun _ _ _ _ _ => (pg_name (i := 9) sc_law_table.nd rfl (Or.inl rfl))) (fun _ _ _ _ _ => pts_nil) (fun _ _ _ _ _ => (ae_dget1 (hu_of hr) (av 9) (av 11) ⟨rfl, rfl, rfl, rfl⟩)))))))))), ?_⟩
  have hv := hz.at_
  obtain ⟨a, pp, r, rs, rfl, hA, hP, hR, hrs, hZ⟩ := hz.z
  obtain ⟨ru, rus, rfl, hru, hrus⟩ := hu.tupI
  rw [hrus.strs] at hru
  obtain ⟨rds, erd, m1, m2⟩ := hRo.roads T.toWf
  have pl := hv.pl
  have rl := hv.rl
  have rtl : rt.length ≤ 100 := by rw [hRo.len]; exact rl
  have rsl : rs.length = W.R.length := by rw [hrs.length, List.length_map]
  -- ends
  refine ⟨_, rfl, a, _, _, _, rfl, rfl, hA, ix1, r, rfl, ⟨_, hR⟩, fun D hD => ?_⟩
  refine lc_tupD (K := K) (a := r) (xs := rs) (W.R.map fun r => .tuple [.str r.1, numD W r]) hD hR (by rw [rsl, List.length_map]) (by omega) ?_ ?_
  · intro i x e H2 acc Q2 s1 hD2 hx he k
    obtain ⟨rd, e1, rfl⟩ := at_map he
    obtain ⟨b, rfl, hb⟩ := road_parts ((hrs.both hx (map_at e1)).mono s1)
    obtain ⟨p1, p2⟩ := T.ends rd (mem_at e1)
    refine ⟨rfl, _, rfl, b, _, _, _, rfl, rfl, hb, ix0, ?_⟩
    refine ⟨_, rfl, a, _, _, _, rfl, rfl, s1.seqT hA, ix0, ⟨pp, rfl, hZ.mono s1⟩, _, rfl, b, _, _, _, rfl, rfl, hb, ix1, ?_⟩
    refine place_ix T.nd p1 (s1.seqT hP) ?_
    refine ⟨_, rfl, a, _, _, _, rfl, rfl, s1.seqT hA, ix0, ⟨pp, rfl, hZ.mono s1⟩, _, rfl, b, _, _, _, rfl, rfl, hb, ix2, ?_⟩
    refine place_ix T.nd p2 (s1.seqT hP) ?_
    refine ⟨by show 2 ≤ sizeLine; decide, fun q1 hq1 => ⟨by show 2 ≤ sizeLine; decide, fun q2 hq2 => ?_⟩⟩
    have t1 : Same H2 (upd H2 q1 (.tup [.int (ixOf W.P rd.2.1 : Nat), .int (ixOf W.P rd.2.2 : Nat)])) := Same.new hq1
    have t2 : Same (upd H2 q1 (.tup [.int (ixOf W.P rd.2.1 : Nat), .int (ixOf W.P rd.2.2 : Nat)])) (upd (upd H2 q1 (.tup [.int (ixOf W.P rd.2.1 : Nat), .int (ixOf W.P rd.2.2 : Nat)])) q2 (.tup [.str rd.1, .ref q1])) := Same.new hq2
    refine k _ _ (t1.trans t2) ?_
    have n1 : q1 ≠ D := (ne_of_none hD2 hq1).symm
    have n2 : q2 ≠ D := (ne_of_none (t1 _ _ hD2) hq2).symm
    refine .tup (xs := [.str rd.1, .ref q1]) (SqT.at (by rw [wo_ne n2, upd_same])) (.cons (.str _) (.cons (.tup (xs := [.int (ixOf W.P rd.2.1 : Nat), .int (ixOf W.P rd.2.2 : Nat)]) (SqT.at ?_) (DpAll.ofInts [(ixOf W.P rd.2.1 : Int), (ixOf W.P rd.2.2 : Int)])) .nil))
    rw [wo_ne n1]
    exact t2 _ _ upd_same
  intro H1 ys s1 hy hda
  have ezz : ((W.names.zip (W.R.map (numD W))).map fun p : Str × PyData => PyData.tuple [.str p.1, p.2]) = W.R.map fun r => .tuple [.str r.1, numD W r] := by
    unfold Web.names
    rw [zip_maps, List.map_map]; rfl
  refine dict_dp hy (by rw [ezz]; exact hda) (by unfold Web.names; rw [List.length_map, List.length_map]) T.nn (num_tup W W.R) fun De vs hDe hvs => ?_
  have s2 : Same H1 (upd H1 De (.dK (kvF (fun v : V => v) (W.names.zip vs)))) := Same.new hDe
  have gDe : upd H1 De (.dK (kvF (fun v : V => v) (W.names.zip vs))) De = some (.dK (kvF (fun v : V => v) (W.names.zip vs))) := upd_same
  have s12 := s1.trans s2
  have pr : ∀ {H : Hp} {l : List Road} {vs : List V}, DpAll K H vs (l.map (numD W)) → Paired (fun r v => Dp K H v (numD W r)) l vs := by
    intro H l
    induction l with
    | nil => intro vs h; cases h; exact .nil
    | cons r l ih => intro vs h; cases h with | cons h1 h2 => exact .cons h1 (ih h2)
  have endsAt : ∀ rd ∈ W.R, ∃ v, lk (W.names.zip vs) rd.1 = some v ∧ Dp K (upd H1 De (.dK (kvF (fun v : V => v) (W.names.zip vs)))) v (numD W rd) := fun rd hm => by
    obtain ⟨v, h1, h2⟩ := zip_lk (key := fun r : Road => r.1) (R := fun r v => Dp K (wo (upd H1 De (.dK (kvF (fun v : V => v) (W.names.zip vs)))) De) v (numD W r)) T.nn (pr hvs) hm
    exact ⟨v, h1, h2.mono wo_same⟩
  generalize upd H1 De (.dK (kvF (fun v : V => v) (W.names.zip vs))) = H2 at s2 gDe s12 endsAt
  clear hvs hy hda
  -- known
  refine ⟨_, rfl, a, _, _, _, rfl, rfl, s12.seqT hA, ix0, pp, _, rfl, .inr (s12.seqT hP), _, rfl, by omega, by rw [List.length_map]; omega, fun L hL => ?_⟩
  have eL : ((W.P.map V.str).length : Int).toNat = W.P.length := by rw [List.length_map]; omega
  rw [eL]
  refine lc_range (fun i H' => Same H2 H' ∧ ∃ ds : List Addr, H' L = some (.lst (ds.map V.ref)) ∧ ds.length = i ∧ ds.Nodup ∧ ∀ j D, ds[j]? = some D → H' D = some (.dK (kvN [(j, 0)])) ∧ H2 D = none ∧ D ≠ L)
    ⟨Same.new hL, [], upd_same, rfl, List.nodup_nil, fun j D h => by simp at h⟩ ?_ ?_
  · rintro i H3 hi ⟨s3, ds, hl, hdl, hnd, hds⟩
    refine ⟨rfl, fun D hD => ⟨_, rfl, upd_same, [(.inl (0 + (i : Int)), .int 0)], rfl, by show 1 ≤ 15; decide, ?_⟩⟩
    rw [upd_upd]
    have t1 : Same H3 (upd H3 D (.dK (mergeK [] [((Sum.inl (0 + (i : Int)) : Key), V.int 0)]))) := Same.new hD
    have gD : upd H3 D (.dK (mergeK [] [((Sum.inl (0 + (i : Int)) : Key), V.int 0)])) D = some (.dK (kvN [(i, 0)])) := by
      rw [upd_same]
      have : (0 : Int) + (i : Int) = (i : Nat) := by omega
      rw [this]; rfl
    generalize upd H3 D (.dK (mergeK [] [((Sum.inl (0 + (i : Int)) : Key), V.int 0)])) = H4 at t1 gD
    have nDL : D ≠ L := (ne_of_none hl hD).symm
    have n2D : H2 D = none := s3.free hD
    refine ⟨ds.map V.ref, t1 _ _ hl, by rw [List.length_map, hdl]; exact small_ (m := 100) (by omega), (s3.trans t1).over hL, ds ++ [D], by rw [upd_same, List.map_append]; rfl, by rw [List.length_append, hdl]; rfl, ?_, fun j D' hj => ?_⟩
    · refine nd_snoc hnd fun hm => ?_
      obtain ⟨j, hj⟩ := List.getElem?_of_mem hm
      have := (hds j D hj).1
      rw [this] at hD
      cases hD
    · by_cases ej : j < ds.length
      · rw [List.getElem?_append_left ej] at hj
        obtain ⟨h1, h2, h3⟩ := hds j D' hj
        exact ⟨by rw [upd_ne h3]; exact t1 _ _ h1, h2, h3⟩
      · rw [List.getElem?_append_right (by omega)] at hj
        have e0 : j - ds.length = 0 := by
          have := (List.getElem?_eq_some_iff.mp hj).1
          simp at this
          omega
        rw [e0] at hj
        cases hj
        have : j = i := by omega
        subst this
        exact ⟨by rw [upd_ne nDL]; exact gD, n2D, nDL⟩
  rintro H3 ⟨s3, ds, hl, hdl, hnd, hds⟩
  have frD : ∀ D ∈ ds, H2 D = none := fun D hm => by
    obtain ⟨j, hj⟩ := List.getElem?_of_mem hm
    exact (hds j D hj).2.1
  have nLd : L ∉ ds := fun hm => by
    obtain ⟨j, hj⟩ := List.getElem?_of_mem hm
    exact (hds j L hj).2.2 rfl
  have dsAt : ∀ {j : Nat}, j < W.P.length → ∃ D, ds[j]? = some D := fun hj => ⟨_, List.getElem?_eq_getElem (by omega)⟩
  -- the days
  have s13 := s12.trans s3
  refine ⟨_, rfl, a, _, _, _, rfl, rfl, s13.seqT hA, ix0, pp, _, rfl, .inr (s13.seqT hP), _, _, rfl, rfl, _, _, rfl, ⟨by decide, by decide, by omega, by rw [List.length_map]; omega⟩, ?_⟩
  have eN : ((((W.P.map V.str).length : Int) + 1) - 1).toNat = W.P.length := by rw [List.length_map]; omega
  rw [eN]
  have P0 : ∀ s a, W.P[s]? = some a → a ∈ W.P := fun s a e => mem_at e
  refine for_range (fun i σ H' => ∃ (y2 y5 y6 y7 y8 y9 y10 : Option V) (gs : Nat → NN), σ = [some (.ref a), some (.ref ru), y2, some (.ref De), some (.ref L), y5, y6, y7, y8, y9, y10, none] ∧ Same H2 H' ∧ H' L = some (.lst (ds.map V.ref)) ∧ Tab H' ds gs ∧ ∀ j p, W.P[j]? = some p → TabP W d rt (i + 1) 0 p (gs j))
    ⟨none, none, none, none, none, none, none, fun j => [(j, 0)], rfl, s3, hl, fun j D hj => (hds j D hj).1, fun j p hj => ⟨by simp, by simp [(List.getElem?_eq_some_iff.mp hj).1], fun s b hb => ?_, fun s m b hm hb => ?_⟩⟩ ?_ ?_
  · rw [kn_start T (mem_at hb) (mem_at hj)]
    simp only [List.map_cons, List.map_nil, List.mem_singleton]
    constructor
    · rintro rfl; rw [hb] at hj; exact (Option.some.inj hj).symm
    · rintro rfl; exact nd_ix T.nd hb hj
  · simp only [List.mem_singleton] at hm
    cases hm
    rw [hb] at hj
    cases hj
    exact (dy_self T (mem_at hb)).symm
  · rintro i σ H4 hi ⟨y2, y5, y6, y7, y8, y9, y10, gs, rfl, s4, hl4, ht4, hp4⟩
    refine ⟨_, rfl, ru, rfl, ⟨_, (s12.trans s4).seqT hru⟩, ?_⟩
    refine for_tup (K := K) (a := ru) (xs := rt.map V.str) (fun k σ H' => ∃ (y2 y6 y7 y8 y9 y10 : Option V) (gs : Nat → NN), σ = [some (.ref a), some (.ref ru), y2, some (.ref De), some (.ref L), some (.int (1 + (i : Nat))), y6, y7, y8, y9, y10, none] ∧ Same H2 H' ∧ H' L = some (.lst (ds.map V.ref)) ∧ Tab H' ds gs ∧ ∀ j p, W.P[j]? = some p → TabP W d rt (i + 1) k p (gs j))
      ⟨y2, y6, y7, y8, y9, y10, gs, rfl, s4, hl4, ht4, hp4⟩ (fun k σ H' _ h => by obtain ⟨_, _, _, _, _, _, _, _, s, _⟩ := h; exact (s12.trans s).seqT hru) ?_ ?_
    · rintro k x σ H5 hx ⟨y2, y6, y7, y8, y9, y10, gs, rfl, s5, hl5, ht5, hp5⟩
      obtain ⟨nm, hnm, rfl⟩ := at_map hx
      obtain ⟨rd, hrd, rfl⟩ := at_map (erd ▸ hnm)
      have hm := m1 rd (mem_at hrd)
      obtain ⟨p1, p2⟩ := T.ends rd hm
      have ne := T.ne hm
      have j1 := ixOf_lt p1
      have j2 := ixOf_lt p2
      have jne : ixOf W.P rd.2.1 ≠ ixOf W.P rd.2.2 := fun e => ne (ixOf_inj p1 p2 e)
      obtain ⟨D1, hD1⟩ := dsAt j1
      obtain ⟨D2, hD2⟩ := dsAt j2
      have nD : D1 ≠ D2 := fun e => jne (nd_ix hnd hD1 (e ▸ hD2))
      obtain ⟨v2, hv1, hv2⟩ := endsAt rd hm
      have dg := dgetF (g := fun v : V => v) (x := rd.1) (s5 _ _ gDe)
      rw [hv1] at dg
      obtain ⟨nb, nxs, rfl, hnb, hnx⟩ := (hv2.mono s5).tupI
      have enx : nxs = [(ixOf W.P rd.2.1 : Int), (ixOf W.P rd.2.2 : Int)].map V.int := DpAll.ints (l := [(ixOf W.P rd.2.1 : Int), (ixOf W.P rd.2.2 : Int)]) hnx
      subst enx
      refine ⟨_, rfl, _, rfl, De, _, rfl, dg, nb, _, rfl, hnb, rfl, _, _, rfl, _, _, rfl, rfl, ?_⟩
      have a1 : (ds.map V.ref)[ixOf W.P rd.2.1]? = some (.ref D1) := map_at hD1
      have a2 : (ds.map V.ref)[ixOf W.P rd.2.2]? = some (.ref D2) := map_at hD2
      -- the two ways
      refine ⟨_, rfl, _, rfl, L, _, _, _, rfl, rfl, SqL.at hl5, atI_nat a1, _, rfl, _, rfl, L, _, _, _, rfl, rfl, SqL.at hl5, atI_nat a2, by show 2 ≤ sizeLine; decide, fun q1 hq1 => ?_⟩
      have t1 : Same H5 (upd H5 q1 (.tup [.ref D1, .ref D2])) := Same.new hq1
      have k1 : upd H5 q1 (.tup [.ref D1, .ref D2]) q1 = some (.tup [.ref D1, .ref D2]) := upd_same
      generalize upd H5 q1 (.tup [.ref D1, .ref D2]) = H6 at t1 k1
      have hl6 := t1 _ _ hl5
      refine ⟨_, rfl, _, rfl, L, _, _, _, rfl, rfl, SqL.at hl6, atI_nat a2, _, rfl, _, rfl, L, _, _, _, rfl, rfl, SqL.at hl6, atI_nat a1, by show 2 ≤ sizeLine; decide, fun q2 hq2 => ?_⟩
      have t2 : Same H6 (upd H6 q2 (.tup [.ref D2, .ref D1])) := Same.new hq2
      have k2 : upd H6 q2 (.tup [.ref D2, .ref D1]) q2 = some (.tup [.ref D2, .ref D1]) := upd_same
      have k1' := t2 _ _ k1
      generalize upd H6 q2 (.tup [.ref D2, .ref D1]) = H7 at t2 k2 k1'
      refine ⟨by show 2 ≤ sizeLine; decide, fun LL hLL => ?_⟩
      have t3 : Same H7 (upd H7 LL (.lst [.ref q1, .ref q2])) := Same.new hLL
      have kL : upd H7 LL (.lst [.ref q1, .ref q2]) LL = some (.lst [.ref q1, .ref q2]) := upd_same
      have k2' := t3 _ _ k2
      have k1'' := t3 _ _ k1'
      have t123 := (t1.trans t2).trans t3
      generalize upd H7 LL (.lst [.ref q1, .ref q2]) = H8 at t3 kL k2' k1'' t123
      have s8 := s5.trans t123
      have ht8 := ht5.mono t123
      have hl8 := t123 _ _ hl5
      -- none of these is a place's dict
      have notD : ∀ {b : Addr} {o : HO}, H8 b = some o → (∀ kvs, o ≠ .dK kvs) → b ∉ ds := fun hb ho hm => by
        obtain ⟨j, hj⟩ := List.getElem?_of_mem hm
        have := ht8 j _ hj
        rw [this] at hb
        exact ho _ (Option.some.inj hb).symm
      have nq1 : q1 ∉ ds := notD k1'' (fun _ z => by cases z)
      have nq2 : q2 ∉ ds := notD k2' (fun _ z => by cases z)
      have nLL : LL ∉ ds := notD kL (fun _ z => by cases z)
      -- what the two steps give
      have T1 := hp5 _ _ (ixOf_mem p1)
      have T2 := hp5 _ _ (ixOf_mem p2)
      have road : ∀ s a, W.P[s]? = some a → _ := fun s a e => kn_road (k := i + 1) (i := k) T hRo (mem_at e) hm (by omega) hnm
      have gu := mergeN_keys (i + 1) (gs (ixOf W.P rd.2.2)) ((gs (ixOf W.P rd.2.1)).map (·.1))
      have U2 : TabP W d rt (i + 1) (k + 1) rd.2.2 (mergeN (i + 1) (gs (ixOf W.P rd.2.2)) ((gs (ixOf W.P rd.2.1)).map (·.1))) := by
        refine T2.merge T1.sub (fun s a e => ?_) fun s a e hs hk => ?_
        · rw [(road s a e).1 _ p2, T1.kn s a e]
          constructor
          · rintro (h | ⟨h, _⟩ | ⟨_, h⟩)
            · exact .inl h
            · exact absurd h.symm ne
            · exact .inr h
          · rintro (h | h)
            · exact .inl h
            · exact .inr (.inr ⟨rfl, h⟩)
        · exact (road s a e).2.1 ((T1.kn s a e).mp hs) hk
      have U1 : TabP W d rt (i + 1) (k + 1) rd.2.1 (mergeN (i + 1) (gs (ixOf W.P rd.2.1)) ((mergeN (i + 1) (gs (ixOf W.P rd.2.2)) ((gs (ixOf W.P rd.2.1)).map (·.1))).map (·.1))) := by
        refine T1.merge U2.sub (fun s a e => ?_) fun s a e hs hk => ?_
        · rw [(road s a e).1 _ p1, gu s, T2.kn s a e, T1.kn s a e]
          constructor
          · rintro (h | ⟨_, h⟩ | ⟨h, _⟩)
            · exact .inl h
            · exact .inr (.inl h)
            · exact absurd h ne
          · rintro (h | h | h)
            · exact .inl h
            · exact .inr (.inl ⟨rfl, h⟩)
            · exact .inl h
        · rcases (gu s).mp hs with h | h
          · exact (road s a e).2.2 ((T2.kn s a e).mp h) hk
          · exact absurd ((T1.kn s a e).mp h) hk
      have szz : ∀ (g g' : NN) (p p' : Str) (k1 k2 : Nat), TabP W d rt (i + 1) k1 p g → TabP W d rt (i + 1) k2 p' g' → ∀ ss : List Nat, (∀ s ∈ ss, s ∈ g.map (·.1)) → (mergeN (i + 1) g' ss).length ≤ 1000 := by
        intro g g' p p' k1 k2 b b' ss hss
        have := length_le_of_nodup_sub (m := List.range W.P.length) (mergeN_nd (i + 1) g' b'.nd ss) fun s hs => List.mem_range.mpr (by
          rcases (mergeN_keys (i + 1) g' ss s).mp hs with h | h
          · exact b'.sub s h
          · exact b.sub s (hss s h))
        rw [List.length_map, List.length_range] at this
        omega
      refine ⟨LL, rfl, ⟨_, SqL.at kL⟩, ?_⟩
      refine for_list (K := K) (a := LL) (xs := [.ref q1, .ref q2]) (fun c σ H' => ∃ (y8 y9 y10 : Option V) (gx : Nat → NN), σ = [some (.ref a), some (.ref ru), some (.str rd.1), some (.ref De), some (.ref L), some (.int (1 + (i : Nat))), some (.int (ixOf W.P rd.2.1 : Nat)), some (.int (ixOf W.P rd.2.2 : Nat)), y8, y9, y10, none] ∧ Same H2 H' ∧ (∀ b o, b ∉ ds → H8 b = some o → H' b = some o) ∧ Tab H' ds gx ∧
          ((c = 0 ∧ gx = gs) ∨ (c = 1 ∧ gx = setG gs (ixOf W.P rd.2.2) (mergeN (i + 1) (gs (ixOf W.P rd.2.2)) ((gs (ixOf W.P rd.2.1)).map (·.1)))) ∨
            (c = 2 ∧ gx = setG (setG gs (ixOf W.P rd.2.2) (mergeN (i + 1) (gs (ixOf W.P rd.2.2)) ((gs (ixOf W.P rd.2.1)).map (·.1)))) (ixOf W.P rd.2.1) (mergeN (i + 1) (gs (ixOf W.P rd.2.1)) ((mergeN (i + 1) (gs (ixOf W.P rd.2.2)) ((gs (ixOf W.P rd.2.1)).map (·.1))).map (·.1))))))
        ⟨y8, y9, y10, gs, rfl, s8, fun b o _ e => e, ht8, .inl ⟨rfl, rfl⟩⟩ (fun c σ H' _ h => by obtain ⟨_, _, _, _, _, _, s, _⟩ := h; exact SqL.at (s _ _ nLL kL)) ?_ ?_
      · rintro c x σ H9 hx9 ⟨y8, y9, y10, gx, rfl, x1, x2, x3, (⟨rfl, rfl⟩ | ⟨rfl, rfl⟩ | ⟨rfl, _⟩)⟩
        · cases hx9
          refine ⟨q1, _, rfl, SqT.at (x2 _ _ nq1 k1''), rfl, _, _, rfl, _, _, rfl, rfl, ?_⟩
          refine dir_walk (k := i + 1) (f := a) hnd frD x1 x3 hD1 hD2 nD (szz _ _ _ _ _ _ T1 T2) (fun H10 y10 z1 z2 z3 => ?_) (by omega)
          exact ⟨_, _, y10, _, rfl, z1, fun b o hb e => z2 b o hb (x2 b o hb e), z3, .inr (.inl ⟨rfl, rfl⟩)⟩
        · cases hx9
          refine ⟨q2, _, rfl, SqT.at (x2 _ _ nq2 k2'), rfl, _, _, rfl, _, _, rfl, rfl, ?_⟩
          have g1 : setG gs (ixOf W.P rd.2.2) (mergeN (i + 1) (gs (ixOf W.P rd.2.2)) ((gs (ixOf W.P rd.2.1)).map (·.1))) (ixOf W.P rd.2.2) = mergeN (i + 1) (gs (ixOf W.P rd.2.2)) ((gs (ixOf W.P rd.2.1)).map (·.1)) := by unfold setG; rw [if_pos rfl]
          have g2 : setG gs (ixOf W.P rd.2.2) (mergeN (i + 1) (gs (ixOf W.P rd.2.2)) ((gs (ixOf W.P rd.2.1)).map (·.1))) (ixOf W.P rd.2.1) = gs (ixOf W.P rd.2.1) := by unfold setG; rw [if_neg jne]
          refine dir_walk (k := i + 1) (f := a) hnd frD x1 x3 hD2 hD1 nD.symm (by rw [g1, g2]; exact szz _ _ _ _ _ _ U2 T1) (fun H10 y10 z1 z2 z3 => ?_) (by omega)
          rw [g1, g2] at z3
          exact ⟨_, _, y10, _, rfl, z1, fun b o hb e => z2 b o hb (x2 b o hb e), z3, .inr (.inr ⟨rfl, rfl⟩)⟩
        · cases hx9
      · rintro σ H9 ⟨y8, y9, y10, gx, rfl, x1, x2, x3, (⟨h, _⟩ | ⟨h, _⟩ | ⟨_, rfl⟩)⟩
        · cases h
        · cases h
        refine ⟨_, _, _, _, _, _, _, rfl, x1, x2 _ _ nLd hl8, x3, fun j p hj => ?_⟩
        unfold setG
        by_cases e1 : j = ixOf W.P rd.2.1
        · rw [if_pos e1]
          rw [e1, ixOf_mem p1] at hj
          cases hj
          exact U1
        · rw [if_neg e1]
          by_cases e2 : j = ixOf W.P rd.2.2
          · rw [if_pos e2]
            rw [e2, ixOf_mem p2] at hj
            cases hj
            exact U2
          · rw [if_neg e2]
            refine (hp5 j p hj).to fun s a e => ?_
            rw [(road s a e).1 p (mem_at hj)]
            constructor
            · rintro (h | ⟨h, _⟩ | ⟨h, _⟩)
              · exact h
              · exact absurd (by rw [← h]; exact (ixOf_at T.nd hj).symm) e1
              · exact absurd (by rw [← h]; exact (ixOf_at T.nd hj).symm) e2
            · exact .inl
    · rintro σ H5 ⟨y2, y6, y7, y8, y9, y10, gs, rfl, s5, hl5, ht5, hp5⟩
      rw [List.length_map] at hp5
      exact ⟨_, _, _, _, _, _, _, gs, rfl, s5, hl5, ht5, fun j p hj => (hp5 j p hj).to fun s a e => (kn_day T hRo (mem_at e) (mem_at hj) (by omega)).symm⟩
  · rintro σ H4 ⟨y2, y5, y6, y7, y8, y9, y10, gs, rfl, s4, hl4, ht4, hp4⟩
    have s14 := s12.trans s4
    refine ⟨_, rfl, a, _, _, _, rfl, rfl, s14.seqT hA, ix0, pp, _, rfl, .inr (s14.seqT hP), _, rfl, by omega, by rw [List.length_map]; omega, fun O hO => ?_⟩
    rw [eL]
    refine lc_rngD (K := K) ((yRows W d rt).map intsD) hO (by unfold yRows; rw [List.length_map, List.length_map]) (by omega) ?_ ?_
    · intro i e H5 acc Q2 u1 hO5 hi he k
      obtain ⟨row, hrow, rfl⟩ := at_map he
      obtain ⟨b, hb, rfl⟩ := at_map hrow
      refine ⟨rfl, _, rfl, L, rfl, ⟨_, SqL.at (u1 _ _ hl4)⟩, fun D2 hD2 => ?_⟩
      refine lc_lstD (K := K) (a := L) (xs := ds.map V.ref) ((yRow W d rt b).map .int) hD2 (SqL.at (u1 _ _ hl4)) (by unfold yRow; rw [List.length_map, List.length_map, List.length_map]; omega) (by rw [List.length_map]; omega) ?_ ?_
      · intro j x e H6 acc2 Q3 u2 hD6 hx he k3
        obtain ⟨Dj, hDj, rfl⟩ := at_map hx
        obtain ⟨z, hz, rfl⟩ := at_map he
        obtain ⟨p, hp, rfl⟩ := at_map hz
        have hg := u2 _ _ (u1 _ _ (ht4 j Dj hDj))
        have TP := hp4 j p hp
        have kn : i ∈ (gs j).map (·.1) := (TP.kn i b hb).mpr (kn_all T (mem_at hb) (mem_at hp) (by omega))
        have dgn : DGet H6 Dj (.int (0 + (i : Int))) (valV (kvN (gs j)) (Sum.inl (0 + (i : Int)))) := DGet.k (k := Sum.inl (0 + (i : Int))) hg
        have e0 : (0 + (i : Int)) = ((i : Nat) : Int) := by omega
        have ev : valV (kvN (gs j)) (Sum.inl (0 + (i : Int))) = some (.int (dy W d rt b p : Nat)) := by
          rw [e0, valV_kvN]
          cases hk : lkN (gs j) i with
          | none => exact absurd kn (lkN_none.mp hk)
          | some m => rw [TP.val i m b (lkN_mem hk) hb]; rfl
        refine ⟨rfl, _, rfl, Dj, rfl, .inl ⟨_, .inl hg⟩, _, rfl, _, dgn, ?_⟩
        rw [ev]
        exact k3 _ _ (Same.refl _) (.int _)
      · intro H6 ys2 u2 hy2 hda2
        refine k _ _ u2 ?_
        have nD2 : D2 ≠ O := (ne_of_none hO5 hD2).symm
        have e : ys2 = (yRow W d rt b).map V.int := hda2.ints
        rw [e] at hy2
        exact .lst (SqL.at (by rw [wo_ne nD2]; exact hy2)) (DpAll.ofInts _)
    · exact fun H5 ys2 u1 hy2 hda2 => q _ _ (s14.trans u1) (dp_list hy2 hda2)
end
end R
set_option maxHeartbeats 4000000
/-! sorted(tuple of texts) -/
namespace PyProof.Rows
open PySem PySem.Spec
section
variable {prog : Program} {w : World} {A : Around} {E : Value → Shared → Prop} {s : Shared}
theorem k47_collect_tup {a : Addr} {vs : List Value} {Q : List Value → Shared → Prop} (hl : s.heap.IsTuple a vs.toArray) (hsz : vs.length ≤ sizeLine)
    (h : Q vs { s with heap := (s.heap.push (seqObj "list" #[] 0)).update s.heap.objs.size (Obj.mapSeq (· ++ vs.toArray)) }) :
    wpAny (model prog w) A (collect (.ref a)) Q E s := by
  obtain ⟨o, ho, hc, n, hd⟩ := id hl
  unfold collect
  refine wpAny_bind (wpAny_runValue (codeAny_builtin entry_proto_collect' ?_))
  show wpAny _ _ (do again (.builtin "list.__iadd__" ⟨[← newList [], .ref a], []⟩)) _ _ s
  refine wpAny_bind (wpAny_newList (wpAny_pure ⟨Code.quiet_builtin _ (by decide +kernel), codeAny_builtin entry_list_iadd' ?_⟩))
  show wpAny _ _ (Builtin.List.listExtendWith (.ref s.heap.objs.size) (.ref a) (.ref s.heap.objs.size)) _ _ { s with heap := s.heap.push (seqObj "list" #[] 0) }
  unfold Builtin.List.listExtendWith
  have old : (s.heap.push (seqObj "list" #[] 0)).get? a = some o := Heap.get?_push_of_some _ ho
  have new : (s.heap.push (seqObj "list" #[] 0)).get? s.heap.objs.size = some (seqObj "list" #[] 0) := Heap.get?_push_size _ rfl
  refine wpAny_bind (wpAny_typeOf (T := "tuple") ⟨o, old, hc⟩ ?_)
  have ht : (Value.type "tuple" == Value.type "tuple") = true := by rfl
  rw [if_pos (by rw [ht]; simp)]
  refine wpAny_bind (listItems_at old hd ?_)
  refine wpAny_bind (listItems_at (xs := #[]) (n := 0) new rfl ?_)
  rw [if_neg (by simp)]
  refine wpAny_bind (listUpdate_at (xs := #[]) (n := 0) new rfl ?_ (Nat.zero_le _) (by show (#[] ++ vs.toArray).size ≤ sizeLine + 1; simp only [Array.size_append, List.size_toArray, List.length_nil]; omega))
  refine wpAny_pure ?_
  show wpAny (model prog w) A (do
      let o ← load s.heap.objs.size
      match o.data with
      | .seq xs _ => pure xs.toList
      | _ => unsupported "internal:collect") Q E { s with heap := (s.heap.push (seqObj "list" #[] 0)).update s.heap.objs.size (Obj.mapSeq (· ++ vs.toArray)) }
  refine wpAny_bind (wpAny_load (get?_update_seq new _) ?_)
  show wpAny _ _ (pure ((#[] : Array Value) ++ vs.toArray).toList) Q E _
  rw [show ((#[] : Array Value) ++ vs.toArray).toList = vs by simp]
  exact wpAny_pure h
theorem k47_sorted_tup {a : Addr} {vs : List Value} {ss : List Str} {Q : Value → Shared → Prop} (hl : s.heap.IsTuple a vs.toArray) (hS : StrsAre vs ss) (h64 : vs.length < 64)
    (h : ∀ (out : Array Value) (ss' : List Str), StrsAre out.toList ss' → ss'.Perm ss → sortedS ss' = true → Q (.ref (s.heap.objs.size + 1)) { s with heap := sortedAll s.heap vs out }) :
    wpAny (model prog w) A (call (.builtin "sorted") [.ref a]) Q E s := by
  have hz : vs.length ≤ sizeLine := by rw [sizeLine_eq]; omega
  refine Calls.call_function_entry kind_sorted plain_sorted entry_sorted (args_sorted1 _) ?_
  unfold Builtin.«sorted»
  refine wpAny_bind (m := checkCount "sorted" 1 1 _) (wpAny_pure ?_)
  refine wpAny_bind (k47_collect_tup hl hz ?_)
  refine wpAny_bind (wpAny_newList ?_ hz)
  have hsz : ((s.heap.push (seqObj "list" #[] 0)).update s.heap.objs.size (Obj.mapSeq (· ++ vs.toArray))).objs.size = s.heap.objs.size + 1 := by
    rw [Heap.size_update, size_push']
  have hoL : (((s.heap.push (seqObj "list" #[] 0)).update s.heap.objs.size (Obj.mapSeq (· ++ vs.toArray))).push (seqObj "list" vs.toArray 0)).get? (s.heap.objs.size + 1) = some (seqObj "list" vs.toArray 0) := by
    rw [← hsz]; exact Heap.get?_push_size _ rfl
  show wpAny _ _ _ _ _ { s with heap := ((s.heap.push (seqObj "list" #[] 0)).update s.heap.objs.size (Obj.mapSeq (· ++ vs.toArray))).push (seqObj "list" vs.toArray 0) }
  rw [hsz]
  refine wpAny_bind (wpAny_holding (wpAny_call_entry slot_list_sort ⟨_, hoL, rfl⟩ entry_list_sort (list_sort_treeK strKind_oneLt hoL hS.keysOf (fun v₁ v₂ rest e => keyKind_strs (by rw [← e]; exact hS)) h64 fun st' hp hs => ⟨_, rfl, ?_⟩) (args_list_sort _)))
  obtain ⟨ss', h1, h2, h3⟩ := sorted_out_str hS hp hs
  exact wpAny_pure ⟨_, rfl, h _ ss' h1 h2 h3⟩
end
end PyProof.Rows
namespace R
open PySem PySem.Spec PyProof.Rows L2
def rSortedST (K : PySem.W.Frag) : List V → Hp → VK → Prop := fun vs H Q => ∃ (a : Addr) (xs : List Str), vs = [V.ref a] ∧ SqT K H a (xs.map V.str) ∧ xs.length < 64 ∧
  ∀ (ys : List Str) (p : Addr), ys.Perm xs → sortedS ys = true → H p = none → Q (.ref p) (upd H p (.lst (ys.map V.str)))
theorem cr_sortedST {X : Cx} : CallR X (.builtin "sorted") (rSortedST X.K) := by
  intro pins s σ H vs us Q I r h
  obtain ⟨a, xs, rfl, hs, h64, q⟩ := h
  obtain ⟨its, rv, hl, _⟩ := I.tuple hs
  rw [Vals.ref1 r]
  have hlen0 := rv.length
  rw [List.length_map] at hlen0
  refine k47_sorted_tup (show s.heap.IsTuple a its.toArray from hl) rv.strs (by rw [← hlen0]; exact h64) fun out ys h1 h2 h3 => ?_
  obtain ⟨ep, he'⟩ := PyProof.Rows.sortedAll_at s.heap its out
  have hlen : (ys.map V.str).length ≤ sizeLine := by rw [List.length_map, h2.length_eq]; exact small64 h64
  exact ⟨.ref _, upd H (s.heap.objs.size + 1) (.lst (ys.map V.str)), I.laid (t' := s.toks) (fun _ _ => PyProof.Rows.sortedAll_old) (Nat.le_succ _) ⟨hlen, out.toList, ep, vals_of_strs h1, he'⟩, rfl, q ys _ h2 h3 (I.hok.fresh (Nat.le_succ _))⟩
end R
set_option maxHeartbeats 4000000
namespace R
open PySem PySem.Spec PyProof.Rows L2
/-! ### texts in order -/
def leS (x y : Str) : Prop := x.cps.toList ≤ y.cps.toList
theorem leS_of {x p : Str} (h : ltCps x.cps.toList p.cps.toList = false) : leS p x := by
  rw [ltCps_eq] at h
  exact List.not_lt.mp (of_decide_eq_false h)
theorem rising_pw : ∀ {l : List Str} {p : Str}, risingS p l = true → (p :: l).Pairwise leS
  | [], p, _ => List.pairwise_singleton _ _
  | x :: l, p, h => by
    have h : (!ltCps x.cps.toList p.cps.toList && risingS x l) = true := h
    rw [Bool.and_eq_true] at h
    have ih := rising_pw h.2
    have px : leS p x := leS_of (by simpa using h.1)
    refine List.pairwise_cons.mpr ⟨fun y hy => ?_, ih⟩
    rcases List.mem_cons.mp hy with rfl | hy
    · exact px
    · exact List.le_trans px ((List.pairwise_cons.mp ih).1 y hy)
theorem sorted_pw {l : List Str} (h : sortedS l = true) : l.Pairwise leS := by
  cases l with
  | nil => exact List.Pairwise.nil
  | cons x l => exact rising_pw h
theorem leS_anti {x y : Str} (h : leS x y) (h' : leS y x) : x = y := by
  have : x.cps.toList = y.cps.toList := List.le_antisymm h h'
  cases x; cases y
  congr 1
  exact Array.toList_inj.mp this
theorem sorted_one : ∀ {l m : List Str}, l.Pairwise leS → m.Pairwise leS → l.Perm m → l = m
  | [], m, _, _, p => (List.nil_perm.mp p).symm
  | x :: l, [], _, _, p => (List.perm_nil.mp p)
  | x :: l, y :: m, h1, h2, p => by
    rw [List.pairwise_cons] at h1 h2
    have e : x = y := by
      have hx : x ∈ y :: m := p.mem_iff.mp List.mem_cons_self
      have hy : y ∈ x :: l := p.mem_iff.mpr List.mem_cons_self
      rcases List.mem_cons.mp hx with hx | hx
      · exact hx
      · rcases List.mem_cons.mp hy with hy | hy
        · exact hy.symm
        · exact leS_anti (h1.1 y hy) (h2.1 x hx)
    subst e
    rw [sorted_one h1.2 h2.2 (List.perm_cons x |>.mp p)]
section
variable {P : Program} {w : World} {K : PySem.W.Frag} {mg : Str → Option Value} {base : Heap}
def sp_law_greatest (K : PySem.W.Frag) : Sp := fun vs H Q _ => ∃ v u W d rt, vs = [v, u] ∧ WebZ K H v W ∧ TreeD W d ∧ RotaOf W rt ∧ Dp K H u (strsT rt) ∧ ∀ H', Same H H' → Q (.int (greatN (yRows W d rt))) H'
theorem ok_law_greatest (F : DefAt K mg "_law_greatest" s_law_greatest ["_law_web", "_law_rota"]) (B : Blt mg) (G_law_table : Ok P w K mg base CX0 1 "_law_table" ["_law_web", "_law_rota"] (sp_law_table K)) : Ok P w K mg base CX0 2 "_law_greatest" ["_law_web", "_law_rota"] (sp_law_greatest K) := by
  refine ok_of F sc_law_greatest (fun vs H Q E h => by obtain ⟨_, _, _, _, _, rfl, _⟩ := h; rfl) fun f cdv A outer s H vs Q E hr h => ?_
  obtain ⟨v, u, W, d, rt, rfl, hz, T, hR, hu, q⟩ := h
  refine ⟨_, (pss_one (as_ret (ae_callB (maxL K rfl) (by rfl) B.max_ (by decide +kernel) (aa_cons (pe_lc (own := [("_law_row", 2)]) (g := (gName 2)) (tt := tYes) rfl sc_law_greatest.nd (piL K (ae_co G_law_table hr pass0 (aa_cons (av 0) (aa_cons (av 1) aa_nil)))) (blkOk_by (own := [("_law_row", 2)]) (N := n_law_greatest) (sc := (defScope s_law_greatest)) (by decide +kernel)) (fun _ _ _ _ _ => (pg_name (i := 2) sc_law_greatest.nd rfl (Or.inl rfl))) (fun _ _ _ _ _ => pts_nil) (fun _ _ _ _ _ => (ae_callB (maxL K rfl) (by rfl) B.max_ (by decide +kernel) (aa_cons (av 2) aa_nil)))) aa_nil)))), ?_⟩
  refine ⟨_, rfl, _, rfl, _, _, W, d, rt, rfl, hz, T, hR, hu, fun H1 v1 s1 hd => ?_⟩
  obtain ⟨L, xs, rfl, hL, hxs⟩ := hd.lstI
  refine ⟨L, rfl, ⟨_, hL⟩, fun D hD => ?_⟩
  have hml : (yRows W d rt).length ≤ 100000 := by unfold yRows; rw [List.length_map]; exact Nat.le_trans hz.at_.pl (by decide)
  refine lc_maxes (m := yRows W d rt) hD hL hxs (yRows_ne T.pne) hml (fun _ => rfl) (fun _ => rfl) fun H2 s2 hD2 => ?_
  exact max_ints (SqL.at hD2) (by unfold yRows; simpa using T.pne) (q _ (s1.trans s2))
/-- what the law expects of a best rota -/
theorem great_rows {W : Web} {d : Str → Str → Nat} {n : Nat} {x y : Str} (F : Far W d n x y) (T : TreeD W d) : greatN (dRows W d) = (n : Nat) := by
  obtain ⟨a, b, ha, hb, e, h⟩ := great_all (f := d) T.pne
  have e : greatN (dRows W d) = (d a b : Nat) := e
  rw [e]
  have h1 := h x F.hx y F.hy
  have h2 := F.le a ha b hb
  rw [F.eq] at h1
  omega
def sp_law_is_best (K : PySem.W.Frag) : Sp := fun vs H Q _ => ∃ v u W d rt, vs = [v, u] ∧ WebOk W ∧ WebZ K H v W ∧ TreeD W d ∧ RotaOf W rt ∧ Dp K H u (strsT rt) ∧ (∀ n x y, Far W d n x y → greatN (yRows W d rt) = (leastN W n : Nat)) ∧ ∀ H', Same H H' → Q (.bl true) H'
theorem ok_law_is_best (F : DefAt K mg "_law_is_best" s_law_is_best ["_law_web", "_law_rota"]) (B : Blt mg) (G_law_distances : Ok P w K mg base CX0 1 "_law_distances" ["_law_web"] (sp_law_distances K)) (G_law_table : Ok P w K mg base CX0 1 "_law_table" ["_law_web", "_law_rota"] (sp_law_table K)) : Ok P w K mg base CX0 2 "_law_is_best" ["_law_web", "_law_rota"] (sp_law_is_best K) := by
  refine ok_of F sc_law_is_best (fun vs H Q E h => by obtain ⟨_, _, _, _, _, rfl, _⟩ := h; rfl) fun f cdv A outer s H vs Q E hr h => ?_
  obtain ⟨v, u, W, d, rt, rfl, ok, hz, T, hR, hu, hg, q⟩ := h
  refine ⟨_, (ass_cons (as_if (PW.pt (aw_or (at_not (at_val (ae_callB (isiK K) (by rfl) B.isinstance_ (by decide +kernel) (aa_cons (av 1) (aa_cons (ae_bltn (v := .ty "tuple") (by rfl) B.tuple_ (by decide +kernel) rfl) aa_nil))))) (pw_or1 (at_cmpR (neD K (hu := hu64 hr)) (ae_callB cr_sortedST (by rfl) B.sorted_ (by decide +kernel) (aa_cons (av 1) aa_nil)) (ae_callB cr_sortedS (by rfl) B.sorted_ (by decide +kernel) (aa_cons (pe_lc (own := [("_law_road", 3)]) (g := (gName 3)) (tt := tYes) rfl sc_law_is_best.nd (piT K (ae_ix (ixT K) (av 0) ae_int (fun _ _ => rfl))) (blkOk_by (own := [("_law_road", 3)]) (N := n_law_is_best) (sc := (defScope s_law_is_best)) (by decide +kernel)) (fun _ _ _ _ _ => (pg_name (i := 3) sc_law_is_best.nd rfl (Or.inl rfl))) (fun _ _ _ _ _ => pts_nil) (fun _ _ _ _ _ => (ae_ix (ixT K) (av 3) ae_int (fun _ _ => rfl)))) aa_nil)) (nomark _)))))
      (pss_one (as_ret ae_bl))
      ass_nil)
    (ass_cons (as_set (i := 2) sc_law_is_best.nd rfl (Or.inl rfl) (ae_callB (maxL K rfl) (by rfl) B.max_ (by decide +kernel) (aa_cons (pe_lc (own := [("_law_row", 4)]) (g := (gName 4)) (tt := tYes) rfl sc_law_is_best.nd (piL K (ae_co G_law_distances hr pass0 (aa_cons (av 0) aa_nil))) (blkOk_by (own := [("_law_row", 4)]) (N := n_law_is_best) (sc := (defScope s_law_is_best)) (by decide +kernel)) (fun _ _ _ _ _ => (pg_name (i := 4) sc_law_is_best.nd rfl (Or.inl rfl))) (fun _ _ _ _ _ => pts_nil) (fun _ _ _ _ _ => (ae_callB (maxL K rfl) (by rfl) B.max_ (by decide +kernel) (aa_cons (av 4) aa_nil)))) aa_nil)))
    (pss_one (as_ret (ae_cmpR op_eq (ae_callB (maxL K rfl) (by rfl) B.max_ (by decide +kernel) (aa_cons (pe_lc (own := [("_law_row", 4)]) (g := (gName 4)) (tt := tYes) rfl sc_law_is_best.nd (piL K (ae_co G_law_table hr pass0 (aa_cons (av 0) (aa_cons (av 1) aa_nil)))) (blkOk_by (own := [("_law_row", 4)]) (N := n_law_is_best) (sc := (defScope s_law_is_best)) (by decide +kernel)) (fun _ _ _ _ _ => (pg_name (i := 4) sc_law_is_best.nd rfl (Or.inl rfl))) (fun _ _ _ _ _ => pts_nil) (fun _ _ _ _ _ => (ae_callB (maxL K rfl) (by rfl) B.max_ (by decide +kernel) (aa_cons (av 4) aa_nil)))) aa_nil)) (ae_ifExp (at_cmpR op_eq (av 2) ae_int (nomark _)) ae_int (ae_op op_add (ae_op op_fdiv (av 2) ae_int) ae_int)) (nomark _)))))), ?_⟩
  have hv := hz.at_
  obtain ⟨a, pp, r, rs, rfl, hA, hP, hRR, hrs⟩ := hv.parts
  have rsl : rs.length = W.R.length := by rw [hrs.length, List.length_map]
  have rl := ok.r14
  have pl := hv.pl
  refine ⟨_, rfl, isi_tup hu ⟨_, rfl, ?_⟩⟩
  -- sorted
  obtain ⟨ru, rus, rfl, hru, hrus⟩ := hu.tupI
  rw [hrus.strs] at hru
  refine ⟨_, rfl, ru, rt, rfl, hru, by rw [hR.len]; omega, fun ys p pm sy hp => ?_⟩
  have s1 : Same H (upd H p (.lst (ys.map V.str))) := Same.new hp
  have gp : upd H p (.lst (ys.map V.str)) p = some (.lst (ys.map V.str)) := upd_same
  generalize upd H p (.lst (ys.map V.str)) = H1 at s1 gp
  refine ⟨_, rfl, a, _, _, _, rfl, rfl, s1.seqT hA, ix1, r, rfl, ⟨_, s1.seqT hRR⟩, fun D hD => ?_⟩
  refine lc_tupD (K := K) (a := r) (xs := rs) (W.names.map .str) hD (s1.seqT hRR) (by unfold Web.names; rw [List.length_map, List.length_map, rsl]) (by omega) ?_ ?_
  · intro i x e H2 acc Q2 u1 hD2 hx he k
    obtain ⟨rd, e1, e2⟩ := at_map (f := fun r : Road => PyData.str r.1) (by unfold Web.names at he; rw [List.map_map] at he; exact he)
    subst e2
    obtain ⟨b, rfl, hb⟩ := road_parts ((hrs.both hx (map_at e1)).mono (s1.trans u1))
    exact ⟨rfl, _, rfl, b, _, _, _, rfl, rfl, hb, ix0, k _ _ (Same.refl _) (.str _)⟩
  intro H2 zs s2 hz2 hda
  have ezs : zs = W.names.map V.str := DpAll.strs hda
  subst ezs
  refine ⟨D, W.names, rfl, SqL.at hz2, by unfold Web.names; rw [List.length_map]; omega, fun ys2 p2 pm2 sy2 hp2 => ?_⟩
  have s3 : Same H2 (upd H2 p2 (.lst (ys2.map V.str))) := Same.new hp2
  have gp2 : upd H2 p2 (.lst (ys2.map V.str)) p2 = some (.lst (ys2.map V.str)) := upd_same
  generalize upd H2 p2 (.lst (ys2.map V.str)) = H3 at s3 gp2
  have ey : ys = ys2 := sorted_one (sorted_pw sy) (sorted_pw sy2) (pm.trans (hR.perm.trans pm2.symm))
  subst ey
  have hso : ys.all PyData.strOk = true := List.all_eq_true.mpr fun x hx => List.all_eq_true.mp hv.okR x (pm2.mem_iff.mp hx)
  refine ⟨.list (ys.map .str), .list (ys.map .str), .lst (SqL.at (s3 _ _ (s2 _ _ gp))) (DpAll.ofStrs _), .lst (SqL.at gp2) (DpAll.ofStrs _), shaped_lst hso, shaped_lst hso, _, rfl, ?_⟩
  rw [eqv_lst, decide_eq_true rfl]
  -- far
  have s13 := (s1.trans s2).trans s3
  refine ⟨_, rfl, _, W, d, rfl, hv.mono s13, T, fun H4 v4 s4 hd4 => ?_⟩
  obtain ⟨L4, xs4, rfl, hL4, hx4⟩ := hd4.lstI
  refine ⟨L4, rfl, ⟨_, hL4⟩, fun D4 hD4 => ?_⟩
  have ml1 : (dRows W d).length ≤ 100000 := by unfold dRows; rw [List.length_map]; omega
  refine lc_maxes (m := dRows W d) hD4 hL4 hx4 (dRows_ne T.pne) ml1 (fun _ => rfl) (fun _ => rfl) fun H5 s5 hD5 => ?_
  refine max_ints (SqL.at hD5) (by unfold dRows; simpa using T.pne) ?_
  obtain ⟨n, x, y, FF⟩ := far_ex T
  have eg : mx ((dRows W d).map mx) = (n : Nat) := great_rows FF T
  rw [eg]
  have s15 := (s13.trans s4).trans s5
  refine ⟨_, rfl, _, rfl, _, _, W, d, rt, rfl, hz.mono s15, T, hR, hu.mono s15, fun H6 v6 s6 hd6 => ?_⟩
  obtain ⟨L6, xs6, rfl, hL6, hx6⟩ := hd6.lstI
  refine ⟨L6, rfl, ⟨_, hL6⟩, fun D6 hD6 => ?_⟩
  have ml2 : (yRows W d rt).length ≤ 100000 := by unfold yRows; rw [List.length_map]; omega
  refine lc_maxes (m := yRows W d rt) hD6 hL6 hx6 (yRows_ne T.pne) ml2 (fun _ => rfl) (fun _ => rfl) fun H7 s7 hD7 => ?_
  refine max_ints (SqL.at hD7) (by unfold yRows; simpa using T.pne) ?_
  have eg2 : mx ((yRows W d rt).map mx) = (leastN W n : Nat) := hg n x y FF
  rw [eg2]
  have nz : n = 0 ↔ W.P.length = 1 := by
    constructor
    · intro e
      have h1 : ∀ b ∈ W.P, b = x := fun b hb => by
        have := FF.le x FF.hx b hb
        exact ((T.zero x FF.hx b hb).mp (by omega)).symm
      have := length_le_of_nodup_sub (m := [x]) T.nd fun b hb => by simp [h1 b hb]
      have := ok.p1
      simp at *
      omega
    · intro e
      have h1 : x = y := by
        have hx := FF.hx
        have hy := FF.hy
        match W.P, e, hx, hy with
        | [z], _, hx, hy => simp at hx hy; rw [hx, hy]
      rw [← FF.eq, h1]; exact (T.zero y FF.hy y FF.hy).mpr rfl
  refine ⟨_, rfl, rfl, _, rfl, ?_⟩
  rw [v_int_eq]
  have last : ∀ z : Int, z = (leastN W n : Nat) → Q (.bl (decide (V.int (leastN W n : Nat) = V.int z))) H7 := fun z e => by
    subst e
    rw [v_int_eq, decide_eq_true rfl]
    exact q H7 ((s15.trans s6).trans s7)
  refine ite2 (fun c => ?_) (fun c => ?_)
  · have c := of_decide_eq_true c
    refine ⟨rfl, last 0 ?_⟩
    unfold leastN
    rw [if_pos (nz.mp (by omega))]; rfl
  · have c : ¬ (n : Int) = 0 := fun z => c (decide_eq_true z)
    refine ⟨_, rfl, _, _, rfl, rfl, ⟨by decide, by decide⟩, _, _, rfl, rfl, rfl, last _ ?_⟩
    unfold leastN
    rw [if_neg (fun z => c (by have := nz.mpr z; omega))]
    omega
end
end R
set_option maxHeartbeats 4000000
namespace R
open PySem PySem.Spec PyProof.Rows L2
/-! ### all rotas -/
def stepR (ns : List Str) (rows : List (List Str)) : List (List Str) := rows.flatMap fun row => (ns.filter fun x => decide (x ∉ row)).map fun x => row ++ [x]
def rotasK (ns : List Str) : Nat → List (List Str)
  | 0 => [[]]
  | k + 1 => stepR ns (rotasK ns k)
theorem mem_rotas (ns : List Str) : ∀ (k : Nat) (row : List Str), row ∈ rotasK ns k ↔ row.Nodup ∧ row.length = k ∧ ∀ x ∈ row, x ∈ ns
  | 0, row => by
    show row ∈ [[]] ↔ _
    simp only [List.mem_singleton]
    constructor
    · rintro rfl; simp
    · rintro ⟨_, h, _⟩; exact List.length_eq_zero_iff.mp h
  | k + 1, row => by
    show row ∈ stepR ns (rotasK ns k) ↔ _
    unfold stepR
    rw [List.mem_flatMap]
    constructor
    · rintro ⟨r0, h0, h1⟩
      obtain ⟨x, hx, rfl⟩ := List.mem_map.mp h1
      obtain ⟨hx1, hx2⟩ := List.mem_filter.mp hx
      obtain ⟨a, b, c⟩ := (mem_rotas ns k r0).mp h0
      refine ⟨nd_snoc a (of_decide_eq_true hx2), by rw [List.length_append, b]; rfl, fun y hy => ?_⟩
      rcases List.mem_append.mp hy with h | h
      · exact c y h
      · have : y = x := by simpa using h
        rw [this]; exact hx1
    · rintro ⟨a, b, c⟩
      have hne : row ≠ [] := fun e => by rw [e] at b; cases b
      have e := List.dropLast_concat_getLast hne
      rw [← e] at a c
      rw [List.nodup_append] at a
      refine ⟨row.dropLast, (mem_rotas ns k _).mpr ⟨a.1, by rw [List.length_dropLast, b]; rfl, fun x hx => c x (List.mem_append_left _ hx)⟩, List.mem_map.mpr ⟨row.getLast hne, List.mem_filter.mpr ⟨c _ (List.mem_append_right _ (by simp)), decide_eq_true fun k => a.2.2 _ k _ (by simp) rfl⟩, e⟩⟩
theorem stepR_len (ns : List Str) : ∀ rows : List (List Str), (stepR ns rows).length ≤ rows.length * ns.length
  | [] => Nat.zero_le _
  | r :: rows => by
    have ih := stepR_len ns rows
    unfold stepR at ih ⊢
    rw [List.flatMap_cons, List.length_append, List.length_map, List.length_cons, Nat.add_mul, Nat.one_mul]
    have : (ns.filter fun x => decide (x ∉ r)).length ≤ ns.length := List.length_filter_le ..
    omega
theorem rotasK_len (ns : List Str) (h : ns.length ≤ 6) : ∀ k, (rotasK ns k).length ≤ 6 ^ k
  | 0 => Nat.le_refl _
  | k + 1 => by
    have ih := rotasK_len ns h k
    have := stepR_len ns (rotasK ns k)
    show (stepR ns (rotasK ns k)).length ≤ 6 ^ k * 6
    exact Nat.le_trans this (Nat.mul_le_mul ih h)
theorem rotas_all {W : Web} (hw : Wf W) (rt : List Str) : rt ∈ rotasK W.names W.R.length ↔ RotaOf W rt := by
  rw [mem_rotas]
  have ln : W.names.length = W.R.length := by unfold Web.names; rw [List.length_map]
  constructor
  · rintro ⟨a, b, c⟩
    refine ⟨(List.perm_ext_iff_of_nodup a hw.nn).mpr fun x => ⟨c x, fun hx => ?_⟩⟩
    refine Classical.byContradiction fun n => ?_
    have := length_le_of_nodup_sub (l := x :: rt) (m := W.names) (List.nodup_cons.mpr ⟨n, a⟩) fun y hy => by
      rcases List.mem_cons.mp hy with rfl | hy
      · exact hx
      · exact c y hy
    rw [List.length_cons] at this
    omega
  · intro h
    exact ⟨h.nd hw, h.len, fun x hx => h.perm.mem_iff.mp hx⟩
theorem stepR_snoc (ns : List Str) (rows : List (List Str)) (r : List Str) : stepR ns (rows ++ [r]) = stepR ns rows ++ (ns.filter fun x => decide (x ∉ r)).map fun x => r ++ [x] := by
  unfold stepR; rw [List.flatMap_append]; simp
theorem tup_rows : ∀ rows : List (List Str), tupOnly.tupAll (rows.map strsT) = true
  | [] => rfl
  | r :: rows => by rw [List.map_cons, tupOnly.tupAll, tup_rows rows, tup_strsT]; rfl
theorem filter_names (R : List Road) (p : Str → Bool) : (R.filter fun r => p r.1).map (·.1) = (R.map (·.1)).filter p := by
  rw [List.filter_map]; rfl
section
variable {P : Program} {w : World} {K : PySem.W.Frag} {mg : Str → Option Value} {base : Heap}
def sp_law_rotas (K : PySem.W.Frag) : Sp := fun vs H Q _ => ∃ v W, vs = [v] ∧ WebAt K H v W ∧ W.R.length ≤ 6 ∧ ∀ H' L, Same H H' → H L = none → Dp K H' (.ref L) (.list ((rotasK W.names W.R.length).map strsT)) → Q (.ref L) H'
theorem ok_law_rotas (F : DefAt K mg "_law_rotas" s_law_rotas ["_law_web"]) : Ok P w K mg base CX0 1 "_law_rotas" ["_law_web"] (sp_law_rotas K) := by
  refine ok_of F sc_law_rotas (fun vs H Q E h => by obtain ⟨_, _, rfl, _⟩ := h; rfl) fun f cdv A outer s H vs Q E hr h => ?_
  obtain ⟨v, W, rfl, hv, r6, q⟩ := h
  refine ⟨_, (ass_cons (as_set (i := 1) sc_law_rotas.nd rfl (Or.inl rfl) (ae_lst (aa_cons (ae_tup aa_nil) aa_nil)))
    (ass_cons (ps_for PassesOwn.never rfl (piT K (ae_ix (ixT K) (av 0) ae_int (fun _ _ => rfl))) (pg_name (i := 2) sc_law_rotas.nd rfl (Or.inl rfl))
      (ass_cons (as_set (i := 3) sc_law_rotas.nd rfl (Or.inl rfl) (ae_lst aa_nil))
      (ass_cons (ps_for PassesOwn.never rfl (piL K (av 1)) (pg_name (i := 4) sc_law_rotas.nd rfl (Or.inr rfl))
        (pss_one (as_expr (ae_bm K PySem.F.plainAttrs_list PySem.F.slot_list_extend PySem.F.type_list_extend mt_extend (av 3) (aa_cons (pe_lc (own := [("_law_road", 5)]) (g := (gName 5)) rfl sc_law_rotas.nd (piT K (ae_ix (ixT K) (av 0) ae_int (fun _ _ => rfl))) (blkOk_by (own := [("_law_road", 5)]) (N := n_law_rotas) (sc := (defScope s_law_rotas)) (by decide +kernel)) (fun _ _ _ _ _ => (pg_name (i := 5) sc_law_rotas.nd rfl (Or.inl rfl))) (fun _ _ _ _ _ => (pts_one (at_cmpR (ninS K) (ae_ix (ixT K) (av 5) ae_int (fun _ _ => rfl)) (av 4) (by rfl)))) (fun _ _ _ _ _ => (ae_op (catA K) (av 4) (ae_tup (aa_cons (ae_ix (ixT K) (av 5) ae_int (fun _ _ => rfl)) aa_nil))))) aa_nil)))))
      (pss_one (as_set (i := 1) sc_law_rotas.nd rfl (Or.inl rfl) (av 3))))))
    (pss_one (as_ret (av 1))))), ?_⟩
  obtain ⟨a, pp, r, rs, rfl, hA, hP, hR, hrs⟩ := hv.parts
  have rsl : rs.length = W.R.length := by rw [hrs.length, List.length_map]
  have nl : W.names.length = W.R.length := by unfold Web.names; rw [List.length_map]
  have few : ∀ k, k ≤ 6 → (rotasK W.names k).length ≤ 46656 := fun k hk => Nat.le_trans (rotasK_len _ (by omega) k) (Nat.le_trans (Nat.pow_le_pow_right (by decide) hk) (by decide))
  refine ⟨Nat.zero_le _, fun p0 hp0 => ⟨by show 1 ≤ sizeLine; decide, fun l0 hl0 => ?_⟩⟩
  have t1 : Same H (upd H p0 (.tup [])) := Same.new hp0
  have t2 : Same (upd H p0 (.tup [])) (upd (upd H p0 (.tup [])) l0 (.lst [.ref p0])) := Same.new hl0
  have g2 : upd (upd H p0 (.tup [])) l0 (.lst [.ref p0]) l0 = some (.lst [.ref p0]) := upd_same
  have g1 := t2 _ _ (upd_same (H := H) (a := p0) (o := .tup []))
  have t12 := t1.trans t2
  have n0 : H l0 = none := t1.free hl0
  generalize upd (upd H p0 (.tup [])) l0 (.lst [.ref p0]) = H1 at t12 g1 g2
  refine ⟨_, rfl, a, _, _, _, rfl, rfl, t12.seqT hA, ix1, r, rfl, ⟨_, t12.seqT hR⟩, ?_⟩
  refine for_tup (K := K) (a := r) (xs := rs) (fun i σ H' => ∃ (G : Addr) (ys : List V) (y2 y3 y4 : Option V), σ = [some (.ref a), some (.ref G), y2, y3, y4, none] ∧ Same H H' ∧ H G = none ∧ H' G = some (.lst ys) ∧ DpAll K H' ys ((rotasK W.names i).map strsT))
    ⟨l0, [.ref p0], none, none, none, rfl, t12, n0, g2, .cons (.tup (xs := []) (SqT.at g1) .nil) .nil⟩ (fun i σ H' _ h => by obtain ⟨_, _, _, _, _, _, s, _⟩ := h; exact s.seqT hR) ?_ ?_
  · rintro i x σ H' hx ⟨G, ys, y2, y3, y4, rfl, s1, nG, hG, hda⟩
    have hi : i < W.R.length := by rw [← rsl]; exact (List.getElem?_eq_some_iff.mp hx).1
    refine ⟨Nat.zero_le _, fun M hM => ?_⟩
    have u1 : Same H' (upd H' M (.lst [])) := Same.new hM
    have nM : H M = none := s1.free hM
    have gM : upd H' M (.lst []) M = some (.lst []) := upd_same
    have nGM : G ≠ M := ne_of_none hG hM
    have hda1 := hda.mono u1
    have hG1 := u1 _ _ hG
    generalize upd H' M (.lst []) = H2 at u1 gM hda1 hG1
    have yl : ys.length = (rotasK W.names i).length := by rw [hda.length, List.length_map]
    refine ⟨_, rfl, G, rfl, ⟨_, SqL.at hG1⟩, ?_⟩
    refine for_list (K := K) (a := G) (xs := ys) (fun j σ H3 => ∃ (zs : List V) (y4 : Option V), σ = [some (.ref a), some (.ref G), some x, some (.ref M), y4, none] ∧ Same H H3 ∧ SameT H2 H3 ∧ H3 G = some (.lst ys) ∧ H3 M = some (.lst zs) ∧ DpAll K H3 zs ((stepR W.names ((rotasK W.names i).take j)).map strsT))
      ⟨[], y4, rfl, s1.trans u1, ⟨fun _ _ e => e, fun _ _ _ e => e⟩, hG1, gM, .nil⟩ (fun j σ H3 _ h => by obtain ⟨_, _, _, _, _, s, _⟩ := h; exact SqL.at s) ?_ ?_
    · rintro j y σ H3 hy ⟨zs, y4, rfl, s3, sT, hG3, hM3, hdz⟩
      obtain ⟨e, he, hdy⟩ := hda1.get' hy
      obtain ⟨row, hrow, rfl⟩ := at_map he
      have hdy3 := dp_sameT sT hdy (tup_strsT row)
      have hsub := (mem_rotas W.names i row).mp (mem_at hrow)
      obtain ⟨rw_, rxs, rfl, hr1, hr2⟩ := hdy3.tupI
      rw [hr2.strs] at hr1
      refine ⟨_, rfl, .inl ⟨rfl, _, SqL.at hM3⟩, ?_⟩
      refine ⟨_, rfl, a, _, _, _, rfl, rfl, s3.seqT hA, ix1, r, rfl, ⟨_, s3.seqT hR⟩, fun D hD => ?_⟩
      refine lc_tupF (K := K) (a := r) (xs := rs) (W.R.map fun rd => if rd.1 ∉ row then some (strsT (row ++ [rd.1])) else none) hD (s3.seqT hR) (by rw [rsl, List.length_map]) (by omega) ?_ ?_
      · intro k x0 e0 H4 acc Q4 Q0 u4 hD4 hx4 he4 k1 k0
        obtain ⟨rd, hrd1, rfl⟩ := at_map he4
        have hrd := (hrs.both hx4 (map_at hrd1)).mono (s3.trans u4)
        obtain ⟨b, rfl, hb⟩ := road_parts hrd
        refine ⟨rfl, _, rfl, b, _, _, _, rfl, rfl, hb, ix0, _, rfl, rw_, _, rfl, .inr (u4.seqT hr1), rfl, flat_strs _, ?_⟩
        refine ⟨_, rfl, ?_⟩
        show if (!inV (.str rd.1) (row.map V.str)) = true then _ else _
        rw [inV_str]
        refine ite2 (fun c => ?_) (fun c => ?_)
        · have c : rd.1 ∉ row := fun z => by rw [decide_eq_true z] at c; cases c
          rw [if_pos c] at k1
          refine ⟨_, rfl, _, rfl, b, _, _, _, rfl, rfl, hb, ix0, by show 1 ≤ sizeLine; decide, fun p hp => ?_⟩
          have tp : Same H4 (upd H4 p (.tup [.str rd.1])) := Same.new hp
          refine cat_dp (ds := row.map .str) (es := [rd.1].map .str) (.tup ((u4.trans tp).seqT hr1) (DpAll.ofStrs row)) (.tup (xs := [.str rd.1]) (SqT.at upd_same) (DpAll.ofStrs [rd.1])) (by rw [List.length_map, List.length_map, hsub.2.1]; show i + 1 ≤ 100000; omega) fun v5 H5 s5 hd5 => ?_
          rw [← List.map_append] at hd5
          exact k1 v5 H5 _ (tp.trans s5) rfl (dp_sameT (sameT_wo (s5 _ _ (tp _ _ hD4))) hd5 (tup_strsT (row ++ [rd.1])))
        · have c : ¬ rd.1 ∉ row := fun z => c (by rw [decide_eq_false z]; rfl)
          exact k0 H4 (Same.refl _) (if_neg c)
      · intro H4 ys4 u4 hy4 hda4
        rw [filterMap_if (fun rd : Road => rd.1 ∉ row) (fun rd => strsT (row ++ [rd.1]))] at hda4
        have e4 : (W.R.filter fun r => decide (r.1 ∉ row)).map (fun rd => strsT (row ++ [rd.1])) = ((W.names.filter fun x => decide (x ∉ row)).map fun x => row ++ [x]).map strsT := by
          rw [List.map_map]
          unfold Web.names
          rw [← filter_names W.R (fun x => decide (x ∉ row)), List.map_map]
          rfl
        rw [e4] at hda4
        have hM4 := u4 _ _ hM3
        have nDM : D ≠ M := (ne_of_none hM3 hD).symm
        have st : rotasK W.names i ≠ [] ∨ True := .inr trivial
        have et : stepR W.names ((rotasK W.names i).take (j + 1)) = stepR W.names ((rotasK W.names i).take j) ++ (W.names.filter fun x => decide (x ∉ row)).map fun x => row ++ [x] := by
          rw [List.take_add_one, hrow]; exact stepR_snoc _ _ _
        have hlen : zs.length + ys4.length ≤ 46656 * 6 := by
          have h1 := stepR_len W.names ((rotasK W.names i).take (j + 1))
          rw [et, List.length_append] at h1
          have h2 := few i (by omega)
          have h3 : ((rotasK W.names i).take (j + 1)).length ≤ 46656 := by rw [List.length_take]; omega
          have h4 := Nat.mul_le_mul h3 (show W.names.length ≤ 6 by omega)
          have h5 : ys4.length = ((W.names.filter fun x => decide (x ∉ row)).map fun x => row ++ [x]).length := by rw [hda4.length, List.length_map]
          have h6 : zs.length = (stepR W.names ((rotasK W.names i).take j)).length := by rw [hdz.length, List.length_map]
          omega
        have tT := sameT_updL (o := .lst (zs ++ ys4)) hM4
        refine ⟨M, D, zs, ys4, rfl, rfl, hM4, hy4, Nat.le_trans hlen (by decide), ?_⟩
        refine ⟨zs ++ ys4, _, rfl, (s3.trans u4).over nM, (sT.trans (R.Same.sameT u4)).trans tT, by rw [upd_ne nGM]; exact u4 _ _ hG3, upd_same, ?_⟩
        rw [et, List.map_append]
        exact (dpAll_sameT tT (hdz.mono u4) (tup_rows _)).append (dpAll_sameT tT (hda4.mono wo_same) (tup_rows _))
    · rintro σ H3 ⟨zs, y4, rfl, s3, sT, hG3, hM3, hdz⟩
      rw [yl, List.take_length] at hdz
      exact ⟨_, rfl, M, zs, _, _, _, rfl, s3, nM, hM3, hdz⟩
  · rintro σ H' ⟨G, ys, y2, y3, y4, rfl, s1, nG, hG, hda⟩
    rw [rsl] at hda
    exact ⟨_, rfl, q H' G s1 nG (.lst (SqL.at hG) hda)⟩
end
end R
set_option maxHeartbeats 4000000
namespace R
open PySem PySem.Spec PyProof.Rows L2
/-- the road named nm ends at p -/
def atEndB (W : Web) (p nm : Str) : Bool := W.R.any fun r => decide (r.1 = nm) && decide (inc p r)
theorem atEnd_eq {W : Web} (hw : Wf W) {r : Road} (hr : r ∈ W.R) (p : Str) : atEndB W p r.1 = decide (inc p r) := by
  unfold atEndB
  by_cases h : inc p r
  · rw [decide_eq_true h, List.any_eq_true]
    exact ⟨r, hr, by rw [decide_eq_true rfl, decide_eq_true h]; rfl⟩
  · rw [decide_eq_false h, List.any_eq_false]
    intro s hs k
    rw [Bool.and_eq_true, decide_eq_true_eq, decide_eq_true_eq] at k
    have := name_inj hw hs hr k.1
    subst this
    exact h k.2
def ordL (W : Web) (rt : List Str) : List (List Str) := W.P.map fun p => rt.filter (atEndB W p)
def ordD (W : Web) (rt : List Str) : PyData := .tuple ((ordL W rt).map strsT)
theorem ends_tup : ∀ l : List Road, tupOnly.tupAll (l.map endsD) = true
  | [] => rfl
  | r :: l => by rw [List.map_cons, tupOnly.tupAll, ends_tup l, Bool.and_true]; exact tup_strsT _
section
variable {P : Program} {w : World} {K : PySem.W.Frag} {mg : Str → Option Value} {base : Heap}
theorem road_cut {H : Hp} {v : V} {r : Road} {Q : VK} (h : Dp K H v (roadD r)) (q : ∀ v' H', Same H H' → Dp K H' v' (endsD r) → Q v' H') : rSlA K v (some 1) none H Q :=
  sl_dp (ds := [.str r.1, .str r.2.1, .str r.2.2]) h fun v' H' s hd => q v' H' s hd
def sp_law_orders (K : PySem.W.Frag) : Sp := fun vs H Q _ => ∃ v u W rt, vs = [v, u] ∧ WebAt K H v W ∧ Wf W ∧ RotaOf W rt ∧ Dp K H u (strsT rt) ∧ ∀ H' v', Same H H' → Dp K H' v' (ordD W rt) → Q v' H'
theorem ok_law_orders (F : DefAt K mg "_law_orders" s_law_orders ["_law_web", "_law_rota"]) (B : Blt mg) : Ok P w K mg base CX0 1 "_law_orders" ["_law_web", "_law_rota"] (sp_law_orders K) := by
  refine ok_of F sc_law_orders (fun vs H Q E h => by obtain ⟨_, _, _, _, rfl, _⟩ := h; rfl) fun f cdv A outer s H vs Q E hr h => ?_
  obtain ⟨v, u, W, rt, rfl, hv, hw, hRo, hu, q⟩ := h
  refine ⟨_, (ass_cons (as_set (i := 2) sc_law_orders.nd rfl (Or.inr rfl) (ae_callTy (dictP K rfl) (by rfl) B.dict_ (by decide +kernel) (aa_cons (pe_lc (own := [("_law_road", 3)]) (g := (gName 3)) (tt := tYes) rfl sc_law_orders.nd (piT K (ae_ix (ixT K) (av 0) ae_int (fun _ _ => rfl))) (blkOk_by (own := [("_law_road", 3)]) (N := n_law_orders) (sc := (defScope s_law_orders)) (by decide +kernel)) (fun _ _ _ _ _ => (pg_name (i := 3) sc_law_orders.nd rfl (Or.inl rfl))) (fun _ _ _ _ _ => pts_nil) (fun _ _ _ _ _ => (ae_tup (aa_cons (ae_ix (ixT K) (av 3) ae_int (fun _ _ => rfl)) (aa_cons (ae_slice (slT K) (av 3) (ao_some ae_int) poN) aa_nil))))) aa_nil)))
    (pss_one (as_ret (ae_callTy (tupOf K) (by rfl) B.tuple_ (by decide +kernel) (aa_cons (pe_lc (own := [("_law_place", 4)]) (g := (gName 4)) (tt := tYes) rfl sc_law_orders.nd (piT K (ae_ix (ixT K) (av 0) ae_int (fun _ _ => rfl))) (blkOk_by (own := [("_law_place", 4)]) (N := n_law_orders) (sc := (defScope s_law_orders)) (by decide +kernel)) (fun _ _ _ _ _ => (pg_name (i := 4) sc_law_orders.nd rfl (Or.inr rfl))) (fun _ _ _ _ _ => pts_nil) (fun _ _ _ _ _ => (ae_callTy (tupOf K) (by rfl) B.tuple_ (by decide +kernel) (aa_cons (pe_lc (own := [("_law_road", 3)]) (g := (gName 3)) rfl sc_law_orders.nd (piT K (av 1)) (blkOk_by (own := [("_law_road", 3)]) (N := n_law_orders) (sc := _) (by rfl)) (fun _ _ _ _ _ => (pg_name (i := 3) sc_law_orders.nd rfl (Or.inl rfl))) (fun _ _ _ _ _ => (pts_one (at_cmpR (inS K) (av 4) (ae_dget (hu_of hr) (av 2) (av 3) (fun _ _ => rfl)) (by rfl)))) (fun _ _ _ _ _ => (av 3))) aa_nil)))) aa_nil))))), ?_⟩
  obtain ⟨a, pp, r, rs, rfl, hA, hP, hR, hrs⟩ := hv.parts
  obtain ⟨ru, rus, rfl, hru, hrus⟩ := hu.tupI
  rw [hrus.strs] at hru
  obtain ⟨rds, erd, m1, m2⟩ := hRo.roads hw
  have pl := hv.pl
  have rl := hv.rl
  have rtl : rt.length ≤ 100 := by rw [hRo.len]; exact rl
  have rsl : rs.length = W.R.length := by rw [hrs.length, List.length_map]
  -- ends
  refine ⟨_, rfl, a, _, _, _, rfl, rfl, hA, ix1, r, rfl, ⟨_, hR⟩, fun D hD => ?_⟩
  refine lc_tupD (K := K) (a := r) (xs := rs) (W.R.map fun r => .tuple [.str r.1, endsD r]) hD hR (by rw [rsl, List.length_map]) (by omega) ?_ ?_
  · intro i x e H2 acc Q2 s1 hD2 hx he k
    obtain ⟨rd, e1, rfl⟩ := at_map he
    have hdx := (hrs.both hx (map_at e1)).mono s1
    obtain ⟨b, rfl, hb⟩ := road_parts hdx
    refine ⟨rfl, _, rfl, b, _, _, _, rfl, rfl, hb, ix0, _, rfl, _, rfl, ?_⟩
    refine road_cut hdx fun v3 H3 s3 hd3 => ?_
    refine ⟨by show 2 ≤ sizeLine; decide, fun p hp => ?_⟩
    have t1 : Same H3 (upd H3 p (.tup [.str rd.1, v3])) := Same.new hp
    refine k _ _ (s3.trans t1) ?_
    have nD : p ≠ D := (ne_of_none (s3 _ _ hD2) hp).symm
    exact .tup (xs := [.str rd.1, v3]) (SqT.at (by rw [wo_ne nD, upd_same])) (.cons (.str _) (.cons (dp_sameT (sameT_wo (t1 _ _ (s3 _ _ hD2))) (hd3.mono t1) (tup_strsT _)) .nil))
  intro H1 ys s1 hy hda
  have ezz : ((W.names.zip (W.R.map endsD)).map fun p : Str × PyData => PyData.tuple [.str p.1, p.2]) = W.R.map fun r => .tuple [.str r.1, endsD r] := by
    unfold Web.names
    rw [zip_maps, List.map_map]; rfl
  refine dict_dp hy (by rw [ezz]; exact hda) (by unfold Web.names; rw [List.length_map, List.length_map]) hw.nn (ends_tup W.R) fun De vs hDe hvs => ?_
  have s2 : Same H1 (upd H1 De (.dK (kvF (fun v : V => v) (W.names.zip vs)))) := Same.new hDe
  have gDe : upd H1 De (.dK (kvF (fun v : V => v) (W.names.zip vs))) De = some (.dK (kvF (fun v : V => v) (W.names.zip vs))) := upd_same
  have s12 := s1.trans s2
  have pr : ∀ {H : Hp} {l : List Road} {vs : List V}, DpAll K H vs (l.map endsD) → Paired (fun r v => Dp K H v (endsD r)) l vs := by
    intro H l
    induction l with
    | nil => intro vs h; cases h; exact .nil
    | cons r l ih => intro vs h; cases h with | cons h1 h2 => exact .cons h1 (ih h2)
  have endsAt : ∀ rd ∈ W.R, ∃ v, lk (W.names.zip vs) rd.1 = some v ∧ Dp K (upd H1 De (.dK (kvF (fun v : V => v) (W.names.zip vs)))) v (endsD rd) := fun rd hm => by
    obtain ⟨v, h1, h2⟩ := zip_lk (key := fun r : Road => r.1) (R := fun r v => Dp K (wo (upd H1 De (.dK (kvF (fun v : V => v) (W.names.zip vs)))) De) v (endsD r)) hw.nn (pr hvs) hm
    exact ⟨v, h1, h2.mono wo_same⟩
  generalize upd H1 De (.dK (kvF (fun v : V => v) (W.names.zip vs))) = H2 at s2 gDe s12 endsAt
  clear hvs hy hda
  -- the orders
  refine ⟨_, rfl, a, _, _, _, rfl, rfl, s12.seqT hA, ix0, pp, rfl, ⟨_, s12.seqT hP⟩, fun D2 hD2 => ?_⟩
  refine lc_tupD (K := K) (a := pp) (xs := W.P.map V.str) ((ordL W rt).map strsT) hD2 (s12.seqT hP) (by unfold ordL; simp) (by rw [List.length_map]; omega) ?_ ?_
  · intro i x e H3 acc Q2 s3 hD3 hx he k
    obtain ⟨p, hp, rfl⟩ := at_map hx
    obtain ⟨o, ho, rfl⟩ := at_map he
    unfold ordL at ho
    rw [map_at hp] at ho
    cases ho
    have s13 := s12.trans s3
    refine ⟨rfl, ?_⟩
    refine ⟨_, rfl, ru, rfl, ⟨_, s13.seqT hru⟩, fun D4 hD4 => ?_⟩
    refine lc_tupF (K := K) (a := ru) (xs := rt.map V.str) (rt.map fun nm => if atEndB W p nm = true then some (.str nm) else none) hD4 (s13.seqT hru) (by simp) (by rw [List.length_map]; omega) ?_ ?_
    · intro j x0 e0 H5 acc5 Q5 Q0 u5 hD5 hx5 he5 k1 k0
      obtain ⟨nm, hnm, rfl⟩ := at_map hx5
      rw [map_at hnm] at he5
      cases he5
      obtain ⟨rd, hrd, rfl⟩ := at_map (erd ▸ hnm)
      have hm := m1 rd (mem_at hrd)
      obtain ⟨v2, hv1, hv2⟩ := endsAt rd hm
      have dg := dgetF (g := fun v : V => v) (x := rd.1) (u5 _ _ (s3 _ _ gDe))
      rw [hv1] at dg
      obtain ⟨nb, rfl, hnb⟩ := ends_parts (hv2.mono (s3.trans u5))
      refine ⟨rfl, _, rfl, _, rfl, _, rfl, De, _, rfl, dg, nb, _, rfl, .inr hnb, rfl, flat_strs [rd.2.1, rd.2.2], _, rfl, ?_⟩
      show if (inV (.str p) ([rd.2.1, rd.2.2].map V.str)) = true then _ else _
      rw [inV_str, inc_dec, ← atEnd_eq hw hm p]
      refine ite2 (fun c => ?_) (fun c => ?_)
      · rw [if_pos c] at k1
        exact ⟨_, rfl, k1 _ H5 _ (Same.refl _) rfl (.str _)⟩
      · exact k0 H5 (Same.refl _) (if_neg c)
    · intro H5 ys5 u5 hy5 hda5
      rw [filterMap_if (fun nm => atEndB W p nm = true) PyData.str] at hda5
      have ef : (rt.filter fun r => decide (atEndB W p r = true)) = rt.filter (atEndB W p) := by
        refine List.filter_congr fun x _ => ?_
        cases atEndB W p x <;> rfl
      rw [ef] at hda5
      refine tup_dp (dp_list hy5 hda5) fun v6 H6 s6 hd6 => ?_
      exact k _ _ (u5.trans s6) (dp_sameT (sameT_wo (s6 _ _ (u5 _ _ hD3))) hd6 (tup_strsT _))
  · exact fun H3 ys3 s3 hy3 hda3 => tup_dp (dp_list hy3 hda3) fun v6 H6 s6 hd6 => q _ _ ((s12.trans s3).trans s6) hd6
end
end R
set_option maxHeartbeats 4000000
/-! a dict whose keys are tuples of tuples of texts, whose values are tuples -/
namespace R
open PySem PySem.Spec PyProof.Rows L2
abbrev LK := List (List Str)
def nkey (L : LK) : NestedKey := .tup (L.map fun l => .tup (l.map .text))
theorem texts_inj : ∀ {l m : List Str}, l.map NestedKey.text = m.map NestedKey.text → l = m
  | [], [], _ => rfl
  | [], _ :: _, e => by simp at e
  | _ :: _, [], e => by simp at e
  | x :: l, y :: m, e => by
    rw [List.map_cons, List.map_cons] at e
    injection e with e1 e2
    injection e1 with e1
    rw [e1, texts_inj e2]
theorem rows_inj : ∀ {L M : LK}, (L.map fun l => NestedKey.tup (l.map .text)) = (M.map fun l => NestedKey.tup (l.map .text)) → L = M
  | [], [], _ => rfl
  | [], _ :: _, e => by simp at e
  | _ :: _, [], e => by simp at e
  | x :: l, y :: m, e => by
    rw [List.map_cons, List.map_cons] at e
    injection e with e1 e2
    injection e1 with e1
    rw [texts_inj e1, rows_inj e2]
theorem nkey_inj {L M : LK} (h : nkey L = nkey M) : L = M := by
  unfold nkey at h
  injection h with h
  exact rows_inj h
theorem depth_texts : ∀ l : List Str, NestedKey.depthAll (l.map NestedKey.text) = 0
  | [] => rfl
  | x :: l => by
    show max 0 (NestedKey.depthAll (l.map NestedKey.text)) = 0
    rw [depth_texts l]; rfl
theorem depth_rows : ∀ L : LK, NestedKey.depthAll (L.map fun l => NestedKey.tup (l.map .text)) ≤ 1
  | [] => Nat.zero_le _
  | x :: l => by
    show max (NestedKey.depthAll (x.map NestedKey.text) + 1) _ ≤ 1
    have := depth_rows l
    rw [depth_texts x]
    omega
theorem depth_nkey (L : LK) : (nkey L).depth ≤ 8 := by
  show NestedKey.depthAll _ + 1 ≤ 8
  have := depth_rows L
  omega
abbrev keyD (L : LK) : PyData := .tuple (L.map strsT)
abbrev NX := List (LK × Addr × Addr)
def nx (xs : NX) : List (NestedKey × Addr × Value) := xs.map fun x => (nkey x.1, x.2.1, .ref x.2.2)
def atL (xs : NX) (L : LK) : Option (Addr × Addr) := (xs.find? fun x => decide (x.1 = L)).map (·.2)
theorem atKey_nx (L : LK) : ∀ xs : NX, atKey (nx xs) (nkey L) = (atL xs L).map fun p => (p.1, Value.ref p.2)
  | [] => rfl
  | x :: xs => by
    have ih := atKey_nx L xs
    unfold atKey nx atL at ih ⊢
    rw [List.map_cons, List.find?_cons, List.find?_cons]
    by_cases e : x.1 = L
    · rw [decide_eq_true e, decide_eq_true (show nkey x.1 = nkey L by rw [e])]; rfl
    · rw [decide_eq_false e, decide_eq_false (show ¬ nkey x.1 = nkey L from fun z => e (nkey_inj z))]
      exact ih
theorem atL_none {xs : NX} {L : LK} : atL xs L = none ↔ ∀ x ∈ xs, x.1 ≠ L := by
  unfold atL
  rw [Option.map_eq_none_iff, List.find?_eq_none]
  simp
theorem atL_of {xs : NX} {x : LK × Addr × Addr} (nd : (xs.map (·.1)).Nodup) (h : x ∈ xs) : atL xs x.1 = some x.2 := by
  induction xs with
  | nil => cases h
  | cons y xs ih =>
    rw [List.map_cons, List.nodup_cons] at nd
    unfold atL
    rw [List.find?_cons]
    rcases List.mem_cons.mp h with rfl | h
    · rw [decide_eq_true rfl]; rfl
    · have : ¬ y.1 = x.1 := fun e => nd.1 (by rw [e]; exact List.mem_map.mpr ⟨x, h, rfl⟩)
      rw [decide_eq_false this]
      exact ih nd.2 h
theorem nx_len (xs : NX) : (nx xs).length = xs.length := by unfold nx; rw [List.length_map]
theorem nx_snoc (xs : NX) (L : LK) (q v : Addr) : nx (xs ++ [(L, q, v)]) = nx xs ++ [(nkey L, q, .ref v)] := by unfold nx; rw [List.map_append]; rfl
/-- such a dict at a, of the epoch ep -/
def DN (P : Program) (w : World) (a : Addr) (ep : Nat) (xs : NX) : HO := .ext fun h => (a == sysModules) = false ∧ ∃ o es, h.get? a = some o ∧ o.ExactDict ∧ o.data = .dict es ep ∧ es.toList = (nx xs).map (entryOfKey (nestedKind P w)) ∧ ((nx xs).map (·.1)).Nodup
/-- the keys' tuples stand -/
def Keys (K : PySem.W.Frag) (H : Hp) (xs : NX) : Prop := ∀ x ∈ xs, Dp K H (.ref x.2.1) (keyD x.1)
section
variable {X : Cx} {pins : List (Addr × Obj)} {σ : L2.St} {H : Hp} {s : Shared}
theorem nest_texts {h : Heap} : ∀ {l : List Str} {us : List Value}, Vals (l.map V.str) us → NestedAll h (l.map .text) us
  | [], _, r => by cases r; exact .nil
  | x :: l, _, r => by
    cases r with
    | cons a b =>
      obtain ⟨t, rfl⟩ := a
      exact .cons (.text _ _) (nest_texts b)
theorem nest_row (I : Inv X pins σ H s) {v : V} {u : Value} {l : List Str} (h : Dp X.K H v (strsT l)) (r : RelV v u) : NestedIs s.heap (.tup (l.map .text)) u := by
  obtain ⟨a, xs, rfl, h1, h2⟩ := h.tupI
  rw [h2.strs] at h1
  cases (show u = Value.ref a from r)
  obtain ⟨its, rv, ⟨o, ho, hc, n, hd⟩, _⟩ := I.tuple h1
  exact .tup ho hc hd (nest_texts rv)
theorem nest_rows (I : Inv X pins σ H s) : ∀ {L : LK} {vs : List V} {us : List Value}, DpAll X.K H vs (L.map strsT) → Vals vs us → NestedAll s.heap (L.map fun l => .tup (l.map .text)) us
  | [], _, _, h, r => by cases h; cases r; exact .nil
  | l :: L, _, _, h, r => by
    cases h with
    | cons a b => cases r with
      | cons c d => exact .cons (nest_row I a c) (nest_rows I b d)
theorem nest_key (I : Inv X pins σ H s) {a : Addr} {L : LK} (h : Dp X.K H (.ref a) (keyD L)) : (nestedKind X.prog X.w).is s.heap (nkey L) a := by
  obtain ⟨b, xs, e, h1, h2⟩ := h.tupI
  cases e
  obtain ⟨its, rv, ⟨o, ho, hc, n, hd⟩, _⟩ := I.tuple h1
  exact ⟨.tup ho hc hd (nest_rows I h2 rv), depth_nkey L⟩
theorem dn_of (I : Inv X pins σ H s) {a : Addr} {ep : Nat} {xs : NX} (e : H a = some (DN X.prog X.w a ep xs)) (k : Keys X.K H xs) : (a == sysModules) = false ∧ s.heap.DictOfH (nestedKind X.prog X.w) a (nx xs) := by
  obtain ⟨⟨hs, o, es, ho, hc, hd, he, hn⟩, _, _⟩ := I.hok a _ e
  refine ⟨hs, o, es, ep, ho, hc, hd, he, fun x hx => ?_, hn⟩
  obtain ⟨y, hy, rfl⟩ := List.mem_map.mp hx
  exact nest_key I (k y hy)
theorem dn_new {P : Program} {w : World} {H' : Hp} {h : Heap} {a : Addr} {ep : Nat} {xs : NX} {o : Obj} {es : Array DictEntry} (hs : (a == sysModules) = false) (ho : h.get? a = some o) (hc : o.ExactDict) (hd : o.data = .dict es ep) (he : es.toList = (nx xs).map (entryOfKey (nestedKind P w))) (hn : ((nx xs).map (·.1)).Nodup) : ObjOk P w H' h a (DN P w a ep xs) :=
  ⟨⟨hs, o, es, ho, hc, hd, he, hn⟩, ⟨o, ho⟩, fun _ _ ⟨q, o', es', h1, h2⟩ k => ⟨q, o', es', k _ h1, h2⟩⟩
theorem nd_of_map {α β : Type} {f : α → β} : ∀ {l : List α}, (l.map f).Nodup → l.Nodup
  | [], _ => List.nodup_nil
  | x :: l, h => by
    rw [List.map_cons, List.nodup_cons] at h
    exact List.nodup_cons.mpr ⟨fun k => h.1 (List.mem_map.mpr ⟨x, k, rfl⟩), nd_of_map h.2⟩
theorem dn_nd (I : Inv X pins σ H s) {a : Addr} {ep : Nat} {xs : NX} (e : H a = some (DN X.prog X.w a ep xs)) : (xs.map (·.1)).Nodup := by
  obtain ⟨⟨_, o, es, _, _, _, _, hn⟩, _, _⟩ := I.hok a _ e
  have : (nx xs).map (·.1) = (xs.map (·.1)).map nkey := by unfold nx; rw [List.map_map, List.map_map]; rfl
  rw [this] at hn
  exact nd_of_map hn
end
/-! ### the rules -/
abbrev aDNew (P : Program) (w : World) : L2.TE := fun _ H Q => ∀ p, H p = none → Q (.ref p) (upd H p (DN P w p 0 []))
theorem pe_dnewN {X : Cx} {pos : Pos} : PE X (.Dict [] [] pos) (aDNew X.prog X.w) := ⟨fun pins s σ H Q I h =>
  wpAny_Dict_empty ⟨.ref s.heap.objs.size, _, I.laid (a := s.heap.objs.size) (o := DN X.prog X.w s.heap.objs.size 0 []) (t' := s.toks) (fun _ _ q => Heap.get?_push_of_some _ q) (Nat.le_refl _)
    (dn_new (beq_eq_false_iff_ne.mpr (Ne.symm (Nat.ne_of_lt I.big))) (Heap.get?_push_size _ rfl) ⟨rfl, rfl, rfl⟩ rfl rfl List.nodup_nil), rfl, h _ (I.hok.fresh (Nat.le_refl _))⟩⟩
abbrev aNSetd (P : Program) (w : World) (K : PySem.W.Frag) (td ty tx : L2.TE) : L2.TE := fun σ H Q => td σ H fun x H1 => ∃ a ep0 xs0, x = .ref a ∧ H1 a = some (DN P w a ep0 xs0) ∧ ty σ H1 fun y H2 => tx σ H2 fun z H3 => ∃ ep xs kd zb L, H3 a = some (DN P w a ep xs) ∧ y = .ref kd ∧ z = .ref zb ∧ Dp K H3 (.ref kd) (keyD L) ∧ Keys K H3 xs ∧ xs.length < sizeLine ∧
  (∀ p, atL xs L = some p → Q (.ref p.2) H3) ∧ (atL xs L = none → ∀ ep', Q z (upd H3 a (DN P w a ep' (xs ++ [(L, kd, zb)]))))
theorem pe_nsetd {X : Cx} {k : Nat} {o e f : Expr} {td ty tx : L2.TE} {apos cpos : Pos} (hr : Room k X.A) (ho : PE X o td) (he : PE X e ty) (hf : PE X f tx) (m : M2 X o "setdefault" apos e f cpos) : PE X (.Call (.Attribute o "setdefault" apos) [e, f] [] cpos) (aNSetd X.prog X.w X.K td ty tx) := by
  refine ⟨fun pins s σ H Q I h => ?_⟩
  refine wpAny_Call_method m.base m.few m.line PySem.F.plainAttrs_dict PySem.F.slot_dict_setdefault PySem.F.type_dict_setdefault (thn (ho.run pins s σ H _ I h) fun u s1 ⟨x, H1, I1, rx, a, ep0, xs0, ex, d, q1⟩ => ?_)
  subst ex
  obtain rfl : u = Value.ref a := rx
  obtain ⟨⟨_, o0, es0, ho0, hc0, _⟩, _, _⟩ := I1.hok a _ d
  refine ⟨⟨o0, ho0, hc0.1⟩, fun b q => ?_, ?_⟩
  · cases q
    exact ⟨o0, ho0, hc0.2.1⟩
  rw [m.trees]
  refine Calls.callWith_builtin rfl (Calls.evalArgs_plain (Calls.spliced_cons (thn (he.run pins s1 σ H1 _ I1 q1) fun iv s2 ⟨y, H2, I2, ry, q2⟩ =>
    Calls.spliced_cons (thn (hf.run pins s2 σ H2 _ I2 q2) fun fv s3 ⟨z, H3, I3, rz, ep, xs, kd, zb, L, ea, ey, ez, hk, ks, hl, q3, q4⟩ => Calls.spliced_nil ?_))))
  subst ey
  subst ez
  obtain rfl : iv = Value.ref kd := ry
  obtain rfl : fv = Value.ref zb := rz
  obtain ⟨hs, hm⟩ := dn_of I3 ea ks
  have ru : (nestedKind X.prog X.w).room X.A.in1 := by
    show X.A.in1.units + 8 < cLine
    have := hr.un
    rw [Around.in1_units]
    omega
  refine call_setdefault_heap (hsz := by rw [nx_len]; omega) ru (nest_key I3 hk) hs hm (fun p hp => ?_) fun hn h' hm' sb => ?_
  · rw [atKey_nx] at hp
    obtain ⟨p', h1, h2⟩ := Option.map_eq_some_iff.mp hp
    subst h2
    exact ⟨.ref p'.2, H3, I3.tok _, rfl, q3 p' h1⟩
  · have hn' := hn
    rw [atKey_nx, Option.map_eq_none_iff] at hn'
    rw [storedH_new hn, ← nx_snoc] at hm'
    obtain ⟨o', es', ep', h1, h2, h3, h4, _, h6⟩ := hm'
    exact ⟨.ref zb, _, d_write I3 (by rw [ea]; exact True.intro) sb ⟨o', h1⟩ (dn_new hs h1 h2 h3 h4 h6), rfl, q4 hn' ep'⟩
abbrev aNGet (P : Program) (w : World) (K : PySem.W.Frag) (td ty : L2.TE) : L2.TE := fun σ H Q => td σ H fun x H1 => ty σ H1 fun y H2 => ∃ a ep xs kd L p, x = .ref a ∧ H2 a = some (DN P w a ep xs) ∧ y = .ref kd ∧ Dp K H2 (.ref kd) (keyD L) ∧ Keys K H2 xs ∧ atL xs L = some p ∧ Q (.ref p.2) H2
theorem pe_nget {X : Cx} {k : Nat} (P : Program) (w : World) (K : PySem.W.Frag) {o i : Expr} {td ty : L2.TE} {pos : Pos} (hr : Room k X.A) (ho : PE X o td) (hi : PE X i ty) (hs : NoSl i) (hP : X.prog = P := by rfl) (hw : X.w = w := by rfl) (hK : X.K = K := by rfl) : PE X (.Subscript o i pos) (aNGet P w K td ty) := by
  subst hP hw hK
  refine ⟨fun pins s σ H Q I h => ?_⟩
  refine subD_of PySem.F.slot_dict_getitem.lookup hs (thn (ho.run pins s σ H _ I h) fun u s1 ⟨x, H1, I1, rx, q1⟩ => thn (hi.run pins s1 σ H1 _ I1 q1) fun iv s2 ⟨y, H2, I2, ry, a, ep, xs, kd, L, p, ex, ea, ey, hk, ks, hl, q2⟩ => ?_)
  subst ex
  subst ey
  obtain rfl : u = Value.ref a := rx
  obtain rfl : iv = Value.ref kd := ry
  obtain ⟨_, hm⟩ := dn_of I2 ea ks
  have ru : (nestedKind X.prog X.w).room X.A.in1 := by
    show X.A.in1.units + 8 < cLine
    have := hr.un
    rw [Around.in1_units]
    omega
  refine ⟨hm.typeIs, wpAny_getItem_heap ru (nest_key I2 hk) hm (p := (p.1, .ref p.2)) (by rw [atKey_nx, hl]; rfl) ⟨.ref p.2, H2, I2.tok _, rfl, q2⟩⟩
/-! ### for k in d -/
def ItN (P : Program) (w : World) (d : Addr) (ep : Nat) (xs : NX) : It :=
  ⟨fun i H => H d = some (DN P w d ep xs) ∧ i < xs.length, fun i H x H' => H' = H ∧ ∃ L q v, xs[i]? = some (L, q, v) ∧ x = .ref q, fun i H => H d = some (DN P w d ep xs) ∧ xs.length ≤ i⟩
theorem turn_nkeys {P : Program} {w : World} {K : PySem.W.Frag} {tg : Expr} {d : Addr} {ep : Nat} {xs : NX} (it : Addr) : Turn P w K tg (ItN P w d ep xs) [it] it (fun i h => h.IsKeyIter it d i xs.length ep) where
  mem := by simp
  obj := fun i h st b hb => by
    have e : b = it := by simpa using hb
    subst e
    obtain ⟨oi, e, c, dd⟩ := st
    exact ⟨oi, e, fun v z => by rw [dd] at z; cases z⟩
  keep := fun i h h' st k => st.at fun oi e => k it (by simp) oi e
  item := by
    intro X hP hw hK hc i pins s σ H E I hf st hg
    subst hP hw hK
    obtain ⟨hd, hi⟩ := hg
    obtain ⟨f0, f1, f2, f3, f4, f5⟩ := hf it (by simp)
    obtain ⟨⟨_, o, es, ho, _, hdt, he, _⟩, _, _⟩ := I.hok d _ hd
    obtain ⟨⟨L, q, v⟩, hkv⟩ : ∃ p, xs[i]? = some p := ⟨xs[i], List.getElem?_eq_getElem hi⟩
    have hen := entry_at he i
    have hx : (nx xs)[i]? = some (nkey L, q, .ref v) := by unfold nx; rw [List.getElem?_map, hkv]; rfl
    rw [hx] at hen
    refine next_key_item st ho hdt (by rw [size_of_entries he, nx_len]) hen fun h' st' sb => ?_
    have I1 : Inv X pins σ H { s with heap := h' } := I.turned (t' := s.toks) (fun b ob hb e => (sb.2 b hb).trans e) f0 f1 f3 f4 f5
    obtain ⟨oi, e, c, dd⟩ := id st'
    exact ⟨_, rfl, go_of (s := { s with heap := h' }) e c dd (by decide) ⟨.ref q, H, I1, rfl, ⟨rfl, L, q, v, hkv, rfl⟩, st', fun b hb => (hf b hb).1⟩⟩
  done := by
    intro X hP hw hK hc i pins s σ H E I hf st hg
    subst hP hw hK
    obtain ⟨hd, hi⟩ := hg
    obtain ⟨f0, f1, f2, f3, f4, f5⟩ := hf it (by simp)
    obtain ⟨⟨_, o, es, ho, _, hdt, he, _⟩, _, _⟩ := I.hok d _ hd
    exact next_key_end (I.ok.hd hc) st ho hdt (by rw [size_of_entries he, nx_len]) hi fun h' eb => ⟨rfl, I.turned (t' := s.toks) (fun b ob hb e => eb b ob hb e) f0 f1 f3 f4 f5⟩
  self := fun A i s Q E st h => by
    refine wpAny_pyIter_slot st.typeIs F.slot_dict_keyiterator_iter (wpAny_call_entry F.slot_dict_keyiterator_iter st.typeIs F.entry_dict_keyiterator_iter ?_ (F.args_dict_keyiterator_iter_1 _))
    show wpAny _ _ (ret (.ref it)) _ _ s
    exact wpAny_pure ⟨_, rfl, "dict_keyiterator", _, st.typeIs, F.slot_dict_keyiterator_next.lookup, h⟩
def iNKeys (P : Program) (w : World) (td : L2.TE) : TI := fun σ H R => td σ H fun x H1 => ∃ d ep xs, x = .ref d ∧ H1 d = some (DN P w d ep xs) ∧ R (ItN P w d ep xs) H1
theorem pi_nkeys {X : Cx} {tg e : Expr} {td : L2.TE} (he : PE X e td) : PI X tg e (iNKeys X.prog X.w td) := by
  refine ⟨fun pins s σ H R I h => ?_⟩
  refine thn (he.run pins s σ H _ I h) fun u s1 ⟨x, H1, I1, rx, d, ep, xs, ex, hd, q⟩ => ?_
  subst ex
  obtain rfl : u = Value.ref d := rx
  obtain ⟨⟨hs, o, es, ho, hc, hdt, hent, _⟩, _, _⟩ := I1.hok d _ hd
  refine iter_keys hs ho hc hdt (pi_one (tk := s1.toks) I1 _ (turn_nkeys _) ⟨_, Heap.get?_push_size _ rfl, rfl, ?_⟩ q)
  rw [size_of_entries hent, nx_len] <;> rfl
theorem walk_nkeys {P : Program} {w : World} {d : Addr} {ep : Nat} {xs : NX} : Walk (ItN P w d ep xs) xs.length (fun H => H d = some (DN P w d ep xs)) (fun i H x H' => H' = H ∧ ∃ L q v, xs[i]? = some (L, q, v) ∧ x = .ref q) :=
  ⟨fun _ _ hi q => ⟨q, hi⟩, fun _ q => ⟨q, Nat.le_refl _⟩, fun _ _ _ _ _ _ y => y⟩
end R
set_option maxHeartbeats 4000000
/-! what the greatest of all days of a rota may be -/
namespace R
open PySem PySem.Spec PyProof.Rows L2
section
variable {W : Web} {d : Str → Str → Nat} {rt : List Str}
theorem Far.one {n m : Nat} {x y a b : Str} (F : Far W d n x y) (G : Far W d m a b) : n = m := by
  have h1 := F.le a G.hx b G.hy
  have h2 := G.le x F.hx y F.hy
  rw [G.eq] at h1
  rw [F.eq] at h2
  omega
/-- the greatest of all days is one of them -/
theorem gr_all (T : TreeD W d) : ∃ x y, x ∈ W.P ∧ y ∈ W.P ∧ greatN (yRows W d rt) = (dy W d rt x y : Nat) ∧ ∀ a ∈ W.P, ∀ b ∈ W.P, dy W d rt a b ≤ dy W d rt x y := great_all (f := dy W d rt) T.pne
theorem gr_ge (T : TreeD W d) {a b : Str} (ha : a ∈ W.P) (hb : b ∈ W.P) : (dy W d rt a b : Int) ≤ greatN (yRows W d rt) := by
  obtain ⟨x, y, _, _, e, h⟩ := gr_all (rt := rt) T
  have := h a ha b hb
  rw [e]
  omega
theorem gr_le (T : TreeD W d) {k : Nat} (h : ∀ a ∈ W.P, ∀ b ∈ W.P, dy W d rt a b ≤ k) : greatN (yRows W d rt) ≤ (k : Nat) := by
  obtain ⟨x, y, hx, hy, e, _⟩ := gr_all (rt := rt) T
  have := h x hx y hy
  rw [e]
  omega
theorem gr_far (T : TreeD W d) {n : Nat} {x y : Str} (F : Far W d n x y) : greatN (yRows W d rt) ≤ (n : Nat) := gr_le T fun a ha b hb => Nat.le_trans (dy_le T ha hb) (F.le a ha b hb)
/-- of some rota it is the greatest distance -/
theorem gr_worst (T : TreeD W d) {n : Nat} {x y : Str} (F : Far W d n x y) : ∃ rt, RotaOf W rt ∧ greatN (yRows W d rt) = (n : Nat) := by
  obtain ⟨rt, hR, e⟩ := worst T F.hx F.hy
  refine ⟨rt, hR, ?_⟩
  have h1 := gr_far (rt := rt) T F
  have h2 := gr_ge (rt := rt) T F.hx F.hy
  rw [e, F.eq] at h2
  omega
theorem two_of (T : TreeD W d) (h : W.P.length ≠ 1) {n : Nat} {x y : Str} (F : Far W d n x y) : x ≠ y := by
  intro e
  subst e
  have z := (T.zero x F.hx x F.hx).mpr rfl
  rw [F.eq] at z
  subst z
  have all : ∀ b ∈ W.P, b = x := fun b hb => by
    have := F.le x F.hx b hb
    exact ((T.zero x F.hx b hb).mp (by omega)).symm
  have nd := T.nd
  have ne := T.pne
  revert nd all h ne
  generalize W.P = P
  intro h all nd ne
  match P, ne with
  | [a], _ => exact h rfl
  | a :: b :: l, _ =>
    have h1 := all a (by simp)
    have h2 := all b (by simp)
    subst h1
    simp [h2] at nd
/-- of none is it less than the least days -/
theorem gr_least (T : TreeD W d) (hR : RotaOf W rt) {n : Nat} {x y : Str} (F : Far W d n x y) : (leastN W n : Int) ≤ greatN (yRows W d rt) := by
  by_cases h : W.P.length = 1
  · have e : leastN W n = 0 := by unfold leastN; rw [if_pos h]
    rw [e]
    have := gr_ge (rt := rt) T F.hx F.hx
    omega
  · have e : leastN W n = n / 2 + 1 := by unfold leastN; rw [if_neg h]
    rw [e]
    have h1 := gr_ge (rt := rt) T F.hx F.hy
    have h2 := gr_ge (rt := rt) T F.hy F.hx
    have h3 := days_least T hR F.hx F.hy (two_of T h F)
    rw [F.eq] at h3
    omega
/-- of the best rota it is the least days -/
theorem gr_best (T : TreeD W d) (G : Far W d (fN W d) (fX W d) (fY W d)) {n : Nat} {x y : Str} (F : Far W d n x y) : RotaOf W (bestR W d) ∧ greatN (yRows W d (bestR W d)) = (leastN W n : Nat) := by
  have ok : RotaOf W (bestR W d) := levRota_ok T.toWf
  refine ⟨ok, ?_⟩
  have h1 := gr_least T ok F
  have e := F.one G
  by_cases h : W.P.length = 1
  · have el : leastN W n = 0 := by unfold leastN; rw [if_pos h]
    rw [el] at h1 ⊢
    have h2 : greatN (yRows W d (bestR W d)) ≤ ((0 : Nat) : Int) := gr_le T fun a ha b hb => by
      obtain ⟨p, hp⟩ := List.length_eq_one_iff.mp h
      rw [hp] at ha hb
      have ea : a = p := by simpa using ha
      have eb : b = p := by simpa using hb
      subst ea
      subst eb
      exact Nat.le_of_eq (dy_self T (by rw [hp]; simp))
    omega
  · have el : leastN W n = n / 2 + 1 := by unfold leastN; rw [if_neg h]
    rw [el] at h1 ⊢
    have h2 : greatN (yRows W d (bestR W d)) ≤ ((fN W d / 2 + 1 : Nat) : Int) := gr_le T fun a ha b hb => level_best T (msOf_mid T G) ha hb
    rw [← e] at h2
    omega
/-- the greatest days of rotas among which every rota has one alike: the least of them and the greatest -/
theorem gr_min (T : TreeD W d) (G : Far W d (fN W d) (fX W d) (fY W d)) {n : Nat} {x y : Str} (F : Far W d n x y) {l : List (List Str)} (hl : ∀ rt ∈ l, RotaOf W rt) (hs : ∀ rt, RotaOf W rt → ∃ rt' ∈ l, ∀ a ∈ W.P, ∀ b ∈ W.P, dy W d rt a b = dy W d rt' a b) :
    ((leastN W n : Nat) : Int) ∈ l.map (fun rt => greatN (yRows W d rt)) ∧ ((n : Nat) : Int) ∈ l.map (fun rt => greatN (yRows W d rt)) ∧ ∀ z ∈ l.map (fun rt => greatN (yRows W d rt)), ((leastN W n : Nat) : Int) ≤ z ∧ z ≤ ((n : Nat) : Int) := by
  have same : ∀ rt, RotaOf W rt → ∃ rt' ∈ l, greatN (yRows W d rt') = greatN (yRows W d rt) := fun rt hR => by
    obtain ⟨rt', h', e⟩ := hs rt hR
    refine ⟨rt', h', ?_⟩
    have : yRows W d rt' = yRows W d rt := by
      unfold yRows yRow
      refine List.map_congr_left fun a ha => List.map_congr_left fun b hb => ?_
      rw [e a ha b hb]
    rw [this]
  refine ⟨?_, ?_, fun z hz => ?_⟩
  · obtain ⟨o, e⟩ := gr_best T G F
    obtain ⟨rt', h', e'⟩ := same _ o
    exact List.mem_map.mpr ⟨rt', h', e'.trans e⟩
  · obtain ⟨rt, o, e⟩ := gr_worst T F
    obtain ⟨rt', h', e'⟩ := same _ o
    exact List.mem_map.mpr ⟨rt', h', e'.trans e⟩
  · obtain ⟨rt, h', rfl⟩ := List.mem_map.mp hz
    exact ⟨gr_least T (hl rt h') F, gr_far T F⟩
/-- rotas of the same orders at every place -/
theorem ord_alike (T : TreeD W d) {rt' : List Str} (hR : RotaOf W rt) (hR' : RotaOf W rt') (h : ordL W rt = ordL W rt') {a b : Str} (ha : a ∈ W.P) (hb : b ∈ W.P) : dy W d rt a b = dy W d rt' a b := by
  refine days_alike (q := atEndB W) T hR hR' (fun r hr y _ i => ?_) (fun y hy => ?_) ha hb
  · rw [atEnd_eq T.toWf hr, decide_eq_true i]
  · exact List.map_inj_left.mp h y hy
end
end R
set_option maxHeartbeats 4000000
namespace R
open PySem PySem.Spec PyProof.Rows L2
theorem sameT_updN {P : Program} {w : World} {H : Hp} {D a : Addr} {ep : Nat} {xs : NX} {o : HO} (h : H D = some (DN P w a ep xs)) : SameT H (upd H D o) :=
  ⟨fun b ys e => by rw [upd_ne (ne_of e h (by intro z; unfold DN at z; cases z))]; exact e, fun b o' u e => by rw [upd_ne (ne_of e h (by intro z; unfold DN at z; cases z))]; exact e⟩
theorem SameB.sameTN {P : Program} {w : World} {D a : Addr} {ep : Nat} {xs : NX} {H H' : Hp} (s : SameB D H H') (h : H D = some (DN P w a ep xs)) : SameT H H' :=
  ⟨fun b ys e => s.get (ne_of e h (by intro z; unfold DN at z; cases z)) e, fun b o u e => s.get (ne_of e h (by intro z; unfold DN at z; cases z)) e⟩
theorem tup_key (L : LK) : tupOnly (keyD L) = true := by
  rw [tupOnly.eq_def]
  exact tup_rows L
theorem Keys.mono {K : PySem.W.Frag} {H H' : Hp} {xs : NX} (h : Keys K H xs) (s : Same H H') : Keys K H' xs := fun x hx => (h x hx).mono s
theorem Keys.sameT {K : PySem.W.Frag} {H H' : Hp} {xs : NX} (h : Keys K H xs) (s : SameT H H') : Keys K H' xs := fun x hx => dp_sameT s (h x hx) (tup_key _)
theorem atL_some {xs : NX} {L : LK} {p : Addr × Addr} (h : atL xs L = some p) : (L, p) ∈ xs := by
  unfold atL at h
  obtain ⟨x, hx, e⟩ := Option.map_eq_some_iff.mp h
  have h1 := List.mem_of_find?_eq_some hx
  have h2 := List.find?_some hx
  have h2 := of_decide_eq_true h2
  rw [← e, ← h2]
  exact h1
/-- what stands of the first i rotas -/
structure Unl (K : PySem.W.Frag) (W : Web) (H : Hp) (xs : NX) (l : List (List Str)) (i : Nat) : Prop where
  nd : (xs.map (·.1)).Nodup
  ks : Keys K H xs
  ln : l.length = xs.length
  le : xs.length ≤ i
  at_ : ∀ (j : Nat) (x : LK × Addr × Addr), xs[j]? = some x → ∃ rt, l[j]? = some rt ∧ x.1 = ordL W rt ∧ Dp K H (.ref x.2.2) (strsT rt)
  ok : ∀ rt ∈ l, RotaOf W rt
theorem Unl.sameT {K : PySem.W.Frag} {W : Web} {H H' : Hp} {xs : NX} {l : List (List Str)} {i j : Nat} (u : Unl K W H xs l i) (s : SameT H H') (hj : i ≤ j) : Unl K W H' xs l j :=
  ⟨u.nd, u.ks.sameT s, u.ln, Nat.le_trans u.le hj, fun k x hx => let ⟨rt, h1, h2, h3⟩ := u.at_ k x hx; ⟨rt, h1, h2, dp_sameT s h3 (tup_strsT rt)⟩, u.ok⟩
theorem Unl.snoc {K : PySem.W.Frag} {W : Web} {H : Hp} {xs : NX} {l : List (List Str)} {i : Nat} {rt : List Str} {kd zb : Addr} (u : Unl K W H xs l i) (hR : RotaOf W rt) (hk : Dp K H (.ref kd) (keyD (ordL W rt))) (hz : Dp K H (.ref zb) (strsT rt)) (hn : atL xs (ordL W rt) = none) : Unl K W H (xs ++ [(ordL W rt, kd, zb)]) (l ++ [rt]) (i + 1) := by
  refine ⟨?_, fun x hx => ?_, by rw [List.length_append, List.length_append, u.ln]; rfl, by rw [List.length_append]; have := u.le; show xs.length + 1 ≤ i + 1; omega, fun j x hx => ?_, fun r hr => ?_⟩
  · rw [List.map_append]
    refine nd_snoc u.nd fun h => ?_
    obtain ⟨x, hx, e⟩ := List.mem_map.mp h
    exact atL_none.mp hn x hx e
  · rcases List.mem_append.mp hx with h | h
    · exact u.ks x h
    · have : x = (ordL W rt, kd, zb) := by simpa using h
      rw [this]; exact hk
  · by_cases hj : j < xs.length
    · rw [List.getElem?_append_left hj] at hx
      obtain ⟨r, h1, h2⟩ := u.at_ j x hx
      exact ⟨r, by rw [List.getElem?_append_left (by rw [u.ln]; exact hj)]; exact h1, h2⟩
    · have hlt := (List.getElem?_eq_some_iff.mp hx).1
      rw [List.length_append] at hlt
      have hlt : j < xs.length + 1 := hlt
      have ej : j = xs.length := by omega
      subst ej
      rw [List.getElem?_append_right (Nat.le_refl _), Nat.sub_self] at hx
      have : x = (ordL W rt, kd, zb) := by simpa using hx.symm
      subst this
      refine ⟨rt, ?_, rfl, hz⟩
      rw [← u.ln, List.getElem?_append_right (Nat.le_refl _), Nat.sub_self]; rfl
  · rcases List.mem_append.mp hr with h | h
    · exact u.ok r h
    · have : r = rt := by simpa using h
      rw [this]; exact hR
variable {P : Program} {w : World} {K : PySem.W.Frag} {mg : Str → Option Value} {base : Heap}
def sp_law_unlike (K : PySem.W.Frag) : Sp := fun vs H Q _ => ∃ v W, vs = [v] ∧ WebAt K H v W ∧ Wf W ∧ W.R.length ≤ 6 ∧ ∀ (H' : Hp) (L : Addr) (l : List (List Str)), Same H H' → H L = none → Dp K H' (.ref L) (.list (l.map strsT)) → l.length ≤ 50000 → (∀ rt ∈ l, RotaOf W rt) → (∀ rt, RotaOf W rt → ∃ rt' ∈ l, ordL W rt = ordL W rt') → Q (.ref L) H'
theorem ok_law_unlike (F : DefAt K mg "_law_unlike" s_law_unlike ["_law_web"]) (G_law_rotas : Ok P w K mg base CX0 1 "_law_rotas" ["_law_web"] (sp_law_rotas K)) (G_law_orders : Ok P w K mg base CX0 1 "_law_orders" ["_law_web", "_law_rota"] (sp_law_orders K)) : Ok P w K mg base CX0 2 "_law_unlike" ["_law_web"] (sp_law_unlike K) := by
  refine ok_of F sc_law_unlike (fun vs H Q E h => by obtain ⟨_, _, rfl, _⟩ := h; rfl) fun f cdv A outer s H vs Q E hr h => ?_
  obtain ⟨v, W, rfl, hv, hw, r6, q⟩ := h
  refine ⟨_, (ass_cons (as_set (i := 1) sc_law_unlike.nd rfl (Or.inr rfl) pe_dnewN)
    (ass_cons (ps_for PassesOwn.never rfl (piL K (ae_co G_law_rotas hr pass0 (aa_cons (av 0) aa_nil))) (pg_name (i := 2) sc_law_unlike.nd rfl (Or.inl rfl))
      (pss_one (as_expr (pe_nsetd hr (av 1) (ae_co G_law_orders hr pass0 (aa_cons (av 0) (aa_cons (av 2) aa_nil))) (av 2) ⟨rfl, rfl, rfl, rfl⟩))))
    (pss_one (as_ret (pe_lc (own := [("_law_orders_here", 3)]) (g := (gName 3)) (tt := tYes) rfl sc_law_unlike.nd (pi_nkeys (av 1)) (blkOk_by (own := [("_law_orders_here", 3)]) (N := n_law_unlike) (sc := (defScope s_law_unlike)) (by decide +kernel)) (fun _ _ _ _ _ => (pg_name (i := 3) sc_law_unlike.nd rfl (Or.inl rfl))) (fun _ _ _ _ _ => pts_nil) (fun _ _ _ _ _ => (pe_nget P w K hr (av 1) (av 3) (fun _ _ => rfl)))))))), ?_⟩
  refine fun D hD => ?_
  have s0 : Same H (upd H D (DN P w D 0 [])) := Same.new hD
  have g0 : upd H D (DN P w D 0 []) D = some (DN P w D 0 []) := upd_same
  show aSeq _ _ _ _ (upd H D (DN P w D 0 []))
  generalize upd H D (DN P w D 0 []) = H1 at s0 g0
  refine ⟨_, rfl, v, W, rfl, hv.mono s0, r6, fun H2 G s1 nG hd => ?_⟩
  obtain ⟨G', ys, e, hG, hda⟩ := hd.lstI
  cases e
  have GD : G ≠ D := (ne_of_none g0 nG).symm
  have g2 := s1 _ _ g0
  have hv2 := hv.mono (s0.trans s1)
  have yl : ys.length = (rotasK W.names W.R.length).length := by rw [hda.length, List.length_map]
  have few : (rotasK W.names W.R.length).length ≤ 46656 := by
    have nl : W.names.length = W.R.length := by unfold Web.names; rw [List.length_map]
    exact Nat.le_trans (rotasK_len _ (by omega) _) (Nat.le_trans (Nat.pow_le_pow_right (by decide) r6) (by decide))
  have hall := fun rt => rotas_all hw rt
  generalize rotasK W.names W.R.length = rots at hda yl few hall
  refine ⟨G, rfl, ⟨_, hG⟩, ?_⟩
  refine for_list (K := K) (a := G) (xs := ys) (fun i σ H' => ∃ (ep : Nat) (xs : NX) (l : List (List Str)) (y2 : Option V), σ = [some v, some (.ref D), y2, none] ∧ SameB D H2 H' ∧ H' D = some (DN P w D ep xs) ∧ Unl K W H' xs l i ∧ ∀ rt ∈ rots.take i, ∃ rt' ∈ l, ordL W rt = ordL W rt')
    ⟨0, [], [], none, rfl, SameB.refl _ _, g2, ⟨List.nodup_nil, fun x hx => (by cases hx), rfl, Nat.le_refl _, fun j x hx => (by simp at hx), fun x hx => (by cases hx)⟩, fun x hx => (by simp at hx)⟩ (fun i σ H' _ h => by obtain ⟨_, _, _, _, _, sb, _⟩ := h; exact sb.sq GD hG) ?_ ?_
  · rintro i x σ H' hx ⟨ep, xs, l, y2, rfl, sb, hD', u, cov⟩
    obtain ⟨e, he, hdx⟩ := hda.get' hx
    obtain ⟨rt, hrt, rfl⟩ := at_map he
    have sT := sb.sameTN g2
    have hR : RotaOf W rt := (hall rt).mp (mem_at hrt)
    have hdx' := dp_sameT sT hdx (tup_strsT rt)
    obtain ⟨zb, zxs, rfl, _, _⟩ := id hdx'.tupI
    have ilen : i < rots.length := (List.getElem?_eq_some_iff.mp hrt).1
    refine ⟨_, rfl, D, ep, xs, rfl, hD', _, rfl, _, rfl, v, .ref zb, W, rt, rfl, hv2.sameT sT, hw, hR, hdx', fun H3 v3 s3 hd3 => ?_⟩
    have hd3 : Dp K H3 v3 (keyD (ordL W rt)) := hd3
    obtain ⟨kd, kxs, rfl, _, _⟩ := id hd3.tupI
    have u3 := u.sameT (R.Same.sameT s3) (Nat.le_refl i)
    have hz3 := hdx'.mono s3
    have hD3 := s3 _ _ hD'
    have sb3 := sb.trans (R.Same.b (f := D) s3)
    have tk : rots.take (i + 1) = rots.take i ++ [rt] := by rw [List.take_add_one, hrt]; rfl
    refine ⟨_, rfl, ep, xs, kd, zb, ordL W rt, hD3, rfl, rfl, hd3, u3.ks, small_ (m := 100000) (by have := u.le; omega), fun p hp => ?_, fun hn ep' => ?_⟩
    · refine ⟨ep, xs, l, _, rfl, sb3, hD3, u3.sameT ⟨fun _ _ e => e, fun _ _ _ e => e⟩ (Nat.le_succ i), fun r hr => ?_⟩
      rw [tk] at hr
      rcases List.mem_append.mp hr with h | h
      · exact cov r h
      · have : r = rt := by simpa using h
        subst this
        obtain ⟨j, hj⟩ := List.getElem?_of_mem (atL_some hp)
        obtain ⟨r', h1, h2, _⟩ := u3.at_ j _ hj
        exact ⟨r', List.mem_of_getElem? h1, h2⟩
    · have sT4 := sameT_updN (o := DN P w D ep' (xs ++ [(ordL W rt, kd, zb)])) hD3
      refine ⟨ep', xs ++ [(ordL W rt, kd, zb)], l ++ [rt], _, rfl, sb3.trans SameB.upd, upd_same, (u3.snoc hR hd3 hz3 hn).sameT sT4 (Nat.le_refl _), fun r hr => ?_⟩
      rw [tk] at hr
      rcases List.mem_append.mp hr with h | h
      · obtain ⟨r', h1, h2⟩ := cov r h
        exact ⟨r', List.mem_append_left _ h1, h2⟩
      · have : r = rt := by simpa using h
        subst this
        exact ⟨r, List.mem_append_right _ (by simp), rfl⟩
  · rintro σ H' ⟨ep, xs, l, y2, rfl, sb, hD', u, cov⟩
    rw [yl, List.take_length] at cov
    have ule := u.le
    refine ⟨_, rfl, D, ep, xs, rfl, hD', fun D2 hD2 => ?_⟩
    have hHD : Same H H2 := s0.trans s1
    refine lc_it (walk_nkeys (P := P) (w := w) (d := D) (ep := ep) (xs := xs)) (fun i Hc => Same H' Hc ∧ ∃ zs, Hc D2 = some (.lst zs) ∧ DpAll K (wo Hc D2) zs ((l.take i).map strsT)) ⟨Same.new hD2, [], upd_same, .nil⟩ (fun i Hc _ h => h.1 _ _ hD') ?_ ?_
    · rintro i x Ha Hb hi ⟨s, zs, hz, hdz⟩ ⟨rfl, Lk, qd, vd, hx, rfl⟩
      obtain ⟨rt, hrt, eL, hdv⟩ := u.at_ i _ hx
      have mem : (Lk, qd, vd) ∈ xs := List.mem_of_getElem? hx
      refine ⟨rfl, ?_⟩
      refine ⟨_, rfl, _, rfl, D, ep, xs, qd, Lk, (qd, vd), rfl, s _ _ hD', rfl, (u.ks _ mem).mono s, u.ks.mono s, atL_of u.nd mem, ?_⟩
      refine ⟨zs, hz, ?_, s.over hD2, zs ++ [.ref vd], upd_same, ?_⟩
      · rw [hdz.length, List.length_map, List.length_take]
        exact small_ (m := 100000) (by omega)
      · rw [wo_upd, List.take_add_one, hrt, List.map_append]
        refine hdz.snoc ?_
        exact dp_sameT (sameT_wo hz) (hdv.mono s) (tup_strsT rt)
    · rintro Hc ⟨s, zs, hz, hdz⟩
      rw [← u.ln, List.take_length] at hdz
      have nD2 : H D2 = none := by
        cases e : H D2 with
        | none => rfl
        | some o =>
          have e2 := hHD _ _ e
          have ne : D2 ≠ D := ne_of_none e hD
          rw [sb.get ne e2] at hD2
          cases hD2
      refine q Hc D2 l (fun b o e => s _ _ (sb.get (ne_of_none e hD) (hHD _ _ e))) nD2 (.lst (SqL.at hz) (hdz.mono wo_same)) (by have := u.ln; omega) u.ok fun rt hR => ?_
      exact cov rt ((hall rt).mpr hR)
end R
set_option maxHeartbeats 4000000
/-! what is no web -/
namespace R
open PySem PySem.Spec PyProof.Rows L2
def Bad (d : PyData) : Prop := isWebB d = false ∧ smallD d = true
theorem web_two {d1 d2 : PyData} (h : web2 d1 d2 = false) : isWebB (.tuple [d1, d2]) = false := by
  show (rowB (.tuple [d1, d2]) 2 2 && web2 d1 d2) = false
  rw [h, Bool.and_false]
theorem web_places {ps : List PyData} {d2 : PyData} (h : areNamesB ps = false) : isWebB (.tuple [.tuple ps, d2]) = false := by
  refine web_two ?_
  show (rowB (.tuple ps) 1 10 && web3 ps d2) = false
  unfold web3
  rw [h, Bool.false_and, Bool.and_false]
theorem web_roads {P : List Str} {rs : List PyData} {r : PyData} (hr : r ∈ rs) (h : isRoadB r P = false) : isWebB (.tuple [strsT P, .tuple rs]) = false := by
  refine web_two ?_
  show (rowB (strsT P) 1 10 && web3 (P.map PyData.str) (.tuple rs)) = false
  unfold web3
  show (rowB (strsT P) 1 10 && (areNamesB (P.map PyData.str) && (rowB (.tuple rs) 0 14 && ((rs.all fun r => isRoadB r (txts (P.map PyData.str))) && areNamesB (rs.map firstD))))) = false
  have : (rs.all fun r => isRoadB r (txts (P.map PyData.str))) = false := by
    rw [List.all_eq_false]
    exact ⟨r, hr, by rw [txts_map, h]; decide⟩
  rw [this]
  simp
theorem web_firsts {P : List Str} {rs : List PyData} (h : areNamesB (rs.map firstD) = false) : isWebB (.tuple [strsT P, .tuple rs]) = false := by
  refine web_two ?_
  show (rowB (strsT P) 1 10 && (areNamesB (P.map PyData.str) && (rowB (.tuple rs) 0 14 && ((rs.all fun r => isRoadB r (txts (P.map PyData.str))) && areNamesB (rs.map firstD))))) = false
  rw [h]
  simp
theorem small_append : ∀ {xs ys : List PyData}, smallD.smallAll xs = true → smallD.smallAll ys = true → smallD.smallAll (xs ++ ys) = true
  | [], _, _, h => h
  | x :: xs, ys, h1, h2 => by
    rw [smallD.smallAll, Bool.and_eq_true] at h1
    rw [List.cons_append, smallD.smallAll, h1.1, small_append h1.2 h2]; rfl
theorem small_dropLast {xs : List PyData} (h : smallD.smallAll xs = true) : smallD.smallAll xs.dropLast = true := by
  have : ∀ {ys : List PyData}, (∀ y ∈ ys, smallD y = true) → smallD.smallAll ys = true := by
    intro ys
    induction ys with
    | nil => intro _; rfl
    | cons y ys ih => intro h; rw [smallD.smallAll, h y List.mem_cons_self, ih fun z hz => h z (List.mem_cons_of_mem _ hz)]; rfl
  exact this fun y hy => small_mem h (List.dropLast_subset _ hy)
theorem small_one {d : PyData} (h : smallD d = true) : smallD.smallAll [d] = true := by rw [smallD.smallAll, h]; rfl
theorem small_two {a b : PyData} (h1 : smallD a = true) (h2 : smallD b = true) : smallD (.tuple [a, b]) = true := by
  refine small_mk (by show 2 ≤ 1000; decide) ?_
  rw [smallD.smallAll, h1, small_one h2]; rfl
theorem nine_ok : nameOk "new9" = true ∧ nameOk "lone9" = true ∧ nameOk "Lone" = false ∧ nameOk "new0" = true ∧ nameOk "new1" = true ∧ nameOk "new2" = true := by decide +kernel
section
variable {W : Web} (o : WebOk W)
include o
theorem sP : smallD (strsT W.P) = true := small_strsT o.pn (Nat.le_trans o.p10 (by decide))
theorem sPl : smallD.smallAll (W.P.map PyData.str) = true := small_strs o.pn
theorem road_small {r : Road} (hr : r ∈ W.R) : smallD.smallAll [.str r.1, .str r.2.1, .str r.2.2] = true := by
  obtain ⟨a, b, _⟩ := o.re r hr
  refine small_strs (l := [r.1, r.2.1, r.2.2]) ?_
  simp only [List.all_cons, List.all_nil, Bool.and_true, Bool.and_eq_true]
  exact ⟨List.all_eq_true.mp o.rn r.1 (List.mem_map.mpr ⟨r, hr, rfl⟩), List.all_eq_true.mp o.pn _ a, List.all_eq_true.mp o.pn _ b⟩
theorem sRl : smallD.smallAll (W.R.map roadD) = true := small_roads fun r hr => small_mk (by show 3 ≤ 1000; decide) (road_small o hr)
theorem sR : smallD (.tuple (W.R.map roadD)) = true := small_mk (by rw [List.length_map]; exact Nat.le_trans o.r14 (by decide)) (sRl o)
/-- roads and one more that is none -/
theorem bad_road {r : PyData} (h : isRoadB r W.P = false) (hs : smallD r = true) : Bad (.tuple [strsT W.P, .tuple (W.R.map roadD ++ [r])]) := by
  refine ⟨web_roads (r := r) (by simp) h, small_two (sP o) (small_mk ?_ (small_append (sRl o) (small_one hs)))⟩
  rw [List.length_append, List.length_map]
  have := o.r14
  show W.R.length + 1 ≤ 1000
  omega
theorem bad_road' {r : PyData} (h : isRoadB r W.P = false) (hs : smallD r = true) : Bad (.tuple [strsT W.P, .tuple ((W.R.map roadD).dropLast ++ [r])]) := by
  refine ⟨web_roads (r := r) (by simp) h, small_two (sP o) (small_mk ?_ (small_append (small_dropLast (sRl o)) (small_one hs)))⟩
  rw [List.length_append, List.length_dropLast, List.length_map]
  have := o.r14
  show W.R.length - 1 + 1 ≤ 1000
  omega
theorem bad_place {x : PyData} (h : areNamesB (W.P.map PyData.str ++ [x]) = false) (hs : smallD x = true) : Bad (.tuple [.tuple (W.P.map PyData.str ++ [x]), .tuple (W.R.map roadD)]) := by
  refine ⟨web_places h, small_two (small_mk ?_ (small_append (sPl o) (small_one hs))) (sR o)⟩
  rw [List.length_append, List.length_map]
  have := o.p10
  show W.P.length + 1 ≤ 1000
  omega
theorem bad1 : Bad .none := ⟨rfl, rfl⟩
theorem bad2 : Bad (.tuple [strsT W.P]) := ⟨rfl, small_mk (by show 1 ≤ 1000; decide) (small_one (sP o))⟩
theorem bad3 {xs : List PyData} : Bad (.list xs) := ⟨rfl, rfl⟩
theorem bad4 {xs : List PyData} : Bad (.tuple [strsT W.P, .list xs]) := by
  refine ⟨web_two ?_, small_two (sP o) rfl⟩
  show (rowB (strsT W.P) 1 10 && (areNamesB (W.P.map PyData.str) && (false && _))) = false
  simp
theorem bad5 {xs : List PyData} : Bad (.tuple [.list xs, .tuple (W.R.map roadD)]) := ⟨web_two rfl, small_two rfl (sR o)⟩
theorem bad6 : Bad (.tuple [.tuple [], .tuple []]) := ⟨by decide, by decide⟩
theorem bad7 {p : Str} (hp : p ∈ W.P) : Bad (.tuple [.tuple (W.P.map PyData.str ++ [.str p]), .tuple (W.R.map roadD)]) := by
  refine bad_place o ?_ (small_name (List.all_eq_true.mp o.pn p hp))
  have e : W.P.map PyData.str ++ [.str p] = (W.P ++ [p]).map PyData.str := by rw [List.map_append]; rfl
  rw [e, areNames_strs]
  have : decide (W.P ++ [p]).Nodup = false := decide_eq_false fun n => by
    rw [List.nodup_append] at n
    exact n.2.2 p hp p (by simp) rfl
  rw [this, Bool.and_false]
theorem bad8 {i : Int} : Bad (.int i) := ⟨rfl, rfl⟩
theorem bad9 : Bad (.str "") := ⟨rfl, by decide⟩
theorem bad10 {p : Str} (hp : p ∈ W.P) (hl : ("lone9" : Str) ∉ W.P) : Bad (.tuple [strsT W.P, .tuple (W.R.map roadD ++ [.tuple [.str "new9", .str p, .str "lone9"]])]) := by
  refine bad_road o ?_ (small_mk (by show 3 ≤ 1000; decide) (small_strs (l := ["new9", p, "lone9"]) ?_))
  · have : isRoadB (.tuple [.str "new9", .str p, .str "lone9"]) W.P = _ := isRoad_road ("new9", p, "lone9") W.P
    rw [this, decide_eq_false hl]
    simp
  · simp only [List.all_cons, List.all_nil, Bool.and_true, Bool.and_eq_true]
    exact ⟨nine_ok.1, List.all_eq_true.mp o.pn p hp, nine_ok.2.1⟩
theorem bad11 {p : Str} (hp : p ∈ W.P) : Bad (.tuple [strsT W.P, .tuple (W.R.map roadD ++ [.tuple [.str "new9", .str p, .str p]])]) := by
  refine bad_road o ?_ (small_mk (by show 3 ≤ 1000; decide) (small_strs (l := ["new9", p, p]) ?_))
  · have : isRoadB (.tuple [.str "new9", .str p, .str p]) W.P = _ := isRoad_road ("new9", p, p) W.P
    rw [this]
    simp
  · simp only [List.all_cons, List.all_nil, Bool.and_true, Bool.and_eq_true]
    exact ⟨nine_ok.1, List.all_eq_true.mp o.pn p hp, List.all_eq_true.mp o.pn p hp⟩
theorem bad12 : Bad (.tuple [.tuple (W.P.map PyData.str ++ [.str "Lone"]), .tuple (W.R.map roadD)]) := by
  refine bad_place o ?_ (by decide +kernel)
  have e : W.P.map PyData.str ++ [.str "Lone"] = (W.P ++ [("Lone" : Str)]).map PyData.str := by rw [List.map_append]; rfl
  rw [e, areNames_strs, List.all_append]
  have : (["Lone"] : List Str).all nameOk = false := by decide +kernel
  rw [this]
  simp
theorem bad13 {p : Str} (hp : p ∈ W.P) : Bad (.tuple [strsT W.P, .tuple (W.R.map roadD ++ [.tuple [.str "new9", .str p]])]) := by
  refine bad_road o rfl (small_mk (by show 2 ≤ 1000; decide) (small_strs (l := ["new9", p]) ?_))
  simp only [List.all_cons, List.all_nil, Bool.and_true, Bool.and_eq_true]
  exact ⟨nine_ok.1, List.all_eq_true.mp o.pn p hp⟩
theorem bad14 {p : Str} {xs : List PyData} (hp : p ∈ W.P) : Bad (.tuple [strsT W.P, .tuple (W.R.map roadD ++ [.tuple [.str "new9", .str p, .list xs]])]) := by
  refine bad_road o ?_ (small_mk (by show 3 ≤ 1000; decide) (small_append (xs := [.str "new9", .str p]) (ys := [.list xs]) (small_strs (l := ["new9", p]) ?_) rfl))
  · show (isNameD (.str "new9") && areOfB [.str p, .list xs] W.P) = false
    unfold areOfB
    show (_ && ((partIn W.P (.str p) && (false && true)) && _)) = false
    simp
  · simp only [List.all_cons, List.all_nil, Bool.and_true, Bool.and_eq_true]
    exact ⟨nine_ok.1, List.all_eq_true.mp o.pn p hp⟩
theorem bad15 {xs : List PyData} : Bad (.tuple [.tuple ((W.P.map PyData.str).dropLast ++ [.list xs]), .tuple (W.R.map roadD)]) := by
  refine ⟨web_places ?_, small_two (small_mk ?_ (small_append (small_dropLast (sPl o)) rfl)) (sR o)⟩
  · unfold areNamesB
    rw [List.all_append]
    show ((_ && (false && true)) && _) = false
    simp
  · rw [List.length_append, List.length_dropLast, List.length_map]
    have := o.p10
    show W.P.length - 1 + 1 ≤ 1000
    omega
theorem bad16 {r : Road} (hr : r ∈ W.R) : Bad (.tuple [strsT W.P, .tuple (W.R.map roadD ++ [roadD r])]) := by
  refine ⟨web_firsts ?_, small_two (sP o) (small_mk ?_ (small_append (sRl o) (small_one (small_mk (by show 3 ≤ 1000; decide) (road_small o hr)))))⟩
  · have e : (W.R.map roadD ++ [roadD r]).map firstD = (W.names ++ [r.1]).map PyData.str := by
      rw [List.map_append, firsts, List.map_append]; rfl
    rw [e, areNames_strs]
    have : decide (W.names ++ [r.1]).Nodup = false := decide_eq_false fun n => by
      rw [List.nodup_append] at n
      exact n.2.2 r.1 (List.mem_map.mpr ⟨r, hr, rfl⟩) r.1 (by simp) rfl
    rw [this, Bool.and_false]
  · rw [List.length_append, List.length_map]
    have := o.r14
    show W.R.length + 1 ≤ 1000
    omega
theorem bad17 {xs : List PyData} : Bad (.tuple [strsT W.P, .tuple ((W.R.map roadD).dropLast ++ [.list xs])]) := bad_road' o rfl rfl
theorem bad18 {r : Road} {i : Int} (hr : r ∈ W.R) : Bad (.tuple [strsT W.P, .tuple ((W.R.map roadD).dropLast ++ [.tuple [.str r.1, .str r.2.1, .str r.2.2, .int i]])]) :=
  bad_road' o rfl (small_mk (by show 4 ≤ 1000; decide) (small_append (xs := [.str r.1, .str r.2.1, .str r.2.2]) (ys := [.int i]) (road_small o hr) rfl))
end
end R
set_option maxHeartbeats 4000000
namespace R
open PySem PySem.Spec PyProof.Rows L2
section
variable {P : Program} {w : World} {K : PySem.W.Frag} {mg : Str → Option Value} {base : Heap}
/-! data that stands without what is at some addresses -/
def hid (H : Hp) (Z : List Addr) : Hp := fun b => if b ∈ Z then none else H b
theorem hid_ne {H : Hp} {Z : List Addr} {b : Addr} (h : b ∉ Z) : hid H Z b = H b := by unfold hid; rw [if_neg h]
theorem hid_some {H : Hp} {Z : List Addr} {b : Addr} {o : HO} (h : hid H Z b = some o) : b ∉ Z ∧ H b = some o := by
  unfold hid at h
  split at h
  · cases h
  · rename_i k; exact ⟨k, h⟩
theorem hid_same {H : Hp} {Z : List Addr} : Same (hid H Z) H := fun b o e => (hid_some e).2
theorem hid_mono {H H' : Hp} {Z : List Addr} (s : Same H H') : Same (hid H Z) (hid H' Z) := fun b o e => by rw [hid_ne (hid_some e).1]; exact s b o (hid_some e).2
theorem hid_upd {H : Hp} {Z : List Addr} {p : Addr} {o : HO} (h : p ∈ Z) : hid (upd H p o) Z = hid H Z := by
  funext b
  unfold hid
  by_cases k : b ∈ Z
  · rw [if_pos k, if_pos k]
  · rw [if_neg k, if_neg k, upd_ne (fun e => k (by rw [e]; exact h))]
def Held (H : Hp) (Z : List Addr) : Prop := ∀ z ∈ Z, H z ≠ none
theorem Held.mono {H H' : Hp} {Z : List Addr} (h : Held H Z) (s : Same H H') : Held H' Z := fun z hz e => by
  cases k : H z with
  | none => exact h z hz k
  | some o => rw [s _ _ k] at e; cases e
theorem nf_of {H : Hp} {Z : List Addr} {p : Addr} (hf : Held H Z) (hp : H p = none) : p ∉ Z := fun e => hf p e hp
theorem tupF {H : Hp} {Z : List Addr} {p : Addr} {xs : List V} {ds : List PyData} (hf : Held H Z) (hp : H p = none) (h : DpAll K (hid H Z) xs ds) : Dp K (hid (upd H p (.tup xs)) Z) (.ref p) (.tuple ds) :=
  .tup (xs := xs) (SqT.at (by rw [hid_ne (nf_of hf hp), upd_same])) (h.mono (hid_mono (Same.new hp)))
theorem lstF {H : Hp} {Z : List Addr} {p : Addr} {xs : List V} {ds : List PyData} (hf : Held H Z) (hp : H p = none) (h : DpAll K (hid H Z) xs ds) : Dp K (hid (upd H p (.lst xs)) Z) (.ref p) (.list ds) :=
  .lst (xs := xs) (SqL.at (by rw [hid_ne (nf_of hf hp), upd_same])) (h.mono (hid_mono (Same.new hp)))
theorem slF {H : Hp} {Z : List Addr} {v : V} {ds : List PyData} {lo hi : Option Int} {Q : VK} (hf : Held H Z) (h : Dp K (hid H Z) v (.tuple ds)) (q : ∀ v' H', Same H H' → Dp K (hid H' Z) v' (.tuple (cutD ds lo hi)) → Q v' H') : rSlA K v lo hi H Q := by
  obtain ⟨a, xs, rfl, h1, h2⟩ := h.tupI
  have el := h2.length
  refine ⟨a, xs, rfl, hid_same.seqT h1, fun k => ?_, fun _ p hp => ?_⟩
  · refine q _ _ (Same.refl _) (.tup h1 ?_)
    have : cutD ds lo hi = ds := by
      unfold cutD
      rw [← el, k.1, k.2, List.drop_zero, Nat.sub_zero, el, List.take_length]
    rw [this]; exact h2
  · refine q _ _ (Same.new hp) (tupF hf hp ?_)
    have := (h2.drop (HT.sIx ds.length 0 lo)).take (HT.sIx ds.length ds.length hi - HT.sIx ds.length 0 lo)
    unfold cutV
    unfold cutD
    rw [el]
    exact this
theorem catF {H : Hp} {Z : List Addr} {x y : V} {ds es : List PyData} {Q : VK} (hf : Held H Z) (h1 : Dp K (hid H Z) x (.tuple ds)) (h2 : Dp K (hid H Z) y (.tuple es)) (hl : ds.length + es.length ≤ 100000) (q : ∀ v' H', Same H H' → Dp K (hid H' Z) v' (.tuple (ds ++ es)) → Q v' H') : rCatA K x y H Q := by
  obtain ⟨a, xs, rfl, a1, a2⟩ := h1.tupI
  obtain ⟨b, ys, rfl, b1, b2⟩ := h2.tupI
  have e1 := a2.length
  have e2 := b2.length
  refine ⟨a, b, xs, ys, rfl, rfl, hid_same.seqT a1, hid_same.seqT b1, ?_, fun k => ?_, fun _ k => ?_, fun _ _ p hp => ?_⟩
  · have : sizeLine = 16777216 := sizeLine_eq
    omega
  · subst k
    cases a2
    exact q _ _ (Same.refl _) h2
  · subst k
    cases b2
    rw [List.append_nil] at q
    exact q _ _ (Same.refl _) h1
  · exact q _ _ (Same.new hp) (tupF hf hp (a2.append b2))
theorem listF {H : Hp} {Z : List Addr} {v : V} {ds : List PyData} {Q : VK} (hf : Held H Z) (h : Dp K (hid H Z) v (.tuple ds)) (q : ∀ l H', Same H H' → Dp K (hid H' Z) (.ref l) (.list ds) → Q (.ref l) H') : rListOf K [v] H Q := by
  obtain ⟨a, xs, rfl, h1, h2⟩ := h.tupI
  exact ⟨a, xs, rfl, .inr (hid_same.seqT h1), fun l hl => q l _ (Same.new hl) (lstF hf hl h2)⟩
def Bads (ds : List PyData) : Prop := ∀ d ∈ ds, Bad d
theorem Bads.nil : Bads [] := fun d h => by cases h
theorem Bads.snoc {ds : List PyData} {d : PyData} (h : Bads ds) (hd : Bad d) : Bads (ds ++ [d]) := fun e he => by
  rcases List.mem_append.mp he with h' | h'
  · exact h e h'
  · have : e = d := by simpa using h'
    rw [this]; exact hd
theorem Bads.cons {ds : List PyData} {d : PyData} (hd : Bad d) (h : Bads ds) : Bads (d :: ds) := fun e he => by
  rcases List.mem_cons.mp he with rfl | h'
  · exact hd
  · exact h e h'
theorem Bads.append {ds es : List PyData} (h : Bads ds) (h2 : Bads es) : Bads (ds ++ es) := fun e he => (List.mem_append.mp he).elim (h e) (h2 e)
theorem hid_more {H : Hp} {f S : Addr} {o : HO} (hS : H S = none) : Same (hid H [f]) (hid (upd H S o) [S, f]) := fun b u e => by
  obtain ⟨h1, h2⟩ := hid_some e
  have bS : b ≠ S := ne_of_none h2 hS
  rw [hid_ne (by simp at h1; simp [bS, h1]), upd_ne bS]; exact h2
theorem hid_less {H : Hp} {f S : Addr} : Same (hid H [S, f]) (hid H [f]) := fun b u e => by
  obtain ⟨h1, h2⟩ := hid_some e
  rw [hid_ne (by simp at h1; simp [h1.2])]; exact h2
theorem hid_wo {H : Hp} {f : Addr} : Same (hid H [f]) (wo H f) := fun b u e => by
  obtain ⟨h1, h2⟩ := hid_some e
  rw [wo_ne (by simpa using h1)]; exact h2
theorem sameT_hid {H : Hp} {D : Addr} {xs : List V} (h : H D = some (.lst xs)) : SameT H (hid H [D]) := by
  refine ⟨fun b ys e => ?_, fun b o u e => ?_⟩
  · rw [hid_ne (by simpa using ne_of e h (by intro z; cases z))]; exact e
  · rw [hid_ne (by simpa using ne_of e h (by intro z; cases z))]; exact e
theorem cut_hd {x : PyData} {l : List PyData} : cutD (x :: l) none (some 1) = [x] := by
  unfold cutD
  rw [HT.sIx_none, show (1 : Int) = ((1 : Nat) : Int) by rfl, HT.sIx_nat, List.drop_zero, Nat.sub_zero, List.length_cons, Nat.min_eq_left (by omega)]; rfl
theorem sIx_neg {n d : Nat} (h : 0 < n) : HT.sIx n d (some (-1)) = n - 1 := by
  show (if (-1 : Int) < 0 then ((-1 : Int) + (n : Int)).toNat else min (-1 : Int).toNat n) = n - 1
  rw [if_pos (by decide)]; omega
theorem cut_init {l : List PyData} (h : l ≠ []) : cutD l none (some (-1)) = l.dropLast := by
  unfold cutD
  rw [HT.sIx_none, sIx_neg (List.length_pos_iff.mpr h), List.drop_zero, Nat.sub_zero, List.dropLast_eq_take]
theorem cut_last {l : List PyData} {x : PyData} : cutD (l ++ [x]) (some (-1)) none = [x] := by
  unfold cutD
  rw [HT.sIx_none, sIx_neg (by simp), List.length_append, List.length_singleton, Nat.add_sub_cancel, List.drop_left]
  show List.take (l.length + 1 - l.length) [x] = [x]
  rw [show l.length + 1 - l.length = 1 by omega]; rfl
theorem last_split {α : Type} {l : List α} (h : l ≠ []) : ∃ i x, l = i ++ [x] := ⟨_, _, (List.dropLast_concat_getLast h).symm⟩
theorem strs_ne {x y : Str} : decide (V.str x = V.str y) = decide (x = y) := v_str_eq
/-- roads != () -/
theorem eqv_empty (l : List PyData) : PyData.eqv (.tuple l) (.tuple []) = decide (l = []) := by
  rw [PyData.eqv]
  cases l with
  | nil => rfl
  | cons a l => simp [PyData.eqvAll]
theorem lay_roads : ∀ {R : List Road}, (∀ r ∈ R, PyData.strOk r.1 = true ∧ PyData.strOk r.2.1 = true ∧ PyData.strOk r.2.2 = true) → PyData.canLayAll0 (R.map roadD) = true
  | [], _ => rfl
  | r :: R, h => by
    obtain ⟨a, b, c⟩ := h r List.mem_cons_self
    show (PyData.canLay0 (roadD r) && PyData.canLayAll0 (R.map roadD)) = true
    rw [lay_roads fun s hs => h s (List.mem_cons_of_mem _ hs), Bool.and_true]
    show PyData.canLayAll0 ([r.1, r.2.1, r.2.2].map PyData.str) = true
    exact lay_strs (by simp [a, b, c])
theorem depth_roads : ∀ R : List Road, PyData.depthAll (R.map roadD) ≤ 1
  | [] => Nat.zero_le _
  | r :: R => by
    show max (PyData.depth (roadD r)) (PyData.depthAll (R.map roadD)) ≤ 1
    have h1 := depth_roads R
    have h2 : PyData.depth (roadD r) = 1 := by
      show PyData.depthAll ([r.1, r.2.1, r.2.2].map PyData.str) + 1 = 1
      rw [depth_strs]
    omega
theorem shaped_roads {W : Web} (o : WebOk W) : SeqAt.shaped (.tuple (W.R.map roadD)) = true := by
  show (PyData.canLayAll0 (W.R.map roadD) && decide (PyData.depthAll (W.R.map roadD) + 1 ≤ 64)) = true
  have := depth_roads W.R
  rw [lay_roads fun r hr => ?_, decide_eq_true (by omega)]
  · rfl
  · obtain ⟨a, b, _⟩ := o.re r hr
    exact ⟨strOk_name (List.all_eq_true.mp o.rn r.1 (List.mem_map.mpr ⟨r, hr, rfl⟩)), strOk_name (List.all_eq_true.mp o.pn _ a), strOk_name (List.all_eq_true.mp o.pn _ b)⟩
/-- what stays while the list of what is no web is made -/
structure NwB (K : PySem.W.Frag) (H0 H : Hp) (f : Addr) (Z : List Addr) (W : Web) (vW vP vR vN : V) (p0 pl : Str) : Prop where
  s : Same (hid H0 Z) (hid H Z)
  ff : ∀ o, H0 f = some o → H f = some o
  hf : Held H Z
  hP : Dp K (hid H Z) vP (strsT W.P)
  hR : Dp K (hid H Z) vR (.tuple (W.R.map roadD))
  hW : Dp K (hid H Z) vW (.tuple [strsT W.P, .tuple (W.R.map roadD)])
  hN : Dp K (hid H Z) vN (.tuple [.str "new9", .str p0, .str pl])
theorem NwB.mono {H0 H H' : Hp} {f : Addr} {Z : List Addr} {W : Web} {vW vP vR vN : V} {p0 pl : Str} (b : NwB K H0 H f Z W vW vP vR vN p0 pl) (s : Same H H') : NwB K H0 H' f Z W vW vP vR vN p0 pl :=
  ⟨b.s.trans (hid_mono s), fun o e => s _ _ (b.ff o e), b.hf.mono s, b.hP.mono (hid_mono s), b.hR.mono (hid_mono s), b.hW.mono (hid_mono s), b.hN.mono (hid_mono s)⟩
theorem NwB.upd {H0 H : Hp} {f : Addr} {Z : List Addr} {W : Web} {vW vP vR vN : V} {p0 pl : Str} {S : Addr} {o : HO} (b : NwB K H0 H f Z W vW vP vR vN p0 pl) (hS : S ∈ Z) (hSf : S ≠ f) : NwB K H0 (L2.upd H S o) f Z W vW vP vR vN p0 pl := by
  have e := hid_upd (H := H) (o := o) hS
  refine ⟨by rw [e]; exact b.s, fun u k => by rw [upd_ne hSf.symm]; exact b.ff u k, fun z hz k => ?_, by rw [e]; exact b.hP, by rw [e]; exact b.hR, by rw [e]; exact b.hW, by rw [e]; exact b.hN⟩
  by_cases h : z = S
  · rw [h, upd_same] at k; cases k
  · rw [upd_ne h] at k; exact b.hf z hz k
theorem dp_last {H : Hp} : ∀ {vs : List V} {ds : List PyData} {d : PyData}, DpAll K H vs (ds ++ [d]) → ∃ vs0 v, vs = vs0 ++ [v] ∧ Dp K H v d
  | _, [], _, .cons a .nil => ⟨[], _, rfl, a⟩
  | _, _ :: _, _, .cons _ b => by
    obtain ⟨vs0, v, e, h⟩ := dp_last b
    exact ⟨_ :: vs0, v, by rw [e]; rfl, h⟩
/-- the list S takes the items ys -/
theorem ext_bad {H0 H : Hp} {f S : Addr} {Z : List Addr} {W : Web} {vW vP vR vN : V} {p0 pl : Str} {xs ys : List V} {ds es : List PyData} {Q : VK} (b : NwB K H0 H f Z W vW vP vR vN p0 pl) (A : DpAll K (hid H Z) xs ds) (G : DpAll K (hid H Z) ys es) (g : H S = some (.lst xs)) (hS : S ∈ Z) (hSf : S ≠ f) (hl : xs.length + ys.length ≤ 1000)
    (q : ∀ H', NwB K H0 H' f Z W vW vP vR vN p0 pl → DpAll K (hid H' Z) (xs ++ ys) (ds ++ es) → H' S = some (.lst (xs ++ ys)) → Q .non H') : ys.length ≤ sizeLine ∧ ∀ T, H T = none → rExtend (.ref S) [.ref T] (L2.upd H T (.lst ys)) Q := by
  have hz : sizeLine = 16777216 := sizeLine_eq
  refine ⟨by omega, fun T hT => ?_⟩
  have t1 : Same H (L2.upd H T (.lst ys)) := Same.new hT
  refine ⟨S, T, xs, ys, rfl, rfl, t1 _ _ g, upd_same, by omega, ?_⟩
  have e := hid_upd (H := L2.upd H T (.lst ys)) (o := .lst (xs ++ ys)) hS
  refine q _ ((b.mono t1).upd hS hSf) ?_ upd_same
  rw [e]
  exact (A.append G).mono (hid_mono t1)
def sp_law_no_web (K : PySem.W.Frag) : Sp := fun vs H Q _ => ∃ (f : Addr) (v : V) (W : Web) (n : Nat), vs = [.ref f, v] ∧ Feed H f (n + 1) ∧ WebOk W ∧ Dp K H v W.d ∧ ("lone9" : Str) ∉ W.P ∧ ∀ H' x d, SameB f H H' → Feed H' f n → Dp K (wo H' f) x d → Bad d → Q x H'
theorem ok_law_no_web (F : DefAt K mg "_law_no_web" s_law_no_web ["_law_feed_here", "_law_web"]) (B : Blt mg) (G_law_one : Ok P w K mg base CX0 2 "_law_one" ["_law_feed_here", "_law_things"] (sp_law_one K)) : Ok P w K mg base CX0 3 "_law_no_web" ["_law_feed_here", "_law_web"] (sp_law_no_web K) := by
  refine ok_of F sc_law_no_web (fun vs H Q E h => by obtain ⟨_, _, _, _, rfl, _⟩ := h; rfl) fun f cdv A outer s H vs Q E hr h => ?_
  obtain ⟨f, v, W, n, rfl, hfd, o, hdv, hlone, q⟩ := h
  refine ⟨_, (ass_cons (as_asg (av 1) (pgT K rfl (pgs_cons (pg_name (i := 2) sc_law_no_web.nd rfl (Or.inl rfl)) (pgs_cons (pg_name (i := 3) sc_law_no_web.nd rfl (Or.inl rfl)) pgs_nil))))
    (ass_cons (ps_par (i := 4) (j := 5) rfl sc_law_no_web.nd rfl rfl (by decide) rfl rfl (aa_cons (ae_ix (ixT K) (av 2) ae_int (fun _ _ => rfl)) (aa_cons (ae_tup (aa_cons ae_str (aa_cons (ae_ix (ixT K) (av 2) ae_int (fun _ _ => rfl)) (aa_cons (ae_ix (ixT K) (av 2) (ae_un un_neg ae_int) (fun _ _ => rfl)) aa_nil)))) aa_nil)) (by rfl))
    (ass_cons (as_set (i := 6) sc_law_no_web.nd rfl (Or.inl rfl) (ae_lst (aa_cons ae_non (aa_cons (ae_slice (slT K) (av 1) poN (ao_some ae_int)) (aa_cons (ae_callTy (listOf K) (by rfl) B.list_ (by decide +kernel) (aa_cons (av 1) aa_nil)) (aa_cons (ae_tup (aa_cons (av 2) (aa_cons (ae_callTy (listOf K) (by rfl) B.list_ (by decide +kernel) (aa_cons (av 3) aa_nil)) aa_nil))) (aa_cons (ae_tup (aa_cons (ae_callTy (listOf K) (by rfl) B.list_ (by decide +kernel) (aa_cons (av 2) aa_nil)) (aa_cons (av 3) aa_nil))) (aa_cons (ae_tup (aa_cons (ae_tup aa_nil) (aa_cons (ae_tup aa_nil) aa_nil))) (aa_cons (ae_tup (aa_cons (ae_op (catA K) (av 2) (ae_slice (slT K) (av 2) poN (ao_some ae_int))) (aa_cons (av 3) aa_nil))) (aa_cons ae_int (aa_cons ae_str aa_nil)))))))))))
    (ass_cons (as_expr (ae_bm K PySem.F.plainAttrs_list PySem.F.slot_list_extend PySem.F.type_list_extend mt_extend (av 6) (aa_cons (ae_lst (aa_cons (ae_tup (aa_cons (av 2) (aa_cons (ae_op (catA K) (av 3) (ae_tup (aa_cons (ae_op (catA K) (ae_slice (slT K) (av 5) poN (ao_some ae_int)) (ae_tup (aa_cons ae_str aa_nil))) aa_nil))) aa_nil))) (aa_cons (ae_tup (aa_cons (av 2) (aa_cons (ae_op (catA K) (av 3) (ae_tup (aa_cons (ae_tup (aa_cons ae_str (aa_cons (av 4) (aa_cons (av 4) aa_nil)))) aa_nil))) aa_nil))) (aa_cons (ae_tup (aa_cons (ae_op (catA K) (av 2) (ae_tup (aa_cons ae_str aa_nil))) (aa_cons (av 3) aa_nil))) aa_nil)))) aa_nil)))
    (ass_cons (as_expr (ae_bm K PySem.F.plainAttrs_list PySem.F.slot_list_extend PySem.F.type_list_extend mt_extend (av 6) (aa_cons (ae_lst (aa_cons (ae_tup (aa_cons (av 2) (aa_cons (ae_op (catA K) (av 3) (ae_tup (aa_cons (ae_slice (slT K) (av 5) poN (ao_some ae_int)) aa_nil))) aa_nil))) (aa_cons (ae_tup (aa_cons (av 2) (aa_cons (ae_op (catA K) (av 3) (ae_tup (aa_cons (ae_op (catA K) (ae_slice (slT K) (av 5) poN (ao_some ae_int)) (ae_tup (aa_cons (ae_lst (aa_cons (ae_ix (ixT K) (av 5) ae_int (fun _ _ => rfl)) aa_nil)) aa_nil))) aa_nil))) aa_nil))) (aa_cons (ae_tup (aa_cons (ae_op (catA K) (ae_slice (slT K) (av 2) poN (ao_some (ae_un un_neg ae_int))) (ae_tup (aa_cons (ae_lst (aa_cons (ae_ix (ixT K) (av 2) (ae_un un_neg ae_int) (fun _ _ => rfl)) aa_nil)) aa_nil))) (aa_cons (av 3) aa_nil))) aa_nil)))) aa_nil)))
    (ass_cons (as_if (at_cmpR (neD K (hu := hu64 hr)) (av 3) (ae_tup aa_nil) (nomark _))
      (pss_one (as_expr (ae_bm K PySem.F.plainAttrs_list PySem.F.slot_list_extend PySem.F.type_list_extend mt_extend (av 6) (aa_cons (ae_lst (aa_cons (ae_tup (aa_cons (av 2) (aa_cons (ae_op (catA K) (av 3) (ae_slice (slT K) (av 3) (ao_some (ae_un un_neg ae_int)) poN)) aa_nil))) (aa_cons (ae_tup (aa_cons (av 2) (aa_cons (ae_op (catA K) (ae_slice (slT K) (av 3) poN (ao_some (ae_un un_neg ae_int))) (ae_tup (aa_cons (ae_callTy (listOf K) (by rfl) B.list_ (by decide +kernel) (aa_cons (ae_ix (ixT K) (av 3) (ae_un un_neg ae_int) (fun _ _ => rfl)) aa_nil)) aa_nil))) aa_nil))) (aa_cons (ae_tup (aa_cons (av 2) (aa_cons (ae_op (catA K) (ae_slice (slT K) (av 3) poN (ao_some (ae_un un_neg ae_int))) (ae_tup (aa_cons (ae_op (catA K) (ae_ix (ixT K) (av 3) (ae_un un_neg ae_int) (fun _ _ => rfl)) (ae_tup (aa_cons ae_int aa_nil))) aa_nil))) aa_nil))) aa_nil)))) aa_nil))))
      ass_nil)
    (pss_one (as_ret (ae_co G_law_one hr pass0 (aa_cons (av 0) (aa_cons (av 6) aa_nil))))))))))), ?_⟩
  obtain ⟨xs0, hf⟩ := hfd.some
  have hW : Dp K (hid H [f]) v W.d := dp_sameT (sameT_hid hf) hdv (tup_web W)
  have hz : Held H [f] := fun z h e => by
    have : z = f := by simpa using h
    rw [this, hf] at e; cases e
  obtain ⟨a, xs, rfl, h1, h2⟩ := hW.tupI
  cases h2 with
  | cons hP h2 => cases h2 with
    | cons hR h2 =>
      cases h2
      rename_i vP vR
      have hPne : W.P ≠ [] := fun e => by have := o.p1; rw [e] at this; cases this
      obtain ⟨Pi, pl, eP⟩ := last_split hPne
      obtain ⟨p0, Pt, eP0⟩ : ∃ p0 Pt, W.P = p0 :: Pt := by
        cases h : W.P with
        | nil => exact absurd h hPne
        | cons p0 Pt => exact ⟨p0, Pt, rfl⟩
      have m0 : p0 ∈ W.P := by rw [eP0]; exact List.mem_cons_self
      have ml : pl ∈ W.P := by rw [eP]; simp
      have p10 := o.p10
      have r14 := o.r14
      refine ⟨_, rfl, a, _, rfl, hid_same.seqT h1, rfl, _, _, rfl, _, _, rfl, rfl, ?_⟩
      obtain ⟨pp, pxs, rfl, hp1, hp2⟩ := id hP.tupI
      have hp1' : SqT K H pp (W.P.map V.str) := by rw [← hp2.strs]; exact hid_same.seqT hp1
      have at0 : atI (W.P.map V.str) 0 = some (.str p0) := by rw [eP0]; exact ix0
      have atL : atI (W.P.map V.str) (-1) = some (.str pl) := by rw [eP, List.map_append]; exact atI_last _ _
      -- one_here, new
      refine ⟨_, rfl, pp, _, _, _, rfl, rfl, hp1', at0, _, rfl, pp, _, _, _, rfl, rfl, hp1', at0, _, rfl, _, rfl, pp, _, _, _, rfl, rfl, hp1', atL, by show 3 ≤ sizeLine; decide, fun nw hnw => ⟨_, _, rfl, ?_⟩⟩
      have s0 : Same H (upd H nw (.tup [.str "new9", .str p0, .str pl])) := Same.new hnw
      have hnew : Dp K (hid (upd H nw (.tup [.str "new9", .str p0, .str pl])) [f]) (.ref nw) (.tuple [.str "new9", .str p0, .str pl]) := tupF hz hnw (.cons (.str _) (.cons (.str _) (.cons (.str _) .nil)))
      have b0 : NwB K H (upd H nw (.tup [.str "new9", .str p0, .str pl])) f [f] W (.ref a) (.ref pp) vR (.ref nw) p0 pl := ⟨hid_mono s0, fun u e => s0 _ _ e, hz.mono s0, hP.mono (hid_mono s0), hR.mono (hid_mono s0), hW.mono (hid_mono s0), hnew⟩
      generalize upd H nw (.tup [.str "new9", .str p0, .str pl]) = H0 at b0
      clear hnew s0 hP hR hW h1 hp1 hp2 hp1'
      -- the first nine
      refine ⟨_, rfl, _, rfl, ?_⟩
      refine slF b0.hf b0.hW fun v2 H2 s2 d2 => ?_
      rw [cut_hd] at d2
      have b2 := b0.mono s2
      refine ⟨_, rfl, ?_⟩
      refine listF b2.hf b2.hW fun l3 H3 s3 d3 => ?_
      have b3 := b2.mono s3
      have d2 := d2.mono (hid_mono s3)
      refine ⟨_, rfl, _, rfl, ?_⟩
      refine listF b3.hf b3.hR fun l4 H4 s4 d4 => ?_
      have b4 := b3.mono s4
      refine ⟨by show 2 ≤ sizeLine; decide, fun p4 hp4 => ?_⟩
      have e4 := tupF b4.hf hp4 (.cons b4.hP (.cons d4 .nil))
      have t4 : Same H4 (upd H4 p4 (.tup [.ref pp, .ref l4])) := Same.new hp4
      have b4 := b4.mono t4
      have A4 : DpAll K (hid (upd H4 p4 (.tup [.ref pp, .ref l4])) [f]) [.non, v2, .ref l3, .ref p4] [.none, .tuple [strsT W.P], .list [strsT W.P, .tuple (W.R.map roadD)], .tuple [strsT W.P, .list (W.R.map roadD)]] :=
        .cons .non (.cons (d2.mono (hid_mono (s4.trans t4))) (.cons (d3.mono (hid_mono (s4.trans t4))) (.cons e4 .nil)))
      generalize upd H4 p4 (.tup [.ref pp, .ref l4]) = G4 at b4 A4
      clear e4 t4 d2 d3 d4
      refine ⟨_, rfl, ?_⟩
      refine listF b4.hf b4.hP fun l5 H5 s5 d5 => ⟨_, rfl, by show 2 ≤ sizeLine; decide, fun p5 hp5 => ?_⟩
      have b5 := b4.mono s5
      have e5 := tupF b5.hf hp5 (.cons d5 (.cons b5.hR .nil))
      have t5 : Same H5 (upd H5 p5 (.tup [.ref l5, vR])) := Same.new hp5
      have b5 := b5.mono t5
      have A5 := (A4.mono (hid_mono (s5.trans t5))).snoc e5
      generalize upd H5 p5 (.tup [.ref l5, vR]) = G5 at b5 A5
      clear e5 t5 d5
      refine ⟨Nat.zero_le _, fun e1 he1 => ⟨Nat.zero_le _, fun e2 he2 => ⟨by show 2 ≤ sizeLine; decide, fun p6 hp6 => ?_⟩⟩⟩
      have t6a : Same G5 (upd G5 e1 (.tup [])) := Same.new he1
      have c1 : Dp K (hid (upd G5 e1 (.tup [])) [f]) (.ref e1) (.tuple []) := tupF b5.hf he1 .nil
      have b6 := b5.mono t6a
      generalize upd G5 e1 (.tup []) = G6 at t6a c1 b6 he2 hp6
      have t6b : Same G6 (upd G6 e2 (.tup [])) := Same.new he2
      have c2 : Dp K (hid (upd G6 e2 (.tup [])) [f]) (.ref e2) (.tuple []) := tupF b6.hf he2 .nil
      have c1 := c1.mono (hid_mono t6b)
      have b6 := b6.mono t6b
      generalize upd G6 e2 (.tup []) = G7 at t6b c1 c2 b6 hp6
      have t6c : Same G7 (upd G7 p6 (.tup [.ref e1, .ref e2])) := Same.new hp6
      have e6 := tupF b6.hf hp6 (.cons c1 (.cons c2 .nil))
      have b6 := b6.mono t6c
      have A6 := (A5.mono (hid_mono ((t6a.trans t6b).trans t6c))).snoc e6
      generalize upd G7 p6 (.tup [.ref e1, .ref e2]) = G8 at b6 A6
      clear e6 t6a t6b t6c c1 c2
      refine ⟨_, rfl, _, rfl, _, rfl, ?_⟩
      refine slF b6.hf b6.hP fun v7 H7 s7 d7 => ?_
      have e7 : cutD (W.P.map PyData.str) none (some 1) = [.str p0] := by rw [eP0]; exact cut_hd
      rw [e7] at d7
      have b7 := b6.mono s7
      refine catF b7.hf b7.hP d7 (by rw [List.length_map]; show _ + 1 ≤ _; omega) fun v8 H8 s8 d8 => ?_
      have b8 := b7.mono s8
      refine ⟨_, rfl, by show 2 ≤ sizeLine; decide, fun p7 hp7 => ?_⟩
      have e8 := tupF b8.hf hp7 (.cons d8 (.cons b8.hR .nil))
      have t8 : Same H8 (upd H8 p7 (.tup [v8, vR])) := Same.new hp7
      have b8 := b8.mono t8
      have A8 := (((A6.mono (hid_mono ((s7.trans s8).trans t8))).snoc e8).snoc (.int 5)).snoc (.str "")
      generalize upd H8 p7 (.tup [v8, vR]) = G9 at b8 A8
      clear e8 t8 d7 d8 e7
      have B8 := ((((((Bads.nil.snoc (bad1 o)).append (((Bads.nil.snoc (bad2 o)).snoc (bad3 o (xs := [strsT W.P, .tuple (W.R.map roadD)]))).snoc (bad4 o (xs := W.R.map roadD)))).snoc (bad5 o (xs := W.P.map PyData.str))).snoc (bad6 o)).snoc (bad7 o m0)).snoc (bad8 o (i := 5))).snoc (bad9 o)
      refine ⟨by show 9 ≤ sizeLine; decide, fun S hS => ?_⟩
      have Sf : S ≠ f := fun e => nf_of b8.hf hS (by simp [e])
      have hHS : H S = none := by
        cases e : H S with
        | none => rfl
        | some u =>
          have := b8.s S u (by rw [hid_ne (by simp [Sf])]; exact e)
          rw [(hid_some this).2] at hS; cases hS
      have more : Same (hid G9 [f]) (hid (upd G9 S (.lst [.non, v2, .ref l3, .ref p4, .ref p5, .ref p6, .ref p7, .int 5, .str ""])) [S, f]) := hid_more hS
      have b9 : NwB K H (upd G9 S (.lst [.non, v2, .ref l3, .ref p4, .ref p5, .ref p6, .ref p7, .int 5, .str ""])) f [S, f] W (.ref a) (.ref pp) vR (.ref nw) p0 pl := by
        refine ⟨(hid_less.trans b8.s).trans more, fun u e => by rw [upd_ne Sf.symm]; exact b8.ff u e, fun z hz e => ?_, b8.hP.mono more, b8.hR.mono more, b8.hW.mono more, b8.hN.mono more⟩
        have hz : z = S ∨ z = f := by simpa using hz
        rcases hz with rfl | rfl
        · rw [upd_same] at e; cases e
        · rw [upd_ne Sf.symm] at e; exact b8.hf z (by simp) e
      have A9 := A8.mono more
      have g9 : upd G9 S (.lst [.non, v2, .ref l3, .ref p4, .ref p5, .ref p6, .ref p7, .int 5, .str ""]) S = some (.lst [.non, v2, .ref l3, .ref p4, .ref p5, .ref p6, .ref p7, .int 5, .str ""]) := upd_same
      have fG : (upd G9 S (.lst [.non, v2, .ref l3, .ref p4, .ref p5, .ref p6, .ref p7, .int 5, .str ""])) f = G9 f := upd_ne Sf.symm
      generalize upd G9 S (.lst [.non, v2, .ref l3, .ref p4, .ref p5, .ref p6, .ref p7, .int 5, .str ""]) = K0 at b9 A9 g9 fG more
      -- three more
      refine ⟨_, rfl, .inl ⟨rfl, _, SqL.at g9⟩, _, rfl, _, rfl, _, rfl, _, rfl, ?_⟩
      refine slF b9.hf b9.hN fun v10 K1 t1 d10 => ?_
      have e10 : cutD [.str "new9", .str p0, .str pl] none (some 2) = [.str "new9", .str p0] := by rfl
      rw [e10] at d10
      have b10 := b9.mono t1
      have A10 := A9.mono (hid_mono t1)
      have g10 := t1 _ _ g9
      refine ⟨by show 1 ≤ sizeLine; decide, fun q1 hq1 => ?_⟩
      have c1 := tupF (K := K) b10.hf hq1 (.cons (.str "lone9") .nil)
      have t2 : Same K1 (upd K1 q1 (.tup [.str "lone9"])) := Same.new hq1
      have b10 := b10.mono t2
      refine catF b10.hf (d10.mono (hid_mono t2)) c1 (by show 2 + 1 ≤ 100000; decide) fun v11 K2 t3 d11 => ?_
      have b11 := b10.mono t3
      refine ⟨by show 1 ≤ sizeLine; decide, fun q2 hq2 => ?_⟩
      have c2 := tupF (K := K) b11.hf hq2 (.cons d11 .nil)
      have t4 : Same K2 (upd K2 q2 (.tup [v11])) := Same.new hq2
      have b11 := b11.mono t4
      refine catF b11.hf b11.hR c2 (by rw [List.length_map]; show _ + 1 ≤ _; omega) fun v12 K3 t5 d12 => ?_
      have b12 := b11.mono t5
      refine ⟨by show 2 ≤ sizeLine; decide, fun q3 hq3 => ?_⟩
      have x10 := tupF (K := K) b12.hf hq3 (.cons b12.hP (.cons d12 .nil))
      have t6 : Same K3 (upd K3 q3 (.tup [.ref pp, v12])) := Same.new hq3
      have b13 := b12.mono t6
      have tt := (((t1.trans t2).trans t3).trans t4).trans (t5.trans t6)
      have A13 := A9.mono (hid_mono tt)
      have g13 := tt _ _ g9
      have G1 : DpAll K _ [_] [_] := .cons x10 .nil
      generalize upd K3 q3 (.tup [.ref pp, v12]) = K4 at G1 b13 A13 g13 tt
      clear x10 c1 c2 d10 d11 d12 t1 t2 t3 t4 t5 t6
      -- 11
      refine ⟨_, rfl, _, rfl, _, rfl, _, rfl, by show 3 ≤ sizeLine; decide, fun q1 hq1 => ⟨by show 1 ≤ sizeLine; decide, fun q2 hq2 => ?_⟩⟩
      have c1 := tupF (K := K) b13.hf hq1 (.cons (.str "new9") (.cons (.str p0) (.cons (.str p0) .nil)))
      have t1 : Same K4 (upd K4 q1 (.tup [.str "new9", .str p0, .str p0])) := Same.new hq1
      have b14 := b13.mono t1
      have c2 := tupF (K := K) b14.hf hq2 (.cons c1 .nil)
      have t2 : Same (upd K4 q1 (.tup [.str "new9", .str p0, .str p0])) (upd (upd K4 q1 (.tup [.str "new9", .str p0, .str p0])) q2 (.tup [.ref q1])) := Same.new hq2
      have b14 := b14.mono t2
      refine catF b14.hf b14.hR c2 (by rw [List.length_map]; show _ + 1 ≤ _; omega) fun v12 K5 t3 d12 => ?_
      have b14 := b14.mono t3
      refine ⟨by show 2 ≤ sizeLine; decide, fun q3 hq3 => ?_⟩
      have x11 := tupF (K := K) b14.hf hq3 (.cons b14.hP (.cons d12 .nil))
      have t4 : Same K5 (upd K5 q3 (.tup [.ref pp, v12])) := Same.new hq3
      have b15 := b14.mono t4
      have tt := ((t1.trans t2).trans t3).trans t4
      have A15 := A13.mono (hid_mono tt)
      have g15 := tt _ _ g13
      have G2 := (G1.mono (hid_mono tt)).snoc x11
      generalize upd K5 q3 (.tup [.ref pp, v12]) = K6 at G2 b15 A15 g15 tt
      clear x11 c1 c2 d12 t1 t2 t3 t4
      -- 12
      refine ⟨_, rfl, by show 1 ≤ sizeLine; decide, fun q1 hq1 => ?_⟩
      have c1 := tupF (K := K) b15.hf hq1 (.cons (.str "Lone") .nil)
      have t1 : Same K6 (upd K6 q1 (.tup [.str "Lone"])) := Same.new hq1
      have b16 := b15.mono t1
      refine catF b16.hf b16.hP c1 (by rw [List.length_map]; show _ + 1 ≤ _; omega) fun v12 K7 t2 d12 => ?_
      have b16 := b16.mono t2
      refine ⟨_, rfl, by show 2 ≤ sizeLine; decide, fun q3 hq3 => ?_⟩
      have x12 := tupF (K := K) b16.hf hq3 (.cons d12 (.cons b16.hR .nil))
      have t3 : Same K7 (upd K7 q3 (.tup [v12, vR])) := Same.new hq3
      have b17 := b16.mono t3
      have tt := (t1.trans t2).trans t3
      have A17 := A15.mono (hid_mono tt)
      have g17 := tt _ _ g15
      have G3 := (G2.mono (hid_mono tt)).snoc x12
      have fK : K7 f = K7 f := rfl
      generalize upd K7 q3 (.tup [v12, vR]) = K8 at G3 b17 A17 g17 tt
      clear x12 c1 d12 t1 t2 t3
      have B12 := ((B8.snoc (bad10 o m0 hlone)).snoc (bad11 o m0)).snoc (bad12 o)
      have hSZ : S ∈ [S, f] := by simp
      refine ext_bad b17 A17 G3 g17 hSZ Sf (by show 9 + 3 ≤ 1000; decide) fun L0 b18 A18 g18 => ?_
      clear b17 A17 G3 g17 b16 b15 A15 g15 G2 b14 b13 A13 g13 G1 b12 b11 b10 A10 g10 b9 A9 g9
      -- 13
      refine ⟨_, rfl, .inl ⟨rfl, _, SqL.at g18⟩, _, rfl, _, rfl, _, rfl, _, rfl, ?_⟩
      refine slF b18.hf b18.hN fun v1 L1 t1 d1 => ?_
      have e2 : cutD [.str "new9", .str p0, .str pl] none (some 2) = [.str "new9", .str p0] := by rfl
      rw [e2] at d1
      have b19 := b18.mono t1
      refine ⟨by show 1 ≤ sizeLine; decide, fun q1 hq1 => ?_⟩
      have c1 := tupF (K := K) b19.hf hq1 (.cons d1 .nil)
      have t2 : Same L1 (upd L1 q1 (.tup [v1])) := Same.new hq1
      have b19 := b19.mono t2
      refine catF b19.hf b19.hR c1 (by rw [List.length_map]; show _ + 1 ≤ _; omega) fun v2 L2' t3 d2 => ?_
      have b19 := b19.mono t3
      refine ⟨by show 2 ≤ sizeLine; decide, fun q3 hq3 => ?_⟩
      have x13 := tupF (K := K) b19.hf hq3 (.cons b19.hP (.cons d2 .nil))
      have t4 : Same L2' (upd L2' q3 (.tup [.ref pp, v2])) := Same.new hq3
      have b20 := b19.mono t4
      have tt := ((t1.trans t2).trans t3).trans t4
      have A20 := A18.mono (hid_mono tt)
      have g20 := tt _ _ g18
      have G1 : DpAll K _ [_] [_] := .cons x13 .nil
      generalize upd L2' q3 (.tup [.ref pp, v2]) = L3 at G1 b20 A20 g20 tt
      clear x13 c1 d1 d2 t1 t2 t3 t4
      -- 14
      refine ⟨_, rfl, _, rfl, _, rfl, _, rfl, ?_⟩
      refine slF b20.hf b20.hN fun v1 L4 t1 d1 => ?_
      rw [e2] at d1
      have b21 := b20.mono t1
      obtain ⟨nwa, nxs, enw, hn1, hn2⟩ := b21.hN.tupI
      cases enw
      have enx : nxs = [V.str "new9", .str p0, .str pl] := DpAll.strs (l := ["new9", p0, pl]) hn2
      subst enx
      refine ⟨_, rfl, nw, _, _, _, rfl, rfl, hid_same.seqT hn1, ix2, by show 1 ≤ sizeLine; decide, fun q1 hq1 => ⟨by show 1 ≤ sizeLine; decide, fun q2 hq2 => ?_⟩⟩
      have c1 := lstF (K := K) b21.hf hq1 (.cons (.str pl) .nil)
      have t2 : Same L4 (upd L4 q1 (.lst [.str pl])) := Same.new hq1
      have b21 := b21.mono t2
      have c2 := tupF (K := K) b21.hf hq2 (.cons c1 .nil)
      have t3 : Same (upd L4 q1 (.lst [.str pl])) (upd (upd L4 q1 (.lst [.str pl])) q2 (.tup [.ref q1])) := Same.new hq2
      have b21 := b21.mono t3
      refine catF b21.hf (d1.mono (hid_mono (t2.trans t3))) c2 (by show 2 + 1 ≤ 100000; decide) fun v2 L5 t4 d2 => ?_
      have b21 := b21.mono t4
      refine ⟨by show 1 ≤ sizeLine; decide, fun q3 hq3 => ?_⟩
      have c3 := tupF (K := K) b21.hf hq3 (.cons d2 .nil)
      have t5 : Same L5 (upd L5 q3 (.tup [v2])) := Same.new hq3
      have b21 := b21.mono t5
      refine catF b21.hf b21.hR c3 (by rw [List.length_map]; show _ + 1 ≤ _; omega) fun v3 L6 t6 d3 => ?_
      have b21 := b21.mono t6
      refine ⟨by show 2 ≤ sizeLine; decide, fun q4 hq4 => ?_⟩
      have x14 := tupF (K := K) b21.hf hq4 (.cons b21.hP (.cons d3 .nil))
      have t7 : Same L6 (upd L6 q4 (.tup [.ref pp, v3])) := Same.new hq4
      have b22 := b21.mono t7
      have tt := (((t1.trans t2).trans t3).trans t4).trans ((t5.trans t6).trans t7)
      have A22 := A20.mono (hid_mono tt)
      have g22 := tt _ _ g20
      have G2 := (G1.mono (hid_mono tt)).snoc x14
      generalize upd L6 q4 (.tup [.ref pp, v3]) = L7 at G2 b22 A22 g22 tt
      clear x14 c1 c2 c3 d1 d2 d3 t1 t2 t3 t4 t5 t6 t7 hn1 hn2
      -- 15
      refine ⟨_, rfl, _, rfl, _, rfl, ?_⟩
      refine slF b22.hf b22.hP fun v1 L8 t1 d1 => ?_
      have e15 : cutD (W.P.map PyData.str) none (some (-1)) = (W.P.map PyData.str).dropLast := cut_init (by simpa using hPne)
      rw [e15] at d1
      have b23 := b22.mono t1
      obtain ⟨ppa, pxs, epp, hq1, hq2⟩ := b23.hP.tupI
      cases epp
      rw [hq2.strs] at hq1
      have atL' : atI (W.P.map V.str) (-1) = some (.str pl) := atL
      refine ⟨_, rfl, _, rfl, pp, _, _, _, rfl, rfl, hid_same.seqT hq1, atL', by show 1 ≤ sizeLine; decide, fun r1 hr1 => ⟨by show 1 ≤ sizeLine; decide, fun r2 hr2 => ?_⟩⟩
      have c1 := lstF (K := K) b23.hf hr1 (.cons (.str pl) .nil)
      have t2 : Same L8 (upd L8 r1 (.lst [.str pl])) := Same.new hr1
      have b23 := b23.mono t2
      have c2 := tupF (K := K) b23.hf hr2 (.cons c1 .nil)
      have t3 : Same (upd L8 r1 (.lst [.str pl])) (upd (upd L8 r1 (.lst [.str pl])) r2 (.tup [.ref r1])) := Same.new hr2
      have b23 := b23.mono t3
      refine catF b23.hf (d1.mono (hid_mono (t2.trans t3))) c2 (by rw [List.length_dropLast, List.length_map]; show _ + 1 ≤ _; omega) fun v2 L9 t4 d2 => ?_
      have b23 := b23.mono t4
      refine ⟨_, rfl, by show 2 ≤ sizeLine; decide, fun r3 hr3 => ?_⟩
      have x15 := tupF (K := K) b23.hf hr3 (.cons d2 (.cons b23.hR .nil))
      have t5 : Same L9 (upd L9 r3 (.tup [v2, vR])) := Same.new hr3
      have b24 := b23.mono t5
      have tt := ((t1.trans t2).trans t3).trans (t4.trans t5)
      have A24 := A22.mono (hid_mono tt)
      have g24 := tt _ _ g22
      have G3 := (G2.mono (hid_mono tt)).snoc x15
      generalize upd L9 r3 (.tup [v2, vR]) = M0 at G3 b24 A24 g24 tt
      clear x15 c1 c2 d1 d2 t1 t2 t3 t4 t5 hq1 hq2
      have B15 := ((B12.snoc (bad13 o m0)).snoc (bad14 o m0 (xs := [.str pl]))).snoc (bad15 o (xs := [.str pl]))
      refine ext_bad b24 A24 G3 g24 hSZ Sf (by show 12 + 3 ≤ 1000; decide) fun M1 b25 A25 g25 => ?_
      clear b24 A24 G3 g24 b23 b22 A22 g22 G2 b21 b20 A20 g20 G1 b19 b18 A18 g18
      have fin : ∀ (H' : Hp) (xs : List V) (ds : List PyData) (D' : Ends), NwB K H H' f [S, f] W (.ref a) (.ref pp) vR (.ref nw) p0 pl → DpAll K (hid H' [S, f]) xs ds → Bads ds → H' S = some (.lst xs) → xs ≠ [] → xs.length ≤ 1000 → D'.rt = Q →
          aRet (aCall (sp_law_one K) E0 (aCons (aVar 0) (aCons (aVar 6) aNil))) D' [some (.ref f), some (.ref a), some (.ref pp), some vR, some (.str p0), some (.ref nw), some (.ref S)] H' := by
        intro H' xs ds D' b A Bd g hne hl er
        obtain ⟨fa, fb, fc, z1, z2⟩ := hfd
        refine ⟨_, rfl, _, rfl, f, S, xs, n, rfl, ⟨fa, fb, fc, b.ff _ z1, z2⟩, SqL.at g, Sf, hne, by omega, fun H2 x sb hf2 _ hx => ?_⟩
        obtain ⟨i, hi⟩ := List.getElem?_of_mem hx
        obtain ⟨d, hd, hdp⟩ := A.get' hi
        show D'.rt x H2
        rw [er]
        refine q H2 x d ?_ hf2 ((hdp.mono (hid_less.trans hid_wo)).mono sb) (Bd d (mem_at hd))
        refine SameB.trans (H1 := H') (fun c u e => ?_) sb
        obtain ⟨e1, e2⟩ := wo_some e
        have cS : c ≠ S := ne_of_none e2 hHS
        rw [wo_ne e1]
        exact (hid_some (b.s c u (by rw [hid_ne (by simp [cS, e1])]; exact e2))).2
      -- if there are roads
      refine ⟨_, rfl, Nat.zero_le _, fun e0 he0 => ?_⟩
      have te : Same M1 (upd M1 e0 (.tup [])) := Same.new he0
      refine ⟨.tuple (W.R.map roadD), .tuple [], (b25.hR.mono hid_same).mono te, .tup (xs := []) (SqT.at upd_same) .nil, shaped_roads o, rfl, _, rfl, ?_⟩
      have b25 := b25.mono te
      have A25 := A25.mono (hid_mono te)
      have g25 := te _ _ g25
      generalize upd M1 e0 (.tup []) = M2 at te b25 A25 g25
      rw [eqv_empty]
      refine ite2 (fun c => ?_) (fun c => ?_)
      · have hRne : W.R ≠ [] := fun e => by rw [e] at c; revert c; decide
        obtain ⟨Ri, rl, eR⟩ := last_split hRne
        have mrl : rl ∈ W.R := by rw [eR]; simp
        have eRd : W.R.map roadD = Ri.map roadD ++ [roadD rl] := by rw [eR, List.map_append]; rfl
        have cutL : cutD (W.R.map roadD) (some (-1)) none = [roadD rl] := by rw [eRd]; exact cut_last
        have cutI : cutD (W.R.map roadD) none (some (-1)) = (W.R.map roadD).dropLast := cut_init (by simpa using hRne)
        -- 16
        refine ⟨_, rfl, .inl ⟨rfl, _, SqL.at g25⟩, _, rfl, _, rfl, _, rfl, _, rfl, _, rfl, ?_⟩
        refine slF b25.hf b25.hR fun v1 N1 t1 d1 => ?_
        rw [cutL] at d1
        have b26 := b25.mono t1
        refine catF b26.hf b26.hR d1 (by rw [List.length_map]; show _ + 1 ≤ _; omega) fun v2 N2 t2 d2 => ?_
        have b26 := b26.mono t2
        refine ⟨by show 2 ≤ sizeLine; decide, fun q1 hq1 => ?_⟩
        have x16 := tupF (K := K) b26.hf hq1 (.cons b26.hP (.cons d2 .nil))
        have t3 : Same N2 (upd N2 q1 (.tup [.ref pp, v2])) := Same.new hq1
        have b27 := b26.mono t3
        have tt := (t1.trans t2).trans t3
        have A27 := A25.mono (hid_mono tt)
        have g27 := tt _ _ g25
        have G1 : DpAll K _ [_] [_] := .cons x16 .nil
        generalize upd N2 q1 (.tup [.ref pp, v2]) = N3 at G1 b27 A27 g27 tt
        clear x16 d1 d2 t1 t2 t3
        -- 17
        refine ⟨_, rfl, _, rfl, _, rfl, _, rfl, ?_⟩
        refine slF b27.hf b27.hR fun v1 N4 t1 d1 => ?_
        rw [cutI] at d1
        have b28 := b27.mono t1
        obtain ⟨ra, rxs, eva, hr1, hr2⟩ := b28.hR.tupI
        subst eva
        rw [eRd] at hr2
        obtain ⟨rs0, vl, ers, hvl⟩ := dp_last hr2
        subst ers
        refine ⟨_, rfl, _, rfl, ra, _, _, _, rfl, rfl, hid_same.seqT hr1, atI_last _ _, ?_⟩
        refine listF b28.hf (ds := [.str rl.1, .str rl.2.1, .str rl.2.2]) hvl fun l1 N5 t2 d2 => ?_
        have b28 := b28.mono t2
        refine ⟨by show 1 ≤ sizeLine; decide, fun q1 hq1 => ?_⟩
        have c1 := tupF (K := K) b28.hf hq1 (.cons d2 .nil)
        have t3 : Same N5 (upd N5 q1 (.tup [.ref l1])) := Same.new hq1
        have b28 := b28.mono t3
        refine catF b28.hf (d1.mono (hid_mono (t2.trans t3))) c1 (by rw [List.length_dropLast, List.length_map]; show _ + 1 ≤ _; omega) fun v2 N6 t4 d3 => ?_
        have b28 := b28.mono t4
        refine ⟨by show 2 ≤ sizeLine; decide, fun q2 hq2 => ?_⟩
        have x17 := tupF (K := K) b28.hf hq2 (.cons b28.hP (.cons d3 .nil))
        have t5 : Same N6 (upd N6 q2 (.tup [.ref pp, v2])) := Same.new hq2
        have b29 := b28.mono t5
        have tt := ((t1.trans t2).trans t3).trans (t4.trans t5)
        have A29 := A27.mono (hid_mono tt)
        have g29 := tt _ _ g27
        have G2 := (G1.mono (hid_mono tt)).snoc x17
        have hr1 := (hid_mono (Z := [S, f]) (((t2.trans t3).trans t4).trans t5)).seqT hr1
        have hvl := hvl.mono (hid_mono (Z := [S, f]) (((t2.trans t3).trans t4).trans t5))
        generalize upd N6 q2 (.tup [.ref pp, v2]) = N7 at G2 b29 A29 g29 tt hr1 hvl
        clear x17 d1 d2 d3 c1 t1 t2 t3 t4 t5
        -- 18
        refine ⟨_, rfl, _, rfl, _, rfl, _, rfl, ?_⟩
        refine slF b29.hf b29.hR fun v1 N8 t1 d1 => ?_
        rw [cutI] at d1
        have b30 := b29.mono t1
        have hr1 := (hid_mono (Z := [S, f]) t1).seqT hr1
        have hvl := hvl.mono (hid_mono (Z := [S, f]) t1)
        refine ⟨_, rfl, _, rfl, ra, _, _, _, rfl, rfl, hid_same.seqT hr1, atI_last _ _, by show 1 ≤ sizeLine; decide, fun q1 hq1 => ?_⟩
        have c1 := tupF (K := K) b30.hf hq1 (.cons (.int 1) .nil)
        have t2 : Same N8 (upd N8 q1 (.tup [.int 1])) := Same.new hq1
        have b30 := b30.mono t2
        refine catF b30.hf (ds := [.str rl.1, .str rl.2.1, .str rl.2.2]) (hvl.mono (hid_mono t2)) c1 (by show 3 + 1 ≤ 100000; decide) fun v2 N9 t3 d2 => ?_
        have b30 := b30.mono t3
        refine ⟨by show 1 ≤ sizeLine; decide, fun q2 hq2 => ?_⟩
        have c2 := tupF (K := K) b30.hf hq2 (.cons d2 .nil)
        have t4 : Same N9 (upd N9 q2 (.tup [v2])) := Same.new hq2
        have b30 := b30.mono t4
        refine catF b30.hf (d1.mono (hid_mono ((t2.trans t3).trans t4))) c2 (by rw [List.length_dropLast, List.length_map]; show _ + 1 ≤ _; omega) fun v3 O1 t5 d3 => ?_
        have b30 := b30.mono t5
        refine ⟨by show 2 ≤ sizeLine; decide, fun q3 hq3 => ?_⟩
        have x18 := tupF (K := K) b30.hf hq3 (.cons b30.hP (.cons d3 .nil))
        have t6 : Same O1 (upd O1 q3 (.tup [.ref pp, v3])) := Same.new hq3
        have b31 := b30.mono t6
        have tt := ((t1.trans t2).trans t3).trans ((t4.trans t5).trans t6)
        have A31 := A29.mono (hid_mono tt)
        have g31 := tt _ _ g29
        have G3 := (G2.mono (hid_mono tt)).snoc x18
        generalize upd O1 q3 (.tup [.ref pp, v3]) = O2 at G3 b31 A31 g31 tt
        have B18 := ((B15.snoc (bad16 o mrl)).snoc (bad17 o (xs := [.str rl.1, .str rl.2.1, .str rl.2.2]))).snoc (bad18 o (i := 1) mrl)
        refine ext_bad b31 A31 G3 g31 hSZ Sf (by show 15 + 3 ≤ 1000; decide) fun O3 b32 A32 g32 => ?_
        exact fin O3 _ _ _ b32 A32 B18 g32 (by simp) (by show 15 + 3 ≤ 1000; decide) rfl
      · exact fin M2 _ _ _ b25 A25 B15 g25 (by simp) (by show 15 ≤ 1000; decide) rfl
end
end R
set_option maxHeartbeats 4000000
/-! webs that are no trees -/
namespace R
open PySem PySem.Spec PyProof.Rows L2
/-- what best_tree_rota must refuse: as no web (b false), as no tree (b true) -/
def Refu (d : PyData) (b : Bool) : Prop := smallD d = true ∧ (b = false → isWebB d = false) ∧ (b = true → ∃ W, d = W.d ∧ WebOk W ∧ ∀ t, IsTreeB W t → t = false)
theorem Bad.refu {d : PyData} (h : Bad d) : Refu d false := ⟨h.2, fun _ => h.1, fun e => by cases e⟩
def moreW (W : Web) (P' : List Str) (R' : List Road) : Web := ⟨P', R'⟩
/-- a tree and one road more -/
theorem more_road {W : Web} {d : Str → Str → Nat} {many : Nat} (D : Drawn W many) (T : TreeD W d) {x y : Str} (hx : x ∈ W.P) (hy : y ∈ W.P) (ne : x ≠ y) : Refu (.tuple [strsT W.P, .tuple (W.R.map roadD ++ [roadD (("new9" : Str), x, y)])]) true := by
  have o := D.ok
  have n9 : ("new9" : Str) ∉ W.names := (D.new (by decide +kernel)).1
  have e : PyData.tuple [strsT W.P, .tuple (W.R.map roadD ++ [roadD (("new9" : Str), x, y)])] = (moreW W W.P (W.R ++ [(("new9" : Str), x, y)])).d := by
    unfold moreW Web.d
    rw [List.map_append]; rfl
  have ok : WebOk (moreW W W.P (W.R ++ [(("new9" : Str), x, y)])) := {
    p1 := o.p1
    p10 := o.p10
    r14 := by
      have := T.cnt
      have := o.p10
      show (W.R ++ [_]).length ≤ 14
      rw [List.length_append]
      show W.R.length + 1 ≤ 14
      omega
    pn := o.pn
    pd := o.pd
    rn := by
      show ((W.R ++ [(("new9" : Str), x, y)]).map (·.1)).all nameOk = true
      rw [List.map_append, List.all_append]
      have : (W.R.map (·.1)).all nameOk = true := o.rn
      rw [this]
      show (true && ([("new9" : Str)].all nameOk)) = true
      rw [List.all_cons, nine_ok.1]; rfl
    rd := by
      show ((W.R ++ [(("new9" : Str), x, y)]).map (·.1)).Nodup
      rw [List.map_append]
      exact nd_snoc o.rd n9
    re := fun r hr => by
      rcases List.mem_append.mp hr with h | h
      · exact o.re r h
      · have : r = (("new9" : Str), x, y) := by simpa using h
        rw [this]; exact ⟨hx, hy, ne⟩ }
  refine ⟨by rw [e]; exact ok.small, fun k => (by cases k), fun _ => ⟨_, e, ok, fun t ht => ht.count ?_⟩⟩
  have := T.cnt
  show (W.R ++ [_]).length + 1 ≠ W.P.length
  rw [List.length_append]
  show W.R.length + 1 + 1 ≠ W.P.length
  omega
/-- some of a tree's places, one more that no road reaches, some roads more -/
theorem lone_web {W : Web} {many : Nat} (D : Drawn W many) {tw : List Road} (htw : ∀ r ∈ tw, r.2.1 ∈ W.P.take 9 ∧ r.2.2 ∈ W.P.take 9 ∧ r.2.1 ≠ r.2.2) (nn : (tw.map (·.1)).Nodup) (hn : ∀ r ∈ tw, r.1 = "new0" ∨ r.1 = "new1" ∨ r.1 = "new2")
    (hl : (W.R.filter fun r => decide (r.2.1 ∈ W.P.take 9) && decide (r.2.2 ∈ W.P.take 9)).length + tw.length ≤ 14) :
    Refu (moreW W (W.P.take 9 ++ [("lone9" : Str)]) ((W.R.filter fun r => decide (r.2.1 ∈ W.P.take 9) && decide (r.2.2 ∈ W.P.take 9)) ++ tw)).d true := by
  have o := D.ok
  have l9 : ("lone9" : Str) ∉ W.P := (D.new (by decide +kernel)).2
  have l9' : ("lone9" : Str) ∉ W.P.take 9 := fun k => l9 (List.mem_of_mem_take k)
  have sub : ∀ x ∈ W.P.take 9, x ∈ W.P := fun x hx => List.mem_of_mem_take hx
  have p1 := o.p1
  have fl : ∀ r ∈ (W.R.filter fun r => decide (r.2.1 ∈ W.P.take 9) && decide (r.2.2 ∈ W.P.take 9)), r ∈ W.R ∧ r.2.1 ∈ W.P.take 9 ∧ r.2.2 ∈ W.P.take 9 := fun r hr => by
    rw [List.mem_filter, Bool.and_eq_true, decide_eq_true_eq, decide_eq_true_eq] at hr
    exact hr
  have ends : ∀ r ∈ (W.R.filter fun r => decide (r.2.1 ∈ W.P.take 9) && decide (r.2.2 ∈ W.P.take 9)) ++ tw, r.2.1 ∈ W.P.take 9 ∧ r.2.2 ∈ W.P.take 9 ∧ r.2.1 ≠ r.2.2 := fun r hr => by
    rcases List.mem_append.mp hr with h | h
    · obtain ⟨a, b, c⟩ := fl r h
      exact ⟨b, c, (o.re r a).2.2⟩
    · exact htw r h
  have ok : WebOk (moreW W (W.P.take 9 ++ [("lone9" : Str)]) ((W.R.filter fun r => decide (r.2.1 ∈ W.P.take 9) && decide (r.2.2 ∈ W.P.take 9)) ++ tw)) := {
    p1 := by show 1 ≤ (W.P.take 9 ++ [("lone9" : Str)]).length; rw [List.length_append]; exact Nat.le_add_left 1 _
    p10 := by show (W.P.take 9 ++ [("lone9" : Str)]).length ≤ 10; rw [List.length_append, List.length_take]; show min 9 W.P.length + 1 ≤ 10; omega
    r14 := by show (_ ++ tw).length ≤ 14; rw [List.length_append]; exact hl
    pn := by
      show (W.P.take 9 ++ [("lone9" : Str)]).all nameOk = true
      refine List.all_eq_true.mpr fun x hx => ?_
      rcases List.mem_append.mp hx with h | h
      · exact List.all_eq_true.mp o.pn x (sub x h)
      · have : x = "lone9" := by simpa using h
        rw [this]; exact nine_ok.2.1
    pd := nd_snoc (o.pd.sublist (List.take_sublist _ _)) l9'
    rn := by
      show ((_ ++ tw).map (fun r : Road => r.1)).all nameOk = true
      refine List.all_eq_true.mpr fun x hx => ?_
      obtain ⟨r, hr, rfl⟩ := List.mem_map.mp hx
      rcases List.mem_append.mp hr with h | h
      · exact List.all_eq_true.mp o.rn r.1 (List.mem_map.mpr ⟨r, (fl r h).1, rfl⟩)
      · rcases hn r h with e | e | e <;> rw [e]
        · exact nine_ok.2.2.2.1
        · exact nine_ok.2.2.2.2.1
        · exact nine_ok.2.2.2.2.2
    rd := by
      show ((_ ++ tw).map (fun r : Road => r.1)).Nodup
      rw [List.map_append, List.nodup_append]
      refine ⟨?_, nn, fun a ha b hb e => ?_⟩
      · have h : W.names.Nodup := o.rd
        unfold Web.names at h
        exact h.sublist (List.Sublist.map _ List.filter_sublist)
      · obtain ⟨r, hr, e1⟩ := List.mem_map.mp ha
        obtain ⟨s, hs, e2⟩ := List.mem_map.mp hb
        have ra : a ∈ W.names := List.mem_map.mpr ⟨r, (fl r hr).1, e1⟩
        rw [e, ← e2] at ra
        rcases hn s hs with e3 | e3 | e3 <;> rw [e3] at ra
        · exact (D.new (x := "new0") (by decide +kernel)).1 ra
        · exact (D.new (x := "new1") (by decide +kernel)).1 ra
        · exact (D.new (x := "new2") (by decide +kernel)).1 ra
    re := fun r hr => by
      obtain ⟨a, b, c⟩ := ends r hr
      exact ⟨List.mem_append_left _ a, List.mem_append_left _ b, c⟩ }
  refine ⟨ok.small, fun k => (by cases k), fun _ => ⟨_, rfl, ok, fun t ht => ?_⟩⟩
  obtain ⟨p0, Pt, eP⟩ : ∃ p0 Pt, W.P = p0 :: Pt := by
    cases h : W.P with
    | nil => rw [h] at p1; cases p1
    | cons p0 Pt => exact ⟨p0, Pt, rfl⟩
  refine ht.lone (z := "lone9") (p0 := p0) ?_ ?_ ?_ ?_
  · show (W.P.take 9 ++ [("lone9" : Str)]).head? = some p0
    rw [eP]; rfl
  · exact List.mem_append_right _ (by simp)
  · intro e
    exact l9 (by rw [eP, ← e]; exact List.mem_cons_self)
  · intro r hr
    obtain ⟨a, b, _⟩ := ends r hr
    exact ⟨fun e => l9' (e ▸ a), fun e => l9' (e ▸ b)⟩
end R
set_option maxHeartbeats 4000000
/-! a tuple the other way about -/
namespace HT
open PySem PySem.Spec PyProof.Rows
section
variable {prog : Program} {w : World} {A : Around} {E : Value → Shared → Prop} {s : Shared}
theorem k47_applied_rev {sl : Addr} {t : Tok} {n : Nat} {Q : Int × Int × Nat → Shared → Prop} (hs : s.heap.IsSliceOf sl .none .none (.int (-1) t))
    (h : Q ((n : Int) - 1, -1, n) s) : wpAny (model prog w) A (Builtin.Slice.sliceApplied (.ref sl) (pure (n : Int))) Q E s := by
  obtain ⟨os, hos, hcs, hds⟩ := id hs
  unfold Builtin.Slice.sliceApplied Builtin.Slice.sliceFields
  refine wpAny_bind (wpAny_bind (wpAny_field hos hds (x := .none) rfl (wpAny_bind (wpAny_field hos hds (x := .none) rfl (wpAny_bind (wpAny_field hos hds (x := .int (-1) t) rfl (wpAny_pure ?_)))))))
  refine wpAny_bind (slicePart_int ?_)
  show wpAny _ _ (if ((-1 : Int) == 0) = true then _ else _) _ _ s
  rw [if_neg (by decide)]
  refine wpAny_bind (slicePart_none (wpAny_bind (slicePart_none (wpAny_bind (wpAny_pure ?_)))))
  show wpAny _ _ (match Builtin.Slice.sliceAdjust none none (-1) (n : Int) with | (lo, hi) => pure (lo, (-1 : Int), Builtin.Slice.slicePlaces lo hi (-1))) _ _ s
  have e : Builtin.Slice.sliceAdjust none none (-1) (n : Int) = ((n : Int) - 1, -1) := by
    unfold Builtin.Slice.sliceAdjust
    simp
  rw [e]
  show wpAny _ _ (pure ((n : Int) - 1, (-1 : Int), Builtin.Slice.slicePlaces ((n : Int) - 1) (-1) (-1))) _ _ s
  have e2 : Builtin.Slice.slicePlaces ((n : Int) - 1) (-1) (-1) = n := by
    unfold Builtin.Slice.slicePlaces
    simp
    omega
  rw [e2]
  exact wpAny_pure h
theorem k47_pick_rev (xs : Array Value) : ((List.range xs.size).filterMap fun (k : Nat) => xs[(((xs.size : Nat) : Int) - 1 + (k : Int) * (-1)).toNat]?).toArray = xs.toList.reverse.toArray := by
  have e : (fun (k : Nat) => xs[(((xs.size : Nat) : Int) - 1 + (k : Int) * (-1)).toNat]?) = (fun i => xs[i]?) ∘ fun k => xs.size - 1 - k := by
    funext k
    have : (((xs.size : Nat) : Int) - 1 + (k : Int) * (-1)).toNat = xs.size - 1 - k := by omega
    show xs[(((xs.size : Nat) : Int) - 1 + (k : Int) * (-1)).toNat]? = xs[xs.size - 1 - k]?
    rw [this]
  rw [e, ← List.filterMap_map, PySem.W.krv_range, List.filterMap_reverse, PySem.W.krv_all]
theorem k47_getItem_rev {t sl : Addr} {items : Array Value} {k : Tok} {Q : Value → Shared → Prop} (ht : IsTup s.heap t items) (hs : s.heap.IsSliceOf sl .none .none (.int (-1) k))
    (h : Q (.ref s.heap.objs.size) { s with heap := s.heap.push { cls := .type "tuple", data := .seq items.toList.reverse.toArray } })
    (hsz : items.size ≤ sizeLine) : wpAny (model prog w) A (getItem (.ref t) (.ref sl)) Q E s := by
  have htake : sizeOk (.seq items.toList.reverse.toArray) := by
    show items.toList.reverse.toArray.size ≤ sizeLine
    rw [List.size_toArray, List.length_reverse, Array.length_toList]; exact hsz
  obtain ⟨os, hos, hcs, hds⟩ := id hs
  have hTs : s.TypeIs (.ref sl) "slice" := ⟨os, hos, hcs⟩
  unfold getItem
  try with_reducible refine wpAny_holding ?_
  first | refine wpAny_bind (wpAny_pure ?_) | skip
  refine wpAny_bind (wpAny_sequenceKey ht.typeIs (by decide) ?_)
  refine wpAny_bind (wpAny_callSpecial?_slot (name := Str.ofString "__getitem__") ht.typeIs PyProof.Rows.slot_tuple_getitem
    (wpAny_call_entry PyProof.Rows.slot_tuple_getitem ht.typeIs entry_tuple_getitem ?_ (args_tuple_getitem _ _)))
  show wpAny _ _ (Builtin.Tuple.tupleItemsOf (.ref t) >>= _) _ _ s
  refine wpAny_bind (tupleItemsOf_ ht ?_)
  refine wpAny_bind (wpAny_typeOf hTs ?_)
  rw [if_pos (by decide)]
  refine wpAny_bind (k47_applied_rev hs ?_)
  have hno : ¬ (((((items.size : Nat) : Int) - 1) == 0 && (-1 : Int) == 1 && items.size == items.size) = true) := by
    rw [Bool.and_eq_true, Bool.and_eq_true]
    rintro ⟨⟨_, h⟩, _⟩
    exact absurd h (by decide)
  show wpAny _ _ (if ((((items.size : Nat) : Int) - 1) == 0 && (-1 : Int) == 1 && items.size == items.size) = true then _ else _) _ _ s
  rw [if_neg hno, k47_pick_rev]
  first
    | exact wpAny_bind (m := Builtin.Tuple.tupleExact _) (wpAny_newObj_type (wpAny_pure ⟨_, rfl, wpAny_pure h⟩) htake)
    | exact wpAny_bind (m := Builtin.Tuple.tupleExact _) (wpAny_newObj_type (wpAny_bind (wpAny_pure (wpAny_pure ⟨_, rfl, wpAny_pure h⟩))) htake)
    | exact wpAny_bind (wpAny_bind (m := Builtin.Tuple.tupleExact _) (wpAny_newObj_type (wpAny_pure (wpAny_pure ⟨_, rfl, wpAny_pure h⟩)) htake))
    | exact wpAny_bind (wpAny_bind (m := Builtin.Tuple.tupleExact _) (wpAny_newObj_type (wpAny_pure ⟨_, rfl, wpAny_pure h⟩) htake))
end
end HT
namespace R
open PySem PySem.Spec PyProof.Rows L2
abbrev aRev (K : PySem.W.Frag) (te : L2.TE) : L2.TE := fun σ H Q => te σ H fun x H1 => ∃ a xs, x = .ref a ∧ SqT K H1 a xs ∧ ∀ p, H1 p = none → Q (.ref p) (upd H1 p (.tup xs.reverse))
theorem pe_revT {X : Cx} {e : Expr} {te : L2.TE} {j} {p1 p2 p3 p4 : Pos} (he : PE X e te) : PE X (.Subscript e (.Slice none none (some (.UnaryOp .USub (.Constant (.int 1) j p1) p2)) p3) p4) (aRev X.K te) := by
  refine ⟨fun pins s σ H Q I h => ?_⟩
  refine Subscript_ (thn (he.run pins s σ H _ I h) fun v s1 ⟨x, H1, I1, r1, q1⟩ => ?_)
  have hstep : PO X (some (.UnaryOp .USub (.Constant (.int 1) j p1) p2)) (aPart (aUn (rU fun i => .int (-i)) (aC (.int 1)))) := ao_some (ae_un un_neg ae_int)
  refine wpAny_Slice ?_
  rw [evalPart_none]
  refine wpAny_pure ?_
  refine wpAny_pure ?_
  refine thn (hstep.run pins s1 σ H1 (fun o H' => o = some (-1) ∧ H' = H1) I1 ⟨_, rfl, _, rfl, rfl, rfl⟩) fun u s2 ⟨o, H2, I2, pu, eo, eH⟩ => ?_
  subst eo eH
  cases pu with
  | int _ tk =>
    obtain ⟨a, xs, rfl, hx, q⟩ := q1
    cases r1
    have I4 : Inv X pins σ H2 { s2 with heap := s2.heap.push { cls := .type "slice", data := .fields #[.none, .none, .int (-1) tk] } } := I2.kept (t' := s2.toks) fun b ob q => Heap.get?_push_of_some _ q
    obtain ⟨its, r, ht, hz⟩ := I4.tuple hx
    have hlen : its.length = xs.length := r.length.symm
    show wpAny (model X.prog X.w) X.A (subscriptTail e (.Slice none none (some (.UnaryOp .USub (.Constant (.int 1) j p1) p2)) p3) (.ref a) (.ref s2.heap.objs.size)) (EP X pins σ Q) X.xe _
    refine tail_any (ops := [.ref a, .ref s2.heap.objs.size]) ht.typeIs PyProof.Rows.slot_tuple_getitem.lookup (HT.k47_getItem_rev ht (Heap.IsSliceOf.new ..) ?_ (by rw [List.size_toArray]; omega)) (by with_unfolding_all rfl)
    refine ⟨.ref _, _, I4.laid (t' := s2.toks) (fun b o e => Heap.get?_push_of_some _ e) (Nat.le_refl _) (show ObjOk X.prog X.w _ _ _ (.tup xs.reverse) from ⟨by rw [List.length_reverse]; exact hz, its.reverse, r.reverse, IsTup.new _ _⟩), rfl, q _ (I4.hok.fresh (Nat.le_refl _))⟩
end R
set_option maxHeartbeats 4000000
namespace R
open PySem PySem.Spec PyProof.Rows L2
variable {P : Program} {w : World} {K : PySem.W.Frag} {mg : Str → Option Value} {base : Heap}
def sp_law_bad_tree (K : PySem.W.Frag) : Sp := fun vs H Q _ => ∃ (f : Addr) (v : V) (W : Web) (d : Str → Str → Nat) (many n : Nat), vs = [.ref f, v] ∧ Feed H f (n + 40) ∧ WebZ K H v W ∧ Drawn W many ∧ TreeD W d ∧
  ∀ H' x dt b, SameB f H H' → Feed H' f n → Dp K (wo H' f) x (.tuple [dt, .bool b]) → Refu dt b → Q x H'
def sp_law_flags (K : PySem.W.Frag) : Sp := fun vs H Q _ => ∃ v dt b, vs = [v] ∧ Dp K H v dt ∧ Refu dt b ∧ ∀ H' x, Same H H' → Dp K H' x (.list [.bool (!b), .bool b]) → Q x H'
def sp_law_refused_right (K : PySem.W.Frag) : Sp := fun vs H Q _ => ∃ (f : Addr) (v : V) (W : Web) (d : Str → Str → Nat) (many n : Nat), vs = [.ref f, v] ∧ Feed H f (n + 300) ∧ WebZ K H v W ∧ Drawn W many ∧ TreeD W d ∧
  ∀ H', SameB f H H' → Feed H' f n → Q (.bl true) H'
theorem shaped_bls {b c : Bool} : SeqAt.shaped (.list [.bool b, .bool c]) = true := by cases b <;> cases c <;> rfl
theorem eqv_bls {b c : Bool} : PyData.eqv (.list [.bool b, .bool c]) (.list [.bool b, .bool c]) = true := by cases b <;> cases c <;> rfl
theorem sized_refu {W : Web} {many : Nat} (D : Drawn W many) (h : W.R.length + 1 ≠ W.P.length) : Refu W.d true := ⟨D.ok.small, fun e => (by cases e), fun _ => ⟨W, rfl, D.ok, fun t ht => ht.count h⟩⟩
theorem ok_law_refused_right (F : DefAt K mg "_law_refused_right" s_law_refused_right ["_law_feed_here", "_law_web"]) (B : Blt mg) (G_law_draw : Ok P w K mg base CX0 1 "_law_draw" ["_law_feed_here", "_law_many"] (sp_law_draw K)) (G_law_sized : Ok P w K mg base CX0 4 "_law_sized" ["_law_feed_here", "_law_many", "_law_more"] (sp_law_sized K))
    (G_law_bad_tree : Ok P w K mg base CX0 5 "_law_bad_tree" ["_law_feed_here", "_law_web"] (sp_law_bad_tree K)) (G_law_flags : Ok P w K mg base CX0 8 "_law_flags" ["_law_web"] (sp_law_flags K)) : Ok P w K mg base CX0 9 "_law_refused_right" ["_law_feed_here", "_law_web"] (sp_law_refused_right K) := by
  refine ok_of F sc_law_refused_right (fun vs H Q E h => by obtain ⟨_, _, _, _, _, _, rfl, _⟩ := h; rfl) fun f cdv A outer s H vs Q E hr h => ?_
  obtain ⟨f, v, W, d, many, n, rfl, hf, hz, D, T, q⟩ := h
  refine ⟨_, (ass_cons (as_asg (ae_co G_law_bad_tree hr pass0 (aa_cons (av 0) (aa_cons (av 1) aa_nil))) (pgT K rfl (pgs_cons (pg_name (i := 2) sc_law_refused_right.nd rfl (Or.inl rfl)) (pgs_cons (pg_name (i := 3) sc_law_refused_right.nd rfl (Or.inl rfl)) pgs_nil))))
    (ass_cons (as_if (at_cmpR (neD K (hu := hu64 hr)) (ae_co G_law_flags hr pass0 (aa_cons (av 2) aa_nil)) (ae_lst (aa_cons (ae_not (av 3)) (aa_cons (av 3) aa_nil))) (nomark _))
      (pss_one (as_ret ae_bl))
      ass_nil)
    (ass_cons (as_set (i := 4) sc_law_refused_right.nd rfl (Or.inl rfl) (ae_op op_add ae_int (ae_co G_law_draw hr pass0 (aa_cons (av 0) (aa_cons ae_int aa_nil)))))
    (pss_one (as_ret (ae_cmpR (eqD K (hu := hu64 hr)) (ae_co G_law_flags hr pass0 (aa_cons (ae_co G_law_sized hr pass0 (aa_cons (av 0) (aa_cons (av 4) (aa_cons (ae_op op_add ae_int (ae_co G_law_draw hr pass0 (aa_cons (av 0) (aa_cons ae_int aa_nil)))) aa_nil)))) aa_nil)) (ae_lst (aa_cons ae_bl (aa_cons ae_bl aa_nil))) (nomark _))))))), ?_⟩
  refine ⟨_, rfl, _, rfl, f, v, W, d, many, n + 260, rfl, hf.less (by omega), hz, D, T, fun H1 x dt b sb1 hf1 hx R1 => ?_⟩
  obtain ⟨xa, xs, rfl, hxa, hxs⟩ := hx.tupI
  cases hxs with | cons h1 hxs => ?_
  cases hxs with | cons h2 hxs => ?_
  cases hxs
  have := h2.blI
  subst this
  refine ⟨xa, _, rfl, wo_same.seqT hxa, ?_⟩
  refine ⟨rfl, ?_⟩
  refine ⟨_, _, rfl, _, _, rfl, rfl, ?_⟩
  refine ⟨_, rfl, _, dt, b, rfl, h1.mono wo_same, R1, fun H2 x2 s2 hd2 => ?_⟩
  refine ⟨_, rfl, _, rfl, _, rfl, by show 2 ≤ sizeLine; decide, fun p hp => ?_⟩
  have s3 : Same H2 (upd H2 p (.lst [.bl (!b), .bl b])) := Same.new hp
  have gp : upd H2 p (.lst [.bl (!b), .bl b]) p = some (.lst [.bl (!b), .bl b]) := upd_same
  refine ⟨_, _, hd2.mono s3, .lst (SqL.at gp) (.cons (.bl _) (.cons (.bl _) .nil)), shaped_bls, shaped_bls, _, rfl, ?_⟩
  rw [eqv_bls]
  have sb3 := sb1.trans (R.Same.b (f := f) (s2.trans s3))
  have hf3 := hf1.mono (s2.trans s3)
  generalize upd H2 p (.lst [.bl (!b), .bl b]) = H3 at sb3 hf3
  refine ⟨_, rfl, f, 9, n + 259, rfl, hf3.less (by omega), by decide, by decide, fun H4 r sb4 hf4 _ r0 r9 => ?_⟩
  obtain ⟨k, rfl⟩ := Int.eq_ofNat_of_zero_le r0
  refine ⟨_, _, rfl, rfl, ?_⟩
  refine ⟨_, rfl, _, rfl, _, rfl, f, 4, n + 258, rfl, hf4.less (by omega), by decide, by decide, fun H5 r' sb5 hf5 _ r0' r4 => ?_⟩
  obtain ⟨m, rfl⟩ := Int.eq_ofNat_of_zero_le r0'
  refine ⟨_, _, rfl, rfl, f, 2 + k, 1 + m, n + 58, by rw [show ((2 + k : Nat) : Int) = 2 + (k : Int) by omega, show ((1 + m : Nat) : Int) = 1 + (m : Int) by omega]; rfl, hf5.less (by omega), by omega, by omega, by omega, fun H6 v6 W6 sb6 hf6 hz6 D6 _ ne6 => ?_⟩
  refine ⟨v6, W6.d, true, rfl, hz6.at_.dp, sized_refu D6 (ne6 (by omega) (by omega)), fun H7 x7 s7 hd7 => ?_⟩
  refine ⟨by show 2 ≤ sizeLine; decide, fun p7 hp7 => ?_⟩
  have s8 : Same H7 (upd H7 p7 (.lst [.bl false, .bl true])) := Same.new hp7
  have gp7 : upd H7 p7 (.lst [.bl false, .bl true]) p7 = some (.lst [.bl false, .bl true]) := upd_same
  refine ⟨_, _, hd7.mono s8, .lst (SqL.at gp7) (.cons (.bl _) (.cons (.bl _) .nil)), shaped_bls, shaped_bls, ?_⟩
  have ee : PyData.eqv (.list [.bool (!true), .bool true]) (.list [.bool false, .bool true]) = true := eqv_bls
  rw [ee]
  exact q _ ((((sb3.trans sb4).trans sb5).trans sb6).trans (R.Same.b (f := f) (s7.trans s8))) ((hf6.mono (s7.trans s8)).less (by omega))
end R
set_option maxHeartbeats 4000000
namespace R
open PySem PySem.Spec PyProof.Rows L2
variable {P : Program} {w : World} {K : PySem.W.Frag} {mg : Str → Option Value} {base : Heap} {cW cT : Addr}
theorem min_is {H : Hp} {L : Addr} {l : List Int} {m : Int} {Q : VK} (hL : SqL K H L (l.map V.int)) (hm : m ∈ l) (hle : ∀ y ∈ l, m ≤ y) (q : Q (.int m) H) : rMin K [.ref L] H Q :=
  ⟨L, l, rfl, hL, List.length_pos_of_mem hm, fun m' h1 h2 => by
    have : m' = m := Int.le_antisymm (h2 m hm) (hle m' h1)
    rw [this]; exact q⟩
theorem max_is {H : Hp} {L : Addr} {l : List Int} {m : Int} {Q : VK} (hL : SqL K H L (l.map V.int)) (hm : m ∈ l) (hle : ∀ y ∈ l, y ≤ m) (q : Q (.int m) H) : rMax K [.ref L] H Q :=
  ⟨L, l, rfl, hL, List.length_pos_of_mem hm, fun m' h1 h2 => by
    have : m' = m := Int.le_antisymm (hle m' h1) (h2 m hm)
    rw [this]; exact q⟩
theorem small_log {n : Nat} (h : n < 1920) : ((n : Nat) : Int).natAbs.log2 < 1920 := by
  rw [Int.natAbs_natCast]
  exact Nat.lt_of_le_of_lt (Nat.log2_le_self n) h
theorem least_small {W : Web} {d : Str → Str → Nat} (ok : WebOk W) (T : TreeD W d) {n : Nat} {x y : Str} (F : Far W d n x y) : leastN W n < 1920 := by
  have h1 := T.lt F.hx F.hy
  rw [F.eq] at h1
  have := ok.p10
  unfold leastN
  split <;> omega
/-- best_tree_rota of a tree -/
theorem best_of {W : Web} {d : Str → Str → Nat} {H : Hp} {v : V} {Q : VK} {E : XK} (ok : WebOk W) (hz : WebZ K H v W) (T : TreeD W d) (q : ∀ H' v', Same H H' → Far W d (fN W d) (fX W d) (fY W d) → Dp K H' v' (strsT (bestR W d)) → Q v' H') : sp_best_tree_rota K cW cT [v] H Q E := by
  refine ⟨_, W.d, rfl, hz.at_.dp, ok.small, fun c => (by rw [isWeb_web ok] at c; cases c), fun W' b e o hb hbt => ?_, fun W' b e o hb hbt => ?_⟩
  · have : W = W' := web_inj e
    subst this
    rw [hb.tree T] at hbt
    cases hbt
  · have : W = W' := web_inj e
    subst this
    exact ⟨d, T, hz, q⟩
def sp_law_small_right (K : PySem.W.Frag) : Sp := fun vs H Q _ => ∃ (f : Addr) (v : V) (W : Web) (d : Str → Str → Nat), vs = [.ref f, v] ∧ WebOk W ∧ WebZ K H v W ∧ TreeD W d ∧ W.R.length ≤ 6 ∧ ∀ H', Same H H' → Q (.bl true) H'
theorem ok_law_small_right (F : DefAt K mg "_law_small_right" s_law_small_right ["_law_feed_here", "_law_web"]) (B : Blt mg) (G_law_unlike : Ok P w K mg base CX0 2 "_law_unlike" ["_law_web"] (sp_law_unlike K)) (G_law_greatest : Ok P w K mg base CX0 2 "_law_greatest" ["_law_web", "_law_rota"] (sp_law_greatest K))
    (G_best_tree_rota : Ok P w K mg base (L2.CX P w) 7 "best_tree_rota" ["web"] (sp_best_tree_rota K cW cT)) (G_least_slowest : Ok P w K mg base CX0 6 "least_slowest" ["web"] (sp_least_slowest K)) (G_law_distances : Ok P w K mg base CX0 1 "_law_distances" ["_law_web"] (sp_law_distances K)) (G_kept_best : Ok P w K mg base CX0 7 "kept_best" ["web", "rota"] (sp_kept_best K)) :
    Ok P w K mg base CX0 8 "_law_small_right" ["_law_feed_here", "_law_web"] (sp_law_small_right K) := by
  refine ok_of F sc_law_small_right (fun vs H Q E h => by obtain ⟨_, _, _, _, rfl, _⟩ := h; rfl) fun f cdv A outer s H vs Q E hr h => ?_
  obtain ⟨f, v, W, d, rfl, ok, hz, T, r6, q⟩ := h
  refine ⟨_, (ass_cons (ps_setLc (i := 2) (own := [("_law_rota", 5)]) (g := (gName 5)) (tt := tYes) rfl sc_law_small_right.nd rfl rfl (sw_true rfl rfl rfl (by decide +kernel)) (piL K (ae_co G_law_unlike hr pass0 (aa_cons (av 1) aa_nil))) (blkOk_by (own := [("_law_rota", 5)]) (N := n_law_small_right) (sc := (defScope s_law_small_right)) (by decide +kernel)) (fun _ _ _ _ _ => (pg_name (i := 5) sc_law_small_right.nd rfl (Or.inl rfl))) (fun _ _ _ _ _ => pts_nil) (fun _ _ _ _ _ => (ae_co G_law_greatest hr pass0 (aa_cons (av 1) (aa_cons (av 5) aa_nil)))))
    (ass_cons (as_set (i := 3) sc_law_small_right.nd rfl (Or.inl rfl) (ae_co G_best_tree_rota hr passL (aa_cons (av 1) aa_nil)))
    (ass_cons (as_if (PW.pt (aw_or (at_cmpR op_ne (ae_co G_law_greatest hr pass0 (aa_cons (av 1) (aa_cons (av 3) aa_nil))) (ae_callB (minL K rfl) (by rfl) B.min_ (by decide +kernel) (aa_cons (av 2) aa_nil)) (nomark _)) (pw_or1 (at_cmpR op_ne (ae_callB SkE.call_repr_int (by rfl) B.repr_ (by decide +kernel) (aa_cons (ae_co G_least_slowest hr pass0 (aa_cons (av 1) aa_nil)) aa_nil)) (ae_callB SkE.call_repr_int (by rfl) B.repr_ (by decide +kernel) (aa_cons (ae_callB (minL K rfl) (by rfl) B.min_ (by decide +kernel) (aa_cons (av 2) aa_nil)) aa_nil)) (nomark _)))))
      (pss_one (as_ret ae_bl))
      ass_nil)
    (ass_cons (as_set (i := 4) sc_law_small_right.nd rfl (Or.inl rfl) (ae_callB (maxL K rfl) (by rfl) B.max_ (by decide +kernel) (aa_cons (pe_lc (own := [("_law_row", 6)]) (g := (gName 6)) (tt := tYes) rfl sc_law_small_right.nd (piL K (ae_co G_law_distances hr pass0 (aa_cons (av 1) aa_nil))) (blkOk_by (own := [("_law_row", 6)]) (N := n_law_small_right) (sc := (defScope s_law_small_right)) (by decide +kernel)) (fun _ _ _ _ _ => (pg_name (i := 6) sc_law_small_right.nd rfl (Or.inl rfl))) (fun _ _ _ _ _ => pts_nil) (fun _ _ _ _ _ => (ae_callB (maxL K rfl) (by rfl) B.max_ (by decide +kernel) (aa_cons (av 6) aa_nil)))) aa_nil)))
    (pss_one (as_ret (ae_and (pe_cmp (ac_isN (ae_co G_kept_best hr pass0 (aa_cons (av 1) (aa_cons (av 3) aa_nil)))) rfl) (pe_one (ae_cmpR op_eq (ae_callB (maxL K rfl) (by rfl) B.max_ (by decide +kernel) (aa_cons (av 2) aa_nil)) (av 4) (nomark _)))))))))), ?_⟩
  refine ⟨_, rfl, v, W, rfl, hz.at_, T.toWf, r6, fun H1 L l s1 nL hd ll lok lcov => ?_⟩
  obtain ⟨L', xs, e, hL, hxs⟩ := hd.lstI
  cases e
  have xl : xs.length = l.length := by rw [hxs.length, List.length_map]
  refine ⟨L, rfl, ⟨_, hL⟩, fun D hD => ?_⟩
  refine lc_lstD (K := K) (a := L) (xs := xs) (l.map fun rt => .int (greatN (yRows W d rt))) hD hL (by rw [List.length_map, xl]) (by omega) ?_ ?_
  · intro i x e H2 acc Q2 u1 hD2 hx he k
    obtain ⟨rt, hrt, rfl⟩ := at_map he
    have hdx := (hxs.both hx (map_at hrt)).mono u1
    refine ⟨rfl, ?_⟩
    exact ⟨_, rfl, _, rfl, v, x, W, d, rt, rfl, hz.mono (s1.trans u1), T, lok rt (mem_at hrt), hdx, fun H3 s3 => k _ _ s3 (.int _)⟩
  intro H2 ys s2 hy hda
  have eys : ys = (l.map fun rt => greatN (yRows W d rt)).map V.int := DpAll.ints (by rw [List.map_map]; exact hda)
  subst eys
  have s02 := s1.trans s2
  -- the best one
  refine ⟨_, rfl, best_of ok (hz.mono s02) T fun H3 vb s3 G hdb => ?_⟩
  obtain ⟨n, x, y, FF⟩ := far_ex T
  obtain ⟨okb, gb⟩ := gr_best T G FF
  obtain ⟨m1, m2, m3⟩ := gr_min T G FF lok fun rt hR => by
    obtain ⟨rt', h1, h2⟩ := lcov rt hR
    exact ⟨rt', h1, fun a ha b hb => ord_alike T hR (lok rt' h1) h2 ha hb⟩
  have lg := small_log (least_small ok T FF)
  have s03 := s02.trans s3
  -- none is better
  refine ⟨_, rfl, _, rfl, v, vb, W, d, bestR W d, rfl, hz.mono s03, T, okb, hdb, fun H4 s4 => ?_⟩
  have s04 := s03.trans s4
  refine ⟨_, rfl, min_is (SqL.at ((s3.trans s4) _ _ hy)) m1 (fun z hz => (m3 z hz).1) ?_⟩
  refine ⟨rfl, _, rfl, ?_⟩
  rw [gb, decide_eq_true rfl]
  refine ite2 (fun c => absurd c (by decide)) fun _ => ?_
  refine ⟨_, rfl, v, W, d, rfl, ok, (hz.mono s04).at_.dp, T, fun H5 n' x' y' s5 F5 => ?_⟩
  have en := F5.one FF
  subst en
  have s05 := s04.trans s5
  refine ⟨_, rfl, lg, _, rfl, min_is (SqL.at (((s3.trans s4).trans s5) _ _ hy)) m1 (fun z hz => (m3 z hz).1) ?_⟩
  refine ⟨_, rfl, lg, rfl, _, rfl, ?_⟩
  rw [decide_eq_true rfl]
  refine ite2 (fun c => absurd c (by decide)) fun _ => ?_
  -- far
  refine ⟨_, rfl, _, W, d, rfl, (hz.mono s05).at_, T, fun H6 v6 s6 hd6 => ?_⟩
  obtain ⟨L6, xs6, rfl, hL6, hx6⟩ := hd6.lstI
  refine ⟨L6, rfl, ⟨_, hL6⟩, fun D6 hD6 => ?_⟩
  have ml1 : (dRows W d).length ≤ 100000 := by
    unfold dRows
    rw [List.length_map]
    have := ok.p10
    omega
  refine lc_maxes (m := dRows W d) hD6 hL6 hx6 (dRows_ne T.pne) ml1 (fun _ => rfl) (fun _ => rfl) fun H7 s7 hD7 => ?_
  refine max_ints (SqL.at hD7) (by unfold dRows; simpa using T.pne) ?_
  have eg : mx ((dRows W d).map mx) = (n' : Nat) := great_rows FF T
  rw [eg]
  have s67 := s6.trans s7
  have s07 := s05.trans s67
  -- kept_best
  refine ⟨_, rfl, _, rfl, v, vb, W, d, bestR W d, rfl, ok, hz.mono s07, T, okb, hdb.mono ((s4.trans s5).trans s67), fun n'' x'' y'' F' => (gr_best T G F').2, fun H8 s8 => ?_⟩
  refine ⟨_, rfl, ?_⟩
  rw [decide_eq_true rfl]
  refine ite2 (fun _ => ?_) (fun c => absurd rfl c)
  refine ⟨_, rfl, max_is (SqL.at ((((s3.trans s4).trans s5).trans (s67.trans s8)) _ _ hy)) m2 (fun z hz => (m3 z hz).2) ?_⟩
  refine ⟨_, rfl, rfl, ?_⟩
  rw [decide_eq_true rfl]
  exact q H8 (s07.trans s8)
end R
set_option maxHeartbeats 4000000
/-! repr of a tuple of texts: where no repr is under way; defs that are called there; a call by name -/
namespace R
open PySem PySem.Spec PyProof.Rows L2
section
variable {X : Cx}
def rReprT (K : PySem.W.Frag) : List V → Hp → VK → Prop := fun xs H Q => ∃ v d, xs = [v] ∧ Dp K H v (.tuple d) ∧ (PyData.tuple d).showable = true ∧ (PyData.tuple d).hasDict = false ∧ (PyData.tuple d).depth ≤ 8 ∧ (PyData.tuple d).shown.length ≤ sizeLine ∧ Q (.str (PyData.tuple d).shown) H
theorem reprT {k : Nat} (K : PySem.W.Frag) (hr : Room k X.A) (hg : X.A.guards = some []) (hK : X.K = K := by rfl) : CallR X (.builtin "repr") (rReprT K) := by
  subst hK
  intro pins s σ H xs us Q I r h
  obtain ⟨v, d, rfl, hd, hs, hn, hdp, hl, q⟩ := h
  obtain ⟨u, rfl, r1⟩ := vals1 r
  obtain ⟨as, rd⟩ := Dp.reads I _ _ _ hd r1
  obtain ⟨a, xs, rfl, _, _⟩ := hd.tupI
  cases (show u = Value.ref a from r1)
  have hu := hr.units
  exact repr_of_reads' rd hs (fun z => by rw [hn] at z; cases z) hg (by omega) (fun _ _ e => e) (fun h' u tk hk => ⟨.str _, H, I.kept hk, ⟨_, rfl⟩, q⟩) hl
end
theorem show_strs : ∀ l : List Str, PyData.showableAll (l.map PyData.str) = true
  | [] => rfl
  | x :: l => by
    show (PyData.showable (.str x) && PyData.showableAll (l.map PyData.str)) = true
    rw [show_strs l]; rfl
theorem nodict_strs : ∀ l : List Str, PyData.hasDictAll (l.map PyData.str) = false
  | [] => rfl
  | x :: l => by
    show (PyData.hasDict (.str x) || PyData.hasDictAll (l.map PyData.str)) = false
    rw [nodict_strs l]; rfl
theorem shown_strs : ∀ l : List Str, PyData.shownAll (l.map PyData.str) = l.map reprText
  | [] => rfl
  | x :: l => by
    show reprText x :: PyData.shownAll (l.map PyData.str) = _
    rw [shown_strs l]; rfl
theorem reprs_small : ∀ x ∈ namesL, (reprText x).length ≤ 20 := by decide +kernel
theorem sum_small : ∀ {l : List Str}, (∀ x ∈ l, x ∈ namesL) → ((l.map reprText).map (·.length)).sum ≤ 20 * l.length
  | [], _ => Nat.le_refl _
  | x :: l, h => by
    have ih := sum_small (l := l) fun y hy => h y (List.mem_cons_of_mem _ hy)
    have h1 := reprs_small x (h x List.mem_cons_self)
    simp only [List.map_cons, List.sum_cons, List.length_cons]
    omega
theorem repr_strs {K : PySem.W.Frag} {H : Hp} {v : V} {l : List Str} {Q : VK} (h : Dp K H v (strsT l)) (hn : ∀ x ∈ l, x ∈ namesL) (hl : l.length ≤ 1000) (q : Q (.str (strsT l).shown) H) : rReprT K [v] H Q := by
  refine ⟨v, l.map .str, rfl, h, show_strs l, nodict_strs l, ?_, ?_, q⟩
  · show PyData.depthAll (l.map PyData.str) + 1 ≤ 8
    rw [depth_strs]; decide
  · show (tupleText (PyData.shownAll (l.map PyData.str))).length ≤ sizeLine
    rw [shown_strs]
    have h1 := tupleText_len_le (l.map reprText)
    have h2 := sum_small hn
    have h3 : sizeLine = 16777216 := sizeLine_eq
    rw [List.length_map] at h1
    omega
/-! ### defs that are called where no repr is under way -/
structure FnG (P : Program) (w : World) (K : PySem.W.Frag) (mg : Str → Option Value) (base : Heap) (k : Nat) (f : Addr) (fd : FuncData) (ps : List Str) (sp : Sp) : Prop where
  len : ∀ vs H Q E, sp vs H Q E → vs.length = ps.length
  run : ∀ (A : Around) (outer : List Env) (s : Shared) (H : Hp) (args : Args) (us : List Value) (vs : List V) (Q : VK) (E : XK), A.guards = some [] → Room k A → Env0 P w K mg base A outer s H → BindsTo s fd args (ps.zip us) → Vals vs us → sp vs H Q E →
    codeAny (model P w) A (.call (.ref f) args) (CR CX0 outer P w H s Q E) s
def OkG (P : Program) (w : World) (K : PySem.W.Frag) (mg : Str → Option Value) (base : Heap) (k : Nat) (x : Str) (ps : List Str) (sp : Sp) : Prop :=
  ∃ f fd, mg x = some (.ref f) ∧ PySem.W.keepIn K (.ref f) = true ∧ Binds K fd ps [] ∧ FnG P w K mg base k f fd ps sp
section
variable {P : Program} {w : World} {K : PySem.W.Frag} {mg : Str → Option Value} {base : Heap}
theorem okG_of {x : Str} {st : Stmt} {N ps : List Str} {k : Nat} {sp : Sp} (F : DefAt K mg x st ps) (S : FnScope N ps (defScope st)) (len : ∀ vs H Q E, sp vs H Q E → vs.length = ps.length)
    (hbody : ∀ (f : Addr) (cdv : Value) (A : Around) (outer : List Env) (s : Shared) (H : Hp) (vs : List V) (Q : VK) (E : XK), A.guards = some [] → Room k (A.deeper (envOfC x (defScope st) s.heap.objs.size f cdv)) → sp vs H Q E →
      ∃ t, PSs (cxOf CX0 P w K mg base N x (defScope st) f cdv A outer s H E).nox (defBody st) t ∧ t { nx := fun _ H' => Q .non H', rt := Q } (L2.start N vs) H) : OkG P w K mg base (k + 1) x ps sp := by
  obtain ⟨f, fd, F1, b, g⟩ := F
  refine ⟨f, fd, g, F1.kp, b, len, fun A outer s H args us vs Q E hG hr e0 hb r hsp => ?_⟩
  obtain ⟨oc, od, kV, doc, pm, an, cdv, ct, osl, rfl, lk, hcd⟩ := F1.ex
  have hl := len _ _ _ _ hsp
  have KX : K.In s.heap := e0.mod.kin.keeps fun b o e => (e0.bs b o e).1
  have lim : s.heap.NoLimit := e0.mod.nolimit.keeps fun b o e => (e0.bs b o e).1
  refine codeAny_call_function hr.depth (KX _ _ lk) rfl S.co S.gen rfl (PySem.W.codeRec_of KX hcd) (hb _ _ _ _ ?_)
  refine wpAny_newFunctionEnv_cells S.kind (fun y hy => ?_) fun env he s1 x1 => ?_
  · obtain ⟨n, v⟩ := y
    rcases S.par n (List.of_mem_zip hy).1 with q | q
    · exact .inl q
    · exact .inr ⟨q, PySem.W.cellsFrom_some _ _ _ (.inl q)⟩
  subst he
  refine ⟨lim.keeps x1.toInCall.keep, codeAny_func ?_⟩
  obtain ⟨t, ht, hq⟩ := hbody f cdv A outer s H vs Q E hG (hr.deeper _) hsp
  have I : Inv (cxOf CX0 P w K mg base N x (defScope st) f cdv A outer s H E) [] (L2.start N vs) H s1 := inv_start S hr.hd e0 hl r x1
  refine wpAny_mono (ht.nox.run [] s1 (L2.start N vs) H _ I hq) (fun fl s' hs => ?_) fun e s' hs => hs
  cases fl with
  | ret u =>
    obtain ⟨v, σ', H', J, rv, q⟩ := hs
    exact ⟨v, H', J.os, J.bare, J.base, J.hok, rv, q⟩
  | next =>
    obtain ⟨σ', H', J, q⟩ := hs
    exact ⟨V.non, H', J.os, J.bare, J.base, J.hok, rfl, q⟩
  | brk =>
    obtain ⟨_, _, _, q⟩ := hs
    exact q.elim
  | cont =>
    obtain ⟨_, _, _, q⟩ := hs
    exact q.elim
end
section
variable {X : Cx} {k j : Nat} {ps : List Str} {sp : Sp} {x : Str} {p pos kpos : Pos} {e : Expr} {es : List Expr} {t : TA} {te : L2.TE}
theorem ae_coG (G : OkG X.prog X.w X.K X.mg X.base j x ps sp) (hg0 : X.A.guards = some []) (hr : Room k X.A) (ha : PA X (e :: es) t) (hjk : j ≤ k := by decide) (hg : Gl X x := by rfl)
    (hdb : (x == ("__debug__" : Str)) = false := by decide) (he : starEach (e :: es) X.env = (false, eval e X.env) :: starEach es X.env := by rfl) (hpl : (backTo pos (starEach es X.env)).any (·.1) = false := by rfl) :
    PE X (.Call (.Name x p) (e :: es) [] pos) (aCall sp E0 t) := by
  obtain ⟨f, fd, g, kp, b, F⟩ := G
  refine ⟨fun pins s σ H Q I h => ?_⟩
  refine wpAny_Call_Name_kw (ld_glob I hg g ?_ hdb)
  refine PySem.W.callWith_K (h₀ := X.base) I.ok.mod.kin kp (thn (ha.run pos pins s σ H _ I h) fun us s1 ⟨vs, H1, I1, r, q⟩ => ⟨I1.kIn, ?_⟩) he hpl
  have q : sp (vs ++ []) H1 Q E0 := q
  rw [List.append_nil] at q
  have hl : us.length = ps.length := by rw [← r.length]; exact F.len _ _ _ _ q
  have bd := b s1 us I1.kIn (by rw [List.append_nil]; exact hl)
  rw [List.append_nil] at bd
  show wpAny _ _ (call (.ref f) us) _ _ _
  refine wpAny_call (codeAny_mono (F.run X.A X.stack s1 H1 ⟨us, []⟩ us vs Q E0 hg0 (hr.mono hjk) I1.env0 bd r q) fun r s' hq => ?_)
  cases r with
  | error e => exact hq.elim
  | ok fl =>
    cases fl with
    | ret u => exact I1.after hq
    | next => exact False.elim hq
    | brk => exact False.elim hq
    | cont => exact False.elim hq
/-! ### a call by name -/
/-- as Ok, of a def of one parameter, which may be given by its name -/
def OkK (P : Program) (w : World) (K : PySem.W.Frag) (mg : Str → Option Value) (base : Heap) (CX : CXT) (k : Nat) (x y : Str) (sp : Sp) : Prop :=
  ∃ f fd, mg x = some (.ref f) ∧ PySem.W.keepIn K (.ref f) = true ∧ Binds K fd [y] [] ∧ FnOk P w K mg base CX k f fd [y] sp ∧ ∀ u, bindArgs fd ⟨[], [(y, u)]⟩ = pure [(y, u)]
theorem OkK.ok {P : Program} {w : World} {K : PySem.W.Frag} {mg : Str → Option Value} {base : Heap} {CX : CXT} {x y : Str} (G : OkK P w K mg base CX k x y sp) : Ok P w K mg base CX k x [y] sp := by
  obtain ⟨f, fd, g, kp, b, F, _⟩ := G
  exact ⟨f, fd, g, kp, b, F⟩
theorem okXK_of {P : Program} {w : World} {K : PySem.W.Frag} {mg : Str → Option Value} {base : Heap} {x y : Str} {st : Stmt} {N : List Str} (F : DefAt K mg x st [y])
    (kb : ∀ (kV doc pm : Value) (an : Option Addr) (cdv ct u : Value), bindArgs (PySem.W.fnOf x x (defArgs st) (defBody st) (defScope st) .none kV doc pm an cdv ct) ⟨[], [(y, u)]⟩ = pure [(y, u)]) (S : FnScope N [y] (defScope st)) (len : ∀ vs H Q E, sp vs H Q E → vs.length = [y].length)
    (hbody : ∀ (f : Addr) (cdv : Value) (A : Around) (outer : List Env) (s : Shared) (H : Hp) (vs : List V) (Q : VK) (E : XK), Room k (A.deeper (envOfC x (defScope st) s.heap.objs.size f cdv)) → sp vs H Q E →
      ∃ t, PSs (cxOf (L2.CX P w) P w K mg base N x (defScope st) f cdv A outer s H E) (defBody st) t ∧ t { nx := fun _ H' => Q .non H', rt := Q } (L2.start N vs) H) : OkK P w K mg base (L2.CX P w) (k + 1) x y sp := by
  obtain ⟨f, fd, F1, b, g⟩ := F
  refine ⟨f, fd, g, F1.kp, b, F1.okX S len fun cdv A outer s H vs Q E => hbody f cdv A outer s H vs Q E, fun u => ?_⟩
  obtain ⟨oc, od, kV, doc, pm, an, cdv, ct, osl, rfl, _, _⟩ := F1.ex
  exact kb kV doc pm an cdv ct u
def kwOnly {α : Type} : List α → List α → List α
  | [], ws => ws
  | _ :: _, _ => []
theorem kbinds1 {K : PySem.W.Frag} {fd : FuncData} {y : Str} (h : ∀ u, bindArgs fd ⟨[], [(y, u)]⟩ = pure [(y, u)]) : KBinds K fd [y] [y] kwOnly kwOnly := by
  refine ⟨fun s us ws _ hl => ?_, fun {vs us zs ws} r rz => ?_⟩
  · match us, ws, hl with
    | [], [u], _ => exact .of_eq (h u)
    | [], [], hl => exact absurd hl (by simp [kwOnly])
    | [], _ :: _ :: _, hl => exact absurd hl (by simp [kwOnly])
    | _ :: _, _, hl => exact absurd hl (by simp [kwOnly])
  · cases r with
    | nil => exact rz
    | cons _ _ => exact .nil
abbrev aKw (sp : Sp) (E : XK) (te : L2.TE) : L2.TE := fun σ H Q => te σ H fun z H1 => sp [z] H1 Q E
theorem pe_kw {CX : CXT} {E : XK} {y : Str} (G : OkK X.prog X.w X.K X.mg X.base CX j x y sp) (hr : Room k X.A) (hx : Passes CX X E) (ha : PE X e te) (hjk : j ≤ k := by decide) (hg : Gl X x := by rfl) (hdb : (x == ("__debug__" : Str)) = false := by decide)
    (hall : (backToKw pos (keywordEach [⟨some y, e, kpos⟩] X.env)).all (·.1.isSome) = true := by rfl) (hks : (backToKw pos (keywordEach [⟨some y, e, kpos⟩] X.env)).filterMap (·.1) = [y] := by rfl)
    (hpl : ((backTo pos (starEach [] X.env)).any (·.1) || (backToKw pos (keywordEach [⟨some y, e, kpos⟩] X.env)).any (·.1.isNone)) = false := by rfl) :
    PE X (.Call (.Name x p) [] [⟨some y, e, kpos⟩] pos) (aKw sp E te) := by
  obtain ⟨f, fd, g, kp, b, F, kb⟩ := G
  refine ⟨fun pins s σ H Q I h => ?_⟩
  refine wpAny_Call_Name_kw (ld_glob I hg g ?_ hdb)
  have hk : PK X [⟨some y, e, kpos⟩] (aCons te aNil) := pk_cons ha pk_nil
  refine PySem.W.callWith_KW0 (h₀ := X.base) I.ok.mod.kin kp hall (thn (hk.run pos pins s σ H (fun zs H2 => sp (kwOnly [] zs) H2 Q E) I h) fun ws s2 ⟨zs, H2, I2, rz, q2⟩ => ⟨I2.kIn, ?_⟩) hpl
  rw [hks]
  exact run_fnk F (hr.mono hjk) (kbinds1 kb) hx I2 .nil rz q2
end
section
variable {P : Program} {w : World} {K : PySem.W.Frag} {mg : Str → Option Value} {base : Heap} {cW cT : Addr}
theorem okK_best_tree_rota (F : DefAt K mg "best_tree_rota" s_best_tree_rota ["web"]) (G_need_tree : Ok P w K mg base (L2.CX P w) 5 "need_tree" ["web"] (sp_need_tree K cW cT)) (G_rota_by_levels : Ok P w K mg base CX0 6 "rota_by_levels" ["web"] (sp_rota_by_levels K)) :
    OkK P w K mg base (L2.CX P w) 7 "best_tree_rota" "web" (sp_best_tree_rota K cW cT) := by
  refine okXK_of F (fun _ _ _ _ _ _ _ => rfl) sc_best_tree_rota (fun vs H Q E h => by obtain ⟨_, _, rfl, _⟩ := h; rfl) fun f cdv A outer s H vs Q E hr h => ?_
  obtain ⟨v, dt, rfl, hd, sm, q1, q2, q3⟩ := h
  refine ⟨_, (ass_cons (as_expr (ae_co G_need_tree hr (passes_call (takes_of rfl rfl rfl rfl) fun _ _ _ _ h => h) (aa_cons (av 0) aa_nil)))
    (pss_one (as_ret (ae_co G_rota_by_levels hr pass0 (aa_cons (av 0) aa_nil))))), ?_⟩
  refine ⟨_, rfl, _, dt, rfl, hd, sm, fun c H1 s1 => q1 c H1 s1, fun W b e o hb hbt H1 s1 => ?_, fun W b e o hb hbt H1 s1 => q2 W b e o hb hbt H1 s1⟩
  obtain ⟨d, T, hz, q⟩ := q3 W b e o hb hbt
  exact ⟨_, rfl, _, W, d, rfl, hz.mono s1, T, fun H2 v2 s2 FF hd2 => q H2 v2 (s1.trans s2) FF hd2⟩
end
end R
set_option maxHeartbeats 4000000
namespace R
open PySem PySem.Spec PyProof.Rows L2
variable {P : Program} {w : World} {K : PySem.W.Frag} {mg : Str → Option Value} {base : Heap}
def sp_law_bad_web (K : PySem.W.Frag) : Sp := fun vs H Q _ => ∃ (f : Addr) (v : V) (W : Web) (d : Str → Str → Nat) (many n : Nat), vs = [.ref f, v] ∧ Feed H f (n + 10) ∧ WebZ K H v W ∧ Drawn W many ∧ TreeD W d ∧
  ∀ H' x dt b, SameB f H H' → Feed H' f n → Dp K (wo H' f) x (.tuple [dt, .bool b]) → Refu dt b → Q x H'
theorem ok_law_bad_tree (F : DefAt K mg "_law_bad_tree" s_law_bad_tree ["_law_feed_here", "_law_web"]) (B : Blt mg) (G_law_draw : Ok P w K mg base CX0 1 "_law_draw" ["_law_feed_here", "_law_many"] (sp_law_draw K)) (G_law_one : Ok P w K mg base CX0 2 "_law_one" ["_law_feed_here", "_law_things"] (sp_law_one K))
    (G_law_mixed : Ok P w K mg base CX0 2 "_law_mixed" ["_law_feed_here", "_law_things"] (sp_law_mixed K)) (G_law_bad_web : Ok P w K mg base CX0 4 "_law_bad_web" ["_law_feed_here", "_law_web"] (sp_law_bad_web K)) : Ok P w K mg base CX0 5 "_law_bad_tree" ["_law_feed_here", "_law_web"] (sp_law_bad_tree K) := by
  refine ok_of F sc_law_bad_tree (fun vs H Q E h => by obtain ⟨_, _, _, _, _, _, rfl, _⟩ := h; rfl) fun f cdv A outer s H vs Q E hr h => ?_
  obtain ⟨f, v, W, d, many, n, rfl, hf, hz, D, T, q⟩ := h
  refine ⟨_, (ass_cons (as_if (PW.pt (aw_or (at_cmpR op_lt (ae_callB (lenS K) (by rfl) B.len_ PySem.boot_len (aa_cons (ae_ix (ixT K) (av 1) ae_int (fun _ _ => rfl)) aa_nil)) ae_int (nomark _)) (pw_or1 (at_cmpR op_eq (ae_co G_law_draw hr pass0 (aa_cons (av 0) (aa_cons ae_int aa_nil))) ae_int (nomark _)))))
      (pss_one (as_ret (ae_co G_law_bad_web hr pass0 (aa_cons (av 0) (aa_cons (av 1) aa_nil)))))
      ass_nil)
    (ass_cons (as_asg (ae_slice (slL K) (ae_co G_law_mixed hr pass0 (aa_cons (av 0) (aa_cons (ae_ix (ixT K) (av 1) ae_int (fun _ _ => rfl)) aa_nil))) poN (ao_some ae_int)) (pgU K rfl (pgs_cons (pg_name (i := 2) sc_law_bad_tree.nd rfl (Or.inl rfl)) (pgs_cons (pg_name (i := 3) sc_law_bad_tree.nd rfl (Or.inl rfl)) pgs_nil))))
    (ass_cons (as_set (i := 4) sc_law_bad_tree.nd rfl (Or.inl rfl) (ae_co G_law_one hr pass0 (aa_cons (av 0) (aa_cons (pe_lc (own := [("_law_road", 5)]) (g := (gName 5)) (tt := tYes) rfl sc_law_bad_tree.nd (piT K (ae_ix (ixT K) (av 1) ae_int (fun _ _ => rfl))) (blkOk_by (own := [("_law_road", 5)]) (N := n_law_bad_tree) (sc := (defScope s_law_bad_tree)) (by decide +kernel)) (fun _ _ _ _ _ => (pg_name (i := 5) sc_law_bad_tree.nd rfl (Or.inl rfl))) (fun _ _ _ _ _ => pts_nil) (fun _ _ _ _ _ => (ae_slice (slT K) (av 5) (ao_some ae_int) poN))) aa_nil))))
    (pss_one (as_ret (ae_tup (aa_cons (ae_tup (aa_cons (ae_ix (ixT K) (av 1) ae_int (fun _ _ => rfl)) (aa_cons (ae_op (catA K) (ae_ix (ixT K) (av 1) ae_int (fun _ _ => rfl)) (ae_tup (aa_cons (ae_op (catA K) (ae_tup (aa_cons ae_str aa_nil)) (ae_co G_law_one hr pass0 (aa_cons (av 0) (aa_cons (ae_lst (aa_cons (ae_tup (aa_cons (av 2) (aa_cons (av 3) aa_nil))) (aa_cons (av 4) (aa_cons (pe_revT (av 4)) aa_nil)))) aa_nil)))) aa_nil))) aa_nil))) (aa_cons ae_bl aa_nil)))))))), ?_⟩
  obtain ⟨a, pp, r, rs, rfl, hA, hP, hRR, hrs, hZT⟩ := hz.z
  obtain ⟨ys, hy⟩ := hf.some
  have ppf : pp ≠ f := fun e => by
    obtain ⟨o, u, e1, _⟩ := hZT
    rw [e, hy] at e1
    cases e1
  have rsl : rs.length = W.R.length := by rw [hrs.length, List.length_map]
  refine ⟨_, rfl, a, _, _, _, rfl, rfl, hA, ix0, ?_⟩
  have bw : ∀ H1, SameB f H H1 → Feed H1 f (n + 30) → sp_law_bad_web K ([V.ref f, .ref a] ++ []) H1 Q E0 := fun H1 sb1 hf1 => by
    refine ⟨f, .ref a, W, d, many, n + 20, rfl, hf1, hz.sameT (sb1.sameT hy), D, T, fun H2 x dt b sb2 hf2 hx R2 => q _ _ _ _ (sb1.trans sb2) (hf2.less (by omega)) hx R2⟩
  have pl := D.ok.p10
  refine ⟨pp, _, rfl, .inr hP, ?_⟩
  refine ⟨_, _, rfl, rfl, _, rfl, ?_⟩
  by_cases h2 : ((W.P.map V.str).length : Int) < 2
  · have e : (fun i j : Int => V.bl (decide (i < j))) = fun i j => V.bl (decide (i < j)) := rfl
    rw [decide_eq_true h2]
    exact ⟨_, rfl, _, rfl, bw H (R.Same.b (Same.refl _)) (hf.less (by omega))⟩
  rw [decide_eq_false h2]
  refine ⟨_, rfl, f, 2, n + 39, rfl, hf, by decide, by decide, fun H1 r0 sb1 hf1 _ ge0 lt2 => ?_⟩
  refine ⟨rfl, _, rfl, ?_⟩
  by_cases h0 : (V.int r0 = V.int 0)
  · rw [decide_eq_true h0]
    exact ⟨_, rfl, _, rfl, bw H1 sb1 (hf1.less (by omega))⟩
  rw [decide_eq_false h0]
  have t1 := sb1.sameT hy
  refine ⟨_, rfl, _, rfl, a, _, _, _, rfl, rfl, t1.seqT hA, ix0, f, pp, W.P.map V.str, n + 20, rfl, hf1.less (by rw [List.length_map]; omega), .inr (t1.seqT hP), ppf, by rw [List.length_map]; omega, fun H2 L ys sb2 hf2 nL hL pm => ?_⟩
  refine ⟨_, rfl, L, _, rfl, SqL.at hL, fun p hp => ?_⟩
  have pl2 : 2 ≤ W.P.length := by rw [List.length_map] at h2; omega
  obtain ⟨x, y, ys2, rfl, hx, hy2, nxy⟩ : ∃ x y ys2, ys = V.str x :: V.str y :: ys2 ∧ x ∈ W.P ∧ y ∈ W.P ∧ x ≠ y := by
    have ln := pm.length_eq
    rw [List.length_map] at ln
    have nd : ys.Nodup := pm.nodup_iff.mpr (T.nd.map (f := V.str) (fun a b ne e => ne (V.str.inj e)))
    have mm := fun z => (pm.mem_iff (a := z)).mp
    match ys, ln, nd, mm with
    | [], ln, _, _ => exact absurd ln (by show ¬ (0 = _); omega)
    | [_], ln, _, _ => exact absurd ln (by show ¬ (1 = _); omega)
    | u :: v :: l, ln, nd, mm =>
      obtain ⟨x, hx, ex⟩ := List.mem_map.mp (mm u (by simp))
      obtain ⟨y, hy, ey⟩ := List.mem_map.mp (mm v (by simp))
      subst ex
      subst ey
      exact ⟨x, y, l, rfl, hx, hy, fun e => by subst e; simp at nd⟩
  have ec : cutV (V.str x :: V.str y :: ys2) none (some 2) = [V.str x, V.str y] := by
    unfold cutV
    have e1 : HT.sIx (V.str x :: V.str y :: ys2).length 0 none = 0 := rfl
    rw [e1]
    have e2 : HT.sIx (V.str x :: V.str y :: ys2).length (V.str x :: V.str y :: ys2).length (some 2) = 2 := by
      unfold HT.sIx
      simp
    rw [e2]; rfl
  rw [ec]
  have s3 : Same H2 (upd H2 p (.lst [V.str x, V.str y])) := Same.new hp
  have gp : upd H2 p (.lst [V.str x, V.str y]) p = some (.lst [V.str x, V.str y]) := upd_same
  have hf3 := hf2.mono s3
  have sb3 := (sb1.trans sb2).trans (R.Same.b (f := f) s3)
  generalize upd H2 p (.lst [V.str x, V.str y]) = H3 at s3 gp hf3 sb3
  refine ⟨p, _, rfl, SqL.at gp, rfl, _, _, rfl, _, _, rfl, rfl, ?_⟩
  have t3 := sb3.sameT hy
  refine ⟨_, rfl, _, rfl, a, _, _, _, rfl, rfl, t3.seqT hA, ix1, r, rfl, ⟨_, t3.seqT hRR⟩, fun L5 hL5 => ?_⟩
  have rl := D.ok.r14
  have hrs3 := dpAll_roads_sameT hrs t3
  refine lc_tupD (K := K) (a := r) (xs := rs) (W.R.map endsD) hL5 (t3.seqT hRR) (by rw [List.length_map, rsl]) (by omega) ?_ ?_
  · intro i z e H4 acc Q2 u1 hD2 hz2 he kk
    obtain ⟨rd, e1, e2⟩ := at_map he
    subst e2
    have hdx := (hrs3.both hz2 (map_at e1)).mono u1
    refine ⟨rfl, _, rfl, _, rfl, ?_⟩
    refine road_cut hdx fun v3 H5 s5 hd3 => kk _ _ s5 ?_
    exact dp_sameT (sameT_wo (s5 _ _ hD2)) hd3 (tup_strsT _)
  intro H4 zs s4 hz4 hda
  have zl : zs.length = W.R.length := by rw [hda.length, List.length_map]
  have cnt := T.cnt
  have nfree : ∀ {H : Hp} {n : Nat} {p : Addr}, Feed H f n → H p = none → p ≠ f := fun hF hp e => by
    obtain ⟨zs, hz⟩ := hF.some
    rw [e, hz] at hp
    cases hp
  have L5f : L5 ≠ f := nfree hf3 hL5
  have hf4 := hf3.mono s4
  refine ⟨f, L5, zs, n + 19, rfl, hf4, SqL.at hz4, L5f, fun e => (by rw [e] at zl; simp at zl; omega), by omega, fun H5 ze sb5 hf5 _ hmem => ?_⟩
  obtain ⟨ys4, hy4⟩ := hf4.some
  obtain ⟨i, hi⟩ := List.getElem?_of_mem hmem
  obtain ⟨rd, hrd⟩ : ∃ rd, W.R[i]? = some rd := ⟨_, List.getElem?_eq_getElem (by have := (List.getElem?_eq_some_iff.mp hi).1; omega)⟩
  have hze : Dp K H4 ze (endsD rd) := (hda.both hi (map_at hrd)).mono wo_same
  obtain ⟨b, rfl, hb⟩ := ends_parts hze
  have t5 := sb5.sameT hy4
  have t05 : SameT H H5 := ((sb3.trans (R.Same.b (f := f) s4)).trans sb5).sameT hy
  have hb5 := t5.seqT hb
  refine ⟨_, rfl, a, _, _, _, rfl, rfl, t05.seqT hA, ix0, _, rfl, a, _, _, _, rfl, rfl, t05.seqT hA, ix1, by show 1 ≤ sizeLine; decide, fun q1 hq1 => ?_⟩
  have u1 : Same H5 (upd H5 q1 (.tup [.str "new9"])) := Same.new hq1
  have g1 : upd H5 q1 (.tup [.str "new9"]) q1 = some (.tup [.str "new9"]) := upd_same
  generalize upd H5 q1 (.tup [.str "new9"]) = H6 at u1 g1
  refine ⟨_, rfl, _, rfl, _, rfl, by show 2 ≤ sizeLine; decide, fun q2 hq2 => ?_⟩
  have u2 : Same H6 (upd H6 q2 (.tup [.str x, .str y])) := Same.new hq2
  have g2 : upd H6 q2 (.tup [.str x, .str y]) q2 = some (.tup [.str x, .str y]) := upd_same
  generalize upd H6 q2 (.tup [.str x, .str y]) = H7 at u2 g2
  refine ⟨_, rfl, _, rfl, b, _, rfl, (u1.trans u2).seqT hb5, fun q3 hq3 => ?_⟩
  have u3 : Same H7 (upd H7 q3 (.tup [.str rd.2.2, .str rd.2.1])) := Same.new hq3
  have g3 : upd H7 q3 (.tup [.str rd.2.2, .str rd.2.1]) q3 = some (.tup [.str rd.2.2, .str rd.2.1]) := upd_same
  refine ⟨by show 3 ≤ sizeLine; decide, fun q4 hq4 => ?_⟩
  have hq4 : (upd H7 q3 (.tup [.str rd.2.2, .str rd.2.1])) q4 = none := hq4
  show sp_law_one K ([V.ref f, .ref q4] ++ []) (upd (upd H7 q3 (.tup [.str rd.2.2, .str rd.2.1])) q4 (.lst [.ref q2, .ref b, .ref q3])) _ _
  generalize upd H7 q3 (.tup [.str rd.2.2, .str rd.2.1]) = H8 at u3 g3 hq4
  have u4 : Same H8 (upd H8 q4 (.lst [.ref q2, .ref b, .ref q3])) := Same.new hq4
  have g4 : upd H8 q4 (.lst [.ref q2, .ref b, .ref q3]) q4 = some (.lst [.ref q2, .ref b, .ref q3]) := upd_same
  have u14 := ((u1.trans u2).trans u3)
  have hf8 := hf5.mono u14
  generalize upd H8 q4 (.lst [.ref q2, .ref b, .ref q3]) = H9 at u4 g4
  have hf9 := hf8.mono u4
  refine ⟨f, q4, _, n + 18, rfl, hf9, SqL.at g4, nfree hf8 hq4, by simp, by show 3 ≤ 100000; decide, fun H10 zz sb10 hf10 _ hm => ?_⟩
  obtain ⟨ys9, hy9⟩ := hf9.some
  have t10 := sb10.sameT hy9
  have u25 := (u3.trans u4)
  obtain ⟨p1, p2, hzz, m1, m2, mne⟩ : ∃ p1 p2, Dp K H10 zz (strsT [p1, p2]) ∧ p1 ∈ W.P ∧ p2 ∈ W.P ∧ p1 ≠ p2 := by
    have eR := D.ok.re rd (List.mem_of_getElem? hrd)
    have hm' : zz = .ref q2 ∨ zz = .ref b ∨ zz = .ref q3 := by simpa using hm
    rcases hm' with e | e | e
    · exact ⟨x, y, by rw [e]; exact .tup (xs := [.str x, .str y]) (t10.seqT (SqT.at (u25 _ _ g2))) (DpAll.ofStrs [x, y]), hx, hy2, nxy⟩
    · exact ⟨rd.2.1, rd.2.2, by rw [e]; exact .tup (xs := [.str rd.2.1, .str rd.2.2]) (t10.seqT ((u14.trans u4).seqT hb5)) (DpAll.ofStrs [rd.2.1, rd.2.2]), eR.1, eR.2.1, eR.2.2⟩
    · exact ⟨rd.2.2, rd.2.1, by rw [e]; exact .tup (xs := [.str rd.2.2, .str rd.2.1]) (t10.seqT (SqT.at (u4 _ _ g3))) (DpAll.ofStrs [rd.2.2, rd.2.1]), eR.2.1, eR.1, eR.2.2.symm⟩
  have sb510 : SameB f H5 H10 := (R.Same.b (f := f) (u14.trans u4)).trans sb10
  obtain ⟨ys5, hy5⟩ := hf5.some
  have T10 : SameT H H10 := (((sb3.trans (R.Same.b (f := f) s4)).trans sb5).trans sb510).sameT hy
  have d9 : Dp K H10 (.ref q1) (.tuple [.str "new9"]) := .tup (xs := [.str "new9"]) (t10.seqT (SqT.at (((u2.trans u3).trans u4) _ _ g1))) (.cons (.str _) .nil)
  refine cat_dp d9 (es := [.str p1, .str p2]) hzz (by show 1 + 2 ≤ 100000; decide) fun v1 H11 s11 hd1 => ?_
  refine ⟨by show 1 ≤ sizeLine; decide, fun q5 hq5 => ?_⟩
  have s12 : Same H11 (upd H11 q5 (.tup [v1])) := Same.new hq5
  have d5 : Dp K (upd H11 q5 (.tup [v1])) (.ref q5) (.tuple [roadD (("new9" : Str), p1, p2)]) := .tup (xs := [v1]) (SqT.at upd_same) (.cons (hd1.mono s12) .nil)
  generalize upd H11 q5 (.tup [v1]) = H12 at s12 d5
  have dR : Dp K H12 (.ref r) (.tuple (W.R.map roadD)) := .tup ((s11.trans s12).seqT (T10.seqT hRR)) ((dpAll_roads_sameT hrs T10).mono (s11.trans s12))
  refine cat_dp dR d5 (by rw [List.length_map]; show _ + 1 ≤ _; omega) fun v2 H13 s13 hd2 => ?_
  have s1013 := (s11.trans s12).trans s13
  refine ⟨by show 2 ≤ sizeLine; decide, fun q6 hq6 => ?_⟩
  have s14 : Same H13 (upd H13 q6 (.tup [.ref pp, v2])) := Same.new hq6
  have dP : Dp K (upd H13 q6 (.tup [.ref pp, v2])) (.ref pp) (strsT W.P) := .tup ((s1013.trans s14).seqT (T10.seqT hP)) (DpAll.ofStrs W.P)
  have d6 : Dp K (upd H13 q6 (.tup [.ref pp, v2])) (.ref q6) (.tuple [strsT W.P, .tuple (W.R.map roadD ++ [roadD (("new9" : Str), p1, p2)])]) := .tup (xs := [.ref pp, v2]) (SqT.at upd_same) (.cons dP (.cons (hd2.mono s14) .nil))
  generalize upd H13 q6 (.tup [.ref pp, v2]) = H14 at s14 d6
  refine ⟨by show 2 ≤ sizeLine; decide, fun q7 hq7 => ?_⟩
  have s15 : Same H14 (upd H14 q7 (.tup [.ref q6, .bl true])) := Same.new hq7
  have d7 : Dp K (upd H14 q7 (.tup [.ref q6, .bl true])) (.ref q7) (.tuple [.tuple [strsT W.P, .tuple (W.R.map roadD ++ [roadD (("new9" : Str), p1, p2)])], .bool true]) := .tup (xs := [.ref q6, .bl true]) (SqT.at upd_same) (.cons (d6.mono s15) (.cons (.bl _) .nil))
  have sE := (s1013.trans s14).trans s15
  have hfE := hf10.mono sE
  obtain ⟨ysE, hyE⟩ := hfE.some
  have tt : tupOnly (.tuple [.tuple [strsT W.P, .tuple (W.R.map roadD ++ [roadD (("new9" : Str), p1, p2)])], .bool true]) = true := by
    have e : PyData.tuple [strsT W.P, .tuple (W.R.map roadD ++ [roadD (("new9" : Str), p1, p2)])] = (moreW W W.P (W.R ++ [(("new9" : Str), p1, p2)])).d := by
      unfold moreW Web.d
      rw [List.map_append]; rfl
    have k := tup_web (moreW W W.P (W.R ++ [(("new9" : Str), p1, p2)]))
    rw [← e] at k
    rw [tupOnly.eq_def]
    show tupOnly.tupAll [_, _] = true
    rw [tupOnly.tupAll, k]
    simp [tupOnly.tupAll, tupOnly]
  exact q _ _ _ _ ((((sb3.trans (R.Same.b (f := f) s4)).trans sb5).trans sb510).trans (R.Same.b (f := f) sE)) (hfE.less (by omega)) (dp_sameT (sameT_wo hyE) d7 tt) (more_road D T m1 m2 mne)
end R
set_option maxHeartbeats 4000000
/-! [.. for k, x in enumerate(a tuple)] -/
namespace R
open PySem PySem.Spec PyProof.Rows L2
variable {K : PySem.W.Frag} {a : Addr} {xs : List V} {g : TG} {tt : TT} {vs : List Nat} {σ : L2.St} {H1 : Hp} {D : Addr} {Qd : Hp → Prop}
theorem lc_enumD {te : L2.TE} (es : List PyData) (hD : H1 D = none) (ha : SqT K H1 a xs) (hlen : es.length = xs.length) (hz : xs.length ≤ 100000)
    (hs : ∀ (i : Nat) (x : V) (e : PyData) (T : Addr) (H H' : Hp) (acc : List V) (Q : VK), Same H1 H → Same H H' → H' D = some (.lst acc) → xs[i]? = some x → es[i]? = some e → H' T = some (.tup [.int (i : Nat), x]) → (∀ y H4, Same H' H4 → Dp K (wo H4 D) y e → Q y H4) → g (.ref T) (wipe σ vs) H' fun σ2 H2 => wipe σ2 vs = wipe σ vs ∧ te σ2 H2 Q)
    (hd : ∀ H ys, Same H1 H → H D = some (.lst ys) → DpAll K (wo H D) ys es → Qd H) :
    ∃ W : Nat → Nat → Hp → Prop, (∃ m, W 0 m (upd H1 D (.lst []))) ∧ ∀ i m H, W i m H →
      ((IteT K a).stop i H ∧ Qd H) ∨ ((IteT K a).go i H ∧ ∃ Nx : Hp → Prop, (∀ H', Nx H' → ∃ m', m' < m ∧ W (i + 1) m' H') ∧ ∀ x H', (IteT K a).yld i H x H' → g x (wipe σ vs) H' fun σ2 H2 => wipe σ2 vs = wipe σ vs ∧ tYes σ2 H2 fun b H3 =>
        if b = true then te σ2 H3 fun y H4 => ∃ acc, H4 D = some (.lst acc) ∧ acc.length < sizeLine ∧ Nx (upd H4 D (.lst (acc ++ [y]))) else Nx H3) := by
  refine lc_it (J := IteT K a) (n := xs.length) (G := fun H => SqT K H a xs) (Y := fun i H v H' => ∃ T x, v = .ref T ∧ H T = none ∧ H' = upd H T (.tup [.int (i : Nat), x]) ∧ xs[i]? = some x) ⟨fun i H hi h => ⟨xs, xs[i], h, by simp [hi]⟩, fun H h => ⟨xs, h, rfl⟩, fun i H x H' hi h y => ?_⟩
    (fun i H => Same H1 H ∧ ∃ ys, H D = some (.lst ys) ∧ DpAll K (wo H D) ys (es.take i)) ⟨Same.new hD, [], upd_same, .nil⟩ (fun i H _ h => h.1.seqT ha) ?_ ?_
  · obtain ⟨T, x', rfl, hT, rfl, f⟩ := y
    exact ⟨T, x', rfl, hT, rfl, f xs h⟩
  · rintro i v H H' hi ⟨s, ys, hy, hda⟩ ⟨T, x, rfl, hT, rfl, hx⟩
    have he : es[i]? = some (es[i]'(by omega)) := List.getElem?_eq_getElem (by omega)
    have s2 : Same H (upd H T (.tup [.int (i : Nat), x])) := Same.new hT
    refine hs i x _ T H _ ys _ s s2 (s2 _ _ hy) hx he upd_same fun y H4 s4 hd4 => ⟨ys, s4 _ _ (s2 _ _ hy), ?_, ((s.trans s2).trans s4).over hD, ys ++ [y], upd_same, ?_⟩
    · rw [hda.length, List.length_take]
      exact small_ (m := 100000) (by omega)
    · rw [wo_upd, List.take_add_one, he]
      exact (hda.mono (wo_mono (s2.trans s4))).snoc hd4
  · rintro H ⟨s, ys, hy, hda⟩
    rw [← hlen, List.take_length] at hda
    exact hd H ys s hy hda
end R
set_option maxHeartbeats 4000000
namespace R
open PySem PySem.Spec PyProof.Rows L2
variable {P : Program} {w : World} {K : PySem.W.Frag} {mg : Str → Option Value} {base : Heap}
theorem sIx_cut {ds : List PyData} {k : Nat} : cutD ds none (some (k : Int)) = ds.take k := by
  unfold cutD
  rw [HT.sIx_none, HT.sIx_nat, List.drop_zero, Nat.sub_zero]
  by_cases h : k ≤ ds.length
  · rw [Nat.min_eq_left h]
  · rw [Nat.min_eq_right (by omega), List.take_of_length_le (Nat.le_refl _), List.take_of_length_le (by omega)]
def newN (k : Nat) : Str := ("new" : Str) ++ ((toString ((k : Nat) : Int) : String) : Str)
def twin (k : Nat) (r : Road) : Road := (newN k, r.2.1, r.2.2)
def twins (l : List Road) : List Road := l.mapIdx twin
theorem twins_len (l : List Road) : (twins l).length = l.length := by unfold twins; rw [List.length_mapIdx]
theorem newN_is : newN 0 = "new0" ∧ newN 1 = "new1" ∧ newN 2 = "new2" := by decide +kernel
theorem twins_names {l : List Road} (h : l.length ≤ 3) : ((twins l).map (fun r : Road => r.1)).Nodup ∧ ∀ r ∈ twins l, r.1 = "new0" ∨ r.1 = "new1" ∨ r.1 = "new2" := by
  obtain ⟨n0, n1, n2⟩ := newN_is
  have d01 : ("new0" : Str) ≠ "new1" := by decide +kernel
  have d02 : ("new0" : Str) ≠ "new2" := by decide +kernel
  have d12 : ("new1" : Str) ≠ "new2" := by decide +kernel
  match l, h with
  | [], _ => exact ⟨List.nodup_nil, fun r hr => (by cases hr)⟩
  | [a], _ => exact ⟨by simp [twins], fun r hr => by
      have : r = twin 0 a := by simpa [twins] using hr
      rw [this]; exact .inl n0⟩
  | [a, b], _ => exact ⟨by simp [twins, twin, n0, n1, d01], fun r hr => by
      have : r = twin 0 a ∨ r = twin 1 b := by simpa [twins] using hr
      rcases this with e | e <;> rw [e]
      · exact .inl n0
      · exact .inr (.inl n1)⟩
  | [a, b, c], _ => exact ⟨by simp [twins, twin, n0, n1, n2, d01, d02, d12], fun r hr => by
      have : r = twin 0 a ∨ r = twin 1 b ∨ r = twin 2 c := by simpa [twins] using hr
      rcases this with e | e | e <;> rw [e]
      · exact .inl n0
      · exact .inr (.inl n1)
      · exact .inr (.inr n2)⟩
  | _ :: _ :: _ :: _ :: _, h => exact absurd h (by simp)
theorem twins_mem {l : List Road} {r : Road} (h : r ∈ twins l) : ∃ s ∈ l, r.2 = s.2 := by
  obtain ⟨i, hi⟩ := List.getElem?_of_mem h
  unfold twins at hi
  rw [List.getElem?_mapIdx] at hi
  obtain ⟨s, hs, e⟩ := Option.map_eq_some_iff.mp hi
  exact ⟨s, List.mem_of_getElem? hs, by rw [← e]; rfl⟩
theorem ok_law_bad_web (F : DefAt K mg "_law_bad_web" s_law_bad_web ["_law_feed_here", "_law_web"]) (B : Blt mg) (G_law_draw : Ok P w K mg base CX0 1 "_law_draw" ["_law_feed_here", "_law_many"] (sp_law_draw K)) (G_law_one : Ok P w K mg base CX0 2 "_law_one" ["_law_feed_here", "_law_things"] (sp_law_one K))
    (G_law_no_web : Ok P w K mg base CX0 3 "_law_no_web" ["_law_feed_here", "_law_web"] (sp_law_no_web K)) : Ok P w K mg base CX0 4 "_law_bad_web" ["_law_feed_here", "_law_web"] (sp_law_bad_web K) := by
  refine ok_of F sc_law_bad_web (fun vs H Q E h => by obtain ⟨_, _, _, _, _, _, rfl, _⟩ := h; rfl) fun f cdv A outer s H vs Q E hr h => ?_
  obtain ⟨f, v, W, d, many, n, rfl, hf, hz, D, T, q⟩ := h
  refine ⟨_, (ass_cons (as_set (i := 2) sc_law_bad_web.nd rfl (Or.inr rfl) (ae_slice (slT K) (ae_ix (ixT K) (av 1) ae_int (fun _ _ => rfl)) poN (ao_some ae_int)))
    (ass_cons (as_set (i := 3) sc_law_bad_web.nd rfl (Or.inl rfl) (ae_callTy (tupOf K) (by rfl) B.tuple_ (by decide +kernel) (aa_cons (pe_lc (own := [("_law_road", 5)]) (g := (gName 5)) rfl sc_law_bad_web.nd (piT K (ae_ix (ixT K) (av 1) ae_int (fun _ _ => rfl))) (blkOk_by (own := [("_law_road", 5)]) (N := n_law_bad_web) (sc := (defScope s_law_bad_web)) (by decide +kernel)) (fun _ _ _ _ _ => (pg_name (i := 5) sc_law_bad_web.nd rfl (Or.inl rfl))) (fun _ _ _ _ _ => (pts_one (PW.pt (aw_and (at_cmpR (inS K) (ae_ix (ixT K) (av 5) ae_int (fun _ _ => rfl)) (av 2) (by rfl)) (pw_and1 (at_cmpR (inS K) (ae_ix (ixT K) (av 5) ae_int (fun _ _ => rfl)) (av 2) (by rfl))))))) (fun _ _ _ _ _ => (av 5))) aa_nil)))
    (ass_cons (ps_setLc (i := 4) (own := [("_law_k", 6), ("_law_road", 5)]) (g := (gTup K 2 (gCons (gName 6) (gCons (gName 5) gNil)))) (tt := tYes) rfl sc_law_bad_web.nd rfl rfl (sw_true rfl rfl rfl (by decide +kernel)) (enumT K (by rfl) B.enumerate_ (aa_cons (ae_slice (slT K) (av 3) poN (ao_some (ae_co G_law_draw hr pass0 (aa_cons (av 0) (aa_cons (ae_op op_add ae_int (ae_callB (call_min2 rfl) (by rfl) B.min_ (by decide +kernel) (aa_cons ae_int (aa_cons (ae_op op_sub ae_int (ae_callB (lenS K) (by rfl) B.len_ PySem.boot_len (aa_cons (av 3) aa_nil))) aa_nil)))) aa_nil))))) aa_nil)) (blkOk_by (own := [("_law_k", 6), ("_law_road", 5)]) (N := n_law_bad_web) (sc := (defScope s_law_bad_web)) (by decide +kernel)) (fun _ _ _ _ _ => (pgT K rfl (pgs_cons (pg_name (i := 6) sc_law_bad_web.nd rfl (Or.inl rfl)) (pgs_cons (pg_name (i := 5) sc_law_bad_web.nd rfl (Or.inl rfl)) pgs_nil)))) (fun _ _ _ _ _ => pts_nil) (fun _ _ _ _ _ => (ae_op (catA K) (ae_tup (aa_cons (ae_op op_add_str ae_str (ae_callTy call_str_int (by rfl) B.str_ (by decide +kernel) (aa_cons (av 6) aa_nil))) aa_nil)) (ae_slice (slT K) (av 5) (ao_some ae_int) poN))))
    (pss_one (as_ret (ae_co G_law_one hr pass0 (aa_cons (av 0) (aa_cons (ae_lst (aa_cons (ae_tup (aa_cons (ae_tup (aa_cons (ae_op (catA K) (av 2) (ae_tup (aa_cons ae_str aa_nil))) (aa_cons (ae_op (catA K) (av 3) (ae_callTy (tupOf K) (by rfl) B.tuple_ (by decide +kernel) (aa_cons (av 4) aa_nil))) aa_nil))) (aa_cons ae_bl aa_nil))) (aa_cons (ae_tup (aa_cons (ae_co G_law_no_web hr pass0 (aa_cons (av 0) (aa_cons (av 1) aa_nil))) (aa_cons ae_bl aa_nil))) aa_nil))) aa_nil)))))))), ?_⟩
  obtain ⟨a, pp, r, rs, rfl, hA, hP, hRR, hrs, hZT⟩ := hz.z
  refine ⟨_, rfl, a, _, _, _, rfl, rfl, hA, ix0, ?_⟩
  have rsl : rs.length = W.R.length := by rw [hrs.length, List.length_map]
  have rl := D.ok.r14
  refine ⟨_, rfl, sl_dp (ds := W.P.map .str) (.tup hP (DpAll.ofStrs W.P)) fun v1 H1 s1 hd1 => ?_⟩
  have ec : cutD (W.P.map .str) none (some 9) = (W.P.take 9).map PyData.str := by
    have pl := D.ok.p10
    unfold cutD
    rw [HT.sIx_none, show (9 : Int) = ((9 : Nat) : Int) by rfl, HT.sIx_nat, List.drop_zero, Nat.sub_zero, List.length_map, ← List.map_take]
    by_cases h : 9 ≤ W.P.length
    · rw [Nat.min_eq_left h]
    · rw [Nat.min_eq_right (by omega), List.take_of_length_le (Nat.le_refl _), List.take_of_length_le (by omega)]
  rw [ec] at hd1
  obtain ⟨pa, pxs, rfl, hpa, hpx⟩ := hd1.tupI
  rw [hpx.strs] at hpa
  refine ⟨_, rfl, a, _, _, _, rfl, rfl, s1.seqT hA, ix1, r, rfl, ⟨_, s1.seqT hRR⟩, fun L hL => ?_⟩
  refine lc_tupF (K := K) (a := r) (xs := rs) (W.R.map fun rd => if rd.2.1 ∈ W.P.take 9 ∧ rd.2.2 ∈ W.P.take 9 then some (roadD rd) else none) hL (s1.seqT hRR) (by rw [rsl, List.length_map]) (by omega) ?_ ?_
  · intro k x0 e0 H4 acc Q4 Q0 u4 hD4 hx4 he4 k1 k0
    obtain ⟨rd, hrd1, rfl⟩ := at_map he4
    have hrd := (hrs.both hx4 (map_at hrd1)).mono (s1.trans u4)
    obtain ⟨b, rfl, hb⟩ := road_parts hrd
    refine ⟨rfl, _, rfl, b, _, _, _, rfl, rfl, hb, ix1, _, rfl, pa, _, rfl, .inr (u4.seqT hpa), rfl, flat_strs _, ?_⟩
    refine ⟨_, rfl, ?_⟩
    show if inV (.str rd.2.1) ((W.P.take 9).map V.str) = true then _ else _
    rw [inV_str]
    refine ite2 (fun c => ?_) (fun c => ?_)
    · have c := of_decide_eq_true c
      refine ⟨_, rfl, b, _, _, _, rfl, rfl, hb, ix2, _, rfl, pa, _, rfl, .inr (u4.seqT hpa), rfl, flat_strs _, ?_⟩
      refine ⟨_, rfl, ?_⟩
      show if inV (.str rd.2.2) ((W.P.take 9).map V.str) = true then _ else _
      rw [inV_str]
      refine ite2 (fun c2 => ?_) (fun c2 => ?_)
      · have c2 := of_decide_eq_true c2
        rw [if_pos ⟨c, c2⟩] at k1
        exact ⟨_, rfl, k1 _ _ _ (Same.refl _) rfl (dp_sameT (sameT_wo hD4) hrd (tup_road rd))⟩
      · exact k0 H4 (Same.refl _) (if_neg fun z => c2 (decide_eq_true z.2))
    · exact k0 H4 (Same.refl _) (if_neg fun z => c (decide_eq_true z.1))
  intro H4 ys4 u4 hy4 hda4
  rw [filterMap_if (fun rd : Road => rd.2.1 ∈ W.P.take 9 ∧ rd.2.2 ∈ W.P.take 9) roadD] at hda4
  refine tup_dp (.lst (SqL.at hy4) (hda4.mono wo_same)) fun v5 H5 s5 hd5 => ?_
  obtain ⟨ra, ras, rfl, hra, hras⟩ := hd5.tupI
  have ral : ras.length ≤ 14 := by
    rw [hras.length, List.length_map]
    exact Nat.le_trans (List.length_filter_le ..) rl
  have s05 := (s1.trans u4).trans s5
  refine ⟨_, rfl, _, rfl, _, rfl, ra, _, rfl, .inr hra, _, _, rfl, rfl, _, _, rfl, _, _, rfl, rfl, f, _, n + 9, rfl, hf.mono s05, ?_, ?_, fun H6 j sb6 hf6 _ j0 jm => ?_⟩
  · show (0 : Int) < 1 + (if (14 - (ras.length : Int)) < 3 then (14 - (ras.length : Int)) else 3)
    split <;> omega
  · show 1 + (if (14 - (ras.length : Int)) < 3 then (14 - (ras.length : Int)) else 3) < 1073741824
    split <;> omega
  have jj : j.toNat ≤ 3 ∧ ras.length + j.toNat ≤ 14 := by
    have jm : j < 1 + (if (14 - (ras.length : Int)) < 3 then (14 - (ras.length : Int)) else 3) := jm
    split at jm <;> omega
  have ej : j = (j.toNat : Nat) := by omega
  generalize j.toNat = k at jj ej
  subst ej
  obtain ⟨ys5, hy5⟩ := (hf.mono s05).some
  have t6 := sb6.sameT hy5
  generalize eRR : (W.R.filter fun rd : Road => decide (rd.2.1 ∈ W.P.take 9 ∧ rd.2.2 ∈ W.P.take 9)) = RR at hras
  have raL : ras.length = RR.length := by rw [hras.length, List.length_map]
  have hd6 : Dp K H6 (.ref ra) (.tuple (RR.map roadD)) := .tup (t6.seqT hra) (dpAll_sameT t6 hras (tup_roads RR))
  refine ⟨_, rfl, ?_⟩
  refine sl_dp hd6 fun v7 H7 s7 hd7 => ?_
  rw [sIx_cut, ← List.map_take] at hd7
  obtain ⟨ta, txs, rfl, hta, htx⟩ := hd7.tupI
  have txl : txs.length = (RR.take k).length := by rw [htx.length, List.length_map]
  have tkl : (RR.take k).length ≤ 3 := by rw [List.length_take]; omega
  refine ⟨ta, txs, rfl, hta, fun Dl hDl => ?_⟩
  refine lc_enumD (K := K) (a := ta) (xs := txs) ((twins (RR.take k)).map roadD) hDl hta (by rw [List.length_map, twins_len, txl]) (by omega) ?_ ?_
  · intro i x e T Ha Hb acc Q4 u1 u2 hD4 hx4 he4 hT4 kk
    obtain ⟨rt, hrt, rfl⟩ := at_map he4
    have hrt' : (twins (RR.take k))[i]? = some rt := hrt
    unfold twins at hrt'
    rw [List.getElem?_mapIdx] at hrt'
    obtain ⟨rd, hrd, rfl⟩ := Option.map_eq_some_iff.mp hrt'
    have il : i < 3 := by have := (List.getElem?_eq_some_iff.mp hrd).1; omega
    have hdx := (htx.both hx4 (map_at hrd)).mono (u1.trans u2)
    refine ⟨T, _, rfl, SqT.at hT4, rfl, _, _, rfl, _, _, rfl, rfl, rfl, ?_⟩
    have i3 : i = 0 ∨ i = 1 ∨ i = 2 := by omega
    have lg : ((i : Nat) : Int).natAbs.log2 < 1920 := by rcases i3 with rfl | rfl | rfl <;> decide
    have ln : ("new" : Str).length + (((toString ((i : Nat) : Int) : String) : Str)).length ≤ sizeLine := by rcases i3 with rfl | rfl | rfl <;> decide +kernel
    refine ⟨_, rfl, _, rfl, lg, _, _, rfl, rfl, ln, by show 1 ≤ sizeLine; decide, fun p hp => ?_⟩
    have t1 : Same Hb (upd Hb p (.tup [.str (newN i)])) := Same.new hp
    have d1 : Dp K (upd Hb p (.tup [.str (newN i)])) (.ref p) (.tuple [.str (newN i)]) := .tup (xs := [.str (newN i)]) (SqT.at upd_same) (.cons (.str _) .nil)
    generalize hHc : upd Hb p (.tup [.str (newN i)]) = Hc at t1 d1
    refine ⟨_, rfl, _, rfl, ?_⟩
    show rSlA K x (some 1) none (upd Hb p (.tup [.str (newN i)])) _
    rw [hHc]
    refine road_cut (hdx.mono t1) fun v3 H3 s3 hd3 => ?_
    refine cat_dp (d1.mono s3) (es := [.str rd.2.1, .str rd.2.2]) hd3 (by show 1 + 2 ≤ 100000; decide) fun v4 H4 s4 hd4 => ?_
    refine kk _ _ ((t1.trans s3).trans s4) (dp_sameT (sameT_wo (s4 _ _ (s3 _ _ (t1 _ _ hD4)))) hd4 (tup_road (twin i rd)))
  intro H8 zs s8 hz8 hda8
  have s68 := s7.trans s8
  have zl : zs.length ≤ 3 := by rw [hda8.length, List.length_map, twins_len]; exact tkl
  have hf8 := hf6.mono s68
  have nfree : ∀ {H : Hp} {n : Nat} {p : Addr}, Feed H f n → H p = none → p ≠ f := fun hF hp e => by
    obtain ⟨zs, hz⟩ := hF.some
    rw [e, hz] at hp
    cases hp
  have sb8 : SameB f H H8 := ((R.Same.b (f := f) s05).trans sb6).trans (R.Same.b (f := f) s68)
  obtain ⟨ys0, hy0⟩ := hf.some
  -- the web of two pieces
  have hPa : SqT K H6 pa ((W.P.take 9).map V.str) := t6.seqT (((u4.trans s5)).seqT hpa)
  have dP8 : Dp K H8 (.ref pa) (.tuple ((W.P.take 9).map PyData.str)) := .tup (s68.seqT hPa) (DpAll.ofStrs _)
  refine ⟨_, rfl, _, rfl, by show 1 ≤ sizeLine; decide, fun p1 hp1 => ?_⟩
  have v1 : Same H8 (upd H8 p1 (.tup [.str "lone9"])) := Same.new hp1
  have dl : Dp K (upd H8 p1 (.tup [.str "lone9"])) (.ref p1) (.tuple [.str "lone9"]) := .tup (xs := [.str "lone9"]) (SqT.at upd_same) (.cons (.str _) .nil)
  generalize upd H8 p1 (.tup [.str "lone9"]) = H9 at v1 dl
  refine cat_dp (dP8.mono v1) dl (by rw [List.length_map, List.length_take]; show min 9 _ + 1 ≤ _; omega) fun w10 H10 s10 hd10 => ?_
  refine ⟨_, rfl, _, rfl, ?_⟩
  refine tup_dp (dp_list ((v1.trans s10) _ _ hz8) ((hda8.mono (wo_mono (v1.trans s10))))) fun w11 H11 s11 hd11 => ?_
  have s811 := (v1.trans s10).trans s11
  refine cat_dp (hd6.mono (s68.trans s811)) hd11 (by rw [List.length_map, List.length_map, twins_len]; omega) fun w12 H12 s12 hd12 => ?_
  rw [← List.map_append] at hd12
  refine ⟨by show 2 ≤ sizeLine; decide, fun p2 hp2 => ?_⟩
  have v2 : Same H12 (upd H12 p2 (.tup [w10, w12])) := Same.new hp2
  have dW : Dp K (upd H12 p2 (.tup [w10, w12])) (.ref p2) (moreW W (W.P.take 9 ++ [("lone9" : Str)]) (RR ++ twins (RR.take k))).d := by
    have e : (moreW W (W.P.take 9 ++ [("lone9" : Str)]) (RR ++ twins (RR.take k))).d = .tuple [.tuple ((W.P.take 9).map PyData.str ++ [.str "lone9"]), .tuple ((RR ++ twins (RR.take k)).map roadD)] := by
      unfold moreW Web.d strsT
      rw [List.map_append]; rfl
    rw [e]
    exact .tup (xs := [w10, w12]) (SqT.at upd_same) (.cons (hd10.mono ((s11.trans s12).trans v2)) (.cons (hd12.mono v2) .nil))
  generalize upd H12 p2 (.tup [w10, w12]) = H13 at v2 dW
  refine ⟨by show 2 ≤ sizeLine; decide, fun p3 hp3 => ?_⟩
  have v3 : Same H13 (upd H13 p3 (.tup [.ref p2, .bl true])) := Same.new hp3
  generalize eDW : (moreW W (W.P.take 9 ++ [("lone9" : Str)]) (RR ++ twins (RR.take k))).d = DW at dW
  have tDW : tupOnly (.tuple [DW, .bool true]) = true := by
    rw [tupOnly.eq_def]
    show tupOnly.tupAll [_, _] = true
    rw [tupOnly.tupAll, ← eDW, tup_web]
    rfl
  have d3 : Dp K (upd H13 p3 (.tup [.ref p2, .bl true])) (.ref p3) (.tuple [DW, .bool true]) := .tup (xs := [.ref p2, .bl true]) (SqT.at upd_same) (.cons (dW.mono v3) (.cons (.bl _) .nil))
  generalize upd H13 p3 (.tup [.ref p2, .bl true]) = H14 at v3 d3
  have s814 := ((s811.trans s12).trans v2).trans v3
  have hf14 := hf8.mono s814
  have sb14 : SameB f H H14 := sb8.trans (R.Same.b (f := f) s814)
  -- what is no web
  have hz14 := hz.sameT (sb14.sameT hy0)
  refine ⟨_, rfl, _, rfl, f, .ref a, W, n + 8, rfl, hf14.less (by omega), D.ok, hz14.at_.dp, (D.new (by decide +kernel)).2, fun H15 x dx sb15 hf15 hx bad => ?_⟩
  obtain ⟨ys14, hy14⟩ := hf14.some
  have t15 := sb15.sameT hy14
  refine ⟨by show 2 ≤ sizeLine; decide, fun p4 hp4 => ?_⟩
  have v4 : Same H15 (upd H15 p4 (.tup [x, .bl false])) := Same.new hp4
  have p4f : p4 ≠ f := nfree hf15 hp4
  have d4 : Dp K (wo (upd H15 p4 (.tup [x, .bl false])) f) (.ref p4) (.tuple [dx, .bool false]) := .tup (xs := [x, .bl false]) (SqT.at (by rw [wo_ne p4f, upd_same])) (.cons (hx.mono (wo_mono v4)) (.cons (.bl _) .nil))
  have d3' := dp_sameT (t15.trans (R.Same.sameT v4)) d3 tDW
  have hf16 := hf15.mono v4
  generalize upd H15 p4 (.tup [x, .bl false]) = H16 at v4 d4 d3' hf16
  refine ⟨by show 2 ≤ sizeLine; decide, fun p5 hp5 => ?_⟩
  have v5 : Same H16 (upd H16 p5 (.lst [.ref p3, .ref p4])) := Same.new hp5
  have g5 : upd H16 p5 (.lst [.ref p3, .ref p4]) p5 = some (.lst [.ref p3, .ref p4]) := upd_same
  have p5f : p5 ≠ f := nfree hf16 hp5
  have hf17 := hf16.mono v5
  generalize upd H16 p5 (.lst [.ref p3, .ref p4]) = H17 at v5 g5 hf17
  have sb17 : SameB f H H17 := (sb14.trans sb15).trans (R.Same.b (f := f) (v4.trans v5))
  refine ⟨f, p5, _, n, rfl, hf17.less (by omega), SqL.at g5, p5f, by simp, by show 2 ≤ 100000; decide, fun H18 y sb18 hf18 _ hm => ?_⟩
  have hm : y = .ref p3 ∨ y = .ref p4 := by simpa using hm
  obtain ⟨ys17, hy17⟩ := hf17.some
  obtain ⟨ys18, hy18⟩ := hf18.some
  rcases hm with rfl | rfl
  · have d18 := dp_sameT (sameT_wo hy18) (dp_sameT (sb18.sameT hy17) (d3'.mono v5) tDW) tDW
    refine q H18 _ _ _ (sb17.trans sb18) hf18 d18 ?_
    rw [← eDW, ← eRR]
    have ef : (W.R.filter fun rd : Road => decide (rd.2.1 ∈ W.P.take 9 ∧ rd.2.2 ∈ W.P.take 9)) = W.R.filter fun r => decide (r.2.1 ∈ W.P.take 9) && decide (r.2.2 ∈ W.P.take 9) := by
      refine List.filter_congr fun r _ => ?_
      rw [Bool.decide_and]
    rw [ef]
    rw [ef] at eRR
    rw [eRR]
    have nm := twins_names tkl
    have hRR : ∀ r ∈ RR, r ∈ W.R ∧ r.2.1 ∈ W.P.take 9 ∧ r.2.2 ∈ W.P.take 9 := fun r hr => by
      rw [← eRR, List.mem_filter, Bool.and_eq_true, decide_eq_true_eq, decide_eq_true_eq] at hr
      exact hr
    have L := lone_web D (tw := twins (RR.take k)) (fun r hr => by
      obtain ⟨s, hs, e⟩ := twins_mem hr
      obtain ⟨h1, h2, h3⟩ := hRR s (List.mem_of_mem_take hs)
      rw [e]
      exact ⟨h2, h3, (D.ok.re s h1).2.2⟩) nm.1 nm.2 (by
      rw [eRR, twins_len, List.length_take]
      omega)
    rw [eRR] at L
    exact L
  · exact q H18 _ _ _ (sb17.trans sb18) hf18 ((d4.mono (wo_mono v5)).mono sb18) bad.refu
end R
set_option maxHeartbeats 4000000
namespace R
open PySem PySem.Spec PyProof.Rows L2
theorem two_at {α : Type} {l : List α} {k : Nat} (h : k + 1 < l.length) : ∃ x y, l[k]? = some x ∧ l[k + 1]? = some y ∧ l = l.take k ++ (x :: y :: l.drop (k + 2)) := by
  refine ⟨l[k], l[k + 1], List.getElem?_eq_getElem (by omega), List.getElem?_eq_getElem h, ?_⟩
  have h1 : l.drop k = l[k] :: l.drop (k + 1) := List.drop_eq_getElem_cons (by omega)
  have h2 : l.drop (k + 1) = l[k + 1] :: l.drop (k + 2) := List.drop_eq_getElem_cons h
  have h3 := List.take_append_drop k l
  rw [h1, h2] at h3
  exact h3.symm
theorem RotaOf.to {W : Web} {r r' : List Str} (h : RotaOf W r) (p : r'.Perm r) : RotaOf W r' := ⟨p.trans h.perm⟩
theorem RotaOf.names {W : Web} : RotaOf W W.names := ⟨List.Perm.refl _⟩
/-- one way or the other, then the rest -/
theorem if_rest {c : Bool} {t : TS} {NX bk ct : L2.St → Hp → Prop} {rt : VK} {σ : L2.St} {H : Hp} (Fct : L2.St → Hp → Prop) (h3 : ∀ σ' H', Fct σ' H' → NX σ' H') (h1 : c = true → (∀ σ' H', Fct σ' H' → NX σ' H') → t (Ends.mk NX rt bk ct) σ H) (h2 : ¬ c = true → Fct σ H) :
    if c = true then t (Ends.mk NX rt bk ct) σ H else NX σ H := ite2 (fun k => h1 k h3) fun k => h3 _ _ (h2 k)
theorem cut_from {ds : List PyData} {k : Nat} (h : k ≤ ds.length) : cutD ds (some (k : Int)) none = ds.drop k := by
  unfold cutD
  have e : HT.sIx ds.length ds.length none = ds.length := rfl
  rw [e, HT.sIx_nat, Nat.min_eq_left h, List.take_of_length_le (by rw [List.length_drop]; exact Nat.le_refl _)]
variable {P : Program} {w : World} {K : PySem.W.Frag} {mg : Str → Option Value} {base : Heap} {cW cT : Addr}
/-- what stands while the rotas are gathered -/
structure Gat (K : PySem.W.Frag) (W : Web) (best : List Str) (f L na : Addr) (vb : V) (H0 H : Hp) (rts : List (List Str)) (n i : Nat) : Prop where
  sb : SameB f H0 H
  fd : Feed H f (n + 1000 - 100 * i)
  nm : SqT K H na (W.names.map V.str)
  bs : Dp K H vb (strsT best)
  at_ : ∃ xs, H L = some (.lst xs) ∧ DpAll K H xs (rts.map strsT)
  ok : ∀ rt ∈ rts, RotaOf W rt
  ln : rts.length ≤ 3 + i
theorem Gat.same {W : Web} {best : List Str} {f L na : Addr} {vb : V} {H0 H H' : Hp} {rts : List (List Str)} {n i : Nat} (g : Gat K W best f L na vb H0 H rts n i) (s : Same H H') : Gat K W best f L na vb H0 H' rts n i := by
  obtain ⟨xs, h1, h2⟩ := g.at_
  exact ⟨g.sb.trans (R.Same.b s), g.fd.mono s, s.seqT g.nm, g.bs.mono s, ⟨xs, s _ _ h1, h2.mono s⟩, g.ok, g.ln⟩
/-- behind a draw -/
theorem Gat.draw {W : Web} {best : List Str} {f L na : Addr} {vb : V} {H0 H H' : Hp} {rts : List (List Str)} {n i j : Nat} (g : Gat K W best f L na vb H0 H rts n i) (Lf : L ≠ f) (s : SameB f H H') (hf : Feed H' f (n + 1000 - 100 * j)) (hij : i ≤ j) : Gat K W best f L na vb H0 H' rts n j := by
  obtain ⟨xs, h1, h2⟩ := g.at_
  obtain ⟨ys, hy⟩ := g.fd.some
  have t := s.sameT hy
  exact ⟨g.sb.trans s, hf, t.seqT g.nm, dp_sameT t g.bs (tup_strsT _), ⟨xs, s.get Lf h1, dpAll_sameT t h2 (tup_rows _)⟩, g.ok, Nat.le_trans g.ln (by omega)⟩
/-- a rota more -/
theorem Gat.put {W : Web} {best : List Str} {f L na : Addr} {vb : V} {H0 H : Hp} {rts : List (List Str)} {n i : Nat} {x : V} {rt : List Str} {Q : VK} (g : Gat K W best f L na vb H0 H rts n i) (Lf : L ≠ f) (nL : H0 L = none) (hi : i ≤ 50) (hl1 : rts.length + 1 ≤ 3 + i) (hx : Dp K H x (strsT rt)) (hR : RotaOf W rt)
    (q : ∀ H', Gat K W best f L na vb H0 H' (rts ++ [rt]) n i → Q .non H') : rAppend (.ref L) [x] H Q := by
  obtain ⟨xs, h1, h2⟩ := g.at_
  have hl : xs.length ≤ 100 := by
    have := g.ln
    rw [h2.length, List.length_map]
    omega
  have t := sameT_updL (o := .lst (xs ++ [x])) h1
  obtain ⟨a, b, c, z1, z2⟩ := g.fd
  refine ⟨L, xs, x, rfl, rfl, h1, small_ hl, q _ ⟨g.sb.over nL Lf, ⟨a, b, c, by rw [upd_ne Lf.symm]; exact z1, z2⟩, t.seqT g.nm, dp_sameT t g.bs (tup_strsT _), ⟨_, upd_same, ?_⟩, fun r hr => ?_, ?_⟩⟩
  · rw [List.map_append]
    exact (dpAll_sameT t h2 (tup_rows _)).snoc (dp_sameT t hx (tup_strsT _))
  · rcases List.mem_append.mp hr with h | h
    · exact g.ok r h
    · have : r = rt := by simpa using h
      rw [this]; exact hR
  · rw [List.length_append]
    exact hl1
theorem Gat.up {W : Web} {best : List Str} {f L na : Addr} {vb : V} {H0 H : Hp} {rts : List (List Str)} {n i j : Nat} (g : Gat K W best f L na vb H0 H rts n i) (h : i ≤ j) : Gat K W best f L na vb H0 H rts n j :=
  ⟨g.sb, g.fd.less (by omega), g.nm, g.bs, g.at_, g.ok, Nat.le_trans g.ln (by omega)⟩
def sp_law_great_right (K : PySem.W.Frag) : Sp := fun vs H Q _ => ∃ (f : Addr) (v : V) (W : Web) (d : Str → Str → Nat) (many n : Nat), vs = [.ref f, v] ∧ Feed H f (n + 1000) ∧ WebZ K H v W ∧ Drawn W many ∧ TreeD W d ∧ ∀ H', SameB f H H' → Feed H' f n → Q (.bl true) H'
theorem ok_law_great_right (F : DefAt K mg "_law_great_right" s_law_great_right ["_law_feed_here", "_law_web"]) (B : Blt mg) (G_law_draw : Ok P w K mg base CX0 1 "_law_draw" ["_law_feed_here", "_law_many"] (sp_law_draw K)) (G_law_mixed : Ok P w K mg base CX0 2 "_law_mixed" ["_law_feed_here", "_law_things"] (sp_law_mixed K))
    (G_law_greatest : Ok P w K mg base CX0 2 "_law_greatest" ["_law_web", "_law_rota"] (sp_law_greatest K)) (G_law_is_best : Ok P w K mg base CX0 2 "_law_is_best" ["_law_web", "_law_rota"] (sp_law_is_best K)) (GK_best_tree_rota : OkK P w K mg base (L2.CX P w) 7 "best_tree_rota" "web" (sp_best_tree_rota K cW cT))
    (G_least_slowest : Ok P w K mg base CX0 6 "least_slowest" ["web"] (sp_least_slowest K)) (G_slowest : Ok P w K mg base CX0 6 "slowest" ["web", "week"] (sp_slowest K)) : OkG P w K mg base 8 "_law_great_right" ["_law_feed_here", "_law_web"] (sp_law_great_right K) := by
  have G_best_tree_rota := GK_best_tree_rota.ok
  refine okG_of F sc_law_great_right (fun vs H Q E h => by obtain ⟨_, _, _, _, _, _, rfl, _⟩ := h; rfl) fun f cdv A outer s H vs Q E hgd hr h => ?_
  have hgd : (A.deeper (envOfC "_law_great_right" (defScope s_law_great_right) s.heap.objs.size f cdv)).guards = some [] := hgd
  obtain ⟨f, v, W, d, many, n, rfl, hf, hz, D, T, q⟩ := h
  refine ⟨_, (ass_cons (ps_par (i := 2) (j := 3) rfl sc_law_great_right.nd rfl rfl (by decide) rfl rfl (aa_cons (ae_co G_best_tree_rota hr passL (aa_cons (av 1) aa_nil)) (aa_cons (ae_callTy (tupOf K) (by rfl) B.tuple_ (by decide +kernel) (aa_cons (pe_lc (own := [("_law_road", 10)]) (g := (gName 10)) (tt := tYes) rfl sc_law_great_right.nd (piT K (ae_ix (ixT K) (av 1) ae_int (fun _ _ => rfl))) (blkOk_by (own := [("_law_road", 10)]) (N := n_law_great_right) (sc := (defScope s_law_great_right)) (by decide +kernel)) (fun _ _ _ _ _ => (pg_name (i := 10) sc_law_great_right.nd rfl (Or.inl rfl))) (fun _ _ _ _ _ => pts_nil) (fun _ _ _ _ _ => (ae_ix (ixT K) (av 10) ae_int (fun _ _ => rfl)))) aa_nil)) aa_nil)) (by rfl))
    (ass_cons (as_if (PW.pt (aw_or (at_not (at_val (ae_co G_law_is_best hr pass0 (aa_cons (av 1) (aa_cons (av 2) aa_nil))))) (pw_or1 (at_cmpR op_ne (ae_callB (reprT K hr hgd) (by rfl) B.repr_ (by decide +kernel) (aa_cons (pe_kw GK_best_tree_rota hr passL (av 1)) aa_nil)) (ae_callB (reprT K hr hgd) (by rfl) B.repr_ (by decide +kernel) (aa_cons (av 2) aa_nil)) (nomark _)))))
      (pss_one (as_ret ae_bl))
      ass_nil)
    (ass_cons (ps_par (i := 4) (j := 5) rfl sc_law_great_right.nd rfl rfl (by decide) rfl rfl (aa_cons (ae_co G_least_slowest hr pass0 (aa_cons (av 1) aa_nil)) (aa_cons (ae_lst (aa_cons (av 3) (aa_cons (av 2) (aa_cons (pe_revT (av 2)) aa_nil)))) aa_nil)) (by rfl))
    (ass_cons (ps_for PassesOwn.never rfl (pi_range1 rfl B.range_ (aa_cons ae_int aa_nil)) (pg_name (i := 6) sc_law_great_right.nd rfl (Or.inl rfl))
      (pss_one (as_expr (ae_bm K PySem.F.plainAttrs_list PySem.F.slot_list_append PySem.F.type_list_append mt_append (av 5) (aa_cons (ae_callTy (tupOf K) (by rfl) B.tuple_ (by decide +kernel) (aa_cons (ae_co G_law_mixed hr pass0 (aa_cons (av 0) (aa_cons (av 3) aa_nil))) aa_nil)) aa_nil)))))
    (ass_cons (as_if (at_cmpR op_gt (ae_callB (lenS K) (by rfl) B.len_ PySem.boot_len (aa_cons (av 3) aa_nil)) ae_int (nomark _))
      (ass_cons (as_set (i := 7) sc_law_great_right.nd rfl (Or.inl rfl) (ae_co G_law_draw hr pass0 (aa_cons (av 0) (aa_cons (ae_op op_sub (ae_callB (lenS K) (by rfl) B.len_ PySem.boot_len (aa_cons (av 3) aa_nil)) ae_int) aa_nil))))
      (pss_one (as_expr (ae_bm K PySem.F.plainAttrs_list PySem.F.slot_list_append PySem.F.type_list_append mt_append (av 5) (aa_cons (ae_op (catA K) (ae_op (catA K) (ae_slice (slT K) (av 2) poN (ao_some (av 7))) (ae_tup (aa_cons (ae_ix (ixT K) (av 2) (ae_op op_add (av 7) ae_int) (fun _ _ => rfl)) (aa_cons (ae_ix (ixT K) (av 2) (av 7) (fun _ _ => rfl)) aa_nil)))) (ae_slice (slT K) (av 2) (ao_some (ae_op op_add (av 7) ae_int)) poN)) aa_nil)))))
      ass_nil)
    (ass_cons (ps_for PassesOwn.never rfl (piL K (av 5)) (pg_name (i := 8) sc_law_great_right.nd rfl (Or.inl rfl))
      (ass_cons (as_set (i := 9) sc_law_great_right.nd rfl (Or.inl rfl) (ae_ix (ixT K) (ae_co G_slowest hr pass0 (aa_cons (av 1) (aa_cons (ae_tup (aa_cons (av 8) aa_nil)) aa_nil))) ae_int (fun _ _ => rfl)))
      (pss_one (as_if (PW.pt (aw_or (at_cmpR op_ne (av 9) (ae_co G_law_greatest hr pass0 (aa_cons (av 1) (aa_cons (av 8) aa_nil))) (nomark _)) (pw_or1 (at_cmpR op_lt (av 9) (av 4) (nomark _)))))
        (pss_one (as_ret ae_bl))
        ass_nil))))
    (pss_one (as_ret (ae_cmpR op_eq (ae_ix (ixT K) (ae_co G_slowest hr pass0 (aa_cons (av 1) (aa_cons (ae_tup (aa_cons (av 2) aa_nil)) aa_nil))) ae_int (fun _ _ => rfl)) (av 4) (nomark _)))))))))), ?_⟩
  have ok := D.ok
  obtain ⟨a, pp, r, rs, rfl, hA, hP, hRR, hrs, hZT⟩ := hz.z
  have rsl : rs.length = W.R.length := by rw [hrs.length, List.length_map]
  have r14 := ok.r14
  have nl : W.names.length = W.R.length := by unfold Web.names; rw [List.length_map]
  obtain ⟨fxs, hfx⟩ := hf.some
  have nfree : ∀ {H : Hp} {n : Nat} {p : Addr}, Feed H f n → H p = none → p ≠ f := fun hF hp e => by
    obtain ⟨zs, hz⟩ := hF.some
    rw [e, hz] at hp
    cases hp
  -- the best one, the names
  refine ⟨_, rfl, best_of ok hz T fun H1 vb s1 G hdb => ?_⟩
  refine ⟨_, rfl, a, _, _, _, rfl, rfl, s1.seqT hA, ix1, r, rfl, ⟨_, s1.seqT hRR⟩, fun Dl hDl => ?_⟩
  refine lc_tupD (K := K) (a := r) (xs := rs) (W.names.map .str) hDl (s1.seqT hRR) (by unfold Web.names; rw [List.length_map, List.length_map, rsl]) (by omega) ?_ ?_
  · intro i x e H2 acc Q2 u1 hD2 hx he k
    obtain ⟨rd, e1, e2⟩ := at_map (f := fun r : Road => PyData.str r.1) (by unfold Web.names at he; rw [List.map_map] at he; exact he)
    subst e2
    obtain ⟨b, rfl, hb⟩ := road_parts ((hrs.both hx (map_at e1)).mono (s1.trans u1))
    exact ⟨rfl, _, rfl, b, _, _, _, rfl, rfl, hb, ix0, k _ _ (Same.refl _) (.str _)⟩
  intro H2 zs s2 hz2 hda
  have ezs : zs = W.names.map V.str := DpAll.strs hda
  subst ezs
  have s02 := s1.trans s2
  refine ⟨Dl, _, rfl, .inl ⟨SqL.at hz2, fun na hna => ?_⟩⟩
  have naf : na ≠ f := nfree (hf.mono s02) hna
  have s3 : Same H2 (upd H2 na (.tup (W.names.map V.str))) := Same.new hna
  have gna : SqT K (upd H2 na (.tup (W.names.map V.str))) na (W.names.map V.str) := SqT.at upd_same
  refine ⟨_, _, rfl, ?_⟩
  show aSeq _ _ _ _ (upd H2 na (.tup (W.names.map V.str)))
  generalize upd H2 na (.tup (W.names.map V.str)) = H3 at s3 gna
  have s03 := s02.trans s3
  have hdb3 := hdb.mono (s2.trans s3)
  obtain ⟨nN, xN, yN, FF⟩ := far_ex T
  obtain ⟨okb, gb⟩ := gr_best T G FF
  have gbA : ∀ n x y, Far W d n x y → greatN (yRows W d (bestR W d)) = (leastN W n : Nat) := fun n x y F' => (gr_best T G F').2
  have mN : ∀ x ∈ bestR W d, x ∈ namesL := fun x hx => D.inN x (okb.perm.mem_iff.mp hx)
  have lN : (bestR W d).length ≤ 1000 := by rw [okb.len]; omega
  -- it is the best; its repr
  refine ⟨_, rfl, _, rfl, _, vb, W, d, bestR W d, rfl, ok, hz.mono s03, T, okb, hdb3, gbA, fun H4 s4 => ?_⟩
  refine ⟨true, rfl, ?_⟩
  refine ite2 (fun c => absurd c (by decide)) fun _ => ?_
  have s04 := s03.trans s4
  refine ⟨_, rfl, best_of ok (hz.mono s04) T fun H5 vb2 s5 G2 hdb5 => ?_⟩
  refine repr_strs hdb5 mN lN ?_
  refine ⟨_, rfl, repr_strs (hdb3.mono (s4.trans s5)) mN lN ?_⟩
  refine ⟨rfl, _, rfl, ?_⟩
  rw [decide_eq_true rfl]
  refine ite2 (fun c => absurd c (by decide)) fun _ => ?_
  have s05 := s04.trans s5
  -- least, rotas
  refine ⟨_, rfl, _, W, d, rfl, ok, (hz.mono s05).at_.dp, T, fun H6 n6 x6 y6 s6 F6 => ?_⟩
  have en := F6.one FF
  subst en
  have s06 := s05.trans s6
  have hdb6 := hdb3.mono ((s4.trans s5).trans s6)
  have gna6 := ((s4.trans s5).trans s6).seqT gna
  obtain ⟨ba, bxs, eb, hba, hbx⟩ := id hdb6.tupI
  rw [hbx.strs] at hba
  refine ⟨_, rfl, _, rfl, _, rfl, ba, _, eb, hba, fun p7 hp7 => ?_⟩
  have s7 : Same H6 (upd H6 p7 (.tup ((bestR W d).map V.str).reverse)) := Same.new hp7
  have d7 : Dp K (upd H6 p7 (.tup ((bestR W d).map V.str).reverse)) (.ref p7) (strsT (bestR W d).reverse) := by
    rw [← List.map_reverse]
    exact .tup (xs := (bestR W d).reverse.map V.str) (SqT.at upd_same) (DpAll.ofStrs _)
  refine ⟨by show 3 ≤ sizeLine; decide, fun L hL => ?_⟩
  have hL : upd H6 p7 (.tup ((bestR W d).map V.str).reverse) L = none := hL
  refine ⟨_, _, rfl, ?_⟩
  show aSeq _ _ _ _ (upd (upd H6 p7 (.tup ((bestR W d).map V.str).reverse)) L (.lst [.ref na, vb, .ref p7]))
  generalize upd H6 p7 (.tup ((bestR W d).map V.str).reverse) = H7 at s7 d7 hL
  have s8 : Same H7 (upd H7 L (.lst [.ref na, vb, .ref p7])) := Same.new hL
  have s07 := s06.trans s7
  have Lf : L ≠ f := nfree (hf.mono s07) hL
  have nL : H L = none := s07.free hL
  have g0 : Gat K W (bestR W d) f L na vb H (upd H7 L (.lst [.ref na, vb, .ref p7])) [W.names, bestR W d, (bestR W d).reverse] n 0 := by
    refine ⟨R.Same.b (s07.trans s8), (hf.mono (s07.trans s8)).less (by omega), (s7.trans s8).seqT gna6, hdb6.mono (s7.trans s8), ⟨_, upd_same, ?_⟩, fun rt hrt => ?_, by show 3 ≤ 3 + 0; omega⟩
    · exact .cons (.tup ((s7.trans s8).seqT gna6) (DpAll.ofStrs _)) (.cons (hdb6.mono (s7.trans s8)) (.cons (d7.mono s8) .nil))
    · have h : rt = W.names ∨ rt = bestR W d ∨ rt = (bestR W d).reverse := by simpa using hrt
      rcases h with e | e | e <;> rw [e]
      · exact RotaOf.names
      · exact okb
      · exact okb.to (List.reverse_perm _)
  generalize upd H7 L (.lst [.ref na, vb, .ref p7]) = H8 at s8 g0
  -- six drawn
  refine ⟨_, rfl, by decide, by decide, ?_⟩
  refine for_range (fun i σ H' => ∃ (y6 : Option V) (rts : List (List Str)), σ = [some (.ref f), some (.ref a), some vb, some (.ref na), some (.int (leastN W n6 : Nat)), some (.ref L), y6, none, none, none, none] ∧ Gat K W (bestR W d) f L na vb H H' rts n i)
    ⟨none, _, rfl, g0⟩ ?_ ?_
  · rintro i σ H' hi ⟨y6, rts, rfl, g⟩
    have hi : i < 6 := hi
    obtain ⟨xs, hLx, _⟩ := g.at_
    refine ⟨_, rfl, .inl ⟨rfl, _, SqL.at hLx⟩, _, rfl, _, rfl, f, na, W.names.map V.str, n + 1000 - 100 * (i + 1), rfl, g.fd.less (by rw [List.length_map]; omega), .inr g.nm, naf, by rw [List.length_map]; omega, fun H9 L9 ys sb9 hf9 nL9 hL9 pm => ?_⟩
    obtain ⟨l9, p9, rfl⟩ := perm_inv pm rfl
    have g9 := g.draw (j := i + 1) Lf sb9 hf9 (Nat.le_succ _)
    have ln := g.ln
    refine ⟨L9, _, rfl, .inl ⟨SqL.at hL9, fun c hc => ?_⟩⟩
    exact (g9.same (Same.new hc)).put Lf nL (by omega) (by omega) (.tup (xs := l9.map V.str) (SqT.at upd_same) (DpAll.ofStrs l9)) ⟨p9⟩ fun H10 g10 => ⟨_, _, rfl, g10⟩
  · rintro σ H' ⟨y6, rts, rfl, g⟩
    have g : Gat K W (bestR W d) f L na vb H H' rts n 6 := g
    refine ⟨_, rfl, na, _, rfl, .inr g.nm, _, _, rfl, rfl, _, rfl, ?_⟩
    refine if_rest (Fct := fun σ' H' => ∃ (y6 y7 : Option V) (rts : List (List Str)), σ' = [some (.ref f), some (.ref a), some vb, some (.ref na), some (.int (leastN W n6 : Nat)), some (.ref L), y6, y7, none, none, none] ∧ Gat K W (bestR W d) f L na vb H H' rts n 7) ?_ (fun c hK => ?_) (fun c => ⟨_, _, _, rfl, g.up (by omega)⟩)
    · rintro σ' H' ⟨y6, y7, rts, rfl, g⟩
      obtain ⟨xs, hLx, hda⟩ := g.at_
      have hzz := hz.sameT (g.sb.sameT hfx)
      refine ⟨_, rfl, L, rfl, ⟨_, SqL.at hLx⟩, ?_⟩
      refine for_list (K := K) (a := L) (xs := xs) (fun i σ H'' => ∃ y8 y9 : Option V, σ = [some (.ref f), some (.ref a), some vb, some (.ref na), some (.int (leastN W n6 : Nat)), some (.ref L), y6, y7, y8, y9, none] ∧ Same H' H'')
        ⟨none, none, rfl, Same.refl _⟩ (fun i σ H'' _ h => by obtain ⟨_, _, _, s⟩ := h; exact SqL.at (s _ _ hLx)) ?_ ?_
      · rintro i x σ H'' hx ⟨y8, y9, rfl, s⟩
        obtain ⟨e, he, hdx⟩ := hda.get' hx
        obtain ⟨rt, hrt, rfl⟩ := at_map he
        have hR := g.ok rt (mem_at hrt)
        have hdx := hdx.mono s
        refine ⟨_, rfl, _, rfl, by show 1 ≤ sizeLine; decide, fun p hp => ?_⟩
        have t1 : Same H'' (upd H'' p (.tup [x])) := Same.new hp
        refine ⟨_, _, W, d, rt, rfl, ok, hzz.mono (s.trans t1), T, hR, .tup (xs := [x]) (SqT.at upd_same) (.cons (hdx.mono t1) .nil), fun H9 v9 p9 q9 s9 hd9 => ?_⟩
        obtain ⟨b9, rfl, hb9⟩ := best_parts hd9
        refine ⟨b9, _, _, _, rfl, rfl, hb9, ix0, ?_⟩
        have t2 := t1.trans s9
        refine ⟨_, rfl, _, rfl, _, rfl, _, x, W, d, rt, rfl, hzz.mono (s.trans t2), T, hR, hdx.mono t2, fun H10 s10 => ?_⟩
        refine ⟨rfl, _, rfl, ?_⟩
        rw [decide_eq_true rfl]
        refine ite2 (fun c => absurd c (by decide)) fun _ => ?_
        refine ⟨_, rfl, _, rfl, _, _, rfl, rfl, _, rfl, ?_⟩
        have gl := gr_least T hR FF
        rw [decide_eq_false (by omega)]
        refine ite2 (fun c => absurd c (by decide)) fun _ => ?_
        exact ⟨_, _, rfl, (s.trans t2).trans s10⟩
      · rintro σ H'' ⟨y8, y9, rfl, s⟩
        have gb2 := g.bs.mono s
        refine ⟨_, rfl, _, rfl, by show 1 ≤ sizeLine; decide, fun p hp => ?_⟩
        have t1 : Same H'' (upd H'' p (.tup [vb])) := Same.new hp
        refine ⟨_, _, W, d, bestR W d, rfl, ok, hzz.mono (s.trans t1), T, okb, .tup (xs := [vb]) (SqT.at upd_same) (.cons (gb2.mono t1) .nil), fun H9 v9 p9 q9 s9 hd9 => ?_⟩
        obtain ⟨b9, rfl, hb9⟩ := best_parts hd9
        refine ⟨b9, _, _, _, rfl, rfl, hb9, ix0, ?_⟩
        refine ⟨_, rfl, rfl, ?_⟩
        rw [gb, decide_eq_true rfl]
        have st := (s.trans t1).trans s9
        exact q H9 (g.sb.trans (R.Same.b st)) ((g.fd.mono st).less (by omega))
    · -- two neighbours exchanged
      have c : (1 : Int) < ((W.names.map V.str).length : Nat) := of_decide_eq_true c
      rw [List.length_map] at c
      obtain ⟨xs, hLx, _⟩ := g.at_
      refine ⟨_, rfl, _, rfl, na, _, rfl, .inr g.nm, _, _, rfl, rfl, f, _, n + 1000 - 100 * 7, rfl, g.fd.less (by omega), ?_, ?_, fun H9 r9 sb9 hf9 _ r0 r1 => ?_⟩
      · show (0 : Int) < (((W.names.map V.str).length : Nat) : Int) - 1
        rw [List.length_map]
        omega
      · show (((W.names.map V.str).length : Nat) : Int) - 1 < 1073741824
        rw [List.length_map]
        omega
      have r1 : r9 < (((W.names.map V.str).length : Nat) : Int) - 1 := r1
      rw [List.length_map] at r1
      have g7 := g.draw (j := 7) Lf sb9 hf9 (by omega)
      obtain ⟨k, rfl⟩ := Int.eq_ofNat_of_zero_le r0
      have bl : (bestR W d).length = W.names.length := by rw [okb.len, nl]
      obtain ⟨x, y, hx, hy, eB⟩ := two_at (l := bestR W d) (k := k) (by omega)
      have hLx9 := sb9.get Lf hLx
      refine ⟨_, rfl, .inl ⟨rfl, _, SqL.at hLx9⟩, _, rfl, _, rfl, _, rfl, ?_⟩
      refine sl_dp g7.bs fun v1 K1 u1 hd1 => ?_
      rw [sIx_cut, ← List.map_take] at hd1
      obtain ⟨b9, bx9, e9, hb9, hbx9⟩ := (g7.bs.mono u1).tupI
      rw [hbx9.strs] at hb9
      refine ⟨_, rfl, _, rfl, _, _, rfl, rfl, b9, _, _, _, e9, rfl, hb9, (by rw [show ((k : Int) + 1) = ((k + 1 : Nat) : Int) by omega]; exact atI_nat (map_at hy)), _, rfl, _, rfl, b9, _, _, _, e9, rfl, hb9, atI_nat (map_at hx), by show 2 ≤ sizeLine; decide, fun p hp => ?_⟩
      have u2 : Same K1 (upd K1 p (.tup [.str y, .str x])) := Same.new hp
      have dp2 : Dp K (upd K1 p (.tup [.str y, .str x])) (.ref p) (.tuple [.str y, .str x]) := .tup (xs := [.str y, .str x]) (SqT.at upd_same) (.cons (.str _) (.cons (.str _) .nil))
      generalize upd K1 p (.tup [.str y, .str x]) = K2 at u2 dp2
      refine cat_dp (hd1.mono u2) dp2 (by rw [List.length_map, List.length_take]; show min k _ + 2 ≤ 100000; omega) fun v2 K3 u3 hd3 => ?_
      have u13 := (u1.trans u2).trans u3
      refine ⟨_, rfl, _, rfl, _, _, rfl, rfl, _, rfl, ?_⟩
      refine sl_dp (g7.bs.mono u13) fun v3 K4 u4 hd4 => ?_
      rw [show ((k : Int) + 2) = ((k + 2 : Nat) : Int) by omega, cut_from (by rw [List.length_map]; omega), ← List.map_drop] at hd4
      refine cat_dp (hd3.mono u4) hd4 (by rw [List.length_append, List.length_map, List.length_map, List.length_take, List.length_drop]; show min k _ + 2 + _ ≤ 100000; omega) fun v4 K5 u5 hd5 => ?_
      have e5 : PyData.tuple ((((bestR W d).take k).map PyData.str ++ [.str y, .str x]) ++ ((bestR W d).drop (k + 2)).map PyData.str) = strsT ((bestR W d).take k ++ (y :: x :: (bestR W d).drop (k + 2))) := by
        unfold strsT
        rw [List.map_append, List.append_assoc]; rfl
      rw [e5] at hd5
      have ln := g.ln
      refine (g7.same ((u13.trans u4).trans u5)).put Lf nL (by omega) (by omega) hd5 (okb.to ?_) fun K6 g6 => hK _ _ ⟨_, _, _, rfl, g6⟩
      conv => rhs; rw [eB]
      exact (List.Perm.swap x y _).append_left _
end R
set_option maxHeartbeats 4000000
/-! an exception that was caught, kept under another name behind the suite; isinstance of it -/
namespace R
open PySem PySem.Spec PyProof.Rows L2
/-- a caught exception object of the class cls at a -/
def ExK (cls : Value) (d : Option Addr) (a : Addr) : HO := .ext fun h => ∃ oe : Obj, h.get? a = some oe ∧ Zc cls d oe ∧ ∃ vs, oe.data = .fields vs
theorem exK_ok {P : Program} {w : World} {H : Hp} {h : Heap} {a : Addr} {cls : Value} {d : Option Addr} {oe : Obj} (e : h.get? a = some oe) (z : Zc cls d oe) (hd : ∃ vs, oe.data = .fields vs) : ObjOk P w H h a (ExK cls d a) :=
  ⟨⟨oe, e, z, hd⟩, ⟨oe, e⟩, fun _ _ ⟨o, q, r⟩ k => ⟨o, k o q, r⟩⟩
section
variable {X : Cx} {pins : List (Addr × Obj)} {σ : L2.St} {H : Hp} {s : Shared} {a : Addr} {cls : Value} {d : Option Addr} {oe : Obj}
/-- an object that came behind the entry is tracked from now on -/
theorem track (I : Inv X pins σ H s) (e : s.heap.get? a = some oe) (z : Zc cls d oe) (hd : ∃ vs, oe.data = .fields vs) (na : H a = none) (nL : a ≠ X.env.locals) (n0 : X.s_0.heap.get? a = none) (np : ∀ p ∈ X.pn ++ pins, p.1 ≠ a) :
    Inv X pins σ (upd H a (ExK cls d a)) s := by
  have keepT : ∀ (b : Addr) (u : HO), H b = some u → upd H a (ExK cls d a) b = some u := fun b u q => by rw [upd_ne (ne_of_none q na)]; exact q
  have nC : ∀ x c, X.env.cells.lookup x = some c → c ≠ a := fun x c q y => by
    obtain ⟨v, o, ho, hc⟩ := I.cell x c q
    rw [y, e] at ho
    cases ho
    obtain ⟨vs, hv⟩ := hd
    rw [hv] at hc
    cases hc
  refine ⟨I.ok, I.os, I.bare, ⟨I.base.keep, I.base.slot, fun b u q n m => ?_, I.base.there, fun b xs q => keepT _ _ (I.base.tups b xs q), fun b o u q => keepT _ _ (I.base.frzs b o u q), fun b ps q => ?_⟩, I.loc, I.cell, ?_, fun x c q => ?_, fun p hp => ?_, fun b u q => ?_, I.len⟩
  · have ne : b ≠ a := fun y => by rw [y, n0] at q; cases q
    rw [upd_ne ne]
    exact I.base.free b u q n m
  · obtain ⟨m, r⟩ := I.base.tbls b ps q
    exact ⟨m, keepT _ _ r⟩
  · rw [upd_ne (Ne.symm nL)]
    exact I.free
  · rw [upd_ne (nC x c q)]
    exact I.freeC x c q
  · obtain ⟨p1, p2, p3⟩ := I.pin p hp
    exact ⟨p1, by rw [upd_ne (np p hp)]; exact p2, p3⟩
  · by_cases hb : b = a
    · subst hb
      rw [upd_same] at q
      cases q
      exact exK_ok e z hd
    · rw [upd_ne hb] at q
      exact (I.hok b u q).stay (fun _ _ _ r => r) (fun c r => keepT _ _ r) fun c xs r => keepT _ _ r
end
/-- what the clause wishes of the body's exception; behind the suite the exception's object is tracked -/
def wAsK (K : PySem.W.Frag) (c : Value) (i : Nat) (ts : Addr → Value → Option Addr → TS) (Wout : WX) (D : Ends) : WX := fun cls d σ H =>
  ∃ b, PySem.W.exmOne K cls c = some b ∧ (b = true → ∀ a, H a = none → ts a cls d { nx := fun σ' H' => D.nx (σ'.set i none) (upd H' a (ExK cls d a)), rt := fun _ _ => False, bk := fun _ _ => False, ct := fun _ _ => False } (σ.set i (some (.ref a))) H) ∧
    (b = false → Wout cls d σ H)
section
variable {X : Cx} {x n : Str} {c : Value} {i : Nat} {body suite : List Stmt} {b0 : Stmt} {np pos pos' : Pos} {tb : WX → TS} {ts : Addr → Value → Option Addr → TS}
/-- try: body, except x as n: suite, where all that the body lets out is caught and the suite runs to its end -/
theorem ps_try_keep (hs : X.stack = X.env :: X.outer) (hf : X.env.frame = some X.env.locals) (hex : X.ex = []) (hN : X.N.Nodup) (hi : X.N[i]? = some n) (hln : X.env.kindOf n = some .local) (hc : Names X x c)
    (hb : ∀ (W : WX) (pn : List (Addr × Obj)) (xe : Value → Shared → Prop), Takes (X.tr pn xe) W → PassesOwn (model X.prog X.w) X.A X.env xe → PSs (X.tr pn xe) body (tb W))
    (hsu : ∀ (a : Addr) (oe : Obj) (cls : Value) (d : Option Addr) (pn : List (Addr × Obj)), Zc cls d oe → (∃ vs, oe.data = .fields vs) → PSs (X.suite a ((a, oe) :: pn)) (b0 :: suite) (ts a cls d)) :
    PS X (.Try body [.ExceptHandler (some (.Name x np)) (some n) (b0 :: suite) pos'] [] [] pos) (fun D σ H => tb (wAsK X.K c i ts (fun _ _ _ _ => False) D) D σ H) := by
  refine ⟨fun pins s σ H D I h => ?_⟩
  have ok := I.ok
  have hfr : X.A.frames = some (X.env :: X.outer) := by rw [ok.frames, hs]
  refine wpAny_Try_except ?_
  refine wpAny_mono ((hb (wAsK X.K c i ts (fun _ _ _ _ => False) D) (X.pn ++ pins) (fun e s1 => wpAny (model X.prog X.w) X.A (noteFrame e X.env) (fun _ s2 => wpAny (model X.prog X.w) X.A (setFlight e none) (fun _ s3 =>
    wpAny (model X.prog X.w) X.A (handleBy e X.env [.ExceptHandler (some (.Name x np)) (some n) (b0 :: suite) pos']) (SP X pins D) X.xe s3) X.xe s2) X.xe s1) (fun u s' xx => ?_) PassesOwn.looking).run [] s σ H D (I.toTry _) h) (fun f s1 hsp => ?_) (fun e s1 he => he)
  · obtain ⟨a, B, sI, pins', σ', H', cls, d, rfl, J', nb, up, sky, na, os, ag, b, hb1, hyes, hno⟩ := xx
    have J : Inv X pins σ' H' sI := J'.ofTry ok
    rw [hs] at sky
    show wpAny (model X.prog X.w) X.A (noteFrame (.ref a) X.env) _ _ _
    refine Sky.land Zc.steady hfr hf sky fun h3 fl3 up3 => ?_
    have J3 : Inv X pins σ' H' { s' with heap := h3 } := J.landed nb fl3.1 (up.trans up3) os ag
    obtain ⟨oe3, vs3, he3, hz3, hd3⟩ := fl3.there
    have nfr : a ∉ frs (X.env :: X.outer) := fun hm => by
      obtain ⟨_, o', e', hnf⟩ := fl3.2.2.1.mem hm
      rw [he3] at e'
      cases e'
      exact hnf _ hd3
    have nL : a ≠ X.env.locals := fun y => nfr (List.mem_filterMap.mpr ⟨X.env, List.mem_cons_self, by rw [hf, y]⟩)
    have nF : a ∉ X.fs := fun hm => by
      obtain ⟨e, he, q⟩ := List.mem_filterMap.mp hm
      exact nfr (List.mem_filterMap.mpr ⟨e, List.mem_cons_of_mem _ he, q⟩)
    -- it stood nowhere ahead of the body's exception
    have nI : sI.heap.get? a = none := by
      cases q : sI.heap.get? a with
      | none => rfl
      | some o =>
        have r := nb a o q (by rw [hs]; exact nfr)
        rw [fl3.2.1] at r
        cases r
    have n0 : X.s_0.heap.get? a = none := by
      cases q : X.s_0.heap.get? a with
      | none => rfl
      | some o =>
        obtain ⟨o', r⟩ := J.base.there a o q (by rw [hex]; simp)
        rw [nI] at r
        cases r
    have npin : ∀ p ∈ X.pn ++ pins, p.1 ≠ a := fun p hp y => by
      have r := (J.pin p hp).1
      rw [y, nI] at r
      cases r
    have S3 := J3.suite he3 hd3 na nL nF
    refine wpAny_handleBy_cons (codeAny_handlers_test ?_) (by intro q; cases q)
    have LT : PySem.W.Looks (model X.prog X.w) h3 (typeOf (.ref a)) cls := fun A Q E s k q => wpAny_typeOf_ref (k _ _ he3) (by rw [hz3.1]; exact q)
    have LM := PySem.W.exm_one (M := model X.prog X.w) (J3.kIn) LT hb1
    have test : ∀ {Q : Value → Shared → Prop} {E : Value → Shared → Prop}, Q c { s' with heap := h3 } → wpAny (model X.prog X.w) (X.A.mark (some (.ref a))) (eval (.Name x np) X.env) Q E { s' with heap := h3 } := fun {Q E} q => by
      obtain ⟨hg, hdbg, hm | ⟨hm, hv, hnn⟩⟩ := hc
      · exact ld_glob (X := X.suite a ((a, oe3) :: (X.pn ++ pins))) S3 hg hm q hdbg
      · exact ld_blt (X := X.suite a ((a, oe3) :: (X.pn ++ pins))) S3 hg hm hv q hnn hdbg
    refine test (LM.here ?_)
    cases b with
    | false => exact (hno rfl).elim
    | true =>
      refine codeAny_handlers_suite_as ?_
      refine HandSPX.lands_againZ fl3 fun h4 fl4 up4 => ?_
      have J4 : Inv X pins σ' H' { s' with heap := h4 } := J.landed nb fl4.1 ((up.trans up3).trans up4) os ag
      obtain ⟨oe4, vs4, he4, hz4, hd4⟩ := fl4.there
      have S4 := J4.suite he4 hd4 na nL nF
      refine store_ok (X := X.suite a ((a, oe4) :: (X.pn ++ pins))) (v := .ref a) S4 hN hi (.inl hln) rfl (fun s5 S5 => ?_) (.inr hln)
      refine wpAny_mono ((hsu a oe4 cls d (X.pn ++ pins) hz4 ⟨_, hd4⟩).run [] s5 _ H' _ S5 (hyes rfl a na)) (fun f s6 hsp => ?_) (fun _ _ z => False.elim z)
      cases f with
      | next =>
        obtain ⟨σ6, H6, S6, q6⟩ := hsp
        obtain ⟨e6, n6, _⟩ := S6.pin (a, oe4) (by simp)
        have T6 : Inv X pins σ6 (upd H6 a (ExK cls d a)) s6 := track (S6.unsuite ok) e6 hz4 ⟨_, hd4⟩ n6 nL n0 npin
        exact gone_ok T6 hN hi hln fun s7 J7 => ⟨_, _, J7, q6⟩
      | brk =>
        obtain ⟨σ6, H6, S6, q6⟩ := hsp
        exact q6.elim
      | cont =>
        obtain ⟨σ6, H6, S6, q6⟩ := hsp
        exact q6.elim
      | ret u =>
        obtain ⟨v6, σ6, H6, S6, r6, q6⟩ := hsp
        exact q6.elim
  · cases f with
    | next =>
      obtain ⟨σ', H', J', q⟩ := hsp
      exact wpAny_execs_nil ⟨σ', H', J'.ofTry ok, q⟩
    | brk =>
      obtain ⟨σ', H', J', q⟩ := hsp
      exact ⟨σ', H', J'.ofTry ok, q⟩
    | cont =>
      obtain ⟨σ', H', J', q⟩ := hsp
      exact ⟨σ', H', J'.ofTry ok, q⟩
    | ret u =>
      obtain ⟨v, σ', H', J', r, q⟩ := hsp
      exact ⟨v, σ', H', J'.ofTry ok, r, q⟩
end
/-- isinstance(e, c), e a tracked exception of the class D -/
def rIsK (K : PySem.W.Frag) : List V → Hp → VK → Prop := fun xs H Q => ∃ (a D C : Addr) (b : Bool), xs = [.ref a, .ref C] ∧ H a = some (ExK (.ref D) none a) ∧ ExcC K D ∧ PySem.W.kitOne K (.ref D) (.ref C) = some b ∧ Q (.bl b) H
theorem isE {X : Cx} (K : PySem.W.Frag) (hK : X.K = K := by rfl) : CallR X (.builtin "isinstance") (rIsK K) := by
  subst hK
  intro pins s σ H xs us Q I r h
  obtain ⟨a, D, C, b, rfl, ha, Cc, e, q⟩ := h
  obtain ⟨u1, u2, rfl, r1, r2⟩ := vals2 r
  cases (show u1 = Value.ref a from r1)
  cases (show u2 = Value.ref C from r2)
  obtain ⟨⟨oe, hget, hz, vs, hv⟩, _, _⟩ := I.hok a _ ha
  have J : PySem.W.InstAt s.heap a oe D none := by
    obtain ⟨oc, od, oda, osl⟩ := oe
    obtain ⟨h1, h2⟩ := hz
    dsimp only at h1 h2 hv
    subst h1 h2 hv
    exact ⟨hget, rfl, rfl, trivial⟩
  exact PySem.W.kia_one (PySem.W.handS_kitx_exc Cc.hg Cc.hk Cc.hs Cc.hd Cc.ha Cc.hn Cc.ht Cc.hm) I.kIn J e (fun z => nomatch z) fun tk => ⟨.bl b, H, I.tok tk, rfl, q⟩
end R
set_option maxHeartbeats 4000000
namespace R
open PySem PySem.Spec PyProof.Rows L2
/-- what isinstance and except ask of the classes -/
structure ClsK (K : PySem.W.Frag) (mg : Str → Option Value) (cP cW cT : Addr) : Prop where
  gP : mg "PostError" = some (.ref cP)
  gW : mg "BadWeb" = some (.ref cW)
  gT : mg "BadTree" = some (.ref cT)
  eW : PySem.W.exmOne K (.ref cW) (.ref cP) = some true
  eT : PySem.W.exmOne K (.ref cT) (.ref cP) = some true
  xW : ExcC K cW
  xT : ExcC K cT
  ww : PySem.W.kitOne K (.ref cW) (.ref cW) = some true
  wt : PySem.W.kitOne K (.ref cW) (.ref cT) = some false
  tw : PySem.W.kitOne K (.ref cT) (.ref cW) = some false
  tt : PySem.W.kitOne K (.ref cT) (.ref cT) = some true
abbrev aCallS (sp : Sp) (E : L2.St → XK) (t : TA) : L2.TE := fun σ H Q => t σ H fun vs H1 => sp vs H1 Q (E σ)
theorem pe_coS {X : Cx} {W : WX} {k j : Nat} {ps : List Str} {sp : Sp} {x : Str} {p pos : Pos} {e : Expr} {es : List Expr} {t : TA} (G : Ok X.prog X.w X.K X.mg X.base (L2.CX X.prog X.w) j x ps sp) (hr : Room k X.A) (tk : Takes X W) (ha : PA X (e :: es) t) (hjk : j ≤ k := by decide) (hg : Gl X x := by rfl)
    (hdb : (x == ("__debug__" : Str)) = false := by decide) (he : starEach (e :: es) X.env = (false, eval e X.env) :: starEach es X.env := by rfl) (hpl : (backTo pos (starEach es X.env)).any (·.1) = false := by rfl) :
    PE X (.Call (.Name x p) (e :: es) [] pos) (aCallS sp (WE W) t) := by
  obtain ⟨f, fd, g, kp, b, F⟩ := G
  exact pe_callS F (hr.mono hjk) hg g kp b (fun σ => passAt tk σ) ha hdb he hpl
variable {P : Program} {w : World} {K : PySem.W.Frag} {mg : Str → Option Value} {base : Heap} {cP cW cT : Addr}
theorem ok_law_flags (F : DefAt K mg "_law_flags" s_law_flags ["_law_web"]) (B : Blt mg) (C : ClsK K mg cP cW cT) (G_best_tree_rota : Ok P w K mg base (L2.CX P w) 7 "best_tree_rota" ["web"] (sp_best_tree_rota K cW cT)) : Ok P w K mg base CX0 8 "_law_flags" ["_law_web"] (sp_law_flags K) := by
  refine ok_of F sc_law_flags (fun vs H Q E h => by obtain ⟨_, _, _, rfl, _⟩ := h; rfl) fun f cdv A outer s H vs Q E hr h => ?_
  obtain ⟨v, dt, b, rfl, hd, R, q⟩ := h
  refine ⟨_, (ass_cons (as_set (i := 1) sc_law_flags.nd rfl (Or.inl rfl) ae_non)
    (ass_cons (ps_try_keep (i := 2) rfl rfl rfl sc_law_flags.nd rfl rfl ⟨rfl, by decide, .inl C.gP⟩ (fun W pn xe tk _ => pss_one (as_expr (pe_coS G_best_tree_rota hr tk (aa_cons (av 0) aa_nil)))) (fun a oe cls d pn _ _ => pss_one (as_set (i := 1) sc_law_flags.nd rfl (Or.inl rfl) (av 2))))
    (pss_one (as_ret (ae_lst (aa_cons (ae_callB (isE K) (by rfl) B.isinstance_ (by decide +kernel) (aa_cons (av 1) (aa_cons (ae_glob (v := .ref cW) (by rfl) C.gW rfl) aa_nil))) (aa_cons (ae_callB (isE K) (by rfl) B.isinstance_ (by decide +kernel) (aa_cons (av 1) (aa_cons (ae_glob (v := .ref cT) (by rfl) C.gT rfl) aa_nil))) aa_nil))))))), ?_⟩
  have fin : ∀ (c : Bool) (H1 : Hp) (D : Addr) (a : Addr) (l r : V), Same H H1 → H1 a = none → c = b → l = .bl (!c) → r = .bl c → ∀ p, upd H1 a (ExK (.ref D) none a) p = none → Q (.ref p) (upd (upd H1 a (ExK (.ref D) none a)) p (.lst [l, r])) := by
    intro c H1 D a l r s1 ha e el er p hp
    subst e el er
    exact q _ _ ((s1.trans (Same.new ha)).trans (Same.new hp)) (.lst (xs := [.bl (!c), .bl c]) (SqL.at upd_same) (.cons (.bl _) (.cons (.bl _) .nil)))
  refine ⟨_, rfl, _, dt, rfl, hd, R.1, fun c H1 s1 => ?_, fun W bb e o ht eb H1 s1 => ?_, fun W bb e o ht eb => ?_⟩
  · have eb : false = b := by
      cases b with
      | false => rfl
      | true =>
        obtain ⟨W, e, o, _⟩ := R.2.2 rfl
        rw [e, isWeb_web o] at c
        cases c
    refine ⟨true, C.eW, fun _ a ha => ?_, fun z => by cases z⟩
    refine ⟨_, rfl, ?_⟩
    refine ⟨_, rfl, a, cW, cW, true, rfl, upd_same, C.xW, C.ww, _, rfl, a, cW, cT, false, rfl, upd_same, C.xW, C.wt, by show 2 ≤ sizeLine; decide, fun p hp => ?_⟩
    exact fin false H1 cW a _ _ s1 ha eb rfl rfl p hp
  · have eb : true = b := by
      cases b with
      | true => rfl
      | false =>
        have c := R.2.1 rfl
        rw [e, isWeb_web o] at c
        cases c
    refine ⟨true, C.eT, fun _ a ha => ?_, fun z => by cases z⟩
    refine ⟨_, rfl, ?_⟩
    refine ⟨_, rfl, a, cT, cW, false, rfl, upd_same, C.xT, C.tw, _, rfl, a, cT, cT, true, rfl, upd_same, C.xT, C.tt, by show 2 ≤ sizeLine; decide, fun p hp => ?_⟩
    exact fin true H1 cT a _ _ s1 ha eb rfl rfl p hp
  · exfalso
    cases b with
    | false =>
      have c := R.2.1 rfl
      rw [e, isWeb_web o] at c
      cases c
    | true =>
      obtain ⟨W', e', _, h⟩ := R.2.2 rfl
      have : W = W' := web_inj (e.symm.trans e')
      subst this
      have := h bb ht
      rw [eb] at this
      cases this
end R
set_option maxHeartbeats 4000000
namespace R
open PySem PySem.Spec PyProof.Rows L2
variable {P : Program} {w : World} {K : PySem.W.Frag} {mg : Str → Option Value} {base : Heap}
def sp_law (K : PySem.W.Frag) : Sp := fun vs H Q _ => ∃ (p : Addr) (ns : List Int), vs = [.ref p] ∧ SqL K H p (ns.map V.int) ∧ ∀ H', Q (.bl true) H'
theorem ok_law (F : DefAt K mg "law" s_law ["_law_script"]) (B : Blt mg) (G_law_feed : Ok P w K mg base CX0 1 "_law_feed" ["_law_script", "_law_k"] (sp_law_feed K)) (G_law_draw : Ok P w K mg base CX0 1 "_law_draw" ["_law_feed_here", "_law_many"] (sp_law_draw K)) (G_law_sized : Ok P w K mg base CX0 4 "_law_sized" ["_law_feed_here", "_law_many", "_law_more"] (sp_law_sized K))
    (G_law_small_right : Ok P w K mg base CX0 8 "_law_small_right" ["_law_feed_here", "_law_web"] (sp_law_small_right K)) (G_law_great_right : OkG P w K mg base 8 "_law_great_right" ["_law_feed_here", "_law_web"] (sp_law_great_right K)) (G_law_refused_right : Ok P w K mg base CX0 9 "_law_refused_right" ["_law_feed_here", "_law_web"] (sp_law_refused_right K)) :
    OkG P w K mg base 10 "law" ["_law_script"] (sp_law K) := by
  refine okG_of F sc_law (fun vs H Q E h => by obtain ⟨_, _, rfl, _⟩ := h; rfl) fun f cdv A outer s H vs Q E hgd hr h => ?_
  have hgd : (A.deeper (envOfC "law" (defScope s_law) s.heap.objs.size f cdv)).guards = some [] := hgd
  obtain ⟨p, ns, rfl, hp, q⟩ := h
  refine ⟨_, (ass_cons (ps_for PassesOwn.never rfl (pi_range1 rfl B.range_ (aa_cons ae_int aa_nil)) (pg_name (i := 1) sc_law.nd rfl (Or.inl rfl))
      (ass_cons (as_set (i := 2) sc_law.nd rfl (Or.inl rfl) (ae_co G_law_feed hr pass0 (aa_cons (av 0) (aa_cons (av 1) aa_nil))))
      (ass_cons (as_if (at_not (at_val (ae_co G_law_small_right hr pass0 (aa_cons (av 2) (aa_cons (ae_co G_law_sized hr pass0 (aa_cons (av 2) (aa_cons (ae_op op_add ae_int (ae_co G_law_draw hr pass0 (aa_cons (av 2) (aa_cons ae_int aa_nil)))) (aa_cons ae_int aa_nil)))) aa_nil)))))
        (pss_one (as_ret ae_bl))
        ass_nil)
      (pss_one (ps_for PassesOwn.never rfl (pi_range1 rfl B.range_ (aa_cons ae_int aa_nil)) (pg_name (i := 3) sc_law.nd rfl (Or.inl rfl))
        (ass_cons (as_set (i := 4) sc_law.nd rfl (Or.inl rfl) (ae_co G_law_sized hr pass0 (aa_cons (av 2) (aa_cons (ae_op op_add ae_int (ae_co G_law_draw hr pass0 (aa_cons (av 2) (aa_cons ae_int aa_nil)))) (aa_cons ae_int aa_nil)))))
        (pss_one (as_if (PW.pt (aw_or (at_not (at_val (ae_coG G_law_great_right hgd hr (aa_cons (av 2) (aa_cons (av 4) aa_nil))))) (pw_or1 (at_not (at_val (ae_co G_law_refused_right hr pass0 (aa_cons (av 2) (aa_cons (av 4) aa_nil))))))))
          (pss_one (as_ret ae_bl))
          ass_nil))))))))
    (pss_one (as_ret ae_bl))), ?_⟩
  refine ⟨_, rfl, by decide, by decide, ?_⟩
  refine for_range (fun i σ H' => ∃ y1 y2 y3 y4 : Option V, σ = [some (.ref p), y1, y2, y3, y4] ∧ Same H H') ⟨none, none, none, none, rfl, Same.refl _⟩ ?_ ?_
  · rintro i σ H' hi ⟨y1, y2, y3, y4, rfl, s0⟩
    have hi : i < 2 := hi
    refine ⟨_, rfl, _, rfl, p, ns, 0 + (i : Int), rfl, s0.seq hp, by omega, by omega, fun H1 f s1 nf hf => ?_⟩
    have nf0 : H f = none := s0.free nf
    -- the small tree
    refine ⟨_, rfl, _, rfl, _, rfl, f, 7, 999999999, rfl, hf, by decide, by decide, fun H2 r sb2 hf2 _ r0 r7 => ?_⟩
    obtain ⟨k, rfl⟩ := Int.eq_ofNat_of_zero_le r0
    refine ⟨_, _, rfl, rfl, f, 1 + k, 0, 999999000, by rw [show ((1 + k : Nat) : Int) = 1 + (k : Int) by omega]; rfl, hf2.less (by omega), by omega, by omega, by omega, fun H3 v W sb3 hf3 hz D tree _ => ?_⟩
    obtain ⟨d, T⟩ := tree rfl
    have hR : W.R.length ≤ 6 := by
      have h1 := T.cnt
      have h2 := D.len
      omega
    refine ⟨f, v, W, d, rfl, D.ok, hz, T, hR, fun H4 s4 => ?_⟩
    refine ⟨true, rfl, ?_⟩
    refine ite2 (fun c => absurd c (by decide)) fun _ => ?_
    have sb4 := (sb2.trans sb3).trans (R.Same.b (f := f) s4)
    have hf4 := hf3.mono s4
    -- the great ones
    refine ⟨_, rfl, by decide, by decide, ?_⟩
    refine for_range (fun j σ H' => ∃ (y1 : Option V) (y3 y4 : Option V), σ = [some (.ref p), y1, some (.ref f), y3, y4] ∧ SameB f H1 H' ∧ Feed H' f (999999000 - 10000 * j)) ⟨_, y3, y4, rfl, sb4, hf4.less (by omega)⟩ ?_ ?_
    · rintro j σ H5 hj ⟨y1, y3, y4, rfl, sb5, hf5⟩
      have hj : j < 2 := hj
      refine ⟨_, rfl, _, rfl, f, 10, 999999000 - 10000 * j - 1, rfl, hf5.less (by omega), by decide, by decide, fun H6 r sb6 hf6 _ r0 r10 => ?_⟩
      obtain ⟨m, rfl⟩ := Int.eq_ofNat_of_zero_le r0
      refine ⟨_, _, rfl, rfl, f, 1 + m, 0, 999999000 - 10000 * j - 1000, by rw [show ((1 + m : Nat) : Int) = 1 + (m : Int) by omega]; rfl, hf6.less (by omega), by omega, by omega, by omega, fun H7 v7 W7 sb7 hf7 hz7 D7 tree7 _ => ?_⟩
      obtain ⟨d7, T7⟩ := tree7 rfl
      obtain ⟨ys7, hy7⟩ := hf7.some
      refine ⟨_, rfl, _, rfl, f, v7, W7, d7, 1 + m, 999999000 - 10000 * j - 3000, rfl, hf7.less (by omega), hz7, D7, T7, fun H8 sb8 hf8 => ?_⟩
      refine ⟨true, rfl, ?_⟩
      refine ite2 (fun c => absurd c (by decide)) fun _ => ?_
      refine ⟨_, rfl, _, rfl, f, v7, W7, d7, 1 + m, 999999000 - 10000 * (j + 1), rfl, hf8.less (by omega), hz7.sameT (sb8.sameT hy7), D7, T7, fun H9 sb9 hf9 => ?_⟩
      refine ⟨true, rfl, ?_⟩
      refine ite2 (fun c => absurd c (by decide)) fun _ => ?_
      exact ⟨_, _, _, rfl, (((sb5.trans sb6).trans sb7).trans sb8).trans sb9, hf9⟩
    · rintro σ H5 ⟨y1, y3, y4, rfl, sb5, _⟩
      refine ⟨_, _, _, _, rfl, fun b o e => sb5.get (ne_of_none e nf0) (s1 _ _ (s0 _ _ e))⟩
  · rintro σ H' ⟨y1, y2, y3, y4, rfl, s0⟩
    exact q H'
end R
set_option maxHeartbeats 4000000
namespace R
open PySem PySem.Spec PyProof.Rows L2
/-- all defs of the text that the law reaches stand behind the top -/
structure Defs (K : PySem.W.Frag) (mg : Str → Option Value) : Prop where
  d_law_feed : DefAt K mg "_law_feed" s_law_feed ["_law_script", "_law_k"]
  d_law_draw : DefAt K mg "_law_draw" s_law_draw ["_law_feed_here", "_law_many"]
  d_law_mixed : DefAt K mg "_law_mixed" s_law_mixed ["_law_feed_here", "_law_things"]
  d_law_names : DefAt K mg "_law_names" s_law_names ["_law_feed_here", "_law_many"]
  d_law_sized : DefAt K mg "_law_sized" s_law_sized ["_law_feed_here", "_law_many", "_law_more"]
  d_law_rotas : DefAt K mg "_law_rotas" s_law_rotas ["_law_web"]
  d_law_orders : DefAt K mg "_law_orders" s_law_orders ["_law_web", "_law_rota"]
  d_law_unlike : DefAt K mg "_law_unlike" s_law_unlike ["_law_web"]
  d_law_table : DefAt K mg "_law_table" s_law_table ["_law_web", "_law_rota"]
  d_law_greatest : DefAt K mg "_law_greatest" s_law_greatest ["_law_web", "_law_rota"]
  d_is_row_of : DefAt K mg "is_row_of" s_is_row_of ["thing", "least", "most"]
  d_is_name : DefAt K mg "is_name" s_is_name ["thing"]
  d_are_names : DefAt K mg "are_names" s_are_names ["thing"]
  d_are_of : DefAt K mg "are_of" s_are_of ["thing", "names"]
  d_is_road : DefAt K mg "is_road" s_is_road ["thing", "places"]
  d_is_web_form : DefAt K mg "is_web_form" s_is_web_form ["thing"]
  d_need_web : DefAt K mg "need_web" s_need_web ["web"]
  d_other_end : DefAt K mg "other_end" s_other_end ["road", "place"]
  d_steps_from : DefAt K mg "steps_from" s_steps_from ["web", "place"]
  d_has_one_piece : DefAt K mg "has_one_piece" s_has_one_piece ["web"]
  d_is_tree_web : DefAt K mg "is_tree_web" s_is_tree_web ["web"]
  d_need_tree : DefAt K mg "need_tree" s_need_tree ["web"]
  d_distance_rows : DefAt K mg "distance_rows" s_distance_rows ["web"]
  d_longest : DefAt K mg "longest" s_longest ["web"]
  d_first_way : DefAt K mg "first_way" s_first_way ["web", "place", "other"]
  d_way_places : DefAt K mg "way_places" s_way_places ["web", "place", "way"]
  d_middle_of : DefAt K mg "middle_of" s_middle_of ["web"]
  d_end_numbers : DefAt K mg "end_numbers" s_end_numbers ["web"]
  d_names_of_roads : DefAt K mg "names_of_roads" s_names_of_roads ["web"]
  d_named : DefAt K mg "named" s_named ["web", "numbers"]
  d_rota_by_levels : DefAt K mg "rota_by_levels" s_rota_by_levels ["web"]
  d_best_tree_rota : DefAt K mg "best_tree_rota" s_best_tree_rota ["web"]
  d_need_one_piece : DefAt K mg "need_one_piece" s_need_one_piece ["web"]
  d_least_days : DefAt K mg "least_days" s_least_days ["web"]
  d_least_slowest : DefAt K mg "least_slowest" s_least_slowest ["web"]
  d_law_distances : DefAt K mg "_law_distances" s_law_distances ["_law_web"]
  d_is_rota : DefAt K mg "is_rota" s_is_rota ["web", "thing"]
  d_need_rota : DefAt K mg "need_rota" s_need_rota ["web", "rota"]
  d_ends_by_road : DefAt K mg "ends_by_road" s_ends_by_road ["web"]
  d_news_places : DefAt K mg "news_places" s_news_places ["web", "week", "place"]
  d_round_of : DefAt K mg "round_of" s_round_of ["week", "day"]
  d_arrivals_from : DefAt K mg "arrivals_from" s_arrivals_from ["web", "week", "place", "moment", "missed"]
  d_days_from : DefAt K mg "days_from" s_days_from ["web", "week", "place"]
  d_day_rows : DefAt K mg "day_rows" s_day_rows ["web", "week"]
  d_greatest_days : DefAt K mg "greatest_days" s_greatest_days ["web", "rota"]
  d_kept_best : DefAt K mg "kept_best" s_kept_best ["web", "rota"]
  d_law_small_right : DefAt K mg "_law_small_right" s_law_small_right ["_law_feed_here", "_law_web"]
  d_law_is_best : DefAt K mg "_law_is_best" s_law_is_best ["_law_web", "_law_rota"]
  d_is_round : DefAt K mg "is_round" s_is_round ["web", "thing"]
  d_need_week : DefAt K mg "need_week" s_need_week ["web", "week"]
  d_slowest : DefAt K mg "slowest" s_slowest ["web", "week"]
  d_law_great_right : DefAt K mg "_law_great_right" s_law_great_right ["_law_feed_here", "_law_web"]
  d_law_one : DefAt K mg "_law_one" s_law_one ["_law_feed_here", "_law_things"]
  d_law_no_web : DefAt K mg "_law_no_web" s_law_no_web ["_law_feed_here", "_law_web"]
  d_law_bad_web : DefAt K mg "_law_bad_web" s_law_bad_web ["_law_feed_here", "_law_web"]
  d_law_bad_tree : DefAt K mg "_law_bad_tree" s_law_bad_tree ["_law_feed_here", "_law_web"]
  d_law_flags : DefAt K mg "_law_flags" s_law_flags ["_law_web"]
  d_law_refused_right : DefAt K mg "_law_refused_right" s_law_refused_right ["_law_feed_here", "_law_web"]
  d_law : DefAt K mg "law" s_law ["_law_script"]
theorem all_ok {P : Program} {w : World} {K : PySem.W.Frag} {mg : Str → Option Value} {base : Heap} {cP cW cT : Addr} (D : Defs K mg) (B : Blt mg) (CW : ClsF K mg "BadWeb" cW) (CT : ClsF K mg "BadTree" cT) (C : ClsK K mg cP cW cT) : OkG P w K mg base 10 "law" ["_law_script"] (sp_law K) := by
  have g_law_feed := ok_law_feed (P := P) (w := w) (base := base) D.d_law_feed B
  have g_law_draw := ok_law_draw (P := P) (w := w) (base := base) D.d_law_draw B
  have g_law_mixed := ok_law_mixed (P := P) (w := w) (base := base) D.d_law_mixed B g_law_draw
  have g_law_names := ok_law_names (P := P) (w := w) (base := base) D.d_law_names B g_law_mixed
  have g_law_sized := ok_law_sized (P := P) (w := w) (base := base) D.d_law_sized B g_law_draw g_law_mixed g_law_names
  have g_law_rotas := ok_law_rotas (P := P) (w := w) (base := base) D.d_law_rotas 
  have g_law_orders := ok_law_orders (P := P) (w := w) (base := base) D.d_law_orders B
  have g_law_unlike := ok_law_unlike (P := P) (w := w) (base := base) D.d_law_unlike g_law_rotas g_law_orders
  have g_law_table := ok_law_table (P := P) (w := w) (base := base) D.d_law_table B
  have g_law_greatest := ok_law_greatest (P := P) (w := w) (base := base) D.d_law_greatest B g_law_table
  have g_is_row_of := ok_is_row_of (P := P) (w := w) (base := base) D.d_is_row_of B
  have g_is_name := ok_is_name (P := P) (w := w) (base := base) D.d_is_name B
  have g_are_names := ok_are_names (P := P) (w := w) (base := base) D.d_are_names B g_is_name
  have g_are_of := ok_are_of (P := P) (w := w) (base := base) D.d_are_of B
  have g_is_road := ok_is_road (P := P) (w := w) (base := base) D.d_is_road B g_is_row_of g_is_name g_are_of
  have g_is_web_form := ok_is_web_form (P := P) (w := w) (base := base) D.d_is_web_form B g_is_row_of g_are_names g_is_road
  have g_need_web := ok_need_web (P := P) (w := w) (base := base) D.d_need_web CW g_is_web_form
  have g_other_end := ok_other_end (P := P) (w := w) (base := base) D.d_other_end 
  have g_steps_from := ok_steps_from (P := P) (w := w) (base := base) D.d_steps_from g_other_end
  have g_has_one_piece := ok_has_one_piece (P := P) (w := w) (base := base) D.d_has_one_piece B g_steps_from
  have g_is_tree_web := ok_is_tree_web (P := P) (w := w) (base := base) D.d_is_tree_web B g_has_one_piece
  have g_need_tree := ok_need_tree (P := P) (w := w) (base := base) D.d_need_tree CT g_need_web g_is_tree_web
  have g_distance_rows := ok_distance_rows (P := P) (w := w) (base := base) D.d_distance_rows g_steps_from
  have g_longest := ok_longest (P := P) (w := w) (base := base) D.d_longest B g_distance_rows
  have g_first_way := ok_first_way (P := P) (w := w) (base := base) D.d_first_way B g_steps_from g_other_end
  have g_way_places := ok_way_places (P := P) (w := w) (base := base) D.d_way_places B g_other_end
  have g_middle_of := ok_middle_of (P := P) (w := w) (base := base) D.d_middle_of B g_longest g_first_way g_way_places
  have g_end_numbers := ok_end_numbers (P := P) (w := w) (base := base) D.d_end_numbers B
  have g_names_of_roads := ok_names_of_roads (P := P) (w := w) (base := base) D.d_names_of_roads 
  have g_named := ok_named (P := P) (w := w) (base := base) D.d_named B g_names_of_roads
  have g_rota_by_levels := ok_rota_by_levels (P := P) (w := w) (base := base) D.d_rota_by_levels B g_middle_of g_distance_rows g_end_numbers g_named
  have g_best_tree_rota := okK_best_tree_rota (P := P) (w := w) (base := base) D.d_best_tree_rota g_need_tree g_rota_by_levels
  have g_need_one_piece := ok_need_one_piece (P := P) (w := w) (base := base) D.d_need_one_piece g_need_web g_has_one_piece
  have g_least_days := ok_least_days (P := P) (w := w) (base := base) D.d_least_days B g_longest
  have g_least_slowest := ok_least_slowest (P := P) (w := w) (base := base) D.d_least_slowest B g_need_one_piece g_is_tree_web g_least_days
  have g_law_distances := ok_law_distances (P := P) (w := w) (base := base) D.d_law_distances B
  have g_is_rota := ok_is_rota (P := P) (w := w) (base := base) D.d_is_rota B g_is_row_of g_are_of g_names_of_roads
  have g_need_rota := ok_need_rota (P := P) (w := w) (base := base) D.d_need_rota g_is_rota
  have g_ends_by_road := ok_ends_by_road (P := P) (w := w) (base := base) D.d_ends_by_road 
  have g_news_places := ok_news_places (P := P) (w := w) (base := base) D.d_news_places B g_ends_by_road
  have g_round_of := ok_round_of (P := P) (w := w) (base := base) D.d_round_of B
  have g_arrivals_from := ok_arrivals_from (P := P) (w := w) (base := base) D.d_arrivals_from B g_ends_by_road g_news_places g_round_of
  have g_days_from := ok_days_from (P := P) (w := w) (base := base) D.d_days_from B g_arrivals_from
  have g_day_rows := ok_day_rows (P := P) (w := w) (base := base) D.d_day_rows B g_days_from
  have g_greatest_days := ok_greatest_days (P := P) (w := w) (base := base) D.d_greatest_days B g_day_rows
  have g_kept_best := ok_kept_best (P := P) (w := w) (base := base) D.d_kept_best B g_need_tree g_need_rota g_greatest_days g_least_days
  have g_law_small_right := ok_law_small_right (P := P) (w := w) (base := base) D.d_law_small_right B g_law_unlike g_law_greatest g_best_tree_rota.ok g_least_slowest g_law_distances g_kept_best
  have g_law_is_best := ok_law_is_best (P := P) (w := w) (base := base) D.d_law_is_best B g_law_distances g_law_table
  have g_is_round := ok_is_round (P := P) (w := w) (base := base) D.d_is_round B g_are_of g_names_of_roads
  have g_need_week := ok_need_week (P := P) (w := w) (base := base) D.d_need_week B g_is_row_of g_is_round
  have g_slowest := ok_slowest (P := P) (w := w) (base := base) D.d_slowest B g_need_web g_need_week g_day_rows
  have g_law_great_right := ok_law_great_right (P := P) (w := w) (base := base) D.d_law_great_right B g_law_draw g_law_mixed g_law_greatest g_law_is_best g_best_tree_rota g_least_slowest g_slowest
  have g_law_one := ok_law_one (P := P) (w := w) (base := base) D.d_law_one B g_law_draw
  have g_law_no_web := ok_law_no_web (P := P) (w := w) (base := base) D.d_law_no_web B g_law_one
  have g_law_bad_web := ok_law_bad_web (P := P) (w := w) (base := base) D.d_law_bad_web B g_law_draw g_law_one g_law_no_web
  have g_law_bad_tree := ok_law_bad_tree (P := P) (w := w) (base := base) D.d_law_bad_tree B g_law_draw g_law_one g_law_mixed g_law_bad_web
  have g_law_flags := ok_law_flags (P := P) (w := w) (base := base) D.d_law_flags B C g_best_tree_rota.ok
  have g_law_refused_right := ok_law_refused_right (P := P) (w := w) (base := base) D.d_law_refused_right B g_law_draw g_law_sized g_law_bad_tree g_law_flags
  exact ok_law D.d_law B g_law_feed g_law_draw g_law_sized g_law_small_right g_law_great_right g_law_refused_right
/-! ### the constants -/
theorem glob_ex {mg : Str → Option Value} {x : Str} {v : Value} {p : Tok → Value} (h : mg x = some v) (e : ∃ t, v = p t) : ∃ t, mg x = some (p t) := by
  obtain ⟨t, rfl⟩ := e
  exact ⟨t, h⟩
/-! ### the classes -/
theorem kit_same {K : PySem.W.Frag} {c : Value} : PySem.W.kitOne K c c = some true := by
  unfold PySem.W.kitOne
  rw [if_pos (by simp)]
theorem kit_ref {K : PySem.W.Frag} {C : Addr} {t : Value} {b : Bool} (hn : (t == Value.ref C) = false) (hd : PySem.W.hasDictIn K C = true) (ht : PySem.W.typeIn K (.ref C) = some (.type "type")) (hs : PySem.W.subIn K t (.ref C) = some b) : PySem.W.kitOne K t (.ref C) = some b := by
  obtain ⟨cd, hc, _⟩ := PySem.W.any_some hd
  unfold PySem.W.kitOne
  rw [hn, if_neg Bool.false_ne_true]
  show (if ((PySem.W.clsIn K C).isSome && PySem.W.typeIn K (.ref C) == some (.type "type")) = true then PySem.W.subIn K t (.ref C) else none) = some b
  rw [hc, ht, if_pos (by rfl)]
  exact hs
theorem clsK_mk {K : PySem.W.Frag} {mg : Str → Option Value} {cP cW cT : Addr} (gP : mg "PostError" = some (.ref cP)) (gW : mg "BadWeb" = some (.ref cW)) (gT : mg "BadTree" = some (.ref cT))
    (pb : PySem.W.subIn K (.ref cP) (.type "BaseException") = some true) (pd : PySem.W.hasDictIn K cP = true) (pt : PySem.W.typeIn K (.ref cP) = some (.type "type")) (wp : PySem.W.subIn K (.ref cW) (.ref cP) = some true) (tp : PySem.W.subIn K (.ref cT) (.ref cP) = some true)
    (xW : ExcC K cW) (xT : ExcC K cT) (wy : PySem.W.typeIn K (.ref cW) = some (.type "type")) (ty : PySem.W.typeIn K (.ref cT) = some (.type "type")) (wt : PySem.W.subIn K (.ref cW) (.ref cT) = some false) (tw : PySem.W.subIn K (.ref cT) (.ref cW) = some false)
    (n1 : (Value.ref cW == Value.ref cT) = false) (n2 : (Value.ref cT == Value.ref cW) = false) : ClsK K mg cP cW cT :=
  ⟨gP, gW, gT, PySem.W.exm_ref pb pd pt wp, PySem.W.exm_ref pb pd pt tp, xW, xT, kit_same, kit_ref n1 xT.hd ty wt, kit_ref n2 xW.hd wy tw, kit_same⟩
/-! ### the law's own call -/
theorem law_callG {P : Program} {w : World} {K : PySem.W.Frag} {mg mb : Str → Option Value} {k : Nat} {fa a : Addr} {x y : Str} {sp : Sp} {s1 : Shared} {vs : List Value} {ns : List Int}
    (KX : K.In s1.heap) (hns : s1.heap.Ns mainGlobals mg) (hb : s1.heap.Ns builtinsNs mb) (hbb : ∀ x : Str, x ≠ "__name__" → mb x = bootBuiltins x) (hlim : s1.heap.NoLimit) (hg : s1.gens = #[])
    (ha : s1.heap.get? a = some { cls := .type "list", data := .seq vs.toArray }) (hi : IntsAre vs ns) (hl : ns.length ≤ sizeLine) (hr : Room k callerA) (hfa : mg x = some (.ref fa))
    (F : ∀ base : Heap, K.In base → base.Ns mainGlobals mg → OkG P w K mg base k x [y] sp)
    (hsp : ∀ H : Hp, Only H → SqL K H a (ns.map V.int) → sp [.ref a] H (fun v _ => v = .bl true) fun _ _ _ => False) :
    codeAny (model P w) callerA (.call (.ref fa) ⟨[.ref a], []⟩) (fun r s' => r = .ok (.ret (.bool true)) ∧ OldK s1.heap s'.heap ∧ s'.os = s1.os ∧ AllBare s'.gens) s1 := by
  have rv := vals_ints hi
  have lenV := hi.length
  have core : ∀ H : Hp, Only H → SqL K H a (ns.map V.int) → HOk P w H s1.heap → (∀ b, H b ≠ none → b = a) → (H a ≠ none → K.lookup a = none) →
      codeAny (model P w) callerA (.call (.ref fa) ⟨[.ref a], []⟩) (fun r s' => r = .ok (.ret (.bool true)) ∧ OldK s1.heap s'.heap ∧ s'.os = s1.os ∧ AllBare s'.gens) s1 := by
    intro H hO hS hok hA hK
    have only : ∀ {b : Addr}, b ≠ a → H b = none := fun {b} ne => Classical.byContradiction fun q => ne (hA b q)
    have base_of : ∀ {b : Addr} {o : Obj}, s1.heap.get? b = some o → H b = none → (hidT s1.heap H).get? b = some o := fun e n => hidT_get e n
    have noA : ∀ {b : Addr} {o : Obj} {es : Array DictEntry} {ep : Nat}, s1.heap.get? b = some o → o.data = .dict es ep → H b = none := fun {b o es ep} e d => only fun z => by
      rw [z, ha] at e
      cases e
      have d' : Data.seq vs.toArray _ = Data.dict es ep := d
      cases d'
    have nsK : ∀ {b : Addr} {m : Str → Option Value}, s1.heap.Ns b m → (hidT s1.heap H).Ns b m := fun {b m} ⟨o, es, ep, e, d, r⟩ => ⟨o, es, ep, base_of e (noA e d), d, r⟩
    have hKb : K.In (hidT s1.heap H) := fun b o e => base_of (KX b o e) (by
      by_cases z : b = a
      · subst z
        refine Classical.byContradiction fun q => ?_
        rw [hK q] at e
        cases e
      · exact only z)
    have hM : Mod K mg (hidT s1.heap H) := ⟨hKb, nsK hns, ⟨mb, nsK hb, hbb⟩, let ⟨mc, h1, h2⟩ := hlim; ⟨mc, nsK h1, h2⟩⟩
    have e0 : Env0 P w K mg (hidT s1.heap H) callerA [] s1 H := ⟨rfl, hM, fun b o e => of_hidT e, Nat.le_of_eq (hidT_size _ _), trivial, fun b hb => absurd (show b ∈ ([] : List Addr) from hb) (by simp), hok, .of_eq hg⟩
    obtain ⟨f, fd, g, kp, b, Fn⟩ := F _ hKb (nsK hns)
    rw [hfa] at g
    cases g
    have bd := b s1 [.ref a] KX rfl
    refine codeAny_mono (Fn.run callerA [] s1 H ⟨[.ref a], []⟩ [.ref a] [.ref a] _ _ rfl hr e0 bd (.cons rfl .nil) (hsp H hO hS)) fun r s' h => ?_
    cases r with
    | error e => exact h.elim
    | ok fl =>
      cases fl with
      | next => exact False.elim h
      | brk => exact False.elim h
      | cont => exact False.elim h
      | ret u =>
        obtain ⟨v, H', os, bare, un, hok', r', q⟩ := h
        have q' : v = .bl true := q
        subst q'
        obtain rfl : u = Value.bool true := r'
        refine ⟨rfl, OldK.of_keep fun b o e => ?_, os, bare⟩
        cases q : H b with
        | none => exact un.keep b o e q (by intro z; exact absurd (show b ∈ ([] : List Addr) from z) (by simp)) (by simp)
        | some u =>
          rcases hO b with z | ⟨ob, xs, z⟩
          · rw [q] at z
            cases z
          · obtain ⟨e1, _⟩ := hok b _ z
            obtain ⟨e2, _⟩ := hok' b _ (un.frzs b ob _ z)
            rw [e] at e1
            cases e1
            exact e2
  cases hk : K.lookup a with
  | some o =>
    have e := KX a o hk
    rw [ha] at e
    cases e
    exact core (fun _ => none) (fun _ => .inl rfl) (.inr ⟨_, vs.toArray, _, hk, rfl, rfl, rfl, by rw [List.size_toArray, lenV]; exact hl, by simpa using rv⟩) (fun b u z => by cases (show (none : Option HO) = some u from z)) (fun b z => absurd rfl z) fun z => absurd rfl z
  | none =>
    have e1 : ∀ b, b ≠ a → upd (fun _ => none) a (HO.frz { cls := .type "list", data := .seq vs.toArray } (.lst (ns.map V.int))) b = none := fun b hb => upd_ne hb
    refine core (upd (fun _ => none) a (.frz { cls := .type "list", data := .seq vs.toArray } (.lst (ns.map V.int)))) (fun b => ?_) (.inl (.inr ⟨_, upd_same⟩)) (fun b u z => ?_) (fun b z => ?_) fun _ => hk
    · by_cases hb : b = a
      · subst hb
        exact .inr ⟨_, _, upd_same⟩
      · exact .inl (e1 b hb)
    · by_cases hb : b = a
      · subst hb
        rw [upd_same] at z
        cases z
        exact ⟨ha, by rw [List.length_map]; exact hl, vs, _, rv, ha⟩
      · rw [e1 b hb] at z
        cases z
    · exact Classical.byContradiction fun hb => z (e1 b hb)
theorem walk_ofG {l : PySem.W.OpenLaw} {n k : Nat} {q : Program} {loose : List Str} {XP : (Str → Option Value) → Heap → Prop} {YP : World → Heap → Prop} {d : DefRec} {K : Params → PySem.W.Frag} {sp : PySem.W.Frag → Sp} {y : Str}
    (hn : l.most = some n) (hn2 : n ≤ sizeLine) (hdf : d.params.defaults = []) (hname : d.name = "law") (hr : Room k callerA) (hY : ∀ (w : World) (h : Heap), YP w h → (K w.params).In h)
    (F : ∀ (w : World) (mg : Str → Option Value) (h : Heap), (K w.params).In h → h.Ns mainGlobals mg → ∀ base : Heap, (K w.params).In base → base.Ns mainGlobals mg → OkG l.prog w (K w.params) mg base k "law" [y] (sp (K w.params)))
    (hsp : ∀ (K : PySem.W.Frag) (H : Hp) (a : Addr) (ns : List Int), ns.length ≤ n → Only H → SqL K H a (ns.map V.int) → sp K [.ref a] H (fun v _ => v = .bl true) fun _ _ _ => False) :
    PySem.W.WalkO q loose XP YP l.row.toRowW d [] (fun f vs => PySem.call f vs) := by
  refine Att.attach_call hn hdf fun w s0 s1 mg mb fa o pm cd doc a vs ns G Y ho hd hcd hmg hobj hints hlen hg => ?_
  have KX := hY w _ Y
  rw [hname] at hmg
  exact law_callG KX G.T.g G.T.b G.T.builtins G.T.nolimit hg hobj hints (Nat.le_trans hlen hn2) hr hmg (F w mg _ KX G.T.g) fun H hO hS => hsp _ H a ns hlen hO hS
end R
set_option maxHeartbeats 0
section
open PySem PySem.W PyProof.Rows
open_top head for PySem.Challenge.rw_roundpost_k47_whole_no_rota_of_a_tree_is
end
set_option maxHeartbeats 200000
section
open PySem PySem.W PyProof.Rows
set_option maxHeartbeats 0 in
theorem PySem.Challenge.cw_roundpost_k47_whole_no_rota_of_a_tree_is_holds : PySem.Challenge.rw_roundpost_k47_whole_no_rota_of_a_tree_is.Holds :=
  head (by
    k_fill
    refine R.walk_ofG (l := PySem.Challenge.rw_roundpost_k47_whole_no_rota_of_a_tree_is) (n := 63) (k := 10) (sp := R.sp_law) (y := "_law_script") rfl (by decide) rfl rfl ⟨rfl, by decide, by decide⟩ (fun w h Y => PySem.W.kIn_of Y) ?F (fun K H a ns _ _ hS => ⟨a, ns, rfl, hS, fun _ => rfl⟩)
    case F =>
      intro w mg h KX G base hb1 hb2
      refine' R.all_ok ⟨?d0, ?d1, ?d2, ?d3, ?d4, ?d5, ?d6, ?d7, ?d8, ?d9, ?d10, ?d11, ?d12, ?d13, ?d14, ?d15, ?d16, ?d17, ?d18, ?d19, ?d20, ?d21, ?d22, ?d23, ?d24, ?d25, ?d26, ?d27, ?d28, ?d29, ?d30, ?d31, ?d32, ?d33, ?d34, ?d35, ?d36, ?d37, ?d38, ?d39, ?d40, ?d41, ?d42, ?d43, ?d44, ?d45, ?d46, ?d47, ?d48, ?d49, ?d50, ?d51, ?d52, ?d53, ?d54, ?d55, ?d56, ?d57, ?d58⟩ ?B ?CW ?CT ?C
      case d0 =>
        refine' R.df_mk KX G ?a ?l ?c ?k (fun _ _ _ _ _ _ us hl => match us, hl with | [_, _], _ => rfl)
        (case a => k_is); (case l => k_is); (case c => k_is); (case k => k_is)
      case d1 =>
        refine' R.df_mk KX G ?a ?l ?c ?k (fun _ _ _ _ _ _ us hl => match us, hl with | [_, _], _ => rfl)
        (case a => k_is); (case l => k_is); (case c => k_is); (case k => k_is)
      case d2 =>
        refine' R.df_mk KX G ?a ?l ?c ?k (fun _ _ _ _ _ _ us hl => match us, hl with | [_, _], _ => rfl)
        (case a => k_is); (case l => k_is); (case c => k_is); (case k => k_is)
      case d3 =>
        refine' R.df_mk KX G ?a ?l ?c ?k (fun _ _ _ _ _ _ us hl => match us, hl with | [_, _], _ => rfl)
        (case a => k_is); (case l => k_is); (case c => k_is); (case k => k_is)
      case d4 =>
        refine' R.df_mk KX G ?a ?l ?c ?k (fun _ _ _ _ _ _ us hl => match us, hl with | [_, _, _], _ => rfl)
        (case a => k_is); (case l => k_is); (case c => k_is); (case k => k_is)
      case d5 =>
        refine' R.df_mk KX G ?a ?l ?c ?k (fun _ _ _ _ _ _ us hl => match us, hl with | [_], _ => rfl)
        (case a => k_is); (case l => k_is); (case c => k_is); (case k => k_is)
      case d6 =>
        refine' R.df_mk KX G ?a ?l ?c ?k (fun _ _ _ _ _ _ us hl => match us, hl with | [_, _], _ => rfl)
        (case a => k_is); (case l => k_is); (case c => k_is); (case k => k_is)
      case d7 =>
        refine' R.df_mk KX G ?a ?l ?c ?k (fun _ _ _ _ _ _ us hl => match us, hl with | [_], _ => rfl)
        (case a => k_is); (case l => k_is); (case c => k_is); (case k => k_is)
      case d8 =>
        refine' R.df_mk KX G ?a ?l ?c ?k (fun _ _ _ _ _ _ us hl => match us, hl with | [_, _], _ => rfl)
        (case a => k_is); (case l => k_is); (case c => k_is); (case k => k_is)
      case d9 =>
        refine' R.df_mk KX G ?a ?l ?c ?k (fun _ _ _ _ _ _ us hl => match us, hl with | [_, _], _ => rfl)
        (case a => k_is); (case l => k_is); (case c => k_is); (case k => k_is)
      case d10 =>
        refine' R.df_mk KX G ?a ?l ?c ?k (fun _ _ _ _ _ _ us hl => match us, hl with | [_, _, _], _ => rfl)
        (case a => k_is); (case l => k_is); (case c => k_is); (case k => k_is)
      case d11 =>
        refine' R.df_mk KX G ?a ?l ?c ?k (fun _ _ _ _ _ _ us hl => match us, hl with | [_], _ => rfl)
        (case a => k_is); (case l => k_is); (case c => k_is); (case k => k_is)
      case d12 =>
        refine' R.df_mk KX G ?a ?l ?c ?k (fun _ _ _ _ _ _ us hl => match us, hl with | [_], _ => rfl)
        (case a => k_is); (case l => k_is); (case c => k_is); (case k => k_is)
      case d13 =>
        refine' R.df_mk KX G ?a ?l ?c ?k (fun _ _ _ _ _ _ us hl => match us, hl with | [_, _], _ => rfl)
        (case a => k_is); (case l => k_is); (case c => k_is); (case k => k_is)
      case d14 =>
        refine' R.df_mk KX G ?a ?l ?c ?k (fun _ _ _ _ _ _ us hl => match us, hl with | [_, _], _ => rfl)
        (case a => k_is); (case l => k_is); (case c => k_is); (case k => k_is)
      case d15 =>
        refine' R.df_mk KX G ?a ?l ?c ?k (fun _ _ _ _ _ _ us hl => match us, hl with | [_], _ => rfl)
        (case a => k_is); (case l => k_is); (case c => k_is); (case k => k_is)
      case d16 =>
        refine' R.df_mk KX G ?a ?l ?c ?k (fun _ _ _ _ _ _ us hl => match us, hl with | [_], _ => rfl)
        (case a => k_is); (case l => k_is); (case c => k_is); (case k => k_is)
      case d17 =>
        refine' R.df_mk KX G ?a ?l ?c ?k (fun _ _ _ _ _ _ us hl => match us, hl with | [_, _], _ => rfl)
        (case a => k_is); (case l => k_is); (case c => k_is); (case k => k_is)
      case d18 =>
        refine' R.df_mk KX G ?a ?l ?c ?k (fun _ _ _ _ _ _ us hl => match us, hl with | [_, _], _ => rfl)
        (case a => k_is); (case l => k_is); (case c => k_is); (case k => k_is)
      case d19 =>
        refine' R.df_mk KX G ?a ?l ?c ?k (fun _ _ _ _ _ _ us hl => match us, hl with | [_], _ => rfl)
        (case a => k_is); (case l => k_is); (case c => k_is); (case k => k_is)
      case d20 =>
        refine' R.df_mk KX G ?a ?l ?c ?k (fun _ _ _ _ _ _ us hl => match us, hl with | [_], _ => rfl)
        (case a => k_is); (case l => k_is); (case c => k_is); (case k => k_is)
      case d21 =>
        refine' R.df_mk KX G ?a ?l ?c ?k (fun _ _ _ _ _ _ us hl => match us, hl with | [_], _ => rfl)
        (case a => k_is); (case l => k_is); (case c => k_is); (case k => k_is)
      case d22 =>
        refine' R.df_mk KX G ?a ?l ?c ?k (fun _ _ _ _ _ _ us hl => match us, hl with | [_], _ => rfl)
        (case a => k_is); (case l => k_is); (case c => k_is); (case k => k_is)
      case d23 =>
        refine' R.df_mk KX G ?a ?l ?c ?k (fun _ _ _ _ _ _ us hl => match us, hl with | [_], _ => rfl)
        (case a => k_is); (case l => k_is); (case c => k_is); (case k => k_is)
      case d24 =>
        refine' R.df_mk KX G ?a ?l ?c ?k (fun _ _ _ _ _ _ us hl => match us, hl with | [_, _, _], _ => rfl)
        (case a => k_is); (case l => k_is); (case c => k_is); (case k => k_is)
      case d25 =>
        refine' R.df_mk KX G ?a ?l ?c ?k (fun _ _ _ _ _ _ us hl => match us, hl with | [_, _, _], _ => rfl)
        (case a => k_is); (case l => k_is); (case c => k_is); (case k => k_is)
      case d26 =>
        refine' R.df_mk KX G ?a ?l ?c ?k (fun _ _ _ _ _ _ us hl => match us, hl with | [_], _ => rfl)
        (case a => k_is); (case l => k_is); (case c => k_is); (case k => k_is)
      case d27 =>
        refine' R.df_mk KX G ?a ?l ?c ?k (fun _ _ _ _ _ _ us hl => match us, hl with | [_], _ => rfl)
        (case a => k_is); (case l => k_is); (case c => k_is); (case k => k_is)
      case d28 =>
        refine' R.df_mk KX G ?a ?l ?c ?k (fun _ _ _ _ _ _ us hl => match us, hl with | [_], _ => rfl)
        (case a => k_is); (case l => k_is); (case c => k_is); (case k => k_is)
      case d29 =>
        refine' R.df_mk KX G ?a ?l ?c ?k (fun _ _ _ _ _ _ us hl => match us, hl with | [_, _], _ => rfl)
        (case a => k_is); (case l => k_is); (case c => k_is); (case k => k_is)
      case d30 =>
        refine' R.df_mk KX G ?a ?l ?c ?k (fun _ _ _ _ _ _ us hl => match us, hl with | [_], _ => rfl)
        (case a => k_is); (case l => k_is); (case c => k_is); (case k => k_is)
      case d31 =>
        refine' R.df_mk KX G ?a ?l ?c ?k (fun _ _ _ _ _ _ us hl => match us, hl with | [_], _ => rfl)
        (case a => k_is); (case l => k_is); (case c => k_is); (case k => k_is)
      case d32 =>
        refine' R.df_mk KX G ?a ?l ?c ?k (fun _ _ _ _ _ _ us hl => match us, hl with | [_], _ => rfl)
        (case a => k_is); (case l => k_is); (case c => k_is); (case k => k_is)
      case d33 =>
        refine' R.df_mk KX G ?a ?l ?c ?k (fun _ _ _ _ _ _ us hl => match us, hl with | [_], _ => rfl)
        (case a => k_is); (case l => k_is); (case c => k_is); (case k => k_is)
      case d34 =>
        refine' R.df_mk KX G ?a ?l ?c ?k (fun _ _ _ _ _ _ us hl => match us, hl with | [_], _ => rfl)
        (case a => k_is); (case l => k_is); (case c => k_is); (case k => k_is)
      case d35 =>
        refine' R.df_mk KX G ?a ?l ?c ?k (fun _ _ _ _ _ _ us hl => match us, hl with | [_], _ => rfl)
        (case a => k_is); (case l => k_is); (case c => k_is); (case k => k_is)
      case d36 =>
        refine' R.df_mk KX G ?a ?l ?c ?k (fun _ _ _ _ _ _ us hl => match us, hl with | [_, _], _ => rfl)
        (case a => k_is); (case l => k_is); (case c => k_is); (case k => k_is)
      case d37 =>
        refine' R.df_mk KX G ?a ?l ?c ?k (fun _ _ _ _ _ _ us hl => match us, hl with | [_, _], _ => rfl)
        (case a => k_is); (case l => k_is); (case c => k_is); (case k => k_is)
      case d38 =>
        refine' R.df_mk KX G ?a ?l ?c ?k (fun _ _ _ _ _ _ us hl => match us, hl with | [_], _ => rfl)
        (case a => k_is); (case l => k_is); (case c => k_is); (case k => k_is)
      case d39 =>
        refine' R.df_mk KX G ?a ?l ?c ?k (fun _ _ _ _ _ _ us hl => match us, hl with | [_, _, _], _ => rfl)
        (case a => k_is); (case l => k_is); (case c => k_is); (case k => k_is)
      case d40 =>
        refine' R.df_mk KX G ?a ?l ?c ?k (fun _ _ _ _ _ _ us hl => match us, hl with | [_, _], _ => rfl)
        (case a => k_is); (case l => k_is); (case c => k_is); (case k => k_is)
      case d41 =>
        refine' R.df_mk KX G ?a ?l ?c ?k (fun _ _ _ _ _ _ us hl => match us, hl with | [_, _, _, _, _], _ => rfl)
        (case a => k_is); (case l => k_is); (case c => k_is); (case k => k_is)
      case d42 =>
        refine' R.df_mk KX G ?a ?l ?c ?k (fun _ _ _ _ _ _ us hl => match us, hl with | [_, _, _], _ => rfl)
        (case a => k_is); (case l => k_is); (case c => k_is); (case k => k_is)
      case d43 =>
        refine' R.df_mk KX G ?a ?l ?c ?k (fun _ _ _ _ _ _ us hl => match us, hl with | [_, _], _ => rfl)
        (case a => k_is); (case l => k_is); (case c => k_is); (case k => k_is)
      case d44 =>
        refine' R.df_mk KX G ?a ?l ?c ?k (fun _ _ _ _ _ _ us hl => match us, hl with | [_, _], _ => rfl)
        (case a => k_is); (case l => k_is); (case c => k_is); (case k => k_is)
      case d45 =>
        refine' R.df_mk KX G ?a ?l ?c ?k (fun _ _ _ _ _ _ us hl => match us, hl with | [_, _], _ => rfl)
        (case a => k_is); (case l => k_is); (case c => k_is); (case k => k_is)
      case d46 =>
        refine' R.df_mk KX G ?a ?l ?c ?k (fun _ _ _ _ _ _ us hl => match us, hl with | [_, _], _ => rfl)
        (case a => k_is); (case l => k_is); (case c => k_is); (case k => k_is)
      case d47 =>
        refine' R.df_mk KX G ?a ?l ?c ?k (fun _ _ _ _ _ _ us hl => match us, hl with | [_, _], _ => rfl)
        (case a => k_is); (case l => k_is); (case c => k_is); (case k => k_is)
      case d48 =>
        refine' R.df_mk KX G ?a ?l ?c ?k (fun _ _ _ _ _ _ us hl => match us, hl with | [_, _], _ => rfl)
        (case a => k_is); (case l => k_is); (case c => k_is); (case k => k_is)
      case d49 =>
        refine' R.df_mk KX G ?a ?l ?c ?k (fun _ _ _ _ _ _ us hl => match us, hl with | [_, _], _ => rfl)
        (case a => k_is); (case l => k_is); (case c => k_is); (case k => k_is)
      case d50 =>
        refine' R.df_mk KX G ?a ?l ?c ?k (fun _ _ _ _ _ _ us hl => match us, hl with | [_, _], _ => rfl)
        (case a => k_is); (case l => k_is); (case c => k_is); (case k => k_is)
      case d51 =>
        refine' R.df_mk KX G ?a ?l ?c ?k (fun _ _ _ _ _ _ us hl => match us, hl with | [_, _], _ => rfl)
        (case a => k_is); (case l => k_is); (case c => k_is); (case k => k_is)
      case d52 =>
        refine' R.df_mk KX G ?a ?l ?c ?k (fun _ _ _ _ _ _ us hl => match us, hl with | [_, _], _ => rfl)
        (case a => k_is); (case l => k_is); (case c => k_is); (case k => k_is)
      case d53 =>
        refine' R.df_mk KX G ?a ?l ?c ?k (fun _ _ _ _ _ _ us hl => match us, hl with | [_, _], _ => rfl)
        (case a => k_is); (case l => k_is); (case c => k_is); (case k => k_is)
      case d54 =>
        refine' R.df_mk KX G ?a ?l ?c ?k (fun _ _ _ _ _ _ us hl => match us, hl with | [_, _], _ => rfl)
        (case a => k_is); (case l => k_is); (case c => k_is); (case k => k_is)
      case d55 =>
        refine' R.df_mk KX G ?a ?l ?c ?k (fun _ _ _ _ _ _ us hl => match us, hl with | [_, _], _ => rfl)
        (case a => k_is); (case l => k_is); (case c => k_is); (case k => k_is)
      case d56 =>
        refine' R.df_mk KX G ?a ?l ?c ?k (fun _ _ _ _ _ _ us hl => match us, hl with | [_], _ => rfl)
        (case a => k_is); (case l => k_is); (case c => k_is); (case k => k_is)
      case d57 =>
        refine' R.df_mk KX G ?a ?l ?c ?k (fun _ _ _ _ _ _ us hl => match us, hl with | [_, _], _ => rfl)
        (case a => k_is); (case l => k_is); (case c => k_is); (case k => k_is)
      case d58 =>
        refine' R.df_mk KX G ?a ?l ?c ?k (fun _ _ _ _ _ _ us hl => match us, hl with | [_], _ => rfl)
        (case a => k_is); (case l => k_is); (case c => k_is); (case k => k_is)
      case B =>
        refine' ⟨PySem.W.mg_none_of KX G ?z0, PySem.W.mg_none_of KX G ?z1, PySem.W.mg_none_of KX G ?z2, PySem.W.mg_none_of KX G ?z3, PySem.W.mg_none_of KX G ?z4, PySem.W.mg_none_of KX G ?z5, PySem.W.mg_none_of KX G ?z6, PySem.W.mg_none_of KX G ?z7, PySem.W.mg_none_of KX G ?z8, PySem.W.mg_none_of KX G ?z9, PySem.W.mg_none_of KX G ?z10, PySem.W.mg_none_of KX G ?z11, PySem.W.mg_none_of KX G ?z12, PySem.W.mg_none_of KX G ?z13, PySem.W.mg_none_of KX G ?z14, PySem.W.mg_none_of KX G ?z15, PySem.W.mg_none_of KX G ?z16, R.glob_ex (PySem.W.mg_of KX G ?y0) ?e0, R.glob_ex (PySem.W.mg_of KX G ?y1) ?e1, R.glob_ex (PySem.W.mg_of KX G ?y2) ?e2, R.glob_ex (PySem.W.mg_of KX G ?y3) ?e3, R.glob_ex (PySem.W.mg_of KX G ?y4) ?e4, R.glob_ex (PySem.W.mg_of KX G ?y5) ?e5, R.glob_ex (PySem.W.mg_of KX G ?y6) ?e6⟩
        case z0 => k_is
        case z1 => k_is
        case z2 => k_is
        case z3 => k_is
        case z4 => k_is
        case z5 => k_is
        case z6 => k_is
        case z7 => k_is
        case z8 => k_is
        case z9 => k_is
        case z10 => k_is
        case z11 => k_is
        case z12 => k_is
        case z13 => k_is
        case z14 => k_is
        case z15 => k_is
        case z16 => k_is
        case y0 => k_is
        case e0 => exact ⟨_, rfl⟩
        case y1 => k_is
        case e1 => exact ⟨_, rfl⟩
        case y2 => k_is
        case e2 => exact ⟨_, rfl⟩
        case y3 => k_is
        case e3 => exact ⟨_, rfl⟩
        case y4 => k_is
        case e4 => exact ⟨_, rfl⟩
        case y5 => k_is
        case e5 => exact ⟨_, rfl⟩
        case y6 => k_is
        case e6 => exact ⟨_, rfl⟩
      case CW =>
        refine' ⟨PySem.W.mg_of KX G ?g, ?x, ?k, ?b, ?t⟩
        (case g => k_is); (case x => k_exc); (case k => k_is); (case b => k_is); (case t => k_is)
      case CT =>
        refine' ⟨PySem.W.mg_of KX G ?g, ?x, ?k, ?b, ?t⟩
        (case g => k_is); (case x => k_exc); (case k => k_is); (case b => k_is); (case t => k_is)
      case C =>
        refine' R.clsK_mk (PySem.W.mg_of KX G ?gP) (PySem.W.mg_of KX G ?gW) (PySem.W.mg_of KX G ?gT) ?pb ?pd ?pt ?wp ?tp ⟨?w1, ?w2, ?w3, ?w4, ?w5, ?w6, ?w7, ?w8⟩ ⟨?t1, ?t2, ?t3, ?t4, ?t5, ?t6, ?t7, ?t8⟩ ?wy ?ty ?wt ?tw ?n1 ?n2
        case gP => k_is
        case gW => k_is
        case gT => k_is
        case pb => k_is
        case pd => k_is
        case pt => k_is
        case wp => k_is
        case tp => k_is
        case w1 => k_is
        case w2 => k_is
        case w3 => k_is
        case w4 => k_is
        case w5 => k_is
        case w6 => k_is
        case w7 => k_is
        case w8 => k_is
        case t1 => k_is
        case t2 => k_is
        case t3 => k_is
        case t4 => k_is
        case t5 => k_is
        case t6 => k_is
        case t7 => k_is
        case t8 => k_is
        case wy => k_is
        case ty => k_is
        case wt => k_is
        case tw => k_is
        case n1 => first | rfl | decide
        case n2 => first | rfl | decide)
end
