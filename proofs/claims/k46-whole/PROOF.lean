import PyProof.Rows.All
import Wide.All
import OpenK.AllK
import Wide.FinOn
import HandS.ForMost
import HandS.HeadHook4
import HandS.Head2
import PySem.Challenge.RW_ticketracks_k46_whole_never_coined_twice
import HandS.Zip
import HandS.Walk
import HandS.TupLe
import HandS.SortRule
import HandS.SortKw
import HandS.Deep
import HandS.TupAny
import HandS.Style
import HandS.Lambda
import KE.GoesMore
import KE.GoesEnum
import KE.DataCmp
import KE.SortKeyHeap
import HandS.Conv
import HandS.DictTup
import KE.KDictSum
import KE.KDictPairs
import PyProof.DictMoreH
import HandS.Wide
import KE.SortData
import HandS.Iter
import HandS.HeadWalk
set_option Elab.async false
set_option linter.all false
set_option maxRecDepth 100000
namespace Tk
open PySem PySem.Spec PyProof.Rows L2
def top (i : Nat) : Stmt := PySem.Challenge.pw_ticketracks_k46_whole_never_coined_twice.main.body.getD i (.Pass ⟨0, 0, 0, 0⟩)
abbrev FnP (K : PySem.W.Frag) (x q : Str) (st : Stmt) (f : Addr) (fd : FuncData) : Prop := FunD K x q (defArgs st) (defBody st) (defScope st) [] [] f fd
/-- tie_of: 0 net, 1 one, 2 other, 3 tie -/
abbrev s_tie_of : Stmt := top 1
abbrev n_tie_of : List Str := ["net", "one", "other", "tie"]
abbrev p_tie_of : List Str := ["net", "one", "other"]
theorem sc_tie_of : FnScope n_tie_of p_tie_of (defScope s_tie_of) := ⟨rfl, rfl, rfl, by decide +kernel, rfl, by decide +kernel, by decide +kernel⟩
def d_tie_of : He.DefD := ⟨("tie_of", none), "tie_of", "tie_of", defArgs s_tie_of, defBody s_tie_of, defScope s_tie_of, [], []⟩
/-- ties_along: 0 net, 1 way, 2 one, 3 other -/
abbrev s_ties_along : Stmt := top 2
abbrev n_ties_along : List Str := ["net", "way", "one", "other"]
abbrev p_ties_along : List Str := ["net", "way"]
theorem sc_ties_along : FnScope n_ties_along p_ties_along (defScope s_ties_along) := ⟨rfl, rfl, rfl, by decide +kernel, rfl, by decide +kernel, by decide +kernel⟩
def d_ties_along : He.DefD := ⟨("ties_along", none), "ties_along", "ties_along", defArgs s_ties_along, defBody s_ties_along, defScope s_ties_along, [], []⟩
/-- miles: 0 net, 1 way, 2 tie -/
abbrev s_miles : Stmt := top 3
abbrev n_miles : List Str := ["net", "way", "tie"]
abbrev p_miles : List Str := ["net", "way"]
theorem sc_miles : FnScope n_miles p_miles (defScope s_miles) := ⟨rfl, rfl, rfl, by decide +kernel, rfl, by decide +kernel, by decide +kernel⟩
def d_miles : He.DefD := ⟨("miles", none), "miles", "miles", defArgs s_miles, defBody s_miles, defScope s_miles, [], []⟩
/-- both_ways: 0 net, 1 found, 2 one, 3 other, 4 line, 5 long -/
abbrev s_both_ways : Stmt := top 5
abbrev n_both_ways : List Str := ["net", "found", "one", "other", "line", "long"]
abbrev p_both_ways : List Str := ["net"]
theorem sc_both_ways : FnScope n_both_ways p_both_ways (defScope s_both_ways) := ⟨rfl, rfl, rfl, by decide +kernel, rfl, by decide +kernel, by decide +kernel⟩
def d_both_ways : He.DefD := ⟨("both_ways", none), "both_ways", "both_ways", defArgs s_both_ways, defBody s_both_ways, defScope s_both_ways, [], []⟩
/-- way: 0 net, 1 one, 2 other, 3 best, 4 turn, 5 start, 6 end, 7 long, 8 gone, 9 many, 10 row, 11 found -/
abbrev s_way : Stmt := top 6
abbrev n_way : List Str := ["net", "one", "other", "best", "turn", "start", "end", "long", "gone", "many", "row", "found"]
abbrev p_way : List Str := ["net", "one", "other"]
theorem sc_way : FnScope n_way p_way (defScope s_way) := ⟨rfl, rfl, rfl, by decide +kernel, rfl, by decide +kernel, by decide +kernel⟩
def d_way : He.DefD := ⟨("way", none), "way", "way", defArgs s_way, defBody s_way, defScope s_way, [], []⟩
/-- racks_at: 0 plan, 1 place, 2 number, 3 rack -/
abbrev s_racks_at : Stmt := top 8
abbrev n_racks_at : List Str := ["plan", "place", "number", "rack"]
abbrev p_racks_at : List Str := ["plan", "place"]
theorem sc_racks_at : FnScope n_racks_at p_racks_at (defScope s_racks_at) := ⟨rfl, rfl, rfl, by decide +kernel, rfl, by decide +kernel, by decide +kernel⟩
def d_racks_at : He.DefD := ⟨("racks_at", none), "racks_at", "racks_at", defArgs s_racks_at, defBody s_racks_at, defScope s_racks_at, [], []⟩
/-- way_of: 0 plan, 1 rack, 2 start, 3 end, 4 rank, 5 half -/
abbrev s_way_of : Stmt := top 9
abbrev n_way_of : List Str := ["plan", "rack", "start", "end", "rank", "half"]
abbrev p_way_of : List Str := ["plan", "rack"]
theorem sc_way_of : FnScope n_way_of p_way_of (defScope s_way_of) := ⟨rfl, rfl, rfl, by decide +kernel, rfl, by decide +kernel, by decide +kernel⟩
def d_way_of : He.DefD := ⟨("way_of", none), "way_of", "way_of", defArgs s_way_of, defBody s_way_of, defScope s_way_of, [], []⟩
/-- fare: 0 plan, 1 rack, 2 rank, 3 coin -/
abbrev s_fare : Stmt := top 10
abbrev n_fare : List Str := ["plan", "rack", "rank", "coin"]
abbrev p_fare : List Str := ["plan", "rack", "rank"]
theorem sc_fare : FnScope n_fare p_fare (defScope s_fare) := ⟨rfl, rfl, rfl, by decide +kernel, rfl, by decide +kernel, by decide +kernel⟩
def d_fare : He.DefD := ⟨("fare", none), "fare", "fare", defArgs s_fare, defBody s_fare, defScope s_fare, [], []⟩
/-- told_closings: 0 plan, 1 file, 2 found, 3 page, 4 rack, 5 number -/
abbrev s_told_closings : Stmt := top 12
abbrev n_told_closings : List Str := ["plan", "file", "found", "page", "rack", "number"]
abbrev p_told_closings : List Str := ["plan", "file"]
theorem sc_told_closings : FnScope n_told_closings p_told_closings (defScope s_told_closings) := ⟨rfl, rfl, rfl, by decide +kernel, rfl, by decide +kernel, by decide +kernel⟩
def d_told_closings : He.DefD := ⟨("told_closings", none), "told_closings", "told_closings", defArgs s_told_closings, defBody s_told_closings, defScope s_told_closings, [], []⟩
/-- lots_of: 0 page -/
abbrev s_lots_of : Stmt := top 13
abbrev n_lots_of : List Str := ["page"]
abbrev p_lots_of : List Str := ["page"]
theorem sc_lots_of : FnScope n_lots_of p_lots_of (defScope s_lots_of) := ⟨rfl, rfl, rfl, by decide +kernel, rfl, by decide +kernel, by decide +kernel⟩
def d_lots_of : He.DefD := ⟨("lots_of", none), "lots_of", "lots_of", defArgs s_lots_of, defBody s_lots_of, defScope s_lots_of, [], []⟩
/-- all_seeings: 0 file, 1 found, 2 page, 3 word, 4 tickets, 5 ticket -/
abbrev s_all_seeings : Stmt := top 14
abbrev n_all_seeings : List Str := ["file", "found", "page", "word", "tickets", "ticket"]
abbrev p_all_seeings : List Str := ["file"]
theorem sc_all_seeings : FnScope n_all_seeings p_all_seeings (defScope s_all_seeings) := ⟨rfl, rfl, rfl, by decide +kernel, rfl, by decide +kernel, by decide +kernel⟩
def d_all_seeings : He.DefD := ⟨("all_seeings", none), "all_seeings", "all_seeings", defArgs s_all_seeings, defBody s_all_seeings, defScope s_all_seeings, [], []⟩
/-- is_odd: 0 plan, 1 told, 2 seeing, 3 rack, 4 number, 5 day, 6 later -/
abbrev s_is_odd : Stmt := top 15
abbrev n_is_odd : List Str := ["plan", "told", "seeing", "rack", "number", "day", "later"]
abbrev p_is_odd : List Str := ["plan", "told", "seeing"]
theorem sc_is_odd : FnScope n_is_odd p_is_odd (defScope s_is_odd) := ⟨rfl, rfl, rfl, by decide +kernel, rfl, by decide +kernel, by decide +kernel⟩
def d_is_odd : He.DefD := ⟨("is_odd", none), "is_odd", "is_odd", defArgs s_is_odd, defBody s_is_odd, defScope s_is_odd, [], []⟩
/-- seeings: 0 plan, 1 file, 2 told, 3 seeing -/
abbrev s_seeings : Stmt := top 16
abbrev n_seeings : List Str := ["plan", "file", "told", "seeing"]
abbrev p_seeings : List Str := ["plan", "file"]
theorem sc_seeings : FnScope n_seeings p_seeings (defScope s_seeings) := ⟨rfl, rfl, rfl, by decide +kernel, rfl, by decide +kernel, by decide +kernel⟩
def d_seeings : He.DefD := ⟨("seeings", none), "seeings", "seeings", defArgs s_seeings, defBody s_seeings, defScope s_seeings, [], []⟩
/-- odd: 0 plan, 1 file, 2 told, 3 seeing -/
abbrev s_odd : Stmt := top 17
abbrev n_odd : List Str := ["plan", "file", "told", "seeing"]
abbrev p_odd : List Str := ["plan", "file"]
theorem sc_odd : FnScope n_odd p_odd (defScope s_odd) := ⟨rfl, rfl, rfl, by decide +kernel, rfl, by decide +kernel, by decide +kernel⟩
def d_odd : He.DefD := ⟨("odd", none), "odd", "odd", defArgs s_odd, defBody s_odd, defScope s_odd, [], []⟩
/-- pages_by_days: 0 file, 1 pages, 2 page -/
abbrev s_pages_by_days : Stmt := top 19
abbrev n_pages_by_days : List Str := ["file", "pages", "page"]
abbrev p_pages_by_days : List Str := ["file"]
theorem sc_pages_by_days : FnScope n_pages_by_days p_pages_by_days (defScope s_pages_by_days) := ⟨rfl, rfl, rfl, by decide +kernel, rfl, by decide +kernel, by decide +kernel⟩
def d_pages_by_days : He.DefD := ⟨("pages_by_days", none), "pages_by_days", "pages_by_days", defArgs s_pages_by_days, defBody s_pages_by_days, defScope s_pages_by_days, [], []⟩
/-- things_on: 0 page, 1 some, 2 rack, 3 number, 4 rank -/
abbrev s_things_on : Stmt := top 20
abbrev n_things_on : List Str := ["page", "some", "rack", "number", "rank"]
abbrev p_things_on : List Str := ["page"]
theorem sc_things_on : FnScope n_things_on p_things_on (defScope s_things_on) := ⟨rfl, rfl, rfl, by decide +kernel, rfl, by decide +kernel, by decide +kernel⟩
def d_things_on : He.DefD := ⟨("things_on", none), "things_on", "things_on", defArgs s_things_on, defBody s_things_on, defScope s_things_on, [], []⟩
/-- first_ends: 0 plan, 1 file, 2 found, 3 rack, 4 number, 5 day, 6 place, 7 word -/
abbrev s_first_ends : Stmt := top 21
abbrev n_first_ends : List Str := ["plan", "file", "found", "rack", "number", "day", "place", "word"]
abbrev p_first_ends : List Str := ["plan", "file"]
theorem sc_first_ends : FnScope n_first_ends p_first_ends (defScope s_first_ends) := ⟨rfl, rfl, rfl, by decide +kernel, rfl, by decide +kernel, by decide +kernel⟩
def d_first_ends : He.DefD := ⟨("first_ends", none), "first_ends", "first_ends", defArgs s_first_ends, defBody s_first_ends, defScope s_first_ends, [], []⟩
/-- Standing.__init__: 0 self, 1 plan, 2 file, 3 seeing -/
abbrev s_init : Stmt := inClass (top 22) 0
abbrev n_init : List Str := ["self", "plan", "file", "seeing"]
abbrev p_init : List Str := ["self", "plan", "file"]
theorem sc_init : FnScope n_init p_init (defScope s_init) := ⟨rfl, rfl, rfl, by decide +kernel, rfl, by decide +kernel, by decide +kernel⟩
def d_init : He.DefD := ⟨("Standing", some "__init__"), "__init__", "Standing.__init__", defArgs s_init, defBody s_init, defScope s_init, [], []⟩
/-- Standing.rank_of: 0 self, 1 rack, 2 number -/
abbrev s_rank_of : Stmt := inClass (top 22) 1
abbrev n_rank_of : List Str := ["self", "rack", "number"]
abbrev p_rank_of : List Str := ["self", "rack", "number"]
theorem sc_rank_of : FnScope n_rank_of p_rank_of (defScope s_rank_of) := ⟨rfl, rfl, rfl, by decide +kernel, rfl, by decide +kernel, by decide +kernel⟩
def d_rank_of : He.DefD := ⟨("Standing", some "rank_of"), "rank_of", "Standing.rank_of", defArgs s_rank_of, defBody s_rank_of, defScope s_rank_of, [], []⟩
/-- Standing.word_for: 0 self, 1 place, 2 day, 3 thing, 4 word, 5 rack, 6 number, 7 rank -/
abbrev s_word_for : Stmt := inClass (top 22) 2
abbrev n_word_for : List Str := ["self", "place", "day", "thing", "word", "rack", "number", "rank"]
abbrev p_word_for : List Str := ["self", "place", "day", "thing"]
theorem sc_word_for : FnScope n_word_for p_word_for (defScope s_word_for) := ⟨rfl, rfl, rfl, by decide +kernel, rfl, by decide +kernel, by decide +kernel⟩
def d_word_for : He.DefD := ⟨("Standing", some "word_for"), "word_for", "Standing.word_for", defArgs s_word_for, defBody s_word_for, defScope s_word_for, [], []⟩
/-- Standing.done: 0 self, 1 thing, 2 word, 3 rack, 4 number, 5 rank, 6 paid -/
abbrev s_done : Stmt := inClass (top 22) 3
abbrev n_done : List Str := ["self", "thing", "word", "rack", "number", "rank", "paid"]
abbrev p_done : List Str := ["self", "thing"]
theorem sc_done : FnScope n_done p_done (defScope s_done) := ⟨rfl, rfl, rfl, by decide +kernel, rfl, by decide +kernel, by decide +kernel⟩
def d_done : He.DefD := ⟨("Standing", some "done"), "done", "Standing.done", defArgs s_done, defBody s_done, defScope s_done, [], []⟩
/-- ledger: 0 plan, 1 file, 2 standing, 3 rows, 4 page, 5 thing, 6 word, 7 coin -/
abbrev s_ledger : Stmt := top 23
abbrev n_ledger : List Str := ["plan", "file", "standing", "rows", "page", "thing", "word", "coin"]
abbrev p_ledger : List Str := ["plan", "file"]
theorem sc_ledger : FnScope n_ledger p_ledger (defScope s_ledger) := ⟨rfl, rfl, rfl, by decide +kernel, rfl, by decide +kernel, by decide +kernel⟩
def d_ledger : He.DefD := ⟨("ledger", none), "ledger", "ledger", defArgs s_ledger, defBody s_ledger, defScope s_ledger, [], []⟩
/-- kept_in: 0 plan, 1 rows, 2 rack, 3 number, 4 came, 5 row -/
abbrev s_kept_in : Stmt := top 24
abbrev n_kept_in : List Str := ["plan", "rows", "rack", "number", "came", "row"]
abbrev p_kept_in : List Str := ["plan", "rows", "rack", "number"]
theorem sc_kept_in : FnScope n_kept_in p_kept_in (defScope s_kept_in) := ⟨rfl, rfl, rfl, by decide +kernel, rfl, by decide +kernel, by decide +kernel⟩
def d_kept_in : He.DefD := ⟨("kept_in", none), "kept_in", "kept_in", defArgs s_kept_in, defBody s_kept_in, defScope s_kept_in, [], []⟩
/-- kept_for: 0 plan, 1 file, 2 rack, 3 number -/
abbrev s_kept_for : Stmt := top 25
abbrev n_kept_for : List Str := ["plan", "file", "rack", "number"]
abbrev p_kept_for : List Str := ["plan", "file", "rack", "number"]
theorem sc_kept_for : FnScope n_kept_for p_kept_for (defScope s_kept_for) := ⟨rfl, rfl, rfl, by decide +kernel, rfl, by decide +kernel, by decide +kernel⟩
def d_kept_for : He.DefD := ⟨("kept_for", none), "kept_for", "kept_for", defArgs s_kept_for, defBody s_kept_for, defScope s_kept_for, [], []⟩
/-- _law_hand: 0 _law_script, 1 _law_k, 2 _law_cell, 3 _law_own -/
abbrev s_L_hand : Stmt := top 27
abbrev n_L_hand : List Str := ["_law_script", "_law_k", "_law_cell", "_law_own"]
abbrev p_L_hand : List Str := ["_law_script", "_law_k"]
theorem sc_L_hand : FnScope n_L_hand p_L_hand (defScope s_L_hand) := ⟨rfl, rfl, rfl, by decide +kernel, rfl, by decide +kernel, by decide +kernel⟩
def d_L_hand : He.DefD := ⟨("_law_hand", none), "_law_hand", "_law_hand", defArgs s_L_hand, defBody s_L_hand, defScope s_L_hand, [], []⟩
/-- _law_take: 0 _law_hand_here, 1 _law_many, 2 _law_digit, 3 _law_one, 4 _law_two -/
abbrev s_L_take : Stmt := top 28
abbrev n_L_take : List Str := ["_law_hand_here", "_law_many", "_law_digit", "_law_one", "_law_two"]
abbrev p_L_take : List Str := ["_law_hand_here", "_law_many"]
theorem sc_L_take : FnScope n_L_take p_L_take (defScope s_L_take) := ⟨rfl, rfl, rfl, by decide +kernel, rfl, by decide +kernel, by decide +kernel⟩
def d_L_take : He.DefD := ⟨("_law_take", none), "_law_take", "_law_take", defArgs s_L_take, defBody s_L_take, defScope s_L_take, [], []⟩
/-- _law_of: 0 _law_hand_here, 1 _law_some -/
abbrev s_L_of : Stmt := top 29
abbrev n_L_of : List Str := ["_law_hand_here", "_law_some"]
abbrev p_L_of : List Str := ["_law_hand_here", "_law_some"]
theorem sc_L_of : FnScope n_L_of p_L_of (defScope s_L_of) := ⟨rfl, rfl, rfl, by decide +kernel, rfl, by decide +kernel, by decide +kernel⟩
def d_L_of : He.DefD := ⟨("_law_of", none), "_law_of", "_law_of", defArgs s_L_of, defBody s_L_of, defScope s_L_of, [], []⟩
/-- _law_plan: 0 _law_hand_here, 1 _law_great, 2 _law_short, 3 _law_n, 4 _law_ties, 5 _law_rates, 6 _law_stock, 7 _law_turn, 8 _law_rate, 9 _law_here, 10 _law_there, 11 _law_rack, 12 _law_days, 13 _law_k, 14 _law_one -/
abbrev s_L_plan : Stmt := top 30
abbrev n_L_plan : List Str := ["_law_hand_here", "_law_great", "_law_short", "_law_n", "_law_ties", "_law_rates", "_law_stock", "_law_turn", "_law_rate", "_law_here", "_law_there", "_law_rack", "_law_days", "_law_k", "_law_one"]
abbrev p_L_plan : List Str := ["_law_hand_here"]
theorem sc_L_plan : FnScope n_L_plan p_L_plan (defScope s_L_plan) := ⟨rfl, rfl, rfl, by decide +kernel, rfl, by decide +kernel, by decide +kernel⟩
def d_L_plan : He.DefD := ⟨("_law_plan", none), "_law_plan", "_law_plan", defArgs s_L_plan, defBody s_L_plan, defScope s_L_plan, [], []⟩
/-- _law_tickets: 0 _law_hand_here, 1 _law_plan_here, 2 _law_many, 3 _law_racks, 4 _law_k -/
abbrev s_L_tickets : Stmt := top 31
abbrev n_L_tickets : List Str := ["_law_hand_here", "_law_plan_here", "_law_many", "_law_racks", "_law_k"]
abbrev p_L_tickets : List Str := ["_law_hand_here", "_law_plan_here", "_law_many"]
theorem sc_L_tickets : FnScope n_L_tickets p_L_tickets (defScope s_L_tickets) := ⟨rfl, rfl, rfl, by decide +kernel, rfl, by decide +kernel, by decide +kernel⟩
def d_L_tickets : He.DefD := ⟨("_law_tickets", none), "_law_tickets", "_law_tickets", defArgs s_L_tickets, defBody s_L_tickets, defScope s_L_tickets, [], []⟩
/-- _law_once: 0 _law_some, 1 _law_found, 2 _law_one -/
abbrev s_L_once : Stmt := top 32
abbrev n_L_once : List Str := ["_law_some", "_law_found", "_law_one"]
abbrev p_L_once : List Str := ["_law_some"]
theorem sc_L_once : FnScope n_L_once p_L_once (defScope s_L_once) := ⟨rfl, rfl, rfl, by decide +kernel, rfl, by decide +kernel, by decide +kernel⟩
def d_L_once : He.DefD := ⟨("_law_once", none), "_law_once", "_law_once", defArgs s_L_once, defBody s_L_once, defScope s_L_once, [], []⟩
/-- _law_office: 0 _law_hand_here, 1 _law_plan_here, 2 _law_place, 3 _law_day, 4 _law_closings, 5 _law_rack, 6 _law_betters, 7 _law_backs, 8 _law_coin, 9 _law_pressed, 10 _law_one -/
abbrev s_L_office : Stmt := top 33
abbrev n_L_office : List Str := ["_law_hand_here", "_law_plan_here", "_law_place", "_law_day", "_law_closings", "_law_rack", "_law_betters", "_law_backs", "_law_coin", "_law_pressed", "_law_one"]
abbrev p_L_office : List Str := ["_law_hand_here", "_law_plan_here", "_law_place", "_law_day"]
theorem sc_L_office : FnScope n_L_office p_L_office (defScope s_L_office) := ⟨rfl, rfl, rfl, by decide +kernel, rfl, by decide +kernel, by decide +kernel⟩
def d_L_office : He.DefD := ⟨("_law_office", none), "_law_office", "_law_office", defArgs s_L_office, defBody s_L_office, defScope s_L_office, [], []⟩
/-- _law_file: 0 _law_hand_here, 1 _law_plan_here, 2 _law_pages, 3 _law_day, 4 _law_place, 5 _law_skip, 6 _law_some, 7 _law_k, 8 _law_rack -/
abbrev s_L_file : Stmt := top 34
abbrev n_L_file : List Str := ["_law_hand_here", "_law_plan_here", "_law_pages", "_law_day", "_law_place", "_law_skip", "_law_some", "_law_k", "_law_rack"]
abbrev p_L_file : List Str := ["_law_hand_here", "_law_plan_here"]
theorem sc_L_file : FnScope n_L_file p_L_file (defScope s_L_file) := ⟨rfl, rfl, rfl, by decide +kernel, rfl, by decide +kernel, by decide +kernel⟩
def d_L_file : He.DefD := ⟨("_law_file", none), "_law_file", "_law_file", defArgs s_L_file, defBody s_L_file, defScope s_L_file, [], []⟩
/-- _law_classes: 0 _law_plan_here, 1 _law_file_here, 2 _law_some, 3 _law_day, 4 _law_place, 5 _law_page, 6 _law_one -/
abbrev s_L_classes : Stmt := top 35
abbrev n_L_classes : List Str := ["_law_plan_here", "_law_file_here", "_law_some", "_law_day", "_law_place", "_law_page", "_law_one"]
abbrev p_L_classes : List Str := ["_law_plan_here", "_law_file_here"]
theorem sc_L_classes : FnScope n_L_classes p_L_classes (defScope s_L_classes) := ⟨rfl, rfl, rfl, by decide +kernel, rfl, by decide +kernel, by decide +kernel⟩
def d_L_classes : He.DefD := ⟨("_law_classes", none), "_law_classes", "_law_classes", defArgs s_L_classes, defBody s_L_classes, defScope s_L_classes, [], []⟩
/-- _law_right: 0 _law_plan_here, 1 _law_ticket, 2 _law_rows, 3 _law_rack, 4 _law_number, 5 _law_now, 6 _law_gone, 7 _law_coin, 8 _law_row, 9 _law_rank, 10 _law_due -/
abbrev s_L_right : Stmt := top 36
abbrev n_L_right : List Str := ["_law_plan_here", "_law_ticket", "_law_rows", "_law_rack", "_law_number", "_law_now", "_law_gone", "_law_coin", "_law_row", "_law_rank", "_law_due"]
abbrev p_L_right : List Str := ["_law_plan_here", "_law_ticket", "_law_rows"]
theorem sc_L_right : FnScope n_L_right p_L_right (defScope s_L_right) := ⟨rfl, rfl, rfl, by decide +kernel, rfl, by decide +kernel, by decide +kernel⟩
def d_L_right : He.DefD := ⟨("_law_right", none), "_law_right", "_law_right", defArgs s_L_right, defBody s_L_right, defScope s_L_right, [], []⟩
/-- _law_kept: 0 _law_plan_here, 1 _law_rows, 2 _law_rack, 3 _law_rank, 4 _law_row, 5 _law_told -/
abbrev s_L_kept : Stmt := top 37
abbrev n_L_kept : List Str := ["_law_plan_here", "_law_rows", "_law_rack", "_law_rank", "_law_row", "_law_told"]
abbrev p_L_kept : List Str := ["_law_plan_here", "_law_rows"]
theorem sc_L_kept : FnScope n_L_kept p_L_kept (defScope s_L_kept) := ⟨rfl, rfl, rfl, by decide +kernel, rfl, by decide +kernel, by decide +kernel⟩
def d_L_kept : He.DefD := ⟨("_law_kept", none), "_law_kept", "_law_kept", defArgs s_L_kept, defBody s_L_kept, defScope s_L_kept, [], []⟩
/-- law: 0 _law_script, 1 _law_k, 2 _law_hand_here, 3 _law_plan_here, 4 _law_file_here, 5 _law_rows, 6 _law_classes_here, 7 _law_by_tickets, 8 _law_row, 9 _law_rank, 10 _law_at, 11 _law_ticket, 12 _law_due -/
abbrev s_law : Stmt := top 38
abbrev n_law : List Str := ["_law_script", "_law_k", "_law_hand_here", "_law_plan_here", "_law_file_here", "_law_rows", "_law_classes_here", "_law_by_tickets", "_law_row", "_law_rank", "_law_at", "_law_ticket", "_law_due"]
abbrev p_law : List Str := ["_law_script"]
theorem sc_law : FnScope n_law p_law (defScope s_law) := ⟨rfl, rfl, rfl, by decide +kernel, rfl, by decide +kernel, by decide +kernel⟩
def d_law : He.DefD := ⟨("law", none), "law", "law", defArgs s_law, defBody s_law, defScope s_law, [], []⟩
def fn : List He.DefD := [d_tie_of, d_ties_along, d_miles, d_both_ways, d_way, d_racks_at, d_way_of, d_fare, d_told_closings, d_lots_of, d_all_seeings, d_is_odd, d_seeings, d_odd, d_pages_by_days, d_things_on, d_first_ends, d_init, d_rank_of, d_word_for, d_done, d_ledger, d_kept_in, d_kept_for, d_L_hand, d_L_take, d_L_of, d_L_plan, d_L_tickets, d_L_once, d_L_office, d_L_file, d_L_classes, d_L_right, d_L_kept, d_law]
def fa : List He.Fa := [.glo "tie_of", .glo "ties_along", .glo "miles", .glo "both_ways", .glo "way", .glo "racks_at", .glo "way_of", .glo "fare", .glo "told_closings", .glo "lots_of", .glo "all_seeings", .glo "is_odd", .glo "seeings", .glo "odd", .glo "pages_by_days", .glo "things_on", .glo "first_ends", .glo "ledger", .glo "kept_in", .glo "kept_for", .glo "_law_hand", .glo "_law_take", .glo "_law_of", .glo "_law_plan", .glo "_law_tickets", .glo "_law_once", .glo "_law_office", .glo "_law_file", .glo "_law_classes", .glo "_law_right", .glo "_law_kept", .glo "law", .glo "Standing", .free "range", .free "zip", .free "enumerate", .free "tuple", .free "sorted", .free "sum", .free "any", .free "dict", .free "min", .free "max", .free "len", .free "abs", .free "int", .cls "Standing", .mkr "Standing", .noat "Standing" "plan", .noat "Standing" "odds", .noat "Standing" "ends", .noat "Standing" "ranks", .noat "Standing" "gone", .meth "Standing" "rank_of", .meth "Standing" "word_for", .meth "Standing" "done"]
def tf : List He.Defn := [("pages_by_days", none), ("_law_file", none)]
-- loose: 33
def looseA : List Str := ["__name__", "tie_of", "ties_along", "miles", "both_ways", "way", "racks_at", "way_of", "fare", "told_closings", "lots_of", "all_seeings", "is_odd", "seeings", "odd", "pages_by_days", "things_on", "first_ends"]
def looseB : List Str := ["ledger", "kept_in", "kept_for", "_law_hand", "_law_take", "_law_of", "_law_plan", "_law_tickets", "_law_once", "_law_office", "_law_file", "_law_classes", "_law_right", "_law_kept", "Standing"]
end Tk

set_option Elab.async false
set_option linter.all false
set_option maxRecDepth 100000
set_option maxHeartbeats 0
namespace Tk
open PySem PySem.Spec PyProof.Rows L2
abbrev R : PySem.W.OpenRow := PySem.W.OpenLaw.row PySem.Challenge.rw_ticketracks_k46_whole_never_coined_twice
abbrev exB : PySem.W.Frag → Bool := fun K => !((He.cT K ("pages_by_days", none)).2 == (He.cT K ("_law_file", none)).2)
abbrev hk : PySem.W.Hook := He.hookX 5 fa fn [] tf exB
def ob (s : PySem.W.SharedT) : He.AlX := He.obsX 5 fa fn [] tf exB (HandSHeadRun.getT s)
theorem ob_eq (s : PySem.W.SharedT) : ob s = hk.obs s.abs := He.obsX_eq (HandSHeadRun.getT_eq s)
theorem topRun (w : World) : HandSHeadRun.RunEq R (PySem.W.view R.prog [38]) hk ob 4000 (looseA ++ looseB) w := by
  intro os
  kernel_rfl
end Tk

set_option Elab.async false
set_option linter.all false
set_option maxRecDepth 100000
set_option maxHeartbeats 4000000
/-! Own rules of the layer: enumerate(tuple), zip(tuple, list), x in (tuples), nested tuples by <. -/
namespace Tk
open PySem PySem.Spec PyProof.Rows L2

/-! ### x in t, t a tuple of data -/
section
variable {X : Cx}
def rInDT (K : PySem.W.Frag) : R2 := fun x y H Q => ∃ d ds, Dp K H x d ∧ Dp K H y (.tuple ds) ∧ SeqAt.shaped d = true ∧ SeqAt.shaped (.tuple ds) = true ∧ Q (.bl (ds.any fun z => PyData.eqv z d)) H
theorem op_inDT (hu : X.A.units + 65 < cLine) : OpR X (compareOp .In) (rInDT X.K) := by
  intro pins s σ H x y v u Q I rx ry h
  obtain ⟨d, ds, hd, he, sd, se, q⟩ := h
  obtain ⟨as, r1⟩ := Dp.reads I d x v hd rx
  obtain ⟨bs, r2⟩ := Dp.reads I (.tuple ds) y u he ry
  exact SeqAt.in_tuple_reads r2 r1 (SeqAt.canLay_of_shaped se) (SeqAt.canLay_of_shaped sd) (room_in_shaped sd hu) ⟨.bl _, H, I, rfl, q⟩
end

/-! ### enumerate(tuple) -/
theorem meets_enumerate_newB1 {v : Value} {o : Obj} {H : Heap → Prop} (B : Begins v o H) :
    Meets (Builtin.«enumerate.__new__» ⟨[.type "enumerate", v], []⟩) (fun _ R s => H s.heap ∧
      R (.ok (.ret (.ref (s.heap.push o).objs.size))) { s with heap := (s.heap.push o).push { cls := .type "enumerate", data := .fields #[.none, .bool false, .ref s.heap.objs.size, rawInt 0, .none, .none] } }) :=
  .of_wp fun prog w A R s h => by
    obtain ⟨hp, g, d, tk, os⟩ := s; obtain ⟨h1, h⟩ := h
    have hsub := sub_enumerate
    have q1 : ∀ {A' : Around} {E : Value → Shared → Prop} {Q : Value → Shared → Prop}, Q (.ref hp.objs.size) ⟨hp.push o, g, d, tk, os⟩ → wpAny (model prog w) A' (pyIter v) Q E ⟨hp, g, d, tk, os⟩ :=
      fun q => B.iter prog w _ _ ⟨hp, g, d, tk, os⟩ _ h1 q
    wp_walk using q1
    refine wpAny_stack_any fun st => wpAny_pure ?_
    split
    · rename_i c _ _ _ _ _
      cases (c == Value.type "enumerate")
      · wp_walk using q1
        exact ⟨_, rfl, h⟩
      · wp_walk using q1
        exact ⟨_, rfl, h⟩
    · wp_walk using q1
      exact ⟨_, rfl, h⟩
section
variable {prog : Program} {w : World} {A : Around} {E : Value → Shared → Prop} {s : Shared}
theorem enum1_begins {v : Value} {o : Obj} {H : Heap → Prop} {Q : Value → Shared → Prop} (B : Begins v o H) (h1 : H s.heap)
    (h : ∀ h', IsEnum h' (s.heap.objs.size + 1) s.heap.objs.size 0 .none → h'.get? s.heap.objs.size = some o → h'.objs.size = s.heap.objs.size + 2 →
      (∀ b o, s.heap.get? b = some o → h'.get? b = some o) → Q (.ref (s.heap.objs.size + 1)) { s with heap := h' }) :
    wpAny (model prog w) A (call (.type "enumerate") [v]) Q E s := by
  refine callType_new F.called_enumerate (by decide) (F.typeCall_enumerate_1 _) (F.newCall_enumerate_1 _) (fun obj => F.args_object_init_2 obj _) F.entry_enumerate_new
    (meets_enumerate_newB1 B) ⟨h1, ?_⟩
  have hz : (s.heap.push o).objs.size = s.heap.objs.size + 1 := Heap.size_push ..
  show _ ∧ _
  rw [hz]
  have he : IsEnum ((s.heap.push o).push { cls := .type "enumerate", data := .fields #[.none, .bool false, .ref s.heap.objs.size, rawInt 0, .none, .none] }) (s.heap.objs.size + 1) s.heap.objs.size 0 .none := by
    have := Heap.get?_push_size (s.heap.push o) (o := { cls := .type "enumerate", data := .fields #[.none, .bool false, .ref s.heap.objs.size, rawInt 0, .none, .none] }) rfl
    rw [hz] at this; exact this
  refine ⟨⟨_, he, rfl⟩, h _ he (Heap.get?_push_of_some _ (Heap.get?_push_size _ B.free)) (by rw [Heap.size_push, hz]) fun b o x => Heap.get?_push_of_some _ (Heap.get?_push_of_some _ x)⟩
end
/-- the tuple at a as it stands at each turn, each item in a new pair -/
def IteT (K : PySem.W.Frag) (a : Addr) : It :=
  ⟨fun i H => ∃ (xs : List V) (x : V), SqT K H a xs ∧ xs[i]? = some x, fun i H v H' => ∃ T x, v = .ref T ∧ H T = none ∧ H' = upd H T (.tup [.int (i : Nat), x]) ∧ ∀ xs, SqT K H a xs → xs[i]? = some x, fun i H => ∃ xs : List V, SqT K H a xs ∧ xs.length = i⟩
theorem turn_enumT {P : Program} {w : World} {K : PySem.W.Frag} {elts : List Expr} {kk : Nat} {tpos : Pos} (a e it : Addr) :
    Turn P w K (.Tuple elts kk tpos) (IteT K a) [e, it] e (fun i h => (∃ old, IsEnum h e it ((i : Nat) : Int) old) ∧ h.IsTupleIter it a i ∧ e ≠ it) where
  mem := by simp
  obj := fun i h st b hb => by
    obtain ⟨⟨old, he⟩, ⟨o, ho, hc, hd⟩, _⟩ := st
    have e' : b = e ∨ b = it := by simpa using hb
    rcases e' with z | z
    · rw [z]; exact ⟨_, he, fun v q => nomatch q⟩
    · rw [z]; exact ⟨o, ho, fun v q => by rw [hd] at q; cases q⟩
  keep := fun i h h' st k => let ⟨⟨old, he⟩, hi, hne⟩ := st; ⟨⟨old, k e (by simp) _ he⟩, hi.at fun o q => k it (by simp) o q, hne⟩
  item := by
    intro X hP hw hK hc i pins s σ H E I hf st hg
    subst hP hw hK
    obtain ⟨⟨old, he⟩, hit, hne⟩ := st
    obtain ⟨xs, x, hq, hx⟩ := hg
    obtain ⟨its, rv, p, hz⟩ := I.tuple hq
    obtain ⟨u, hu, ru⟩ := rv.get hx
    have hel : e < s.heap.objs.size := Heap.lt_size he
    have hil : it < s.heap.objs.size := by obtain ⟨_, q, _⟩ := hit; exact Heap.lt_size q
    have hae : a ≠ e := fun z => by
      obtain ⟨o, ho, hc, _⟩ := id p
      rw [z, he] at ho
      cases ho
      exact absurd (Value.type.inj hc) (by decide)
    have hai : a ≠ it := fun z => by
      obtain ⟨o, ho, hc, _⟩ := id p
      obtain ⟨o2, ho2, hc2, _⟩ := id hit
      rw [z, ho2] at ho
      cases ho
      rw [hc] at hc2
      exact absurd (Value.type.inj hc2) (by decide)
    have D := Draws.tuple (prog := X.prog) (w := X.w) (A := X.A.in1) (I.ok.hd hc) it a hai its.toArray
    refine wpAny_pyNext_enum_itemD D he ⟨hit, p⟩ (by simp; have := rv.length; have := (List.getElem?_eq_some_iff.mp hx).1; omega) hne (by simp; exact ⟨hne, hae.symm⟩) fun y h' tk hy ho hst' hT hsz hk => ?_
    have ey : y = u := by
      have q1 : its.toArray[i]? = some y := hy
      rw [show its.toArray[i]? = its[i]? by simp, hu] at q1
      exact (Option.some.inj q1).symm
    subst ey
    refine ⟨_, rfl, wpAny_letOwnedTupleGo_enum (s := { s with heap := h', toks := tk + 1 }) ho fun h'' he' sb => ?_⟩
    have hT2 : h''.get? s.heap.objs.size = some { cls := .type "tuple", data := .seq #[.int i tk, y] } := (sb.2 _ (Nat.ne_of_gt hel)).trans hT
    have new : ObjOk X.prog X.w (upd H s.heap.objs.size (.tup [.int (i : Nat), x])) h'' s.heap.objs.size (.tup [.int (i : Nat), x]) :=
      ⟨by show 2 ≤ sizeLine; decide, [.int i tk, y], .cons ⟨_, rfl⟩ (.cons ru .nil), ⟨_, hT2, rfl, _, rfl⟩⟩
    have I1 : Inv X pins σ (upd H s.heap.objs.size (.tup [.int (i : Nat), x])) { s with heap := h'', toks := tk + 1 } :=
      I.turnedNew (ch := [e, it]) (fun b ob hb q => (sb.2 b (fun z => hb (by simp [z]))).trans (hk b ob (fun z => hb (by simp [z])) (fun z => hb (by simp [z])) q)) hf (Nat.le_refl _) new
    refine ⟨.ref s.heap.objs.size, _, I1, rfl, ⟨_, x, rfl, I.hok.fresh (Nat.le_refl _), rfl, fun ys hy => by rw [I.tuple_inj hy hq]; exact hx⟩, ⟨⟨y, ?_⟩, hst'.1.at fun o q => (sb.2 it (Ne.symm hne)).trans q, hne⟩, fun b hb => ?_⟩
    · have e1 : ((i + 1 : Nat) : Int) = (i : Int) + 1 := by omega
      rw [e1]; exact he'
    · have hb' : b < s.heap.objs.size := by
        have e' : b = e ∨ b = it := by simpa using hb
        rcases e' with z | z
        · rw [z]; exact hel
        · rw [z]; exact hil
      rw [upd_ne (Nat.ne_of_lt hb')]
      exact (hf b hb).1
  done := by
    intro X hP hw hK hc i pins s σ H E I hf st hg
    subst hP hw hK
    obtain ⟨⟨old, he⟩, hit, hne⟩ := st
    obtain ⟨xs, hq, hx⟩ := hg
    obtain ⟨its, rv, p, hz⟩ := I.tuple hq
    obtain ⟨f0, f1, f2, f3, f4, f5⟩ := hf it (by simp)
    have hl := rv.length
    have hai : a ≠ it := fun z => by
      obtain ⟨o, ho, hc, _⟩ := id p
      obtain ⟨o2, ho2, hc2, _⟩ := id hit
      rw [z, ho2] at ho
      cases ho
      rw [hc] at hc2
      exact absurd (Value.type.inj hc2) (by decide)
    have D := Draws.tuple (prog := X.prog) (w := X.w) (A := X.A.in1) (I.ok.hd hc) it a hai its.toArray
    have ei : i = its.toArray.size := by simp; omega
    refine wpAny_pyNext_enum_endD D he (by rw [← ei]; exact ⟨hit, p⟩) fun h' eb => ⟨rfl, I.turned (t' := s.toks) (fun b o hb q => eb b o hb q) f0 f1 f3 f4 f5⟩
  self := fun A i s Q E st h => let ⟨⟨_, he⟩, _⟩ := st; wpAny_pyIter_enum he h
def iEnumT (K : PySem.W.Frag) (ta : TA) : TI := fun σ H R => ta σ H fun vs H1 => ∃ a xs, vs = [.ref a] ∧ SqT K H1 a xs ∧ R (IteT K a) H1
theorem pi_enumT {X : Cx} {e : Expr} {ta : TA} {p pos tpos : Pos} {elts : List Expr} {kk : Nat} (hg : Gl X "enumerate") (hm : X.mg "enumerate" = none) (ha : PA X [e] ta) (hs : starEach [e] X.env = [(false, eval e X.env)] := by rfl) :
    PI X (.Tuple elts kk tpos) (.Call (.Name "enumerate" p) [e] [] pos) (iEnumT X.K ta) := by
  refine ⟨fun pins s σ H R I h => ?_⟩
  refine Call_ (ld_blt I hg hm boot_enumerate (PyProof.Rows.callWith_type1 (thn (ha.run pos pins s σ H _ I h) fun us s1 ⟨vs, H1, I1, r1, q1⟩ => ?_) hs rfl))
  obtain ⟨a, xs, ex, hq, q⟩ := q1
  subst ex
  cases r1 with
  | cons r rr =>
    cases rr
    cases r
    obtain ⟨its, rv, p', hz⟩ := I1.tuple hq
    refine enum1_begins (begins_tuple a its.toArray) p' fun h' he hit hsz hk => wpAny_pyIter_enum he ?_
    have I2 : Inv X pins σ H1 { s1 with heap := h' } := I1.kept (t' := s1.toks) hk
    refine ⟨s1.heap.objs.size + 1, [s1.heap.objs.size + 1, s1.heap.objs.size], _, _, H1, rfl, I2, turn_enumT a (s1.heap.objs.size + 1) s1.heap.objs.size, ⟨⟨.none, he⟩, ⟨_, hit, rfl, rfl⟩, Nat.succ_ne_self _⟩, fun b hb => ?_, q⟩
    have e' : b = s1.heap.objs.size + 1 ∨ b = s1.heap.objs.size := by simpa using hb
    have hle : s1.heap.objs.size ≤ b := by
      rcases e' with z | z
      · rw [z]; exact Nat.le_add_right _ _
      · rw [z]; exact Nat.le_refl _
    exact I1.fpOk hle (I1.hok.fresh hle)
theorem walk_enumT {K : PySem.W.Frag} {a : Addr} {xs : List V} : Walk (IteT K a) xs.length (fun H => SqT K H a xs) (YPair (fun i => some (.int (i : Nat))) (fun i => xs[i]?)) := by
  refine ⟨fun i _ hi q => ⟨xs, xs[i], q, by simp [hi]⟩, fun _ q => ⟨xs, q, rfl⟩, fun i H v H' _ q y => ?_⟩
  obtain ⟨T, x, h1, h2, h3, h4⟩ := y
  exact ⟨T, .int (i : Nat), x, h1, h2, h3, rfl, h4 xs q⟩

/-! ### zip(tuple, list) -/
def ItzM (K : PySem.W.Frag) (a b : Addr) : It :=
  ⟨fun i H => ∃ (xs ys : List V) (x y : V), SqT K H a xs ∧ SqL K H b ys ∧ xs[i]? = some x ∧ ys[i]? = some y,
    fun i H v H' => ∃ T x y, v = .ref T ∧ H T = none ∧ H' = upd H T (.tup [x, y]) ∧ (∀ xs, SqT K H a xs → xs[i]? = some x) ∧ ∀ ys, SqL K H b ys → ys[i]? = some y,
    fun i H => ∃ xs ys : List V, SqT K H a xs ∧ SqL K H b ys ∧ i = xs.length ∧ i = ys.length⟩
theorem turn_zipM {P : Program} {w : World} {K : PySem.W.Frag} {elts : List Expr} {kk : Nat} {tpos : Pos} {a b z TI TO i1 i2 : Addr} (D : ZipSep2 z TI TO i1 i2 [i1, a] [i2, b]) :
    Turn P w K (.Tuple elts kk tpos) (ItzM K a b) [z, TI, TO, i1, i2] z (fun i h => IsZip h z TI TO .none ∧ IsTupOf2 h TI (.ref i1) (.ref i2) ∧ (∃ x y, IsTupOf2 h TO x y) ∧ h.IsTupleIter i1 a i ∧ h.IsListIter i2 b i) where
  mem := by simp
  obj := fun i h st c hc => by
    obtain ⟨hz, hTI, ⟨x, y, hTO⟩, ⟨o1, e1, _, d1⟩, ⟨o2, e2, _, d2⟩⟩ := st
    have e' : c = z ∨ c = TI ∨ c = TO ∨ c = i1 ∨ c = i2 := by simpa using hc
    rcases e' with q | q | q | q | q
    · rw [q]; exact ⟨_, hz, fun v q => nomatch q⟩
    · rw [q]; exact ⟨_, hTI, fun v q => nomatch q⟩
    · rw [q]; exact ⟨_, hTO, fun v q => nomatch q⟩
    · rw [q]; exact ⟨o1, e1, fun v q => by rw [d1] at q; cases q⟩
    · rw [q]; exact ⟨o2, e2, fun v q => by rw [d2] at q; cases q⟩
  keep := fun i h h' st k => by
    obtain ⟨hz, hTI, ⟨x, y, hTO⟩, h1, h2⟩ := st
    exact ⟨k z (by simp) _ hz, k TI (by simp) _ hTI, ⟨x, y, k TO (by simp) _ hTO⟩, h1.at fun o q => k i1 (by simp) o q, h2.at fun o q => k i2 (by simp) o q⟩
  item := by
    intro X hP hw hK hc i pins s σ H E I hf st hg
    subst hP hw hK
    obtain ⟨hz, hTI, ⟨x0, y0, hTO⟩, h1, h2⟩ := st
    obtain ⟨xs, ys, x, y, hqx, hqy, hx, hy⟩ := hg
    obtain ⟨its, rv, p, _⟩ := I.tuple hqx
    obtain ⟨its2, rv2, p2, _⟩ := I.list hqy
    obtain ⟨u, hu, ru⟩ := rv.get hx
    obtain ⟨u2, hu2, ru2⟩ := rv2.get hy
    have hzl : z < s.heap.objs.size := Heap.lt_size hz
    have na : a ≠ i1 := fun q => by
      obtain ⟨o, ho, hc, _⟩ := id p
      obtain ⟨o2, ho2, hc2, _⟩ := id h1
      rw [q, ho2] at ho
      cases ho
      rw [hc] at hc2
      exact absurd (Value.type.inj hc2) (by decide)
    have nb : b ≠ i2 := fun q => by
      obtain ⟨o, ho, hc, _⟩ := id p2.isList
      obtain ⟨o2, ho2, hc2, _⟩ := id h2
      rw [q, ho2] at ho
      cases ho
      rw [hc] at hc2
      exact absurd (Value.type.inj hc2) (by decide)
    have D1 := Draws.tuple (prog := X.prog) (w := X.w) (A := X.A.in1) (I.ok.hd hc) i1 a na its.toArray
    have D2 := Draws.list (prog := X.prog) (w := X.w) (A := X.A.in1) (I.ok.hd hc) i2 b nb its2.toArray
    have l1 : i < its.toArray.size := by simp; exact (List.getElem?_eq_some_iff.mp hu).1
    have l2 : i < its2.toArray.size := by simp; exact (List.getElem?_eq_some_iff.mp hu2).1
    refine wpAny_pyNext_zipD2_item D D1 D2 hz hTI hTO ⟨h1, p⟩ ⟨h2, p2.isList⟩ l1 l2 fun y1 y2 h' tk q1 q2 z' TO' h1' h2' hT hsz hk => ?_
    have e1 : y1 = u := by
      have q : its.toArray[i]? = some y1 := q1
      rw [show its.toArray[i]? = its[i]? by simp, hu] at q
      exact (Option.some.inj q).symm
    have e2 : y2 = u2 := by
      have q : its2.toArray[i]? = some y2 := q2
      rw [show its2.toArray[i]? = its2[i]? by simp, hu2] at q
      exact (Option.some.inj q).symm
    subst e1 e2
    refine ⟨_, rfl, wpAny_letOwnedTupleGo_zip (s := { s with heap := h', toks := tk }) z' fun h'' z'' sb => ?_⟩
    have hT2 : h''.get? s.heap.objs.size = some { cls := .type "tuple", data := .seq #[y1, y2] } := (sb.2 _ (Nat.ne_of_gt hzl)).trans hT
    have new : ObjOk X.prog X.w (upd H s.heap.objs.size (.tup [x, y])) h'' s.heap.objs.size (.tup [x, y]) :=
      ⟨by show 2 ≤ sizeLine; decide, [y1, y2], .cons ru (.cons ru2 .nil), ⟨_, hT2, rfl, _, rfl⟩⟩
    have I1 : Inv X pins σ (upd H s.heap.objs.size (.tup [x, y])) { s with heap := h'', toks := tk } :=
      I.turnedNew (t' := tk) (ch := [z, TI, TO, i1, i2]) (fun c o hb q => (sb.2 c (fun q' => hb (by simp [q']))).trans (hk c o (fun q' => hb (by simp [q'])) (fun q' => hb (by simp [q'])) (fun q' => hb (by simp [q'])) (fun q' => hb (by simp [q'])) q)) hf (Nat.le_refl _) new
    refine ⟨.ref s.heap.objs.size, _, I1, rfl, ⟨_, x, y, rfl, I.hok.fresh (Nat.le_refl _), rfl, fun l hl => by rw [I.tuple_inj hl hqx]; exact hx, fun l hl => by rw [I.list_inj hl hqy]; exact hy⟩, ⟨z'', ?_, ⟨y1, y2, ?_⟩, ?_, ?_⟩, fun c hcm => ?_⟩
    · exact (sb.2 _ D.TIz).trans (hk _ _ D.TIz D.TITO D.TIi1 D.TIi2 hTI)
    · exact (sb.2 _ D.TOz).trans TO'
    · exact h1'.1.at fun o q => (sb.2 _ (Ne.symm D.zi1)).trans q
    · exact h2'.1.at fun o q => (sb.2 _ (Ne.symm D.zi2)).trans q
    · have hlt : c < s.heap.objs.size := by
        have e' : c = z ∨ c = TI ∨ c = TO ∨ c = i1 ∨ c = i2 := by simpa using hcm
        rcases e' with q | q | q | q | q
        · rw [q]; exact hzl
        · rw [q]; exact Heap.lt_size hTI
        · rw [q]; exact Heap.lt_size hTO
        · rw [q]; obtain ⟨_, e1, _⟩ := h1; exact Heap.lt_size e1
        · rw [q]; obtain ⟨_, e2, _⟩ := h2; exact Heap.lt_size e2
      rw [upd_ne (Nat.ne_of_lt hlt)]
      exact (hf c hcm).1
  done := by
    intro X hP hw hK hc i pins s σ H E I hf st hg
    subst hP hw hK
    obtain ⟨hz, hTI, ⟨x0, y0, hTO⟩, h1, h2⟩ := st
    obtain ⟨xs, ys, hqx, hqy, hend1, hend2⟩ := hg
    obtain ⟨its, rv, p, _⟩ := I.tuple hqx
    obtain ⟨its2, rv2, p2, _⟩ := I.list hqy
    have l1 := rv.length
    have l2 := rv2.length
    have na : a ≠ i1 := fun q => by
      obtain ⟨o, ho, hc, _⟩ := id p
      obtain ⟨o2, ho2, hc2, _⟩ := id h1
      rw [q, ho2] at ho
      cases ho
      rw [hc] at hc2
      exact absurd (Value.type.inj hc2) (by decide)
    have nb : b ≠ i2 := fun q => by
      obtain ⟨o, ho, hc, _⟩ := id p2.isList
      obtain ⟨o2, ho2, hc2, _⟩ := id h2
      rw [q, ho2] at ho
      cases ho
      rw [hc] at hc2
      exact absurd (Value.type.inj hc2) (by decide)
    have D1 := Draws.tuple (prog := X.prog) (w := X.w) (A := X.A.in1) (I.ok.hd hc) i1 a na its.toArray
    have D2 := Draws.list (prog := X.prog) (w := X.w) (A := X.A.in1) (I.ok.hd hc) i2 b nb its2.toArray
    have e1 : i = its.toArray.size := by simp; omega
    have e2 : i = its2.toArray.size := by simp; omega
    exact wpAny_pyNext_zipD2_end (i := i) D D1 D2 hz hTI hTO ⟨h1, p⟩ ⟨h2, p2.isList⟩ (Nat.le_of_eq e1) (Nat.le_of_eq e2) (.inl e1) fun h' tk hk => ⟨rfl, I.turnedL (t' := tk) (ch := [z, TI, TO, i1, i2]) (fun c o hb q =>
      hk c o (fun q' => hb (by simp [q'])) (fun q' => hb (by simp [q'])) (fun q' => hb (by simp [q'])) (fun q' => hb (by simp [q'])) q) hf⟩
  self := fun A i s Q E st h => wpAny_pyIter_zip st.1 h
def iZipM (K : PySem.W.Frag) (ta : TA) : TI := fun σ H R => ta σ H fun vs H1 => ∃ a b xs ys, vs = [.ref a, .ref b] ∧ SqT K H1 a xs ∧ SqL K H1 b ys ∧ R (ItzM K a b) H1
theorem pi_zipM {X : Cx} {e e2 : Expr} {ta : TA} {p pos tpos : Pos} {elts : List Expr} {kk : Nat} (hg : Gl X "zip") (hm : X.mg "zip" = none) (ha : PA X [e, e2] ta)
    (hs : starEach [e, e2] X.env = (false, eval e X.env) :: starEach [e2] X.env := by rfl) (hpl : (backTo pos (starEach [e2] X.env)).any (·.1) = false := by rfl) :
    PI X (.Tuple elts kk tpos) (.Call (.Name "zip" p) [e, e2] [] pos) (iZipM X.K ta) := by
  refine ⟨fun pins s σ H R I h => ?_⟩
  refine Call_ (ld_blt I hg hm PyProof.Rows.boot_zip (PyProof.Rows.callWith_type1 (thn (ha.run pos pins s σ H _ I h) fun us s1 ⟨vs, H1, I1, r1, q1⟩ => ?_) hs hpl))
  obtain ⟨a, b, xs, ys, ex, hqx, hqy, q⟩ := q1
  subst ex
  cases r1 with
  | cons r rr =>
    cases rr with
    | cons r' rr =>
      cases rr
      cases r
      cases r'
      obtain ⟨its, rv, p1, _⟩ := I1.tuple hqx
      obtain ⟨its2, rv2, p2, _⟩ := I1.list hqy
      have la : a < s1.heap.objs.size := by obtain ⟨_, e, _⟩ := id p1; exact Heap.lt_size e
      have lb : b < s1.heap.objs.size := p2.lt
      refine zip_begins2 (begins_tuple a its.toArray) (begins_list b its2.toArray) p1 p2.isList fun h' hz hTI hTO h1 h2 hsz hk => wpAny_pyIter_zip hz ?_
      have I2 : Inv X pins σ H1 { s1 with heap := h' } := I1.kept (t' := s1.toks) hk
      refine ⟨s1.heap.objs.size + 4, [s1.heap.objs.size + 4, s1.heap.objs.size + 2, s1.heap.objs.size + 3, s1.heap.objs.size, s1.heap.objs.size + 1], _, _, H1, rfl, I2,
        turn_zipM (zip_sep2 (fp1 := [a]) (fp2 := [b]) (by simpa using la) (by simpa using lb)), ⟨hz, hTI, ⟨_, _, hTO⟩, ⟨_, h1, rfl, rfl⟩, ⟨_, h2, rfl, rfl⟩⟩, fun c hcm => ?_, q⟩
      have e' : c = s1.heap.objs.size + 4 ∨ c = s1.heap.objs.size + 2 ∨ c = s1.heap.objs.size + 3 ∨ c = s1.heap.objs.size ∨ c = s1.heap.objs.size + 1 := by simpa using hcm
      have hle : s1.heap.objs.size ≤ c := by
        rcases e' with z | z | z | z | z
        · rw [z]; exact Nat.le_add_right _ _
        · rw [z]; exact Nat.le_add_right _ _
        · rw [z]; exact Nat.le_add_right _ _
        · rw [z]; exact Nat.le_refl _
        · rw [z]; exact Nat.le_add_right _ _
      exact I1.fpOk hle (I1.hok.fresh hle)
theorem walk_zipM {K : PySem.W.Frag} {a b : Addr} {xs ys : List V} (hl : xs.length = ys.length) : Walk (ItzM K a b) xs.length (fun H => SqT K H a xs ∧ SqL K H b ys) (YPair (fun i => xs[i]?) (fun i => ys[i]?)) := by
  refine ⟨fun i _ hi q => ?_, fun _ q => ⟨xs, ys, q.1, q.2, rfl, hl⟩, fun i H v H' _ q y => ?_⟩
  · have h2 : i < ys.length := by omega
    exact ⟨xs, ys, xs[i], ys[i], q.1, q.2, by simp [hi], by simp [h2]⟩
  · obtain ⟨T, x, z, h1, h2, h3, h4, h5⟩ := y
    exact ⟨T, x, z, h1, h2, h3, h4 xs q.1, h5 ys q.2⟩
/-- zip of two tuples of any lengths -/
theorem walk_zipT {K : PySem.W.Frag} {a b : Addr} {xs ys : List V} {n : Nat} (hn : n = min xs.length ys.length) : Walk (RZ.ItzT K a b) n (fun H => SqT K H a xs ∧ SqT K H b ys) (YPair (fun i => xs[i]?) (fun i => ys[i]?)) := by
  subst hn
  refine ⟨fun i _ hi q => ?_, fun _ q => ⟨xs, ys, q.1, q.2, by omega⟩, fun i H v H' _ q y => ?_⟩
  · have h1 : i < xs.length := by omega
    have h2 : i < ys.length := by omega
    exact ⟨xs, ys, xs[i], ys[i], q.1, q.2, by simp [h1], by simp [h2]⟩
  · obtain ⟨T, x, z, h1, h2, h3, h4, h5⟩ := y
    exact ⟨T, x, z, h1, h2, h3, h4 xs q.1, h5 ys q.2⟩

/-! ### data by < -/
section
variable {X : Cx}
def rLtD (K : PySem.W.Frag) : R2 := fun x y H Q => ∃ d e, Dp K H x d ∧ Dp K H y e ∧ PySem.W.alike d e = true ∧ d ≠ .none ∧ d.depth ≤ 64 ∧ Q (.bl (PySem.W.dataLt d e)) H
theorem op_ltD (hu : X.A.units + 64 < cLine) : OpR X (compareOp .Lt) (rLtD X.K) := by
  intro pins s σ H x y v u Q I rx ry h
  obtain ⟨d, e, hd, he, al, nn, dp, q⟩ := h
  obtain ⟨as, r1⟩ := Dp.reads I d x v hd rx
  obtain ⟨bs, r2⟩ := Dp.reads I e y u he ry
  have hm : min d.depth e.depth ≤ d.depth := Nat.min_le_left _ _
  exact PySem.W.lt_data r1 r2 al nn (by omega) ⟨.bl _, H, I, rfl, q⟩
end
end Tk

set_option Elab.async false
set_option linter.all false
set_option maxRecDepth 100000
set_option maxHeartbeats 4000000
/-! Own rules of the layer: sorted of data, of a dict's tuple keys. -/
namespace Tk
open PySem PySem.Spec PyProof.Rows L2

/-! ### sorted(xs), xs a list of data that are alike -/
theorem each_of {R : Value → V × PyData → Prop} : ∀ {ps : List (V × PyData)} {us : List Value}, Vals (ps.map (·.1)) us → (∀ (p : V × PyData) (u : Value), p ∈ ps → RelV p.1 u → R u p) → PySem.W.EachIs R us ps
  | [], us, r, _ => by
    cases r
    exact .nil
  | p :: ps, us, r, h => by
    cases r with
    | cons r1 r2 => exact .cons (h p _ (List.mem_cons_self ..) r1) (each_of r2 fun q u m => h q u (List.mem_cons_of_mem _ m))
theorem vals_each : ∀ {us : List Value} {ps : List (V × PyData)}, PySem.W.EachIs (fun (u : Value) (p : V × PyData) => RelV p.1 u) us ps → Vals (ps.map (·.1)) us
  | _, _, .nil => .nil
  | _, _, .cons r t => .cons r (vals_each t)
/-- the order of data -/
abbrev leD : (V × PyData) → (V × PyData) → Bool := PySem.W.dataLe false (fun p : V × PyData => p.2)
/-- these can be sorted -/
structure SortOk (ds : List PyData) : Prop where
  alike : PySem.W.AllAlike ds
  sortable : PySem.W.Sortable ds
  flat : ∀ d ∈ ds, d.depth ≤ 60
def rSortedD (K : PySem.W.Frag) : List V → Hp → VK → Prop := fun vs H Q => ∃ (a : Addr) (ps : List (V × PyData)), vs = [V.ref a] ∧ SqL K H a (ps.map (·.1)) ∧ (∀ p ∈ ps, Dp K H p.1 p.2) ∧ SortOk (ps.map (·.2)) ∧
  ∀ q, H q = none → Q (.ref q) (upd H q (.lst ((ps.mergeSort leD).map (·.1))))
theorem cr_sortedD {X : Cx} (hu : X.A.units + 64 < cLine) : CallR X (.builtin "sorted") (rSortedD X.K) := by
  intro pins s σ H vs us Q I r h
  obtain ⟨a, ps, rfl, hs, hd, ok, q⟩ := h
  obtain ⟨u, rfl, ru⟩ := vals1 r
  cases ru
  obtain ⟨its, rv, hl, hz⟩ := I.list hs
  have e := each_of (R := fun (u : Value) (p : V × PyData) => RelV p.1 u) rv (fun p u _ r => r)
  have er := each_of (R := fun (u : Value) (p : V × PyData) => ∃ as, Reads s.heap u p.2 as) rv (fun p u m r => Dp.reads I p.2 p.1 u (hd p m) r)
  have hz' : ps.length ≤ sizeLine := by rw [List.length_map] at hz; exact hz
  refine PySem.W.sorted_data (enc := fun p : V × PyData => p.2) hl.isList e er ok.alike ok.sortable hz' (fun p m => ?_) fun out _ eo => ?_
  · have := ok.flat p.2 (List.mem_map.mpr ⟨p, m, rfl⟩)
    omega
  · obtain ⟨ep, he'⟩ := PyProof.Rows.sortedAll_at s.heap its (List.toArray out)
    have hlen : ((ps.mergeSort leD).map (·.1)).length ≤ sizeLine := by
      rw [List.length_map, List.length_mergeSort]
      exact hz'
    exact ⟨.ref _, upd H (s.heap.objs.size + 1) (.lst ((ps.mergeSort leD).map (·.1))), I.laid (t' := s.toks) (fun _ _ => PyProof.Rows.sortedAll_old) (Nat.le_succ _) ⟨hlen, out, ep, vals_each eo, he'⟩, rfl, q _ (I.hok.fresh (Nat.le_succ _))⟩

/-! ### sorted(d), d a dict with tuple keys -/
def kD : Key → PyData
  | .inl i => .int i
  | .inr x => .str x
def keyD (k : List Key) : PyData := .tuple (k.map kD)
theorem dp_key {K : PySem.W.Frag} {H : Hp} : ∀ k : Key, Dp K H (kV k) (kD k)
  | .inl i => .int i
  | .inr x => .str x
theorem dp_keys {K : PySem.W.Frag} {H : Hp} : ∀ ks : List Key, DpAll K H (ks.map kV) (ks.map kD)
  | [] => .nil
  | k :: ks => .cons (dp_key k) (dp_keys ks)
theorem dp_tup {K : PySem.W.Frag} {H : Hp} {b : Addr} {k : List Key} (h : H b = some (.tup (k.map kV))) : Dp K H (.ref b) (keyD k) := .tup (.inl (.inl h)) (dp_keys k)
abbrev leK : (Addr × List Key) → (Addr × List Key) → Bool := PySem.W.dataLe false (fun p : Addr × List Key => keyD p.2)
def rSortedT : List V → Hp → VK → Prop := fun vs H Q => ∃ (d : Addr) (kvs : List (List Key × V)), vs = [V.ref d] ∧ H d = some (.dT kvs) ∧ SortOk (kvs.map fun kv => keyD kv.1) ∧
  ∀ q (zs : List (Addr × List Key)), H q = none → zs.map (·.2) = kvs.map (·.1) → (∀ z ∈ zs, H z.1 = some (.tup (z.2.map kV))) → Q (.ref q) (upd H q (.lst ((zs.mergeSort leK).map fun z => V.ref z.1)))
theorem cr_sortedT {X : Cx} (hc : X.calm = true) (hu : X.A.units + 64 < cLine) : CallR X (.builtin "sorted") rSortedT := by
  intro pins s σ H vs us Q I r h
  obtain ⟨d, kvs, rfl, hd, ok, q⟩ := h
  obtain ⟨u, rfl, ru⟩ := vals1 r
  cases ru
  obtain ⟨z, lo, ks, pr, o, es, ep, ho, hx, hdt, he, hn⟩ := I.hok d _ hd
  have l1 : es.size = ks.length := size_of_entries he
  have l2 : kvs.length = ks.length := Paired.length pr
  refine Calls.call_function_entry PyProof.Rows.kind_sorted PyProof.Rows.plain_sorted PyProof.Rows.entry_sorted (PyProof.Rows.args_sorted1 _) ?_
  unfold Builtin.«sorted»
  refine wpAny_bind (m := checkCount "sorted" 1 1 _) (wpAny_pure ?_)
  refine wpAny_bind (PySem.W.kdu_collect (A := X.A.in1) (kdl_raw lo hx hdt) (I.ok.hd hc) ho (by omega) fun h' tk acc hk it => ?_)
  have ea : acc.toList = ks.map fun x => Value.ref x.2.1 := by
    have hl : acc.toList.length = ks.length := by rw [Array.length_toList, it.1]; exact l1
    apply List.ext_getElem?
    intro j
    rw [List.getElem?_map]
    cases hj : acc.toList[j]? with
    | none =>
      have h1 := List.getElem?_eq_none_iff.mp hj
      rw [List.getElem?_eq_none (by omega)]
      rfl
    | some v =>
      obtain ⟨en, hen, hv⟩ := it.2 j v (by rw [← Array.getElem?_toList]; exact hj)
      have qe := entry_at he j
      rw [hen] at qe
      cases hb : ks[j]? with
      | none =>
        rw [hb] at qe
        cases qe
      | some b =>
        rw [hb] at qe
        have e2 : en = entryOfKey (tupleKind (mixKind X.prog X.w)) b := Option.some.inj qe
        rw [hv, e2]
        rfl
  -- the keys, each with its tuple's address
  obtain ⟨zs, hz1, hz2, hz3⟩ : ∃ zs : List (Addr × List Key), zs.map (·.2) = kvs.map (·.1) ∧ (∀ z ∈ zs, H z.1 = some (.tup (z.2.map kV))) ∧ zs.map (fun z => Value.ref z.1) = acc.toList := by
    rw [ea]
    clear ea it he hn l1 l2 q ok z hd
    induction pr with
    | nil => exact ⟨[], rfl, fun z m => absurd m (by simp), rfl⟩
    | cons h t ih =>
      obtain ⟨zs, a1, a2, a3⟩ := ih
      rename_i p q' _ _
      refine ⟨(q'.2.1, p.1) :: zs, by rw [List.map_cons, List.map_cons, a1], fun z m => ?_, by rw [List.map_cons, List.map_cons, a3]⟩
      rcases List.mem_cons.mp m with rfl | m
      · exact h.2.1
      · exact a2 z m
  have I1 : Inv X pins σ H { s with heap := h', toks := tk } := I.kept hk
  have hlz : zs.length = kvs.length := by
    have := congrArg List.length hz1
    rw [List.length_map, List.length_map] at this
    exact this
  have hla : acc.toList.length = zs.length := by rw [← hz3, List.length_map]
  have eachR : PySem.W.EachIs (fun (u : Value) (z : Addr × List Key) => u = .ref z.1) acc.toList zs := by
    rw [← hz3]
    clear hz1 hz2 hz3 hlz hla q
    induction zs with
    | nil => exact .nil
    | cons z zs ih => exact .cons rfl ih
  refine wpAny_bind (wpAny_newList ?_ (by omega))
  have hoL : (h'.push (seqObj "list" acc.toList.toArray 0)).get? h'.objs.size = some (seqObj "list" acc.toList.toArray 0) := Heap.get?_push_size _ rfl
  show wpAny _ _ _ _ _ { s with heap := h'.push (seqObj "list" acc.toList.toArray 0), toks := tk }
  -- what the keys read as, in the heap that is sorted in
  have rd : ∀ z ∈ zs, ∃ as, Reads (PySem.W.sortingHeap (h'.push (seqObj "list" acc.toList.toArray 0)) h'.objs.size acc.toList) (.ref z.1) (keyD z.2) as := fun z m => by
    obtain ⟨as, r⟩ := Dp.reads I1 (keyD z.2) (.ref z.1) (.ref z.1) (dp_tup (hz2 z m)) rfl
    exact ⟨as, PyProof.Rows.Reads.keeps (fun b o e => PySem.W.sortingHeap_old (Nat.ne_of_lt (Heap.lt_size e)) (Heap.get?_push_of_some _ e)) r⟩
  have hds : zs.map (fun z => keyD z.2) = kvs.map fun kv => keyD kv.1 := by
    have e1 : zs.map (fun z => keyD z.2) = (zs.map (·.2)).map keyD := by rw [List.map_map]; rfl
    have e2 : (kvs.map fun kv => keyD kv.1) = (kvs.map (·.1)).map keyD := by rw [List.map_map]; rfl
    rw [e1, e2, hz1]
  have er : PySem.W.EachIs (fun (u : Value) (z : Addr × List Key) => ∃ as, Reads (PySem.W.sortingHeap (h'.push (seqObj "list" acc.toList.toArray 0)) h'.objs.size acc.toList) u (keyD z.2) as) acc.toList zs :=
    (PySem.W.each_mem eachR).mono fun u z ⟨e, m⟩ => by
      rw [e]
      exact rd z m
  have S := PySem.W.SortsAt.data (prog := X.prog) (w := X.w) (A := X.A.in1.in1) (s := { s with heap := PySem.W.sortingHeap (h'.push (seqObj "list" acc.toList.toArray 0)) h'.objs.size acc.toList, toks := tk })
    (PySem.W.each_map (R := fun v d => ∃ as, Reads (PySem.W.sortingHeap (h'.push (seqObj "list" acc.toList.toArray 0)) h'.objs.size acc.toList) v d as) (fun z : Addr × List Key => keyD z.2) er) (by rw [hds]; exact ok.alike) (by rw [hds]; exact ok.sortable)
    (fun d m => by
      rw [hds] at m
      have := ok.flat d m
      show X.A.units + 2 + d.depth < cLine
      omega)
  refine wpAny_bind (wpAny_holding (wpAny_call_entry PyProof.Rows.slot_list_sort ⟨_, hoL, rfl⟩ PyProof.Rows.entry_list_sort
    (PySem.W.list_sort_vals (s := { s with heap := h'.push (seqObj "list" acc.toList.toArray 0), toks := tk }) hoL S (by omega) ⟨_, rfl, ?_⟩) (PyProof.Rows.args_list_sort _)))
  have eo := PySem.W.sortVals_data (enc := fun z : Addr × List Key => keyD z.2) false eachR er (by rw [hds]; exact ok.alike)
  generalize PySem.W.sortVals (PySem.W.dataKind (PySem.W.sortingHeap (h'.push (seqObj "list" acc.toList.toArray 0)) h'.objs.size acc.toList) (zs.map fun z => keyD z.2)) false acc.toList acc.toList = out at eo ⊢
  obtain ⟨e', he'⟩ := PyProof.Rows.sortedHeap_at (vs := acc.toList) (out := out.toArray) hoL
  have rvo : Vals ((zs.mergeSort leK).map fun z => V.ref z.1) out := by
    have w : ∀ {us : List Value} {ws : List (Addr × List Key)}, PySem.W.EachIs (fun (u : Value) (z : Addr × List Key) => u = .ref z.1) us ws → Vals (ws.map fun z => V.ref z.1) us := fun {us ws} h => by
      induction h with
      | nil => exact .nil
      | cons r _ ih => exact .cons r ih
    exact w eo
  have hlen : ((zs.mergeSort leK).map fun z => V.ref z.1).length ≤ sizeLine := by
    rw [List.length_map, List.length_mergeSort]
    omega
  refine wpAny_pure ⟨_, rfl, .ref h'.objs.size, upd H h'.objs.size (.lst ((zs.mergeSort leK).map fun z => V.ref z.1)), I1.laid (t' := tk) (fun b u e => ?_) (Nat.le_refl _)
    ⟨hlen, out, e', rvo, he'⟩, rfl, q _ zs (I1.hok.fresh (Nat.le_refl _)) hz1 hz2⟩
  have hb : b < h'.objs.size := Heap.lt_size e
  show (PyProof.Rows.sortedHeap (h'.push (seqObj "list" acc.toList.toArray 0)) h'.objs.size acc.toList out.toArray).get? b = some u
  rw [PyProof.Rows.sortedHeap_old (Nat.ne_of_lt hb) (by rw [size_push']; exact Nat.lt_succ_of_lt hb)]
  exact Heap.get?_push_of_some _ e
end Tk

set_option Elab.async false
set_option linter.all false
set_option maxRecDepth 100000
/-! Data of tuples alone: what stands at a value, kept by whatever keeps the tuples. -/
namespace Tk
open PySem PySem.Spec PyProof.Rows L2

mutual
/-- x reads as d, d without lists -/
inductive Td (H : Hp) : V → PyData → Prop
  | non : Td H .non .none
  | bl (b : Bool) : Td H (.bl b) (.bool b)
  | int (i : Int) : Td H (.int i) (.int i)
  | str (x : Str) : Td H (.str x) (.str x)
  | tup {a : Addr} {xs : List V} {ds : List PyData} : H a = some (.tup xs) → TdAll H xs ds → Td H (.ref a) (.tuple ds)
inductive TdAll (H : Hp) : List V → List PyData → Prop
  | nil : TdAll H [] []
  | cons {v : V} {vs : List V} {d : PyData} {ds : List PyData} : Td H v d → TdAll H vs ds → TdAll H (v :: vs) (d :: ds)
end
/-- the tuples are kept -/
def TK (H H' : Hp) : Prop := ∀ b xs, H b = some (.tup xs) → H' b = some (.tup xs)
theorem TK.refl (H : Hp) : TK H H := fun _ _ h => h
theorem TK.trans {H H1 H2 : Hp} (a : TK H H1) (b : TK H1 H2) : TK H H2 := fun c xs h => b c xs (a c xs h)
theorem TK.new {H : Hp} {p : Addr} {o : HO} (h : H p = none) : TK H (upd H p o) := fun b xs e => by
  rw [upd_ne (ne_of_none e h)]
  exact e
/-- an object that is no tuple is written -/
theorem TK.put {H : Hp} {p : Addr} {o u : HO} (h : H p = some u) (hu : ∀ xs, u ≠ .tup xs) : TK H (upd H p o) := fun b xs e => by
  rw [upd_ne (ne_of e h fun z => hu xs z.symm)]
  exact e
theorem TK.same {H H' : Hp} (h : Same H H') : TK H H' := fun b xs e => h b _ e
theorem TK.extN {H H' : Hp} (h : LamX.ExtN H H') : TK H H' := fun b xs e => h b _ e fun _ z => by cases z
mutual
theorem Td.mono {H H' : Hp} (k : TK H H') : ∀ {v : V} {d : PyData}, Td H v d → Td H' v d
  | _, _, .non => .non
  | _, _, .bl b => .bl b
  | _, _, .int i => .int i
  | _, _, .str x => .str x
  | _, _, .tup h r => .tup (k _ _ h) (TdAll.mono k r)
theorem TdAll.mono {H H' : Hp} (k : TK H H') : ∀ {vs : List V} {ds : List PyData}, TdAll H vs ds → TdAll H' vs ds
  | _, _, .nil => .nil
  | _, _, .cons r t => .cons (Td.mono k r) (TdAll.mono k t)
end
mutual
theorem Td.dp {K : PySem.W.Frag} {H : Hp} : ∀ {v : V} {d : PyData}, Td H v d → Dp K H v d
  | _, _, .non => .non
  | _, _, .bl b => .bl b
  | _, _, .int i => .int i
  | _, _, .str x => .str x
  | _, _, .tup h r => .tup (SqT.of h) (TdAll.dp r)
theorem TdAll.dp {K : PySem.W.Frag} {H : Hp} : ∀ {vs : List V} {ds : List PyData}, TdAll H vs ds → DpAll K H vs ds
  | _, _, .nil => .nil
  | _, _, .cons r t => .cons (Td.dp r) (TdAll.dp t)
end
section
variable {H : Hp} {v : V} {vs ws : List V} {d : PyData} {ds es : List PyData}
theorem Td.inv (h : Td H v (.tuple ds)) : ∃ a xs, v = .ref a ∧ H a = some (.tup xs) ∧ TdAll H xs ds := by
  cases h with
  | tup h r => exact ⟨_, _, rfl, h, r⟩
theorem Td.int_ {i : Int} (h : Td H v (.int i)) : v = .int i := by
  cases h
  rfl
theorem Td.str_ {x : Str} (h : Td H v (.str x)) : v = .str x := by
  cases h
  rfl
theorem Td.non_ (h : Td H v .none) : v = .non := by
  cases h
  rfl
theorem TdAll.length : ∀ {vs : List V} {ds : List PyData}, TdAll H vs ds → vs.length = ds.length
  | _, _, .nil => rfl
  | _, _, .cons _ t => by rw [List.length_cons, List.length_cons, TdAll.length t]
theorem TdAll.at_ : ∀ {vs : List V} {ds : List PyData} {i : Nat} {d : PyData}, TdAll H vs ds → ds[i]? = some d → ∃ x, vs[i]? = some x ∧ Td H x d
  | _, _, _, _, .nil, e => by simp at e
  | _, _, 0, _, .cons r _, e => by
    simp at e
    subst e
    exact ⟨_, rfl, r⟩
  | _, _, i + 1, _, .cons _ t, e => by
    obtain ⟨x, h1, h2⟩ := TdAll.at_ (i := i) t (by simpa using e)
    exact ⟨x, by simpa using h1, h2⟩
theorem TdAll.at' : ∀ {vs : List V} {ds : List PyData} {i : Nat} {x : V}, TdAll H vs ds → vs[i]? = some x → ∃ d, ds[i]? = some d ∧ Td H x d
  | _, _, _, _, .nil, e => by simp at e
  | _, _, 0, _, .cons r _, e => by
    simp at e
    subst e
    exact ⟨_, rfl, r⟩
  | _, _, i + 1, _, .cons _ t, e => by
    obtain ⟨x, h1, h2⟩ := TdAll.at' (i := i) t (by simpa using e)
    exact ⟨x, by simpa using h1, h2⟩
theorem TdAll.append : ∀ {vs ws : List V} {ds es : List PyData}, TdAll H vs ds → TdAll H ws es → TdAll H (vs ++ ws) (ds ++ es)
  | _, _, _, _, .nil, s => s
  | _, _, _, _, .cons r t, s => .cons r (TdAll.append t s)
theorem TdAll.snoc (a : TdAll H vs ds) (b : Td H v d) : TdAll H (vs ++ [v]) (ds ++ [d]) := a.append (.cons b .nil)
theorem TdAll.drop : ∀ (n : Nat) {vs : List V} {ds : List PyData}, TdAll H vs ds → TdAll H (vs.drop n) (ds.drop n)
  | 0, _, _, r => r
  | _ + 1, _, _, .nil => .nil
  | n + 1, _, _, .cons _ t => TdAll.drop n t
theorem TdAll.take : ∀ (n : Nat) {vs : List V} {ds : List PyData}, TdAll H vs ds → TdAll H (vs.take n) (ds.take n)
  | 0, _, _, _ => .nil
  | _ + 1, _, _, .nil => .nil
  | n + 1, _, _, .cons r t => .cons r (TdAll.take n t)
theorem tdInts : ∀ ns : List Int, TdAll H (ns.map V.int) (ns.map PyData.int)
  | [] => .nil
  | n :: ns => .cons (.int n) (tdInts ns)
theorem TdAll.ints_ : ∀ {vs : List V} {ns : List Int}, TdAll H vs (ns.map PyData.int) → vs = ns.map V.int
  | _, [], .nil => rfl
  | _, n :: ns, .cons r t => by
    rw [Td.int_ r, TdAll.ints_ t]
    rfl
theorem TdAll.cons_ (h : TdAll H vs (d :: ds)) : ∃ v ws, vs = v :: ws ∧ Td H v d ∧ TdAll H ws ds := by
  cases h with
  | cons a b => exact ⟨_, _, rfl, a, b⟩
theorem TdAll.one {a : PyData} (h : TdAll H vs [a]) : ∃ x, vs = [x] ∧ Td H x a := by
  cases h with
  | cons a t => cases t with
    | nil => exact ⟨_, rfl, a⟩
theorem TdAll.two {a b : PyData} (h : TdAll H vs [a, b]) : ∃ x y, vs = [x, y] ∧ Td H x a ∧ Td H y b := by
  cases h with
  | cons a t =>
    obtain ⟨_, rfl, b⟩ := t.one
    exact ⟨_, _, rfl, a, b⟩
theorem TdAll.three {a b c : PyData} (h : TdAll H vs [a, b, c]) : ∃ x y z, vs = [x, y, z] ∧ Td H x a ∧ Td H y b ∧ Td H z c := by
  cases h with
  | cons a t =>
    obtain ⟨_, _, rfl, b, c⟩ := t.two
    exact ⟨_, _, _, rfl, a, b, c⟩
theorem TdAll.four {a b c d : PyData} (h : TdAll H vs [a, b, c, d]) : ∃ x y z u, vs = [x, y, z, u] ∧ Td H x a ∧ Td H y b ∧ Td H z c ∧ Td H u d := by
  cases h with
  | cons a t =>
    obtain ⟨_, _, _, rfl, b, c, d⟩ := t.three
    exact ⟨_, _, _, _, rfl, a, b, c, d⟩
/-- two values that read as the same things -/
theorem TdAll.forall_ : ∀ {vs : List V} {ds : List PyData}, TdAll H vs ds → ∀ p ∈ vs.zip ds, Td H p.1 p.2
  | _, _, .nil, p, m => by simp at m
  | _, _, .cons r t, p, m => by
    rcases List.mem_cons.mp m with rfl | m
    · exact r
    · exact TdAll.forall_ t p m
theorem TdAll.of_zip : ∀ {ps : List (V × PyData)}, (∀ p ∈ ps, Td H p.1 p.2) → TdAll H (ps.map (·.1)) (ps.map (·.2))
  | [], _ => .nil
  | p :: ps, h => .cons (h p (List.mem_cons_self ..)) (TdAll.of_zip fun q m => h q (List.mem_cons_of_mem _ m))
end
/-- reading an item of a tuple -/
theorem q_ix {K : PySem.W.Frag} {H : Hp} {v : V} {ds : List PyData} {i : Nat} {d : PyData} {Q : VK} (h : Td H v (.tuple ds)) (hi : ds[i]? = some d) (k : ∀ x, Td H x d → Q x H) :
    rIxT K v (.int (i : Int)) H Q := by
  obtain ⟨a, xs, rfl, ha, r⟩ := h.inv
  obtain ⟨x, hx, hd⟩ := r.at_ hi
  exact ⟨a, xs, i, x, rfl, rfl, SqT.of ha, atI_nat hx, k x hd⟩
end Tk

set_option Elab.async false
set_option linter.all false
set_option maxRecDepth 100000
set_option maxHeartbeats 4000000
/-! Own rules of the layer: sorted(xs, key=lambda x: ..). -/
namespace Tk
open PySem PySem.Spec PyProof.Rows L2 LamX

/-! ### a lambda's body as a key -/
/-- the body, at a value that reads as d: all is kept, the key is kf d -/
def KeyBody (scope : Scope) (body : Expr) (x : Str) (C : PyData → Prop) (kf : PyData → PyData) : Prop :=
  ∀ (prog : Program) (w : World) (A : Around) (s : Shared) (env : Env) (m : Str → Option Value) (v : Value) (d : PyData) (as : List Addr),
    env.scope = scope → s.heap.Ns env.locals m → m x = some v → Reads s.heap v d as → C d →
    wpAny (model prog w) A (eval body env) (PySem.W.KeyPure (kf d) s) (fun _ _ => False) s
theorem reads_tup {h : Heap} {v : Value} {ds : List PyData} {as : List Addr} (r : Reads h v (.tuple ds) as) : ∃ (a : Addr) (its : List Value), v = .ref a ∧ IsTup h a its.toArray ∧ ReadsAll h its ds as := by
  cases r with
  | tuple h1 h2 h3 h4 =>
    rename_i a o vs n
    exact ⟨a, vs.toList, rfl, ⟨o, h1, h2, n, by rw [h3, Array.toArray_toList]⟩, h4⟩
theorem readsAll_at {h : Heap} : ∀ {its : List Value} {ds : List PyData} {as : List Addr} {j : Nat} {d : PyData}, ReadsAll h its ds as → ds[j]? = some d → ∃ u bs, its[j]? = some u ∧ Reads h u d bs
  | _, _, _, _, _, .nil, e => by simp at e
  | _, _, _, 0, _, .cons r _, e => by
    simp at e
    subst e
    exact ⟨_, _, rfl, r⟩
  | _, _, _, j + 1, _, .cons _ t, e => by
    obtain ⟨u, bs, h1, h2⟩ := readsAll_at (j := j) t (by simpa using e)
    exact ⟨u, bs, by simpa using h1, h2⟩
theorem reads_int {h : Heap} {v : Value} {i : Int} {as : List Addr} (r : Reads h v (.int i) as) : ∃ t, v = .int i t := by
  cases r
  exact ⟨_, rfl⟩
theorem reads_str {h : Heap} {v : Value} {x : Str} {as : List Addr} (r : Reads h v (.str x) as) : ∃ t, v = .str x t := by
  cases r
  exact ⟨_, rfl⟩
section
variable {prog : Program} {w : World} {A : Around} {E : Value → Shared → Prop} {s : Shared} {env : Env} {m : Str → Option Value}
/-- x[j], x a name of the frame that holds a tuple -/
theorem ev_item {x : Str} {p1 p2 p3 : Pos} {k j : Nat} {a : Addr} {its : List Value} {u : Value} {Q : Value → Shared → Prop} (hk : env.scope.kind = .function) (hl : env.scope.names.lookup x = some .local) (hn : s.heap.Ns env.locals m) (hm : m x = some (.ref a)) (ht : IsTup s.heap a its.toArray) (hx : its[j]? = some u) (hj : j < 100)
    (hd : (x == ("__debug__" : Str)) = false) (h : Q u { s with toks := s.toks + 1 }) : wpAny (model prog w) A (eval (.Subscript (.Name x p1) (.Constant (.int (j : Int)) k p2) p3) env) Q E s := by
  refine Subscript_ (wpAny_Name (wpAny_loadName_local hk hl hn hm ?_) hd)
  refine wpAny_Constant_int ?_
  have hlt : j < its.length := (List.getElem?_eq_some_iff.mp hx).1
  have hi : seqIndex? (j : Int) its.toArray.size = some j := by
    unfold seqIndex?
    simp
    omega
  exact subscriptTail_builtinR (x := u) (s := { s with toks := s.toks + 1 }) ht.typeIs slot_tuple_getitem.lookup (getItem_tuple (s := { s with toks := s.toks + 1 }) (j := j) (Q := fun r s' => r = u ∧ Q r s') ht (by omega) (by omega) hi (by simpa using hx) ⟨rfl, h⟩) (by rfl)
end

/-- lambda x: (x[j], x[k]): two whole numbers -/
def C2 (j k : Nat) (d : PyData) : Prop := ∃ ds a b, d = .tuple ds ∧ ds[j]? = some (.int a) ∧ ds[k]? = some (.int b)
def at2 (j k : Nat) (d : PyData) : PyData := match d with
  | .tuple ds => .tuple [ds.getD j .none, ds.getD k .none]
  | _ => .none
theorem key2 {scope : Scope} {x : Str} {p1 p2 p3 p4 p5 p6 p7 : Pos} {k1 k2 k3 j k : Nat} (hk : scope.kind = .function) (hl : scope.names.lookup x = some .local) (hd : (x == ("__debug__" : Str)) = false) (hj : j < 100) (hk' : k < 100)
    (hs : ∀ env, starEach [.Subscript (.Name x p1) (.Constant (.int (j : Int)) k1 p2) p3, .Subscript (.Name x p4) (.Constant (.int (k : Int)) k2 p5) p6] env =
      [(false, eval (.Subscript (.Name x p1) (.Constant (.int (j : Int)) k1 p2) p3) env), (false, eval (.Subscript (.Name x p4) (.Constant (.int (k : Int)) k2 p5) p6) env)]) :
    KeyBody scope (.Tuple [.Subscript (.Name x p1) (.Constant (.int (j : Int)) k1 p2) p3, .Subscript (.Name x p4) (.Constant (.int (k : Int)) k2 p5) p6] k3 p7) x (C2 j k) (at2 j k) := by
  intro prog w A s env m v d as he hn hm r c
  obtain ⟨ds, a, b, rfl, ha, hb⟩ := c
  obtain ⟨t, its, rfl, ht, hr⟩ := reads_tup r
  obtain ⟨u1, b1, e1, r1⟩ := readsAll_at hr ha
  obtain ⟨u2, b2, e2, r2⟩ := readsAll_at hr hb
  obtain ⟨t1, rfl⟩ := reads_int r1
  obtain ⟨t2, rfl⟩ := reads_int r2
  refine wpAny_Tuple_spliced ?_
  rw [hs env]
  refine Calls.spliced_cons (ev_item (by rw [he]; exact hk) (by rw [he]; exact hl) hn hm ht e1 hj hd ?_)
  refine Calls.spliced_cons (ev_item (s := { s with toks := s.toks + 1 }) (by rw [he]; exact hk) (by rw [he]; exact hl) hn hm ht e2 hk' hd ?_)
  refine Calls.spliced_nil ⟨by show 2 ≤ sizeLine; decide, _, _, rfl, fun b o e => Heap.get?_push_of_some _ e, ?_⟩
  have e3 : at2 j k (.tuple ds) = .tuple [.int a, .int b] := by
    show PyData.tuple [ds.getD j .none, ds.getD k .none] = _
    rw [List.getD_eq_getElem?_getD, List.getD_eq_getElem?_getD, ha, hb]
    rfl
  rw [e3]
  exact Reads.tuple (Heap.get?_push_size _ rfl) rfl rfl (ReadsAll.cons (as := []) (bs := []) (Reads.int a t1) (ReadsAll.cons (as := []) (bs := []) (Reads.int b t2) ReadsAll.nil))
/-- lambda x: x[:3]: a text and two whole numbers -/
def C3 (d : PyData) : Prop := ∃ x a b r, d = .tuple (.str x :: .int a :: .int b :: r) ∧ r ≠ [] ∧ r.length ≤ 100
def pre3 (d : PyData) : PyData := match d with
  | .tuple ds => .tuple (ds.take 3)
  | _ => .none
theorem key3 {scope : Scope} {x : Str} {p1 p2 p3 p4 : Pos} {k : Nat} (hk : scope.kind = .function) (hl : scope.names.lookup x = some .local) (hd : (x == ("__debug__" : Str)) = false) :
    KeyBody scope (.Subscript (.Name x p1) (.Slice none (some (.Constant (.int 3) k p2)) none p3) p4) x C3 pre3 := by
  intro prog w A s env m v d as he hn hm r c
  obtain ⟨z, a, b, ds, rfl, hne, hl100⟩ := c
  obtain ⟨t, its, rfl, ht, hr⟩ := reads_tup r
  obtain ⟨u0, b0, e0, r0⟩ := readsAll_at (j := 0) hr rfl
  obtain ⟨u1, b1, e1, r1⟩ := readsAll_at (j := 1) hr rfl
  obtain ⟨u2, b2, e2, r2⟩ := readsAll_at (j := 2) hr rfl
  obtain ⟨d0, ds', rfl⟩ := List.exists_cons_of_ne_nil hne
  obtain ⟨u3, b3, e3, r3⟩ := readsAll_at (j := 3) hr rfl
  obtain ⟨t0, rfl⟩ := reads_str r0
  obtain ⟨t1, rfl⟩ := reads_int r1
  obtain ⟨t2, rfl⟩ := reads_int r2
  have hlen : 4 ≤ its.length := (List.getElem?_eq_some_iff.mp e3).1
  have hl5 : its.length = (PyData.str z :: PyData.int a :: PyData.int b :: d0 :: ds').length := SeqAt.ReadsAll.length _ _ _ hr
  have hl6 : its.length ≤ 103 := by
    rw [hl5]
    simp at hl100 ⊢
    omega
  have hsz : its.toArray.size ≤ sizeLine := by
    rw [List.size_toArray, sizeLine_eq]
    omega
  have hl4 : 3 < its.toArray.size := by
    rw [List.size_toArray]
    omega
  refine Subscript_ (wpAny_Name (wpAny_loadName_local (by rw [he]; exact hk) (show env.scope.names.lookup x = some .local by rw [he]; exact hl) hn hm ?_) hd)
  refine wpAny_Slice (wpAny_pure ?_)
  show wpAny (model prog w) A (evalPart (some (.Constant (.int 3) k p2)) env) _ _ _
  rw [evalPart_some]
  refine wpAny_Constant_int (wpAny_pure ?_)
  have c1 : HT.sIx its.toArray.size 0 none = 0 := rfl
  have c2 : HT.sIx its.toArray.size its.toArray.size (some 3) = 3 := by
    have := HT.sIx_nat its.toArray.size its.toArray.size 3
    rw [show (3 : Int) = ((3 : Nat) : Int) from rfl, this]
    omega
  show wpAny (model prog w) A (subscriptTail (.Name x p1) (.Slice none (some (.Constant (.int 3) k p2)) none p3) (.ref t) (.ref s.heap.objs.size)) _ _ { s with heap := s.heap.push { cls := .type "slice", data := .fields #[.none, .int 3 s.toks, .none] }, toks := s.toks + 1 }
  have ht' : IsTup (s.heap.push { cls := .type "slice", data := .fields #[.none, .int 3 s.toks, .none] }) t its.toArray := ht.push _
  have hsl : (s.heap.push { cls := .type "slice", data := .fields #[.none, .int 3 s.toks, .none] }).IsSliceOf s.heap.objs.size .none (.int 3 s.toks) .none := Heap.IsSliceOf.new ..
  have hT : Shared.TypeIs { s with heap := s.heap.push { cls := .type "slice", data := .fields #[.none, .int 3 s.toks, .none] }, toks := s.toks + 1 } (.ref t) "tuple" := let ⟨o, ho, hc, _⟩ := ht'; ⟨o, ho, hc⟩
  refine tail_any (ops := [.ref s.heap.objs.size, .ref t]) hT PyProof.Rows.slot_tuple_getitem.lookup
    (HT.getItem_tuple_cut (lo := none) (hi := some 3) (items := its.toArray) ht' hsl .none (.int 3 _) (by rw [c1, c2]; omega) ?_ hsz) (by with_unfolding_all rfl)
  rw [c1, c2]
  have et : ((its.toArray.toList.drop 0).take (3 - 0)) = [.str z t0, .int a t1, .int b t2] := by
    simp only [List.drop_zero, Nat.sub_zero, List.toList_toArray]
    match its, e0, e1, e2 with
    | x0 :: x1 :: x2 :: l, e0, e1, e2 =>
      simp at e0 e1 e2
      simp [e0, e1, e2]
  rw [et]
  refine ⟨_, _, rfl, fun b o e => Heap.get?_push_of_some _ (Heap.get?_push_of_some _ e), ?_⟩
  exact Reads.tuple (Heap.get?_push_size _ rfl) rfl rfl (ReadsAll.cons (as := []) (bs := []) (Reads.str z t0) (ReadsAll.cons (as := []) (bs := []) (Reads.int a t1) (ReadsAll.cons (as := []) (bs := []) (Reads.int b t2) ReadsAll.nil)))

/-! ### sorted(xs, key=lambda x: ..) -/
abbrev leF (kf : PyData → PyData) : (V × PyData) → (V × PyData) → Bool := PySem.W.dataLe false (fun p : V × PyData => kf p.2)
def tSortLam (T : List (Addr × Str)) (K : PySem.W.Frag) (te : TE) (C : PyData → Prop) (kf : PyData → PyData) : TE := fun σ H Q => te σ H fun y H1 => ∃ (a : Addr) (ps : List (V × PyData)), y = .ref a ∧ SqL K H1 a (ps.map (·.1)) ∧ Tabs T H1 ∧
  (∀ p ∈ ps, Td H1 p.1 p.2 ∧ C p.2) ∧ SortOk (ps.map fun p => kf p.2) ∧ ∀ H2 q, ExtN H1 H2 → Tabs T H2 → H2 q = none → Q (.ref q) (upd H2 q (.lst ((ps.mergeSort (leF kf)).map (·.1))))
structure LamOk (scope : Scope) (x : Str) : Prop where
  kind : scope.kind = .function
  co : scope.isCoroutine = false
  gen : scope.isGenerator = false
  loc : scope.names.lookup x = some .local
  own : ∀ y ∈ scope.names, y.2 ≠ .cell ∧ y.2 ≠ .free
theorem sqL_extN {K : PySem.W.Frag} {H H' : Hp} {a : Addr} {xs : List V} (e : ExtN H H') (h : SqL K H a xs) : SqL K H' a xs := by
  rcases h with (h | ⟨o, h⟩) | h
  · exact .inl (.inl (e _ _ h fun _ z => by cases z))
  · exact .inl (.inr ⟨o, e _ _ h fun _ z => by cases z⟩)
  · exact .inr h
theorem pe_sortedLam {X : Cx} {T : List (Addr × Str)} {c P : Addr} {params : Arguments} {body : Expr} {scope : Scope} {x : Str} {e : Expr} {te : TE} {C : PyData → Prop} {kf : PyData → PyData} {p lpos kpos pos : Pos}
    (hg : Gl X "sorted") (hm : X.mg "sorted" = none) (he : PE X e te) (TB : TabB X.base X.mg c P) (hcode : X.env.code = .ref c) (hmT : (P, X.env.qual ++ "<lambda>") ∈ T) (hu : ∀ p ∈ T, p.1 = P → p.2 = X.env.qual ++ "<lambda>") (hr : Room 1 X.A)
    (hdef : defaultsOf params X.env = ([], [])) (L : LamOk scope x)
    (hbind : ∀ (q : Str) (cl : List (Str × Addr)) (pm cv ctv u : Value), bindArgs (PySem.W.kla_fn "<lambda>" q params body scope cl pm cv ctv) ⟨[u], []⟩ = pure [(x, u)]) (hB : KeyBody scope body x C kf)
    (hse : starEach [e] X.env = [(false, eval e X.env)] := by rfl) (hplain : (backTo pos (starEach [e] X.env)).any (·.1) = false := by rfl) :
    PE X (.Call (.Name "sorted" p) [e] [⟨some "key", .Lambda params body scope lpos, kpos⟩] pos) (tSortLam T X.K te C kf) := by
  refine ⟨fun pins s σ H Q I h => ?_⟩
  refine wpAny_Call_Name_kw (ld_blt I hg hm PyProof.Rows.boot_sorted ?_)
  refine PyProof.Rows.callWith_kw ?_ (by rw [hse]; rfl) hplain rfl rfl
  rw [hse]
  show wpAny _ _ (spliced [(false, eval e X.env)]) _ _ s
  refine Calls.spliced_cons (thn (he.run pins s σ H _ I h) fun u s1 ⟨y, H1, I1, r1, q1⟩ => Calls.spliced_nil ?_)
  obtain ⟨a, ps, rfl, hs, hT, hd, ok, q⟩ := q1
  cases r1
  show wpAny _ _ (evalAll ((do let v ← eval (.Lambda params body scope lpos) X.env; standAt pos; pure v) :: (backToKw pos (keywordEach [] X.env)).map (·.2))) _ _ s1
  refine wpAny_evalAll_cons (wpAny_bind (lam_make2 I1 TB hcode hmT hu hT hdef (fun y hy hf => absurd hf (L.own y hy).2) fun f c' pm ctv H2 s2 I2 eN T2 hf hfn hfr hco => ?_))
  refine wpAny_bind (wpAny_standAt (wpAny_pure ?_))
  refine wpAny_evalAll_nil ?_
  show wpAny _ _ (call (.builtin "sorted") [.ref a] [(Str.ofString "key", .ref f)]) _ _ s2
  have hs2 := sqL_extN eN hs
  have tk2 := TK.extN eN
  obtain ⟨its, rv, hl, hz⟩ := I2.list hs2
  have hz' : ps.length ≤ sizeLine := by rw [List.length_map] at hz; exact hz
  have e2 := each_of (R := fun (u : Value) (p : V × PyData) => RelV p.1 u ∧ ∃ as, Reads s2.heap u p.2 as) rv (fun p u m r => ⟨r, Dp.reads I2 p.2 p.1 u ((hd p m).1.mono tk2).dp r⟩)
  obtain ⟨⟨oc, cvs, ct, hoc, hdc, hvc⟩, _, _⟩ := I2.hok c' _ hco
  refine PySem.W.sorted_key_data (β := V × PyData) (b := false) (fun p => kf p.2) hl.isList e2 ok.alike ok.sortable hz' (fun p m => ?_) (PyProof.Rows.ksk_s1 _ _) (fun _ => PyProof.Rows.ksk_l1 _ _) (fun _ => PyProof.Rows.ksk_t1 _ _) (fun v p ⟨rp, as, rd⟩ m h tk kp => ?_) fun out c h' tk kp fr hD _ eo => ?_
  · have h1 := ok.flat (kf p.2) (List.mem_map.mpr ⟨p, m, rfl⟩)
    have h2 := hr.un
    omega
  · -- the lambda's call
    refine wpAny_call ?_
    refine PySem.W.kla_callFunE (s := { s2 with heap := h, toks := tk }) (show X.A.depth < recursionLimit by have := hr.dp; omega) (kp _ _ hf) rfl L.co L.gen rfl ⟨c', oc, cvs, ct, rfl, kp _ _ hoc, hdc, hvc⟩ ?_
    rw [hbind]
    refine wpAny_pure (wpAny_newFunctionEnv (fun y hy => (L.own y hy).1) (fun y hy => ?_) (fun h₁ hns hsb => ⟨?_, ?_⟩) L.kind)
    · rw [List.mem_singleton.mp hy]
      exact L.loc
    · exact (I2.nolimit.keeps kp).fresh _ hsb
    · have kh : ∀ b o, h.get? b = some o → h₁.get? b = some o := fun b o e => hsb.extBut b o (Nat.ne_of_lt (Heap.lt_size e)) (Heap.get?_push_of_some _ e)
      refine PySem.W.kla_codeExpr (wpAny_mono (hB X.prog X.w _ { s2 with heap := h₁, toks := tk + [(x, v)].length } _ _ v p.2 as rfl hns (by simp) (PyProof.Rows.Reads.keeps (fun b o e => kh b o (kp b o e)) rd) (hd p m).2) (fun u s' hq => ?_) fun e s' hq => hq.elim)
      obtain ⟨h3, t3, rfl, k3, r3⟩ := hq
      exact ⟨h3, t3, rfl, fun b o e => k3 b o (kh b o e), r3⟩
  · -- the list that came
    have hlen : ((ps.mergeSort (leF kf)).map (·.1)).length ≤ sizeLine := by
      rw [List.length_map, List.length_mergeSort]
      exact hz'
    exact ⟨.ref _, upd H2 (s2.heap.objs.size + 1) (.lst ((ps.mergeSort (leF kf)).map (·.1))), I2.laid (t' := tk) kp (Nat.le_succ _) ⟨hlen, out, c, vals_each (eo.mono fun _ _ z => z.1), hD⟩, rfl, q H2 _ eN T2 (I2.hok.fresh (Nat.le_succ _))⟩
theorem key2' (j k : Nat) {scope : Scope} {x : Str} {n m : Int} {p1 p2 p3 p4 p5 p6 p7 : Pos} {k1 k2 k3 : Nat} (hn : n = (j : Int) := by rfl) (hm : m = (k : Int) := by rfl) (hj : j < 100 := by decide) (hk' : k < 100 := by decide)
    (hk : scope.kind = .function := by rfl) (hl : scope.names.lookup x = some .local := by rfl) (hd : (x == ("__debug__" : Str)) = false := by decide)
    (hs : ∀ env, starEach [.Subscript (.Name x p1) (.Constant (.int n) k1 p2) p3, .Subscript (.Name x p4) (.Constant (.int m) k2 p5) p6] env =
      [(false, eval (.Subscript (.Name x p1) (.Constant (.int n) k1 p2) p3) env), (false, eval (.Subscript (.Name x p4) (.Constant (.int m) k2 p5) p6) env)] := by intro _; rfl) :
    KeyBody scope (.Tuple [.Subscript (.Name x p1) (.Constant (.int n) k1 p2) p3, .Subscript (.Name x p4) (.Constant (.int m) k2 p5) p6] k3 p7) x (C2 j k) (at2 j k) := by
  subst hn hm
  exact key2 hk hl hd hj hk' hs
theorem key3' {scope : Scope} {x : Str} {p1 p2 p3 p4 : Pos} {k : Nat} (hk : scope.kind = .function := by rfl) (hl : scope.names.lookup x = some .local := by rfl) (hd : (x == ("__debug__" : Str)) = false := by decide) :
    KeyBody scope (.Subscript (.Name x p1) (.Slice none (some (.Constant (.int 3) k p2)) none p3) p4) x C3 pre3 := key3 hk hl hd
end Tk

set_option Elab.async false
set_option linter.all false
set_option maxRecDepth 100000
set_option maxHeartbeats 2000000
/-! What expressions evaluate to, as data of tuples: from any heap that keeps the tuples, keeping all. -/
namespace Tk
open PySem PySem.Spec PyProof.Rows L2

def DE (te : TE) (σ : L2.St) (H : Hp) (d : PyData) : Prop := ∀ H1, Same H H1 → ∀ Q : VK, (∀ v H2, Same H1 H2 → Td H2 v d → Q v H2) → te σ H1 Q
def DT (tt : TT) (σ : L2.St) (H : Hp) (b : Bool) : Prop := ∀ H1, Same H H1 → ∀ Q : Bool → Hp → Prop, (∀ H2, Same H1 H2 → Q b H2) → tt σ H1 Q
def DA (ta : TA) (σ : L2.St) (H : Hp) (ds : List PyData) : Prop := ∀ H1, Same H H1 → ∀ Q : List V → Hp → Prop, (∀ vs H2, Same H1 H2 → TdAll H2 vs ds → Q vs H2) → ta σ H1 Q
/-- a new list -/
def DL (te : TE) (σ : L2.St) (H : Hp) (ds : List PyData) : Prop := ∀ H1, Same H H1 → ∀ Q : VK, (∀ p xs H2, H1 p = none → Same H1 H2 → H2 p = some (.lst xs) → TdAll H2 xs ds → Q (.ref p) H2) → te σ H1 Q
/-- what came since H and the tuples, kept from H2 on -/
def FK (H H2 H' : Hp) : Prop := ∀ b o, H2 b = some o → (H b = none ∨ ∃ xs, o = .tup xs) → H' b = some o
/-- an iterator made at H1 that gives ds, one behind another -/
def GI (J : It) (H1 H : Hp) (ds : List PyData) : Prop := ∃ G : Hp → Prop, Walk J ds.length G (fun i H x H' => Same H H' ∧ ∃ d, ds[i]? = some d ∧ Td H' x d) ∧ ∀ H', FK H1 H H' → G H'
def DI (wi : TI) (σ : L2.St) (H : Hp) (ds : List PyData) : Prop := ∀ H1, Same H H1 → ∀ R : It → Hp → Prop, (∀ J H2, Same H1 H2 → GI J H1 H2 ds → R J H2) → wi σ H1 R
theorem FK.of {H H2 H' : Hp} (s : Same H2 H') : FK H H2 H' := fun b o e _ => s b o e
theorem FK.tk {H H2 H' : Hp} (s : FK H H2 H') : TK H2 H' := fun b xs e => s b _ e (.inr ⟨xs, rfl⟩)

section
variable {K : PySem.W.Frag} {σ : L2.St} {H H' : Hp} {ta tb te : TE} {d e : PyData} {ds es : List PyData} {v : V}
theorem same_new {p : Addr} {o : HO} (h : H p = none) : Same H (upd H p o) := fun b x e => by
  rw [upd_ne (ne_of_none e h)]
  exact e
theorem TK.s {H H1 H2 : Hp} (a : TK H H1) (b : Same H1 H2) : TK H H2 := a.trans (.same b)
theorem DE.mono (k : Same H H') (h : DE te σ H d) : DE te σ H' d := fun H1 k1 => h H1 (k.trans k1)
theorem DE.to (h : DE te σ H d) (e : d = d') : DE te σ H d' := e ▸ h
theorem DL.to (h : DL te σ H ds) (e : ds = ds') : DL te σ H ds' := e ▸ h
theorem DT.to {tt : TT} {b c : Bool} (h : DT tt σ H b) (e : b = c) : DT tt σ H c := e ▸ h
theorem DE.at_ (h : DE te σ H d) {Q : VK} (q : ∀ v H2, Same H H2 → Td H2 v d → Q v H2) : te σ H Q := h H (Same.refl H) Q q
theorem DL.at_ (h : DL te σ H ds) {Q : VK} (q : ∀ p xs H2, H p = none → Same H H2 → H2 p = some (.lst xs) → TdAll H2 xs ds → Q (.ref p) H2) : te σ H Q := h H (Same.refl H) Q q
theorem DT.at_ {tt : TT} {b : Bool} (h : DT tt σ H b) {Q : Bool → Hp → Prop} (q : ∀ H2, Same H H2 → Q b H2) : tt σ H Q := h H (Same.refl H) Q q
theorem DI.at_ {wi : TI} (h : DI wi σ H ds) {R : It → Hp → Prop} (q : ∀ J H2, Same H H2 → GI J H H2 ds → R J H2) : wi σ H R := h H (Same.refl H) R q
theorem de_var {i : Nat} (h : σ[i]? = some (some v)) (t : Td H v d) : DE (tVar i) σ H d := fun H1 k Q q => ⟨v, h, q v H1 (Same.refl _) (t.mono (.same k))⟩
theorem de_int {i : Int} : DE (tC (.int i)) σ H (.int i) := fun H1 _ Q q => q _ H1 (Same.refl _) (.int i)
theorem de_str {x : Str} : DE (tC (.str x)) σ H (.str x) := fun H1 _ Q q => q _ H1 (Same.refl _) (.str x)
theorem de_non : DE (tC .non) σ H .none := fun H1 _ Q q => q _ H1 (Same.refl _) .non
theorem de_bl {b : Bool} : DE (tC (.bl b)) σ H (.bool b) := fun H1 _ Q q => q _ H1 (Same.refl _) (.bl b)
theorem de_op {r : R2} (ha : DE ta σ H d) (hb : DE tb σ H e) {c : PyData} (hr : ∀ x y H2, Same H H2 → Td H2 x d → Td H2 y e → ∀ Q : VK, (∀ v H3, Same H2 H3 → Td H3 v c → Q v H3) → r x y H2 Q) : DE (tOp r ta tb) σ H c := fun H1 k Q q =>
  ha H1 k _ fun x H2 s2 t2 => hb H2 (k.trans s2) _ fun y H3 s3 t3 => hr x y H3 ((k.trans s2).trans s3) (t2.mono (.same s3)) t3 Q fun v H4 s4 t4 => q v H4 ((s2.trans s3).trans s4) t4
theorem de_I0 {g : Int → Int → V} {i j : Int} {c : PyData} (ha : DE ta σ H (.int i)) (hb : DE tb σ H (.int j)) (hc : ∀ H, Td H (g i j) c := by first | exact fun _ => .int _ | exact fun _ => .bl _) : DE (tOp (rI0 g) ta tb) σ H c :=
  de_op ha hb fun x y H2 _ tx ty Q q => ⟨i, j, tx.int_, ty.int_, q _ H2 (Same.refl _) (hc _)⟩
theorem de_I {C : Int → Int → Prop} {g : Int → Int → V} {i j : Int} {c : PyData} (ha : DE ta σ H (.int i)) (hb : DE tb σ H (.int j)) (hC : C i j) (hc : ∀ H, Td H (g i j) c := by first | exact fun _ => .int _ | exact fun _ => .bl _) : DE (tOp (rI C g) ta tb) σ H c :=
  de_op ha hb fun x y H2 _ tx ty Q q => ⟨i, j, tx.int_, ty.int_, hC, q _ H2 (Same.refl _) (hc _)⟩
theorem Td.bool_ {b : Bool} (h : Td H v (.bool b)) : v = .bl b := by
  cases h
  rfl
/-- equality of what is alike and plain -/
theorem de_eqI {i j : Int} (ha : DE ta σ H (.int i)) (hb : DE tb σ H (.int j)) : DE (tOp rEq ta tb) σ H (.bool (decide (i = j))) :=
  de_op ha hb fun x y H2 _ tx ty Q q => by
    rw [tx.int_, ty.int_]
    refine ⟨rfl, ?_⟩
    have e : decide (V.int i = V.int j) = decide (i = j) := by simp
    rw [e]
    exact q _ H2 (Same.refl _) (.bl _)
theorem de_eqS {i j : Str} (ha : DE ta σ H (.str i)) (hb : DE tb σ H (.str j)) : DE (tOp rEq ta tb) σ H (.bool (decide (i = j))) :=
  de_op ha hb fun x y H2 _ tx ty Q q => by
    rw [tx.str_, ty.str_]
    refine ⟨rfl, ?_⟩
    have e : decide (V.str i = V.str j) = decide (i = j) := by simp
    rw [e]
    exact q _ H2 (Same.refl _) (.bl _)
theorem de_neS {i j : Str} (ha : DE ta σ H (.str i)) (hb : DE tb σ H (.str j)) : DE (tOp rNe ta tb) σ H (.bool (!decide (i = j))) :=
  de_op ha hb fun x y H2 _ tx ty Q q => by
    rw [tx.str_, ty.str_]
    refine ⟨rfl, ?_⟩
    have e : decide (V.str i = V.str j) = decide (i = j) := by simp
    rw [e]
    exact q _ H2 (Same.refl _) (.bl _)
theorem de_neI {i j : Int} (ha : DE ta σ H (.int i)) (hb : DE tb σ H (.int j)) : DE (tOp rNe ta tb) σ H (.bool (!decide (i = j))) :=
  de_op ha hb fun x y H2 _ tx ty Q q => by
    rw [tx.int_, ty.int_]
    refine ⟨rfl, ?_⟩
    have e : decide (V.int i = V.int j) = decide (i = j) := by simp
    rw [e]
    exact q _ H2 (Same.refl _) (.bl _)
/-- t[i] -/
theorem de_ix {i : Nat} (ha : DE ta σ H (.tuple ds)) (hb : DE tb σ H (.int (i : Int))) (hi : ds[i]? = some d) : DE (tOp (rIxT K) ta tb) σ H d :=
  de_op ha hb fun x y H2 _ tx ty Q q => by
    rw [ty.int_]
    exact q_ix tx hi fun x t => q x H2 (Same.refl _) t
theorem de_ixZ {i : Int} (ha : DE ta σ H (.tuple ds)) (hb : DE tb σ H (.int i)) (h0 : 0 ≤ i) (hi : ds[i.toNat]? = some d) : DE (tOp (rIxT K) ta tb) σ H d :=
  de_ix (i := i.toNat) ha (by rw [Int.toNat_of_nonneg h0]; exact hb) hi
theorem da_nil : DA tNil σ H [] := fun H1 _ Q q => q [] H1 (Same.refl _) .nil
theorem da_cons {t : TA} (ha : DE ta σ H d) (ht : DA t σ H ds) : DA (tCons ta t) σ H (d :: ds) := fun H1 k Q q =>
  ha H1 k _ fun x H2 s2 t2 => ht H2 (k.trans s2) _ fun xs H3 s3 t3 => q _ H3 (s2.trans s3) (.cons (t2.mono (.same s3)) t3)
theorem de_tup {t : TA} (h : DA t σ H ds) (hl : ds.length ≤ 10000 := by simp) : DE (tTup t) σ H (.tuple ds) := fun H1 k Q q =>
  h H1 k _ fun xs H2 s2 t2 => ⟨by rw [t2.length]; exact Nat.le_trans hl (by decide), fun p hp => q _ _ (s2.trans (same_new hp)) (.tup upd_same (t2.mono (.new hp)))⟩
theorem dl_lst {t : TA} (h : DA t σ H ds) (hl : ds.length ≤ 10000 := by simp) : DL (tLst t) σ H ds := fun H1 k Q q =>
  h H1 k _ fun xs H2 s2 t2 => ⟨by rw [t2.length]; exact Nat.le_trans hl (by decide), fun p hp => q p xs _ (s2.free hp) (s2.trans (same_new hp)) upd_same (t2.mono (.new hp))⟩
/-- the items of a slice -/
def cutD (ds : List PyData) (lo hi : Option Int) : List PyData := (ds.drop (HT.sIx ds.length 0 lo)).take (HT.sIx ds.length ds.length hi - HT.sIx ds.length 0 lo)
theorem de_cut {lo hi : Option Int} {tl th : TO} (ha : DE ta σ H (.tuple ds)) (hl : ∀ H1 (Q : Option Int → Hp → Prop), Same H H1 → (∀ H2, Same H1 H2 → Q lo H2) → tl σ H1 Q) (hh : ∀ H1 (Q : Option Int → Hp → Prop), Same H H1 → (∀ H2, Same H1 H2 → Q hi H2) → th σ H1 Q) :
    DE (tSl (rSlA K) ta tl th) σ H (.tuple (cutD ds lo hi)) := fun H1 k Q q =>
  ha H1 k _ fun x H2 s2 t2 => hl H2 _ (k.trans s2) fun H3 s3 => hh H3 _ ((k.trans s2).trans s3) fun H4 s4 => by
    obtain ⟨a, xs, rfl, hx, r⟩ := (t2.mono (.same (s3.trans s4))).inv
    have s := (s2.trans s3).trans s4
    have el := r.length
    refine ⟨a, xs, rfl, .of hx, fun w => ?_, fun w p hp => ?_⟩
    · refine q _ _ s (.tup hx ?_)
      have e : cutD ds lo hi = ds := by
        unfold cutD
        rw [← el, w.1, w.2, el]
        simp
      rw [e]
      exact r
    · refine q _ _ (s.trans (same_new hp)) (.tup upd_same ?_)
      refine TdAll.mono (.new hp) ?_
      unfold cutV cutD
      rw [el]
      exact (r.drop _).take _
theorem po_n : ∀ H1 (Q : Option Int → Hp → Prop), Same H H1 → (∀ H2, Same H1 H2 → Q none H2) → tNoPart σ H1 Q := fun H1 Q _ q => q H1 (Same.refl _)
theorem po_i {t : TE} {i : Int} (h : DE t σ H (.int i)) : ∀ H1 (Q : Option Int → Hp → Prop), Same H H1 → (∀ H2, Same H1 H2 → Q (some i) H2) → tPart t σ H1 Q := fun H1 Q k q => h H1 k _ fun v H2 s2 t2 => ⟨i, t2.int_, q H2 s2⟩
theorem de_catT (ha : DE ta σ H (.tuple ds)) (hb : DE tb σ H (.tuple es)) (hl : ds.length + es.length ≤ sizeLine) : DE (tOp (rCatA K) ta tb) σ H (.tuple (ds ++ es)) :=
  de_op ha hb fun x y H2 _ tx ty Q q => by
    obtain ⟨a, xs, rfl, hx, rx⟩ := tx.inv
    obtain ⟨b, ys, rfl, hy, ry⟩ := ty.inv
    refine ⟨a, b, xs, ys, rfl, rfl, .of hx, .of hy, by rw [rx.length, ry.length]; exact hl, fun e => ?_, fun e e' => ?_, fun e e' p hp => ?_⟩
    · subst e
      cases rx
      exact q _ _ (Same.refl _) (.tup hy ry)
    · subst e'
      cases ry
      exact q _ _ (Same.refl _) (.tup hx (by rw [List.append_nil]; exact rx))
    · exact q _ _ (same_new hp) (.tup upd_same ((rx.append ry).mono (.new hp)))
/-- an int or None -/
def oI : Option Int → PyData
  | none => .none
  | some i => .int i
/-! tests -/
theorem dt_test {b : Bool} (h : DE te σ H (.bool b)) : DT (tTest te) σ H b := fun H1 k Q q => h H1 k _ fun v H2 s2 t2 => ⟨b, t2.bool_, q H2 s2⟩
theorem dt_B {b : Bool} (h : DE te σ H (.bool b)) : DT (tB te) σ H b := fun H1 k Q q => h H1 k _ fun v H2 s2 t2 => ⟨b, t2.bool_, q H2 s2⟩
theorem dt_yes : DT tYes σ H true := fun H1 _ Q q => q H1 (Same.refl _)
theorem dt_not {tt : TT} {b : Bool} (h : DT tt σ H b) : DT (tNot tt) σ H (!b) := fun H1 k Q q => h H1 k _ fun H2 s2 => q H2 s2
theorem dt_and {tt uu : TT} {a b : Bool} (h : DT tt σ H a) (h2 : a = true → DT uu σ H b) : DT (tAnd tt uu) σ H (a && b) := fun H1 k Q q => h H1 k _ fun H2 s2 => by
  cases a with
  | true =>
    show uu σ H2 Q
    exact h2 rfl H2 (k.trans s2) Q fun H3 s3 => q H3 (s2.trans s3)
  | false => exact q H2 s2
theorem dt_or {tt uu : TT} {a b : Bool} (h : DT tt σ H a) (h2 : a = false → DT uu σ H b) : DT (tOr tt uu) σ H (a || b) := fun H1 k Q q => h H1 k _ fun H2 s2 => by
  cases a with
  | true => exact q H2 s2
  | false =>
    show uu σ H2 Q
    exact h2 rfl H2 (k.trans s2) Q fun H3 s3 => q H3 (s2.trans s3)
/-- x in (t1, t2, ..): data -/
theorem td_ints {ns : List Int} : TdAll H (ns.map V.int) (ns.map PyData.int) := tdInts ns
theorem de_in (ha : DE ta σ H d) (hb : DE tb σ H (.tuple ds)) (sd : SeqAt.shaped d = true := by rfl) (se : SeqAt.shaped (.tuple ds) = true := by rfl) : DE (tOp (rInDT K) ta tb) σ H (.bool (ds.any fun z => PyData.eqv z d)) :=
  de_op ha hb fun x y H2 _ tx ty Q q => ⟨d, ds, tx.dp, ty.dp, sd, se, q _ _ (Same.refl _) (.bl _)⟩
theorem de_eqD (ha : DE ta σ H d) (hb : DE tb σ H e) (sd : SeqAt.shaped d = true := by rfl) (se : SeqAt.shaped e = true := by rfl) : DE (tOp (rEqD K) ta tb) σ H (.bool (PyData.eqv d e)) :=
  de_op ha hb fun x y H2 _ tx ty Q q => ⟨d, e, tx.dp, ty.dp, sd, se, q _ _ (Same.refl _) (.bl _)⟩
theorem de_ltD (ha : DE ta σ H d) (hb : DE tb σ H e) (al : PySem.W.alike d e = true) (nn : d ≠ .none) (dp : d.depth ≤ 64) : DE (tOp (rLtD K) ta tb) σ H (.bool (PySem.W.dataLt d e)) :=
  de_op ha hb fun x y H2 _ tx ty Q q => ⟨d, e, tx.dp, ty.dp, al, nn, dp, q _ _ (Same.refl _) (.bl _)⟩
theorem de_isN {i : Option Int} (ha : DE ta σ H (oI i)) : DE (tOp (fun x y H Q => y = .non ∧ Q (.bl (!decide (x = .non))) H) ta (tC .non)) σ H (.bool i.isSome) := fun H1 k Q q =>
  ha H1 k _ fun x H2 s2 t2 => ⟨rfl, by
    cases i with
    | none =>
      rw [Td.non_ t2]
      exact q _ _ s2 (.bl false)
    | some i =>
      rw [Td.int_ t2]
      exact q _ _ s2 (.bl true)⟩
/-! calls -/
def spF (M : List PyData → PyData → Prop) : Sp := fun vs H Q _ => ∃ ds r, M ds r ∧ TdAll H vs ds ∧ ∀ v H', Same H H' → Td H' v r → Q v H'
def spL (M : List PyData → List PyData → Prop) : Sp := fun vs H Q _ => ∃ ds r, M ds r ∧ TdAll H vs ds ∧ ∀ p xs H', H p = none → Same H H' → H' p = some (.lst xs) → TdAll H' xs r → Q (.ref p) H'
theorem de_call {M : List PyData → PyData → Prop} {E : XK} {t : TA} (h : DA t σ H ds) (hM : M ds d) : DE (tCall (spF M) [] E t) σ H d := fun H1 k Q q =>
  h H1 k _ fun vs H2 s2 t2 => by
    rw [List.append_nil]
    exact ⟨ds, d, hM, t2, fun v H' s t => q v H' (s2.trans s) t⟩
theorem dl_call {M : List PyData → List PyData → Prop} {E : XK} {t : TA} (h : DA t σ H ds) (hM : M ds es) : DL (tCall (spL M) [] E t) σ H es := fun H1 k Q q =>
  h H1 k _ fun vs H2 s2 t2 => by
    rw [List.append_nil]
    exact ⟨ds, es, hM, t2, fun p xs H' n s e t => q p xs H' (s2.free n) (s2.trans s) e t⟩
/-! what takes a new list -/
theorem de_tupOf (h : DL te σ H ds) : DE (tThen te (kTup K)) σ H (.tuple ds) := fun H1 k Q q =>
  h H1 k _ fun p xs H2 n s2 e t => .inl ⟨p, xs, rfl, .of e, fun l hl => q _ _ (s2.trans (same_new hl)) (.tup upd_same (t.mono (.new hl)))⟩
theorem de_sum {ns : List Int} (h : DL te σ H (ns.map PyData.int)) : DE (tCB (rSum K) (tCons te tNil)) σ H (.int ns.sum) := fun H1 k Q q =>
  h H1 k _ fun p xs H2 n s2 e t => ⟨p, ns, rfl, by rw [← t.ints_]; exact .of e, q _ _ s2 (.int _)⟩
theorem TdAll.bools_ : ∀ {vs : List V} {bs : List Bool}, TdAll H vs (bs.map PyData.bool) → vs = bs.map V.bl
  | _, [], .nil => rfl
  | _, n :: ns, .cons r t => by
    rw [Td.bool_ r, TdAll.bools_ t]
    rfl
theorem de_any {bs : List Bool} (h : DL te σ H (bs.map PyData.bool)) : DE (tCB (rAny K) (tCons te tNil)) σ H (.bool (bs.any id)) := fun H1 k Q q =>
  h H1 k _ fun p xs H2 n s2 e t => ⟨p, bs, rfl, by rw [← t.bools_]; exact .of e, q _ _ s2 (.bl _)⟩
def rLenT (K : PySem.W.Frag) : List V → Hp → VK → Prop := fun xs H Q => ∃ p ys, xs = [.ref p] ∧ (SqL K H p ys ∨ SqT K H p ys) ∧ Q (.int ys.length) H
theorem de_lenL (h : DL te σ H ds) : DE (tCB (rLenT K) (tCons te tNil)) σ H (.int ds.length) := fun H1 k Q q =>
  h H1 k _ fun p xs H2 n s2 e t => ⟨p, xs, rfl, .inl (.of e), by rw [t.length]; exact q _ _ s2 (.int _)⟩
theorem de_lenT (h : DE te σ H (.tuple ds)) : DE (tCB (rLenT K) (tCons te tNil)) σ H (.int ds.length) := fun H1 k Q q =>
  h H1 k _ fun v H2 s2 t => by
    obtain ⟨a, xs, rfl, e, r⟩ := t.inv
    exact ⟨a, xs, rfl, .inr (.of e), by rw [r.length]; exact q _ _ s2 (.int _)⟩
theorem de_min {i j : Int} (ha : DE ta σ H (.int i)) (hb : DE tb σ H (.int j)) : DE (tCB (fun xs H Q => ∃ i j, xs = [.int i, .int j] ∧ Q (.int (if j < i then j else i)) H) (tCons ta (tCons tb tNil))) σ H (.int (if j < i then j else i)) := fun H1 k Q q =>
  ha H1 k _ fun x H2 s2 t2 => hb H2 (k.trans s2) _ fun y H3 s3 t3 => ⟨i, j, by rw [t2.int_, t3.int_], q _ _ (s2.trans s3) (.int _)⟩
/-- sorted by the data's own order -/
abbrev leP : PyData → PyData → Bool := PySem.W.dataLe false (fun d : PyData => d)
theorem sort_snd (ps : List (V × PyData)) : (ps.mergeSort leD).map (·.2) = (ps.map (·.2)).mergeSort leP := List.map_mergeSort fun a _ b _ => rfl
theorem zip_fst : ∀ {xs : List V} {ds : List PyData}, xs.length = ds.length → (xs.zip ds).map (·.1) = xs := fun h => List.map_fst_zip (Nat.le_of_eq h)
theorem zip_snd : ∀ {xs : List V} {ds : List PyData}, xs.length = ds.length → (xs.zip ds).map (·.2) = ds := fun h => List.map_snd_zip (Nat.le_of_eq h.symm)
/-! the iterators -/
theorem gi_tup {H0 : Hp} {a : Addr} {xs : List V} (h : H a = some (.tup xs)) (t : TdAll H xs ds) : GI (Itt K a) H0 H ds :=
  ⟨fun H' => H' a = some (.tup xs) ∧ TK H H', by
    rw [← t.length]
    exact walk_tup.mono (fun H' q => .of q.1) fun i H' x H'' hi q y => by
      obtain ⟨rfl, y⟩ := y
      obtain ⟨d, e, td⟩ := (t.mono q.2).at' y
      exact ⟨Same.refl _, d, e, td⟩, fun H' s => ⟨s _ _ h (.inr ⟨_, rfl⟩), s.tk⟩⟩
theorem gi_list {H0 : Hp} {a : Addr} {xs : List V} (n : H0 a = none) (h : H a = some (.lst xs)) (t : TdAll H xs ds) : GI (Itl K a) H0 H ds :=
  ⟨fun H' => H' a = some (.lst xs) ∧ TK H H', by
    rw [← t.length]
    exact walk_list.mono (fun H' q => .of q.1) fun i H' x H'' hi q y => by
      obtain ⟨rfl, y⟩ := y
      obtain ⟨d, e, td⟩ := (t.mono q.2).at' y
      exact ⟨Same.refl _, d, e, td⟩, fun H' s => ⟨s _ _ h (.inl n), s.tk⟩⟩
theorem gi_range {H0 : Hp} {lo : Int} {n : Nat} : GI (Itr lo n) H0 H ((List.range n).map fun (i : Nat) => PyData.int (lo + (i : Int))) :=
  ⟨fun _ => True, by
    rw [List.length_map, List.length_range]
    exact walk_range.mono (fun _ _ => trivial) fun i H' x H'' hi q y => by
      obtain ⟨rfl, rfl⟩ := y
      exact ⟨Same.refl _, _, by rw [List.getElem?_map, List.getElem?_range hi]; rfl, .int _⟩, fun _ _ => trivial⟩
/-- the pairs of two lists of data -/
def pairsD (ds es : List PyData) : List PyData := List.zipWith (fun d e => PyData.tuple [d, e]) ds es
theorem pair_step {xs ys : Nat → Option V} {i : Nat} {H' H'' : Hp} {x : V} (y : YPair xs ys i H' x H'') (hx : ∀ v, xs i = some v → ∃ d, ds[i]? = some d ∧ Td H' v d) (hy : ∀ v, ys i = some v → ∃ d, es[i]? = some d ∧ Td H' v d) :
    Same H' H'' ∧ ∃ d, (pairsD ds es)[i]? = some d ∧ Td H'' x d := by
  obtain ⟨T, x1, x2, rfl, nT, rfl, e1, e2⟩ := y
  obtain ⟨d1, g1, t1⟩ := hx x1 e1
  obtain ⟨d2, g2, t2⟩ := hy x2 e2
  refine ⟨same_new nT, .tuple [d1, d2], ?_, .tup upd_same (.cons (t1.mono (.new nT)) (.cons (t2.mono (.new nT)) .nil))⟩
  unfold pairsD
  rw [List.getElem?_zipWith, g1, g2]
theorem gi_zipT {H0 : Hp} {a b : Addr} {xs ys : List V} (h : H a = some (.tup xs)) (t : TdAll H xs ds) (h' : H b = some (.tup ys)) (t' : TdAll H ys es) : GI (RZ.ItzT K a b) H0 H (pairsD ds es) :=
  ⟨fun H' => H' a = some (.tup xs) ∧ H' b = some (.tup ys) ∧ TK H H', by
    have e : (pairsD ds es).length = min xs.length ys.length := by
      unfold pairsD
      rw [List.length_zipWith, t.length, t'.length]
    exact (walk_zipT (K := K) e).mono (fun H' q => ⟨.of q.1, .of q.2.1⟩) fun i H' x H'' hi q y => pair_step y (fun v g => (t.mono q.2.2).at' g) fun v g => (t'.mono q.2.2).at' g, fun H' s => ⟨s _ _ h (.inr ⟨_, rfl⟩), s _ _ h' (.inr ⟨_, rfl⟩), s.tk⟩⟩
theorem gi_zipM {H0 : Hp} {a b : Addr} {xs ys : List V} (n : H0 b = none) (h : H a = some (.tup xs)) (t : TdAll H xs ds) (h' : H b = some (.lst ys)) (t' : TdAll H ys es) (hl : ds.length = es.length) : GI (ItzM K a b) H0 H (pairsD ds es) :=
  ⟨fun H' => H' a = some (.tup xs) ∧ H' b = some (.lst ys) ∧ TK H H', by
    have e : (pairsD ds es).length = xs.length := by
      unfold pairsD
      rw [List.length_zipWith, t.length, ← hl, Nat.min_self]
    rw [e]
    exact (walk_zipM (K := K) (by rw [t.length, t'.length, hl])).mono (fun H' q => ⟨.of q.1, .of q.2.1⟩) fun i H' x H'' hi q y => pair_step y (fun v g => (t.mono q.2.2).at' g) fun v g => (t'.mono q.2.2).at' g, fun H' s => ⟨s _ _ h (.inr ⟨_, rfl⟩), s _ _ h' (.inl n), s.tk⟩⟩
def numD (n : Nat) : List PyData := (List.range n).map fun (i : Nat) => PyData.int (i : Int)
theorem gi_enumT {H0 : Hp} {a : Addr} {xs : List V} (h : H a = some (.tup xs)) (t : TdAll H xs ds) : GI (IteT K a) H0 H (pairsD (numD ds.length) ds) :=
  ⟨fun H' => H' a = some (.tup xs) ∧ TK H H', by
    have e : (pairsD (numD ds.length) ds).length = xs.length := by
      unfold pairsD numD
      rw [List.length_zipWith, List.length_map, List.length_range, t.length, Nat.min_self]
    rw [e]
    exact walk_enumT.mono (fun H' q => .of q.1) fun i H' x H'' hi q y => pair_step y (fun v g => by
      cases g
      refine ⟨_, ?_, .int _⟩
      unfold numD
      rw [List.getElem?_map, List.getElem?_range (by rw [← t.length]; exact hi)]
      rfl) fun v g => (t.mono q.2).at' g, fun H' s => ⟨s _ _ h (.inr ⟨_, rfl⟩), s.tk⟩⟩
theorem di_tup (h : DE te σ H (.tuple ds)) : DI (iTup K te) σ H ds := fun H1 k R r => h H1 k _ fun v H2 s2 t => by
  obtain ⟨a, xs, rfl, e, t⟩ := t.inv
  exact ⟨a, rfl, ⟨xs, .of e⟩, r _ _ s2 (gi_tup e t)⟩
theorem di_list (h : DL te σ H ds) : DI (iList K te) σ H ds := fun H1 k R r => h H1 k _ fun p xs H2 n s2 e t => ⟨p, rfl, ⟨xs, .of e⟩, r _ _ s2 (gi_list n e t)⟩
theorem di_range1 {n : Int} (h : DE te σ H (.int n)) (hn : -(2 ^ 62) ≤ n ∧ n < 2 ^ 62) : DI (iRng1 (tCons te tNil)) σ H ((List.range n.toNat).map fun (i : Nat) => PyData.int (0 + (i : Int))) := fun H1 k R r => h H1 k _ fun v H2 s2 t => by
  rw [t.int_]
  exact ⟨n, rfl, hn.1, hn.2, r _ _ s2 gi_range⟩
theorem di_range2 {m n : Int} (ha : DE ta σ H (.int m)) (hb : DE tb σ H (.int n)) (hn : -(2 ^ 62) ≤ m ∧ m < 2 ^ 62 ∧ -(2 ^ 62) ≤ n ∧ n < 2 ^ 62) : DI (iRng2 (tCons ta (tCons tb tNil))) σ H ((List.range (n - m).toNat).map fun (i : Nat) => PyData.int (m + (i : Int))) := fun H1 k R r =>
  ha H1 k _ fun v H2 s2 t => hb H2 (k.trans s2) _ fun u H3 s3 t3 => by
    rw [t.int_, t3.int_]
    exact ⟨m, n, rfl, hn, r _ _ (s2.trans s3) gi_range⟩
theorem di_enumT (h : DE te σ H (.tuple ds)) : DI (iEnumT K (tCons te tNil)) σ H (pairsD (numD ds.length) ds) := fun H1 k R r => h H1 k _ fun v H2 s2 t => by
  obtain ⟨a, xs, rfl, e, t⟩ := t.inv
  exact ⟨a, xs, rfl, .of e, r _ _ s2 (gi_enumT e t)⟩
theorem di_zipT (ha : DE ta σ H (.tuple ds)) (hb : DE tb σ H (.tuple es)) : DI (RZ.iZipA K (tCons ta (tCons tb tNil))) σ H (pairsD ds es) := fun H1 k R r =>
  ha H1 k _ fun v H2 s2 t => hb H2 (k.trans s2) _ fun u H3 s3 t3 => by
    obtain ⟨a, xs, rfl, e, t⟩ := (t.mono (.same s3)).inv
    obtain ⟨b, ys, rfl, e', t'⟩ := t3.inv
    exact ⟨a, b, xs, ys, rfl, .inr ⟨.of e, .of e', r _ _ (s2.trans s3) (gi_zipT e t e' t')⟩⟩
theorem pairs_map {α β : Type} (f : α → PyData) (g : β → PyData) : ∀ (as : List α) (bs : List β), pairsD (as.map f) (bs.map g) = (as.zip bs).map fun p => .tuple [f p.1, g p.2]
  | [], _ => by simp [pairsD]
  | _ :: _, [] => by simp [pairsD]
  | a :: as, b :: bs => by
    have := pairs_map f g as bs
    unfold pairsD at this ⊢
    simp only [List.map_cons, List.zipWith_cons_cons, List.zip_cons_cons]
    rw [this]
theorem cut_from {α : Type} (f : α → PyData) (as : List α) (k : Nat) : cutD (as.map f) (some (k : Int)) none = (as.drop k).map f := by
  unfold cutD
  rw [HT.sIx_nat, HT.sIx_none, ← List.map_drop, ← List.map_take]
  congr 1
  rw [List.length_map]
  by_cases h : k ≤ as.length
  · rw [Nat.min_eq_left h, List.take_of_length_le (by rw [List.length_drop]; exact Nat.le_refl _)]
  · rw [Nat.min_eq_right (by omega), List.drop_eq_nil_of_le (Nat.le_refl _), List.drop_eq_nil_of_le (by omega)]
    simp
/-! the comprehension -/
/-- an iterator of data, all kept on the way -/
def SI (wi : TI) (σ : L2.St) (H : Hp) (ds : List PyData) : Prop := ∀ H1, Same H H1 → ∀ R : It → Hp → Prop, (∀ J H2, Same H1 H2 → (∃ G : Hp → Prop, Walk J ds.length G (fun i H x H' => Same H H' ∧ ∃ d, ds[i]? = some d ∧ Td H' x d) ∧ ∀ H', Same H2 H' → G H') → R J H2) → wi σ H1 R
theorem DI.si {wi : TI} (h : DI wi σ H ds) : SI wi σ H ds := fun H1 s R r => h H1 s R fun J H2 s2 ⟨G, W, hG⟩ => r J H2 s2 ⟨G, W, fun H' s => hG H' (.of s)⟩
theorem dl_lcS {α : Type} {en : α → PyData} {as : List α} {wi : TI} {g : TG} {tt : TT} {te : TE} {vs : List Nat} (f : α → Bool) (m : α → PyData) (hi : SI wi σ H (as.map en)) (hl : as.length < sizeLine)
    (hg : ∀ d ∈ as, ∀ v H1, Same H H1 → Td H1 v (en d) → ∀ Q : L2.St → Hp → Prop, (∀ σ2, wipe σ2 vs = wipe σ vs → DT tt σ2 H1 (f d) → (f d = true → DE te σ2 H1 (m d)) → Q σ2 H1) → g v (wipe σ vs) H1 Q) :
    DL (tLc wi g tt te vs) σ H ((as.filter f).map m) := fun H1 k Q q => hi H1 k _ fun J H2 s2 gi => fun D hD => by
  obtain ⟨G, W, hG⟩ := gi
  rw [List.length_map] at W
  refine lc_it W (fun i H' => ∃ xs, H' D = some (.lst xs) ∧ Same H2 H' ∧ TdAll H' xs (((as.take i).filter f).map m)) ⟨[], upd_same, same_new hD, .nil⟩ (fun i H' _ p => hG H' (p.elim fun _ p => p.2.1)) (fun i x H3 H4 hi p y => ?_) fun H' p => ?_
  · obtain ⟨xs, e, s3, t⟩ := p
    obtain ⟨s4, d', hd', td⟩ := y
    rw [List.getElem?_map] at hd'
    obtain ⟨d, hd, rfl⟩ := Option.map_eq_some_iff.mp hd'
    have sH : Same H H4 := ((k.trans s2).trans s3).trans s4
    refine hg d (List.mem_of_getElem? hd) x H4 sH td _ fun σ2 w ht he => ⟨w, ht.at_ fun H5 s5 => ?_⟩
    have et : (((as.take (i + 1)).filter f).map m) = ((as.take i).filter f).map m ++ (if f d = true then [m d] else []) := by
      rw [List.take_add_one, hd, List.filter_append, List.map_append]
      congr 1
      by_cases hf : f d = true
      · simp [hf]
      · simp [hf]
    by_cases hf : f d = true
    · rw [if_pos hf]
      refine (he hf).mono s5 |>.at_ fun v H6 s6 t6 => ?_
      have s36 := (s4.trans s5).trans s6
      have tx := t.mono (.same s36)
      refine ⟨xs, s36 _ _ e, ?_, xs ++ [v], upd_same, fun b o eb => ?_, ?_⟩
      · rw [t.length, List.length_map]
        exact Nat.lt_of_le_of_lt (Nat.le_trans (List.length_filter_le ..) (List.length_take_le' ..)) hl
      · rw [upd_ne (ne_of_none eb hD)]
        exact (s3.trans s36) _ _ eb
      · rw [et, if_pos hf]
        exact (tx.snoc t6).mono (.put (s36 _ _ e) fun _ z => by cases z)
    · rw [if_neg hf]
      have s35 := s4.trans s5
      refine ⟨xs, s35 _ _ e, s3.trans s35, ?_⟩
      rw [et, if_neg hf, List.append_nil]
      exact t.mono (.same s35)
  · obtain ⟨xs, e, s3, t⟩ := p
    rw [List.take_length] at t
    exact q D xs H' (s2.free hD) (s2.trans s3) e t
theorem dl_lcG {α : Type} {en : α → PyData} {as : List α} {wi : TI} {g : TG} {tt : TT} {te : TE} {vs : List Nat} (f : α → Bool) (m : α → PyData) (hi : DI wi σ H (as.map en)) (hl : as.length < sizeLine)
    (hg : ∀ d ∈ as, ∀ v H1, Same H H1 → Td H1 v (en d) → ∀ Q : L2.St → Hp → Prop, (∀ σ2, wipe σ2 vs = wipe σ vs → DT tt σ2 H1 (f d) → (f d = true → DE te σ2 H1 (m d)) → Q σ2 H1) → g v (wipe σ vs) H1 Q) :
    DL (tLc wi g tt te vs) σ H ((as.filter f).map m) := dl_lcS f m hi.si hl hg
theorem dl_lc {α : Type} {en : α → PyData} {as : List α} {wi : TI} {j : Nat} {tt : TT} {te : TE} {vs : List Nat} (f : α → Bool) (m : α → PyData) (hi : DI wi σ H (as.map en)) (hl : as.length < sizeLine) (hw : ∀ x, wipe ((wipe σ vs).set j (some x)) vs = wipe σ vs)
    (hg : ∀ d ∈ as, ∀ v H1, Same H H1 → Td H1 v (en d) → DT tt ((wipe σ vs).set j (some v)) H1 (f d) ∧ (f d = true → DE te ((wipe σ vs).set j (some v)) H1 (m d))) :
    DL (tLc wi (gName j) tt te vs) σ H ((as.filter f).map m) :=
  dl_lcG f m hi hl fun d hd v H1 k t Q q => q _ (hw v) (hg d hd v H1 k t).1 (hg d hd v H1 k t).2
theorem filter_yes {α : Type} (as : List α) : as.filter (fun _ => true) = as := List.filter_eq_self.mpr fun _ _ => rfl
/-- a tuple of two onto two names -/
theorem g_pair {i j : Nat} {d1 d2 : PyData} {Q : L2.St → Hp → Prop} (h : Td H v (.tuple [d1, d2])) (q : ∀ v1 v2, Td H v1 d1 → Td H v2 d2 → Q ((σ.set i (some v1)).set j (some v2)) H) : gTup K 2 (gCons (gName i) (gCons (gName j) gNil)) v σ H Q := by
  obtain ⟨a, xs, rfl, e, t⟩ := h.inv
  cases t with
  | cons t1 t => cases t with
    | cons t2 t => cases t with
      | nil => exact ⟨a, _, rfl, .of e, rfl, _, _, rfl, _, _, rfl, rfl, q _ _ t1 t2⟩
theorem g_three {i j l : Nat} {d1 d2 d3 : PyData} {Q : L2.St → Hp → Prop} (h : Td H v (.tuple [d1, d2, d3])) (q : ∀ v1 v2 v3, Td H v1 d1 → Td H v2 d2 → Td H v3 d3 → Q (((σ.set i (some v1)).set j (some v2)).set l (some v3)) H) : gTup K 3 (gCons (gName i) (gCons (gName j) (gCons (gName l) gNil))) v σ H Q := by
  obtain ⟨a, xs, rfl, e, t⟩ := h.inv
  cases t with
  | cons t1 t => cases t with
    | cons t2 t => cases t with
      | cons t3 t => cases t with
        | nil => exact ⟨a, _, rfl, .of e, rfl, _, _, rfl, _, _, rfl, _, _, rfl, rfl, q _ _ _ t1 t2 t3⟩
theorem g_four {i j l o : Nat} {d1 d2 d3 d4 : PyData} {Q : L2.St → Hp → Prop} (h : Td H v (.tuple [d1, d2, d3, d4])) (q : ∀ v1 v2 v3 v4, Td H v1 d1 → Td H v2 d2 → Td H v3 d3 → Td H v4 d4 → Q ((((σ.set i (some v1)).set j (some v2)).set l (some v3)).set o (some v4)) H) : gTup K 4 (gCons (gName i) (gCons (gName j) (gCons (gName l) (gCons (gName o) gNil)))) v σ H Q := by
  obtain ⟨a, xs, rfl, e, t⟩ := h.inv
  cases t with
  | cons t1 t => cases t with
    | cons t2 t => cases t with
      | cons t3 t => cases t with
        | cons t4 t => cases t with
          | nil => exact ⟨a, _, rfl, .of e, rfl, _, _, rfl, _, _, rfl, _, _, rfl, _, _, rfl, rfl, q _ _ _ _ t1 t2 t3 t4⟩
theorem g_five {i j l o r : Nat} {d1 d2 d3 d4 d5 : PyData} {Q : L2.St → Hp → Prop} (h : Td H v (.tuple [d1, d2, d3, d4, d5])) (q : ∀ v1 v2 v3 v4 v5, Td H v1 d1 → Td H v2 d2 → Td H v3 d3 → Td H v4 d4 → Td H v5 d5 → Q (((((σ.set i (some v1)).set j (some v2)).set l (some v3)).set o (some v4)).set r (some v5)) H) : gTup K 5 (gCons (gName i) (gCons (gName j) (gCons (gName l) (gCons (gName o) (gCons (gName r) gNil))))) v σ H Q := by
  obtain ⟨a, xs, rfl, e, t⟩ := h.inv
  cases t with
  | cons t1 t => cases t with
    | cons t2 t => cases t with
      | cons t3 t => cases t with
        | cons t4 t => cases t with
          | cons t5 t => cases t with
            | nil => exact ⟨a, _, rfl, .of e, rfl, _, _, rfl, _, _, rfl, _, _, rfl, _, _, rfl, _, _, rfl, rfl, q _ _ _ _ _ t1 t2 t3 t4 t5⟩
end
/-! ### statements -/
/-- all kept but what stands at L -/
def KL (L : List Addr) (H H' : Hp) : Prop := ∀ b o, b ∉ L → H b = some o → H' b = some o
/-- an object that is no tuple -/
def NT (H : Hp) (d : Addr) : Prop := ∃ u, H d = some u ∧ ∀ xs, u ≠ .tup xs
section
variable {K : PySem.W.Frag} {σ : L2.St} {H H1 H2 H' : Hp} {ta tb te : TE} {d e : PyData} {ds es : List PyData} {v : V} {L : List Addr} {D : Ends} {tz tu tw : TS}
theorem KL.refl : KL L H H := fun _ _ _ h => h
theorem KL.trans (a : KL L H H1) (b : KL L H1 H2) : KL L H H2 := fun x o n h => b x o n (a x o n h)
theorem KL.s (a : KL L H H1) (b : Same H1 H2) : KL L H H2 := fun x o n h => b x o (a x o n h)
theorem KL.of (a : Same H H1) : KL L H H1 := fun x o _ h => a x o h
theorem KL.put {p : Addr} {o : HO} (h : p ∈ L) : KL L H (upd H p o) := fun b x n e => by
  rw [upd_ne (fun z => n (by rw [z]; exact h))]
  exact e
theorem KL.more {L' : List Addr} (a : KL L H H1) (h : ∀ p ∈ L, p ∈ L') : KL L' H H1 := fun b o n e => a b o (fun z => n (h b z)) e
/-- what came since is off the account -/
theorem KL.fresh {L' : List Addr} (s : Same H H1) (a : KL L' H1 H2) (h : ∀ p ∈ L', p ∈ L ∨ H p = none) : KL L H H2 := fun b o n e => a b o (fun z => by
  rcases h b z with q | q
  · exact n q
  · rw [q] at e
    cases e) (s b o e)
theorem KL.same (a : KL L H H1) (h : ∀ p ∈ L, H p = none) : Same H H1 := fun b o e => a b o (fun z => by
  rw [h b z] at e
  cases e) e
theorem KL.tk (a : KL L H H1) (h : ∀ p ∈ L, NT H p) : TK H H1 := fun b xs e => a b _ (fun z => by
  obtain ⟨u, e1, n⟩ := h b z
  rw [e1] at e
  cases e
  exact n xs rfl) e
theorem NT.s (h : NT H p) (s : Same H H1) : NT H1 p := let ⟨u, e, n⟩ := h; ⟨u, s _ _ e, n⟩
theorem NT.lst {p : Addr} {xs : List V} (h : H p = some (.lst xs)) : NT H p := ⟨_, h, fun _ z => by cases z⟩
theorem NT.dK {p : Addr} {xs : List (Key × V)} (h : H p = some (.dK xs)) : NT H p := ⟨_, h, fun _ z => by cases z⟩
theorem NT.dT {p : Addr} {xs : List (List Key × V)} (h : H p = some (.dT xs)) : NT H p := ⟨_, h, fun _ z => by cases z⟩
theorem nt_nil : ∀ p ∈ ([] : List Addr), NT H p := fun _ h => by cases h
theorem nt_one {p : Addr} (h : NT H p) : ∀ q ∈ [p], NT H q := fun q m => by
  rw [List.mem_singleton.mp m]
  exact h
theorem s_set {i : Nat} (h : DE te σ H d) (k : ∀ v H1, Same H H1 → Td H1 v d → tz D (σ.set i (some v)) H1) : tSeq (tAsg te (gName i)) tz D σ H := h.at_ k
theorem s_set1 {i : Nat} (h : DE te σ H d) (k : ∀ v H1, Same H H1 → Td H1 v d → D.nx (σ.set i (some v)) H1) : tAsg te (gName i) D σ H := h.at_ k
theorem s_setL {i : Nat} (h : DL te σ H ds) (k : ∀ p xs H1, H p = none → Same H H1 → H1 p = some (.lst xs) → TdAll H1 xs ds → tz D (σ.set i (some (.ref p))) H1) : tSeq (tAsg te (gName i)) tz D σ H := h.at_ k
theorem s_ret (h : DE te σ H d) (k : ∀ v H1, Same H H1 → Td H1 v d → D.rt v H1) : tRet te D σ H := h.at_ k
theorem s_retL (h : DL te σ H ds) (k : ∀ p xs H1, H p = none → Same H H1 → H1 p = some (.lst xs) → TdAll H1 xs ds → D.rt (.ref p) H1) : tRet te D σ H := h.at_ k
theorem s_if {tt : TT} {b : Bool} (h : DT tt σ H b) (k1 : b = true → ∀ H1, Same H H1 → tu D σ H1) (k2 : b = false → ∀ H1, Same H H1 → tw D σ H1) : tIfS tt tu tw D σ H := h.at_ fun H1 s => by
  cases b with
  | true => exact k1 rfl H1 s
  | false => exact k2 rfl H1 s
/-- a walk's turns, the invariant by their number; what may change stands at L -/
theorem for_walk {α : Type} {en : α → PyData} {as : List α} {J : It} {G : Hp → Prop} {g : TG} {tb : TS} (W : Walk J as.length G (fun i H x H' => Same H H' ∧ ∃ d, (as.map en)[i]? = some d ∧ Td H' x d)) (nt2 : ∀ p ∈ L, NT H2 p) (hG : ∀ H', KL L H2 H' → G H') (I : Nat → L2.St → Hp → Prop) (h0 : I 0 σ H2)
    (hs : ∀ i d x σ' H0 H', KL L H2 H0 → TK H2 H' → as[i]? = some d → Td H' x (en d) → I i σ' H0 → Same H0 H' →
      g x σ' H' fun σ3 H3 => tb { D with nx := fun σ4 H4 => KL L H2 H4 ∧ I (i + 1) σ4 H4, ct := fun σ4 H4 => KL L H2 H4 ∧ I (i + 1) σ4 H4, bk := D.nx } σ3 H3)
    (hd : ∀ σ' H', KL L H2 H' → I as.length σ' H' → D.nx σ' H') : ∃ W : Nat → Nat → L2.St → Hp → Prop, (∃ m, W 0 m σ H2) ∧ ∀ i m σ H, W i m σ H →
      (J.stop i H ∧ D.nx σ H) ∨ (J.go i H ∧ ∃ N : L2.St → Hp → Prop, (∀ σ' H', N σ' H' → ∃ m', m' < m ∧ W (i + 1) m' σ' H') ∧ ∀ x H', J.yld i H x H' → g x σ H' fun σ2 H2 => tb { D with nx := N, ct := N, bk := D.nx } σ2 H2) := by
  refine for_it W (fun i σ' H' => KL L H2 H' ∧ I i σ' H') ⟨.refl, h0⟩ (fun i σ' H' _ p => hG H' p.1) (fun i x σ' H0 H' hi p y => ?_) fun σ' H' p => hd σ' H' p.1 p.2
  obtain ⟨sy, d', hd', td⟩ := y
  rw [List.getElem?_map] at hd'
  obtain ⟨d, hd, rfl⟩ := Option.map_eq_some_iff.mp hd'
  exact hs i d x σ' H0 H' p.1 ((p.1.tk nt2).s sy) hd td p.2 sy
/-- a for over an iterator of data: I by the turns done; what may change stands at L -/
theorem s_for {α : Type} {en : α → PyData} {as : List α} {wi : TI} {g : TG} {tb : TS} (hi : DI wi σ H (as.map en)) (nt : ∀ p ∈ L, NT H p) (I : Nat → L2.St → Hp → Prop) (h0 : ∀ H2, Same H H2 → I 0 σ H2)
    (hs : ∀ H2 i d x σ' H0 H', Same H H2 → KL L H2 H0 → TK H H' → as[i]? = some d → Td H' x (en d) → I i σ' H0 → Same H0 H' →
      g x σ' H' fun σ3 H3 => tb { D with nx := fun σ4 H4 => KL L H2 H4 ∧ I (i + 1) σ4 H4, ct := fun σ4 H4 => KL L H2 H4 ∧ I (i + 1) σ4 H4, bk := D.nx } σ3 H3)
    (hd : ∀ σ' H', KL L H H' → I as.length σ' H' → D.nx σ' H') : tFor wi g tb D σ H := hi.at_ fun J H2 s2 ⟨G, W, hG⟩ => by
  have nt2 : ∀ p ∈ L, NT H2 p := fun p m => (nt p m).s s2
  rw [List.length_map] at W
  refine for_walk W nt2 (fun H' k => hG H' fun b o e q => k b o (fun z => ?_) e) I (h0 H2 s2) (fun i d x σ' H0 H' k t hd td p sy => hs H2 i d x σ' H0 H' s2 k ((TK.same s2).trans t) hd td p sy) fun σ' H' k p => hd σ' H' (fun b o n e => k b o n (s2 b o e)) p
  rcases q with q | ⟨xs, q⟩
  · obtain ⟨u, e1, _⟩ := nt b z
    rw [e1] at q
    cases q
  · obtain ⟨u, e1, n⟩ := nt2 b z
    rw [e1] at e
    cases e
    exact n xs q
/-- the walk over a list that stands -/
theorem list_walk {α : Type} {en : α → PyData} {as : List α} {a : Addr} {xs : List V} (t : TdAll H xs (as.map en)) : Walk (Itl K a) as.length (fun H' => H' a = some (.lst xs) ∧ TK H H') (fun i H x H' => Same H H' ∧ ∃ d, (as.map en)[i]? = some d ∧ Td H' x d) := by
  have e := t.length
  rw [List.length_map] at e
  rw [← e]
  exact walk_list.mono (fun H' q => .of q.1) fun i H' x H'' hi q y => by
    obtain ⟨rfl, y⟩ := y
    obtain ⟨d, e, td⟩ := (t.mono q.2).at' y
    exact ⟨Same.refl _, d, e, td⟩
theorem q_for {α : Type} {en : α → PyData} {as : List α} {wi : TI} {g : TG} {tb : TS} (hi : DI wi σ H (as.map en)) (nt : ∀ p ∈ L, NT H p) (I : Nat → L2.St → Hp → Prop) (h0 : ∀ H2, Same H H2 → I 0 σ H2)
    (hs : ∀ H2 i d x σ' H0 H', Same H H2 → KL L H2 H0 → TK H H' → as[i]? = some d → Td H' x (en d) → I i σ' H0 → Same H0 H' →
      g x σ' H' fun σ3 H3 => tb { D with nx := fun σ4 H4 => KL L H2 H4 ∧ I (i + 1) σ4 H4, ct := fun σ4 H4 => KL L H2 H4 ∧ I (i + 1) σ4 H4, bk := tz D } σ3 H3)
    (hd : ∀ σ' H', KL L H H' → I as.length σ' H' → tz D σ' H') : tSeq (tFor wi g tb) tz D σ H := s_for (D := { D with nx := tz D }) hi nt I h0 hs hd
theorem q_if {tt : TT} {b : Bool} (h : DT tt σ H b) (k1 : b = true → ∀ H1, Same H H1 → tu { D with nx := tz D } σ H1) (k2 : b = false → ∀ H1, Same H H1 → tw { D with nx := tz D } σ H1) : tSeq (tIfS tt tu tw) tz D σ H := s_if (D := { D with nx := tz D }) h k1 k2
/-- an if without else -/
theorem q_when {tt : TT} {b : Bool} (h : DT tt σ H b) (k1 : b = true → ∀ H1, Same H H1 → tu { D with nx := tz D } σ H1) (k2 : b = false → ∀ H1, Same H H1 → tz D σ H1) : tSeq (tIfS tt tu tNext) tz D σ H := s_if (D := { D with nx := tz D }) h k1 k2
theorem s_when {tt : TT} {b : Bool} (h : DT tt σ H b) (k1 : b = true → ∀ H1, Same H H1 → tu D σ H1) (k2 : b = false → ∀ H1, Same H H1 → D.nx σ H1) : tIfS tt tu tNext D σ H := s_if h k1 k2
/-- l.append(x) of a list that the def holds -/
theorem s_app {l : Addr} {xs : List V} (hl : H l = some (.lst xs)) (ho : ∀ H1, Same H H1 → ∀ Q : VK, Q (.ref l) H1 → ta σ H1 Q) (h : DE te σ H d) (hz : xs.length < sizeLine)
    (k : ∀ v H1, Same H H1 → Td H1 v d → D.nx σ (upd H1 l (.lst (xs ++ [v])))) : tDrop (tBM K "list" rAppend ta (tCons te tNil)) D σ H :=
  ho H (Same.refl _) _ ⟨.inl ⟨rfl, _, .of hl⟩, h.at_ fun v H1 s t => ⟨l, xs, v, rfl, rfl, s _ _ hl, hz, k v H1 s t⟩⟩
theorem q_app {l : Addr} {xs : List V} (hl : H l = some (.lst xs)) (ho : ∀ H1, Same H H1 → ∀ Q : VK, Q (.ref l) H1 → ta σ H1 Q) (h : DE te σ H d) (hz : xs.length < sizeLine)
    (k : ∀ v H1, Same H H1 → Td H1 v d → tz D σ (upd H1 l (.lst (xs ++ [v])))) : tSeq (tDrop (tBM K "list" rAppend ta (tCons te tNil))) tz D σ H := s_app (D := { D with nx := tz D }) hl ho h hz k
theorem o_var {i : Nat} {v : V} (h : σ[i]? = some (some v)) : ∀ H1, Same H H1 → ∀ Q : VK, Q v H1 → tVar i σ H1 Q := fun H1 _ Q q => ⟨v, h, q⟩
end
end Tk

set_option Elab.async false
set_option linter.all false
set_option maxRecDepth 100000
set_option maxHeartbeats 2000000
/-! What is known of the text's names; a callee as the caller needs it. -/
namespace Tk
open PySem PySem.Spec PyProof.Rows L2

/-- a def by the name the module knows it by -/
structure Cal (P : Program) (w : World) (K : PySem.W.Frag) (mg : Str → Option Value) (base : Heap) (x : Str) (k : Nat) (ps : List Str) (sp : Sp) : Prop where
  ex : ∃ f fd, FnOk P w K mg base CX0 k f fd ps sp ∧ mg x = some (.ref f) ∧ PySem.W.keepIn K (.ref f) = true ∧ Binds K fd ps []
theorem pe_cal {X : Cx} {x : Str} {k : Nat} {ps : List Str} {sp : Sp} {e : Expr} {es : List Expr} {t : TA} {p pos : Pos} (C : Cal X.prog X.w X.K X.mg X.base x k ps sp) (hr : Room k X.A) (hg : Gl X x) (ha : PA X (e :: es) t)
    (hdb : (x == ("__debug__" : Str)) = false := by decide) (he : starEach (e :: es) X.env = (false, eval e X.env) :: starEach es X.env := by rfl) (hpl : (backTo pos (starEach es X.env)).any (·.1) = false := by rfl) :
    PE X (.Call (.Name x p) (e :: es) [] pos) (tCall sp [] E0 t) := by
  obtain ⟨f, fd, F, g, kp, b⟩ := C.ex
  exact pe_call F hr hg g kp b .nil pass0 ha hdb he hpl
section
variable {X : Cx} {a b : Expr} {ta tb : TE} {pos : Pos}
theorem pix (K : PySem.W.Frag) (ha : PE X a ta) (hb : PE X b tb) (hK : X.K = K := by rfl) (hs : PlainIx b := by exact fun _ _ => rfl) : PE X (.Subscript a b pos) (tOp (rIxT K) ta tb) := hK ▸ pe_ix ix_tup ha hb hs
theorem pixL (K : PySem.W.Frag) (ha : PE X a ta) (hb : PE X b tb) (hK : X.K = K := by rfl) (hs : PlainIx b := by exact fun _ _ => rfl) : PE X (.Subscript a b pos) (tOp (rIxL K) ta tb) := hK ▸ pe_ix ix_list ha hb hs
theorem slT (K : PySem.W.Frag) (hK : X.K = K := by rfl) : SlR X (rSlA K) := hK ▸ sl_tupA
theorem pgt (K : PySem.W.Frag) (n : Nat) {es : List Expr} {k : Nat} {t : TGs} (h : PGs X es t) (hc : X.calm = true := by rfl) (hK : X.K = K := by rfl)
    (hn : (assignEach es X.env).length = n := by rfl) (hst : (assignEach es X.env).findIdx? (·.1) = none := by rfl) : PG X (.Tuple es k pos) (gTup K n t) := hK ▸ pg_tup hc h hn hst
theorem crAny (K : PySem.W.Frag) (hc : X.calm = true := by rfl) (hK : X.K = K := by rfl) : CallR X (.builtin "any") (rAny K) := hK ▸ cr_any hc
theorem crSum (K : PySem.W.Frag) (hc : X.calm = true := by rfl) (hK : X.K = K := by rfl) : CallR X (.builtin "sum") (rSum K) := hK ▸ cr_sum hc
theorem clLen (K : PySem.W.Frag) (hK : X.K = K := by rfl) : CallR X (.builtin "len") (rLenT K) := hK ▸ call_len_seq
theorem oCatA (K : PySem.W.Frag) (hK : X.K = K := by rfl) : OpR X (binaryOp .Add) (rCatA K) := hK ▸ op_catA
theorem oEqD (K : PySem.W.Frag) (hu : X.A.units + 64 < cLine) (hK : X.K = K := by rfl) : OpR X (compareOp .Eq) (rEqD K) := hK ▸ op_eqD hu
theorem oLtD (K : PySem.W.Frag) (hu : X.A.units + 64 < cLine) (hK : X.K = K := by rfl) : OpR X (compareOp .Lt) (rLtD K) := hK ▸ op_ltD hu
theorem oInDT (K : PySem.W.Frag) (hu : X.A.units + 65 < cLine) (hK : X.K = K := by rfl) : OpR X (compareOp .In) (rInDT K) := hK ▸ op_inDT hu
theorem papp {o e : Expr} {to : TE} {t : TA} {apos cpos : Pos} (ho : PE X o to) (ha : PA X [e] t)
    (hbase : attributeBase o "append" X.env (eval o X.env) = eval o X.env := by rfl)
    (hfew : ((backTo cpos (starEach [e] X.env)).all (fun x => !x.1) && (backToKw cpos (keywordEach [] X.env)).all (fun x => x.1.isSome)
      && decide (([e] : List Expr).length + ([] : List Keyword).length + (if ([] : List Keyword).isEmpty then 0 else 1) < 30)) = true := by rfl)
    (hline : (apos.endLine == cpos.line) = true := by rfl) (hs : starEach [e] X.env = (false, eval e X.env) :: starEach [] X.env := by rfl) (hplain : (backTo cpos (starEach [] X.env)).any (·.1) = false := by rfl) :
    PE X (.Call (.Attribute o "append" apos) [e] [] cpos) (tBM X.K "list" rAppend to t) := pe_bm PySem.F.plainAttrs_list PySem.F.slot_list_append PySem.F.type_list_append mt_append ho ha hbase hfew hline hs hplain
end
/-- a def as the top left it -/
def FnAt (K : PySem.W.Frag) (mg : Str → Option Value) (x : Str) (st : Stmt) : Prop := ∃ f fd, FnP K x x st f fd ∧ mg x = some (.ref f)
/-- a method's def -/
def MtAt (K : PySem.W.Frag) (C : Addr) (m q : Str) (st : Stmt) : Prop := ∃ f fd, FnP K m q st f fd ∧ Meth K C m f
structure Txt (K : PySem.W.Frag) (mg : Str → Option Value) : Prop where
  tie_of : FnAt K mg "tie_of" s_tie_of
  ties_along : FnAt K mg "ties_along" s_ties_along
  miles : FnAt K mg "miles" s_miles
  both_ways : FnAt K mg "both_ways" s_both_ways
  way : FnAt K mg "way" s_way
  racks_at : FnAt K mg "racks_at" s_racks_at
  way_of : FnAt K mg "way_of" s_way_of
  fare : FnAt K mg "fare" s_fare
  told_closings : FnAt K mg "told_closings" s_told_closings
  lots_of : FnAt K mg "lots_of" s_lots_of
  all_seeings : FnAt K mg "all_seeings" s_all_seeings
  is_odd : FnAt K mg "is_odd" s_is_odd
  seeings : FnAt K mg "seeings" s_seeings
  odd : FnAt K mg "odd" s_odd
  pages_by_days : FnAt K mg "pages_by_days" s_pages_by_days
  things_on : FnAt K mg "things_on" s_things_on
  first_ends : FnAt K mg "first_ends" s_first_ends
  ledger : FnAt K mg "ledger" s_ledger
  kept_in : FnAt K mg "kept_in" s_kept_in
  kept_for : FnAt K mg "kept_for" s_kept_for
  L_hand : FnAt K mg "_law_hand" s_L_hand
  L_take : FnAt K mg "_law_take" s_L_take
  L_of : FnAt K mg "_law_of" s_L_of
  L_plan : FnAt K mg "_law_plan" s_L_plan
  L_tickets : FnAt K mg "_law_tickets" s_L_tickets
  L_once : FnAt K mg "_law_once" s_L_once
  L_office : FnAt K mg "_law_office" s_L_office
  L_file : FnAt K mg "_law_file" s_L_file
  L_classes : FnAt K mg "_law_classes" s_L_classes
  L_right : FnAt K mg "_law_right" s_L_right
  L_kept : FnAt K mg "_law_kept" s_L_kept
  law : FnAt K mg "law" s_law
  range : mg "range" = none
  zip : mg "zip" = none
  enumerate : mg "enumerate" = none
  tuple : mg "tuple" = none
  sorted : mg "sorted" = none
  sum : mg "sum" = none
  any : mg "any" = none
  dict : mg "dict" = none
  min : mg "min" = none
  max : mg "max" = none
  len : mg "len" = none
  abs : mg "abs" = none
  int : mg "int" = none
  cls : ∃ C, Cls K C ∧ mg "Standing" = some (.ref C) ∧ (∃ f fd, FnP K "__init__" "Standing.__init__" s_init f fd ∧ Mk K C f) ∧ NoAttr K C "plan" ∧ NoAttr K C "odds" ∧ NoAttr K C "ends" ∧ NoAttr K C "ranks" ∧ NoAttr K C "gone" ∧
    MtAt K C "rank_of" "Standing.rank_of" s_rank_of ∧ MtAt K C "word_for" "Standing.word_for" s_word_for ∧ MtAt K C "done" "Standing.done" s_done
/-! the arity of a call told by the data -/
theorem spF_len {M : List PyData → PyData → Prop} {n : Nat} (h : ∀ ds r, M ds r → ds.length = n) : ∀ vs H Q E, spF M vs H Q E → vs.length = n := fun vs H Q E ⟨ds, r, m, t, _⟩ => t.length.trans (h ds r m)
theorem spL_len {M : List PyData → List PyData → Prop} {n : Nat} (h : ∀ ds r, M ds r → ds.length = n) : ∀ vs H Q E, spL M vs H Q E → vs.length = n := fun vs H Q E ⟨ds, r, m, t, _⟩ => t.length.trans (h ds r m)
/-! the data of the program -/
abbrev Tie := Int × Int × Int × Int
abbrev Rack := Int × Int × Int × Int
def quadD (t : Int × Int × Int × Int) : PyData := .tuple [.int t.1, .int t.2.1, .int t.2.2.1, .int t.2.2.2]
def netD (n : Int) (ties : List Tie) : PyData := .tuple [.int n, .tuple (ties.map quadD)]
structure Plan where
  n : Int
  ties : List Tie
  rates : List Int
  stock : List Rack
  days : Int
def planD (p : Plan) : PyData := .tuple [netD p.n p.ties, .tuple (p.rates.map .int), .tuple (p.stock.map quadD), .int p.days]
def optD : Option PyData → PyData
  | none => .none
  | some d => d
/-! tie_of -/
def tieFits (one other : Int) (t : Tie) : Bool := (t.1 == one && t.2.1 == other) || (t.1 == other && t.2.1 == one)
def tieOf (ties : List Tie) (one other : Int) : Option Tie := ties.find? (tieFits one other)
def M_tie_of (ds : List PyData) (r : PyData) : Prop := ∃ n ties one other, ds = [netD n ties, .int one, .int other] ∧ r = optD ((tieOf ties one other).map quadD)
section
variable {P : Program} {w : World} {K : PySem.W.Frag} {mg : Str → Option Value} {base : Heap}
theorem find_at {α : Type} {p : α → Bool} : ∀ {as : List α} {i : Nat} {d : α}, as[i]? = some d → p d = true → (∀ t ∈ as.take i, p t = false) → as.find? p = some d
  | [], _, _, h, _, _ => by simp at h
  | a :: as, 0, d, h, hp, _ => by
    simp at h
    subst h
    rw [List.find?_cons, hp]
  | a :: as, i + 1, d, h, hp, hn => by
    rw [List.find?_cons, hn a (by simp)]
    exact find_at (by simpa using h) hp fun t m => hn t (by simp [m])
theorem none_take {α : Type} {p : α → Bool} {as : List α} {i : Nat} {d : α} (h : as[i]? = some d) (hp : p d = false) (hn : ∀ t ∈ as.take i, p t = false) : ∀ t ∈ as.take (i + 1), p t = false := fun t m => by
  rw [List.take_add_one, h, List.mem_append] at m
  rcases m with m | m
  · exact hn t m
  · simp at m
    rw [m]
    exact hp
theorem find_no {α : Type} {p : α → Bool} {as : List α} (hn : ∀ t ∈ as.take as.length, p t = false) : as.find? p = none := by
  rw [List.take_length] at hn
  exact List.find?_eq_none.mpr fun t m => by simp [hn t m]
theorem Td.to {H : Hp} {v : V} {d d' : PyData} (h : Td H v d) (e : d = d') : Td H v d' := e ▸ h
theorem eqv2 (a b c d : Int) : PyData.eqv (.tuple [.int a, .int b]) (.tuple [.int c, .int d]) = (a == c && b == d) := by
  simp [PyData.eqv, PyData.eqvAll]
theorem hu65 {A : Around} {k : Nat} (r : Room k A) : A.units + 65 < cLine := by
  have := r.un
  omega
theorem hu64 {A : Around} {k : Nat} (r : Room k A) : A.units + 64 < cLine := by
  have := r.un
  omega
theorem hu1 {A : Around} {k : Nat} (r : Room k A) : A.units + 1 < cLine := by
  have := r.un
  omega
/-- a def keeps a promise: its body's reading does -/
theorem cal_of {x : Str} {st : Stmt} {N ps : List Str} {k : Nat} {sp : Sp} (FA : FnAt K mg x st) (S : FnScope N ps (defScope st))
    (hb : ∀ (kV doc pm : Value) (an : Option Addr) (cdv ct : Value) (us : List Value), us.length = ps.length → bindArgs (PySem.W.fnOf x x (defArgs st) (defBody st) (defScope st) .none kV doc pm an cdv ct) ⟨us, []⟩ = pure (ps.zip us))
    (len : ∀ vs H Q E, sp vs H Q E → vs.length = ps.length)
    (body : ∀ (f : Addr) (cdv : Value) (A : Around) (outer : List Env) (s : Shared) (H : Hp) (vs : List V) (Q : VK) (E : XK), Room k (A.deeper (envOfC x (defScope st) s.heap.objs.size f cdv)) → sp vs H Q E →
      ∃ t, PSs (cxOf CX0 P w K mg base N x (defScope st) f cdv A outer s H E) (defBody st) t ∧ t { nx := fun _ H' => Q .non H', rt := Q } (start N vs) H) : Cal P w K mg base x (k + 1) ps sp := by
  obtain ⟨f, fd, F, g⟩ := FA
  exact ⟨f, fd, F.ok S len (body f), g, F.kp, F.bindsN hb⟩
theorem cal_tie_of (T : Txt K mg) : Cal P w K mg base "tie_of" 1 p_tie_of (spF M_tie_of) := by
  refine cal_of T.tie_of sc_tie_of (fun _ _ _ _ _ _ us hl => match us, hl with | [_, _, _], _ => rfl) (spF_len fun ds r ⟨n, ties, one, other, e, _⟩ => by rw [e]; rfl) fun f cdv A outer s H vs Q E hr h => ?_
  obtain ⟨ds, r, ⟨n, ties, one, other, rfl, rfl⟩, t, q⟩ := h
  refine ⟨_, PSs.nox (pss_cons (ps_for PassesOwn.never rfl (pi_tup (pix K (pv 0) pe_int)) (pg_name (i := 3) sc_tie_of.nd rfl (.inl rfl))
      (pss_one (ps_if (pt_cmpR (op_inDT (hu65 hr)) (pe_slice sl_tupA (pv 3) po_none (po_some pe_int)) (pe_tup (pa_cons (pe_tup (pa_cons (pv 1) (pa_cons (pv 2) pa_nil))) (pa_cons (pe_tup (pa_cons (pv 2) (pa_cons (pv 1) pa_nil))) pa_nil))) rfl) (pss_one (ps_ret (pv 3))) pss_nil)))
    (pss_one (ps_ret pe_non))), ?_⟩
  obtain ⟨v0, v1, v2, rfl, t0, t1, t2⟩ := t.three
  refine q_for (L := []) (di_tup (de_ix (de_var (i := 0) rfl t0) de_int (i := 1) rfl)) nt_nil (fun i σ' H' => (∃ x, σ' = [some v0, some v1, some v2, x]) ∧ ∀ t ∈ ties.take i, tieFits one other t = false) (fun H2 _ => ⟨⟨_, rfl⟩, fun t m => by simp at m⟩) ?_ ?_
  · rintro H2 i d x σ' H0 H' s2 k kT hd td ⟨⟨y, rfl⟩, no⟩ s0
    have tx := de_var (σ := [some v0, some v1, some v2, some x]) (i := 3) rfl td
    have t1' := de_var (σ := [some v0, some v1, some v2, some x]) (i := 1) rfl (t1.mono kT)
    have t2' := de_var (σ := [some v0, some v1, some v2, some x]) (i := 2) rfl (t2.mono kT)
    have c := dt_test (de_in (K := K) (de_cut (K := K) (lo := none) (hi := some 2) tx po_n (po_i de_int)) (de_tup (da_cons (de_tup (da_cons t1' (da_cons t2' da_nil))) (da_cons (de_tup (da_cons t2' (da_cons t1' da_nil))) da_nil))))
    have ec : ([PyData.tuple [.int one, .int other], .tuple [.int other, .int one]].any fun z => PyData.eqv z (.tuple [.int d.1, .int d.2.1])) = tieFits one other d := by
      simp only [List.any_cons, List.any_nil, eqv2, Bool.or_false]
      unfold tieFits
      rw [Bool.beq_comm (a := one), Bool.beq_comm (a := other), Bool.beq_comm (a := other) (b := d.1), Bool.beq_comm (a := one) (b := d.2.1)]
    refine s_if (c.to ec) (fun h H1 s1 => s_ret (tx.mono s1) fun v H3 s3 t3 => q v H3 ?_ (t3.to ?_)) (fun h H1 s1 => ⟨?_, ⟨_, rfl⟩, ?_⟩)
    · exact (((s2.trans (k.same nofun)).trans s0).trans s1).trans s3
    · unfold tieOf
      rw [find_at hd h no]
      rfl
    · exact (k.s s0).s s1
    · exact none_take hd h no
  · rintro σ' H' k ⟨⟨y, rfl⟩, no⟩
    refine s_ret de_non fun v H3 s3 t3 => q v H3 ((k.same nofun).trans s3) (t3.to ?_)
    unfold tieOf
    rw [find_no no]
    rfl
end
end Tk

set_option Elab.async false
set_option linter.all false
set_option maxRecDepth 100000
set_option maxHeartbeats 2000000
/-! Dicts in readings: keys as data. -/
namespace Tk
open PySem PySem.Spec PyProof.Rows L2
section
variable {K : PySem.W.Frag} {σ : L2.St} {H H1 H2 H' : Hp} {ta tb te td ty tv tx : TE} {d e : PyData} {ds es : List PyData} {v : V} {a : Addr} {D : Ends} {tz tu tw : TS}
/-- an expression that gives the object at a -/
def OR (td : TE) (σ : L2.St) (H : Hp) (a : Addr) : Prop := ∀ H1, Same H H1 → ∀ Q : VK, Q (.ref a) H1 → td σ H1 Q
theorem or_var {i : Nat} (h : σ[i]? = some (some (.ref a))) : OR (tVar i) σ H a := fun H1 _ Q q => ⟨_, h, q⟩
theorem or_fld {p C dx : Addr} {fs : List (Str × V)} {f : Str} (ho : OR ta σ H p) (e : H p = some (.ins C dx fs)) (c : Cls K C) (n : NoAttr K C f) (l : fs.lookup f = some (.ref a)) : OR (tFld K ta f) σ H a := fun H1 s Q q =>
  ho H1 s _ ⟨p, C, dx, fs, _, rfl, s _ _ e, c, n, l, q⟩
theorem or_same (h : OR td σ H a) (s : Same H H1) : OR td σ H1 a := fun H2 s2 => h H2 (s.trans s2)
theorem key_items : ∀ {k : List Key} {xs : List V}, TdAll H xs (k.map kD) → xs = k.map kV
  | [], _, .nil => rfl
  | .inl i :: k, _, .cons r t => by
    rw [Td.int_ (i := i) r, key_items t]
    rfl
  | .inr x :: k, _, .cons r t => by
    rw [Td.str_ (x := x) r, key_items t]
    rfl
theorem td_key {k : List Key} (h : Td H v (keyD k)) : ∃ b, v = .ref b ∧ H b = some (.tup (k.map kV)) := by
  obtain ⟨b, xs, rfl, e, t⟩ := Td.inv (ds := k.map kD) h
  rw [key_items t] at e
  exact ⟨b, rfl, e⟩
theorem tdKeys : ∀ k : List Key, TdAll H (k.map kV) (k.map kD)
  | [] => .nil
  | .inl i :: k => .cons (.int i) (tdKeys k)
  | .inr x :: k => .cons (.str x) (tdKeys k)
theorem td_of_key {k : List Key} {b : Addr} (h : H b = some (.tup (k.map kV))) : Td H (.ref b) (keyD k) := .tup h (tdKeys k)
theorem dgK {kvs : List (Key × V)} {k : Key} {o : Option V} (e : H a = some (.dK kvs)) (h : valV kvs k = o) : DGet H a (kV k) o := h ▸ DGet.k e
theorem dgT {kvs : List (List Key × V)} {k : List Key} {o : Option V} (e : H a = some (.dT kvs)) (hk : Td H v (keyD k)) (h : valV kvs k = o) : DGet H a v o := by
  obtain ⟨b, rfl, eb⟩ := td_key hk
  exact h ▸ DGet.t e eb
/-! int keys -/
theorem t_din {kvs : List (Key × V)} {i : Int} {Q : Bool → Hp → Prop} (hy : DE ty σ H (.int i)) (hd : OR td σ H a) (e : H a = some (.dK kvs)) (q : ∀ H2, Same H H2 → Q (valV kvs (.inl i)).isSome H2) : tB (tDIn ty td) σ H Q :=
  hy.at_ fun v H2 s2 t2 => hd H2 s2 _ ⟨a, _, rfl, by rw [t2.int_]; exact dgK (k := .inl i) (s2 _ _ e) rfl, _, rfl, q H2 s2⟩
theorem t_dnotin {kvs : List (Key × V)} {i : Int} {Q : Bool → Hp → Prop} (hy : DE ty σ H (.int i)) (hd : OR td σ H a) (e : H a = some (.dK kvs)) (q : ∀ H2, Same H H2 → Q (!(valV kvs (.inl i)).isSome) H2) : tB (tDNotIn ty td) σ H Q :=
  hy.at_ fun v H2 s2 t2 => hd H2 s2 _ ⟨a, _, rfl, by rw [t2.int_]; exact dgK (k := .inl i) (s2 _ _ e) rfl, _, rfl, q H2 s2⟩
theorem e_dget {kvs : List (Key × V)} {i : Int} {x : V} {Q : VK} (hy : DE ty σ H (.int i)) (hd : OR td σ H a) (e : H a = some (.dK kvs)) (hx : valV kvs (.inl i) = some x) (q : ∀ H2, Same H H2 → Q x H2) : tDGet td ty σ H Q :=
  hd H (Same.refl _) _ (hy.at_ fun v H2 s2 t2 => ⟨a, x, rfl, by rw [t2.int_]; exact dgK (k := .inl i) (s2 _ _ e) hx, q H2 s2⟩)
theorem s_dput {kvs : List (Key × V)} {i : Int} (hv : DE tv σ H d) (hy : DE ty σ H (.int i)) (hd : OR td σ H a) (e : H a = some (.dK kvs)) (hl : kvs.length < sizeLine)
    (q : ∀ x H2, Same H H2 → Td H2 x d → D.nx σ (upd H2 a (.dK (putK kvs (.inl i) x)))) : sDPut td ty tv D σ H :=
  hv.at_ fun x H2 s2 t2 => hd H2 s2 _ ((hy.mono s2).at_ fun y H3 s3 t3 => ⟨a, _, rfl, by rw [t3.int_]; exact DPut.k (k := .inl i) ((s2.trans s3) _ _ e) hl, q x H3 (s2.trans s3) (t2.mono (.same s3))⟩)
/-! tuple keys -/
theorem t_dinT {kvs : List (List Key × V)} {k : List Key} {Q : Bool → Hp → Prop} (hy : DE ty σ H (keyD k)) (hd : OR td σ H a) (e : H a = some (.dT kvs)) (q : ∀ H2, Same H H2 → Q (valV kvs k).isSome H2) : tB (tDIn ty td) σ H Q :=
  hy.at_ fun v H2 s2 t2 => hd H2 s2 _ ⟨a, _, rfl, dgT (s2 _ _ e) t2 rfl, _, rfl, q H2 s2⟩
theorem e_dgetT {kvs : List (List Key × V)} {k : List Key} {x : V} {Q : VK} (hy : DE ty σ H (keyD k)) (hd : OR td σ H a) (e : H a = some (.dT kvs)) (hx : valV kvs k = some x) (q : ∀ H2, Same H H2 → Q x H2) : tDGet td ty σ H Q :=
  hd H (Same.refl _) _ (hy.at_ fun v H2 s2 t2 => ⟨a, x, rfl, dgT (s2 _ _ e) t2 hx, q H2 s2⟩)
theorem e_dget2T {kvs : List (List Key × V)} {k : List Key} {Q : VK} (hd : OR td σ H a) (hy : DE ty σ H (keyD k)) (hx : DE tx σ H d) (e : H a = some (.dT kvs)) (q : ∀ z H2, Same H H2 → Td H2 z d → Q ((valV kvs k).getD z) H2) : tDGet2 td ty tx σ H Q :=
  hd H (Same.refl _) _ ⟨a, rfl, .inr ⟨_, .inl e⟩, hy.at_ fun v H2 s2 t2 => (hx.mono s2).at_ fun z H3 s3 t3 => ⟨_, dgT ((s2.trans s3) _ _ e) (t2.mono (.same s3)) rfl, q z H3 (s2.trans s3) t3⟩⟩
theorem s_dputT {kvs : List (List Key × V)} {k : List Key} (hv : DE tv σ H d) (hy : DE ty σ H (keyD k)) (hd : OR td σ H a) (e : H a = some (.dT kvs)) (hl : kvs.length < sizeLine)
    (q : ∀ x H2, Same H H2 → Td H2 x d → D.nx σ (upd H2 a (.dT (putK kvs k x)))) : sDPut td ty tv D σ H :=
  hv.at_ fun x H2 s2 t2 => hd H2 s2 _ ((hy.mono s2).at_ fun y H3 s3 t3 => by
    obtain ⟨b, rfl, eb⟩ := td_key t3
    exact ⟨a, _, rfl, DPut.t ((s2.trans s3) _ _ e) eb hl, q x H3 (s2.trans s3) (t2.mono (.same s3))⟩)
theorem de_dget2T {kvs : List (List Key × V)} {k : List Key} (hd : OR td σ H a) (hy : DE ty σ H (keyD k)) (hx : DE tx σ H e) (ea : H a = some (.dT kvs)) (hv : ∀ v, valV kvs k = some v → Td H v d) (hn : valV kvs k = none → d = e) : DE (tDGet2 td ty tx) σ H d := fun H1 s1 Q q =>
  e_dget2T (or_same hd s1) (hy.mono s1) (hx.mono s1) (s1 _ _ ea) fun z H2 s2 t2 => by
    cases h : valV kvs k with
    | none =>
      rw [hn h] at q
      exact q z H2 s2 t2
    | some v => exact q v H2 s2 ((hv v h).mono (.same (s1.trans s2)))
theorem dt_dinT {kvs : List (List Key × V)} {k : List Key} (hy : DE ty σ H (keyD k)) (hd : OR td σ H a) (ea : H a = some (.dT kvs)) : DT (tB (tDIn ty td)) σ H (valV kvs k).isSome := fun H1 s1 Q q =>
  t_dinT (hy.mono s1) (or_same hd s1) (s1 _ _ ea) fun H2 s2 => q H2 s2
/-- statements in front -/
theorem q_dput {kvs : List (Key × V)} {i : Int} (hv : DE tv σ H d) (hy : DE ty σ H (.int i)) (hd : OR td σ H a) (e : H a = some (.dK kvs)) (hl : kvs.length < sizeLine)
    (q : ∀ x H2, Same H H2 → Td H2 x d → tz D σ (upd H2 a (.dK (putK kvs (.inl i) x)))) : tSeq (sDPut td ty tv) tz D σ H := s_dput (D := { D with nx := tz D }) hv hy hd e hl q
theorem q_dputT {kvs : List (List Key × V)} {k : List Key} (hv : DE tv σ H d) (hy : DE ty σ H (keyD k)) (hd : OR td σ H a) (e : H a = some (.dT kvs)) (hl : kvs.length < sizeLine)
    (q : ∀ x H2, Same H H2 → Td H2 x d → tz D σ (upd H2 a (.dT (putK kvs k x)))) : tSeq (sDPut td ty tv) tz D σ H := s_dputT (D := { D with nx := tz D }) hv hy hd e hl q
theorem yes_ {b : Bool} {p q : Prop} (h : b = true) (x : p) : if b = true then p else q := by
  rw [if_pos h]
  exact x
theorem no_ {b : Bool} {p q : Prop} (h : b = false) (x : q) : if b = true then p else q := by
  rw [h]
  exact x
theorem t_or {ua ub : TT} {Q : Bool → Hp → Prop} (h : ua σ H fun b H1 => if b = true then Q true H1 else ub σ H1 Q) : tOr ua ub σ H Q := h
theorem t_and {ua ub : TT} {Q : Bool → Hp → Prop} (h : ua σ H fun b H1 => if b = true then ub σ H1 Q else Q false H1) : tAnd ua ub σ H Q := h
theorem r_ret (h : te σ H D.rt) : tRet te D σ H := h
theorem q_seq (h : tu { D with nx := tz D } σ H) : tSeq tu tz D σ H := h
theorem r_asg {g : TG} (h : te σ H fun x H1 => g x σ H1 D.nx) : tAsg te g D σ H := h
theorem r_op {r : R2} {Q : VK} (h : ta σ H fun x H1 => tb σ H1 fun y H2 => r x y H2 Q) : tOp r ta tb σ H Q := h
theorem r_test {Q : Bool → Hp → Prop} (h : te σ H fun x H' => ∃ k, x = .bl k ∧ Q k H') : tTest te σ H Q := h
theorem nxt (h : D.nx σ H) : tNext D σ H := h
theorem gn {i : Nat} {k : L2.St → Hp → Prop} (h : k (σ.set i (some v)) H) : gName i v σ H k := h
/-- a test read where it stands -/
theorem s_ifT {tt : TT} (h : tt σ H fun b H1 => if b = true then tu D σ H1 else tw D σ H1) : tIfS tt tu tw D σ H := h
end
end Tk

set_option Elab.async false
set_option linter.all false
set_option maxRecDepth 100000
set_option maxHeartbeats 4000000
/-! The net: ties_along, miles, both_ways, way; racks_at, way_of, fare. -/
namespace Tk
open PySem PySem.Spec PyProof.Rows L2

/-! ### what they compute -/
def longs (ts : List Tie) : Int := (ts.map fun t => t.2.2.2).sum
def M_ties_along (ds : List PyData) (r : List PyData) : Prop := ∃ (n : Int) (ties : List Tie) (w : List Int), ds = [netD n ties, .tuple (w.map .int)] ∧ w.length ≤ 1000 ∧ r = (w.zip (w.drop 1)).map fun p => optD ((tieOf ties p.1 p.2).map quadD)
def M_miles (ds : List PyData) (r : PyData) : Prop := ∃ (n : Int) (ties : List Tie) (w : List Int) (ts : List Tie), ds = [netD n ties, .tuple (w.map .int)] ∧ w.length ≤ 1000 ∧ ((w.zip (w.drop 1)).map fun p => tieOf ties p.1 p.2) = ts.map some ∧ r = .int (longs ts)
abbrev Step := Int × Int × Int
def stepD (s : Step) : PyData := .tuple [.int s.1, .int s.2.1, .int s.2.2]
def stepsOf (t : Tie) : List Step := [(t.1, t.2.1, t.2.2.2), (t.2.1, t.1, t.2.2.2)]
def bothWays (ties : List Tie) : List Step := ties.flatMap stepsOf
def M_both_ways (ds : List PyData) (r : List PyData) : Prop := ∃ (n : Int) (ties : List Tie), ds = [netD n ties] ∧ ties.length ≤ 1000 ∧ r = (bothWays ties).map stepD
/-- miles, places, the row of places -/
abbrev Go := Int × Int × List Int
def goD (g : Go) : PyData := .tuple [.int g.1, .int g.2.1, .tuple (g.2.2.map .int)]
def goLt (a b : Go) : Bool := PySem.W.dataLt (goD a) (goD b)
abbrev Best := Int → Option Go
def put (b : Best) (k : Int) (g : Go) : Best := fun j => if j = k then some g else b j
def better (b : Best) (k : Int) (g : Go) : Bool := match b k with
  | none => true
  | some old => goLt g old
def goOn (g : Go) (s : Step) : Go := (g.1 + s.2.2, g.2.1 + 1, g.2.2 ++ [s.2.1])
def stepB (b : Best) (s : Step) : Best := match b s.1 with
  | none => b
  | some g => if better b s.2.1 (goOn g s) then put b s.2.1 (goOn g s) else b
def turnB (ties : List Tie) (b : Best) : Best := (bothWays ties).foldl stepB b
def bestOf (ties : List Tie) (one : Int) (n : Nat) : Best := Nat.rec (fun j => if j = one then some (0, 1, [one]) else none) (fun _ b => turnB ties b) n
def wayOf (n : Int) (ties : List Tie) (one other : Int) : Option (List Int) := (bestOf ties one n.toNat other).map fun g => g.2.2
def M_way (ds : List PyData) (r : PyData) : Prop := ∃ (n : Int) (ties : List Tie) (one other : Int) (w : List Int), ds = [netD n ties, .int one, .int other] ∧ 0 ≤ n ∧ n ≤ 1000 ∧ ties.length ≤ 1000 ∧ wayOf n ties one other = some w ∧ r = .tuple (w.map .int)

section
variable {P : Program} {w : World} {K : PySem.W.Frag} {mg : Str → Option Value} {base : Heap}
theorem cal_ties_along (T : Txt K mg) : Cal P w K mg base "ties_along" 2 p_ties_along (spL M_ties_along) := by
  refine cal_of T.ties_along sc_ties_along (fun _ _ _ _ _ _ us hl => match us, hl with | [_, _], _ => rfl) (spL_len fun ds r ⟨n, ties, w, e, _⟩ => by rw [e]; rfl) fun f cdv A outer s H vs Q E hr h => ?_
  obtain ⟨ds, r, ⟨n, ties, ws, rfl, hw, rfl⟩, t, q⟩ := h
  have C : Cal P w K mg base "tie_of" 1 p_tie_of (spF M_tie_of) := cal_tie_of T
  refine ⟨_, PSs.nox (pss_one (ps_ret (pe_lc rfl sc_ties_along.nd (RZ.pi_zipA rfl T.zip (pa_cons (pv 1) (pa_cons (pe_slice (slT K) (pv 1) (po_some pe_int) po_none) pa_nil))) (own := [("one", 2), ("other", 3)]) (blkOk_by (N := n_ties_along) (sc := defScope s_ties_along) (by decide +kernel))
    (fun _ _ _ _ _ => pgt K 2 (pgs_cons (pg_name (i := 2) sc_ties_along.nd rfl (.inl rfl)) (pgs_cons (pg_name (i := 3) sc_ties_along.nd rfl (.inl rfl)) pgs_nil))) (fun _ _ _ _ _ => pts_nil) (fun _ _ _ _ _ => pe_cal C hr rfl (pa_cons (pv 0) (pa_cons (pv 2) (pa_cons (pv 3) pa_nil))))))), ?_⟩
  obtain ⟨v0, v1, rfl, t0, t1⟩ := t.two
  have hi := di_zipT (K := K) (de_var (σ := start n_ties_along [v0, v1]) (i := 1) rfl t1) (de_cut (K := K) (lo := some ((1 : Nat) : Int)) (hi := none) (de_var (σ := start n_ties_along [v0, v1]) (i := 1) rfl t1) (po_i de_int) po_n)
  rw [cut_from, pairs_map] at hi
  refine s_retL ((dl_lcG (as := ws.zip (ws.drop 1)) (fun _ => true) (fun p => optD ((tieOf ties p.1 p.2).map quadD)) hi ?_ ?_).to (by rw [filter_yes])) q
  · rw [List.length_zip]
    exact Nat.lt_of_le_of_lt (Nat.le_trans (Nat.min_le_left ..) hw) (by decide)
  · intro d hd v H1 k tv Q q
    refine g_pair tv fun x y tx ty => q _ rfl dt_yes fun _ => ?_
    exact de_call (da_cons (de_var (i := 0) rfl (t0.mono (.same k))) (da_cons (de_var (i := 2) rfl tx) (da_cons (de_var (i := 3) rfl ty) da_nil))) ⟨n, ties, _, _, rfl, rfl⟩
theorem cal_miles (T : Txt K mg) : Cal P w K mg base "miles" 3 p_miles (spF M_miles) := by
  refine cal_of T.miles sc_miles (fun _ _ _ _ _ _ us hl => match us, hl with | [_, _], _ => rfl) (spF_len fun ds r ⟨n, ties, w, ts, e, _⟩ => by rw [e]; rfl) fun f cdv A outer s H vs Q E hr h => ?_
  obtain ⟨ds, r, ⟨n, ties, ws, ts, rfl, hw, ht, rfl⟩, t, q⟩ := h
  have C : Cal P w K mg base "ties_along" 2 p_ties_along (spL M_ties_along) := cal_ties_along T
  refine ⟨_, PSs.nox (pss_one (ps_ret (pe_callB (crSum K) rfl T.sum boot_sum (pa_cons (pe_lc rfl sc_miles.nd (pi_list (pe_cal C hr rfl (pa_cons (pv 0) (pa_cons (pv 1) pa_nil)))) (own := [("tie", 2)]) (blkOk_by (N := n_miles) (sc := defScope s_miles) (by decide +kernel))
    (fun _ _ _ _ _ => pg_name (i := 2) sc_miles.nd rfl (.inl rfl)) (fun _ _ _ _ _ => pts_nil) (fun _ _ _ _ _ => pix K (pv 2) pe_int)) pa_nil)))), ?_⟩
  obtain ⟨v0, v1, rfl, t0, t1⟩ := t.two
  have hl : ts.length ≤ 1000 := by
    have := congrArg List.length ht
    rw [List.length_map, List.length_map, List.length_zip] at this
    omega
  have hi := di_list (K := K) (dl_call (M := M_ties_along) (E := E0) (da_cons (de_var (σ := start n_miles [v0, v1]) (i := 0) rfl t0) (da_cons (de_var (i := 1) rfl t1) da_nil)) (es := ts.map quadD) ⟨n, ties, ws, rfl, hw, by
    have := congrArg (List.map fun o : Option Tie => optD (o.map quadD)) ht
    rw [List.map_map, List.map_map] at this
    exact this.symm⟩)
  refine s_ret (de_sum (ns := ts.map fun t : Tie => t.2.2.2) ((dl_lc (as := ts) (fun _ => true) (fun t => .int t.2.2.2) hi (by
    exact Nat.lt_of_le_of_lt hl (by decide)) (fun _ => rfl) ?_).to (by rw [filter_yes, List.map_map]; rfl))) q
  intro d hd v H1 k tv
  exact ⟨dt_yes, fun _ => de_ix (de_var (i := 2) rfl tv) (de_int (i := ((3 : Nat) : Int))) rfl⟩
theorem cal_both_ways (T : Txt K mg) : Cal P w K mg base "both_ways" 1 p_both_ways (spL M_both_ways) := by
  refine cal_of T.both_ways sc_both_ways (fun _ _ _ _ _ _ us hl => match us, hl with | [_], _ => rfl) (spL_len fun ds r ⟨n, ties, e, _⟩ => by rw [e]; rfl) fun f cdv A outer s H vs Q E hr h => ?_
  obtain ⟨ds, r, ⟨n, ties, rfl, hw, rfl⟩, t, q⟩ := h
  refine ⟨_, PSs.nox (pss_cons (ps_set (i := 1) sc_both_ways.nd rfl (.inl rfl) (pe_lst pa_nil)) (pss_cons (ps_for PassesOwn.never rfl (pi_tup (pix K (pv 0) pe_int))
      (pgt K 4 (pgs_cons (pg_name (i := 2) sc_both_ways.nd rfl (.inl rfl)) (pgs_cons (pg_name (i := 3) sc_both_ways.nd rfl (.inl rfl)) (pgs_cons (pg_name (i := 4) sc_both_ways.nd rfl (.inl rfl)) (pgs_cons (pg_name (i := 5) sc_both_ways.nd rfl (.inl rfl)) pgs_nil)))))
      (pss_cons (ps_expr (papp (pv 1) (pa_cons (pe_tup (pa_cons (pv 2) (pa_cons (pv 3) (pa_cons (pv 5) pa_nil)))) pa_nil)))
        (pss_one (ps_expr (papp (pv 1) (pa_cons (pe_tup (pa_cons (pv 3) (pa_cons (pv 2) (pa_cons (pv 5) pa_nil)))) pa_nil))))))
    (pss_one (ps_ret (pv 1))))), ?_⟩
  obtain ⟨v0, rfl, t0⟩ := t.one
  refine s_setL (dl_lst da_nil) fun l xs0 H1 nl s1 hl0 tl0 => ?_
  cases tl0
  refine q_for (L := [l]) (en := quadD) (as := ties) (di_tup (de_ix (de_var (i := 0) rfl (t0.mono (.same s1))) (de_int (i := ((1 : Nat) : Int))) rfl)) (nt_one (.lst hl0)) (fun i σ' H' => ∃ a b c d xs, σ' = [some v0, some (.ref l), a, b, c, d] ∧ H' l = some (.lst xs) ∧ TdAll H' xs ((bothWays (ties.take i)).map stepD) ∧ xs.length ≤ 2 * i) (fun H2 s => ⟨none, none, none, none, [], rfl, s _ _ hl0, .nil, by simp⟩) ?_ ?_
  · rintro H2 i d x σ' H0 H' s2 k kT hd td ⟨a, b, c, e, xs, rfl, hl, tx, zx⟩ s0
    refine g_four td fun x2 x3 x4 x5 t2 t3 t4 t5 => ?_
    have hi : i < ties.length := (List.getElem?_eq_some_iff.mp hd).1
    have hl' := s0 _ _ hl
    refine q_app hl' (o_var rfl) (de_tup (da_cons (de_var (i := 2) rfl t2) (da_cons (de_var (i := 3) rfl t3) (da_cons (de_var (i := 5) rfl t5) da_nil)))) (Nat.lt_of_le_of_lt zx (Nat.lt_of_lt_of_le (by omega : 2 * i < 2001) (by decide))) fun y H3 s3 ty => ?_
    have e3 := s3 _ _ hl'
    have k3 : TK H' (upd H3 l (.lst (xs ++ [y]))) := (TK.same s3).trans (.put e3 fun _ z => by cases z)
    refine s_app (xs := xs ++ [y]) upd_same (o_var rfl) (de_tup (da_cons (de_var (i := 3) rfl (t3.mono k3)) (da_cons (de_var (i := 2) rfl (t2.mono k3)) (da_cons (de_var (i := 5) rfl (t5.mono k3)) da_nil)))) (by rw [List.length_append]; exact Nat.lt_of_le_of_lt (Nat.add_le_add_right zx _) (Nat.lt_of_lt_of_le (by simp; omega : 2 * i + [y].length < 2002) (by decide))) fun z H4 s4 tz => ?_
    have e4 := s4 _ _ (upd_same (H := H3) (a := l) (o := .lst (xs ++ [y])))
    have m34 : TK H3 (upd H4 l (.lst ((xs ++ [y]) ++ [z]))) := ((TK.put e3 fun _ z => by cases z).s s4).trans (.put e4 fun _ z => by cases z)
    have m4 : TK H4 (upd H4 l (.lst ((xs ++ [y]) ++ [z]))) := .put e4 fun _ z => by cases z
    refine ⟨?_, _, _, _, _, (xs ++ [y]) ++ [z], rfl, upd_same, ?_, ?_⟩
    · exact ((((k.s s0).s s3).trans (.put (List.mem_singleton.mpr rfl))).s s4).trans (.put (List.mem_singleton.mpr rfl))
    · have et : (bothWays (ties.take (i + 1))).map stepD = ((bothWays (ties.take i)).map stepD ++ [stepD (d.1, d.2.1, d.2.2.2)]) ++ [stepD (d.2.1, d.1, d.2.2.2)] := by
        rw [List.take_add_one, hd]
        unfold bothWays
        rw [List.flatMap_append, List.map_append, List.append_assoc]
        rfl
      rw [et]
      exact ((tx.mono (((TK.same s0).s s3).trans m34)).snoc (ty.mono m34)).snoc (tz.mono m4)
    · simp
      omega
  · rintro σ' H' k ⟨a, b, c, e, xs, rfl, hl, tx, zx⟩
    rw [List.take_length] at tx
    exact ⟨_, rfl, q l xs H' nl (KL.fresh (L := []) s1 k (fun p m => .inr (by rw [List.mem_singleton.mp m]; exact nl)) |>.same nofun) hl tx⟩
/-- the dict of ways, by a function -/
def BestAt (H : Hp) (kvs : List (Key × V)) (b : Best) : Prop := ∀ k : Int, match b k with
  | none => valV kvs (.inl k) = none
  | some g => ∃ v, valV kvs (.inl k) = some v ∧ Td H v (goD g)
theorem BestAt.mono {H H' : Hp} {kvs : List (Key × V)} {b : Best} (k : TK H H') (h : BestAt H kvs b) : BestAt H' kvs b := fun j => by
  have := h j
  cases e : b j with
  | none =>
    rw [e] at this
    exact this
  | some g =>
    rw [e] at this
    obtain ⟨v, h1, h2⟩ := this
    exact ⟨v, h1, h2.mono k⟩
theorem BestAt.none {H : Hp} {kvs : List (Key × V)} {b : Best} {k : Int} (h : BestAt H kvs b) (e : b k = .none) : valV kvs (.inl k) = .none := by
  have := h k
  rw [e] at this
  exact this
theorem BestAt.some {H : Hp} {kvs : List (Key × V)} {b : Best} {k : Int} {g : Go} (h : BestAt H kvs b) (e : b k = .some g) : ∃ v, valV kvs (.inl k) = .some v ∧ Td H v (goD g) := by
  have := h k
  rw [e] at this
  exact this
theorem BestAt.isSome {H : Hp} {kvs : List (Key × V)} {b : Best} (h : BestAt H kvs b) (k : Int) : (valV kvs (.inl k)).isSome = (b k).isSome := by
  cases e : b k with
  | none =>
    rw [h.none e]
    rfl
  | some g =>
    obtain ⟨v, h1, _⟩ := h.some e
    rw [h1]
    rfl
theorem BestAt.put {H : Hp} {kvs : List (Key × V)} {b : Best} {k : Int} {g : Go} {x : V} (h : BestAt H kvs b) (t : Td H x (goD g)) : BestAt H (putK kvs (.inl k) x) (put b k g) := fun j => by
  unfold Tk.put
  rw [valV_put]
  by_cases e : j = k
  · subst e
    simp only [if_true]
    exact ⟨x, rfl, t⟩
  · have e' : ¬ ((Sum.inl j : Key) = Sum.inl k) := fun z => e (Sum.inl.inj z)
    rw [if_neg e']
    simp only [if_neg e]
    exact h j
theorem alike_ints : ∀ ns ms : List Int, PySem.W.alikeAll (ns.map .int) (ms.map .int) = true
  | [], _ => by
    simp [PySem.W.alikeAll]
  | _ :: _, [] => by
    simp [PySem.W.alikeAll]
  | n :: ns, m :: ms => by
    have := alike_ints ns ms
    simp only [List.map_cons, PySem.W.alikeAll, PySem.W.alike, Bool.true_and]
    exact this
theorem alike_go (a b : Go) : PySem.W.alike (goD a) (goD b) = true := by
  simp only [goD, PySem.W.alike, PySem.W.alikeAll, Bool.true_and, Bool.and_true]
  exact alike_ints _ _
theorem depth_go (g : Go) : (goD g).depth ≤ 64 := by
  simp [goD, PyData.depth, PyData.depthAll, PySem.W.depth_ints]
theorem lenB {ties : List Tie} : (bothWays ties).length = 2 * ties.length := by
  unfold bothWays
  induction ties with
  | nil => rfl
  | cons t ts ih =>
    rw [List.flatMap_cons, List.length_append, ih]
    show 2 + _ = 2 * (ts.length + 1)
    omega
/-- no row is longer than the steps done -/
def BestLe (b : Best) (m : Nat) : Prop := ∀ j g, b j = some g → g.2.2.length ≤ m
theorem stepB_le {b : Best} {m : Nat} {s : Step} (h : BestLe b m) : BestLe (stepB b s) (m + 1) := by
  intro j g e
  unfold stepB at e
  cases e1 : b s.1 with
  | none =>
    rw [e1] at e
    have := h j g e
    omega
  | some g0 =>
    rw [e1] at e
    simp only at e
    split at e
    · unfold Tk.put at e
      split at e
      · cases e
        have := h _ _ e1
        show (g0.2.2 ++ [_]).length ≤ _
        rw [List.length_append]
        exact Nat.add_le_add_right this 1
      · have := h j g e
        omega
    · have := h j g e
      omega
theorem fold_le {ss : List Step} : ∀ {b : Best} {m : Nat}, BestLe b m → BestLe (ss.foldl stepB b) (m + ss.length) := by
  induction ss with
  | nil => exact fun h => h
  | cons s ss ih =>
    intro b m h
    have := ih (stepB_le (s := s) h)
    rw [List.length_cons, show m + (ss.length + 1) = m + 1 + ss.length by omega]
    exact this
theorem bestOf_le (ties : List Tie) (one : Int) : ∀ n, BestLe (bestOf ties one n) (1 + n * (2 * ties.length))
  | 0 => by
    intro j g e
    replace e : (if j = one then some (0, 1, [one]) else none) = some g := e
    split at e
    · cases e
      exact Nat.le_add_right 1 _
    · cases e
  | n + 1 => by
    have h := fold_le (ss := bothWays ties) (bestOf_le ties one n)
    rw [lenB] at h
    rw [show 1 + (n + 1) * (2 * ties.length) = 1 + n * (2 * ties.length) + 2 * ties.length by rw [Nat.succ_mul]; omega]
    exact h
theorem cal_way (T : Txt K mg) : Cal P w K mg base "way" 2 p_way (spF M_way) := by
  refine cal_of T.way sc_way (fun _ _ _ _ _ _ us hl => match us, hl with | [_, _, _], _ => rfl) (spF_len fun ds r ⟨n, ties, one, other, w, e, _⟩ => by rw [e]; rfl) fun f cdv A outer s H vs Q E hr h => ?_
  obtain ⟨ds, r, ⟨n, ties, one, other, ws, rfl, n0, n1, hl, hw, rfl⟩, t, q⟩ := h
  have C : Cal P w K mg base "both_ways" 1 p_both_ways (spL M_both_ways) := cal_both_ways T
  refine ⟨_, PSs.nox (pss_cons (ps_set (i := 3) sc_way.nd rfl (.inl rfl) (pe_disp (pps_cons (pv 1) (pe_tup (pa_cons pe_int (pa_cons pe_int (pa_cons (pe_tup (pa_cons (pv 1) pa_nil)) pa_nil)))) pps_nil) rfl rfl (by nofun) (by decide)))
    (pss_cons (ps_for PassesOwn.never rfl (pi_range1 rfl T.range (pa_cons (pix K (pv 0) pe_int) pa_nil)) (pg_name (i := 4) sc_way.nd rfl (.inl rfl))
      (pss_one (ps_for PassesOwn.never rfl (pi_list (pe_cal C hr rfl (pa_cons (pv 0) pa_nil))) (pgt K 3 (pgs_cons (pg_name (i := 5) sc_way.nd rfl (.inl rfl)) (pgs_cons (pg_name (i := 6) sc_way.nd rfl (.inl rfl)) (pgs_cons (pg_name (i := 7) sc_way.nd rfl (.inl rfl)) pgs_nil))))
        (pss_one (ps_if (pt_cmp (pc_din (hu1 hr) (pv 5) (pv 3))) (pss_cons (ps_asg (pe_dget (hu1 hr) (pv 3) (pv 5) (fun _ _ => rfl)) (pgt K 3 (pgs_cons (pg_name (i := 8) sc_way.nd rfl (.inl rfl)) (pgs_cons (pg_name (i := 9) sc_way.nd rfl (.inl rfl)) (pgs_cons (pg_name (i := 10) sc_way.nd rfl (.inl rfl)) pgs_nil)))))
          (pss_cons (ps_set (i := 11) sc_way.nd rfl (.inl rfl) (pe_tup (pa_cons (pe_op op_add (pv 8) (pv 7)) (pa_cons (pe_op op_add (pv 9) pe_int) (pa_cons (pe_op (oCatA K) (pv 10) (pe_tup (pa_cons (pv 6) pa_nil))) pa_nil)))))
            (pss_one (ps_if (pw_or (pt_cmp (pc_dnotin (hu1 hr) (pv 6) (pv 3))) (pw_or1 (pt_cmpR (oLtD K (hu64 hr)) (pv 11) (pe_dget (hu1 hr) (pv 3) (pv 6) (fun _ _ => rfl)) (nomark _)))).pt (pss_one (ps_dput (hu1 hr) (pv 3) (pv 6) (pv 11) rfl)) pss_nil)))) pss_nil)))))
    (pss_cons (ps_if (pt_cmp (pc_dnotin (hu1 hr) (pv 2) (pv 3))) (pss_one (ps_ret pe_non)) pss_nil)
    (pss_one (ps_ret (pix K (pe_dget (hu1 hr) (pv 3) (pv 2) (fun _ _ => rfl)) pe_int)))))), ?_⟩
  obtain ⟨v0, v1, v2, rfl, t0, t1, t2⟩ := t.three
  -- best = {one: (0, 1, (one,))}
  intro best nb
  refine (de_var (d := .int one) (i := 1) rfl (t1.mono (.new nb))).at_ fun x Ha sa ta => ?_
  have sHa : Same H Ha := (same_new nb).trans sa
  refine (de_tup (da_cons de_int (da_cons de_int (da_cons (de_tup (da_cons (de_var (d := .int one) (i := 1) rfl (t1.mono (.same sHa))) da_nil)) da_nil)))).at_ fun y Hb sb tb => ?_
  have sHb : Same H Hb := sHa.trans sb
  have eb : Hb best = some (.dK []) := (sa.trans sb) _ _ upd_same
  refine ⟨eb, [(.inl one, y)], by rw [ta.int_]; rfl, by simp, ?_⟩
  have kb : KL [best] H (upd Hb best (.dK (mergeK [] [(.inl one, y)]))) := (KL.of sHb).trans (.put (List.mem_singleton.mpr rfl))
  have mb : TK Hb (upd Hb best (.dK (mergeK [] [(.inl one, y)]))) := .put eb fun _ z => by cases z
  have B0 : BestAt (upd Hb best (.dK (mergeK [] [(.inl one, y)]))) (mergeK [] [(.inl one, y)]) (bestOf ties one 0) := by
    have h0 : BestAt (upd Hb best (.dK (mergeK [] [(.inl one, y)]))) [] fun _ => none := fun _ => rfl
    exact h0.put (k := one) (g := (0, 1, [one])) (tb.mono mb)
  generalize hH1 : upd Hb best (.dK (mergeK [] [(.inl one, y)])) = H1 at kb mb B0
  have e1 : H1 best = some (.dK (mergeK [] [(.inl one, y)])) := by rw [← hH1]; exact upd_same
  have kT1 : TK H H1 := (TK.same sHb).trans mb
  have z1 : (mergeK [] [((.inl one : Key), y)]).length ≤ 1 := Nat.le_refl _
  generalize mergeK [] [((.inl one : Key), y)] = kvs1 at e1 B0 z1
  refine gn ?_
  refine q_for (L := [best]) (as := List.range n.toNat) (en := fun i : Nat => PyData.int (0 + (i : Int))) (di_range1 (de_ix (de_var (d := netD n ties) (i := 0) rfl (t0.mono kT1)) (de_int (i := ((0 : Nat) : Int))) rfl) (by omega)) (nt_one (.dK e1))
    (fun i σ' H' => ∃ a4 a5 a6 a7 a8 a9 a10 a11 kvs, σ' = [some v0, some v1, some v2, some (.ref best), a4, a5, a6, a7, a8, a9, a10, a11] ∧ H' best = some (.dK kvs) ∧ BestAt H' kvs (bestOf ties one i) ∧ kvs.length ≤ 1 + i * (2 * ties.length))
    (fun H2 s => ⟨none, none, none, none, none, none, none, none, kvs1, rfl, s _ _ e1, B0.mono (.same s), by simpa using z1⟩) ?_ ?_
  · rintro H2 i d x4 σ' H0 H' s2 k kT hd td ⟨a4, a5, a6, a7, a8, a9, a10, a11, kvs, rfl, ek, B, z⟩ s0
    have ek' := s0 _ _ ek
    have hi : i < n.toNat := by
      have := (List.getElem?_eq_some_iff.mp hd).1
      rwa [List.length_range] at this
    refine s_for (L := [best]) (as := bothWays ties) (en := stepD) (di_list (dl_call (M := M_both_ways) (E := E0) (da_cons (de_var (d := netD n ties) (i := 0) rfl (t0.mono (kT1.trans kT))) da_nil) ⟨n, ties, rfl, hl, rfl⟩)) (nt_one (.dK ek'))
      (fun j σ' H'' => ∃ a5 a6 a7 a8 a9 a10 a11 kvs, σ' = [some v0, some v1, some v2, some (.ref best), some x4, a5, a6, a7, a8, a9, a10, a11] ∧ H'' best = some (.dK kvs) ∧ BestAt H'' kvs (((bothWays ties).take j).foldl stepB (bestOf ties one i)) ∧ kvs.length ≤ 1 + i * (2 * ties.length) + j)
      (fun H2 s => ⟨a5, a6, a7, a8, a9, a10, a11, kvs, rfl, s _ _ ek', B.mono (.same (s0.trans s)), by omega⟩) ?_ ?_
    · rintro H3 j st x σ' H4 H5 s3 k3 kT3 hst tx ⟨b5, b6, b7, b8, b9, b10, b11, kvs, rfl, ek, B, z⟩ s4
      have hj : j < 2 * ties.length := by
        have := (List.getElem?_eq_some_iff.mp hst).1
        rwa [lenB] at this
      have hn : i * (2 * ties.length) ≤ 999 * 2000 := Nat.mul_le_mul (by omega) (by omega)
      have zl : kvs.length < sizeLine := Nat.lt_of_lt_of_le (by omega : kvs.length < 2100000) (by decide)
      have efold : (((bothWays ties).take (j + 1)).foldl stepB (bestOf ties one i)) = stepB (((bothWays ties).take j).foldl stepB (bestOf ties one i)) st := by
        rw [List.take_add_one, hst, List.foldl_append]
        rfl
      have le : BestLe (((bothWays ties).take j).foldl stepB (bestOf ties one i)) 2100000 := fun jj g e => by
        have h1 := fold_le (ss := (bothWays ties).take j) (bestOf_le ties one i) jj g e
        have h2 := List.length_take_le j (bothWays ties)
        omega
      rw [efold]
      generalize ((bothWays ties).take j).foldl stepB (bestOf ties one i) = b at B le
      refine g_three tx fun x5 x6 x7 t5 t6 t7 => ?_
      have ek5 := s4 _ _ ek
      refine s_ifT (t_din (de_var (i := 5) rfl t5) (or_var rfl) ek5 fun H6 s6 => ?_)
      rw [B.isSome]
      cases eb1 : b st.1 with
      | none =>
        refine no_ rfl ?_
        refine ⟨(k3.s s4).s s6, _, _, _, _, _, _, _, kvs, rfl, s6 _ _ ek5, ?_, by omega⟩
        unfold stepB
        rw [eb1]
        exact B.mono (.same (s4.trans s6))
      | some g =>
        obtain ⟨gv, hgv, tg⟩ := B.some eb1
        have ek6 := s6 _ _ ek5
        refine yes_ rfl (q_seq (r_asg ?_))
        refine e_dget (i := st.1) (de_var (i := 5) rfl (t5.mono (.same s6))) (or_var rfl) ek6 hgv fun H7 s7 => ?_
        have s47 := (s4.trans s6).trans s7
        refine g_three (tg.mono (.same s47)) fun x8 x9 x10 t8 t9 t10 => ?_
        have s57 := s6.trans s7
        have hgl := le _ _ eb1
        refine s_set (i := 11) (d := goD (goOn g st)) ((de_tup (da_cons (de_I0 (de_var (i := 8) rfl t8) (de_var (i := 7) rfl (t7.mono (.same s57)))) (da_cons (de_I0 (de_var (i := 9) rfl t9) de_int) (da_cons (de_catT (K := K) (de_var (i := 10) rfl t10) (de_tup (da_cons (de_var (i := 6) rfl (t6.mono (.same s57))) da_nil)) ?_) da_nil)))).to ?_) fun x11 H8 s8 t11 => ?_
        · rw [List.length_map]
          exact Nat.le_trans (Nat.add_le_add_right hgl 1) (by decide)
        · show PyData.tuple [_, _, _] = PyData.tuple [_, _, _]
          rw [show (goOn g st).2.2 = g.2.2 ++ [st.2.1] from rfl, List.map_append]
          rfl
        have s48 := s47.trans s8
        have s58 := s57.trans s8
        have ek8 := s48 _ _ ek
        have t6' := t6.mono (.same s58)
        -- end not in best or found < best[end]
        have finish : ∀ H9, Same H8 H9 → (better b st.2.1 (goOn g st) = true) → sDPut (tVar 3) (tVar 6) (tVar 11) { nx := fun σ4 H4_1 => KL [best] H3 H4_1 ∧ ∃ a5 a6 a7 a8 a9 a10 a11 kvs, σ4 = [some v0, some v1, some v2, some (.ref best), some x4, a5, a6, a7, a8, a9, a10, a11] ∧ H4_1 best = some (.dK kvs) ∧ BestAt H4_1 kvs (stepB b st) ∧ kvs.length ≤ 1 + i * (2 * ties.length) + (j + 1), rt := Q }
            [some v0, some v1, some v2, some (.ref best), some x4, some x5, some x6, some x7, some x8, some x9, some x10, some x11] H9 := fun H9 s9 hb => by
          have ek9 := s9 _ _ ek8
          refine s_dput (i := st.2.1) (d := goD (goOn g st)) (de_var (i := 11) rfl (t11.mono (.same s9))) (de_var (i := 6) rfl (t6'.mono (.same s9))) (or_var rfl) ek9 zl fun y HA sA tA => ?_
          have ekA := sA _ _ ek9
          have mA : TK HA (upd HA best (.dK (putK kvs (.inl st.2.1) y))) := .put ekA fun _ z => by cases z
          refine ⟨((((k3.s s48).s s9).s sA)).trans (.put (List.mem_singleton.mpr rfl)), _, _, _, _, _, _, _, _, rfl, upd_same, ?_, ?_⟩
          · unfold stepB
            rw [eb1]
            simp only
            rw [if_pos hb]
            exact (B.mono ((TK.same ((s48.trans s9).trans sA)).trans mA)).put (tA.mono mA)
          · have := length_putK kvs (.inl st.2.1) y
            omega
        have skip : ∀ H9, Same H8 H9 → (better b st.2.1 (goOn g st) = false) → KL [best] H3 H9 ∧ ∃ a5 a6 a7 a8 a9 a10 a11 kvs, ([some v0, some v1, some v2, some (.ref best), some x4, some x5, some x6, some x7, some x8, some x9, some x10, some x11] : L2.St) = [some v0, some v1, some v2, some (.ref best), some x4, a5, a6, a7, a8, a9, a10, a11] ∧ H9 best = some (.dK kvs) ∧ BestAt H9 kvs (stepB b st) ∧ kvs.length ≤ 1 + i * (2 * ties.length) + (j + 1) := fun H9 s9 hb => by
          refine ⟨(k3.s s48).s s9, _, _, _, _, _, _, _, kvs, rfl, s9 _ _ ek8, ?_, by omega⟩
          unfold stepB
          rw [eb1]
          simp only
          rw [hb]
          exact B.mono (.same (s48.trans s9))
        refine s_ifT (t_or ?_)
        refine t_dnotin (i := st.2.1) (de_var (i := 6) rfl t6') (or_var rfl) ek8 fun H9 s9 => ?_
        rw [B.isSome]
        cases eb2 : b st.2.1 with
        | none => exact yes_ rfl (yes_ rfl (finish H9 s9 (by unfold better; rw [eb2])))
        | some old =>
          obtain ⟨ov, hov, tov⟩ := B.some eb2
          refine no_ rfl (r_test (r_op ⟨x11, rfl, ?_⟩))
          refine e_dget (i := st.2.1) (de_var (i := 6) rfl (t6'.mono (.same s9))) (or_var rfl) (s9 _ _ ek8) hov fun HA sA => ?_
          refine ⟨goD (goOn g st), goD old, (t11.mono (.same (s9.trans sA))).dp, (tov.mono (.same ((s48.trans s9).trans sA))).dp, alike_go _ _, by nofun, ?_, ?_⟩
          · exact depth_go _
          · have eb3 : better b st.2.1 (goOn g st) = goLt (goOn g st) old := by
              unfold better
              rw [eb2]
            cases hlt : goLt (goOn g st) old with
            | true =>
              refine ⟨_, rfl, yes_ hlt ?_⟩
              exact finish HA (s9.trans sA) (eb3.trans hlt)
            | false =>
              refine ⟨_, rfl, no_ hlt ?_⟩
              exact skip HA (s9.trans sA) (eb3.trans hlt)
    · rintro σ'' H'' k3 ⟨b5, b6, b7, b8, b9, b10, b11, kvs, rfl, ek, B, z⟩
      refine ⟨(k.s s0).trans k3, _, _, _, _, _, _, _, _, kvs, rfl, ek, ?_, ?_⟩
      · rw [List.take_length] at B
        exact B
      · rw [lenB] at z
        rw [Nat.succ_mul]
        omega
  · rintro σ' H' k ⟨a4, a5, a6, a7, a8, a9, a10, a11, kvs, rfl, ek, B, z⟩
    rw [List.length_range] at B
    have kH : Same H H' := (kb.trans k).same fun p m => by rw [List.mem_singleton.mp m]; exact nb
    have hw' : ∃ g, bestOf ties one n.toNat other = some g ∧ g.2.2 = ws := by
      unfold wayOf at hw
      exact Option.map_eq_some_iff.mp hw
    obtain ⟨g, hg, rfl⟩ := hw'
    obtain ⟨gv, hgv, tg⟩ := B.some hg
    refine q_seq (s_ifT ?_)
    refine t_dnotin (i := other) (de_var (i := 2) rfl (t2.mono (.same kH))) (or_var rfl) ek fun H2 s2 => ?_
    rw [B.isSome, hg]
    refine no_ rfl (nxt ?_)
    show tOp (rIxT K) (tDGet (tVar 3) (tVar 2)) (tC (V.int 2)) _ H2 Q
    refine e_dget (i := other) (de_var (i := 2) rfl (t2.mono (.same (kH.trans s2)))) (or_var rfl) (s2 _ _ ek) hgv fun H3 s3 => ?_
    exact q_ix (i := 2) (tg.mono (.same (s2.trans s3))) rfl fun v tv => q v H3 (kH.trans (s2.trans s3)) tv
end
end Tk

set_option Elab.async false
set_option linter.all false
set_option maxRecDepth 100000
set_option maxHeartbeats 4000000
/-! Racks and fares: racks_at, way_of, fare. -/
namespace Tk
open PySem PySem.Spec PyProof.Rows L2
def racksAt (stock : List Rack) (place : Int) : List Nat := (((List.range stock.length).zip stock).filter fun p => p.2.1 == place).map fun p => p.1
def M_racks_at (ds : List PyData) (r : PyData) : Prop := ∃ (p : Plan) (place : Int), ds = [planD p, .int place] ∧ p.stock.length ≤ 1000 ∧ r = .tuple ((racksAt p.stock place).map fun i : Nat => .int (i : Int))
/-- what a plan keeps that all of it needs -/
structure RackOk (p : Plan) (r : Rack) : Prop where
  rank : 0 ≤ r.2.2.1 ∧ r.2.2.1.toNat < p.rates.length
  way : ∃ (w : List Int) (ts : List Tie), wayOf p.n p.ties r.1 r.2.1 = some w ∧ w.length ≤ 1000 ∧ ((w.zip (w.drop 1)).map fun p' => tieOf p.ties p'.1 p'.2) = ts.map some
structure PlanOk (p : Plan) : Prop where
  n0 : 0 ≤ p.n
  n1 : p.n ≤ 1000
  ties : p.ties.length ≤ 1000
  stock : p.stock.length ≤ 1000
  rates : ∀ x ∈ p.rates, -(2 ^ 64) < x ∧ x < 2 ^ 64
  days : 0 ≤ p.days ∧ p.days ≤ 1000
  racks : ∀ r ∈ p.stock, RackOk p r
def M_way_of (ds : List PyData) (r : PyData) : Prop := ∃ (p : Plan) (i : Nat) (k : Rack) (w : List Int), ds = [planD p, .int (i : Int)] ∧ PlanOk p ∧ p.stock[i]? = some k ∧ wayOf p.n p.ties k.1 k.2.1 = some w ∧ r = .tuple (w.map .int)
def wayMiles (p : Plan) (k : Rack) : Int := match wayOf p.n p.ties k.1 k.2.1 with
  | none => 0
  | some w => longs ((w.zip (w.drop 1)).filterMap fun p' => tieOf p.ties p'.1 p'.2)
def fareOf (p : Plan) (rack rank : Nat) : Int := match p.stock[rack]? with
  | none => 0
  | some k => if k.2.2.2 = 1 then (wayMiles p k * p.rates.getD rank 0 + 1) / 2 else wayMiles p k * p.rates.getD rank 0
def M_fare (ds : List PyData) (r : PyData) : Prop := ∃ (p : Plan) (i j : Nat), ds = [planD p, .int (i : Int), .int (j : Int)] ∧ PlanOk p ∧ i < p.stock.length ∧ j < p.rates.length ∧ r = .int (fareOf p i j)
section
variable {P : Program} {w : World} {K : PySem.W.Frag} {mg : Str → Option Value} {base : Heap}
theorem quad_at {p : Plan} {i : Nat} {k : Rack} (h : p.stock[i]? = some k) : (p.stock.map quadD)[i]? = some (quadD k) := by
  rw [List.getElem?_map, h]
  rfl
theorem cal_racks_at (T : Txt K mg) : Cal P w K mg base "racks_at" 1 p_racks_at (spF M_racks_at) := by
  refine cal_of T.racks_at sc_racks_at (fun _ _ _ _ _ _ us hl => match us, hl with | [_, _], _ => rfl) (spF_len fun ds r ⟨p, place, e, _⟩ => by rw [e]; rfl) fun f cdv A outer s H vs Q E hr h => ?_
  obtain ⟨ds, r, ⟨p, place, rfl, hl, rfl⟩, t, q⟩ := h
  refine ⟨_, PSs.nox (pss_one (ps_ret (pe_tupleOf rfl T.tuple (pe_lc rfl sc_racks_at.nd (pi_enumT rfl T.enumerate (pa_cons (pix K (pv 0) pe_int) pa_nil)) (own := [("number", 2), ("rack", 3)]) (blkOk_by (N := n_racks_at) (sc := defScope s_racks_at) (by decide +kernel))
    (fun _ _ _ _ _ => pgt K 2 (pgs_cons (pg_name (i := 2) sc_racks_at.nd rfl (.inl rfl)) (pgs_cons (pg_name (i := 3) sc_racks_at.nd rfl (.inl rfl)) pgs_nil))) (fun _ _ _ _ _ => pts_one (pt_cmpR op_eq (pix K (pv 3) pe_int) (pv 1) (nomark _))) (fun _ _ _ _ _ => pv 2))))), ?_⟩
  obtain ⟨v0, v1, rfl, t0, t1⟩ := t.two
  have hi := di_enumT (K := K) (de_ix (K := K) (de_var (d := planD p) (σ := start n_racks_at [v0, v1]) (i := 0) rfl t0) (de_int (i := ((2 : Nat) : Int))) rfl)
  unfold numD at hi
  rw [pairs_map, List.length_map] at hi
  refine s_ret (de_tupOf ((dl_lcG (as := (List.range p.stock.length).zip p.stock) (fun p => p.2.1 == place) (fun p => .int (p.1 : Int)) hi ?_ ?_).to ?_)) q
  · rw [List.length_zip, List.length_range, Nat.min_self]
    exact Nat.lt_of_le_of_lt hl (by decide)
  · intro d hd v H1 k tv Q q
    refine g_pair tv fun x y tx ty => q _ rfl ?_ fun _ => de_var (i := 2) rfl tx
    have h1 := dt_test (de_eqI (de_ix (K := K) (de_var (d := quadD d.2) (σ := ((wipe (start n_racks_at [v0, v1]) [2, 3]).set 2 (some x)).set 3 (some y)) (i := 3) rfl ty) (de_int (i := ((0 : Nat) : Int))) (d := .int d.2.1) rfl) (de_var (d := .int place) (i := 1) rfl (t1.mono (.same k))))
    exact h1.to (by
      rw [Bool.eq_iff_iff]
      simp)
  · unfold racksAt
    rw [List.map_map]
    rfl
theorem cal_way_of (T : Txt K mg) : Cal P w K mg base "way_of" 3 p_way_of (spF M_way_of) := by
  refine cal_of T.way_of sc_way_of (fun _ _ _ _ _ _ us hl => match us, hl with | [_, _], _ => rfl) (spF_len fun ds r ⟨p, i, k, w, e, _⟩ => by rw [e]; rfl) fun f cdv A outer s H vs Q E hr h => ?_
  obtain ⟨ds, r, ⟨p, i, k, ws, rfl, O, hk, hw, rfl⟩, t, q⟩ := h
  have C : Cal P w K mg base "way" 2 p_way (spF M_way) := cal_way T
  refine ⟨_, PSs.nox (pss_cons (ps_asg (pix K (pix K (pv 0) pe_int) (pv 1)) (pgt K 4 (pgs_cons (pg_name (i := 2) sc_way_of.nd rfl (.inl rfl)) (pgs_cons (pg_name (i := 3) sc_way_of.nd rfl (.inl rfl)) (pgs_cons (pg_name (i := 4) sc_way_of.nd rfl (.inl rfl)) (pgs_cons (pg_name (i := 5) sc_way_of.nd rfl (.inl rfl)) pgs_nil))))))
    (pss_one (ps_ret (pe_cal C hr rfl (pa_cons (pix K (pv 0) pe_int) (pa_cons (pv 2) (pa_cons (pv 3) pa_nil))))))), ?_⟩
  obtain ⟨v0, v1, rfl, t0, t1⟩ := t.two
  refine q_seq (r_asg ((de_ix (K := K) (i := i) (de_ix (K := K) (de_var (d := planD p) (i := 0) rfl t0) (de_int (i := ((2 : Nat) : Int))) rfl) (de_var (i := 1) rfl t1) (quad_at hk)).at_ fun y H1 s1 ty => ?_))
  refine g_four ty fun x2 x3 x4 x5 t2 t3 t4 t5 => ?_
  have t0' := t0.mono (.same s1)
  refine s_ret (de_call (M := M_way) (E := E0) (da_cons (de_ix (K := K) (de_var (d := planD p) (i := 0) rfl t0') (de_int (i := ((0 : Nat) : Int))) rfl) (da_cons (de_var (i := 2) rfl t2) (da_cons (de_var (i := 3) rfl t3) da_nil))) ⟨p.n, p.ties, _, _, ws, rfl, O.n0, O.n1, O.ties, hw, rfl⟩) fun v H2 s2 t2 => q v H2 (s1.trans s2) t2
theorem filterMap_some {α β : Type} {f : α → Option β} : ∀ {as : List α} {bs : List β}, as.map f = bs.map some → as.filterMap f = bs
  | [], [], _ => rfl
  | [], _ :: _, h => by cases h
  | _ :: _, [], h => by cases h
  | a :: as, b :: bs, h => by
    rw [List.map_cons, List.map_cons] at h
    obtain ⟨h1, h2⟩ := List.cons.inj h
    rw [List.filterMap_cons, h1, filterMap_some h2]
theorem cal_fare (T : Txt K mg) : Cal P w K mg base "fare" 4 p_fare (spF M_fare) := by
  refine cal_of T.fare sc_fare (fun _ _ _ _ _ _ us hl => match us, hl with | [_, _, _], _ => rfl) (spF_len fun ds r ⟨p, i, j, e, _⟩ => by rw [e]; rfl) fun f cdv A outer s H vs Q E hr h => ?_
  obtain ⟨ds, r, ⟨p, i, j, rfl, O, hi, hj, rfl⟩, t, q⟩ := h
  have C : Cal P w K mg base "way_of" 3 p_way_of (spF M_way_of) := cal_way_of T
  have C2 : Cal P w K mg base "miles" 3 p_miles (spF M_miles) := cal_miles T
  refine ⟨_, PSs.nox (pss_cons (ps_set (i := 3) sc_fare.nd rfl (.inl rfl) (pe_op op_mul (pe_cal C2 hr rfl (pa_cons (pix K (pv 0) pe_int) (pa_cons (pe_cal C hr rfl (pa_cons (pv 0) (pa_cons (pv 1) pa_nil))) pa_nil))) (pix K (pix K (pv 0) pe_int) (pv 2))))
    (pss_cons (ps_if (pt_cmpR op_eq (pix K (pix K (pix K (pv 0) pe_int) (pv 1)) pe_int) pe_int (nomark _)) (pss_one (ps_ret (pe_op op_fdiv (pe_op op_add (pv 3) pe_int) pe_int))) pss_nil) (pss_one (ps_ret (pv 3))))), ?_⟩
  obtain ⟨v0, v1, v2, rfl, t0, t1, t2⟩ := t.three
  have hk : p.stock[i]? = some p.stock[i] := List.getElem?_eq_getElem hi
  have hR := O.racks _ (List.getElem_mem hi)
  obtain ⟨ws, ts, hw, wl, ht⟩ := hR.way
  have hrt : p.rates[j]? = some p.rates[j] := List.getElem?_eq_getElem hj
  have hrb := O.rates _ (List.getElem_mem hj)
  have dplan : DE (tVar 0) (start n_fare [v0, v1, v2]) H (planD p) := de_var (i := 0) rfl t0
  have e0 : DE (tOp (rI CMul fun i j => .int (i * j)) (tCall (spF M_miles) [] E0 (tCons (tOp (rIxT K) (tVar 0) (tC (.int 0))) (tCons (tCall (spF M_way_of) [] E0 (tCons (tVar 0) (tCons (tVar 1) tNil))) tNil))) (tOp (rIxT K) (tOp (rIxT K) (tVar 0) (tC (.int 1))) (tVar 2))) (start n_fare [v0, v1, v2]) H (.int (longs ts * p.rates[j])) :=
    de_I (de_call (M := M_miles) (da_cons (de_ix (K := K) dplan (de_int (i := ((0 : Nat) : Int))) rfl) (da_cons (de_call (M := M_way_of) (da_cons dplan (da_cons (de_var (i := 1) rfl t1) da_nil)) ⟨p, i, _, ws, rfl, O, hk, hw, rfl⟩) da_nil)) ⟨p.n, p.ties, ws, ts, rfl, wl, ht, rfl⟩)
      (de_ix (K := K) (i := j) (de_ix (K := K) dplan (de_int (i := ((1 : Nat) : Int))) rfl) (de_var (i := 2) rfl t2) (by rw [List.getElem?_map, hrt]; rfl)) (.inr hrb)
  have em : wayMiles p p.stock[i] * p.rates.getD j 0 = longs ts * p.rates[j] := by
    unfold wayMiles
    rw [hw]
    simp only
    rw [filterMap_some ht, List.getD_eq_getElem?_getD, hrt]
    rfl
  have ef : fareOf p i j = if p.stock[i].2.2.2 = 1 then (longs ts * p.rates[j] + 1) / 2 else longs ts * p.rates[j] := by
    unfold fareOf
    rw [hk]
    simp only
    rw [em]
  refine s_set e0 fun x H1 s1 tx => ?_
  have t0' := t0.mono (.same s1)
  have t1' := t1.mono (.same s1)
  refine q_when (dt_test (de_eqI (de_ix (K := K) (i := 3) (de_ix (K := K) (i := i) (de_ix (K := K) (de_var (d := planD p) (i := 0) rfl t0') (de_int (i := ((2 : Nat) : Int))) rfl) (de_var (i := 1) rfl t1') (quad_at hk)) (de_int (i := ((3 : Nat) : Int))) (d := .int p.stock[i].2.2.2) rfl) (de_int (i := 1)))) (fun hb H2 s2 => ?_) (fun hb H2 s2 => ?_)
  · refine s_ret (de_I (de_I0 (de_var (i := 3) rfl (tx.mono (.same s2))) (de_int (i := 1))) (de_int (i := 2)) ⟨by decide, by decide⟩) fun v H3 s3 t3 => q v H3 ((s1.trans s2).trans s3) (t3.to ?_)
    rw [ef, if_pos (of_decide_eq_true hb)]
  · refine s_ret (de_var (i := 3) rfl (tx.mono (.same s2))) fun v H3 s3 t3 => q v H3 ((s1.trans s2).trans s3) (t3.to ?_)
    rw [ef, if_neg (of_decide_eq_false hb)]
end
end Tk

set_option Elab.async false
set_option linter.all false
set_option maxRecDepth 100000
set_option maxHeartbeats 4000000
/-! Pages; what is told of closings. -/
namespace Tk
open PySem PySem.Spec PyProof.Rows L2
def pairD (t : Int × Int) : PyData := .tuple [.int t.1, .int t.2]
inductive Page
  | office (place day : Int) (closings : List (Option Int)) (pressed : Option Int) (betters : List Step) (backs : List (Int × Int)) (coin : Option Int)
  | gate (place day : Int) (cuts ends : List (Int × Int))
def Page.place : Page → Int
  | .office p _ _ _ _ _ _ => p
  | .gate p _ _ _ => p
def Page.day : Page → Int
  | .office _ d _ _ _ _ _ => d
  | .gate _ d _ _ => d
def Page.word : Page → Str
  | .office .. => "office"
  | .gate .. => "gate"
def Page.tail : Page → List PyData
  | .office _ _ c pr be ba co => [.tuple (c.map oI), oI pr, .tuple (be.map stepD), .tuple (ba.map pairD), oI co]
  | .gate _ _ c e => [.tuple (c.map pairD), .tuple (e.map pairD)]
def pageD (g : Page) : PyData := .tuple (.str g.word :: .int g.place :: .int g.day :: g.tail)
def fileD (f : List Page) : PyData := .tuple (f.map pageD)
def PageOk (p : Plan) : Page → Prop
  | .office _ day c _ be ba _ => 0 ≤ day ∧ day ≤ 1000 ∧ c.length ≤ 1000 ∧ be.length ≤ 1000 ∧ ba.length ≤ 1000 ∧ (∀ b ∈ be, 0 ≤ b.1 ∧ b.1.toNat < p.stock.length ∧ 0 ≤ b.2.2 ∧ b.2.2.toNat < p.rates.length) ∧ ∀ b ∈ ba, 0 ≤ b.1 ∧ b.1.toNat < p.stock.length
  | .gate _ day c e => 0 ≤ day ∧ day ≤ 1000 ∧ c.length ≤ 1000 ∧ e.length ≤ 1000
structure FileOk (p : Plan) (file : List Page) : Prop where
  len : file.length ≤ 1000
  pages : ∀ g ∈ file, PageOk p g
/-- a function of two ints, given anew at one place -/
abbrev Two := Int → Int → Option Int
def put2 (f : Two) (r d x : Int) : Two := fun r' d' => if r' = r ∧ d' = d then some x else f r' d'
def TolD (kvs : List (List Key × V)) (f : Two) : Prop := ∀ r d, valV kvs [.inl r, .inl d] = (f r d).map V.int
theorem TolD.put {kvs : List (List Key × V)} {f : Two} {r d x : Int} (h : TolD kvs f) : TolD (putK kvs [.inl r, .inl d] (.int x)) (put2 f r d x) := fun r' d' => by
  rw [valV_put]
  unfold put2
  by_cases e : r' = r ∧ d' = d
  · obtain ⟨rfl, rfl⟩ := e
    rw [if_pos rfl, if_pos ⟨rfl, rfl⟩]
    rfl
  · rw [if_neg e, if_neg (fun z => e (by
      injection z with z1 z2
      injection z2 with z3 _
      exact ⟨Sum.inl.inj z1, Sum.inl.inj z3⟩))]
    exact h r' d'
def toldPair (day : Int) (f : Two) (q : Nat × Option Int) : Two := match q.2 with
  | none => f
  | some x => put2 f (q.1 : Int) day x
def toldPage (p : Plan) (f : Two) : Page → Two
  | .office place day c _ _ _ _ => ((racksAt p.stock place).zip c).foldl (toldPair day) f
  | .gate .. => f
def toldOf (p : Plan) (file : List Page) : Two := file.foldl (toldPage p) fun _ _ => none
def spTold : Sp := fun vs H Q _ => ∃ (p : Plan) (file : List Page), TdAll H vs [planD p, fileD file] ∧ PlanOk p ∧ FileOk p file ∧ ∀ t kvs H', H t = none → Same H H' → H' t = some (.dT kvs) → TolD kvs (toldOf p file) → Q (.ref t) H'
section
variable {P : Program} {w : World} {K : PySem.W.Frag} {mg : Str → Option Value} {base : Heap}
theorem take_fold {α β : Type} {f : β → α → β} {as : List α} {i : Nat} {a : α} {b : β} (h : as[i]? = some a) : (as.take (i + 1)).foldl f b = f ((as.take i).foldl f b) a := by
  rw [List.take_add_one, h, List.foldl_append]
  rfl
theorem at_lt {α : Type} {as : List α} {i : Nat} {a : α} (h : as[i]? = some a) : i < as.length := (List.getElem?_eq_some_iff.mp h).1
theorem big_ {n : Nat} (h : n ≤ 4000000) : n < sizeLine := Nat.lt_of_le_of_lt h (by decide)
theorem cal_told_closings (T : Txt K mg) : Cal P w K mg base "told_closings" 2 p_told_closings spTold := by
  refine cal_of T.told_closings sc_told_closings (fun _ _ _ _ _ _ us hl => match us, hl with | [_, _], _ => rfl) (fun vs H Q E ⟨p, file, t, _⟩ => t.length) fun f cdv A outer s H vs Q E hr h => ?_
  obtain ⟨p, file, t, O, FO, q⟩ := h
  have C : Cal P w K mg base "racks_at" 1 p_racks_at (spF M_racks_at) := cal_racks_at T
  refine ⟨_, PSs.nox (pss_cons (ps_set (i := 2) sc_told_closings.nd rfl (.inl rfl) pe_dnewT) (pss_cons (ps_for PassesOwn.never rfl (pi_tup (pv 1)) (pg_name (i := 3) sc_told_closings.nd rfl (.inl rfl))
      (pss_one (ps_if (pt_cmpR op_eq (pix K (pv 3) pe_int) pe_str (nomark _)) (pss_one (ps_for PassesOwn.never rfl (RZ.pi_zipA rfl T.zip (pa_cons (pe_cal C hr rfl (pa_cons (pv 0) (pa_cons (pix K (pv 3) pe_int) pa_nil))) (pa_cons (pix K (pv 3) pe_int) pa_nil)))
        (pgt K 2 (pgs_cons (pg_name (i := 4) sc_told_closings.nd rfl (.inl rfl)) (pgs_cons (pg_name (i := 5) sc_told_closings.nd rfl (.inl rfl)) pgs_nil)))
        (pss_one (ps_if (pt_cmpR op_notN (pv 5) pe_non (nomark _)) (pss_one (ps_dput (hu1 hr) (pv 2) (pe_tup (pa_cons (pv 4) (pa_cons (pix K (pv 3) pe_int) pa_nil))) (pv 5) rfl)) pss_nil)))) pss_nil)))
    (pss_one (ps_ret (pv 2))))), ?_⟩
  obtain ⟨v0, v1, rfl, t0, t1⟩ := t.two
  intro fo nf
  refine gn ?_
  have e1 : (upd H fo (.dT [])) fo = some (.dT []) := upd_same
  have kb : KL [fo] H (upd H fo (.dT [])) := .put (List.mem_singleton.mpr rfl)
  have kT1 : TK H (upd H fo (.dT [])) := .new nf
  generalize upd H fo (.dT []) = H1 at e1 kb kT1
  refine q_for (L := [fo]) (as := file) (en := pageD) (di_tup (de_var (i := 1) rfl (t1.mono kT1))) (nt_one (.dT e1))
    (fun i σ' H' => ∃ a3 a4 a5 kvs, σ' = [some v0, some v1, some (.ref fo), a3, a4, a5] ∧ H' fo = some (.dT kvs) ∧ TolD kvs ((file.take i).foldl (toldPage p) fun _ _ => none) ∧ kvs.length ≤ 1000 * i)
    (fun H2 s => ⟨none, none, none, [], rfl, s _ _ e1, fun _ _ => rfl, by simp⟩) ?_ ?_
  · rintro H2 i g x3 σ' H0 H' s2 k kT hd td ⟨a3, a4, a5, kvs, rfl, ek, B, z⟩ s0
    have hi := at_lt hd
    have hil := FO.len
    have ek' := s0 _ _ ek
    have hg := FO.pages g (List.mem_of_getElem? hd)
    rw [take_fold hd]
    generalize (file.take i).foldl (toldPage p) (fun _ _ => none) = b at B
    refine gn (s_when (dt_test (de_eqS (de_ix (K := K) (de_var (d := pageD g) (i := 3) rfl td) (de_int (i := ((0 : Nat) : Int))) (d := .str g.word) rfl) (de_str (x := "office")))) (fun hb H3 s3 => ?_) (fun hb H3 s3 => ?_))
    · cases g with
      | gate pl dy c e => exact absurd (of_decide_eq_true hb) (show ¬ ("gate" : Str) = "office" by decide +kernel)
      | office pl dy c pr be ba co =>
        obtain ⟨hd0, hd1, hc, _⟩ := hg
        have td3 := td.mono (.same s3)
        have ek3 := s3 _ _ ek'
        have hi := di_zipT (K := K) (σ := [some v0, some v1, some (.ref fo), some x3, a4, a5]) (de_call (M := M_racks_at) (E := E0) (da_cons (de_var (d := planD p) (i := 0) rfl ((t0.mono (kT1.trans kT)).mono (.same s3))) (da_cons (de_ix (K := K) (de_var (i := 3) rfl td3) (de_int (i := ((1 : Nat) : Int))) (d := .int pl) rfl) da_nil)) ⟨p, pl, rfl, O.stock, rfl⟩)
          (de_ix (K := K) (de_var (i := 3) rfl td3) (de_int (i := ((3 : Nat) : Int))) (d := .tuple (c.map oI)) rfl)
        rw [pairs_map] at hi
        refine s_for (L := [fo]) (as := (racksAt p.stock pl).zip c) hi (nt_one (.dT ek3))
          (fun j σ' H'' => ∃ a4 a5 kvs, σ' = [some v0, some v1, some (.ref fo), some x3, a4, a5] ∧ H'' fo = some (.dT kvs) ∧ TolD kvs ((((racksAt p.stock pl).zip c).take j).foldl (toldPair dy) b) ∧ kvs.length ≤ 1000 * i + j)
          (fun H4 s => ⟨a4, a5, kvs, rfl, s _ _ ek3, B, z⟩) ?_ ?_
        · rintro H4 j qq x σ' H5 H6 s4 k4 kT4 hq tq ⟨b4, b5, kvs, rfl, ek, B, z⟩ s5
          have hj := at_lt hq
          rw [List.length_zip] at hj
          rw [take_fold hq]
          generalize (((racksAt p.stock pl).zip c).take j).foldl (toldPair dy) b = bb at B
          refine g_pair tq fun x4 x5 t4 t5 => ?_
          have ek5 := s5 _ _ ek
          refine s_when (dt_test (de_isN (i := qq.2) (de_var (i := 5) rfl t5))) (fun hb H7 s7 => ?_) (fun hb H7 s7 => ?_)
          · obtain ⟨num, hnum⟩ := Option.isSome_iff_exists.mp hb
            rw [hnum] at t5
            have ek7 := s7 _ _ ek5
            refine s_dputT (k := [.inl (qq.1 : Int), .inl dy]) (d := .int num) (de_var (i := 5) rfl (t5.mono (.same s7))) (de_tup (da_cons (de_var (i := 4) rfl (t4.mono (.same s7))) (da_cons (de_ix (K := K) (de_var (i := 3) rfl ((td3.mono kT4).mono (.same s7))) (de_int (i := ((2 : Nat) : Int))) (d := .int dy) rfl) da_nil))) (or_var rfl) ek7 (big_ (by omega)) fun y H8 s8 t8 => ?_
            refine ⟨(((k4.s s5).s s7).s s8).trans (.put (List.mem_singleton.mpr rfl)), _, _, _, rfl, upd_same, ?_, ?_⟩
            · unfold toldPair
              rw [hnum, t8.int_]
              exact B.put
            · have := length_putK kvs [.inl (qq.1 : Int), .inl dy] y
              omega
          · refine ⟨(k4.s s5).s s7, _, _, kvs, rfl, s7 _ _ ek5, ?_, by omega⟩
            unfold toldPair
            have hn : qq.2 = none := by
              cases e : qq.2 with
              | none => rfl
              | some x =>
                rw [e] at hb
                cases hb
            rw [hn]
            exact B
        · rintro σ'' H'' k4 ⟨b4, b5, kvs, rfl, ek, B, z⟩
          refine ⟨((k.s s0).s s3).trans k4, _, _, _, kvs, rfl, ek, ?_, ?_⟩
          · rw [List.take_length] at B
            exact B
          · rw [List.length_zip] at z
            omega
    · refine ⟨(k.s s0).s s3, _, _, _, kvs, rfl, s3 _ _ ek', ?_, by omega⟩
      cases g with
      | gate pl dy c e => exact B
      | office pl dy c pr be ba co => exact absurd rfl (of_decide_eq_false hb)
  · rintro σ' H' k ⟨a3, a4, a5, kvs, rfl, ek, B, z⟩
    rw [List.take_length] at B
    exact ⟨_, rfl, q fo kvs H' nf ((kb.trans k).same fun p m => by rw [List.mem_singleton.mp m]; exact nf) ek B⟩
end
end Tk

set_option Elab.async false
set_option linter.all false
set_option maxRecDepth 100000
set_option maxHeartbeats 4000000
/-! Seeings: lots_of, all_seeings, is_odd, seeings, odd, first_ends. -/
namespace Tk
open PySem PySem.Spec PyProof.Rows L2
/-- a ticket: rack, number, what else stands there -/
abbrev Tick := Int × Int × List PyData
def tickD (t : Tick) : PyData := .tuple (.int t.1 :: .int t.2.1 :: t.2.2)
def lotD (l : Str × List Tick) : PyData := .tuple [.str l.1, .tuple (l.2.map tickD)]
def lotsOf : Page → List (Str × List Tick)
  | .office _ _ _ _ be ba _ => [("better", be.map fun b => (b.1, b.2.1, [.int b.2.2])), ("back", ba.map fun b => (b.1, b.2, []))]
  | .gate _ _ c e => [("cut", c.map fun b => (b.1, b.2, [])), ("end", e.map fun b => (b.1, b.2, []))]
def M_lots_of (ds : List PyData) (r : PyData) : Prop := ∃ g, ds = [pageD g] ∧ r = .tuple ((lotsOf g).map lotD)
/-- rack, number, day, place, word -/
abbrev Seeing := Int × Int × Int × Int × Str
def keyS (s : Seeing) : List Key := [.inl s.1, .inl s.2.1, .inl s.2.2.1, .inl s.2.2.2.1, .inr s.2.2.2.2]
def seeD (s : Seeing) : PyData := keyD (keyS s)
theorem keyS_inj {a b : Seeing} (h : keyS a = keyS b) : a = b := by
  obtain ⟨a1, a2, a3, a4, a5⟩ := a
  obtain ⟨b1, b2, b3, b4, b5⟩ := b
  simp [keyS] at h
  obtain ⟨rfl, rfl, rfl, rfl, rfl⟩ := h
  rfl
def addS (ss : List Seeing) (s : Seeing) : List Seeing := if s ∈ ss then ss else ss ++ [s]
def seeOf (g : Page) (word : Str) (t : Tick) : Seeing := (t.1, t.2.1, g.day, g.place, word)
def seeLot (g : Page) (ss : List Seeing) (l : Str × List Tick) : List Seeing := l.2.foldl (fun ss t => addS ss (seeOf g l.1 t)) ss
def seePage (ss : List Seeing) (g : Page) : List Seeing := (lotsOf g).foldl (seeLot g) ss
def seeL (file : List Page) : List Seeing := file.foldl seePage []
def leS (a b : Seeing) : Bool := PySem.W.dataLe false (fun s : Seeing => seeD s) a b
def allSee (file : List Page) : List Seeing := (seeL file).mergeSort leS
def M_all (p : Plan) (ds : List PyData) (r : List PyData) : Prop := ∃ file, ds = [fileD file] ∧ FileOk p file ∧ r = (allSee file).map seeD
section
variable {P : Program} {w : World} {K : PySem.W.Frag} {mg : Str → Option Value} {base : Heap}
theorem cal_lots_of (T : Txt K mg) : Cal P w K mg base "lots_of" 1 p_lots_of (spF M_lots_of) := by
  refine cal_of T.lots_of sc_lots_of (fun _ _ _ _ _ _ us hl => match us, hl with | [_], _ => rfl) (spF_len fun ds r ⟨g, e, _⟩ => by rw [e]; rfl) fun f cdv A outer s H vs Q E hr h => ?_
  obtain ⟨ds, r, ⟨g, rfl, rfl⟩, t, q⟩ := h
  refine ⟨_, PSs.nox (pss_cons (ps_if (pt_cmpR op_eq (pix K (pv 0) pe_int) pe_str (nomark _)) (pss_one (ps_ret (pe_tup (pa_cons (pe_tup (pa_cons pe_str (pa_cons (pix K (pv 0) pe_int) pa_nil))) (pa_cons (pe_tup (pa_cons pe_str (pa_cons (pix K (pv 0) pe_int) pa_nil))) pa_nil))))) pss_nil)
    (pss_one (ps_ret (pe_tup (pa_cons (pe_tup (pa_cons pe_str (pa_cons (pix K (pv 0) pe_int) pa_nil))) (pa_cons (pe_tup (pa_cons pe_str (pa_cons (pix K (pv 0) pe_int) pa_nil))) pa_nil)))))), ?_⟩
  obtain ⟨v0, rfl, t0⟩ := t.one
  have d0 : DE (tVar 0) (start n_lots_of [v0]) H (pageD g) := de_var (i := 0) rfl t0
  refine q_when (dt_test (de_eqS (de_ix (K := K) d0 (de_int (i := ((0 : Nat) : Int))) (d := .str g.word) rfl) (de_str (x := "gate")))) (fun hb H1 s1 => ?_) (fun hb H1 s1 => ?_)
  · have d1 := d0.mono s1
    cases g with
    | office pl dy c pr be ba co => exact absurd (of_decide_eq_true hb) (show ¬ ("office" : Str) = "gate" by decide +kernel)
    | gate pl dy c e =>
      refine s_ret (de_tup (da_cons (de_tup (da_cons de_str (da_cons (de_ix (K := K) d1 (de_int (i := ((3 : Nat) : Int))) rfl) da_nil))) (da_cons (de_tup (da_cons de_str (da_cons (de_ix (K := K) d1 (de_int (i := ((4 : Nat) : Int))) rfl) da_nil))) da_nil))) fun v H2 s2 t2 => q v H2 (s1.trans s2) (t2.to ?_)
      simp only [lotsOf, List.map_cons, List.map_nil, lotD, List.map_map]
      rfl
  · have d1 := d0.mono s1
    cases g with
    | gate pl dy c e => exact absurd rfl (of_decide_eq_false hb)
    | office pl dy c pr be ba co =>
      refine s_ret (de_tup (da_cons (de_tup (da_cons de_str (da_cons (de_ix (K := K) d1 (de_int (i := ((5 : Nat) : Int))) rfl) da_nil))) (da_cons (de_tup (da_cons de_str (da_cons (de_ix (K := K) d1 (de_int (i := ((6 : Nat) : Int))) rfl) da_nil))) da_nil))) fun v H2 s2 t2 => q v H2 (s1.trans s2) (t2.to ?_)
      simp only [lotsOf, List.map_cons, List.map_nil, lotD, List.map_map]
      rfl
/-- the keys of a dict, put anew -/
theorem keys_put {kvs : List (List Key × V)} {ss : List Seeing} {s : Seeing} {v : V} (h : kvs.map (·.1) = ss.map keyS) : (putK kvs (keyS s) v).map (·.1) = (addS ss s).map keyS := by
  have e : (kvs.any fun kv => decide (kv.1 = keyS s)) = decide (s ∈ ss) := by
    have e1 : (kvs.any fun kv => decide (kv.1 = keyS s)) = ((kvs.map (·.1)).any fun k => decide (k = keyS s)) := by
      rw [List.any_map]
      rfl
    rw [e1, h, List.any_map, Bool.eq_iff_iff]
    simp only [List.any_eq_true, Function.comp, decide_eq_true_eq]
    constructor
    · rintro ⟨x, hx, e⟩
      rwa [← keyS_inj e]
    · exact fun hx => ⟨s, hx, rfl⟩
  unfold putK addS
  rw [e]
  by_cases hs : s ∈ ss
  · rw [if_pos (decide_eq_true hs), if_pos hs, ← h, List.map_map]
    refine List.map_congr_left fun kv _ => ?_
    show (if kv.1 = keyS s then (kv.1, v) else kv).1 = kv.1
    split <;> rfl
  · rw [if_neg (by simp [hs]), if_neg hs, List.map_append, List.map_append, h]
    rfl
theorem addS_len (ss : List Seeing) (s : Seeing) : (addS ss s).length ≤ ss.length + 1 := by
  unfold addS
  split
  · omega
  · simp
theorem lots_two (g : Page) : (lotsOf g).length = 2 := by
  cases g <;> rfl
theorem lots_len {p : Plan} {g : Page} (h : PageOk p g) : ∀ l ∈ lotsOf g, l.2.length ≤ 1000 := by
  cases g with
  | office pl dy c pr be ba co =>
    obtain ⟨_, _, _, h1, h2, _⟩ := h
    intro l m
    simp [lotsOf] at m
    rcases m with rfl | rfl
    · simpa using h1
    · simpa using h2
  | gate pl dy c e =>
    obtain ⟨_, _, h1, h2⟩ := h
    intro l m
    simp [lotsOf] at m
    rcases m with rfl | rfl
    · simpa using h1
    · simpa using h2
theorem sort_see (zs : List (Addr × List Key)) {ss : List Seeing} (h : zs.map (·.2) = ss.map keyS) : (zs.mergeSort leK).map (·.2) = (ss.mergeSort leS).map keyS := by
  have h1 : (zs.mergeSort leK).map (·.2) = (zs.map (·.2)).mergeSort (PySem.W.dataLe false fun k : List Key => keyD k) := List.map_mergeSort fun a _ b _ => rfl
  have h2 : (ss.mergeSort leS).map keyS = (ss.map keyS).mergeSort (PySem.W.dataLe false fun k : List Key => keyD k) := List.map_mergeSort fun a _ b _ => rfl
  rw [h1, h2, h]
theorem alike_see (a b : Seeing) : PySem.W.alike (seeD a) (seeD b) = true := by
  simp [seeD, keyD, keyS, kD, PySem.W.alike, PySem.W.alikeAll]
theorem sortOk_see (ss : List Seeing) : SortOk (ss.map seeD) :=
  ⟨.of alike_see, .tuples fun b => ⟨_, _, rfl⟩, fun d m => by
    obtain ⟨s, _, rfl⟩ := List.mem_map.mp m
    simp [seeD, keyD, keyS, kD, PyData.depth, PyData.depthAll]⟩
end
end Tk

set_option Elab.async false
set_option linter.all false
set_option maxRecDepth 100000
set_option maxHeartbeats 4000000
/-! all_seeings, is_odd, seeings, odd, first_ends. -/
namespace Tk
open PySem PySem.Spec PyProof.Rows L2
def isOdd (p : Plan) (f : Two) (s : Seeing) : Bool := ((List.range (p.days - s.2.2.1).toNat).map fun i : Nat => decide ((f s.1 (s.2.2.1 + (i : Int))).getD (s.2.1 + 1) ≤ s.2.1)).any id
def spOdd : Sp := fun vs H Q _ => ∃ (p : Plan) (v0 : V) (t : Addr) (v2 : V) (kvs : List (List Key × V)) (f : Two) (s : Seeing), vs = [v0, .ref t, v2] ∧ Td H v0 (planD p) ∧ H t = some (.dT kvs) ∧ TolD kvs f ∧ Td H v2 (seeD s) ∧
  PlanOk p ∧ 0 ≤ s.2.2.1 ∧ s.2.2.1 ≤ 1000 ∧ ∀ H', Same H H' → Q (.bl (isOdd p f s)) H'
def goodSee (p : Plan) (file : List Page) : List Seeing := (allSee file).filter fun s => !isOdd p (toldOf p file) s
def oddSee (p : Plan) (file : List Page) : List Seeing := (allSee file).filter fun s => isOdd p (toldOf p file) s
def M_seeings (ds : List PyData) (r : PyData) : Prop := ∃ p file, ds = [planD p, fileD file] ∧ PlanOk p ∧ FileOk p file ∧ r = .tuple ((goodSee p file).map seeD)
def M_odd (ds : List PyData) (r : PyData) : Prop := ∃ p file, ds = [planD p, fileD file] ∧ PlanOk p ∧ FileOk p file ∧ r = .tuple ((oddSee p file).map seeD)
def M_all' (ds : List PyData) (r : List PyData) : Prop := ∃ p, M_all p ds r
def endStep (f : Two) (s : Seeing) : Two := if s.2.2.2.2 = "end" then put2 f s.1 s.2.1 (if (f s.1 s.2.1).getD s.2.2.1 < s.2.2.1 then (f s.1 s.2.1).getD s.2.2.1 else s.2.2.1) else f
def endsOf (p : Plan) (file : List Page) : Two := (goodSee p file).foldl endStep fun _ _ => none
def spEnds : Sp := fun vs H Q _ => ∃ (p : Plan) (file : List Page), TdAll H vs [planD p, fileD file] ∧ PlanOk p ∧ FileOk p file ∧ ∀ t kvs H', H t = none → Same H H' → H' t = some (.dT kvs) → TolD kvs (endsOf p file) → Q (.ref t) H'
section
variable {P : Program} {w : World} {K : PySem.W.Frag} {mg : Str → Option Value} {base : Heap}
/-- the days of seeings, and how many -/
theorem addS_mem {ss : List Seeing} {s x : Seeing} (h : x ∈ addS ss s) : x ∈ ss ∨ x = s := by
  unfold addS at h
  split at h
  · exact .inl h
  · rcases List.mem_append.mp h with h | h
    · exact .inl h
    · exact .inr (List.mem_singleton.mp h)
theorem lot_mem {g : Page} {l : Str × List Tick} {x : Seeing} : ∀ {ts : List Tick} {ss : List Seeing}, x ∈ ts.foldl (fun ss t => addS ss (seeOf g l.1 t)) ss → x ∈ ss ∨ x.2.2.1 = g.day
  | [], _, h => .inl h
  | t :: ts, ss, h => by
    rcases lot_mem (ts := ts) h with h | h
    · rcases addS_mem h with h | h
      · exact .inl h
      · exact .inr (by rw [h]; rfl)
    · exact .inr h
theorem page_mem {g : Page} {x : Seeing} : ∀ {ls : List (Str × List Tick)} {ss : List Seeing}, x ∈ ls.foldl (seeLot g) ss → x ∈ ss ∨ x.2.2.1 = g.day
  | [], _, h => .inl h
  | l :: ls, ss, h => by
    rcases page_mem (ls := ls) h with h | h
    · exact lot_mem h
    · exact .inr h
theorem seeL_mem {x : Seeing} : ∀ {file : List Page} {ss : List Seeing}, x ∈ file.foldl seePage ss → x ∈ ss ∨ ∃ g ∈ file, x.2.2.1 = g.day
  | [], _, h => .inl h
  | g :: file, ss, h => by
    rcases seeL_mem (file := file) h with h | ⟨g', m, e⟩
    · rcases page_mem h with h | h
      · exact .inl h
      · exact .inr ⟨g, List.mem_cons_self, h⟩
    · exact .inr ⟨g', List.mem_cons_of_mem _ m, e⟩
theorem lot_len {g : Page} {l : Str × List Tick} : ∀ {ts : List Tick} {ss : List Seeing}, (ts.foldl (fun ss t => addS ss (seeOf g l.1 t)) ss).length ≤ ss.length + ts.length
  | [], _ => Nat.le_refl _
  | t :: ts, ss => by
    have h1 := lot_len (g := g) (l := l) (ts := ts) (ss := addS ss (seeOf g l.1 t))
    have h2 := addS_len ss (seeOf g l.1 t)
    simp only [List.foldl_cons, List.length_cons]
    omega
theorem page_len {p : Plan} {g : Page} (h : PageOk p g) (ss : List Seeing) : (seePage ss g).length ≤ ss.length + 2000 := by
  have hl := lots_len h
  have h2 := lots_two g
  unfold seePage
  match lotsOf g, h2, hl with
  | [l1, l2], _, hl =>
    have a := lot_len (g := g) (l := l1) (ts := l1.2) (ss := ss)
    have b := lot_len (g := g) (l := l2) (ts := l2.2) (ss := seeLot g ss l1)
    have h1 := hl l1 (by simp)
    have h2 := hl l2 (by simp)
    simp only [List.foldl_cons, List.foldl_nil]
    unfold seeLot at b ⊢
    omega
theorem seeL_len {p : Plan} : ∀ {file : List Page} {ss : List Seeing}, (∀ g ∈ file, PageOk p g) → (file.foldl seePage ss).length ≤ ss.length + 2000 * file.length
  | [], _, _ => Nat.le_refl _
  | g :: file, ss, h => by
    have h1 := seeL_len (file := file) (ss := seePage ss g) fun g' m => h g' (List.mem_cons_of_mem _ m)
    have h2 := page_len (h g List.mem_cons_self) ss
    simp only [List.foldl_cons, List.length_cons]
    omega
theorem day_ok {p : Plan} {g : Page} (h : PageOk p g) : 0 ≤ g.day ∧ g.day ≤ 1000 := by
  cases g with
  | office pl dy c pr be ba co => exact ⟨h.1, h.2.1⟩
  | gate pl dy c e => exact ⟨h.1, h.2.1⟩
theorem allSee_len {p : Plan} {file : List Page} (h : FileOk p file) : (allSee file).length ≤ 2000000 := by
  unfold allSee
  rw [List.length_mergeSort]
  have := seeL_len (ss := []) h.pages
  have hl := h.len
  unfold seeL
  simp at this
  omega
theorem allSee_day {p : Plan} {file : List Page} (h : FileOk p file) {s : Seeing} (m : s ∈ allSee file) : 0 ≤ s.2.2.1 ∧ s.2.2.1 ≤ 1000 := by
  unfold allSee at m
  rw [List.mem_mergeSort] at m
  rcases seeL_mem m with m | ⟨g, hg, e⟩
  · cases m
  · rw [e]
    exact day_ok (h.pages g hg)
theorem cal_all_seeings (T : Txt K mg) : Cal P w K mg base "all_seeings" 2 p_all_seeings (spL M_all') := by
  refine cal_of T.all_seeings sc_all_seeings (fun _ _ _ _ _ _ us hl => match us, hl with | [_], _ => rfl) (spL_len fun ds r ⟨p, file, e, _⟩ => by rw [e]; rfl) fun f cdv A outer s H vs Q E hr h => ?_
  obtain ⟨ds, r, ⟨p, file, rfl, FO, rfl⟩, t, q⟩ := h
  have C : Cal P w K mg base "lots_of" 1 p_lots_of (spF M_lots_of) := cal_lots_of T
  refine ⟨_, PSs.nox (pss_cons (ps_set (i := 1) sc_all_seeings.nd rfl (.inl rfl) pe_dnewT) (pss_cons (ps_for PassesOwn.never rfl (pi_tup (pv 0)) (pg_name (i := 2) sc_all_seeings.nd rfl (.inl rfl))
      (pss_one (ps_for PassesOwn.never rfl (pi_tup (pe_cal C hr rfl (pa_cons (pv 2) pa_nil))) (pgt K 2 (pgs_cons (pg_name (i := 3) sc_all_seeings.nd rfl (.inl rfl)) (pgs_cons (pg_name (i := 4) sc_all_seeings.nd rfl (.inl rfl)) pgs_nil)))
        (pss_one (ps_for PassesOwn.never rfl (pi_tup (pv 4)) (pg_name (i := 5) sc_all_seeings.nd rfl (.inl rfl))
          (pss_one (ps_dput (hu1 hr) (pv 1) (pe_tup (pa_cons (pix K (pv 5) pe_int) (pa_cons (pix K (pv 5) pe_int) (pa_cons (pix K (pv 2) pe_int) (pa_cons (pix K (pv 2) pe_int) (pa_cons (pv 3) pa_nil)))))) pe_bl rfl)))))))
    (pss_one (ps_ret (pe_callB (cr_sortedT rfl (hu64 hr)) rfl T.sorted boot_sorted (pa_cons (pv 1) pa_nil)))))), ?_⟩
  obtain ⟨v0, rfl, t0⟩ := t.one
  intro fo nf
  refine gn ?_
  have e1 : (upd H fo (.dT [])) fo = some (.dT []) := upd_same
  have kb : KL [fo] H (upd H fo (.dT [])) := .put (List.mem_singleton.mpr rfl)
  have kT1 : TK H (upd H fo (.dT [])) := .new nf
  generalize upd H fo (.dT []) = H1 at e1 kb kT1
  refine q_for (L := [fo]) (as := file) (en := pageD) (di_tup (de_var (i := 0) rfl (t0.mono kT1))) (nt_one (.dT e1))
    (fun i σ' H' => ∃ a2 a3 a4 a5 kvs, σ' = [some v0, some (.ref fo), a2, a3, a4, a5] ∧ H' fo = some (.dT kvs) ∧ kvs.map (·.1) = ((file.take i).foldl seePage []).map keyS)
    (fun H2 s => ⟨none, none, none, none, [], rfl, s _ _ e1, rfl⟩) ?_ ?_
  · rintro H2 i g x2 σ' H0 H' s2 k kT hd td ⟨a2, a3, a4, a5, kvs, rfl, ek, B⟩ s0
    have hi := at_lt hd
    have hg := FO.pages g (List.mem_of_getElem? hd)
    have ek' := s0 _ _ ek
    have zb : ((file.take i).foldl seePage []).length ≤ 1998000 := by
      have h1 := seeL_len (p := p) (file := file.take i) (ss := []) fun g m => FO.pages g (List.mem_of_mem_take m)
      have h2 := List.length_take_le i file
      have h3 : (file.take i).length ≤ 999 := by
        have h4 : (file.take i).length ≤ i := by
          rw [List.length_take]
          exact Nat.min_le_left ..
        have := FO.len
        omega
      rw [List.length_nil, Nat.zero_add] at h1
      omega
    rw [take_fold hd]
    generalize (file.take i).foldl seePage [] = ss at B zb
    refine gn ?_
    refine s_for (L := [fo]) (as := lotsOf g) (en := lotD) (di_tup (de_call (M := M_lots_of) (E := E0) (da_cons (de_var (d := pageD g) (i := 2) rfl td) da_nil) ⟨g, rfl, rfl⟩)) (nt_one (.dT ek'))
      (fun j σ' H'' => ∃ a3 a4 a5 kvs, σ' = [some v0, some (.ref fo), some x2, a3, a4, a5] ∧ H'' fo = some (.dT kvs) ∧ kvs.map (·.1) = (((lotsOf g).take j).foldl (seeLot g) ss).map keyS ∧ (((lotsOf g).take j).foldl (seeLot g) ss).length ≤ 1998000 + 1000 * j)
      (fun H4 s => ⟨a3, a4, a5, kvs, rfl, s _ _ ek', B, zb⟩) ?_ ?_
    · rintro H4 j l x σ' H5 H6 s4 k4 kT4 hq tq ⟨b3, b4, b5, kvs, rfl, ek, B, z⟩ s5
      have hj := at_lt hq
      rw [lots_two] at hj
      have hll := lots_len hg l (List.mem_of_getElem? hq)
      rw [take_fold hq]
      generalize ((lotsOf g).take j).foldl (seeLot g) ss = ss2 at B z
      refine g_pair tq fun x3 x4 t3 t4 => ?_
      have ek5 := s5 _ _ ek
      have td6 := td.mono kT4
      refine s_for (L := [fo]) (as := l.2) (en := tickD) (di_tup (de_var (d := .tuple (l.2.map tickD)) (i := 4) rfl t4)) (nt_one (.dT ek5))
        (fun m σ' H'' => ∃ a5 kvs, σ' = [some v0, some (.ref fo), some x2, some x3, some x4, a5] ∧ H'' fo = some (.dT kvs) ∧ kvs.map (·.1) = ((l.2.take m).foldl (fun ss t => addS ss (seeOf g l.1 t)) ss2).map keyS ∧ ((l.2.take m).foldl (fun ss t => addS ss (seeOf g l.1 t)) ss2).length ≤ 1998000 + 1000 * j + m)
        (fun H7 s => ⟨b5, kvs, rfl, s _ _ ek5, B, z⟩) ?_ ?_
      · rintro H7 m tk x5 σ' H8 H9 s7 k7 kT7 hm tm ⟨c5, kvs, rfl, ek, B, z⟩ s8
        have hml := at_lt hm
        rw [take_fold hm]
        generalize (l.2.take m).foldl (fun ss t => addS ss (seeOf g l.1 t)) ss2 = ss3 at B z
        have ek9 := s8 _ _ ek
        have hkl : kvs.length = ss3.length := by
          have := congrArg List.length B
          simpa using this
        have tg9 := td6.mono kT7
        have d5 : DE (tVar 5) [some v0, some (.ref fo), some x2, some x3, some x4, some x5] H9 (tickD tk) := de_var (i := 5) rfl tm
        have d2 : DE (tVar 2) [some v0, some (.ref fo), some x2, some x3, some x4, some x5] H9 (pageD g) := de_var (i := 2) rfl tg9
        refine gn (s_dputT (k := keyS (seeOf g l.1 tk)) (d := .bool true) de_bl (de_tup (da_cons (de_ix (K := K) d5 (de_int (i := ((0 : Nat) : Int))) (d := .int tk.1) rfl) (da_cons (de_ix (K := K) d5 (de_int (i := ((1 : Nat) : Int))) (d := .int tk.2.1) rfl) (da_cons (de_ix (K := K) d2 (de_int (i := ((2 : Nat) : Int))) (d := .int g.day) rfl) (da_cons (de_ix (K := K) d2 (de_int (i := ((1 : Nat) : Int))) (d := .int g.place) rfl) (da_cons (de_var (d := .str l.1) (i := 3) rfl (t3.mono kT7)) da_nil))))) (show (5 : Nat) ≤ 10000 by decide)) (or_var rfl) ek9 (big_ (by omega)) fun y HA sA tA => ?_)
        refine ⟨((k7.s s8).s sA).trans (.put (List.mem_singleton.mpr rfl)), _, _, rfl, upd_same, keys_put B, ?_⟩
        have := addS_len ss3 (seeOf g l.1 tk)
        omega
      · rintro σ'' H'' k7 ⟨c5, kvs, rfl, ek, B, z⟩
        rw [List.take_length] at B z
        exact ⟨(k4.s s5).trans k7, _, _, _, kvs, rfl, ek, B, by show (seeLot g ss2 l).length ≤ _; unfold seeLot; omega⟩
    · rintro σ'' H'' k4 ⟨b3, b4, b5, kvs, rfl, ek, B, z⟩
      rw [List.take_length] at B z
      exact ⟨(k.s s0).trans k4, _, _, _, _, kvs, rfl, ek, B⟩
  · rintro σ' H' k ⟨a2, a3, a4, a5, kvs, rfl, ek, B⟩
    rw [List.take_length] at B
    have sH : Same H H' := (kb.trans k).same fun p m => by rw [List.mem_singleton.mp m]; exact nf
    have ok : SortOk (kvs.map fun kv => keyD kv.1) := by
      have e : (kvs.map fun kv => keyD kv.1) = (seeL file).map seeD := by
        have := congrArg (List.map keyD) B
        rw [List.map_map, List.map_map] at this
        exact this
      rw [e]
      exact sortOk_see _
    refine r_ret ⟨_, rfl, fo, kvs, rfl, ek, ok, fun qq zs nq hz hz2 => ?_⟩
    have hs := sort_see zs (hz.trans B)
    refine q qq _ _ (sH.free nq) (sH.trans (same_new nq)) upd_same ?_
    have h2 : TdAll H' ((zs.mergeSort leK).map fun z => V.ref z.1) ((zs.mergeSort leK).map fun z => keyD z.2) := by
      have h3 := TdAll.of_zip (H := H') (ps := (zs.mergeSort leK).map fun z => (V.ref z.1, keyD z.2)) fun pp m => by
        obtain ⟨z, mz, rfl⟩ := List.mem_map.mp m
        rw [List.mem_mergeSort] at mz
        exact td_of_key (hz2 z mz)
      rw [List.map_map, List.map_map] at h3
      exact h3
    have e2 : ((zs.mergeSort leK).map fun z => keyD z.2) = (allSee file).map seeD := by
      have := congrArg (List.map keyD) hs
      rw [List.map_map, List.map_map] at this
      exact this
    rw [e2] at h2
    exact h2.mono (.new nq)
theorem cal_is_odd (T : Txt K mg) : Cal P w K mg base "is_odd" 1 p_is_odd spOdd := by
  refine cal_of T.is_odd sc_is_odd (fun _ _ _ _ _ _ us hl => match us, hl with | [_, _, _], _ => rfl) (fun vs H Q E ⟨p, v0, t, v2, kvs, f, s, e, _⟩ => by rw [e]; rfl) fun f cdv A outer s H vs Q E hr h => ?_
  obtain ⟨p, v0, t, v2, kvs, tf, sg, rfl, t0, et, B, t2, O, hd0, hd1, q⟩ := h
  refine ⟨_, PSs.nox (pss_cons (ps_asg (pe_slice (slT K) (pv 2) po_none (po_some pe_int)) (pgt K 3 (pgs_cons (pg_name (i := 3) sc_is_odd.nd rfl (.inr rfl)) (pgs_cons (pg_name (i := 4) sc_is_odd.nd rfl (.inr rfl)) (pgs_cons (pg_name (i := 5) sc_is_odd.nd rfl (.inl rfl)) pgs_nil)))))
    (pss_one (ps_ret (pe_callB (crAny K) rfl T.any boot_any (pa_cons (pe_lc rfl sc_is_odd.nd (pi_range2 rfl T.range (pa_cons (pv 5) (pa_cons (pix K (pv 0) pe_int) pa_nil))) (own := [("later", 6)]) (blkOk_by (N := n_is_odd) (sc := defScope s_is_odd) (by decide +kernel))
      (fun _ _ _ _ _ => pg_name (i := 6) sc_is_odd.nd rfl (.inl rfl)) (fun _ _ _ _ _ => pts_nil)
      (fun _ _ _ _ _ => pe_cmpR op_le (pe_dget2 (hu1 hr) (pv 1) (pe_tup (pa_cons (pv 3) (pa_cons (pv 6) pa_nil))) (pe_op op_add (pv 4) pe_int) ⟨rfl, rfl, rfl, rfl⟩) (pv 4) (nomark _))) pa_nil))))), ?_⟩
  have c3 : DE (tSl (rSlA K) (tVar 2) tNoPart (tPart (tC (.int 3)))) (start n_is_odd [v0, .ref t, v2]) H (.tuple [.int sg.1, .int sg.2.1, .int sg.2.2.1]) := (de_cut (K := K) (lo := none) (hi := some 3) (de_var (d := seeD sg) (i := 2) rfl t2) po_n (po_i de_int)).to rfl
  refine q_seq (r_asg (c3.at_ fun y H1 s1 ty => g_three ty fun x3 x4 x5 t3 t4 t5 => ?_))
  have et1 := s1 _ _ et
  have t0' := t0.mono (.same s1)
  have hi := di_range2 (de_var (σ := (((start n_is_odd [v0, .ref t, v2]).set 3 (some x3)).set 4 (some x4)).set 5 (some x5)) (i := 5) rfl t5) (de_ix (K := K) (de_var (d := planD p) (i := 0) rfl t0') (de_int (i := ((3 : Nat) : Int))) (d := .int p.days) rfl) (by have := O.days; omega)
  have hlen : (List.range (p.days - sg.2.2.1).toNat).length ≤ 1000 := by
    rw [List.length_range]
    have := O.days
    omega
  refine s_ret (de_any (bs := (List.range (p.days - sg.2.2.1).toNat).map fun i : Nat => decide ((tf sg.1 (sg.2.2.1 + (i : Int))).getD (sg.2.1 + 1) ≤ sg.2.1)) ((dl_lc (as := List.range (p.days - sg.2.2.1).toNat) (fun _ => true) (fun i : Nat => .bool (decide ((tf sg.1 (sg.2.2.1 + (i : Int))).getD (sg.2.1 + 1) ≤ sg.2.1))) hi (big_ (by omega)) (fun _ => rfl) ?_).to ?_)) fun v H2 s2 tv => ?_
  · intro d hd v H2 s2 tv
    refine ⟨dt_yes, fun _ => de_I0 (i := (tf sg.1 (sg.2.2.1 + (d : Int))).getD (sg.2.1 + 1)) (j := sg.2.1) ?_ (de_var (i := 4) rfl (t4.mono (.same s2)))⟩
    refine de_dget2T (k := [.inl sg.1, .inl (sg.2.2.1 + (d : Int))]) (or_var (i := 1) rfl) (de_tup (da_cons (de_var (i := 3) rfl (t3.mono (.same s2))) (da_cons (de_var (i := 6) rfl tv) da_nil))) (de_I0 (de_var (i := 4) rfl (t4.mono (.same s2))) (de_int (i := 1)) (c := .int (sg.2.1 + 1))) (s2 _ _ et1) (fun v hv => ?_) fun hv => ?_
    · rw [B] at hv
      obtain ⟨z, hz, rfl⟩ := Option.map_eq_some_iff.mp hv
      rw [hz]
      exact .int z
    · rw [B] at hv
      rw [Option.map_eq_none_iff.mp hv]
      rfl
  · rw [filter_yes, List.map_map]
    rfl
  · rw [tv.bool_]
    exact q H2 (s1.trans s2)
/-- a call of is_odd, told at t -/
theorem de_odd {σ : L2.St} {H : Hp} {ta tb tc : TE} {p : Plan} {t : Addr} {kvs : List (List Key × V)} {f : Two} {s : Seeing} (ha : DE ta σ H (planD p)) (hb : OR tb σ H t) (hc : DE tc σ H (seeD s)) (et : H t = some (.dT kvs)) (B : TolD kvs f) (O : PlanOk p) (d0 : 0 ≤ s.2.2.1) (d1 : s.2.2.1 ≤ 1000) :
    DE (tCall spOdd [] E0 (tCons ta (tCons tb (tCons tc tNil)))) σ H (.bool (isOdd p f s)) := fun H1 k Q q =>
  ha H1 k _ fun x H2 s2 t2 => hb H2 (k.trans s2) _ (hc H2 (k.trans s2) _ fun y H3 s3 t3 => ⟨p, x, t, y, kvs, f, s, rfl, t2.mono (.same s3), ((k.trans s2).trans s3) _ _ et, B, t3, O, d0, d1, fun H' s' => q _ H' ((s2.trans s3).trans s') (.bl _)⟩)
theorem cal_seeings (T : Txt K mg) : Cal P w K mg base "seeings" 3 p_seeings (spF M_seeings) := by
  refine cal_of T.seeings sc_seeings (fun _ _ _ _ _ _ us hl => match us, hl with | [_, _], _ => rfl) (spF_len fun ds r ⟨p, file, e, _⟩ => by rw [e]; rfl) fun f cdv A outer s H vs Q E hr h => ?_
  obtain ⟨ds, r, ⟨p, file, rfl, O, FO, rfl⟩, t, q⟩ := h
  have C1 : Cal P w K mg base "told_closings" 2 p_told_closings spTold := cal_told_closings T
  have C2 : Cal P w K mg base "all_seeings" 2 p_all_seeings (spL M_all') := cal_all_seeings T
  have C3 : Cal P w K mg base "is_odd" 1 p_is_odd spOdd := cal_is_odd T
  refine ⟨_, PSs.nox (pss_cons (ps_set (i := 2) sc_seeings.nd rfl (.inr rfl) (pe_cal C1 hr rfl (pa_cons (pv 0) (pa_cons (pv 1) pa_nil))))
    (pss_one (ps_ret (pe_tupleOf rfl T.tuple (pe_lc rfl sc_seeings.nd (pi_list (pe_cal C2 hr rfl (pa_cons (pv 1) pa_nil))) (own := [("seeing", 3)]) (blkOk_by (N := n_seeings) (sc := defScope s_seeings) (by decide +kernel))
      (fun _ _ _ _ _ => pg_name (i := 3) sc_seeings.nd rfl (.inl rfl)) (fun _ _ _ _ _ => pts_one (pt_not (pt_val (pe_cal C3 (hr.mono (by decide)) rfl (pa_cons (pv 0) (pa_cons (pv 2) (pa_cons (pv 3) pa_nil))))))) (fun _ _ _ _ _ => pv 3)))))), ?_⟩
  obtain ⟨v0, v1, rfl, t0, t1⟩ := t.two
  refine q_seq (r_asg ?_)
  refine ⟨v0, rfl, v1, rfl, ?_⟩
  refine ⟨p, file, .cons t0 (.cons t1 .nil), O, FO, fun t kvs H1 nt s1 et B => gn ?_⟩
  have t0' := t0.mono (.same s1)
  have t1' := t1.mono (.same s1)
  have hi := di_list (K := K) (dl_call (M := M_all') (E := E0) (σ := (start n_seeings [v0, v1]).set 2 (some (.ref t))) (da_cons (de_var (d := fileD file) (i := 1) rfl t1') da_nil) (es := (allSee file).map seeD) ⟨p, file, rfl, FO, rfl⟩)
  refine s_ret (de_tupOf ((dl_lc (as := allSee file) (fun s => !isOdd p (toldOf p file) s) seeD hi (big_ (by have := allSee_len FO; omega)) (fun _ => rfl) ?_))) fun v H2 s2 t2 => q v H2 (s1.trans s2) t2
  intro d hd v H2 s2 tv
  have hday := allSee_day FO hd
  exact ⟨dt_not (dt_B (de_odd (de_var (d := planD p) (i := 0) rfl (t0'.mono (.same s2))) (or_var (i := 2) rfl) (de_var (i := 3) rfl tv) (s2 _ _ et) B O hday.1 hday.2)), fun _ => de_var (i := 3) rfl tv⟩
theorem cal_odd (T : Txt K mg) : Cal P w K mg base "odd" 3 p_odd (spF M_odd) := by
  refine cal_of T.odd sc_odd (fun _ _ _ _ _ _ us hl => match us, hl with | [_, _], _ => rfl) (spF_len fun ds r ⟨p, file, e, _⟩ => by rw [e]; rfl) fun f cdv A outer s H vs Q E hr h => ?_
  obtain ⟨ds, r, ⟨p, file, rfl, O, FO, rfl⟩, t, q⟩ := h
  have C1 : Cal P w K mg base "told_closings" 2 p_told_closings spTold := cal_told_closings T
  have C2 : Cal P w K mg base "all_seeings" 2 p_all_seeings (spL M_all') := cal_all_seeings T
  have C3 : Cal P w K mg base "is_odd" 1 p_is_odd spOdd := cal_is_odd T
  refine ⟨_, PSs.nox (pss_cons (ps_set (i := 2) sc_odd.nd rfl (.inr rfl) (pe_cal C1 hr rfl (pa_cons (pv 0) (pa_cons (pv 1) pa_nil))))
    (pss_one (ps_ret (pe_tupleOf rfl T.tuple (pe_lc rfl sc_odd.nd (pi_list (pe_cal C2 hr rfl (pa_cons (pv 1) pa_nil))) (own := [("seeing", 3)]) (blkOk_by (N := n_odd) (sc := defScope s_odd) (by decide +kernel))
      (fun _ _ _ _ _ => pg_name (i := 3) sc_odd.nd rfl (.inl rfl)) (fun _ _ _ _ _ => pts_one (pt_val (pe_cal C3 (hr.mono (by decide)) rfl (pa_cons (pv 0) (pa_cons (pv 2) (pa_cons (pv 3) pa_nil)))))) (fun _ _ _ _ _ => pv 3)))))), ?_⟩
  obtain ⟨v0, v1, rfl, t0, t1⟩ := t.two
  refine q_seq (r_asg ?_)
  refine ⟨v0, rfl, v1, rfl, ?_⟩
  refine ⟨p, file, .cons t0 (.cons t1 .nil), O, FO, fun t kvs H1 nt s1 et B => gn ?_⟩
  have t0' := t0.mono (.same s1)
  have t1' := t1.mono (.same s1)
  have hi := di_list (K := K) (dl_call (M := M_all') (E := E0) (σ := (start n_odd [v0, v1]).set 2 (some (.ref t))) (da_cons (de_var (d := fileD file) (i := 1) rfl t1') da_nil) (es := (allSee file).map seeD) ⟨p, file, rfl, FO, rfl⟩)
  refine s_ret (de_tupOf ((dl_lc (as := allSee file) (fun s => isOdd p (toldOf p file) s) seeD hi (big_ (by have := allSee_len FO; omega)) (fun _ => rfl) ?_))) fun v H2 s2 t2 => q v H2 (s1.trans s2) t2
  intro d hd v H2 s2 tv
  have hday := allSee_day FO hd
  exact ⟨dt_B (de_odd (de_var (d := planD p) (i := 0) rfl (t0'.mono (.same s2))) (or_var (i := 2) rfl) (de_var (i := 3) rfl tv) (s2 _ _ et) B O hday.1 hday.2), fun _ => de_var (i := 3) rfl tv⟩
theorem goodSee_len {p : Plan} {file : List Page} (h : FileOk p file) : (goodSee p file).length ≤ 2000000 := Nat.le_trans (List.length_filter_le ..) (allSee_len h)
theorem cal_first_ends (T : Txt K mg) : Cal P w K mg base "first_ends" 4 p_first_ends spEnds := by
  refine cal_of T.first_ends sc_first_ends (fun _ _ _ _ _ _ us hl => match us, hl with | [_, _], _ => rfl) (fun vs H Q E ⟨p, file, t, _⟩ => t.length) fun f cdv A outer s H vs Q E hr h => ?_
  obtain ⟨p, file, t, O, FO, q⟩ := h
  have C : Cal P w K mg base "seeings" 3 p_seeings (spF M_seeings) := cal_seeings T
  refine ⟨_, PSs.nox (pss_cons (ps_set (i := 2) sc_first_ends.nd rfl (.inl rfl) pe_dnewT) (pss_cons (ps_for PassesOwn.never rfl (pi_tup (pe_cal C hr rfl (pa_cons (pv 0) (pa_cons (pv 1) pa_nil))))
      (pgt K 5 (pgs_cons (pg_name (i := 3) sc_first_ends.nd rfl (.inl rfl)) (pgs_cons (pg_name (i := 4) sc_first_ends.nd rfl (.inl rfl)) (pgs_cons (pg_name (i := 5) sc_first_ends.nd rfl (.inl rfl)) (pgs_cons (pg_name (i := 6) sc_first_ends.nd rfl (.inl rfl)) (pgs_cons (pg_name (i := 7) sc_first_ends.nd rfl (.inl rfl)) pgs_nil))))))
      (pss_one (ps_if (pt_cmpR op_eq (pv 7) pe_str (nomark _)) (pss_one (ps_dput (hu1 hr) (pv 2) (pe_tup (pa_cons (pv 3) (pa_cons (pv 4) pa_nil))) (pe_callB (call_min2 rfl) rfl T.min boot_min (pa_cons (pv 5) (pa_cons (pe_dget2 (hu1 hr) (pv 2) (pe_tup (pa_cons (pv 3) (pa_cons (pv 4) pa_nil))) (pv 5) ⟨rfl, rfl, rfl, rfl⟩) pa_nil))) rfl)) pss_nil)))
    (pss_one (ps_ret (pv 2))))), ?_⟩
  obtain ⟨v0, v1, rfl, t0, t1⟩ := t.two
  intro fo nf
  refine gn ?_
  have e1 : (upd H fo (.dT [])) fo = some (.dT []) := upd_same
  have kb : KL [fo] H (upd H fo (.dT [])) := .put (List.mem_singleton.mpr rfl)
  have kT1 : TK H (upd H fo (.dT [])) := .new nf
  generalize upd H fo (.dT []) = H1 at e1 kb kT1
  refine q_for (L := [fo]) (as := goodSee p file) (en := seeD) (di_tup (de_call (M := M_seeings) (E := E0) (da_cons (de_var (d := planD p) (i := 0) rfl (t0.mono kT1)) (da_cons (de_var (d := fileD file) (i := 1) rfl (t1.mono kT1)) da_nil)) ⟨p, file, rfl, O, FO, rfl⟩)) (nt_one (.dT e1))
    (fun i σ' H' => ∃ a3 a4 a5 a6 a7 kvs, σ' = [some v0, some v1, some (.ref fo), a3, a4, a5, a6, a7] ∧ H' fo = some (.dT kvs) ∧ TolD kvs (((goodSee p file).take i).foldl endStep fun _ _ => none) ∧ kvs.length ≤ i)
    (fun H2 s => ⟨none, none, none, none, none, [], rfl, s _ _ e1, fun _ _ => rfl, Nat.le_refl _⟩) ?_ ?_
  · rintro H2 i sg x σ' H0 H' s2 k kT hd td ⟨a3, a4, a5, a6, a7, kvs, rfl, ek, B, z⟩ s0
    have hi := at_lt hd
    have hl := goodSee_len (p := p) FO
    have ek' := s0 _ _ ek
    rw [take_fold hd]
    generalize ((goodSee p file).take i).foldl endStep (fun _ _ => none) = b at B
    refine g_five (d1 := .int sg.1) (d2 := .int sg.2.1) (d3 := .int sg.2.2.1) (d4 := .int sg.2.2.2.1) (d5 := .str sg.2.2.2.2) td fun x3 x4 x5 x6 x7 t3 t4 t5 t6 t7 => ?_
    refine s_when (dt_test (de_eqS (de_var (i := 7) rfl t7) (de_str (x := "end")))) (fun hb H3 s3 => ?_) (fun hb H3 s3 => ?_)
    · have ek3 := s3 _ _ ek'
      have d3 : DE (tVar 3) [some v0, some v1, some (.ref fo), some x3, some x4, some x5, some x6, some x7] H3 (.int sg.1) := de_var (i := 3) rfl (t3.mono (.same s3))
      have d4 : DE (tVar 4) [some v0, some v1, some (.ref fo), some x3, some x4, some x5, some x6, some x7] H3 (.int sg.2.1) := de_var (i := 4) rfl (t4.mono (.same s3))
      have d5 : DE (tVar 5) [some v0, some v1, some (.ref fo), some x3, some x4, some x5, some x6, some x7] H3 (.int sg.2.2.1) := de_var (i := 5) rfl (t5.mono (.same s3))
      refine s_dputT (k := [.inl sg.1, .inl sg.2.1]) (d := .int (if (b sg.1 sg.2.1).getD sg.2.2.1 < sg.2.2.1 then (b sg.1 sg.2.1).getD sg.2.2.1 else sg.2.2.1)) (de_min d5 (de_dget2T (k := [.inl sg.1, .inl sg.2.1]) (or_var (i := 2) rfl) (de_tup (da_cons d3 (da_cons d4 da_nil))) d5 ek3 (fun v hv => ?_) fun hv => ?_)) (de_tup (da_cons d3 (da_cons d4 da_nil))) (or_var rfl) ek3 (big_ (by omega)) fun y H4 s4 t4' => ?_
      · rw [B] at hv
        obtain ⟨z, hz, rfl⟩ := Option.map_eq_some_iff.mp hv
        rw [hz]
        exact .int z
      · rw [B] at hv
        rw [Option.map_eq_none_iff.mp hv]
        rfl
      · refine ⟨(((k.s s0).s s3).s s4).trans (.put (List.mem_singleton.mpr rfl)), _, _, _, _, _, _, rfl, upd_same, ?_, ?_⟩
        · unfold endStep
          rw [if_pos (of_decide_eq_true hb), t4'.int_]
          exact B.put
        · have := length_putK kvs [.inl sg.1, .inl sg.2.1] y
          omega
    · refine ⟨(k.s s0).s s3, _, _, _, _, _, kvs, rfl, s3 _ _ ek', ?_, by omega⟩
      unfold endStep
      rw [if_neg (of_decide_eq_false hb)]
      exact B
  · rintro σ' H' k ⟨a3, a4, a5, a6, a7, kvs, rfl, ek, B, z⟩
    rw [List.take_length] at B
    exact ⟨_, rfl, q fo kvs H' nf ((kb.trans k).same fun p m => by rw [List.mem_singleton.mp m]; exact nf) ek B⟩
end
end Tk

set_option Elab.async false
set_option linter.all false
set_option maxRecDepth 100000
set_option maxHeartbeats 2000000
/-! Own rules: dict(list of pairs) and setdefault, keys that are tuples. -/
namespace Tk
open PySem PySem.Spec PyProof.Rows L2
section
variable {X : Cx}
abbrev PutIn := List Key × Addr × V
def putAll (kvs : List (List Key × V)) (zs : List PutIn) : List (List Key × V) := zs.foldl (fun acc z => putK acc z.1 z.2.2) kvs
theorem putAll_len : ∀ (zs : List PutIn) (kvs : List (List Key × V)), (putAll kvs zs).length ≤ kvs.length + zs.length
  | [], _ => Nat.le_refl _
  | z :: zs, kvs => by
    have h1 := putAll_len zs (putK kvs z.1 z.2.2)
    have h2 := length_putK kvs z.1 z.2.2
    rw [List.length_cons]
    show (putAll (putK kvs z.1 z.2.2) zs).length ≤ _
    omega
def PairOf (H : Hp) (p : Addr) (z : PutIn) : Prop := H p = some (.tup [.ref z.2.1, z.2.2]) ∧ H z.2.1 = some (.tup (z.1.map kV))
def rDictT (K : PySem.W.Frag) : List V → Hp → VK → Prop := fun vs H Q => ∃ (a : Addr) (ps : List Addr) (zs : List PutIn), vs = [.ref a] ∧ SqL K H a (ps.map V.ref) ∧ Paired (PairOf H) ps zs ∧ ∀ d, H d = none → Q (.ref d) (upd H d (.dT (putAll [] zs)))
/-- what the values of the pairs are -/
def PutR (H : Hp) (z : PutIn) (x : List Key × Addr × Value) : Prop := z.1 = x.1 ∧ z.2.1 = x.2.1 ∧ H z.2.1 = some (.tup (z.1.map kV)) ∧ RelV z.2.2 x.2.2
theorem putAll_kt {H : Hp} : ∀ {zs : List PutIn} {prs : List (List Key × Addr × Value)} {kvs : List (List Key × V)} {xs : List (List Key × Addr × Value)}, Paired (PutR H) zs prs → KT H kvs xs → KT H (putAll kvs zs) (PySem.storedAllH xs prs)
  | _, _, _, _, .nil, r => r
  | _, _, kvs, xs, .cons (a := z) (b := x) h t, r => by
    obtain ⟨h1, h2, h3, h4⟩ := h
    have r2 : KT H (putK kvs z.1 z.2.2) (storedH xs x.1 x.2.1 x.2.2) := by
      rw [← h1, ← h2]
      exact r.put z.1 h3 h4
    show KT H (putAll (putK kvs z.1 z.2.2) _) (PySem.storedAllH (storedH xs x.1 x.2.1 x.2.2) _)
    exact putAll_kt t r2
theorem pairsT {pins : List (Addr × Obj)} {σ : L2.St} {H : Hp} {s : Shared} (I : Inv X pins σ H s) : ∀ {ps : List Addr} {zs : List PutIn}, Paired (PairOf H) ps zs →
    ∃ prs : List (List Key × Addr × Value), Paired (PutR H) zs prs ∧ prs.length = ps.length ∧ ∀ (j : Nat) (x : List Key × Addr × Value), prs[j]? = some x → ∃ T, ps[j]? = some T ∧ IsTup s.heap T #[.ref x.2.1, x.2.2]
  | _, _, .nil => ⟨[], .nil, rfl, fun j q e => by simp at e⟩
  | _, _, .cons (a := p) (b := z) h t => by
    obtain ⟨prs, r, hl, hp⟩ := pairsT I t
    obtain ⟨h1, h2⟩ := h
    obtain ⟨its, rv, ht, _⟩ := I.tuple (SqT.of (K := X.K) h1)
    obtain ⟨u, y, ei, ru, ry⟩ := vals2 rv
    subst ei
    cases ru
    refine ⟨(z.1, z.2.1, y) :: prs, .cons ⟨rfl, rfl, h2, ry⟩ r, by rw [List.length_cons, List.length_cons, hl], fun j q e => ?_⟩
    cases j with
    | zero =>
      have e' : (z.1, z.2.1, y) = q := Option.some.inj e
      subst e'
      exact ⟨p, rfl, ht⟩
    | succ j =>
      obtain ⟨T, e1, e2⟩ := hp j q (by simpa using e)
      exact ⟨T, by simpa using e1, e2⟩
theorem putR_mem {H : Hp} : ∀ {zs : List PutIn} {prs : List (List Key × Addr × Value)}, Paired (PutR H) zs prs → ∀ x ∈ prs, H x.2.1 = some (.tup (x.1.map kV))
  | _, _, .nil, x, m => by cases m
  | _, _, .cons (a := z) (b := y) h t, x, m => by
    rcases List.mem_cons.mp m with rfl | m
    · obtain ⟨h1, h2, h3, _⟩ := h
      rw [← h1, ← h2]
      exact h3
    · exact putR_mem t x m
theorem cr_dictT (hcalm : X.calm = true) (hu : X.A.units + 2 < cLine) : CallR X (.type "dict") (rDictT X.K) := by
  intro pins s σ H xs us Q I r q
  obtain ⟨a, ps, zs, ex, hq, hp, q⟩ := q
  subst ex
  obtain ⟨u, eu, rx⟩ := vals1 r
  subst eu
  cases rx
  obtain ⟨its, rv, pl, hz⟩ := I.list hq
  have ei := refs_at rv
  subst ei
  rw [List.length_map] at hz
  obtain ⟨prs, rel, hl, hpr⟩ := pairsT I hp
  obtain ⟨o, n, ho, hc, hd, hdat⟩ := pl
  have hlV : (prs.map fun x => (Value.ref x.2.1, x.2.2)).length = prs.length := List.length_map ..
  have hzs : zs.length = prs.length := rel.length
  have P := PySem.PairArg.list (prog := X.prog) (w := X.w) a (ps.map Value.ref).toArray (fun j => ps.getD j 0) (prs.map fun x => (Value.ref x.2.1, x.2.2))
  refine PySem.call_dict_pairsH (knd := tupleKind (mixKind X.prog X.w)) (ps := prs) P (I.ok.hd hcalm) hu ⟨⟨o, n, ho, hc, hd, hdat⟩, ?_, fun j k v e => ?_⟩ ⟨hlV.symm, fun i key v e => ?_⟩ (fun h' hk x hx => ?_) ?_ fun h' tk hd' hk => ?_
  · simp [hl]
  · rw [List.getElem?_map] at e
    obtain ⟨x, hx, ex⟩ := Option.map_eq_some_iff.mp e
    obtain ⟨T, e1, e2⟩ := hpr j x hx
    cases ex
    have eT : ps.getD j 0 = T := by
      rw [List.getD_eq_getElem?_getD, e1]
      rfl
    refine ⟨?_, .inl ?_⟩
    · show _ = some (Value.ref (ps.getD j 0))
      rw [eT]
      simp [e1]
    · show s.heap.IsTuple (ps.getD j 0) _
      rw [eT]
      exact e2
  · replace e : (prs.map fun x => (Value.ref x.2.1, x.2.2))[i]? = some (key, v) := e
    rw [List.getElem?_map] at e
    obtain ⟨x, hx, ex⟩ := Option.map_eq_some_iff.mp e
    cases ex
    exact ⟨x.1, x.2.1, hx, rfl⟩
  · have hx1 := putR_mem rel x hx
    obtain ⟨_, its2, r2, o2, h1, h2, n2, h3⟩ := (show ObjOk X.prog X.w H s.heap x.2.1 (.tup (x.1.map kV)) from I.hok x.2.1 _ hx1)
    exact ⟨o2, its2.toArray, n2, hk _ _ (Nat.ne_of_lt (Heap.lt_size h1)) (by simp) h1, h2, h3, by simpa using items_are r2⟩
  · rw [hlV, hl]
    exact hz
  · have hm : (s.heap.objs.size == sysModules) = false := beq_eq_false_iff_ne.mpr (Nat.ne_of_gt I.big)
    have hlen : (putAll [] zs).length ≤ sizeLine := by
      refine Nat.le_trans (putAll_len zs []) ?_
      rw [List.length_nil, Nat.zero_add, hzs, hl]
      exact hz
    have nf := I.hok.fresh (Nat.le_refl s.heap.objs.size)
    obtain ⟨q', es, ep, hq', h2, h3, h4, _, h5⟩ := hd'
    exact ⟨.ref s.heap.objs.size, upd H s.heap.objs.size (.dT (putAll [] zs)), I.laid (t' := tk) (fun b o e => hk b o (by simp) e) (Nat.le_refl _) (show ObjOk X.prog X.w _ _ _ (.dT (putAll [] zs)) from ⟨hlen, hm, _, (putAll_kt rel .nil).keeps fun c ys ec => by
      rw [upd_ne (ne_of_none ec nf)]
      exact ec, q', es, ep, hq', h2, h3, h4, h5⟩), rfl, q _ nf⟩
/-- d.setdefault(y, z), the key a tuple -/
def tDSetdT (td ty tx : TE) : TE := fun σ H Q => td σ H fun x H1 => ∃ a, x = .ref a ∧ IsD H1 a ∧ ty σ H1 fun y H2 => tx σ H2 fun z H3 => ∃ kvs k b, H3 a = some (.dT kvs) ∧ y = .ref b ∧ H3 b = some (.tup (k.map kV)) ∧ kvs.length < sizeLine ∧
  (∀ v, valV kvs k = some v → Q v H3) ∧ (valV kvs k = none → Q z (upd H3 a (.dT (putK kvs k z))))
theorem pe_dsetdT {o e f : Expr} {td ty tx : TE} {apos cpos : Pos} (hu : X.A.units + 1 < cLine) (ho : PE X o td) (he : PE X e ty) (hf : PE X f tx) (m : M2 X o "setdefault" apos e f cpos) : PE X (.Call (.Attribute o "setdefault" apos) [e, f] [] cpos) (tDSetdT td ty tx) := by
  refine ⟨fun pins s σ H Q I h => ?_⟩
  refine wpAny_Call_method m.base m.few m.line PySem.F.plainAttrs_dict PySem.F.slot_dict_setdefault PySem.F.type_dict_setdefault (thn (ho.run pins s σ H _ I h) fun u s1 ⟨x, H1, I1, rx, a, ex, d, q1⟩ => ?_)
  subst ex
  obtain rfl : u = Value.ref a := rx
  obtain ⟨t1, t2, _⟩ := isD_at I1 d
  refine ⟨t1, t2, ?_⟩
  rw [m.trees]
  refine Calls.callWith_builtin rfl (Calls.evalArgs_plain (Calls.spliced_cons (thn (he.run pins s1 σ H1 _ I1 q1) fun iv s2 ⟨y, H2, I2, ry, q2⟩ =>
    Calls.spliced_cons (thn (hf.run pins s2 σ H2 _ I2 q2) fun fv s3 ⟨z, H3, I3, rz, kvs, k, b, ea, ey, eb, hl, q3, q4⟩ => Calls.spliced_nil ?_))))
  subst ey
  obtain rfl : iv = Value.ref b := ry
  obtain ⟨z0, hd, xs, rel, dd⟩ := dt_of I3.hok ea
  have hz : xs.length ≤ sizeLine := by
    rw [← Paired.length rel]
    exact z0
  have hv := rel.val k
  refine call_setdefault_heap (tupleKind_room_in1 hu) (key_of I3.hok eb) hd dd (fun p hp => ?_) (fun hn h' dd' hs => ?_) hz
  · rw [hp] at hv
    cases e : valV kvs k with
    | none =>
      rw [e] at hv
      exact hv.elim
    | some v =>
      rw [e] at hv
      exact ⟨v, _, I3.tok _, hv, q3 v e⟩
  · rw [hn] at hv
    cases e : valV kvs k with
    | some v =>
      rw [e] at hv
      exact hv.elim
    | none =>
      have hlen : (putK kvs k z).length ≤ sizeLine := by
        have := length_putK kvs k z
        omega
      obtain ⟨q, es, ep, hq, h2, h3, h4, _, h5⟩ := dd'
      refine ⟨z, upd H3 a (.dT (putK kvs k z)), d_write I3 (by rw [ea]; exact True.intro) hs ⟨q, hq⟩ ⟨hlen, hd, _, (rel.put k eb rz).keeps fun c ys ec => ?_, q, es, ep, hq, h2, h3, h4, h5⟩, rz, q4 e⟩
      rw [upd_ne (ne_of ec ea (fun z => nomatch z))]
      exact ec
end
end Tk

set_option Elab.async false
set_option linter.all false
set_option maxRecDepth 100000
set_option maxHeartbeats 4000000
/-! Pages by days, things on a page. -/
namespace Tk
open PySem PySem.Spec PyProof.Rows L2
open LamX (Tabs ExtN)
/-- word, rack, number, rank -/
abbrev Thing := Str × Int × Int × Option Int
def thingD (t : Thing) : PyData := .tuple [.str t.1, .int t.2.1, .int t.2.2.1, oI t.2.2.2]
def thingsOn : Page → List Thing
  | .office _ _ _ _ be ba _ => (be.map fun b => (("better" : Str), b.1, b.2.1, some b.2.2) : List Thing) ++ (ba.map fun b => (("back" : Str), b.1, b.2, none) : List Thing)
  | .gate .. => []
def isOffice : Page → Bool
  | .office .. => true
  | .gate .. => false
def M_things_on (p : Plan) (ds : List PyData) (r : List PyData) : Prop := ∃ g, ds = [pageD g] ∧ isOffice g = true ∧ PageOk p g ∧ r = (thingsOn g).map thingD
def M_things_on' (ds : List PyData) (r : List PyData) : Prop := ∃ p, M_things_on p ds r
def leDP (a b : Page) : Bool := PySem.W.dataLe false (fun g : Page => PyData.tuple [.int g.day, .int g.place]) a b
def pagesByDays (file : List Page) : List Page := (file.filter isOffice).mergeSort leDP
def spPages (T : List (Addr × Str)) : Sp := fun vs H Q _ => ∃ (p : Plan) (file : List Page), TdAll H vs [fileD file] ∧ FileOk p file ∧ Tabs T H ∧ ∀ l xs H', (∀ o, H l = some o → ∃ ps, o = .tbl ps) → ExtN H H' → Tabs T H' → H' l = some (.lst xs) → TdAll H' xs ((pagesByDays file).map pageD) → Q (.ref l) H'
section
variable {P : Program} {w : World} {K : PySem.W.Frag} {mg : Str → Option Value} {base : Heap}
/-- a def whose code object is known -/
def FnAtC (K : PySem.W.Frag) (mg : Str → Option Value) (x : Str) (st : Stmt) (c : Addr) : Prop := ∃ f fd, FnP K x x st f fd ∧ mg x = some (.ref f) ∧ fd.code = .ref c
theorem cal_ofC {x : Str} {st : Stmt} {c : Addr} {N ps : List Str} {k : Nat} {sp : Sp} (FA : FnAtC K mg x st c) (S : FnScope N ps (defScope st))
    (hb : ∀ (kV doc pm : Value) (an : Option Addr) (cdv ct : Value) (us : List Value), us.length = ps.length → bindArgs (PySem.W.fnOf x x (defArgs st) (defBody st) (defScope st) .none kV doc pm an cdv ct) ⟨us, []⟩ = pure (ps.zip us))
    (len : ∀ vs H Q E, sp vs H Q E → vs.length = ps.length)
    (body : ∀ (f : Addr) (A : Around) (outer : List Env) (s : Shared) (H : Hp) (vs : List V) (Q : VK) (E : XK), Room k (A.deeper (envOfC x (defScope st) s.heap.objs.size f (.ref c))) → sp vs H Q E →
      ∃ t, PSs (cxOf CX0 P w K mg base N x (defScope st) f (.ref c) A outer s H E) (defBody st) t ∧ t { nx := fun _ H' => Q .non H', rt := Q } (start N vs) H) : Cal P w K mg base x (k + 1) ps sp := by
  obtain ⟨f, fd, F, g, hc⟩ := FA
  have hF := F
  obtain ⟨oc, od, dV, kV, doc, pm, an, cdv, ct, osl, rfl, lk, hcd, _, _⟩ := F.ex
  have e : cdv = .ref c := hc
  subst e
  exact ⟨f, _, fn_of lk hcd S len fun A outer s H vs Q E hr hsp => body f A outer s H vs Q E hr hsp, g, F.kp, hF.bindsN hb⟩
theorem cal_things_on (T : Txt K mg) : Cal P w K mg base "things_on" 1 p_things_on (spL M_things_on') := by
  refine cal_of T.things_on sc_things_on (fun _ _ _ _ _ _ us hl => match us, hl with | [_], _ => rfl) (spL_len fun ds r ⟨p, g, e, _⟩ => by rw [e]; rfl) fun f cdv A outer s H vs Q E hr h => ?_
  obtain ⟨ds, r, ⟨p, g, rfl, ho, PO, rfl⟩, t, q⟩ := h
  refine ⟨_, PSs.nox (pss_cons (ps_setLc (i := 1) rfl sc_things_on.nd rfl rfl (sw_true rfl rfl rfl rfl) (pi_tup (pix K (pv 0) pe_int)) (own := [("rack", 2), ("number", 3), ("rank", 4)]) (blkOk_by (N := n_things_on) (sc := defScope s_things_on) (by decide +kernel))
      (fun _ _ _ _ _ => pgt K 3 (pgs_cons (pg_name (i := 2) sc_things_on.nd rfl (.inl rfl)) (pgs_cons (pg_name (i := 3) sc_things_on.nd rfl (.inl rfl)) (pgs_cons (pg_name (i := 4) sc_things_on.nd rfl (.inl rfl)) pgs_nil)))) (fun _ _ _ _ _ => pts_nil) (fun _ _ _ _ _ => pe_tup (pa_cons pe_str (pa_cons (pv 2) (pa_cons (pv 3) (pa_cons (pv 4) pa_nil))))))
    (pss_one (ps_ret (pe_op op_cat (pv 1) (pe_lc rfl sc_things_on.nd (pi_tup (pix K (pv 0) pe_int)) (own := [("rack", 2), ("number", 3)]) (blkOk_by (N := n_things_on) (sc := defScope s_things_on) (by decide +kernel))
      (fun _ _ _ _ _ => pgt K 2 (pgs_cons (pg_name (i := 2) sc_things_on.nd rfl (.inl rfl)) (pgs_cons (pg_name (i := 3) sc_things_on.nd rfl (.inl rfl)) pgs_nil))) (fun _ _ _ _ _ => pts_nil) (fun _ _ _ _ _ => pe_tup (pa_cons pe_str (pa_cons (pv 2) (pa_cons (pv 3) (pa_cons pe_non pa_nil)))))))))), ?_⟩
  obtain ⟨v0, rfl, t0⟩ := t.one
  cases g with
  | gate pl dy c e => cases ho
  | office pl dy c pr be ba co =>
    obtain ⟨_, _, _, hbe, hba, _⟩ := PO
    have d0 : DE (tVar 0) (start n_things_on [v0]) H (pageD (.office pl dy c pr be ba co)) := de_var (i := 0) rfl t0
    have h1 := di_tup (K := K) (de_ix (K := K) d0 (de_int (i := ((5 : Nat) : Int))) (d := .tuple (be.map stepD)) rfl)
    refine s_setL (dl_lcG (as := be) (fun _ => true) (fun b => thingD ("better", b.1, b.2.1, some b.2.2)) h1 (big_ (by omega)) ?_) fun l xs H1 nl s1 el tl => ?_
    · intro b hb v H1 k tv Q q
      refine g_three tv fun x y z tx ty tz => q _ rfl dt_yes fun _ => ?_
      exact de_tup (da_cons de_str (da_cons (de_var (i := 2) rfl tx) (da_cons (de_var (i := 3) rfl ty) (da_cons (de_var (i := 4) rfl tz) da_nil))))
    · rw [filter_yes] at tl
      have d1 : DE (tVar 0) ((start n_things_on [v0]).set 1 (some (.ref l))) H1 (pageD (.office pl dy c pr be ba co)) := de_var (i := 0) rfl (t0.mono (.same s1))
      have h2 := di_tup (K := K) (de_ix (K := K) d1 (de_int (i := ((6 : Nat) : Int))) (d := .tuple (ba.map pairD)) rfl)
      have h3 : DL _ ((start n_things_on [v0]).set 1 (some (.ref l))) H1 _ := dl_lcG (g := gTup K 2 (gCons (gName 2) (gCons (gName 3) gNil))) (tt := tYes) (te := tTup (tCons (tC (.str "back")) (tCons (tVar 2) (tCons (tVar 3) (tCons (tC .non) tNil))))) (vs := [2, 3]) (as := ba) (fun _ => true) (fun b => thingD ("back", b.1, b.2, none)) h2 (big_ (by omega)) (by
        intro b hb v H1 k tv Q q
        refine g_pair tv fun x y tx ty => q _ rfl dt_yes fun _ => ?_
        exact de_tup (da_cons de_str (da_cons (de_var (i := 2) rfl tx) (da_cons (de_var (i := 3) rfl ty) (da_cons de_non da_nil)))))
      rw [filter_yes] at h3
      refine r_ret (r_op ⟨_, rfl, h3.at_ fun l2 ys H2 nl2 s2 el2 tl2 => ?_⟩)
      refine ⟨l, l2, xs, ys, rfl, rfl, s2 _ _ el, el2, ?_, fun r nr => ?_⟩
      · rw [tl.length, tl2.length, List.length_map, List.length_map]
        exact Nat.le_of_lt (big_ (by omega))
      · refine q r _ _ ((s1.trans s2).free nr) ((s1.trans s2).trans (same_new nr)) upd_same ?_
        have := ((tl.mono (.same s2)).append tl2).mono (TK.new (o := .lst (xs ++ ys)) nr)
        have ee : (thingsOn (.office pl dy c pr be ba co)).map thingD = be.map (fun b => thingD ("better", b.1, b.2.1, some b.2.2)) ++ ba.map (fun b => thingD ("back", b.1, b.2, none)) := by
          show (be.map _ ++ ba.map _).map thingD = _
          rw [List.map_append, List.map_map, List.map_map]
          rfl
        rw [ee]
        exact this
theorem at2_page (g : Page) : at2 2 1 (pageD g) = .tuple [.int g.day, .int g.place] := rfl
theorem c2_page (g : Page) : C2 2 1 (pageD g) := ⟨_, g.day, g.place, rfl, rfl, rfl⟩
theorem sortOk_pages (gs : List Page) : SortOk (gs.map fun g => PyData.tuple [.int g.day, .int g.place]) :=
  ⟨.of fun a b => by simp [PySem.W.alike, PySem.W.alikeAll], .tuples fun b => ⟨_, _, rfl⟩, fun d m => by
    obtain ⟨s, _, rfl⟩ := List.mem_map.mp m
    simp [PyData.depth, PyData.depthAll]⟩
/-- pairs of a value and its datum, sorted by a key of the datum -/
theorem sort_by {α : Type} {en : α → PyData} {kf : PyData → PyData} (ps : List (V × PyData)) (as : List α) (h : ps.map (·.2) = as.map en) : (ps.mergeSort (leF kf)).map (·.2) = (as.mergeSort fun a b => PySem.W.dataLe false (fun a : α => kf (en a)) a b).map en := by
  have h1 : (ps.mergeSort (leF kf)).map (·.2) = (ps.map (·.2)).mergeSort (PySem.W.dataLe false fun d : PyData => kf d) := List.map_mergeSort fun a _ b _ => rfl
  have h2 : (as.mergeSort fun a b => PySem.W.dataLe false (fun a : α => kf (en a)) a b).map en = (as.map en).mergeSort (PySem.W.dataLe false fun d : PyData => kf d) := List.map_mergeSort fun a _ b _ => rfl
  rw [h1, h2, h]
theorem cal_pages_by_days {T : List (Addr × Str)} {c P1 : Addr} (X : Txt K mg) (FA : FnAtC K mg "pages_by_days" s_pages_by_days c) (TB : LamX.TabB base mg c P1)
    (hm : (P1, (envOfC "pages_by_days" (defScope s_pages_by_days) 0 0 (.ref c)).qual ++ "<lambda>") ∈ T) (hu : ∀ p ∈ T, p.1 = P1 → p.2 = (envOfC "pages_by_days" (defScope s_pages_by_days) 0 0 (.ref c)).qual ++ "<lambda>") :
    Cal P w K mg base "pages_by_days" 2 p_pages_by_days (spPages T) := by
  refine cal_ofC FA sc_pages_by_days (fun _ _ _ _ _ _ us hl => match us, hl with | [_], _ => rfl) (fun vs H Q E ⟨p, file, t, _⟩ => t.length) fun f A outer s H vs Q E hr h => ?_
  obtain ⟨p, file, t, FO, hT, q⟩ := h
  refine ⟨_, PSs.nox (pss_cons (ps_setLc (i := 1) rfl sc_pages_by_days.nd rfl rfl (sw_true rfl rfl rfl rfl) (pi_tup (pv 0)) (own := [("page", 2)]) (blkOk_by (N := n_pages_by_days) (sc := defScope s_pages_by_days) (by decide +kernel))
      (fun _ _ _ _ _ => pg_name (i := 2) sc_pages_by_days.nd rfl (.inl rfl)) (fun _ _ _ _ _ => pts_one (pt_cmpR op_eq (pix K (pv 2) pe_int) pe_str (nomark _))) (fun _ _ _ _ _ => pv 2))
    (pss_one (ps_ret (pe_sortedLam (T := T) (c := c) (P := P1) rfl X.sorted (pv 1) TB rfl hm hu hr rfl ⟨rfl, rfl, rfl, rfl, by decide +kernel⟩ (fun _ _ _ _ _ _ => rfl) (key2' 2 1))))), ?_⟩
  obtain ⟨v0, rfl, t0⟩ := t.one
  refine s_setL (dl_lc (as := file) isOffice pageD (di_tup (K := K) (de_var (i := 0) rfl t0)) (big_ (by have := FO.len; omega)) (fun _ => rfl) ?_) fun l xs H1 nl s1 el tl => ?_
  · intro g hg v H1 k tv
    have h1 := dt_test (de_eqS (de_ix (K := K) (de_var (σ := (wipe (start n_pages_by_days [v0]) [2]).set 2 (some v)) (d := pageD g) (i := 2) rfl tv) (de_int (i := ((0 : Nat) : Int))) (d := .str g.word) rfl) (de_str (x := "office")))
    refine ⟨h1.to ?_, fun _ => de_var (i := 2) rfl tv⟩
    cases g with
    | office pl dy c pr be ba co => exact decide_eq_true rfl
    | gate pl dy c e => exact decide_eq_false (show ¬ ("gate" : Str) = "office" by decide +kernel)
  · have hlen := tl.length
    have tz := tl.forall_
    have e2 : ((xs.zip ((file.filter isOffice).map pageD)).map (·.2)) = (file.filter isOffice).map pageD := zip_snd hlen
    refine r_ret ⟨.ref l, rfl, l, xs.zip ((file.filter isOffice).map pageD), rfl, by rw [zip_fst hlen]; exact .of el, hT.ext s1, fun pr m => ⟨tz pr m, ?_⟩, ?_, fun H2 qq e nT nq => ?_⟩
    · have h3 : pr.2 ∈ (xs.zip ((file.filter isOffice).map pageD)).map (·.2) := List.mem_map.mpr ⟨pr, m, rfl⟩
      rw [e2] at h3
      obtain ⟨g, _, eg⟩ := List.mem_map.mp h3
      rw [← eg]
      exact c2_page g
    · have h4 : ((xs.zip ((file.filter isOffice).map pageD)).map fun p => at2 2 1 p.2) = (file.filter isOffice).map fun g => PyData.tuple [.int g.day, .int g.place] := by
        have := congrArg (List.map (at2 2 1)) e2
        rw [List.map_map, List.map_map] at this
        exact this
      rw [h4]
      exact sortOk_pages _
    · have hs := sort_by (kf := at2 2 1) (xs.zip ((file.filter isOffice).map pageD)) (file.filter isOffice) e2
      have eN : ExtN H (upd H2 qq (.lst (((xs.zip ((file.filter isOffice).map pageD)).mergeSort (leF (at2 2 1))).map (·.1)))) := fun b o eb n => by
        have h5 := e b o (s1 b o eb) n
        rw [upd_ne (ne_of_none h5 nq)]
        exact h5
      refine q qq _ _ ?_ eN (nT.ext (same_new nq)) upd_same ?_
      · intro o hq
        by_cases ho : ∃ ps, o = .tbl ps
        · exact ho
        · have h5 := e qq o (s1 qq o hq) (fun ps z => ho ⟨ps, z⟩)
          rw [nq] at h5
          cases h5
      · have h6 := TdAll.of_zip (H := H1) (ps := (xs.zip ((file.filter isOffice).map pageD)).mergeSort (leF (at2 2 1))) fun pp m => tz pp (List.mem_mergeSort.mp m)
        rw [hs] at h6
        exact (h6.mono (.extN e)).mono (.new nq)
end
end Tk

set_option Elab.async false
set_option linter.all false
set_option maxRecDepth 100000
set_option maxHeartbeats 4000000
/-! Standing: init, rank_of, word_for, done. -/
namespace Tk
open PySem PySem.Spec PyProof.Rows L2
/-- a method as its caller needs it -/
structure MCal (P : Program) (w : World) (K : PySem.W.Frag) (mg : Str → Option Value) (base : Heap) (C : Addr) (m : Str) (k : Nat) (ps : List Str) (sp : Sp) : Prop where
  ex : ∃ f fd, FnOk P w K mg base CX0 k f fd ps sp ∧ Meth K C m f ∧ Binds K fd ps []
theorem pe_mcal {X : Cx} {C : Addr} {m : Str} {k : Nat} {ps : List Str} {sp : Sp} {o e : Expr} {es : List Expr} {ta : TE} {t : TA} {apos pos : Pos} {pl : Sem Bool} (M : MCal X.prog X.w X.K X.mg X.base C m k ps sp) (hr : Room k X.A) (c : Cls X.K C) (he : PE X o ta) (ha : PA X (e :: es) t)
    (hst : starEach (e :: es) X.env = (false, eval e X.env) :: starEach es X.env := by rfl) (hpl : (backTo pos (starEach es X.env)).any (·.1) = false := by rfl)
    (ht : eval (.Call (.Attribute o m apos) (e :: es) [] pos) X.env = (do
      let ov ← eval o X.env
      standAt apos.atName
      let (f, first) ← holding [ov] (getMethod ov m pl)
      callWith pos f first (backTo pos (starEach (e :: es) X.env)) (backToKw pos (keywordEach [] X.env))) := by rfl) :
    PE X (.Call (.Attribute o m apos) (e :: es) [] pos) (tMeth C m sp [] E0 ta t) := by
  obtain ⟨f, fd, F, hm, b⟩ := M.ex
  exact pe_meth he c hm F hr b .nil pass0 ha hst hpl ht
def stF (v0 : V) (od en ra go : Addr) : List (Str × V) := [("plan", v0), ("odds", .ref od), ("ends", .ref en), ("ranks", .ref ra), ("gone", .ref go)]
abbrev Gone := Int → Int → Bool
def OddD (kvs : List (List Key × V)) (odds : List Seeing) : Prop := ∀ s, (valV kvs (keyS s)).isSome = decide (s ∈ odds)
def GoneD (kvs : List (List Key × V)) (g : Gone) : Prop := ∀ r n, (valV kvs [.inl r, .inl n]).isSome = g r n
structure Stand (C : Addr) (H : Hp) (p : Addr) (v0 : V) (od en ra go : Addr) (plan : Plan) (odds : List Seeing) (ends ranks : Two) (gone : Gone) (m : Nat) : Prop where
  obj : ∃ dx, H p = some (.ins C dx (stF v0 od en ra go))
  pl : Td H v0 (planD plan)
  dOd : ∃ kvs, H od = some (.dT kvs) ∧ OddD kvs odds
  dEn : ∃ kvs, H en = some (.dT kvs) ∧ TolD kvs ends
  dRa : ∃ kvs, H ra = some (.dT kvs) ∧ TolD kvs ranks ∧ kvs.length ≤ m
  dGo : ∃ kvs, H go = some (.dT kvs) ∧ GoneD kvs gone ∧ kvs.length ≤ m
  n1 : ra ≠ go
  n2 : ra ≠ od
  n3 : ra ≠ en
  n4 : go ≠ od
  n5 : go ≠ en
section
variable {C : Addr} {H H' : Hp} {p : Addr} {v0 : V} {od en ra go : Addr} {plan : Plan} {odds : List Seeing} {ends ranks : Two} {gone : Gone} {m : Nat}
theorem Stand.keep (S : Stand C H p v0 od en ra go plan odds ends ranks gone m) (k : TK H H') (h : ∀ b o, b = p ∨ b = od ∨ b = en ∨ b = ra ∨ b = go → H b = some o → H' b = some o) : Stand C H' p v0 od en ra go plan odds ends ranks gone m :=
  ⟨let ⟨dx, e⟩ := S.obj; ⟨dx, h _ _ (.inl rfl) e⟩, S.pl.mono k, let ⟨kvs, e, r⟩ := S.dOd; ⟨kvs, h _ _ (.inr (.inl rfl)) e, r⟩, let ⟨kvs, e, r⟩ := S.dEn; ⟨kvs, h _ _ (.inr (.inr (.inl rfl))) e, r⟩,
    let ⟨kvs, e, r⟩ := S.dRa; ⟨kvs, h _ _ (.inr (.inr (.inr (.inl rfl)))) e, r⟩, let ⟨kvs, e, r⟩ := S.dGo; ⟨kvs, h _ _ (.inr (.inr (.inr (.inr rfl)))) e, r⟩, S.n1, S.n2, S.n3, S.n4, S.n5⟩
theorem Stand.same (S : Stand C H p v0 od en ra go plan odds ends ranks gone m) (s : Same H H') : Stand C H' p v0 od en ra go plan odds ends ranks gone m := S.keep (.same s) fun b o _ e => s b o e
end
section
variable {P : Program} {w : World} {K : PySem.W.Frag} {mg : Str → Option Value} {base : Heap}
theorem de_fld {σ : L2.St} {H : Hp} {ta : TE} {p C dx : Addr} {fs : List (Str × V)} {f : Str} {v : V} {d : PyData} (ho : OR ta σ H p) (e : H p = some (.ins C dx fs)) (c : Cls K C) (n : NoAttr K C f) (l : fs.lookup f = some v) (t : Td H v d) : DE (tFld K ta f) σ H d := fun H1 s Q q =>
  ho H1 s _ ⟨p, C, dx, fs, _, rfl, s _ _ e, c, n, l, q _ _ (Same.refl _) (t.mono (.same s))⟩
theorem de_isNone {σ : L2.St} {H : Hp} {ta : TE} {i : Option Int} (ha : DE ta σ H (oI i)) : DE (tOp (fun x y H Q => y = .non ∧ Q (.bl (decide (x = .non))) H) ta (tC .non)) σ H (.bool i.isNone) := fun H1 k Q q =>
  ha H1 k _ fun x H2 s2 t2 => ⟨rfl, by
    cases i with
    | none =>
      rw [Td.non_ t2]
      exact q _ _ s2 (.bl true)
    | some i =>
      rw [Td.int_ t2]
      exact q _ _ s2 (.bl false)⟩
structure ClsAt (K : PySem.W.Frag) (mg : Str → Option Value) (C : Addr) : Prop where
  c : Cls K C
  g : mg "Standing" = some (.ref C)
  init : ∃ f fd, FnP K "__init__" "Standing.__init__" s_init f fd ∧ Mk K C f
  plan : NoAttr K C "plan"
  odds : NoAttr K C "odds"
  ends : NoAttr K C "ends"
  ranks : NoAttr K C "ranks"
  gone : NoAttr K C "gone"
  rank_of : MtAt K C "rank_of" "Standing.rank_of" s_rank_of
  word_for : MtAt K C "word_for" "Standing.word_for" s_word_for
  done : MtAt K C "done" "Standing.done" s_done
theorem mcal_of {C : Addr} {m qq : Str} {st : Stmt} {N ps : List Str} {k : Nat} {sp : Sp} (FA : MtAt K C m qq st) (S : FnScope N ps (defScope st))
    (hb : ∀ (kV doc pm : Value) (an : Option Addr) (cdv ct : Value) (us : List Value), us.length = ps.length → bindArgs (PySem.W.fnOf m qq (defArgs st) (defBody st) (defScope st) .none kV doc pm an cdv ct) ⟨us, []⟩ = pure (ps.zip us))
    (len : ∀ vs H Q E, sp vs H Q E → vs.length = ps.length)
    (body : ∀ (f : Addr) (cdv : Value) (A : Around) (outer : List Env) (s : Shared) (H : Hp) (vs : List V) (Q : VK) (E : XK), Room k (A.deeper (envOfC qq (defScope st) s.heap.objs.size f cdv)) → sp vs H Q E →
      ∃ t, PSs (cxOf CX0 P w K mg base N qq (defScope st) f cdv A outer s H E) (defBody st) t ∧ t { nx := fun _ H' => Q .non H', rt := Q } (start N vs) H) : MCal P w K mg base C m (k + 1) ps sp := by
  obtain ⟨f, fd, F, g⟩ := FA
  exact ⟨f, fd, F.ok S len (body f), g, F.bindsN hb⟩
def rackRank (p : Plan) (i : Nat) : Int := match p.stock[i]? with
  | some k => k.2.2.1
  | none => 0
def rkOf (p : Plan) (ranks : Two) (i : Nat) (n : Int) : Int := (ranks (i : Int) n).getD (rackRank p i)
def spRank (C : Addr) : Sp := fun vs H Q _ => ∃ (p : Addr) (v0 v1 v2 : V) (od en ra go : Addr) (plan : Plan) (odds : List Seeing) (ends ranks : Two) (gone : Gone) (m i : Nat) (n : Int), vs = [.ref p, v1, v2] ∧ Stand C H p v0 od en ra go plan odds ends ranks gone m ∧
  Td H v1 (.int (i : Int)) ∧ Td H v2 (.int n) ∧ i < plan.stock.length ∧ ∀ H', Same H H' → Q (.int (rkOf plan ranks i n)) H'
theorem mcal_rank_of {C : Addr} (Y : ClsAt K mg C) : MCal P w K mg base C "rank_of" 1 p_rank_of (spRank C) := by
  refine mcal_of Y.rank_of sc_rank_of (fun _ _ _ _ _ _ us hl => match us, hl with | [_, _, _], _ => rfl) (fun vs H Q E ⟨p, v0, v1, v2, od, en, ra, go, plan, odds, ends, ranks, gone, m, i, n, e, _⟩ => by rw [e]; rfl) fun f cdv A outer s H vs Q E hr h => ?_
  obtain ⟨p, v0, v1, v2, od, en, ra, go, plan, odds, ends, ranks, gone, m, i, n, rfl, S, t1, t2, hi, q⟩ := h
  refine ⟨_, PSs.nox (pss_one (ps_ret (pe_dget2 (hu1 hr) (pe_fld (pv 0) rfl) (pe_tup (pa_cons (pv 1) (pa_cons (pv 2) pa_nil))) (pix K (pix K (pix K (pe_fld (pv 0) rfl) pe_int) (pv 1)) pe_int) ⟨rfl, rfl, rfl, rfl⟩))), ?_⟩
  obtain ⟨dx, eo⟩ := S.obj
  obtain ⟨kvr, er, Br, _⟩ := S.dRa
  have hk : plan.stock[i]? = some plan.stock[i] := List.getElem?_eq_getElem hi
  have dpl : DE (tFld K (tVar 0) "plan") (start n_rank_of [.ref p, v1, v2]) H (planD plan) := de_fld (or_var (i := 0) rfl) eo Y.c Y.plan rfl S.pl
  have d1 : DE (tVar 1) (start n_rank_of [.ref p, v1, v2]) H (.int (i : Int)) := de_var (i := 1) rfl t1
  have d2 : DE (tVar 2) (start n_rank_of [.ref p, v1, v2]) H (.int n) := de_var (i := 2) rfl t2
  refine s_ret (d := .int (rkOf plan ranks i n)) (de_dget2T (k := [.inl (i : Int), .inl n]) (e := .int plan.stock[i].2.2.1) (or_fld (K := K) (f := "ranks") (or_var (i := 0) rfl) eo Y.c Y.ranks rfl) (de_tup (da_cons d1 (da_cons d2 da_nil))) (de_ix (K := K) (i := 2) (de_ix (K := K) (i := i) (de_ix (K := K) dpl (de_int (i := ((2 : Nat) : Int))) rfl) d1 (quad_at hk)) (de_int (i := ((2 : Nat) : Int))) rfl) er (fun v hv => ?_) fun hv => ?_) fun v H1 s1 t => ?_
  · rw [Br] at hv
    obtain ⟨z, hz, rfl⟩ := Option.map_eq_some_iff.mp hv
    unfold rkOf
    rw [hz]
    exact .int z
  · rw [Br] at hv
    unfold rkOf
    rw [Option.map_eq_none_iff.mp hv]
    unfold rackRank
    rw [hk]
    rfl
  · rw [t.int_]
    exact q H1 s1
end
end Tk

set_option Elab.async false
set_option linter.all false
set_option maxRecDepth 100000
set_option maxHeartbeats 4000000
/-! Standing: word_for, done, init. -/
namespace Tk
open PySem PySem.Spec PyProof.Rows L2
/-- what stands between the ticket and the rank it asks -/
def lowRank (p : Plan) (ranks : Two) (t : Thing) : Bool := match t.2.2.2 with
  | none => false
  | some k => decide (k ≤ rkOf p ranks t.2.1.toNat t.2.2.1)
def wordFor (p : Plan) (odds : List Seeing) (ends ranks : Two) (gone : Gone) (place day : Int) (t : Thing) : Str :=
  if decide ((t.2.1, t.2.2.1, day, place, t.1) ∈ odds) then "unsold"
  else if decide ((ends t.2.1 t.2.2.1).getD day < day) then "ended"
  else if gone t.2.1 t.2.2.1 then "gone"
  else if t.2.2.2.isSome && lowRank p ranks t then "class"
  else "good"
def ThingOk (p : Plan) (t : Thing) : Prop := 0 ≤ t.2.1 ∧ t.2.1.toNat < p.stock.length ∧ ∀ k, t.2.2.2 = some k → 0 ≤ k ∧ k.toNat < p.rates.length
def spWord (C : Addr) : Sp := fun vs H Q _ => ∃ (p : Addr) (v0 v1 v2 v3 : V) (od en ra go : Addr) (plan : Plan) (odds : List Seeing) (ends ranks : Two) (gone : Gone) (m : Nat) (place day : Int) (t : Thing), vs = [.ref p, v1, v2, v3] ∧ Stand C H p v0 od en ra go plan odds ends ranks gone m ∧
  Td H v1 (.int place) ∧ Td H v2 (.int day) ∧ Td H v3 (thingD t) ∧ ThingOk plan t ∧ ∀ H', Same H H' → Q (.str (wordFor plan odds ends ranks gone place day t)) H'
def RanksOk (p : Plan) (ranks : Two) : Prop := ∀ r n x, ranks r n = some x → 0 ≤ x ∧ x.toNat < p.rates.length
def thingCoin (p : Plan) (ranks : Two) (t : Thing) : Int := match t.2.2.2 with
  | none => 0 - fareOf p t.2.1.toNat (rkOf p ranks t.2.1.toNat t.2.2.1).toNat
  | some k => fareOf p t.2.1.toNat k.toNat - fareOf p t.2.1.toNat (rkOf p ranks t.2.1.toNat t.2.2.1).toNat
def ranksThen (ranks : Two) (t : Thing) : Two := match t.2.2.2 with
  | none => ranks
  | some k => put2 ranks t.2.1 t.2.2.1 k
def goneThen (gone : Gone) (t : Thing) : Gone := match t.2.2.2 with
  | none => fun r n => if r = t.2.1 ∧ n = t.2.2.1 then true else gone r n
  | some _ => gone
def spDone (C : Addr) : Sp := fun vs H Q _ => ∃ (p : Addr) (v0 v1 : V) (od en ra go : Addr) (plan : Plan) (odds : List Seeing) (ends ranks : Two) (gone : Gone) (m : Nat) (t : Thing), vs = [.ref p, v1] ∧ Stand C H p v0 od en ra go plan odds ends ranks gone m ∧ m ≤ 4000000 ∧
  Td H v1 (thingD t) ∧ ThingOk plan t ∧ PlanOk plan ∧ RanksOk plan ranks ∧ ∀ H', KL [ra, go] H H' → Stand C H' p v0 od en ra go plan odds ends (ranksThen ranks t) (goneThen gone t) (m + 1) → Q (.int (thingCoin plan ranks t)) H'
section
variable {P : Program} {w : World} {K : PySem.W.Frag} {mg : Str → Option Value} {base : Heap}
theorem rkOf_ok {p : Plan} {ranks : Two} (O : PlanOk p) (R : RanksOk p ranks) {i : Nat} {n : Int} (hi : i < p.stock.length) : 0 ≤ rkOf p ranks i n ∧ (rkOf p ranks i n).toNat < p.rates.length := by
  unfold rkOf
  cases e : ranks (i : Int) n with
  | some x => exact R _ _ _ e
  | none =>
    show 0 ≤ rackRank p i ∧ (rackRank p i).toNat < p.rates.length
    unfold rackRank
    rw [List.getElem?_eq_getElem hi]
    exact (O.racks _ (List.getElem_mem hi)).rank
theorem RanksOk.next {p : Plan} {ranks : Two} {t : Thing} (R : RanksOk p ranks) (h : ThingOk p t) : RanksOk p (ranksThen ranks t) := by
  intro r n x e
  cases hk : t.2.2.2 with
  | none =>
    unfold ranksThen at e
    rw [hk] at e
    exact R r n x e
  | some k =>
    unfold ranksThen at e
    rw [hk] at e
    replace e : put2 ranks t.2.1 t.2.2.1 k r n = some x := e
    unfold put2 at e
    by_cases hc : r = t.2.1 ∧ n = t.2.2.1
    · rw [if_pos hc] at e
      cases e
      exact h.2.2 _ hk
    · rw [if_neg hc] at e
      exact R r n x e
/-- a call of rank_of -/
theorem de_rank {C : Addr} {σ : L2.St} {H : Hp} {ta tb tc : TE} {p : Addr} {v0 : V} {od en ra go : Addr} {plan : Plan} {odds : List Seeing} {ends ranks : Two} {gone : Gone} {m i : Nat} {n : Int} (S : Stand C H p v0 od en ra go plan odds ends ranks gone m) (ho : OR ta σ H p)
    (hb : DE tb σ H (.int (i : Int))) (hc : DE tc σ H (.int n)) (hi : i < plan.stock.length) : DE (tMeth C "rank_of" (spRank C) [] E0 ta (tCons tb (tCons tc tNil))) σ H (.int (rkOf plan ranks i n)) := fun H1 k Q q => by
  obtain ⟨dx, eo⟩ := S.obj
  refine ho H1 k _ ⟨p, dx, _, rfl, k _ _ eo, rfl, hb H1 k _ fun x H2 s2 t2 => hc H2 (k.trans s2) _ fun y H3 s3 t3 => ?_⟩
  exact ⟨p, v0, x, y, od, en, ra, go, plan, odds, ends, ranks, gone, m, i, n, rfl, S.same ((k.trans s2).trans s3), t2.mono (.same s3), t3, hi, fun H' s' => q _ H' ((s2.trans s3).trans s') (.int _)⟩
theorem mcal_word_for {C : Addr} (Y : ClsAt K mg C) : MCal P w K mg base C "word_for" 2 p_word_for (spWord C) := by
  refine mcal_of Y.word_for sc_word_for (fun _ _ _ _ _ _ us hl => match us, hl with | [_, _, _, _], _ => rfl) (fun vs H Q E ⟨p, v0, v1, v2, v3, od, en, ra, go, plan, odds, ends, ranks, gone, m, place, day, t, e, _⟩ => by rw [e]; rfl) fun f cdv A outer s H vs Q E hr h => ?_
  obtain ⟨p, v0, v1, v2, v3, od, en, ra, go, plan, odds, ends, ranks, gone, m, place, day, t, rfl, S, t1, t2, t3, TO, q⟩ := h
  have M : MCal P w K mg base C "rank_of" 1 p_rank_of (spRank C) := mcal_rank_of Y
  refine ⟨_, PSs.nox (pss_cons (ps_asg (pv 3) (pgt K 4 (pgs_cons (pg_name (i := 4) sc_word_for.nd rfl (.inl rfl)) (pgs_cons (pg_name (i := 5) sc_word_for.nd rfl (.inl rfl)) (pgs_cons (pg_name (i := 6) sc_word_for.nd rfl (.inl rfl)) (pgs_cons (pg_name (i := 7) sc_word_for.nd rfl (.inl rfl)) pgs_nil))))))
    (pss_cons (ps_if (pt_cmp (pc_din (hu1 hr) (pe_tup (pa_cons (pv 5) (pa_cons (pv 6) (pa_cons (pv 2) (pa_cons (pv 1) (pa_cons (pv 4) pa_nil)))))) (pe_fld (pv 0) rfl))) (pss_one (ps_ret pe_str)) pss_nil)
    (pss_cons (ps_if (pt_cmpR op_lt (pe_dget2 (hu1 hr) (pe_fld (pv 0) rfl) (pe_tup (pa_cons (pv 5) (pa_cons (pv 6) pa_nil))) (pv 2) ⟨rfl, rfl, rfl, rfl⟩) (pv 2) (nomark _)) (pss_one (ps_ret pe_str)) pss_nil)
    (pss_cons (ps_if (pt_cmp (pc_din (hu1 hr) (pe_tup (pa_cons (pv 5) (pa_cons (pv 6) pa_nil))) (pe_fld (pv 0) rfl))) (pss_one (ps_ret pe_str)) pss_nil)
    (pss_cons (ps_if (pw_and (pt_cmpR op_notN (pv 7) pe_non (nomark _)) (pw_and1 (pt_cmpR op_le (pv 7) (pe_mcal M hr Y.c (pv 0) (pa_cons (pv 5) (pa_cons (pv 6) pa_nil))) (nomark _)))).pt (pss_one (ps_ret pe_str)) pss_nil)
    (pss_one (ps_ret pe_str))))))), ?_⟩
  refine q_seq (r_asg ((de_var (i := 3) rfl t3).at_ fun y H1 s1 ty => g_four ty fun x4 x5 x6 x7 t4 t5 t6 t7 => ?_))
  replace S := S.same s1
  have t1' := t1.mono (.same s1)
  have t2' := t2.mono (.same s1)
  obtain ⟨dx, eo⟩ := S.obj
  obtain ⟨kvo, eod, Bo⟩ := S.dOd
  obtain ⟨kve, een, Be⟩ := S.dEn
  obtain ⟨kvg, ego, Bg, _⟩ := S.dGo
  have d1 : DE (tVar 1) [some (.ref p), some v1, some v2, some v3, some x4, some x5, some x6, some x7] H1 (.int place) := de_var (i := 1) rfl t1'
  have d2 : DE (tVar 2) [some (.ref p), some v1, some v2, some v3, some x4, some x5, some x6, some x7] H1 (.int day) := de_var (i := 2) rfl t2'
  have d4 : DE (tVar 4) [some (.ref p), some v1, some v2, some v3, some x4, some x5, some x6, some x7] H1 (.str t.1) := de_var (i := 4) rfl t4
  have d5 : DE (tVar 5) [some (.ref p), some v1, some v2, some v3, some x4, some x5, some x6, some x7] H1 (.int t.2.1) := de_var (i := 5) rfl t5
  have d6 : DE (tVar 6) [some (.ref p), some v1, some v2, some v3, some x4, some x5, some x6, some x7] H1 (.int t.2.2.1) := de_var (i := 6) rfl t6
  have d7 : DE (tVar 7) [some (.ref p), some v1, some v2, some v3, some x4, some x5, some x6, some x7] H1 (oI t.2.2.2) := de_var (i := 7) rfl t7
  have pself : OR (tVar 0) [some (.ref p), some v1, some v2, some v3, some x4, some x5, some x6, some x7] H1 p := or_var (i := 0) rfl
  have fin : ∀ {z : Str} {H2 : Hp} {D : Ends}, Same H1 H2 → wordFor plan odds ends ranks gone place day t = z → D.rt = Q → tRet (tC (.str z)) D [some (.ref p), some v1, some v2, some v3, some x4, some x5, some x6, some x7] H2 := fun s e eD => s_ret de_str fun v H3 s3 t3 => by
    rw [t3.str_, ← e, eD]
    exact q H3 ((s1.trans s).trans s3)
  refine q_when ((dt_dinT (k := keyS (t.2.1, t.2.2.1, day, place, t.1)) (de_tup (da_cons d5 (da_cons d6 (da_cons d2 (da_cons d1 (da_cons d4 da_nil))))) (show (5 : Nat) ≤ 10000 by decide)) (or_fld (K := K) (f := "odds") pself eo Y.c Y.odds rfl) eod).to (Bo _)) (fun hb H2 s2 => fin s2 ?_ rfl) fun hb H2 s2 => ?_
  · unfold wordFor
    rw [if_pos hb]
  have dE : DE (tDGet2 (tFld K (tVar 0) "ends") (tTup (tCons (tVar 5) (tCons (tVar 6) tNil))) (tVar 2)) [some (.ref p), some v1, some v2, some v3, some x4, some x5, some x6, some x7] H2 (.int ((ends t.2.1 t.2.2.1).getD day)) := by
    refine (de_dget2T (k := [.inl t.2.1, .inl t.2.2.1]) (or_fld (K := K) (f := "ends") pself eo Y.c Y.ends rfl) (de_tup (da_cons d5 (da_cons d6 da_nil))) d2 een (fun v hv => ?_) fun hv => ?_).mono s2
    · rw [Be] at hv
      obtain ⟨z, hz, rfl⟩ := Option.map_eq_some_iff.mp hv
      rw [hz]
      exact .int z
    · rw [Be] at hv
      rw [Option.map_eq_none_iff.mp hv]
      rfl
  refine q_when (dt_test (de_I0 (c := .bool (decide ((ends t.2.1 t.2.2.1).getD day < day))) dE (d2.mono s2))) (fun hb2 H3 s3 => fin (s2.trans s3) ?_ rfl) fun hb2 H3 s3 => ?_
  · unfold wordFor
    rw [if_neg (by rw [hb]; decide), if_pos hb2]
  have s13 := s2.trans s3
  refine q_when ((dt_dinT (k := [.inl t.2.1, .inl t.2.2.1]) ((de_tup (da_cons d5 (da_cons d6 da_nil))).mono s13) (or_same (or_fld (K := K) (f := "gone") pself eo Y.c Y.gone rfl) s13) (s13 _ _ ego)).to (Bg _ _)) (fun hb3 H4 s4 => fin (s13.trans s4) ?_ rfl) fun hb3 H4 s4 => ?_
  · unfold wordFor
    rw [if_neg (by rw [hb]; decide), if_neg (by rw [hb2]; decide), if_pos hb3]
  have s14 := s13.trans s4
  refine q_when (dt_and (dt_test (de_isN (i := t.2.2.2) (d7.mono s14))) fun hs => (?_ : DT _ _ _ (lowRank plan ranks t))) (fun hb4 H5 s5 => fin (s14.trans s5) ?_ rfl) fun hb4 H5 s5 => fin (s14.trans s5) ?_ rfl
  · obtain ⟨k, hk⟩ := Option.isSome_iff_exists.mp hs
    rw [hk] at d7
    have e1 : lowRank plan ranks t = decide (k ≤ rkOf plan ranks t.2.1.toNat t.2.2.1) := by
      unfold lowRank
      rw [hk]
    rw [e1]
    refine dt_test (de_I0 (i := k) (j := rkOf plan ranks t.2.1.toNat t.2.2.1) (d7.mono s14) (de_rank (S.same s14) (or_same pself s14) ?_ (d6.mono s14) TO.2.1))
    rw [Int.toNat_of_nonneg TO.1]
    exact d5.mono s14
  · unfold wordFor
    rw [if_neg (by rw [hb]; decide), if_neg (by rw [hb2]; decide), if_neg (by rw [hb3]; decide), if_pos hb4]
  · unfold wordFor
    rw [if_neg (by rw [hb]; decide), if_neg (by rw [hb2]; decide), if_neg (by rw [hb3]; decide), if_neg (by rw [hb4]; decide)]
theorem GoneD.put {kvs : List (List Key × V)} {g : Gone} {r n : Int} {x : V} (h : GoneD kvs g) : GoneD (putK kvs [.inl r, .inl n] x) (fun r' n' => if r' = r ∧ n' = n then true else g r' n') := fun r' n' => by
  show _ = if r' = r ∧ n' = n then true else g r' n'
  rw [valV_put]
  by_cases e : r' = r ∧ n' = n
  · obtain ⟨rfl, rfl⟩ := e
    rw [if_pos rfl, if_pos ⟨rfl, rfl⟩]
    rfl
  · rw [if_neg e, if_neg (fun z => e (by
      injection z with z1 z2
      injection z2 with z3 _
      exact ⟨Sum.inl.inj z1, Sum.inl.inj z3⟩))]
    exact h r' n'
theorem mcal_done {C : Addr} (T : Txt K mg) (Y : ClsAt K mg C) : MCal P w K mg base C "done" 5 p_done (spDone C) := by
  refine mcal_of Y.done sc_done (fun _ _ _ _ _ _ us hl => match us, hl with | [_, _], _ => rfl) (fun vs H Q E ⟨p, v0, v1, od, en, ra, go, plan, odds, ends, ranks, gone, m, t, e, _⟩ => by rw [e]; rfl) fun f cdv A outer s H vs Q E hr h => ?_
  obtain ⟨p, v0, v1, od, en, ra, go, plan, odds, ends, ranks, gone, m, t, rfl, S, hm, t1, TO, O, R, q⟩ := h
  have M : MCal P w K mg base C "rank_of" 1 p_rank_of (spRank C) := mcal_rank_of Y
  have CF : Cal P w K mg base "fare" 4 p_fare (spF M_fare) := cal_fare T
  refine ⟨_, PSs.nox (pss_cons (ps_asg (pv 1) (pgt K 4 (pgs_cons (pg_name (i := 2) sc_done.nd rfl (.inl rfl)) (pgs_cons (pg_name (i := 3) sc_done.nd rfl (.inl rfl)) (pgs_cons (pg_name (i := 4) sc_done.nd rfl (.inl rfl)) (pgs_cons (pg_name (i := 5) sc_done.nd rfl (.inl rfl)) pgs_nil))))))
    (pss_cons (ps_set (i := 6) sc_done.nd rfl (.inl rfl) (pe_cal CF hr rfl (pa_cons (pe_fld (pv 0) rfl) (pa_cons (pv 3) (pa_cons (pe_mcal M (hr.mono (by decide)) Y.c (pv 0) (pa_cons (pv 3) (pa_cons (pv 4) pa_nil))) pa_nil)))))
    (pss_cons (ps_if (pt_cmpR op_isN (pv 5) pe_non (nomark _)) (pss_cons (ps_dput (hu1 hr) (pe_fld (pv 0) rfl) (pe_tup (pa_cons (pv 3) (pa_cons (pv 4) pa_nil))) pe_bl rfl) (pss_one (ps_ret (pe_op op_sub pe_int (pv 6))))) pss_nil)
    (pss_cons (ps_dput (hu1 hr) (pe_fld (pv 0) rfl) (pe_tup (pa_cons (pv 3) (pa_cons (pv 4) pa_nil))) (pv 5) rfl)
    (pss_one (ps_ret (pe_op op_sub (pe_cal CF hr rfl (pa_cons (pe_fld (pv 0) rfl) (pa_cons (pv 3) (pa_cons (pv 5) pa_nil)))) (pv 6)))))))), ?_⟩
  refine q_seq (r_asg ((de_var (i := 1) rfl t1).at_ fun y H1 s1 ty => g_four ty fun x2 x3 x4 x5 t2 t3 t4 t5 => ?_))
  replace S := S.same s1
  obtain ⟨dx, eo⟩ := S.obj
  have hR := rkOf_ok (n := t.2.2.1) O R TO.2.1
  have d3 : DE (tVar 3) [some (.ref p), some v1, some x2, some x3, some x4, some x5, none] H1 (.int t.2.1) := de_var (i := 3) rfl t3
  have d3' : DE (tVar 3) [some (.ref p), some v1, some x2, some x3, some x4, some x5, none] H1 (.int (t.2.1.toNat : Int)) := by
    rw [Int.toNat_of_nonneg TO.1]
    exact d3
  have dpl : DE (tFld K (tVar 0) "plan") [some (.ref p), some v1, some x2, some x3, some x4, some x5, none] H1 (planD plan) := de_fld (or_var (i := 0) rfl) eo Y.c Y.plan rfl S.pl
  refine s_set (i := 6) (de_call (M := M_fare) (E := E0) (da_cons dpl (da_cons d3' (da_cons (de_rank S (or_var (i := 0) rfl) d3' (de_var (i := 4) rfl t4) TO.2.1) da_nil))) (d := .int (fareOf plan t.2.1.toNat (rkOf plan ranks t.2.1.toNat t.2.2.1).toNat)) ⟨plan, t.2.1.toNat, (rkOf plan ranks t.2.1.toNat t.2.2.1).toNat, by rw [Int.toNat_of_nonneg hR.1], O, TO.2.1, hR.2, rfl⟩) fun x6 H2 s2 t6 => ?_
  replace S := S.same s2
  have s12 := s1.trans s2
  refine q_when (dt_test (de_isNone (i := t.2.2.2) (de_var (i := 5) rfl (t5.mono (.same s2))))) (fun hb H3 s3 => ?_) (fun hb H3 s3 => ?_)
  · have hn : t.2.2.2 = none := Option.isNone_iff_eq_none.mp hb
    replace S := S.same s3
    obtain ⟨dx, eo⟩ := S.obj
    obtain ⟨kvg, ego, Bg, zg⟩ := S.dGo
    have s23 := s2.trans s3
    refine q_dputT (k := [.inl t.2.1, .inl t.2.2.1]) (d := .bool true) de_bl (de_tup (da_cons (de_var (i := 3) rfl (t3.mono (.same s23))) (da_cons (de_var (i := 4) rfl (t4.mono (.same s23))) da_nil))) (or_fld (K := K) (f := "gone") (or_var (i := 0) rfl) eo Y.c Y.gone rfl) ego (big_ (by omega)) fun z H4 s4 tz => ?_
    have eg4 := s4 _ _ ego
    have m4 : TK H4 (upd H4 go (.dT (putK kvg [.inl t.2.1, .inl t.2.2.1] z))) := .put eg4 fun _ z => by cases z
    have k4 : KL [ra, go] H4 (upd H4 go (.dT (putK kvg [.inl t.2.1, .inl t.2.2.1] z))) := .put (by simp)
    have S4 := S.same s4
    obtain ⟨dx4, eo4⟩ := S4.obj
    obtain ⟨kvo, eod, Bo⟩ := S4.dOd
    obtain ⟨kve, een, Be⟩ := S4.dEn
    obtain ⟨kvr, era, Br, zr⟩ := S4.dRa
    have npg : p ≠ go := ne_of eo4 eg4 (by intro z; cases z)
    have S5 : Stand C (upd H4 go (.dT (putK kvg [.inl t.2.1, .inl t.2.2.1] z))) p v0 od en ra go plan odds ends (ranksThen ranks t) (goneThen gone t) (m + 1) := by
      refine ⟨⟨dx4, by rw [upd_ne npg]; exact eo4⟩, S4.pl.mono m4, ⟨kvo, by rw [upd_ne S.n4.symm]; exact eod, Bo⟩, ⟨kve, by rw [upd_ne S.n5.symm]; exact een, Be⟩, ⟨kvr, by rw [upd_ne S.n1]; exact era, ?_, by omega⟩, ⟨_, upd_same, ?_, ?_⟩, S.n1, S.n2, S.n3, S.n4, S.n5⟩
      · unfold ranksThen
        rw [hn]
        exact Br
      · unfold goneThen
        rw [hn]
        exact Bg.put
      · have := length_putK kvg [.inl t.2.1, .inl t.2.2.1] z
        omega
    refine s_ret (de_I0 (i := 0) (j := fareOf plan t.2.1.toNat (rkOf plan ranks t.2.1.toNat t.2.2.1).toNat) de_int (de_var (i := 6) rfl ((t6.mono (.same (s3.trans s4))).mono m4))) fun v H5 s5 t5' => ?_
    rw [t5'.int_]
    have := q H5 ((((KL.of s12).s s3).s s4).trans (k4.s s5)) (S5.same s5)
    unfold thingCoin at this
    rw [hn] at this
    exact this
  · obtain ⟨k, hk⟩ := Option.isSome_iff_exists.mp (by cases e : t.2.2.2 with | none => rw [e] at hb; cases hb | some k => rfl : t.2.2.2.isSome = true)
    rw [hk] at t5
    have hK := TO.2.2 k hk
    replace S := S.same s3
    obtain ⟨dx, eo⟩ := S.obj
    obtain ⟨kvr, era, Br, zr⟩ := S.dRa
    have s23 := s2.trans s3
    refine q_dputT (k := [.inl t.2.1, .inl t.2.2.1]) (d := .int k) (de_var (i := 5) rfl (t5.mono (.same s23))) (de_tup (da_cons (de_var (i := 3) rfl (t3.mono (.same s23))) (da_cons (de_var (i := 4) rfl (t4.mono (.same s23))) da_nil))) (or_fld (K := K) (f := "ranks") (or_var (i := 0) rfl) eo Y.c Y.ranks rfl) era (big_ (by omega)) fun z H4 s4 tz => ?_
    have er4 := s4 _ _ era
    have m4 : TK H4 (upd H4 ra (.dT (putK kvr [.inl t.2.1, .inl t.2.2.1] z))) := .put er4 fun _ z => by cases z
    have k4 : KL [ra, go] H4 (upd H4 ra (.dT (putK kvr [.inl t.2.1, .inl t.2.2.1] z))) := .put (by simp)
    have S4 := S.same s4
    obtain ⟨dx4, eo4⟩ := S4.obj
    obtain ⟨kvo, eod, Bo⟩ := S4.dOd
    obtain ⟨kve, een, Be⟩ := S4.dEn
    obtain ⟨kvg, ego, Bg, zg⟩ := S4.dGo
    have npr : p ≠ ra := ne_of eo4 er4 (by intro z; cases z)
    have S5 : Stand C (upd H4 ra (.dT (putK kvr [.inl t.2.1, .inl t.2.2.1] z))) p v0 od en ra go plan odds ends (ranksThen ranks t) (goneThen gone t) (m + 1) := by
      refine ⟨⟨dx4, by rw [upd_ne npr]; exact eo4⟩, S4.pl.mono m4, ⟨kvo, by rw [upd_ne S.n2.symm]; exact eod, Bo⟩, ⟨kve, by rw [upd_ne S.n3.symm]; exact een, Be⟩, ⟨_, upd_same, ?_, ?_⟩, ⟨kvg, by rw [upd_ne S.n1.symm]; exact ego, ?_, by omega⟩, S.n1, S.n2, S.n3, S.n4, S.n5⟩
      · unfold ranksThen
        rw [hk, tz.int_]
        exact Br.put
      · have := length_putK kvr [.inl t.2.1, .inl t.2.2.1] z
        omega
      · unfold goneThen
        rw [hk]
        exact Bg
    obtain ⟨dx5, eo5⟩ := S5.obj
    have m24 : TK H2 (upd H4 ra (.dT (putK kvr [.inl t.2.1, .inl t.2.2.1] z))) := (TK.same (s3.trans s4)).trans m4
    have m14 := (TK.same s2).trans m24
    have e3' : DE (tVar 3) [some (.ref p), some v1, some x2, some x3, some x4, some x5, some x6] (upd H4 ra (.dT (putK kvr [.inl t.2.1, .inl t.2.2.1] z))) (.int (t.2.1.toNat : Int)) := by
      rw [Int.toNat_of_nonneg TO.1]
      exact de_var (i := 3) rfl (t3.mono m14)
    have e5' : DE (tVar 5) [some (.ref p), some v1, some x2, some x3, some x4, some x5, some x6] (upd H4 ra (.dT (putK kvr [.inl t.2.1, .inl t.2.2.1] z))) (.int (k.toNat : Int)) := by
      rw [Int.toNat_of_nonneg hK.1]
      exact de_var (i := 5) rfl (t5.mono m14)
    refine s_ret (de_I0 (i := fareOf plan t.2.1.toNat k.toNat) (j := fareOf plan t.2.1.toNat (rkOf plan ranks t.2.1.toNat t.2.2.1).toNat) (de_call (M := M_fare) (E := E0) (da_cons (de_fld (K := K) (f := "plan") (or_var (i := 0) rfl) eo5 Y.c Y.plan rfl S5.pl) (da_cons e3' (da_cons e5' da_nil))) ⟨plan, t.2.1.toNat, k.toNat, rfl, O, TO.2.1, hK.2, rfl⟩) (de_var (i := 6) rfl (t6.mono m24))) fun v H5 s5 t5' => ?_
    rw [t5'.int_]
    have := q H5 ((((KL.of s12).s s3).s s4).trans (k4.s s5)) (S5.same s5)
    unfold thingCoin at this
    rw [hk] at this
    exact this
end
end Tk

set_option Elab.async false
set_option linter.all false
set_option maxRecDepth 100000
set_option maxHeartbeats 4000000
/-! Standing's init. -/
namespace Tk
open PySem PySem.Spec PyProof.Rows L2
def noTwo : Two := fun _ _ => none
def noGone : Gone := fun _ _ => false
def spInit (C : Addr) : Sp := fun vs H Q _ => ∃ (p dx : Addr) (v1 v2 : V) (plan : Plan) (file : List Page), vs = [.ref p, v1, v2] ∧ H p = some (.ins C dx []) ∧ Td H v1 (planD plan) ∧ Td H v2 (fileD file) ∧ PlanOk plan ∧ FileOk plan file ∧
  ∀ H' od en ra go, KL [p] H H' → H od = none → H en = none → H ra = none → H go = none → Stand C H' p v1 od en ra go plan (oddSee plan file) (endsOf plan file) noTwo noGone 0 → Q .non H'
section
variable {P : Program} {w : World} {K : PySem.W.Frag} {mg : Str → Option Value} {base : Heap}
theorem r_fld {σ : L2.St} {H : Hp} {ta tv : TE} {f : Str} {D : Ends} (h : tv σ H fun y H1 => ta σ H1 fun x H2 => ∃ a C dx fs, x = .ref a ∧ H2 a = some (.ins C dx fs) ∧ Cls K C ∧ NoAttr K C f ∧ fs.length < 1000 ∧ D.nx σ (upd H2 a (.ins C dx (putF f y fs)))) : sFld K ta tv f D σ H := h
theorem r_cb {r : List V → Hp → VK → Prop} {σ : L2.St} {H : Hp} {t : TA} {Q : VK} (h : t σ H fun vs H1 => r vs H1 Q) : tCB r t σ H Q := h
theorem putAll_some (k : List Key) : ∀ (zs : List PutIn) (kvs : List (List Key × V)), (valV (putAll kvs zs) k).isSome = ((valV kvs k).isSome || zs.any fun z : PutIn => decide (z.1 = k))
  | [], kvs => by
    show (valV kvs k).isSome = ((valV kvs k).isSome || false)
    rw [Bool.or_false]
  | z :: zs, kvs => by
    show (valV (putAll (putK kvs z.1 z.2.2) zs) k).isSome = _
    rw [putAll_some k zs, valV_put]
    by_cases e : k = z.1
    · rw [if_pos e, List.any_cons, decide_eq_true e.symm, Bool.true_or, Bool.or_true]
      rfl
    · rw [if_neg e, List.any_cons, decide_eq_false (fun q => e q.symm), Bool.false_or]
/-- seeings paired with True, as dict takes them -/
theorem see_pairs {H : Hp} : ∀ {ss : List Seeing} {xs : List V}, TdAll H xs (ss.map fun s => .tuple [seeD s, .bool true]) → ∃ (ps : List Addr) (zs : List PutIn), xs = ps.map V.ref ∧ Paired (PairOf H) ps zs ∧ zs.map (·.1) = ss.map keyS
  | [], _, .nil => ⟨[], [], rfl, .nil, rfl⟩
  | s :: ss, _, .cons a t => by
    obtain ⟨ps, zs, rfl, hp, hz⟩ := see_pairs t
    obtain ⟨p, ys, rfl, e, r⟩ := Td.inv (ds := [seeD s, .bool true]) a
    obtain ⟨x, y, rfl, tx, ty⟩ := r.two
    obtain ⟨b, rfl, eb⟩ := td_key (k := keyS s) tx
    exact ⟨p :: ps, (keyS s, b, y) :: zs, rfl, .cons ⟨e, eb⟩ hp, by rw [List.map_cons, List.map_cons, hz]⟩
theorem put_odds (v : V) (a : V) : putF "odds" a [("plan", v)] = [(("plan" : Str), v), ("odds", a)] := by
  show (if ("plan" : Str) = "odds" then _ else (("plan" : Str), v) :: putF "odds" a []) = _
  rw [if_neg (by decide +kernel)]
  rfl
theorem put_ends (v a b : V) : putF "ends" b [("plan", v), ("odds", a)] = [(("plan" : Str), v), ("odds", a), ("ends", b)] := by
  show (if ("plan" : Str) = "ends" then _ else (("plan" : Str), v) :: (if ("odds" : Str) = "ends" then _ else (("odds" : Str), a) :: putF "ends" b [])) = _
  rw [if_neg (by decide +kernel), if_neg (by decide +kernel)]
  rfl
theorem put_ranks (v a b c : V) : putF "ranks" c [("plan", v), ("odds", a), ("ends", b)] = [(("plan" : Str), v), ("odds", a), ("ends", b), ("ranks", c)] := by
  show (if ("plan" : Str) = "ranks" then _ else (("plan" : Str), v) :: (if ("odds" : Str) = "ranks" then _ else (("odds" : Str), a) :: (if ("ends" : Str) = "ranks" then _ else (("ends" : Str), b) :: putF "ranks" c []))) = _
  rw [if_neg (by decide +kernel), if_neg (by decide +kernel), if_neg (by decide +kernel)]
  rfl
theorem put_gone (v a b c d : V) : putF "gone" d [("plan", v), ("odds", a), ("ends", b), ("ranks", c)] = [(("plan" : Str), v), ("odds", a), ("ends", b), ("ranks", c), ("gone", d)] := by
  show (if ("plan" : Str) = "gone" then _ else (("plan" : Str), v) :: (if ("odds" : Str) = "gone" then _ else (("odds" : Str), a) :: (if ("ends" : Str) = "gone" then _ else (("ends" : Str), b) :: (if ("ranks" : Str) = "gone" then _ else (("ranks" : Str), c) :: putF "gone" d [])))) = _
  rw [if_neg (by decide +kernel), if_neg (by decide +kernel), if_neg (by decide +kernel), if_neg (by decide +kernel)]
  rfl
theorem hu2 {A : Around} {k : Nat} (r : Room k A) : A.units + 2 < cLine := by
  have := r.un
  omega
theorem cal_init {C : Addr} (T : Txt K mg) (Y : ClsAt K mg C) : ∃ f fd, FnOk P w K mg base CX0 5 f fd p_init (spInit C) ∧ Mk K C f ∧ Binds K fd p_init [] := by
  obtain ⟨f, fd, F, M⟩ := Y.init
  refine ⟨f, fd, F.ok sc_init (fun vs H Q E ⟨p, dx, v1, v2, plan, file, e, _⟩ => by rw [e]; rfl) (fun cdv A outer s H vs Q E hr h => ?_), M, F.bindsN fun _ _ _ _ _ _ us hl => match us, hl with | [_, _, _], _ => rfl⟩
  obtain ⟨p, dx, v1, v2, plan, file, rfl, ep, t1, t2, O, FO, q⟩ := h
  have C1 : Cal P w K mg base "odd" 3 p_odd (spF M_odd) := cal_odd T
  have C2 : Cal P w K mg base "first_ends" 4 p_first_ends spEnds := cal_first_ends T
  have cd : CallR (cxOf CX0 P w K mg base n_init "Standing.__init__" (defScope s_init) f cdv A outer s H E).nox (.type "dict") (rDictT K) := cr_dictT rfl (hu2 hr)
  refine ⟨_, PSs.nox (pss_cons (ps_fld (pv 0) (pv 1) rfl)
    (pss_cons (ps_fld (pv 0) (pe_callTy cd rfl T.dict boot_dict (pa_cons (pe_lc rfl sc_init.nd (pi_tup (pe_cal C1 (hr.mono (by decide)) rfl (pa_cons (pv 1) (pa_cons (pv 2) pa_nil)))) (own := [("seeing", 3)]) (blkOk_by (N := n_init) (sc := defScope s_init) (by decide +kernel))
        (fun _ _ _ _ _ => pg_name (i := 3) sc_init.nd rfl (.inl rfl)) (fun _ _ _ _ _ => pts_nil) (fun _ _ _ _ _ => pe_tup (pa_cons (pv 3) (pa_cons pe_bl pa_nil)))) pa_nil)) rfl)
    (pss_cons (ps_fld (pv 0) (pe_cal C2 hr rfl (pa_cons (pv 1) (pa_cons (pv 2) pa_nil))) rfl)
    (pss_cons (ps_fld (pv 0) pe_dnewT rfl) (pss_one (ps_fld (pv 0) pe_dnewT rfl)))))), ?_⟩
  -- self.plan = plan
  refine ⟨v1, rfl, .ref p, rfl, p, C, dx, [], rfl, ep, Y.c, Y.plan, by decide, ?_⟩
  have e1 : (upd H p (.ins C dx (putF "plan" v1 []))) p = some (.ins C dx [("plan", v1)]) := upd_same
  have k1 : KL [p] H (upd H p (.ins C dx (putF "plan" v1 []))) := .put (List.mem_singleton.mpr rfl)
  have m1 : TK H (upd H p (.ins C dx (putF "plan" v1 []))) := .put ep fun _ z => by cases z
  generalize upd H p (.ins C dx (putF "plan" v1 [])) = H1 at e1 k1 m1
  have nfree : ∀ {H' : Hp} {a : Addr} {fs}, H' p = some (.ins C dx fs) → KL [p] H H' → H' a = none → H a = none := fun {H'} {a} {fs} e k n => by
    cases h : H a with
    | none => rfl
    | some o =>
      exfalso
      by_cases hp : a = p
      · rw [hp, e] at n
        cases n
      · rw [k a o (by simpa using hp) h] at n
        cases n
  -- self.odds = dict([..])
  dsimp only
  refine q_seq ?_
  refine r_fld ?_
  refine r_cb ?_
  have h1 : DL (tLc (iTup K (tCall (spF M_odd) [] E0 (tCons (tVar 1) (tCons (tVar 2) tNil)))) (gName 3) tYes (tTup (tCons (tVar 3) (tCons (tC (.bl true)) tNil))) [3]) (start n_init [.ref p, v1, v2]) H1 ((oddSee plan file).map fun s => .tuple [seeD s, .bool true]) :=
    (dl_lc (as := oddSee plan file) (en := seeD) (fun _ => true) (fun s => .tuple [seeD s, .bool true]) (di_tup (K := K) (de_call (M := M_odd) (da_cons (de_var (d := planD plan) (i := 1) rfl (t1.mono m1)) (da_cons (de_var (d := fileD file) (i := 2) rfl (t2.mono m1)) da_nil)) ⟨plan, file, rfl, O, FO, rfl⟩))
      (big_ (Nat.le_trans (Nat.le_trans (List.length_filter_le ..) (allSee_len FO)) (by decide))) (fun _ => rfl) (fun sg hs v H2 s2 tv => ⟨dt_yes, fun _ => de_tup (da_cons (de_var (i := 3) rfl tv) (da_cons de_bl da_nil))⟩)).to (by rw [filter_yes])
  refine (h1.at_ fun l xs H2 nl s2 el tl => ?_ : tLc _ _ _ _ _ _ _ _)
  obtain ⟨ps, zs, rfl, hp, hz⟩ := see_pairs tl
  refine ⟨l, ps, zs, rfl, .of el, hp, fun od nod => ?_⟩
  have e2 := s2 _ _ e1
  have npod : p ≠ od := ne_of_none e2 nod
  refine ⟨.ref p, rfl, p, C, dx, _, rfl, by rw [upd_ne npod]; exact e2, Y.c, Y.odds, by simp, ?_⟩
  rw [put_odds]
  have no0 : H od = none := nfree e2 (k1.s s2) nod
  have bo : OddD (putAll [] zs) (oddSee plan file) := fun sg => by
    rw [putAll_some]
    have em : (zs.any fun z : PutIn => decide (z.1 = keyS sg)) = decide (sg ∈ oddSee plan file) := by
      have e1 : (zs.any fun z : PutIn => decide (z.1 = keyS sg)) = ((zs.map (·.1)).any fun k => decide (k = keyS sg)) := by
        rw [List.any_map]
        rfl
      rw [e1, hz, List.any_map, Bool.eq_iff_iff]
      simp only [List.any_eq_true, Function.comp, decide_eq_true_eq]
      constructor
      · rintro ⟨x, hx, e⟩
        rwa [← keyS_inj e]
      · exact fun hx => ⟨sg, hx, rfl⟩
    rw [em]
    rfl
  have s3 : Same H1 (upd H2 od (.dT (putAll [] zs))) := s2.trans (same_new nod)
  have eod3 : (upd H2 od (.dT (putAll [] zs))) od = some (.dT (putAll [] zs)) := upd_same
  generalize upd H2 od (.dT (putAll [] zs)) = H3 at s3 eod3
  have e3 := s3 _ _ e1
  have k4 : KL [p] H (upd H3 p (.ins C dx [("plan", v1), ("odds", .ref od)])) := (k1.s s3).trans (.put (List.mem_singleton.mpr rfl))
  have m4 : TK H (upd H3 p (.ins C dx [("plan", v1), ("odds", .ref od)])) := (m1.s s3).trans (.put e3 fun _ z => by cases z)
  have e4 : (upd H3 p (.ins C dx [("plan", v1), ("odds", .ref od)])) p = some (.ins C dx [("plan", v1), ("odds", .ref od)]) := upd_same
  have eod4 : (upd H3 p (.ins C dx [("plan", v1), ("odds", .ref od)])) od = some (.dT (putAll [] zs)) := by
    rw [upd_ne npod.symm]
    exact eod3
  generalize upd H3 p (.ins C dx [("plan", v1), ("odds", .ref od)]) = H4 at k4 m4 e4 eod4
  -- self.ends = first_ends(plan, file)
  refine ⟨v1, rfl, v2, rfl, plan, file, .cons (t1.mono m4) (.cons (t2.mono m4) .nil), O, FO, fun en kve H5 nen s5 een Be => ?_⟩
  have e5 := s5 _ _ e4
  refine ⟨.ref p, rfl, p, C, dx, _, rfl, e5, Y.c, Y.ends, by simp, ?_⟩
  rw [put_ends]
  have ne0 : H en = none := nfree e4 k4 nen
  have npen : p ≠ en := ne_of_none e4 nen
  have k6 : KL [p] H (upd H5 p (.ins C dx [("plan", v1), ("odds", .ref od), ("ends", .ref en)])) := (k4.s s5).trans (.put (List.mem_singleton.mpr rfl))
  have m6 : TK H (upd H5 p (.ins C dx [("plan", v1), ("odds", .ref od), ("ends", .ref en)])) := (m4.s s5).trans (.put e5 fun _ z => by cases z)
  have e6 : (upd H5 p (.ins C dx [("plan", v1), ("odds", .ref od), ("ends", .ref en)])) p = some (.ins C dx [("plan", v1), ("odds", .ref od), ("ends", .ref en)]) := upd_same
  have eod6 : (upd H5 p (.ins C dx [("plan", v1), ("odds", .ref od), ("ends", .ref en)])) od = some (.dT (putAll [] zs)) := by
    rw [upd_ne npod.symm]
    exact s5 _ _ eod4
  have een6 : (upd H5 p (.ins C dx [("plan", v1), ("odds", .ref od), ("ends", .ref en)])) en = some (.dT kve) := by
    rw [upd_ne npen.symm]
    exact een
  generalize upd H5 p (.ins C dx [("plan", v1), ("odds", .ref od), ("ends", .ref en)]) = H6 at k6 m6 e6 eod6 een6
  -- self.ranks = {}
  intro ra nra
  have npra : p ≠ ra := ne_of_none e6 nra
  refine ⟨.ref p, rfl, p, C, dx, _, rfl, by rw [upd_ne npra]; exact e6, Y.c, Y.ranks, by simp, ?_⟩
  rw [put_ranks]
  have nr0 : H ra = none := nfree e6 k6 nra
  have e7 : (upd (upd H6 ra (.dT [])) p (.ins C dx [("plan", v1), ("odds", .ref od), ("ends", .ref en), ("ranks", .ref ra)])) p = some (.ins C dx [("plan", v1), ("odds", .ref od), ("ends", .ref en), ("ranks", .ref ra)]) := upd_same
  have a7 : ∀ b o, b ≠ p → H6 b = some o → (upd (upd H6 ra (.dT [])) p (.ins C dx [("plan", v1), ("odds", .ref od), ("ends", .ref en), ("ranks", .ref ra)])) b = some o := fun b o hb e => by
    rw [upd_ne hb, upd_ne (ne_of_none e nra)]
    exact e
  have era7 : (upd (upd H6 ra (.dT [])) p (.ins C dx [("plan", v1), ("odds", .ref od), ("ends", .ref en), ("ranks", .ref ra)])) ra = some (.dT []) := by
    rw [upd_ne npra.symm, upd_same]
  generalize upd (upd H6 ra (.dT [])) p (.ins C dx [("plan", v1), ("odds", .ref od), ("ends", .ref en), ("ranks", .ref ra)]) = H7 at e7 a7 era7
  have k7 : KL [p] H H7 := k6.trans fun b o n e => a7 b o (by simpa using n) e
  have m7 : TK H H7 := m6.trans fun b xs e => a7 b _ (ne_of e e6 (by intro z; cases z)) e
  -- self.gone = {}
  intro go ngo
  have npgo : p ≠ go := ne_of_none e7 ngo
  refine ⟨.ref p, rfl, p, C, dx, _, rfl, by rw [upd_ne npgo]; exact e7, Y.c, Y.gone, by simp, ?_⟩
  rw [put_gone]
  have ng0 : H go = none := nfree e7 k7 ngo
  have e8 : (upd (upd H7 go (.dT [])) p (.ins C dx [("plan", v1), ("odds", .ref od), ("ends", .ref en), ("ranks", .ref ra), ("gone", .ref go)])) p = some (.ins C dx (stF v1 od en ra go)) := upd_same
  have a8 : ∀ b o, b ≠ p → H7 b = some o → (upd (upd H7 go (.dT [])) p (.ins C dx [("plan", v1), ("odds", .ref od), ("ends", .ref en), ("ranks", .ref ra), ("gone", .ref go)])) b = some o := fun b o hb e => by
    rw [upd_ne hb, upd_ne (ne_of_none e ngo)]
    exact e
  have ego8 : (upd (upd H7 go (.dT [])) p (.ins C dx [("plan", v1), ("odds", .ref od), ("ends", .ref en), ("ranks", .ref ra), ("gone", .ref go)])) go = some (.dT []) := by
    rw [upd_ne npgo.symm, upd_same]
  generalize upd (upd H7 go (.dT [])) p (.ins C dx [("plan", v1), ("odds", .ref od), ("ends", .ref en), ("ranks", .ref ra), ("gone", .ref go)]) = H8 at e8 a8 ego8
  have k8 : KL [p] H H8 := k7.trans fun b o n e => a8 b o (by simpa using n) e
  have m8 : TK H H8 := m7.trans fun b xs e => a8 b _ (ne_of e e7 (by intro z; cases z)) e
  have eod7 := a7 _ _ npod.symm eod6
  have een7 := a7 _ _ npen.symm een6
  refine q H8 od en ra go k8 no0 ne0 nr0 ng0 ⟨⟨dx, e8⟩, t1.mono m8, ⟨_, a8 _ _ npod.symm eod7, bo⟩, ⟨_, a8 _ _ npen.symm een7, Be⟩, ⟨[], a8 _ _ npra.symm era7, fun _ _ => rfl, Nat.le_refl _⟩, ⟨[], ego8, fun _ _ => rfl, Nat.le_refl _⟩, ne_of_none era7 ngo, (ne_of_none eod6 nra).symm, (ne_of_none een6 nra).symm, (ne_of_none eod7 ngo).symm, (ne_of_none een7 ngo).symm⟩
end
end Tk

set_option Elab.async false
set_option linter.all false
set_option maxRecDepth 100000
set_option maxHeartbeats 8000000
/-! The ledger, what is kept. -/
namespace Tk
open PySem PySem.Spec PyProof.Rows L2
open LamX (Tabs ExtN)
/-- day, place, word, rack, number, coin, how it stands -/
abbrev Row := Int × Int × Str × Int × Int × Int × Str
def rowD (r : Row) : PyData := .tuple [.int r.1, .int r.2.1, .str r.2.2.1, .int r.2.2.2.1, .int r.2.2.2.2.1, .int r.2.2.2.2.2.1, .str r.2.2.2.2.2.2]
abbrev LSt := Two × Gone × List Row
def rowOf (g : Page) (t : Thing) (coin : Int) (tag : Str) : Row := (g.day, g.place, t.1, t.2.1, t.2.2.1, coin, tag)
def stepL (plan : Plan) (odds : List Seeing) (ends : Two) (g : Page) (S : LSt) (t : Thing) : LSt :=
  if wordFor plan odds ends S.1 S.2.1 g.place g.day t = "good" then (ranksThen S.1 t, goneThen S.2.1 t, S.2.2 ++ [rowOf g t (thingCoin plan S.1 t) "good"])
  else (S.1, S.2.1, S.2.2 ++ [rowOf g t 0 (wordFor plan odds ends S.1 S.2.1 g.place g.day t)])
def pageL (plan : Plan) (odds : List Seeing) (ends : Two) (S : LSt) (g : Page) : LSt := (thingsOn g).foldl (stepL plan odds ends g) S
def ledgerOf (plan : Plan) (file : List Page) : List Row := ((pagesByDays file).foldl (pageL plan (oddSee plan file) (endsOf plan file)) (noTwo, noGone, [])).2.2
def spLedger (T : List (Addr × Str)) : Sp := fun vs H Q _ => ∃ (plan : Plan) (file : List Page), TdAll H vs [planD plan, fileD file] ∧ PlanOk plan ∧ FileOk plan file ∧ Tabs T H ∧ ∀ v H', ExtN H H' → Tabs T H' → Td H' v (.tuple ((ledgerOf plan file).map rowD)) → Q v H'
section
variable {P : Program} {w : World} {K : PySem.W.Frag} {mg : Str → Option Value} {base : Heap}
theorem things_ok {p : Plan} {g : Page} (h : PageOk p g) : ∀ t ∈ thingsOn g, ThingOk p t := by
  cases g with
  | gate pl dy c e =>
    intro t m
    cases m
  | office pl dy c pr be ba co =>
    obtain ⟨_, _, _, _, _, hb, hk⟩ := h
    intro t m
    rcases List.mem_append.mp m with m | m
    · obtain ⟨b, mb, rfl⟩ := List.mem_map.mp m
      obtain ⟨h1, h2, h3, h4⟩ := hb b mb
      exact ⟨h1, h2, fun k e => by cases e; exact ⟨h3, h4⟩⟩
    · obtain ⟨b, mb, rfl⟩ := List.mem_map.mp m
      obtain ⟨h1, h2⟩ := hk b mb
      exact ⟨h1, h2, fun k e => by cases e⟩
theorem things_len {p : Plan} {g : Page} (h : PageOk p g) : (thingsOn g).length ≤ 2000 := by
  cases g with
  | gate pl dy c e => exact Nat.zero_le _
  | office pl dy c pr be ba co =>
    obtain ⟨_, _, _, h1, h2, _⟩ := h
    unfold thingsOn
    rw [List.length_append, List.length_map, List.length_map]
    omega
theorem byDays_mem {file : List Page} {g : Page} : g ∈ pagesByDays file ↔ g ∈ file ∧ isOffice g = true := by
  unfold pagesByDays
  rw [List.mem_mergeSort, List.mem_filter]
theorem byDays_len (file : List Page) : (pagesByDays file).length ≤ file.length := by
  unfold pagesByDays
  rw [List.length_mergeSort]
  exact List.length_filter_le ..
theorem stepL_ok {plan : Plan} {odds : List Seeing} {ends : Two} {g : Page} {S : LSt} {t : Thing} (R : RanksOk plan S.1) (h : ThingOk plan t) : RanksOk plan (stepL plan odds ends g S t).1 ∧ (stepL plan odds ends g S t).2.2.length = S.2.2.length + 1 := by
  unfold stepL
  split
  · exact ⟨R.next h, by simp⟩
  · exact ⟨R, by simp⟩
theorem Tabs.kl {T : List (Addr × Str)} {L : List Addr} {H H' : Hp} (t : Tabs T H) (k : KL L H H') (h : ∀ d ∈ L, ∃ u, H d = some u ∧ (∀ ps, u ≠ .tbl ps) ∧ ∀ φ, u ≠ .ext φ) : Tabs T H' := fun p hp => by
  obtain ⟨ps, h1, h2, h3⟩ := t p hp
  refine ⟨ps, k _ _ (fun z => ?_) h1, h2, fun pos cv hc => ?_⟩
  · obtain ⟨u, e, n, _⟩ := h _ z
    rw [h1] at e
    cases e
    exact n _ rfl
  · obtain ⟨c, e1, e2⟩ := h3 pos cv hc
    refine ⟨c, e1, k _ _ (fun z => ?_) e2⟩
    obtain ⟨u, e, _, n⟩ := h _ z
    rw [e2] at e
    cases e
    exact n _ rfl
theorem de_word {C : Addr} {σ : L2.St} {H : Hp} {ta tb tc td : TE} {p : Addr} {v0 : V} {od en ra go : Addr} {plan : Plan} {odds : List Seeing} {ends ranks : Two} {gone : Gone} {m : Nat} {place day : Int} {t : Thing} (S : Stand C H p v0 od en ra go plan odds ends ranks gone m) (ho : OR ta σ H p)
    (hb : DE tb σ H (.int place)) (hc : DE tc σ H (.int day)) (hd : DE td σ H (thingD t)) (TO : ThingOk plan t) : DE (tMeth C "word_for" (spWord C) [] E0 ta (tCons tb (tCons tc (tCons td tNil)))) σ H (.str (wordFor plan odds ends ranks gone place day t)) := fun H1 k Q q => by
  obtain ⟨dx, eo⟩ := S.obj
  refine ho H1 k _ ⟨p, dx, _, rfl, k _ _ eo, rfl, hb H1 k _ fun x H2 s2 t2 => hc H2 (k.trans s2) _ fun y H3 s3 t3 => hd H3 ((k.trans s2).trans s3) _ fun z H4 s4 t4 => ?_⟩
  exact ⟨p, v0, x, y, z, od, en, ra, go, plan, odds, ends, ranks, gone, m, place, day, t, rfl, S.same (((k.trans s2).trans s3).trans s4), t2.mono (.same (s3.trans s4)), t3.mono (.same s4), t4, TO, fun H' s' => q _ H' (((s2.trans s3).trans s4).trans s') (.str _)⟩
theorem cal_ledger {C : Addr} {TT : List (Addr × Str)} {c P1 : Addr} (T : Txt K mg) (Y : ClsAt K mg C) (FA : FnAtC K mg "pages_by_days" s_pages_by_days c) (TB : LamX.TabB base mg c P1)
    (hm : (P1, (envOfC "pages_by_days" (defScope s_pages_by_days) 0 0 (.ref c)).qual ++ "<lambda>") ∈ TT) (hu : ∀ p ∈ TT, p.1 = P1 → p.2 = (envOfC "pages_by_days" (defScope s_pages_by_days) 0 0 (.ref c)).qual ++ "<lambda>") :
    Cal P w K mg base "ledger" 7 p_ledger (spLedger TT) := by
  refine cal_of T.ledger sc_ledger (fun _ _ _ _ _ _ us hl => match us, hl with | [_, _], _ => rfl) (fun vs H Q E ⟨p, file, t, _⟩ => t.length) fun f cdv A outer s H vs Q E hr h => ?_
  obtain ⟨plan, file, t, O, FO, hT, q⟩ := h
  obtain ⟨fI, fdI, GI, MI, bI⟩ := cal_init (P := P) (w := w) (base := base) T Y
  have CP : Cal P w K mg base "pages_by_days" 2 p_pages_by_days (spPages TT) := cal_pages_by_days T FA TB hm hu
  have CT : Cal P w K mg base "things_on" 1 p_things_on (spL M_things_on') := cal_things_on T
  have MW : MCal P w K mg base C "word_for" 2 p_word_for (spWord C) := mcal_word_for Y
  have MD : MCal P w K mg base C "done" 5 p_done (spDone C) := mcal_done T Y
  refine ⟨_, PSs.nox (pss_cons (ps_set (i := 2) sc_ledger.nd rfl (.inl rfl) (pe_make MI GI hr rfl Y.g bI .nil pass0 (pa_cons (pv 0) (pa_cons (pv 1) pa_nil))))
    (pss_cons (ps_set (i := 3) sc_ledger.nd rfl (.inl rfl) (pe_lst pa_nil))
    (pss_cons (ps_for PassesOwn.never rfl (pi_list (pe_cal CP (hr.mono (by decide)) rfl (pa_cons (pv 1) pa_nil))) (pg_name (i := 4) sc_ledger.nd rfl (.inl rfl))
      (pss_one (ps_for PassesOwn.never rfl (pi_list (pe_cal CT (hr.mono (by decide)) rfl (pa_cons (pv 4) pa_nil))) (pg_name (i := 5) sc_ledger.nd rfl (.inl rfl))
        (pss_cons (ps_set (i := 6) sc_ledger.nd rfl (.inl rfl) (pe_mcal MW (hr.mono (by decide)) Y.c (pv 2) (pa_cons (pix K (pv 4) pe_int) (pa_cons (pix K (pv 4) pe_int) (pa_cons (pv 5) pa_nil)))))
        (pss_cons (ps_set (i := 7) sc_ledger.nd rfl (.inl rfl) pe_int)
        (pss_cons (ps_if (pt_cmpR op_eq (pv 6) pe_str (nomark _)) (pss_one (ps_set (i := 7) sc_ledger.nd rfl (.inl rfl) (pe_mcal MD (hr.mono (by decide)) Y.c (pv 2) (pa_cons (pv 5) pa_nil)))) pss_nil)
        (pss_one (ps_expr (papp (pv 3) (pa_cons (pe_op (oCatA K) (pe_op (oCatA K) (pe_tup (pa_cons (pix K (pv 4) pe_int) (pa_cons (pix K (pv 4) pe_int) pa_nil))) (pe_slice (slT K) (pv 5) po_none (po_some pe_int))) (pe_tup (pa_cons (pv 7) (pa_cons (pv 6) pa_nil)))) pa_nil))))))))))
    (pss_one (ps_ret (pe_tupleOf rfl T.tuple (pv 3))))))), ?_⟩
  obtain ⟨v0, v1, rfl, t0, t1⟩ := t.two
  -- standing = Standing(plan, file)
  refine q_seq (r_asg ?_)
  refine ⟨v0, rfl, v1, rfl, fun p dx np ndx nex => ?_⟩
  have sB : Same H (upd (upd H dx (.own p)) p (.ins C dx [])) := fun b o e => by
    rw [upd_ne (ne_of_none e np), upd_ne (ne_of_none e ndx)]
    exact e
  refine ⟨p, dx, v0, v1, plan, file, rfl, upd_same, t0.mono (.same sB), t1.mono (.same sB), O, FO, fun H2 od en ra go k2 nod nen nra ngo S => ⟨rfl, gn ?_⟩⟩
  have fr : ∀ {a}, (upd (upd H dx (.own p)) p (.ins C dx [])) a = none → H a = none := fun n => sB.free n
  have s2 : Same H H2 := (KL.fresh (L := []) sB k2 (fun b m => .inr (by rw [List.mem_singleton.mp m]; exact np))).same nofun
  have nra0 := fr nra
  have ngo0 := fr ngo
  clear k2 nod nen nra ngo fr sB
  -- rows = []
  refine s_setL (dl_lst da_nil) fun l xs0 H3 nl s3 el tl0 => ?_
  cases tl0
  replace S := S.same s3
  have s03 := s2.trans s3
  have nl0 : H l = none := s2.free nl
  -- for page in pages_by_days(file)
  refine q_seq ?_
  have t1' := t1.mono (.same s03)
  refine ⟨v1, rfl, plan, file, .cons t1' .nil, FO, hT.ext s03, fun pl xs H4 fpl eN hT4 epl tpl => ?_⟩
  obtain ⟨dx3, eo3⟩ := S.obj
  obtain ⟨kvo, eod, _⟩ := S.dOd
  obtain ⟨kve, een, _⟩ := S.dEn
  obtain ⟨kvr, era, _⟩ := S.dRa
  obtain ⟨kvg, ego, _⟩ := S.dGo
  have S4 : Stand C H4 p v0 od en ra go plan (oddSee plan file) (endsOf plan file) noTwo noGone 0 := S.keep (.extN eN) fun b o hb e => eN b o e fun ps z => by
    subst z
    rcases hb with rfl | rfl | rfl | rfl | rfl
    · rw [eo3] at e
      cases e
    · rw [eod] at e
      cases e
    · rw [een] at e
      cases e
    · rw [era] at e
      cases e
    · rw [ego] at e
      cases e
  have el4 : H4 l = some (.lst []) := eN _ _ el fun ps z => by cases z
  have era4 := eN _ _ era fun ps z => by cases z
  have ego4 := eN _ _ ego fun ps z => by cases z
  have npl : pl ∉ [l, ra, go] := fun z => by
    simp only [List.mem_cons, List.not_mem_nil, or_false] at z
    rcases z with z | z | z
    · subst z
      obtain ⟨ps, z⟩ := fpl _ el
      cases z
    · subst z
      rw [epl] at era4
      cases era4
    · subst z
      rw [epl] at ego4
      cases ego4
  have nt4 : ∀ b ∈ [l, ra, go], NT H4 b := fun b m => by
    simp only [List.mem_cons, List.not_mem_nil, or_false] at m
    rcases m with rfl | rfl | rfl
    · exact .lst el4
    · exact .dT era4
    · exact .dT ego4
  have nlr : l ≠ ra := ne_of el4 era4 (by intro z; cases z)
  have nlg : l ≠ go := ne_of el4 ego4 (by intro z; cases z)
  have t04 : Td H4 v0 (planD plan) := S4.pl
  refine ⟨pl, rfl, ⟨xs, .of epl⟩, ?_⟩
  refine for_walk (L := [l, ra, go]) (H2 := H4) (as := pagesByDays file) (en := pageD) (list_walk (K := K) (a := pl) tpl) nt4 (fun H' k => ⟨k _ _ npl epl, k.tk nt4⟩)
    (fun i σ' H' => ∃ a4 a5 a6 a7 xr m, σ' = [some v0, some v1, some (.ref p), some (.ref l), a4, a5, a6, a7] ∧ H' l = some (.lst xr) ∧ TdAll H' xr ((((pagesByDays file).take i).foldl (pageL plan (oddSee plan file) (endsOf plan file)) (noTwo, noGone, [])).2.2.map rowD) ∧
      Stand C H' p v0 od en ra go plan (oddSee plan file) (endsOf plan file) (((pagesByDays file).take i).foldl (pageL plan (oddSee plan file) (endsOf plan file)) (noTwo, noGone, [])).1 (((pagesByDays file).take i).foldl (pageL plan (oddSee plan file) (endsOf plan file)) (noTwo, noGone, [])).2.1 m ∧
      RanksOk plan (((pagesByDays file).take i).foldl (pageL plan (oddSee plan file) (endsOf plan file)) (noTwo, noGone, [])).1 ∧ xr.length ≤ 2000 * i ∧ m ≤ 2000 * i)
    ⟨none, none, none, none, [], 0, rfl, el4, .nil, S4, (fun r n x e => by cases e), Nat.le_refl _, Nat.le_refl _⟩ ?_ ?_
  · rintro i g x4 σ' H0 H' k kT hd td ⟨a4, a5, a6, a7, xr, m, rfl, elr, tr, S, R, z, zm⟩ s0
    have hi := at_lt hd
    have hil : (pagesByDays file).length ≤ 1000 := Nat.le_trans (byDays_len file) FO.len
    obtain ⟨hgm, hgo⟩ := byDays_mem.mp (List.mem_of_getElem? hd)
    have PO := FO.pages g hgm
    rw [take_fold hd]
    generalize ((pagesByDays file).take i).foldl (pageL plan (oddSee plan file) (endsOf plan file)) (noTwo, noGone, []) = Z at tr S R
    replace S := S.same s0
    have elr' := s0 _ _ elr
    obtain ⟨_, era', _, _⟩ := S.dRa
    obtain ⟨_, ego', _, _⟩ := S.dGo
    have nt' : ∀ b ∈ [l, ra, go], NT H' b := fun b m => by
      simp only [List.mem_cons, List.not_mem_nil, or_false] at m
      rcases m with rfl | rfl | rfl
      · exact .lst elr'
      · exact .dT era'
      · exact .dT ego'
    refine gn (s_for (L := [l, ra, go]) (as := thingsOn g) (en := thingD) (di_list (dl_call (M := M_things_on') (E := E0) (da_cons (de_var (d := pageD g) (i := 4) rfl td) da_nil) ⟨plan, g, rfl, hgo, PO, rfl⟩)) nt'
      (fun j σ' H'' => ∃ a5 a6 a7 xr m, σ' = [some v0, some v1, some (.ref p), some (.ref l), some x4, a5, a6, a7] ∧ H'' l = some (.lst xr) ∧ TdAll H'' xr ((((thingsOn g).take j).foldl (stepL plan (oddSee plan file) (endsOf plan file) g) Z).2.2.map rowD) ∧
        Stand C H'' p v0 od en ra go plan (oddSee plan file) (endsOf plan file) (((thingsOn g).take j).foldl (stepL plan (oddSee plan file) (endsOf plan file) g) Z).1 (((thingsOn g).take j).foldl (stepL plan (oddSee plan file) (endsOf plan file) g) Z).2.1 m ∧
        RanksOk plan (((thingsOn g).take j).foldl (stepL plan (oddSee plan file) (endsOf plan file) g) Z).1 ∧ xr.length ≤ 2000 * i + j ∧ m ≤ 2000 * i + j)
      (fun H5 s5 => ⟨a5, a6, a7, xr, m, rfl, s5 _ _ elr', tr.mono (.same (s0.trans s5)), S.same s5, R, z, zm⟩) ?_ ?_)
    · rintro H5 j th x5 σ' H6 H7 s5 k5 kT5 hth tth ⟨b5, b6, b7, xr, m, rfl, elr, tr, S, R, z, zm⟩ s6
      have hj := at_lt hth
      have hjl := things_len PO
      have TO := things_ok PO th (List.mem_of_getElem? hth)
      rw [take_fold hth]
      generalize ((thingsOn g).take j).foldl (stepL plan (oddSee plan file) (endsOf plan file) g) Z = Y1 at tr S R
      replace S := S.same s6
      have elr7 := s6 _ _ elr
      have tr7 := tr.mono (.same s6)
      have tg := td.mono kT5
      have d4 : DE (tVar 4) [some v0, some v1, some (.ref p), some (.ref l), some x4, some x5, b6, b7] H7 (pageD g) := de_var (i := 4) rfl tg
      have d5 : DE (tVar 5) [some v0, some v1, some (.ref p), some (.ref l), some x4, some x5, b6, b7] H7 (thingD th) := de_var (i := 5) rfl tth
      refine gn (s_set (i := 6) (de_word S (or_var (i := 2) rfl) (de_ix (K := K) d4 (de_int (i := ((1 : Nat) : Int))) (d := .int g.place) rfl) (de_ix (K := K) d4 (de_int (i := ((2 : Nat) : Int))) (d := .int g.day) rfl) d5 TO) fun x6 H8 s8 t6 => ?_)
      refine s_set (i := 7) (de_int (i := 0)) fun x7 H9 s9 t7 => ?_
      have s79 := s8.trans s9
      replace S := S.same s79
      -- the row is appended
      have app : ∀ (coin : Int) (tag : Str) (S' : LSt) (mm : Nat) (x7 : V) (HA : Hp), KL [ra, go] H7 HA → TK H7 HA → Td HA x6 (.str tag) → Td HA x7 (.int coin) → Stand C HA p v0 od en ra go plan (oddSee plan file) (endsOf plan file) S'.1 S'.2.1 mm → RanksOk plan S'.1 → S'.2.2 = Y1.2.2 ++ [rowOf g th coin tag] → mm ≤ 2000 * i + (j + 1) →
          tDrop (tBM K "list" rAppend (tVar 3) (tCons (tOp (rCatA K) (tOp (rCatA K) (tTup (tCons (tOp (rIxT K) (tVar 4) (tC (.int 2))) (tCons (tOp (rIxT K) (tVar 4) (tC (.int 1))) tNil))) (tSl (rSlA K) (tVar 5) tNoPart (tPart (tC (.int 3))))) (tTup (tCons (tVar 7) (tCons (tVar 6) tNil)))) tNil))
            { nx := fun σ4 H4_1 => KL [l, ra, go] H5 H4_1 ∧ ∃ a5 a6 a7 xr m, σ4 = [some v0, some v1, some (.ref p), some (.ref l), some x4, a5, a6, a7] ∧ H4_1 l = some (.lst xr) ∧ TdAll H4_1 xr (S'.2.2.map rowD) ∧ Stand C H4_1 p v0 od en ra go plan (oddSee plan file) (endsOf plan file) S'.1 S'.2.1 m ∧ RanksOk plan S'.1 ∧ xr.length ≤ 2000 * i + (j + 1) ∧ m ≤ 2000 * i + (j + 1), rt := Q }
            [some v0, some v1, some (.ref p), some (.ref l), some x4, some x5, some x6, some x7] HA := fun coin tag S' mm x7 HA kA mA t6 t7 SA RA eS zmm => by
        have elA : HA l = some (.lst xr) := kA _ _ (by simp [nlr, nlg]) elr7
        have e4 : DE (tVar 4) [some v0, some v1, some (.ref p), some (.ref l), some x4, some x5, some x6, some x7] HA (pageD g) := de_var (i := 4) rfl (tg.mono mA)
        have e5 : DE (tVar 5) [some v0, some v1, some (.ref p), some (.ref l), some x4, some x5, some x6, some x7] HA (thingD th) := de_var (i := 5) rfl (tth.mono mA)
        have c3 : DE (tSl (rSlA K) (tVar 5) tNoPart (tPart (tC (.int 3)))) [some v0, some v1, some (.ref p), some (.ref l), some x4, some x5, some x6, some x7] HA (.tuple [.str th.1, .int th.2.1, .int th.2.2.1]) := (de_cut (K := K) (lo := none) (hi := some 3) e5 po_n (po_i de_int)).to rfl
        refine s_app elA (or_var rfl) ((de_catT (K := K) (de_catT (K := K) (de_tup (da_cons (de_ix (K := K) e4 (de_int (i := ((2 : Nat) : Int))) (d := .int g.day) rfl) (da_cons (de_ix (K := K) e4 (de_int (i := ((1 : Nat) : Int))) (d := .int g.place) rfl) da_nil))) c3 (show (5 : Nat) ≤ sizeLine by decide)) (de_tup (da_cons (de_var (i := 7) rfl t7) (da_cons (de_var (i := 6) rfl t6) da_nil))) (show (7 : Nat) ≤ sizeLine by decide)).to (show _ = rowD (rowOf g th coin tag) from rfl)) (big_ (by omega)) fun y HB sB tB => ?_
        have elB := sB _ _ elA
        have mB : TK HB (upd HB l (.lst (xr ++ [y]))) := .put elB fun _ z => by cases z
        have SB := SA.same sB
        refine ⟨(((k5.s s6).trans (kA.more (by intro b m; simp at m ⊢; rcases m with m | m <;> simp [m]))).s sB).trans (.put (by simp)), some x5, some x6, some x7, xr ++ [y], mm, rfl, upd_same, ?_, ?_, RA, ?_, zmm⟩
        · rw [eS, List.map_append]
          exact (tr7.mono ((mA.s sB).trans mB)).snoc (tB.mono mB)
        · refine SB.keep mB fun b o hb e => ?_
          have nb : b ≠ l := fun zz => by
            subst zz
            rw [elB] at e
            cases e
            obtain ⟨_, q1⟩ := SB.obj
            obtain ⟨_, q2, _⟩ := SB.dOd
            obtain ⟨_, q3, _⟩ := SB.dEn
            obtain ⟨_, q4, _⟩ := SB.dRa
            obtain ⟨_, q5, _⟩ := SB.dGo
            rcases hb with hb | hb | hb | hb | hb <;> subst hb
            · rw [elB] at q1
              cases q1
            · rw [elB] at q2
              cases q2
            · rw [elB] at q3
              cases q3
            · rw [elB] at q4
              cases q4
            · rw [elB] at q5
              cases q5
          rw [upd_ne nb]
          exact e
        · rw [List.length_append]
          simp
          omega
      refine q_when (dt_test (de_eqS (de_var (i := 6) rfl (t6.mono (.same s9))) (de_str (x := "good")))) (fun hb HA sA => ?_) (fun hb HA sA => ?_)
      · have hw := of_decide_eq_true hb
        have s7A := s79.trans sA
        replace S := S.same sA
        obtain ⟨dxA, eoA⟩ := S.obj
        refine r_asg ?_
        refine ⟨.ref p, rfl, p, dxA, _, rfl, eoA, rfl, x5, rfl, ?_⟩
        refine ⟨p, v0, x5, od, en, ra, go, plan, _, _, Y1.1, Y1.2.1, m, th, rfl, S, by omega, tth.mono (.same s7A), TO, O, R, fun HB kB SB => gn ?_⟩
        have ntA : ∀ b ∈ [ra, go], NT HA b := fun b mm => by
          obtain ⟨_, q4, _⟩ := S.dRa
          obtain ⟨_, q5, _⟩ := S.dGo
          simp only [List.mem_cons, List.not_mem_nil, or_false] at mm
          rcases mm with rfl | rfl
          · exact .dT q4
          · exact .dT q5
        have mB : TK H7 HB := (TK.same s7A).trans (kB.tk ntA)
        have eS : stepL plan (oddSee plan file) (endsOf plan file) g Y1 th = (ranksThen Y1.1 th, goneThen Y1.2.1 th, Y1.2.2 ++ [rowOf g th (thingCoin plan Y1.1 th) "good"]) := by
          unfold stepL
          rw [if_pos hw]
        have hres := app (thingCoin plan Y1.1 th) "good" (stepL plan (oddSee plan file) (endsOf plan file) g Y1 th) (m + 1) (.int (thingCoin plan Y1.1 th)) HB ((KL.of s7A).trans kB) mB (by rw [← hw]; exact t6.mono ((TK.same (s9.trans sA)).trans (kB.tk ntA))) (.int _) (by rw [eS]; exact SB) (stepL_ok R TO).1 (by rw [eS]) (by omega)
        exact hres
      · have hw := of_decide_eq_false hb
        have s7A := s79.trans sA
        have eS : stepL plan (oddSee plan file) (endsOf plan file) g Y1 th = (Y1.1, Y1.2.1, Y1.2.2 ++ [rowOf g th 0 (wordFor plan (oddSee plan file) (endsOf plan file) Y1.1 Y1.2.1 g.place g.day th)]) := by
          unfold stepL
          rw [if_neg hw]
        exact app 0 _ (stepL plan (oddSee plan file) (endsOf plan file) g Y1 th) m x7 HA (.of s7A) (.same s7A) (t6.mono (.same (s9.trans sA))) (t7.mono (.same sA)) (by rw [eS]; exact S.same sA) (stepL_ok R TO).1 (by rw [eS]) (by omega)
    · rintro σ'' H'' k5 ⟨b5, b6, b7, xr, m, rfl, elr, tr, S, R, z, zm⟩
      rw [List.take_length] at tr S R
      have hjl := things_len PO
      exact ⟨(k.s s0).trans k5, _, _, _, _, xr, m, rfl, elr, tr, S, R, by omega, by omega⟩
  · rintro σ' H' k ⟨a4, a5, a6, a7, xr, m, rfl, elr, tr, S, R, z, zm⟩
    rw [List.take_length] at tr
    have kE : ExtN H H' := fun b o e n => k b o (fun zz => by
      simp only [List.mem_cons, List.not_mem_nil, or_false] at zz
      rcases zz with zz | zz | zz <;> subst zz
      · rw [nl0] at e
        cases e
      · rw [nra0] at e
        cases e
      · rw [ngo0] at e
        cases e) (eN b o (s03 b o e) n)
    have hT' : Tabs TT H' := Tabs.kl hT4 k fun b mm => by
      simp only [List.mem_cons, List.not_mem_nil, or_false] at mm
      rcases mm with rfl | rfl | rfl
      · exact ⟨_, el4, (fun _ z => by cases z), (fun _ z => by cases z)⟩
      · exact ⟨_, era4, (fun _ z => by cases z), (fun _ z => by cases z)⟩
      · exact ⟨_, ego4, (fun _ z => by cases z), (fun _ z => by cases z)⟩
    refine ⟨_, rfl, .inl ⟨l, xr, rfl, .of elr, fun r nr => ?_⟩⟩
    exact q _ _ (kE.trans (.of (same_new nr))) (hT'.ext (same_new nr)) (.tup upd_same (tr.mono (.new nr)))
end
end Tk

set_option Elab.async false
set_option linter.all false
set_option maxRecDepth 100000
set_option maxHeartbeats 4000000
/-! kept_in, kept_for. -/
namespace Tk
open PySem PySem.Spec PyProof.Rows L2
open LamX (Tabs ExtN)
def ofTicket (i : Nat) (n : Int) (r : Row) : Bool := decide (r.2.2.2.1 = (i : Int)) && decide (r.2.2.2.2.1 = n)
def keptOf (p : Plan) (rows : List Row) (i : Nat) (n : Int) : Int := fareOf p i (rackRank p i).toNat + ((rows.filter (ofTicket i n)).map fun r => r.2.2.2.2.2.1).sum
def M_kept_in (ds : List PyData) (r : PyData) : Prop := ∃ (p : Plan) (rows : List Row) (i : Nat) (n : Int), ds = [planD p, .tuple (rows.map rowD), .int (i : Int), .int n] ∧ PlanOk p ∧ i < p.stock.length ∧ rows.length ≤ 4000000 ∧ r = .int (keptOf p rows i n)
def spKept (T : List (Addr × Str)) : Sp := fun vs H Q _ => ∃ (p : Plan) (file : List Page) (i : Nat) (n : Int), TdAll H vs [planD p, fileD file, .int (i : Int), .int n] ∧ PlanOk p ∧ FileOk p file ∧ i < p.stock.length ∧ Tabs T H ∧ ∀ H', ExtN H H' → Tabs T H' → Q (.int (keptOf p (ledgerOf p file) i n)) H'
section
variable {P : Program} {w : World} {K : PySem.W.Frag} {mg : Str → Option Value} {base : Heap}
theorem stepL_len {plan : Plan} {odds : List Seeing} {ends : Two} {g : Page} {S : LSt} {t : Thing} : (stepL plan odds ends g S t).2.2.length = S.2.2.length + 1 := by
  unfold stepL
  split <;> simp
theorem things_fold_len {plan : Plan} {odds : List Seeing} {ends : Two} {g : Page} : ∀ {ts : List Thing} {S : LSt}, (ts.foldl (stepL plan odds ends g) S).2.2.length = S.2.2.length + ts.length
  | [], _ => rfl
  | t :: ts, S => by
    rw [List.foldl_cons, things_fold_len, stepL_len, List.length_cons]
    omega
theorem pages_fold_len {plan : Plan} {odds : List Seeing} {ends : Two} : ∀ {gs : List Page} {S : LSt}, (∀ g ∈ gs, PageOk plan g) → (gs.foldl (pageL plan odds ends) S).2.2.length ≤ S.2.2.length + 2000 * gs.length
  | [], _, _ => Nat.le_refl _
  | g :: gs, S, h => by
    have h1 := pages_fold_len (plan := plan) (odds := odds) (ends := ends) (gs := gs) (S := pageL plan odds ends S g) fun g' m => h g' (List.mem_cons_of_mem _ m)
    have h2 : (pageL plan odds ends S g).2.2.length = S.2.2.length + (thingsOn g).length := things_fold_len
    have h3 := things_len (h g List.mem_cons_self)
    rw [List.foldl_cons, List.length_cons]
    omega
theorem ledger_len {p : Plan} {file : List Page} (h : FileOk p file) : (ledgerOf p file).length ≤ 2000000 := by
  have h1 := pages_fold_len (plan := p) (odds := oddSee p file) (ends := endsOf p file) (gs := pagesByDays file) (S := (noTwo, noGone, [])) fun g m => h.pages g (byDays_mem.mp m).1
  have h2 := byDays_len file
  have h3 := h.len
  unfold ledgerOf
  simp only [List.length_nil, Nat.zero_add] at h1
  omega
theorem cal_kept_in (T : Txt K mg) : Cal P w K mg base "kept_in" 5 p_kept_in (spF M_kept_in) := by
  refine cal_of T.kept_in sc_kept_in (fun _ _ _ _ _ _ us hl => match us, hl with | [_, _, _, _], _ => rfl) (spF_len fun ds r ⟨p, rows, i, n, e, _⟩ => by rw [e]; rfl) fun f cdv A outer s H vs Q E hr h => ?_
  obtain ⟨ds, r, ⟨p, rows, i, n, rfl, O, hi, hl, rfl⟩, t, q⟩ := h
  have C : Cal P w K mg base "fare" 4 p_fare (spF M_fare) := cal_fare T
  refine ⟨_, PSs.nox (pss_cons (ps_setLc (i := 4) rfl sc_kept_in.nd rfl rfl (sw_true rfl rfl rfl rfl) (pi_tup (pv 1)) (own := [("row", 5)]) (blkOk_by (N := n_kept_in) (sc := defScope s_kept_in) (by decide +kernel))
      (fun _ _ _ _ _ => pg_name (i := 5) sc_kept_in.nd rfl (.inl rfl)) (fun _ _ _ _ _ => pts_one (pw_and (pt_cmpR op_eq (pix K (pv 5) pe_int) (pv 2) (nomark _)) (pw_and1 (pt_cmpR op_eq (pix K (pv 5) pe_int) (pv 3) (nomark _)))).pt) (fun _ _ _ _ _ => pix K (pv 5) pe_int))
    (pss_one (ps_ret (pe_op op_add (pe_cal C hr rfl (pa_cons (pv 0) (pa_cons (pv 2) (pa_cons (pix K (pix K (pix K (pv 0) pe_int) (pv 2)) pe_int) pa_nil)))) (pe_callB (crSum K) rfl T.sum boot_sum (pa_cons (pv 4) pa_nil)))))), ?_⟩
  obtain ⟨v0, v1, v2, v3, rfl, t0, t1, t2, t3⟩ := t.four
  refine s_setL (dl_lc (as := rows) (en := rowD) (ofTicket i n) (fun r => .int r.2.2.2.2.2.1) (di_tup (K := K) (de_var (d := .tuple (rows.map rowD)) (i := 1) rfl t1)) (big_ hl) (fun _ => rfl) ?_) fun l xs H1 nl s1 el tl => ?_
  · intro r hr v H1 k tv
    have d5 : DE (tVar 5) ((wipe (start n_kept_in [v0, v1, v2, v3]) [5]).set 5 (some v)) H1 (rowD r) := de_var (i := 5) rfl tv
    refine ⟨?_, fun _ => de_ix (K := K) d5 (de_int (i := ((5 : Nat) : Int))) rfl⟩
    exact dt_and (dt_test (de_eqI (de_ix (K := K) d5 (de_int (i := ((3 : Nat) : Int))) (d := .int r.2.2.2.1) rfl) (de_var (d := .int (i : Int)) (i := 2) rfl (t2.mono (.same k))))) fun _ =>
      dt_test (de_eqI (de_ix (K := K) d5 (de_int (i := ((4 : Nat) : Int))) (d := .int r.2.2.2.2.1) rfl) (de_var (d := .int n) (i := 3) rfl (t3.mono (.same k))))
  · have hk : p.stock[i]? = some p.stock[i] := List.getElem?_eq_getElem hi
    have hR := (O.racks _ (List.getElem_mem hi)).rank
    have er : rackRank p i = p.stock[i].2.2.1 := by
      unfold rackRank
      rw [hk]
    have d0 : DE (tVar 0) ((start n_kept_in [v0, v1, v2, v3]).set 4 (some (.ref l))) H1 (planD p) := de_var (i := 0) rfl (t0.mono (.same s1))
    have d2 : DE (tVar 2) ((start n_kept_in [v0, v1, v2, v3]).set 4 (some (.ref l))) H1 (.int (i : Int)) := de_var (i := 2) rfl (t2.mono (.same s1))
    have dr : DE (tOp (rIxT K) (tOp (rIxT K) (tOp (rIxT K) (tVar 0) (tC (.int 2))) (tVar 2)) (tC (.int 2))) ((start n_kept_in [v0, v1, v2, v3]).set 4 (some (.ref l))) H1 (.int ((rackRank p i).toNat : Int)) := by
      rw [er, Int.toNat_of_nonneg hR.1]
      exact de_ix (K := K) (i := 2) (de_ix (K := K) (i := i) (de_ix (K := K) d0 (de_int (i := ((2 : Nat) : Int))) rfl) d2 (quad_at hk)) (de_int (i := ((2 : Nat) : Int))) rfl
    have df := de_call (M := M_fare) (E := E0) (da_cons d0 (da_cons d2 (da_cons dr da_nil))) (d := .int (fareOf p i (rackRank p i).toNat)) ⟨p, i, (rackRank p i).toNat, rfl, O, hi, by rw [er]; exact hR.2, rfl⟩
    refine r_ret (r_op (df.at_ fun x H2 s2 tx => ?_))
    have e2 := s2 _ _ el
    have tl2 := tl.mono (.same s2)
    have eI : ((rows.filter (ofTicket i n)).map fun r => PyData.int r.2.2.2.2.2.1) = ((rows.filter (ofTicket i n)).map fun r : Row => r.2.2.2.2.2.1).map PyData.int := by
      rw [List.map_map]
      rfl
    rw [eI] at tl2
    have exs := tl2.ints_
    refine ⟨.ref l, rfl, l, (rows.filter (ofTicket i n)).map fun r : Row => r.2.2.2.2.2.1, rfl, by rw [← exs]; exact .of e2, ?_⟩
    refine ⟨_, _, tx.int_, rfl, ?_⟩
    exact q _ H2 (s1.trans s2) (.int _)
theorem cal_kept_for {C : Addr} {TT : List (Addr × Str)} {c P1 : Addr} (T : Txt K mg) (Y : ClsAt K mg C) (FA : FnAtC K mg "pages_by_days" s_pages_by_days c) (TB : LamX.TabB base mg c P1)
    (hm : (P1, (envOfC "pages_by_days" (defScope s_pages_by_days) 0 0 (.ref c)).qual ++ "<lambda>") ∈ TT) (hu : ∀ p ∈ TT, p.1 = P1 → p.2 = (envOfC "pages_by_days" (defScope s_pages_by_days) 0 0 (.ref c)).qual ++ "<lambda>") :
    Cal P w K mg base "kept_for" 8 p_kept_for (spKept TT) := by
  refine cal_of T.kept_for sc_kept_for (fun _ _ _ _ _ _ us hl => match us, hl with | [_, _, _, _], _ => rfl) (fun vs H Q E ⟨p, file, i, n, t, _⟩ => t.length) fun f cdv A outer s H vs Q E hr h => ?_
  obtain ⟨p, file, i, n, t, O, FO, hi, hT, q⟩ := h
  have C1 : Cal P w K mg base "ledger" 7 p_ledger (spLedger TT) := cal_ledger T Y FA TB hm hu
  have C2 : Cal P w K mg base "kept_in" 5 p_kept_in (spF M_kept_in) := cal_kept_in T
  refine ⟨_, PSs.nox (pss_one (ps_ret (pe_cal C2 (hr.mono (by decide)) rfl (pa_cons (pv 0) (pa_cons (pe_cal C1 hr rfl (pa_cons (pv 0) (pa_cons (pv 1) pa_nil))) (pa_cons (pv 2) (pa_cons (pv 3) pa_nil))))))), ?_⟩
  obtain ⟨v0, v1, v2, v3, rfl, t0, t1, t2, t3⟩ := t.four
  refine r_ret ⟨v0, rfl, v0, rfl, v1, rfl, p, file, .cons t0 (.cons t1 .nil), O, FO, hT, fun v H1 e1 hT1 tv => ?_⟩
  refine ⟨v2, rfl, v3, rfl, ?_⟩
  have m1 := TK.extN e1
  refine ⟨_, _, ⟨p, ledgerOf p file, i, n, rfl, O, hi, by have := ledger_len FO; omega, rfl⟩, .cons (t0.mono m1) (.cons tv (.cons (t2.mono m1) (.cons (t3.mono m1) .nil))), fun v' H2 s2 tv2 => ?_⟩
  rw [tv2.int_]
  exact q H2 (e1.trans (.of s2)) (hT1.ext s2)
end
end Tk

set_option Elab.async false
set_option linter.all false
set_option maxRecDepth 100000
set_option maxHeartbeats 4000000
/-! The law's hand: _law_hand, _law_take, _law_of. -/
namespace Tk
open PySem PySem.Spec PyProof.Rows L2
/-- a hand stands at a, with m takes left before its count would be told large -/
def HandAt (H : Hp) (a : Addr) (m : Nat) : Prop := ∃ own seed cnt : Int, H a = some (.lst [.int own, .int seed, .int cnt]) ∧ 0 ≤ own ∧ 0 ≤ cnt ∧ cnt + (m : Int) ≤ 1000000
theorem HandAt.nt {H : Hp} {a : Addr} {m : Nat} (h : HandAt H a m) : NT H a := let ⟨_, _, _, e, _⟩ := h; .lst e
theorem HandAt.le {H : Hp} {a : Addr} {m n : Nat} (h : HandAt H a m) (l : n ≤ m) : HandAt H a n := let ⟨o, s, c, e, h1, h2, h3⟩ := h; ⟨o, s, c, e, h1, h2, by omega⟩
theorem HandAt.same {H H' : Hp} {a : Addr} {m : Nat} (h : HandAt H a m) (s : Same H H') : HandAt H' a m := let ⟨o, sd, c, e, r⟩ := h; ⟨o, sd, c, s _ _ e, r⟩
theorem nt1 {H : Hp} {a : Addr} {m : Nat} (h : HandAt H a m) : ∀ p ∈ [a], NT H p := nt_one h.nt
theorem KL.tk1 {H H' : Hp} {a : Addr} {m : Nat} (k : KL [a] H H') (h : HandAt H a m) : TK H H' := k.tk (nt1 h)
theorem KL.ne {H H' : Hp} {a b : Addr} {o : HO} (k : KL [a] H H') (e : H b = some o) (n : b ≠ a) : H' b = some o := k b o (by simpa using n) e
def spTake : Sp := fun vs H Q _ => ∃ (a : Addr) (many : Int) (m : Nat), vs = [.ref a, .int many] ∧ 0 < many ∧ many.natAbs.log2 < 9000 ∧ HandAt H a (m + 1) ∧ ∀ H' d, 0 ≤ d → d < many → KL [a] H H' → HandAt H' a m → Q (.int d) H'
def spHand (K : PySem.W.Frag) : Sp := fun vs H Q _ => ∃ (a : Addr) (ns : List Int) (k : Nat), vs = [.ref a, .int (k : Int)] ∧ SqL K H a (ns.map V.int) ∧ ∀ h H', H h = none → Same H H' → HandAt H' h 999999 → Q (.ref h) H'
def spOf : Sp := fun vs H Q _ => ∃ (a l : Addr) (xs : List V) (m : Nat), vs = [.ref a, .ref l] ∧ H l = some (.lst xs) ∧ l ≠ a ∧ 0 < xs.length ∧ xs.length ≤ 1000 ∧ HandAt H a (m + 1) ∧ ∀ H' x, x ∈ xs → KL [a] H H' → HandAt H' a m → Q x H'
section
variable {P : Program} {w : World} {K : PySem.W.Frag} {mg : Str → Option Value} {base : Heap}
theorem de_lst {σ : L2.St} {H : Hp} {ta tb : TE} {a : Addr} {xs : List V} {i : Int} {v : V} {d : PyData} (ho : OR ta σ H a) (e : H a = some (.lst xs)) (hb : DE tb σ H (.int i)) (hx : atI xs i = some v) (t : Td H v d) : DE (tOp (rIxL K) ta tb) σ H d := fun H1 k Q q =>
  ho H1 k _ (hb H1 k _ fun y H2 s2 ty => ⟨a, xs, i, v, rfl, ty.int_, .of ((k.trans s2) _ _ e), hx, q v H2 s2 (t.mono (.same (k.trans s2)))⟩)
theorem q_setI {σ : L2.St} {H : Hp} {te to ti : TE} {D : Ends} {tz : TS} {a : Addr} {xs : List V} {i : Int} {j : Nat} {d : PyData} (h : DE te σ H d) (ho : OR to σ H a) (hi : DE ti σ H (.int i)) (e : H a = some (.lst xs)) (hj : ixN xs.length i = some j)
    (k : ∀ v H1, Same H H1 → Td H1 v d → tz D σ (upd H1 a (.lst (xs.set j v)))) : tSeq (tAsg te (gSub to ti rSetL)) tz D σ H :=
  h.at_ fun v H1 s1 t1 => ho H1 s1 _ ((hi.mono s1).at_ fun y H2 s2 t2 => ⟨a, xs, i, j, rfl, t2.int_, (s1.trans s2) _ _ e, hj, k v H2 (s1.trans s2) (t1.mono (.same s2))⟩)
theorem cal_take (T : Txt K mg) : Cal P w K mg base "_law_take" 1 p_L_take spTake := by
  refine cal_of T.L_take sc_L_take (fun _ _ _ _ _ _ us hl => match us, hl with | [_, _], _ => rfl) (fun vs H Q E ⟨a, many, m, e, _⟩ => by rw [e]; rfl) fun f cdv A outer s H vs Q E hr h => ?_
  obtain ⟨a, many, m, rfl, h0, hlog, hA, q⟩ := h
  refine ⟨_, PSs.nox (pss_cons (ps_if (pt_cmpR op_gt (pixL K (pv 0) pe_int) pe_int (nomark _)) (pss_cons (ps_set (i := 2) sc_L_take.nd rfl (.inl rfl) (pe_op op_mod (pixL K (pv 0) pe_int) (pv 1)))
      (pss_cons (ps_asg (pe_op op_fdivW (pixL K (pv 0) pe_int) (pv 1)) (pg_sub (pv 0) pe_int set_list (fun _ => rfl))) (pss_one (ps_ret (pv 2))))) pss_nil)
    (pss_cons (ps_asg (pe_op op_add (pixL K (pv 0) pe_int) pe_int) (pg_sub (pv 0) pe_int set_list (fun _ => rfl)))
    (pss_cons (ps_set (i := 3) sc_L_take.nd rfl (.inl rfl) (pe_op op_add (pe_op op_add (pixL K (pv 0) pe_int) (pe_op op_mul (pe_op op_mul pe_int (pixL K (pv 0) pe_int)) (pixL K (pv 0) pe_int))) (pe_op op_mul pe_int (pixL K (pv 0) pe_int))))
    (pss_cons (ps_set (i := 4) sc_L_take.nd rfl (.inl rfl) (pe_op op_mod (pe_op op_pow (pe_op op_mod (pv 3) pe_int) pe_int) pe_int))
    (pss_one (ps_ret (pe_op op_mod (pe_op op_add (pe_op op_fdiv (pv 4) pe_int) (pe_op op_mul (pe_op op_fdiv (pv 4) pe_int) pe_int)) (pv 1)))))))), ?_⟩
  obtain ⟨own, seed, cnt, eh, o0, c0, cm⟩ := hA
  have dm : ∀ {σ : L2.St} {H' : Hp}, σ[1]? = some (some (.int many)) → DE (tVar 1) σ H' (.int many) := fun h => de_var h (.int many)
  have r0 : DE (tOp (rIxL K) (tVar 0) (tC (.int 0))) (start n_L_take [.ref a, .int many]) H (.int own) := de_lst (or_var (i := 0) rfl) eh (de_int (i := 0)) rfl (.int own)
  refine q_when (dt_test (de_I0 (c := .bool (decide (0 < own))) r0 (de_int (i := 0)))) (fun hb H1 s1 => ?_) (fun hb H1 s1 => ?_)
  · have eh1 := s1 _ _ eh
    refine s_set (i := 2) (de_I (C := fun _ j => 0 < j) (g := fun i j => .int (i % j)) (c := .int (own % many)) (r0.mono s1) (dm rfl) h0) fun x2 H2 s2 t2 => ?_
    have eh2 := s2 _ _ eh1
    refine q_setI (i := 0) (j := 0) (de_I (C := CDivW) (g := fun i j => .int (i / j)) (c := .int (own / many)) (de_lst (or_var (i := 0) rfl) eh2 (de_int (i := 0)) rfl (.int own)) (dm rfl) ⟨h0, hlog⟩) (or_var (i := 0) rfl) de_int eh2 rfl fun y H3 s3 t3 => ?_
    have eh3 := s3 _ _ eh2
    have m3 : TK H3 (upd H3 a (.lst [y, .int seed, .int cnt])) := .put eh3 fun _ z => by cases z
    refine s_ret (de_var (d := .int (own % many)) (i := 2) rfl ((t2.mono (.same s3)).mono m3)) fun v H4 s4 t4 => ?_
    rw [t4.int_]
    refine q H4 _ (Int.emod_nonneg _ (by omega)) (Int.emod_lt_of_pos _ h0) ((((KL.of ((s1.trans s2).trans s3)).trans (.put (List.mem_singleton.mpr rfl))).s s4)) ⟨own / many, seed, cnt, ?_, Int.ediv_nonneg o0 (by omega), c0, by omega⟩
    rw [← t3.int_]
    exact s4 _ _ upd_same
  · have eh1 := s1 _ _ eh
    refine q_setI (i := 2) (j := 2) (de_I0 (c := .int (cnt + 1)) (de_lst (K := K) (or_var (i := 0) rfl) eh1 (de_int (i := 2)) rfl (.int cnt)) (de_int (i := 1))) (or_var (i := 0) rfl) de_int eh1 rfl fun y H2 s2 t2 => ?_
    have eh2 := s2 _ _ eh1
    rw [t2.int_]
    have e3 : (upd H2 a (.lst [.int own, .int seed, .int (cnt + 1)])) a = some (.lst [.int own, .int seed, .int (cnt + 1)]) := upd_same
    have k3 : KL [a] H (upd H2 a (.lst [.int own, .int seed, .int (cnt + 1)])) := (KL.of (s1.trans s2)).trans (.put (List.mem_singleton.mpr rfl))
    refine (?_ : tSeq _ _ _ _ (upd H2 a (.lst [.int own, .int seed, .int (cnt + 1)])))
    generalize upd H2 a (.lst [.int own, .int seed, .int (cnt + 1)]) = H3 at e3 k3
    have ra : OR (tVar 0) (start n_L_take [.ref a, .int many]) H3 a := or_var (i := 0) rfl
    have c1 : DE (tOp (rIxL K) (tVar 0) (tC (.int 1))) (start n_L_take [.ref a, .int many]) H3 (.int seed) := de_lst ra e3 (de_int (i := 1)) rfl (.int seed)
    have c2 : DE (tOp (rIxL K) (tVar 0) (tC (.int 2))) (start n_L_take [.ref a, .int many]) H3 (.int (cnt + 1)) := de_lst ra e3 (de_int (i := 2)) rfl (.int (cnt + 1))
    refine s_set (i := 3) (d := .int (seed + 7919 * (cnt + 1) * (cnt + 1) + 65537 * (cnt + 1))) (de_I0 (de_I0 c1 (de_I (C := CMul) (g := fun i j => .int (i * j)) (de_I (C := CMul) (g := fun i j => .int (i * j)) de_int c2 (.inl ⟨by decide, by decide⟩)) c2 (.inr ⟨by omega, by omega⟩))) (de_I (C := CMul) (g := fun i j => .int (i * j)) de_int c2 (.inl ⟨by decide, by decide⟩))) fun x3 H4 s4 t4 => ?_
    generalize seed + 7919 * (cnt + 1) * (cnt + 1) + 65537 * (cnt + 1) = one at t4
    have hr1 := Int.emod_nonneg one (show (2305843009213693921 : Int) ≠ 0 by decide)
    have hr2 := Int.emod_lt_of_pos one (show (0 : Int) < 2305843009213693921 by decide)
    refine s_set (i := 4) (d := .int ((one % 2305843009213693921) ^ 5 % 2305843009213693951)) (de_I (C := fun _ j => 0 < j) (g := fun i j => .int (i % j)) (de_I (C := CPow) (g := fun i j => .int (i ^ j.toNat)) (c := .int ((one % 2305843009213693921) ^ 5)) (de_I (C := fun _ j => 0 < j) (g := fun i j => .int (i % j)) (de_var (i := 3) rfl t4) (de_int (i := 2305843009213693921)) (by decide)) (de_int (i := 5)) ⟨by decide, by decide, by omega⟩) (de_int (i := 2305843009213693951)) (by decide)) fun x4 H5 s5 t5 => ?_
    generalize (one % 2305843009213693921) ^ 5 % 2305843009213693951 = two at t5
    have d4 : DE (tVar 4) [some (.ref a), some (.int many), none, some x3, some x4] H5 (.int two) := de_var (i := 4) rfl t5
    refine s_ret (d := .int ((two / 4099 + two / 1000003 * 7) % many)) (de_I (C := fun _ j => 0 < j) (g := fun i j => .int (i % j)) (de_I0 (c := .int (two / 4099 + two / 1000003 * 7)) (de_I (C := CDiv) (g := fun i j => .int (i / j)) d4 (de_int (i := 4099)) ⟨by decide, by decide⟩) (de_I (C := CMul) (g := fun i j => .int (i * j)) (de_I (C := CDiv) (g := fun i j => .int (i / j)) d4 (de_int (i := 1000003)) ⟨by decide, by decide⟩) (de_int (i := 7)) (.inr ⟨by decide, by decide⟩))) (dm rfl) h0) fun v H6 s6 t6 => ?_
    rw [t6.int_]
    have s36 := (s4.trans s5).trans s6
    exact q H6 _ (Int.emod_nonneg _ (by omega)) (Int.emod_lt_of_pos _ h0) (k3.s s36) ⟨own, seed, cnt + 1, s36 _ _ e3, o0, by omega, by omega⟩
theorem cal_hand (T : Txt K mg) : Cal P w K mg base "_law_hand" 1 p_L_hand (spHand K) := by
  refine cal_of T.L_hand sc_L_hand (fun _ _ _ _ _ _ us hl => match us, hl with | [_, _], _ => rfl) (fun vs H Q E ⟨a, ns, k, e, _⟩ => by rw [e]; rfl) fun f cdv A outer s H vs Q E hr h => ?_
  obtain ⟨a, ns, k, rfl, hS, q⟩ := h
  refine ⟨_, PSs.nox (pss_cons (ps_set (i := 2) sc_L_hand.nd rfl (.inl rfl) pe_int)
    (pss_cons (ps_if (pt_cmpR op_lt (pv 1) (pe_callB (clLen K) rfl T.len boot_len (pa_cons (pv 0) pa_nil)) (nomark _)) (pss_one (ps_set (i := 2) sc_L_hand.nd rfl (.inl rfl) (pixL K (pv 0) (pv 1)))) pss_nil)
    (pss_cons (ps_set (i := 3) sc_L_hand.nd rfl (.inl rfl) (pe_callB call_abs rfl T.abs PyProof.Rows.boot_abs (pa_cons (pv 2) pa_nil)))
    (pss_cons (ps_if (pt_cmpR op_lt (pv 3) (pe_op op_pow pe_int pe_int) (nomark _)) (pss_one (ps_set (i := 3) sc_L_hand.nd rfl (.inl rfl) pe_int)) pss_nil)
    (pss_one (ps_ret (pe_lst (pa_cons (pv 3) (pa_cons (pe_op op_add (pe_op op_add (pe_op op_mod (pv 2) pe_int) (pe_op op_mul pe_int (pv 1))) pe_int) (pa_cons pe_int pa_nil)))))))))), ?_⟩
  have hσ : ∀ {σ : L2.St} {H' : Hp}, σ[1]? = some (some (.int (k : Int))) → DE (tVar 1) σ H' (.int (k : Int)) := fun h => de_var h (.int _)
  -- from the cell on
  have rest : ∀ (cell : Int) (H1 : Hp), Same H H1 → tSeq (tAsg (tCB (fun xs H Q => ∃ i, xs = [.int i] ∧ Q (.int (if i < 0 then -i else i)) H) (tCons (tVar 2) tNil)) (gName 3))
      (tSeq (tIfS (tTest (tOp (rI0 fun i j => .bl (decide (i < j))) (tVar 3) (tOp (rI CPow fun i j => .int (i ^ j.toNat)) (tC (.int 10)) (tC (.int 18))))) (tAsg (tC (.int 0)) (gName 3)) tNext)
        (tRet (tLst (tCons (tVar 3) (tCons (tOp (rI0 fun i j => .int (i + j)) (tOp (rI0 fun i j => .int (i + j)) (tOp (rI (fun _ j => 0 < j) fun i j => .int (i % j)) (tVar 2) (tC (.int 2305843009213693951))) (tOp (rI CMul fun i j => .int (i * j)) (tC (.int 104729)) (tVar 1))) (tC (.int 47))) (tCons (tC (.int 0)) tNil))))))
      { nx := fun _ H' => Q .non H', rt := Q } [some (.ref a), some (.int (k : Int)), some (.int cell), none] H1 := fun cell H1 s1 => by
    refine q_seq (r_asg ⟨.int cell, rfl, cell, rfl, gn ?_⟩)
    have fin : ∀ (own : Int) (H2 : Hp), 0 ≤ own → Same H1 H2 → tRet (tLst (tCons (tVar 3) (tCons (tOp (rI0 fun i j => .int (i + j)) (tOp (rI0 fun i j => .int (i + j)) (tOp (rI (fun _ j => 0 < j) fun i j => .int (i % j)) (tVar 2) (tC (.int 2305843009213693951))) (tOp (rI CMul fun i j => .int (i * j)) (tC (.int 104729)) (tVar 1))) (tC (.int 47))) (tCons (tC (.int 0)) tNil))))
        { nx := fun _ H' => Q .non H', rt := Q } [some (.ref a), some (.int (k : Int)), some (.int cell), some (.int own)] H2 := fun own H2 o0 s2 => by
      have c2 : DE (tVar 2) [some (.ref a), some (.int (k : Int)), some (.int cell), some (.int own)] H2 (.int cell) := de_var (i := 2) rfl (.int cell)
      refine s_retL (dl_lst (da_cons (de_var (d := .int own) (i := 3) rfl (.int own)) (da_cons (de_I0 (c := .int (cell % 2305843009213693951 + 104729 * (k : Int) + 47)) (de_I0 (de_I (C := fun _ j => 0 < j) (g := fun i j => .int (i % j)) c2 (de_int (i := 2305843009213693951)) (by decide)) (de_I (C := CMul) (g := fun i j => .int (i * j)) (de_int (i := 104729)) (hσ rfl) (.inl ⟨by decide, by decide⟩))) (de_int (i := 47))) (da_cons (de_int (i := 0)) da_nil)))) fun p xs H3 np s3 e3 t3 => ?_
      obtain ⟨x, y, z, rfl, tx, ty, tz⟩ := t3.three
      rw [tx.int_, ty.int_, tz.int_] at e3
      exact q p H3 ((s1.trans s2).free np) ((s1.trans s2).trans s3) ⟨own, _, 0, e3, o0, by omega, by omega⟩
    refine q_when (dt_test (de_I0 (c := .bool (decide ((if cell < 0 then -cell else cell) < 10 ^ 18))) (de_var (d := .int (if cell < 0 then -cell else cell)) (i := 3) rfl (.int _)) (de_I (C := CPow) (g := fun i j => .int (i ^ j.toNat)) (c := .int (10 ^ 18)) (de_int (i := 10)) (de_int (i := 18)) ⟨by decide, by decide, by decide⟩))) (fun hb H2 s2 => ?_) (fun hb H2 s2 => ?_)
    · exact r_asg (gn (fin 0 H2 (by omega) s2))
    · refine fin _ H2 ?_ s2
      split <;> omega
  refine s_set (i := 2) (de_int (i := 0)) fun x2 H1 s1 t2 => ?_
  rw [t2.int_]
  have dlen : DE (tCB (rLenT K) (tCons (tVar 0) tNil)) [some (.ref a), some (.int (k : Int)), some (.int 0), none] H1 (.int (ns.length : Int)) := fun H2 s2 Q' q' => ⟨.ref a, rfl, a, ns.map V.int, rfl, .inl ((s1.trans s2).seq hS), by rw [List.length_map]; exact q' _ H2 (Same.refl _) (.int _)⟩
  refine q_when (dt_test (de_I0 (c := .bool (decide ((k : Int) < (ns.length : Int)))) (hσ rfl) dlen)) (fun hb H2 s2 => ?_) (fun hb H2 s2 => rest 0 H2 (s1.trans s2))
  have hk : k < ns.length := by
    have := of_decide_eq_true hb
    omega
  refine r_asg ⟨.ref a, rfl, .int (k : Int), rfl, a, ns.map V.int, (k : Int), .int ns[k], rfl, rfl, (s1.trans s2).seq hS, atI_nat (by rw [List.getElem?_map, List.getElem?_eq_getElem hk]; rfl), gn ?_⟩
  exact rest ns[k] H2 (s1.trans s2)
theorem cal_of_ (T : Txt K mg) : Cal P w K mg base "_law_of" 2 p_L_of spOf := by
  refine cal_of T.L_of sc_L_of (fun _ _ _ _ _ _ us hl => match us, hl with | [_, _], _ => rfl) (fun vs H Q E ⟨a, l, xs, m, e, _⟩ => by rw [e]; rfl) fun f cdv A outer s H vs Q E hr h => ?_
  obtain ⟨a, l, xs, m, rfl, el, nl, l0, l1, hA, q⟩ := h
  have C : Cal P w K mg base "_law_take" 1 p_L_take spTake := cal_take T
  refine ⟨_, PSs.nox (pss_one (ps_ret (pixL K (pv 1) (pe_cal C hr rfl (pa_cons (pv 0) (pa_cons (pe_callB (clLen K) rfl T.len boot_len (pa_cons (pv 1) pa_nil)) pa_nil)))))), ?_⟩
  refine r_ret ⟨.ref l, rfl, .ref a, rfl, .ref l, rfl, l, xs, rfl, .inl (.of el), ?_⟩
  refine ⟨a, (xs.length : Int), m, rfl, by omega, ?_, hA, fun H1 d d0 d1 k1 hA1 => ?_⟩
  · rw [Int.natAbs_natCast]
    exact Nat.lt_of_le_of_lt (Nat.log2_le_self _) (by omega)
  · have hd : d.toNat < xs.length := by omega
    refine ⟨l, xs, d, xs[d.toNat], rfl, rfl, .of (k1.ne el nl), ?_, q H1 _ (List.getElem_mem hd) k1 hA1⟩
    have := atI_nat (xs := xs) (j := d.toNat) (List.getElem?_eq_getElem hd)
    rwa [Int.toNat_of_nonneg d0] at this
end
end Tk

set_option Elab.async false
set_option linter.all false
set_option maxRecDepth 100000
set_option maxHeartbeats 4000000
/-! _law_tickets, _law_once, _law_office. -/
namespace Tk
open PySem PySem.Spec PyProof.Rows L2
section
variable {P : Program} {w : World} {K : PySem.W.Frag} {mg : Str → Option Value} {base : Heap}
theorem log_ok {z : Int} (h0 : 0 < z) (h : z < 2 ^ 60) : z.natAbs.log2 < 9000 := by
  have h1 : z.natAbs < 2 ^ 60 := by omega
  have h2 := (Nat.log2_lt (by omega : z.natAbs ≠ 0)).mpr h1
  omega
theorem take_e {σ : L2.St} {H : Hp} {i : Nat} {te : TE} {a : Addr} {m : Nat} {many : Int} {Q : VK} (ho : OR (tVar i) σ H a) (ht : DE te σ H (.int many)) (hA : HandAt H a (m + 1)) (h0 : 0 < many) (h1 : many < 2 ^ 60)
    (q : ∀ H1 d, 0 ≤ d → d < many → KL [a] H H1 → HandAt H1 a m → Q (.int d) H1) : tCall spTake [] E0 (tCons (tVar i) (tCons te tNil)) σ H Q := by
  show tVar i σ H fun x H1 => te σ H1 fun y H2 => spTake [x, y] H2 Q E0
  exact ho H (Same.refl _) _ (ht.at_ fun v H1 s1 t1 => by
    rw [t1.int_]
    exact ⟨a, many, m, rfl, h0, log_ok h0 h1, hA.same s1, fun H2 d d0 d1 k hA2 => q H2 d d0 d1 ((KL.of s1).trans k) hA2⟩)
/-- one of a new list -/
theorem of_e {σ : L2.St} {H : Hp} {i : Nat} {te : TE} {a : Addr} {m : Nat} {ds : List PyData} {Q : VK} (ho : OR (tVar i) σ H a) (ht : DL te σ H ds) (hA : HandAt H a (m + 1)) (h0 : 0 < ds.length) (h1 : ds.length ≤ 1000)
    (q : ∀ H1 v d, d ∈ ds → Td H1 v d → KL [a] H H1 → HandAt H1 a m → Q v H1) : tCall spOf [] E0 (tCons (tVar i) (tCons te tNil)) σ H Q := by
  show tVar i σ H fun x H1 => te σ H1 fun y H2 => spOf [x, y] H2 Q E0
  exact ho H (Same.refl _) _ (ht.at_ fun p xs H1 np s1 e1 t1 => by
    have hl := t1.length
    have npa : p ≠ a := fun z => by
      obtain ⟨_, _, _, e, _⟩ := hA
      rw [z, e] at np
      cases np
    refine ⟨a, p, xs, m, rfl, e1, npa, by omega, by omega, hA.same s1, fun H2 x hx k hA2 => ?_⟩
    obtain ⟨j, hj⟩ := List.getElem?_of_mem hx
    obtain ⟨d, hd, td⟩ := t1.at' hj
    exact q H2 x d (List.mem_of_getElem? hd) (td.mono (k.tk1 (hA.same s1))) ((KL.of s1).trans k) hA2)
/-- a comprehension whose elements draw from the hand -/
theorem lc_hand {α β : Type} {en : α → PyData} {eb : β → PyData} {as : List α} {J : It} {G : Hp → Prop} {a : Addr} {j : Nat} {te : TE} {vs : List Nat} {σ : L2.St} {H1 : Hp} {Q : VK} {m c : Nat}
    (W : Walk J as.length G (fun i H x H' => Same H H' ∧ ∃ d, (as.map en)[i]? = some d ∧ Td H' x d)) (hG : ∀ H', KL [a] H1 H' → G H') (hA : HandAt H1 a (m + c * as.length)) (Pr : α → β → Prop) (hl : as.length < sizeLine) (hw : ∀ x, wipe ((wipe σ vs).set j (some x)) vs = wipe σ vs)
    (he : ∀ e ∈ as, ∀ v H2 r, KL [a] H1 H2 → Td H2 v (en e) → HandAt H2 a (r + c) → ∀ Q' : VK, (∀ y b H3, KL [a] H2 H3 → HandAt H3 a r → Td H3 y (eb b) → Pr e b → Q' y H3) → te ((wipe σ vs).set j (some v)) H2 Q')
    (q : ∀ (D : Addr) (xs : List V) (bs : List β) (H' : Hp), H1 D = none → KL [a] H1 H' → HandAt H' a m → H' D = some (.lst xs) → TdAll H' xs (bs.map eb) → bs.length = as.length → (∀ (i : Nat) (b : β), bs[i]? = some b → ∃ e, as[i]? = some e ∧ Pr e b) → Q (.ref D) H') :
    ∀ D, H1 D = none → ∃ W : Nat → Nat → Hp → Prop, (∃ m, W 0 m (upd H1 D (.lst []))) ∧ ∀ i m H, W i m H →
      (J.stop i H ∧ Q (.ref D) H) ∨ (J.go i H ∧ ∃ Nx : Hp → Prop, (∀ H', Nx H' → ∃ m', m' < m ∧ W (i + 1) m' H') ∧ ∀ x H', J.yld i H x H' → gName j x (wipe σ vs) H' fun σ2 H2 => wipe σ2 vs = wipe σ vs ∧ tYes σ2 H2 fun b H3 =>
        if b = true then te σ2 H3 fun y H4 => ∃ acc, H4 D = some (.lst acc) ∧ acc.length < sizeLine ∧ Nx (upd H4 D (.lst (acc ++ [y]))) else Nx H3) := fun D hD => by
  have nDa : D ≠ a := fun z => by
    obtain ⟨_, _, _, e, _⟩ := hA
    rw [z, e] at hD
    cases hD
  refine lc_it W (fun i H' => ∃ (acc : List V) (bs : List β), H' D = some (.lst acc) ∧ TdAll H' acc (bs.map eb) ∧ bs.length = i ∧ (∀ (i : Nat) (b : β), bs[i]? = some b → ∃ e, as[i]? = some e ∧ Pr e b) ∧ KL [a] H1 H' ∧ HandAt H' a (m + c * (as.length - i)) ∧ i ≤ as.length)
    ⟨[], [], upd_same, .nil, rfl, (fun i b e => by simp at e), .of (same_new hD), hA.same (same_new hD), Nat.zero_le _⟩ (fun i H' _ p => ?_) (fun i x H3 H4 hi p y => ?_) fun H' p => ?_
  · obtain ⟨acc, bs, _, _, _, _, k, _⟩ := p
    exact hG H' k
  · obtain ⟨acc, bs, ea, ta, hb, hp, k, hA3, _⟩ := p
    obtain ⟨s4, d', hd', td⟩ := y
    rw [List.getElem?_map] at hd'
    obtain ⟨e, hd, rfl⟩ := Option.map_eq_some_iff.mp hd'
    have ec : m + c * (as.length - i) = (m + c * (as.length - (i + 1))) + c := by
      have : as.length - i = (as.length - (i + 1)) + 1 := by omega
      rw [this, Nat.mul_succ]
      omega
    rw [ec] at hA3
    refine gn ⟨hw x, ?_⟩
    dsimp only [tYes]
    rw [if_pos rfl]
    refine he e (List.mem_of_getElem? hd) x H4 _ (k.s s4) td (hA3.same s4) _ fun y b H5 k5 hA5 ty pr => ?_
    have ea4 := s4 _ _ ea
    have ea5 := k5.ne ea4 nDa
    refine ⟨acc, ea5, ?_, acc ++ [y], bs ++ [b], upd_same, ?_, by rw [List.length_append, hb]; rfl, fun i' b' hb' => ?_, fun b' o n e' => ?_, ?_, hi⟩
    · have := ta.length
      rw [List.length_map] at this
      omega
    · rw [List.map_append]
      have m5 := k5.tk1 (hA3.same s4)
      exact ((ta.mono ((TK.same s4).trans m5)).snoc ty).mono (.put ea5 fun _ z => by cases z)
    · by_cases hlt : i' < bs.length
      · rw [List.getElem?_append_left hlt] at hb'
        exact hp i' b' hb'
      · rw [List.getElem?_append_right (by omega)] at hb'
        have h0 : i' - bs.length = 0 := by
          by_cases h : i' - bs.length = 0
          · exact h
          · rw [List.getElem?_eq_none (by simp; omega)] at hb'
            cases hb'
        rw [h0] at hb'
        cases hb'
        have : i' = i := by omega
        subst this
        exact ⟨e, hd, pr⟩
    · rw [upd_ne (fun z => by rw [z, hD] at e'; cases e')]
      exact ((k.s s4).trans k5) b' o n e'
    · obtain ⟨o, sd, cn, eh, r⟩ := hA5
      exact ⟨o, sd, cn, by rw [upd_ne nDa.symm]; exact eh, r⟩
  · obtain ⟨acc, bs, ea, ta, hb, hp, k, hA', _⟩ := p
    rw [Nat.sub_self, Nat.mul_zero, Nat.add_zero] at hA'
    exact q D acc bs H' hD k hA' ea ta hb hp
def spTickets : Sp := fun vs H Q _ => ∃ (a : Addr) (v1 : V) (p : Plan) (n m : Nat), vs = [.ref a, v1, .int (n : Int)] ∧ Td H v1 (planD p) ∧ 0 < p.stock.length ∧ p.stock.length ≤ 1000 ∧ n ≤ 100 ∧ HandAt H a (m + 2 * n) ∧
  ∀ l xs (ts : List (Int × Int)) H', H l = none → KL [a] H H' → HandAt H' a m → H' l = some (.lst xs) → TdAll H' xs (ts.map pairD) → ts.length = n → (∀ t ∈ ts, 0 ≤ t.1 ∧ t.1.toNat < p.stock.length) → Q (.ref l) H'
theorem range_walk {n : Nat} {H : Hp} : Walk (Itr 0 n) (List.range n).length (fun _ => True) (fun i H x H' => Same H H' ∧ ∃ d, ((List.range n).map fun i : Nat => PyData.int (i : Int))[i]? = some d ∧ Td H' x d) := by
  rw [List.length_range]
  exact walk_range.mono (fun _ _ => trivial) fun i H' x H'' hi q y => by
    obtain ⟨rfl, rfl⟩ := y
    exact ⟨Same.refl _, _, by rw [List.getElem?_map, List.getElem?_range hi]; rfl, by show Td H'' (.int (0 + (i : Int))) (.int (i : Int)); rw [Int.zero_add]; exact .int _⟩
theorem cal_tickets (T : Txt K mg) : Cal P w K mg base "_law_tickets" 3 p_L_tickets spTickets := by
  refine cal_of T.L_tickets sc_L_tickets (fun _ _ _ _ _ _ us hl => match us, hl with | [_, _, _], _ => rfl) (fun vs H Q E ⟨a, v1, p, n, m, e, _⟩ => by rw [e]; rfl) fun f cdv A outer s H vs Q E hr h => ?_
  obtain ⟨a, v1, p, n, m, rfl, t1, l0, l1, hn, hA, q⟩ := h
  have C1 : Cal P w K mg base "_law_take" 1 p_L_take spTake := cal_take T
  have C2 : Cal P w K mg base "_law_of" 2 p_L_of spOf := cal_of_ T
  refine ⟨_, PSs.nox (pss_cons (ps_set (i := 3) sc_L_tickets.nd rfl (.inr rfl) (pe_callB (clLen K) rfl T.len boot_len (pa_cons (pix K (pv 1) pe_int) pa_nil)))
    (pss_one (ps_ret (pe_lc rfl sc_L_tickets.nd (pi_range1 rfl T.range (pa_cons (pv 2) pa_nil)) (own := [("_law_k", 4)]) (blkOk_by (N := n_L_tickets) (sc := defScope s_L_tickets) (by decide +kernel))
      (fun _ _ _ _ _ => pg_name (i := 4) sc_L_tickets.nd rfl (.inl rfl)) (fun _ _ _ _ _ => pts_nil)
      (fun _ _ _ _ _ => pe_tup (pa_cons (pe_cal C1 (hr.mono (by decide)) rfl (pa_cons (pv 0) (pa_cons (pv 3) pa_nil))) (pa_cons (pe_cal C2 hr rfl (pa_cons (pv 0) (pa_cons (pe_lst (pa_cons pe_int (pa_cons pe_int (pa_cons pe_int (pa_cons pe_int (pa_cons pe_int (pa_cons pe_int (pa_cons pe_int (pa_cons pe_int pa_nil))))))))) pa_nil))) pa_nil))))))), ?_⟩
  refine s_set (i := 3) (de_lenT (K := K) (de_ix (K := K) (de_var (d := planD p) (i := 1) rfl t1) (de_int (i := ((2 : Nat) : Int))) (d := .tuple (p.stock.map quadD)) rfl)) fun x3 H1 s1 t3 => ?_
  rw [List.length_map] at t3
  rw [t3.int_]
  refine r_ret ⟨.int (n : Int), rfl, (n : Int), rfl, by omega, by omega, ?_⟩
  rw [Int.toNat_natCast]
  refine lc_hand (a := a) (eb := pairD) (c := 2) (m := m) (range_walk (H := H1)) (fun _ _ => trivial) (by rw [List.length_range]; exact hA.same s1) (fun _ (t : Int × Int) => 0 ≤ t.1 ∧ t.1.toNat < p.stock.length) (big_ (by rw [List.length_range]; omega)) (fun _ => rfl) (fun e _ v H2 r k2 tv hA2 Q' q' => ?_) fun D xs bs H' nD k hA' eD tD hb hp => ?_
  · have dr : DE (tVar 3) [some (.ref a), some v1, some (.int (n : Int)), some (.int (p.stock.length : Int)), some v] H2 (.int (p.stock.length : Int)) := de_var (i := 3) rfl (.int _)
    refine take_e (or_var (i := 0) rfl) dr (m := r + 1) hA2 (by omega) (by omega) fun H3 d d0 d1 k3 hA3 => ?_
    refine of_e (or_var (i := 0) rfl) (dl_lst (da_cons (de_int (i := 0)) (da_cons (de_int (i := 0)) (da_cons (de_int (i := 1)) (da_cons (de_int (i := 1)) (da_cons (de_int (i := 2)) (da_cons (de_int (i := 3)) (da_cons (de_int (i := 7)) (da_cons (de_int (i := 999999999)) da_nil))))))))) hA3 (by simp) (by simp) fun H4 v4 d4 hd4 t4 k4 hA4 => ?_
    obtain ⟨z, rfl⟩ : ∃ z : Int, d4 = .int z := by
      simp only [List.mem_cons, List.not_mem_nil, or_false] at hd4
      rcases hd4 with h | h | h | h | h | h | h | h <;> exact ⟨_, h⟩
    refine ⟨by show 2 ≤ sizeLine; decide, fun tp ntp => q' _ (d, z) _ ((k3.trans k4).s (same_new ntp)) (hA4.same (same_new ntp)) ?_ ⟨d0, by omega⟩⟩
    exact .tup upd_same (.cons (.int d) (.cons (t4.mono (.new ntp)) .nil))
  · refine q D xs bs H' (s1.free nD) ((KL.of s1).trans k) hA' eD tD (by rw [hb, List.length_range]) fun t ht => ?_
    obtain ⟨i, hi⟩ := List.getElem?_of_mem ht
    obtain ⟨_, _, h⟩ := hp i t hi
    exact h
end
end Tk

set_option Elab.async false
set_option linter.all false
set_option maxRecDepth 100000
set_option maxHeartbeats 4000000
/-! _law_once, _law_office. -/
namespace Tk
open PySem PySem.Spec PyProof.Rows L2
section
variable {P : Program} {w : World} {K : PySem.W.Frag} {mg : Str → Option Value} {base : Heap}
theorem canLay_all : ∀ {ds : List PyData}, (∀ d ∈ ds, d.canLay0 = true) → PyData.canLayAll0 ds = true
  | [], _ => by simp [PyData.canLayAll0]
  | d :: ds, h => by
    simp only [PyData.canLayAll0, Bool.and_eq_true]
    exact ⟨h d List.mem_cons_self, canLay_all fun e m => h e (List.mem_cons_of_mem _ m)⟩
theorem depth_all : ∀ {ds : List PyData} {n : Nat}, (∀ d ∈ ds, d.depth ≤ n) → PyData.depthAll ds ≤ n + 1
  | [], _, _ => by simp [PyData.depthAll]
  | d :: ds, n, h => by
    have h1 := depth_all (ds := ds) (n := n) fun e m => h e (List.mem_cons_of_mem _ m)
    have h2 := h d List.mem_cons_self
    simp only [PyData.depthAll]
    omega
theorem shaped_list {ds : List PyData} (h1 : ∀ d ∈ ds, d.canLay0 = true) (h2 : ∀ d ∈ ds, d.depth ≤ 20) : SeqAt.shaped (.list ds) = true := by
  have h3 := depth_all h2
  show (PyData.canLay0 (.list ds) && decide (PyData.depth (.list ds) ≤ 64)) = true
  rw [Bool.and_eq_true]
  exact ⟨by simp only [PyData.canLay0]; exact canLay_all h1, decide_eq_true (by simp only [PyData.depth]; omega)⟩
theorem oNotInD {X : Cx} (K : PySem.W.Frag) (hu : X.A.units + 65 < cLine) (hK : X.K = K := by rfl) : OpR X (compareOp .NotIn) (rNotInD K) := hK ▸ op_notInD hu
theorem slL {X : Cx} (K : PySem.W.Frag) (hK : X.K = K := by rfl) : SlR X (rSlL K) := hK ▸ sl_list
theorem crSorted {X : Cx} (K : PySem.W.Frag) (hu : X.A.units + 64 < cLine) (hK : X.K = K := by rfl) : CallR X (.builtin "sorted") (rSortedD K) := hK ▸ cr_sortedD hu
theorem de_notInL {σ : L2.St} {H : Hp} {tx tl : TE} {d : PyData} {ds : List PyData} (hx : DE tx σ H d) (hl : DL tl σ H ds) (sd : SeqAt.shaped d = true) (sl : SeqAt.shaped (.list ds) = true) : DE (tOp (rNotInD K) tx tl) σ H (.bool (!ds.any fun z => PyData.eqv z d)) := fun H1 k Q q =>
  hx H1 k _ fun x H2 s2 t2 => hl H2 (k.trans s2) _ fun p xs H3 np s3 e3 t3 => ⟨d, ds, (t2.mono (.same s3)).dp, .lst (.of e3) t3.dp, sd, sl, q _ _ (s2.trans s3) (.bl _)⟩
theorem de_notInO {σ : L2.St} {H : Hp} {tx tl : TE} {d : PyData} {ds : List PyData} {l : Addr} {xs : List V} (hx : DE tx σ H d) (ho : OR tl σ H l) (e : H l = some (.lst xs)) (t : TdAll H xs ds) (sd : SeqAt.shaped d = true) (sl : SeqAt.shaped (.list ds) = true) : DE (tOp (rNotInD K) tx tl) σ H (.bool (!ds.any fun z => PyData.eqv z d)) := fun H1 k Q q =>
  hx H1 k _ fun x H2 s2 t2 => ho H2 (k.trans s2) _ ⟨d, ds, t2.dp, .lst (.of ((k.trans s2) _ _ e)) (t.mono (.same (k.trans s2))).dp, sd, sl, q _ _ s2 (.bl _)⟩
theorem dl_cut {σ : L2.St} {H : Hp} {ta : TE} {tl th : TO} {l : Addr} {xs : List V} {ds : List PyData} {lo hi : Option Int} (ho : OR ta σ H l) (e : H l = some (.lst xs)) (t : TdAll H xs ds)
    (hl : ∀ H1 (Q : Option Int → Hp → Prop), Same H H1 → (∀ H2, Same H1 H2 → Q lo H2) → tl σ H1 Q) (hh : ∀ H1 (Q : Option Int → Hp → Prop), Same H H1 → (∀ H2, Same H1 H2 → Q hi H2) → th σ H1 Q) : DL (tSl (rSlL K) ta tl th) σ H (cutD ds lo hi) := fun H1 k Q q =>
  ho H1 k _ (hl H1 _ k fun H2 s2 => hh H2 _ (k.trans s2) fun H3 s3 => ⟨l, xs, rfl, .of (((k.trans s2).trans s3) _ _ e), fun p np => by
    refine q p _ _ ((s2.trans s3).free np) ((s2.trans s3).trans (same_new np)) upd_same ?_
    have t3 := (t.mono (.same ((k.trans s2).trans s3))).mono (TK.new (o := .lst (cutV xs lo hi)) np)
    unfold cutV cutD
    rw [t.length]
    unfold cutV at t3
    rw [t.length] at t3
    exact (t3.drop _).take _⟩)
theorem de_neg {σ : L2.St} {H : Hp} {ta : TE} {i : Int} (h : DE ta σ H (.int i)) : DE (tUn (rU fun i => .int (-i)) ta) σ H (.int (-i)) := fun H1 k Q q => h H1 k _ fun v H2 s2 t2 => ⟨i, t2.int_, q _ _ s2 (.int _)⟩
theorem dl_sorted {σ : L2.St} {H : Hp} {ta : TE} {l : Addr} {xs : List V} {ds : List PyData} (ho : OR ta σ H l) (e : H l = some (.lst xs)) (t : TdAll H xs ds) (ok : SortOk ds) : DL (tCB (rSortedD K) (tCons ta tNil)) σ H (ds.mergeSort leP) := fun H1 k Q q =>
  ho H1 k _ (by
    have hlen := t.length
    have t1 := t.mono (.same k)
    have tz := t1.forall_
    refine ⟨l, xs.zip ds, rfl, by rw [zip_fst hlen]; exact .of (k _ _ e), fun p m => (tz p m).dp, by rw [zip_snd hlen]; exact ok, fun r nr => ?_⟩
    refine q r _ _ nr (same_new nr) upd_same ?_
    have h6 := TdAll.of_zip (H := H1) (ps := (xs.zip ds).mergeSort leD) fun pp m => tz pp (List.mem_mergeSort.mp m)
    rw [sort_snd, zip_snd hlen] at h6
    exact h6.mono (.new nr))
def leT {α : Type} (en : α → PyData) (a b : α) : Bool := PySem.W.dataLe false en a b
theorem sort_en {α : Type} (en : α → PyData) (as : List α) : (as.map en).mergeSort leP = (as.mergeSort (leT en)).map en := (List.map_mergeSort (r := leT en) (s := leP) (f := en) fun a _ b _ => rfl).symm
theorem sortOk_pairs (ts : List (Int × Int)) : SortOk (ts.map pairD) :=
  ⟨.of fun a b => by simp [pairD, PySem.W.alike, PySem.W.alikeAll], .tuples fun b => ⟨_, _, rfl⟩, fun d m => by
    obtain ⟨s, _, rfl⟩ := List.mem_map.mp m
    simp [pairD, PyData.depth, PyData.depthAll]⟩
theorem pair_flat (t : Int × Int) : (pairD t).canLay0 = true ∧ (pairD t).depth ≤ 20 := by
  constructor
  · simp [pairD, PyData.canLay0, PyData.canLayAll0]
  · simp [pairD, PyData.depth, PyData.depthAll]
theorem shaped_pairs (ts : List (Int × Int)) {ds : List PyData} (h : ∀ d ∈ ds, d ∈ ts.map pairD) : SeqAt.shaped (.list ds) = true :=
  shaped_list (fun d m => by
    obtain ⟨t, _, rfl⟩ := List.mem_map.mp (h d m)
    exact (pair_flat t).1) fun d m => by
    obtain ⟨t, _, rfl⟩ := List.mem_map.mp (h d m)
    exact (pair_flat t).2
def spOnce : Sp := fun vs H Q _ => ∃ (l : Addr) (xs : List V) (ts : List (Int × Int)), vs = [.ref l] ∧ H l = some (.lst xs) ∧ TdAll H xs (ts.map pairD) ∧ ts.length ≤ 1000 ∧ ∀ v (us : List (Int × Int)) H', Same H H' → Td H' v (.tuple (us.map pairD)) → us.length ≤ ts.length → Q v H'
theorem cal_once (T : Txt K mg) : Cal P w K mg base "_law_once" 1 p_L_once spOnce := by
  refine cal_of T.L_once sc_L_once (fun _ _ _ _ _ _ us hl => match us, hl with | [_], _ => rfl) (fun vs H Q E ⟨l, xs, ts, e, _⟩ => by rw [e]; rfl) fun f cdv A outer s H vs Q E hr h => ?_
  obtain ⟨l, xs, ts, rfl, el, tl, hl, q⟩ := h
  refine ⟨_, PSs.nox (pss_cons (ps_set (i := 1) sc_L_once.nd rfl (.inl rfl) (pe_lst pa_nil)) (pss_cons (ps_for PassesOwn.never rfl (pi_list (pe_callB (crSorted K (hu64 hr)) rfl T.sorted boot_sorted (pa_cons (pv 0) pa_nil))) (pg_name (i := 2) sc_L_once.nd rfl (.inl rfl))
      (pss_one (ps_if (pt_cmpR (oNotInD K (hu65 hr)) (pv 2) (pe_slice (slL K) (pv 1) (po_some (pe_un un_neg pe_int)) po_none) rfl) (pss_one (ps_expr (papp (pv 1) (pa_cons (pv 2) pa_nil)))) pss_nil)))
    (pss_one (ps_ret (pe_tupleOf rfl T.tuple (pv 1)))))), ?_⟩
  refine s_setL (dl_lst da_nil) fun fo xs0 H1 nf s1 ef tf => ?_
  cases tf
  have hi : DI (iList K (tCB (rSortedD K) (tCons (tVar 0) tNil))) ((start n_L_once [.ref l]).set 1 (some (.ref fo))) H1 ((ts.mergeSort (leT pairD)).map pairD) := di_list (by rw [← sort_en]; exact dl_sorted (K := K) (or_var (i := 0) rfl) (s1 _ _ el) (tl.mono (.same s1)) (sortOk_pairs ts))
  refine q_for (L := [fo]) hi (nt_one (.lst ef)) (fun i σ' H' => ∃ a2 acc us, σ' = [some (.ref l), some (.ref fo), a2] ∧ H' fo = some (.lst acc) ∧ TdAll H' acc (us.map pairD) ∧ us.length ≤ i) (fun H2 s => ⟨none, [], [], rfl, s _ _ ef, .nil, Nat.le_refl _⟩) ?_ ?_
  · rintro H2 i t x σ' H0 H' s2 k kT hd td ⟨a2, acc, us, rfl, ea, ta, z⟩ s0
    have hi := at_lt hd
    rw [List.length_mergeSort] at hi
    have ea' := s0 _ _ ea
    have ta' := ta.mono (.same s0)
    refine gn (s_when (dt_test (de_notInL (K := K) (de_var (d := pairD t) (i := 2) rfl td) (dl_cut (K := K) (lo := some (-1)) (hi := none) (or_var (i := 1) rfl) ea' ta' (po_i (de_neg (de_int (i := 1)))) po_n) ?_ (shaped_pairs us fun d m => ?_))) (fun hb H3 s3 => ?_) (fun hb H3 s3 => ?_))
    · rfl
    · unfold cutD at m
      exact List.mem_of_mem_drop (List.mem_of_mem_take m)
    · have hlen := ta.length
      rw [List.length_map] at hlen
      refine s_app (s3 _ _ ea') (or_var rfl) (de_var (d := pairD t) (i := 2) rfl (td.mono (.same s3))) (big_ (by omega)) fun y H4 s4 ty => ?_
      have e4 := s4 _ _ (s3 _ _ ea')
      refine ⟨(((k.s s0).s s3).s s4).trans (.put (List.mem_singleton.mpr rfl)), _, acc ++ [y], us ++ [t], rfl, upd_same, ?_, by rw [List.length_append]; exact Nat.add_le_add_right z 1⟩
      rw [List.map_append]
      exact ((ta'.mono (.same (s3.trans s4))).snoc ty).mono (.put e4 fun _ z => by cases z)
    · exact ⟨(k.s s0).s s3, _, acc, us, rfl, s3 _ _ ea', ta'.mono (.same s3), by omega⟩
  · rintro σ' H' k ⟨a2, acc, us, rfl, ea, ta, z⟩
    rw [List.length_mergeSort] at z
    have sH : Same H H' := (KL.fresh (L := []) s1 k (fun p m => .inr (by rw [List.mem_singleton.mp m]; exact nf))).same nofun
    exact ⟨_, rfl, .inl ⟨fo, acc, rfl, .of ea, fun r nr => q _ us _ (sH.trans (same_new nr)) (.tup upd_same (ta.mono (.new nr))) z⟩⟩
end
end Tk

set_option Elab.async false
set_option linter.all false
set_option maxRecDepth 100000
set_option maxHeartbeats 8000000
/-! _law_office. -/
namespace Tk
open PySem PySem.Spec PyProof.Rows L2
def spOffice : Sp := fun vs H Q _ => ∃ (a : Addr) (v1 : V) (p : Plan) (place day : Int) (m : Nat), vs = [.ref a, v1, .int place, .int day] ∧ Td H v1 (planD p) ∧ 0 < p.stock.length ∧ p.stock.length ≤ 1000 ∧ 0 < p.rates.length ∧ p.rates.length ≤ 1000 ∧ HandAt H a (m + 2 * p.stock.length + 30) ∧
  ∀ v (g : Page) H', KL [a] H H' → HandAt H' a m → Td H' v (pageD g) → isOffice g = true → g.place = place → g.day = day → (0 ≤ day → day ≤ 1000 → PageOk p g) → Q v H'
section
variable {P : Program} {w : World} {K : PySem.W.Frag} {mg : Str → Option Value} {base : Heap}
/-- one of a list of ints and Nones, an int drawn among them -/
theorem of_l {σ : L2.St} {H : Hp} {i : Nat} {t : TA} {a : Addr} {m : Nat} {Q : VK} (ho : σ[i]? = some (some (.ref a))) (hA : HandAt H a (m + 2))
    (ht : ∀ R : List V → Hp → Prop, (∀ H1 vs (os : List (Option Int)), KL [a] H H1 → HandAt H1 a (m + 1) → TdAll H1 vs (os.map oI) → 0 < os.length → os.length ≤ 10 → R vs H1) → t σ H R)
    (q : ∀ H1 v (o : Option Int), KL [a] H H1 → HandAt H1 a m → Td H1 v (oI o) → Q v H1) : tCall spOf [] E0 (tCons (tVar i) (tCons (tLst t) tNil)) σ H Q := by
  show tVar i σ H fun x H1 => t σ H1 fun xs H2 => xs.length ≤ sizeLine ∧ ∀ p, H2 p = none → spOf [x, .ref p] (upd H2 p (.lst xs)) Q E0
  refine ⟨_, ho, ht _ fun H1 vs os k1 hA1 tv l0 l1 => ?_⟩
  have hlen := tv.length
  rw [List.length_map] at hlen
  refine ⟨by rw [hlen]; exact Nat.le_of_lt (big_ (by omega)), fun p np => ?_⟩
  have npa : p ≠ a := fun z => by
    obtain ⟨_, _, _, e, _⟩ := hA1
    rw [z, e] at np
    cases np
  have hA2 : HandAt (upd H1 p (.lst vs)) a (m + 1) := hA1.same (same_new np)
  refine ⟨a, p, vs, m, rfl, upd_same, npa, by omega, by omega, hA2, fun H2 x hx k2 hA3 => ?_⟩
  obtain ⟨j, hj⟩ := List.getElem?_of_mem hx
  obtain ⟨d, hd, td⟩ := tv.at' hj
  rw [List.getElem?_map] at hd
  obtain ⟨o, _, rfl⟩ := Option.map_eq_some_iff.mp hd
  exact q H2 x o ((k1.s (same_new np)).trans k2) hA3 (td.mono ((TK.new np).trans (k2.tk1 hA2)))
/-- name = e, then the rest: the wish behind e held abstract -/
theorem q_asgN {σ : L2.St} {H : Hp} {te : TE} {i : Nat} {D : Ends} {tz : TS} (h : ∀ Q : VK, (∀ x H1, tz D (σ.set i (some x)) H1 → Q x H1) → te σ H Q) : tSeq (tAsg te (gName i)) tz D σ H := h _ fun _ _ z => z
theorem de_tupO {σ : L2.St} {H : Hp} {te : TE} {l : Addr} {xs : List V} {ds : List PyData} (ho : OR te σ H l) (e : H l = some (.lst xs)) (t : TdAll H xs ds) : DE (tThen te (kTup K)) σ H (.tuple ds) := fun H1 k Q q =>
  ho H1 k _ (.inl ⟨l, xs, rfl, .of (k _ _ e), fun r nr => q _ _ (same_new nr) (.tup upd_same ((t.mono (.same k)).mono (.new nr)))⟩)
/-- l.append(x), x drawn -/
theorem app_hand {σ : L2.St} {H : Hp} {i : Nat} {te : TE} {D : Ends} {l : Addr} {acc : List V} (ho : σ[i]? = some (some (.ref l))) (el : H l = some (.lst acc))
    (h : ∀ R : VK, (∀ v H1, H1 l = some (.lst acc) → acc.length < sizeLine → D.nx σ (upd H1 l (.lst (acc ++ [v]))) → R v H1) → te σ H R) : tDrop (tBM K "list" rAppend (tVar i) (tCons te tNil)) D σ H := by
  show tVar i σ H fun x H1 => tyV K "list" x H1 ∧ te σ H1 fun y H2 => rAppend x [y] H2 fun _ H3 => D.nx σ H3
  exact ⟨_, ho, .inl ⟨rfl, _, .of el⟩, h _ fun v H1 e hz q => ⟨l, acc, v, rfl, rfl, e, hz, q⟩⟩
theorem cal_office (T : Txt K mg) : Cal P w K mg base "_law_office" 4 p_L_office spOffice := by
  refine cal_of T.L_office sc_L_office (fun _ _ _ _ _ _ us hl => match us, hl with | [_, _, _, _], _ => rfl) (fun vs H Q E ⟨a, v1, p, place, day, m, e, _⟩ => by rw [e]; rfl) fun f cdv A outer s H vs Q E hr h => ?_
  obtain ⟨a, v1, p, place, day, m, rfl, t1, l0, l1, r0, r1, hA, q⟩ := h
  have C1 : Cal P w K mg base "_law_take" 1 p_L_take spTake := cal_take T
  have C2 : Cal P w K mg base "_law_of" 2 p_L_of spOf := cal_of_ T
  have C3 : Cal P w K mg base "_law_tickets" 3 p_L_tickets spTickets := cal_tickets T
  have hr1 := hr.mono (show 1 ≤ 3 by decide)
  have hr2 := hr.mono (show 2 ≤ 3 by decide)
  refine ⟨_, PSs.nox (pss_cons (ps_set (i := 4) sc_L_office.nd rfl (.inl rfl) (pe_lst pa_nil))
    (pss_cons (ps_for PassesOwn.never rfl (pi_tup (pix K (pv 1) pe_int)) (pg_name (i := 5) sc_L_office.nd rfl (.inl rfl))
      (pss_one (ps_if (pt_cmpR op_eq (pix K (pv 5) pe_int) (pv 2) (nomark _)) (pss_one (ps_expr (papp (pv 4) (pa_cons (pe_cal C2 hr2 rfl (pa_cons (pv 0) (pa_cons (pe_lst (pa_cons pe_non (pa_cons pe_non (pa_cons pe_non (pa_cons (pe_cal C1 hr1 rfl (pa_cons (pv 0) (pa_cons pe_int pa_nil))) (pa_cons pe_int (pa_cons pe_int (pa_cons (pe_op op_sub (pe_op op_pow pe_int pe_int) pe_int) pa_nil)))))))) pa_nil))) pa_nil)))) pss_nil)))
    (pss_cons (ps_setLc (i := 6) rfl sc_L_office.nd rfl rfl (sw_true rfl rfl rfl rfl) (pi_list (pe_cal C3 hr rfl (pa_cons (pv 0) (pa_cons (pv 1) (pa_cons (pe_cal C1 hr1 rfl (pa_cons (pv 0) (pa_cons pe_int pa_nil))) pa_nil))))) (own := [("_law_one", 10)]) (blkOk_by (N := n_L_office) (sc := defScope s_L_office) (by decide +kernel))
      (fun _ _ _ _ _ => pg_name (i := 10) sc_L_office.nd rfl (.inl rfl)) (fun _ _ _ _ _ => pts_nil) (fun _ _ _ _ _ => pe_op (oCatA K) (pv 10) (pe_tup (pa_cons (pe_cal C1 hr1 rfl (pa_cons (pv 0) (pa_cons (pe_callB (clLen K) rfl T.len boot_len (pa_cons (pix K (pv 1) pe_int) pa_nil)) pa_nil))) pa_nil))))
    (pss_cons (ps_set (i := 7) sc_L_office.nd rfl (.inl rfl) (pe_cal C3 hr rfl (pa_cons (pv 0) (pa_cons (pv 1) (pa_cons (pe_cal C1 hr1 rfl (pa_cons (pv 0) (pa_cons pe_int pa_nil))) pa_nil)))))
    (pss_cons (ps_set (i := 8) sc_L_office.nd rfl (.inl rfl) (pe_cal C2 hr2 rfl (pa_cons (pv 0) (pa_cons (pe_lst (pa_cons pe_non (pa_cons pe_int (pa_cons (pe_op op_sub (pe_op op_sub (pe_op op_pow pe_int pe_int) pe_int) (pe_cal C1 hr1 rfl (pa_cons (pv 0) (pa_cons (pe_op op_sub (pe_op op_mul pe_int (pe_op op_pow pe_int pe_int)) pe_int) pa_nil)))) pa_nil)))) pa_nil))))
    (pss_cons (ps_set (i := 9) sc_L_office.nd rfl (.inl rfl) (pe_cal C2 hr2 rfl (pa_cons (pv 0) (pa_cons (pe_lst (pa_cons pe_non (pa_cons (pe_cal C1 hr1 rfl (pa_cons (pv 0) (pa_cons pe_int pa_nil))) pa_nil))) pa_nil))))
    (pss_one (ps_ret (pe_tup (pa_cons pe_str (pa_cons (pv 2) (pa_cons (pv 3) (pa_cons (pe_tupleOf rfl T.tuple (pv 4)) (pa_cons (pv 9) (pa_cons (pe_tupleOf rfl T.tuple (pv 6)) (pa_cons (pe_tupleOf rfl T.tuple (pv 7)) (pa_cons (pv 8) pa_nil))))))))))))))))), ?_⟩
  refine s_setL (dl_lst da_nil) fun cl xs0 H1 nc s1 ec tc => ?_
  cases tc
  have hA1 := hA.same s1
  have nca : cl ≠ a := fun z => by
    obtain ⟨_, _, _, e, _⟩ := hA
    rw [z, e] at nc
    cases nc
  have t11 := t1.mono (.same s1)
  have ntL : ∀ b ∈ [a, cl], NT H1 b := fun b mm => by
    simp only [List.mem_cons, List.not_mem_nil, or_false] at mm
    rcases mm with rfl | rfl
    · exact hA1.nt
    · exact .lst ec
  refine q_for (L := [a, cl]) (as := p.stock) (en := quadD) (di_tup (K := K) (de_ix (K := K) (de_var (d := planD p) (i := 1) rfl t11) (de_int (i := ((2 : Nat) : Int))) rfl)) ntL
    (fun i σ' H' => ∃ a5 acc cs, σ' = [some (.ref a), some v1, some (.int place), some (.int day), some (.ref cl), a5, none, none, none, none, none] ∧ H' cl = some (.lst acc) ∧ TdAll H' acc (cs.map oI) ∧ cs.length ≤ i ∧ HandAt H' a (m + 30 + 2 * (p.stock.length - i)))
    (fun H2 s => ⟨none, [], [], rfl, s _ _ ec, .nil, Nat.le_refl _, by rw [Nat.sub_zero]; exact (hA1.same s).le (by omega)⟩) ?_ ?_
  · rintro H2 i rk x5 σ' H0 H' s2 k kT hd td ⟨a5, acc, cs, rfl, ea, ta, z, hAi⟩ s0
    have hi := at_lt hd
    have ea' := s0 _ _ ea
    have ta' := ta.mono (.same s0)
    refine gn (s_when (dt_test (de_eqI (de_ix (K := K) (de_var (d := quadD rk) (i := 5) rfl td) (de_int (i := ((0 : Nat) : Int))) (d := .int rk.1) rfl) (de_var (d := .int place) (i := 2) rfl (.int _)))) (fun hb H3 s3 => ?_) (fun hb H3 s3 => ?_))
    · have ea3 := s3 _ _ ea'
      have hA3 : HandAt H3 a ((m + 30 + 2 * (p.stock.length - (i + 1))) + 2) := (hAi.same (s0.trans s3)).le (by omega)
      have hlen := ta.length
      rw [List.length_map] at hlen
      refine app_hand (l := cl) (acc := acc) rfl ea3 fun RR hRR => of_l rfl hA3 (fun R hR => ?_) fun H4 v o k4 hA4 tv => ?_
      · refine take_e (or_var (i := 0) rfl) (de_int (i := 5)) hA3 (by decide) (by decide) fun H4 d _ _ k4 hA4 => ?_
        refine (de_I0 (c := .int 999999999) (de_I (C := CPow) (g := fun i j => .int (i ^ j.toNat)) (c := .int 1000000000) (de_int (i := 10)) (de_int (i := 9)) ⟨by decide, by decide, by decide⟩) (de_int (i := 1))).at_ fun v H5 s5 t5 => ?_
        exact hR H5 _ [none, none, none, some d, some 3, some 9, some 999999999] (k4.s s5) (hA4.same s5) (.cons .non (.cons .non (.cons .non (.cons (.int d) (.cons (.int 3) (.cons (.int 9) (.cons t5 .nil))))))) (by simp) (by simp)
      · have e4 := k4.ne ea3 nca
        refine hRR _ _ e4 (big_ (by omega)) ⟨((((k.s s0).s s3).trans (k4.more (by simp))).trans (.put (by simp))), some x5, acc ++ [v], cs ++ [o], rfl, upd_same, ?_, by rw [List.length_append]; exact Nat.add_le_add_right z 1, ?_⟩
        · rw [List.map_append]
          exact ((ta'.mono ((TK.same s3).trans (k4.tk1 hA3))).snoc tv).mono (.put e4 fun _ z => by cases z)
        · obtain ⟨o', sd, cn, eh, r⟩ := hA4
          exact ⟨o', sd, cn, by rw [upd_ne nca.symm]; exact eh, r⟩
    · exact ⟨(k.s s0).s s3, some x5, acc, cs, rfl, s3 _ _ ea', ta'.mono (.same s3), by omega, (hAi.same (s0.trans s3)).le (by omega)⟩
  · rintro σ' H2 k ⟨a5, acc, cs, rfl, ea, ta, z, hA2⟩
    rw [Nat.sub_self, Nat.mul_zero, Nat.add_zero] at hA2
    have kH : KL [a] H H2 := (KL.fresh (L := [a]) s1 k fun b mm => by
      simp only [List.mem_cons, List.not_mem_nil, or_false] at mm
      rcases mm with rfl | rfl
      · exact .inl (by simp)
      · exact .inr nc)
    have t12 := t1.mono (kH.tk1 hA)
    -- betters
    refine q_asgN fun Qb qb => ?_
    show tCall spTickets [] E0 _ _ _ _
    refine ⟨.ref a, rfl, v1, rfl, take_e (or_var (i := 0) rfl) (de_int (i := 5)) (m := m + 29) hA2 (by decide) (by decide) fun H3 n n0 n1 k3 hA3 => ?_⟩
    have t13 := t12.mono (k3.tk1 hA2)
    refine ⟨a, v1, p, n.toNat, m + 21, by rw [Int.toNat_of_nonneg n0]; rfl, t13, l0, l1, by omega, hA3.le (by omega), fun l xs ts H4 nl k4 hA4 el tl hts hok => ?_⟩
    have t14 := t13.mono (k4.tk1 hA3)
    have nla : l ≠ a := fun z => by
      obtain ⟨_, _, _, e, _⟩ := hA3
      rw [z, e] at nl
      cases nl
    refine ⟨l, rfl, ⟨xs, .of el⟩, ?_⟩
    dsimp only
    refine lc_hand (a := a) (eb := stepD) (c := 1) (m := m + 17) (list_walk (K := K) (a := l) tl) (fun H' k => ⟨k.ne el nla, k.tk1 hA4⟩) (hA4.le (by omega)) (fun t (b : Step) => b.1 = t.1 ∧ 0 ≤ b.2.2 ∧ b.2.2.toNat < p.rates.length) (big_ (by omega)) ?_ (fun t ht v H5 r k5 tv hA5 Q' q' => ?_) fun D ys bs H5 nD k5 hA5 eD tD hb hp => ?_
    · exact fun _ => rfl
    · refine ⟨v, rfl, take_e (or_var (i := 0) rfl) (de_lenT (K := K) (de_ix (K := K) (de_var (d := planD p) (i := 1) rfl (t14.mono (k5.tk1 hA4))) (de_int (i := ((1 : Nat) : Int))) (d := .tuple (p.rates.map .int)) rfl)) hA5 (by rw [List.length_map]; omega) (by rw [List.length_map]; omega) fun H6 d d0 d1 k6 hA6 => ⟨by show 1 ≤ sizeLine; decide, fun tp np => ?_⟩⟩
      rw [List.length_map] at d1
      have tv6 := (tv.mono (k6.tk1 hA5)).mono (TK.new (o := .tup [.int d]) np)
      obtain ⟨b, zs, rfl, eb, tz⟩ := Td.inv (ds := [.int t.1, .int t.2]) tv6
      obtain ⟨z1, z2, rfl, tz1, tz2⟩ := tz.two
      refine ⟨b, tp, [z1, z2], [.int d], rfl, rfl, .of eb, .of upd_same, by show 3 ≤ sizeLine; decide, (fun e => by cases e), (fun _ e => by cases e), fun _ _ rp nr => ?_⟩
      have sN := (same_new (o := .tup [.int d]) np).trans (same_new (o := .tup ([z1, z2] ++ [.int d])) nr)
      exact q' _ (t.1, t.2, d) _ (k6.s sN) (hA6.same sN) (.tup upd_same (.cons (tz1.mono (.new nr)) (.cons (tz2.mono (.new nr)) (.cons (.int d) .nil)))) ⟨rfl, d0, by show d.toNat < _; omega⟩
    -- backs
    refine qb _ _ ?_
    have t15 := t14.mono (k5.tk1 hA4)
    refine q_asgN fun Qc qc => ?_
    refine ⟨.ref a, rfl, v1, rfl, take_e (or_var (i := 0) rfl) (de_int (i := 4)) (m := m + 16) hA5 (by decide) (by decide) fun H6 n2 n20 n21 k6 hA6 => ?_⟩
    have t16 := t15.mono (k6.tk1 hA5)
    refine ⟨a, v1, p, n2.toNat, m + 10, by rw [Int.toNat_of_nonneg n20]; rfl, t16, l0, l1, by omega, hA6.le (by omega), fun l2 xs2 ts2 H7 nl2 k7 hA7 el2 tl2 hts2 hok2 => qc _ _ ?_⟩
    have nDa : D ≠ a := fun z => by
      obtain ⟨_, _, _, e, _⟩ := hA4
      rw [z, e] at nD
      cases nD
    have nl2a : l2 ≠ a := fun z => by
      obtain ⟨_, _, _, e, _⟩ := hA6
      rw [z, e] at nl2
      cases nl2
    have k57 := k6.trans k7
    have m57 : TK H5 H7 := (k6.tk1 hA5).trans (k7.tk1 hA6)
    have ec7 : H7 cl = some (.lst acc) := (((k3.trans k4).trans k5).trans k57).ne ea nca
    have m27 : TK H2 H7 := (((k3.tk1 hA2).trans (k4.tk1 hA3)).trans (k5.tk1 hA4)).trans m57
    have tc7 := ta.mono m27
    have eD7 := k57.ne eD nDa
    have tD7 := tD.mono m57
    have kH7 : KL [a] H H7 := (((kH.trans k3).trans k4).trans k5).trans k57
    -- coin
    refine q_asgN fun Qd qd => (of_l (m := m + 8) rfl (hA7.le (by omega)) (fun R hR => ?_) fun H8 v8 o8 k8 hA8 tv8 => qd _ _ ?_)
    · refine r_op ?_
      refine (de_I0 (c := .int (1000000000000000 - 1)) (de_I (C := CPow) (g := fun i j => .int (i ^ j.toNat)) (c := .int 1000000000000000) (de_int (i := 10)) (de_int (i := 15)) ⟨by decide, by decide, by decide⟩) (de_int (i := 1))).at_ fun v Ha sa ta => ?_
      have hAa : HandAt Ha a ((m + 9) + 1) := hA7.same sa
      refine take_e (or_var (i := 0) rfl) (de_I0 (c := .int 1999999999999999) (de_I (C := CMul) (g := fun i j => .int (i * j)) (c := .int 2000000000000000) (de_int (i := 2)) (de_I (C := CPow) (g := fun i j => .int (i ^ j.toNat)) (c := .int 1000000000000000) (de_int (i := 10)) (de_int (i := 15)) ⟨by decide, by decide, by decide⟩) (.inl ⟨by decide, by decide⟩)) (de_int (i := 1))) hAa (by decide) (by decide) fun Hb d _ _ kb hAb => ?_
      refine ⟨_, d, ta.int_, rfl, ?_⟩
      exact hR Hb _ [none, some 0, some (1000000000000000 - 1 - d)] ((KL.of sa).trans kb) hAb (.cons .non (.cons (.int 0) (.cons (.int _) .nil))) (by simp) (by simp)
    -- pressed
    refine q_asgN fun Qe qe => (of_l (m := m + 6) rfl (hA8.le (by omega)) (fun R hR => ?_) fun H9 v9 o9 k9 hA9 tv9 => qe _ _ ?_)
    · refine take_e (or_var (i := 0) rfl) (de_int (i := 9)) (m := m + 7) hA8 (by decide) (by decide) fun Hb d _ _ kb hAb => ?_
      exact hR Hb _ [none, some d] kb hAb (.cons .non (.cons (.int d) .nil)) (by simp) (by simp)
    have k79 := k8.trans k9
    have m79 : TK H7 H9 := (k8.tk1 hA7).trans (k9.tk1 hA8)
    have ec9 := k79.ne ec7 nca
    have eD9 := k79.ne eD7 nDa
    have el29 := k79.ne el2 nl2a
    refine s_ret (de_tup (da_cons de_str (da_cons (de_var (d := .int place) (i := 2) rfl (.int _)) (da_cons (de_var (d := .int day) (i := 3) rfl (.int _)) (da_cons (de_tupO (K := K) (or_var (i := 4) rfl) ec9 (tc7.mono m79)) (da_cons (de_var (i := 9) rfl tv9) (da_cons (de_tupO (K := K) (or_var (i := 6) rfl) eD9 (tD7.mono m79)) (da_cons (de_tupO (K := K) (or_var (i := 7) rfl) el29 (tl2.mono m79)) (da_cons (de_var (i := 8) rfl (tv8.mono (k9.tk1 hA8))) da_nil))))))))) fun v HA sA tA => ?_
    refine q v (.office place day cs o9 bs ts2 o8) HA ((kH7.trans k79).s sA) ((hA9.same sA).le (by omega)) tA rfl rfl rfl fun d0 d1 => ⟨d0, d1, by omega, by omega, by omega, fun b hb' => ?_, fun b hb' => ?_⟩
    · obtain ⟨i, hi⟩ := List.getElem?_of_mem hb'
      obtain ⟨t, ht, e1, e2, e3⟩ := hp i b hi
      have := hok t (List.mem_of_getElem? ht)
      rw [e1]
      exact ⟨this.1, this.2, e2, e3⟩
    · exact hok2 b hb'
end
end Tk

set_option Elab.async false
set_option linter.all false
set_option maxRecDepth 100000
set_option maxHeartbeats 8000000
/-! _law_plan. -/
namespace Tk
open PySem PySem.Spec PyProof.Rows L2
structure Shape (p : Plan) : Prop where
  n : 2 ≤ p.n ∧ p.n ≤ 8
  tiesLen : p.ties.length ≤ 8
  chain : ∀ k : Nat, (k : Int) + 1 < p.n → ∃ t ∈ p.ties, t.1 = (k : Int) ∧ t.2.1 = (k : Int) + 1
  rates0 : 0 < p.rates.length
  ratesLen : p.rates.length ≤ 3
  rates : ∀ x ∈ p.rates, 1 ≤ x ∧ x ≤ 20
  stock0 : 0 < p.stock.length
  stockLen : p.stock.length ≤ 12
  stock : ∀ r ∈ p.stock, 0 ≤ r.1 ∧ r.1 < p.n ∧ 0 ≤ r.2.1 ∧ r.2.1 < p.n ∧ r.1 ≠ r.2.1 ∧ 0 ≤ r.2.2.1 ∧ r.2.2.1.toNat < p.rates.length
  days : 1 ≤ p.days ∧ p.days ≤ 7
def spPlan : Sp := fun vs H Q _ => ∃ (a : Addr) (m : Nat), vs = [.ref a] ∧ HandAt H a (m + 200) ∧ ∀ v (p : Plan) H', KL [a] H H' → HandAt H' a m → Td H' v (planD p) → Shape p → Q v H'
section
variable {P : Program} {w : World} {K : PySem.W.Frag} {mg : Str → Option Value} {base : Heap}
theorem de_ixN {σ : L2.St} {H : Hp} {ta tb : TE} {ds : List PyData} {i : Nat} {d : PyData} (h : DL ta σ H ds) (hb : DE tb σ H (.int (i : Int))) (hi : ds[i]? = some d) : DE (tOp (rIxL K) ta tb) σ H d := fun H1 k Q q =>
  h H1 k _ fun p xs H2 np s2 e2 t2 => hb H2 (k.trans s2) _ fun y H3 s3 t3 => by
    obtain ⟨x, hx, td⟩ := (t2.mono (.same s3)).at_ hi
    exact ⟨p, xs, (i : Int), x, rfl, t3.int_, .of (s3 _ _ e2), atI_nat hx, q x H3 (s2.trans s3) td⟩
/-- [x, y, z][short] -/
theorem de_pick3 {σ : L2.St} {H : Hp} {tb : TE} {x y z s : Int} (hb : DE tb σ H (.int s)) (h0 : 0 ≤ s) (h1 : s < 3) : ∃ r, (r = x ∨ r = y ∨ r = z) ∧ DE (tOp (rIxL K) (tLst (tCons (tC (.int x)) (tCons (tC (.int y)) (tCons (tC (.int z)) tNil)))) tb) σ H (.int r) := by
  have hs : s = 0 ∨ s = 1 ∨ s = 2 := by omega
  have hl : DL (tLst (tCons (tC (.int x)) (tCons (tC (.int y)) (tCons (tC (.int z)) tNil)))) σ H [.int x, .int y, .int z] := dl_lst (da_cons de_int (da_cons de_int (da_cons de_int da_nil)))
  rcases hs with rfl | rfl | rfl
  · exact ⟨x, .inl rfl, de_ixN (i := 0) hl hb rfl⟩
  · exact ⟨y, .inr (.inl rfl), de_ixN (i := 1) hl hb rfl⟩
  · exact ⟨z, .inr (.inr rfl), de_ixN (i := 2) hl hb rfl⟩
/-- [c + a draw, big][great] -/
theorem pick_e {σ : L2.St} {H : Hp} {a : Addr} {m : Nat} {c many big g : Int} {Q : VK} (h0 : σ[0]? = some (some (.ref a))) (h1 : σ[1]? = some (some (.int g))) (hg : g = 0 ∨ g = 1) (hA : HandAt H a (m + 1)) (hm : 0 < many) (hm2 : many < 2 ^ 60)
    (q : ∀ H1 x, (x = big ∨ (c ≤ x ∧ x < c + many)) → KL [a] H H1 → HandAt H1 a m → Q (.int x) H1) : tOp (rIxL K) (tLst (tCons (tOp (rI0 fun i j => .int (i + j)) (tC (.int c)) (tCall spTake [] E0 (tCons (tVar 0) (tCons (tC (.int many)) tNil)))) (tCons (tC (.int big)) tNil))) (tVar 1) σ H Q := by
  show tCall spTake [] E0 (tCons (tVar 0) (tCons (tC (.int many)) tNil)) σ H fun y H2 => rI0 (fun i j => .int (i + j)) (.int c) y H2 fun x H3 => 2 ≤ sizeLine ∧ ∀ p, H3 p = none → tVar 1 σ (upd H3 p (.lst [x, .int big])) fun z H4 => rIxL K (.ref p) z H4 Q
  refine take_e (or_var h0) (de_int (i := many)) hA hm hm2 fun H1 d d0 d1 k1 hA1 => ⟨c, d, rfl, rfl, by decide, fun p np => ⟨_, h1, ?_⟩⟩
  rcases hg with rfl | rfl
  · exact ⟨p, [.int (c + d), .int big], 0, .int (c + d), rfl, rfl, .of upd_same, rfl, q _ _ (.inr ⟨by omega, by omega⟩) (k1.s (same_new np)) (hA1.same (same_new np))⟩
  · exact ⟨p, [.int (c + d), .int big], 1, .int big, rfl, rfl, .of upd_same, rfl, q _ _ (.inl rfl) (k1.s (same_new np)) (hA1.same (same_new np))⟩
/-- the list at hand: ints | quads -/
theorem there_ne {n h d : Int} (hn : 2 ≤ n) (h0 : 0 ≤ h) (h1 : h < n) (d0 : 0 ≤ d) (d1 : d < n - 1) : 0 ≤ (h + 1 + d) % n ∧ (h + 1 + d) % n < n ∧ h ≠ (h + 1 + d) % n := by
  refine ⟨Int.emod_nonneg _ (by omega), Int.emod_lt_of_pos _ (by omega), ?_⟩
  by_cases hlt : h + 1 + d < n
  · rw [Int.emod_eq_of_lt (by omega) hlt]
    omega
  · have e : (h + 1 + d) % n = h + 1 + d - n := by
      rw [← Int.sub_emod_right, Int.emod_eq_of_lt (by omega) (by omega)]
    rw [e]
    omega
theorem quad_flat (t : Int × Int × Int × Int) : (quadD t).canLay0 = true ∧ (quadD t).depth ≤ 20 := by
  constructor
  · simp [quadD, PyData.canLay0, PyData.canLayAll0]
  · simp [quadD, PyData.depth, PyData.depthAll]
theorem shaped_quads (ts : List (Int × Int × Int × Int)) : SeqAt.shaped (.list (ts.map quadD)) = true :=
  shaped_list (fun d m => by
    obtain ⟨t, _, rfl⟩ := List.mem_map.mp m
    exact (quad_flat t).1) fun d m => by
    obtain ⟨t, _, rfl⟩ := List.mem_map.mp m
    exact (quad_flat t).2
theorem shaped_intsL (ns : List Int) : SeqAt.shaped (.list (ns.map PyData.int)) = true :=
  shaped_list (fun d m => by
    obtain ⟨t, _, rfl⟩ := List.mem_map.mp m
    rfl) fun d m => by
    obtain ⟨t, _, rfl⟩ := List.mem_map.mp m
    exact Nat.zero_le _
theorem sortOk_quads (ts : List (Int × Int × Int × Int)) : SortOk (ts.map quadD) :=
  ⟨.of fun a b => by simp [quadD, PySem.W.alike, PySem.W.alikeAll], .tuples fun b => ⟨_, _, rfl⟩, fun d m => by
    obtain ⟨s, _, rfl⟩ := List.mem_map.mp m
    simp [quadD, PyData.depth, PyData.depthAll]⟩
theorem sortOk_ints (ns : List Int) : SortOk (ns.map PyData.int) :=
  ⟨.of fun a b => rfl, .others fun b => ⟨(by nofun), (by nofun)⟩, fun d m => by
    obtain ⟨s, _, rfl⟩ := List.mem_map.mp m
    exact Nat.zero_le _⟩
theorem si_obj {σ : L2.St} {H : Hp} {te : TE} {l : Addr} {xs : List V} {ds : List PyData} (ho : OR te σ H l) (e : H l = some (.lst xs)) (t : TdAll H xs ds) : SI (iList K te) σ H ds := fun H1 s R r =>
  ho H1 s _ ⟨l, rfl, ⟨xs, .of (s _ _ e)⟩, r _ H1 (Same.refl _) ⟨fun H' => H' l = some (.lst xs) ∧ TK H H', by
    have hw := list_walk (K := K) (a := l) (en := fun d => d) (as := ds) (by rw [List.map_id']; exact t)
    rw [List.map_id'] at hw
    exact hw, fun H' s' => ⟨s' _ _ (s _ _ e), .same (s.trans s')⟩⟩⟩
theorem de_lenO {σ : L2.St} {H : Hp} {te : TE} {l : Addr} {xs : List V} (ho : OR te σ H l) (e : H l = some (.lst xs)) : DE (tCB (rLenT K) (tCons te tNil)) σ H (.int xs.length) := fun H1 k Q q =>
  ho H1 k _ ⟨l, xs, rfl, .inl (.of (k _ _ e)), q _ _ (Same.refl _) (.int _)⟩
theorem q_N {σ : L2.St} {H : Hp} {tu tz : TS} {D : Ends} (h : ∀ N : L2.St → Hp → Prop, (∀ σ' H', tz D σ' H' → N σ' H') → tu { D with nx := N } σ H) : tSeq tu tz D σ H := h _ fun _ _ z => z
theorem HandAt.put {H : Hp} {a l : Addr} {o : HO} {m : Nat} (h : HandAt H a m) (n : a ≠ l) : HandAt (upd H l o) a m := by
  obtain ⟨o', sd, cn, eh, r⟩ := h
  exact ⟨o', sd, cn, by rw [upd_ne n]; exact eh, r⟩
theorem KL.fresh2 {H H' : Hp} {a l : Addr} {o : HO} (k : KL [a] H H') (n : H l = none) : KL [a] H (upd H' l o) := fun b u nb e => by
  rw [upd_ne (ne_of_none e n)]
  exact k b u nb e
theorem KL.fresh2' {H H1 H' : Hp} {a l : Addr} (k : KL [a] H H1) (k2 : KL [a, l] H1 H') (n : H l = none) : KL [a] H H' := fun b u nb e => k2 b u (by
  simp only [List.mem_cons, List.not_mem_nil, or_false] at nb ⊢
  intro z
  rcases z with z | z
  · exact nb z
  · rw [z, n] at e
    cases e) (k b u nb e)
theorem quad_shape (t : Int × Int × Int × Int) : SeqAt.shaped (quadD t) = true := rfl
theorem HandAt.nn {H : Hp} {a l : Addr} {m : Nat} (h : HandAt H a m) (n : H l = none) : l ≠ a := fun z => by
  obtain ⟨_, _, _, e, _⟩ := h
  rw [z, e] at n
  cases n
def rackFits (n : Int) (nr : Nat) (r : Rack) : Prop := 0 ≤ r.1 ∧ r.1 < n ∧ 0 ≤ r.2.1 ∧ r.2.1 < n ∧ r.1 ≠ r.2.1 ∧ 0 ≤ r.2.2.1 ∧ r.2.2.1.toNat < nr
theorem cal_plan (T : Txt K mg) : Cal P w K mg base "_law_plan" 3 p_L_plan spPlan := by
  refine cal_of T.L_plan sc_L_plan (fun _ _ _ _ _ _ us hl => match us, hl with | [_], _ => rfl) (fun vs H Q E ⟨a, m, e, _⟩ => by rw [e]; rfl) fun f cdv A outer s H vs Q E hr h => ?_
  obtain ⟨a, m, rfl, hA, q⟩ := h
  have C1 : Cal P w K mg base "_law_take" 1 p_L_take spTake := cal_take T
  have hr1 := hr.mono (show 1 ≤ 2 by decide)
  refine ⟨_, PSs.nox (pss_cons (ps_asg (pe_tup (pa_cons (pe_callTy call_int1 rfl T.int PySem.Pv.boot_int (pa_cons (pe_cmpR op_eq (pe_cal C1 hr1 rfl (pa_cons (pv 0) (pa_cons pe_int pa_nil))) pe_int (nomark _)) pa_nil)) (pa_cons (pe_cal C1 hr1 rfl (pa_cons (pv 0) (pa_cons pe_int pa_nil))) pa_nil))) (pgt K 2 (pgs_cons (pg_name (i := 1) sc_L_plan.nd rfl (.inl rfl)) (pgs_cons (pg_name (i := 2) sc_L_plan.nd rfl (.inr rfl)) pgs_nil))))
    (pss_cons (ps_set (i := 3) sc_L_plan.nd rfl (.inl rfl) (pixL K (pe_lst (pa_cons (pe_op op_add pe_int (pe_cal C1 hr1 rfl (pa_cons (pv 0) (pa_cons pe_int pa_nil)))) (pa_cons pe_int pa_nil))) (pv 1)))
    (pss_cons (ps_setLc (i := 4) rfl sc_L_plan.nd rfl rfl (sw_true rfl rfl rfl rfl) (pi_range1 rfl T.range (pa_cons (pe_op op_sub (pv 3) pe_int) pa_nil)) (own := [("_law_k", 13)]) (blkOk_by (N := n_L_plan) (sc := defScope s_L_plan) (by decide +kernel))
      (fun _ _ _ _ _ => pg_name (i := 13) sc_L_plan.nd rfl (.inl rfl)) (fun _ _ _ _ _ => pts_nil) (fun _ _ _ _ _ => pe_tup (pa_cons (pv 13) (pa_cons (pe_op op_add (pv 13) pe_int) (pa_cons (pe_cal C1 hr1 rfl (pa_cons (pv 0) (pa_cons pe_int pa_nil))) (pa_cons (pe_op op_add pe_int (pe_cal C1 hr1 rfl (pa_cons (pv 0) (pa_cons (pixL K (pe_lst (pa_cons pe_int (pa_cons pe_int (pa_cons pe_int pa_nil)))) (pv 2)) pa_nil)))) pa_nil))))))
    (pss_cons (ps_if (PW.pt (pw_and (pt_cmpR op_gt (pv 3) pe_int (nomark _)) (pw_and1 (pt_cmpR op_eq (pe_cal C1 hr1 rfl (pa_cons (pv 0) (pa_cons pe_int pa_nil))) pe_int (nomark _))))) (pss_one (ps_expr (papp (pv 4) (pa_cons (pe_tup (pa_cons pe_int (pa_cons (pe_op op_sub (pv 3) pe_int) (pa_cons (pe_cal C1 hr1 rfl (pa_cons (pv 0) (pa_cons pe_int pa_nil))) (pa_cons (pe_op op_add pe_int (pe_cal C1 hr1 rfl (pa_cons (pv 0) (pa_cons pe_int pa_nil)))) pa_nil))))) pa_nil)))) pss_nil)
    (pss_cons (ps_par (i := 5) (j := 6) rfl sc_L_plan.nd rfl rfl (by decide) rfl rfl (pa_cons (pe_lst pa_nil) (pa_cons (pe_lst pa_nil) pa_nil)) (by kernel_rfl))
    (pss_cons (ps_for PassesOwn.never rfl (pi_range1 rfl T.range (pa_cons (pe_op op_add pe_int (pe_cal C1 hr1 rfl (pa_cons (pv 0) (pa_cons pe_int pa_nil)))) pa_nil)) (pg_name (i := 7) sc_L_plan.nd rfl (.inl rfl))
      (pss_cons (ps_set (i := 8) sc_L_plan.nd rfl (.inl rfl) (pe_op op_add pe_int (pe_cal C1 hr1 rfl (pa_cons (pv 0) (pa_cons (pixL K (pe_lst (pa_cons pe_int (pa_cons pe_int (pa_cons pe_int pa_nil)))) (pv 2)) pa_nil)))))
        (pss_one (ps_if (pt_cmpR (oNotInD K (hu65 hr)) (pv 8) (pv 5) rfl) (pss_one (ps_expr (papp (pv 5) (pa_cons (pv 8) pa_nil)))) pss_nil))))
    (pss_cons (ps_for PassesOwn.never rfl (pi_range1 rfl T.range (pa_cons (pixL K (pe_lst (pa_cons (pe_op op_add pe_int (pe_cal C1 hr1 rfl (pa_cons (pv 0) (pa_cons pe_int pa_nil)))) (pa_cons pe_int pa_nil))) (pv 1)) pa_nil)) (pg_name (i := 7) sc_L_plan.nd rfl (.inl rfl))
      (pss_cons (ps_set (i := 9) sc_L_plan.nd rfl (.inr rfl) (pe_cal C1 hr1 rfl (pa_cons (pv 0) (pa_cons (pv 3) pa_nil))))
        (pss_cons (ps_set (i := 10) sc_L_plan.nd rfl (.inl rfl) (pe_op op_mod (pe_op op_add (pe_op op_add (pv 9) pe_int) (pe_cal C1 hr1 rfl (pa_cons (pv 0) (pa_cons (pe_op op_sub (pv 3) pe_int) pa_nil)))) (pv 3)))
        (pss_cons (ps_set (i := 11) sc_L_plan.nd rfl (.inl rfl) (pe_tup (pa_cons (pv 9) (pa_cons (pv 10) (pa_cons (pe_cal C1 hr1 rfl (pa_cons (pv 0) (pa_cons (pe_callB (clLen K) rfl T.len boot_len (pa_cons (pv 5) pa_nil)) pa_nil))) (pa_cons (pe_cal C1 hr1 rfl (pa_cons (pv 0) (pa_cons pe_int pa_nil))) pa_nil))))))
        (pss_one (ps_if (PW.pt (pw_and (pt_cmpR (oNotInD K (hu65 hr)) (pv 11) (pv 6) rfl) (pw_and (pt_cmpR op_lt (pe_callB (clLen K) rfl T.len boot_len (pa_cons (pv 6) pa_nil)) pe_int (nomark _)) (pw_and1 (pt_cmpR op_lt (pe_callB (clLen K) rfl T.len boot_len (pa_cons (pe_lc rfl sc_L_plan.nd (pi_list (pv 6)) (own := [("_law_one", 14)]) (blkOk_by (N := n_L_plan) (sc := defScope s_L_plan) (by decide +kernel))
            (fun _ _ _ _ _ => pg_name (i := 14) sc_L_plan.nd rfl (.inl rfl)) (fun _ _ _ _ _ => pts_one (pt_cmpR op_eq (pix K (pv 14) pe_int) (pv 9) (nomark _))) (fun _ _ _ _ _ => pv 14)) pa_nil)) pe_int (nomark _))))))
          (pss_one (ps_expr (papp (pv 6) (pa_cons (pv 11) pa_nil)))) pss_nil))))))
    (pss_cons (ps_set (i := 12) sc_L_plan.nd rfl (.inl rfl) (pixL K (pe_lst (pa_cons (pe_op op_add pe_int (pe_cal C1 hr1 rfl (pa_cons (pv 0) (pa_cons pe_int pa_nil)))) (pa_cons pe_int pa_nil))) (pv 1)))
    (pss_one (ps_ret (pe_tup (pa_cons (pe_tup (pa_cons (pv 3) (pa_cons (pe_tupleOf rfl T.tuple (pe_callB (crSorted K (hu64 hr)) rfl T.sorted boot_sorted (pa_cons (pv 4) pa_nil))) pa_nil))) (pa_cons (pe_tupleOf rfl T.tuple (pe_callB (crSorted K (hu64 hr)) rfl T.sorted boot_sorted (pa_cons (pv 5) pa_nil))) (pa_cons (pe_tupleOf rfl T.tuple (pe_callB (crSorted K (hu64 hr)) rfl T.sorted boot_sorted (pa_cons (pv 6) pa_nil))) (pa_cons (pv 12) pa_nil))))))))))))))), ?_⟩
  -- great, short
  refine q_seq (r_asg ?_)
  refine take_e (or_var (i := 0) rfl) (de_int (i := 8)) (m := m + 199) hA (by decide) (by decide) fun Ha d0 _ _ ka hAa => ⟨rfl, .inr ⟨_, rfl, take_e (or_var (i := 0) rfl) (de_int (i := 3)) (m := m + 198) hAa (by decide) (by decide) fun Hb sh sh0 sh1 kb hAb => ⟨by show 2 ≤ sizeLine; decide, fun tp ntp => ?_⟩⟩⟩
  obtain ⟨gr, hgr, egr⟩ : ∃ g : Int, (g = 0 ∨ g = 1) ∧ (if decide (V.int d0 = V.int 0) = true then (1 : Int) else 0) = g := by
    by_cases h : decide (V.int d0 = V.int 0) = true
    · exact ⟨1, .inr rfl, if_pos h⟩
    · exact ⟨0, .inl rfl, if_neg h⟩
  rw [egr]
  have kc : KL [a] H (upd Hb tp (.tup [.int gr, .int sh])) := (ka.trans kb).s (same_new ntp)
  have hAc : HandAt (upd Hb tp (.tup [.int gr, .int sh])) a (m + 198) := hAb.same (same_new ntp)
  refine g_pair (d1 := .int gr) (d2 := .int sh) (.tup upd_same (.cons (.int gr) (.cons (.int sh) .nil))) fun w1 w2 tw1 tw2 => ?_
  rw [tw1.int_, tw2.int_]
  generalize upd Hb tp (.tup [.int gr, .int sh]) = H1 at kc hAc
  -- n
  refine q_asgN fun Q3 q3 => pick_e (m := m + 197) rfl rfl hgr hAc (by decide) (by decide) fun H2 n hn k2 hA2 => q3 _ _ ?_
  have hn' : 2 ≤ n ∧ n ≤ 8 := by omega
  replace kc := kc.trans k2
  clear hAc k2 hn q3 Q3 hAb hAa ka kb tw1 tw2 egr
  -- ties
  refine q_asgN fun Q4 q4 => ?_
  refine ⟨.int n, rfl, n, 1, rfl, rfl, n - 1, rfl, by omega, by omega, ?_⟩
  have hlen1 : (List.range (n - 1).toNat).length ≤ 7 := by
    rw [List.length_range]
    omega
  refine lc_hand (a := a) (en := fun i : Nat => PyData.int (i : Int)) (eb := quadD) (as := List.range (n - 1).toNat) (c := 2) (m := m + 183) (range_walk (H := H2)) (fun _ _ => trivial) (hA2.le (by omega)) (fun (e : Nat) (t : Tie) => t.1 = (e : Int) ∧ t.2.1 = (e : Int) + 1) (big_ (by omega)) ?_ (fun e _ v H3 r k3 tv hA3 Q' q' => ?_) fun tl xs bs H3 ntl k3 hA3 etl ttl hbl hbp => q4 _ _ ?_
  · exact fun _ => rfl
  · rw [tv.int_]
    refine ⟨.int (e : Int), rfl, .int (e : Int), rfl, (e : Int), 1, rfl, rfl, take_e (or_var (i := 0) rfl) (de_int (i := 5)) (m := r + 1) hA3 (by decide) (by decide) fun H4 d _ _ k4 hA4 => ?_⟩
    obtain ⟨x, hx, dx⟩ := de_pick3 (K := K) (x := 30) (y := 3) (z := 30) (tb := tVar 2) (σ := [some (.ref a), some (.int gr), some (.int sh), some (.int n), none, none, none, none, none, none, none, none, none, some (.int (e : Int)), none]) (H := H4) (de_var (i := 2) rfl (.int sh)) sh0 sh1
    refine take_e (or_var (i := 0) rfl) dx (m := r) hA4 (by omega) (by omega) fun H5 z _ _ k5 hA5 => ?_
    refine ⟨1, z, rfl, rfl, by show 4 ≤ sizeLine; decide, fun p np => ?_⟩
    exact q' _ ((e : Int), (e : Int) + 1, d, 1 + z) _ ((k4.trans k5).s (same_new np)) (hA5.same (same_new np)) (.tup upd_same (.cons (.int _) (.cons (.int _) (.cons (.int _) (.cons (.int _) .nil))))) ⟨rfl, rfl⟩
  have ntla := hA2.nn ntl
  have kd := kc.trans k3
  have hchain : ∀ k : Nat, (k : Int) + 1 < n → ∃ t ∈ bs, t.1 = (k : Int) ∧ t.2.1 = (k : Int) + 1 := fun k hk => by
    have hkl : k < bs.length := by
      rw [hbl, List.length_range]
      omega
    obtain ⟨e, he, h1, h2⟩ := hbp k bs[k] (List.getElem?_eq_getElem hkl)
    rw [List.getElem?_range (by omega)] at he
    cases he
    exact ⟨_, List.getElem_mem hkl, h1, h2⟩
  have hbl' : bs.length ≤ 7 := by omega
  have ntl0 : H tl = none := by
    cases h : H tl with
    | none => rfl
    | some o =>
      have := kc.ne h ntla
      rw [ntl] at this
      cases this
  clear hbp hbl q4 Q4 hA2 ntl k3 kc hlen1
  -- the ring's tie
  refine q_N fun N4 hN4 => ?_
  suffices key : ∀ H4 (xs : List V) (bs : List Tie), KL [a] H H4 → HandAt H4 a (m + 180) → H4 tl = some (.lst xs) → TdAll H4 xs (bs.map quadD) → bs.length ≤ 8 → (∀ k : Nat, (k : Int) + 1 < n → ∃ t ∈ bs, t.1 = (k : Int) ∧ t.2.1 = (k : Int) + 1) → N4 [some (.ref a), some (.int gr), some (.int sh), some (.int n), some (.ref tl), none, none, none, none, none, none, none, none, none, none] H4 by
    refine s_ifT (t_and ?_)
    refine r_test (r_op ⟨.int n, rfl, n, 2, rfl, rfl, _, rfl, ?_⟩)
    have dflt : ∀ H4, KL [a] H3 H4 → HandAt H4 a (m + 180) → N4 [some (.ref a), some (.int gr), some (.int sh), some (.int n), some (.ref tl), none, none, none, none, none, none, none, none, none, none] H4 := fun H4 k4 hA4 => key H4 xs bs (kd.trans k4) hA4 (k4.ne etl ntla) (ttl.mono (k4.tk1 hA3)) (by omega) hchain
    by_cases h2 : decide (2 < n) = true
    · refine yes_ h2 (r_test (r_op ?_))
      refine take_e (or_var (i := 0) rfl) (de_int (i := 2)) (m := m + 182) hA3 (by decide) (by decide) fun H4 d _ _ k4 hA4 => ⟨rfl, _, rfl, ?_⟩
      by_cases hd : decide (V.int d = V.int 0) = true
      · refine yes_ hd ?_
        have e4 := k4.ne etl ntla
        refine app_hand (l := tl) (acc := xs) rfl e4 fun RR hRR => ?_
        refine ⟨.int n, rfl, n, 1, rfl, rfl, take_e (or_var (i := 0) rfl) (de_int (i := 5)) (m := m + 181) hA4 (by decide) (by decide) fun H5 d5 _ _ k5 hA5 => ?_⟩
        refine take_e (or_var (i := 0) rfl) (de_int (i := 30)) (m := m + 180) hA5 (by decide) (by decide) fun H6 z _ _ k6 hA6 => ⟨1, z, rfl, rfl, by show 4 ≤ sizeLine; decide, fun p np => ?_⟩
        have k46 := (k5.trans k6).s (same_new (o := .tup [.int 0, .int (n - 1), .int d5, .int (1 + z)]) np)
        have hlx := ttl.length
        rw [List.length_map] at hlx
        have e7 := k46.ne e4 ntla
        refine hRR _ _ e7 (big_ (by omega)) (key _ _ (bs ++ [(0, n - 1, d5, 1 + z)]) (((kd.trans k4).trans k46).fresh2 ntl0) ((hA6.same (same_new np)).put ntla.symm) upd_same ?_ (by simp; omega) fun k hk => ?_)
        · rw [List.map_append]
          have m7 : TK H3 (upd H6 p (.tup [.int 0, .int (n - 1), .int d5, .int (1 + z)])) := ((k4.tk1 hA3).trans (k46.tk1 hA4))
          exact ((ttl.mono m7).snoc (.tup upd_same (.cons (.int _) (.cons (.int _) (.cons (.int _) (.cons (.int _) .nil)))))).mono (.put e7 fun _ z => by cases z)
        · obtain ⟨t, mt, e⟩ := hchain k hk
          exact ⟨t, List.mem_append_left _ mt, e⟩
      · exact no_ (Bool.eq_false_iff.mpr hd) (dflt H4 k4 (hA4.le (by omega)))
    · exact no_ (Bool.eq_false_iff.mpr h2) (no_ rfl (dflt H3 .refl (hA3.le (by omega))))
  clear hchain hbl' ttl etl hA3 kd
  intro H4 xs bs kd hA4 etl ttl hbl hchain
  refine hN4 _ _ ?_
  have ntla : tl ≠ a := ntla
  -- rates, stock
  refine q_seq ⟨by decide, fun rl nrl => ⟨by decide, fun sl nsl => ⟨_, _, rfl, ?_⟩⟩⟩
  have nrla := hA4.nn nrl
  have nrt : rl ≠ tl := fun z => by
    rw [z, etl] at nrl
    cases nrl
  have hA5 : HandAt (upd H4 rl (.lst [])) a (m + 180) := hA4.same (same_new nrl)
  have nsla := hA5.nn nsl
  have erl5 : (upd H4 rl (.lst [])) rl = some (.lst []) := upd_same
  have nsr : sl ≠ rl := fun z => by
    rw [z, erl5] at nsl
    cases nsl
  have etl5 : (upd H4 rl (.lst [])) tl = some (.lst xs) := same_new nrl _ _ etl
  have nst : sl ≠ tl := fun z => by
    rw [z, etl5] at nsl
    cases nsl
  have s46 : Same H4 (upd (upd H4 rl (.lst [])) sl (.lst [])) := (same_new nrl).trans (same_new nsl)
  have hA6 := hA4.same s46
  have erl6 : (upd (upd H4 rl (.lst [])) sl (.lst [])) rl = some (.lst []) := same_new nsl _ _ erl5
  have esl6 : (upd (upd H4 rl (.lst [])) sl (.lst [])) sl = some (.lst []) := upd_same
  have etl6 := s46 _ _ etl
  have ttl6 := ttl.mono (.same s46)
  have free0 : ∀ {l : Addr}, l ≠ a → H4 l = none → H l = none := fun {l} nl h => by
    cases e : H l with
    | none => rfl
    | some o =>
      rw [kd.ne e nl] at h
      cases h
  have nrl0 := free0 nrla nrl
  have nsl0 := free0 nsla ((same_new (o := .lst []) nrl).free nsl)
  have kd6 := kd.s s46
  refine (?_ : tSeq _ _ _ _ (upd (upd H4 rl (.lst [])) sl (.lst [])))
  generalize upd (upd H4 rl (.lst [])) sl (.lst []) = H6 at s46 hA6 erl6 esl6 etl6 ttl6 kd6
  clear hA5 erl5 etl5 nsl nrl free0 s46 hA4 etl ttl kd
  -- for turn in range(1 + take(hand, 3))
  refine q_seq ?_
  refine take_e (or_var (i := 0) rfl) (de_int (i := 3)) (m := m + 179) hA6 (by decide) (by decide) fun H7 c3 c30 c31 k7 hA7 => ⟨1, c3, rfl, rfl, 1 + c3, rfl, by omega, by omega, ?_⟩
  have hcl : (List.range (1 + c3).toNat).length ≤ 3 ∧ 0 < (List.range (1 + c3).toNat).length := by
    rw [List.length_range]
    omega
  have erl7 := k7.ne erl6 nrla
  have nt7 : ∀ b ∈ [a, rl], NT H7 b := fun b mm => by
    simp only [List.mem_cons, List.not_mem_nil, or_false] at mm
    rcases mm with rfl | rfl
    · exact hA7.nt
    · exact .lst erl7
  refine for_walk (L := [a, rl]) (H2 := H7) (as := List.range (1 + c3).toNat) (en := fun i : Nat => PyData.int (i : Int)) (range_walk (H := H7)) nt7 (fun _ _ => trivial)
    (fun i σ' H' => ∃ a7 a8 acc ns, σ' = [some (.ref a), some (.int gr), some (.int sh), some (.int n), some (.ref tl), some (.ref rl), some (.ref sl), a7, a8, none, none, none, none, none, none] ∧ H' rl = some (.lst acc) ∧ TdAll H' acc (ns.map PyData.int) ∧ ns.length ≤ i ∧ (0 < i → 0 < ns.length) ∧ (∀ x ∈ ns, 1 ≤ x ∧ x ≤ 20) ∧ HandAt H' a (m + 170 + (3 - i)))
    ⟨none, none, [], [], rfl, erl7, .nil, Nat.le_refl _, (fun h => absurd h (Nat.lt_irrefl 0)), (fun x h => by cases h), hA7.le (by omega)⟩ ?_ ?_
  · rintro i t x σ' H0 H' k kT hd td ⟨a7, a8, acc, ns, rfl, ea, ta, z, _, hns, hAi⟩ s0
    have hi := at_lt hd
    refine gn ?_
    have hA' : HandAt H' a ((m + 170 + (3 - (i + 1))) + 1) := (hAi.same s0).le (by omega)
    obtain ⟨x3, hx3, dx⟩ := de_pick3 (K := K) (x := 20) (y := 20) (z := 3) (tb := tVar 2) (σ := [some (.ref a), some (.int gr), some (.int sh), some (.int n), some (.ref tl), some (.ref rl), some (.ref sl), some x, a8, none, none, none, none, none, none]) (H := H') (de_var (i := 2) rfl (.int sh)) sh0 sh1
    refine q_asgN fun Qr hqr => ?_
    refine take_e (or_var (i := 0) rfl) dx (m := m + 170 + (3 - (i + 1))) hA' (by omega) (by omega) fun H8 r r0 r1 k8 hA8 => ⟨1, r, rfl, rfl, hqr _ _ ?_⟩
    have ea8 := k8.ne (s0 _ _ ea) nrla
    have ta8 := (ta.mono (.same s0)).mono (k8.tk1 hA')
    have k78 : KL [a, rl] H7 H8 := (k.s s0).trans (k8.more (by simp))
    refine s_when (dt_test (de_notInO (K := K) (de_var (d := .int (1 + r)) (i := 8) rfl (.int _)) (or_var (i := 5) rfl) ea8 ta8 rfl (shaped_intsL ns))) (fun hb H9 s9 => ?_) (fun hb H9 s9 => ?_)
    · have e9 := s9 _ _ ea8
      have hl := ta8.length
      rw [List.length_map] at hl
      refine s_app e9 (or_var rfl) (de_var (d := .int (1 + r)) (i := 8) rfl (.int _)) (big_ (by omega)) fun y HA sA tA => ?_
      refine ⟨((k78.s s9).s sA).trans (.put (by simp)), some x, some (.int (1 + r)), acc ++ [y], ns ++ [1 + r], rfl, upd_same, ?_, ?_, ?_, ?_, ((hA8.same (s9.trans sA)).put nrla.symm)⟩
      · rw [List.map_append]
        exact ((ta8.mono (.same (s9.trans sA))).snoc tA).mono (.put (sA _ _ e9) fun _ z => by cases z)
      · rw [List.length_append]
        exact Nat.add_le_add_right z 1
      · intro _
        simp
      · intro w hw
        rcases List.mem_append.mp hw with hw | hw
        · exact hns w hw
        · rw [List.mem_singleton.mp hw]
          omega
    · refine ⟨k78.s s9, some x, some (.int (1 + r)), acc, ns, rfl, s9 _ _ ea8, ta8.mono (.same s9), by omega, fun _ => ?_, hns, hA8.same s9⟩
      cases ns with
      | nil => cases hb
      | cons _ _ => exact Nat.succ_pos _
  · rintro σ' H8 k8 ⟨a7, a8, acc, ns, rfl, ea, ta, z, hpos, hns, hA8⟩
    have hns0 := hpos hcl.2
    have hns3 : ns.length ≤ 3 := Nat.le_trans z hcl.1
    replace hA8 : HandAt H8 a (m + 170) := hA8.le (by omega)
    have kd8 : KL [a] H H8 := KL.fresh2' (kd6.trans k7) k8 nrl0
    have k68 : KL [a, rl] H6 H8 := (k7.more (by simp)).trans k8
    have esl8 : H8 sl = some (.lst []) := k68 _ _ (by simp [nsla, nsr]) esl6
    have etl8 : H8 tl = some (.lst xs) := k68 _ _ (by simp [ntla, nrt.symm]) etl6
    have ttl8 := ttl6.mono ((k7.tk1 hA6).trans (k8.tk nt7))
    clear hpos k68 k8 z nt7 erl7 hA7 k7 hcl hA6 erl6 esl6 etl6 ttl6 kd6
    -- for turn in range([1 + take(hand, 6), 20][great])
    dsimp only
    refine q_seq ?_
    refine pick_e (m := m + 169) rfl rfl hgr hA8 (by decide) (by decide) fun H9 cn hcn k9 hA9 => ⟨cn, rfl, by omega, by omega, ?_⟩
    have hcl : (List.range cn.toNat).length ≤ 20 ∧ 0 < (List.range cn.toNat).length := by
      rw [List.length_range]
      omega
    have esl9 := k9.ne esl8 nsla
    have ea9 := k9.ne ea nrla
    have ta9 := ta.mono (k9.tk1 hA8)
    have nt9 : ∀ b ∈ [a, sl], NT H9 b := fun b mm => by
      simp only [List.mem_cons, List.not_mem_nil, or_false] at mm
      rcases mm with rfl | rfl
      · exact hA9.nt
      · exact .lst esl9
    refine for_walk (L := [a, sl]) (H2 := H9) (as := List.range cn.toNat) (en := fun i : Nat => PyData.int (i : Int)) (range_walk (H := H9)) nt9 (fun _ _ => trivial)
      (fun i σ' H' => ∃ a7 a9 a10 a11 bcc rs, σ' = [some (.ref a), some (.int gr), some (.int sh), some (.int n), some (.ref tl), some (.ref rl), some (.ref sl), a7, a8, a9, a10, a11, none, none, none] ∧ H' sl = some (.lst bcc) ∧ TdAll H' bcc (rs.map quadD) ∧ rs.length ≤ 12 ∧ (0 < i → 0 < rs.length) ∧ (∀ r ∈ rs, rackFits n ns.length r) ∧ HandAt H' a (m + 20 + 4 * (20 - i)))
      ⟨a7, none, none, none, [], [], rfl, esl9, .nil, Nat.zero_le _, (fun h => absurd h (Nat.lt_irrefl 0)), (fun x h => by cases h), hA9.le (by omega)⟩ ?_ ?_
    · rintro i t x σ' H0 H' k kT hd td ⟨b7, b9, b10, b11, bcc, rs, rfl, eb, tb, z, _, hrs, hAi⟩ s0
      have hi := at_lt hd
      refine gn ?_
      have hA' : HandAt H' a ((m + 20 + 4 * (20 - (i + 1))) + 4) := (hAi.same s0).le (by omega)
      have eb' := s0 _ _ eb
      have tb' := tb.mono (.same s0)
      have ea' : H' rl = some (.lst acc) := s0 _ _ (k _ _ (by simp [nrla, nsr.symm]) ea9)
      have dn : ∀ {σ : L2.St} {H : Hp}, σ[3]? = some (some (.int n)) → DE (tVar 3) σ H (.int n) := fun h => de_var h (.int n)
      refine q_asgN fun Q1 h1 => take_e (or_var (i := 0) rfl) (dn rfl) (m := (m + 20 + 4 * (20 - (i + 1))) + 3) hA' (by omega) (by omega) fun HA he he0 he1 kA hAA => h1 _ _ ?_
      refine q_asgN fun Q2 h2 => ?_
      refine ⟨.int he, rfl, he, 1, rfl, rfl, take_e (or_var (i := 0) rfl) (de_I0 (c := .int (n - 1)) (dn rfl) (de_int (i := 1))) (m := (m + 20 + 4 * (20 - (i + 1))) + 2) hAA (by omega) (by omega) fun HB d d0 d1 kB hAB => ⟨he + 1, d, rfl, rfl, .int n, rfl, _, n, rfl, rfl, by show (0 : Int) < n; omega, h2 _ _ ?_⟩⟩
      have hth := there_ne hn'.1 he0 he1 d0 d1
      dsimp only
      generalize (he + 1 + d) % n = th at hth
      refine q_asgN fun Q3 h3 => ?_
      have eaB := kB.ne (kA.ne ea' nrla) nrla
      refine ⟨.int he, rfl, .int th, rfl, take_e (or_var (i := 0) rfl) (de_lenO (K := K) (or_var (i := 5) rfl) eaB) (m := (m + 20 + 4 * (20 - (i + 1))) + 1) hAB ?_ ?_ fun HC rk rk0 rk1 kC hAC => take_e (or_var (i := 0) rfl) (de_int (i := 2)) (m := m + 20 + 4 * (20 - (i + 1))) hAC (by decide) (by decide) fun HD hf hf0 hf1 kD hAD => ⟨by show 4 ≤ sizeLine; decide, fun p np => h3 _ _ ?_⟩⟩
      · have hl := ta9.length
        rw [List.length_map] at hl
        omega
      · have hl := ta9.length
        rw [List.length_map] at hl
        omega
      have hl9 := ta9.length
      rw [List.length_map] at hl9
      have kAD : KL [a] H' (upd HD p (.tup [.int he, .int th, .int rk, .int hf])) := (((kA.trans kB).trans kC).trans kD).s (same_new np)
      have mAD : TK H' (upd HD p (.tup [.int he, .int th, .int rk, .int hf])) := kAD.tk1 hA'
      have tp : Td (upd HD p (.tup [.int he, .int th, .int rk, .int hf])) (.ref p) (quadD (he, th, rk, hf)) := .tup upd_same (.cons (.int _) (.cons (.int _) (.cons (.int _) (.cons (.int _) .nil))))
      have hAE : HandAt (upd HD p (.tup [.int he, .int th, .int rk, .int hf])) a (m + 20 + 4 * (20 - (i + 1))) := hAD.same (same_new np)
      refine (?_ : tIfS _ _ _ _ _ (upd HD p (.tup [.int he, .int th, .int rk, .int hf])))
      generalize upd HD p (.tup [.int he, .int th, .int rk, .int hf]) = HE at kAD mAD tp hAE
      have ebE := kAD.ne eb' nsla
      have tbE := tb'.mono mAD
      have hlb := tbE.length
      rw [List.length_map] at hlb
      have kE : KL [a, sl] H9 HE := (k.s s0).trans (kAD.more (by simp))
      have d11 : ∀ {H : Hp}, Same HE H → DE (tVar 11) [some (.ref a), some (.int gr), some (.int sh), some (.int n), some (.ref tl), some (.ref rl), some (.ref sl), some x, a8, some (.int he), some (.int th), some (.ref p), none, none, none] H (quadD (he, th, rk, hf)) := fun s => de_var (i := 11) rfl (tp.mono (.same s))
      have fits : rackFits n ns.length (he, th, rk, hf) := ⟨he0, he1, hth.1, hth.2.1, hth.2.2, rk0, by show rk.toNat < _; omega⟩
      have comp : DL (tLc (iList K (tVar 6)) (gName 14) (tTest (tOp rEq (tOp (rIxT K) (tVar 14) (tC (.int 0))) (tVar 9))) (tVar 14) [14]) [some (.ref a), some (.int gr), some (.int sh), some (.int n), some (.ref tl), some (.ref rl), some (.ref sl), some x, a8, some (.int he), some (.int th), some (.ref p), none, none, none] HE ((rs.filter fun r => decide (r.1 = he)).map quadD) :=
        dl_lcS (as := rs) (en := quadD) (fun r => decide (r.1 = he)) quadD (si_obj (K := K) (or_var (i := 6) rfl) ebE tbE) (big_ (by omega)) fun r hr v H1 k1 tv Q' q' => gn (q' _ rfl (dt_test (de_eqI (de_ix (K := K) (de_var (d := quadD r) (i := 14) rfl tv) (de_int (i := ((0 : Nat) : Int))) (d := .int r.1) rfl) (de_var (d := .int he) (i := 9) rfl (.int _)))) fun _ => de_var (i := 14) rfl tv)
      refine s_when (dt_and (dt_test (de_notInO (K := K) (d11 (Same.refl _)) (or_var (i := 6) rfl) ebE tbE (quad_shape _) (shaped_quads rs))) fun _ => dt_and (dt_test (de_I0 (c := .bool (decide ((bcc.length : Int) < 12))) (de_lenO (K := K) (or_var (i := 6) rfl) ebE) (de_int (i := 12)))) fun _ => dt_test (de_I0 (c := .bool (decide ((((rs.filter fun r => decide (r.1 = he)).map quadD).length : Int) < 5))) (de_lenL (K := K) comp) (de_int (i := 5)))) (fun hb HF sF => ?_) (fun hb HF sF => ?_)
      · have eF := sF _ _ ebE
        have hb2 : (bcc.length : Int) < 12 := by
          rw [Bool.and_eq_true, Bool.and_eq_true] at hb
          exact of_decide_eq_true hb.2.1
        refine s_app eF (or_var rfl) (d11 sF) (big_ (by omega)) fun y HG sG tG => ?_
        refine ⟨((kE.s sF).s sG).trans (.put (by simp)), some x, some (.int he), some (.int th), some (.ref p), bcc ++ [y], rs ++ [(he, th, rk, hf)], rfl, upd_same, ?_, by simp; omega, (fun _ => by simp), fun r hr => ?_, (hAE.same (sF.trans sG)).put nsla.symm⟩
        · rw [List.map_append]
          exact ((tbE.mono (.same (sF.trans sG))).snoc tG).mono (.put (sG _ _ eF) fun _ z => by cases z)
        · rcases List.mem_append.mp hr with hr | hr
          · exact hrs r hr
          · rw [List.mem_singleton.mp hr]
            exact fits
      · refine ⟨kE.s sF, some x, some (.int he), some (.int th), some (.ref p), bcc, rs, rfl, sF _ _ ebE, tbE.mono (.same sF), z, fun _ => ?_, hrs, hAE.same sF⟩
        cases rs with
        | nil =>
          have : bcc.length = 0 := hlb
          rw [this] at hb
          cases hb
        | cons _ _ => exact Nat.succ_pos _
    · rintro σ' HA kA ⟨b7, b9, b10, b11, bcc, rs, rfl, eb, tb, z, hpos, hrs, hAA⟩
      have hrs0 := hpos hcl.2
      replace hAA : HandAt HA a (m + 20) := hAA.le (by omega)
      have kdA : KL [a] H HA := KL.fresh2' (kd8.trans k9) kA nsl0
      have eaA : HA rl = some (.lst acc) := kA _ _ (by simp [nrla, nsr.symm]) ea9
      have etlA : HA tl = some (.lst xs) := kA _ _ (by simp [ntla, nst.symm]) (k9.ne etl8 ntla)
      have mA : TK H9 HA := kA.tk nt9
      have taA := ta9.mono mA
      have ttlA := ttl8.mono ((k9.tk1 hA8).trans mA)
      dsimp only
      -- days, the plan
      refine q_asgN fun Qd hqd => pick_e (m := m + 19) rfl rfl hgr hAA (by decide) (by decide) fun HB dy hdy kB hAB => hqd _ _ ?_
      have mB := kB.tk1 hAA
      have eaB := kB.ne eaA nrla
      have etlB := kB.ne etlA ntla
      have ebB := kB.ne eb nsla
      refine s_ret (de_tup (da_cons (de_tup (da_cons (de_var (d := .int n) (i := 3) rfl (.int n)) (da_cons (de_tupOf (K := K) (dl_sorted (K := K) (or_var (i := 4) rfl) etlB (ttlA.mono mB) (sortOk_quads bs))) da_nil))) (da_cons (de_tupOf (K := K) (dl_sorted (K := K) (or_var (i := 5) rfl) eaB (taA.mono mB) (sortOk_ints ns))) (da_cons (de_tupOf (K := K) (dl_sorted (K := K) (or_var (i := 6) rfl) ebB (tb.mono mB) (sortOk_quads rs))) (da_cons (de_var (d := .int dy) (i := 12) rfl (.int dy)) da_nil))))) fun v HC sC tC => ?_
      rw [sort_en, sort_en, sort_en] at tC
      refine q v ⟨n, bs.mergeSort (leT quadD), ns.mergeSort (leT PyData.int), rs.mergeSort (leT quadD), dy⟩ HC ((kdA.trans kB).s sC) ((hAB.same sC).le (by omega)) tC ?_
      refine ⟨hn', by rw [List.length_mergeSort]; exact hbl, fun k hk => ?_, by rw [List.length_mergeSort]; exact hns0, by rw [List.length_mergeSort]; exact hns3, fun x hx => hns x (List.mem_mergeSort.mp hx), by rw [List.length_mergeSort]; exact hrs0, by rw [List.length_mergeSort]; exact z, fun r hr => ?_, by show 1 ≤ dy ∧ dy ≤ 7; omega⟩
      · obtain ⟨t, mt, e⟩ := hchain k hk
        exact ⟨t, List.mem_mergeSort.mpr mt, e⟩
      · obtain ⟨h1, h2, h3, h4, h5, h6, h7⟩ := hrs r (List.mem_mergeSort.mp hr)
        exact ⟨h1, h2, h3, h4, h5, h6, by rw [List.length_mergeSort]; exact h7⟩
end
end Tk

set_option Elab.async false
set_option linter.all false
set_option maxRecDepth 100000
set_option maxHeartbeats 8000000
/-! _law_file. -/
namespace Tk
open PySem PySem.Spec PyProof.Rows L2
open LamX (Tabs ExtN)
/-- all kept but what stands at a, and the tables -/
def KN (a : Addr) (H H' : Hp) : Prop := ∀ b o, b ≠ a → H b = some o → (∀ ps, o ≠ .tbl ps) → H' b = some o
def InGrid (p : Plan) (g : Page) : Prop := 0 ≤ g.day ∧ g.day < p.days ∧ 0 ≤ g.place ∧ g.place < p.n
def spFile (T : List (Addr × Str)) : Sp := fun vs H Q _ => ∃ (a : Addr) (v1 : V) (p : Plan) (m : Nat), vs = [.ref a, v1] ∧ Td H v1 (planD p) ∧ Shape p ∧ HandAt H a (m + 5000) ∧ Tabs T H ∧
  ∀ v (file : List Page) H', KN a H H' → Tabs T H' → Td H' v (fileD file) → FileOk p file → file.length ≤ 112 → (∀ g ∈ file, InGrid p g) → Q v H'
section
variable {P : Program} {w : World} {K : PySem.W.Frag} {mg : Str → Option Value} {base : Heap}
theorem c3_page (g : Page) : C3 (pageD g) := ⟨g.word, g.place, g.day, g.tail, rfl, by cases g <;> simp [Page.tail], by cases g <;> simp [Page.tail]⟩
theorem pre3_page (g : Page) : pre3 (pageD g) = .tuple [.str g.word, .int g.place, .int g.day] := rfl
theorem sortOk_pre (gs : List Page) : SortOk (gs.map fun g => PyData.tuple [.str g.word, .int g.place, .int g.day]) :=
  ⟨.of fun a b => by simp [PySem.W.alike, PySem.W.alikeAll], .tuples fun b => ⟨_, _, rfl⟩, fun d m => by
    obtain ⟨s, _, rfl⟩ := List.mem_map.mp m
    simp [PyData.depth, PyData.depthAll]⟩
theorem HandAt.nopage {H : Hp} {a : Addr} {m : Nat} (h : HandAt H a m) : ∃ u, H a = some u ∧ (∀ ps, u ≠ .tbl ps) ∧ ∀ φ, u ≠ .ext φ := let ⟨_, _, _, e, _⟩ := h; ⟨_, e, (fun _ z => by cases z), (fun _ z => by cases z)⟩
theorem cal_file {TT : List (Addr × Str)} {c P1 : Addr} (T : Txt K mg) (FA : FnAtC K mg "_law_file" s_L_file c) (TB : LamX.TabB base mg c P1)
    (hm : (P1, (envOfC "_law_file" (defScope s_L_file) 0 0 (.ref c)).qual ++ "<lambda>") ∈ TT) (hu : ∀ p ∈ TT, p.1 = P1 → p.2 = (envOfC "_law_file" (defScope s_L_file) 0 0 (.ref c)).qual ++ "<lambda>") :
    Cal P w K mg base "_law_file" 5 p_L_file (spFile TT) := by
  refine cal_ofC FA sc_L_file (fun _ _ _ _ _ _ us hl => match us, hl with | [_, _], _ => rfl) (fun vs H Q E ⟨a, v1, p, m, e, _⟩ => by rw [e]; rfl) fun f A outer s H vs Q E hr h => ?_
  obtain ⟨a, v1, p, m, rfl, t1, S, hA, hT, q⟩ := h
  have C1 : Cal P w K mg base "_law_take" 1 p_L_take spTake := cal_take T
  have C2 : Cal P w K mg base "_law_office" 4 p_L_office spOffice := cal_office T
  have C3 : Cal P w K mg base "_law_tickets" 3 p_L_tickets spTickets := cal_tickets T
  have C4 : Cal P w K mg base "_law_once" 1 p_L_once spOnce := cal_once T
  have hr1 := hr.mono (show 1 ≤ 4 by decide)
  have hr3 := hr.mono (show 3 ≤ 4 by decide)
  refine ⟨_, PSs.nox (pss_cons (ps_set (i := 2) sc_L_file.nd rfl (.inl rfl) (pe_lst pa_nil))
    (pss_cons (ps_for PassesOwn.never rfl (pi_range1 rfl T.range (pa_cons (pix K (pv 1) pe_int) pa_nil)) (pg_name (i := 3) sc_L_file.nd rfl (.inl rfl))
      (pss_one (ps_for PassesOwn.never rfl (pi_range1 rfl T.range (pa_cons (pix K (pix K (pv 1) pe_int) pe_int) pa_nil)) (pg_name (i := 4) sc_L_file.nd rfl (.inr rfl))
        (pss_cons (ps_set (i := 5) sc_L_file.nd rfl (.inl rfl) (pe_or (pe_cmpR op_gt (pe_callB (clLen K) rfl T.len boot_len (pa_cons (pv 2) pa_nil)) pe_int (nomark _)) (pe_one (pe_and (pe_cmpR op_gt (pix K (pix K (pv 1) pe_int) pe_int) pe_int (nomark _)) (pe_one (pe_cmpR op_gt (pe_cal C1 hr1 rfl (pa_cons (pv 0) (pa_cons pe_int pa_nil))) pe_int (nomark _)))))))
        (pss_cons (ps_if (PW.pt (pw_and (pt_not (pt_val (pv 5))) (pw_and (pt_val (pe_callB (crAny K) rfl T.any boot_any (pa_cons (pe_lc rfl sc_L_file.nd (pi_tup (pix K (pv 1) pe_int)) (own := [("_law_rack", 8)]) (blkOk_by (N := n_L_file) (sc := defScope s_L_file) (by decide +kernel))
            (fun _ _ _ _ _ => pg_name (i := 8) sc_L_file.nd rfl (.inl rfl)) (fun _ _ _ _ _ => pts_nil) (fun _ _ _ _ _ => pe_cmpR op_eq (pix K (pv 8) pe_int) (pv 4) (nomark _))) pa_nil)))
            (pw_and1 (pt_cmpR op_gt (pe_cal C1 hr1 rfl (pa_cons (pv 0) (pa_cons pe_int pa_nil))) pe_int (nomark _))))))
          (pss_one (ps_expr (papp (pv 2) (pa_cons (pe_cal C2 hr rfl (pa_cons (pv 0) (pa_cons (pv 1) (pa_cons (pv 4) (pa_cons (pv 3) pa_nil))))) pa_nil)))) pss_nil)
        (pss_one (ps_if (PW.pt (pw_and (pt_not (pt_val (pv 5))) (pw_and1 (pt_cmpR op_eq (pe_cal C1 hr1 rfl (pa_cons (pv 0) (pa_cons pe_int pa_nil))) pe_int (nomark _)))))
          (pss_cons (ps_setLc (i := 6) rfl sc_L_file.nd rfl rfl (sw_true rfl rfl rfl rfl) (pi_range1 rfl T.range (pa_cons pe_int pa_nil)) (own := [("_law_k", 7)]) (blkOk_by (N := n_L_file) (sc := defScope s_L_file) (by decide +kernel))
            (fun _ _ _ _ _ => pg_name (i := 7) sc_L_file.nd rfl (.inl rfl)) (fun _ _ _ _ _ => pts_nil) (fun _ _ _ _ _ => pe_cal C4 hr1 rfl (pa_cons (pe_cal C3 hr3 rfl (pa_cons (pv 0) (pa_cons (pv 1) (pa_cons (pe_cal C1 hr1 rfl (pa_cons (pv 0) (pa_cons pe_int pa_nil))) pa_nil)))) pa_nil)))
          (pss_one (ps_expr (papp (pv 2) (pa_cons (pe_tup (pa_cons pe_str (pa_cons (pv 4) (pa_cons (pv 3) (pa_cons (pixL K (pv 6) pe_int) (pa_cons (pixL K (pv 6) pe_int) pa_nil)))))) pa_nil))))) pss_nil)))))))
    (pss_one (ps_ret (pe_tupleOf rfl T.tuple (pe_sortedLam (T := TT) (c := c) (P := P1) rfl T.sorted (pv 2) TB rfl hm hu hr1 rfl ⟨rfl, rfl, rfl, rfl, by decide +kernel⟩ (fun _ _ _ _ _ _ => rfl) key3')))))), ?_⟩
  -- pages = []
  refine s_setL (dl_lst da_nil) fun pl xs0 H1 npl s1 epl tpl0 => ?_
  cases tpl0
  have hA1 := hA.same s1
  have npa := hA.nn npl
  have t11 := t1.mono (.same s1)
  have nt1 : ∀ b ∈ [a, pl], NT H1 b := fun b mm => by
    simp only [List.mem_cons, List.not_mem_nil, or_false] at mm
    rcases mm with rfl | rfl
    · exact hA1.nt
    · exact .lst epl
  have hdl : (List.range p.days.toNat).length ≤ 7 := by
    have := S.days
    rw [List.length_range]
    omega
  have hnl : (List.range p.n.toNat).length ≤ 8 := by
    have := S.n
    rw [List.length_range]
    omega
  refine q_for (L := [a, pl]) (as := List.range p.days.toNat) (en := fun i : Nat => PyData.int (0 + (i : Int))) (di_range1 (de_ix (K := K) (de_var (d := planD p) (i := 1) rfl t11) (de_int (i := ((3 : Nat) : Int))) (d := .int p.days) rfl) (by have := S.days; omega)) nt1
    (fun i σ' H' => ∃ a3 a4 a5 a6 a7 a8 xs gs, σ' = [some (.ref a), some v1, some (.ref pl), a3, a4, a5, a6, a7, a8] ∧ H' pl = some (.lst xs) ∧ TdAll H' xs (gs.map pageD) ∧ gs.length ≤ 16 * i ∧ (∀ g ∈ gs, PageOk p g ∧ InGrid p g) ∧ HandAt H' a (m + 560 * (7 - i)))
    (fun H2 s => ⟨none, none, none, none, none, none, [], [], rfl, s _ _ epl, .nil, Nat.le_refl _, (fun g h => by cases h), (hA1.same s).le (by omega)⟩) ?_ ?_
  · rintro H2 i dn x3 σ' H0 H' s2 k kT hd td ⟨a3, a4, a5, a6, a7, a8, xs, gs, rfl, exs, txs, z, hok, hAi⟩ s0
    have hi := at_lt hd
    have e3 := td.int_
    subst e3
    have hdn : dn = i := by
      rw [List.getElem?_range (by rw [List.length_range] at hi; exact hi)] at hd
      exact (Option.some.inj hd).symm
    subst hdn
    rw [List.length_range] at hi
    have exs' := s0 _ _ exs
    have hA' : HandAt H' a ((m + 560 * (7 - (dn + 1))) + 560) := (hAi.same s0).le (by have := S.days; omega)
    have nt' : ∀ b ∈ [a, pl], NT H' b := fun b mm => by
      simp only [List.mem_cons, List.not_mem_nil, or_false] at mm
      rcases mm with rfl | rfl
      · exact hA'.nt
      · exact .lst exs'
    refine gn ?_
    have t1' := t11.mono kT
    refine s_for (L := [a, pl]) (as := List.range p.n.toNat) (en := fun i : Nat => PyData.int (0 + (i : Int))) (di_range1 (de_ix (K := K) (de_ix (K := K) (de_var (d := planD p) (i := 1) rfl t1') (de_int (i := ((0 : Nat) : Int))) (d := netD p.n p.ties) rfl) (de_int (i := ((0 : Nat) : Int))) (d := .int p.n) rfl) (by have := S.n; omega)) nt'
      (fun j σ' H'' => ∃ a4 a5 a6 a7 a8 xs gs, σ' = [some (.ref a), some v1, some (.ref pl), some (.int (0 + (dn : Int))), a4, a5, a6, a7, a8] ∧ H'' pl = some (.lst xs) ∧ TdAll H'' xs (gs.map pageD) ∧ gs.length ≤ 16 * dn + 2 * j ∧ (∀ g ∈ gs, PageOk p g ∧ InGrid p g) ∧ HandAt H'' a ((m + 560 * (7 - (dn + 1))) + 70 * (8 - j)))
      (fun H5 s5 => ⟨a4, a5, a6, a7, a8, xs, gs, rfl, s5 _ _ exs', txs.mono (.same (s0.trans s5)), by omega, hok, (hA'.same s5).le (by omega)⟩) ?_ ?_
    · rintro H5 j pn x4 σ' H6 H7 s5 k5 kT5 hpn tpn ⟨b4, b5, b6, b7, b8, xs, gs, rfl, exs, txs, z, hok, hAj⟩ s6
      have hj := at_lt hpn
      have e4 := tpn.int_
      subst e4
      have hpj : pn = j := by
        rw [List.getElem?_range (by rw [List.length_range] at hj; exact hj)] at hpn
        exact (Option.some.inj hpn).symm
      subst hpj
      rw [List.length_range] at hj hnl
      obtain ⟨M, hM⟩ : ∃ M, M = (m + 560 * (7 - (dn + 1))) + 70 * (8 - (pn + 1)) := ⟨_, rfl⟩
      have hA7 : HandAt H7 a (M + 70) := (hAj.same s6).le (by omega)
      have exs7 := s6 _ _ exs
      have txs7 := txs.mono (.same s6)
      have t17 := t1'.mono kT5
      have k57 := k5.s s6
      have hgrid : ∀ g : Page, g.day = 0 + (dn : Int) → g.place = 0 + (pn : Int) → InGrid p g := fun g h1 h2 => by
        have := S.n
        have := S.days
        unfold InGrid
        omega
      -- all of L is no tuple
      have ntL : ∀ {Hx : Hp} {xs : List V} {mm : Nat}, HandAt Hx a mm → Hx pl = some (.lst xs) → ∀ b ∈ [a, pl], NT Hx b := fun hA e b mm => by
        simp only [List.mem_cons, List.not_mem_nil, or_false] at mm
        rcases mm with rfl | rfl
        · exact hA.nt
        · exact .lst e
      clear hAj exs txs s6 k5 kT5 tpn hpn
      refine gn ?_
      -- skip
      refine q_asgN fun Qs hqs => ?_
      suffices key : ∀ (b : Bool) (Hx : Hp), KL [a] H7 Hx → HandAt Hx a (M + 69) → Qs (.bl b) Hx by
        refine (de_I0 (c := .bool (decide (13 < (xs.length : Int)))) (de_lenO (K := K) (or_var (i := 2) rfl) exs7) (de_int (i := 13))).at_ fun v Ha sa ta => ⟨_, ta.bool_, ?_⟩
        by_cases h1 : decide (13 < (xs.length : Int)) = true
        · exact yes_ h1 (key true Ha (.of sa) ((hA7.same sa).le (by omega)))
        · refine no_ (Bool.eq_false_iff.mpr h1) ?_
          refine (de_I0 (c := .bool (decide (5 < p.n))) (de_ix (K := K) (de_ix (K := K) (de_var (d := planD p) (i := 1) rfl (t17.mono (.same sa))) (de_int (i := ((0 : Nat) : Int))) (d := netD p.n p.ties) rfl) (de_int (i := ((0 : Nat) : Int))) (d := .int p.n) rfl) (de_int (i := 5))).at_ fun v2 Hb sb tb => ⟨_, tb.bool_, ?_⟩
          by_cases h2 : decide (5 < p.n) = true
          · refine yes_ h2 ?_
            refine take_e (or_var (i := 0) rfl) (de_int (i := 3)) (m := M + 69) ((hA7.same sa).same sb) (by decide) (by decide) fun Hc d _ _ kc hAc => ⟨d, 0, rfl, rfl, key _ Hc ((KL.of (sa.trans sb)).trans kc) hAc⟩
          · exact no_ (Bool.eq_false_iff.mpr h2) (key false Hb (.of (sa.trans sb)) (((hA7.same sa).same sb).le (by omega)))
      intro b H8 k8 hA8
      refine hqs _ _ ?_
      have exs8 := k8.ne exs7 npa
      have txs8 := txs7.mono (k8.tk1 hA7)
      have t18 := t17.mono (k8.tk1 hA7)
      have k58 : KL [a, pl] H5 H8 := k57.trans (k8.more (by simp))
      clear hqs hA7 exs7 txs7 t17 k57 k8
      -- the office's page
      refine q_N fun N1 hN1 => ?_
      suffices key : ∀ (Hx : Hp) (xs : List V) (gs : List Page), KL [a, pl] H8 Hx → HandAt Hx a (M + 14) → Hx pl = some (.lst xs) → TdAll Hx xs (gs.map pageD) → gs.length ≤ 16 * dn + 2 * pn + 1 → (∀ g ∈ gs, PageOk p g ∧ InGrid p g) → N1 [some (.ref a), some v1, some (.ref pl), some (.int (0 + (dn : Int))), some (.int (0 + (pn : Int))), some (.bl b), b6, b7, b8] Hx by
        have dflt : ∀ Hx, KL [a] H8 Hx → HandAt Hx a (M + 14) → N1 [some (.ref a), some v1, some (.ref pl), some (.int (0 + (dn : Int))), some (.int (0 + (pn : Int))), some (.bl b), b6, b7, b8] Hx := fun Hx kx hAx => key Hx xs gs (kx.more (by simp)) hAx (kx.ne exs8 npa) (txs8.mono (kx.tk1 hA8)) (by omega) hok
        refine s_ifT (t_and ⟨.bl b, rfl, b, rfl, ?_⟩)
        cases b with
        | true => exact no_ rfl (no_ rfl (nxt (dflt H8 .refl (hA8.le (by omega)))))
        | false =>
          refine yes_ rfl (t_and ?_)
          have hany := dt_B (de_any (K := K) (bs := p.stock.map fun r => decide (r.1 = 0 + (pn : Int))) ((dl_lc (as := p.stock) (en := quadD) (j := 8) (vs := [8]) (tt := tYes) (te := tOp rEq (tOp (rIxT K) (tVar 8) (tC (.int 0))) (tVar 4)) (fun _ => true) (fun r => .bool (decide (r.1 = 0 + (pn : Int)))) (di_tup (K := K) (de_ix (K := K) (de_var (σ := [some (.ref a), some v1, some (.ref pl), some (.int (0 + (dn : Int))), some (.int (0 + (pn : Int))), some (.bl false), b6, b7, b8]) (d := planD p) (i := 1) rfl t18) (de_int (i := ((2 : Nat) : Int))) rfl)) (big_ (by have := S.stockLen; omega)) (fun _ => rfl) (fun r hr v Hr sr tr => ⟨dt_yes, fun _ => de_eqI (de_ix (K := K) (de_var (d := quadD r) (i := 8) rfl tr) (de_int (i := ((0 : Nat) : Int))) (d := .int r.1) rfl) (de_var (d := .int (0 + (pn : Int))) (i := 4) rfl (.int _))⟩)).to (by rw [filter_yes, List.map_map]; rfl)))
          refine hany.at_ fun Hb sb => ?_
          cases hb : (p.stock.map fun r => decide (r.1 = 0 + (pn : Int))).any id with
          | false => exact no_ rfl (no_ rfl (nxt (dflt Hb (.of sb) ((hA8.same sb).le (by omega)))))
          | true =>
            refine yes_ rfl (r_test (r_op ?_))
            refine take_e (or_var (i := 0) rfl) (de_int (i := 4)) (m := M + 68) (hA8.same sb) (by decide) (by decide) fun Hc d _ _ kc hAc => ⟨d, 0, rfl, rfl, _, rfl, ?_⟩
            have k8c : KL [a] H8 Hc := (KL.of sb).trans kc
            by_cases hd0 : decide (0 < d) = true
            · refine yes_ hd0 ?_
              have exc := k8c.ne exs8 npa
              refine app_hand (l := pl) (acc := xs) rfl exc fun RR hRR => ?_
              refine ⟨.ref a, rfl, v1, rfl, .int (0 + (pn : Int)), rfl, .int (0 + (dn : Int)), rfl, a, v1, p, 0 + (pn : Int), 0 + (dn : Int), M + 14, rfl, t18.mono (k8c.tk1 hA8), S.stock0, by have := S.stockLen; omega, S.rates0, by have := S.ratesLen; omega, hAc.le (by have := S.stockLen; omega), fun v g Hd kd hAd tg _ hgp hgd hpo => ?_⟩
              have exd := kd.ne exc npa
              have hl := txs8.length
              rw [List.length_map] at hl
              have hdd := S.days
              refine hRR _ _ exd (big_ (by omega)) (key _ (xs ++ [v]) (gs ++ [g]) (((k8c.trans kd).more (by simp)).trans (.put (by simp))) (hAd.put npa.symm) upd_same ?_ (by rw [List.length_append]; simp; omega) fun g' hg' => ?_)
              · rw [List.map_append]
                exact ((txs8.mono ((k8c.trans kd).tk1 hA8)).snoc tg).mono (.put exd fun _ z => by cases z)
              · rcases List.mem_append.mp hg' with hg' | hg'
                · exact hok g' hg'
                · rw [List.mem_singleton.mp hg']
                  exact ⟨hpo (by omega) (by omega), hgrid g hgd hgp⟩
            · exact no_ (Bool.eq_false_iff.mpr hd0) (nxt (dflt Hc k8c (hAc.le (by omega))))
      intro H9 xs gs k9 hA9 exs9 txs9 z hok
      refine hN1 _ _ ?_
      have t19 := t18.mono (k9.tk (ntL hA8 exs8))
      have k59 := k58.trans k9
      clear hN1 hA8 exs8 txs8 t18 k58 k9
      -- the gate's page
      have fin : ∀ (σ9 : L2.St) (c6 : Option V) (Hx : Hp) (xs : List V) (gs : List Page), σ9 = [some (.ref a), some v1, some (.ref pl), some (.int (0 + (dn : Int))), some (.int (0 + (pn : Int))), some (.bl b), c6, b7, b8] → KL [a, pl] H9 Hx → HandAt Hx a M → Hx pl = some (.lst xs) → TdAll Hx xs (gs.map pageD) → gs.length ≤ 16 * dn + 2 * (pn + 1) → (∀ g ∈ gs, PageOk p g ∧ InGrid p g) →
          KL [a, pl] H5 Hx ∧ ∃ (a4 a5 a6 a7 a8 : Option V) (xs : List V) (gs : List Page), σ9 = [some (.ref a), some v1, some (.ref pl), some (.int (0 + (dn : Int))), a4, a5, a6, a7, a8] ∧ Hx pl = some (.lst xs) ∧ TdAll Hx xs (gs.map pageD) ∧ gs.length ≤ 16 * dn + 2 * (pn + 1) ∧ (∀ g ∈ gs, PageOk p g ∧ InGrid p g) ∧ HandAt Hx a ((m + 560 * (7 - (dn + 1))) + 70 * (8 - (pn + 1))) :=
        fun σ9 c6 Hx xs gs e kx hAx ex tx zx okx => ⟨k59.trans kx, _, _, c6, b7, b8, xs, gs, e, ex, tx, zx, okx, by rw [← hM]; exact hAx⟩
      have dflt : ∀ Hx, KL [a] H9 Hx → HandAt Hx a M → KL [a, pl] H5 Hx ∧ ∃ (a4 a5 a6 a7 a8 : Option V) (xs : List V) (gs : List Page), ([some (.ref a), some v1, some (.ref pl), some (.int (0 + (dn : Int))), some (.int (0 + (pn : Int))), some (.bl b), b6, b7, b8] : L2.St) = [some (.ref a), some v1, some (.ref pl), some (.int (0 + (dn : Int))), a4, a5, a6, a7, a8] ∧ Hx pl = some (.lst xs) ∧ TdAll Hx xs (gs.map pageD) ∧ gs.length ≤ 16 * dn + 2 * (pn + 1) ∧ (∀ g ∈ gs, PageOk p g ∧ InGrid p g) ∧ HandAt Hx a ((m + 560 * (7 - (dn + 1))) + 70 * (8 - (pn + 1))) :=
        fun Hx kx hAx => fin _ b6 Hx xs gs rfl (kx.more (by simp)) hAx (kx.ne exs9 npa) (txs9.mono (kx.tk1 hA9)) (by omega) hok
      refine s_ifT (t_and ⟨.bl b, rfl, b, rfl, ?_⟩)
      cases b with
      | true => exact no_ rfl (no_ rfl (nxt (dflt H9 .refl (hA9.le (by omega)))))
      | false =>
        refine yes_ rfl (r_test (r_op ?_))
        refine take_e (or_var (i := 0) rfl) (de_int (i := 4)) (m := M + 13) hA9 (by decide) (by decide) fun Hb d _ _ kb hAb => ⟨rfl, _, rfl, ?_⟩
        by_cases hd0 : decide (V.int d = V.int 0) = true
        · refine yes_ hd0 ?_
          have exb := kb.ne exs9 npa
          have t1b := t19.mono (kb.tk1 hA9)
          refine q_asgN fun Qg hqg => ?_
          refine ⟨2, rfl, by decide, by decide, ?_⟩
          refine lc_hand (a := a) (en := fun i : Nat => PyData.int (i : Int)) (eb := fun us : List (Int × Int) => PyData.tuple (us.map pairD)) (as := List.range 2) (c := 5) (m := M + 3) (range_walk (H := Hb)) (fun _ _ => trivial) (hAb.le (by simp)) (fun _ us => us.length ≤ 1000) (big_ (by simp)) ?_ (fun e _ v Hc r kc tv hAc Q' q' => ?_) fun gl ys bs Hc ngl kc hAc egl tgl hbl hbp => hqg _ _ ?_
          · exact fun _ => rfl
          · refine ⟨.ref a, rfl, v1, rfl, take_e (or_var (i := 0) rfl) (de_int (i := 3)) (m := r + 4) hAc (by decide) (by decide) fun Hd n n0 n1 kd hAd => ?_⟩
            refine ⟨a, v1, p, n.toNat, r, by rw [Int.toNat_of_nonneg n0]; rfl, (t1b.mono (kc.tk1 hAb)).mono (kd.tk1 hAc), S.stock0, by have := S.stockLen; omega, by omega, hAd.le (by omega), fun l xs ts He nl ke hAe el tl hts _ => ?_⟩
            refine ⟨l, xs, ts, rfl, el, tl, by omega, fun v us Hf sf tf hus => q' v us Hf ((kd.trans ke).s sf) (hAe.same sf) tf (by omega)⟩
          · match bs, hbl with
            | [us1, us2], _ =>
              have h1 := hbp 0 us1 rfl
              have h2 := hbp 1 us2 rfl
              obtain ⟨_, _, h1⟩ := h1
              obtain ⟨_, _, h2⟩ := h2
              obtain ⟨y1, y2, rfl, ty1, ty2⟩ := TdAll.two (a := .tuple (us1.map pairD)) (b := .tuple (us2.map pairD)) tgl
              have exc := kc.ne exb npa
              have kbc := kb.trans kc
              have hl := txs9.length
              rw [List.length_map] at hl
              have hdd := S.days
              have hnn := S.n
              have d4 : DE (tVar 4) [some (.ref a), some v1, some (.ref pl), some (.int (0 + (dn : Int))), some (.int (0 + (pn : Int))), some (.bl false), some (.ref gl), b7, b8] Hc (.int (0 + (pn : Int))) := de_var (i := 4) rfl (.int _)
              have d3 : DE (tVar 3) [some (.ref a), some v1, some (.ref pl), some (.int (0 + (dn : Int))), some (.int (0 + (pn : Int))), some (.bl false), some (.ref gl), b7, b8] Hc (.int (0 + (dn : Int))) := de_var (i := 3) rfl (.int _)
              refine s_app exc (or_var rfl) (de_tup (da_cons (de_str (x := "gate")) (da_cons d4 (da_cons d3 (da_cons (de_lst (K := K) (or_var (i := 6) rfl) egl (de_int (i := 0)) rfl ty1) (da_cons (de_lst (K := K) (or_var (i := 6) rfl) egl (de_int (i := 1)) rfl ty2) da_nil)))))) (big_ (by omega)) fun y Hd sd td => ?_
              have exd := sd _ _ exc
              refine fin _ (some (.ref gl)) _ (xs ++ [y]) (gs ++ [.gate (0 + (pn : Int)) (0 + (dn : Int)) us1 us2]) rfl (((kbc.s sd).more (by simp)).trans (.put (by simp))) (((hAc.le (by omega)).same sd).put npa.symm) upd_same ?_ (by rw [List.length_append]; simp; omega) fun g' hg' => ?_
              · rw [List.map_append]
                exact ((txs9.mono ((kbc.s sd).tk1 hA9)).snoc td).mono (.put exd fun _ z => by cases z)
              · rcases List.mem_append.mp hg' with hg' | hg'
                · exact hok g' hg'
                · rw [List.mem_singleton.mp hg']
                  have := S.days
                  exact ⟨⟨by omega, by omega, h1, h2⟩, hgrid _ rfl rfl⟩
        · exact no_ (Bool.eq_false_iff.mpr hd0) (nxt (dflt Hb kb (hAb.le (by omega))))
    · rintro σ'' H'' k5 ⟨b4, b5, b6, b7, b8, xs, gs, rfl, exs, txs, z, hok, hAj⟩
      exact ⟨(k.s s0).trans k5, _, _, _, _, _, _, xs, gs, rfl, exs, txs, by omega, hok, hAj.le (by omega)⟩
  · rintro σ' H' k ⟨a3, a4, a5, a6, a7, a8, xs, gs, rfl, exs, txs, z, hok, hAi⟩
    have hT' : Tabs TT H' := Tabs.kl (hT.ext s1) k fun b mm => by
      simp only [List.mem_cons, List.not_mem_nil, or_false] at mm
      rcases mm with rfl | rfl
      · exact hA1.nopage
      · exact ⟨_, epl, (fun _ z => by cases z), (fun _ z => by cases z)⟩
    have hlen := txs.length
    have tz := txs.forall_
    have e2 : ((xs.zip (gs.map pageD)).map (·.2)) = gs.map pageD := zip_snd hlen
    refine r_ret ?_
    refine ⟨.ref pl, rfl, pl, xs.zip (gs.map pageD), rfl, by rw [zip_fst hlen]; exact .of exs, hT', fun pr mm => ⟨tz pr mm, ?_⟩, ?_, fun H2 qq e nT nq => ?_⟩
    · have h3 : pr.2 ∈ (xs.zip (gs.map pageD)).map (·.2) := List.mem_map.mpr ⟨pr, mm, rfl⟩
      rw [e2] at h3
      obtain ⟨g, _, eg⟩ := List.mem_map.mp h3
      rw [← eg]
      exact c3_page g
    · have h4 : ((xs.zip (gs.map pageD)).map fun p => pre3 p.2) = gs.map fun g => PyData.tuple [.str g.word, .int g.place, .int g.day] := by
        have := congrArg (List.map pre3) e2
        rw [List.map_map, List.map_map] at this
        exact this
      rw [h4]
      exact sortOk_pre _
    · have hs := sort_by (kf := pre3) (xs.zip (gs.map pageD)) gs e2
      have h6 := TdAll.of_zip (H := H') (ps := (xs.zip (gs.map pageD)).mergeSort (leF pre3)) fun pp mm => tz pp (List.mem_mergeSort.mp mm)
      rw [hs] at h6
      have h7 := (h6.mono (.extN e)).mono (TK.new (o := .lst (((xs.zip (gs.map pageD)).mergeSort (leF pre3)).map (·.1))) nq)
      refine .inl ⟨qq, _, rfl, .of upd_same, fun r nr => ?_⟩
      refine q _ (gs.mergeSort fun a b => PySem.W.dataLe false (fun a : Page => pre3 (pageD a)) a b) _ (fun b o nb eb nn => ?_) ((nT.ext (same_new nq)).ext (same_new nr)) (.tup upd_same (h7.mono (.new nr))) ⟨by rw [List.length_mergeSort]; omega, fun g hg => (hok g (List.mem_mergeSort.mp hg)).1⟩ (by rw [List.length_mergeSort]; omega) fun g hg => (hok g (List.mem_mergeSort.mp hg)).2
      have nbp : b ≠ pl := fun z => by
        rw [z, npl] at eb
        cases eb
      exact same_new nr _ _ (same_new nq _ _ (e b o (k b o (by simp [nb, nbp]) (s1 b o eb)) nn))
end
end Tk

set_option Elab.async false
set_option linter.all false
set_option maxRecDepth 100000
set_option maxHeartbeats 8000000
/-! _law_classes, _law_right, _law_kept. -/
namespace Tk
open PySem PySem.Spec PyProof.Rows L2
def atCell (d pl : Nat) (g : Page) : Bool := isOffice g && (decide (g.place = (pl : Int)) && decide (g.day = (d : Int)))
def ranksOn (g : Page) : List (Option Int) := (thingsOn g).map fun t => t.2.2.2
def cellRanks (file : List Page) (d pl : Nat) : List (Option Int) := (file.filter (atCell d pl)).flatMap ranksOn
def dayRanks (p : Plan) (file : List Page) (d : Nat) : List (Option Int) := (List.range p.n.toNat).flatMap (cellRanks file d)
def classesOf (p : Plan) (file : List Page) : List (Option Int) := (List.range p.days.toNat).flatMap (dayRanks p file)
def spClasses : Sp := fun vs H Q _ => ∃ (p : Plan) (file : List Page), TdAll H vs [planD p, fileD file] ∧ Shape p ∧ FileOk p file ∧ file.length ≤ 112 ∧ ∀ l xs H', H l = none → Same H H' → H' l = some (.lst xs) → TdAll H' xs ((classesOf p file).map oI) → Q (.ref l) H'
abbrev RowT := Row × Option Int
def rowTD (q : RowT) : PyData := .tuple [rowD q.1, oI q.2]
/-- now, gone, coin -/
abbrev RS := Int × Bool × Int
def rightStep (s : RS) (q : RowT) : Option RS :=
  if q.1.2.2.2.2.2.2 ≠ "good" then (if q.1.2.2.2.2.2.1 ≠ 0 then none else some (s.1, s.2.1, s.2.2 + q.1.2.2.2.2.2.1))
  else if s.2.1 then none
  else if q.1.2.2.1 = "back" then some (s.1, true, s.2.2 + q.1.2.2.2.2.2.1)
  else match q.2 with
    | none => none
    | some k => if k ≤ s.1 then none else some (k, s.2.1, s.2.2 + q.1.2.2.2.2.2.1)
def run : List RowT → RS → Option RS
  | [], s => some s
  | q :: qs, s => match rightStep s q with
    | none => none
    | some s' => run qs s'
def keptGo (p : Plan) (i : Nat) : List RowT → Int → Int
  | [], rk => fareOf p i rk.toNat
  | q :: qs, rk => if q.1.2.2.2.2.2.2 = "good" then (if q.1.2.2.1 = "back" then 0 else keptGo p i qs (q.2.getD 0)) else keptGo p i qs rk
def spRight : Sp := fun vs H Q _ => ∃ (v0 v1 : V) (l : Addr) (p : Plan) (i : Nat) (n : Int) (xs : List V) (qs : List RowT) (now : Nat) (gone : Bool), vs = [v0, v1, .ref l] ∧ Td H v0 (planD p) ∧ Td H v1 (.tuple [.int (i : Int), .int n]) ∧ H l = some (.lst xs) ∧ TdAll H xs (qs.map rowTD) ∧ PlanOk p ∧ i < p.stock.length ∧ now < p.rates.length ∧
  run qs (rackRank p i, false, fareOf p i (rackRank p i).toNat) = some ((now : Int), gone, if gone then 0 else fareOf p i now) ∧ ∀ H', Same H H' → Q (.bl true) H'
def spKeptL : Sp := fun vs H Q _ => ∃ (v0 : V) (l : Addr) (p : Plan) (i : Nat) (xs : List V) (q0 : RowT) (qs : List RowT), vs = [v0, .ref l] ∧ Td H v0 (planD p) ∧ H l = some (.lst xs) ∧ TdAll H xs ((q0 :: qs).map rowTD) ∧ PlanOk p ∧ i < p.stock.length ∧ q0.1.2.2.2.1 = (i : Int) ∧
  (∀ q ∈ q0 :: qs, q.1.2.2.2.2.2.2 = "good" → q.1.2.2.1 ≠ "back" → ∃ k : Nat, q.2 = some (k : Int) ∧ k < p.rates.length) ∧ ∀ H', Same H H' → Q (.int (keptGo p i (q0 :: qs) (rackRank p i))) H'
section
variable {P : Program} {w : World} {K : PySem.W.Frag} {mg : Str → Option Value} {base : Heap}
theorem eqv3 (a a' : Str) (b b' c c' : Int) : PyData.eqv (.tuple [.str a, .int b, .int c]) (.tuple [.str a', .int b', .int c']) = (decide (a = a') && (decide (b = b') && decide (c = c'))) := by
  rw [Bool.eq_iff_iff]
  simp [PyData.eqv, PyData.eqvAll]
theorem word_ok (g : Page) : PyData.strOk g.word = true := by
  cases g with
  | office pl dy c pr be ba co => exact (by decide +kernel : PyData.strOk "office" = true)
  | gate pl dy c e => exact (by decide +kernel : PyData.strOk "gate" = true)
theorem shaped3 (x : Str) (y z : Int) (h : PyData.strOk x = true) : SeqAt.shaped (.tuple [.str x, .int y, .int z]) = true := by
  simp [SeqAt.shaped, PyData.canLay0, PyData.canLayAll0, PyData.depth, PyData.depthAll, h]
theorem word_office (g : Page) : decide (g.word = "office") = isOffice g := by
  cases g with
  | office pl dy c pr be ba co => exact decide_eq_true rfl
  | gate pl dy c e => exact decide_eq_false (show ¬ ("gate" : Str) = "office" by decide +kernel)
theorem nones {H : Hp} : ∀ k : Nat, TdAll H (List.replicate k [V.non]).flatten (List.replicate k PyData.none)
  | 0 => .nil
  | k + 1 => by
    rw [List.replicate_succ, List.flatten_cons, List.replicate_succ]
    exact .cons .non (nones k)
theorem ranks_len {p : Plan} {g : Page} (h : PageOk p g) : (ranksOn g).length ≤ 2000 := by
  unfold ranksOn
  rw [List.length_map]
  exact things_len h
theorem cell_len {p : Plan} {d pl : Nat} : ∀ {file : List Page}, (∀ g ∈ file, PageOk p g) → (cellRanks file d pl).length ≤ 2000 * file.length
  | [], _ => Nat.zero_le _
  | g :: file, h => by
    have h1 := cell_len (d := d) (pl := pl) (file := file) fun g' m => h g' (List.mem_cons_of_mem _ m)
    have h2 := ranks_len (h g List.mem_cons_self)
    unfold cellRanks at h1 ⊢
    rw [List.filter_cons]
    split
    · rw [List.flatMap_cons, List.length_append, List.length_cons]
      omega
    · rw [List.length_cons]
      omega
theorem flat_len {α β : Type} {f : α → List β} {b : Nat} : ∀ {as : List α}, (∀ a ∈ as, (f a).length ≤ b) → (as.flatMap f).length ≤ b * as.length
  | [], _ => Nat.le_refl _
  | a :: as, h => by
    have h1 := flat_len (as := as) fun x m => h x (List.mem_cons_of_mem _ m)
    have h2 := h a List.mem_cons_self
    rw [List.flatMap_cons, List.length_append, List.length_cons, Nat.mul_succ]
    omega
theorem flat_take {α β : Type} {f : α → List β} {as : List α} {i : Nat} {a : α} (h : as[i]? = some a) : (as.take (i + 1)).flatMap f = (as.take i).flatMap f ++ f a := by
  rw [List.take_add_one, h, List.flatMap_append]
  simp
theorem range_at {n i d : Nat} (h : (List.range n)[i]? = some d) : d = i ∧ i < n := by
  have hi := at_lt h
  rw [List.length_range] at hi
  rw [List.getElem?_range hi] at h
  exact ⟨(Option.some.inj h).symm, hi⟩
theorem cal_classes (T : Txt K mg) : Cal P w K mg base "_law_classes" 1 p_L_classes spClasses := by
  refine cal_of T.L_classes sc_L_classes (fun _ _ _ _ _ _ us hl => match us, hl with | [_, _], _ => rfl) (fun vs H Q E ⟨p, file, t, _⟩ => t.length) fun f cdv A outer s H vs Q E hr h => ?_
  obtain ⟨p, file, t, S, FO, f112, q⟩ := h
  refine ⟨_, PSs.nox (pss_cons (ps_set (i := 2) sc_L_classes.nd rfl (.inl rfl) (pe_lst pa_nil))
    (pss_cons (ps_for PassesOwn.never rfl (pi_range1 rfl T.range (pa_cons (pix K (pv 0) pe_int) pa_nil)) (pg_name (i := 3) sc_L_classes.nd rfl (.inl rfl))
      (pss_one (ps_for PassesOwn.never rfl (pi_range1 rfl T.range (pa_cons (pix K (pix K (pv 0) pe_int) pe_int) pa_nil)) (pg_name (i := 4) sc_L_classes.nd rfl (.inl rfl))
        (pss_one (ps_for PassesOwn.never rfl (pi_tup (pv 1)) (pg_name (i := 5) sc_L_classes.nd rfl (.inl rfl))
          (pss_one (ps_if (pt_cmpR (oEqD K (hu64 hr)) (pe_slice (slT K) (pv 5) po_none (po_some pe_int)) (pe_tup (pa_cons pe_str (pa_cons (pv 4) (pa_cons (pv 3) pa_nil)))) (nomark _))
            (pss_one (ps_set (i := 2) sc_L_classes.nd rfl (.inl rfl) (pe_op op_cat (pe_op op_cat (pv 2) (pe_lc rfl sc_L_classes.nd (pi_tup (pix K (pv 5) pe_int)) (own := [("_law_one", 6)]) (blkOk_by (N := n_L_classes) (sc := defScope s_L_classes) (by decide +kernel))
              (fun _ _ _ _ _ => pg_name (i := 6) sc_L_classes.nd rfl (.inl rfl)) (fun _ _ _ _ _ => pts_nil) (fun _ _ _ _ _ => pix K (pv 6) pe_int))) (pe_op op_rep (pe_lst (pa_cons pe_non pa_nil)) (pe_callB (clLen K) rfl T.len boot_len (pa_cons (pix K (pv 5) pe_int) pa_nil)))))) pss_nil)))))))
    (pss_one (ps_ret (pv 2))))), ?_⟩
  obtain ⟨v0, v1, rfl, t0, t1⟩ := t.two
  refine s_setL (dl_lst da_nil) fun l0 xs0 H1 nl0 s1 el0 tl0 => ?_
  cases tl0
  have t01 := t0.mono (.same s1)
  have t11 := t1.mono (.same s1)
  have hdn : p.days.toNat ≤ 7 ∧ p.n.toNat ≤ 8 := by
    have := S.days
    have := S.n
    omega
  have hcell : ∀ d pl, (cellRanks file d pl).length ≤ 224000 := fun d pl => by
    have := cell_len (d := d) (pl := pl) FO.pages
    omega
  have hday : ∀ d, (dayRanks p file d).length ≤ 1792000 := fun d => by
    have := flat_len (f := cellRanks file d) (b := 224000) (as := List.range p.n.toNat) fun pl _ => hcell d pl
    rw [List.length_range] at this
    unfold dayRanks
    omega
  refine q_for (L := []) (as := List.range p.days.toNat) (en := fun i : Nat => PyData.int (0 + (i : Int))) (di_range1 (de_ix (K := K) (de_var (d := planD p) (i := 0) rfl t01) (de_int (i := ((3 : Nat) : Int))) (d := .int p.days) rfl) (by have := S.days; omega)) nt_nil
    (fun i σ' H' => ∃ l a3 a4 a5 a6 xs, σ' = [some v0, some v1, some (.ref l), a3, a4, a5, a6] ∧ H l = none ∧ H' l = some (.lst xs) ∧ TdAll H' xs ((((List.range p.days.toNat).take i).flatMap (dayRanks p file)).map oI) ∧ xs.length ≤ 1792000 * i)
    (fun H2 s => ⟨l0, none, none, none, none, [], rfl, nl0, s _ _ el0, .nil, Nat.zero_le _⟩) ?_ ?_
  · rintro H2 i d x3 σ' H0 H' s2 k kT hd td ⟨l, a3, a4, a5, a6, xs, rfl, nl, el, tx, z⟩ s0
    obtain ⟨rfl, hi⟩ := range_at hd
    have e3 := td.int_
    subst e3
    refine gn ?_
    have t02 := t01.mono kT
    rw [flat_take hd]
    generalize ((List.range p.days.toNat).take d).flatMap (dayRanks p file) = cs at tx
    refine s_for (L := []) (as := List.range p.n.toNat) (en := fun i : Nat => PyData.int (0 + (i : Int))) (di_range1 (de_ix (K := K) (de_ix (K := K) (de_var (d := planD p) (i := 0) rfl t02) (de_int (i := ((0 : Nat) : Int))) (d := netD p.n p.ties) rfl) (de_int (i := ((0 : Nat) : Int))) (d := .int p.n) rfl) (by have := S.n; omega)) nt_nil
      (fun j σ' H'' => ∃ l a4 a5 a6 xs, σ' = [some v0, some v1, some (.ref l), some (.int (0 + (d : Int))), a4, a5, a6] ∧ H l = none ∧ H'' l = some (.lst xs) ∧ TdAll H'' xs ((cs ++ ((List.range p.n.toNat).take j).flatMap (cellRanks file d)).map oI) ∧ xs.length ≤ 1792000 * d + 224000 * j)
      (fun H5 s5 => ⟨l, a4, a5, a6, xs, rfl, nl, s5 _ _ (s0 _ _ el), by simpa using tx.mono (.same (s0.trans s5)), by omega⟩) ?_ ?_
    · rintro H5 j pl x4 σ' H6 H7 s5 k5 kT5 hpl tpl ⟨l, b4, b5, b6, xs, rfl, nl, el, tx, z⟩ s6
      obtain ⟨rfl, hj⟩ := range_at hpl
      have e4 := tpl.int_
      subst e4
      refine gn ?_
      have t03 := t02.mono kT5
      have t13 := (t11.mono kT).mono kT5
      rw [flat_take hpl, ← List.append_assoc]
      generalize cs ++ ((List.range p.n.toNat).take pl).flatMap (cellRanks file d) = cs2 at tx
      refine s_for (L := []) (as := file) (en := pageD) (di_tup (K := K) (de_var (d := fileD file) (i := 1) rfl t13)) nt_nil
        (fun j σ' H'' => ∃ l a5 a6 xs, σ' = [some v0, some v1, some (.ref l), some (.int (0 + (d : Int))), some (.int (0 + (pl : Int))), a5, a6] ∧ H l = none ∧ H'' l = some (.lst xs) ∧ TdAll H'' xs ((cs2 ++ cellRanks (file.take j) d pl).map oI) ∧ xs.length ≤ 1792000 * d + 224000 * pl + 2000 * j)
        (fun H8 s8 => ⟨l, b5, b6, xs, rfl, nl, s8 _ _ (s6 _ _ el), by simpa [cellRanks] using tx.mono (.same (s6.trans s8)), by omega⟩) ?_ ?_
      · rintro H8 m g x5 σ' H9 HA s8 k8 kT8 hg tg ⟨l, c5, c6, xs, rfl, nl, el, tx, z⟩ s9
        have hm := at_lt hg
        have hgo := FO.pages g (List.mem_of_getElem? hg)
        refine gn ?_
        have elA := s9 _ _ el
        have txA := tx.mono (.same s9)
        have htake : cellRanks (file.take (m + 1)) d pl = cellRanks (file.take m) d pl ++ (if atCell d pl g = true then ranksOn g else []) := by
          unfold cellRanks
          rw [List.take_add_one, hg, List.filter_append, List.flatMap_append]
          congr 1
          by_cases h : atCell d pl g = true
          · simp [h]
          · simp [h]
        rw [htake, ← List.append_assoc]
        generalize cs2 ++ cellRanks (file.take m) d pl = cs3 at txA
        have kk : KL [] H8 HA := k8.s s9
        have d5 : DE (tVar 5) [some v0, some v1, some (.ref l), some (.int (0 + (d : Int))), some (.int (0 + (pl : Int))), some x5, c6] HA (pageD g) := de_var (i := 5) rfl tg
        have c3 : DE (tSl (rSlA K) (tVar 5) tNoPart (tPart (tC (.int 3)))) [some v0, some v1, some (.ref l), some (.int (0 + (d : Int))), some (.int (0 + (pl : Int))), some x5, c6] HA (.tuple [.str g.word, .int g.place, .int g.day]) := (de_cut (K := K) (lo := none) (hi := some 3) d5 po_n (po_i de_int)).to (by cases g <;> rfl)
        have cond := dt_test (de_eqD (K := K) c3 (de_tup (da_cons (de_str (x := "office")) (da_cons (de_var (d := .int (0 + (pl : Int))) (i := 4) rfl (.int _)) (da_cons (de_var (d := .int (0 + (d : Int))) (i := 3) rfl (.int _)) da_nil)))) (shaped3 _ _ _ (word_ok g)) (shaped3 _ _ _ (by decide +kernel)))
        refine s_when (b := atCell d pl g) (cond.to (by rw [eqv3, word_office, Int.zero_add, Int.zero_add]; rfl)) (fun hb HB sB => ?_) (fun hb HB sB => ?_)
        · rw [if_pos hb]
          cases g with
          | gate gp gd gc ge => cases hb
          | office gp gd gc gpr be ba gco =>
            obtain ⟨_, _, _, hbe, hba, _⟩ := hgo
            have d5B := d5.mono sB
            have elB := sB _ _ elA
            have comp : DL (tLc (iTup K (tOp (rIxT K) (tVar 5) (tC (.int 5)))) (gName 6) tYes (tOp (rIxT K) (tVar 6) (tC (.int 2))) [6]) [some v0, some v1, some (.ref l), some (.int (0 + (d : Int))), some (.int (0 + (pl : Int))), some x5, c6] HB (be.map fun b => .int b.2.2) :=
              (dl_lc (as := be) (en := stepD) (fun _ => true) (fun b => .int b.2.2) (di_tup (K := K) (de_ix (K := K) d5B (de_int (i := ((5 : Nat) : Int))) (d := .tuple (be.map stepD)) rfl)) (big_ (by omega)) (fun _ => rfl) fun b hb v Hr sr tr => ⟨dt_yes, fun _ => de_ix (K := K) (de_var (d := stepD b) (i := 6) rfl tr) (de_int (i := ((2 : Nat) : Int))) rfl⟩).to (by rw [filter_yes])
            refine r_asg (r_op (r_op ⟨.ref l, rfl, comp.at_ fun l2 ys HC nl2 sC el2 ty => ?_⟩))
            have hly := ty.length
            rw [List.length_map] at hly
            refine ⟨l, l2, xs, ys, rfl, rfl, sC _ _ elB, el2, ?_, fun p3 np3 => ?_⟩
            · rw [hly]
              exact Nat.le_trans (by omega : xs.length + be.length ≤ 15000000) (by decide)
            have s3 := same_new (H := HC) (o := .lst (xs ++ ys)) np3
            refine r_op ⟨by decide, fun l4 nl4 => ?_⟩
            have s4 := same_new (o := .lst [.non]) nl4
            refine (de_lenT (K := K) (de_ix (K := K) (d5B.mono ((sC.trans s3).trans s4)) (de_int (i := ((6 : Nat) : Int))) (d := .tuple (ba.map pairD)) rfl)).at_ fun vk HD sD tk => ?_
            rw [List.length_map] at tk
            rw [tk.int_]
            refine ⟨l4, (ba.length : Int), [.non], rfl, rfl, sD _ _ upd_same, by omega, by omega, ?_, fun p5 np5 => ?_⟩
            · show 1 * ((ba.length : Int)).toNat ≤ sizeLine
              rw [Int.toNat_natCast, Nat.one_mul]
              exact Nat.le_of_lt (big_ (by omega))
            rw [Int.toNat_natCast]
            have s5' := same_new (H := HD) (o := .lst (List.replicate ba.length [V.non]).flatten) np5
            have s35 := (s4.trans sD).trans s5'
            have hlr := (nones (H := HD) ba.length).length
            rw [List.length_replicate] at hlr
            refine ⟨p3, p5, xs ++ ys, (List.replicate ba.length [V.non]).flatten, rfl, rfl, s35 _ _ upd_same, upd_same, ?_, fun p6 np6 => ?_⟩
            · rw [hlr, List.length_append, hly]
              exact Nat.le_trans (by omega : xs.length + be.length + ba.length ≤ 15000000) (by decide)
            have s6' := same_new (o := .lst ((xs ++ ys) ++ (List.replicate ba.length [V.non]).flatten)) np6
            have sAll : Same HC _ := ((s3.trans s35).trans s6')
            have sTot : Same HA _ := (sB.trans sC).trans sAll
            refine gn ⟨kk.s sTot, p6, some x5, c6, _, rfl, ?_, upd_same, ?_, ?_⟩
            · have hH8 : Same H H8 := ((s1.trans (((KL.of s2).trans k).same nofun)).trans ((s0.trans s5).trans ((k5.same nofun).trans (s6.trans s8))))
              exact (hH8.trans ((kk.s (sB.trans sC)).same nofun)).free ((s3.trans s35).free np6)
            · have e1 : (cs3 ++ ranksOn (.office gp gd gc gpr be ba gco)).map oI = (cs3.map oI ++ be.map fun b => PyData.int b.2.2) ++ List.replicate ba.length PyData.none := by
                unfold ranksOn thingsOn
                rw [List.map_append, List.map_append, List.map_append, List.map_map, List.map_map, List.map_map, List.map_map, List.append_assoc]
                congr 2
                rw [← List.map_const']
                rfl
              rw [e1]
              exact ((((txA.mono (.same (sB.trans sC))).mono (.same sAll)).append (ty.mono (.same sAll)))).append (nones _)
            · rw [List.length_append, List.length_append, hlr, hly]
              omega
        · rw [if_neg (by rw [hb]; decide), List.append_nil]
          exact ⟨kk.s sB, l, some x5, c6, xs, rfl, nl, sB _ _ elA, txA.mono (.same sB), by omega⟩
      · rintro σ'' H'' k8 ⟨l, c5, c6, xs, rfl, nl, el, tx, z⟩
        rw [List.take_length] at tx
        exact ⟨(k5.s s6).trans k8, l, _, _, _, xs, rfl, nl, el, tx, by omega⟩
    · rintro σ'' H'' k5 ⟨l, b4, b5, b6, xs, rfl, nl, el, tx, z⟩
      have e : (List.range p.n.toNat).take (List.range p.n.toNat).length = List.range p.n.toNat := List.take_length
      rw [e] at tx
      rw [List.length_range] at z
      exact ⟨(k.s s0).trans k5, l, _, _, _, _, xs, rfl, nl, el, tx, by omega⟩
  · rintro σ' H' k ⟨l, a3, a4, a5, a6, xs, rfl, nl, el, tx, z⟩
    rw [List.take_length] at tx
    exact ⟨_, rfl, q l xs H' nl (s1.trans (k.same nofun)) el tx⟩
theorem cal_right (T : Txt K mg) : Cal P w K mg base "_law_right" 5 p_L_right spRight := by
  refine cal_of T.L_right sc_L_right (fun _ _ _ _ _ _ us hl => match us, hl with | [_, _, _], _ => rfl) (fun vs H Q E ⟨v0, v1, l, p, i, n, xs, qs, now, gone, e, _⟩ => by rw [e]; rfl) fun f cdv A outer s H vs Q E hr h => ?_
  obtain ⟨v0, v1, l, p, i, n, xs, qs, now, gone, rfl, t0, t1, el, tl, O, hi, hnow, hrun, q⟩ := h
  have C : Cal P w K mg base "fare" 4 p_fare (spF M_fare) := cal_fare T
  refine ⟨_, PSs.nox (pss_cons (ps_asg (pv 1) (pgt K 2 (pgs_cons (pg_name (i := 3) sc_L_right.nd rfl (.inl rfl)) (pgs_cons (pg_name (i := 4) sc_L_right.nd rfl (.inl rfl)) pgs_nil))))
    (pss_cons (ps_par3 (i := 5) (j := 6) (l := 7) rfl sc_L_right.nd rfl rfl rfl (by decide) (by decide) (by decide) rfl rfl rfl (pa_cons (pix K (pix K (pix K (pv 0) pe_int) (pv 3)) pe_int) (pa_cons pe_bl (pa_cons (pe_cal C hr rfl (pa_cons (pv 0) (pa_cons (pv 3) (pa_cons (pix K (pix K (pix K (pv 0) pe_int) (pv 3)) pe_int) pa_nil)))) pa_nil))) (by kernel_rfl))
    (pss_cons (ps_for PassesOwn.never rfl (pi_list (pv 2)) (pgt K 2 (pgs_cons (pg_name (i := 8) sc_L_right.nd rfl (.inl rfl)) (pgs_cons (pg_name (i := 9) sc_L_right.nd rfl (.inl rfl)) pgs_nil)))
      (pss_cons (ps_set (i := 7) sc_L_right.nd rfl (.inl rfl) (pe_op op_add (pv 7) (pix K (pv 8) pe_int)))
      (pss_one (ps_if (pt_cmpR op_ne (pix K (pv 8) pe_int) pe_str (nomark _)) (pss_one (ps_if (pt_cmpR op_ne (pix K (pv 8) pe_int) pe_int (nomark _)) (pss_one (ps_ret pe_bl)) pss_nil))
        (pss_one (ps_if (pt_val (pv 6)) (pss_one (ps_ret pe_bl))
          (pss_one (ps_if (pt_cmpR op_eq (pix K (pv 8) pe_int) pe_str (nomark _)) (pss_one (ps_set (i := 6) sc_L_right.nd rfl (.inl rfl) pe_bl))
            (pss_one (ps_if (pt_cmpR op_le (pv 9) (pv 5) (nomark _)) (pss_one (ps_ret pe_bl)) (pss_one (ps_set (i := 5) sc_L_right.nd rfl (.inl rfl) (pv 9)))))))))))))
    (pss_cons (ps_set (i := 10) sc_L_right.nd rfl (.inl rfl) (pixL K (pe_lst (pa_cons (pe_cal C hr rfl (pa_cons (pv 0) (pa_cons (pv 3) (pa_cons (pv 5) pa_nil)))) (pa_cons pe_int pa_nil))) (pe_callTy call_int1 rfl T.int PySem.Pv.boot_int (pa_cons (pv 6) pa_nil))))
    (pss_one (ps_ret (pe_cmpR op_eq (pv 7) (pv 10) (nomark _)))))))), ?_⟩
  have hk : p.stock[i]? = some p.stock[i] := List.getElem?_eq_getElem hi
  have hR := (O.racks _ (List.getElem_mem hi)).rank
  have er : rackRank p i = p.stock[i].2.2.1 := by
    unfold rackRank
    rw [hk]
  refine q_seq (r_asg ⟨v1, rfl, g_pair t1 fun x3 x4 t3 t4 => ?_⟩)
  rw [t3.int_]
  have d0 : ∀ {σ : L2.St} {H' : Hp}, σ[0]? = some (some v0) → Same H H' → DE (tVar 0) σ H' (planD p) := fun h s => de_var h (t0.mono (.same s))
  have d3 : ∀ {σ : L2.St} {H' : Hp}, σ[3]? = some (some (.int (i : Int))) → DE (tVar 3) σ H' (.int (i : Int)) := fun h => de_var h (.int _)
  have dr : ∀ {σ : L2.St} {H' : Hp}, σ[0]? = some (some v0) → σ[3]? = some (some (.int (i : Int))) → Same H H' → DE (tOp (rIxT K) (tOp (rIxT K) (tOp (rIxT K) (tVar 0) (tC (.int 2))) (tVar 3)) (tC (.int 2))) σ H' (.int ((rackRank p i).toNat : Int)) := fun h0 h3 s => by
    rw [er, Int.toNat_of_nonneg hR.1]
    exact de_ix (K := K) (i := 2) (de_ix (K := K) (i := i) (de_ix (K := K) (d0 h0 s) (de_int (i := ((2 : Nat) : Int))) rfl) (d3 h3) (quad_at hk)) (de_int (i := ((2 : Nat) : Int))) rfl
  refine q_seq ?_
  refine (dr rfl rfl (Same.refl _)).at_ fun x5 H1 s1 t5 => ?_
  refine (de_call (M := M_fare) (E := E0) (da_cons (d0 rfl s1) (da_cons (d3 rfl) (da_cons (dr rfl rfl s1) da_nil))) (d := .int (fareOf p i (rackRank p i).toNat)) ⟨p, i, (rackRank p i).toNat, rfl, O, hi, by rw [er]; exact hR.2, rfl⟩).at_ fun x7 H2 s2 t7 => ⟨x5, .bl false, x7, rfl, ?_⟩
  rw [t5.int_, t7.int_]
  have s12 := s1.trans s2
  have el2 := s12 _ _ el
  have erk : ((rackRank p i).toNat : Int) = rackRank p i := by
    rw [er, Int.toNat_of_nonneg hR.1]
  dsimp only
  refine q_seq ?_
  refine ⟨.ref l, rfl, l, rfl, ⟨xs, .of el2⟩, ?_⟩
  have ff : ∀ {z : Str} {H3 : Hp} {D : Ends} {σ : L2.St}, False → tRet (tC (.bl false)) D σ H3 := fun h => h.elim
  refine for_walk (L := []) (H2 := H2) (as := qs) (en := rowTD) (list_walk (K := K) (a := l) (tl.mono (.same s12))) nt_nil (fun H' k => ⟨k _ _ (by simp) el2, k.tk nt_nil⟩)
    (fun j σ' H' => ∃ (nw : Int) (gn : Bool) (co : Int) (a8 a9 : Option V), σ' = [some v0, some v1, some (.ref l), some (.int (i : Int)), some x4, some (.int nw), some (.bl gn), some (.int co), a8, a9, none] ∧ run (qs.drop j) (nw, gn, co) = some ((now : Int), gone, if gone then 0 else fareOf p i now))
    ⟨((rackRank p i).toNat : Int), false, _, none, none, rfl, by rw [erk]; exact hrun⟩ ?_ ?_
  · rintro j qq x σ' H0 H' k kT hd td ⟨nw, gnn, co, a8, a9, rfl, hrn⟩ s0
    have hj := at_lt hd
    have ed : qs.drop j = qq :: qs.drop (j + 1) := by
      rw [List.drop_eq_getElem_cons hj]
      rw [List.getElem?_eq_getElem hj] at hd
      rw [Option.some.inj hd]
    rw [ed] at hrn
    have hst : ∃ s', rightStep (nw, gnn, co) qq = some s' ∧ run (qs.drop (j + 1)) s' = some ((now : Int), gone, if gone then 0 else fareOf p i now) := by
      unfold run at hrn
      cases e : rightStep (nw, gnn, co) qq with
      | none =>
        rw [e] at hrn
        cases hrn
      | some s' =>
        rw [e] at hrn
        exact ⟨s', rfl, hrn⟩
    obtain ⟨s', hs, hrun'⟩ := hst
    refine g_pair (d1 := rowD qq.1) (d2 := oI qq.2) td fun x8 x9 t8 t9 => ?_
    have kk := k.s s0
    refine s_set (i := 7) (de_I0 (c := .int (co + qq.1.2.2.2.2.2.1)) (de_var (d := .int co) (i := 7) rfl (.int _)) (de_ix (K := K) (de_var (d := rowD qq.1) (i := 8) rfl t8) (de_int (i := ((5 : Nat) : Int))) (d := .int qq.1.2.2.2.2.2.1) rfl)) fun x7' H3 s3 t7' => ?_
    rw [t7'.int_]
    have t83 := t8.mono (.same s3)
    refine s_if (dt_test (de_neS (de_ix (K := K) (de_var (d := rowD qq.1) (i := 8) rfl t83) (de_int (i := ((6 : Nat) : Int))) (d := .str qq.1.2.2.2.2.2.2) rfl) (de_str (x := "good")))) (fun hb H4 s4 => ?_) (fun hb H4 s4 => ?_)
    · have hne : qq.1.2.2.2.2.2.2 ≠ "good" := by
        intro e
        rw [e] at hb
        simp at hb
      unfold rightStep at hs
      rw [if_pos hne] at hs
      refine s_when (dt_test (de_neI (de_ix (K := K) (de_var (d := rowD qq.1) (i := 8) rfl (t83.mono (.same s4))) (de_int (i := ((5 : Nat) : Int))) (d := .int qq.1.2.2.2.2.2.1) rfl) (de_int (i := 0)))) (fun hb2 H5 s5 => ?_) (fun hb2 H5 s5 => ?_)
      · have hne2 : qq.1.2.2.2.2.2.1 ≠ 0 := by
          intro e
          rw [e] at hb2
          simp at hb2
        rw [if_pos hne2] at hs
        cases hs
      · have he2 : qq.1.2.2.2.2.2.1 = 0 := by
          have : decide (qq.1.2.2.2.2.2.1 = 0) = true := by simpa using hb2
          exact of_decide_eq_true this
        rw [if_neg (by simp [he2])] at hs
        cases hs
        exact ⟨((kk.s s3).s s4).s s5, _, _, _, _, _, rfl, hrun'⟩
    · have he : qq.1.2.2.2.2.2.2 = "good" := by
        have : decide (qq.1.2.2.2.2.2.2 = "good") = true := by simpa using hb
        exact of_decide_eq_true this
      unfold rightStep at hs
      rw [if_neg (by simp [he])] at hs
      refine s_ifT ⟨.bl gnn, rfl, gnn, rfl, ?_⟩
      cases gnn with
      | true =>
        rw [if_pos rfl] at hs
        cases hs
      | false =>
        rw [if_neg (by simp)] at hs
        refine no_ rfl ?_
        refine s_if (dt_test (de_eqS (de_ix (K := K) (de_var (d := rowD qq.1) (i := 8) rfl (t83.mono (.same s4))) (de_int (i := ((2 : Nat) : Int))) (d := .str qq.1.2.2.1) rfl) (de_str (x := "back")))) (fun hb2 H5 s5 => ?_) (fun hb2 H5 s5 => ?_)
        · rw [if_pos (of_decide_eq_true hb2)] at hs
          cases hs
          exact r_asg (gn ⟨((kk.s s3).s s4).s s5, _, _, _, _, _, rfl, hrun'⟩)
        · rw [if_neg (of_decide_eq_false hb2)] at hs
          cases hq2 : qq.2 with
          | none =>
            rw [hq2] at hs
            cases hs
          | some kr =>
            rw [hq2] at hs t9
            replace hs : (if kr ≤ nw then none else some (kr, false, co + qq.1.2.2.2.2.2.1)) = some s' := hs
            have t95 := t9.mono (.same ((s3.trans s4).trans s5))
            refine s_if (dt_test (de_I0 (c := .bool (decide (kr ≤ nw))) (de_var (d := .int kr) (i := 9) rfl t95) (de_var (d := .int nw) (i := 5) rfl (.int _)))) (fun hb3 H6 s6 => ?_) (fun hb3 H6 s6 => ?_)
            · rw [if_pos (of_decide_eq_true hb3)] at hs
              cases hs
            · rw [if_neg (of_decide_eq_false hb3)] at hs
              cases hs
              refine s_set1 (i := 5) (de_var (d := .int kr) (i := 9) rfl (t95.mono (.same s6))) fun y H7 s7 ty => ?_
              rw [ty.int_]
              exact ⟨((((kk.s s3).s s4).s s5).s s6).s s7, _, _, _, _, _, rfl, hrun'⟩
  · rintro σ' H' k ⟨nw, gnn, co, a8, a9, rfl, hrn⟩
    rw [List.drop_length] at hrn
    have e := Option.some.inj hrn
    cases e
    have sH := s12.trans (k.same nofun)
    have df := de_call (M := M_fare) (E := E0) (da_cons (d0 (σ := [some v0, some v1, some (.ref l), some (.int (i : Int)), some x4, some (.int (now : Int)), some (.bl gone), some (.int (if gone = true then 0 else fareOf p i now)), a8, a9, none]) rfl sH) (da_cons (d3 rfl) (da_cons (de_var (d := .int (now : Int)) (i := 5) rfl (.int _)) da_nil))) (d := .int (fareOf p i now)) ⟨p, i, now, rfl, O, hi, hnow, rfl⟩
    have dg : DE (tCB (fun xs H Q => (∃ i, xs = [.int i] ∧ Q (.int i) H) ∨ ∃ k, xs = [.bl k] ∧ Q (.int (if k then 1 else 0)) H) (tCons (tVar 6) tNil)) [some v0, some v1, some (.ref l), some (.int (i : Int)), some x4, some (.int (now : Int)), some (.bl gone), some (.int (if gone = true then 0 else fareOf p i now)), a8, a9, none] H' (.int ((if gone then 1 else 0 : Nat) : Int)) := fun H1 s1 Q' q' => ⟨.bl gone, rfl, .inr ⟨gone, rfl, by
      have := q' (.int ((if gone then 1 else 0 : Nat) : Int)) H1 (Same.refl _) (.int _)
      cases gone <;> exact this⟩⟩
    dsimp only
    refine s_set (i := 10) (d := .int (if gone then 0 else fareOf p i now)) (de_ixN (K := K) (dl_lst (da_cons df (da_cons (de_int (i := 0)) da_nil))) dg (by cases gone <;> rfl)) fun y H3 s3 ty => ?_
    refine s_ret (de_eqI (de_var (d := .int (if gone = true then 0 else fareOf p i now)) (i := 7) rfl (.int _)) (de_var (i := 10) rfl ty)) fun v H4 s4 tv => ?_
    rw [tv.bool_, decide_eq_true rfl]
    exact q H4 ((sH.trans s3).trans s4)
theorem cal_keptL (T : Txt K mg) : Cal P w K mg base "_law_kept" 5 p_L_kept spKeptL := by
  refine cal_of T.L_kept sc_L_kept (fun _ _ _ _ _ _ us hl => match us, hl with | [_, _], _ => rfl) (fun vs H Q E ⟨v0, l, p, i, xs, q0, qs, e, _⟩ => by rw [e]; rfl) fun f cdv A outer s H vs Q E hr h => ?_
  obtain ⟨v0, l, p, i, xs, q0, qs, rfl, t0, el, tl, O, hi, h0, hrk, q⟩ := h
  have C : Cal P w K mg base "fare" 4 p_fare (spF M_fare) := cal_fare T
  refine ⟨_, PSs.nox (pss_cons (ps_par (i := 2) (j := 3) rfl sc_L_kept.nd rfl rfl (by decide) rfl rfl (pa_cons (pix K (pix K (pixL K (pv 1) pe_int) pe_int) pe_int) (pa_cons (pix K (pix K (pix K (pv 0) pe_int) (pix K (pix K (pixL K (pv 1) pe_int) pe_int) pe_int)) pe_int) pa_nil)) (by kernel_rfl))
    (pss_cons (ps_for PassesOwn.never rfl (pi_list (pv 1)) (pgt K 2 (pgs_cons (pg_name (i := 4) sc_L_kept.nd rfl (.inl rfl)) (pgs_cons (pg_name (i := 5) sc_L_kept.nd rfl (.inl rfl)) pgs_nil)))
      (pss_cons (ps_if (PW.pt (pw_and (pt_cmpR op_eq (pix K (pv 4) pe_int) pe_str (nomark _)) (pw_and1 (pt_cmpR op_eq (pix K (pv 4) pe_int) pe_str (nomark _))))) (pss_one (ps_ret pe_int)) pss_nil)
      (pss_one (ps_if (pt_cmpR op_eq (pix K (pv 4) pe_int) pe_str (nomark _)) (pss_one (ps_set (i := 3) sc_L_kept.nd rfl (.inl rfl) (pv 5))) pss_nil))))
    (pss_one (ps_ret (pe_cal C hr rfl (pa_cons (pv 0) (pa_cons (pv 2) (pa_cons (pv 3) pa_nil)))))))), ?_⟩
  have hk : p.stock[i]? = some p.stock[i] := List.getElem?_eq_getElem hi
  have hR := (O.racks _ (List.getElem_mem hi)).rank
  have er : rackRank p i = p.stock[i].2.2.1 := by
    unfold rackRank
    rw [hk]
  obtain ⟨y0, ys, rfl, ty0, _⟩ := TdAll.cons_ (d := rowTD q0) (ds := qs.map rowTD) tl
  have dk : ∀ {σ : L2.St} {H' : Hp}, σ[1]? = some (some (.ref l)) → Same H H' → DE (tOp (rIxT K) (tOp (rIxT K) (tOp (rIxL K) (tVar 1) (tC (.int 0))) (tC (.int 0))) (tC (.int 3))) σ H' (.int (i : Int)) := fun h s =>
    (de_ix (K := K) (i := 3) (de_ix (K := K) (i := 0) (d := rowD q0.1) (de_lst (K := K) (or_var h) (s _ _ el) (de_int (i := 0)) (v := y0) (d := rowTD q0) (atI_nat (xs := y0 :: ys) (j := 0) rfl) (ty0.mono (.same s))) (de_int (i := ((0 : Nat) : Int))) rfl) (de_int (i := ((3 : Nat) : Int))) (d := .int q0.1.2.2.2.1) rfl).to (by rw [h0])
  refine q_seq ?_
  refine (dk rfl (Same.refl _)).at_ fun x2 H1 s1 t2 => ?_
  refine (de_ix (K := K) (i := 2) (de_ix (K := K) (i := i) (de_ix (K := K) (de_var (σ := start n_L_kept [v0, .ref l]) (d := planD p) (i := 0) rfl (t0.mono (.same s1))) (de_int (i := ((2 : Nat) : Int))) rfl) (dk rfl s1) (quad_at hk)) (de_int (i := ((2 : Nat) : Int))) (d := .int p.stock[i].2.2.1) rfl).at_ fun x3 H2 s2 t3 => ⟨x2, x3, rfl, ?_⟩
  rw [t2.int_, t3.int_]
  have s12 := s1.trans s2
  have el2 := s12 _ _ el
  dsimp only
  refine q_seq ?_
  refine ⟨.ref l, rfl, l, rfl, ⟨y0 :: ys, .of el2⟩, ?_⟩
  refine for_walk (L := []) (H2 := H2) (as := q0 :: qs) (en := rowTD) (list_walk (K := K) (a := l) (tl.mono (.same s12))) nt_nil (fun H' k => ⟨k _ _ (by simp) el2, k.tk nt_nil⟩)
    (fun j σ' H' => ∃ (rk : Nat) (a4 a5 : Option V), σ' = [some v0, some (.ref l), some (.int (i : Int)), some (.int (rk : Int)), a4, a5] ∧ rk < p.rates.length ∧ keptGo p i ((q0 :: qs).drop j) (rk : Int) = keptGo p i (q0 :: qs) (rackRank p i))
    ⟨p.stock[i].2.2.1.toNat, none, none, by rw [Int.toNat_of_nonneg hR.1]; rfl, hR.2, by rw [er, Int.toNat_of_nonneg hR.1]; rfl⟩ ?_ ?_
  · rintro j qq x σ' H0 H' k kT hd td ⟨rk, a4, a5, rfl, hrl, hgo⟩ s0
    have hj := at_lt hd
    have ed : (q0 :: qs).drop j = qq :: (q0 :: qs).drop (j + 1) := by
      rw [List.drop_eq_getElem_cons hj]
      rw [List.getElem?_eq_getElem hj] at hd
      rw [Option.some.inj hd]
    rw [ed] at hgo
    have hmem := List.mem_of_getElem? hd
    refine g_pair (d1 := rowD qq.1) (d2 := oI qq.2) td fun x4 x5 t4 t5 => ?_
    have kk := k.s s0
    have sH' : Same H H' := s12.trans (kk.same nofun)
    have d4 : ∀ {H3 : Hp}, Same H' H3 → DE (tVar 4) [some v0, some (.ref l), some (.int (i : Int)), some (.int (rk : Int)), some x4, some x5] H3 (rowD qq.1) := fun s => de_var (i := 4) rfl (t4.mono (.same s))
    have dgood : ∀ {H3 : Hp}, Same H' H3 → DT (tTest (tOp rEq (tOp (rIxT K) (tVar 4) (tC (.int 6))) (tC (.str "good")))) [some v0, some (.ref l), some (.int (i : Int)), some (.int (rk : Int)), some x4, some x5] H3 (decide (qq.1.2.2.2.2.2.2 = "good")) := fun s => dt_test (de_eqS (de_ix (K := K) (d4 s) (de_int (i := ((6 : Nat) : Int))) (d := .str qq.1.2.2.2.2.2.2) rfl) (de_str (x := "good")))
    refine q_when (dt_and (dgood (Same.refl _)) fun _ => dt_test (de_eqS (de_ix (K := K) (d4 (Same.refl _)) (de_int (i := ((2 : Nat) : Int))) (d := .str qq.1.2.2.1) rfl) (de_str (x := "back")))) (fun hb H3 s3 => ?_) (fun hb H3 s3 => ?_)
    · rw [Bool.and_eq_true] at hb
      have e1 := of_decide_eq_true hb.1
      have e2 := of_decide_eq_true hb.2
      refine s_ret (de_int (i := 0)) fun v H4 s4 tv => ?_
      rw [tv.int_]
      have := q H4 ((sH'.trans s3).trans s4)
      rw [← hgo] at this
      unfold keptGo at this
      rw [if_pos e1, if_pos e2] at this
      exact this
    · refine s_when (dgood s3) (fun hb2 H4 s4 => ?_) (fun hb2 H4 s4 => ?_)
      · have e1 := of_decide_eq_true hb2
        have e2 : qq.1.2.2.1 ≠ "back" := fun e => by
          rw [hb2, decide_eq_true e] at hb
          cases hb
        obtain ⟨kr, hkr, hkl⟩ := hrk qq hmem e1 e2
        rw [hkr] at t5
        refine s_set1 (i := 3) (de_var (d := .int (kr : Int)) (i := 5) rfl (t5.mono (.same (s3.trans s4)))) fun y H5 s5 ty => ?_
        rw [ty.int_]
        refine ⟨((kk.s s3).s s4).s s5, kr, _, _, rfl, hkl, ?_⟩
        rw [← hgo]
        conv => rhs; unfold keptGo
        rw [if_pos e1, if_neg e2, hkr]
        rfl
      · have e1 := of_decide_eq_false hb2
        refine ⟨(kk.s s3).s s4, rk, _, _, rfl, hrl, ?_⟩
        rw [← hgo]
        conv => rhs; unfold keptGo
        rw [if_neg e1]
  · rintro σ' H' k ⟨rk, a4, a5, rfl, hrl, hgo⟩
    rw [List.drop_length] at hgo
    have sH := s12.trans (k.same nofun)
    dsimp only
    refine s_ret (de_call (M := M_fare) (E := E0) (da_cons (de_var (d := planD p) (i := 0) rfl (t0.mono (.same sH))) (da_cons (de_var (d := .int (i : Int)) (i := 2) rfl (.int _)) (da_cons (de_var (d := .int (rk : Int)) (i := 3) rfl (.int _)) da_nil))) (d := .int (fareOf p i rk)) ⟨p, i, rk, rfl, O, hi, hrl, rfl⟩) fun v H4 s4 tv => ?_
    rw [tv.int_]
    have := q H4 (sH.trans s4)
    rw [← hgo] at this
    exact this
end
end Tk

set_option Elab.async false
set_option linter.all false
set_option maxRecDepth 100000
set_option maxHeartbeats 4000000
/-! The pages by days are the cells' pages, cell by cell. -/
namespace Tk
open PySem PySem.Spec PyProof.Rows L2
theorem leDP_iff (a b : Page) : leDP a b = true ↔ a.day < b.day ∨ (a.day = b.day ∧ a.place ≤ b.place) := by
  unfold leDP
  rw [PySem.W.dataLe_eq]
  show (!PySem.W.dataLt (PyData.tuple [.int b.day, .int b.place]) (PyData.tuple [.int a.day, .int a.place])) = true ↔ _
  rw [PySem.W.dataLt_ii]
  simp only [Bool.not_eq_true', decide_eq_false_iff_not]
  omega
theorem leDP_trans (a b c : Page) (h1 : leDP a b = true) (h2 : leDP b c = true) : leDP a c = true := by
  rw [leDP_iff] at *
  omega
theorem leDP_total (a b : Page) : (leDP a b || leDP b a) = true := by
  rw [Bool.or_eq_true, leDP_iff, leDP_iff]
  omega
/-- a sorted list falls apart at a bound -/
theorem sorted_cut {α : Type} (κ : α → Int) (N : Int) : ∀ {M : List α}, M.Pairwise (fun a b => κ a ≤ κ b) → (∀ a ∈ M, κ a < N + 1) → M = M.filter (fun a => decide (κ a < N)) ++ M.filter fun a => decide (κ a = N)
  | [], _, _ => rfl
  | a :: M, s, h => by
    obtain ⟨s1, s2⟩ := List.pairwise_cons.mp s
    have ih := sorted_cut κ N s2 fun b m => h b (List.mem_cons_of_mem _ m)
    by_cases ha : κ a < N
    · rw [List.filter_cons_of_pos (by exact decide_eq_true ha), List.filter_cons_of_neg (by simp; omega), List.cons_append, ← ih]
    · have ha2 : κ a = N := by
        have := h a List.mem_cons_self
        omega
      have hn : M.filter (fun a => decide (κ a < N)) = [] := List.filter_eq_nil_iff.mpr fun b m => by
        have := s1 b m
        simp
        omega
      rw [List.filter_cons_of_neg (by simp; omega), List.filter_cons_of_pos (by exact decide_eq_true ha2), hn, List.nil_append]
      rw [hn, List.nil_append] at ih
      rw [← ih]
theorem flat_congr {α β : Type} {f g : α → List β} : ∀ {l : List α}, (∀ a ∈ l, f a = g a) → l.flatMap f = l.flatMap g
  | [], _ => rfl
  | a :: l, h => by
    rw [List.flatMap_cons, List.flatMap_cons, h a List.mem_cons_self, flat_congr fun b m => h b (List.mem_cons_of_mem _ m)]
theorem sorted_split {α : Type} (κ : α → Int) : ∀ (N : Nat) {M : List α}, M.Pairwise (fun a b => κ a ≤ κ b) → (∀ a ∈ M, 0 ≤ κ a ∧ κ a < (N : Int)) → M = (List.range N).flatMap fun k : Nat => M.filter fun a => decide (κ a = (k : Int))
  | 0, M, _, h => by
    cases M with
    | nil => rfl
    | cons a M =>
      have := h a List.mem_cons_self
      omega
  | N + 1, M, s, h => by
    have e := sorted_cut κ (N : Int) s fun a m => by
      have := (h a m).2
      omega
    have ih := sorted_split κ N (M := M.filter fun a => decide (κ a < (N : Int))) (s.filter _) fun a m => by
      obtain ⟨m1, m2⟩ := List.mem_filter.mp m
      exact ⟨(h a m1).1, of_decide_eq_true m2⟩
    rw [List.range_succ, List.flatMap_append, List.flatMap_cons, List.flatMap_nil, List.append_nil]
    refine Eq.trans e ?_
    congr 1
    refine ih.trans (flat_congr fun k hk => ?_)
    rw [List.filter_filter]
    have hk := List.mem_range.mp hk
    refine List.filter_congr fun a _ => ?_
    by_cases z : κ a = (k : Int)
    · simp [z]
      omega
    · simp [z]
/-- a sort keeps the order of equals -/
theorem stable_filter {file : List Page} (d pl : Int) : (file.mergeSort leDP).filter (fun g => decide (g.place = pl) && decide (g.day = d)) = file.filter (fun g => decide (g.place = pl) && decide (g.day = d)) := by
  have hp : (file.filter (fun g => decide (g.place = pl) && decide (g.day = d))).Pairwise (fun a b => leDP a b = true) := by
    refine List.pairwise_of_forall_mem_list fun a ha b hb => ?_
    have h1 := (List.mem_filter.mp ha).2
    have h2 := (List.mem_filter.mp hb).2
    simp at h1 h2
    rw [leDP_iff]
    omega
  have hs := List.sublist_mergeSort (le := leDP) leDP_trans leDP_total hp (List.filter_sublist (l := file))
  have hs2 := hs.filter (fun g => decide (g.place = pl) && decide (g.day = d))
  rw [List.filter_filter] at hs2
  simp only [Bool.and_self] at hs2
  exact (hs2.eq_of_length ((List.mergeSort_perm file leDP).filter _).length_eq.symm).symm
theorem byDays_cells {p : Plan} {file : List Page} (G : ∀ g ∈ file, InGrid p g) : pagesByDays file = (List.range p.days.toNat).flatMap fun d => (List.range p.n.toNat).flatMap fun pl => file.filter (atCell d pl) := by
  have hs := List.pairwise_mergeSort (le := leDP) leDP_trans leDP_total (file.filter isOffice)
  have hg : ∀ a ∈ pagesByDays file, InGrid p a := fun a m => G a (byDays_mem.mp m).1
  have h1 := sorted_split Page.day p.days.toNat (M := pagesByDays file) (hs.imp fun {a b} h => by
    rw [leDP_iff] at h
    omega) fun a m => by
      obtain ⟨g1, g2, _, _⟩ := hg a m
      exact ⟨g1, by omega⟩
  refine h1.trans (flat_congr fun d _ => ?_)
  have hs2 : ((pagesByDays file).filter fun a => decide (a.day = (d : Int))).Pairwise fun a b => a.place ≤ b.place := by
    have h3 : ((pagesByDays file).filter fun a => decide (a.day = (d : Int))).Pairwise (fun a b => leDP a b = true) := hs.filter _
    refine List.Pairwise.imp_of_mem ?_ h3
    intro a b ha hb h
    have h1 := (List.mem_filter.mp ha).2
    have h2 := (List.mem_filter.mp hb).2
    simp at h1 h2
    rw [leDP_iff] at h
    omega
  have h2 := sorted_split Page.place p.n.toNat hs2 fun a m => by
    obtain ⟨_, _, g1, g2⟩ := hg a (List.mem_filter.mp m).1
    exact ⟨g1, by omega⟩
  refine h2.trans (flat_congr fun pl _ => ?_)
  rw [List.filter_filter]
  have h3 := stable_filter (file := file.filter isOffice) (d : Int) (pl : Int)
  refine h3.trans ?_
  rw [List.filter_filter]
  refine List.filter_congr fun g _ => ?_
  unfold atCell
  exact Bool.and_comm ..
theorem flatMap_flatMap' {α β γ : Type} (f : α → List β) (g : β → List γ) : ∀ l : List α, (l.flatMap f).flatMap g = l.flatMap fun a => (f a).flatMap g
  | [] => rfl
  | a :: l => by
    rw [List.flatMap_cons, List.flatMap_append, List.flatMap_cons, flatMap_flatMap' f g l]
theorem classes_eq {p : Plan} {file : List Page} (G : ∀ g ∈ file, InGrid p g) : classesOf p file = (pagesByDays file).flatMap ranksOn := by
  rw [byDays_cells G, flatMap_flatMap']
  unfold classesOf dayRanks cellRanks
  refine flat_congr fun d _ => ?_
  rw [flatMap_flatMap']
end Tk

set_option Elab.async false
set_option linter.all false
set_option maxRecDepth 100000
set_option maxHeartbeats 4000000
/-! The ledger's rows with their ranks; a ticket's rows run right. -/
namespace Tk
open PySem PySem.Spec PyProof.Rows L2
def tickQ (i n : Int) (q : RowT) : Bool := decide (q.1.2.2.2.1 = i) && decide (q.1.2.2.2.2.1 = n)
def rowsT (p : Plan) (file : List Page) : List RowT := (ledgerOf p file).zip (classesOf p file)
abbrev PT := Page × Thing
def rowsFrom (p : Plan) (odds : List Seeing) (ends : Two) : Two → Gone → List PT → List RowT
  | _, _, [] => []
  | ra, go, q :: ts =>
    if wordFor p odds ends ra go q.1.place q.1.day q.2 = "good" then (rowOf q.1 q.2 (thingCoin p ra q.2) "good", q.2.2.2.2) :: rowsFrom p odds ends (ranksThen ra q.2) (goneThen go q.2) ts
    else (rowOf q.1 q.2 0 (wordFor p odds ends ra go q.1.place q.1.day q.2), q.2.2.2.2) :: rowsFrom p odds ends ra go ts
def pts (gs : List Page) : List PT := gs.flatMap fun g => (thingsOn g).map fun t => (g, t)
section
variable {p : Plan} {odds : List Seeing} {ends : Two}
theorem rows_snd : ∀ (ts : List PT) (ra : Two) (go : Gone), (rowsFrom p odds ends ra go ts).map (fun q => q.2) = ts.map fun q => q.2.2.2.2
  | [], _, _ => rfl
  | q :: ts, ra, go => by
    rw [rowsFrom]
    split
    · rw [List.map_cons, List.map_cons, rows_snd ts]
    · rw [List.map_cons, List.map_cons, rows_snd ts]
theorem rows_fst : ∀ (ts : List PT) (S : LSt), (ts.foldl (fun S q => stepL p odds ends q.1 S q.2) S).2.2 = S.2.2 ++ (rowsFrom p odds ends S.1 S.2.1 ts).map fun q => q.1
  | [], S => by simp [rowsFrom]
  | q :: ts, S => by
    rw [List.foldl_cons, rows_fst ts, rowsFrom]
    unfold stepL
    split
    · rw [List.map_cons, List.append_assoc]
      rfl
    · rw [List.map_cons, List.append_assoc]
      rfl
theorem fold_pts : ∀ (gs : List Page) (S : LSt), gs.foldl (pageL p odds ends) S = (pts gs).foldl (fun S q => stepL p odds ends q.1 S q.2) S
  | [], _ => rfl
  | g :: gs, S => by
    unfold pts
    rw [List.foldl_cons, List.flatMap_cons, List.foldl_append, List.foldl_map, fold_pts gs]
    rfl
theorem zip_fst_snd {α β : Type} : ∀ l : List (α × β), (l.map fun q => q.1).zip (l.map fun q => q.2) = l
  | [] => rfl
  | q :: l => by rw [List.map_cons, List.map_cons, List.zip_cons_cons, zip_fst_snd l]
theorem pts_ranks : ∀ gs : List Page, (pts gs).map (fun q => q.2.2.2.2) = gs.flatMap ranksOn
  | [] => rfl
  | g :: gs => by
    have ih := pts_ranks gs
    unfold pts at ih ⊢
    rw [List.flatMap_cons, List.map_append, ih, List.flatMap_cons, List.map_map]
    rfl
theorem ledger_rows {file : List Page} : ledgerOf p file = (rowsFrom p (oddSee p file) (endsOf p file) noTwo noGone (pts (pagesByDays file))).map fun q => q.1 := by
  unfold ledgerOf
  rw [fold_pts, rows_fst]
  rfl
theorem class_rows {file : List Page} (G : ∀ g ∈ file, InGrid p g) : classesOf p file = (rowsFrom p (oddSee p file) (endsOf p file) noTwo noGone (pts (pagesByDays file))).map fun q => q.2 := by
  rw [classes_eq G, rows_snd, pts_ranks]
theorem rowsT_eq {file : List Page} (G : ∀ g ∈ file, InGrid p g) : rowsT p file = rowsFrom p (oddSee p file) (endsOf p file) noTwo noGone (pts (pagesByDays file)) := by
  unfold rowsT
  rw [ledger_rows, class_rows G, zip_fst_snd]
/-- what a thing on a page is -/
structure ThingIs (p : Plan) (t : Thing) : Prop where
  ok : ThingOk p t
  back : t.1 = "back" ↔ t.2.2.2 = none
theorem things_is {g : Page} (h : PageOk p g) : ∀ t ∈ thingsOn g, ThingIs p t := fun t m => by
  refine ⟨things_ok h t m, ?_⟩
  cases g with
  | gate pl dy c e => cases m
  | office pl dy c pr be ba co =>
    rcases List.mem_append.mp m with m | m
    · obtain ⟨b, mb, rfl⟩ := List.mem_map.mp m
      constructor
      · intro z
        exact absurd (show ("better" : Str) = "back" from z) (by decide +kernel)
      · intro z
        cases z
    · obtain ⟨b, mb, rfl⟩ := List.mem_map.mp m
      exact ⟨fun _ => rfl, fun _ => rfl⟩
theorem pts_is {file : List Page} (FO : FileOk p file) : ∀ q ∈ pts (pagesByDays file), ThingIs p q.2 := fun q m => by
  obtain ⟨g, mg, m2⟩ := List.mem_flatMap.mp m
  obtain ⟨t, mt, rfl⟩ := List.mem_map.mp m2
  exact things_is (FO.pages g (byDays_mem.mp mg).1) t mt
theorem rows_tick : ∀ (ts : List PT) (ra : Two) (go : Gone), (∀ q ∈ ts, ThingIs p q.2) → ∀ q ∈ rowsFrom p odds ends ra go ts, (∃ i : Nat, q.1.2.2.2.1 = (i : Int) ∧ i < p.stock.length) ∧ (q.1.2.2.2.2.2.2 = "good" → q.1.2.2.1 ≠ "back" → ∃ k : Nat, q.2 = some (k : Int) ∧ k < p.rates.length)
  | [], _, _, _, _, m => nomatch m
  | t :: ts, ra, go, h, q, m => by
    have ht := h t List.mem_cons_self
    have h2 := fun q m => h q (List.mem_cons_of_mem t m)
    have key : ∀ c tag, (∃ i : Nat, (rowOf t.1 t.2 c tag).2.2.2.1 = (i : Int) ∧ i < p.stock.length) ∧ ((rowOf t.1 t.2 c tag).2.2.2.2.2.2 = "good" → (rowOf t.1 t.2 c tag).2.2.1 ≠ "back" → ∃ k : Nat, t.2.2.2.2 = some (k : Int) ∧ k < p.rates.length) := fun c tag => by
      refine ⟨⟨t.2.2.1.toNat, (Int.toNat_of_nonneg ht.ok.1).symm, ht.ok.2.1⟩, fun _ hb => ?_⟩
      have hb2 : t.2.1 ≠ "back" := hb
      cases e : t.2.2.2.2 with
      | none => exact absurd (ht.back.mpr e) hb2
      | some k =>
        obtain ⟨k0, k1⟩ := ht.ok.2.2 k e
        exact ⟨k.toNat, by rw [Int.toNat_of_nonneg k0], k1⟩
    rw [rowsFrom] at m
    split at m
    · rcases List.mem_cons.mp m with rfl | m
      · exact key _ _
      · exact rows_tick ts _ _ h2 q m
    · rcases List.mem_cons.mp m with rfl | m
      · exact key _ _
      · exact rows_tick ts _ _ h2 q m
/-- when good, the ticket is not gone, and the rank is higher -/
theorem good_is {ra : Two} {go : Gone} {g : Page} {t : Thing} (h : wordFor p odds ends ra go g.place g.day t = "good") : go t.2.1 t.2.2.1 = false ∧ ∀ k, t.2.2.2 = some k → rkOf p ra t.2.1.toNat t.2.2.1 < k := by
  unfold wordFor at h
  split at h
  · exact absurd h (by decide +kernel)
  split at h
  · exact absurd h (by decide +kernel)
  split at h
  · exact absurd h (by decide +kernel)
  split at h
  · exact absurd h (by decide +kernel)
  rename_i h3 h4
  refine ⟨Bool.eq_false_iff.mpr h3, fun k e => ?_⟩
  unfold lowRank at h4
  rw [e] at h4
  simp at h4
  exact h4
theorem rk_then {ra : Two} {i : Nat} {n : Int} {t : Thing} (h0 : 0 ≤ t.2.1) (h : t.2.1 = (i : Int) ∧ t.2.2.1 = n) {k : Int} (e : t.2.2.2 = some k) : rkOf p (ranksThen ra t) i n = k := by
  unfold rkOf ranksThen
  rw [e]
  show (put2 ra t.2.1 t.2.2.1 k (i : Int) n).getD (rackRank p i) = k
  unfold put2
  rw [if_pos ⟨h.1.symm, h.2.symm⟩]
  rfl
theorem rk_same {ra : Two} {i : Nat} {n : Int} {t : Thing} (h : ¬ (t.2.1 = (i : Int) ∧ t.2.2.1 = n)) : rkOf p (ranksThen ra t) i n = rkOf p ra i n := by
  unfold rkOf ranksThen
  cases e : t.2.2.2 with
  | none => rfl
  | some k =>
    show (put2 ra t.2.1 t.2.2.1 k (i : Int) n).getD (rackRank p i) = _
    unfold put2
    rw [if_neg fun z => h ⟨z.1.symm, z.2.symm⟩]
theorem go_same {go : Gone} {i n : Int} {t : Thing} (h : ¬ (t.2.1 = i ∧ t.2.2.1 = n)) : goneThen go t i n = go i n := by
  unfold goneThen
  cases t.2.2.2 with
  | none => exact if_neg fun z => h ⟨z.1.symm, z.2.symm⟩
  | some k => rfl
theorem tick_row {i n : Int} {g : Page} {t : Thing} {c : Int} {tag : Str} {o : Option Int} : tickQ i n (rowOf g t c tag, o) = true ↔ t.2.1 = i ∧ t.2.2.1 = n := by
  unfold tickQ rowOf
  rw [Bool.and_eq_true]
  exact and_congr decide_eq_true_iff decide_eq_true_iff
/-- the run, from any standing on -/
theorem run_from (O : PlanOk p) {i : Nat} (hi : i < p.stock.length) (n : Int) : ∀ (ts : List PT) (ra : Two) (go : Gone), (∀ q ∈ ts, ThingIs p q.2) → RanksOk p ra →
    ∃ (now : Nat) (gone : Bool), now < p.rates.length ∧ run ((rowsFrom p odds ends ra go ts).filter (tickQ i n)) (rkOf p ra i n, go i n, if go i n then 0 else fareOf p i (rkOf p ra i n).toNat) = some ((now : Int), gone, if gone then 0 else fareOf p i now)
  | [], ra, go, _, R => by
    obtain ⟨r0, r1⟩ := rkOf_ok (n := n) O R hi
    refine ⟨(rkOf p ra i n).toNat, go i n, r1, ?_⟩
    rw [rowsFrom, List.filter_nil, run, Int.toNat_of_nonneg r0]
  | q :: ts, ra, go, h, R => by
    have ht := h q List.mem_cons_self
    have h2 := fun q' m => h q' (List.mem_cons_of_mem q m)
    rw [rowsFrom]
    split
    · rename_i hw
      obtain ⟨hg, hk⟩ := good_is hw
      have ih := run_from O hi n ts (ranksThen ra q.2) (goneThen go q.2) h2 (R.next ht.ok)
      by_cases hc : q.2.2.1 = (i : Int) ∧ q.2.2.2.1 = n
      · rw [List.filter_cons_of_pos (tick_row.mpr hc)]
        have hgo : go i n = false := by rw [← hc.1, ← hc.2]; exact hg
        have ei : q.2.2.1.toNat = i := by rw [hc.1]; rfl
        rw [run]
        have hst : rightStep (rkOf p ra i n, go i n, if go i n then 0 else fareOf p i (rkOf p ra i n).toNat) (rowOf q.1 q.2 (thingCoin p ra q.2) "good", q.2.2.2.2) = some (rkOf p (ranksThen ra q.2) i n, goneThen go q.2 i n, if goneThen go q.2 i n then 0 else fareOf p i (rkOf p (ranksThen ra q.2) i n).toNat) := by
          unfold rightStep
          rw [if_neg (by exact fun z => z rfl), hgo]
          show (if q.2.1 = "back" then _ else _) = _
          cases e : q.2.2.2.2 with
          | none =>
            rw [if_pos (ht.back.mpr e)]
            have eg : goneThen go q.2 i n = true := by
              unfold goneThen
              rw [e]
              exact if_pos ⟨hc.1.symm, hc.2.symm⟩
            have er : ranksThen ra q.2 = ra := by
              unfold ranksThen
              rw [e]
            have ec : thingCoin p ra q.2 = 0 - fareOf p i (rkOf p ra i n).toNat := by
              unfold thingCoin
              rw [e, ei, hc.2]
            rw [eg, er]
            show some (rkOf p ra i n, true, fareOf p i (rkOf p ra i n).toNat + thingCoin p ra q.2) = some (rkOf p ra i n, true, (0 : Int))
            rw [ec]
            congr 3
            omega
          | some k =>
            rw [if_neg fun z => by
              have := ht.back.mp z
              rw [e] at this
              cases this]
            have hk1 := hk k e
            rw [ei, hc.2] at hk1
            have eg : goneThen go q.2 i n = false := by
              unfold goneThen
              rw [e]
              exact hgo
            have er : rkOf p (ranksThen ra q.2) i n = k := rk_then ht.ok.1 hc e
            have ec : thingCoin p ra q.2 = fareOf p i k.toNat - fareOf p i (rkOf p ra i n).toNat := by
              unfold thingCoin
              rw [e, ei, hc.2]
            rw [eg, er]
            show (if k ≤ rkOf p ra i n then none else some (k, false, fareOf p i (rkOf p ra i n).toNat + thingCoin p ra q.2)) = some (k, false, fareOf p i k.toNat)
            rw [if_neg (by omega), ec]
            congr 3
            omega
        rw [hst]
        exact ih
      · rw [List.filter_cons_of_neg (by rw [tick_row]; exact hc)]
        rw [rk_same hc, go_same hc] at ih
        exact ih
    · rename_i hw
      have ih := run_from O hi n ts ra go h2 R
      by_cases hc : q.2.2.1 = (i : Int) ∧ q.2.2.2.1 = n
      · rw [List.filter_cons_of_pos (tick_row.mpr hc), run]
        have hst : rightStep (rkOf p ra i n, go i n, if go i n then 0 else fareOf p i (rkOf p ra i n).toNat) (rowOf q.1 q.2 0 (wordFor p odds ends ra go q.1.place q.1.day q.2), q.2.2.2.2) = some (rkOf p ra i n, go i n, if go i n then 0 else fareOf p i (rkOf p ra i n).toNat) := by
          unfold rightStep
          rw [if_pos (by exact hw), if_neg (by exact fun z => z rfl)]
          show some (rkOf p ra i n, go i n, (if go i n then 0 else fareOf p i (rkOf p ra i n).toNat) + 0) = _
          rw [Int.add_zero]
        rw [hst]
        exact ih
      · rw [List.filter_cons_of_neg (by rw [tick_row]; exact hc)]
        exact ih
def coins (qs : List RowT) : Int := (qs.map fun q => q.1.2.2.2.2.2.1).sum
theorem coins_cons (q : RowT) (qs : List RowT) : coins (q :: qs) = q.1.2.2.2.2.2.1 + coins qs := by
  unfold coins
  rw [List.map_cons, List.sum_cons]
/-- once gone, nothing moves -/
theorem gone_zero {i : Nat} {n : Int} : ∀ (ts : List PT) (ra : Two) (go : Gone), (∀ q ∈ ts, ThingIs p q.2) → go i n = true → coins ((rowsFrom p odds ends ra go ts).filter (tickQ i n)) = 0
  | [], _, _, _, _ => rfl
  | q :: ts, ra, go, h, hg => by
    have h2 := fun q' m => h q' (List.mem_cons_of_mem q m)
    rw [rowsFrom]
    split
    · rename_i hw
      obtain ⟨hng, _⟩ := good_is hw
      have hc : ¬ (q.2.2.1 = (i : Int) ∧ q.2.2.2.1 = n) := fun z => by
        rw [z.1, z.2, hg] at hng
        cases hng
      rw [List.filter_cons_of_neg (by rw [tick_row]; exact hc)]
      exact gone_zero ts _ _ h2 ((go_same hc).trans hg)
    · have ih := gone_zero ts ra go h2 hg
      by_cases hc : q.2.2.1 = (i : Int) ∧ q.2.2.2.1 = n
      · rw [List.filter_cons_of_pos (tick_row.mpr hc), coins_cons, ih]
        rfl
      · rw [List.filter_cons_of_neg (by rw [tick_row]; exact hc)]
        exact ih
theorem kept_from {i : Nat} {n : Int} : ∀ (ts : List PT) (ra : Two) (go : Gone), (∀ q ∈ ts, ThingIs p q.2) → go i n = false →
    fareOf p i (rkOf p ra i n).toNat + coins ((rowsFrom p odds ends ra go ts).filter (tickQ i n)) = keptGo p i ((rowsFrom p odds ends ra go ts).filter (tickQ i n)) (rkOf p ra i n)
  | [], ra, go, _, _ => by
    rw [rowsFrom, List.filter_nil, keptGo]
    exact Int.add_zero _
  | q :: ts, ra, go, h, hg => by
    have ht := h q List.mem_cons_self
    have h2 := fun q' m => h q' (List.mem_cons_of_mem q m)
    rw [rowsFrom]
    split
    · rename_i hw
      by_cases hc : q.2.2.1 = (i : Int) ∧ q.2.2.2.1 = n
      · rw [List.filter_cons_of_pos (tick_row.mpr hc), coins_cons, keptGo]
        have ei : q.2.2.1.toNat = i := by rw [hc.1]; rfl
        rw [if_pos (by rfl)]
        show fareOf p i (rkOf p ra i n).toNat + (thingCoin p ra q.2 + _) = if q.2.1 = "back" then 0 else keptGo p i _ (q.2.2.2.2.getD 0)
        cases e : q.2.2.2.2 with
        | none =>
          rw [if_pos (ht.back.mpr e)]
          have eg : goneThen go q.2 i n = true := by
            unfold goneThen
            rw [e]
            exact if_pos ⟨hc.1.symm, hc.2.symm⟩
          have ec : thingCoin p ra q.2 = 0 - fareOf p i (rkOf p ra i n).toNat := by
            unfold thingCoin
            rw [e, ei, hc.2]
          rw [gone_zero ts _ _ h2 eg, ec]
          omega
        | some k =>
          rw [if_neg fun z => by
            have := ht.back.mp z
            rw [e] at this
            cases this]
          have eg : goneThen go q.2 i n = false := by
            unfold goneThen
            rw [e]
            exact hg
          have er : rkOf p (ranksThen ra q.2) i n = k := rk_then ht.ok.1 hc e
          have ec : thingCoin p ra q.2 = fareOf p i k.toNat - fareOf p i (rkOf p ra i n).toNat := by
            unfold thingCoin
            rw [e, ei, hc.2]
          have ih := kept_from ts (ranksThen ra q.2) (goneThen go q.2) h2 eg
          rw [er] at ih
          show _ = keptGo p i _ k
          rw [← ih, ec]
          omega
      · rw [List.filter_cons_of_neg (by rw [tick_row]; exact hc)]
        have ih := kept_from ts (ranksThen ra q.2) (goneThen go q.2) h2 ((go_same hc).trans hg)
        rw [rk_same hc] at ih
        exact ih
    · rename_i hw
      have ih := kept_from ts ra go h2 hg
      by_cases hc : q.2.2.1 = (i : Int) ∧ q.2.2.2.1 = n
      · rw [List.filter_cons_of_pos (tick_row.mpr hc), coins_cons, keptGo, if_neg (by exact hw), ← ih]
        show _ + ((0 : Int) + _) = _
        omega
      · rw [List.filter_cons_of_neg (by rw [tick_row]; exact hc)]
        exact ih
end
theorem rk_no {p : Plan} {i : Nat} {n : Int} : rkOf p noTwo i n = rackRank p i := rfl
section
variable {p : Plan} {file : List Page} (FO : FileOk p file) (G : ∀ g ∈ file, InGrid p g)
include FO G
theorem len_eq' : (ledgerOf p file).length = (classesOf p file).length := by
  rw [ledger_rows, class_rows G, List.length_map, List.length_map]
theorem tick_ok' : ∀ q ∈ rowsT p file, ∃ i : Nat, q.1.2.2.2.1 = (i : Int) ∧ i < p.stock.length := fun q m => by
  rw [rowsT_eq G] at m
  exact (rows_tick _ _ _ (pts_is FO) q m).1
theorem rank_ok' : ∀ q ∈ rowsT p file, q.1.2.2.2.2.2.2 = "good" → q.1.2.2.1 ≠ "back" → ∃ k : Nat, q.2 = some (k : Int) ∧ k < p.rates.length := fun q m => by
  rw [rowsT_eq G] at m
  exact (rows_tick _ _ _ (pts_is FO) q m).2
theorem run_ok' (O : PlanOk p) (i : Nat) (hi : i < p.stock.length) (n : Int) : ∃ (now : Nat) (gone : Bool), now < p.rates.length ∧ run ((rowsT p file).filter (tickQ i n)) (rackRank p i, false, fareOf p i (rackRank p i).toNat) = some ((now : Int), gone, if gone then 0 else fareOf p i now) := by
  rw [rowsT_eq G]
  exact run_from O hi n _ noTwo noGone (pts_is FO) fun r n x e => nomatch e
theorem kept_ok' (i : Nat) (n : Int) : keptOf p (ledgerOf p file) i n = keptGo p i ((rowsT p file).filter (tickQ i n)) (rackRank p i) := by
  rw [rowsT_eq G, ledger_rows]
  have h := kept_from (odds := oddSee p file) (ends := endsOf p file) (i := i) (n := n) (pts (pagesByDays file)) noTwo noGone (pts_is FO) rfl
  rw [rk_no] at h
  rw [← h]
  unfold keptOf coins
  rw [List.filter_map, List.map_map]
  rfl
end
end Tk

set_option Elab.async false
set_option linter.all false
set_option maxRecDepth 100000
set_option maxHeartbeats 4000000
/-! A drawn plan's ways stand. -/
namespace Tk
open PySem PySem.Spec PyProof.Rows L2
def Linked (ties : List Tie) (w : List Int) : Prop := ∀ (i : Nat) (x y : Int), w[i]? = some x → w[i + 1]? = some y → (tieOf ties x y).isSome = true
structure GoOk (ties : List Tie) (k : Int) (g : Go) : Prop where
  len : 0 < g.2.2.length
  last : g.2.2[g.2.2.length - 1]? = some k
  link : Linked ties g.2.2
def BestOk (ties : List Tie) (b : Best) : Prop := ∀ k g, b k = some g → GoOk ties k g
theorem steps_tie {ties : List Tie} {s : Step} (h : s ∈ bothWays ties) : (tieOf ties s.1 s.2.1).isSome = true := by
  obtain ⟨t, mt, ms⟩ := List.mem_flatMap.mp h
  unfold tieOf
  rw [List.find?_isSome]
  refine ⟨t, mt, ?_⟩
  unfold stepsOf at ms
  unfold tieFits
  rcases List.mem_cons.mp ms with rfl | ms
  · simp
  · rw [List.mem_singleton.mp ms]
    simp
theorem GoOk.on {ties : List Tie} {g : Go} {s : Step} (h : GoOk ties s.1 g) (hs : s ∈ bothWays ties) : GoOk ties s.2.1 (goOn g s) := by
  have hl := h.len
  refine ⟨?_, ?_, ?_⟩
  · show 0 < (g.2.2 ++ [s.2.1]).length
    simp
  · show (g.2.2 ++ [s.2.1])[(g.2.2 ++ [s.2.1]).length - 1]? = some s.2.1
    simp
  · intro i x y hx hy
    change (g.2.2 ++ [s.2.1])[i]? = some x at hx
    change (g.2.2 ++ [s.2.1])[i + 1]? = some y at hy
    by_cases hi : i + 1 < g.2.2.length
    · rw [List.getElem?_append_left (by omega)] at hx
      rw [List.getElem?_append_left hi] at hy
      exact h.link i x y hx hy
    · have hb : i + 1 < (g.2.2 ++ [s.2.1]).length := (List.getElem?_eq_some_iff.mp hy).1
      rw [List.length_append, List.length_singleton] at hb
      have e : i + 1 = g.2.2.length := by omega
      have e2 : i = g.2.2.length - 1 := by omega
      rw [List.getElem?_append_left (by omega), e2, h.last] at hx
      rw [List.getElem?_append_right (by omega), e, Nat.sub_self] at hy
      cases hx
      cases hy
      exact steps_tie hs
theorem BestOk.step {ties : List Tie} {b : Best} {s : Step} (h : BestOk ties b) (hs : s ∈ bothWays ties) : BestOk ties (stepB b s) := by
  unfold stepB
  split
  · exact h
  · rename_i g e
    split
    · intro k g' e'
      unfold put at e'
      split at e'
      · rename_i ek
        cases e'
        rw [ek]
        exact (h _ _ e).on hs
      · exact h k g' e'
    · exact h
theorem BestOk.fold {ties : List Tie} : ∀ (l : List Step) {b : Best}, BestOk ties b → (∀ s ∈ l, s ∈ bothWays ties) → BestOk ties (l.foldl stepB b)
  | [], _, h, _ => h
  | s :: l, b, h, hl => BestOk.fold l (h.step (hl s List.mem_cons_self)) fun s' m => hl s' (List.mem_cons_of_mem _ m)
theorem best_ok (ties : List Tie) (one : Int) : ∀ n, BestOk ties (bestOf ties one n)
  | 0 => fun k g e => by
    have e2 : (if k = one then some ((0, 1, [one]) : Go) else none) = some g := e
    split at e2
    · rename_i ek
      cases e2
      subst ek
      refine ⟨Nat.one_pos, rfl, fun i x y hx hy => ?_⟩
      have hb : i + 1 < [k].length := (List.getElem?_eq_some_iff.mp hy).1
      rw [List.length_singleton] at hb
      omega
    · cases e2
  | n + 1 => BestOk.fold _ (best_ok ties one n) fun s m => m
theorem stepB_no {b : Best} {s : Step} (e : b s.1 = none) : stepB b s = b := by
  unfold stepB
  rw [e]
theorem stepB_yes {b : Best} {s : Step} {g : Go} (e : b s.1 = some g) : stepB b s = if better b s.2.1 (goOn g s) then put b s.2.1 (goOn g s) else b := by
  unfold stepB
  rw [e]
theorem stepB_mono {b : Best} {s : Step} {k : Int} (h : (b k).isSome = true) : (stepB b s k).isSome = true := by
  cases e : b s.1 with
  | none =>
    rw [stepB_no e]
    exact h
  | some g =>
    rw [stepB_yes e]
    split
    · unfold put
      split
      · rfl
      · exact h
    · exact h
theorem foldB_mono : ∀ (l : List Step) {b : Best} {k : Int}, (b k).isSome = true → (l.foldl stepB b k).isSome = true
  | [], _, _, h => h
  | s :: l, b, k, h => foldB_mono l (stepB_mono h)
theorem stepB_to {b : Best} {s : Step} (h : (b s.1).isSome = true) : (stepB b s s.2.1).isSome = true := by
  cases e : b s.1 with
  | none =>
    rw [e] at h
    cases h
  | some g =>
    rw [stepB_yes e]
    split
    · unfold put
      rw [if_pos rfl]
      rfl
    · rename_i hb
      unfold better at hb
      split at hb
      · exact absurd rfl hb
      · rename_i old eo
        rw [eo]
        rfl
theorem foldB_to : ∀ (l : List Step) {b : Best} {s : Step}, s ∈ l → (b s.1).isSome = true → (l.foldl stepB b s.2.1).isSome = true
  | s' :: l, b, s, m, h => by
    rw [List.foldl_cons]
    rcases List.mem_cons.mp m with rfl | m
    · exact foldB_mono l (stepB_to h)
    · exact foldB_to l m (stepB_mono h)
theorem best_reach {p : Plan} (S : Shape p) {one : Int} (hone : 0 ≤ one ∧ one < p.n) : ∀ (i : Nat) (k : Int), 0 ≤ k → k < p.n → k - one ≤ (i : Int) → one - k ≤ (i : Int) → (bestOf p.ties one i k).isSome = true
  | 0, k, _, _, h1, h2 => by
    have e : k = one := by omega
    show (if k = one then some ((0, 1, [one]) : Go) else none).isSome = true
    rw [if_pos e]
    rfl
  | i + 1, k, h0, hn, h1, h2 => by
    show ((bothWays p.ties).foldl stepB (bestOf p.ties one i) k).isSome = true
    by_cases hk : k - one ≤ (i : Int) ∧ one - k ≤ (i : Int)
    · exact foldB_mono _ (best_reach S hone i k h0 hn hk.1 hk.2)
    · by_cases hg : k < one
      · obtain ⟨t, mt, e1, e2⟩ := S.chain k.toNat (by
          have : (k + 1 < p.n) := by
            have := hone
            omega
          omega)
        have h3 := best_reach S hone i (k + 1) (by omega) (by omega) (by omega) (by omega)
        have hk0 : ((k.toNat : Nat) : Int) = k := Int.toNat_of_nonneg h0
        exact foldB_to (bothWays p.ties) (s := (k + 1, k, t.2.2.2)) (List.mem_flatMap.mpr ⟨t, mt, by
          unfold stepsOf
          rw [e1, e2, hk0]
          simp⟩) h3
      · obtain ⟨t, mt, e1, e2⟩ := S.chain (k - 1).toNat (by omega)
        have h3 := best_reach S hone i (k - 1) (by omega) (by omega) (by omega) (by omega)
        have hk0 : (((k - 1).toNat : Nat) : Int) = k - 1 := Int.toNat_of_nonneg (by omega)
        exact foldB_to (bothWays p.ties) (s := (k - 1, k, t.2.2.2)) (List.mem_flatMap.mpr ⟨t, mt, by
          unfold stepsOf
          rw [e1, e2, hk0, Int.sub_add_cancel]
          simp⟩) h3
theorem linked_ts {ties : List Tie} {w : List Int} (h : Linked ties w) : ∃ ts : List Tie, ((w.zip (w.drop 1)).map fun p' => tieOf ties p'.1 p'.2) = ts.map some := by
  have key : ∀ l : List (Option Tie), (∀ o ∈ l, o.isSome = true) → ∃ ts : List Tie, l = ts.map some := fun l => by
    induction l with
    | nil => exact fun _ => ⟨[], rfl⟩
    | cons o l ih =>
      intro hl
      obtain ⟨ts, e⟩ := ih fun o' m => hl o' (List.mem_cons_of_mem _ m)
      obtain ⟨t, et⟩ := Option.isSome_iff_exists.mp (hl o List.mem_cons_self)
      exact ⟨t :: ts, by rw [e, et]; rfl⟩
  refine key _ fun o m => ?_
  obtain ⟨q, mq, rfl⟩ := List.mem_map.mp m
  obtain ⟨i, hi⟩ := List.mem_iff_getElem?.mp mq
  obtain ⟨h1, h2⟩ := List.getElem?_zip_eq_some.mp hi
  rw [List.getElem?_drop, Nat.add_comm] at h2
  exact h i _ _ h1 h2
theorem planOk_of {p : Plan} (S : Shape p) : PlanOk p := by
  obtain ⟨hn2, hn8⟩ := S.n
  have ht := S.tiesLen
  refine ⟨by omega, by omega, by omega, by have := S.stockLen; omega, fun x m => ?_, by have := S.days; omega, fun r m => ?_⟩
  · have := S.rates x m
    omega
  · obtain ⟨a0, a1, b0, b1, _, r0, r1⟩ := S.stock r m
    refine ⟨⟨r0, r1⟩, ?_⟩
    have hs := best_reach S ⟨a0, a1⟩ p.n.toNat r.2.1 b0 b1 (by omega) (by omega)
    obtain ⟨g, eg⟩ := Option.isSome_iff_exists.mp hs
    obtain ⟨ts, ets⟩ := linked_ts (best_ok p.ties r.1 p.n.toNat _ _ eg).link
    have hle := bestOf_le p.ties r.1 p.n.toNat _ _ eg
    refine ⟨g.2.2, ts, ?_, ?_, ets⟩
    · unfold wayOf
      rw [eg]
      rfl
    · have h1 : p.n.toNat ≤ 8 := by omega
      have h2 : p.n.toNat * (2 * p.ties.length) ≤ 8 * (2 * p.ties.length) := Nat.mul_le_mul_right _ h1
      omega
end Tk

set_option Elab.async false
set_option linter.all false
set_option maxRecDepth 100000
set_option maxHeartbeats 4000000
/-! what the law needs of the numbers -/
namespace Tk
open PySem PySem.Spec PyProof.Rows L2
section
variable {p : Plan} {file : List Page} (S : Shape p) (FO : FileOk p file) (G : ∀ g ∈ file, InGrid p g)
include S FO G
theorem len_eq : (ledgerOf p file).length = (classesOf p file).length := len_eq' FO G
theorem tick_ok : ∀ q ∈ rowsT p file, ∃ i : Nat, q.1.2.2.2.1 = (i : Int) ∧ i < p.stock.length := tick_ok' FO G
theorem run_ok (i : Nat) (hi : i < p.stock.length) (n : Int) : ∃ (now : Nat) (gone : Bool), now < p.rates.length ∧ run ((rowsT p file).filter (tickQ i n)) (rackRank p i, false, fareOf p i (rackRank p i).toNat) = some ((now : Int), gone, if gone then 0 else fareOf p i now) := run_ok' FO G (planOk_of S) i hi n
theorem rank_ok : ∀ q ∈ rowsT p file, q.1.2.2.2.2.2.2 = "good" → q.1.2.2.1 ≠ "back" → ∃ k : Nat, q.2 = some (k : Int) ∧ k < p.rates.length := rank_ok' FO G
theorem kept_ok (i : Nat) (hi : i < p.stock.length) (n : Int) : keptOf p (ledgerOf p file) i n = keptGo p i ((rowsT p file).filter (tickQ i n)) (rackRank p i) := kept_ok' FO G i n
end
end Tk

set_option Elab.async false
set_option linter.all false
set_option maxRecDepth 100000
set_option maxHeartbeats 4000000
/-! Own rule: enumerate over a locked dict whose keys are tuples. -/
namespace Tk
open PySem PySem.Spec PyProof.Rows L2
section
variable {prog : Program} {w : World} {A : Around} {E : Value → Shared → Prop} {s : Shared}
theorem nextOf_key_item {it d : Addr} {i n ep : Nat} {od : Obj} {es : Array DictEntry} {en : DictEntry} {Q : Value → Shared → Prop} (hit : s.heap.IsKeyIter it d i n ep) (hod : s.heap.get? d = some od) (hdd : od.data = .dict es ep)
    (hsz : es.size = n) (hx : es[i]? = some en) (hQ : ∀ h', h'.IsKeyIter it d (i + 1) n ep → Heap.SameBut it s.heap h' → Q en.key { s with heap := h' }) : wpAny (model prog w) A (Builtin.SmallTypes.nextOf (.ref it)) Q E s := by
  obtain ⟨o, ho, hc, hd⟩ := id hit
  unfold Builtin.SmallTypes.nextOf
  refine wpAny_bind (wpAny_callSpecial?_slot (name := Str.ofString "__next__") hit.typeIs F.slot_dict_keyiterator_next
    (wpAny_call_entry F.slot_dict_keyiterator_next hit.typeIs F.entry_dict_keyiterator_next ?_ (F.args_dict_keyiterator_next_1 _)))
  refine wpAny_bind (wpAny_pure ?_)
  refine wpAny_bind ?_
  refine wpAny_bind ?_
  first | refine wpAny_bind (wpAny_typeNameOfWhole_keyiter hit.typeIs (wpAny_pure ?_)) | refine wpAny_bind (wpAny_typeNameOf_keyiter hit.typeIs (wpAny_pure ?_))
  refine wpAny_bind (wpAny_fieldsOf ho hd ?_)
  have hown : Builtin.Dict_items.ownsTuple "dict_keyiterator" = false := by decide
  simp only [hown, Bool.false_eq_true, if_false]
  show wpAny _ _ (if (Value.ref d == Value.none) = true then _ else _) _ _ s
  rw [if_neg (show ¬ ((Value.ref d == Value.none) = true) from Bool.false_ne_true)]
  refine wpAny_bind (wpAny_pure ?_)
  refine wpAny_bind (wpAny_dictEntries hod hdd ?_)
  rw [if_neg (by rw [hsz]; simp)]
  refine wpAny_bind (wpAny_pure ?_)
  refine wpAny_bind (wpAny_dictEpoch hod hdd ?_)
  rw [if_neg (by simp)]
  refine wpAny_pure ?_
  obtain ⟨hlt', hen⟩ := Array.getElem?_eq_some_iff.mp hx
  simp only [show ¬ ((i : Int) < 0) from by omega, if_false, Int.toNat_natCast, Array.getElem?_eq_getElem hlt']
  refine wpAny_bind ?_
  first | refine wpAny_bind (wpAny_typeNameOfWhole_keyiter hit.typeIs (wpAny_pure ?_)) | refine wpAny_bind (wpAny_typeNameOf_keyiter hit.typeIs (wpAny_pure ?_))
  refine wpAny_bind (wpAny_isOneOf_keyiter hit.typeIs ?_)
  show wpAny _ _ (setField (.ref it) 1 (rawInt ((i : Int) + 1)) >>= _) _ _ s
  refine wpAny_bind (wpAny_setField ho hd (by simp) ?_)
  have hit' : (s.heap.update it (Obj.mapFields (·.setIfInBounds 1 (rawInt ((i : Int) + 1))))).IsKeyIter it d (i + 1) n ep :=
    ⟨_, Heap.get?_update_self _ ho (Obj.isFreed_of_fields (Obj.data_mapFields hd _)), (Obj.cls_mapFields ..).trans hc, by rw [Obj.data_mapFields hd]; simp [rawInt]⟩
  refine wpAny_bind (wpAny_holding ?_)
  refine wpAny_bind (wpAny_isOneOf_keyiter (s := { s with heap := s.heap.update it (Obj.mapFields (·.setIfInBounds 1 (rawInt ((i : Int) + 1)))) }) hit'.typeIs ?_)
  show wpAny _ _ (pure es[i].key) _ _ _
  rw [hen]
  exact wpAny_pure (wpAny_pure ⟨_, rfl, wpAny_pure (hQ _ hit' (Heap.SameBut.update ..))⟩)
theorem nextOf_key_end {it d : Addr} {i n ep : Nat} {od : Obj} {es : Array DictEntry} {Q : Value → Shared → Prop} (hh : A.handled = none) (hit : s.heap.IsKeyIter it d i n ep) (hod : s.heap.get? d = some od) (hdd : od.data = .dict es ep)
    (hsz : es.size = n) (hge : n ≤ i) (hE : ∀ h' e, Heap.ExtBut it s.heap h' → (∃ o, h'.get? e = some o ∧ o.cls = .type "StopIteration") → E (.ref e) { s with heap := h' }) : wpAny (model prog w) A (Builtin.SmallTypes.nextOf (.ref it)) Q E s := by
  obtain ⟨o, ho, hc, hd⟩ := id hit
  unfold Builtin.SmallTypes.nextOf
  refine wpAny_bind (wpAny_callSpecial?_slot (name := Str.ofString "__next__") hit.typeIs F.slot_dict_keyiterator_next
    (wpAny_call_entry F.slot_dict_keyiterator_next hit.typeIs F.entry_dict_keyiterator_next ?_ (F.args_dict_keyiterator_next_1 _)))
  refine wpAny_bind (wpAny_pure ?_)
  refine wpAny_bind ?_
  refine wpAny_bind ?_
  first | refine wpAny_bind (wpAny_typeNameOfWhole_keyiter hit.typeIs (wpAny_pure ?_)) | refine wpAny_bind (wpAny_typeNameOf_keyiter hit.typeIs (wpAny_pure ?_))
  refine wpAny_bind (wpAny_fieldsOf ho hd ?_)
  have hown : Builtin.Dict_items.ownsTuple "dict_keyiterator" = false := by decide
  simp only [hown, Bool.false_eq_true, if_false]
  show wpAny _ _ (if (Value.ref d == Value.none) = true then _ else _) _ _ s
  rw [if_neg (show ¬ ((Value.ref d == Value.none) = true) from Bool.false_ne_true)]
  refine wpAny_bind (wpAny_pure ?_)
  refine wpAny_bind (wpAny_dictEntries hod hdd ?_)
  rw [if_neg (by rw [hsz]; simp)]
  refine wpAny_bind (wpAny_pure ?_)
  refine wpAny_bind (wpAny_dictEpoch hod hdd ?_)
  rw [if_neg (by simp)]
  refine wpAny_pure ?_
  have hge' : es.size ≤ i := by rw [hsz]; exact hge
  simp only [show ¬ ((i : Int) < 0) from by omega, if_false, Int.toNat_natCast, Array.getElem?_eq_none hge']
  refine wpAny_bind ?_
  first | refine wpAny_bind (wpAny_typeNameOfWhole_keyiter hit.typeIs (wpAny_pure ?_)) | refine wpAny_bind (wpAny_typeNameOf_keyiter hit.typeIs (wpAny_pure ?_))
  show wpAny _ _ (setField (.ref it) 0 .none >>= _) _ _ s
  refine wpAny_bind (wpAny_setField ho hd (by simp) ?_)
  show wpAny _ _ (newExc (.type "StopIteration") [] >>= _) _ _ _
  refine wpAny_bind ?_
  simp only [newExc, newTuple]
  refine wpAny_bind (wpAny_newObj_type ?_ (by size_fits))
  refine wpAny_bind (m := firstArgMember _ _) (wpAny_of_eq (a := Value.none) (by first | rfl | (simp only [firstArgMember]; rfl)) ?_)
  refine wpAny_newObj_type ?_ (by size_fits)
  simp only [raiseNew]
  refine wpAny_bind (wpAny_handled ?_)
  first | rw [show A.in1.handled = none from hh] | rw [hh]
  refine wpAny_bind (wpAny_pure (wpAny_throw ?_))
  exact hE _ _ (((Heap.SameBut.update ..).extBut.push _).push _) ⟨_, Heap.get?_push_size _ rfl, rfl⟩
theorem drawsKeys (hh : A.handled = none) (it d : Addr) (hne : d ≠ it) (od : Obj) (es : Array DictEntry) (ep : Nat) (hdd : od.data = .dict es ep) :
    Draws prog w A it [it, d] es.size (fun i v => ∃ en, es[i]? = some en ∧ v = en.key) (fun i h => h.IsKeyIter it d i es.size ep ∧ h.get? d = some od) where
  live := fun _ _ st => let ⟨o, ho, _⟩ := st.1; ⟨o, ho⟩
  frame := fun _ _ _ st hk => ⟨st.1.at fun o e => hk it (by simp) o e, hk d (by simp) _ st.2⟩
  item := fun i s Q E hi st hQ => by
    refine nextOf_key_item st.1 st.2 hdd rfl (Array.getElem?_eq_getElem hi) fun h' hit' hs' => ?_
    exact hQ _ h' s.toks ⟨_, Array.getElem?_eq_getElem hi, rfl⟩ ⟨hit', (hs'.2 d hne).trans st.2⟩ hs'
  done := fun s Q E st hE => nextOf_key_end hh st.1 st.2 hdd rfl (Nat.le_refl _) hE
theorem begins_keys (d : Addr) (od : Obj) (es : Array DictEntry) (ep : Nat) (hd : (d == sysModules) = false) (hc : od.ExactDict) (hdd : od.data = .dict es ep) :
    Begins (.ref d) { cls := .type "dict_keyiterator", data := .fields #[.ref d, .int 0 0, .int es.size 0, .int ep 0] } fun h => h.get? d = some od where
  iter := fun prog w A E s Q ho h => iter_keys hd ho hc hdd h
  keeps := fun h h' x hk => hk _ _ x
  free := rfl
end
/-- the keys of the locked dict at d, each in a new pair with its number -/
def IteKt (d : Addr) (o : Obj) (kvs : List (List Key × V)) : It :=
  ⟨fun i H => H d = some (.frz o (.dT kvs)) ∧ i < kvs.length, fun i H v H' => ∃ T q k y, v = .ref T ∧ H T = none ∧ H' = upd H T (.tup [.int (i : Nat), .ref q]) ∧ kvs[i]? = some (k, y) ∧ H q = some (.tup (k.map kV)), fun i H => H d = some (.frz o (.dT kvs)) ∧ i = kvs.length⟩
theorem turn_enumKt {P : Program} {w : World} {K : PySem.W.Frag} {elts : List Expr} {kk : Nat} {tpos : Pos} {o : Obj} {es : Array DictEntry} {ep : Nat} {kvs : List (List Key × V)} (d e it : Addr) (hod : o.data = .dict es ep) (hes : es.size = kvs.length) (hdi : d ≠ it) (hde : d ≠ e) :
    Turn P w K (.Tuple elts kk tpos) (IteKt d o kvs) [e, it] e (fun i h => (∃ old, IsEnum h e it ((i : Nat) : Int) old) ∧ h.IsKeyIter it d i es.size ep ∧ e ≠ it) where
  mem := by simp
  obj := fun i h st b hb => by
    obtain ⟨⟨old, he⟩, ⟨o, ho, hc, hd⟩, _⟩ := st
    have e' : b = e ∨ b = it := by simpa using hb
    rcases e' with z | z
    · rw [z]; exact ⟨_, he, fun v q => nomatch q⟩
    · rw [z]; exact ⟨o, ho, fun v q => by rw [hd] at q; cases q⟩
  keep := fun i h h' st k => let ⟨⟨old, he⟩, hi, hne⟩ := st; ⟨⟨old, k e (by simp) _ he⟩, hi.at fun o q => k it (by simp) o q, hne⟩
  item := by
    intro X hP hw hK hc i pins s σ H E I hf st hg
    subst hP hw hK
    obtain ⟨⟨old, he⟩, hit, hne⟩ := st
    obtain ⟨hd, hi⟩ := hg
    obtain ⟨hs, hgd, hx, es', ep', hdt, hsz, ent⟩ := I.frzT hd
    obtain ⟨rfl, rfl⟩ := dict_ep hod hdt
    have hel : e < s.heap.objs.size := Heap.lt_size he
    have hil : it < s.heap.objs.size := by obtain ⟨_, q, _⟩ := hit; exact Heap.lt_size q
    have D := drawsKeys (prog := X.prog) (w := X.w) (A := X.A.in1) (I.ok.hd hc) it d hdi o es' ep' hod
    refine wpAny_pyNext_enum_itemD D he ⟨hit, hgd⟩ (by omega) hne (by simp; exact ⟨hne, hde.symm⟩) fun y h' tk hy ho hst' hT hsz' hk => ?_
    obtain ⟨en, hen, rfl⟩ := hy
    obtain ⟨⟨k, v⟩, hkv⟩ : ∃ p, kvs[i]? = some p := ⟨kvs[i], List.getElem?_eq_getElem hi⟩
    obtain ⟨en', q, hen', hkey, hq⟩ := ent i k v hkv
    rw [hen] at hen'
    cases hen'
    rw [hkey] at ho hT
    refine ⟨_, rfl, wpAny_letOwnedTupleGo_enum (s := { s with heap := h', toks := tk + 1 }) ho fun h'' he' sb => ?_⟩
    have hT2 : h''.get? s.heap.objs.size = some { cls := .type "tuple", data := .seq #[.int i tk, .ref q] } := (sb.2 _ (Nat.ne_of_gt hel)).trans hT
    have new : ObjOk X.prog X.w (upd H s.heap.objs.size (.tup [.int (i : Nat), .ref q])) h'' s.heap.objs.size (.tup [.int (i : Nat), .ref q]) :=
      ⟨by show 2 ≤ sizeLine; decide, [.int i tk, .ref q], .cons ⟨_, rfl⟩ (.cons rfl .nil), ⟨_, hT2, rfl, _, rfl⟩⟩
    have I1 : Inv X pins σ (upd H s.heap.objs.size (.tup [.int (i : Nat), .ref q])) { s with heap := h'', toks := tk + 1 } :=
      I.turnedNew (ch := [e, it]) (fun b ob hb q => (sb.2 b (fun z => hb (by simp [z]))).trans (hk b ob (fun z => hb (by simp [z])) (fun z => hb (by simp [z])) q)) hf (Nat.le_refl _) new
    refine ⟨.ref s.heap.objs.size, _, I1, rfl, ⟨_, q, k, v, rfl, I.hok.fresh (Nat.le_refl _), rfl, hkv, hq⟩, ⟨⟨.ref q, ?_⟩, hst'.1.at fun o q => (sb.2 it (Ne.symm hne)).trans q, hne⟩, fun b hb => ?_⟩
    · have e1 : ((i + 1 : Nat) : Int) = (i : Int) + 1 := by omega
      rw [e1]; exact he'
    · have hb' : b < s.heap.objs.size := by
        have e' : b = e ∨ b = it := by simpa using hb
        rcases e' with z | z
        · rw [z]; exact hel
        · rw [z]; exact hil
      rw [upd_ne (Nat.ne_of_lt hb')]
      exact (hf b hb).1
  done := by
    intro X hP hw hK hc i pins s σ H E I hf st hg
    subst hP hw hK
    obtain ⟨⟨old, he⟩, hit, hne⟩ := st
    obtain ⟨hd, hi⟩ := hg
    obtain ⟨hs, hgd, hx, es', ep', hdt, hsz, ent⟩ := I.frzT hd
    obtain ⟨rfl, rfl⟩ := dict_ep hod hdt
    obtain ⟨f0, f1, f2, f3, f4, f5⟩ := hf it (by simp)
    have D := drawsKeys (prog := X.prog) (w := X.w) (A := X.A.in1) (I.ok.hd hc) it d hdi o es' ep' hod
    have ei : i = es'.size := by omega
    refine wpAny_pyNext_enum_endD D he (by rw [← ei] at hit ⊢; exact ⟨hit, hgd⟩) fun h' eb => ⟨rfl, I.turned (t' := s.toks) (fun b o hb q => eb b o hb q) f0 f1 f3 f4 f5⟩
  self := fun A i s Q E st h => let ⟨⟨_, he⟩, _⟩ := st; wpAny_pyIter_enum he h
def iEnumKt (ta : TA) : TI := fun σ H R => ta σ H fun vs H1 => ∃ d o kvs, vs = [.ref d] ∧ H1 d = some (.frz o (.dT kvs)) ∧ R (IteKt d o kvs) H1
theorem pi_enumKt {X : Cx} {e : Expr} {ta : TA} {p pos tpos : Pos} {elts : List Expr} {kk : Nat} (hg : Gl X "enumerate") (hm : X.mg "enumerate" = none) (ha : PA X [e] ta) (hs : starEach [e] X.env = [(false, eval e X.env)] := by rfl) :
    PI X (.Tuple elts kk tpos) (.Call (.Name "enumerate" p) [e] [] pos) (iEnumKt ta) := by
  refine ⟨fun pins s σ H R I h => ?_⟩
  refine Call_ (ld_blt I hg hm boot_enumerate (PyProof.Rows.callWith_type1 (thn (ha.run pos pins s σ H _ I h) fun us s1 ⟨vs, H1, I1, r1, q1⟩ => ?_) hs rfl))
  obtain ⟨d, o, kvs, ex, hd, q⟩ := q1
  subst ex
  cases r1 with
  | cons r rr =>
    cases rr
    cases r
    obtain ⟨hsm, hgd, hx, es, ep, hdt, hsz, ent⟩ := I1.frzT hd
    have hdl : d < s1.heap.objs.size := Heap.lt_size hgd
    refine enum1_begins (begins_keys d o es ep hsm hx hdt) hgd fun h' he hit hsz' hk => wpAny_pyIter_enum he ?_
    have I2 : Inv X pins σ H1 { s1 with heap := h' } := I1.kept (t' := s1.toks) hk
    refine ⟨s1.heap.objs.size + 1, [s1.heap.objs.size + 1, s1.heap.objs.size], _, _, H1, rfl, I2, turn_enumKt d (s1.heap.objs.size + 1) s1.heap.objs.size hdt hsz (Nat.ne_of_lt hdl) (Nat.ne_of_lt (Nat.lt_succ_of_lt hdl)), ⟨⟨.none, he⟩, ⟨_, hit, rfl, rfl⟩, Nat.succ_ne_self _⟩, fun b hb => ?_, q⟩
    have e' : b = s1.heap.objs.size + 1 ∨ b = s1.heap.objs.size := by simpa using hb
    have hle : s1.heap.objs.size ≤ b := by
      rcases e' with z | z
      · rw [z]; exact Nat.le_add_right _ _
      · rw [z]; exact Nat.le_refl _
    exact I1.fpOk hle (I1.hok.fresh hle)
theorem walk_enumKt {d : Addr} {o : Obj} {kvs : List (List Key × V)} : Walk (IteKt d o kvs) kvs.length (fun H => H d = some (.frz o (.dT kvs)))
    (fun i H v H' => ∃ T q k y, v = .ref T ∧ H T = none ∧ H' = upd H T (.tup [.int (i : Nat), .ref q]) ∧ kvs[i]? = some (k, y) ∧ H q = some (.tup (k.map kV))) :=
  ⟨fun _ _ hi q => ⟨q, hi⟩, fun _ q => ⟨q, rfl⟩, fun _ _ _ _ _ _ y => y⟩
end Tk

set_option Elab.async false
set_option linter.all false
set_option maxRecDepth 100000
set_option maxHeartbeats 8000000
/-! law. -/
namespace Tk
open PySem PySem.Spec PyProof.Rows L2
open LamX (Tabs ExtN)
def spLaw (K : PySem.W.Frag) (T : List (Addr × Str)) : Sp := fun vs H Q _ => ∃ (a : Addr) (ns : List Int), vs = [.ref a] ∧ SqL K H a (ns.map V.int) ∧ ns.length ≤ 1000 ∧ Tabs T H ∧ ∀ H', Q (.bl true) H'
section
variable {P : Program} {w : World} {K : PySem.W.Frag} {mg : Str → Option Value} {base : Heap}
theorem zip_walk {H : Hp} {a b : Addr} {xs ys : List V} {rows : List Row} {cs : List (Option Int)} (tx : TdAll H xs (rows.map rowD)) (ty : TdAll H ys (cs.map oI)) (hl : rows.length = cs.length) :
    Walk (ItzM K a b) (rows.zip cs).length (fun H' => H' a = some (.tup xs) ∧ H' b = some (.lst ys) ∧ TK H H') (fun i H x H' => Same H H' ∧ ∃ d, ((rows.zip cs).map rowTD)[i]? = some d ∧ Td H' x d) := by
  have hp : (rows.zip cs).map rowTD = pairsD (rows.map rowD) (cs.map oI) := (pairs_map rowD oI rows cs).symm
  have hx := tx.length
  have hy := ty.length
  rw [List.length_map] at hx hy
  have e : (rows.zip cs).length = xs.length := by
    rw [List.length_zip, hx, ← hl, Nat.min_self]
  rw [hp, e]
  exact (walk_zipM (K := K) (by rw [hx, hy, hl])).mono (fun H' q => ⟨.of q.1, .of q.2.1⟩) fun i H' x H'' hi q y => pair_step y (fun v g => (tx.mono q.2.2).at' g) fun v g => (ty.mono q.2.2).at' g
/-- rows by tickets -/
structure ByT (H : Hp) (kvs : List (List Key × V)) (qs : List RowT) : Prop where
  no : ∀ i n, qs.filter (tickQ i n) = [] → valV kvs [.inl i, .inl n] = none
  yes : ∀ i n, qs.filter (tickQ i n) ≠ [] → ∃ l xs, valV kvs [.inl i, .inl n] = some (.ref l) ∧ H l = some (.lst xs) ∧ TdAll H xs ((qs.filter (tickQ i n)).map rowTD)
  inj : ∀ i n i' n' l, valV kvs [.inl i, .inl n] = some (.ref l) → valV kvs [.inl i', .inl n'] = some (.ref l) → i = i' ∧ n = n'
  keys : ∀ e ∈ kvs, ∃ i n, e.1 = [.inl i, .inl n] ∧ qs.filter (tickQ i n) ≠ []
  len : kvs.length ≤ qs.length
/-- the same, the next row's own list at l0 (its rows in xs0) -/
structure Mid (H : Hp) (kvs : List (List Key × V)) (qs : List RowT) (i0 n0 : Int) (l0 : Addr) (xs0 : List V) : Prop where
  own : valV kvs [.inl i0, .inl n0] = some (.ref l0)
  lst : H l0 = some (.lst xs0)
  td : TdAll H xs0 ((qs.filter (tickQ i0 n0)).map rowTD)
  no : ∀ i n, ¬ (i = i0 ∧ n = n0) → qs.filter (tickQ i n) = [] → valV kvs [.inl i, .inl n] = none
  yes : ∀ i n, ¬ (i = i0 ∧ n = n0) → qs.filter (tickQ i n) ≠ [] → ∃ l xs, valV kvs [.inl i, .inl n] = some (.ref l) ∧ H l = some (.lst xs) ∧ TdAll H xs ((qs.filter (tickQ i n)).map rowTD)
  inj : ∀ i n i' n' l, valV kvs [.inl i, .inl n] = some (.ref l) → valV kvs [.inl i', .inl n'] = some (.ref l) → i = i' ∧ n = n'
  keys : ∀ e ∈ kvs, ∃ i n, e.1 = [.inl i, .inl n] ∧ (qs.filter (tickQ i n) ≠ [] ∨ (i = i0 ∧ n = n0))
  len : kvs.length ≤ qs.length + 1
theorem tickQ_self (q : RowT) : tickQ q.1.2.2.2.1 q.1.2.2.2.2.1 q = true := by simp [tickQ]
theorem tickQ_iff {i n : Int} {q : RowT} : tickQ i n q = true ↔ i = q.1.2.2.2.1 ∧ n = q.1.2.2.2.2.1 := by
  unfold tickQ
  rw [Bool.and_eq_true]
  exact ⟨fun h => ⟨(of_decide_eq_true h.1).symm, (of_decide_eq_true h.2).symm⟩, fun h => ⟨decide_eq_true h.1.symm, decide_eq_true h.2.symm⟩⟩
theorem Mid.step {H : Hp} {kvs : List (List Key × V)} {qs : List RowT} {l0 : Addr} {xs0 : List V} {q : RowT} {y : V} (M : Mid H kvs qs q.1.2.2.2.1 q.1.2.2.2.2.1 l0 xs0) (ty : Td H y (rowTD q)) : ByT (upd H l0 (.lst (xs0 ++ [y]))) kvs (qs ++ [q]) := by
  have m : TK H (upd H l0 (.lst (xs0 ++ [y]))) := .put M.lst fun _ z => by cases z
  have other : ∀ i n, ¬ (i = q.1.2.2.2.1 ∧ n = q.1.2.2.2.2.1) → (qs ++ [q]).filter (tickQ i n) = qs.filter (tickQ i n) := fun i n h => by
    rw [List.filter_append]
    have : tickQ i n q = false := Bool.eq_false_iff.mpr fun e => h (tickQ_iff.mp e)
    simp [this]
  have same : (qs ++ [q]).filter (tickQ q.1.2.2.2.1 q.1.2.2.2.2.1) = qs.filter (tickQ q.1.2.2.2.1 q.1.2.2.2.2.1) ++ [q] := by
    rw [List.filter_append]
    simp [tickQ_self]
  refine ⟨fun i n h => ?_, fun i n h => ?_, M.inj, fun e he => ?_, by rw [List.length_append]; exact M.len⟩
  · by_cases hk : i = q.1.2.2.2.1 ∧ n = q.1.2.2.2.2.1
    · obtain ⟨rfl, rfl⟩ := hk
      rw [same] at h
      simp at h
    · rw [other i n hk] at h
      exact M.no i n hk h
  · by_cases hk : i = q.1.2.2.2.1 ∧ n = q.1.2.2.2.2.1
    · obtain ⟨rfl, rfl⟩ := hk
      refine ⟨l0, xs0 ++ [y], M.own, upd_same, ?_⟩
      rw [same, List.map_append]
      exact (M.td.snoc ty).mono m
    · rw [other i n hk] at h ⊢
      obtain ⟨l, xs, h1, h2, h3⟩ := M.yes i n hk h
      have nl : l ≠ l0 := fun z => by
        rw [z] at h1
        exact hk (M.inj _ _ _ _ _ h1 M.own)
      exact ⟨l, xs, h1, by rw [upd_ne nl]; exact h2, h3.mono m⟩
  · obtain ⟨i, n, h1, h2⟩ := M.keys e he
    refine ⟨i, n, h1, ?_⟩
    by_cases hk : i = q.1.2.2.2.1 ∧ n = q.1.2.2.2.2.1
    · obtain ⟨rfl, rfl⟩ := hk
      rw [same]
      simp
    · rw [other i n hk]
      rcases h2 with h2 | h2
      · exact h2
      · exact absurd h2 hk
theorem ByT.keep {H H' : Hp} {kvs : List (List Key × V)} {qs : List RowT} (B : ByT H kvs qs) (k : TK H H') (h : ∀ i n l, valV kvs [.inl i, .inl n] = some (.ref l) → ∀ o, H l = some o → H' l = some o) : ByT H' kvs qs :=
  ⟨B.no, fun i n hn => let ⟨l, xs, h1, h2, h3⟩ := B.yes i n hn; ⟨l, xs, h1, h i n l h1 _ h2, h3.mono k⟩, B.inj, B.keys, B.len⟩
/-- the key is there -/
theorem ByT.old {H : Hp} {kvs : List (List Key × V)} {qs : List RowT} {i0 n0 : Int} {v : V} (B : ByT H kvs qs) (hv : valV kvs [.inl i0, .inl n0] = some v) : ∃ l0 xs0, v = .ref l0 ∧ Mid H kvs qs i0 n0 l0 xs0 := by
  have hne : qs.filter (tickQ i0 n0) ≠ [] := fun e => by
    rw [B.no i0 n0 e] at hv
    cases hv
  obtain ⟨l, xs, h1, h2, h3⟩ := B.yes i0 n0 hne
  rw [hv] at h1
  cases h1
  exact ⟨l, xs, rfl, hv, h2, h3, fun i n _ h => B.no i n h, fun i n _ h => B.yes i n h, B.inj, fun e he => let ⟨i, n, a, b⟩ := B.keys e he; ⟨i, n, a, .inl b⟩, by have := B.len; omega⟩
/-- the key is new: its list is, too -/
theorem ByT.new {H : Hp} {kvs : List (List Key × V)} {qs : List RowT} {i0 n0 : Int} {l0 : Addr} (B : ByT H kvs qs) (hv : valV kvs [.inl i0, .inl n0] = none) (hl : H l0 = some (.lst [])) (hn : ∀ i n, valV kvs [.inl i, .inl n] ≠ some (.ref l0)) :
    Mid H (putK kvs [.inl i0, .inl n0] (.ref l0)) qs i0 n0 l0 [] := by
  have he : qs.filter (tickQ i0 n0) = [] := by
    by_cases h : qs.filter (tickQ i0 n0) = []
    · exact h
    · obtain ⟨l, xs, h1, _⟩ := B.yes i0 n0 h
      rw [hv] at h1
      cases h1
  have key : ∀ i n : Int, ([.inl i, .inl n] : List Key) = [.inl i0, .inl n0] → i = i0 ∧ n = n0 := fun i n z => by
    injection z with z1 z2
    injection z2 with z3 _
    exact ⟨Sum.inl.inj z1, Sum.inl.inj z3⟩
  have oth : ∀ i n : Int, ¬ (i = i0 ∧ n = n0) → valV (putK kvs [.inl i0, .inl n0] (.ref l0)) [.inl i, .inl n] = valV kvs [.inl i, .inl n] := fun i n h => by
    rw [valV_put, if_neg fun z => h (key i n z)]
  have own : valV (putK kvs [.inl i0, .inl n0] (.ref l0)) [.inl i0, .inl n0] = some (.ref l0) := by
    rw [valV_put, if_pos rfl]
  refine ⟨own, hl, by rw [he]; exact .nil, fun i n h hn' => by rw [oth i n h]; exact B.no i n hn', fun i n h hn' => by rw [oth i n h]; exact B.yes i n hn', fun i n i' n' l h1 h2 => ?_, fun e hm => ?_, by have := length_putK kvs [.inl i0, .inl n0] (.ref l0); have := B.len; omega⟩
  · by_cases a1 : i = i0 ∧ n = n0
    · by_cases a2 : i' = i0 ∧ n' = n0
      · exact ⟨a1.1.trans a2.1.symm, a1.2.trans a2.2.symm⟩
      · obtain ⟨rfl, rfl⟩ := a1
        rw [own] at h1
        cases h1
        rw [oth i' n' a2] at h2
        exact absurd h2 (hn i' n')
    · rw [oth i n a1] at h1
      by_cases a2 : i' = i0 ∧ n' = n0
      · obtain ⟨rfl, rfl⟩ := a2
        rw [own] at h2
        cases h2
        exact absurd h1 (hn i n)
      · rw [oth i' n' a2] at h2
        exact B.inj _ _ _ _ _ h1 h2
  · rw [putK_new _ hv] at hm
    rcases List.mem_append.mp hm with hm | hm
    · obtain ⟨i, n, a, b⟩ := B.keys e hm
      exact ⟨i, n, a, .inl b⟩
    · rw [List.mem_singleton.mp hm]
      exact ⟨i0, n0, rfl, .inr ⟨rfl, rfl⟩⟩
theorem val_mem {kvs : List (List Key × V)} {k : List Key} {y : V} (h : (k, y) ∈ kvs) : ∃ v, valV kvs k = some v := by
  unfold valV
  cases e : kvs.find? fun kv => decide (kv.1 = k) with
  | none =>
    have := List.find?_eq_none.mp e (k, y) h
    simp at this
  | some kv => exact ⟨kv.2, rfl⟩
/-- as Cal, the function's own object told -/
def CalF (P : Program) (w : World) (K : PySem.W.Frag) (mg : Str → Option Value) (base : Heap) (x : Str) (st : Stmt) (k : Nat) (ps : List Str) (sp : Sp) : Prop := ∃ f fd, FnOk P w K mg base CX0 k f fd ps sp ∧ mg x = some (.ref f) ∧ FnP K x x st f fd
theorem cal_ofF {x : Str} {st : Stmt} {N ps : List Str} {k : Nat} {sp : Sp} (FA : FnAt K mg x st) (S : FnScope N ps (defScope st))
    (len : ∀ vs H Q E, sp vs H Q E → vs.length = ps.length)
    (body : ∀ (f : Addr) (cdv : Value) (A : Around) (outer : List Env) (s : Shared) (H : Hp) (vs : List V) (Q : VK) (E : XK), Room k (A.deeper (envOfC x (defScope st) s.heap.objs.size f cdv)) → sp vs H Q E →
      ∃ t, PSs (cxOf CX0 P w K mg base N x (defScope st) f cdv A outer s H E) (defBody st) t ∧ t { nx := fun _ H' => Q .non H', rt := Q } (start N vs) H) : CalF P w K mg base x st (k + 1) ps sp := by
  obtain ⟨f, fd, F, g⟩ := FA
  exact ⟨f, fd, F.ok S len (body f), g, F⟩
theorem cal_law {C : Addr} {TT : List (Addr × Str)} {c P1 c' P2 : Addr} (T : Txt K mg) (Y : ClsAt K mg C) (FA : FnAtC K mg "pages_by_days" s_pages_by_days c) (TB : LamX.TabB base mg c P1)
    (hm : (P1, (envOfC "pages_by_days" (defScope s_pages_by_days) 0 0 (.ref c)).qual ++ "<lambda>") ∈ TT) (hu : ∀ p ∈ TT, p.1 = P1 → p.2 = (envOfC "pages_by_days" (defScope s_pages_by_days) 0 0 (.ref c)).qual ++ "<lambda>")
    (FA' : FnAtC K mg "_law_file" s_L_file c') (TB' : LamX.TabB base mg c' P2)
    (hm' : (P2, (envOfC "_law_file" (defScope s_L_file) 0 0 (.ref c')).qual ++ "<lambda>") ∈ TT) (hu' : ∀ p ∈ TT, p.1 = P2 → p.2 = (envOfC "_law_file" (defScope s_L_file) 0 0 (.ref c')).qual ++ "<lambda>") :
    CalF P w K mg base "law" s_law 9 p_law (spLaw K TT) := by
  refine cal_ofF T.law sc_law (fun vs H Q E ⟨a, ns, e, _⟩ => by rw [e]; rfl) fun f cdv A outer s H vs Q E hr h => ?_
  obtain ⟨a, ns, rfl, hS, hns, hT, q⟩ := h
  have C1 : Cal P w K mg base "_law_hand" 1 p_L_hand (spHand K) := cal_hand T
  have C2 : Cal P w K mg base "_law_plan" 3 p_L_plan spPlan := cal_plan T
  have C3 : Cal P w K mg base "_law_file" 5 p_L_file (spFile TT) := cal_file T FA' TB' hm' hu'
  have C4 : Cal P w K mg base "ledger" 7 p_ledger (spLedger TT) := cal_ledger T Y FA TB hm hu
  have C5 : Cal P w K mg base "_law_classes" 1 p_L_classes spClasses := cal_classes T
  have C6 : Cal P w K mg base "_law_right" 5 p_L_right spRight := cal_right T
  have C7 : Cal P w K mg base "_law_kept" 5 p_L_kept spKeptL := cal_keptL T
  have C8 : Cal P w K mg base "kept_for" 8 p_kept_for (spKept TT) := cal_kept_for T Y FA TB hm hu
  have hrm : ∀ {k}, k ≤ 8 → Room k _ := fun h => hr.mono h
  refine ⟨_, PSs.nox (pss_cons (ps_for PassesOwn.never rfl (pi_range1 rfl T.range (pa_cons (pe_callB (call_max2 rfl) rfl T.max boot_max (pa_cons pe_int (pa_cons (pe_callB (call_min2 rfl) rfl T.min boot_min (pa_cons pe_int (pa_cons (pe_callB (clLen K) rfl T.len boot_len (pa_cons (pv 0) pa_nil)) pa_nil))) pa_nil))) pa_nil)) (pg_name (i := 1) sc_law.nd rfl (.inl rfl))
      (pss_cons (ps_set (i := 2) sc_law.nd rfl (.inl rfl) (pe_cal C1 (hrm (by decide)) rfl (pa_cons (pv 0) (pa_cons (pv 1) pa_nil))))
      (pss_cons (ps_set (i := 3) sc_law.nd rfl (.inl rfl) (pe_cal C2 (hrm (by decide)) rfl (pa_cons (pv 2) pa_nil)))
      (pss_cons (ps_set (i := 4) sc_law.nd rfl (.inl rfl) (pe_cal C3 (hrm (by decide)) rfl (pa_cons (pv 2) (pa_cons (pv 3) pa_nil))))
      (pss_cons (ps_par (i := 5) (j := 6) rfl sc_law.nd rfl rfl (by decide) rfl rfl (pa_cons (pe_cal C4 (hrm (by decide)) rfl (pa_cons (pv 3) (pa_cons (pv 4) pa_nil))) (pa_cons (pe_cal C5 (hrm (by decide)) rfl (pa_cons (pv 3) (pa_cons (pv 4) pa_nil))) pa_nil)) (by kernel_rfl))
      (pss_cons (ps_if (pt_cmpR op_ne (pe_callB (clLen K) rfl T.len boot_len (pa_cons (pv 5) pa_nil)) (pe_callB (clLen K) rfl T.len boot_len (pa_cons (pv 6) pa_nil)) (nomark _)) (pss_one (ps_ret pe_bl)) pss_nil)
      (pss_cons (ps_set (i := 7) sc_law.nd rfl (.inl rfl) pe_dnewT)
      (pss_cons (ps_for PassesOwn.never rfl (pi_zipM rfl T.zip (pa_cons (pv 5) (pa_cons (pv 6) pa_nil))) (pgt K 2 (pgs_cons (pg_name (i := 8) sc_law.nd rfl (.inl rfl)) (pgs_cons (pg_name (i := 9) sc_law.nd rfl (.inl rfl)) pgs_nil)))
        (pss_one (ps_expr (papp (pe_dsetdT (hu1 hr) (pv 7) (pe_slice (slT K) (pv 8) (po_some pe_int) (po_some pe_int)) (pe_lst pa_nil) ⟨rfl, rfl, rfl, rfl⟩) (pa_cons (pe_tup (pa_cons (pv 8) (pa_cons (pv 9) pa_nil))) pa_nil)))))
      (pss_one (ps_lock (ps_for PassesOwn.never rfl (pi_enumKt rfl T.enumerate (pa_cons (pv 7) pa_nil)) (pgt K 2 (pgs_cons (pg_name (i := 10) sc_law.nd rfl (.inl rfl)) (pgs_cons (pg_name (i := 11) sc_law.nd rfl (.inl rfl)) pgs_nil)))
        (pss_cons (ps_if (pt_not (pt_val (pe_cal C6 (hrm (by decide)) rfl (pa_cons (pv 3) (pa_cons (pv 11) (pa_cons (pe_dget (hu1 hr) (pv 7) (pv 11) (fun _ _ => rfl)) pa_nil)))))) (pss_one (ps_ret pe_bl)) pss_nil)
        (pss_cons (ps_set (i := 12) sc_law.nd rfl (.inl rfl) (pe_cal C7 (hrm (by decide)) rfl (pa_cons (pv 3) (pa_cons (pe_dget (hu1 hr) (pv 7) (pv 11) (fun _ _ => rfl)) pa_nil))))
        (pss_one (ps_if (PW.pt (pw_and (pt_cmpR op_lt (pv 10) pe_int (nomark _)) (pw_and1 (pt_cmpR op_ne (pe_cal C8 (hrm (by decide)) rfl (pa_cons (pv 3) (pa_cons (pv 4) (pa_cons (pix K (pv 11) pe_int) (pa_cons (pix K (pv 11) pe_int) pa_nil))))) (pv 12) (nomark _))))) (pss_one (ps_ret pe_bl)) pss_nil)))))))))))))))
    (pss_one (ps_ret pe_bl))), ?_⟩
  -- for k in range(max(1, min(3, len(script))))
  refine q_seq ?_
  refine ⟨.ref a, rfl, a, ns.map V.int, rfl, .inl hS, 3, _, rfl, 1, _, rfl, _, rfl, ?_, ?_, ?_⟩
  · split <;> (try split) <;> omega
  · split <;> (try split) <;> omega
  generalize ((if _ > (1 : Int) then _ else (1 : Int)) : Int).toNat = N
  refine for_it (walk_range (lo := 0) (n := N)) (fun k σ' H' => ∃ a1 a2 a3 a4 a5 a6 a7 a8 a9 a10 a11 a12, σ' = [some (.ref a), a1, a2, a3, a4, a5, a6, a7, a8, a9, a10, a11, a12] ∧ ExtN H H' ∧ Tabs TT H')
    ⟨none, none, none, none, none, none, none, none, none, none, none, none, rfl, ExtN.refl H, hT⟩ (fun _ _ _ _ _ => trivial) ?_ ?_
  · rintro k x σ' H'' H' hk ⟨a1, a2, a3, a4, a5, a6, a7, a8, a9, a10, a11, a12, rfl, eN, hT'⟩ ⟨rfl, hx⟩
    have hx' : x = .int (k : Int) := hx.trans (by show V.int (0 + (k : Int)) = _; rw [Int.zero_add])
    subst hx'
    clear hx
    refine gn ?_
    -- hand, plan, file
    refine q_seq (r_asg ⟨.ref a, rfl, .int (k : Int), rfl, a, ns, k, rfl, sqL_extN eN hS, fun hd H1 nhd s1 hA1 => gn ?_⟩)
    dsimp only
    refine q_seq (r_asg ⟨.ref hd, rfl, hd, 10000, rfl, hA1.le (by decide), fun vp p H2 k2 hA2 tp S => gn ?_⟩)
    dsimp only
    have O := planOk_of S
    have hT2 : Tabs TT H2 := Tabs.kl (hT'.ext s1) k2 fun b mm => by
      rw [List.mem_singleton.mp mm]
      exact hA1.nopage
    refine q_seq (r_asg ⟨.ref hd, rfl, vp, rfl, hd, vp, p, 5000, rfl, tp, S, hA2, hT2, fun vf file H3 k3 hT3 tf FO f112 G => gn ?_⟩)
    dsimp only
    have nhd' : ∀ b o, H' b = some o → b ≠ hd := fun b o e z => by
      rw [z, nhd] at e
      cases e
    have e3 : ExtN H' H3 := fun b o e n => k3 b o (nhd' b o e) (k2 b o (by simpa using nhd' b o e) (s1 b o e)) n
    have tp3 : Td H3 vp (planD p) := tp.mono fun b xs e => k3 b _ (fun z => by
      obtain ⟨_, _, _, e', _⟩ := hA2
      rw [z, e'] at e
      cases e) e fun _ z => by cases z
    clear k2 k3 hA1 hA2 hT2 nhd' s1 nhd tp
    -- rows, classes
    refine q_seq ?_
    refine ⟨vp, rfl, vf, rfl, p, file, .cons tp3 (.cons tf .nil), O, FO, hT3, fun vr H4 e4 hT4 tr => ?_⟩
    have tp4 := tp3.mono (.extN e4)
    have tf4 := tf.mono (.extN e4)
    refine ⟨vp, rfl, vf, rfl, p, file, .cons tp4 (.cons tf4 .nil), S, FO, f112, fun lc cs H5 nlc s5 elc tcs => ⟨vr, .ref lc, rfl, ?_⟩⟩
    have tp5 := tp4.mono (.same s5)
    have tf5 := tf4.mono (.same s5)
    have tr5 := tr.mono (.same s5)
    have hT5 := hT4.ext s5
    have e5 : ExtN H' H5 := (e3.trans e4).trans (.of s5)
    have hlen := len_eq S FO G
    dsimp only
    -- len(rows) != len(classes)
    obtain ⟨ar, rs, rfl, ear, trs⟩ := tr5.inv
    have hlr := trs.length
    have hlcs := tcs.length
    rw [List.length_map] at hlr hlcs
    refine q_seq (s_ifT (r_test (r_op ⟨.ref ar, rfl, ar, rs, rfl, .inr (.of ear), .ref lc, rfl, lc, cs, rfl, .inl (.of elc), rfl, _, rfl, no_ ?_ (nxt ?_)⟩)))
    · rw [hlr, hlcs, hlen]
      simp
    dsimp only
    -- by_tickets = {}
    refine q_seq (r_asg fun d nd => gn ?_)
    have s6 := same_new (o := .dT []) nd
    have ed6 : (upd H5 d (.dT [])) d = some (.dT []) := upd_same
    dsimp only
    refine (?_ : tSeq _ _ _ _ (upd H5 d (.dT [])))
    generalize upd H5 d (.dT []) = H6 at s6 ed6
    have tp6 := tp5.mono (.same s6)
    have tf6 := tf5.mono (.same s6)
    have ear6 := s6 _ _ ear
    have elc6 := s6 _ _ elc
    have trs6 := trs.mono (.same s6)
    have tcs6 := tcs.mono (.same s6)
    have hT6 := hT5.ext s6
    have e6 : ExtN H' H6 := e5.trans (.of s6)
    have nd' : ∀ b o, H' b = some o → (∀ ps, o ≠ .tbl ps) → b ≠ d := fun b o e n z => by
      rw [z] at e
      rw [e5 d o e n] at nd
      cases nd
    have ndr : d ≠ ar := ne_of ed6 ear6 (by intro z; cases z)
    have ndl : d ≠ lc := ne_of ed6 elc6 (by intro z; cases z)
    clear s6 nd s5 nlc ear elc trs tcs hT5 e5 tp5 tf5 tp4 tf4 tp3 tf e3 e4 hT4 hT3 tr tr5
    -- for row, rank in zip(rows, classes)
    refine q_seq ⟨.ref ar, rfl, .ref lc, rfl, ar, lc, rs, cs, rfl, .of ear6, .of elc6, ?_⟩
    have ntd : ∀ b ∈ [d], NT H6 b := nt_one (.dT ed6)
    refine for_walk (L := [d]) (H2 := H6) (as := rowsT p file) (en := rowTD) (zip_walk (K := K) trs6 tcs6 hlen) ntd (fun H' k => ⟨k _ _ (by simpa using ndr.symm) ear6, k _ _ (by simpa using ndl.symm) elc6, k.tk ntd⟩)
      (fun m σ' H' => ∃ b8 b9 kvs, σ' = [some (.ref a), some (.int (k : Int)), some (.ref hd), some vp, some vf, some (.ref ar), some (.ref lc), some (.ref d), b8, b9, a10, a11, a12] ∧ H' d = some (.dT kvs) ∧ ByT H' kvs ((rowsT p file).take m) ∧ ∀ i n l, valV kvs [.inl i, .inl n] = some (.ref l) → H6 l = none)
      ⟨a8, a9, [], rfl, ed6, ⟨fun _ _ _ => rfl, (fun i n h => absurd rfl h), (fun _ _ _ _ _ h => by cases h), (fun e h => by cases h), Nat.le_refl _⟩, (fun _ _ _ h => by cases h)⟩ ?_ ?_
    · rintro m q x σ' H0 H7 kk kT hq tq ⟨b8, b9, kvs, rfl, ed, B, hnew⟩ s0
      have hm := at_lt hq
      have hmax : (rowsT p file).length ≤ 2000000 := by
        unfold rowsT
        rw [List.length_zip]
        have := ledger_len FO
        omega
      refine g_pair (d1 := rowD q.1) (d2 := oI q.2) tq fun x8 x9 t8 t9 => ?_
      have ed7 := s0 _ _ ed
      have B7 := B.keep (.same s0) fun i n l _ o e => s0 l o e
      have et : (rowsT p file).take (m + 1) = (rowsT p file).take m ++ [q] := by
        rw [List.take_add_one, hq]
        rfl
      have hlk := B.len
      rw [List.length_take] at hlk
      have app : ∀ (H8 : Hp) (kvs1 : List (List Key × V)) (l0 : Addr) (xs0 : List V), Mid H8 kvs1 ((rowsT p file).take m) q.1.2.2.2.1 q.1.2.2.2.2.1 l0 xs0 → H8 d = some (.dT kvs1) → KL [d] H7 H8 → TK H7 H8 → H6 l0 = none → (∀ i n l, valV kvs1 [.inl i, .inl n] = some (.ref l) → H6 l = none) →
          tyV K "list" (.ref l0) H8 ∧ tTup (tCons (tVar 8) (tCons (tVar 9) tNil)) [some (.ref a), some (.int (k : Int)), some (.ref hd), some vp, some vf, some (.ref ar), some (.ref lc), some (.ref d), some x8, some x9, a10, a11, a12] H8 fun y H9 => rAppend (.ref l0) [y] H9 fun _ H10 => KL [d] H6 H10 ∧ ∃ b8 b9 kvs, ([some (.ref a), some (.int (k : Int)), some (.ref hd), some vp, some vf, some (.ref ar), some (.ref lc), some (.ref d), some x8, some x9, a10, a11, a12] : L2.St) = [some (.ref a), some (.int (k : Int)), some (.ref hd), some vp, some vf, some (.ref ar), some (.ref lc), some (.ref d), b8, b9, a10, a11, a12] ∧ H10 d = some (.dT kvs) ∧ ByT H10 kvs ((rowsT p file).take (m + 1)) ∧ ∀ i n l, valV kvs [.inl i, .inl n] = some (.ref l) → H6 l = none := fun H8 kvs1 l0 xs0 M ed8 k8 m8 nl0 hnew1 => by
        refine ⟨.inl ⟨rfl, _, .of M.lst⟩, ?_⟩
        refine (de_tup (da_cons (de_var (d := rowD q.1) (i := 8) rfl (t8.mono m8)) (da_cons (de_var (d := oI q.2) (i := 9) rfl (t9.mono m8)) da_nil))).at_ fun y H9 s9 ty => ?_
        have M9 : Mid H9 kvs1 ((rowsT p file).take m) q.1.2.2.2.1 q.1.2.2.2.2.1 l0 xs0 := ⟨M.own, s9 _ _ M.lst, M.td.mono (.same s9), M.no, fun i n h hn => let ⟨l, xs, h1, h2, h3⟩ := M.yes i n h hn; ⟨l, xs, h1, s9 _ _ h2, h3.mono (.same s9)⟩, M.inj, M.keys, M.len⟩
        have hlx : xs0.length < sizeLine := by
          have := M.td.length
          rw [List.length_map] at this
          have h2 := List.length_filter_le (tickQ q.1.2.2.2.1 q.1.2.2.2.2.1) ((rowsT p file).take m)
          rw [List.length_take] at h2
          exact big_ (by omega)
        refine ⟨l0, xs0, y, rfl, rfl, M9.lst, hlx, ?_⟩
        have nld : d ≠ l0 := ne_of (s9 _ _ ed8) M9.lst (by intro z; cases z)
        refine ⟨fun b o nb e => ?_, _, _, kvs1, rfl, ?_, ?_, hnew1⟩
        · rw [upd_ne (fun z => by rw [z, nl0] at e; cases e)]
          exact (((kk.s s0).trans k8).s s9) b o nb e
        · rw [upd_ne nld]
          exact s9 _ _ ed8
        · rw [et]
          exact M9.step ty
      refine ⟨.ref d, rfl, d, rfl, .inr ⟨_, .inl ed7⟩, ?_⟩
      have c35 : DE (tSl (rSlA K) (tVar 8) (tPart (tC (.int 3))) (tPart (tC (.int 5)))) [some (.ref a), some (.int (k : Int)), some (.ref hd), some vp, some vf, some (.ref ar), some (.ref lc), some (.ref d), some x8, some x9, a10, a11, a12] H7 (keyD [.inl q.1.2.2.2.1, .inl q.1.2.2.2.2.1]) := (de_cut (K := K) (lo := some 3) (hi := some 5) (de_var (d := rowD q.1) (i := 8) rfl t8) (po_i de_int) (po_i de_int)).to rfl
      refine c35.at_ fun yk H8 s8 tk => ⟨by decide, fun l0 nl0 => ?_⟩
      obtain ⟨b, rfl, eb⟩ := td_key tk
      have s9 := same_new (o := .lst []) nl0
      have s79 := s8.trans s9
      have nl06 : H6 l0 = none := by
        cases h : H6 l0 with
        | none => rfl
        | some o =>
          exfalso
          by_cases hz : l0 = d
          · rw [hz, s8 _ _ ed7] at nl0
            cases nl0
          · have := s8 _ _ ((kk.s s0) l0 o (by simpa using hz) h)
            rw [nl0] at this
            cases this
      have ed9 := s79 _ _ ed7
      have B9 := B7.keep (.same s79) fun i n l _ o e => s79 l o e
      refine ⟨kvs, [.inl q.1.2.2.2.1, .inl q.1.2.2.2.2.1], b, ed9, rfl, s9 _ _ eb, big_ (by omega), fun v hv => ?_, fun hv => ?_⟩
      · obtain ⟨l1, xs1, rfl, M⟩ := B9.old hv
        exact app _ kvs l1 xs1 M ed9 (.of s79) (.same s79) (hnew _ _ _ hv) hnew
      · have nl0k : ∀ i n, valV kvs [.inl i, .inl n] ≠ some (.ref l0) := fun i n z => by
          have hne : ((rowsT p file).take m).filter (tickQ i n) ≠ [] := fun e => by
            rw [B.no i n e] at z
            cases z
          obtain ⟨l, xs, h1, h2, _⟩ := (B7.keep (.same s8) fun i n l _ o e => s8 l o e).yes i n hne
          rw [z] at h1
          cases h1
          rw [nl0] at h2
          cases h2
        have nld : l0 ≠ d := fun z => by
          rw [z, s8 _ _ ed7] at nl0
          cases nl0
        have mP : TK H7 (upd (upd H8 l0 (.lst [])) d (.dT (putK kvs [.inl q.1.2.2.2.1, .inl q.1.2.2.2.2.1] (.ref l0)))) := (TK.same s79).trans (.put ed9 fun _ z => by cases z)
        have kP : KL [d] H7 (upd (upd H8 l0 (.lst [])) d (.dT (putK kvs [.inl q.1.2.2.2.1, .inl q.1.2.2.2.2.1] (.ref l0)))) := (KL.of s79).trans (.put (List.mem_singleton.mpr rfl))
        have BP := B7.keep mP fun i n l hl o e => kP l o (by
          have hne : ((rowsT p file).take m).filter (tickQ i n) ≠ [] := fun e => by
            rw [B.no i n e] at hl
            cases hl
          obtain ⟨l', xs, h1, h2, _⟩ := B7.yes i n hne
          rw [hl] at h1
          cases h1
          simpa using (ne_of h2 ed7 (by intro z; cases z))) e
        have M := BP.new (l0 := l0) hv (by rw [upd_ne nld]; exact upd_same) nl0k
        refine app _ _ l0 [] M upd_same kP mP nl06 fun i n l hl => ?_
        rw [valV_put] at hl
        split at hl
        · cases hl
          exact nl06
        · exact hnew i n l hl
    · rintro σ' H7 k7 ⟨b8, b9, kvs, rfl, ed, B, hnew⟩
      rw [List.take_length] at B
      have tp7 := tp6.mono (k7.tk ntd)
      have tf7 := tf6.mono (k7.tk ntd)
      have hT7 : Tabs TT H7 := Tabs.kl hT6 k7 fun b mm => by
        rw [List.mem_singleton.mp mm]
        exact ⟨_, ed6, (fun _ z => by cases z), (fun _ z => by cases z)⟩
      have e7 : ExtN H' H7 := fun b o e n => k7 b o (by simpa using nd' b o e n) (e6 b o e n)
      -- for at, ticket in enumerate(by_tickets)
      dsimp only
      refine ⟨d, .dT kvs, ed, True.intro, fun od => ?_⟩
      have edL : (upd H7 d (.frz od (.dT kvs))) d = some (.frz od (.dT kvs)) := upd_same
      have kL : KL [d] H7 (upd H7 d (.frz od (.dT kvs))) := .put (List.mem_singleton.mpr rfl)
      have mL : TK H7 (upd H7 d (.frz od (.dT kvs))) := .put ed fun _ z => by cases z
      have hTL : Tabs TT (upd H7 d (.frz od (.dT kvs))) := Tabs.kl hT7 kL fun b mm => by
        rw [List.mem_singleton.mp mm]
        exact ⟨_, ed, (fun _ z => by cases z), (fun _ z => by cases z)⟩
      have BL : ByT (upd H7 d (.frz od (.dT kvs))) kvs (rowsT p file) := B.keep mL fun i n l hl o e => kL l o (by
        simp only [List.mem_singleton]
        intro z
        have hne : (rowsT p file).filter (tickQ i n) ≠ [] := fun e => by
          rw [B.no i n e] at hl
          cases hl
        obtain ⟨l', xs, h1, h2, _⟩ := B.yes i n hne
        rw [hl] at h1
        cases h1
        rw [z, ed] at h2
        cases h2) e
      have tpL := tp7.mono mL
      have tfL := tf7.mono mL
      have eL : ExtN H' (upd H7 d (.frz od (.dT kvs))) := fun b o e n => kL b o (by simpa using nd' b o e n) (e7 b o e n)
      generalize upd H7 d (.frz od (.dT kvs)) = HL at edL hTL BL tpL tfL eL
      clear kL mL
      refine ⟨.ref d, rfl, d, od, kvs, rfl, edL, ?_⟩
      have nfrz : ∀ ps : Array Value, HO.frz od (.dT kvs) ≠ .tbl ps := fun ps z => by cases z
      refine for_it (walk_enumKt (d := d) (o := od) (kvs := kvs)) (fun _ σ'' H'' => ∃ c10 c11 c12, σ'' = [some (.ref a), some (.int (k : Int)), some (.ref hd), some vp, some vf, some (.ref ar), some (.ref lc), some (.ref d), b8, b9, c10, c11, c12] ∧ ExtN HL H'' ∧ Tabs TT H'')
        ⟨a10, a11, a12, rfl, ExtN.refl _, hTL⟩ (fun i σ'' H'' _ ⟨_, _, _, _, e, _⟩ => e _ _ edL nfrz) ?_ ?_
      · rintro i x σ'' H8 H9 hi ⟨c10, c11, c12, rfl, eN8, hT8⟩ ⟨Tp, kq, ky, yv, rfl, nT, rfl, hkv, hkq⟩
        obtain ⟨i0, n0, ek, hne⟩ := BL.keys (ky, yv) (List.mem_of_getElem? hkv)
        replace ek : ky = [.inl i0, .inl n0] := ek
        subst ek
        have s9 := same_new (o := .tup [.int (i : Nat), .ref kq]) nT
        have eN9 : ExtN HL (upd H8 Tp (.tup [.int (i : Nat), .ref kq])) := eN8.trans (.of s9)
        have hT9 := hT8.ext s9
        have tkey : Td (upd H8 Tp (.tup [.int (i : Nat), .ref kq])) (.ref kq) (keyD [.inl i0, .inl n0]) := td_of_key (s9 _ _ hkq)
        have tpair : Td (upd H8 Tp (.tup [.int (i : Nat), .ref kq])) (.ref Tp) (.tuple [.int (i : Int), keyD [.inl i0, .inl n0]]) := .tup upd_same (.cons (.int _) (.cons tkey .nil))
        refine g_pair tpair fun w10 w11 t10 t11 => ?_
        rw [t10.int_]
        generalize upd H8 Tp (.tup [.int (i : Nat), .ref kq]) = H9 at eN9 hT9 t10 t11
        clear tpair tkey s9 nT hkq eN8 hT8
        -- the ticket
        obtain ⟨q1, hq1⟩ : ∃ q1, q1 ∈ (rowsT p file).filter (tickQ i0 n0) := by
          cases e : (rowsT p file).filter (tickQ i0 n0) with
          | nil => exact absurd e hne
          | cons q1 _ => exact ⟨q1, List.mem_cons_self⟩
        obtain ⟨hq1m, hq1t⟩ := List.mem_filter.mp hq1
        obtain ⟨ii, hii, hil⟩ := tick_ok S FO G q1 hq1m
        have hi0 : i0 = (ii : Int) := (tickQ_iff.mp hq1t).1.trans hii
        subst hi0
        obtain ⟨l, xs, hvl, hll, htl⟩ := BL.yes _ _ hne
        have dget : ∀ {H : Hp}, ExtN HL H → Td H w11 (keyD [.inl (ii : Int), .inl n0]) → DGet H d w11 (some (.ref l)) := fun e t => by
          obtain ⟨b, rfl, eb⟩ := td_key t
          exact .inr ⟨kvs, _, b, .inr ⟨od, e _ _ edL nfrz⟩, rfl, eb, hvl.symm⟩
        have hll9 := eN9 _ _ hll fun _ z => by cases z
        have htl9 := htl.mono (.extN eN9)
        have tp9 := tpL.mono (.extN eN9)
        obtain ⟨now, gone, hnow, hrun⟩ := run_ok S FO G ii hil n0
        -- not right(..): return False
        refine q_seq (s_ifT ?_)
        refine ⟨vp, rfl, w11, rfl, .ref d, rfl, w11, rfl, d, .ref l, rfl, dget eN9 t11, ?_⟩
        refine ⟨vp, w11, l, p, ii, n0, xs, (rowsT p file).filter (tickQ ii n0), now, gone, rfl, tp9, t11, hll9, htl9, O, hil, hnow, hrun, fun H10 s10 => ⟨true, rfl, no_ rfl (nxt ?_)⟩⟩
        have eN10 : ExtN HL H10 := eN9.trans (.of s10)
        have hT10 := hT9.ext s10
        have t1110 := t11.mono (.same s10)
        have tp10 := tp9.mono (.same s10)
        have hll10 := s10 _ _ hll9
        have htl10 := htl9.mono (.same s10)
        -- due
        dsimp only
        refine q_asgN fun Qd hqd => ?_
        refine ⟨vp, rfl, .ref d, rfl, w11, rfl, d, .ref l, rfl, dget eN10 t1110, ?_⟩
        have hcons : ∃ q0 qs, (rowsT p file).filter (tickQ ii n0) = q0 :: qs := by
          cases e : (rowsT p file).filter (tickQ ii n0) with
          | nil => exact absurd e hne
          | cons q0 qs => exact ⟨q0, qs, rfl⟩
        obtain ⟨q0, qs, hqq⟩ := hcons
        have hmem : ∀ q ∈ q0 :: qs, q ∈ rowsT p file ∧ tickQ ii n0 q = true := fun q hq => List.mem_filter.mp (by rw [hqq]; exact hq)
        refine ⟨vp, l, p, ii, xs, q0, qs, rfl, tp10, hll10, by rw [← hqq]; exact htl10, O, hil, (tickQ_iff.mp (hmem q0 List.mem_cons_self).2).1.symm, fun q hq hg hb => rank_ok S FO G q (hmem q hq).1 hg hb, fun H11 s11 => hqd _ _ ?_⟩
        have eN11 : ExtN HL H11 := eN10.trans (.of s11)
        have hT11 := hT10.ext s11
        have t1111 := t1110.mono (.same s11)
        have tp11 := tp10.mono (.same s11)
        have tf11 := tfL.mono (.extN eN11)
        -- at < 3 and kept_for(..) != due
        refine s_ifT (t_and (r_test (r_op ⟨.int (i : Int), rfl, (i : Int), 3, rfl, rfl, _, rfl, ?_⟩)))
        by_cases h3 : decide ((i : Int) < 3) = true
        · refine yes_ h3 (r_test (r_op ?_))
          have d11 : DE (tVar 11) [some (.ref a), some (.int (k : Int)), some (.ref hd), some vp, some vf, some (.ref ar), some (.ref lc), some (.ref d), b8, b9, some (.int (i : Int)), some w11, some (.int (keptGo p ii (q0 :: qs) (rackRank p ii)))] H11 (.tuple [.int (ii : Int), .int n0]) := de_var (i := 11) rfl t1111
          refine ⟨vp, rfl, vf, rfl, ?_⟩
          refine (de_ix (K := K) d11 (de_int (i := ((0 : Nat) : Int))) (d := .int (ii : Int)) rfl).at_ fun z1 H12 s12 tz1 => ?_
          refine (de_ix (K := K) (d11.mono s12) (de_int (i := ((1 : Nat) : Int))) (d := .int n0) rfl).at_ fun z2 H13 s13 tz2 => ?_
          have s113 := s12.trans s13
          refine ⟨p, file, ii, n0, .cons (tp11.mono (.same s113)) (.cons (tf11.mono (.same s113)) (.cons (tz1.mono (.same s13)) (.cons tz2 .nil))), O, FO, hil, hT11.ext s113, fun H14 e14 hT14 => ⟨_, rfl, rfl, _, rfl, no_ ?_ (nxt ?_)⟩⟩
          · rw [kept_ok S FO G ii hil n0, hqq]
            simp
          · exact ⟨_, _, _, rfl, (eN11.trans (.of s113)).trans e14, hT14⟩
        · exact no_ (Bool.eq_false_iff.mpr h3) (no_ rfl (nxt ⟨_, _, _, rfl, eN11, hT11⟩))
      · rintro σ'' H8 ⟨c10, c11, c12, rfl, eN8, hT8⟩
        have ed8 := eN8 _ _ edL nfrz
        refine ⟨ed8, _, _, _, _, _, _, _, _, _, _, _, _, rfl, fun b o e n => ?_, Tabs.kl hT8 (L := [d]) (.put (List.mem_singleton.mpr rfl)) fun b mm => ?_⟩
        · have h1 := eN b o e n
          rw [upd_ne (nd' b o h1 n)]
          exact eN8 b o (eL b o h1 n) n
        · rw [List.mem_singleton.mp mm]
          exact ⟨_, ed8, nfrz, (fun _ z => by cases z)⟩
  · rintro σ' H' ⟨a1, a2, a3, a4, a5, a6, a7, a8, a9, a10, a11, a12, rfl, eN, hT'⟩
    exact q H'
end
end Tk

set_option Elab.async false
set_option linter.all false
set_option maxRecDepth 100000
set_option maxHeartbeats 0
/-! The end. -/
namespace Tk
open PySem PySem.Spec PyProof.Rows L2
open LamX (Tabs ExtN)
section
variable {P : Program} {w : World} {K : PySem.W.Frag} {h : Heap} {mg : Str → Option Value}
theorem fnAt (X : K.In h) (G : h.Ns mainGlobals mg) (c : He.SaysD fa fn K) (i j : Nat) {d : He.DefD} {x : Str} {st : Stmt} (hd : fn[i]? = some d) (hf : fa[j]? = some (.glo x)) (e : d = ⟨(x, none), x, x, defArgs st, defBody st, defScope st, [], []⟩) : FnAt K mg x st := by
  subst e
  obtain ⟨fd, F⟩ := c.def_ i hd
  exact ⟨_, fd, F, He.glo_ok X G (c.fact j hf)⟩
theorem fnAtC (X : K.In h) (G : h.Ns mainGlobals mg) (c : He.SaysD fa fn K) (i j : Nat) {d : He.DefD} {x : Str} {st : Stmt} (hd : fn[i]? = some d) (hf : fa[j]? = some (.glo x)) (e : d = ⟨(x, none), x, x, defArgs st, defBody st, defScope st, [], []⟩) : FnAtC K mg x st (He.cT K (x, none)).1 := by
  subst e
  obtain ⟨fd, F⟩ := c.def_ i hd
  refine ⟨_, fd, F, He.glo_ok X G (c.fact j hf), ?_⟩
  obtain ⟨oc, od, dV, kV, doc, pm, an, cdv, ct, osl, rfl, lk, hcd, _, _⟩ := F.ex
  obtain ⟨cc, rfl⟩ := He.codeIn_ref hcd
  have e2 := He.codeOf_eq (p := (x, none)) lk rfl
  show Value.ref cc = Value.ref (He.codeOf K (x, none))
  rw [e2]
theorem clsAt (X : K.In h) (G : h.Ns mainGlobals mg) (c : He.SaysD fa fn K) : ClsAt K mg (He.ga K "Standing") := by
  obtain ⟨fd0, F0⟩ := c.def_ 17 (d := d_init) rfl
  obtain ⟨fd1, F1⟩ := c.def_ 18 (d := d_rank_of) rfl
  obtain ⟨fd2, F2⟩ := c.def_ 19 (d := d_word_for) rfl
  obtain ⟨fd3, F3⟩ := c.def_ 20 (d := d_done) rfl
  exact {
    c := He.cls_ok (c.fact 46 (f := .cls "Standing") rfl)
    g := He.glo_ok X G (c.fact 32 (f := .glo "Standing") rfl)
    init := ⟨_, fd0, F0, He.mkr_ok (c.fact 47 (f := .mkr "Standing") rfl)⟩
    plan := He.noat_ok (c.fact 48 (f := .noat "Standing" "plan") rfl)
    odds := He.noat_ok (c.fact 49 (f := .noat "Standing" "odds") rfl)
    ends := He.noat_ok (c.fact 50 (f := .noat "Standing" "ends") rfl)
    ranks := He.noat_ok (c.fact 51 (f := .noat "Standing" "ranks") rfl)
    gone := He.noat_ok (c.fact 52 (f := .noat "Standing" "gone") rfl)
    rank_of := ⟨_, fd1, F1, He.meth_ok (c.fact 53 (f := .meth "Standing" "rank_of") rfl)⟩
    word_for := ⟨_, fd2, F2, He.meth_ok (c.fact 54 (f := .meth "Standing" "word_for") rfl)⟩
    done := ⟨_, fd3, F3, He.meth_ok (c.fact 55 (f := .meth "Standing" "done") rfl)⟩ }
theorem txt (X : K.In h) (G : h.Ns mainGlobals mg) (c : He.SaysD fa fn K) : Txt K mg := by
  have Y := clsAt X G c
  exact {
    tie_of := fnAt X G c 0 0 rfl rfl rfl
    ties_along := fnAt X G c 1 1 rfl rfl rfl
    miles := fnAt X G c 2 2 rfl rfl rfl
    both_ways := fnAt X G c 3 3 rfl rfl rfl
    way := fnAt X G c 4 4 rfl rfl rfl
    racks_at := fnAt X G c 5 5 rfl rfl rfl
    way_of := fnAt X G c 6 6 rfl rfl rfl
    fare := fnAt X G c 7 7 rfl rfl rfl
    told_closings := fnAt X G c 8 8 rfl rfl rfl
    lots_of := fnAt X G c 9 9 rfl rfl rfl
    all_seeings := fnAt X G c 10 10 rfl rfl rfl
    is_odd := fnAt X G c 11 11 rfl rfl rfl
    seeings := fnAt X G c 12 12 rfl rfl rfl
    odd := fnAt X G c 13 13 rfl rfl rfl
    pages_by_days := fnAt X G c 14 14 rfl rfl rfl
    things_on := fnAt X G c 15 15 rfl rfl rfl
    first_ends := fnAt X G c 16 16 rfl rfl rfl
    ledger := fnAt X G c 21 17 rfl rfl rfl
    kept_in := fnAt X G c 22 18 rfl rfl rfl
    kept_for := fnAt X G c 23 19 rfl rfl rfl
    L_hand := fnAt X G c 24 20 rfl rfl rfl
    L_take := fnAt X G c 25 21 rfl rfl rfl
    L_of := fnAt X G c 26 22 rfl rfl rfl
    L_plan := fnAt X G c 27 23 rfl rfl rfl
    L_tickets := fnAt X G c 28 24 rfl rfl rfl
    L_once := fnAt X G c 29 25 rfl rfl rfl
    L_office := fnAt X G c 30 26 rfl rfl rfl
    L_file := fnAt X G c 31 27 rfl rfl rfl
    L_classes := fnAt X G c 32 28 rfl rfl rfl
    L_right := fnAt X G c 33 29 rfl rfl rfl
    L_kept := fnAt X G c 34 30 rfl rfl rfl
    law := fnAt X G c 35 31 rfl rfl rfl
    range := He.free_ok X G (c.fact 33 (f := .free "range") rfl)
    zip := He.free_ok X G (c.fact 34 (f := .free "zip") rfl)
    enumerate := He.free_ok X G (c.fact 35 (f := .free "enumerate") rfl)
    tuple := He.free_ok X G (c.fact 36 (f := .free "tuple") rfl)
    sorted := He.free_ok X G (c.fact 37 (f := .free "sorted") rfl)
    sum := He.free_ok X G (c.fact 38 (f := .free "sum") rfl)
    any := He.free_ok X G (c.fact 39 (f := .free "any") rfl)
    dict := He.free_ok X G (c.fact 40 (f := .free "dict") rfl)
    min := He.free_ok X G (c.fact 41 (f := .free "min") rfl)
    max := He.free_ok X G (c.fact 42 (f := .free "max") rfl)
    len := He.free_ok X G (c.fact 43 (f := .free "len") rfl)
    abs := He.free_ok X G (c.fact 44 (f := .free "abs") rfl)
    int := He.free_ok X G (c.fact 45 (f := .free "int") rfl)
    cls := ⟨_, Y.c, Y.g, Y.init, Y.plan, Y.odds, Y.ends, Y.ranks, Y.gone, Y.rank_of, Y.word_for, Y.done⟩ }
abbrev TTof (K : PySem.W.Frag) : List (Addr × Str) := [((He.cT K ("pages_by_days", none)).2, (envOfC "pages_by_days" (defScope s_pages_by_days) 0 0 (.ref (He.cT K ("pages_by_days", none)).1)).qual ++ "<lambda>"), ((He.cT K ("_law_file", none)).2, (envOfC "_law_file" (defScope s_L_file) 0 0 (.ref (He.cT K ("_law_file", none)).1)).qual ++ "<lambda>")]
theorem law_at {l : PySem.W.OpenLaw} {f : Addr} (X : K.In h) (G : h.Ns mainGlobals mg) (hfa : mg ("law" : Str) = some (.ref f)) (c : He.SaysX fa fn [] tf exB w h K) : LamX.LawAtS l w K CX0 9 63 "_law_script" mg f h := by
  have T := txt X G c.t.d
  have Y := clsAt X G c.t.d
  have FA := fnAtC X G c.t.d 14 14 (d := d_pages_by_days) rfl rfl rfl
  have FA' := fnAtC X G c.t.d 31 27 (d := d_L_file) rfl rfl rfl
  have m0 : (("pages_by_days", none) : He.Defn) ∈ tf := List.mem_cons_self
  have m1 : (("_law_file", none) : He.Defn) ∈ tf := List.mem_cons_of_mem _ List.mem_cons_self
  have ne : (He.cT K ("pages_by_days", none)).2 ≠ (He.cT K ("_law_file", none)).2 := by
    have e : (!((He.cT K ("pages_by_days", none)).2 == (He.cT K ("_law_file", none)).2)) = true := c.more
    intro z
    rw [z, beq_self_eq_true] at e
    cases e
  have C : ∀ base : Heap, (∀ p ∈ tf.map (He.cT K), LamX.TabB base mg p.1 p.2) → CalF l.prog w K mg base "law" s_law 9 p_law (spLaw K (TTof K)) := fun base hB =>
    cal_law T Y FA (hB _ (List.mem_map.mpr ⟨_, m0, rfl⟩)) List.mem_cons_self (fun p hp e => by
      rcases List.mem_cons.mp hp with rfl | hp
      · rfl
      · rw [List.mem_singleton.mp hp] at e
        exact absurd e.symm ne) FA' (hB _ (List.mem_map.mpr ⟨_, m1, rfl⟩)) (List.mem_cons_of_mem _ List.mem_cons_self) (fun p hp e => by
      rcases List.mem_cons.mp hp with rfl | hp
      · exact absurd e ne
      · rw [List.mem_singleton.mp hp])
  obtain ⟨fd, F⟩ := c.t.d.def_ 35 (d := d_law) rfl
  have e := hfa.symm.trans (He.glo_ok X G (c.t.d.fact 31 (f := .glo "law") rfl))
  cases e
  have b := FunD.bindsA (ps := p_law) F fun _ _ _ _ _ _ us hl => match us, hl with | [_], _ => rfl
  refine ⟨fd, tf.map (He.cT K), spLaw K (TTof K), ?_, ?_, ?_, fun s v => b s [v] rfl, ?_, ?_⟩
  · intro p hp
    obtain ⟨q, hq, rfl⟩ := List.mem_map.mp hp
    exact c.empty q hq
  · intro p hp
    obtain ⟨q, hq, rfl⟩ := List.mem_map.mp hp
    exact c.out q hq
  · intro p hp
    obtain ⟨q, hq, rfl⟩ := List.mem_map.mp hp
    exact PySem.W.codeHd_of_K X (c.hd q hq)
  · intro H a ns hl _ hT hS
    refine ⟨a, ns, rfl, hS, by omega, ?_, fun _ => rfl⟩
    intro p hp
    rcases List.mem_cons.mp hp with rfl | hp
    · exact LamX.TabS.nil (hT _ (List.mem_map.mpr ⟨_, m0, rfl⟩))
    · rw [List.mem_singleton.mp hp]
      exact LamX.TabS.nil (hT _ (List.mem_map.mpr ⟨_, m1, rfl⟩))
  · intro base Xb Gb hB
    obtain ⟨f2, fd2, ok, g2, F2⟩ := C base hB
    have e1 := g2.symm.trans hfa
    cases e1
    obtain ⟨_, _, _, _, _, _, _, _, _, _, _, lk, _⟩ := F.ex
    obtain ⟨_, _, _, _, _, _, _, _, _, _, _, lk2, _⟩ := F2.ex
    have e3 := lk.symm.trans lk2
    cases e3
    exact ok
end
end Tk
open PySem PySem.W PySem.Calls PyProof.Rows
theorem PySem.Challenge.cw_ticketracks_k46_whole_never_coined_twice_holds : PySem.Challenge.rw_ticketracks_k46_whole_never_coined_twice.Holds := by
  w_on; o_law
  refine HandSHeadRun.head_any (r := OpenLaw.row PySem.Challenge.rw_ticketracks_k46_whole_never_coined_twice) (q := view (OpenLaw.row PySem.Challenge.rw_ticketracks_k46_whole_never_coined_twice).prog [38]) (H := Tk.hk) (ob := Tk.ob) (M := 4000) (loose := Tk.looseA ++ Tk.looseB) (d := HandSHeadRun.topDef (OpenLaw.row PySem.Challenge.rw_ticketracks_k46_whole_never_coined_twice).prog 38) (kwd := []) Tk.ob_eq
    (by kernel_rfl) (fun s => by kernel_rfl) Tk.topRun (by kernel_rfl) (by kernel_rfl) (by kernel_rfl) (by rfl) (by first | assumption | decide +kernel) (by decide +kernel) ⟨rfl, rfl, rfl, rfl, rfl, by decide +kernel⟩ ?hw ?hc
  case hw => w_witness2
  case hc =>
    refine LamX.walk_ofTsE (l := PySem.Challenge.rw_ticketracks_k46_whole_never_coined_twice) (n := 63) (k := 9) (x := "_law_script") (CX := fun _ => L2.CX0) rfl (by decide) (by kernel_rfl) ⟨rfl, by decide, by decide⟩ ?F (fun _ _ _ _ _ z => z)
    intro w mg fa h Y G hmg0
    obtain ⟨K, KX, c⟩ := Y
    have hmg : mg ("law" : PySem.Str) = some (.ref fa) := by
      have e : (HandSHeadRun.topDef (OpenLaw.row PySem.Challenge.rw_ticketracks_k46_whole_never_coined_twice).prog 38).name = ("law" : PySem.Str) := by kernel_rfl
      rw [← e]
      exact hmg0
    exact ⟨K, KX, Tk.law_at KX G hmg c⟩

