import PyProof.Rows.All
import Wide.All
import OpenK.AllK
import Wide.FinOn
import KE.KStateDown
import Lean
import HandS.ForMost
import HandS.Defaults
import HandS.Conv
import HandS.Zip
import HandS.Head0
import HandS.Head1
import HandS.Head2
import HandS.HeadEnd
import HandS.HeadHook1
import HandS.HeadHook2
import PySem.Challenge.RW_veilcount_k91_whole_the_way_back
set_option Elab.async false
set_option linter.all false
set_option maxRecDepth 100000
set_option maxHeartbeats 4000000
namespace Vc
open PySem L2
/-! the text by places -/
def top (i : Nat) : Stmt := PySem.Challenge.pw_veilcount_k91_whole_the_way_back.main.body.getD i (.Pass ⟨0, 0, 0, 0⟩)
abbrev s_is_lot : Stmt := top 8
abbrev s_holders : Stmt := top 9
abbrev s_cover : Stmt := top 10
abbrev s_covering_pair : Stmt := top 11
abbrev s_checked_family : Stmt := top 12
abbrev s_contains : Stmt := top 13
abbrev s_stage_of : Stmt := top 14
abbrev s_is_order : Stmt := top 16
abbrev s_checked_order : Stmt := top 17
abbrev s_moved : Stmt := top 18
abbrev s_undone : Stmt := top 19
abbrev s_chained : Stmt := top 20
abbrev s_factorial : Stmt := top 21
abbrev s_order_of_number : Stmt := top 22
abbrev s_order_number : Stmt := top 23
abbrev s_matching : Stmt := top 24
abbrev s_StageCoins_init : Stmt := inClass (top 26) 0
abbrev s_RunCoins_init : Stmt := inClass (top 27) 0
abbrev s_stage_size : Stmt := top 28
abbrev s_size : Stmt := top 29
abbrev s_Source_init : Stmt := inClass (top 30) 0
abbrev s_Source_number : Stmt := inClass (top 30) 1
abbrev s_Source_block : Stmt := inClass (top 30) 2
abbrev s_read_stage : Stmt := top 31
abbrev s_coins_of : Stmt := top 32
abbrev s_flat : Stmt := top 33
abbrev s_is_prime : Stmt := top 35
abbrev s_checked_prime : Stmt := top 36
abbrev s_total : Stmt := top 37
abbrev s_split : Stmt := top 39
abbrev s_join : Stmt := top 40
abbrev s_fresh_table : Stmt := top 41
abbrev s_values_of : Stmt := top 42
abbrev s_StageRecord_init : Stmt := inClass (top 44) 0
abbrev s_outsiders : Stmt := top 45
abbrev s_gathered_pieces : Stmt := top 46
abbrev s_held_shares : Stmt := top 47
abbrev s_spread_pieces : Stmt := top 48
abbrev s_new_table : Stmt := top 49
abbrev s_run_stage : Stmt := top 50
abbrev s_RunRecord_init : Stmt := inClass (top 52) 0
abbrev s_last_table : Stmt := top 53
abbrev s_check_votes : Stmt := top 54
abbrev s_run : Stmt := top 55
abbrev s_nudged : Stmt := top 57
abbrev s_nudged_rows : Stmt := top 58
abbrev s_carrier_of : Stmt := top 59
abbrev s_hidden_holder : Stmt := top 60
abbrev s_other_gather : Stmt := top 61
abbrev s_passed_on : Stmt := top 62
abbrev s_turned_order : Stmt := top 63
abbrev s_share_differences : Stmt := top 64
abbrev s_taken_away : Stmt := top 65
abbrev s_copied : Stmt := top 66
abbrev s_swapped : Stmt := top 67
abbrev s__law_cell : Stmt := top 69
abbrev s__law_row : Stmt := top 70
abbrev s__law_box : Stmt := top 71
abbrev s__law_draw : Stmt := top 72
abbrev s__law_family : Stmt := top 73
abbrev s__law_holders : Stmt := top 74
abbrev s__law_size : Stmt := top 75
abbrev s__law_world : Stmt := top 76
abbrev s__law_coins : Stmt := top 77
abbrev s__law_told_coins : Stmt := top 78
abbrev s__law_deep : Stmt := top 79
abbrev s__law_lot : Stmt := top 80
abbrev s__law_others : Stmt := top 81
abbrev s_law : Stmt := top 82
def d_is_lot : He.DefD := ⟨("is_lot", none), "is_lot", "is_lot", defArgs s_is_lot, defBody s_is_lot, defScope s_is_lot, [], []⟩
def d_holders : He.DefD := ⟨("holders", none), "holders", "holders", defArgs s_holders, defBody s_holders, defScope s_holders, [], []⟩
def d_cover : He.DefD := ⟨("cover", none), "cover", "cover", defArgs s_cover, defBody s_cover, defScope s_cover, [], []⟩
def d_covering_pair : He.DefD := ⟨("covering_pair", none), "covering_pair", "covering_pair", defArgs s_covering_pair, defBody s_covering_pair, defScope s_covering_pair, [], []⟩
def d_checked_family : He.DefD := ⟨("checked_family", none), "checked_family", "checked_family", defArgs s_checked_family, defBody s_checked_family, defScope s_checked_family, [], []⟩
def d_contains : He.DefD := ⟨("contains", none), "contains", "contains", defArgs s_contains, defBody s_contains, defScope s_contains, [], []⟩
def d_stage_of : He.DefD := ⟨("stage_of", none), "stage_of", "stage_of", defArgs s_stage_of, defBody s_stage_of, defScope s_stage_of, [], []⟩
def d_is_order : He.DefD := ⟨("is_order", none), "is_order", "is_order", defArgs s_is_order, defBody s_is_order, defScope s_is_order, [], []⟩
def d_checked_order : He.DefD := ⟨("checked_order", none), "checked_order", "checked_order", defArgs s_checked_order, defBody s_checked_order, defScope s_checked_order, [], []⟩
def d_moved : He.DefD := ⟨("moved", none), "moved", "moved", defArgs s_moved, defBody s_moved, defScope s_moved, [], []⟩
def d_undone : He.DefD := ⟨("undone", none), "undone", "undone", defArgs s_undone, defBody s_undone, defScope s_undone, [], []⟩
def d_chained : He.DefD := ⟨("chained", none), "chained", "chained", defArgs s_chained, defBody s_chained, defScope s_chained, [], []⟩
def d_factorial : He.DefD := ⟨("factorial", none), "factorial", "factorial", defArgs s_factorial, defBody s_factorial, defScope s_factorial, [], []⟩
def d_order_of_number : He.DefD := ⟨("order_of_number", none), "order_of_number", "order_of_number", defArgs s_order_of_number, defBody s_order_of_number, defScope s_order_of_number, [], []⟩
def d_order_number : He.DefD := ⟨("order_number", none), "order_number", "order_number", defArgs s_order_number, defBody s_order_number, defScope s_order_number, [], []⟩
def d_matching : He.DefD := ⟨("matching", none), "matching", "matching", defArgs s_matching, defBody s_matching, defScope s_matching, [], []⟩
def d_StageCoins_init : He.DefD := ⟨("StageCoins", some "__init__"), "__init__", "StageCoins.__init__", defArgs s_StageCoins_init, defBody s_StageCoins_init, defScope s_StageCoins_init, [], []⟩
def d_RunCoins_init : He.DefD := ⟨("RunCoins", some "__init__"), "__init__", "RunCoins.__init__", defArgs s_RunCoins_init, defBody s_RunCoins_init, defScope s_RunCoins_init, [], []⟩
def d_stage_size : He.DefD := ⟨("stage_size", none), "stage_size", "stage_size", defArgs s_stage_size, defBody s_stage_size, defScope s_stage_size, [], []⟩
def d_size : He.DefD := ⟨("size", none), "size", "size", defArgs s_size, defBody s_size, defScope s_size, [], []⟩
def d_Source_init : He.DefD := ⟨("Source", some "__init__"), "__init__", "Source.__init__", defArgs s_Source_init, defBody s_Source_init, defScope s_Source_init, [], []⟩
def d_Source_number : He.DefD := ⟨("Source", some "number"), "number", "Source.number", defArgs s_Source_number, defBody s_Source_number, defScope s_Source_number, [], []⟩
def d_Source_block : He.DefD := ⟨("Source", some "block"), "block", "Source.block", defArgs s_Source_block, defBody s_Source_block, defScope s_Source_block, [], []⟩
def d_read_stage : He.DefD := ⟨("read_stage", none), "read_stage", "read_stage", defArgs s_read_stage, defBody s_read_stage, defScope s_read_stage, [], []⟩
def d_coins_of : He.DefD := ⟨("coins_of", none), "coins_of", "coins_of", defArgs s_coins_of, defBody s_coins_of, defScope s_coins_of, [], []⟩
def d_flat : He.DefD := ⟨("flat", none), "flat", "flat", defArgs s_flat, defBody s_flat, defScope s_flat, [], []⟩
def d_is_prime : He.DefD := ⟨("is_prime", none), "is_prime", "is_prime", defArgs s_is_prime, defBody s_is_prime, defScope s_is_prime, [], []⟩
def d_checked_prime : He.DefD := ⟨("checked_prime", none), "checked_prime", "checked_prime", defArgs s_checked_prime, defBody s_checked_prime, defScope s_checked_prime, [], []⟩
def d_total : He.DefD := ⟨("total", none), "total", "total", defArgs s_total, defBody s_total, defScope s_total, [], []⟩
def d_split : He.DefD := ⟨("split", none), "split", "split", defArgs s_split, defBody s_split, defScope s_split, [], []⟩
def d_join : He.DefD := ⟨("join", none), "join", "join", defArgs s_join, defBody s_join, defScope s_join, [], []⟩
def d_fresh_table : He.DefD := ⟨("fresh_table", none), "fresh_table", "fresh_table", defArgs s_fresh_table, defBody s_fresh_table, defScope s_fresh_table, [], []⟩
def d_values_of : He.DefD := ⟨("values_of", none), "values_of", "values_of", defArgs s_values_of, defBody s_values_of, defScope s_values_of, [], []⟩
def d_StageRecord_init : He.DefD := ⟨("StageRecord", some "__init__"), "__init__", "StageRecord.__init__", defArgs s_StageRecord_init, defBody s_StageRecord_init, defScope s_StageRecord_init, [], []⟩
def d_outsiders : He.DefD := ⟨("outsiders", none), "outsiders", "outsiders", defArgs s_outsiders, defBody s_outsiders, defScope s_outsiders, [], []⟩
def d_gathered_pieces : He.DefD := ⟨("gathered_pieces", none), "gathered_pieces", "gathered_pieces", defArgs s_gathered_pieces, defBody s_gathered_pieces, defScope s_gathered_pieces, [], []⟩
def d_held_shares : He.DefD := ⟨("held_shares", none), "held_shares", "held_shares", defArgs s_held_shares, defBody s_held_shares, defScope s_held_shares, [], []⟩
def d_spread_pieces : He.DefD := ⟨("spread_pieces", none), "spread_pieces", "spread_pieces", defArgs s_spread_pieces, defBody s_spread_pieces, defScope s_spread_pieces, [], []⟩
def d_new_table : He.DefD := ⟨("new_table", none), "new_table", "new_table", defArgs s_new_table, defBody s_new_table, defScope s_new_table, [], []⟩
def d_run_stage : He.DefD := ⟨("run_stage", none), "run_stage", "run_stage", defArgs s_run_stage, defBody s_run_stage, defScope s_run_stage, [], []⟩
def d_RunRecord_init : He.DefD := ⟨("RunRecord", some "__init__"), "__init__", "RunRecord.__init__", defArgs s_RunRecord_init, defBody s_RunRecord_init, defScope s_RunRecord_init, [], []⟩
def d_last_table : He.DefD := ⟨("last_table", none), "last_table", "last_table", defArgs s_last_table, defBody s_last_table, defScope s_last_table, [], []⟩
def d_check_votes : He.DefD := ⟨("check_votes", none), "check_votes", "check_votes", defArgs s_check_votes, defBody s_check_votes, defScope s_check_votes, [], []⟩
def d_run : He.DefD := ⟨("run", none), "run", "run", defArgs s_run, defBody s_run, defScope s_run, [], []⟩
def d_nudged : He.DefD := ⟨("nudged", none), "nudged", "nudged", defArgs s_nudged, defBody s_nudged, defScope s_nudged, [], []⟩
def d_nudged_rows : He.DefD := ⟨("nudged_rows", none), "nudged_rows", "nudged_rows", defArgs s_nudged_rows, defBody s_nudged_rows, defScope s_nudged_rows, [], []⟩
def d_carrier_of : He.DefD := ⟨("carrier_of", none), "carrier_of", "carrier_of", defArgs s_carrier_of, defBody s_carrier_of, defScope s_carrier_of, [], []⟩
def d_hidden_holder : He.DefD := ⟨("hidden_holder", none), "hidden_holder", "hidden_holder", defArgs s_hidden_holder, defBody s_hidden_holder, defScope s_hidden_holder, [], []⟩
def d_other_gather : He.DefD := ⟨("other_gather", none), "other_gather", "other_gather", defArgs s_other_gather, defBody s_other_gather, defScope s_other_gather, [], []⟩
def d_passed_on : He.DefD := ⟨("passed_on", none), "passed_on", "passed_on", defArgs s_passed_on, defBody s_passed_on, defScope s_passed_on, [], []⟩
def d_turned_order : He.DefD := ⟨("turned_order", none), "turned_order", "turned_order", defArgs s_turned_order, defBody s_turned_order, defScope s_turned_order, [], []⟩
def d_share_differences : He.DefD := ⟨("share_differences", none), "share_differences", "share_differences", defArgs s_share_differences, defBody s_share_differences, defScope s_share_differences, [], []⟩
def d_taken_away : He.DefD := ⟨("taken_away", none), "taken_away", "taken_away", defArgs s_taken_away, defBody s_taken_away, defScope s_taken_away, [], []⟩
def d_copied : He.DefD := ⟨("copied", none), "copied", "copied", defArgs s_copied, defBody s_copied, defScope s_copied, [], []⟩
def d_swapped : He.DefD := ⟨("swapped", none), "swapped", "swapped", defArgs s_swapped, defBody s_swapped, defScope s_swapped, [.non], []⟩
def d__law_cell : He.DefD := ⟨("_law_cell", none), "_law_cell", "_law_cell", defArgs s__law_cell, defBody s__law_cell, defScope s__law_cell, [], []⟩
def d__law_row : He.DefD := ⟨("_law_row", none), "_law_row", "_law_row", defArgs s__law_row, defBody s__law_row, defScope s__law_row, [], []⟩
def d__law_box : He.DefD := ⟨("_law_box", none), "_law_box", "_law_box", defArgs s__law_box, defBody s__law_box, defScope s__law_box, [], []⟩
def d__law_draw : He.DefD := ⟨("_law_draw", none), "_law_draw", "_law_draw", defArgs s__law_draw, defBody s__law_draw, defScope s__law_draw, [], []⟩
def d__law_family : He.DefD := ⟨("_law_family", none), "_law_family", "_law_family", defArgs s__law_family, defBody s__law_family, defScope s__law_family, [], []⟩
def d__law_holders : He.DefD := ⟨("_law_holders", none), "_law_holders", "_law_holders", defArgs s__law_holders, defBody s__law_holders, defScope s__law_holders, [], []⟩
def d__law_size : He.DefD := ⟨("_law_size", none), "_law_size", "_law_size", defArgs s__law_size, defBody s__law_size, defScope s__law_size, [], []⟩
def d__law_world : He.DefD := ⟨("_law_world", none), "_law_world", "_law_world", defArgs s__law_world, defBody s__law_world, defScope s__law_world, [], []⟩
def d__law_coins : He.DefD := ⟨("_law_coins", none), "_law_coins", "_law_coins", defArgs s__law_coins, defBody s__law_coins, defScope s__law_coins, [], []⟩
def d__law_told_coins : He.DefD := ⟨("_law_told_coins", none), "_law_told_coins", "_law_told_coins", defArgs s__law_told_coins, defBody s__law_told_coins, defScope s__law_told_coins, [], []⟩
def d__law_deep : He.DefD := ⟨("_law_deep", none), "_law_deep", "_law_deep", defArgs s__law_deep, defBody s__law_deep, defScope s__law_deep, [], []⟩
def d__law_lot : He.DefD := ⟨("_law_lot", none), "_law_lot", "_law_lot", defArgs s__law_lot, defBody s__law_lot, defScope s__law_lot, [], []⟩
def d__law_others : He.DefD := ⟨("_law_others", none), "_law_others", "_law_others", defArgs s__law_others, defBody s__law_others, defScope s__law_others, [], []⟩
def d_law : He.DefD := ⟨("law", none), "law", "law", defArgs s_law, defBody s_law, defScope s_law, [], []⟩
def fnA : List He.DefD := [d_is_lot, d_holders, d_cover, d_covering_pair, d_checked_family, d_contains, d_stage_of, d_is_order, d_checked_order, d_moved, d_undone, d_chained, d_factorial, d_order_of_number, d_order_number, d_matching, d_StageCoins_init, d_RunCoins_init, d_stage_size, d_size, d_Source_init, d_Source_number, d_Source_block, d_read_stage, d_coins_of, d_flat, d_is_prime, d_checked_prime, d_total, d_split, d_join, d_fresh_table, d_values_of]
def fnB : List He.DefD := [d_StageRecord_init, d_outsiders, d_gathered_pieces, d_held_shares, d_spread_pieces, d_new_table, d_run_stage, d_RunRecord_init, d_last_table, d_check_votes, d_run, d_nudged, d_nudged_rows, d_carrier_of, d_hidden_holder, d_other_gather, d_passed_on, d_turned_order, d_share_differences, d_taken_away, d_copied, d_swapped, d__law_cell, d__law_row, d__law_box, d__law_draw, d__law_family, d__law_holders, d__law_size, d__law_world, d__law_coins, d__law_told_coins, d__law_deep, d__law_lot, d__law_others, d_law]
def fnAll : List He.DefD := fnA ++ fnB
def fa0 : List He.Fa := [.glo "is_lot", .glo "holders", .glo "cover", .glo "covering_pair", .glo "checked_family", .glo "contains", .glo "stage_of", .glo "is_order", .glo "checked_order", .glo "moved", .glo "undone", .glo "chained", .glo "factorial", .glo "order_of_number", .glo "order_number", .glo "matching", .glo "StageCoins", .glo "RunCoins", .glo "stage_size", .glo "size", .glo "Source", .glo "read_stage", .glo "coins_of", .glo "flat", .glo "is_prime", .glo "checked_prime", .glo "total", .glo "split", .glo "join", .glo "fresh_table"]
def fa1 : List He.Fa := [.glo "values_of", .glo "StageRecord", .glo "outsiders", .glo "gathered_pieces", .glo "held_shares", .glo "spread_pieces", .glo "new_table", .glo "run_stage", .glo "RunRecord", .glo "last_table", .glo "check_votes", .glo "run", .glo "nudged", .glo "nudged_rows", .glo "carrier_of", .glo "hidden_holder", .glo "other_gather", .glo "passed_on", .glo "turned_order", .glo "share_differences", .glo "taken_away", .glo "copied", .glo "swapped", .glo "_law_cell", .glo "_law_row", .glo "_law_box", .glo "_law_draw", .glo "_law_family", .glo "_law_holders", .glo "_law_size"]
def fa2 : List He.Fa := [.glo "_law_world", .glo "_law_coins", .glo "_law_told_coins", .glo "_law_deep", .glo "_law_lot", .glo "_law_others", .glo "law", .cls "StageCoins", .mkr "StageCoins", .noat "StageCoins" "gather", .noat "StageCoins" "order", .noat "StageCoins" "spread", .cls "RunCoins", .mkr "RunCoins", .noat "RunCoins" "votes", .noat "RunCoins" "stages", .cls "Source", .mkr "Source", .noat "Source" "numbers", .noat "Source" "prime", .noat "Source" "place", .meth "Source" "number", .meth "Source" "block", .cls "StageRecord", .mkr "StageRecord", .noat "StageRecord" "holders", .noat "StageRecord" "gathered", .noat "StageRecord" "held", .noat "StageRecord" "order", .noat "StageRecord" "ordered"]
def fa3 : List He.Fa := [.noat "StageRecord" "spread", .noat "StageRecord" "table", .cls "RunRecord", .mkr "RunRecord", .noat "RunRecord" "prime", .noat "RunRecord" "mixers", .noat "RunRecord" "family", .noat "RunRecord" "table", .noat "RunRecord" "stages", .noat "RunRecord" "opened", .free "range", .free "len", .free "enumerate", .free "zip", .free "list", .free "sorted", .free "sum", .free "int", .free "min", .free "tuple"]
def faAll : List He.Fa := fa0 ++ (fa1 ++ (fa2 ++ (fa3)))
def loose0 : List PySem.Str := ["VeilError", "BadPrime", "BadValue", "BadOrder", "BadCoins", "BadLots", "is_lot", "holders", "cover", "covering_pair", "checked_family", "contains", "stage_of", "is_order", "checked_order", "moved", "undone", "chained", "factorial", "order_of_number", "order_number", "matching", "StageCoins", "RunCoins", "stage_size", "size", "Source", "read_stage", "coins_of", "flat"]
def loose1 : List PySem.Str := ["is_prime", "checked_prime", "total", "split", "join", "fresh_table", "values_of", "StageRecord", "outsiders", "gathered_pieces", "held_shares", "spread_pieces", "new_table", "run_stage", "RunRecord", "last_table", "check_votes", "run", "nudged", "nudged_rows", "carrier_of", "hidden_holder", "other_gather", "passed_on", "turned_order", "share_differences", "taken_away", "copied", "swapped", "_law_cell"]
def loose2 : List PySem.Str := ["_law_row", "_law_box", "_law_draw", "_law_family", "_law_holders", "_law_size", "_law_world", "_law_coins", "_law_told_coins", "_law_deep", "_law_lot", "_law_others"]
def looseAll : List PySem.Str := loose0 ++ (loose1 ++ (loose2))
end Vc
set_option maxHeartbeats 4000000
/-! VcCore: what is known of the heap and what is owned; judgements over the layer's readings. -/
namespace Vc
open PySem PySem.Spec L2

/-! ### types: what a value is, over the known part of the heap -/
structure Ty where
  p : V → Hp → Prop
  mono : ∀ {v : V} {H H' : Hp}, Same H H' → p v H → p v H'
def tV (v : V) : Ty := ⟨fun u _ => u = v, fun _ h => h⟩
abbrev tI (i : Int) : Ty := tV (.int i)
abbrev tN (n : Nat) : Ty := tV (.int (n : Int))
abbrev tB (b : Bool) : Ty := tV (.bl b)
abbrev tNone : Ty := tV .non
abbrev tRef (a : Addr) : Ty := tV (.ref a)
def AllT (H : Hp) (ts : List Ty) (vs : List V) : Prop := ts.length = vs.length ∧ ∀ (i : Nat) (T : Ty) (v : V), ts[i]? = some T → vs[i]? = some v → T.p v H
theorem AllT.mono {H H' : Hp} {ts : List Ty} {vs : List V} (s : Same H H') (h : AllT H ts vs) : AllT H' ts vs := ⟨h.1, fun i T v a b => T.mono s (h.2 i T v a b)⟩
theorem AllT.nil {H : Hp} : AllT H [] [] := ⟨rfl, fun i T v a _ => by cases a⟩
theorem AllT.cons {H : Hp} {T : Ty} {ts : List Ty} {v : V} {vs : List V} (h : T.p v H) (r : AllT H ts vs) : AllT H (T :: ts) (v :: vs) := by
  refine ⟨congrArg Nat.succ r.1, fun i T' v' a b => ?_⟩
  cases i with
  | zero => cases a; cases b; exact h
  | succ i => exact r.2 i T' v' a b
theorem AllT.uncons {H : Hp} {T : Ty} {ts : List Ty} {us : List V} (h : AllT H (T :: ts) us) : ∃ v vs, us = v :: vs ∧ T.p v H ∧ AllT H ts vs := by
  cases us with
  | nil => exact nomatch h.1
  | cons v vs => exact ⟨v, vs, rfl, h.2 0 T v rfl rfl, Nat.succ.inj h.1, fun i T' v' a b => h.2 (i + 1) T' v' a b⟩
theorem AllT.unnil {H : Hp} {us : List V} (h : AllT H [] us) : us = [] := by
  cases us with
  | nil => rfl
  | cons v vs => exact nomatch h.1
theorem AllT.append {H : Hp} {ts us : List Ty} {vs ws : List V} (h : AllT H ts vs) (k : AllT H us ws) : AllT H (ts ++ us) (vs ++ ws) := by
  refine ⟨by rw [List.length_append, List.length_append, h.1, k.1], fun i T v a b => ?_⟩
  by_cases hi : i < ts.length
  · rw [List.getElem?_append_left hi] at a
    rw [List.getElem?_append_left (by rw [← h.1]; exact hi)] at b
    exact h.2 i T v a b
  · rw [List.getElem?_append_right (by omega)] at a
    rw [List.getElem?_append_right (by rw [← h.1]; omega)] at b
    rw [← h.1] at b
    exact k.2 _ T v a b
theorem AllT.one {H : Hp} {T : Ty} {v : V} (h : T.p v H) : AllT H [T] [v] := .cons h .nil
theorem AllT.get {H : Hp} {ts : List Ty} {vs : List V} (h : AllT H ts vs) {i : Nat} {T : Ty} (a : ts[i]? = some T) : ∃ v, vs[i]? = some v ∧ T.p v H := by
  have hi : i < vs.length := by rw [← h.1]; exact (List.getElem?_eq_some_iff.mp a).1
  exact ⟨vs[i], List.getElem?_eq_getElem hi, h.2 i T _ a (List.getElem?_eq_getElem hi)⟩
theorem AllT.set {H : Hp} {ts : List Ty} {vs : List V} (h : AllT H ts vs) (i : Nat) {T : Ty} {v : V} (hp : T.p v H) : AllT H (ts.set i T) (vs.set i v) := by
  refine ⟨by rw [List.length_set, List.length_set, h.1], fun j T' v' a b => ?_⟩
  by_cases e : i = j
  · subst e
    have hi : i < ts.length := by
      have := (List.getElem?_eq_some_iff.mp a).1
      rwa [List.length_set] at this
    rw [List.getElem?_set_self hi] at a
    rw [List.getElem?_set_self (by rw [← h.1]; exact hi)] at b
    cases a; cases b; exact hp
  · rw [List.getElem?_set_ne e] at a b
    exact h.2 j T' v' a b
theorem getElem?_eraseIdx_lt {α : Type} {l : List α} {i k : Nat} (h : i < k) : (l.eraseIdx k)[i]? = l[i]? := by
  rw [List.getElem?_eraseIdx, if_pos h]
theorem AllT.erase {H : Hp} {ts : List Ty} {vs : List V} (h : AllT H ts vs) (k : Nat) : AllT H (ts.eraseIdx k) (vs.eraseIdx k) := by
  refine ⟨by rw [List.length_eraseIdx, List.length_eraseIdx, h.1], fun j T' v' a b => ?_⟩
  rw [List.getElem?_eraseIdx] at a b
  by_cases e : j < k
  · rw [if_pos e] at a b
    exact h.2 j T' v' a b
  · rw [if_neg e] at a b
    exact h.2 _ T' v' a b
/-- a list of these, known -/
def tL (ts : List Ty) : Ty := ⟨fun v H => ∃ a vs, v = .ref a ∧ H a = some (.lst vs) ∧ AllT H ts vs, fun s ⟨a, vs, e, h, k⟩ => ⟨a, vs, e, s _ _ h, k.mono s⟩⟩
/-- a tuple of these -/
def tT (ts : List Ty) : Ty := ⟨fun v H => ∃ a vs, v = .ref a ∧ H a = some (.tup vs) ∧ AllT H ts vs, fun s ⟨a, vs, e, h, k⟩ => ⟨a, vs, e, s _ _ h, k.mono s⟩⟩
/-- fields by name: what stands behind a store of f hides what stood there -/
def FldT (H : Hp) (fs : List (Str × Ty)) (gs : List (Str × V)) : Prop :=
  gs.length ≤ fs.length ∧ (∀ f T, fs.lookup f = some T → ∃ v, gs.lookup f = some v ∧ T.p v H) ∧ ∀ f, fs.lookup f = none → gs.lookup f = none
theorem FldT.mono {H H' : Hp} (s : Same H H') {fs : List (Str × Ty)} {gs : List (Str × V)} (h : FldT H fs gs) : FldT H' fs gs :=
  ⟨h.1, fun f T e => let ⟨v, a, b⟩ := h.2.1 f T e; ⟨v, a, T.mono s b⟩, h.2.2⟩
theorem FldT.nil {H : Hp} : FldT H [] [] := ⟨Nat.le_refl _, ⟨fun f T e => (nomatch (show (none : Option Ty) = some T from e)), fun _ _ => rfl⟩⟩
theorem FldT.put {H : Hp} {f : Str} {T : Ty} {v : V} {fs : List (Str × Ty)} {gs : List (Str × V)} (h : FldT H fs gs) (hp : T.p v H) : FldT H ((f, T) :: fs) (putF f v gs) := by
  refine ⟨Nat.le_trans (length_putF f v gs) (Nat.succ_le_succ h.1), fun g U e => ?_, fun g e => ?_⟩
  · rw [lookup_putF]
    have e1 : (match g == f with | true => some T | false => fs.lookup g) = some U := e
    by_cases q : g = f
    · rw [if_pos q]
      rw [show (g == f) = true from beq_iff_eq.mpr q] at e1
      cases e1
      exact ⟨v, rfl, hp⟩
    · rw [if_neg q]
      rw [show (g == f) = false from beq_eq_false_iff_ne.mpr q] at e1
      exact h.2.1 g U e1
  · rw [lookup_putF]
    have e1 : (match g == f with | true => some T | false => fs.lookup g) = none := e
    by_cases q : g = f
    · rw [show (g == f) = true from beq_iff_eq.mpr q] at e1
      cases e1
    · rw [if_neg q]
      rw [show (g == f) = false from beq_eq_false_iff_ne.mpr q] at e1
      exact h.2.2 g e1
/-- an instance of the class at C -/
def tIn (C : Addr) (fs : List (Str × Ty)) : Ty :=
  ⟨fun v H => ∃ a dx gs, v = .ref a ∧ H a = some (.ins C dx gs) ∧ FldT H fs gs, fun s ⟨a, dx, gs, e, h, k⟩ => ⟨a, dx, gs, e, s _ _ h, k.mono s⟩⟩
def tEx {α : Type} (P : α → Prop) (T : α → Ty) : Ty := ⟨fun v H => ∃ a, P a ∧ (T a).p v H, fun s ⟨a, h, k⟩ => ⟨a, h, (T a).mono s k⟩⟩

/-! ### steps -/
/-- from (H known, Ha actual) to (H', Ha'): what is tracked stays but at F; what is newly known is new -/
structure Stp (F : Addr → Prop) (H Ha H' Ha' : Hp) : Prop where
  k : Same H H'
  a : Same H' Ha'
  keep : ∀ b o, ¬ F b → Ha b = some o → Ha' b = some o
  new : ∀ b, H' b ≠ none → H b = none → Ha b = none
  dom : ∀ b, Ha b ≠ none → Ha' b ≠ none
abbrev F0 : Addr → Prop := fun _ => False
theorem Stp.refl {F : Addr → Prop} {H Ha : Hp} (s : Same H Ha) : Stp F H Ha H Ha := ⟨.refl _, s, fun _ _ _ h => h, fun b h e => (h e).elim, fun _ h => h⟩
theorem Stp.trans {F : Addr → Prop} {H Ha H1 Ha1 H2 Ha2 : Hp} (x : Stp F H Ha H1 Ha1) (y : Stp F H1 Ha1 H2 Ha2) : Stp F H Ha H2 Ha2 where
  k := x.k.trans y.k
  a := y.a
  keep := fun b o f h => y.keep b o f (x.keep b o f h)
  new := fun b h e => by
    by_cases q : H1 b = none
    · have q2 := y.new b h q
      by_cases q3 : Ha b = none
      · exact q3
      · exact (x.dom b q3 q2).elim
    · exact x.new b q e
  dom := fun b h => y.dom b (x.dom b h)
theorem Stp.weak {F G : Addr → Prop} {H Ha H1 Ha1 : Hp} (x : Stp F H Ha H1 Ha1) (h : ∀ b, F b → G b) : Stp G H Ha H1 Ha1 := ⟨x.k, x.a, fun b o f q => x.keep b o (fun z => f (h b z)) q, x.new, x.dom⟩
theorem Stp.same {H Ha H1 Ha1 : Hp} (x : Stp F0 H Ha H1 Ha1) : Same Ha Ha1 := fun b o h => x.keep b o (fun z => z) h
/-- a new object, known -/
theorem Stp.made {F : Addr → Prop} {H Ha : Hp} {p : Addr} {o : HO} (s : Same H Ha) (hp : Ha p = none) : Stp F H Ha (upd H p o) (upd Ha p o) where
  k := fun b u e => by rw [upd_ne (ne_of_none (s b u e) hp)]; exact e
  a := fun b u e => by
    by_cases q : b = p
    · subst q; rw [upd_same] at e ⊢; exact e
    · rw [upd_ne q] at e ⊢; exact s b u e
  keep := fun b u _ e => by rw [upd_ne (ne_of_none e hp)]; exact e
  new := fun b h e => by
    by_cases q : b = p
    · rw [q]; exact hp
    · rw [upd_ne q] at h; exact (h e).elim
  dom := fun b h => by
    by_cases q : b = p
    · subst q; rw [upd_same]; exact fun z => nomatch z
    · rw [upd_ne q]; exact h
/-- a new object, owned: not known -/
theorem Stp.grow {F : Addr → Prop} {H Ha : Hp} {p : Addr} {o : HO} (s : Same H Ha) (hp : Ha p = none) : Stp F H Ha H (upd Ha p o) where
  k := .refl _
  a := fun b u e => by rw [upd_ne (ne_of_none (s b u e) hp)]; exact s b u e
  keep := fun b u _ e => by rw [upd_ne (ne_of_none e hp)]; exact e
  new := fun b h e => (h e).elim
  dom := fun b h => by
    by_cases q : b = p
    · subst q; rw [upd_same]; exact fun z => nomatch z
    · rw [upd_ne q]; exact h

/-! ### where a body stands: its entry, what it may change, a snapshot of the known part -/
structure Bs where
  F : Addr → Prop
  H : Hp
  Ha : Hp
  K : Hp
abbrev Bs.at (B : Bs) (H1 : Hp) : Bs := { B with K := H1 }
/-- what stands at an owned address -/
inductive Ch where
  | lst (ts : List Ty)
  | raw (vs : List V)
  | ins (C dx : Addr) (fs : List (Str × Ty))
def Ch.ok (H : Hp) : Ch → HO → Prop
  | .lst ts, .lst vs => AllT H ts vs
  | .raw us, .lst vs => us = vs
  | .ins C dx fs, .ins C' dx' gs => C = C' ∧ dx = dx' ∧ FldT H fs gs
  | _, _ => False
theorem Ch.mono {H H' : Hp} (s : Same H H') : ∀ {c : Ch} {o : HO}, c.ok H o → c.ok H' o := by
  intro c o h
  cases c <;> cases o <;> first | exact h.elim | exact AllT.mono s h | exact ⟨h.1, h.2.1, h.2.2.mono s⟩ | exact h
theorem Ch.lst_inv {H : Hp} {ts : List Ty} {o : HO} (h : (Ch.lst ts).ok H o) : ∃ vs, o = .lst vs ∧ AllT H ts vs := by
  cases o <;> first | exact h.elim | exact ⟨_, rfl, h⟩
theorem Ch.raw_inv {H : Hp} {us : List V} {o : HO} (h : (Ch.raw us).ok H o) : o = .lst us := by
  cases o <;> first | exact h.elim | (obtain rfl : us = _ := h; rfl)
theorem Ch.ins_inv {H : Hp} {C dx : Addr} {fs : List (Str × Ty)} {o : HO} (h : (Ch.ins C dx fs).ok H o) : ∃ gs, o = .ins C dx gs ∧ FldT H fs gs := by
  cases o <;> first | exact h.elim | (obtain ⟨rfl, rfl, k⟩ := h; exact ⟨_, rfl, k⟩)
abbrev Om := List (Addr × Ch)
abbrev Gm := List (Option Ty)
def Slots (H : Hp) (G : Gm) (σ : L2.St) : Prop := G.length = σ.length ∧ ∀ (i : Nat) (T : Ty), G[i]? = some (some T) → ∃ v, σ[i]? = some (some v) ∧ T.p v H
theorem Slots.mono {H H' : Hp} {G : Gm} {σ : L2.St} (s : Same H H') (h : Slots H G σ) : Slots H' G σ := ⟨h.1, fun i T e => let ⟨v, a, b⟩ := h.2 i T e; ⟨v, a, T.mono s b⟩⟩
theorem Slots.set {H : Hp} {G : Gm} {σ : L2.St} {T : Ty} {v : V} (h : Slots H G σ) (i : Nat) (hp : T.p v H) : Slots H (G.set i (some T)) (σ.set i (some v)) := by
  refine ⟨by rw [List.length_set, List.length_set, h.1], fun j T' a => ?_⟩
  by_cases e : i = j
  · subst e
    have hi : i < G.length := by
      have := (List.getElem?_eq_some_iff.mp a).1
      rwa [List.length_set] at this
    rw [List.getElem?_set_self hi] at a
    cases a
    exact ⟨v, by rw [List.getElem?_set_self (by rw [← h.1]; exact hi)], hp⟩
  · rw [List.getElem?_set_ne e] at a
    rw [List.getElem?_set_ne e]
    exact h.2 j T' a
theorem Slots.wipe {H : Hp} {G : Gm} {σ : L2.St} (h : Slots H G σ) (i : Nat) : Slots H (G.set i none) (σ.set i none) := by
  refine ⟨by rw [List.length_set, List.length_set, h.1], fun j T' a => ?_⟩
  by_cases e : i = j
  · subst e
    have hi : i < G.length := by
      have := (List.getElem?_eq_some_iff.mp a).1
      rwa [List.length_set] at this
    rw [List.getElem?_set_self hi] at a
    cases a
  · rw [List.getElem?_set_ne e] at a
    rw [List.getElem?_set_ne e]
    exact h.2 j T' a
/-- weaker slots -/
theorem Slots.weak {H : Hp} {G G' : Gm} {σ : L2.St} (h : Slots H G σ) (hl : G'.length = G.length) (w : ∀ (i : Nat) (T : Ty), G'[i]? = some (some T) → G[i]? = some (some T)) : Slots H G' σ := ⟨hl.trans h.1, fun i T e => h.2 i T (w i T e)⟩
def Owns (B : Bs) (O : Om) (H Ha : Hp) : Prop := (O.map (·.1)).Nodup ∧ ∀ q ∈ O, H q.1 = none ∧ (B.Ha q.1 = none ∨ B.F q.1) ∧ ∃ o, Ha q.1 = some o ∧ q.2.ok H o
abbrev As := L2.St → Hp → Hp → Prop
structure Sat (B : Bs) (G : Gm) (O : Om) (σ : L2.St) (H Ha : Hp) : Prop where
  st : Stp B.F B.H B.Ha H Ha
  sn : Same B.K H
  sl : Slots H G σ
  ow : Owns B O H Ha
section
variable {B : Bs} {G G' : Gm} {O O' : Om} {σ σ' : L2.St} {H Ha H' Ha' H1 : Hp}
theorem Sat.ha (s : Sat B G O σ H Ha) : Same H Ha := s.st.a
theorem Owns.step (h : Owns B O H Ha) (x : Stp F0 H Ha H' Ha') : Owns B O H' Ha' := by
  refine ⟨h.1, fun q hq => ?_⟩
  obtain ⟨a, b, o, c, d⟩ := h.2 q hq
  refine ⟨?_, b, o, x.same _ _ c, Ch.mono x.k d⟩
  by_cases e : H' q.1 = none
  · exact e
  · have := x.new q.1 e a
    rw [this] at c
    cases c
/-- a step that changes nothing but adds -/
theorem Sat.step (s : Sat B G O σ H Ha) (x : Stp F0 H Ha H' Ha') : Sat B G O σ H' Ha' :=
  ⟨s.st.trans (x.weak fun _ z => z.elim), s.sn.trans x.k, s.sl.mono x.k, s.ow.step x⟩
theorem Sat.slots (s : Sat B G O σ H Ha) (h : Slots H G' σ') : Sat B G' O σ' H Ha := ⟨s.st, s.sn, h, s.ow⟩
theorem Sat.at (s : Sat B G O σ H Ha) : Sat (B.at H) G O σ H Ha := ⟨s.st, .refl _, s.sl, s.ow⟩
theorem Sat.unat (s : Sat (B.at H1) G O σ H Ha) (h : Same B.K H1) : Sat B G O σ H Ha := ⟨s.st, h.trans s.sn, s.sl, s.ow⟩
theorem Sat.fewer (s : Sat B G O σ H Ha) (h : O'.Sublist O) : Sat B G O' σ H Ha := ⟨s.st, s.sn, s.sl, s.ow.1.sublist (h.map _), fun q hq => s.ow.2 q (h.subset hq)⟩
/-- fresh for the actual heap: apart from the base's and the owned ones -/
theorem Sat.baseFree (s : Sat B G O σ H Ha) {p : Addr} (hp : Ha p = none) : B.Ha p = none := by
  by_cases e : B.Ha p = none
  · exact e
  · exact (s.st.dom p e hp).elim
theorem Sat.freeH (s : Sat B G O σ H Ha) {p : Addr} (hp : Ha p = none) : H p = none := s.ha.free hp
theorem Sat.notO (s : Sat B G O σ H Ha) {p : Addr} (hp : Ha p = none) : p ∉ O.map (·.1) := fun h => by
  obtain ⟨q, hq, e⟩ := List.mem_map.mp h
  obtain ⟨_, _, o, c, _⟩ := s.ow.2 q hq
  rw [e, hp] at c
  cases c
/-- a new object, owned -/
theorem Sat.own (s : Sat B G O σ H Ha) {p : Addr} {o : HO} {c : Ch} (hp : Ha p = none) (hc : c.ok H o) : Sat B G (O ++ [(p, c)]) σ H (upd Ha p o) := by
  have x : Stp F0 H Ha H (upd Ha p o) := Stp.grow s.ha hp
  have s1 := s.step x
  refine ⟨s1.st, s1.sn, s1.sl, ?_, fun q hq => ?_⟩
  · rw [List.map_append]
    exact List.nodup_append.mpr ⟨s.ow.1, by simp, fun a ha b hb => by
      have e : b = p := by simpa using hb
      subst e
      exact fun z => s.notO hp (z ▸ ha)⟩
  · rcases List.mem_append.mp hq with hq | e
    · exact s1.ow.2 q hq
    · have e : q = (p, c) := by simpa using e
      subst e
      exact ⟨s.freeH hp, .inl (s.baseFree hp), o, upd_same, hc⟩
/-- an owned object is changed -/
theorem Sat.write (s : Sat B G O σ H Ha) {k : Nat} {l : Addr} {c c' : Ch} {o' : HO} (hk : O[k]? = some (l, c)) (hc : c'.ok H o') : Sat B G (O.set k (l, c')) σ H (upd Ha l o') := by
  have hm := List.mem_of_getElem? hk
  obtain ⟨hH, hb, o, ho, _⟩ := s.ow.2 _ hm
  have nd := s.ow.1
  have mp : (O.set k (l, c')).map (·.1) = O.map (·.1) := by
    rw [List.map_set]
    refine List.ext_getElem? fun i => ?_
    by_cases e : k = i
    · subst e
      have hl : k < (O.map (·.1)).length := by rw [List.length_map]; exact (List.getElem?_eq_some_iff.mp hk).1
      rw [List.getElem?_set_self hl, List.getElem?_map, hk]
      rfl
    · rw [List.getElem?_set_ne e]
  refine ⟨⟨s.st.k, fun b u e => ?_, fun b u f e => ?_, s.st.new, fun b e => ?_⟩, s.sn, s.sl, by rw [mp]; exact nd, fun q hq => ?_⟩
  · rw [upd_ne (ne_of_none e hH)]; exact s.ha b u e
  · have hne : b ≠ l := fun z => by
      subst z
      rcases hb with z | z
      · have z' : B.Ha b = none := z
        rw [z'] at e; cases e
      · exact f z
    rw [upd_ne hne]; exact s.st.keep b u f e
  · by_cases q : b = l
    · subst q; rw [upd_same]; exact fun z => nomatch z
    · rw [upd_ne q]; exact s.st.dom b e
  · obtain ⟨i, hi⟩ := List.getElem?_of_mem hq
    by_cases e : k = i
    · subst e
      rw [List.getElem?_set_self (List.getElem?_eq_some_iff.mp hk).1] at hi
      cases hi
      exact ⟨hH, hb, o', upd_same, hc⟩
    · rw [List.getElem?_set_ne e] at hi
      obtain ⟨a, b, u, c1, d⟩ := s.ow.2 q (List.mem_of_getElem? hi)
      have hne : q.1 ≠ l := fun z => by
        have e1 : (O.map (·.1))[i]? = some l := by rw [List.getElem?_map, hi]; exact congrArg some z
        have e2 : (O.map (·.1))[k]? = some l := by rw [List.getElem?_map, hk]; rfl
        exact e (nd_ix nd e2 e1)
      exact ⟨a, b, u, by rw [upd_ne hne]; exact c1, d⟩
theorem Sat.read (s : Sat B G O σ H Ha) {k : Nat} {l : Addr} {c : Ch} (hk : O[k]? = some (l, c)) : ∃ o, Ha l = some o ∧ c.ok H o := by
  obtain ⟨_, _, o, a, b⟩ := s.ow.2 _ (List.mem_of_getElem? hk)
  exact ⟨o, a, b⟩
/-- an owned object becomes known (and is changed no more) -/
theorem Sat.freeze (s : Sat B G O σ H Ha) {k : Nat} {l : Addr} {c : Ch} (hk : O[k]? = some (l, c)) (hF : ¬ B.F l ∨ B.Ha l = none) : ∃ o, Ha l = some o ∧ c.ok H o ∧ Same H (upd H l o) ∧ Sat B G (O.eraseIdx k) σ (upd H l o) Ha := by
  have hm := List.mem_of_getElem? hk
  obtain ⟨hH, hb, o, ho, hc⟩ := s.ow.2 _ hm
  have hb0 : B.Ha l = none := by
    rcases hF with z | z
    · exact hb.resolve_right z
    · exact z
  have sm : Same H (upd H l o) := fun b u e => by rw [upd_ne (ne_of_none e hH)]; exact e
  refine ⟨o, ho, hc, sm, ⟨s.st.k.trans sm, fun b u e => ?_, s.st.keep, fun b e1 e2 => ?_, s.st.dom⟩, s.sn.trans sm, s.sl.mono sm, ?_, fun q hq => ?_⟩
  · by_cases q : b = l
    · subst q; rw [upd_same] at e; cases e; exact ho
    · rw [upd_ne q] at e; exact s.ha b u e
  · by_cases q : b = l
    · subst q; exact hb0
    · rw [upd_ne q] at e1; exact s.st.new b e1 e2
  · exact s.ow.1.sublist ((List.eraseIdx_sublist O k).map _)
  · obtain ⟨i, hi⟩ := List.getElem?_of_mem hq
    have hmem : q ∈ O := (List.eraseIdx_sublist O k).subset hq
    obtain ⟨a, b, u, c1, d⟩ := s.ow.2 q hmem
    have hne : q.1 ≠ l := fun z => by
      rw [List.getElem?_eraseIdx] at hi
      have e2 : (O.map (·.1))[k]? = some l := by rw [List.getElem?_map, hk]; rfl
      by_cases lt : i < k
      · rw [if_pos lt] at hi
        have e1 : (O.map (·.1))[i]? = some l := by rw [List.getElem?_map, hi]; exact congrArg some z
        have := nd_ix s.ow.1 e2 e1
        omega
      · rw [if_neg lt] at hi
        have e1 : (O.map (·.1))[i + 1]? = some l := by rw [List.getElem?_map, hi]; exact congrArg some z
        have := nd_ix s.ow.1 e2 e1
        omega
    exact ⟨by rw [upd_ne hne]; exact a, b, u, c1, Ch.mono sm d⟩
end
end Vc
set_option maxHeartbeats 4000000
/-! VcRules: judgements E (an expression's value has a type), T (a test's answer), EA (arguments), SS (statements) -/
namespace Vc
open PySem PySem.Spec L2

/-! ### the weakest readings -/
def EW (X : Cx) (e : Expr) : TE := fun σ H Q => ∀ (pins : List (Addr × Obj)) (s : Shared), Inv X pins σ H s → wpAny (model X.prog X.w) X.A (eval e X.env) (EP X pins σ Q) X.xe s
def TW (X : Cx) (e : Expr) : TT := fun σ H Q => ∀ (pins : List (Addr × Obj)) (s : Shared), Inv X pins σ H s → wpAny (model X.prog X.w) X.A (isTrue e X.env (eval e X.env)) (TP X pins σ Q) X.xe s
def AW (X : Cx) (es : List Expr) : TA := fun σ H Q => ∀ (pos : Pos) (pins : List (Addr × Obj)) (s : Shared), Inv X pins σ H s → wpAny (model X.prog X.w) X.A (spliced (backTo pos (starEach es X.env))) (AP X pins σ Q) X.xe s
def SW (X : Cx) (sts : List Stmt) : TS := fun D σ H => ∀ (pins : List (Addr × Obj)) (s : Shared), Inv X pins σ H s → wpAny (model X.prog X.w) X.A (execs sts X.env) (SP X pins D) X.xe s
section
variable {X : Cx} {e : Expr} {es : List Expr} {sts : List Stmt}
theorem ew : PE X e (EW X e) := ⟨fun pins s σ H Q I h => h pins s I⟩
theorem tw : PT X e (TW X e) := ⟨fun pins s σ H Q I h => h pins s I⟩
theorem aw : PA X es (AW X es) := ⟨fun pos pins s σ H Q I h => h pos pins s I⟩
theorem sw : PSs X sts (SW X sts) := ⟨fun pins s σ H D I h => h pins s I⟩
end
/-! ### judgements -/
def Et (t : TE) (A : As) (R : Ty) (A' : As) : Prop := ∀ σ H Ha, A σ H Ha → ∀ Q : VK, (∀ v H' Ha', Same H H' → A' σ H' Ha' → R.p v H' → Q v Ha') → t σ Ha Q
def Tt (t : TT) (A : As) (b : Bool) (A' : As) : Prop := ∀ σ H Ha, A σ H Ha → ∀ Q : Bool → Hp → Prop, (∀ H' Ha', Same H H' → A' σ H' Ha' → Q b Ha') → t σ Ha Q
def At (t : TA) (A : As) (Rs : List Ty) (A' : As) : Prop := ∀ σ H Ha, A σ H Ha → ∀ Q : List V → Hp → Prop, (∀ vs H' Ha', Same H H' → A' σ H' Ha' → AllT H' Rs vs → Q vs Ha') → t σ Ha Q
/-- a new list (instance), owned -/
def Eo (B : Bs) (t : TE) (A : As) (A' : Addr → As) : Prop := ∀ σ H Ha, A σ H Ha → ∀ Q : VK, (∀ l H' Ha', B.Ha l = none → Same H H' → A' l σ H' Ha' → Q (.ref l) Ha') → t σ Ha Q
abbrev E (X : Cx) (B : Bs) (G : Gm) (O : Om) (e : Expr) (R : Ty) (O' : Om) : Prop := Et (EW X e) (Sat B G O) R (Sat B G O')
abbrev T (X : Cx) (B : Bs) (G : Gm) (O : Om) (e : Expr) (b : Bool) (O' : Om) : Prop := Tt (TW X e) (Sat B G O) b (Sat B G O')
abbrev EA (X : Cx) (B : Bs) (G : Gm) (O : Om) (es : List Expr) (Rs : List Ty) (O' : Om) : Prop := At (AW X es) (Sat B G O) Rs (Sat B G O')
abbrev EO (X : Cx) (B : Bs) (G : Gm) (O : Om) (e : Expr) (O' : Addr → Om) : Prop := Eo B (EW X e) (Sat B G O) (fun l => Sat B G (O' l))
def SS (X : Cx) (sts : List Stmt) (A : As) (D : Ends) : Prop := ∀ σ H Ha, A σ H Ha → SW X sts D σ Ha
def up (A : As) : L2.St → Hp → Prop := fun σ Ha => ∃ H, A σ H Ha
section
variable {X : Cx} {B : Bs} {G : Gm} {O O1 O2 O3 : Om} {A A1 A2 A3 : As} {a b c e : Expr} {es : List Expr} {R R1 R2' : Ty} {Rs : List Ty} {t : TE} {ta : TA} {tt : TT} {pos p : Pos} {i j : Int} {n m : Nat}
theorem Et.of (h : PE X e t) (k : Et t A R A1) : Et (EW X e) A R A1 := fun σ H Ha a Q q pins s I => h.run pins s σ Ha Q I (k σ H Ha a Q q)
theorem Tt.of {bb : Bool} (h : PT X e tt) (k : Tt tt A bb A1) : Tt (TW X e) A bb A1 := fun σ H Ha a Q q pins s I => h.run pins s σ Ha Q I (k σ H Ha a Q q)
theorem At.of (h : PA X es ta) (k : At ta A Rs A1) : At (AW X es) A Rs A1 := fun σ H Ha a Q q pos pins s I => h.run pos pins s σ Ha Q I (k σ H Ha a Q q)
theorem Eo.of {A' : Addr → As} (h : PE X e t) (k : Eo B t A A') : Eo B (EW X e) A A' := fun σ H Ha a Q q pins s I => h.run pins s σ Ha Q I (k σ H Ha a Q q)
theorem Et.is (h : Et t A R A1) (e : R = R1) : Et t A R1 A1 := e ▸ h
theorem Et.to (h : Et t A R A1) (w : ∀ v H, R.p v H → R1.p v H) : Et t A R1 A1 := fun σ H Ha a Q q => h σ H Ha a Q fun v H' Ha' s k r => q v H' Ha' s k (w v H' r)
theorem Tt.is {x y : Bool} (h : Tt tt A x A1) (e : x = y) : Tt tt A y A1 := e ▸ h
theorem At.is {Rs' : List Ty} (h : At ta A Rs A1) (e : Rs = Rs') : At ta A Rs' A1 := e ▸ h
/-- a value that is made: known from now on -/
theorem Eo.et {ts : List Ty} {O' : Om} (h : Eo B t (Sat B G O) (fun l => Sat B G (O' ++ [(l, .lst ts)]))) : Et t (Sat B G O) (tL ts) (Sat B G O') := fun σ H Ha a Q q =>
  h σ H Ha a Q fun l H' Ha' hl sm s => by
    obtain ⟨o, ho, hc, sm2, s2⟩ := s.freeze (k := O'.length) (l := l) (c := .lst ts) (by simp) (.inr hl)
    obtain ⟨vs, rfl, k⟩ := Ch.lst_inv hc
    have eo : (O' ++ [(l, Ch.lst ts)]).eraseIdx O'.length = O' := by
      rw [List.eraseIdx_append_of_length_le (Nat.le_refl _)]
      simp
    rw [eo] at s2
    exact q (.ref l) _ Ha' (sm.trans sm2) s2 ⟨l, vs, rfl, upd_same, k.mono sm2⟩
theorem Eo.etI {C dx : Addr} {fs : List (Str × Ty)} {O' : Om} (h : Eo B t (Sat B G O) (fun l σ H Ha => ∃ dx, Sat B G (O' ++ [(l, .ins C dx fs)]) σ H Ha)) : Et t (Sat B G O) (tIn C fs) (Sat B G O') := fun σ H Ha a Q q =>
  h σ H Ha a Q fun l H' Ha' hl sm ⟨dx, s⟩ => by
    obtain ⟨o, ho, hc, sm2, s2⟩ := s.freeze (k := O'.length) (l := l) (c := .ins C dx fs) (by simp) (.inr hl)
    obtain ⟨gs, rfl, k⟩ := Ch.ins_inv hc
    have eo : (O' ++ [(l, Ch.ins C dx fs)]).eraseIdx O'.length = O' := by
      rw [List.eraseIdx_append_of_length_le (Nat.le_refl _)]
      simp
    rw [eo] at s2
    exact q (.ref l) _ Ha' (sm.trans sm2) s2 ⟨l, dx, gs, rfl, upd_same, k.mono sm2⟩

/-! ### names, constants -/
theorem e_var (k : Nat) {x : Str} (hG : G[k]? = some (some R) := by rfl) (hN : X.N[k]? = some x := by rfl) (hv : Vis X.env.scope x := by first | exact Or.inl rfl | exact Or.inr (Or.inl rfl) | exact Or.inr (Or.inr rfl))
    (hd : (x == ("__debug__" : Str)) = false := by decide) (hcd : (x == ("__classdict__" : Str)) = false := by decide) : E X B G O (.Name x pos) R O :=
  Et.of (pe_var hN hv hd hcd) fun σ H Ha s Q q => by
    obtain ⟨v, e, r⟩ := s.sl.2 k R hG
    exact ⟨v, e, q v H Ha (.refl _) s r⟩
theorem e_int {j'} : E X B G O (.Constant (.int i) j' pos) (tI i) O := Et.of pe_int fun σ H Ha s Q q => q _ H Ha (.refl _) s rfl
theorem e_bl {x j'} : E X B G O (.Constant (.bool x) j' pos) (tB x) O := Et.of pe_bl fun σ H Ha s Q q => q _ H Ha (.refl _) s rfl
theorem e_non {j'} : E X B G O (.Constant .none j' pos) tNone O := Et.of pe_non fun σ H Ha s Q q => q _ H Ha (.refl _) s rfl
theorem e_str {x j'} : E X B G O (.Constant (.str x) j' pos) (tV (.str x)) O := Et.of pe_str fun σ H Ha s Q q => q _ H Ha (.refl _) s rfl

/-! ### operators on values -/
theorem et_op {r : R2} {tb : TE} (ha : Et t A R A1) (hb : Et tb A1 R1 A2) (hr : ∀ σ H Ha v w, A2 σ H Ha → R.p v H → R1.p w H → ∀ Q : VK, (∀ u H' Ha', Same H H' → A3 σ H' Ha' → R2'.p u H' → Q u Ha') → r v w Ha Q) : Et (tOp r t tb) A R2' A3 :=
  fun σ H Ha s Q q => ha σ H Ha s _ fun v H1 Ha1 s1 k1 r1 => hb σ H1 Ha1 k1 _ fun w H2 Ha2 s2 k2 r2 => hr σ H2 Ha2 v w k2 (R.mono s2 r1) r2 Q fun u H3 Ha3 s3 k3 r3 => q u H3 Ha3 ((s1.trans s2).trans s3) k3 r3
theorem e_opI {op : Operator} {C : Int → Int → Prop} {g : Int → Int → V} (ho : OpR X (binaryOp op) (rI C g)) (ha : E X B G O a (tI i) O1) (hb : E X B G O1 b (tI j) O2) (hc : C i j) : E X B G O (.BinOp a op b pos) (tV (g i j)) O2 :=
  Et.of (pe_op ho ew ew) (et_op ha hb fun σ H Ha v w k r1 r2 Q q => ⟨i, j, r1, r2, hc, q _ H Ha (.refl _) k rfl⟩)
theorem e_opI0 {op : Operator} {g : Int → Int → V} (ho : OpR X (binaryOp op) (rI0 g)) (ha : E X B G O a (tI i) O1) (hb : E X B G O1 b (tI j) O2) : E X B G O (.BinOp a op b pos) (tV (g i j)) O2 :=
  Et.of (pe_op ho ew ew) (et_op ha hb fun σ H Ha v w k r1 r2 Q q => ⟨i, j, r1, r2, q _ H Ha (.refl _) k rfl⟩)
theorem e_add (ha : E X B G O a (tI i) O1) (hb : E X B G O1 b (tI j) O2) : E X B G O (.BinOp a .Add b pos) (tI (i + j)) O2 := e_opI0 op_add ha hb
theorem e_sub (ha : E X B G O a (tI i) O1) (hb : E X B G O1 b (tI j) O2) : E X B G O (.BinOp a .Sub b pos) (tI (i - j)) O2 := e_opI0 op_sub ha hb
theorem e_mul (ha : E X B G O a (tI i) O1) (hb : E X B G O1 b (tI j) O2) (hc : CMul i j) : E X B G O (.BinOp a .Mult b pos) (tI (i * j)) O2 := e_opI op_mul ha hb hc
theorem e_mod (ha : E X B G O a (tI i) O1) (hb : E X B G O1 b (tI j) O2) (hc : 0 < j) : E X B G O (.BinOp a .Mod b pos) (tI (i % j)) O2 := e_opI op_mod ha hb hc
theorem e_fdiv (ha : E X B G O a (tI i) O1) (hb : E X B G O1 b (tI j) O2) (hc : CDiv i j) : E X B G O (.BinOp a .FloorDiv b pos) (tI (i / j)) O2 := e_opI op_fdiv ha hb hc
theorem e_pow (ha : E X B G O a (tI i) O1) (hb : E X B G O1 b (tI j) O2) (hc : CPow i j) : E X B G O (.BinOp a .Pow b pos) (tI (i ^ j.toNat)) O2 := e_opI op_pow ha hb hc
/-- a comparison by its rule: as a value, as a test -/
theorem e_cmp {op : CmpOp} {r : R2} {bb : Bool} (ho : OpR X (compareOp op) r) (ha : E X B G O a R O1) (hb : E X B G O1 b R1 O2) (hr : ∀ σ H Ha v w, Sat B G O2 σ H Ha → R.p v H → R1.p w H → ∀ Q : VK, Q (.bl bb) Ha → r v w Ha Q)
    (hm : behindInMarks op b = false) : E X B G O (.Compare a [op] [b] pos) (tB bb) O2 :=
  Et.of (pe_cmpR ho ew ew hm) (et_op ha hb fun σ H Ha v w k r1 r2 Q q => hr σ H Ha v w k r1 r2 Q (q _ H Ha (.refl _) k rfl))
theorem t_cmp {op : CmpOp} {r : R2} {bb : Bool} (ho : OpR X (compareOp op) r) (ha : E X B G O a R O1) (hb : E X B G O1 b R1 O2) (hr : ∀ σ H Ha v w, Sat B G O2 σ H Ha → R.p v H → R1.p w H → ∀ Q : VK, Q (.bl bb) Ha → r v w Ha Q)
    (hm : behindInMarks op b = false) : T X B G O (.Compare a [op] [b] pos) bb O2 :=
  Tt.of (pt_cmpR ho ew ew hm) fun σ H Ha s Q q => ha σ H Ha s _ fun v H1 Ha1 s1 k1 r1 => hb σ H1 Ha1 k1 _ fun w H2 Ha2 s2 k2 r2 => hr σ H2 Ha2 v w k2 (R.mono s2 r1) r2 _ ⟨bb, rfl, q H2 Ha2 (s1.trans s2) k2⟩
theorem t_cmpI {op : CmpOp} {g : Int → Int → Bool} (ho : OpR X (compareOp op) (rI0 fun i j => .bl (g i j))) (ha : E X B G O a (tI i) O1) (hb : E X B G O1 b (tI j) O2) (hm : behindInMarks op b = false) : T X B G O (.Compare a [op] [b] pos) (g i j) O2 :=
  t_cmp ho ha hb (fun σ H Ha v w k r1 r2 Q q => ⟨i, j, r1, r2, q⟩) hm
theorem e_cmpI {op : CmpOp} {g : Int → Int → Bool} (ho : OpR X (compareOp op) (rI0 fun i j => .bl (g i j))) (ha : E X B G O a (tI i) O1) (hb : E X B G O1 b (tI j) O2) (hm : behindInMarks op b = false) : E X B G O (.Compare a [op] [b] pos) (tB (g i j)) O2 :=
  e_cmp ho ha hb (fun σ H Ha v w k r1 r2 Q q => ⟨i, j, r1, r2, q⟩) hm
theorem t_lt (ha : E X B G O a (tI i) O1) (hb : E X B G O1 b (tI j) O2) : T X B G O (.Compare a [.Lt] [b] pos) (decide (i < j)) O2 := t_cmpI op_lt ha hb (nomark _)
theorem t_le (ha : E X B G O a (tI i) O1) (hb : E X B G O1 b (tI j) O2) : T X B G O (.Compare a [.LtE] [b] pos) (decide (i ≤ j)) O2 := t_cmpI op_le ha hb (nomark _)
theorem t_gt (ha : E X B G O a (tI i) O1) (hb : E X B G O1 b (tI j) O2) : T X B G O (.Compare a [.Gt] [b] pos) (decide (j < i)) O2 := t_cmpI op_gt ha hb (nomark _)
theorem t_ge (ha : E X B G O a (tI i) O1) (hb : E X B G O1 b (tI j) O2) : T X B G O (.Compare a [.GtE] [b] pos) (decide (j ≤ i)) O2 := t_cmpI op_ge ha hb (nomark _)
theorem dec_V {x y : Int} : decide (V.int x = V.int y) = decide (x = y) := by
  by_cases h : x = y
  · subst h; simp
  · rw [decide_eq_false h, decide_eq_false fun z => h (V.int.inj z)]
theorem t_eq (ha : E X B G O a (tI i) O1) (hb : E X B G O1 b (tI j) O2) : T X B G O (.Compare a [.Eq] [b] pos) (decide (i = j)) O2 :=
  t_cmp op_eq ha hb (fun σ H Ha v w k r1 r2 Q q => by cases r1; cases r2; exact ⟨rfl, by rw [dec_V]; exact q⟩) (nomark _)
theorem t_ne (ha : E X B G O a (tI i) O1) (hb : E X B G O1 b (tI j) O2) : T X B G O (.Compare a [.NotEq] [b] pos) (!decide (i = j)) O2 :=
  t_cmp op_ne ha hb (fun σ H Ha v w k r1 r2 Q q => by cases r1; cases r2; exact ⟨rfl, by rw [dec_V]; exact q⟩) (nomark _)
/-- a <= b < c as a test -/
theorem t_chain {op op' : CmpOp} {g g' : Int → Int → Bool} {k : Int} (ho : OpR X (compareOp op) (rI0 fun i j => .bl (g i j))) (ho' : OpR X (compareOp op') (rI0 fun i j => .bl (g' i j))) (ha : E X B G O a (tI i) O1) (hb : E X B G O1 b (tI j) O2) (hc : E X B G O2 c (tI k) O2)
    (hm : lastMarks [op, op'] [b, c] = false := by with_unfolding_all rfl) : T X B G O (.Compare a [op, op'] [b, c] pos) (g i j && g' j k) O2 :=
  Tt.of (pt_chain ho ho' ew ew ew hm) fun σ H Ha s Q q => ha σ H Ha s _ fun v H1 Ha1 s1 k1 r1 => hb σ H1 Ha1 k1 _ fun w H2 Ha2 s2 k2 r2 => by
    refine ⟨i, j, r1, r2, g i j, rfl, ?_⟩
    cases hg : g i j with
    | true =>
      rw [if_pos rfl]
      exact hc σ H2 Ha2 k2 _ fun u H3 Ha3 s3 k3 r3 => ⟨j, k, r2, r3, g' j k, rfl, q H3 Ha3 ((s1.trans s2).trans s3) k3 |> fun z => by rw [hg] at z; exact z⟩
    | false =>
      rw [if_neg Bool.false_ne_true]
      exact ⟨false, rfl, by have z := q H2 Ha2 (s1.trans s2) k2; rw [hg] at z; exact z⟩
/-- is None, is not None -/
theorem t_notN {bb : Bool} (ha : E X B G O a R O1) (hb : E X B G O1 b tNone O2) (hn : ∀ v H, R.p v H → (!decide (v = V.non)) = bb) : T X B G O (.Compare a [.IsNot] [b] pos) bb O2 :=
  t_cmp op_notN ha hb (fun σ H Ha v w k r1 r2 Q q => ⟨r2, by rw [hn v H r1]; exact q⟩) (nomark _)
theorem t_isN {bb : Bool} (ha : E X B G O a R O1) (hb : E X B G O1 b tNone O2) (hn : ∀ v H, R.p v H → decide (v = V.non) = bb) : T X B G O (.Compare a [.Is] [b] pos) bb O2 :=
  t_cmp op_isN ha hb (fun σ H Ha v w k r1 r2 Q q => ⟨r2, by rw [hn v H r1]; exact q⟩) (nomark _)
theorem tL_notN {ts : List Ty} (v : V) (H : Hp) (h : (tL ts).p v H) : decide (v = V.non) = false := by
  obtain ⟨a, vs, rfl, _⟩ := h
  exact decide_eq_false fun z => nomatch z
/-- truth by a bool value -/
theorem t_val {bb : Bool} (h : E X B G O e (tB bb) O1) (he : ∀ whole, isTrue e X.env whole = (do let v ← whole; standAt e.pos; holding [v] (truthy v)) := by intro _; rfl) : T X B G O e bb O1 :=
  Tt.of (pt_val ew he) fun σ H Ha s Q q => h σ H Ha s _ fun v H1 Ha1 s1 k1 r1 => ⟨bb, r1, q H1 Ha1 s1 k1⟩
theorem t_not {bb : Bool} (h : T X B G O e bb O1) : T X B G O (.UnaryOp .Not e pos) (!bb) O1 :=
  Tt.of (pt_not tw) fun σ H Ha s Q q => h σ H Ha s _ fun H1 Ha1 s1 k1 => q H1 Ha1 s1 k1
/-- a and b, a or b (two) -/
theorem t_and {x y : Bool} (h : T X B G O a x O1) (k : x = true → T X B G O1 b y O1) : T X B G O (.BoolOp .And [a, b] pos) (x && y) O1 :=
  Tt.of (PW.pt (pw_and tw (pw_and1 tw))) fun σ H Ha s Q q => h σ H Ha s _ fun H1 Ha1 s1 k1 => by
    cases x with
    | true => exact iteT (k rfl σ H1 Ha1 k1 _ fun H2 Ha2 s2 k2 => q H2 Ha2 (s1.trans s2) k2)
    | false => exact iteF (q H1 Ha1 s1 k1)
theorem t_or {x y : Bool} (h : T X B G O a x O1) (k : x = false → T X B G O1 b y O1) : T X B G O (.BoolOp .Or [a, b] pos) (x || y) O1 :=
  Tt.of (PW.pt (pw_or tw (pw_or1 tw))) fun σ H Ha s Q q => h σ H Ha s _ fun H1 Ha1 s1 k1 => by
    cases x with
    | false => exact iteF (k rfl σ H1 Ha1 k1 _ fun H2 Ha2 s2 k2 => q H2 Ha2 (s1.trans s2) k2)
    | true => exact iteT (q H1 Ha1 s1 k1)
theorem e_if {x : Bool} (h : T X B G O c x O1) (h1 : x = true → E X B G O1 a R O2) (h2 : x = false → E X B G O1 b R O2) : E X B G O (.IfExp c a b pos) R O2 :=
  Et.of (pe_ifExp tw ew ew) fun σ H Ha s Q q => h σ H Ha s _ fun H1 Ha1 s1 k1 => by
    cases x with
    | true => exact iteT (h1 rfl σ H1 Ha1 k1 _ fun v H2 Ha2 s2 k2 r => q v H2 Ha2 (s1.trans s2) k2 r)
    | false => exact iteF (h2 rfl σ H1 Ha1 k1 _ fun v H2 Ha2 s2 k2 r => q v H2 Ha2 (s1.trans s2) k2 r)

/-! ### arguments -/
theorem ea_nil : EA X B G O [] [] O := At.of pa_nil fun σ H Ha s Q q => q [] H Ha (.refl _) s .nil
theorem ea_cons (h : E X B G O e R O1) (r : EA X B G O1 es Rs O2) (hs : starEach (e :: es) X.env = (false, eval e X.env) :: starEach es X.env := by rfl) : EA X B G O (e :: es) (R :: Rs) O2 :=
  At.of (pa_cons ew aw hs) fun σ H Ha s Q q => h σ H Ha s _ fun v H1 Ha1 s1 k1 r1 => r σ H1 Ha1 k1 _ fun vs H2 Ha2 s2 k2 r2 => q (v :: vs) H2 Ha2 (s1.trans s2) k2 (.cons (R.mono s2 r1) r2)

/-! ### a list that can be read -/
def LsOk (R : Ty) (O : Om) (ts : List Ty) : Prop := ∀ (B : Bs) (G : Gm) (σ : L2.St) (H Ha : Hp) (v : V), Sat B G O σ H Ha → R.p v H → ∃ a vs, v = .ref a ∧ Ha a = some (.lst vs) ∧ AllT H ts vs
theorem ls {ts : List Ty} : LsOk (tL ts) O ts := fun B G σ H Ha v s ⟨a, vs, e, h, k⟩ => ⟨a, vs, e, s.ha _ _ h, k⟩
theorem lso {l : Addr} {ts : List Ty} (k : Nat) (h : O[k]? = some (l, .lst ts) := by rfl) : LsOk (tRef l) O ts := fun B G σ H Ha v s e => by
  obtain ⟨o, ho, hc⟩ := s.read h
  obtain ⟨vs, rfl, q⟩ := Ch.lst_inv hc
  exact ⟨l, vs, e, ho, q⟩
theorem e_len {ts : List Ty} (h : E X B G O e R O1) (k : LsOk R O1 ts) (hm : X.mg "len" = none) (hg : Gl X "len" := by rfl) (he : starEach [e] X.env = (false, eval e X.env) :: starEach [] X.env := by rfl) (hpl : (backTo pos (starEach [] X.env)).any (·.1) = false := by rfl) :
    E X B G O (.Call (.Name "len" p) [e] [] pos) (tN ts.length) O1 :=
  Et.of (pe_callB call_len_seq hg hm PySem.boot_len (pa_cons ew pa_nil he) (by decide) (by decide) he hpl) fun σ H Ha s Q q => h σ H Ha s _ fun v H1 Ha1 s1 k1 r1 => by
    obtain ⟨a, vs, rfl, hv, al⟩ := k B G σ H1 Ha1 v k1 r1
    exact ⟨a, vs, rfl, .inl (SqL.of hv), q _ H1 Ha1 s1 k1 (by show V.int _ = V.int _; rw [al.1])⟩
/-- xs[i], i from 0 -/
theorem e_ix {ts : List Ty} {U : Ty} (h : E X B G O a R O1) (k : LsOk R O2 ts) (hi : E X B G O1 b (tN n) O2) (hn : ts[n]? = some U) (hs : PlainIx b := by exact fun _ _ => rfl) : E X B G O (.Subscript a b pos) U O2 :=
  Et.of (pe_ix ix_list ew ew hs) (et_op h hi fun σ H Ha v w s r1 r2 Q q => by
    obtain ⟨l, vs, rfl, hv, al⟩ := k B G σ H Ha v s r1
    obtain ⟨u, hu, ru⟩ := al.get hn
    exact ⟨l, vs, (n : Int), u, rfl, r2, SqL.of hv, atI_nat hu, q u H Ha (.refl _) s ru⟩)
/-- xs[0] (a written number) -/
theorem e_ixI {ts : List Ty} {U : Ty} (h : E X B G O a R O1) (k : LsOk R O2 ts) (hi : E X B G O1 b (tI i) O2) (hn : atI ts i = some U) (hs : PlainIx b := by exact fun _ _ => rfl) : E X B G O (.Subscript a b pos) U O2 :=
  Et.of (pe_ix ix_list ew ew hs) (et_op h hi fun σ H Ha v w s r1 r2 Q q => by
    obtain ⟨l, vs, rfl, hv, al⟩ := k B G σ H Ha v s r1
    cases e : ixN ts.length i with
    | none =>
      unfold atI at hn
      rw [e] at hn
      cases hn
    | some m =>
      have hn' : ts[m]? = some U := by
        unfold atI at hn
        rw [e] at hn
        exact hn
      obtain ⟨u, hu, ru⟩ := al.get hn'
      refine ⟨l, vs, i, u, rfl, r2, SqL.of hv, ?_, q u H Ha (.refl _) s ru⟩
      unfold atI
      rw [← al.1, e]
      exact hu)
/-- truth of a list -/
theorem t_lst {ts : List Ty} (h : E X B G O e R O1) (k : LsOk R O1 ts) (he : ∀ whole, isTrue e X.env whole = (do let v ← whole; standAt e.pos; holding [v] (truthy v)) := by intro _; rfl) : T X B G O e (!ts.isEmpty) O1 :=
  Tt.of (pt_truth ew he) fun σ H Ha s Q q => h σ H Ha s _ fun v H1 Ha1 s1 k1 r1 => by
    obtain ⟨a, vs, rfl, hv, al⟩ := k B G σ H1 Ha1 v k1 r1
    refine ⟨!vs.isEmpty, .inl ⟨vs, SqL.of hv, rfl⟩, ?_⟩
    have e : (!vs.isEmpty) = (!ts.isEmpty) := by
      cases ts with
      | nil => rw [al.unnil]; rfl
      | cons T ts => obtain ⟨v, vs', rfl, _⟩ := al.uncons; rfl
    rw [e]
    exact q H1 Ha1 s1 k1
/-! ### new lists -/
theorem eo_new {ts : List Ty} {σ : L2.St} {H Ha : Hp} {Q : VK} {vs : List V} (s : Sat B G O σ H Ha) (al : AllT H ts vs) (q : ∀ l H' Ha', B.Ha l = none → Same H H' → Sat B G (O ++ [(l, .lst ts)]) σ H' Ha' → Q (.ref l) Ha') :
    ∀ l, Ha l = none → Q (.ref l) (upd Ha l (.lst vs)) := fun l hl => q l H _ (s.baseFree hl) (.refl _) (s.own hl al)
/-- [a, b, ..] -/
theorem eo_lst {ts : List Ty} (h : EA X B G O es ts O1) (hz : ts.length ≤ 1000) : EO X B G O (.List es pos) (fun l => O1 ++ [(l, .lst ts)]) :=
  Eo.of (pe_lst aw) fun σ H Ha s Q q => h σ H Ha s _ fun vs H1 Ha1 s1 k1 r1 => ⟨by rw [← r1.1]; exact Nat.le_of_lt (small1000 hz), eo_new k1 r1 fun l H2 Ha2 b s2 k2 => q l H2 Ha2 b (s1.trans s2) k2⟩
theorem e_lst {ts : List Ty} (h : EA X B G O es ts O1) (hz : ts.length ≤ 1000) : E X B G O (.List es pos) (tL ts) O1 := Eo.et (eo_lst h hz)
/-- (a, b, ..) -/
theorem e_tup {ts : List Ty} {x1} (h : EA X B G O es ts O1) (hz : ts.length ≤ 1000) : E X B G O (.Tuple es x1 pos) (tT ts) O1 :=
  Et.of (pe_tup aw) fun σ H Ha s Q q => h σ H Ha s _ fun vs H1 Ha1 s1 k1 r1 => ⟨by rw [← r1.1]; exact Nat.le_of_lt (small1000 hz), fun l hl => by
    have x : Stp F0 H1 Ha1 (upd H1 l (.tup vs)) (upd Ha1 l (.tup vs)) := Stp.made k1.ha hl
    exact q (.ref l) _ _ (s1.trans x.k) (k1.step x) ⟨l, vs, rfl, upd_same, r1.mono x.k⟩⟩
/-- list(xs) -/
theorem eo_list {ts : List Ty} (h : E X B G O e R O1) (k : LsOk R O1 ts) (hm : X.mg "list" = none) (hg : Gl X "list" := by rfl) (he : starEach [e] X.env = (false, eval e X.env) :: starEach [] X.env := by rfl) (hpl : (backTo pos (starEach [] X.env)).any (·.1) = false := by rfl) :
    EO X B G O (.Call (.Name "list" p) [e] [] pos) (fun l => O1 ++ [(l, .lst ts)]) :=
  Eo.of (pe_callTy call_list_of hg hm (by decide +kernel) (pa_cons ew pa_nil he) (by decide) (by decide) he hpl) fun σ H Ha s Q q => h σ H Ha s _ fun v H1 Ha1 s1 k1 r1 => by
    obtain ⟨a, vs, rfl, hv, al⟩ := k B G σ H1 Ha1 v k1 r1
    exact ⟨a, vs, rfl, .inl (SqL.of hv), eo_new k1 al fun l H2 Ha2 b s2 k2 => q l H2 Ha2 b (s1.trans s2) k2⟩
theorem e_list {ts : List Ty} (h : E X B G O e R O1) (k : LsOk R O1 ts) (hm : X.mg "list" = none) (hg : Gl X "list" := by rfl) (he : starEach [e] X.env = (false, eval e X.env) :: starEach [] X.env := by rfl) (hpl : (backTo pos (starEach [] X.env)).any (·.1) = false := by rfl) :
    E X B G O (.Call (.Name "list" p) [e] [] pos) (tL ts) O1 := Eo.et (eo_list h k hm hg he hpl)
/-- tuple(xs) -/
theorem e_tuple {ts : List Ty} (h : E X B G O e R O1) (k : LsOk R O1 ts) (hm : X.mg "tuple" = none) (hg : Gl X "tuple" := by rfl) (he : starEach [e] X.env = (false, eval e X.env) :: starEach [] X.env := by rfl) :
    E X B G O (.Call (.Name "tuple" p) [e] [] pos) (tT ts) O1 :=
  Et.of (pe_tupleOf hg hm ew he) fun σ H Ha s Q q => h σ H Ha s _ fun v H1 Ha1 s1 k1 r1 => by
    obtain ⟨a, vs, rfl, hv, al⟩ := k B G σ H1 Ha1 v k1 r1
    refine .inl ⟨a, vs, rfl, SqL.of hv, fun l hl => ?_⟩
    have x : Stp F0 H1 Ha1 (upd H1 l (.tup vs)) (upd Ha1 l (.tup vs)) := Stp.made k1.ha hl
    exact q (.ref l) _ _ (s1.trans x.k) (k1.step x) ⟨l, vs, rfl, upd_same, al.mono x.k⟩
/-- list(range(n)) -/
theorem allT_range {H : Hp} (n : Nat) : AllT H ((List.range n).map fun i => tN i) (rgV 0 (n : Int)) := by
  refine ⟨by rw [List.length_map, List.length_range, rgV_length]; omega, fun i T v a b => ?_⟩
  unfold rgV at b
  rw [List.getElem?_map] at a b
  have e : ((n : Int) - 0).toNat = n := by omega
  rw [e] at b
  cases q : (List.range n)[i]? with
  | none => rw [q] at a; cases a
  | some k =>
    rw [q] at a b
    cases a
    cases b
    show V.int _ = V.int _
    rw [Int.zero_add]
theorem eo_listRg {p2 pos2 : Pos} (h : E X B G O e (tN n) O1) (hn : n ≤ 1000) (hc : X.calm = true) (hm : X.mg "list" = none) (hm2 : X.mg "range" = none) (hg : Gl X "list" := by rfl) (hg2 : Gl X "range" := by rfl)
    (na : starEach [e] X.env = (false, eval e X.env) :: starEach [] X.env := by rfl) (nb : starEach [.Call (.Name "range" p2) [e] [] pos2] X.env = (false, eval (.Call (.Name "range" p2) [e] [] pos2) X.env) :: starEach [] X.env := by rfl) :
    EO X B G O (.Call (.Name "list" p) [.Call (.Name "range" p2) [e] [] pos2] [] pos) (fun l => O1 ++ [(l, .lst ((List.range n).map fun i => tN i))]) :=
  Eo.of (pe_listRg hc hg hm (prg_1 hg2 hm2 ew na) nb) fun σ H Ha s Q q => h σ H Ha s _ fun v H1 Ha1 s1 k1 r1 =>
    ⟨(n : Int), r1, RgOk.of_le (by decide) (by omega) (by decide) (by omega), eo_new k1 (allT_range n) fun l H2 Ha2 b s2 k2 => q l H2 Ha2 b (s1.trans s2) k2⟩
/-- xs + ys -/
theorem eo_cat {ts us : List Ty} (ha : E X B G O a R O1) (hb : E X B G O1 b R1 O2) (k1 : LsOk R O2 ts) (k2 : LsOk R1 O2 us) (hz : ts.length + us.length ≤ 10000) : EO X B G O (.BinOp a .Add b pos) (fun l => O2 ++ [(l, .lst (ts ++ us))]) :=
  Eo.of (pe_op op_cat ew ew) fun σ H Ha s Q q => ha σ H Ha s _ fun v H1 Ha1 s1 z1 r1 => hb σ H1 Ha1 z1 _ fun w H2 Ha2 s2 z2 r2 => by
    obtain ⟨l1, vs, rfl, hv, al⟩ := k1 B G σ H2 Ha2 v z2 (R.mono s2 r1)
    obtain ⟨l2, ws, rfl, hw, bl⟩ := k2 B G σ H2 Ha2 w z2 r2
    refine ⟨l1, l2, vs, ws, rfl, rfl, hv, hw, ?_, eo_new z2 (al.append bl) fun l H3 Ha3 b s3 k3 => q l H3 Ha3 b ((s1.trans s2).trans s3) k3⟩
    rw [← al.1, ← bl.1, sizeLine_eq]
    omega
end
end Vc
set_option maxHeartbeats 4000000
/-! VcCalls: promises of defs, calls, attributes, in, index, sum, min -/
namespace Vc
open PySem PySem.Spec L2

/-- a def that changes nothing that stood: for an index i with pre i, arguments of these types give a value of this type -/
structure Spec (ι : Type) where
  pre : ι → Prop
  args : ι → List Ty
  ret : ι → Ty
def Gives (F : Addr → Prop) (H Ha : Hp) (R : Ty) (Q : VK) : Prop := ∀ v H' Ha', Stp F H Ha H' Ha' → R.p v H' → Q v Ha'
def Spec.sp {ι : Type} (S : Spec ι) : Sp := fun vs Ha Q _ => ∃ i H, S.pre i ∧ Same H Ha ∧ AllT H (S.args i) vs ∧ Gives F0 H Ha (S.ret i) Q
/-- a def that changes the object at l i alone, from c i to c' i -/
structure Spec2 (ι : Type) where
  pre : ι → Prop
  l : ι → Addr
  args : ι → List Ty
  c : ι → Ch
  c' : ι → Ch
  ret : ι → Ty
def Spec2.sp {ι : Type} (S : Spec2 ι) : Sp := fun vs Ha Q _ => ∃ i H, S.pre i ∧ Same H Ha ∧ H (S.l i) = none ∧ AllT H (S.args i) vs ∧ (∃ o, Ha (S.l i) = some o ∧ (S.c i).ok H o) ∧
  ∀ v H' Ha', Stp (fun b => b = S.l i) H Ha H' Ha' → (S.ret i).p v H' → H' (S.l i) = none → (∃ o, Ha' (S.l i) = some o ∧ (S.c' i).ok H' o) → Q v Ha'
/-- a def of the module, its promise -/
structure DefOk (P : Program) (w : World) (K : PySem.W.Frag) (mg : Str → Option Value) (base : Heap) (k : Nat) (x : Str) (dvs : List V) (sp : Sp) : Prop where
  ex : ∃ (f : Addr) (fd : FuncData) (ps : List Str) (ds : List Value), FnOk P w K mg base CX0 k f fd ps sp ∧ mg x = some (.ref f) ∧ PySem.W.keepIn K (.ref f) = true ∧ Binds K fd ps ds ∧ Vals dvs ds
/-- the class x stands at C; its __init__ keeps sp -/
structure ClsOk (P : Program) (w : World) (K : PySem.W.Frag) (mg : Str → Option Value) (base : Heap) (k : Nat) (x : Str) (C : Addr) (sp : Sp) : Prop where
  cl : Cls K C
  ex : ∃ (f : Addr) (fd : FuncData) (ps : List Str), FnOk P w K mg base CX0 k f fd ps sp ∧ mg x = some (.ref C) ∧ Mk K C f ∧ Binds K fd ps []
/-- __init__: fields stored at self -/
structure SpecI (ι : Type) where
  pre : ι → Prop
  args : ι → List Ty
  fs : ι → List (Str × Ty)
def SpecI.sp {ι : Type} (S : SpecI ι) (C : Addr) : Sp := Spec2.sp (ι := ι × Addr × Addr) ⟨fun z => S.pre z.1, fun z => z.2.1, fun z => tRef z.2.1 :: S.args z.1, fun z => .ins C z.2.2 [], fun z => .ins C z.2.2 (S.fs z.1), fun _ => tNone⟩
section
variable {X : Cx} {B : Bs} {G : Gm} {O O1 O2 O3 : Om} {A A1 A2 A3 : As} {a b c e : Expr} {es : List Expr} {R R1 R2' : Ty} {Rs : List Ty} {t : TE} {ta : TA} {tt : TT} {pos p : Pos} {i j : Int} {n m k : Nat} {x : Str} {sp : Sp} {dvs : List V}
theorem pe_def (D : DefOk X.prog X.w X.K X.mg X.base k x dvs sp) (hr : Room m X.A) (hk : k ≤ m) (ha : PA X (e :: es) ta) (hg : Gl X x) (hdb : (x == ("__debug__" : Str)) = false) (he : starEach (e :: es) X.env = (false, eval e X.env) :: starEach es X.env) (hpl : (backTo pos (starEach es X.env)).any (·.1) = false) :
    PE X (.Call (.Name x p) (e :: es) [] pos) (tCall sp dvs E0 ta) := by
  obtain ⟨f, fd, ps, ds, F, hm, kp, hb, hv⟩ := D.ex
  exact pe_call F (hr.mono hk) hg hm kp hb hv pass0 ha hdb he hpl
/-- f(e, ..) -/
theorem e_call {ι : Type} {S : Spec ι} (z : ι) (D : DefOk X.prog X.w X.K X.mg X.base k x [] S.sp) (hr : Room m X.A) (ha : EA X B G O (e :: es) (S.args z) O1) (hp : S.pre z) (hk : k ≤ m := by decide) (hg : Gl X x := by rfl)
    (hdb : (x == ("__debug__" : Str)) = false := by decide) (he : starEach (e :: es) X.env = (false, eval e X.env) :: starEach es X.env := by rfl) (hpl : (backTo pos (starEach es X.env)).any (·.1) = false := by rfl) :
    E X B G O (.Call (.Name x p) (e :: es) [] pos) (S.ret z) O1 :=
  Et.of (pe_def D hr hk aw hg hdb he hpl) fun σ H Ha s Q q => ha σ H Ha s _ fun vs H1 Ha1 s1 k1 r1 =>
    ⟨z, H1, hp, k1.ha, by rw [List.append_nil]; exact r1, fun v H2 Ha2 x2 r2 => q v H2 Ha2 (s1.trans x2.k) (k1.step x2) r2⟩
/-- .. its last parameters by default -/
theorem e_callD {ι : Type} {S : Spec ι} {Rs' : List Ty} (z : ι) (D : DefOk X.prog X.w X.K X.mg X.base k x dvs S.sp) (hr : Room m X.A) (ha : EA X B G O (e :: es) Rs O1) (hp : S.pre z) (hz : S.args z = Rs ++ Rs') (hd : ∀ H, AllT H Rs' dvs) (hk : k ≤ m := by decide) (hg : Gl X x := by rfl)
    (hdb : (x == ("__debug__" : Str)) = false := by decide) (he : starEach (e :: es) X.env = (false, eval e X.env) :: starEach es X.env := by rfl) (hpl : (backTo pos (starEach es X.env)).any (·.1) = false := by rfl) :
    E X B G O (.Call (.Name x p) (e :: es) [] pos) (S.ret z) O1 :=
  Et.of (pe_def D hr hk aw hg hdb he hpl) fun σ H Ha s Q q => ha σ H Ha s _ fun vs H1 Ha1 s1 k1 r1 =>
    ⟨z, H1, hp, k1.ha, by rw [hz]; exact r1.append (hd H1), fun v H2 Ha2 x2 r2 => q v H2 Ha2 (s1.trans x2.k) (k1.step x2) r2⟩
theorem Sat.call2 {σ : L2.St} {H Ha H' Ha' : Hp} {l : Addr} {c c' : Ch} {kk : Nat} (s : Sat B G O σ H Ha) (hk : O[kk]? = some (l, c)) (x : Stp (fun b => b = l) H Ha H' Ha') (hn : H' l = none) (ho : ∃ o, Ha' l = some o ∧ c'.ok H' o) : Sat B G (O.set kk (l, c')) σ H' Ha' := by
  have hm := List.mem_of_getElem? hk
  obtain ⟨hH, hb, _⟩ := s.ow.2 _ hm
  have hlF : ∀ b, ¬ B.F b → B.Ha b ≠ none → b ≠ l := fun b f e z => by
    subst z
    rcases hb with q | q
    · exact e q
    · exact f q
  have mp : (O.set kk (l, c')).map (·.1) = O.map (·.1) := by
    rw [List.map_set]
    refine List.ext_getElem? fun i => ?_
    by_cases e : kk = i
    · subst e
      have hl : kk < (O.map (·.1)).length := by rw [List.length_map]; exact (List.getElem?_eq_some_iff.mp hk).1
      rw [List.getElem?_set_self hl, List.getElem?_map, hk]
      rfl
    · rw [List.getElem?_set_ne e]
  refine ⟨⟨s.st.k.trans x.k, x.a, fun b o f e => x.keep b o (hlF b f (by rw [e]; exact fun z => nomatch z)) (s.st.keep b o f e), fun b h e => ?_, fun b h => x.dom b (s.st.dom b h)⟩, s.sn.trans x.k, s.sl.mono x.k, by rw [mp]; exact s.ow.1, fun q hq => ?_⟩
  · by_cases q : H b = none
    · have q2 := x.new b h q
      by_cases q3 : B.Ha b = none
      · exact q3
      · exact (s.st.dom b q3 q2).elim
    · exact s.st.new b q e
  · obtain ⟨i, hi⟩ := List.getElem?_of_mem hq
    by_cases e : kk = i
    · subst e
      rw [List.getElem?_set_self (List.getElem?_eq_some_iff.mp hk).1] at hi
      cases hi
      exact ⟨hn, hb, ho⟩
    · rw [List.getElem?_set_ne e] at hi
      obtain ⟨a, b, u, c1, d⟩ := s.ow.2 q (List.mem_of_getElem? hi)
      have hne : q.1 ≠ l := fun z => by
        have e1 : (O.map (·.1))[i]? = some l := by rw [List.getElem?_map, hi]; exact congrArg some z
        have e2 : (O.map (·.1))[kk]? = some l := by rw [List.getElem?_map, hk]; rfl
        exact e (nd_ix s.ow.1 e2 e1)
      refine ⟨?_, b, u, x.keep _ _ hne c1, Ch.mono x.k d⟩
      by_cases z : H' q.1 = none
      · exact z
      · have := x.new q.1 z a
        rw [this] at c1
        cases c1
/-- f(e, ..), f changes an owned object -/
theorem e_call2 {ι : Type} {S : Spec2 ι} (z : ι) (kk : Nat) (D : DefOk X.prog X.w X.K X.mg X.base k x [] S.sp) (hr : Room m X.A) (ha : EA X B G O (e :: es) (S.args z) O1) (hp : S.pre z) (ho : O1[kk]? = some (S.l z, S.c z) := by rfl) (hk : k ≤ m := by decide) (hg : Gl X x := by rfl)
    (hdb : (x == ("__debug__" : Str)) = false := by decide) (he : starEach (e :: es) X.env = (false, eval e X.env) :: starEach es X.env := by rfl) (hpl : (backTo pos (starEach es X.env)).any (·.1) = false := by rfl) :
    E X B G O (.Call (.Name x p) (e :: es) [] pos) (S.ret z) (O1.set kk (S.l z, S.c' z)) :=
  Et.of (pe_def D hr hk aw hg hdb he hpl) fun σ H Ha s Q q => ha σ H Ha s _ fun vs H1 Ha1 s1 k1 r1 =>
    ⟨z, H1, hp, k1.ha, (k1.ow.2 _ (List.mem_of_getElem? ho)).1, by rw [List.append_nil]; exact r1, k1.read ho, fun v H2 Ha2 x2 r2 hn o2 => q v H2 Ha2 (s1.trans x2.k) (k1.call2 ho x2 hn o2) r2⟩

/-! ### classes -/
theorem eo_make {ι : Type} {S : SpecI ι} {C : Addr} (z : ι) (D : ClsOk X.prog X.w X.K X.mg X.base k x C (S.sp C)) (hr : Room m X.A) (ha : EA X B G O (e :: es) (S.args z) O1) (hp : S.pre z) (hk : k + 1 ≤ m := by decide) (hg : Gl X x := by rfl)
    (hdb : (x == ("__debug__" : Str)) = false := by decide) (he : starEach (e :: es) X.env = (false, eval e X.env) :: starEach es X.env := by rfl) (hpl : (backTo pos (starEach es X.env)).any (·.1) = false := by rfl) :
    Eo B (EW X (.Call (.Name x p) (e :: es) [] pos)) (Sat B G O) (fun l σ H Ha => ∃ dx, Sat B G (O1 ++ [(l, .ins C dx (S.fs z))]) σ H Ha) := by
  obtain ⟨f, fd, ps, F, hm, M, hb⟩ := D.ex
  refine Eo.of (pe_make M F (hr.mono hk) hg hm hb .nil pass0 aw hdb he hpl) fun σ H Ha s Q q => ha σ H Ha s _ fun vs H1 Ha1 s1 k1 r1 => fun y dx hy hdx ne => ?_
  have hy' : (upd Ha1 dx (.own y)) y = none := by rw [upd_ne ne.symm]; exact hy
  have x1 : Stp F0 H1 Ha1 H1 (upd Ha1 dx (.own y)) := Stp.grow k1.ha hdx
  have k2 := k1.step x1
  have k3 := k2.own (c := .ins C dx []) (o := .ins C dx []) hy' ⟨rfl, rfl, FldT.nil⟩
  have h2 : (O1 ++ [(y, Ch.ins C dx [])])[O1.length]? = some (y, Ch.ins C dx []) := by simp
  refine ⟨(z, y, dx), H1, hp, k3.ha, (k3.ow.2 _ (List.mem_of_getElem? h2)).1, by rw [List.append_nil]; exact .cons rfl r1, k3.read h2, fun v H2 Ha2 x2 r2 hn o2 => ⟨r2, q y H2 Ha2 (k1.baseFree hy) (s1.trans x2.k) ⟨dx, ?_⟩⟩⟩
  have k4 := k3.call2 h2 x2 hn o2
  have es' : (O1 ++ [(y, Ch.ins C dx [])]).set O1.length (y, Ch.ins C dx (S.fs z)) = O1 ++ [(y, Ch.ins C dx (S.fs z))] := by
    rw [List.set_append_right _ _ (Nat.le_refl _)]
    simp
  rw [es'] at k4
  exact k4
theorem e_make {ι : Type} {S : SpecI ι} {C : Addr} (z : ι) (D : ClsOk X.prog X.w X.K X.mg X.base k x C (S.sp C)) (hr : Room m X.A) (ha : EA X B G O (e :: es) (S.args z) O1) (hp : S.pre z) (hk : k + 1 ≤ m := by decide) (hg : Gl X x := by rfl)
    (hdb : (x == ("__debug__" : Str)) = false := by decide) (he : starEach (e :: es) X.env = (false, eval e X.env) :: starEach es X.env := by rfl) (hpl : (backTo pos (starEach es X.env)).any (·.1) = false := by rfl) :
    E X B G O (.Call (.Name x p) (e :: es) [] pos) (tIn C (S.fs z)) O1 := Eo.etI (dx := 0) (eo_make z D hr ha hp hk hg hdb he hpl)
/-- an instance that can be read -/
def InOk (R : Ty) (O : Om) (C : Addr) (fs : List (Str × Ty)) : Prop := ∀ (B : Bs) (G : Gm) (σ : L2.St) (H Ha : Hp) (v : V), Sat B G O σ H Ha → R.p v H → ∃ a dx gs, v = .ref a ∧ Ha a = some (.ins C dx gs) ∧ FldT H fs gs
theorem ins {C : Addr} {fs : List (Str × Ty)} : InOk (tIn C fs) O C fs := fun B G σ H Ha v s ⟨a, dx, gs, e, h, k⟩ => ⟨a, dx, gs, e, s.ha _ _ h, k⟩
theorem inso {C dx l : Addr} {fs : List (Str × Ty)} (k : Nat) (h : O[k]? = some (l, .ins C dx fs) := by rfl) : InOk (tRef l) O C fs := fun B G σ H Ha v s e => by
  obtain ⟨o, ho, hc⟩ := s.read h
  obtain ⟨gs, rfl, q⟩ := Ch.ins_inv hc
  exact ⟨l, dx, gs, e, ho, q⟩
theorem e_fld {C : Addr} {fs : List (Str × Ty)} {f : Str} {U : Ty} (h : E X B G O e R O1) (k : InOk R O1 C fs) (hc : Cls X.K C) (hn : NoAttr X.K C f) (hl : fs.lookup f = some U) (hb : attributeBase e f X.env (eval e X.env) = eval e X.env := by rfl) :
    E X B G O (.Attribute e f pos) U O1 :=
  Et.of (pe_fld ew hb) fun σ H Ha s Q q => h σ H Ha s _ fun v H1 Ha1 s1 k1 r1 => by
    obtain ⟨a, dx, gs, rfl, hv, al⟩ := k B G σ H1 Ha1 v k1 r1
    obtain ⟨u, hu, ru⟩ := al.2.1 f U hl
    exact ⟨a, C, dx, gs, u, rfl, hv, hc, hn, hu, q u H1 Ha1 s1 k1 ru⟩

/-! ### ints in lists -/
theorem allT_ints {H : Hp} : ∀ {ns : List Int} {vs : List V}, AllT H (ns.map tI) vs → vs = ns.map V.int
  | [], _, h => h.unnil
  | n :: ns, _, h => by
    obtain ⟨v, vs, rfl, e, r⟩ := AllT.uncons (show AllT H (tI n :: ns.map tI) _ from h)
    rw [allT_ints r, show v = V.int n from e]
    rfl
theorem allT_of {H : Hp} : ∀ (ns : List Int), AllT H (ns.map tI) (ns.map V.int)
  | [] => .nil
  | n :: ns => .cons rfl (allT_of ns)
theorem nats {ns : List Nat} : ns.map tN = (ns.map fun n : Nat => (n : Int)).map tI := by rw [List.map_map]; rfl
theorem flat_ints (ns : List Int) : (ns.map V.int).all flatV = true := by
  rw [List.all_eq_true]
  intro v hv
  obtain ⟨n, _, rfl⟩ := List.mem_map.mp hv
  rfl
theorem inV_ints (x : Int) (ns : List Int) : inV (.int x) (ns.map V.int) = decide (x ∈ ns) := by
  unfold inV
  rw [List.any_map]
  by_cases h : x ∈ ns
  · rw [decide_eq_true h, List.any_eq_true]
    exact ⟨x, h, by show (x == x) = true; simp⟩
  · rw [decide_eq_false h, List.any_eq_false]
    intro y hy
    show ¬ (y == x) = true
    rw [beq_iff_eq]
    exact fun z => h (z ▸ hy)
theorem mem_cast {x : Nat} {ns : List Nat} : ((x : Int) ∈ ns.map fun n : Nat => (n : Int)) ↔ x ∈ ns := by
  rw [List.mem_map]
  constructor
  · rintro ⟨y, hy, e⟩
    have : y = x := by omega
    subst this
    exact hy
  · exact fun h => ⟨x, h, rfl⟩
/-- x in xs, x not in xs (places) -/
theorem t_in {ns : List Nat} (ha : E X B G O a (tN n) O1) (hb : E X B G O1 b R O2) (k : LsOk R O2 (ns.map tN)) (hm : behindInMarks .In b = false := by rfl) : T X B G O (.Compare a [.In] [b] pos) (decide (n ∈ ns)) O2 :=
  t_cmp op_in_seq ha hb (fun σ H Ha v w s r1 r2 Q q => by
    obtain ⟨l, vs, rfl, hv, al⟩ := k B G σ H Ha w s r2
    rw [nats] at al
    have e := allT_ints al
    subst e
    obtain rfl : v = V.int n := r1
    refine ⟨l, _, rfl, .inl (SqL.of hv), rfl, flat_ints _, ?_⟩
    rw [if_neg Bool.false_ne_true, inV_ints, show decide ((n : Int) ∈ ns.map fun n : Nat => (n : Int)) = decide (n ∈ ns) from decide_eq_decide.mpr mem_cast]
    exact q) hm
theorem t_notIn {ns : List Nat} (ha : E X B G O a (tN n) O1) (hb : E X B G O1 b R O2) (k : LsOk R O2 (ns.map tN)) (hm : behindInMarks .NotIn b = false := by rfl) : T X B G O (.Compare a [.NotIn] [b] pos) (!decide (n ∈ ns)) O2 :=
  t_cmp op_notIn_seq ha hb (fun σ H Ha v w s r1 r2 Q q => by
    obtain ⟨l, vs, rfl, hv, al⟩ := k B G σ H Ha w s r2
    rw [nats] at al
    have e := allT_ints al
    subst e
    obtain rfl : v = V.int n := r1
    refine ⟨l, _, rfl, .inl (SqL.of hv), rfl, flat_ints _, ?_⟩
    rw [if_pos rfl, inV_ints, show decide ((n : Int) ∈ ns.map fun n : Nat => (n : Int)) = decide (n ∈ ns) from decide_eq_decide.mpr mem_cast]
    exact q) hm
/-- sum(xs), min(xs) -/
theorem e_sum {ns : List Int} (h : E X B G O e R O1) (k : LsOk R O1 (ns.map tI)) (hc : X.calm = true) (hm : X.mg "sum" = none) (hg : Gl X "sum" := by rfl) (he : starEach [e] X.env = (false, eval e X.env) :: starEach [] X.env := by rfl) (hpl : (backTo pos (starEach [] X.env)).any (·.1) = false := by rfl) :
    E X B G O (.Call (.Name "sum" p) [e] [] pos) (tI ns.sum) O1 :=
  Et.of (pe_callB (cr_sum hc) hg hm (by decide +kernel) (pa_cons ew pa_nil he) (by decide) (by decide) he hpl) fun σ H Ha s Q q => h σ H Ha s _ fun v H1 Ha1 s1 k1 r1 => by
    obtain ⟨a, vs, rfl, hv, al⟩ := k B G σ H1 Ha1 v k1 r1
    have e := allT_ints al
    subst e
    exact ⟨a, ns, rfl, SqL.of hv, q _ H1 Ha1 s1 k1 rfl⟩
theorem e_min {ns : List Int} (h : E X B G O e R O1) (k : LsOk R O1 (ns.map tI)) (hn : 0 < ns.length) (hc : X.calm = true) (hm : X.mg "min" = none) (hg : Gl X "min" := by rfl) (he : starEach [e] X.env = (false, eval e X.env) :: starEach [] X.env := by rfl) (hpl : (backTo pos (starEach [] X.env)).any (·.1) = false := by rfl) :
    E X B G O (.Call (.Name "min" p) [e] [] pos) (tEx (fun m : Int => m ∈ ns ∧ ∀ y, y ∈ ns → m ≤ y) tI) O1 :=
  Et.of (pe_callB (cr_min hc) hg hm (by decide +kernel) (pa_cons ew pa_nil he) (by decide) (by decide) he hpl) fun σ H Ha s Q q => h σ H Ha s _ fun v H1 Ha1 s1 k1 r1 => by
    obtain ⟨a, vs, rfl, hv, al⟩ := k B G σ H1 Ha1 v k1 r1
    have e := allT_ints al
    subst e
    exact ⟨a, ns, rfl, SqL.of hv, hn, fun m h1 h2 => q _ H1 Ha1 s1 k1 ⟨m, ⟨h1, h2⟩, rfl⟩⟩
/-- sorted(xs) -/
theorem eo_sorted {ns : List Int} (h : E X B G O e R O1) (k : LsOk R O1 (ns.map tI)) (hn : ns.length < 64) (hm : X.mg "sorted" = none) (hg : Gl X "sorted" := by rfl) (he : starEach [e] X.env = (false, eval e X.env) :: starEach [] X.env := by rfl) (hpl : (backTo pos (starEach [] X.env)).any (·.1) = false := by rfl) :
    Eo B (EW X (.Call (.Name "sorted" p) [e] [] pos)) (Sat B G O) (fun l σ H Ha => ∃ ns' : List Int, ns'.Perm ns ∧ ns'.Pairwise (· ≤ ·) ∧ Sat B G (O1 ++ [(l, .lst (ns'.map tI))]) σ H Ha) :=
  Eo.of (pe_callB cr_sorted hg hm (by decide +kernel) (pa_cons ew pa_nil he) (by decide) (by decide) he hpl) fun σ H Ha s Q q => h σ H Ha s _ fun v H1 Ha1 s1 k1 r1 => by
    obtain ⟨a, vs, rfl, hv, al⟩ := k B G σ H1 Ha1 v k1 r1
    have e := allT_ints al
    subst e
    exact ⟨a, ns, rfl, SqL.of hv, hn, fun ns' l h1 h2 hl => q l H1 _ (k1.baseFree hl) s1 ⟨ns', h1, h2, k1.own hl (allT_of ns')⟩⟩
/-- int(n) -/
theorem e_intOf (h : E X B G O e (tI i) O1) (hm : X.mg "int" = none) (hg : Gl X "int" := by rfl) (he : starEach [e] X.env = (false, eval e X.env) :: starEach [] X.env := by rfl) (hpl : (backTo pos (starEach [] X.env)).any (·.1) = false := by rfl) :
    E X B G O (.Call (.Name "int" p) [e] [] pos) (tI i) O1 :=
  Et.of (pe_callTy call_int1 hg hm (by decide +kernel) (pa_cons ew pa_nil he) (by decide) (by decide) he hpl) fun σ H Ha s Q q => h σ H Ha s _ fun v H1 Ha1 s1 k1 r1 =>
    .inl ⟨i, by rw [show v = V.int i from r1], q _ H1 Ha1 s1 k1 rfl⟩
/-- xs.index(x): x stands there; its first place -/
theorem e_index {ns : List Nat} {apos : Pos} (ho : E X B G O a R O1) (ha : E X B G O1 b (tN n) O2) (k1 : LsOk R O1 (ns.map tN)) (k2 : LsOk R O2 (ns.map tN)) (hn : n ∈ ns)
    (hbase : attributeBase a "index" X.env (eval a X.env) = eval a X.env := by rfl)
    (hfew : ((backTo pos (starEach [b] X.env)).all (fun x => !x.1) && (backToKw pos (keywordEach [] X.env)).all (fun x => x.1.isSome)
      && decide (([b] : List Expr).length + ([] : List Keyword).length + (if ([] : List Keyword).isEmpty then 0 else 1) < 30)) = true := by rfl)
    (hline : (apos.endLine == pos.line) = true := by rfl) (hs : starEach [b] X.env = (false, eval b X.env) :: starEach [] X.env := by rfl) (hplain : (backTo pos (starEach [] X.env)).any (·.1) = false := by rfl) :
    E X B G O (.Call (.Attribute a "index" apos) [b] [] pos) (tN (ns.idxOf n)) O2 :=
  Et.of (pe_bm PySem.F.plainAttrs_list PySem.F.slot_list_index PySem.F.type_list_index mt_index ew (pa_cons ew pa_nil hs) hbase hfew hline hs hplain) fun σ H Ha s Q q => ho σ H Ha s _ fun v H1 Ha1 s1 z1 r1 => by
    obtain ⟨l, vs, rfl, hv, al⟩ := k1 B G σ H1 Ha1 v z1 r1
    refine ⟨.inl ⟨rfl, _, SqL.of hv⟩, ha σ H1 Ha1 z1 _ fun w H2 Ha2 s2 z2 r2 => ?_⟩
    obtain ⟨l', vs', e', hv', al'⟩ := k2 B G σ H2 Ha2 (.ref l) z2 (R.mono s2 r1)
    cases e'
    rw [nats] at al'
    have e := allT_ints al'
    subst e
    obtain rfl : w = V.int n := r2
    have hi : ns.idxOf n < ns.length := List.idxOf_lt_length_of_mem hn
    have hg : ns[ns.idxOf n]? = some n := by
      rw [List.getElem?_eq_getElem hi]
      exact congrArg some (List.getElem_idxOf hi)
    refine ⟨l, _, V.int n, ns.idxOf n, V.int n, rfl, rfl, SqL.of hv', rfl, flat_ints _, ?_, ?_, ?_, q _ H2 Ha2 (s1.trans s2) z2 rfl⟩
    · rw [List.map_map, List.getElem?_map, hg]
      rfl
    · show ((n : Int) == (n : Int)) = true
      simp
    · intro m' z' hm' hz'
      rw [List.map_map, List.getElem?_map] at hz'
      cases e : ns[m']? with
      | none => rw [e] at hz'; cases hz'
      | some y =>
        rw [e] at hz'
        cases hz'
        show ((y : Int) == (n : Int)) = false
        rw [beq_eq_false_iff_ne]
        intro e2
        have e3 : y = n := by omega
        subst e3
        have : ns.idxOf y ≤ m' := by
          obtain ⟨h1, h2⟩ := List.getElem?_eq_some_iff.mp e
          have h3 := List.not_of_lt_findIdx (p := (· == y)) (xs := ns) (i := m') hm'
          simp [h2] at h3
        omega
end
end Vc
set_option maxHeartbeats 4000000
/-! VcComp: list comprehensions -/
namespace Vc
open PySem PySem.Spec L2

def EWb (X : Cx) (scope : Scope) (e : Expr) : TE := fun σ H Q => ∀ (s0 : Shared) (H0 : Hp) (C : Addr) (cl : List (Str × Addr)) (fp : List Addr), EW (X.blk s0 H0 scope (compEnvC scope cl C X.env) fp) e σ H Q
def TWb (X : Cx) (scope : Scope) (e : Expr) : TT := fun σ H Q => ∀ (s0 : Shared) (H0 : Hp) (C : Addr) (cl : List (Str × Addr)) (fp : List Addr), TW (X.blk s0 H0 scope (compEnvC scope cl C X.env) fp) e σ H Q
section
variable {X : Cx} {scope : Scope} {e : Expr} {A A' : As} {R : Ty}
theorem ewb (s0 : Shared) (H0 : Hp) (C : Addr) (cl : List (Str × Addr)) (fp : List Addr) : PE (X.blk s0 H0 scope (compEnvC scope cl C X.env) fp) e (EWb X scope e) := ⟨fun pins s σ H Q I h => h s0 H0 C cl fp pins s I⟩
theorem twb (s0 : Shared) (H0 : Hp) (C : Addr) (cl : List (Str × Addr)) (fp : List Addr) : PT (X.blk s0 H0 scope (compEnvC scope cl C X.env) fp) e (TWb X scope e) := ⟨fun pins s σ H Q I h => h s0 H0 C cl fp pins s I⟩
theorem Et.blk (h : ∀ (s0 : Shared) (H0 : Hp) (C : Addr) (cl : List (Str × Addr)) (fp : List Addr), Et (EW (X.blk s0 H0 scope (compEnvC scope cl C X.env) fp) e) A R A') : Et (EWb X scope e) A R A' := fun σ H Ha a Q q s0 H0 C cl fp => h s0 H0 C cl fp σ H Ha a Q q
theorem Tt.blk {b : Bool} (h : ∀ (s0 : Shared) (H0 : Hp) (C : Addr) (cl : List (Str × Addr)) (fp : List Addr), Tt (TW (X.blk s0 H0 scope (compEnvC scope cl C X.env) fp) e) A b A') : Tt (TWb X scope e) A b A' := fun σ H Ha a Q q s0 H0 C cl fp => h s0 H0 C cl fp σ H Ha a Q q
theorem Tt.yes : Tt tYes A true A := fun σ H Ha a Q q => q H Ha (.refl _) a
end
/-- the types that the turns give -/
def coll (b : Nat → Bool) (U : Nat → Ty) (n : Nat) : List Ty := ((List.range n).filter b).map U
theorem coll_succ (b : Nat → Bool) (U : Nat → Ty) (n : Nat) : coll b U (n + 1) = coll b U n ++ (if b n = true then [U n] else []) := by
  unfold coll
  rw [List.range_succ, List.filter_append, List.map_append]
  cases h : b n with
  | true => simp [h]
  | false => simp [h]
theorem coll_len (b : Nat → Bool) (U : Nat → Ty) (n : Nat) : (coll b U n).length ≤ n := by
  unfold coll
  rw [List.length_map]
  exact Nat.le_trans (List.length_filter_le _ _) (by rw [List.length_range]; exact Nat.le_refl n)
section
variable {B1 : Bs} {G G2 : Gm} {O' O1 O2 : Om} {σ σ2 : L2.St} {H Ha : Hp} {D : Addr} {us : List Ty} {U : Ty} {b : Bool} {tt : TT} {te : TE}
theorem lc_turn (s : Sat B1 G (O' ++ [(D, .lst us)]) σ H Ha) (sl : Slots H G2 σ2) (hz : us.length < 10000)
    (ht : Tt tt (Sat B1 G2 (O' ++ [(D, .lst us)])) b (Sat B1 G2 (O1 ++ [(D, .lst us)])))
    (he : b = true → Et te (Sat B1 G2 (O1 ++ [(D, .lst us)])) U (Sat B1 G2 (O2 ++ [(D, .lst us)]))) (hn : b = false → O2 = O1) :
    tt σ2 Ha fun c H3 => if c = true then te σ2 H3 fun y H4 => ∃ acc, H4 D = some (.lst acc) ∧ acc.length < sizeLine ∧ (∃ H', Sat B1 G (O2 ++ [(D, .lst (us ++ if b = true then [U] else []))]) σ H' (upd H4 D (.lst (acc ++ [y]))))
      else ∃ H', Sat B1 G (O2 ++ [(D, .lst (us ++ if b = true then [U] else []))]) σ H' H3 := by
  refine ht σ2 H Ha (s.slots sl) _ fun H3 Ha3 s3 k3 => ?_
  cases b with
  | false =>
    refine iteF ⟨H3, ?_⟩
    rw [if_neg Bool.false_ne_true, List.append_nil, hn rfl]
    exact k3.slots (s.sl.mono s3)
  | true =>
    refine iteT (he rfl σ2 H3 Ha3 k3 _ fun y H4 Ha4 s4 k4 r4 => ?_)
    have hk : (O2 ++ [(D, Ch.lst us)])[O2.length]? = some (D, .lst us) := by simp
    obtain ⟨o, ho, hc⟩ := k4.read hk
    obtain ⟨acc, rfl, al⟩ := Ch.lst_inv hc
    refine ⟨acc, ho, ?_, H4, ?_⟩
    · rw [← al.1, sizeLine_eq]
      omega
    · have w := k4.write (c' := .lst (us ++ [U])) (o' := .lst (acc ++ [y])) hk (al.append (.one r4))
      rw [List.set_append_right _ _ (Nat.le_refl _)] at w
      rw [if_pos rfl]
      have e : [(D, Ch.lst us)].set (O2.length - O2.length) (D, .lst (us ++ [U])) = [(D, .lst (us ++ [U]))] := by simp
      rw [e] at w
      exact w.slots (s.sl.mono (s3.trans s4))
end
theorem wipe1 (σ : L2.St) (j : Nat) : wipe σ [j] = σ.set j none := rfl
theorem wipe1' (σ : L2.St) (j : Nat) (x : V) : wipe ((wipe σ [j]).set j (some x)) [j] = wipe σ [j] := by
  rw [wipe1, wipe1, List.set_set, List.set_set]
theorem slots1 {H : Hp} {G : Gm} {σ : L2.St} {T : Ty} {x : V} (h : Slots H G σ) (j : Nat) (hp : T.p x H) : Slots H (G.set j (some T)) ((wipe σ [j]).set j (some x)) := by
  have q := (h.wipe j).set j hp
  rw [List.set_set] at q
  exact q
theorem wipe2 (σ : L2.St) (i j : Nat) : wipe σ [i, j] = (σ.set j none).set i none := rfl
theorem wipe2' (σ : L2.St) {i j : Nat} (hij : i ≠ j) (x y : V) : wipe (((wipe σ [i, j]).set i (some x)).set j (some y)) [i, j] = wipe σ [i, j] := by
  rw [wipe2, wipe2, List.set_set, List.set_set, List.set_comm _ _ hij, List.set_set, List.set_set]
theorem slots2 {H : Hp} {G : Gm} {σ : L2.St} {T U : Ty} {x y : V} (h : Slots H G σ) {i j : Nat} (hij : i ≠ j) (hp : T.p x H) (hq : U.p y H) : Slots H ((G.set i (some T)).set j (some U)) (((wipe σ [i, j]).set i (some x)).set j (some y)) := by
  have q := (((h.wipe j).wipe i).set i hp).set j hq
  have e : (((G.set j none).set i none).set i (some T)).set j (some U) = (G.set i (some T)).set j (some U) := by
    rw [List.set_set, List.set_comm _ _ hij, List.set_set, List.set_comm _ _ (Ne.symm hij)]
  rw [e] at q
  exact q
/-- over a zip of two lists that the block leaves as they are -/
theorem lc_zip {K : PySem.W.Frag} {a b : Addr} {xs ys : List V} {g : TG} {tt : TT} {te : TE} {vs : List Nat} {σ : L2.St} {H1 : Hp} {D : Addr} {Qd : Hp → Prop} (hl : xs.length = ys.length) (Pv : Nat → Hp → Prop) (h0 : Pv 0 (upd H1 D (.lst []))) (hq : ∀ i H, Pv i H → SqL K H a xs ∧ SqL K H b ys)
    (hs : ∀ (i : Nat) (x y : V) (T : Addr) (H : Hp), xs[i]? = some x → ys[i]? = some y → Pv i H → H T = none → g (.ref T) (wipe σ vs) (upd H T (.tup [x, y])) fun σ2 H2 => wipe σ2 vs = wipe σ vs ∧ tt σ2 H2 fun c H3 =>
      if c = true then te σ2 H3 fun y H4 => ∃ acc, H4 D = some (.lst acc) ∧ acc.length < sizeLine ∧ Pv (i + 1) (upd H4 D (.lst (acc ++ [y]))) else Pv (i + 1) H3) (hd : ∀ H, Pv xs.length H → Qd H) :
    ∃ W : Nat → Nat → Hp → Prop, (∃ m, W 0 m (upd H1 D (.lst []))) ∧ ∀ i m H, W i m H →
      ((Itz K a b).stop i H ∧ Qd H) ∨ ((Itz K a b).go i H ∧ ∃ Nx : Hp → Prop, (∀ H', Nx H' → ∃ m', m' < m ∧ W (i + 1) m' H') ∧ ∀ x H', (Itz K a b).yld i H x H' → g x (wipe σ vs) H' fun σ2 H2 => wipe σ2 vs = wipe σ vs ∧ tt σ2 H2 fun c H3 =>
        if c = true then te σ2 H3 fun y H4 => ∃ acc, H4 D = some (.lst acc) ∧ acc.length < sizeLine ∧ Nx (upd H4 D (.lst (acc ++ [y]))) else Nx H3) := by
  refine ⟨fun i m H => m = xs.length - i ∧ i ≤ xs.length ∧ Pv i H, ⟨xs.length, rfl, Nat.zero_le _, h0⟩, ?_⟩
  rintro i m H ⟨rfl, hi, pp⟩
  obtain ⟨qx, qy⟩ := hq i H pp
  by_cases hlt : i < xs.length
  · have hx : xs[i]? = some xs[i] := List.getElem?_eq_getElem hlt
    have hlt2 : i < ys.length := by omega
    have hy : ys[i]? = some ys[i] := List.getElem?_eq_getElem hlt2
    refine .inr ⟨⟨xs, ys, _, _, qx, qy, hx, hy⟩, Pv (i + 1), fun H' p' => ⟨xs.length - (i + 1), by omega, rfl, hlt, p'⟩, fun v H' yy => ?_⟩
    obtain ⟨T, x', y', rfl, hT, rfl, f1, f2⟩ := yy
    exact hs i x' y' T H (f1 xs qx) (f2 ys qy) pp hT
  · have e : i = xs.length := by omega
    subst e
    exact .inl ⟨⟨xs, ys, qx, qy, Or.inl (Nat.le_refl _)⟩, hd H pp⟩
section
variable {X : Cx} {B : Bs} {G : Gm} {O : Om} {Oi Oi' : Nat → Om} {b : Nat → Bool} {U : Nat → Ty} {tt : TT} {te : TE} {j : Nat}
/-- over a known list -/
theorem eo_lcL {tl : TE} {ts : List Ty} (hit : Et tl (Sat B G O) (tL ts) (Sat B G (Oi 0))) (hz : ts.length < 9000)
    (ht : ∀ H1 i T, ts[i]? = some T → ∀ q, Tt tt (Sat (B.at H1) (G.set j (some T)) (Oi i ++ [q])) (b i) (Sat (B.at H1) (G.set j (some T)) (Oi' i ++ [q])))
    (he : ∀ H1 i T, ts[i]? = some T → b i = true → ∀ q, Et te (Sat (B.at H1) (G.set j (some T)) (Oi' i ++ [q])) (U i) (Sat (B.at H1) (G.set j (some T)) (Oi (i + 1) ++ [q])))
    (hn : ∀ i, b i = false → Oi (i + 1) = Oi' i) : Eo B (tLc (iList X.K tl) (gName j) tt te [j]) (Sat B G O) (fun l => Sat B G (Oi ts.length ++ [(l, .lst (coll b U ts.length))])) :=
  fun σ H Ha s Q q => hit σ H Ha s _ fun v H1 Ha1 s1 k1 r1 => by
    obtain ⟨a, vs, rfl, hv, al⟩ := r1
    refine ⟨a, rfl, ⟨vs, SqL.of (k1.ha _ _ hv)⟩, fun D hD => ?_⟩
    have hb := k1.baseFree hD
    refine lc_list (xs := vs) (fun i Hx => ∃ H', Sat (B.at H1) G (Oi i ++ [(D, .lst (coll b U i))]) σ H' Hx) ⟨H1, (k1.at.own hD (c := .lst []) (o := .lst []) AllT.nil)⟩ (fun i Hx _ ⟨H', s'⟩ => SqL.of (s'.ha _ _ (s'.sn _ _ hv))) (fun i x Hx hx ⟨H', s'⟩ => ?_) (fun Hx ⟨H', s'⟩ => ?_)
    · have hi : i < ts.length := by rw [al.1]; exact (List.getElem?_eq_some_iff.mp hx).1
      have hT : ts[i]? = some ts[i] := List.getElem?_eq_getElem hi
      have hp : (ts[i]).p x H' := (ts[i]).mono s'.sn (al.2 i _ x hT hx)
      refine ⟨wipe1' σ j x, ?_⟩
      have t := lc_turn (G2 := G.set j (some ts[i])) (σ2 := (wipe σ [j]).set j (some x)) (U := U i) (b := b i) (O1 := Oi' i) (O2 := Oi (i + 1)) s' (slots1 s'.sl j hp) (by have := coll_len b U i; omega) (ht H1 i _ hT _) (fun hb => he H1 i _ hT hb _) (hn i)
      rw [← coll_succ] at t
      exact t
    · refine q D H' Hx hb (s1.trans s'.sn) ?_
      rw [al.1]
      exact s'.unat k1.sn
/-- over range(n) -/
theorem eo_lcR {ta : TA} {n : Nat} (hit : At ta (Sat B G O) [tN n] (Sat B G (Oi 0))) (hz : n < 9000)
    (ht : ∀ H1 i, i < n → ∀ q, Tt tt (Sat (B.at H1) (G.set j (some (tN i))) (Oi i ++ [q])) (b i) (Sat (B.at H1) (G.set j (some (tN i))) (Oi' i ++ [q])))
    (he : ∀ H1 i, i < n → b i = true → ∀ q, Et te (Sat (B.at H1) (G.set j (some (tN i))) (Oi' i ++ [q])) (U i) (Sat (B.at H1) (G.set j (some (tN i))) (Oi (i + 1) ++ [q])))
    (hn : ∀ i, b i = false → Oi (i + 1) = Oi' i) : Eo B (tLc (iRng1 ta) (gName j) tt te [j]) (Sat B G O) (fun l => Sat B G (Oi n ++ [(l, .lst (coll b U n))])) :=
  fun σ H Ha s Q q => hit σ H Ha s _ fun vs H1 Ha1 s1 k1 r1 => by
    obtain ⟨v, vs', rfl, hv, r2⟩ := r1.uncons
    obtain rfl := r2.unnil
    obtain rfl : v = V.int n := hv
    refine ⟨(n : Int), rfl, by omega, by omega, fun D hD => ?_⟩
    have hb := k1.baseFree hD
    have e0 : ((n : Int)).toNat = n := by omega
    rw [e0]
    refine lc_range (lo := 0) (n := n) (fun i Hx => ∃ H', Sat (B.at H1) G (Oi i ++ [(D, .lst (coll b U i))]) σ H' Hx) ⟨H1, (k1.at.own hD (c := .lst []) (o := .lst []) AllT.nil)⟩ (fun i Hx hi ⟨H', s'⟩ => ?_) (fun Hx ⟨H', s'⟩ => ?_)
    · have e1 : (0 : Int) + (i : Int) = (i : Int) := Int.zero_add _
      rw [e1]
      refine ⟨wipe1' σ j _, ?_⟩
      have t := lc_turn (G2 := G.set j (some (tN i))) (σ2 := (wipe σ [j]).set j (some (V.int i))) (U := U i) (b := b i) (O1 := Oi' i) (O2 := Oi (i + 1)) s' (slots1 s'.sl j rfl) (by have := coll_len b U i; omega) (ht H1 i hi _) (fun hb => he H1 i hi hb _) (hn i)
      rw [← coll_succ] at t
      exact t
    · exact q D H' Hx hb (s1.trans s'.sn) (s'.unat k1.sn)
/-- over zip(xs, ys), of one length -/
theorem eo_lcZ {ta : TA} {ts us : List Ty} {i1 j1 : Nat} (hij : i1 ≠ j1) (hlen : ts.length = us.length) (hit : At ta (Sat B G O) [tL ts, tL us] (Sat B G (Oi 0))) (hz : ts.length < 9000)
    (ht : ∀ H1 i T T', ts[i]? = some T → us[i]? = some T' → ∀ q, Tt tt (Sat (B.at H1) ((G.set i1 (some T)).set j1 (some T')) (Oi i ++ [q])) (b i) (Sat (B.at H1) ((G.set i1 (some T)).set j1 (some T')) (Oi' i ++ [q])))
    (he : ∀ H1 i T T', ts[i]? = some T → us[i]? = some T' → b i = true → ∀ q, Et te (Sat (B.at H1) ((G.set i1 (some T)).set j1 (some T')) (Oi' i ++ [q])) (U i) (Sat (B.at H1) ((G.set i1 (some T)).set j1 (some T')) (Oi (i + 1) ++ [q])))
    (hn : ∀ i, b i = false → Oi (i + 1) = Oi' i) : Eo B (tLc (iZip X.K ta) (gTup X.K 2 (gCons (gName i1) (gCons (gName j1) gNil))) tt te [i1, j1]) (Sat B G O) (fun l => Sat B G (Oi ts.length ++ [(l, .lst (coll b U ts.length))])) :=
  fun σ H Ha s Q q => hit σ H Ha s _ fun vs H1 Ha1 s1 k1 r1 => by
    obtain ⟨v1, vs1, rfl, ⟨a1, xs, rfl, hxs, al⟩, r2⟩ := r1.uncons
    obtain ⟨v2, vs2, rfl, ⟨a2, ys, rfl, hys, bl⟩, r3⟩ := r2.uncons
    obtain rfl := r3.unnil
    refine ⟨a1, a2, xs, ys, rfl, SqL.of (k1.ha _ _ hxs), SqL.of (k1.ha _ _ hys), fun D hD => ?_⟩
    have hb := k1.baseFree hD
    refine lc_zip (xs := xs) (ys := ys) (by rw [← al.1, ← bl.1, hlen]) (fun i Hx => ∃ H', Sat (B.at H1) G (Oi i ++ [(D, .lst (coll b U i))]) σ H' Hx) ⟨H1, (k1.at.own hD (c := .lst []) (o := .lst []) AllT.nil)⟩ (fun i Hx ⟨H', s'⟩ => ⟨SqL.of (s'.ha _ _ (s'.sn _ _ hxs)), SqL.of (s'.ha _ _ (s'.sn _ _ hys))⟩) (fun i x y T Hx hx hy ⟨H', s'⟩ hT => ?_) (fun Hx ⟨H', s'⟩ => ?_)
    · have hi : i < ts.length := by rw [al.1]; exact (List.getElem?_eq_some_iff.mp hx).1
      have h1 : ts[i]? = some ts[i] := List.getElem?_eq_getElem hi
      have hi2 : i < us.length := by omega
      have h2 : us[i]? = some us[i] := List.getElem?_eq_getElem hi2
      have s2 := s'.step (Stp.grow (o := .tup [x, y]) s'.ha hT)
      have p1 : (ts[i]).p x H' := (ts[i]).mono s'.sn (al.2 i _ x h1 hx)
      have p2 : (us[i]).p y H' := (us[i]).mono s'.sn (bl.2 i _ y h2 hy)
      refine ⟨T, [x, y], rfl, SqT.of upd_same, rfl, x, [y], rfl, y, [], rfl, rfl, wipe2' σ hij x y, ?_⟩
      have t := lc_turn (G2 := (G.set i1 (some ts[i])).set j1 (some us[i])) (σ2 := ((wipe σ [i1, j1]).set i1 (some x)).set j1 (some y)) (U := U i) (b := b i) (O1 := Oi' i) (O2 := Oi (i + 1)) s2 (slots2 s2.sl hij p1 p2) (by have := coll_len b U i; omega) (ht H1 i _ _ h1 h2 _) (fun hb => he H1 i _ _ h1 h2 hb _) (hn i)
      rw [← coll_succ] at t
      exact t
    · refine q D H' Hx hb (s1.trans s'.sn) ?_
      rw [al.1]
      exact s'.unat k1.sn
end
end Vc
set_option maxHeartbeats 4000000
/-! VcLc: the shapes of comprehensions that the program has -/
namespace Vc
open PySem PySem.Spec L2

/-- a comprehension that gives a new list -/
structure Lc (X : Cx) (B : Bs) (G : Gm) (O : Om) (elt : Expr) (gens : List Comprehension) (scope : Scope) (O' : Addr → Om) : Prop where
  ex : ∃ t : TE, (∀ pos, PE X (.ListComp elt gens scope pos) t) ∧
    (∀ (i : Nat) (y : Str) (py pos spos : Pos), X.N[i]? = some y → X.env.scope.names.lookup y = some .local → swapsWith (.ListComp elt gens scope pos) (some (.Name y py)) spos.line X.env = pure true →
      PS X (.Assign [.Name y py] (.ListComp elt gens scope pos) spos) (tAsg t (gName i))) ∧
    Eo B t (Sat B G O) (fun l => Sat B G (O' l))
section
variable {X : Cx} {B : Bs} {G : Gm} {O : Om} {elt : Expr} {gens : List Comprehension} {scope : Scope} {O' : Addr → Om}
theorem Lc.eo {pos : Pos} (h : Lc X B G O elt gens scope O') : EO X B G O (.ListComp elt gens scope pos) O' := by
  obtain ⟨t, h1, _, h3⟩ := h.ex
  exact Eo.of (h1 pos) h3
theorem Lc.e {pos : Pos} {O1 : Om} {ts : List Ty} (h : Lc X B G O elt gens scope (fun l => O1 ++ [(l, .lst ts)])) : E X B G O (.ListComp elt gens scope pos) (tL ts) O1 := Eo.et h.eo
end
section
variable {X : Cx} {B : Bs} {G : Gm} {O : Om} {elt iter c : Expr} {scope : Scope} {x y : Str} {tp tp2 : Pos} {j i1 j1 : Nat} {N : List Str} {sc : Scope}
/-- what is to be checked of a block with one name -/
structure Blk (X : Cx) (scope : Scope) (own : List (Str × Nat)) : Prop where
  c : X.calm = true
  n : X.N.Nodup
  ok : BlkOk X.N X.env.scope scope own
  loc : ∀ q ∈ own, scope.names.lookup q.1 = some .local ∨ scope.names.lookup q.1 = some .cell
def locB (scope : Scope) (own : List (Str × Nat)) : Bool := own.all fun q => decide (scope.names.lookup q.1 = some .local) || decide (scope.names.lookup q.1 = some .cell)
theorem Blk.mk' {own : List (Str × Nat)} (N : List Str) (sc : Scope) (hc : X.calm = true) (hn : X.N.Nodup) (h : (blkC N sc scope own && locB scope own) = true) (eN : X.N = N := by rfl) (eS : X.env.scope = sc := by rfl) : Blk X scope own := by
  subst eN eS
  obtain ⟨h1, h2⟩ := Bool.and_eq_true_iff.mp h
  refine ⟨hc, hn, blkOk_by h1, fun q hq => ?_⟩
  have h3 := List.all_eq_true.mp h2 q hq
  rcases Bool.or_eq_true_iff.mp h3 with h4 | h4
  · exact .inl (of_decide_eq_true h4)
  · exact .inr (of_decide_eq_true h4)
theorem relS_own {sc0 : Scope} {k : NameKind} (h : scope.names.lookup x = some k) (hk : k ≠ .free) : (relS scope sc0).names.lookup x = some k := lookup_relS_keep hk h
theorem Blk.pg {own : List (Str × Nat)} (b : Blk X scope own) {k : Nat} (hq : own[k]? = some (x, j)) (s : Shared) (H : Hp) (C : Addr) (cl : List (Str × Addr)) (fp : List Addr) : PG (X.blk s H scope (compEnvC scope cl C X.env) fp) (.Name x tp) (gName j) := by
  have hm := List.mem_of_getElem? hq
  have hi := b.ok.ix _ hm
  rcases b.loc _ hm with h | h
  · exact pg_name b.n hi (.inl (relS_own h (by decide))) (.inr (relS_own h (by decide)))
  · exact pg_name b.n hi (.inr (relS_own h (by decide))) (.inl (by show (scope.names.lookup x == some NameKind.cell) = true; rw [show scope.names.lookup x = some NameKind.cell from h]; rfl))
theorem Blk.pg2 (b : Blk X scope [(x, i1), (y, j1)]) {kk : Nat} {pos : Pos} (s : Shared) (H : Hp) (C : Addr) (cl : List (Str × Addr)) (fp : List Addr) : PG (X.blk s H scope (compEnvC scope cl C X.env) fp) (.Tuple [.Name x tp, .Name y tp2] kk pos) (gTup X.K 2 (gCons (gName i1) (gCons (gName j1) gNil))) := by
  have h1 := b.pg (tp := tp) (k := 0) rfl s H C cl fp
  have h2 := b.pg (tp := tp2) (k := 1) rfl s H C cl fp
  exact pg_tup b.c (pgs_cons h1 (pgs_cons h2 pgs_nil))
variable {Oi Oi' : Nat → Om} {b : Nat → Bool} {U : Nat → Ty}
/-- over a list; all that can change may change -/
theorem lcL {ts : List Ty} (bk : Blk X scope [(x, j)]) (hs : ∀ z, foldedSetIterable iter X.env z = pure z) (hit : E X B G O iter (tL ts) (Oi 0)) (hz : ts.length < 9000)
    (he : ∀ H1 i T, ts[i]? = some T → ∀ q s0 H0 C cl fp, E (X.blk s0 H0 scope (compEnvC scope cl C X.env) fp) (B.at H1) (G.set j (some T)) (Oi i ++ [q]) elt (U i) (Oi (i + 1) ++ [q])) :
    Lc X B G O elt [⟨.Name x tp, iter, [], 0⟩] scope (fun l => Oi ts.length ++ [(l, .lst (coll (fun _ => true) U ts.length))]) :=
  ⟨_, fun pos => pe_lc (own := [(x, j)]) bk.c bk.n (pi_list ew) bk.ok (bk.pg (k := 0) rfl) (fun _ _ _ _ _ => pts_nil) ewb hs,
    fun i y py pos spos h1 h2 h3 => ps_setLc (own := [(x, j)]) bk.c bk.n h1 h2 h3 (pi_list ew) bk.ok (bk.pg (k := 0) rfl) (fun _ _ _ _ _ => pts_nil) ewb hs,
    eo_lcL (Oi' := Oi) hit hz (fun H1 i T hT q => Tt.yes) (fun H1 i T hT _ q => Et.blk (he H1 i T hT q)) (fun i h => nomatch h)⟩
theorem lcLt {ts : List Ty} (bk : Blk X scope [(x, j)]) (hs : ∀ z, foldedSetIterable iter X.env z = pure z) (hit : E X B G O iter (tL ts) (Oi 0)) (hz : ts.length < 9000)
    (ht : ∀ H1 i Ti, ts[i]? = some Ti → ∀ q s0 H0 C cl fp, T (X.blk s0 H0 scope (compEnvC scope cl C X.env) fp) (B.at H1) (G.set j (some Ti)) (Oi i ++ [q]) c (b i) (Oi' i ++ [q]))
    (he : ∀ H1 i T, ts[i]? = some T → b i = true → ∀ q s0 H0 C cl fp, E (X.blk s0 H0 scope (compEnvC scope cl C X.env) fp) (B.at H1) (G.set j (some T)) (Oi' i ++ [q]) elt (U i) (Oi (i + 1) ++ [q]))
    (hn : ∀ i, b i = false → Oi (i + 1) = Oi' i) :
    Lc X B G O elt [⟨.Name x tp, iter, [c], 0⟩] scope (fun l => Oi ts.length ++ [(l, .lst (coll b U ts.length))]) :=
  ⟨_, fun pos => pe_lc (own := [(x, j)]) bk.c bk.n (pi_list ew) bk.ok (bk.pg (k := 0) rfl) (fun s H C cl fp => pts_one (twb s H C cl fp)) ewb hs,
    fun i y py pos spos h1 h2 h3 => ps_setLc (own := [(x, j)]) bk.c bk.n h1 h2 h3 (pi_list ew) bk.ok (bk.pg (k := 0) rfl) (fun s H C cl fp => pts_one (twb s H C cl fp)) ewb hs,
    eo_lcL hit hz (fun H1 i T hT q => Tt.blk (ht H1 i T hT q)) (fun H1 i T hT hb q => Et.blk (he H1 i T hT hb q)) hn⟩
/-- over range(n) -/
theorem lcR {n : Nat} {rp rpos : Pos} {a : Expr} (bk : Blk X scope [(x, j)]) (hit : E X B G O a (tN n) (Oi 0)) (hz : n < 9000) (hm : X.mg "range" = none)
    (he : ∀ H1 i, i < n → ∀ q s0 H0 C cl fp, E (X.blk s0 H0 scope (compEnvC scope cl C X.env) fp) (B.at H1) (G.set j (some (tN i))) (Oi i ++ [q]) elt (U i) (Oi (i + 1) ++ [q])) (hg : Gl X "range" := by rfl)
    (hst : starEach [a] X.env = [(false, eval a X.env)] := by rfl) (hs : ∀ z, foldedSetIterable (.Call (.Name "range" rp) [a] [] rpos) X.env z = pure z := by intro _; rfl) :
    Lc X B G O elt [⟨.Name x tp, .Call (.Name "range" rp) [a] [] rpos, [], 0⟩] scope (fun l => Oi n ++ [(l, .lst (coll (fun _ => true) U n))]) :=
  ⟨_, fun pos => pe_lc (own := [(x, j)]) bk.c bk.n (pi_range1 hg hm aw hst) bk.ok (bk.pg (k := 0) rfl) (fun _ _ _ _ _ => pts_nil) ewb hs,
    fun i y py pos spos h1 h2 h3 => ps_setLc (own := [(x, j)]) bk.c bk.n h1 h2 h3 (pi_range1 hg hm aw hst) bk.ok (bk.pg (k := 0) rfl) (fun _ _ _ _ _ => pts_nil) ewb hs,
    eo_lcR (Oi' := Oi) (ea_cons hit ea_nil hst) hz (fun H1 i hi q => Tt.yes) (fun H1 i hi _ q => Et.blk (he H1 i hi q)) (fun i h => nomatch h)⟩
theorem lcRt {n : Nat} {rp rpos : Pos} {a : Expr} (bk : Blk X scope [(x, j)]) (hit : E X B G O a (tN n) (Oi 0)) (hz : n < 9000) (hm : X.mg "range" = none)
    (ht : ∀ H1 i, i < n → ∀ q s0 H0 C cl fp, T (X.blk s0 H0 scope (compEnvC scope cl C X.env) fp) (B.at H1) (G.set j (some (tN i))) (Oi i ++ [q]) c (b i) (Oi' i ++ [q]))
    (he : ∀ H1 i, i < n → b i = true → ∀ q s0 H0 C cl fp, E (X.blk s0 H0 scope (compEnvC scope cl C X.env) fp) (B.at H1) (G.set j (some (tN i))) (Oi' i ++ [q]) elt (U i) (Oi (i + 1) ++ [q]))
    (hn : ∀ i, b i = false → Oi (i + 1) = Oi' i) (hg : Gl X "range" := by rfl)
    (hst : starEach [a] X.env = [(false, eval a X.env)] := by rfl) (hs : ∀ z, foldedSetIterable (.Call (.Name "range" rp) [a] [] rpos) X.env z = pure z := by intro _; rfl) :
    Lc X B G O elt [⟨.Name x tp, .Call (.Name "range" rp) [a] [] rpos, [c], 0⟩] scope (fun l => Oi n ++ [(l, .lst (coll b U n))]) :=
  ⟨_, fun pos => pe_lc (own := [(x, j)]) bk.c bk.n (pi_range1 hg hm aw hst) bk.ok (bk.pg (k := 0) rfl) (fun s H C cl fp => pts_one (twb s H C cl fp)) ewb hs,
    fun i y py pos spos h1 h2 h3 => ps_setLc (own := [(x, j)]) bk.c bk.n h1 h2 h3 (pi_range1 hg hm aw hst) bk.ok (bk.pg (k := 0) rfl) (fun s H C cl fp => pts_one (twb s H C cl fp)) ewb hs,
    eo_lcR (ea_cons hit ea_nil hst) hz (fun H1 i hi q => Tt.blk (ht H1 i hi q)) (fun H1 i hi hb q => Et.blk (he H1 i hi hb q)) hn⟩
/-- over zip(xs, ys) -/
theorem lcZ {ts us : List Ty} {zp zpos : Pos} {kk : Nat} {a a2 : Expr} {O1 : Om} (bk : Blk X scope [(x, i1), (y, j1)]) (hij : i1 ≠ j1) (hlen : ts.length = us.length) (h1 : E X B G O a (tL ts) O1) (h2 : E X B G O1 a2 (tL us) (Oi 0)) (hz : ts.length < 9000) (hm : X.mg "zip" = none)
    (he : ∀ H1 i T T', ts[i]? = some T → us[i]? = some T' → ∀ q s0 H0 C cl fp, E (X.blk s0 H0 scope (compEnvC scope cl C X.env) fp) (B.at H1) ((G.set i1 (some T)).set j1 (some T')) (Oi i ++ [q]) elt (U i) (Oi (i + 1) ++ [q])) (hg : Gl X "zip" := by rfl)
    (hst : starEach [a, a2] X.env = (false, eval a X.env) :: starEach [a2] X.env := by rfl) (hst2 : starEach [a2] X.env = (false, eval a2 X.env) :: starEach [] X.env := by rfl) (hpl : (backTo zpos (starEach [a2] X.env)).any (·.1) = false := by rfl)
    (hs : ∀ z, foldedSetIterable (.Call (.Name "zip" zp) [a, a2] [] zpos) X.env z = pure z := by intro _; rfl) :
    Lc X B G O elt [⟨.Tuple [.Name x tp, .Name y tp2] kk pos, .Call (.Name "zip" zp) [a, a2] [] zpos, [], 0⟩] scope (fun l => Oi ts.length ++ [(l, .lst (coll (fun _ => true) U ts.length))]) :=
  ⟨_, fun pos => pe_lc (own := [(x, i1), (y, j1)]) bk.c bk.n (pi_zip hg hm aw hst hpl) bk.ok bk.pg2 (fun _ _ _ _ _ => pts_nil) ewb hs,
    fun i y' py pos spos h1 h2 h3 => ps_setLc (own := [(x, i1), (y, j1)]) bk.c bk.n h1 h2 h3 (pi_zip hg hm aw hst hpl) bk.ok bk.pg2 (fun _ _ _ _ _ => pts_nil) ewb hs,
    eo_lcZ (Oi' := Oi) hij hlen (ea_cons h1 (ea_cons h2 ea_nil hst2) hst) hz (fun H1 i T T' hT hT' q => Tt.yes) (fun H1 i T T' hT hT' _ q => Et.blk (he H1 i T T' hT hT' q)) (fun i h => nomatch h)⟩
end
/-! ### lists of data -/
theorem map_some {α : Type} (xs : List α) : xs.map some = (List.range xs.length).map fun i => xs[i]? := by
  refine List.ext_getElem? fun i => ?_
  rw [List.getElem?_map, List.getElem?_map]
  by_cases h : i < xs.length
  · rw [List.getElem?_range h, List.getElem?_eq_getElem h]
    show some (some xs[i]) = some xs[i]?
    rw [List.getElem?_eq_getElem h]
  · rw [List.getElem?_eq_none (by omega), List.getElem?_eq_none (by rw [List.length_range]; omega)]
    rfl
theorem coll_list {α : Type} (p : α → Bool) (g : α → Ty) (xs : List α) : coll (fun i => (xs[i]?.map p).getD false) (fun i => (xs[i]?.map g).getD tNone) xs.length = (xs.filter p).map g := by
  have e : (xs.filter p).map g = ((xs.map some).filter fun o => (o.map p).getD false).map fun o => (o.map g).getD tNone := by
    rw [List.filter_map, List.map_map]
    rfl
  rw [e, map_some, List.filter_map, List.map_map]
  rfl
theorem coll_map {α : Type} (g : α → Ty) (xs : List α) : coll (fun _ => true) (fun i => (xs[i]?.map g).getD tNone) xs.length = xs.map g := by
  have h := coll_list (fun _ => true) g xs
  rw [List.filter_eq_self.mpr (by simp)] at h
  rw [← h]
  unfold coll
  congr 1
  refine List.filter_congr fun i hi => ?_
  have hi : i < xs.length := List.mem_range.mp hi
  rw [List.getElem?_eq_getElem hi]
  rfl
theorem coll_true (g : Nat → Ty) (n : Nat) : coll (fun _ => true) g n = (List.range n).map g := by
  unfold coll
  rw [List.filter_eq_self.mpr (by simp)]
section
variable {X : Cx} {B : Bs} {G : Gm} {O : Om} {elt iter c : Expr} {scope : Scope} {x y : Str} {tp tp2 : Pos} {j i1 j1 : Nat} {α β : Type}
/-- [g x for x in xs] -/
theorem lcM {xs : List α} {f g : α → Ty} (bk : Blk X scope [(x, j)]) (hit : E X B G O iter (tL (xs.map f)) O) (hz : xs.length < 9000)
    (he : ∀ H1 (i : Nat) a, xs[i]? = some a → ∀ q s0 H0 C cl fp, E (X.blk s0 H0 scope (compEnvC scope cl C X.env) fp) (B.at H1) (G.set j (some (f a))) (O ++ [q]) elt (g a) (O ++ [q])) (hs : ∀ z, foldedSetIterable iter X.env z = pure z := by intro _; rfl) :
    Lc X B G O elt [⟨.Name x tp, iter, [], 0⟩] scope (fun l => O ++ [(l, .lst (xs.map g))]) := by
  have h := lcL (elt := elt) (tp := tp) (Oi := fun _ => O) (U := fun i => (xs[i]?.map g).getD tNone) bk hs hit (by rw [List.length_map]; exact hz) (fun H1 i T hT q s0 H0 C cl fp => by
    rw [List.getElem?_map] at hT
    cases e : xs[i]? with
    | none => rw [e] at hT; cases hT
    | some a =>
      rw [e] at hT
      cases hT
      exact he H1 i a e q s0 H0 C cl fp)
  rw [List.length_map, coll_map] at h
  exact h
/-- [g x for x in xs if p x] -/
theorem lcMt {xs : List α} {f g : α → Ty} {p : α → Bool} (bk : Blk X scope [(x, j)]) (hit : E X B G O iter (tL (xs.map f)) O) (hz : xs.length < 9000)
    (ht : ∀ H1 (i : Nat) a, xs[i]? = some a → ∀ q s0 H0 C cl fp, T (X.blk s0 H0 scope (compEnvC scope cl C X.env) fp) (B.at H1) (G.set j (some (f a))) (O ++ [q]) c (p a) (O ++ [q]))
    (he : ∀ H1 (i : Nat) a, xs[i]? = some a → p a = true → ∀ q s0 H0 C cl fp, E (X.blk s0 H0 scope (compEnvC scope cl C X.env) fp) (B.at H1) (G.set j (some (f a))) (O ++ [q]) elt (g a) (O ++ [q])) (hs : ∀ z, foldedSetIterable iter X.env z = pure z := by intro _; rfl) :
    Lc X B G O elt [⟨.Name x tp, iter, [c], 0⟩] scope (fun l => O ++ [(l, .lst ((xs.filter p).map g))]) := by
  have h := lcLt (elt := elt) (tp := tp) (Oi := fun _ => O) (Oi' := fun _ => O) (b := fun i => (xs[i]?.map p).getD false) (U := fun i => (xs[i]?.map g).getD tNone) (c := c) bk hs hit (by rw [List.length_map]; exact hz) (fun H1 i T hT q s0 H0 C cl fp => by
    rw [List.getElem?_map] at hT
    cases e : xs[i]? with
    | none => rw [e] at hT; cases hT
    | some a =>
      rw [e] at hT
      cases hT
      exact ht H1 i a e q s0 H0 C cl fp) (fun H1 i T hT hb q s0 H0 C cl fp => by
    rw [List.getElem?_map] at hT
    cases e : xs[i]? with
    | none => rw [e] at hT; cases hT
    | some a =>
      rw [e] at hT
      cases hT
      have hb' : (xs[i]?.map p).getD false = true := hb
      rw [e] at hb'
      exact he H1 i a e hb' q s0 H0 C cl fp) (fun _ _ => rfl)
  rw [List.length_map, coll_list] at h
  exact h
/-- [h x y for x, y in zip(xs, ys)] -/
theorem lcZM {xs : List α} {ys : List β} {f : α → Ty} {g : β → Ty} {h : α → β → Ty} {zp zpos pos : Pos} {kk : Nat} {a a2 : Expr} (bk : Blk X scope [(x, i1), (y, j1)]) (hij : i1 ≠ j1) (hlen : xs.length = ys.length) (h1 : E X B G O a (tL (xs.map f)) O) (h2 : E X B G O a2 (tL (ys.map g)) O) (hz : xs.length < 9000) (hm : X.mg "zip" = none)
    (he : ∀ H1 (i : Nat) u v, xs[i]? = some u → ys[i]? = some v → ∀ q s0 H0 C cl fp, E (X.blk s0 H0 scope (compEnvC scope cl C X.env) fp) (B.at H1) ((G.set i1 (some (f u))).set j1 (some (g v))) (O ++ [q]) elt (h u v) (O ++ [q])) (hg : Gl X "zip" := by rfl)
    (hst : starEach [a, a2] X.env = (false, eval a X.env) :: starEach [a2] X.env := by rfl) (hst2 : starEach [a2] X.env = (false, eval a2 X.env) :: starEach [] X.env := by rfl) (hpl : (backTo zpos (starEach [a2] X.env)).any (·.1) = false := by rfl)
    (hs : ∀ z, foldedSetIterable (.Call (.Name "zip" zp) [a, a2] [] zpos) X.env z = pure z := by intro _; rfl) :
    Lc X B G O elt [⟨.Tuple [.Name x tp, .Name y tp2] kk pos, .Call (.Name "zip" zp) [a, a2] [] zpos, [], 0⟩] scope (fun l => O ++ [(l, .lst (List.zipWith h xs ys))]) := by
  have hh := lcZ (elt := elt) (tp := tp) (tp2 := tp2) (pos := pos) (kk := kk) (zp := zp) (zpos := zpos) (Oi := fun _ => O) (O1 := O) (U := fun (i : Nat) => ((List.zipWith h xs ys)[i]?).getD tNone) bk hij (by rw [List.length_map, List.length_map]; exact hlen) h1 h2 (by rw [List.length_map]; exact hz) hm (fun H1 i T T' hT hT' q s0 H0 C cl fp => by
    rw [List.getElem?_map] at hT hT'
    cases e : xs[i]? with
    | none => rw [e] at hT; cases hT
    | some u =>
      cases e2 : ys[i]? with
      | none => rw [e2] at hT'; cases hT'
      | some v =>
        rw [e] at hT
        rw [e2] at hT'
        cases hT
        cases hT'
        have ez : (List.zipWith h xs ys)[i]? = some (h u v) := by rw [List.getElem?_zipWith, e, e2]
        show E _ _ _ _ _ (((List.zipWith h xs ys)[i]?).getD tNone) _
        rw [ez]
        exact he H1 i u v e e2 q s0 H0 C cl fp) hg hst hst2 hpl hs
  have hc := coll_map (fun t : Ty => t) (List.zipWith h xs ys)
  rw [List.length_zipWith, ← hlen, Nat.min_self, List.map_id'] at hc
  rw [List.length_map] at hh
  have e3 : (fun (i : Nat) => ((List.zipWith h xs ys)[i]?.map fun t : Ty => t).getD tNone) = fun (i : Nat) => ((List.zipWith h xs ys)[i]?).getD tNone := by
    funext i
    rw [Option.map_id']
  rw [e3] at hc
  rw [hc] at hh
  exact hh
end
end Vc
set_option maxHeartbeats 4000000
/-! VcStm: statements, loops, defs -/
namespace Vc
open PySem PySem.Spec L2

theorem sp_mono {X : Cx} {pins : List (Addr × Obj)} {D D' : Ends} (h1 : ∀ σ H, D.nx σ H → D'.nx σ H) (h2 : ∀ v H, D.rt v H → D'.rt v H) (h3 : ∀ σ H, D.bk σ H → D'.bk σ H) (h4 : ∀ σ H, D.ct σ H → D'.ct σ H) {f : Flow} {s : Shared} (h : SP X pins D f s) : SP X pins D' f s := by
  cases f with
  | next => obtain ⟨σ, H, I, q⟩ := h; exact ⟨σ, H, I, h1 _ _ q⟩
  | brk => obtain ⟨σ, H, I, q⟩ := h; exact ⟨σ, H, I, h3 _ _ q⟩
  | cont => obtain ⟨σ, H, I, q⟩ := h; exact ⟨σ, H, I, h4 _ _ q⟩
  | ret u => obtain ⟨v, σ, H, I, r, q⟩ := h; exact ⟨v, σ, H, I, r, h2 _ _ q⟩
/-- what a weaker state asks -/
inductive GLe : Gm → Gm → Prop
  | nil : GLe [] []
  | skip {a b : Gm} {u : Option Ty} : GLe a b → GLe (none :: a) (u :: b)
  | same {a b : Gm} {u : Option Ty} : GLe a b → GLe (u :: a) (u :: b)
theorem GLe.slots {H : Hp} : ∀ {G G' : Gm} {σ : L2.St}, GLe G G' → Slots H G' σ → Slots H G σ := by
  intro G G' σ g h
  refine h.weak ?_ ?_
  · clear h
    induction g with
    | nil => rfl
    | skip _ ih => exact congrArg Nat.succ ih
    | same _ ih => exact congrArg Nat.succ ih
  · clear h
    induction g with
    | nil => exact fun i T e => e
    | skip _ ih =>
      intro i T e
      cases i with
      | zero => cases e
      | succ i => exact ih i T e
    | same _ ih =>
      intro i T e
      cases i with
      | zero => exact e
      | succ i => exact ih i T e
section
variable {X : Cx} {B : Bs} {G G' : Gm} {O O1 O2 : Om} {A A' : As} {D : Ends} {st : Stmt} {rest body els : List Stmt} {e a b c it : Expr} {R : Ty} {t : TS} {pos p : Pos} {i j n k : Nat} {x : Str} {l : Addr} {ts : List Ty}
theorem ss_of (h : PS X st t) (k : ∀ σ H Ha, A σ H Ha → t { D with nx := SW X rest D } σ Ha) : SS X (st :: rest) A D := fun σ H Ha q pins s I => (pss_cons h sw).run pins s σ Ha D I (k σ H Ha q)
theorem ss_nil (h : ∀ σ H Ha, A σ H Ha → D.nx σ Ha) : SS X [] A D := fun σ H Ha q pins s I => pss_nil.run pins s σ Ha D I (h σ H Ha q)
theorem ss_pre (w : ∀ σ H Ha, A σ H Ha → ∃ H', A' σ H' Ha) (h : SS X rest A' D) : SS X rest A D := fun σ H Ha q => let ⟨H', q'⟩ := w σ H Ha q; h σ H' Ha q'
theorem ss_never (h : ∀ σ H Ha, A σ H Ha → False) : SS X rest A D := fun σ H Ha q => (h σ H Ha q).elim
/-- an owned list becomes known: the slot i holds it -/
theorem ss_freeze (i k : Nat) (h : SS X rest (Sat B (G.set i (some (tL ts))) (O.eraseIdx k)) D) (hl : B.Ha l = none) (hG : G[i]? = some (some (tRef l)) := by rfl) (hk : O[k]? = some (l, .lst ts) := by rfl) : SS X rest (Sat B G O) D :=
  ss_pre (fun σ H Ha s => by
    obtain ⟨o, ho, hc, sm, s2⟩ := s.freeze hk (.inr hl)
    obtain ⟨vs, rfl, al⟩ := Ch.lst_inv hc
    refine ⟨_, s2.slots ⟨?_, fun m T e => ?_⟩⟩
    · rw [List.length_set]; exact s2.sl.1
    · by_cases q : i = m
      · subst q
        rw [List.getElem?_set_self (List.getElem?_eq_some_iff.mp hG).1] at e
        cases e
        obtain ⟨v, e1, e2⟩ := s2.sl.2 i _ hG
        exact ⟨v, e1, l, vs, e2, upd_same, al.mono sm⟩
      · rw [List.getElem?_set_ne q] at e
        exact s2.sl.2 m T e) h
theorem ss_freezeI {C dx : Addr} {fs : List (Str × Ty)} (i k : Nat) (h : SS X rest (Sat B (G.set i (some (tIn C fs))) (O.eraseIdx k)) D) (hl : B.Ha l = none) (hG : G[i]? = some (some (tRef l)) := by rfl) (hk : O[k]? = some (l, .ins C dx fs) := by rfl) : SS X rest (Sat B G O) D :=
  ss_pre (fun σ H Ha s => by
    obtain ⟨o, ho, hc, sm, s2⟩ := s.freeze hk (.inr hl)
    obtain ⟨gs, rfl, al⟩ := Ch.ins_inv hc
    refine ⟨_, s2.slots ⟨?_, fun m T e => ?_⟩⟩
    · rw [List.length_set]; exact s2.sl.1
    · by_cases q : i = m
      · subst q
        rw [List.getElem?_set_self (List.getElem?_eq_some_iff.mp hG).1] at e
        cases e
        obtain ⟨v, e1, e2⟩ := s2.sl.2 i _ hG
        exact ⟨v, e1, l, dx, gs, e2, upd_same, al.mono sm⟩
      · rw [List.getElem?_set_ne q] at e
        exact s2.sl.2 m T e) h
/-! ### stores -/
theorem ss_asg {pos' : Pos} (i : Nat) (hn : X.N.Nodup) (he : E X B G O e R O1) (r : SS X rest (Sat B (G.set i (some R)) O1) D) (hi : X.N[i]? = some x := by rfl) (hx : Loc X.env.scope x := by first | exact Or.inl rfl | exact Or.inr rfl)
    (hs : swapsWith e (some (.Name x pos')) pos.line X.env = pure false := by rfl) (hf : X.fn x = true := by rfl) : SS X (.Assign [.Name x pos'] e pos :: rest) (Sat B G O) D :=
  ss_of (ps_set hn hi hx ew hs (.inl hf)) fun σ H Ha s => he σ H Ha s _ fun v H1 Ha1 s1 k1 r1 => r _ H1 Ha1 (k1.slots (k1.sl.set i r1))
theorem ss_asgX {α : Type} {P : α → Prop} {U : α → Ty} {pos' : Pos} (i : Nat) (hn : X.N.Nodup) (he : E X B G O e (tEx P U) O1) (r : ∀ z, P z → SS X rest (Sat B (G.set i (some (U z))) O1) D) (hi : X.N[i]? = some x := by rfl) (hx : Loc X.env.scope x := by first | exact Or.inl rfl | exact Or.inr rfl)
    (hs : swapsWith e (some (.Name x pos')) pos.line X.env = pure false := by rfl) (hf : X.fn x = true := by rfl) : SS X (.Assign [.Name x pos'] e pos :: rest) (Sat B G O) D :=
  ss_of (ps_set hn hi hx ew hs (.inl hf)) fun σ H Ha s => he σ H Ha s _ fun v H1 Ha1 s1 k1 ⟨z, hz, r1⟩ => r z hz _ H1 Ha1 (k1.slots (k1.sl.set i r1))
theorem ss_asgO {O' : Addr → Om} {pos' : Pos} (i : Nat) (hn : X.N.Nodup) (he : EO X B G O e O') (r : ∀ l, B.Ha l = none → SS X rest (Sat B (G.set i (some (tRef l))) (O' l)) D) (hi : X.N[i]? = some x := by rfl) (hx : Loc X.env.scope x := by first | exact Or.inl rfl | exact Or.inr rfl)
    (hs : swapsWith e (some (.Name x pos')) pos.line X.env = pure false := by rfl) (hf : X.fn x = true := by rfl) : SS X (.Assign [.Name x pos'] e pos :: rest) (Sat B G O) D :=
  ss_of (ps_set hn hi hx ew hs (.inl hf)) fun σ H Ha s => he σ H Ha s _ fun l H1 Ha1 hl s1 k1 => r l hl _ H1 Ha1 (k1.slots (k1.sl.set i rfl))
theorem ss_asgI {O' : Addr → Addr → Om} {pos' : Pos} (i : Nat) (hn : X.N.Nodup) (he : Eo B (EW X e) (Sat B G O) (fun l σ H Ha => ∃ dx, Sat B G (O' l dx) σ H Ha)) (r : ∀ l dx, B.Ha l = none → SS X rest (Sat B (G.set i (some (tRef l))) (O' l dx)) D) (hi : X.N[i]? = some x := by rfl) (hx : Loc X.env.scope x := by first | exact Or.inl rfl | exact Or.inr rfl)
    (hs : swapsWith e (some (.Name x pos')) pos.line X.env = pure false := by rfl) (hf : X.fn x = true := by rfl) : SS X (.Assign [.Name x pos'] e pos :: rest) (Sat B G O) D :=
  ss_of (ps_set hn hi hx ew hs (.inl hf)) fun σ H Ha s => he σ H Ha s _ fun l H1 Ha1 hl s1 ⟨dx, k1⟩ => r l dx hl _ H1 Ha1 (k1.slots (k1.sl.set i rfl))
/-- y = [..], y a local -/
theorem ss_lc {elt : Expr} {gens : List Comprehension} {scope : Scope} {py lpos : Pos} {O' : Addr → Om} (i : Nat) (h : Lc X B G O elt gens scope O') (r : ∀ l, B.Ha l = none → SS X rest (Sat B (G.set i (some (tRef l))) (O' l)) D)
    (hi : X.N[i]? = some x := by rfl) (hx : X.env.scope.names.lookup x = some .local := by rfl) (hk : X.env.scope.kind = .function := by rfl) (hl : (py.line == lpos.line) = true := by rfl)
    (ha : (scope.names.any fun (n, k) => n == x && (k == .local || k == .cell)) = false := by decide +kernel) : SS X (.Assign [.Name x py] (.ListComp elt gens scope lpos) pos :: rest) (Sat B G O) D := by
  obtain ⟨t, _, h2, h3⟩ := h.ex
  exact ss_of (h2 i x py lpos pos hi hx (sw_true hk hx hl ha)) fun σ H Ha s => h3 σ H Ha s _ fun l H1 Ha1 hl s1 k1 => r l hl _ H1 Ha1 (k1.slots (k1.sl.set i rfl))
theorem ss_lcK {elt : Expr} {gens : List Comprehension} {scope : Scope} {py lpos : Pos} (i : Nat) (h : Lc X B G O elt gens scope (fun l => O1 ++ [(l, .lst ts)])) (r : SS X rest (Sat B (G.set i (some (tL ts))) O1) D)
    (hi : X.N[i]? = some x := by rfl) (hx : X.env.scope.names.lookup x = some .local := by rfl) (hk : X.env.scope.kind = .function := by rfl) (hl : (py.line == lpos.line) = true := by rfl)
    (ha : (scope.names.any fun (n, k) => n == x && (k == .local || k == .cell)) = false := by decide +kernel) : SS X (.Assign [.Name x py] (.ListComp elt gens scope lpos) pos :: rest) (Sat B G O) D := by
  obtain ⟨t, _, h2, h3⟩ := h.ex
  exact ss_of (h2 i x py lpos pos hi hx (sw_true hk hx hl ha)) fun σ H Ha s => (Eo.et h3) σ H Ha s _ fun v H1 Ha1 s1 k1 r1 => r _ H1 Ha1 (k1.slots (k1.sl.set i r1))
theorem ss_expr (he : E X B G O e R O1) (r : SS X rest (Sat B G O1) D) (hs : swapsWith e none pos.line X.env = pure false := by rfl) : SS X (.Expr e pos :: rest) (Sat B G O) D :=
  ss_of (ps_expr ew hs) fun σ H Ha s => he σ H Ha s _ fun v H1 Ha1 s1 k1 r1 => r σ H1 Ha1 k1
/-- l.append(e) -/
theorem ss_append {apos : Pos} {ts0 : List Ty} (k : Nat) (ha : E X B G O a (tRef l) O) (he : E X B G O e R O1) (r : SS X rest (Sat B G (O1.set k (l, .lst (ts ++ [R])))) D) (hz : ts.length < 10000) (hk0 : O[k]? = some (l, .lst ts0) := by rfl) (hk : O1[k]? = some (l, .lst ts) := by rfl)
    (hbase : attributeBase a "append" X.env (eval a X.env) = eval a X.env := by rfl)
    (hfew : ((backTo p (starEach [e] X.env)).all (fun x => !x.1) && (backToKw p (keywordEach [] X.env)).all (fun x => x.1.isSome)
      && decide (([e] : List Expr).length + ([] : List Keyword).length + (if ([] : List Keyword).isEmpty then 0 else 1) < 30)) = true := by rfl)
    (hline : (apos.endLine == p.line) = true := by rfl) (hst : starEach [e] X.env = (false, eval e X.env) :: starEach [] X.env := by rfl) (hplain : (backTo p (starEach [] X.env)).any (·.1) = false := by rfl)
    (hs : swapsWith (.Call (.Attribute a "append" apos) [e] [] p) none pos.line X.env = pure false := by rfl) :
    SS X (.Expr (.Call (.Attribute a "append" apos) [e] [] p) pos :: rest) (Sat B G O) D :=
  ss_of (ps_expr (pe_bm PySem.F.plainAttrs_list PySem.F.slot_list_append PySem.F.type_list_append mt_append ew (pa_cons ew pa_nil hst) hbase hfew hline hst hplain) hs) fun σ H Ha s => ha σ H Ha s _ fun v H1 Ha1 s1 k1 r1 => by
    obtain rfl : v = V.ref l := r1
    obtain ⟨o, ho, hc⟩ := k1.read hk0
    obtain ⟨vs, rfl, _⟩ := Ch.lst_inv hc
    refine ⟨.inl ⟨rfl, vs, SqL.of ho⟩, he σ H1 Ha1 k1 _ fun w H2 Ha2 s2 k2 r2 => ?_⟩
    obtain ⟨o, ho, hc⟩ := k2.read hk
    obtain ⟨vs, rfl, al⟩ := Ch.lst_inv hc
    exact ⟨l, vs, w, rfl, rfl, ho, by rw [← al.1, sizeLine_eq]; omega, r σ H2 _ (k2.write hk (al.append (.one r2)))⟩
theorem seq_nat {n m : Nat} (h : n < m) : seqIndex? (n : Int) m = some n := by
  have e : ixN m (n : Int) = some n := by
    unfold ixN
    rw [if_pos (by omega), if_pos (by omega)]
    simp
  exact (ixN_seq e).1
/-- l.pop(i) -/
theorem e_pop {apos : Pos} (k : Nat) (ha : E X B G O a (tRef l) O) (he : E X B G O e (tN n) O1) (hT : ts[n]? = some R) (hz : n < 10000) (hk0 : O[k]? = some (l, .lst ts) := by rfl) (hk : O1[k]? = some (l, .lst ts) := by rfl)
    (hbase : attributeBase a "pop" X.env (eval a X.env) = eval a X.env := by rfl)
    (hfew : ((backTo p (starEach [e] X.env)).all (fun x => !x.1) && (backToKw p (keywordEach [] X.env)).all (fun x => x.1.isSome)
      && decide (([e] : List Expr).length + ([] : List Keyword).length + (if ([] : List Keyword).isEmpty then 0 else 1) < 30)) = true := by rfl)
    (hline : (apos.endLine == p.line) = true := by rfl) (hst : starEach [e] X.env = (false, eval e X.env) :: starEach [] X.env := by rfl) (hplain : (backTo p (starEach [] X.env)).any (·.1) = false := by rfl) :
    E X B G O (.Call (.Attribute a "pop" apos) [e] [] p) R (O1.set k (l, .lst (ts.eraseIdx n))) :=
  Et.of (pe_bm PySem.F.plainAttrs_list PySem.F.slot_list_pop PySem.F.type_list_pop mt_popAt ew (pa_cons ew pa_nil hst) hbase hfew hline hst hplain) fun σ H Ha s Q q => ha σ H Ha s _ fun v H1 Ha1 s1 k1 r1 => by
    obtain rfl : v = V.ref l := r1
    obtain ⟨o, ho, hc⟩ := k1.read hk0
    obtain ⟨vs, rfl, _⟩ := Ch.lst_inv hc
    refine ⟨.inl ⟨rfl, vs, SqL.of ho⟩, he σ H1 Ha1 k1 _ fun w H2 Ha2 s2 k2 r2 => ?_⟩
    obtain rfl : w = V.int n := r2
    obtain ⟨o, ho, hc⟩ := k2.read hk
    obtain ⟨vs, rfl, al⟩ := Ch.lst_inv hc
    obtain ⟨y, hy, ry⟩ := al.get hT
    exact ⟨l, vs, n, n, y, rfl, rfl, ho, by omega, by omega, seq_nat (List.getElem?_eq_some_iff.mp hy).1, hy, q y H2 _ (s1.trans s2) (k2.write hk (al.erase n)) ry⟩
/-- xs[i] = e -/
theorem ss_setItem {ipos : Pos} (k : Nat) (he : E X B G O e R O1) (ha : E X B G O1 a (tRef l) O1) (hb : E X B G O1 b (tN n) O1) (r : SS X rest (Sat B G (O1.set k (l, .lst (ts.set n R)))) D) (hn : n < ts.length) (hk : O1[k]? = some (l, .lst ts) := by rfl)
    (hs : swapsWithSole [.Subscript a b ipos] e pos.line X.env = pure false := by rfl) (hw : swappedStores [.Subscript a b ipos] e X.env = pure none := by rfl)
    (h1 : (assignEach [.Subscript a b ipos] X.env).map (·.2) = [assign (.Subscript a b ipos) X.env] := by rfl)
    (hsub : ∀ v, assign (.Subscript a b ipos) X.env v = (do
      let ov ← holding [v] (eval a X.env)
      let iv ← holding [v, ov] (eval b X.env)
      standAt ipos
      holding [v, ov, iv] (setItem ov iv v)
      release [v, ov, iv] []) := by intro _; rfl) : SS X (.Assign [.Subscript a b ipos] e pos :: rest) (Sat B G O) D :=
  ss_of (ps_asg ew (pg_sub ew ew set_list hsub) hs hw h1) fun σ H Ha s => he σ H Ha s _ fun v H1 Ha1 s1 k1 r1 => ha σ H1 Ha1 k1 _ fun ov H2 Ha2 s2 k2 r2 => hb σ H2 Ha2 k2 _ fun iv H3 Ha3 s3 k3 r3 => by
    obtain rfl : ov = V.ref l := r2
    obtain rfl : iv = V.int n := r3
    obtain ⟨o, ho, hc⟩ := k3.read hk
    obtain ⟨vs, rfl, al⟩ := Ch.lst_inv hc
    have e : ixN vs.length (n : Int) = some n := by
      unfold ixN
      rw [if_pos (by omega), if_pos (by rw [← al.1]; omega)]
      simp
    exact ⟨l, vs, n, n, rfl, rfl, ho, e, r σ H3 _ (k3.write hk (al.set n (R.mono (s2.trans s3) r1)))⟩
/-- self.f = e -/
theorem ss_fld {C dx : Addr} {fs : List (Str × Ty)} {f : Str} {pos' : Pos} (k : Nat) (he : E X B G O e R O1) (ha : E X B G O1 a (tRef l) O1) (r : SS X rest (Sat B G (O1.set k (l, .ins C dx ((f, R) :: fs)))) D) (hc : Cls X.K C) (hn : NoAttr X.K C f) (hk : O1[k]? = some (l, .ins C dx fs) := by rfl) (hz : fs.length < 900 := by exact of_decide_eq_true rfl)
    (hs : swapsWith e (some (.Attribute a f pos')) pos.line X.env = pure false := by rfl) : SS X (.Assign [.Attribute a f pos'] e pos :: rest) (Sat B G O) D :=
  ss_of (ps_fld ew ew hs) fun σ H Ha s => he σ H Ha s _ fun v H1 Ha1 s1 k1 r1 => ha σ H1 Ha1 k1 _ fun ov H2 Ha2 s2 k2 r2 => by
    obtain rfl : ov = V.ref l := r2
    obtain ⟨o, ho, hcc⟩ := k2.read hk
    obtain ⟨gs, rfl, al⟩ := Ch.ins_inv hcc
    exact ⟨l, C, dx, gs, rfl, ho, hc, hn, Nat.lt_of_le_of_lt al.1 (by omega), r σ H2 _ (k2.write hk (c' := .ins C dx ((f, R) :: fs)) ⟨rfl, rfl, al.put (R.mono s2 r1)⟩)⟩
theorem ip_of {op : Operator} {r : R2} (ho : OpR X (inplaceOp op) r) : PIp X op r := fun pins s σ H x y v u Q I r1 r2 h => ho pins s σ H x y v u Q I r1 r2 h
/-- x op= e (ints) -/
theorem ss_augI {op : Operator} {C : Int → Int → Prop} {g : Int → Int → V} {pos' : Pos} {u w : Int} (i : Nat) (hn : X.N.Nodup) (ho : OpR X (inplaceOp op) (rI C g)) (he : E X B G O e (tI w) O1) (hc : C u w) (r : SS X rest (Sat B (G.set i (some (tV (g u w)))) O1) D) (hG : G[i]? = some (some (tI u)) := by rfl) (hi : X.N[i]? = some x := by rfl) (hx : Loc X.env.scope x := by first | exact Or.inl rfl | exact Or.inr rfl)
    (hf : X.fn x = true := by rfl) : SS X (.AugAssign (.Name x pos') op e pos :: rest) (Sat B G O) D :=
  ss_of (ps_aug hn hi hx ew (ip_of ho) (.inl hf)) fun σ H Ha s => by
    obtain ⟨v, e1, r1⟩ := s.sl.2 i _ hG
    exact ⟨v, e1, he σ H Ha s _ fun y H1 Ha1 s1 k1 r2 => ⟨u, w, r1, r2, hc, r _ H1 Ha1 (k1.slots (k1.sl.set i rfl))⟩⟩
theorem ss_aug {op : Operator} {g : Int → Int → V} {pos' : Pos} {u w : Int} (i : Nat) (hn : X.N.Nodup) (ho : OpR X (inplaceOp op) (rI0 g)) (he : E X B G O e (tI w) O1) (r : SS X rest (Sat B (G.set i (some (tV (g u w)))) O1) D) (hG : G[i]? = some (some (tI u)) := by rfl) (hi : X.N[i]? = some x := by rfl) (hx : Loc X.env.scope x := by first | exact Or.inl rfl | exact Or.inr rfl)
    (hf : X.fn x = true := by rfl) : SS X (.AugAssign (.Name x pos') op e pos :: rest) (Sat B G O) D :=
  ss_of (ps_aug hn hi hx ew (ip_of ho) (.inl hf)) fun σ H Ha s => by
    obtain ⟨v, e1, r1⟩ := s.sl.2 i _ hG
    exact ⟨v, e1, he σ H Ha s _ fun y H1 Ha1 s1 k1 r2 => ⟨u, w, r1, r2, r _ H1 Ha1 (k1.slots (k1.sl.set i rfl))⟩⟩
/-! ### flow -/
theorem ss_ret (he : E X B G O e R O1) (hR : ∀ σ v H Ha, Sat B G O1 σ H Ha → R.p v H → D.rt v Ha) : SS X (.Return (some e) pos :: rest) (Sat B G O) D :=
  ss_of (ps_ret ew) fun σ H Ha s => he σ H Ha s _ fun v H1 Ha1 s1 k1 r1 => hR σ v H1 Ha1 k1 r1
def RetOk (B : Bs) (R : Ty) (rt : VK) : Prop := ∀ v H Ha, Stp B.F B.H B.Ha H Ha → R.p v H → rt v Ha
theorem ss_retp (he : E X B G O e R O1) (hR : RetOk B R D.rt) : SS X (.Return (some e) pos :: rest) (Sat B G O) D := ss_ret he fun σ v H Ha s r => hR v H Ha s.st r
theorem ss_cont (h : ∀ σ H Ha, A σ H Ha → D.ct σ Ha) : SS X (.Continue pos :: rest) A D := ss_of ps_continue fun σ H Ha q => h σ H Ha q
theorem ss_if {bb : Bool} (hc : T X B G O c bb O1) (h1 : bb = true → SS X body (Sat B G O1) { D with nx := SW X rest D }) (h2 : bb = false → SS X els (Sat B G O1) { D with nx := SW X rest D }) : SS X (.If c body els pos :: rest) (Sat B G O) D :=
  ss_of (ps_if tw sw sw) fun σ H Ha s => hc σ H Ha s _ fun H1 Ha1 s1 k1 => by
    cases bb with
    | true => exact iteT (h1 rfl σ H1 Ha1 k1)
    | false => exact iteF (h2 rfl σ H1 Ha1 k1)
/-- the branch behind joins what follows -/
theorem ss_go (h : SS X rest A D) : SS X [] A { D with nx := SW X rest D } := ss_nil fun σ H Ha q => h σ H Ha q
/-- a test that is false: what follows -/
theorem ss_ifF (hc : T X B G O c false O1) (h : SS X rest (Sat B G O1) D) : SS X (.If c body [] pos :: rest) (Sat B G O) D := ss_if hc (fun z => nomatch z) (fun _ => ss_go h)

/-! ### loops -/
variable {ζ : Type} {J : Nat → ζ → Prop} {Γ : Nat → ζ → Gm} {Oi : Nat → ζ → Om}
/-- what stands between two turns -/
def LI (B : Bs) (J : Nat → ζ → Prop) (Γ : Nat → ζ → Gm) (Oi : Nat → ζ → Om) (i : Nat) : L2.St → Hp → Prop := fun σ Ha => ∃ z H, J i z ∧ Sat B (Γ i z) (Oi i z) σ H Ha
abbrev DL (B : Bs) (J : Nat → ζ → Prop) (Γ : Nat → ζ → Gm) (Oi : Nat → ζ → Om) (i : Nat) (rt : VK) (bk : L2.St → Hp → Prop) : Ends := ⟨LI B J Γ Oi i, rt, bk, LI B J Γ Oi i⟩
/-- the turn's end -/
theorem ss_next {rt : VK} {bk : L2.St → Hp → Prop} {m : Nat} (z : ζ) (hz : J m z) (hg : GLe (Γ m z) G := by repeat (first | exact GLe.nil | apply GLe.skip | apply GLe.same)) (ho : Oi m z = O := by rfl) : SS X [] (Sat B G O) (DL B J Γ Oi m rt bk) :=
  ss_nil fun σ H Ha s => ⟨z, H, hz, by rw [ho]; exact s.slots (hg.slots s.sl)⟩
theorem ss_contN {rt : VK} {bk : L2.St → Hp → Prop} {m : Nat} (z : ζ) (hz : J m z) (hg : GLe (Γ m z) G := by repeat (first | exact GLe.nil | apply GLe.skip | apply GLe.same)) (ho : Oi m z = O := by rfl) : SS X (.Continue pos :: rest) (Sat B G O) (DL B J Γ Oi m rt bk) :=
  ss_cont fun σ H Ha s => ⟨z, H, hz, by rw [ho]; exact s.slots (hg.slots s.sl)⟩
theorem ss_weak (h : SS X rest (Sat B G' O) D) (hg : GLe G' G := by repeat (first | exact GLe.nil | apply GLe.skip | apply GLe.same)) : SS X rest (Sat B G O) D := ss_pre (fun σ H Ha s => ⟨H, s.slots (hg.slots s.sl)⟩) h
/-- for x in xs (known) -/
theorem ss_forL {tp : Pos} (J : Nat → ζ → Prop) (Γ : Nat → ζ → Gm) (Oi : Nat → ζ → Om) (j : Nat) (hc : X.calm = true) (hn : X.N.Nodup) (hx : PassesOwn (model X.prog X.w) X.A X.env X.xe) (hit : E X B G O it (tL ts) O1) (z0 : ζ) (h0 : J 0 z0)
    (hbody : ∀ H1 i T z bk, ts[i]? = some T → J i z → SS X body (Sat (B.at H1) ((Γ i z).set j (some T)) (Oi i z)) (DL (B.at H1) J Γ Oi (i + 1) D.rt bk))
    (hrest : ∀ z, J ts.length z → SS X rest (Sat B (Γ ts.length z) (Oi ts.length z)) D)
    (hg : GLe (Γ 0 z0) G := by repeat (first | exact GLe.nil | apply GLe.skip | apply GLe.same)) (ho : Oi 0 z0 = O1 := by rfl) (hi : X.N[j]? = some x := by rfl) (hl : Loc X.env.scope x := by first | exact Or.inl rfl | exact Or.inr rfl) (hf : X.fn x = true := by rfl)
    (hs : ∀ z, foldedSetIterable it X.env z = pure z := by intro _; rfl) : SS X (.For (.Name x tp) it body [] pos :: rest) (Sat B G O) D :=
  ss_of (ps_for hx hc (pi_list ew) (pg_name hn hi hl (.inl hf)) sw hs) fun σ H Ha s => hit σ H Ha s _ fun v H1 Ha1 s1 k1 ⟨a, vs, e, hv, al⟩ => by
    subst e
    refine ⟨a, rfl, ⟨vs, SqL.of (k1.ha _ _ hv)⟩, for_list (K := X.K) (a := a) (xs := vs) (LI (B.at H1) J Γ Oi) ⟨z0, H1, h0, by rw [ho]; exact k1.at.slots (hg.slots k1.sl)⟩ (fun i σ' Hx _ ⟨z, H', _, s'⟩ => SqL.of (s'.ha _ _ (s'.sn _ _ hv))) (fun i y σ' Hx hy ⟨z, H', hz, s'⟩ => ?_) (fun σ' Hx ⟨z, H', hz, s'⟩ => ?_)⟩
    · have hi : i < ts.length := by rw [al.1]; exact (List.getElem?_eq_some_iff.mp hy).1
      have hT : ts[i]? = some ts[i] := List.getElem?_eq_getElem hi
      have hp : (ts[i]).p y H' := (ts[i]).mono s'.sn (al.2 i _ y hT hy)
      exact hbody H1 i _ z _ hT hz _ H' Hx (s'.slots (s'.sl.set j hp))
    · rw [← al.1] at hz s'
      exact hrest z hz σ' H' Hx (s'.unat k1.sn)
/-- for x in xs (owned, unchanged within) -/
theorem ss_forO {tp : Pos} (k : Nat) (J : Nat → ζ → Prop) (Γ : Nat → ζ → Gm) (j : Nat) (hc : X.calm = true) (hn : X.N.Nodup) (hx : PassesOwn (model X.prog X.w) X.A X.env X.xe) (hit : E X B G O it (tRef l) O) (z0 : ζ) (h0 : J 0 z0)
    (hbody : ∀ H1 vs i T z bk, ts[i]? = some T → J i z → SS X body (Sat (B.at H1) ((Γ i z).set j (some T)) (O.set k (l, .raw vs))) (DL (B.at H1) J Γ (fun _ _ => O.set k (l, .raw vs)) (i + 1) D.rt bk))
    (hrest : ∀ z, J ts.length z → SS X rest (Sat B (Γ ts.length z) O) D) (hk : O[k]? = some (l, .lst ts) := by rfl)
    (hg : GLe (Γ 0 z0) G := by repeat (first | exact GLe.nil | apply GLe.skip | apply GLe.same)) (hi : X.N[j]? = some x := by rfl) (hl : Loc X.env.scope x := by first | exact Or.inl rfl | exact Or.inr rfl) (hf : X.fn x = true := by rfl)
    (hs : ∀ z, foldedSetIterable it X.env z = pure z := by intro _; rfl) : SS X (.For (.Name x tp) it body [] pos :: rest) (Sat B G O) D :=
  ss_of (ps_for hx hc (pi_list ew) (pg_name hn hi hl (.inl hf)) sw hs) fun σ H Ha s => hit σ H Ha s _ fun v H1 Ha1 s1 k1 e => by
    obtain rfl : v = V.ref l := e
    obtain ⟨o, ho, hcc⟩ := k1.read hk
    obtain ⟨vs, rfl, al⟩ := Ch.lst_inv hcc
    have hkr : (O.set k (l, Ch.raw vs))[k]? = some (l, .raw vs) := List.getElem?_set_self (List.getElem?_eq_some_iff.mp hk).1
    have kr : Sat (B.at H1) G (O.set k (l, .raw vs)) σ H1 Ha1 := by
      have w := k1.at.write (c' := .raw vs) (o' := .lst vs) hk rfl
      have e : upd Ha1 l (.lst vs) = Ha1 := by
        funext b
        unfold upd
        split
        · rename_i q; rw [q, ho]
        · rfl
      rw [e] at w
      exact w
    refine ⟨l, rfl, ⟨vs, SqL.of ho⟩, for_list (K := X.K) (a := l) (xs := vs) (LI (B.at H1) J Γ (fun _ _ => O.set k (l, .raw vs))) ⟨z0, H1, h0, kr.slots (hg.slots kr.sl)⟩ (fun i σ' Hx _ ⟨z, H', _, s'⟩ => ?_) (fun i y σ' Hx hy ⟨z, H', hz, s'⟩ => ?_) (fun σ' Hx ⟨z, H', hz, s'⟩ => ?_)⟩
    · obtain ⟨o, ho, hcc⟩ := s'.read hkr
      rw [Ch.raw_inv hcc] at ho
      exact SqL.of ho
    · have hi : i < ts.length := by rw [al.1]; exact (List.getElem?_eq_some_iff.mp hy).1
      have hT : ts[i]? = some ts[i] := List.getElem?_eq_getElem hi
      have hp : (ts[i]).p y H' := (ts[i]).mono s'.sn (al.2 i _ y hT hy)
      exact hbody H1 vs i _ z _ hT hz _ H' Hx (s'.slots (s'.sl.set j hp))
    · rw [← al.1] at hz s'
      obtain ⟨o, ho, hcc⟩ := s'.read hkr
      have eo := Ch.raw_inv hcc
      subst eo
      have w := s'.write (c' := .lst ts) (o' := .lst vs) hkr (al.mono s'.sn)
      have e : upd Hx l (.lst vs) = Hx := by
        funext b
        unfold upd
        split
        · rename_i q; rw [q, ho]
        · rfl
      rw [e, List.set_set] at w
      have e2 : O.set k (l, Ch.lst ts) = O := by
        refine List.ext_getElem? fun m => ?_
        by_cases q : k = m
        · subst q
          rw [List.getElem?_set_self (List.getElem?_eq_some_iff.mp hk).1, hk]
        · rw [List.getElem?_set_ne q]
      rw [e2] at w
      exact hrest z hz σ' H' Hx (w.unat k1.sn)
/-- for x in range(n) -/
theorem ss_forR {tp rp rpos : Pos} {n : Nat} (J : Nat → ζ → Prop) (Γ : Nat → ζ → Gm) (Oi : Nat → ζ → Om) (j : Nat) (hc : X.calm = true) (hn : X.N.Nodup) (hx : PassesOwn (model X.prog X.w) X.A X.env X.xe) (hm : X.mg "range" = none) (hit : E X B G O a (tN n) O1) (hz : n < 100000) (z0 : ζ) (h0 : J 0 z0)
    (hbody : ∀ i z bk, i < n → J i z → SS X body (Sat B ((Γ i z).set j (some (tN i))) (Oi i z)) (DL B J Γ Oi (i + 1) D.rt bk))
    (hrest : ∀ z, J n z → SS X rest (Sat B (Γ n z) (Oi n z)) D)
    (hg : GLe (Γ 0 z0) G := by repeat (first | exact GLe.nil | apply GLe.skip | apply GLe.same)) (ho : Oi 0 z0 = O1 := by rfl) (hi : X.N[j]? = some x := by rfl) (hl : Loc X.env.scope x := by first | exact Or.inl rfl | exact Or.inr rfl) (hf : X.fn x = true := by rfl)
    (hgl : Gl X "range" := by rfl) (hst : starEach [a] X.env = [(false, eval a X.env)] := by rfl) (hs : ∀ z, foldedSetIterable (.Call (.Name "range" rp) [a] [] rpos) X.env z = pure z := by intro _; rfl) : SS X (.For (.Name x tp) (.Call (.Name "range" rp) [a] [] rpos) body [] pos :: rest) (Sat B G O) D :=
  ss_of (ps_for hx hc (pi_range1 hgl hm aw hst) (pg_name hn hi hl (.inl hf)) sw hs) fun σ H Ha s => (ea_cons hit ea_nil hst) σ H Ha s _ fun vs H1 Ha1 s1 k1 r1 => by
    obtain ⟨v, vs', rfl, hv, r2⟩ := r1.uncons
    obtain rfl := r2.unnil
    obtain rfl : v = V.int n := hv
    have e0 : ((n : Int)).toNat = n := by omega
    refine ⟨(n : Int), rfl, by omega, by omega, ?_⟩
    rw [e0]
    refine for_range (lo := 0) (n := n) (LI B J Γ Oi) ⟨z0, H1, h0, by rw [ho]; exact k1.slots (hg.slots k1.sl)⟩ (fun i σ' Hx hi ⟨z, H', hz, s'⟩ => ?_) (fun σ' Hx ⟨z, H', hz, s'⟩ => hrest z hz σ' H' Hx s')
    have e1 : (0 : Int) + (i : Int) = (i : Int) := Int.zero_add _
    rw [e1]
    exact hbody i z _ hi hz _ H' Hx (s'.slots (s'.sl.set j rfl))
/-- for x in range(lo, hi) -/
theorem ss_forR2 {tp rp rpos : Pos} {lo n : Nat} (J : Nat → ζ → Prop) (Γ : Nat → ζ → Gm) (Oi : Nat → ζ → Om) (j : Nat) (hc : X.calm = true) (hn : X.N.Nodup) (hx : PassesOwn (model X.prog X.w) X.A X.env X.xe) (hm : X.mg "range" = none) (hit : E X B G O a (tN lo) O1) (hit2 : E X B G O1 b (tN n) O2) (hz : n < 100000) (hlo : lo < 100000) (z0 : ζ) (h0 : J 0 z0)
    (hbody : ∀ i z bk, lo + i < n → J i z → SS X body (Sat B ((Γ i z).set j (some (tN (lo + i)))) (Oi i z)) (DL B J Γ Oi (i + 1) D.rt bk))
    (hrest : ∀ z, J (n - lo) z → SS X rest (Sat B (Γ (n - lo) z) (Oi (n - lo) z)) D)
    (hg : GLe (Γ 0 z0) G := by repeat (first | exact GLe.nil | apply GLe.skip | apply GLe.same)) (ho : Oi 0 z0 = O2 := by rfl) (hi : X.N[j]? = some x := by rfl) (hl : Loc X.env.scope x := by first | exact Or.inl rfl | exact Or.inr rfl) (hf : X.fn x = true := by rfl)
    (hgl : Gl X "range" := by rfl) (hst0 : starEach [a, b] X.env = [(false, eval a X.env), (false, eval b X.env)] := by rfl) (hst : starEach [a, b] X.env = (false, eval a X.env) :: starEach [b] X.env := by rfl) (hst2 : starEach [b] X.env = (false, eval b X.env) :: starEach [] X.env := by rfl)
    (hs : ∀ z, foldedSetIterable (.Call (.Name "range" rp) [a, b] [] rpos) X.env z = pure z := by intro _; rfl) : SS X (.For (.Name x tp) (.Call (.Name "range" rp) [a, b] [] rpos) body [] pos :: rest) (Sat B G O) D :=
  ss_of (ps_for hx hc (pi_range2 hgl hm aw hst0 (hst2.trans rfl)) (pg_name hn hi hl (.inl hf)) sw hs) fun σ H Ha s => (ea_cons hit (ea_cons hit2 ea_nil hst2) hst) σ H Ha s _ fun vs H1 Ha1 s1 k1 r1 => by
    obtain ⟨v, vs', rfl, hv, r2⟩ := r1.uncons
    obtain ⟨w, ws', rfl, hw, r3⟩ := r2.uncons
    obtain rfl := r3.unnil
    obtain rfl : v = V.int lo := hv
    obtain rfl : w = V.int n := hw
    have e0 : ((n : Int) - (lo : Int)).toNat = n - lo := by omega
    refine ⟨(lo : Int), (n : Int), rfl, ⟨by omega, by omega, by omega, by omega⟩, ?_⟩
    rw [e0]
    refine for_range (lo := (lo : Int)) (n := n - lo) (LI B J Γ Oi) ⟨z0, H1, h0, by rw [ho]; exact k1.slots (hg.slots k1.sl)⟩ (fun i σ' Hx hi ⟨z, H', hz, s'⟩ => ?_) (fun σ' Hx ⟨z, H', hz, s'⟩ => hrest z hz σ' H' Hx s')
    exact hbody i z _ (by omega) hz _ H' Hx (s'.slots (s'.sl.set j (by show V.int _ = V.int _; rw [show ((lo : Int) + (i : Int)) = ((lo + i : Nat) : Int) by omega])))
end
/-! ### defs -/
structure Par where
  cdv : Value
  A : Around
  outer : List Env
  s : Shared
  H : Hp
  E : XK
  f : Addr
abbrev XD (P : Program) (w : World) (K : PySem.W.Frag) (mg : Str → Option Value) (base : Heap) (N : List Str) (qual : Str) (scope : Scope) (p : Par) : Cx := (cxOf CX0 P w K mg base N qual scope p.f p.cdv p.A p.outer p.s p.H p.E).nox
section
variable {P : Program} {w : World} {K : PySem.W.Frag} {mg : Str → Option Value} {base : Heap} {x qual : Str} {params : Arguments} {body : List Stmt} {scope : Scope} {dvs : List V} {kws : List (Str × V)} {f : Addr} {fd : FuncData} {N ps : List Str} {k : Nat} {ι : Type}
abbrev DR (rt : VK) : Ends := { nx := fun _ H' => rt .non H', rt := rt }
theorem startSlots {H : Hp} {ts : List Ty} {vs : List V} (h : AllT H ts vs) (N : List Str) : Slots H (ts.map some ++ List.replicate (N.length - ts.length) none) (L2.start N vs) := by
  unfold L2.start
  refine ⟨by rw [List.length_append, List.length_append, List.length_map, List.length_map, List.length_replicate, List.length_replicate, h.1], fun i T e => ?_⟩
  by_cases hi : i < ts.length
  · rw [List.getElem?_append_left (by rw [List.length_map]; exact hi), List.getElem?_map] at e
    cases q : ts[i]? with
    | none => rw [q] at e; cases e
    | some U =>
      rw [q] at e
      cases e
      obtain ⟨v, hv, hp⟩ := h.get q
      refine ⟨v, ?_, hp⟩
      rw [List.getElem?_append_left (by rw [List.length_map, ← h.1]; exact hi), List.getElem?_map, hv]
      rfl
  · rw [List.getElem?_append_right (by rw [List.length_map]; omega)] at e
    have := List.mem_of_getElem? e
    have := List.eq_of_mem_replicate this
    cases this
theorem Spec.ok {S : Spec ι} (F : FunD K x qual params body scope dvs kws f fd) (sc : FnScope N ps scope) (hl : ∀ i, S.pre i → (S.args i).length = ps.length)
    (hb : ∀ (p : Par) (B : Bs) (rt : VK) (i : ι), Room k (XD P w K mg base N qual scope p).A → S.pre i → RetOk B (S.ret i) rt → SS (XD P w K mg base N qual scope p) body (Sat B ((S.args i).map some ++ List.replicate (N.length - (S.args i).length) none) []) (DR rt)) :
    FnOk P w K mg base CX0 (k + 1) f fd ps S.sp :=
  F.ok sc (fun vs H Q E ⟨i, H0, hp, _, al, _⟩ => by rw [← al.1]; exact hl i hp) fun cdv A outer s Ha vs Q E hr ⟨i, H, hp, sm, al, hQ⟩ =>
    ⟨_, PSs.nox sw, hb ⟨cdv, A, outer, s, Ha, E, f⟩ ⟨F0, H, Ha, H⟩ Q i hr hp hQ (L2.start N vs) H Ha ⟨Stp.refl sm, .refl _, startSlots al N, List.Pairwise.nil, fun q hq => nomatch hq⟩⟩
theorem Spec2.ok {S : Spec2 ι} (F : FunD K x qual params body scope dvs kws f fd) (sc : FnScope N ps scope) (hl : ∀ i, S.pre i → (S.args i).length = ps.length)
    (hb : ∀ (p : Par) (B : Bs) (rt : VK) (i : ι), Room k (XD P w K mg base N qual scope p).A → S.pre i → (B.F = fun b => b = S.l i) → B.Ha (S.l i) ≠ none → (∀ σ G v H Ha, Sat B G [(S.l i, S.c' i)] σ H Ha → (S.ret i).p v H → rt v Ha) →
      SS (XD P w K mg base N qual scope p) body (Sat B ((S.args i).map some ++ List.replicate (N.length - (S.args i).length) none) [(S.l i, S.c i)]) (DR rt)) :
    FnOk P w K mg base CX0 (k + 1) f fd ps S.sp :=
  F.ok sc (fun vs H Q E ⟨i, H0, hp, _, _, al, _⟩ => by rw [← al.1]; exact hl i hp) fun cdv A outer s Ha vs Q E hr ⟨i, H, hp, sm, hn, al, ho, hQ⟩ =>
    ⟨_, PSs.nox sw, hb ⟨cdv, A, outer, s, Ha, E, f⟩ ⟨fun b => b = S.l i, H, Ha, H⟩ Q i hr hp rfl (by obtain ⟨o, e, _⟩ := ho; rw [show (Bs.mk (fun b => b = S.l i) H Ha H).Ha = Ha from rfl, e]; exact fun z => nomatch z)
      (fun σ G v H' Ha' s' r => hQ v H' Ha' s'.st r (s'.ow.2 _ (List.mem_singleton.mpr rfl)).1 (s'.read (k := 0) rfl)) (L2.start N vs) H Ha
      ⟨Stp.refl sm, .refl _, startSlots al N, by simp, fun q hq => by
        have e : q = (S.l i, S.c i) := by simpa using hq
        subst e
        exact ⟨hn, .inr rfl, ho⟩⟩⟩
end
end Vc
set_option maxHeartbeats 4000000
/-! VcLoops: for over enumerate and zip, while -/
namespace Vc
open PySem PySem.Spec L2

theorem for_enum {K : PySem.W.Frag} {a : Addr} {xs : List V} {g : TG} {tb : TS} {D : Ends} {σ : L2.St} {H : Hp} (Pv : Nat → L2.St → Hp → Prop) (h0 : Pv 0 σ H) (hq : ∀ i σ H, Pv i σ H → SqL K H a xs)
    (hs : ∀ (i : Nat) (x : V) (T : Addr) (σ : L2.St) (H : Hp), xs[i]? = some x → Pv i σ H → H T = none → g (.ref T) σ (upd H T (.tup [.int (i : Nat), x])) fun σ2 H2 => tb { D with nx := Pv (i + 1), ct := Pv (i + 1), bk := D.nx } σ2 H2) (hd : ∀ σ H, Pv xs.length σ H → D.nx σ H) :
    ∃ W : Nat → Nat → L2.St → Hp → Prop, (∃ m, W 0 m σ H) ∧ ∀ i m σ H, W i m σ H →
      ((Ite K a).stop i H ∧ D.nx σ H) ∨ ((Ite K a).go i H ∧ ∃ N : L2.St → Hp → Prop, (∀ σ' H', N σ' H' → ∃ m', m' < m ∧ W (i + 1) m' σ' H') ∧ ∀ v H', (Ite K a).yld i H v H' → g v σ H' fun σ2 H2 => tb { D with nx := N, ct := N, bk := D.nx } σ2 H2) := by
  refine ⟨fun i m σ H => m = xs.length - i ∧ i ≤ xs.length ∧ Pv i σ H, ⟨xs.length, rfl, Nat.zero_le _, h0⟩, ?_⟩
  rintro i m σ H ⟨rfl, hi, pp⟩
  have qx := hq i σ H pp
  by_cases hlt : i < xs.length
  · have hx : xs[i]? = some xs[i] := List.getElem?_eq_getElem hlt
    refine .inr ⟨⟨xs, _, qx, hx⟩, Pv (i + 1), fun σ' H' p' => ⟨xs.length - (i + 1), by omega, rfl, hlt, p'⟩, fun v H' yy => ?_⟩
    obtain ⟨T, x', rfl, hT, rfl, f1⟩ := yy
    exact hs i x' T σ H (f1 xs qx) pp hT
  · have e : i = xs.length := by omega
    subst e
    exact .inl ⟨⟨xs, qx, Nat.le_refl _⟩, hd σ H pp⟩
theorem pg_two {X : Cx} {x y : Str} {i1 j1 : Nat} {tp tp2 pos : Pos} {kk : Nat} (hc : X.calm = true) (hn : X.N.Nodup) (hi : X.N[i1]? = some x) (hj : X.N[j1]? = some y) (hx : Loc X.env.scope x) (hy : Loc X.env.scope y) (hf : X.fn x = true) (hf2 : X.fn y = true) :
    PG X (.Tuple [.Name x tp, .Name y tp2] kk pos) (gTup X.K 2 (gCons (gName i1) (gCons (gName j1) gNil))) := by
  have h1 : PG X (.Name x tp) (gName i1) := pg_name hn hi hx (.inl hf)
  have h2 : PG X (.Name y tp2) (gName j1) := pg_name hn hj hy (.inl hf2)
  exact pg_tup hc (pgs_cons h1 (pgs_cons h2 pgs_nil))
section
variable {X : Cx} {B : Bs} {G G' : Gm} {O O1 O2 : Om} {D : Ends} {rest body : List Stmt} {a a2 c : Expr} {pos : Pos} {x y : Str} {ts us : List Ty} {ζ : Type}
/-- for i, x in enumerate(xs) -/
theorem ss_forE {tp tp2 ep epos tpos : Pos} {kk : Nat} (J : Nat → ζ → Prop) (Γ : Nat → ζ → Gm) (Oi : Nat → ζ → Om) (i1 j1 : Nat) (hc : X.calm = true) (hn : X.N.Nodup) (hx : PassesOwn (model X.prog X.w) X.A X.env X.xe) (hm : X.mg "enumerate" = none) (hit : E X B G O a (tL ts) O1) (z0 : ζ) (h0 : J 0 z0)
    (hbody : ∀ H1 i T z bk, ts[i]? = some T → J i z → SS X body (Sat (B.at H1) (((Γ i z).set i1 (some (tN i))).set j1 (some T)) (Oi i z)) (DL (B.at H1) J Γ Oi (i + 1) D.rt bk))
    (hrest : ∀ z, J ts.length z → SS X rest (Sat B (Γ ts.length z) (Oi ts.length z)) D)
    (hg : GLe (Γ 0 z0) G := by repeat (first | exact GLe.nil | apply GLe.skip | apply GLe.same)) (ho : Oi 0 z0 = O1 := by rfl) (hi : X.N[i1]? = some x := by rfl) (hj : X.N[j1]? = some y := by rfl)
    (hl : Loc X.env.scope x := by first | exact Or.inl rfl | exact Or.inr rfl) (hl2 : Loc X.env.scope y := by first | exact Or.inl rfl | exact Or.inr rfl) (hf : X.fn x = true := by rfl) (hf2 : X.fn y = true := by rfl)
    (hgl : Gl X "enumerate" := by rfl) (hst : starEach [a] X.env = [(false, eval a X.env)] := by rfl)
    (hs : ∀ z, foldedSetIterable (.Call (.Name "enumerate" ep) [a] [] epos) X.env z = pure z := by intro _; rfl) : SS X (.For (.Tuple [.Name x tp, .Name y tp2] kk tpos) (.Call (.Name "enumerate" ep) [a] [] epos) body [] pos :: rest) (Sat B G O) D :=
  ss_of (ps_for hx hc (pi_enum hgl hm aw hst) (pg_two hc hn hi hj hl hl2 hf hf2) sw hs) fun σ H Ha s => (ea_cons hit ea_nil hst) σ H Ha s _ fun vs0 H1 Ha1 s1 k1 r1 => by
    obtain ⟨v1, vs1, rfl, ⟨l1, vs, rfl, hv, al⟩, r2⟩ := r1.uncons
    obtain rfl := r2.unnil
    refine ⟨l1, vs, rfl, SqL.of (k1.ha _ _ hv), for_enum (LI (B.at H1) J Γ Oi) ⟨z0, H1, h0, by rw [ho]; exact k1.at.slots (hg.slots k1.sl)⟩ (fun i σ' Hx ⟨z, H', _, s'⟩ => SqL.of (s'.ha _ _ (s'.sn _ _ hv))) (fun i y' T σ' Hx hy ⟨z, H', hz, s'⟩ hT => ?_) (fun σ' Hx ⟨z, H', hz, s'⟩ => ?_)⟩
    · have hi : i < ts.length := by rw [al.1]; exact (List.getElem?_eq_some_iff.mp hy).1
      have hTy : ts[i]? = some ts[i] := List.getElem?_eq_getElem hi
      have s2 := s'.step (Stp.grow (o := .tup [V.int (i : Nat), y']) s'.ha hT)
      have hp : (ts[i]).p y' H' := (ts[i]).mono s'.sn (al.2 i _ y' hTy hy)
      exact ⟨T, [.int (i : Nat), y'], rfl, SqT.of upd_same, rfl, .int (i : Nat), [y'], rfl, y', [], rfl, rfl, hbody H1 i _ z _ hTy hz _ H' _ (s2.slots ((s2.sl.set i1 rfl).set j1 hp))⟩
    · rw [← al.1] at hz s'
      exact hrest z hz σ' H' Hx (s'.unat k1.sn)
/-- for x, y in zip(xs, ys), of one length -/
theorem ss_forZ {tp tp2 ep epos tpos : Pos} {kk : Nat} (J : Nat → ζ → Prop) (Γ : Nat → ζ → Gm) (Oi : Nat → ζ → Om) (i1 j1 : Nat) (hc : X.calm = true) (hn : X.N.Nodup) (hx : PassesOwn (model X.prog X.w) X.A X.env X.xe) (hm : X.mg "zip" = none) (hit : E X B G O a (tL ts) O1) (hit2 : E X B G O1 a2 (tL us) O2) (hlen : ts.length = us.length) (z0 : ζ) (h0 : J 0 z0)
    (hbody : ∀ H1 i T T' z bk, ts[i]? = some T → us[i]? = some T' → J i z → SS X body (Sat (B.at H1) (((Γ i z).set i1 (some T)).set j1 (some T')) (Oi i z)) (DL (B.at H1) J Γ Oi (i + 1) D.rt bk))
    (hrest : ∀ z, J ts.length z → SS X rest (Sat B (Γ ts.length z) (Oi ts.length z)) D)
    (hg : GLe (Γ 0 z0) G := by repeat (first | exact GLe.nil | apply GLe.skip | apply GLe.same)) (ho : Oi 0 z0 = O2 := by rfl) (hi : X.N[i1]? = some x := by rfl) (hj : X.N[j1]? = some y := by rfl)
    (hl : Loc X.env.scope x := by first | exact Or.inl rfl | exact Or.inr rfl) (hl2 : Loc X.env.scope y := by first | exact Or.inl rfl | exact Or.inr rfl) (hf : X.fn x = true := by rfl) (hf2 : X.fn y = true := by rfl)
    (hgl : Gl X "zip" := by rfl) (hst : starEach [a, a2] X.env = (false, eval a X.env) :: starEach [a2] X.env := by rfl) (hst2 : starEach [a2] X.env = (false, eval a2 X.env) :: starEach [] X.env := by rfl) (hpl : (backTo epos (starEach [a2] X.env)).any (·.1) = false := by rfl)
    (hs : ∀ z, foldedSetIterable (.Call (.Name "zip" ep) [a, a2] [] epos) X.env z = pure z := by intro _; rfl) : SS X (.For (.Tuple [.Name x tp, .Name y tp2] kk tpos) (.Call (.Name "zip" ep) [a, a2] [] epos) body [] pos :: rest) (Sat B G O) D :=
  ss_of (ps_for hx hc (pi_zip hgl hm aw hst hpl) (pg_two hc hn hi hj hl hl2 hf hf2) sw hs) fun σ H Ha s => (ea_cons hit (ea_cons hit2 ea_nil hst2) hst) σ H Ha s _ fun vs0 H1 Ha1 s1 k1 r1 => by
    obtain ⟨v1, vs1, rfl, ⟨l1, vs, rfl, hv, al⟩, r2⟩ := r1.uncons
    obtain ⟨v2, vs2, rfl, ⟨l2, ws, rfl, hw, bl⟩, r3⟩ := r2.uncons
    obtain rfl := r3.unnil
    refine ⟨l1, l2, vs, ws, rfl, SqL.of (k1.ha _ _ hv), SqL.of (k1.ha _ _ hw), RZ.for_zipL (by rw [← al.1, ← bl.1, hlen]) (LI (B.at H1) J Γ Oi) ⟨z0, H1, h0, by rw [ho]; exact k1.at.slots (hg.slots k1.sl)⟩ (fun i σ' Hx ⟨z, H', _, s'⟩ => ⟨SqL.of (s'.ha _ _ (s'.sn _ _ hv)), SqL.of (s'.ha _ _ (s'.sn _ _ hw))⟩) (fun i x' y' T σ' Hx hx hy ⟨z, H', hz, s'⟩ hT => ?_) (fun σ' Hx ⟨z, H', hz, s'⟩ => ?_)⟩
    · have hi : i < ts.length := by rw [al.1]; exact (List.getElem?_eq_some_iff.mp hx).1
      have hTy : ts[i]? = some ts[i] := List.getElem?_eq_getElem hi
      have hi2 : i < us.length := by omega
      have hTy2 : us[i]? = some us[i] := List.getElem?_eq_getElem hi2
      have s2 := s'.step (Stp.grow (o := .tup [x', y']) s'.ha hT)
      have hp : (ts[i]).p x' H' := (ts[i]).mono s'.sn (al.2 i _ x' hTy hx)
      have hp2 : (us[i]).p y' H' := (us[i]).mono s'.sn (bl.2 i _ y' hTy2 hy)
      exact ⟨T, [x', y'], rfl, SqT.of upd_same, rfl, x', [y'], rfl, y', [], rfl, rfl, hbody H1 i _ _ z _ hTy hTy2 hz _ H' _ (s2.slots ((s2.sl.set i1 hp).set j1 hp2))⟩
    · rw [← al.1] at hz s'
      exact hrest z hz σ' H' Hx (s'.unat k1.sn)
theorem ss_while {J : ζ → Prop} (Γ : ζ → Gm) (μ : ζ → Nat) (b : ζ → Bool) (hx : PassesOwn (model X.prog X.w) X.A X.env X.xe) (z0 : ζ) (h0 : J z0) (ht : ∀ z, J z → T X B (Γ z) O c (b z) O)
    (hbody : ∀ z bk, J z → b z = true → SS X body (Sat B (Γ z) O) ⟨fun σ Ha => ∃ z' H, (J z' ∧ μ z' < μ z) ∧ Sat B (Γ z') O σ H Ha, D.rt, bk, fun σ Ha => ∃ z' H, (J z' ∧ μ z' < μ z) ∧ Sat B (Γ z') O σ H Ha⟩)
    (hrest : ∀ z, J z → b z = false → SS X rest (Sat B (Γ z) O) D)
    (hg : GLe (Γ z0) G := by repeat (first | exact GLe.nil | apply GLe.skip | apply GLe.same)) : SS X (.While c body [] pos :: rest) (Sat B G O) D :=
  ss_of (ps_while hx tw sw) fun σ H Ha s => by
    refine ⟨fun m σ' Ha' => ∃ z H', (J z ∧ m = μ z) ∧ Sat B (Γ z) O σ' H' Ha', ⟨μ z0, z0, H, ⟨h0, rfl⟩, s.slots (hg.slots s.sl)⟩, ?_⟩
    rintro m σ' Ha' ⟨z, H', ⟨hz, rfl⟩, s'⟩
    refine ht z hz σ' H' Ha' s' _ fun H2 Ha2 s2 k2 => ?_
    cases hb : b z with
    | true =>
      refine iteT ⟨fun σ Ha => ∃ z' H, (J z' ∧ μ z' < μ z) ∧ Sat B (Γ z') O σ H Ha, fun σ3 Ha3 ⟨z', H3, ⟨h1, h2⟩, h3⟩ => ⟨μ z', h2, z', H3, ⟨h1, rfl⟩, h3⟩, ?_⟩
      exact hbody z _ hz hb σ' H2 Ha2 k2
    | false => exact iteF (hrest z hz hb σ' H2 Ha2 k2)
end
end Vc
set_option maxHeartbeats 4000000
/-! VcScopes: each def's slots -/
namespace Vc
open PySem L2
/- 0 lot, 1 mixers, 2 index, 3 mixer -/
abbrev N_is_lot : List Str := ["lot", "mixers", "index", "mixer"]
theorem sc_is_lot : FnScope N_is_lot ["lot", "mixers"] (defScope s_is_lot) := ⟨rfl, rfl, rfl, by decide +kernel, rfl, by decide +kernel, by decide +kernel⟩
/- 0 lot, 1 mixers, 2 mixer -/
abbrev N_holders : List Str := ["lot", "mixers", "mixer"]
theorem sc_holders : FnScope N_holders ["lot", "mixers"] (defScope s_holders) := ⟨rfl, rfl, rfl, by decide +kernel, rfl, by decide +kernel, by decide +kernel⟩
/- 0 one, 1 other, 2 mixers, 3 mixer -/
abbrev N_cover : List Str := ["one", "other", "mixers", "mixer"]
theorem sc_cover : FnScope N_cover ["one", "other", "mixers"] (defScope s_cover) := ⟨rfl, rfl, rfl, by decide +kernel, rfl, by decide +kernel, by decide +kernel⟩
/- 0 family, 1 mixers, 2 first, 3 second -/
abbrev N_covering_pair : List Str := ["family", "mixers", "first", "second"]
theorem sc_covering_pair : FnScope N_covering_pair ["family", "mixers"] (defScope s_covering_pair) := ⟨rfl, rfl, rfl, by decide +kernel, rfl, by decide +kernel, by decide +kernel⟩
/- 0 family, 1 mixers, 2 place, 3 lot, 4 pair -/
abbrev N_checked_family : List Str := ["family", "mixers", "place", "lot", "pair"]
theorem sc_checked_family : FnScope N_checked_family ["family", "mixers"] (defScope s_checked_family) := ⟨rfl, rfl, rfl, by decide +kernel, rfl, by decide +kernel, by decide +kernel⟩
/- 0 lot, 1 part, 2 mixer -/
abbrev N_contains : List Str := ["lot", "part", "mixer"]
theorem sc_contains : FnScope N_contains ["lot", "part"] (defScope s_contains) := ⟨rfl, rfl, rfl, by decide +kernel, rfl, by decide +kernel, by decide +kernel⟩
/- 0 lot, 1 family, 2 index, 3 other -/
abbrev N_stage_of : List Str := ["lot", "family", "index", "other"]
theorem sc_stage_of : FnScope N_stage_of ["lot", "family"] (defScope s_stage_of) := ⟨rfl, rfl, rfl, by decide +kernel, rfl, by decide +kernel, by decide +kernel⟩
/- 0 order -/
abbrev N_is_order : List Str := ["order"]
theorem sc_is_order : FnScope N_is_order ["order"] (defScope s_is_order) := ⟨rfl, rfl, rfl, by decide +kernel, rfl, by decide +kernel, by decide +kernel⟩
/- 0 order -/
abbrev N_checked_order : List Str := ["order"]
theorem sc_checked_order : FnScope N_checked_order ["order"] (defScope s_checked_order) := ⟨rfl, rfl, rfl, by decide +kernel, rfl, by decide +kernel, by decide +kernel⟩
/- 0 rows, 1 order, 2 place -/
abbrev N_moved : List Str := ["rows", "order", "place"]
theorem sc_moved : FnScope N_moved ["rows", "order"] (defScope s_moved) := ⟨rfl, rfl, rfl, by decide +kernel, rfl, by decide +kernel, by decide +kernel⟩
/- 0 order, 1 result, 2 row, 3 place -/
abbrev N_undone : List Str := ["order", "result", "row", "place"]
theorem sc_undone : FnScope N_undone ["order"] (defScope s_undone) := ⟨rfl, rfl, rfl, by decide +kernel, rfl, by decide +kernel, by decide +kernel⟩
/- 0 first, 1 second -/
abbrev N_chained : List Str := ["first", "second"]
theorem sc_chained : FnScope N_chained ["first", "second"] (defScope s_chained) := ⟨rfl, rfl, rfl, by decide +kernel, rfl, by decide +kernel, by decide +kernel⟩
/- 0 many, 1 result, 2 factor -/
abbrev N_factorial : List Str := ["many", "result", "factor"]
theorem sc_factorial : FnScope N_factorial ["many"] (defScope s_factorial) := ⟨rfl, rfl, rfl, by decide +kernel, rfl, by decide +kernel, by decide +kernel⟩
/- 0 many, 1 number, 2 left, 3 rest, 4 order, 5 place, 6 block -/
abbrev N_order_of_number : List Str := ["many", "number", "left", "rest", "order", "place", "block"]
theorem sc_order_of_number : FnScope N_order_of_number ["many", "number"] (defScope s_order_of_number) := ⟨rfl, rfl, rfl, by decide +kernel, rfl, by decide +kernel, by decide +kernel⟩
/- 0 order, 1 left, 2 number, 3 place, 4 row, 5 index -/
abbrev N_order_number : List Str := ["order", "left", "number", "place", "row", "index"]
theorem sc_order_number : FnScope N_order_number ["order"] (defScope s_order_number) := ⟨rfl, rfl, rfl, by decide +kernel, rfl, by decide +kernel, by decide +kernel⟩
/- 0 old, 1 new, 2 used, 3 order, 4 row, 5 found, 6 place -/
abbrev N_matching : List Str := ["old", "new", "used", "order", "row", "found", "place"]
theorem sc_matching : FnScope N_matching ["old", "new"] (defScope s_matching) := ⟨rfl, rfl, rfl, by decide +kernel, rfl, by decide +kernel, by decide +kernel⟩
/- 0 self, 1 gather, 2 order, 3 spread, 4 rows, 5 row -/
abbrev N_StageCoins_init : List Str := ["self", "gather", "order", "spread", "rows", "row"]
theorem sc_StageCoins_init : FnScope N_StageCoins_init ["self", "gather", "order", "spread"] (defScope s_StageCoins_init) := ⟨rfl, rfl, rfl, by decide +kernel, rfl, by decide +kernel, by decide +kernel⟩
/- 0 self, 1 votes, 2 stages, 3 row -/
abbrev N_RunCoins_init : List Str := ["self", "votes", "stages", "row"]
theorem sc_RunCoins_init : FnScope N_RunCoins_init ["self", "votes", "stages"] (defScope s_RunCoins_init) := ⟨rfl, rfl, rfl, by decide +kernel, rfl, by decide +kernel, by decide +kernel⟩
/- 0 mixers, 1 lot, 2 rows, 3 many -/
abbrev N_stage_size : List Str := ["mixers", "lot", "rows", "many"]
theorem sc_stage_size : FnScope N_stage_size ["mixers", "lot", "rows"] (defScope s_stage_size) := ⟨rfl, rfl, rfl, by decide +kernel, rfl, by decide +kernel, by decide +kernel⟩
/- 0 mixers, 1 family, 2 rows, 3 lot -/
abbrev N_size : List Str := ["mixers", "family", "rows", "lot"]
theorem sc_size : FnScope N_size ["mixers", "family", "rows"] (defScope s_size) := ⟨rfl, rfl, rfl, by decide +kernel, rfl, by decide +kernel, by decide +kernel⟩
/- 0 self, 1 numbers, 2 prime -/
abbrev N_Source_init : List Str := ["self", "numbers", "prime"]
theorem sc_Source_init : FnScope N_Source_init ["self", "numbers", "prime"] (defScope s_Source_init) := ⟨rfl, rfl, rfl, by decide +kernel, rfl, by decide +kernel, by decide +kernel⟩
/- 0 self -/
abbrev N_Source_number : List Str := ["self"]
theorem sc_Source_number : FnScope N_Source_number ["self"] (defScope s_Source_number) := ⟨rfl, rfl, rfl, by decide +kernel, rfl, by decide +kernel, by decide +kernel⟩
/- 0 self, 1 rows, 2 wide, 3 result, 4 row, 5 line, 6 place -/
abbrev N_Source_block : List Str := ["self", "rows", "wide", "result", "row", "line", "place"]
theorem sc_Source_block : FnScope N_Source_block ["self", "rows", "wide"] (defScope s_Source_block) := ⟨rfl, rfl, rfl, by decide +kernel, rfl, by decide +kernel, by decide +kernel⟩
/- 0 source, 1 mixers, 2 lot, 3 rows, 4 many, 5 gather, 6 order, 7 spread, 8 mixer, 9 holder -/
abbrev N_read_stage : List Str := ["source", "mixers", "lot", "rows", "many", "gather", "order", "spread", "mixer", "holder"]
theorem sc_read_stage : FnScope N_read_stage ["source", "mixers", "lot", "rows"] (defScope s_read_stage) := ⟨rfl, rfl, rfl, by decide +kernel, rfl, by decide +kernel, by decide +kernel⟩
/- 0 numbers, 1 prime, 2 mixers, 3 family, 4 rows, 5 due, 6 source, 7 votes, 8 stages, 9 lot -/
abbrev N_coins_of : List Str := ["numbers", "prime", "mixers", "family", "rows", "due", "source", "votes", "stages", "lot"]
theorem sc_coins_of : FnScope N_coins_of ["numbers", "prime", "mixers", "family", "rows"] (defScope s_coins_of) := ⟨rfl, rfl, rfl, by decide +kernel, rfl, by decide +kernel, by decide +kernel⟩
/- 0 coins, 1 numbers, 2 stage, 3 row, 4 number, 5 rows -/
abbrev N_flat : List Str := ["coins", "numbers", "stage", "row", "number", "rows"]
theorem sc_flat : FnScope N_flat ["coins"] (defScope s_flat) := ⟨rfl, rfl, rfl, by decide +kernel, rfl, by decide +kernel, by decide +kernel⟩
/- 0 number, 1 factor -/
abbrev N_is_prime : List Str := ["number", "factor"]
theorem sc_is_prime : FnScope N_is_prime ["number"] (defScope s_is_prime) := ⟨rfl, rfl, rfl, by decide +kernel, rfl, by decide +kernel, by decide +kernel⟩
/- 0 number -/
abbrev N_checked_prime : List Str := ["number"]
theorem sc_checked_prime : FnScope N_checked_prime ["number"] (defScope s_checked_prime) := ⟨rfl, rfl, rfl, by decide +kernel, rfl, by decide +kernel, by decide +kernel⟩
/- 0 prime, 1 numbers, 2 result, 3 number -/
abbrev N_total : List Str := ["prime", "numbers", "result", "number"]
theorem sc_total : FnScope N_total ["prime", "numbers"] (defScope s_total) := ⟨rfl, rfl, rfl, by decide +kernel, rfl, by decide +kernel, by decide +kernel⟩
/- 0 prime, 1 value, 2 coins, 3 pieces, 4 coin -/
abbrev N_split : List Str := ["prime", "value", "coins", "pieces", "coin"]
theorem sc_split : FnScope N_split ["prime", "value", "coins"] (defScope s_split) := ⟨rfl, rfl, rfl, by decide +kernel, rfl, by decide +kernel, by decide +kernel⟩
/- 0 prime, 1 pieces -/
abbrev N_join : List Str := ["prime", "pieces"]
theorem sc_join : FnScope N_join ["prime", "pieces"] (defScope s_join) := ⟨rfl, rfl, rfl, by decide +kernel, rfl, by decide +kernel, by decide +kernel⟩
/- 0 prime, 1 votes, 2 coins, 3 vote, 4 row -/
abbrev N_fresh_table : List Str := ["prime", "votes", "coins", "vote", "row"]
theorem sc_fresh_table : FnScope N_fresh_table ["prime", "votes", "coins"] (defScope s_fresh_table) := ⟨rfl, rfl, rfl, by decide +kernel, rfl, by decide +kernel, by decide +kernel⟩
/- 0 prime, 1 table, 2 row -/
abbrev N_values_of : List Str := ["prime", "table", "row"]
theorem sc_values_of : FnScope N_values_of ["prime", "table"] (defScope s_values_of) := ⟨rfl, rfl, rfl, by decide +kernel, rfl, by decide +kernel, by decide +kernel⟩
/- 0 self, 1 holders, 2 gathered, 3 held, 4 order -/
abbrev N_StageRecord_init : List Str := ["self", "holders", "gathered", "held", "order"]
theorem sc_StageRecord_init : FnScope N_StageRecord_init ["self", "holders", "gathered", "held", "order"] (defScope s_StageRecord_init) := ⟨rfl, rfl, rfl, by decide +kernel, rfl, by decide +kernel, by decide +kernel⟩
/- 0 mixers, 1 holders, 2 mixer -/
abbrev N_outsiders : List Str := ["mixers", "holders", "mixer"]
theorem sc_outsiders : FnScope N_outsiders ["mixers", "holders"] (defScope s_outsiders) := ⟨rfl, rfl, rfl, by decide +kernel, rfl, by decide +kernel, by decide +kernel⟩
/- 0 prime, 1 table, 2 others, 3 coins, 4 pieces, 5 mixer, 6 rows, 7 row, 8 line -/
abbrev N_gathered_pieces : List Str := ["prime", "table", "others", "coins", "pieces", "mixer", "rows", "row", "line"]
theorem sc_gathered_pieces : FnScope N_gathered_pieces ["prime", "table", "others", "coins"] (defScope s_gathered_pieces) := ⟨rfl, rfl, rfl, by decide +kernel, rfl, by decide +kernel, by decide +kernel⟩
/- 0 prime, 1 table, 2 holders, 3 pieces, 4 result, 5 number, 6 row, 7 line, 8 place, 9 holder, 10 rows -/
abbrev N_held_shares : List Str := ["prime", "table", "holders", "pieces", "result", "number", "row", "line", "place", "holder", "rows"]
theorem sc_held_shares : FnScope N_held_shares ["prime", "table", "holders", "pieces"] (defScope s_held_shares) := ⟨rfl, rfl, rfl, by decide +kernel, rfl, by decide +kernel, by decide +kernel⟩
/- 0 prime, 1 ordered, 2 many, 3 coins, 4 pieces, 5 place, 6 row, 7 line -/
abbrev N_spread_pieces : List Str := ["prime", "ordered", "many", "coins", "pieces", "place", "row", "line"]
theorem sc_spread_pieces : FnScope N_spread_pieces ["prime", "ordered", "many", "coins"] (defScope s_spread_pieces) := ⟨rfl, rfl, rfl, by decide +kernel, rfl, by decide +kernel, by decide +kernel⟩
/- 0 prime, 1 pieces, 2 mixers, 3 rows, 4 table, 5 number, 6 line, 7 mixer, 8 row -/
abbrev N_new_table : List Str := ["prime", "pieces", "mixers", "rows", "table", "number", "line", "mixer", "row"]
theorem sc_new_table : FnScope N_new_table ["prime", "pieces", "mixers", "rows"] (defScope s_new_table) := ⟨rfl, rfl, rfl, by decide +kernel, rfl, by decide +kernel, by decide +kernel⟩
/- 0 prime, 1 mixers, 2 table, 3 holders, 4 coins, 5 gathered, 6 held, 7 record -/
abbrev N_run_stage : List Str := ["prime", "mixers", "table", "holders", "coins", "gathered", "held", "record"]
theorem sc_run_stage : FnScope N_run_stage ["prime", "mixers", "table", "holders", "coins"] (defScope s_run_stage) := ⟨rfl, rfl, rfl, by decide +kernel, rfl, by decide +kernel, by decide +kernel⟩
/- 0 self, 1 prime, 2 mixers, 3 family, 4 table, 5 lot -/
abbrev N_RunRecord_init : List Str := ["self", "prime", "mixers", "family", "table", "lot"]
theorem sc_RunRecord_init : FnScope N_RunRecord_init ["self", "prime", "mixers", "family", "table"] (defScope s_RunRecord_init) := ⟨rfl, rfl, rfl, by decide +kernel, rfl, by decide +kernel, by decide +kernel⟩
/- 0 record -/
abbrev N_last_table : List Str := ["record"]
theorem sc_last_table : FnScope N_last_table ["record"] (defScope s_last_table) := ⟨rfl, rfl, rfl, by decide +kernel, rfl, by decide +kernel, by decide +kernel⟩
/- 0 prime, 1 votes, 2 vote -/
abbrev N_check_votes : List Str := ["prime", "votes", "vote"]
theorem sc_check_votes : FnScope N_check_votes ["prime", "votes"] (defScope s_check_votes) := ⟨rfl, rfl, rfl, by decide +kernel, rfl, by decide +kernel, by decide +kernel⟩
/- 0 prime, 1 mixers, 2 family, 3 votes, 4 coins, 5 lots, 6 due, 7 given, 8 record, 9 lot, 10 stage -/
abbrev N_run : List Str := ["prime", "mixers", "family", "votes", "coins", "lots", "due", "given", "record", "lot", "stage"]
theorem sc_run : FnScope N_run ["prime", "mixers", "family", "votes", "coins"] (defScope s_run) := ⟨rfl, rfl, rfl, by decide +kernel, rfl, by decide +kernel, by decide +kernel⟩
/- 0 p, 1 coins, 2 place, 3 difference, 4 row -/
abbrev N_nudged : List Str := ["p", "coins", "place", "difference", "row"]
theorem sc_nudged : FnScope N_nudged ["p", "coins", "place", "difference"] (defScope s_nudged) := ⟨rfl, rfl, rfl, by decide +kernel, rfl, by decide +kernel, by decide +kernel⟩
/- 0 p, 1 rows, 2 place, 3 differences, 4 coins, 5 difference -/
abbrev N_nudged_rows : List Str := ["p", "rows", "place", "differences", "coins", "difference"]
theorem sc_nudged_rows : FnScope N_nudged_rows ["p", "rows", "place", "differences"] (defScope s_nudged_rows) := ⟨rfl, rfl, rfl, by decide +kernel, rfl, by decide +kernel, by decide +kernel⟩
/- 0 lot, 1 mixers -/
abbrev N_carrier_of : List Str := ["lot", "mixers"]
theorem sc_carrier_of : FnScope N_carrier_of ["lot", "mixers"] (defScope s_carrier_of) := ⟨rfl, rfl, rfl, by decide +kernel, rfl, by decide +kernel, by decide +kernel⟩
/- 0 held, 1 lot, 2 carrier, 3 holder -/
abbrev N_hidden_holder : List Str := ["held", "lot", "carrier", "holder"]
theorem sc_hidden_holder : FnScope N_hidden_holder ["held", "lot", "carrier"] (defScope s_hidden_holder) := ⟨rfl, rfl, rfl, by decide +kernel, rfl, by decide +kernel, by decide +kernel⟩
/- 0 p, 1 coins, 2 held, 3 mixers, 4 carrier, 5 hidden, 6 differences, 7 gather, 8 index, 9 rows, 10 row -/
abbrev N_other_gather : List Str := ["p", "coins", "held", "mixers", "carrier", "hidden", "differences", "gather", "index", "rows", "row"]
theorem sc_other_gather : FnScope N_other_gather ["p", "coins", "held", "mixers", "carrier", "hidden", "differences"] (defScope s_other_gather) := ⟨rfl, rfl, rfl, by decide +kernel, rfl, by decide +kernel, by decide +kernel⟩
/- 0 p, 1 coins, 2 held, 3 mixers, 4 carrier, 5 hidden, 6 differences, 7 gather, 8 spread, 9 place, 10 rows, 11 row -/
abbrev N_passed_on : List Str := ["p", "coins", "held", "mixers", "carrier", "hidden", "differences", "gather", "spread", "place", "rows", "row"]
theorem sc_passed_on : FnScope N_passed_on ["p", "coins", "held", "mixers", "carrier", "hidden", "differences"] (defScope s_passed_on) := ⟨rfl, rfl, rfl, by decide +kernel, rfl, by decide +kernel, by decide +kernel⟩
/- 0 order, 1 before, 2 target, 3 back, 4 row -/
abbrev N_turned_order : List Str := ["order", "before", "target", "back", "row"]
theorem sc_turned_order : FnScope N_turned_order ["order", "before", "target"] (defScope s_turned_order) := ⟨rfl, rfl, rfl, by decide +kernel, rfl, by decide +kernel, by decide +kernel⟩
/- 0 p, 1 held_rows, 2 order, 3 other_order, 4 place, 5 differences, 6 rows, 7 index, 8 elder, 9 newer -/
abbrev N_share_differences : List Str := ["p", "held_rows", "order", "other_order", "place", "differences", "rows", "index", "elder", "newer"]
theorem sc_share_differences : FnScope N_share_differences ["p", "held_rows", "order", "other_order", "place", "differences"] (defScope s_share_differences) := ⟨rfl, rfl, rfl, by decide +kernel, rfl, by decide +kernel, by decide +kernel⟩
/- 0 p, 1 coins, 2 stage, 3 mixers, 4 carrier, 5 hidden, 6 differences, 7 order, 8 held, 9 gather, 10 spread, 11 place, 12 holder, 13 own, 14 rows -/
abbrev N_taken_away : List Str := ["p", "coins", "stage", "mixers", "carrier", "hidden", "differences", "order", "held", "gather", "spread", "place", "holder", "own", "rows"]
theorem sc_taken_away : FnScope N_taken_away ["p", "coins", "stage", "mixers", "carrier", "hidden", "differences", "order"] (defScope s_taken_away) := ⟨rfl, rfl, rfl, by decide +kernel, rfl, by decide +kernel, by decide +kernel⟩
/- 0 coins -/
abbrev N_copied : List Str := ["coins"]
theorem sc_copied : FnScope N_copied ["coins"] (defScope s_copied) := ⟨rfl, rfl, rfl, by decide +kernel, rfl, by decide +kernel, by decide +kernel⟩
/- 0 p, 1 mixers, 2 family, 3 lot, 4 votes, 5 others, 6 coins, 7 order, 8 last, 9 target, 10 record, 11 carrier, 12 differences, 13 first, 14 before, 15 stages, 16 index, 17 elder, 18 held, 19 hidden, 20 turned, 21 stage, 22 vote, 23 other -/
abbrev N_swapped : List Str := ["p", "mixers", "family", "lot", "votes", "others", "coins", "order", "last", "target", "record", "carrier", "differences", "first", "before", "stages", "index", "elder", "held", "hidden", "turned", "stage", "vote", "other"]
theorem sc_swapped : FnScope N_swapped ["p", "mixers", "family", "lot", "votes", "others", "coins", "order"] (defScope s_swapped) := ⟨rfl, rfl, rfl, by decide +kernel, rfl, by decide +kernel, by decide +kernel⟩
/- 0 _law_script, 1 _law_k -/
abbrev N__law_cell : List Str := ["_law_script", "_law_k"]
theorem sc__law_cell : FnScope N__law_cell ["_law_script", "_law_k"] (defScope s__law_cell) := ⟨rfl, rfl, rfl, by decide +kernel, rfl, by decide +kernel, by decide +kernel⟩
/- 0 _law_cell_here, 1 _law_k, 2 _law_many, 3 _law_row_here, 4 _law_seed, 5 _law_turn -/
abbrev N__law_row : List Str := ["_law_cell_here", "_law_k", "_law_many", "_law_row_here", "_law_seed", "_law_turn"]
theorem sc__law_row : FnScope N__law_row ["_law_cell_here", "_law_k", "_law_many"] (defScope s__law_row) := ⟨rfl, rfl, rfl, by decide +kernel, rfl, by decide +kernel, by decide +kernel⟩
/- 0 _law_script, 1 _law_first, 2 _law_last, 3 _law_row_here, 4 _law_k -/
abbrev N__law_box : List Str := ["_law_script", "_law_first", "_law_last", "_law_row_here", "_law_k"]
theorem sc__law_box : FnScope N__law_box ["_law_script", "_law_first", "_law_last"] (defScope s__law_box) := ⟨rfl, rfl, rfl, by decide +kernel, rfl, by decide +kernel, by decide +kernel⟩
/- 0 _law_box_here, 1 _law_many, 2 _law_at -/
abbrev N__law_draw : List Str := ["_law_box_here", "_law_many", "_law_at"]
theorem sc__law_draw : FnScope N__law_draw ["_law_box_here", "_law_many"] (defScope s__law_draw) := ⟨rfl, rfl, rfl, by decide +kernel, rfl, by decide +kernel, by decide +kernel⟩
/- 0 _law_box_here, 1 _law_mixers, 2 _law_family_here, 3 _law_turn, 4 _law_lot_here, 5 _law_fits, 6 _law_other, 7 _law_mixer -/
abbrev N__law_family : List Str := ["_law_box_here", "_law_mixers", "_law_family_here", "_law_turn", "_law_lot_here", "_law_fits", "_law_other", "_law_mixer"]
theorem sc__law_family : FnScope N__law_family ["_law_box_here", "_law_mixers"] (defScope s__law_family) := ⟨rfl, rfl, rfl, by decide +kernel, rfl, by decide +kernel, by decide +kernel⟩
/- 0 _law_lot_here, 1 _law_mixers, 2 _law_mixer -/
abbrev N__law_holders : List Str := ["_law_lot_here", "_law_mixers", "_law_mixer"]
theorem sc__law_holders : FnScope N__law_holders ["_law_lot_here", "_law_mixers"] (defScope s__law_holders) := ⟨rfl, rfl, rfl, by decide +kernel, rfl, by decide +kernel, by decide +kernel⟩
/- 0 _law_mixers, 1 _law_family_here, 2 _law_rows, 3 _law_count, 4 _law_lot_here, 5 _law_many -/
abbrev N__law_size : List Str := ["_law_mixers", "_law_family_here", "_law_rows", "_law_count", "_law_lot_here", "_law_many"]
theorem sc__law_size : FnScope N__law_size ["_law_mixers", "_law_family_here", "_law_rows"] (defScope s__law_size) := ⟨rfl, rfl, rfl, by decide +kernel, rfl, by decide +kernel, by decide +kernel⟩
/- 0 _law_script, 1 _law_most, 2 _law_box_here, 3 _law_prime, 4 _law_mixers, 5 _law_rows, 6 _law_family_here, 7 _law_small, 8 _law_votes, 9 _law_numbers, 10 _law_row_here, 11 _law_place -/
abbrev N__law_world : List Str := ["_law_script", "_law_most", "_law_box_here", "_law_prime", "_law_mixers", "_law_rows", "_law_family_here", "_law_small", "_law_votes", "_law_numbers", "_law_row_here", "_law_place"]
theorem sc__law_world : FnScope N__law_world ["_law_script", "_law_most"] (defScope s__law_world) := ⟨rfl, rfl, rfl, by decide +kernel, rfl, by decide +kernel, by decide +kernel⟩
/- 0 _law_world_here, 1 _law_rows -/
abbrev N__law_coins : List Str := ["_law_world_here", "_law_rows"]
theorem sc__law_coins : FnScope N__law_coins ["_law_world_here"] (defScope s__law_coins) := ⟨rfl, rfl, rfl, by decide +kernel, rfl, by decide +kernel, by decide +kernel⟩
/- 0 _law_coins_here, 1 _law_stages, 2 _law_stage, 3 _law_row_here -/
abbrev N__law_told_coins : List Str := ["_law_coins_here", "_law_stages", "_law_stage", "_law_row_here"]
theorem sc__law_told_coins : FnScope N__law_told_coins ["_law_coins_here"] (defScope s__law_told_coins) := ⟨rfl, rfl, rfl, by decide +kernel, rfl, by decide +kernel, by decide +kernel⟩
/- 0 _law_blocks, 1 _law_rows, 2 _law_row_here -/
abbrev N__law_deep : List Str := ["_law_blocks", "_law_rows", "_law_row_here"]
theorem sc__law_deep : FnScope N__law_deep ["_law_blocks"] (defScope s__law_deep) := ⟨rfl, rfl, rfl, by decide +kernel, rfl, by decide +kernel, by decide +kernel⟩
/- 0 _law_world_here, 1 _law_family_here, 2 _law_lot_here, 3 _law_mixer -/
abbrev N__law_lot : List Str := ["_law_world_here", "_law_family_here", "_law_lot_here", "_law_mixer"]
theorem sc__law_lot : FnScope N__law_lot ["_law_world_here"] (defScope s__law_lot) := ⟨rfl, rfl, rfl, by decide +kernel, rfl, by decide +kernel, by decide +kernel⟩
/- 0 _law_world_here, 1 _law_others_here, 2 _law_turn, 3 _law_one, 4 _law_other, 5 _law_vote -/
abbrev N__law_others : List Str := ["_law_world_here", "_law_others_here", "_law_turn", "_law_one", "_law_other", "_law_vote"]
theorem sc__law_others : FnScope N__law_others ["_law_world_here"] (defScope s__law_others) := ⟨rfl, rfl, rfl, by decide +kernel, rfl, by decide +kernel, by decide +kernel⟩
/- 0 _law_script, 1 _law_world_here, 2 _law_coins_here, 3 _law_lot_here, 4 _law_others_here, 5 _law_there, 6 _law_back -/
abbrev N_law : List Str := ["_law_script", "_law_world_here", "_law_coins_here", "_law_lot_here", "_law_others_here", "_law_there", "_law_back"]
theorem sc_law : FnScope N_law ["_law_script"] (defScope s_law) := ⟨rfl, rfl, rfl, by decide +kernel, rfl, by decide +kernel, by decide +kernel⟩
/-- the head's facts -/
structure Tx (K : PySem.W.Frag) (mg : Str → Option Value) : Prop where
  ex : ∃ h : Heap, K.In h ∧ h.Ns mainGlobals mg
  says : He.SaysD faAll fnAll K
section
variable {P : Program} {w : World} {K : PySem.W.Frag} {mg : Str → Option Value} {base : Heap}
theorem Tx.glo (T : Tx K mg) (i : Nat) {x : Str} (h : faAll[i]? = some (.glo x) := by rfl) : mg x = some (.ref (He.ga K x)) := by
  obtain ⟨h0, X, G⟩ := T.ex
  exact He.glo_ok X G (T.says.fact i h)
theorem Tx.free (T : Tx K mg) (i : Nat) {x : Str} (h : faAll[i]? = some (.free x) := by rfl) : mg x = none := by
  obtain ⟨h0, X, G⟩ := T.ex
  exact He.free_ok X G (T.says.fact i h)
theorem Tx.noat (T : Tx K mg) (i : Nat) {x f : Str} (h : faAll[i]? = some (.noat x f) := by rfl) : NoAttr K (He.ga K x) f := He.noat_ok (T.says.fact i h)
theorem Tx.cls (T : Tx K mg) (i : Nat) {x : Str} (h : faAll[i]? = some (.cls x) := by rfl) : Cls K (He.ga K x) := He.cls_ok (T.says.fact i h)
theorem Tx.mkr (T : Tx K mg) (i : Nat) {x : Str} (h : faAll[i]? = some (.mkr x) := by rfl) : Mk K (He.ga K x) (He.ma K (He.ga K x) "__init__") := He.mkr_ok (T.says.fact i h)
theorem Tx.meth (T : Tx K mg) (i : Nat) {x m : Str} (h : faAll[i]? = some (.meth x m) := by rfl) : Meth K (He.ga K x) m (He.ma K (He.ga K x) m) := He.meth_ok (T.says.fact i h)
/-- a def without defaults -/
theorem Tx.ok (T : Tx K mg) (i j : Nat) {d : He.DefD} {x : Str} {k : Nat} {ps : List Str} {sp : Sp} (hd : fnAll[i]? = some d) (hx : d.at_ = (x, none)) (hg : faAll[j]? = some (.glo x)) (hf : d.dfl = []) (hw : d.kwd = [])
    (F : ∀ fd, FunD K d.name d.qual d.params d.body d.scope [] [] (He.ga K x) fd → FnOk P w K mg base CX0 k (He.ga K x) fd ps sp)
    (hb : ∀ (kV doc pm : Value) (an : Option Addr) (cdv ct : Value) (us : List Value), us.length = ps.length → bindArgs (PySem.W.fnOf d.name d.qual d.params d.body d.scope .none kV doc pm an cdv ct) ⟨us, []⟩ = pure (ps.zip us)) : DefOk P w K mg base k x [] sp := by
  obtain ⟨fd, FD⟩ := T.says.def_ i hd
  have e1 : d.dvs K = [] := by unfold He.DefD.dvs; rw [hf]; rfl
  have e2 : d.kws K = [] := by unfold He.DefD.kws; rw [hw]; rfl
  have e3 : He.fAd K d.at_ = He.ga K x := by rw [hx]; rfl
  rw [e1, e2, e3] at FD
  exact ⟨He.ga K x, fd, ps, [], F fd FD, T.glo j hg, FD.kp, FD.bindsN hb, .nil⟩
/-- an __init__ -/
theorem Tx.okC (T : Tx K mg) (i j jc jm : Nat) {d : He.DefD} {x : Str} {k : Nat} {ps : List Str} {sp : Sp} (hd : fnAll[i]? = some d) (hx : d.at_ = (x, some ("__init__" : Str))) (hg : faAll[j]? = some (.glo x)) (hc : faAll[jc]? = some (.cls x)) (hm : faAll[jm]? = some (.mkr x)) (hf : d.dfl = []) (hw : d.kwd = [])
    (F : ∀ fd, FunD K d.name d.qual d.params d.body d.scope [] [] (He.ma K (He.ga K x) "__init__") fd → FnOk P w K mg base CX0 k (He.ma K (He.ga K x) "__init__") fd ps sp)
    (hb : ∀ (kV doc pm : Value) (an : Option Addr) (cdv ct : Value) (us : List Value), us.length = ps.length → bindArgs (PySem.W.fnOf d.name d.qual d.params d.body d.scope .none kV doc pm an cdv ct) ⟨us, []⟩ = pure (ps.zip us)) : ClsOk P w K mg base k x (He.ga K x) sp := by
  obtain ⟨fd, FD⟩ := T.says.def_ i hd
  have e1 : d.dvs K = [] := by unfold He.DefD.dvs; rw [hf]; rfl
  have e2 : d.kws K = [] := by unfold He.DefD.kws; rw [hw]; rfl
  have e3 : He.fAd K d.at_ = He.ma K (He.ga K x) "__init__" := by rw [hx]; rfl
  rw [e1, e2, e3] at FD
  exact ⟨T.cls jc hc, He.ma K (He.ga K x) "__init__", fd, ps, F fd FD, T.glo j hg, T.mkr jm hm, FD.bindsN hb⟩
end
theorem Tx.c_StageCoins {K : PySem.W.Frag} {mg : Str → Option Value} (T : Tx K mg) : Cls K (He.ga K "StageCoins") := T.cls 67
theorem Tx.n_StageCoins_gather {K : PySem.W.Frag} {mg : Str → Option Value} (T : Tx K mg) : NoAttr K (He.ga K "StageCoins") "gather" := T.noat 69
theorem Tx.n_StageCoins_order {K : PySem.W.Frag} {mg : Str → Option Value} (T : Tx K mg) : NoAttr K (He.ga K "StageCoins") "order" := T.noat 70
theorem Tx.n_StageCoins_spread {K : PySem.W.Frag} {mg : Str → Option Value} (T : Tx K mg) : NoAttr K (He.ga K "StageCoins") "spread" := T.noat 71
theorem Tx.c_RunCoins {K : PySem.W.Frag} {mg : Str → Option Value} (T : Tx K mg) : Cls K (He.ga K "RunCoins") := T.cls 72
theorem Tx.n_RunCoins_votes {K : PySem.W.Frag} {mg : Str → Option Value} (T : Tx K mg) : NoAttr K (He.ga K "RunCoins") "votes" := T.noat 74
theorem Tx.n_RunCoins_stages {K : PySem.W.Frag} {mg : Str → Option Value} (T : Tx K mg) : NoAttr K (He.ga K "RunCoins") "stages" := T.noat 75
theorem Tx.c_Source {K : PySem.W.Frag} {mg : Str → Option Value} (T : Tx K mg) : Cls K (He.ga K "Source") := T.cls 76
theorem Tx.n_Source_numbers {K : PySem.W.Frag} {mg : Str → Option Value} (T : Tx K mg) : NoAttr K (He.ga K "Source") "numbers" := T.noat 78
theorem Tx.n_Source_prime {K : PySem.W.Frag} {mg : Str → Option Value} (T : Tx K mg) : NoAttr K (He.ga K "Source") "prime" := T.noat 79
theorem Tx.n_Source_place {K : PySem.W.Frag} {mg : Str → Option Value} (T : Tx K mg) : NoAttr K (He.ga K "Source") "place" := T.noat 80
theorem Tx.c_StageRecord {K : PySem.W.Frag} {mg : Str → Option Value} (T : Tx K mg) : Cls K (He.ga K "StageRecord") := T.cls 83
theorem Tx.n_StageRecord_holders {K : PySem.W.Frag} {mg : Str → Option Value} (T : Tx K mg) : NoAttr K (He.ga K "StageRecord") "holders" := T.noat 85
theorem Tx.n_StageRecord_gathered {K : PySem.W.Frag} {mg : Str → Option Value} (T : Tx K mg) : NoAttr K (He.ga K "StageRecord") "gathered" := T.noat 86
theorem Tx.n_StageRecord_held {K : PySem.W.Frag} {mg : Str → Option Value} (T : Tx K mg) : NoAttr K (He.ga K "StageRecord") "held" := T.noat 87
theorem Tx.n_StageRecord_order {K : PySem.W.Frag} {mg : Str → Option Value} (T : Tx K mg) : NoAttr K (He.ga K "StageRecord") "order" := T.noat 88
theorem Tx.n_StageRecord_ordered {K : PySem.W.Frag} {mg : Str → Option Value} (T : Tx K mg) : NoAttr K (He.ga K "StageRecord") "ordered" := T.noat 89
theorem Tx.n_StageRecord_spread {K : PySem.W.Frag} {mg : Str → Option Value} (T : Tx K mg) : NoAttr K (He.ga K "StageRecord") "spread" := T.noat 90
theorem Tx.n_StageRecord_table {K : PySem.W.Frag} {mg : Str → Option Value} (T : Tx K mg) : NoAttr K (He.ga K "StageRecord") "table" := T.noat 91
theorem Tx.c_RunRecord {K : PySem.W.Frag} {mg : Str → Option Value} (T : Tx K mg) : Cls K (He.ga K "RunRecord") := T.cls 92
theorem Tx.n_RunRecord_prime {K : PySem.W.Frag} {mg : Str → Option Value} (T : Tx K mg) : NoAttr K (He.ga K "RunRecord") "prime" := T.noat 94
theorem Tx.n_RunRecord_mixers {K : PySem.W.Frag} {mg : Str → Option Value} (T : Tx K mg) : NoAttr K (He.ga K "RunRecord") "mixers" := T.noat 95
theorem Tx.n_RunRecord_family {K : PySem.W.Frag} {mg : Str → Option Value} (T : Tx K mg) : NoAttr K (He.ga K "RunRecord") "family" := T.noat 96
theorem Tx.n_RunRecord_table {K : PySem.W.Frag} {mg : Str → Option Value} (T : Tx K mg) : NoAttr K (He.ga K "RunRecord") "table" := T.noat 97
theorem Tx.n_RunRecord_stages {K : PySem.W.Frag} {mg : Str → Option Value} (T : Tx K mg) : NoAttr K (He.ga K "RunRecord") "stages" := T.noat 98
theorem Tx.n_RunRecord_opened {K : PySem.W.Frag} {mg : Str → Option Value} (T : Tx K mg) : NoAttr K (He.ga K "RunRecord") "opened" := T.noat 99
theorem Tx.f_range {K : PySem.W.Frag} {mg : Str → Option Value} (T : Tx K mg) : mg "range" = none := T.free 100
theorem Tx.f_len {K : PySem.W.Frag} {mg : Str → Option Value} (T : Tx K mg) : mg "len" = none := T.free 101
theorem Tx.f_enumerate {K : PySem.W.Frag} {mg : Str → Option Value} (T : Tx K mg) : mg "enumerate" = none := T.free 102
theorem Tx.f_zip {K : PySem.W.Frag} {mg : Str → Option Value} (T : Tx K mg) : mg "zip" = none := T.free 103
theorem Tx.f_list {K : PySem.W.Frag} {mg : Str → Option Value} (T : Tx K mg) : mg "list" = none := T.free 104
theorem Tx.f_sorted {K : PySem.W.Frag} {mg : Str → Option Value} (T : Tx K mg) : mg "sorted" = none := T.free 105
theorem Tx.f_sum {K : PySem.W.Frag} {mg : Str → Option Value} (T : Tx K mg) : mg "sum" = none := T.free 106
theorem Tx.f_int {K : PySem.W.Frag} {mg : Str → Option Value} (T : Tx K mg) : mg "int" = none := T.free 107
theorem Tx.f_min {K : PySem.W.Frag} {mg : Str → Option Value} (T : Tx K mg) : mg "min" = none := T.free 108
theorem Tx.f_tuple {K : PySem.W.Frag} {mg : Str → Option Value} (T : Tx K mg) : mg "tuple" = none := T.free 109
theorem Tx.k_is_lot {P : Program} {w : World} {K : PySem.W.Frag} {mg : Str → Option Value} {base : Heap} {k : Nat} {sp : Sp} (T : Tx K mg) (F : ∀ fd, FunD K "is_lot" "is_lot" (defArgs s_is_lot) (defBody s_is_lot) (defScope s_is_lot) [] [] (He.ga K "is_lot") fd → FnOk P w K mg base CX0 k (He.ga K "is_lot") fd ["lot", "mixers"] sp) : DefOk P w K mg base k "is_lot" [] sp := T.ok 0 0 (d := d_is_lot) rfl rfl rfl rfl rfl F (fun _ _ _ _ _ _ us hl => match us, hl with | [_, _], _ => rfl)
theorem Tx.k_holders {P : Program} {w : World} {K : PySem.W.Frag} {mg : Str → Option Value} {base : Heap} {k : Nat} {sp : Sp} (T : Tx K mg) (F : ∀ fd, FunD K "holders" "holders" (defArgs s_holders) (defBody s_holders) (defScope s_holders) [] [] (He.ga K "holders") fd → FnOk P w K mg base CX0 k (He.ga K "holders") fd ["lot", "mixers"] sp) : DefOk P w K mg base k "holders" [] sp := T.ok 1 1 (d := d_holders) rfl rfl rfl rfl rfl F (fun _ _ _ _ _ _ us hl => match us, hl with | [_, _], _ => rfl)
theorem Tx.k_cover {P : Program} {w : World} {K : PySem.W.Frag} {mg : Str → Option Value} {base : Heap} {k : Nat} {sp : Sp} (T : Tx K mg) (F : ∀ fd, FunD K "cover" "cover" (defArgs s_cover) (defBody s_cover) (defScope s_cover) [] [] (He.ga K "cover") fd → FnOk P w K mg base CX0 k (He.ga K "cover") fd ["one", "other", "mixers"] sp) : DefOk P w K mg base k "cover" [] sp := T.ok 2 2 (d := d_cover) rfl rfl rfl rfl rfl F (fun _ _ _ _ _ _ us hl => match us, hl with | [_, _, _], _ => rfl)
theorem Tx.k_covering_pair {P : Program} {w : World} {K : PySem.W.Frag} {mg : Str → Option Value} {base : Heap} {k : Nat} {sp : Sp} (T : Tx K mg) (F : ∀ fd, FunD K "covering_pair" "covering_pair" (defArgs s_covering_pair) (defBody s_covering_pair) (defScope s_covering_pair) [] [] (He.ga K "covering_pair") fd → FnOk P w K mg base CX0 k (He.ga K "covering_pair") fd ["family", "mixers"] sp) : DefOk P w K mg base k "covering_pair" [] sp := T.ok 3 3 (d := d_covering_pair) rfl rfl rfl rfl rfl F (fun _ _ _ _ _ _ us hl => match us, hl with | [_, _], _ => rfl)
theorem Tx.k_checked_family {P : Program} {w : World} {K : PySem.W.Frag} {mg : Str → Option Value} {base : Heap} {k : Nat} {sp : Sp} (T : Tx K mg) (F : ∀ fd, FunD K "checked_family" "checked_family" (defArgs s_checked_family) (defBody s_checked_family) (defScope s_checked_family) [] [] (He.ga K "checked_family") fd → FnOk P w K mg base CX0 k (He.ga K "checked_family") fd ["family", "mixers"] sp) : DefOk P w K mg base k "checked_family" [] sp := T.ok 4 4 (d := d_checked_family) rfl rfl rfl rfl rfl F (fun _ _ _ _ _ _ us hl => match us, hl with | [_, _], _ => rfl)
theorem Tx.k_contains {P : Program} {w : World} {K : PySem.W.Frag} {mg : Str → Option Value} {base : Heap} {k : Nat} {sp : Sp} (T : Tx K mg) (F : ∀ fd, FunD K "contains" "contains" (defArgs s_contains) (defBody s_contains) (defScope s_contains) [] [] (He.ga K "contains") fd → FnOk P w K mg base CX0 k (He.ga K "contains") fd ["lot", "part"] sp) : DefOk P w K mg base k "contains" [] sp := T.ok 5 5 (d := d_contains) rfl rfl rfl rfl rfl F (fun _ _ _ _ _ _ us hl => match us, hl with | [_, _], _ => rfl)
theorem Tx.k_stage_of {P : Program} {w : World} {K : PySem.W.Frag} {mg : Str → Option Value} {base : Heap} {k : Nat} {sp : Sp} (T : Tx K mg) (F : ∀ fd, FunD K "stage_of" "stage_of" (defArgs s_stage_of) (defBody s_stage_of) (defScope s_stage_of) [] [] (He.ga K "stage_of") fd → FnOk P w K mg base CX0 k (He.ga K "stage_of") fd ["lot", "family"] sp) : DefOk P w K mg base k "stage_of" [] sp := T.ok 6 6 (d := d_stage_of) rfl rfl rfl rfl rfl F (fun _ _ _ _ _ _ us hl => match us, hl with | [_, _], _ => rfl)
theorem Tx.k_is_order {P : Program} {w : World} {K : PySem.W.Frag} {mg : Str → Option Value} {base : Heap} {k : Nat} {sp : Sp} (T : Tx K mg) (F : ∀ fd, FunD K "is_order" "is_order" (defArgs s_is_order) (defBody s_is_order) (defScope s_is_order) [] [] (He.ga K "is_order") fd → FnOk P w K mg base CX0 k (He.ga K "is_order") fd ["order"] sp) : DefOk P w K mg base k "is_order" [] sp := T.ok 7 7 (d := d_is_order) rfl rfl rfl rfl rfl F (fun _ _ _ _ _ _ us hl => match us, hl with | [_], _ => rfl)
theorem Tx.k_checked_order {P : Program} {w : World} {K : PySem.W.Frag} {mg : Str → Option Value} {base : Heap} {k : Nat} {sp : Sp} (T : Tx K mg) (F : ∀ fd, FunD K "checked_order" "checked_order" (defArgs s_checked_order) (defBody s_checked_order) (defScope s_checked_order) [] [] (He.ga K "checked_order") fd → FnOk P w K mg base CX0 k (He.ga K "checked_order") fd ["order"] sp) : DefOk P w K mg base k "checked_order" [] sp := T.ok 8 8 (d := d_checked_order) rfl rfl rfl rfl rfl F (fun _ _ _ _ _ _ us hl => match us, hl with | [_], _ => rfl)
theorem Tx.k_moved {P : Program} {w : World} {K : PySem.W.Frag} {mg : Str → Option Value} {base : Heap} {k : Nat} {sp : Sp} (T : Tx K mg) (F : ∀ fd, FunD K "moved" "moved" (defArgs s_moved) (defBody s_moved) (defScope s_moved) [] [] (He.ga K "moved") fd → FnOk P w K mg base CX0 k (He.ga K "moved") fd ["rows", "order"] sp) : DefOk P w K mg base k "moved" [] sp := T.ok 9 9 (d := d_moved) rfl rfl rfl rfl rfl F (fun _ _ _ _ _ _ us hl => match us, hl with | [_, _], _ => rfl)
theorem Tx.k_undone {P : Program} {w : World} {K : PySem.W.Frag} {mg : Str → Option Value} {base : Heap} {k : Nat} {sp : Sp} (T : Tx K mg) (F : ∀ fd, FunD K "undone" "undone" (defArgs s_undone) (defBody s_undone) (defScope s_undone) [] [] (He.ga K "undone") fd → FnOk P w K mg base CX0 k (He.ga K "undone") fd ["order"] sp) : DefOk P w K mg base k "undone" [] sp := T.ok 10 10 (d := d_undone) rfl rfl rfl rfl rfl F (fun _ _ _ _ _ _ us hl => match us, hl with | [_], _ => rfl)
theorem Tx.k_chained {P : Program} {w : World} {K : PySem.W.Frag} {mg : Str → Option Value} {base : Heap} {k : Nat} {sp : Sp} (T : Tx K mg) (F : ∀ fd, FunD K "chained" "chained" (defArgs s_chained) (defBody s_chained) (defScope s_chained) [] [] (He.ga K "chained") fd → FnOk P w K mg base CX0 k (He.ga K "chained") fd ["first", "second"] sp) : DefOk P w K mg base k "chained" [] sp := T.ok 11 11 (d := d_chained) rfl rfl rfl rfl rfl F (fun _ _ _ _ _ _ us hl => match us, hl with | [_, _], _ => rfl)
theorem Tx.k_factorial {P : Program} {w : World} {K : PySem.W.Frag} {mg : Str → Option Value} {base : Heap} {k : Nat} {sp : Sp} (T : Tx K mg) (F : ∀ fd, FunD K "factorial" "factorial" (defArgs s_factorial) (defBody s_factorial) (defScope s_factorial) [] [] (He.ga K "factorial") fd → FnOk P w K mg base CX0 k (He.ga K "factorial") fd ["many"] sp) : DefOk P w K mg base k "factorial" [] sp := T.ok 12 12 (d := d_factorial) rfl rfl rfl rfl rfl F (fun _ _ _ _ _ _ us hl => match us, hl with | [_], _ => rfl)
theorem Tx.k_order_of_number {P : Program} {w : World} {K : PySem.W.Frag} {mg : Str → Option Value} {base : Heap} {k : Nat} {sp : Sp} (T : Tx K mg) (F : ∀ fd, FunD K "order_of_number" "order_of_number" (defArgs s_order_of_number) (defBody s_order_of_number) (defScope s_order_of_number) [] [] (He.ga K "order_of_number") fd → FnOk P w K mg base CX0 k (He.ga K "order_of_number") fd ["many", "number"] sp) : DefOk P w K mg base k "order_of_number" [] sp := T.ok 13 13 (d := d_order_of_number) rfl rfl rfl rfl rfl F (fun _ _ _ _ _ _ us hl => match us, hl with | [_, _], _ => rfl)
theorem Tx.k_order_number {P : Program} {w : World} {K : PySem.W.Frag} {mg : Str → Option Value} {base : Heap} {k : Nat} {sp : Sp} (T : Tx K mg) (F : ∀ fd, FunD K "order_number" "order_number" (defArgs s_order_number) (defBody s_order_number) (defScope s_order_number) [] [] (He.ga K "order_number") fd → FnOk P w K mg base CX0 k (He.ga K "order_number") fd ["order"] sp) : DefOk P w K mg base k "order_number" [] sp := T.ok 14 14 (d := d_order_number) rfl rfl rfl rfl rfl F (fun _ _ _ _ _ _ us hl => match us, hl with | [_], _ => rfl)
theorem Tx.k_matching {P : Program} {w : World} {K : PySem.W.Frag} {mg : Str → Option Value} {base : Heap} {k : Nat} {sp : Sp} (T : Tx K mg) (F : ∀ fd, FunD K "matching" "matching" (defArgs s_matching) (defBody s_matching) (defScope s_matching) [] [] (He.ga K "matching") fd → FnOk P w K mg base CX0 k (He.ga K "matching") fd ["old", "new"] sp) : DefOk P w K mg base k "matching" [] sp := T.ok 15 15 (d := d_matching) rfl rfl rfl rfl rfl F (fun _ _ _ _ _ _ us hl => match us, hl with | [_, _], _ => rfl)
theorem Tx.k_StageCoins_init {P : Program} {w : World} {K : PySem.W.Frag} {mg : Str → Option Value} {base : Heap} {k : Nat} {sp : Sp} (T : Tx K mg) (F : ∀ fd, FunD K "__init__" "StageCoins.__init__" (defArgs s_StageCoins_init) (defBody s_StageCoins_init) (defScope s_StageCoins_init) [] [] (He.ma K (He.ga K "StageCoins") "__init__") fd → FnOk P w K mg base CX0 k (He.ma K (He.ga K "StageCoins") "__init__") fd ["self", "gather", "order", "spread"] sp) : ClsOk P w K mg base k "StageCoins" (He.ga K "StageCoins") sp := T.okC 16 16 67 68 (d := d_StageCoins_init) rfl rfl rfl rfl rfl rfl rfl F (fun _ _ _ _ _ _ us hl => match us, hl with | [_, _, _, _], _ => rfl)
theorem Tx.k_RunCoins_init {P : Program} {w : World} {K : PySem.W.Frag} {mg : Str → Option Value} {base : Heap} {k : Nat} {sp : Sp} (T : Tx K mg) (F : ∀ fd, FunD K "__init__" "RunCoins.__init__" (defArgs s_RunCoins_init) (defBody s_RunCoins_init) (defScope s_RunCoins_init) [] [] (He.ma K (He.ga K "RunCoins") "__init__") fd → FnOk P w K mg base CX0 k (He.ma K (He.ga K "RunCoins") "__init__") fd ["self", "votes", "stages"] sp) : ClsOk P w K mg base k "RunCoins" (He.ga K "RunCoins") sp := T.okC 17 17 72 73 (d := d_RunCoins_init) rfl rfl rfl rfl rfl rfl rfl F (fun _ _ _ _ _ _ us hl => match us, hl with | [_, _, _], _ => rfl)
theorem Tx.k_stage_size {P : Program} {w : World} {K : PySem.W.Frag} {mg : Str → Option Value} {base : Heap} {k : Nat} {sp : Sp} (T : Tx K mg) (F : ∀ fd, FunD K "stage_size" "stage_size" (defArgs s_stage_size) (defBody s_stage_size) (defScope s_stage_size) [] [] (He.ga K "stage_size") fd → FnOk P w K mg base CX0 k (He.ga K "stage_size") fd ["mixers", "lot", "rows"] sp) : DefOk P w K mg base k "stage_size" [] sp := T.ok 18 18 (d := d_stage_size) rfl rfl rfl rfl rfl F (fun _ _ _ _ _ _ us hl => match us, hl with | [_, _, _], _ => rfl)
theorem Tx.k_size {P : Program} {w : World} {K : PySem.W.Frag} {mg : Str → Option Value} {base : Heap} {k : Nat} {sp : Sp} (T : Tx K mg) (F : ∀ fd, FunD K "size" "size" (defArgs s_size) (defBody s_size) (defScope s_size) [] [] (He.ga K "size") fd → FnOk P w K mg base CX0 k (He.ga K "size") fd ["mixers", "family", "rows"] sp) : DefOk P w K mg base k "size" [] sp := T.ok 19 19 (d := d_size) rfl rfl rfl rfl rfl F (fun _ _ _ _ _ _ us hl => match us, hl with | [_, _, _], _ => rfl)
theorem Tx.k_Source_init {P : Program} {w : World} {K : PySem.W.Frag} {mg : Str → Option Value} {base : Heap} {k : Nat} {sp : Sp} (T : Tx K mg) (F : ∀ fd, FunD K "__init__" "Source.__init__" (defArgs s_Source_init) (defBody s_Source_init) (defScope s_Source_init) [] [] (He.ma K (He.ga K "Source") "__init__") fd → FnOk P w K mg base CX0 k (He.ma K (He.ga K "Source") "__init__") fd ["self", "numbers", "prime"] sp) : ClsOk P w K mg base k "Source" (He.ga K "Source") sp := T.okC 20 20 76 77 (d := d_Source_init) rfl rfl rfl rfl rfl rfl rfl F (fun _ _ _ _ _ _ us hl => match us, hl with | [_, _, _], _ => rfl)
theorem Tx.k_read_stage {P : Program} {w : World} {K : PySem.W.Frag} {mg : Str → Option Value} {base : Heap} {k : Nat} {sp : Sp} (T : Tx K mg) (F : ∀ fd, FunD K "read_stage" "read_stage" (defArgs s_read_stage) (defBody s_read_stage) (defScope s_read_stage) [] [] (He.ga K "read_stage") fd → FnOk P w K mg base CX0 k (He.ga K "read_stage") fd ["source", "mixers", "lot", "rows"] sp) : DefOk P w K mg base k "read_stage" [] sp := T.ok 23 21 (d := d_read_stage) rfl rfl rfl rfl rfl F (fun _ _ _ _ _ _ us hl => match us, hl with | [_, _, _, _], _ => rfl)
theorem Tx.k_flat {P : Program} {w : World} {K : PySem.W.Frag} {mg : Str → Option Value} {base : Heap} {k : Nat} {sp : Sp} (T : Tx K mg) (F : ∀ fd, FunD K "flat" "flat" (defArgs s_flat) (defBody s_flat) (defScope s_flat) [] [] (He.ga K "flat") fd → FnOk P w K mg base CX0 k (He.ga K "flat") fd ["coins"] sp) : DefOk P w K mg base k "flat" [] sp := T.ok 25 23 (d := d_flat) rfl rfl rfl rfl rfl F (fun _ _ _ _ _ _ us hl => match us, hl with | [_], _ => rfl)
theorem Tx.k_is_prime {P : Program} {w : World} {K : PySem.W.Frag} {mg : Str → Option Value} {base : Heap} {k : Nat} {sp : Sp} (T : Tx K mg) (F : ∀ fd, FunD K "is_prime" "is_prime" (defArgs s_is_prime) (defBody s_is_prime) (defScope s_is_prime) [] [] (He.ga K "is_prime") fd → FnOk P w K mg base CX0 k (He.ga K "is_prime") fd ["number"] sp) : DefOk P w K mg base k "is_prime" [] sp := T.ok 26 24 (d := d_is_prime) rfl rfl rfl rfl rfl F (fun _ _ _ _ _ _ us hl => match us, hl with | [_], _ => rfl)
theorem Tx.k_checked_prime {P : Program} {w : World} {K : PySem.W.Frag} {mg : Str → Option Value} {base : Heap} {k : Nat} {sp : Sp} (T : Tx K mg) (F : ∀ fd, FunD K "checked_prime" "checked_prime" (defArgs s_checked_prime) (defBody s_checked_prime) (defScope s_checked_prime) [] [] (He.ga K "checked_prime") fd → FnOk P w K mg base CX0 k (He.ga K "checked_prime") fd ["number"] sp) : DefOk P w K mg base k "checked_prime" [] sp := T.ok 27 25 (d := d_checked_prime) rfl rfl rfl rfl rfl F (fun _ _ _ _ _ _ us hl => match us, hl with | [_], _ => rfl)
theorem Tx.k_total {P : Program} {w : World} {K : PySem.W.Frag} {mg : Str → Option Value} {base : Heap} {k : Nat} {sp : Sp} (T : Tx K mg) (F : ∀ fd, FunD K "total" "total" (defArgs s_total) (defBody s_total) (defScope s_total) [] [] (He.ga K "total") fd → FnOk P w K mg base CX0 k (He.ga K "total") fd ["prime", "numbers"] sp) : DefOk P w K mg base k "total" [] sp := T.ok 28 26 (d := d_total) rfl rfl rfl rfl rfl F (fun _ _ _ _ _ _ us hl => match us, hl with | [_, _], _ => rfl)
theorem Tx.k_split {P : Program} {w : World} {K : PySem.W.Frag} {mg : Str → Option Value} {base : Heap} {k : Nat} {sp : Sp} (T : Tx K mg) (F : ∀ fd, FunD K "split" "split" (defArgs s_split) (defBody s_split) (defScope s_split) [] [] (He.ga K "split") fd → FnOk P w K mg base CX0 k (He.ga K "split") fd ["prime", "value", "coins"] sp) : DefOk P w K mg base k "split" [] sp := T.ok 29 27 (d := d_split) rfl rfl rfl rfl rfl F (fun _ _ _ _ _ _ us hl => match us, hl with | [_, _, _], _ => rfl)
theorem Tx.k_join {P : Program} {w : World} {K : PySem.W.Frag} {mg : Str → Option Value} {base : Heap} {k : Nat} {sp : Sp} (T : Tx K mg) (F : ∀ fd, FunD K "join" "join" (defArgs s_join) (defBody s_join) (defScope s_join) [] [] (He.ga K "join") fd → FnOk P w K mg base CX0 k (He.ga K "join") fd ["prime", "pieces"] sp) : DefOk P w K mg base k "join" [] sp := T.ok 30 28 (d := d_join) rfl rfl rfl rfl rfl F (fun _ _ _ _ _ _ us hl => match us, hl with | [_, _], _ => rfl)
theorem Tx.k_fresh_table {P : Program} {w : World} {K : PySem.W.Frag} {mg : Str → Option Value} {base : Heap} {k : Nat} {sp : Sp} (T : Tx K mg) (F : ∀ fd, FunD K "fresh_table" "fresh_table" (defArgs s_fresh_table) (defBody s_fresh_table) (defScope s_fresh_table) [] [] (He.ga K "fresh_table") fd → FnOk P w K mg base CX0 k (He.ga K "fresh_table") fd ["prime", "votes", "coins"] sp) : DefOk P w K mg base k "fresh_table" [] sp := T.ok 31 29 (d := d_fresh_table) rfl rfl rfl rfl rfl F (fun _ _ _ _ _ _ us hl => match us, hl with | [_, _, _], _ => rfl)
theorem Tx.k_values_of {P : Program} {w : World} {K : PySem.W.Frag} {mg : Str → Option Value} {base : Heap} {k : Nat} {sp : Sp} (T : Tx K mg) (F : ∀ fd, FunD K "values_of" "values_of" (defArgs s_values_of) (defBody s_values_of) (defScope s_values_of) [] [] (He.ga K "values_of") fd → FnOk P w K mg base CX0 k (He.ga K "values_of") fd ["prime", "table"] sp) : DefOk P w K mg base k "values_of" [] sp := T.ok 32 30 (d := d_values_of) rfl rfl rfl rfl rfl F (fun _ _ _ _ _ _ us hl => match us, hl with | [_, _], _ => rfl)
theorem Tx.k_StageRecord_init {P : Program} {w : World} {K : PySem.W.Frag} {mg : Str → Option Value} {base : Heap} {k : Nat} {sp : Sp} (T : Tx K mg) (F : ∀ fd, FunD K "__init__" "StageRecord.__init__" (defArgs s_StageRecord_init) (defBody s_StageRecord_init) (defScope s_StageRecord_init) [] [] (He.ma K (He.ga K "StageRecord") "__init__") fd → FnOk P w K mg base CX0 k (He.ma K (He.ga K "StageRecord") "__init__") fd ["self", "holders", "gathered", "held", "order"] sp) : ClsOk P w K mg base k "StageRecord" (He.ga K "StageRecord") sp := T.okC 33 31 83 84 (d := d_StageRecord_init) rfl rfl rfl rfl rfl rfl rfl F (fun _ _ _ _ _ _ us hl => match us, hl with | [_, _, _, _, _], _ => rfl)
theorem Tx.k_outsiders {P : Program} {w : World} {K : PySem.W.Frag} {mg : Str → Option Value} {base : Heap} {k : Nat} {sp : Sp} (T : Tx K mg) (F : ∀ fd, FunD K "outsiders" "outsiders" (defArgs s_outsiders) (defBody s_outsiders) (defScope s_outsiders) [] [] (He.ga K "outsiders") fd → FnOk P w K mg base CX0 k (He.ga K "outsiders") fd ["mixers", "holders"] sp) : DefOk P w K mg base k "outsiders" [] sp := T.ok 34 32 (d := d_outsiders) rfl rfl rfl rfl rfl F (fun _ _ _ _ _ _ us hl => match us, hl with | [_, _], _ => rfl)
theorem Tx.k_gathered_pieces {P : Program} {w : World} {K : PySem.W.Frag} {mg : Str → Option Value} {base : Heap} {k : Nat} {sp : Sp} (T : Tx K mg) (F : ∀ fd, FunD K "gathered_pieces" "gathered_pieces" (defArgs s_gathered_pieces) (defBody s_gathered_pieces) (defScope s_gathered_pieces) [] [] (He.ga K "gathered_pieces") fd → FnOk P w K mg base CX0 k (He.ga K "gathered_pieces") fd ["prime", "table", "others", "coins"] sp) : DefOk P w K mg base k "gathered_pieces" [] sp := T.ok 35 33 (d := d_gathered_pieces) rfl rfl rfl rfl rfl F (fun _ _ _ _ _ _ us hl => match us, hl with | [_, _, _, _], _ => rfl)
theorem Tx.k_held_shares {P : Program} {w : World} {K : PySem.W.Frag} {mg : Str → Option Value} {base : Heap} {k : Nat} {sp : Sp} (T : Tx K mg) (F : ∀ fd, FunD K "held_shares" "held_shares" (defArgs s_held_shares) (defBody s_held_shares) (defScope s_held_shares) [] [] (He.ga K "held_shares") fd → FnOk P w K mg base CX0 k (He.ga K "held_shares") fd ["prime", "table", "holders", "pieces"] sp) : DefOk P w K mg base k "held_shares" [] sp := T.ok 36 34 (d := d_held_shares) rfl rfl rfl rfl rfl F (fun _ _ _ _ _ _ us hl => match us, hl with | [_, _, _, _], _ => rfl)
theorem Tx.k_spread_pieces {P : Program} {w : World} {K : PySem.W.Frag} {mg : Str → Option Value} {base : Heap} {k : Nat} {sp : Sp} (T : Tx K mg) (F : ∀ fd, FunD K "spread_pieces" "spread_pieces" (defArgs s_spread_pieces) (defBody s_spread_pieces) (defScope s_spread_pieces) [] [] (He.ga K "spread_pieces") fd → FnOk P w K mg base CX0 k (He.ga K "spread_pieces") fd ["prime", "ordered", "many", "coins"] sp) : DefOk P w K mg base k "spread_pieces" [] sp := T.ok 37 35 (d := d_spread_pieces) rfl rfl rfl rfl rfl F (fun _ _ _ _ _ _ us hl => match us, hl with | [_, _, _, _], _ => rfl)
theorem Tx.k_new_table {P : Program} {w : World} {K : PySem.W.Frag} {mg : Str → Option Value} {base : Heap} {k : Nat} {sp : Sp} (T : Tx K mg) (F : ∀ fd, FunD K "new_table" "new_table" (defArgs s_new_table) (defBody s_new_table) (defScope s_new_table) [] [] (He.ga K "new_table") fd → FnOk P w K mg base CX0 k (He.ga K "new_table") fd ["prime", "pieces", "mixers", "rows"] sp) : DefOk P w K mg base k "new_table" [] sp := T.ok 38 36 (d := d_new_table) rfl rfl rfl rfl rfl F (fun _ _ _ _ _ _ us hl => match us, hl with | [_, _, _, _], _ => rfl)
theorem Tx.k_run_stage {P : Program} {w : World} {K : PySem.W.Frag} {mg : Str → Option Value} {base : Heap} {k : Nat} {sp : Sp} (T : Tx K mg) (F : ∀ fd, FunD K "run_stage" "run_stage" (defArgs s_run_stage) (defBody s_run_stage) (defScope s_run_stage) [] [] (He.ga K "run_stage") fd → FnOk P w K mg base CX0 k (He.ga K "run_stage") fd ["prime", "mixers", "table", "holders", "coins"] sp) : DefOk P w K mg base k "run_stage" [] sp := T.ok 39 37 (d := d_run_stage) rfl rfl rfl rfl rfl F (fun _ _ _ _ _ _ us hl => match us, hl with | [_, _, _, _, _], _ => rfl)
theorem Tx.k_RunRecord_init {P : Program} {w : World} {K : PySem.W.Frag} {mg : Str → Option Value} {base : Heap} {k : Nat} {sp : Sp} (T : Tx K mg) (F : ∀ fd, FunD K "__init__" "RunRecord.__init__" (defArgs s_RunRecord_init) (defBody s_RunRecord_init) (defScope s_RunRecord_init) [] [] (He.ma K (He.ga K "RunRecord") "__init__") fd → FnOk P w K mg base CX0 k (He.ma K (He.ga K "RunRecord") "__init__") fd ["self", "prime", "mixers", "family", "table"] sp) : ClsOk P w K mg base k "RunRecord" (He.ga K "RunRecord") sp := T.okC 40 38 92 93 (d := d_RunRecord_init) rfl rfl rfl rfl rfl rfl rfl F (fun _ _ _ _ _ _ us hl => match us, hl with | [_, _, _, _, _], _ => rfl)
theorem Tx.k_last_table {P : Program} {w : World} {K : PySem.W.Frag} {mg : Str → Option Value} {base : Heap} {k : Nat} {sp : Sp} (T : Tx K mg) (F : ∀ fd, FunD K "last_table" "last_table" (defArgs s_last_table) (defBody s_last_table) (defScope s_last_table) [] [] (He.ga K "last_table") fd → FnOk P w K mg base CX0 k (He.ga K "last_table") fd ["record"] sp) : DefOk P w K mg base k "last_table" [] sp := T.ok 41 39 (d := d_last_table) rfl rfl rfl rfl rfl F (fun _ _ _ _ _ _ us hl => match us, hl with | [_], _ => rfl)
theorem Tx.k_check_votes {P : Program} {w : World} {K : PySem.W.Frag} {mg : Str → Option Value} {base : Heap} {k : Nat} {sp : Sp} (T : Tx K mg) (F : ∀ fd, FunD K "check_votes" "check_votes" (defArgs s_check_votes) (defBody s_check_votes) (defScope s_check_votes) [] [] (He.ga K "check_votes") fd → FnOk P w K mg base CX0 k (He.ga K "check_votes") fd ["prime", "votes"] sp) : DefOk P w K mg base k "check_votes" [] sp := T.ok 42 40 (d := d_check_votes) rfl rfl rfl rfl rfl F (fun _ _ _ _ _ _ us hl => match us, hl with | [_, _], _ => rfl)
theorem Tx.k_run {P : Program} {w : World} {K : PySem.W.Frag} {mg : Str → Option Value} {base : Heap} {k : Nat} {sp : Sp} (T : Tx K mg) (F : ∀ fd, FunD K "run" "run" (defArgs s_run) (defBody s_run) (defScope s_run) [] [] (He.ga K "run") fd → FnOk P w K mg base CX0 k (He.ga K "run") fd ["prime", "mixers", "family", "votes", "coins"] sp) : DefOk P w K mg base k "run" [] sp := T.ok 43 41 (d := d_run) rfl rfl rfl rfl rfl F (fun _ _ _ _ _ _ us hl => match us, hl with | [_, _, _, _, _], _ => rfl)
theorem Tx.k_nudged {P : Program} {w : World} {K : PySem.W.Frag} {mg : Str → Option Value} {base : Heap} {k : Nat} {sp : Sp} (T : Tx K mg) (F : ∀ fd, FunD K "nudged" "nudged" (defArgs s_nudged) (defBody s_nudged) (defScope s_nudged) [] [] (He.ga K "nudged") fd → FnOk P w K mg base CX0 k (He.ga K "nudged") fd ["p", "coins", "place", "difference"] sp) : DefOk P w K mg base k "nudged" [] sp := T.ok 44 42 (d := d_nudged) rfl rfl rfl rfl rfl F (fun _ _ _ _ _ _ us hl => match us, hl with | [_, _, _, _], _ => rfl)
theorem Tx.k_nudged_rows {P : Program} {w : World} {K : PySem.W.Frag} {mg : Str → Option Value} {base : Heap} {k : Nat} {sp : Sp} (T : Tx K mg) (F : ∀ fd, FunD K "nudged_rows" "nudged_rows" (defArgs s_nudged_rows) (defBody s_nudged_rows) (defScope s_nudged_rows) [] [] (He.ga K "nudged_rows") fd → FnOk P w K mg base CX0 k (He.ga K "nudged_rows") fd ["p", "rows", "place", "differences"] sp) : DefOk P w K mg base k "nudged_rows" [] sp := T.ok 45 43 (d := d_nudged_rows) rfl rfl rfl rfl rfl F (fun _ _ _ _ _ _ us hl => match us, hl with | [_, _, _, _], _ => rfl)
theorem Tx.k_carrier_of {P : Program} {w : World} {K : PySem.W.Frag} {mg : Str → Option Value} {base : Heap} {k : Nat} {sp : Sp} (T : Tx K mg) (F : ∀ fd, FunD K "carrier_of" "carrier_of" (defArgs s_carrier_of) (defBody s_carrier_of) (defScope s_carrier_of) [] [] (He.ga K "carrier_of") fd → FnOk P w K mg base CX0 k (He.ga K "carrier_of") fd ["lot", "mixers"] sp) : DefOk P w K mg base k "carrier_of" [] sp := T.ok 46 44 (d := d_carrier_of) rfl rfl rfl rfl rfl F (fun _ _ _ _ _ _ us hl => match us, hl with | [_, _], _ => rfl)
theorem Tx.k_hidden_holder {P : Program} {w : World} {K : PySem.W.Frag} {mg : Str → Option Value} {base : Heap} {k : Nat} {sp : Sp} (T : Tx K mg) (F : ∀ fd, FunD K "hidden_holder" "hidden_holder" (defArgs s_hidden_holder) (defBody s_hidden_holder) (defScope s_hidden_holder) [] [] (He.ga K "hidden_holder") fd → FnOk P w K mg base CX0 k (He.ga K "hidden_holder") fd ["held", "lot", "carrier"] sp) : DefOk P w K mg base k "hidden_holder" [] sp := T.ok 47 45 (d := d_hidden_holder) rfl rfl rfl rfl rfl F (fun _ _ _ _ _ _ us hl => match us, hl with | [_, _, _], _ => rfl)
theorem Tx.k_other_gather {P : Program} {w : World} {K : PySem.W.Frag} {mg : Str → Option Value} {base : Heap} {k : Nat} {sp : Sp} (T : Tx K mg) (F : ∀ fd, FunD K "other_gather" "other_gather" (defArgs s_other_gather) (defBody s_other_gather) (defScope s_other_gather) [] [] (He.ga K "other_gather") fd → FnOk P w K mg base CX0 k (He.ga K "other_gather") fd ["p", "coins", "held", "mixers", "carrier", "hidden", "differences"] sp) : DefOk P w K mg base k "other_gather" [] sp := T.ok 48 46 (d := d_other_gather) rfl rfl rfl rfl rfl F (fun _ _ _ _ _ _ us hl => match us, hl with | [_, _, _, _, _, _, _], _ => rfl)
theorem Tx.k_passed_on {P : Program} {w : World} {K : PySem.W.Frag} {mg : Str → Option Value} {base : Heap} {k : Nat} {sp : Sp} (T : Tx K mg) (F : ∀ fd, FunD K "passed_on" "passed_on" (defArgs s_passed_on) (defBody s_passed_on) (defScope s_passed_on) [] [] (He.ga K "passed_on") fd → FnOk P w K mg base CX0 k (He.ga K "passed_on") fd ["p", "coins", "held", "mixers", "carrier", "hidden", "differences"] sp) : DefOk P w K mg base k "passed_on" [] sp := T.ok 49 47 (d := d_passed_on) rfl rfl rfl rfl rfl F (fun _ _ _ _ _ _ us hl => match us, hl with | [_, _, _, _, _, _, _], _ => rfl)
theorem Tx.k_turned_order {P : Program} {w : World} {K : PySem.W.Frag} {mg : Str → Option Value} {base : Heap} {k : Nat} {sp : Sp} (T : Tx K mg) (F : ∀ fd, FunD K "turned_order" "turned_order" (defArgs s_turned_order) (defBody s_turned_order) (defScope s_turned_order) [] [] (He.ga K "turned_order") fd → FnOk P w K mg base CX0 k (He.ga K "turned_order") fd ["order", "before", "target"] sp) : DefOk P w K mg base k "turned_order" [] sp := T.ok 50 48 (d := d_turned_order) rfl rfl rfl rfl rfl F (fun _ _ _ _ _ _ us hl => match us, hl with | [_, _, _], _ => rfl)
theorem Tx.k_share_differences {P : Program} {w : World} {K : PySem.W.Frag} {mg : Str → Option Value} {base : Heap} {k : Nat} {sp : Sp} (T : Tx K mg) (F : ∀ fd, FunD K "share_differences" "share_differences" (defArgs s_share_differences) (defBody s_share_differences) (defScope s_share_differences) [] [] (He.ga K "share_differences") fd → FnOk P w K mg base CX0 k (He.ga K "share_differences") fd ["p", "held_rows", "order", "other_order", "place", "differences"] sp) : DefOk P w K mg base k "share_differences" [] sp := T.ok 51 49 (d := d_share_differences) rfl rfl rfl rfl rfl F (fun _ _ _ _ _ _ us hl => match us, hl with | [_, _, _, _, _, _], _ => rfl)
theorem Tx.k_taken_away {P : Program} {w : World} {K : PySem.W.Frag} {mg : Str → Option Value} {base : Heap} {k : Nat} {sp : Sp} (T : Tx K mg) (F : ∀ fd, FunD K "taken_away" "taken_away" (defArgs s_taken_away) (defBody s_taken_away) (defScope s_taken_away) [] [] (He.ga K "taken_away") fd → FnOk P w K mg base CX0 k (He.ga K "taken_away") fd ["p", "coins", "stage", "mixers", "carrier", "hidden", "differences", "order"] sp) : DefOk P w K mg base k "taken_away" [] sp := T.ok 52 50 (d := d_taken_away) rfl rfl rfl rfl rfl F (fun _ _ _ _ _ _ us hl => match us, hl with | [_, _, _, _, _, _, _, _], _ => rfl)
theorem Tx.k_copied {P : Program} {w : World} {K : PySem.W.Frag} {mg : Str → Option Value} {base : Heap} {k : Nat} {sp : Sp} (T : Tx K mg) (F : ∀ fd, FunD K "copied" "copied" (defArgs s_copied) (defBody s_copied) (defScope s_copied) [] [] (He.ga K "copied") fd → FnOk P w K mg base CX0 k (He.ga K "copied") fd ["coins"] sp) : DefOk P w K mg base k "copied" [] sp := T.ok 53 51 (d := d_copied) rfl rfl rfl rfl rfl F (fun _ _ _ _ _ _ us hl => match us, hl with | [_], _ => rfl)
theorem Tx.k__law_cell {P : Program} {w : World} {K : PySem.W.Frag} {mg : Str → Option Value} {base : Heap} {k : Nat} {sp : Sp} (T : Tx K mg) (F : ∀ fd, FunD K "_law_cell" "_law_cell" (defArgs s__law_cell) (defBody s__law_cell) (defScope s__law_cell) [] [] (He.ga K "_law_cell") fd → FnOk P w K mg base CX0 k (He.ga K "_law_cell") fd ["_law_script", "_law_k"] sp) : DefOk P w K mg base k "_law_cell" [] sp := T.ok 55 53 (d := d__law_cell) rfl rfl rfl rfl rfl F (fun _ _ _ _ _ _ us hl => match us, hl with | [_, _], _ => rfl)
theorem Tx.k__law_row {P : Program} {w : World} {K : PySem.W.Frag} {mg : Str → Option Value} {base : Heap} {k : Nat} {sp : Sp} (T : Tx K mg) (F : ∀ fd, FunD K "_law_row" "_law_row" (defArgs s__law_row) (defBody s__law_row) (defScope s__law_row) [] [] (He.ga K "_law_row") fd → FnOk P w K mg base CX0 k (He.ga K "_law_row") fd ["_law_cell_here", "_law_k", "_law_many"] sp) : DefOk P w K mg base k "_law_row" [] sp := T.ok 56 54 (d := d__law_row) rfl rfl rfl rfl rfl F (fun _ _ _ _ _ _ us hl => match us, hl with | [_, _, _], _ => rfl)
theorem Tx.k__law_box {P : Program} {w : World} {K : PySem.W.Frag} {mg : Str → Option Value} {base : Heap} {k : Nat} {sp : Sp} (T : Tx K mg) (F : ∀ fd, FunD K "_law_box" "_law_box" (defArgs s__law_box) (defBody s__law_box) (defScope s__law_box) [] [] (He.ga K "_law_box") fd → FnOk P w K mg base CX0 k (He.ga K "_law_box") fd ["_law_script", "_law_first", "_law_last"] sp) : DefOk P w K mg base k "_law_box" [] sp := T.ok 57 55 (d := d__law_box) rfl rfl rfl rfl rfl F (fun _ _ _ _ _ _ us hl => match us, hl with | [_, _, _], _ => rfl)
theorem Tx.k__law_draw {P : Program} {w : World} {K : PySem.W.Frag} {mg : Str → Option Value} {base : Heap} {k : Nat} {sp : Sp} (T : Tx K mg) (F : ∀ fd, FunD K "_law_draw" "_law_draw" (defArgs s__law_draw) (defBody s__law_draw) (defScope s__law_draw) [] [] (He.ga K "_law_draw") fd → FnOk P w K mg base CX0 k (He.ga K "_law_draw") fd ["_law_box_here", "_law_many"] sp) : DefOk P w K mg base k "_law_draw" [] sp := T.ok 58 56 (d := d__law_draw) rfl rfl rfl rfl rfl F (fun _ _ _ _ _ _ us hl => match us, hl with | [_, _], _ => rfl)
theorem Tx.k__law_family {P : Program} {w : World} {K : PySem.W.Frag} {mg : Str → Option Value} {base : Heap} {k : Nat} {sp : Sp} (T : Tx K mg) (F : ∀ fd, FunD K "_law_family" "_law_family" (defArgs s__law_family) (defBody s__law_family) (defScope s__law_family) [] [] (He.ga K "_law_family") fd → FnOk P w K mg base CX0 k (He.ga K "_law_family") fd ["_law_box_here", "_law_mixers"] sp) : DefOk P w K mg base k "_law_family" [] sp := T.ok 59 57 (d := d__law_family) rfl rfl rfl rfl rfl F (fun _ _ _ _ _ _ us hl => match us, hl with | [_, _], _ => rfl)
theorem Tx.k__law_holders {P : Program} {w : World} {K : PySem.W.Frag} {mg : Str → Option Value} {base : Heap} {k : Nat} {sp : Sp} (T : Tx K mg) (F : ∀ fd, FunD K "_law_holders" "_law_holders" (defArgs s__law_holders) (defBody s__law_holders) (defScope s__law_holders) [] [] (He.ga K "_law_holders") fd → FnOk P w K mg base CX0 k (He.ga K "_law_holders") fd ["_law_lot_here", "_law_mixers"] sp) : DefOk P w K mg base k "_law_holders" [] sp := T.ok 60 58 (d := d__law_holders) rfl rfl rfl rfl rfl F (fun _ _ _ _ _ _ us hl => match us, hl with | [_, _], _ => rfl)
theorem Tx.k__law_size {P : Program} {w : World} {K : PySem.W.Frag} {mg : Str → Option Value} {base : Heap} {k : Nat} {sp : Sp} (T : Tx K mg) (F : ∀ fd, FunD K "_law_size" "_law_size" (defArgs s__law_size) (defBody s__law_size) (defScope s__law_size) [] [] (He.ga K "_law_size") fd → FnOk P w K mg base CX0 k (He.ga K "_law_size") fd ["_law_mixers", "_law_family_here", "_law_rows"] sp) : DefOk P w K mg base k "_law_size" [] sp := T.ok 61 59 (d := d__law_size) rfl rfl rfl rfl rfl F (fun _ _ _ _ _ _ us hl => match us, hl with | [_, _, _], _ => rfl)
theorem Tx.k__law_world {P : Program} {w : World} {K : PySem.W.Frag} {mg : Str → Option Value} {base : Heap} {k : Nat} {sp : Sp} (T : Tx K mg) (F : ∀ fd, FunD K "_law_world" "_law_world" (defArgs s__law_world) (defBody s__law_world) (defScope s__law_world) [] [] (He.ga K "_law_world") fd → FnOk P w K mg base CX0 k (He.ga K "_law_world") fd ["_law_script", "_law_most"] sp) : DefOk P w K mg base k "_law_world" [] sp := T.ok 62 60 (d := d__law_world) rfl rfl rfl rfl rfl F (fun _ _ _ _ _ _ us hl => match us, hl with | [_, _], _ => rfl)
theorem Tx.k__law_coins {P : Program} {w : World} {K : PySem.W.Frag} {mg : Str → Option Value} {base : Heap} {k : Nat} {sp : Sp} (T : Tx K mg) (F : ∀ fd, FunD K "_law_coins" "_law_coins" (defArgs s__law_coins) (defBody s__law_coins) (defScope s__law_coins) [] [] (He.ga K "_law_coins") fd → FnOk P w K mg base CX0 k (He.ga K "_law_coins") fd ["_law_world_here"] sp) : DefOk P w K mg base k "_law_coins" [] sp := T.ok 63 61 (d := d__law_coins) rfl rfl rfl rfl rfl F (fun _ _ _ _ _ _ us hl => match us, hl with | [_], _ => rfl)
theorem Tx.k__law_told_coins {P : Program} {w : World} {K : PySem.W.Frag} {mg : Str → Option Value} {base : Heap} {k : Nat} {sp : Sp} (T : Tx K mg) (F : ∀ fd, FunD K "_law_told_coins" "_law_told_coins" (defArgs s__law_told_coins) (defBody s__law_told_coins) (defScope s__law_told_coins) [] [] (He.ga K "_law_told_coins") fd → FnOk P w K mg base CX0 k (He.ga K "_law_told_coins") fd ["_law_coins_here"] sp) : DefOk P w K mg base k "_law_told_coins" [] sp := T.ok 64 62 (d := d__law_told_coins) rfl rfl rfl rfl rfl F (fun _ _ _ _ _ _ us hl => match us, hl with | [_], _ => rfl)
theorem Tx.k__law_deep {P : Program} {w : World} {K : PySem.W.Frag} {mg : Str → Option Value} {base : Heap} {k : Nat} {sp : Sp} (T : Tx K mg) (F : ∀ fd, FunD K "_law_deep" "_law_deep" (defArgs s__law_deep) (defBody s__law_deep) (defScope s__law_deep) [] [] (He.ga K "_law_deep") fd → FnOk P w K mg base CX0 k (He.ga K "_law_deep") fd ["_law_blocks"] sp) : DefOk P w K mg base k "_law_deep" [] sp := T.ok 65 63 (d := d__law_deep) rfl rfl rfl rfl rfl F (fun _ _ _ _ _ _ us hl => match us, hl with | [_], _ => rfl)
theorem Tx.k__law_lot {P : Program} {w : World} {K : PySem.W.Frag} {mg : Str → Option Value} {base : Heap} {k : Nat} {sp : Sp} (T : Tx K mg) (F : ∀ fd, FunD K "_law_lot" "_law_lot" (defArgs s__law_lot) (defBody s__law_lot) (defScope s__law_lot) [] [] (He.ga K "_law_lot") fd → FnOk P w K mg base CX0 k (He.ga K "_law_lot") fd ["_law_world_here"] sp) : DefOk P w K mg base k "_law_lot" [] sp := T.ok 66 64 (d := d__law_lot) rfl rfl rfl rfl rfl F (fun _ _ _ _ _ _ us hl => match us, hl with | [_], _ => rfl)
theorem Tx.k__law_others {P : Program} {w : World} {K : PySem.W.Frag} {mg : Str → Option Value} {base : Heap} {k : Nat} {sp : Sp} (T : Tx K mg) (F : ∀ fd, FunD K "_law_others" "_law_others" (defArgs s__law_others) (defBody s__law_others) (defScope s__law_others) [] [] (He.ga K "_law_others") fd → FnOk P w K mg base CX0 k (He.ga K "_law_others") fd ["_law_world_here"] sp) : DefOk P w K mg base k "_law_others" [] sp := T.ok 67 65 (d := d__law_others) rfl rfl rfl rfl rfl F (fun _ _ _ _ _ _ us hl => match us, hl with | [_], _ => rfl)
theorem Tx.k_law {P : Program} {w : World} {K : PySem.W.Frag} {mg : Str → Option Value} {base : Heap} {k : Nat} {sp : Sp} (T : Tx K mg) (F : ∀ fd, FunD K "law" "law" (defArgs s_law) (defBody s_law) (defScope s_law) [] [] (He.ga K "law") fd → FnOk P w K mg base CX0 k (He.ga K "law") fd ["_law_script"] sp) : DefOk P w K mg base k "law" [] sp := T.ok 68 66 (d := d_law) rfl rfl rfl rfl rfl F (fun _ _ _ _ _ _ us hl => match us, hl with | [_], _ => rfl)
end Vc
set_option maxHeartbeats 4000000
/-! VcD1: lots -/
namespace Vc
open PySem PySem.Spec L2
abbrev tNs (xs : List Nat) : Ty := tL (xs.map tN)
abbrev tIs (xs : List Int) : Ty := tL (xs.map tI)
abbrev tM (m : List (List Int)) : Ty := tL (m.map tIs)
abbrev tM3 (m : List (List (List Int))) : Ty := tL (m.map tM)
abbrev tF (m : List (List Nat)) : Ty := tL (m.map tNs)
theorem bk {X : Cx} {scope : Scope} {own : List (Str × Nat)} (hn : X.N.Nodup) (h : (blkC X.N X.env.scope scope own && locB scope own) = true := by kernel_rfl) (hc : X.calm = true := by rfl) : Blk X scope own := Blk.mk' _ _ hc hn h
theorem getM {α : Type} {f : α → Ty} {xs : List α} {i : Nat} {T : Ty} (h : (xs.map f)[i]? = some T) : ∃ a, xs[i]? = some a ∧ T = f a := by
  rw [List.getElem?_map] at h
  cases e : xs[i]? with
  | none => rw [e] at h; cases h
  | some a => rw [e] at h; exact ⟨a, rfl, (Option.some.inj h).symm⟩
theorem putM {α : Type} (f : α → Ty) {xs : List α} {i : Nat} {a : α} (h : xs[i]? = some a) : (xs.map f)[i]? = some (f a) := by
  rw [List.getElem?_map, h]
  rfl
theorem tnI {a : Int} {b : Nat} (h : a = (b : Int)) : tI a = tN b := by rw [h]
section
variable {P : Program} {w : World} {K : PySem.W.Frag} {mg : Str → Option Value} {base : Heap}
/-! ### is_lot -/
def IsLot (lot : List Nat) (m : Nat) : Prop := lot.Pairwise (· < ·) ∧ ∀ x ∈ lot, x < m
def S_is_lot : Spec (List Nat × Nat) := ⟨fun z => IsLot z.1 z.2, fun z => [tNs z.1, tN z.2], fun _ => tB true⟩
theorem ok_is_lot (T : Tx K mg) : DefOk P w K mg base 1 "is_lot" [] S_is_lot.sp :=
  T.k_is_lot fun fd F => S_is_lot.ok F sc_is_lot (fun _ _ => rfl) fun p B rt ⟨lot, m⟩ hr hp hR => by
    have hp : IsLot lot m := hp
    refine ss_forE (ζ := Unit) (fun _ _ => True) (fun _ _ => [some (tNs lot), some (tN m), none, none]) (fun _ _ => []) 2 3 rfl sc_is_lot.nd PassesOwn.never T.f_enumerate (e_var 0) () trivial (fun H1 i Ti z bk hT _ => ?_) (fun _ _ => ss_retp e_bl hR)
    obtain ⟨x, hx, rfl⟩ := getM hT
    have hx : lot[i]? = some x := hx
    have hxm : x < m := hp.2 x (List.mem_of_getElem? hx)
    refine ss_ifF (Tt.is (t_or (t_not (t_chain op_le op_lt e_int (e_var 3) (e_var 1))) (fun _ => t_and (y := false) (t_gt (e_var 2) e_int) (fun hpos => ?_))) ?_) (ss_next () trivial)
    · have h0 : 0 < i := by have := of_decide_eq_true hpos; omega
      have hi : i < lot.length := (List.getElem?_eq_some_iff.mp hx).1
      have h1 : lot[i - 1]? = some lot[i - 1] := List.getElem?_eq_getElem (by omega)
      refine Tt.is (t_ge (e_ix (e_var 0) ls (Et.is (e_sub (e_var 2) e_int) (tnI (b := i - 1) (by omega))) (putM tN h1)) (e_var 3)) ?_
      have hlt : lot[i - 1] < x := by
        have e : x = lot[i] := (List.getElem?_eq_some_iff.mp hx).2.symm
        rw [e]
        exact List.pairwise_iff_getElem.mp hp.1 (i - 1) i (by omega) hi (by omega)
      exact decide_eq_false (by omega)
    · have h0 : (0 : Int) ≤ (x : Int) := by omega
      have h1 : (x : Int) < (m : Int) := by omega
      simp [h1]
/-! ### holders -/
def holders (lot : List Nat) (m : Nat) : List Nat := (List.range m).filter fun x => !decide (x ∈ lot)
def S_holders : Spec (List Nat × Nat) := ⟨fun z => z.2 ≤ 5, fun z => [tNs z.1, tN z.2], fun z => tNs (holders z.1 z.2)⟩
theorem ok_holders (T : Tx K mg) : DefOk P w K mg base 1 "holders" [] S_holders.sp :=
  T.k_holders fun fd F => S_holders.ok F sc_holders (fun _ _ => rfl) fun p B rt ⟨lot, m⟩ hr hp hR =>
    ss_retp (Lc.e (lcRt (j := 2) (n := m) (b := fun i => !decide (i ∈ lot)) (U := fun i => tN i) (Oi := fun _ => []) (Oi' := fun _ => []) (bk sc_holders.nd) (e_var 1) (by have : m ≤ 5 := hp; omega) T.f_range
      (fun H1 i hi q s0 H0 C cl fp => t_notIn (e_var 2) (e_var 0) ls) (fun H1 i hi hb q s0 H0 C cl fp => e_var 2) (fun _ _ => rfl))) hR
/-! ### cover: of two lots that do not cover -/
def NoCover (a b : List Nat) (m : Nat) : Prop := ∃ x, x < m ∧ x ∉ a ∧ x ∉ b
def S_cover : Spec (List Nat × List Nat × Nat) := ⟨fun z => NoCover z.1 z.2.1 z.2.2 ∧ z.2.2 ≤ 5, fun z => [tNs z.1, tNs z.2.1, tN z.2.2], fun _ => tB false⟩
theorem ok_cover (T : Tx K mg) : DefOk P w K mg base 1 "cover" [] S_cover.sp :=
  T.k_cover fun fd F => S_cover.ok F sc_cover (fun _ _ => rfl) fun p B rt ⟨a, b, m⟩ hr ⟨⟨x, hx, hxa, hxb⟩, hm⟩ hR => by
    refine ss_forR (ζ := Unit) (fun i _ => i ≤ x) (fun _ _ => [some (tNs a), some (tNs b), some (tN m), none]) (fun _ _ => []) 3 rfl sc_cover.nd PassesOwn.never T.f_range (e_var 2) (by have : m ≤ 5 := hm; omega) () (Nat.zero_le _) (fun i z bk hi hJ => ?_) (fun _ hJ => (by have : m ≤ x := hJ; have : x < m := hx; omega))
    refine ss_if (t_and (t_notIn (e_var 3) (e_var 0) ls) (fun _ => t_notIn (e_var 3) (e_var 1) ls)) (fun _ => ss_retp e_bl hR) (fun hb => ss_go (ss_next () ?_))
    have hJ : i ≤ x := hJ
    have : i ≠ x := fun e => by
      subst e
      have h1 : decide (i ∈ a) = false := decide_eq_false hxa
      have h2 : decide (i ∈ b) = false := decide_eq_false hxb
      rw [h1, h2] at hb
      cases hb
    show i + 1 ≤ x
    omega
/-! ### covering_pair: of a family in which no two cover -/
def IsFam (fam : List (List Nat)) (m : Nat) : Prop := (∀ a ∈ fam, IsLot a m) ∧ (∀ a ∈ fam, ∀ b ∈ fam, NoCover a b m) ∧ m ≤ 5 ∧ fam.length ≤ 10
def S_covering_pair : Spec (List (List Nat) × Nat) := ⟨fun z => IsFam z.1 z.2, fun z => [tF z.1, tN z.2], fun _ => tNone⟩
theorem ok_covering_pair (T : Tx K mg) : DefOk P w K mg base 2 "covering_pair" [] S_covering_pair.sp :=
  T.k_covering_pair fun fd F => S_covering_pair.ok F sc_covering_pair (fun _ _ => rfl) fun p B rt ⟨fam, m⟩ hr hp hR => by
    have hp : IsFam fam m := hp
    obtain ⟨h1, h2, h3, h4⟩ := hp
    have hl : (fam.map tNs).length = fam.length := List.length_map _
    refine ss_forR (ζ := Unit) (fun i _ => True) (fun _ _ => [some (tF fam), some (tN m), none, none]) (fun _ _ => []) 2 rfl sc_covering_pair.nd PassesOwn.never T.f_range (e_len (e_var 0) ls T.f_len) (by rw [hl]; omega) () trivial (fun i z bk hi hJ => ?_) (fun _ hJ => ss_retp e_non hR)
    rw [hl] at hi
    refine ss_forR2 (ζ := Unit) (fun i _ => True) (fun _ _ => [some (tF fam), some (tN m), some (tN i), none]) (fun _ _ => []) 3 rfl sc_covering_pair.nd PassesOwn.never T.f_range (e_var 2) (e_len (e_var 0) ls T.f_len) (by rw [hl]; omega) (by omega) () trivial (fun k z bk hk hJ => ?_) (fun _ hJ => ss_next () trivial)
    rw [hl] at hk
    have e1 : fam[i]? = some fam[i] := List.getElem?_eq_getElem hi
    have e2 : fam[i + k]? = some fam[i + k] := List.getElem?_eq_getElem hk
    refine ss_ifF (t_val (e_call (S := S_cover) (fam[i], fam[i + k], m) (ok_cover T) hr (ea_cons (e_ix (e_var 0) ls (e_var 2) (putM tNs e1)) (ea_cons (e_ix (e_var 0) ls (e_var 3) (putM tNs e2)) (ea_cons (e_var 1) ea_nil))) ⟨h2 _ (List.getElem_mem hi) _ (List.getElem_mem hk), h3⟩)) (ss_next () trivial)
/-! ### checked_family -/
def S_checked_family : Spec (List (List Nat) × Nat) := ⟨fun z => IsFam z.1 z.2, fun z => [tF z.1, tN z.2], fun z => tF z.1⟩
theorem ok_checked_family (T : Tx K mg) : DefOk P w K mg base 3 "checked_family" [] S_checked_family.sp :=
  T.k_checked_family fun fd F => S_checked_family.ok F sc_checked_family (fun _ _ => rfl) fun p B rt ⟨fam, m⟩ hr hp hR => by
    have hp : IsFam fam m := hp
    obtain ⟨h1, h2, h3, h4⟩ := id hp
    refine ss_forE (ζ := Unit) (fun i _ => True) (fun _ _ => [some (tF fam), some (tN m), none, none, none]) (fun _ _ => []) 2 3 rfl sc_checked_family.nd PassesOwn.never T.f_enumerate (e_var 0) () trivial (fun H1 i Ti z bk hT _ => ?_) (fun _ _ => ?_)
    · obtain ⟨x, hx, rfl⟩ := getM hT
      refine ss_ifF (Tt.is (t_not (t_val (e_call (S := S_is_lot) (x, m) (ok_is_lot T) hr (ea_cons (e_var 3) (ea_cons (e_var 1) ea_nil)) (h1 x (List.mem_of_getElem? hx))))) rfl) (ss_next () trivial)
    · refine ss_asg 4 sc_checked_family.nd (e_call (S := S_covering_pair) (fam, m) (ok_covering_pair T) hr (ea_cons (e_var 0) (ea_cons (e_var 1) ea_nil)) hp) ?_
      refine ss_ifF (t_notN (e_var 4) e_non (fun v H e => by rw [show v = V.non from e]; rfl)) ?_
      exact ss_retp (Lc.e (lcM (j := 3) (xs := fam) (f := tNs) (g := tNs) (bk sc_checked_family.nd) (e_var 0) (by omega) (fun H1 i a ha q s0 H0 C cl fp => e_list (e_var 3) ls T.f_list))) hR
/-! ### contains, stage_of -/
def contains (lot part : List Nat) : Bool := part.all fun x => decide (x ∈ lot)
def S_contains : Spec (List Nat × List Nat) := ⟨fun _ => True, fun z => [tNs z.1, tNs z.2], fun z => tB (contains z.1 z.2)⟩
theorem ok_contains (T : Tx K mg) : DefOk P w K mg base 1 "contains" [] S_contains.sp :=
  T.k_contains fun fd F => S_contains.ok F sc_contains (fun _ _ => rfl) fun p B rt ⟨lot, part⟩ hr hp hR => by
    refine ss_forL (ζ := Unit) (fun i _ => ∀ x ∈ part.take i, x ∈ lot) (fun _ _ => [some (tNs lot), some (tNs part), none]) (fun _ _ => []) 2 rfl sc_contains.nd PassesOwn.never (e_var 1) () (by simp) (fun H1 i Ti z bk hT hJ => ?_) (fun _ hJ => ?_)
    · obtain ⟨x, hx, rfl⟩ := getM hT
      refine ss_if (t_notIn (e_var 2) (e_var 0) ls) (fun hb => ss_retp (Et.is e_bl ?_) hR) (fun hb => ss_go (ss_next () ?_))
      · have hn : x ∉ lot := by simpa using hb
        have : contains lot part = false := by
          unfold contains
          rw [List.all_eq_false]
          exact ⟨x, List.mem_of_getElem? hx, by simpa using hn⟩
        show tB false = tB (contains lot part)
        rw [this]
      · intro y hy
        rw [List.take_add_one, hx] at hy
        rcases List.mem_append.mp hy with hy | hy
        · exact hJ y hy
        · have : y = x := by simpa using hy
          subst this
          simpa using hb
    · refine ss_retp (Et.is e_bl ?_) hR
      have : contains lot part = true := by
        unfold contains
        rw [List.all_eq_true]
        intro y hy
        rw [List.length_map, List.take_length] at hJ
        exact decide_eq_true (hJ y hy)
      show tB true = tB (contains lot part)
      rw [this]
/-- the first lot that has all of a lot stands at k -/
def StageOf (lot : List Nat) (fam : List (List Nat)) (k : Nat) : Prop := (∃ a, fam[k]? = some a ∧ contains a lot = true) ∧ ∀ j a, j < k → fam[j]? = some a → contains a lot = false
def S_stage_of : Spec (List Nat × List (List Nat) × Nat) := ⟨fun z => StageOf z.1 z.2.1 z.2.2, fun z => [tNs z.1, tF z.2.1], fun z => tN z.2.2⟩
theorem ok_stage_of (T : Tx K mg) : DefOk P w K mg base 2 "stage_of" [] S_stage_of.sp :=
  T.k_stage_of fun fd F => S_stage_of.ok F sc_stage_of (fun _ _ => rfl) fun p B rt ⟨lot, fam, k⟩ hr hp hR => by
    have hp : StageOf lot fam k := hp
    obtain ⟨⟨a, ha, hc⟩, hb⟩ := hp
    refine ss_forE (ζ := Unit) (fun i _ => i ≤ k) (fun _ _ => [some (tNs lot), some (tF fam), none, none]) (fun _ _ => []) 2 3 rfl sc_stage_of.nd PassesOwn.never T.f_enumerate (e_var 1) () (Nat.zero_le _) (fun H1 i Ti z bk hT hJ => ?_) (fun _ hJ => ?_)
    · obtain ⟨x, hx, rfl⟩ := getM hT
      have hJ : i ≤ k := hJ
      refine ss_if (t_val (e_call (S := S_contains) (x, lot) (ok_contains T) hr (ea_cons (e_var 3) (ea_cons (e_var 0) ea_nil)) trivial)) (fun hq => ss_retp (Et.is (e_var 2) ?_) hR) (fun hq => ss_go (ss_next () ?_))
      · have : i = k := by
          rcases Nat.lt_or_eq_of_le hJ with h | h
          · have := hb i x h hx
            rw [hq] at this
            cases this
          · exact h
        show tN i = tN k
        rw [this]
      · have : i ≠ k := fun e => by
          subst e
          rw [ha] at hx
          cases hx
          rw [hc] at hq
          cases hq
        show i + 1 ≤ k
        omega
    · rw [List.length_map] at hJ
      have := (List.getElem?_eq_some_iff.mp ha).1
      have hJ : fam.length ≤ k := hJ
      omega
end
end Vc
set_option maxHeartbeats 4000000
/-! VcMore: calls over what is there but not named, data that are equal -/
namespace Vc
open PySem PySem.Spec L2
section
variable {X : Cx} {B : Bs} {G : Gm} {O O1 O2 : Om} {a b e : Expr} {es : List Expr} {R R1 : Ty} {Rs : List Ty} {pos p : Pos} {m k : Nat} {x : Str}
/-- f(e, ..), the index found from the arguments -/
theorem e_callG {ι : Type} {S : Spec ι} (D : DefOk X.prog X.w X.K X.mg X.base k x [] S.sp) (hr : Room m X.A) (ha : EA X B G O (e :: es) Rs O1) (h : ∀ H vs, AllT H Rs vs → ∃ z, S.pre z ∧ AllT H (S.args z) vs ∧ ∀ v H', (S.ret z).p v H' → R.p v H') (hk : k ≤ m := by decide) (hg : Gl X x := by rfl)
    (hdb : (x == ("__debug__" : Str)) = false := by decide) (he : starEach (e :: es) X.env = (false, eval e X.env) :: starEach es X.env := by rfl) (hpl : (backTo pos (starEach es X.env)).any (·.1) = false := by rfl) :
    E X B G O (.Call (.Name x p) (e :: es) [] pos) R O1 :=
  Et.of (pe_def D hr hk aw hg hdb he hpl) fun σ H Ha s Q q => ha σ H Ha s _ fun vs H1 Ha1 s1 k1 r1 => by
    obtain ⟨z, hp, al, w⟩ := h H1 vs r1
    exact ⟨z, H1, hp, k1.ha, by rw [List.append_nil]; exact al, fun v H2 Ha2 x2 r2 => q v H2 Ha2 (s1.trans x2.k) (k1.step x2) (w v H2 r2)⟩
theorem e_sorted {ns : List Int} (h : E X B G O e R O1) (k : LsOk R O1 (ns.map tI)) (hn : ns.length < 64) (hm : X.mg "sorted" = none) (hg : Gl X "sorted" := by rfl) (he : starEach [e] X.env = (false, eval e X.env) :: starEach [] X.env := by rfl) (hpl : (backTo pos (starEach [] X.env)).any (·.1) = false := by rfl) :
    E X B G O (.Call (.Name "sorted" p) [e] [] pos) (tEx (fun ns' : List Int => ns'.Perm ns ∧ ns'.Pairwise (· ≤ ·)) tIs) O1 := fun σ H Ha s Q q =>
  eo_sorted h k hn hm hg he hpl σ H Ha s Q fun l H1 Ha1 hl sm ⟨ns', h1, h2, s1⟩ => by
    obtain ⟨o, ho, hc, sm2, s2⟩ := s1.freeze (k := O1.length) (l := l) (c := .lst (ns'.map tI)) (by simp) (.inr hl)
    obtain ⟨vs, rfl, al⟩ := Ch.lst_inv hc
    have eo : (O1 ++ [(l, Ch.lst (ns'.map tI))]).eraseIdx O1.length = O1 := by
      rw [List.eraseIdx_append_of_length_le (Nat.le_refl _)]
      simp
    rw [eo] at s2
    exact q (.ref l) _ Ha1 (sm.trans sm2) s2 ⟨ns', ⟨h1, h2⟩, l, vs, rfl, upd_same, al.mono sm2⟩
/-! ### data -/
def DtOk (K : PySem.W.Frag) (R : Ty) (d : PyData) : Prop := ∀ v H, R.p v H → Dp K H v d
theorem DtOk.int {K : PySem.W.Frag} {i : Int} : DtOk K (tI i) (.int i) := fun v H e => by
  obtain rfl : v = V.int i := e
  exact .int i
theorem dpAll {K : PySem.W.Frag} {H : Hp} : ∀ {ts : List Ty} {ds : List PyData} {vs : List V}, ts.length = ds.length → (∀ (i : Nat) T d, ts[i]? = some T → ds[i]? = some d → DtOk K T d) → AllT H ts vs → DpAll K H vs ds
  | [], [], _, _, _, al => by rw [al.unnil]; exact .nil
  | [], _ :: _, _, h, _, _ => nomatch h
  | _ :: _, [], _, h, _, _ => nomatch h
  | T :: ts, d :: ds, _, h, hd, al => by
    obtain ⟨v, vs, rfl, h1, h2⟩ := al.uncons
    exact .cons (hd 0 T d rfl rfl v H h1) (dpAll (Nat.succ.inj h) (fun i T' d' a b => hd (i + 1) T' d' a b) h2)
theorem DtOk.lst {K : PySem.W.Frag} {α : Type} {f : α → Ty} {g : α → PyData} (xs : List α) (h : ∀ x ∈ xs, DtOk K (f x) (g x)) : DtOk K (tL (xs.map f)) (.list (xs.map g)) := fun v H ⟨a, vs, e, hv, al⟩ => by
  subst e
  refine .lst (SqL.of hv) (dpAll (by rw [List.length_map, List.length_map]) (fun i T d a b => ?_) al)
  obtain ⟨x, hx, rfl⟩ := getM a
  rw [List.getElem?_map, hx] at b
  cases b
  exact h x (List.mem_of_getElem? hx)
theorem DtOk.tup {K : PySem.W.Frag} {α : Type} {f : α → Ty} {g : α → PyData} (xs : List α) (h : ∀ x ∈ xs, DtOk K (f x) (g x)) : DtOk K (tT (xs.map f)) (.tuple (xs.map g)) := fun v H ⟨a, vs, e, hv, al⟩ => by
  subst e
  refine .tup (SqT.of hv) (dpAll (by rw [List.length_map, List.length_map]) (fun i T d a b => ?_) al)
  obtain ⟨x, hx, rfl⟩ := getM a
  rw [List.getElem?_map, hx] at b
  cases b
  exact h x (List.mem_of_getElem? hx)
/-- data of a depth that can be compared -/
def Okd (n : Nat) (d : PyData) : Prop := d.canLay0 = true ∧ d.depth ≤ n
theorem Okd.int (n : Nat) (i : Int) : Okd n (.int i) := ⟨rfl, by simp [PyData.depth]⟩
theorem okdAll {n : Nat} : ∀ {ds : List PyData}, (∀ d ∈ ds, Okd n d) → PyData.canLayAll0 ds = true ∧ PyData.depthAll ds ≤ n
  | [], _ => ⟨rfl, by simp [PyData.depthAll]⟩
  | d :: ds, h => by
    obtain ⟨h1, h2⟩ := h d List.mem_cons_self
    obtain ⟨h3, h4⟩ := okdAll (ds := ds) fun x hx => h x (List.mem_cons_of_mem _ hx)
    refine ⟨by simp [PyData.canLayAll0, h1, h3], ?_⟩
    simp only [PyData.depthAll]
    omega
theorem Okd.lst {n : Nat} {ds : List PyData} (h : ∀ d ∈ ds, Okd n d) : Okd (n + 1) (.list ds) := by
  obtain ⟨h1, h2⟩ := okdAll h
  refine ⟨h1, ?_⟩
  simp only [PyData.depth]
  omega
theorem Okd.tup {n : Nat} {ds : List PyData} (h : ∀ d ∈ ds, Okd n d) : Okd (n + 1) (.tuple ds) := by
  obtain ⟨h1, h2⟩ := okdAll h
  refine ⟨h1, ?_⟩
  simp only [PyData.depth]
  omega
theorem Okd.shaped {n : Nat} {d : PyData} (h : Okd n d) (hn : n ≤ 64) : SeqAt.shaped d = true := Bool.and_eq_true_iff.mpr ⟨h.1, decide_eq_true (Nat.le_trans h.2 hn)⟩
theorem Okd.refl {n : Nat} {d : PyData} (h : Okd n d) : PyData.eqv d d = true := SeqAt.eqv_refl d h.1
/-- a == b, equal data -/
theorem e_eqD {d : PyData} {n : Nat} (hr : Room m X.A) (ha : E X B G O a R O1) (hb : E X B G O1 b R1 O2) (da : DtOk X.K R d) (db : DtOk X.K R1 d) (ho : Okd n d) (hn : n ≤ 64 := by decide) : E X B G O (.Compare a [.Eq] [b] pos) (tB true) O2 :=
  e_cmp (op_eqD hr.units) ha hb (fun σ H Ha v w s r1 r2 Q q => ⟨d, d, da v Ha (R.mono s.ha r1), db w Ha (R1.mono s.ha r2), ho.shaped hn, ho.shaped hn, by rw [ho.refl]; exact q⟩) (nomark _)
end
end Vc
namespace Vc
open PySem PySem.Spec L2
/-- a def that gives a new list, to be changed by who called -/
structure SpecO (ι : Type) where
  pre : ι → Prop
  args : ι → List Ty
  ts : ι → List Ty
def SpecO.sp {ι : Type} (S : SpecO ι) : Sp := fun vs Ha Q _ => ∃ i H, S.pre i ∧ Same H Ha ∧ AllT H (S.args i) vs ∧
  ∀ l H' Ha', Stp F0 H Ha H' Ha' → Ha l = none → H' l = none → (∃ vs, Ha' l = some (.lst vs) ∧ AllT H' (S.ts i) vs) → Q (.ref l) Ha'
section
variable {X : Cx} {B : Bs} {G : Gm} {O O1 O2 : Om} {a b c e : Expr} {es : List Expr} {R R1 : Ty} {Rs : List Ty} {pos p : Pos} {m k : Nat} {x : Str} {rest : List Stmt} {D : Ends}
/-- .. the index found from the arguments -/
theorem eo_callG {ι α : Type} {S : SpecO ι} {P : α → Prop} {f : α → List Ty} (D : DefOk X.prog X.w X.K X.mg X.base k x [] S.sp) (hr : Room m X.A) (ha : EA X B G O (e :: es) Rs O1) (h : ∀ H vs, AllT H Rs vs → ∃ z y, S.pre z ∧ AllT H (S.args z) vs ∧ P y ∧ S.ts z = f y) (hk : k ≤ m := by decide) (hg : Gl X x := by rfl)
    (hdb : (x == ("__debug__" : Str)) = false := by decide) (he : starEach (e :: es) X.env = (false, eval e X.env) :: starEach es X.env := by rfl) (hpl : (backTo pos (starEach es X.env)).any (·.1) = false := by rfl) :
    Eo B (EW X (.Call (.Name x p) (e :: es) [] pos)) (Sat B G O) (fun l σ H Ha => ∃ y, P y ∧ Sat B G (O1 ++ [(l, .lst (f y))]) σ H Ha) :=
  Eo.of (pe_def D hr hk aw hg hdb he hpl) fun σ H Ha s Q q => ha σ H Ha s _ fun vs H1 Ha1 s1 k1 r1 => by
    obtain ⟨z, y, hp, al, hy, ey⟩ := h H1 vs r1
    refine ⟨z, H1, hp, k1.ha, by rw [List.append_nil]; exact al, fun l H2 Ha2 x2 hl hl2 ⟨ws, hw, bl⟩ => ?_⟩
    have k2 := k1.step x2
    refine q l H2 Ha2 (k1.baseFree hl) (s1.trans x2.k) ⟨y, hy, k2.st, k2.sn, k2.sl, ?_, fun q hq => ?_⟩
    · rw [List.map_append]
      exact List.nodup_append.mpr ⟨k2.ow.1, by simp, fun a ha b hb => by
        have e : b = l := by simpa using hb
        subst e
        exact fun z => k1.notO hl (z ▸ ha)⟩
    · rcases List.mem_append.mp hq with hq | e
      · exact k2.ow.2 q hq
      · have e : q = (l, Ch.lst (f y)) := by simpa using e
        subst e
        exact ⟨hl2, .inl (k1.baseFree hl), _, hw, by rw [← ey]; exact bl⟩
theorem eo_if {A' : Addr → As} {y : Bool} (h : T X B G O c y O1) (h1 : y = true → Eo B (EW X a) (Sat B G O1) A') (h2 : y = false → Eo B (EW X b) (Sat B G O1) A') : Eo B (EW X (.IfExp c a b pos)) (Sat B G O) A' :=
  Eo.of (pe_ifExp tw ew ew) fun σ H Ha s Q q => h σ H Ha s _ fun H1 Ha1 s1 k1 => by
    cases y with
    | true => exact iteT (h1 rfl σ H1 Ha1 k1 _ fun l H2 Ha2 b2 s2 k2 => q l H2 Ha2 b2 (s1.trans s2) k2)
    | false => exact iteF (h2 rfl σ H1 Ha1 k1 _ fun l H2 Ha2 b2 s2 k2 => q l H2 Ha2 b2 (s1.trans s2) k2)
theorem ss_asgOX {α : Type} {P : α → Prop} {O' : Addr → α → Om} {pos' : Pos} (i : Nat) (hn : X.N.Nodup) (he : Eo B (EW X e) (Sat B G O) (fun l σ H Ha => ∃ y, P y ∧ Sat B G (O' l y) σ H Ha)) (r : ∀ l y, B.Ha l = none → P y → SS X rest (Sat B (G.set i (some (tRef l))) (O' l y)) D) (hi : X.N[i]? = some x := by rfl) (hx : Loc X.env.scope x := by first | exact Or.inl rfl | exact Or.inr rfl)
    (hs : swapsWith e (some (.Name x pos')) pos.line X.env = pure false := by rfl) (hf : X.fn x = true := by rfl) : SS X (.Assign [.Name x pos'] e pos :: rest) (Sat B G O) D :=
  ss_of (ps_set hn hi hx ew hs (.inl hf)) fun σ H Ha s => he σ H Ha s _ fun l H1 Ha1 hl s1 ⟨y, hy, k1⟩ => r l y hl hy _ H1 Ha1 (k1.slots (k1.sl.set i rfl))
theorem ss_augT {op : Operator} {g : Int → Int → V} {pos' : Pos} {u w : Int} {v : V} (i : Nat) (hn : X.N.Nodup) (ho : OpR X (inplaceOp op) (rI0 g)) (he : E X B G O e (tI w) O1) (hv : g u w = v) (r : SS X rest (Sat B (G.set i (some (tV v))) O1) D) (hG : G[i]? = some (some (tI u)) := by rfl) (hi : X.N[i]? = some x := by rfl) (hx : Loc X.env.scope x := by first | exact Or.inl rfl | exact Or.inr rfl)
    (hf : X.fn x = true := by rfl) : SS X (.AugAssign (.Name x pos') op e pos :: rest) (Sat B G O) D := by
  subst hv
  exact ss_aug i hn ho he r hG hi hx hf
theorem ss_augTI {op : Operator} {C : Int → Int → Prop} {g : Int → Int → V} {pos' : Pos} {u w : Int} {v : V} (i : Nat) (hn : X.N.Nodup) (ho : OpR X (inplaceOp op) (rI C g)) (he : E X B G O e (tI w) O1) (hc : C u w) (hv : g u w = v) (r : SS X rest (Sat B (G.set i (some (tV v))) O1) D) (hG : G[i]? = some (some (tI u)) := by rfl) (hi : X.N[i]? = some x := by rfl) (hx : Loc X.env.scope x := by first | exact Or.inl rfl | exact Or.inr rfl)
    (hf : X.fn x = true := by rfl) : SS X (.AugAssign (.Name x pos') op e pos :: rest) (Sat B G O) D := by
  subst hv
  exact ss_augI i hn ho he hc r hG hi hx hf
end
section
variable {P : Program} {w : World} {K : PySem.W.Frag} {mg : Str → Option Value} {base : Heap} {x qual : Str} {params : Arguments} {body : List Stmt} {scope : Scope} {dvs : List V} {kws : List (Str × V)} {f : Addr} {fd : FuncData} {N ps : List Str} {k : Nat} {ι : Type}
theorem SpecO.ok {S : SpecO ι} (F : FunD K x qual params body scope dvs kws f fd) (sc : FnScope N ps scope) (hl : ∀ i, S.pre i → (S.args i).length = ps.length)
    (hb : ∀ (p : Par) (B : Bs) (rt : VK) (i : ι), Room k (XD P w K mg base N qual scope p).A → S.pre i → (∀ σ G l H Ha, B.Ha l = none → Sat B G [(l, .lst (S.ts i))] σ H Ha → rt (.ref l) Ha) → SS (XD P w K mg base N qual scope p) body (Sat B ((S.args i).map some ++ List.replicate (N.length - (S.args i).length) none) []) (DR rt)) :
    FnOk P w K mg base CX0 (k + 1) f fd ps S.sp :=
  F.ok sc (fun vs H Q E ⟨i, H0, hp, _, al, _⟩ => by rw [← al.1]; exact hl i hp) fun cdv A outer s Ha vs Q E hr ⟨i, H, hp, sm, al, hQ⟩ =>
    ⟨_, PSs.nox sw, hb ⟨cdv, A, outer, s, Ha, E, f⟩ ⟨F0, H, Ha, H⟩ Q i hr hp (fun σ G l H' Ha' hl s' => by
      obtain ⟨o, ho, hc⟩ := s'.read (k := 0) rfl
      obtain ⟨vs, rfl, al'⟩ := Ch.lst_inv hc
      exact hQ l H' Ha' s'.st hl (s'.ow.2 _ (List.mem_singleton.mpr rfl)).1 ⟨vs, ho, al'⟩) (L2.start N vs) H Ha ⟨Stp.refl sm, .refl _, startSlots al N, List.Pairwise.nil, fun q hq => nomatch hq⟩⟩
end
end Vc
set_option maxHeartbeats 4000000
/-! VcD2: perms -/
namespace Vc
open PySem PySem.Spec L2
/-- an order of n rows -/
def IsOrd (o : List Nat) (n : Nat) : Prop := o.Perm (List.range n) ∧ n ≤ 5
theorem IsOrd.len {o : List Nat} {n : Nat} (h : IsOrd o n) : o.length = n := by rw [h.1.length_eq, List.length_range]
theorem IsOrd.lt {o : List Nat} {n x : Nat} (h : IsOrd o n) (hx : x ∈ o) : x < n := List.mem_range.mp (h.1.mem_iff.mp hx)
theorem IsOrd.mem {o : List Nat} {n x : Nat} (h : IsOrd o n) (hx : x < n) : x ∈ o := h.1.mem_iff.mpr (List.mem_range.mpr hx)
theorem IsOrd.nodup {o : List Nat} {n : Nat} (h : IsOrd o n) : o.Nodup := h.1.nodup_iff.mpr List.nodup_range
abbrev castL (ns : List Nat) : List Int := ns.map fun n : Nat => (n : Int)
theorem tNs_tIs (ns : List Nat) : tNs ns = tIs (castL ns) := by show tL _ = tL _; rw [nats]
theorem pairwise_range (n : Nat) : (castL (List.range n)).Pairwise (· ≤ ·) := by
  rw [List.pairwise_map]
  exact (List.pairwise_lt_range (n := n)).imp fun h => by omega
theorem sorted_ord {o : List Nat} {n : Nat} (h : IsOrd o n) {ns : List Int} (h1 : ns.Perm (castL o)) (h2 : ns.Pairwise (· ≤ ·)) : ns = castL (List.range n) :=
  List.Perm.eq_of_pairwise (fun x y _ _ a b => Int.le_antisymm a b) h2 (pairwise_range n) (h1.trans (h.1.map _))
section
variable {P : Program} {w : World} {K : PySem.W.Frag} {mg : Str → Option Value} {base : Heap}
/-! ### is_order, checked_order -/
def S_is_order : Spec (List Nat × Nat) := ⟨fun z => IsOrd z.1 z.2, fun z => [tNs z.1], fun _ => tB true⟩
theorem ok_is_order (T : Tx K mg) : DefOk P w K mg base 1 "is_order" [] S_is_order.sp :=
  T.k_is_order fun fd F => S_is_order.ok F sc_is_order (fun _ _ => rfl) fun p B rt ⟨o, n⟩ hr hp hR => by
    have hp : IsOrd o n := hp
    have hl : (o.map tN).length = n := by rw [List.length_map, hp.len]
    refine ss_retp (e_eqD (n := 1) (d := .list ((List.range n).map fun i : Nat => PyData.int (i : Int))) hr (e_sorted (ns := castL o) (Et.is (e_var 0) (tNs_tIs o)) ls (by rw [List.length_map, hp.len]; have := hp.2; omega) T.f_sorted)
      (Eo.et (eo_listRg (n := n) (Et.is (e_len (e_var 0) ls T.f_len) (congrArg tN hl)) (by have := hp.2; omega) rfl T.f_list T.f_range)) ?_ (DtOk.lst _ fun x _ => DtOk.int) (Okd.lst fun d hd => ?_)) hR
    · rintro v H ⟨ns, ⟨h1, h2⟩, r⟩
      have e := sorted_ord hp h1 h2
      subst e
      have q := DtOk.lst (K := K) (f := tI) (g := PyData.int) (castL (List.range n)) (fun x _ => DtOk.int) v H r
      rw [List.map_map] at q
      exact q
    · obtain ⟨i, _, rfl⟩ := List.mem_map.mp hd
      exact Okd.int 0 _
def S_checked_order : Spec (List Nat × Nat) := ⟨fun z => IsOrd z.1 z.2, fun z => [tNs z.1], fun z => tNs z.1⟩
def O_checked_order : SpecO (List Nat × Nat) := ⟨fun z => IsOrd z.1 z.2, fun z => [tNs z.1], fun z => z.1.map tN⟩
theorem ok_checked_order (T : Tx K mg) : DefOk P w K mg base 2 "checked_order" [] S_checked_order.sp :=
  T.k_checked_order fun fd F => S_checked_order.ok F sc_checked_order (fun _ _ => rfl) fun p B rt ⟨o, n⟩ hr hp hR => by
    refine ss_ifF (Tt.is (t_not (t_val (e_call (S := S_is_order) (o, n) (ok_is_order T) hr (ea_cons (e_var 0) ea_nil) hp))) rfl) (ss_retp (e_list (e_var 0) ls T.f_list) hR)
theorem oko_checked_order (T : Tx K mg) : DefOk P w K mg base 2 "checked_order" [] O_checked_order.sp :=
  T.k_checked_order fun fd F => O_checked_order.ok F sc_checked_order (fun _ _ => rfl) fun p B rt ⟨o, n⟩ hr hp hR => by
    refine ss_ifF (Tt.is (t_not (t_val (e_call (S := S_is_order) (o, n) (ok_is_order T) hr (ea_cons (e_var 0) ea_nil) hp))) rfl) ?_
    exact ss_of (ps_ret ew) fun σ H Ha s => (eo_list (e_var 0) ls T.f_list) σ H Ha s _ fun l H1 Ha1 hl s1 k1 => hR σ _ l H1 Ha1 hl k1
/-! ### moved -/
def mvT (ts : List Ty) (o : List Nat) : List Ty := o.map fun i => ts.getD i tNone
def S_moved : Spec (List Ty × List Nat) := ⟨fun z => IsOrd z.2 z.1.length, fun z => [tL z.1, tNs z.2], fun z => tL (mvT z.1 z.2)⟩
theorem ok_moved (T : Tx K mg) : DefOk P w K mg base 2 "moved" [] S_moved.sp :=
  T.k_moved fun fd F => S_moved.ok F sc_moved (fun _ _ => rfl) fun p B rt ⟨ts, o⟩ hr hp hR => by
    have hp : IsOrd o ts.length := hp
    have hl : (o.map tN).length = ts.length := by rw [List.length_map, hp.len]
    refine ss_ifF (Tt.is (t_or (y := false) (t_ne (e_len (e_var 1) ls T.f_len) (e_len (e_var 0) ls T.f_len)) (fun _ => Tt.is (t_not (t_val (e_call (S := S_is_order) (o, ts.length) (ok_is_order T) hr (ea_cons (e_var 1) ea_nil) hp))) rfl)) ?_) ?_
    · rw [hl]
      simp
    · refine ss_retp (Lc.e (lcM (j := 2) (xs := o) (f := tN) (g := fun i => ts.getD i tNone) (bk sc_moved.nd) (e_var 1) (by have := hp.2; have := hp.len; omega) (fun H1 i a ha q s0 H0 C cl fp => ?_))) hR
      have ha' : a < ts.length := hp.lt (List.mem_of_getElem? ha)
      exact e_ix (e_var 0) ls (e_var 2) (by rw [List.getD_eq_getElem?_getD, List.getElem?_eq_getElem ha']; rfl)
/-- the moved rows of data -/
def mv {α : Type} (d : α) (xs : List α) (o : List Nat) : List α := o.map fun i => xs.getD i d
theorem mvT_map {α : Type} (f : α → Ty) (d : α) {xs : List α} {o : List Nat} (h : IsOrd o xs.length) : mvT (xs.map f) o = (mv d xs o).map f := by
  unfold mvT mv
  rw [List.map_map]
  refine List.map_congr_left fun i hi => ?_
  have hi' : i < xs.length := h.lt hi
  show (xs.map f).getD i tNone = f (xs.getD i d)
  rw [List.getD_eq_getElem?_getD, List.getElem?_map, List.getD_eq_getElem?_getD, List.getElem?_eq_getElem hi']
  rfl
theorem mv_len {α : Type} (d : α) (xs : List α) (o : List Nat) : (mv d xs o).length = o.length := List.length_map _
/-! ### undone -/
def undo (o : List Nat) : List Nat := (List.range o.length).map fun j => o.idxOf j
def undoAt (o : List Nat) (i : Nat) : List Nat := (List.range o.length).map fun j => if o.idxOf j < i then o.idxOf j else 0
theorem idxOf_get {o : List Nat} (h : o.Nodup) {i : Nat} {x : Nat} (hx : o[i]? = some x) : o.idxOf x = i := by
  obtain ⟨h1, h2⟩ := List.getElem?_eq_some_iff.mp hx
  have hm : x ∈ o := List.mem_of_getElem? hx
  have h3 : o.idxOf x < o.length := List.idxOf_lt_length_of_mem hm
  have h4 : o[o.idxOf x] = x := List.getElem_idxOf h3
  exact (List.getElem_inj h).mp (h4.trans h2.symm)
theorem undoAt_step {o : List Nat} {n : Nat} (h : IsOrd o n) {i x : Nat} (hx : o[i]? = some x) : (undoAt o i).set x i = undoAt o (i + 1) := by
  have hm : x ∈ o := List.mem_of_getElem? hx
  have hxn : x < o.length := by rw [h.len]; exact h.lt hm
  have hi := idxOf_get h.nodup hx
  refine List.ext_getElem? fun j => ?_
  unfold undoAt
  by_cases e : x = j
  · subst e
    rw [List.getElem?_set_self (by rw [List.length_map, List.length_range]; exact hxn), List.getElem?_map, List.getElem?_range hxn]
    show some i = some (if o.idxOf x < i + 1 then o.idxOf x else 0)
    rw [if_pos (by omega), hi]
  · rw [List.getElem?_set_ne e, List.getElem?_map, List.getElem?_map]
    by_cases hj : j < o.length
    · rw [List.getElem?_range hj]
      show some (if o.idxOf j < i then o.idxOf j else 0) = some (if o.idxOf j < i + 1 then o.idxOf j else 0)
      congr 1
      have hne : o.idxOf j ≠ i := fun z => by
        have hjm : j ∈ o := h.mem (by rw [← h.len]; exact hj)
        have h3 : o.idxOf j < o.length := List.idxOf_lt_length_of_mem hjm
        have h4 : o[o.idxOf j] = j := List.getElem_idxOf h3
        have h5 : o[i]? = some j := by
          rw [← z, List.getElem?_eq_getElem h3, h4]
        rw [hx] at h5
        exact e (Option.some.inj h5)
      by_cases hlt : o.idxOf j < i
      · rw [if_pos hlt, if_pos (by omega)]
      · rw [if_neg hlt, if_neg (by omega)]
    · rw [List.getElem?_eq_none (by rw [List.length_range]; omega)]
      rfl
theorem undoAt_end {o : List Nat} {n : Nat} (h : IsOrd o n) : undoAt o o.length = undo o := by
  unfold undoAt undo
  refine List.map_congr_left fun j hj => ?_
  have hjm : j ∈ o := h.mem (by rw [← h.len]; exact List.mem_range.mp hj)
  rw [if_pos (List.idxOf_lt_length_of_mem hjm)]
def S_undone : Spec (List Nat × Nat) := ⟨fun z => IsOrd z.1 z.2, fun z => [tNs z.1], fun z => tNs (undo z.1)⟩
theorem ok_undone (T : Tx K mg) : DefOk P w K mg base 3 "undone" [] S_undone.sp :=
  T.k_undone fun fd F => S_undone.ok F sc_undone (fun _ _ => rfl) fun p B rt ⟨o, n⟩ hr hp hR => by
    have hp : IsOrd o n := hp
    have h0 : (o.map fun _ => tI 0) = (undoAt o 0).map tN := by
      unfold undoAt
      rw [List.map_map]
      refine List.ext_getElem? fun i => ?_
      rw [List.getElem?_map, List.getElem?_map]
      by_cases hi : i < o.length
      · rw [List.getElem?_eq_getElem hi, List.getElem?_range hi]
        rfl
      · rw [List.getElem?_eq_none (by omega), List.getElem?_eq_none (by rw [List.length_range]; omega)]
        rfl
    refine ss_lc 1 (lcM (j := 3) (xs := o) (f := tN) (g := fun _ => tI 0) (bk sc_undone.nd) (e_var 0) (by have := hp.2; have := hp.len; omega) (fun H1 i a ha q s0 H0 C cl fp => e_int)) fun l hl => ?_
    rw [h0]
    refine ss_forE (ζ := Unit) (fun _ _ => True) (fun _ _ => [some (tNs o), some (tRef l), none, none]) (fun i _ => [(l, .lst ((undoAt o i).map tN))]) 2 3 rfl sc_undone.nd PassesOwn.never T.f_enumerate (e_call (S := S_checked_order) (o, n) (ok_checked_order T) hr (ea_cons (e_var 0) ea_nil) hp) () trivial (fun H1 i Ti z bk hT _ => ?_) (fun _ _ => ?_)
    · obtain ⟨x, hx, rfl⟩ := getM hT
      have hx : o[i]? = some x := hx
      have hxn : x < (undoAt o i).length := by
        unfold undoAt
        rw [List.length_map, List.length_range, hp.len]
        exact hp.lt (List.mem_of_getElem? hx)
      have e : [(l, Ch.lst ((undoAt o (i + 1)).map tN))] = [(l, Ch.lst (((undoAt o i).map tN).set x (tN i)))] := by rw [← undoAt_step hp hx, List.map_set]
      exact ss_setItem (ts := (undoAt o i).map tN) (l := l) (n := x) (R := tN i) 0 (e_var 2) (e_var 1) (e_var 3) (ss_next () trivial (ho := e)) (by rw [List.length_map]; exact hxn)
    · have e : undoAt o ((o, n).1.map tN).length = undo o := by
        rw [List.length_map]
        exact undoAt_end hp
      rw [e]
      exact ss_freeze 1 0 (ss_retp (e_var 1) hR) hl
/-! ### chained -/
def S_chained : Spec (List Nat × List Nat × Nat) := ⟨fun z => IsOrd z.1 z.2.2 ∧ IsOrd z.2.1 z.2.2, fun z => [tNs z.1, tNs z.2.1], fun z => tNs (mv 0 z.1 z.2.1)⟩
theorem ok_chained (T : Tx K mg) : DefOk P w K mg base 3 "chained" [] S_chained.sp :=
  T.k_chained fun fd F => S_chained.ok F sc_chained (fun _ _ => rfl) fun p B rt ⟨a, b, n⟩ hr ⟨h1, h2⟩ hR => by
    have h1 : IsOrd a n := h1
    have h2 : IsOrd b n := h2
    have h3 : IsOrd b a.length := by rw [h1.len]; exact h2
    refine ss_retp (Et.is (e_call (S := S_moved) (a.map tN, b) (ok_moved T) hr (ea_cons (e_call (S := S_checked_order) (a, n) (ok_checked_order T) hr (ea_cons (e_var 0) ea_nil) h1) (ea_cons (e_var 1) ea_nil)) (by show IsOrd b (a.map tN).length; rw [List.length_map]; exact h3)) ?_) hR
    show tL (mvT (a.map tN) b) = tNs (mv 0 a b)
    rw [mvT_map tN 0 h3]
/-! ### factorial -/
def fct : Nat → Nat
  | 0 => 1
  | n + 1 => fct n * (n + 1)
theorem fct_pos : ∀ n, 0 < fct n
  | 0 => by decide
  | n + 1 => Nat.mul_pos (fct_pos n) (Nat.succ_pos n)
theorem fct_le : ∀ {n m : Nat}, n ≤ m → fct n ≤ fct m := by
  intro n m h
  induction h with
  | refl => exact Nat.le_refl _
  | step h ih => exact Nat.le_trans ih (Nat.le_mul_of_pos_right _ (Nat.succ_pos _))
def S_factorial : Spec Nat := ⟨fun n => n ≤ 5, fun n => [tN n], fun n => tN (fct n)⟩
theorem ok_factorial (T : Tx K mg) : DefOk P w K mg base 1 "factorial" [] S_factorial.sp :=
  T.k_factorial fun fd F => S_factorial.ok F sc_factorial (fun _ _ => rfl) fun p B rt n hr hp hR => by
    have hp : n ≤ 5 := hp
    refine ss_asg 1 sc_factorial.nd e_int ?_
    refine ss_forR2 (ζ := Unit) (lo := 2) (n := n + 1) (fun _ _ => True) (fun i _ => [some (tN n), some (tN (fct (i + 1))), none]) (fun _ _ => []) 2 rfl sc_factorial.nd PassesOwn.never T.f_range e_int (Et.is (e_add (i := (n : Int)) (j := 1) (e_var 0) e_int) (tnI (b := n + 1) (by omega))) (by omega) (by omega) () trivial (fun i z bk hi _ => ?_) (fun _ _ => ss_retp (Et.is (e_var 1) ?_) hR)
    · have hf : fct (i + 1) ≤ fct 5 := fct_le (by omega)
      have h5 : fct 5 = 120 := by decide
      refine ss_augTI (u := ((fct (i + 1) : Nat) : Int)) (w := ((2 + i : Nat) : Int)) (v := .int ((fct (i + 1 + 1) : Nat) : Int)) 1 sc_factorial.nd iop_mul (e_var 2) (.inl ⟨by omega, by omega⟩) ?_ (ss_next () trivial)
      show V.int (((fct (i + 1) : Nat) : Int) * ((2 + i : Nat) : Int)) = V.int ((fct (i + 1) * (i + 1 + 1) : Nat) : Int)
      rw [show 2 + i = i + 1 + 1 by omega, Int.natCast_mul]
    · show tN (fct (n + 1 - 2 + 1)) = tN (fct n)
      cases n with
      | zero => rfl
      | succ n => rfl
end
end Vc
set_option maxHeartbeats 4000000
/-! VcM1: the matching of equal rows -/
namespace Vc
/-- where the value v stands for the time c (from 0) -/
def nth : List Int → Int → Nat → Nat
  | [], _, _ => 0
  | a :: l, v, c => if a = v then (if c = 0 then 0 else nth l v (c - 1) + 1) else nth l v c + 1
theorem nth_spec : ∀ {l : List Int} {v : Int} {c : Nat}, c < l.count v → l[nth l v c]? = some v ∧ (l.take (nth l v c)).count v = c
  | [], v, c, h => by simp at h
  | a :: l, v, c, h => by
    unfold nth
    by_cases e : a = v
    · subst e
      rw [if_pos rfl]
      by_cases h0 : c = 0
      · subst h0
        rw [if_pos rfl]
        simp
      · rw [if_neg h0]
        rw [List.count_cons_self] at h
        obtain ⟨h1, h2⟩ := nth_spec (l := l) (v := a) (c := c - 1) (by omega)
        refine ⟨by rw [List.getElem?_cons_succ]; exact h1, ?_⟩
        rw [List.take_succ_cons, List.count_cons_self, h2]
        omega
    · rw [if_neg e]
      rw [List.count_cons_of_ne e] at h
      obtain ⟨h1, h2⟩ := nth_spec (l := l) (v := v) (c := c) h
      refine ⟨by rw [List.getElem?_cons_succ]; exact h1, ?_⟩
      rw [List.take_succ_cons, List.count_cons_of_ne e, h2]
theorem nth_rank : ∀ {l : List Int} {v : Int} {y : Nat}, l[y]? = some v → nth l v ((l.take y).count v) = y
  | [], v, y, h => by simp at h
  | a :: l, v, 0, h => by
    have e : a = v := by simpa using h
    subst e
    simp [nth]
  | a :: l, v, y + 1, h => by
    rw [List.getElem?_cons_succ] at h
    have ih := nth_rank h
    rw [List.take_succ_cons]
    unfold nth
    by_cases e : a = v
    · subst e
      rw [if_pos rfl, List.count_cons_self, if_neg (Nat.succ_ne_zero _), Nat.add_sub_cancel, ih]
    · rw [if_neg e, List.count_cons_of_ne e, ih]
theorem rank_lt {l : List Int} {v : Int} {y : Nat} (h : l[y]? = some v) : (l.take y).count v < l.count v := by
  have hy := (List.getElem?_eq_some_iff.mp h).1
  have e : l.take (y + 1) = l.take y ++ [v] := by rw [List.take_add_one, h]; rfl
  have h1 : (l.take (y + 1)).count v ≤ l.count v := (List.take_sublist _ _).count_le _
  rw [e, List.count_append] at h1
  simp at h1
  omega
theorem rank_mono {l : List Int} {v : Int} {y z : Nat} (h : l[y]? = some v) (hz : y < z) : (l.take y).count v < (l.take z).count v := by
  have e : l.take (y + 1) = l.take y ++ [v] := by rw [List.take_add_one, h]; rfl
  have h1 : (l.take (y + 1)).count v ≤ (l.take z).count v := (List.take_sublist_take_left (Nat.succ_le_of_lt hz)).count_le _
  rw [e, List.count_append] at h1
  simp at h1
  omega
/-- the order that makes the new rows of the old ones -/
def mtch (old new : List Int) : List Nat := (List.range new.length).map fun x => nth old (new.getD x 0) ((new.take x).count (new.getD x 0))
theorem mtch_len (old new : List Int) : (mtch old new).length = new.length := by unfold mtch; rw [List.length_map, List.length_range]
theorem getD_of {l : List Int} {x : Nat} {v : Int} (h : l[x]? = some v) : l.getD x 0 = v := by rw [List.getD_eq_getElem?_getD, h]; rfl
theorem mtch_at {old new : List Int} {x : Nat} {v : Int} (h : new[x]? = some v) : (mtch old new)[x]? = some (nth old v ((new.take x).count v)) := by
  unfold mtch
  rw [List.getElem?_map, List.getElem?_range (List.getElem?_eq_some_iff.mp h).1]
  show some (nth old (new.getD x 0) ((new.take x).count (new.getD x 0))) = _
  rw [getD_of h]
theorem mtch_val {old new : List Int} (hp : old.Perm new) {x : Nat} {v : Int} (h : new[x]? = some v) : ∃ y, (mtch old new)[x]? = some y ∧ old[y]? = some v ∧ (old.take y).count v = (new.take x).count v := by
  have hc : (new.take x).count v < old.count v := by rw [hp.count_eq]; exact rank_lt h
  obtain ⟨h1, h2⟩ := nth_spec hc
  exact ⟨_, mtch_at h, h1, h2⟩
/-- back -/
theorem mtch_back {old new : List Int} (hp : old.Perm new) {x y : Nat} (h : (mtch old new)[x]? = some y) : (mtch new old)[y]? = some x := by
  have hx : x < new.length := by rw [← mtch_len old new]; exact (List.getElem?_eq_some_iff.mp h).1
  have hv : new[x]? = some new[x] := List.getElem?_eq_getElem hx
  obtain ⟨y', h1, h2, h3⟩ := mtch_val hp hv
  rw [h] at h1
  cases h1
  rw [mtch_at h2, h3, nth_rank hv]
theorem ord_of {o : List Nat} {n : Nat} (hn : n ≤ 5) (hd : o.Nodup) (hlt : ∀ x ∈ o, x < n) (hm : ∀ x, x < n → x ∈ o) : IsOrd o n := by
  refine ⟨List.perm_iff_count.mpr fun a => ?_, hn⟩
  rw [hd.count, List.nodup_range.count]
  by_cases h : a < n
  · rw [if_pos (hm a h), if_pos (List.mem_range.mpr h)]
  · rw [if_neg (fun z => h (hlt a z)), if_neg (fun z => h (List.mem_range.mp z))]
theorem mtch_ord {old new : List Int} (hp : old.Perm new) (hn : new.length ≤ 5) : IsOrd (mtch old new) new.length := by
  have hl := hp.length_eq
  refine ord_of hn ?_ (fun y hy => ?_) (fun y hy => ?_)
  · refine List.pairwise_iff_getElem.mpr fun i j hi hj hij e => ?_
    have h1 := mtch_back hp (List.getElem?_eq_getElem hi)
    have h2 := mtch_back hp (List.getElem?_eq_getElem hj)
    rw [e, h2] at h1
    have := Option.some.inj h1
    omega
  · obtain ⟨x, hx⟩ := List.getElem?_of_mem hy
    have h1 := mtch_back hp hx
    have := (List.getElem?_eq_some_iff.mp h1).1
    rw [mtch_len] at this
    omega
  · have hyl : y < (mtch new old).length := by rw [mtch_len]; omega
    exact List.mem_of_getElem? (mtch_back hp.symm (List.getElem?_eq_getElem hyl))
/-- which rows are used behind i turns -/
def usedAt (old new : List Int) (i : Nat) : List Bool := (List.range old.length).map fun y => decide ((old.take y).count (old.getD y 0) < (new.take i).count (old.getD y 0))
theorem usedAt_at {old new : List Int} {i y : Nat} {v : Int} (h : old[y]? = some v) : (usedAt old new i)[y]? = some (decide ((old.take y).count v < (new.take i).count v)) := by
  unfold usedAt
  rw [List.getElem?_map, List.getElem?_range (List.getElem?_eq_some_iff.mp h).1]
  show some (decide ((old.take y).count (old.getD y 0) < (new.take i).count (old.getD y 0))) = _
  rw [getD_of h]
theorem usedAt_len (old new : List Int) (i : Nat) : (usedAt old new i).length = old.length := by unfold usedAt; rw [List.length_map, List.length_range]
theorem filter_first {p : Nat → Bool} {n y : Nat} (hy : y < n) (hp : p y = true) (hb : ∀ z, z < y → p z = false) : ((List.range n).filter p)[0]? = some y := by
  have e : List.range n = List.range y ++ (y :: (List.range (n - y - 1)).map fun i => y + 1 + i) := by
    have h1 : n = y + (1 + (n - y - 1)) := by omega
    rw [h1, List.range_add, List.range_add]
    have h2 : y + (1 + (n - y - 1)) - y - 1 = n - y - 1 := by omega
    rw [h2]
    simp [List.range_one, Function.comp_def, Nat.add_assoc]
  rw [e, List.filter_append, List.filter_eq_nil_iff.mpr (fun z hz => by rw [hb z (List.mem_range.mp hz)]; decide), List.nil_append, List.filter_cons, if_pos hp]
  rfl
theorem found_first {old new : List Int} (hp : old.Perm new) {i : Nat} {v : Int} (h : new[i]? = some v) {p : Nat → Bool} (hpd : ∀ y u, old[y]? = some u → p y = (decide (u = v) && !(decide ((old.take y).count u < (new.take i).count u)))) :
    ((List.range old.length).filter p)[0]? = some (nth old v ((new.take i).count v)) := by
  have hc : (new.take i).count v < old.count v := by rw [hp.count_eq]; exact rank_lt h
  obtain ⟨h1, h2⟩ := nth_spec hc
  have hlt := (List.getElem?_eq_some_iff.mp h1).1
  refine filter_first hlt ?_ (fun z hz => ?_)
  · rw [hpd _ _ h1, h2]
    simp
  · have hzl : z < old.length := by omega
    have hz1 : old[z]? = some old[z] := List.getElem?_eq_getElem hzl
    rw [hpd z _ hz1]
    by_cases e : old[z] = v
    · have := rank_mono (hz1.trans (congrArg some e)) hz
      rw [h2] at this
      rw [e]
      simp [this]
    · simp [e]
theorem usedAt_step {old new : List Int} (hp : old.Perm new) {i : Nat} {v : Int} (h : new[i]? = some v) : (usedAt old new i).set (nth old v ((new.take i).count v)) true = usedAt old new (i + 1) := by
  have hc : (new.take i).count v < old.count v := by rw [hp.count_eq]; exact rank_lt h
  obtain ⟨h1, h2⟩ := nth_spec hc
  have e : new.take (i + 1) = new.take i ++ [v] := by rw [List.take_add_one, h]; rfl
  refine List.ext_getElem? fun y => ?_
  by_cases hy : y < old.length
  · have hy1 : old[y]? = some old[y] := List.getElem?_eq_getElem hy
    rw [usedAt_at hy1, e, List.count_append]
    by_cases q : nth old v ((new.take i).count v) = y
    · rw [q] at h1 h2
      rw [hy1] at h1
      have hv := Option.some.inj h1
      rw [q, List.getElem?_set_self (by rw [usedAt_len]; exact hy), hv, h2]
      simp
    · rw [List.getElem?_set_ne q, usedAt_at hy1]
      congr 1
      refine decide_eq_decide.mpr ?_
      by_cases ev : old[y] = v
      · rw [ev]
        have hy2 : old[y]? = some v := hy1.trans (congrArg some ev)
        have hne : (old.take y).count v ≠ (new.take i).count v := fun z => q (by rw [← z]; exact nth_rank hy2)
        simp
        omega
      · have : [v].count old[y] = 0 := by
          rw [List.count_singleton]
          simp [Ne.symm ev]
        omega
  · rw [List.getElem?_eq_none (by rw [List.length_set, usedAt_len]; omega), List.getElem?_eq_none (by rw [usedAt_len]; omega)]
theorem usedAt_zero (old new : List Int) : usedAt old new 0 = old.map fun _ => false := by
  refine List.ext_getElem? fun y => ?_
  by_cases hy : y < old.length
  · rw [usedAt_at (List.getElem?_eq_getElem hy), List.getElem?_map, List.getElem?_eq_getElem hy]
    simp
  · rw [List.getElem?_eq_none (by rw [usedAt_len]; omega), List.getElem?_eq_none (by rw [List.length_map]; omega)]
end Vc
set_option maxHeartbeats 4000000
/-! VcD3: order_of_number, order_number, matching -/
namespace Vc
open PySem PySem.Spec L2
theorem map_erase {α β : Type} (f : α → β) : ∀ (l : List α) (k : Nat), (l.eraseIdx k).map f = (l.map f).eraseIdx k
  | [], _ => rfl
  | _ :: _, 0 => rfl
  | a :: l, k + 1 => congrArg (f a :: ·) (map_erase f l k)
theorem perm_erase {α : Type} : ∀ {l : List α} {k : Nat} {a : α}, l[k]? = some a → (a :: l.eraseIdx k).Perm l
  | [], _, _, h => by simp at h
  | b :: l, 0, a, h => by
    have e : b = a := by simpa using h
    subst e
    exact .refl _
  | b :: l, k + 1, a, h => by
    have ih := perm_erase (l := l) (k := k) (a := a) (by simpa using h)
    exact (List.Perm.swap _ _ _).trans (ih.cons b)
section
variable {P : Program} {w : World} {K : PySem.W.Frag} {mg : Str → Option Value} {base : Heap}
def S_order_of_number : Spec (Nat × Nat) := ⟨fun z => z.1 ≤ 5 ∧ z.2 < fct z.1, fun z => [tN z.1, tN z.2], fun z => tEx (fun o => IsOrd o z.1) tNs⟩
theorem ok_order_of_number (T : Tx K mg) : DefOk P w K mg base 2 "order_of_number" [] S_order_of_number.sp :=
  T.k_order_of_number fun fd F => S_order_of_number.ok F sc_order_of_number (fun _ _ => rfl) fun p B rt ⟨n, c⟩ hr hp hR => by
    have hp : n ≤ 5 ∧ c < fct n := hp
    obtain ⟨hn, hc⟩ := hp
    have h5 : ∀ m, m ≤ 5 → fct m ≤ 120 := fun m hm => fct_le hm
    refine ss_ifF (Tt.is (t_not (t_chain op_le op_lt e_int (e_var 1) (e_call (S := S_factorial) n (ok_factorial T) hr (ea_cons (e_var 0) ea_nil) hn))) ?_) ?_
    · have h1 : (0 : Int) ≤ (c : Int) := by omega
      have h2 : (c : Int) < ((fct n : Nat) : Int) := by omega
      simp [h2]
    refine ss_asgO 2 sc_order_of_number.nd (eo_listRg (n := n) (e_var 0) (by omega) rfl T.f_list T.f_range) fun l hl => ?_
    refine ss_asg 3 sc_order_of_number.nd (e_var 1) ?_
    refine ss_asgO 4 sc_order_of_number.nd (eo_lst ea_nil (by decide)) fun l2 hl2 => ?_
    refine ss_forR (ζ := List Nat × List Nat × Nat) (n := n) (fun i z => (z.2.1 ++ z.1).Perm (List.range n) ∧ z.1.length = n - i ∧ z.2.2 < fct (n - i)) (fun i z => [some (tN n), some (tN c), some (tRef l), some (tN z.2.2), some (tRef l2), none, none])
      (fun i z => [(l, .lst (z.1.map tN)), (l2, .lst (z.2.1.map tN))]) 5 rfl sc_order_of_number.nd PassesOwn.never T.f_range (e_var 0) (by omega) (List.range n, [], c) ⟨by simp, by simp, by simpa using hc⟩ (fun i z bk hi hJ => ?_) (fun z hJ => ?_)
    · obtain ⟨left, order, rest⟩ := z
      obtain ⟨hj1, hj2, hj3⟩ := hJ
      have hj1 : (order ++ left).Perm (List.range n) := hj1
      have hj2 : left.length = n - i := hj2
      have hj3 : rest < fct (n - i) := hj3
      have hb : fct (n - i) = fct (n - i - 1) * (n - i) := by
        have e : n - i = (n - i - 1) + 1 := by omega
        rw [e]
        show fct (n - i - 1) * (n - i - 1 + 1) = fct (n - i - 1 + 1 - 1) * (n - i - 1 + 1)
        rw [Nat.add_sub_cancel]
      have hb0 := fct_pos (n - i - 1)
      have hb1 := h5 (n - i - 1) (by omega)
      have hk : rest / fct (n - i - 1) < left.length := by
        rw [hj2]
        exact Nat.div_lt_of_lt_mul (by rw [← hb]; exact hj3)
      have hy : left[rest / fct (n - i - 1)]? = some left[rest / fct (n - i - 1)] := List.getElem?_eq_getElem hk
      refine ss_asg 6 sc_order_of_number.nd (e_call (S := S_factorial) (n - i - 1) (ok_factorial T) hr (ea_cons (Et.is (e_sub (e_sub (e_var 0) (e_var 5)) e_int) (tnI (b := n - i - 1) (by omega))) ea_nil) (by show n - i - 1 ≤ 5; omega)) ?_
      refine ss_append (l := l2) (ts := order.map tN) (R := tN left[rest / fct (n - i - 1)]) 1 (e_var 4) (e_pop (l := l) (n := rest / fct (n - i - 1)) (ts := left.map tN) 0 (e_var 2) (Et.is (e_fdiv (i := (rest : Int)) (j := ((fct (n - i - 1) : Nat) : Int)) (e_var 3) (e_var 6) ⟨by omega, by omega⟩) (tnI (Int.natCast_ediv _ _).symm)) (putM tN hy) (by omega)) ?_ ?_
      · refine ss_asg 3 sc_order_of_number.nd (Et.is (e_mod (i := (rest : Int)) (j := ((fct (n - i - 1) : Nat) : Int)) (e_var 3) (e_var 6) (by omega)) (tnI (Int.natCast_emod _ _).symm)) ?_
        refine ss_next (left.eraseIdx (rest / fct (n - i - 1)), order ++ [left[rest / fct (n - i - 1)]], rest % fct (n - i - 1)) ⟨?_, ?_, ?_⟩ (ho := ?_)
        · show ((order ++ [left[rest / fct (n - i - 1)]]) ++ left.eraseIdx (rest / fct (n - i - 1))).Perm (List.range n)
          rw [List.append_assoc]
          exact ((perm_erase hy).append_left order).trans hj1
        · show (left.eraseIdx (rest / fct (n - i - 1))).length = n - (i + 1)
          rw [List.length_eraseIdx, if_pos hk, hj2]
          omega
        · show rest % fct (n - i - 1) < fct (n - (i + 1))
          rw [show n - (i + 1) = n - i - 1 by omega]
          exact Nat.mod_lt _ hb0
        · show [(l, Ch.lst ((left.eraseIdx (rest / fct (n - i - 1))).map tN)), (l2, Ch.lst ((order ++ [left[rest / fct (n - i - 1)]]).map tN))] = [(l, Ch.lst ((left.map tN).eraseIdx (rest / fct (n - i - 1)))), (l2, Ch.lst (order.map tN ++ [tN left[rest / fct (n - i - 1)]]))]
          rw [List.map_append, map_erase]
          rfl
      · rw [List.length_map]
        have h1 := hj1.length_eq
        rw [List.length_append, List.length_range] at h1
        omega
    · obtain ⟨left, order, rest⟩ := z
      obtain ⟨hj1, hj2, _⟩ := hJ
      have hj1 : (order ++ left).Perm (List.range n) := hj1
      have hj2 : left.length = n - n := hj2
      have e : left = [] := List.eq_nil_of_length_eq_zero (by omega)
      subst e
      rw [List.append_nil] at hj1
      refine ss_freeze 4 1 (ss_retp (Et.to (e_var 4) (R := tNs order) (R1 := tEx (fun o => IsOrd o n) tNs) (fun v H r => ⟨order, ⟨hj1, hn⟩, r⟩)) hR) hl2
/-! ### order_number -/
def S_order_number : Spec (List Nat × Nat) := ⟨fun z => IsOrd z.1 z.2, fun z => [tNs z.1], fun _ => tEx (fun _ : Int => True) tI⟩
theorem ok_order_number (T : Tx K mg) : DefOk P w K mg base 3 "order_number" [] S_order_number.sp :=
  T.k_order_number fun fd F => S_order_number.ok F sc_order_number (fun _ _ => rfl) fun p B rt ⟨o, n⟩ hr hp hR => by
    have hp : IsOrd o n := hp
    have hn := hp.2
    have hlen := hp.len
    refine ss_asgOX (P := fun y : List Nat => y.Perm o) (O' := fun l y => [] ++ [(l, .lst (y.map tN))]) 1 sc_order_number.nd (eo_if (t_val (e_call (S := S_is_order) (o, n) (ok_is_order T) hr (ea_cons (e_var 0) ea_nil) hp)) (fun _ => ?_) (fun h => nomatch h)) fun l left hl hleft => ?_
    · refine eo_callG (S := O_checked_order) (f := fun y : List Nat => y.map tN) (P := fun y : List Nat => y.Perm o) (oko_checked_order T) hr (ea_cons (e_sorted (ns := castL o) (Et.is (e_var 0) (tNs_tIs o)) ls (by rw [List.length_map]; omega) T.f_sorted) ea_nil) fun H vs al => ?_
      obtain ⟨v, vs', rfl, ⟨ns, ⟨h1, h2⟩, r⟩, r2⟩ := al.uncons
      obtain rfl := r2.unnil
      have e := sorted_ord hp h1 h2
      subst e
      rw [← tNs_tIs] at r
      exact ⟨(List.range n, n), List.range n, ⟨.refl _, hn⟩, .one r, hp.1.symm, rfl⟩
    refine ss_asg 2 sc_order_number.nd e_int ?_
    refine ss_forE (ζ := List Nat × Int) (fun i z => z.1.Perm (o.drop i)) (fun i z => [some (tNs o), some (tRef l), some (tI z.2), none, none, none]) (fun i z => [(l, .lst (z.1.map tN))]) 3 4 rfl sc_order_number.nd PassesOwn.never T.f_enumerate (e_var 0) (left, 0) (by simpa using hleft) (fun H1 i Ti z bk hT hJ => ?_) (fun z hJ => ?_)
    · obtain ⟨row, hrow, rfl⟩ := getM hT
      have hrow : o[i]? = some row := hrow
      obtain ⟨left, num⟩ := z
      have hJ : left.Perm (o.drop i) := hJ
      have hi := (List.getElem?_eq_some_iff.mp hrow).1
      have hd : o.drop i = row :: o.drop (i + 1) := by
        rw [List.drop_eq_getElem_cons hi]
        rw [(List.getElem?_eq_some_iff.mp hrow).2]
      have hm : row ∈ left := hJ.mem_iff.mpr (by rw [hd]; exact List.mem_cons_self)
      have hix : left.idxOf row < left.length := List.idxOf_lt_length_of_mem hm
      have hll : left.length ≤ 5 := by rw [hJ.length_eq, List.length_drop]; omega
      have hg : left[left.idxOf row]? = some row := by
        rw [List.getElem?_eq_getElem hix]
        exact congrArg some (List.getElem_idxOf hix)
      have hl2 : ((o, n).1.map tN).length = n := by rw [List.length_map]; exact hlen
      refine ss_asg 5 sc_order_number.nd (e_index (n := row) (ns := left) (e_var 1) (e_var 4) (lso 0) (lso 0) hm) ?_
      refine ss_augT (u := num) (w := ((left.idxOf row : Nat) : Int) * ((fct (n - i - 1) : Nat) : Int)) 2 sc_order_number.nd iop_add (e_mul (e_var 5) (e_call (S := S_factorial) (n - i - 1) (ok_factorial T) hr (ea_cons (Et.is (e_sub (e_sub (e_len (e_var 0) ls T.f_len) (e_var 3)) e_int) (tnI (b := n - i - 1) (by rw [hl2]; omega))) ea_nil) (by show n - i - 1 ≤ 5; omega)) (.inl ⟨by omega, by omega⟩)) rfl ?_
      refine ss_expr (e_pop (l := l) (n := left.idxOf row) (ts := left.map tN) 0 (e_var 1) (e_var 5) (putM tN hg) (by omega)) ?_
      refine ss_next (left.eraseIdx (left.idxOf row), _) ?_ (ho := ?_)
      · show (left.eraseIdx (left.idxOf row)).Perm (o.drop (i + 1))
        rw [← List.erase_eq_eraseIdx_of_idxOf rfl]
        have := hJ.erase row
        rw [hd, List.erase_cons_head] at this
        exact this
      · show [(l, Ch.lst ((left.eraseIdx (left.idxOf row)).map tN))] = [(l, Ch.lst ((left.map tN).eraseIdx (left.idxOf row)))]
        rw [map_erase]
    · exact ss_retp (Et.to (e_var 2) (R := tI z.2) (R1 := tEx (fun _ : Int => True) tI) (fun v H r => ⟨z.2, trivial, r⟩)) hR
/-! ### matching -/
def S_matching : Spec (List Int × List Int) := ⟨fun z => z.1.Perm z.2 ∧ z.2.length ≤ 5, fun z => [tIs z.1, tIs z.2], fun z => tNs (mtch z.1 z.2)⟩
theorem ok_matching (T : Tx K mg) : DefOk P w K mg base 1 "matching" [] S_matching.sp :=
  T.k_matching fun fd F => S_matching.ok F sc_matching (fun _ _ => rfl) fun p B rt ⟨old, new⟩ hr hp hR => by
    have hp : old.Perm new ∧ new.length ≤ 5 := hp
    obtain ⟨hp, hn⟩ := hp
    have hlen := hp.length_eq
    have hlo : ((old, new).1.map tI).length = old.length := List.length_map _
    have hln : ((old, new).2.map tI).length = new.length := List.length_map _
    refine ss_ifF (Tt.is (t_ne (e_len (e_var 0) ls T.f_len) (e_len (e_var 1) ls T.f_len)) ?_) ?_
    · rw [hlo, hln, hlen]
      simp
    refine ss_asgO 2 sc_matching.nd (Lc.eo (lcM (j := 4) (xs := old) (f := tI) (g := fun _ => tB false) (bk sc_matching.nd) (e_var 0) (by omega) (fun H1 i a ha q s0 H0 C cl fp => e_bl))) fun l hl => ?_
    refine ss_asgO 3 sc_matching.nd (eo_lst ea_nil (by decide)) fun l2 hl2 => ?_
    refine ss_forL (ζ := Unit) (fun _ _ => True) (fun _ _ => [some (tIs old), some (tIs new), some (tRef l), some (tRef l2), none, none, none]) (fun i _ => [(l, .lst ((usedAt old new i).map tB)), (l2, .lst (((mtch old new).take i).map tN))]) 4 rfl sc_matching.nd PassesOwn.never (e_var 1) () trivial (ho := ?_) (fun H1 i Ti z kb hT _ => ?_) (fun _ _ => ?_)
    · obtain ⟨v, hv, rfl⟩ := getM hT
      have hv : new[i]? = some v := hv
      have hc : (new.take i).count v < old.count v := by rw [hp.count_eq]; exact rank_lt hv
      obtain ⟨h1, h2⟩ := nth_spec hc
      have hy := (List.getElem?_eq_some_iff.mp h1).1
      let pr : Nat → Bool := fun y => decide (old.getD y 0 = v) && !((usedAt old new i).getD y false)
      have hpr : ∀ y u, old[y]? = some u → pr y = (decide (u = v) && !(decide ((old.take y).count u < (new.take i).count u))) := fun y u hu => by
        show (decide (old.getD y 0 = v) && !((usedAt old new i).getD y false)) = _
        rw [getD_of hu, List.getD_eq_getElem?_getD, usedAt_at hu]
        rfl
      have hff := found_first hp hv hpr
      generalize hy0 : nth old v ((new.take i).count v) = y0 at h1 h2 hy hff
      refine ss_lcK (ts := ((List.range old.length).filter pr).map tN) 5 (lcRt (j := 6) (n := old.length) (b := pr) (U := fun y => tN y) (Oi := fun _ => _) (Oi' := fun _ => _) (bk sc_matching.nd) (Et.is (e_len (e_var 0) ls T.f_len) (congrArg tN hlo)) (by omega) T.f_range (fun H2 y hy2 q s0 H0 C cl fp => ?_) (fun H2 y hy2 hb q s0 H0 C cl fp => e_var 6) (fun _ _ => rfl)) ?_
      · have hu : old[y]? = some old[y] := List.getElem?_eq_getElem hy2
        refine Tt.is (t_and (t_eq (e_ix (U := tI old[y]) (e_var 0) ls (e_var 6) (putM tI hu)) (e_var 4)) (fun _ => t_not (t_val (e_ix (U := tB (decide ((old.take y).count old[y] < (new.take i).count old[y]))) (e_var 2) (lso 0) (e_var 6) (putM tB (usedAt_at hu)))))) (hpr y _ hu).symm
      refine ss_ifF (Tt.is (t_not (t_lst (e_var 5) ls)) ?_) ?_
      · cases hq : (List.range old.length).filter pr with
        | nil => rw [hq] at hff; cases hff
        | cons a r => rfl
      have hff2 : atI (((List.range old.length).filter pr).map tN) 0 = some (tN y0) := atI_nat (putM tN hff)
      refine ss_setItem (l := l) (n := y0) (ts := (usedAt old new i).map tB) (R := tB true) 0 e_bl (e_var 2) (e_ixI (e_var 5) ls e_int hff2) ?_ (by rw [List.length_map, usedAt_len]; exact hy)
      refine ss_append (l := l2) (ts := ((mtch old new).take i).map tN) (R := tN y0) 1 (e_var 3) (e_ixI (e_var 5) ls e_int hff2) (ss_next () trivial (ho := ?_)) (by rw [List.length_map, List.length_take, mtch_len]; omega)
      show [(l, Ch.lst ((usedAt old new (i + 1)).map tB)), (l2, Ch.lst (((mtch old new).take (i + 1)).map tN))] = [(l, Ch.lst (((usedAt old new i).map tB).set y0 (tB true))), (l2, Ch.lst (((mtch old new).take i).map tN ++ [tN y0]))]
      have e1 := usedAt_step hp hv
      rw [hy0] at e1
      rw [← e1, List.map_set, List.take_add_one, mtch_at hv, hy0, List.map_append]
      rfl
    · have e : (mtch old new).take ((old, new).2.map tI).length = mtch old new := by
        rw [hln, ← mtch_len old new, List.take_length]
      rw [e]
      exact ss_freeze 3 1 (ss_retp (e_var 3) hR) hl2
    · rw [usedAt_zero, List.map_map]
      rfl
end
end Vc
set_option maxHeartbeats 4000000
/-! VcMore2: __init__, methods, fields changed -/
namespace Vc
open PySem PySem.Spec L2
section
variable {P : Program} {w : World} {K : PySem.W.Frag} {mg : Str → Option Value} {base : Heap} {x qual : Str} {params : Arguments} {body : List Stmt} {scope : Scope} {dvs : List V} {kws : List (Str × V)} {f : Addr} {fd : FuncData} {N ps : List Str} {k : Nat} {ι : Type}
theorem SpecI.ok {S : SpecI ι} {C : Addr} (F : FunD K x qual params body scope dvs kws f fd) (sc : FnScope N ps scope) (hl : ∀ i, S.pre i → (S.args i).length + 1 = ps.length)
    (hb : ∀ (p : Par) (B : Bs) (rt : VK) (i : ι) (l dx : Addr), Room k (XD P w K mg base N qual scope p).A → S.pre i → (∀ σ G H Ha, Sat B G [(l, .ins C dx (S.fs i))] σ H Ha → rt .non Ha) →
      SS (XD P w K mg base N qual scope p) body (Sat B (some (tRef l) :: (S.args i).map some ++ List.replicate (N.length - ((S.args i).length + 1)) none) [(l, .ins C dx [])]) (DR rt)) :
    FnOk P w K mg base CX0 (k + 1) f fd ps (S.sp C) :=
  Spec2.ok F sc (fun i hp => hl i.1 hp) fun p B rt ⟨i, l, dx⟩ hr hp _ _ hR => hb p B rt i l dx hr hp fun σ G H Ha s => hR σ G _ H Ha s rfl
/-- a method -/
structure MethOk (P : Program) (w : World) (K : PySem.W.Frag) (mg : Str → Option Value) (base : Heap) (k : Nat) (C : Addr) (m : Str) (sp : Sp) : Prop where
  cl : Cls K C
  ex : ∃ (f : Addr) (fd : FuncData) (ps : List Str), Meth K C m f ∧ FnOk P w K mg base CX0 k f fd ps sp ∧ Binds K fd ps []
theorem Tx.okM (T : Tx K mg) (i jc jm : Nat) {d : He.DefD} {x m : Str} {sp : Sp} (hd : fnAll[i]? = some d) (hx : d.at_ = (x, some m)) (hc : faAll[jc]? = some (.cls x)) (hm : faAll[jm]? = some (.meth x m)) (hf : d.dfl = []) (hw : d.kwd = [])
    (F : ∀ fd, FunD K d.name d.qual d.params d.body d.scope [] [] (He.ma K (He.ga K x) m) fd → FnOk P w K mg base CX0 k (He.ma K (He.ga K x) m) fd ps sp)
    (hb : ∀ (kV doc pm : Value) (an : Option Addr) (cdv ct : Value) (us : List Value), us.length = ps.length → bindArgs (PySem.W.fnOf d.name d.qual d.params d.body d.scope .none kV doc pm an cdv ct) ⟨us, []⟩ = pure (ps.zip us)) : MethOk P w K mg base k (He.ga K x) m sp := by
  obtain ⟨fd, FD⟩ := T.says.def_ i hd
  have e1 : d.dvs K = [] := by unfold He.DefD.dvs; rw [hf]; rfl
  have e2 : d.kws K = [] := by unfold He.DefD.kws; rw [hw]; rfl
  have e3 : He.fAd K d.at_ = He.ma K (He.ga K x) m := by rw [hx]; rfl
  rw [e1, e2, e3] at FD
  exact ⟨T.cls jc hc, He.ma K (He.ga K x) m, fd, ps, T.meth jm hm, F fd FD, FD.bindsN hb⟩
end
theorem smN {n : Nat} (h : n ≤ 1000) : -(2 ^ 64) < (n : Int) ∧ (n : Int) < 2 ^ 64 := ⟨by omega, by omega⟩
theorem smN1 {n : Nat} (h : n ≤ 1000) : -(2 ^ 64) < (n : Int) - 1 ∧ (n : Int) - 1 < 2 ^ 64 := ⟨by omega, by omega⟩
theorem putF_len {f : Str} {v u : V} : ∀ {gs : List (Str × V)}, gs.lookup f = some u → (putF f v gs).length = gs.length
  | [], h => by cases h
  | (g, y) :: gs, h => by
    have e1 : (match f == g with | true => some y | false => gs.lookup f) = some u := h
    show (if g = f then (g, v) :: gs else (g, y) :: putF f v gs).length = _
    by_cases q : g = f
    · rw [if_pos q]; rfl
    · rw [if_neg q]
      rw [show (f == g) = false from beq_eq_false_iff_ne.mpr (Ne.symm q)] at e1
      exact congrArg Nat.succ (putF_len e1)
/-- the field that stands first is changed -/
theorem FldT.head {H : Hp} {f : Str} {T U : Ty} {v : V} {fs : List (Str × Ty)} {gs : List (Str × V)} (h : FldT H ((f, U) :: fs) gs) (hp : T.p v H) : FldT H ((f, T) :: fs) (putF f v gs) := by
  obtain ⟨u, hu, _⟩ := h.2.1 f U (by show (match f == f with | true => some U | false => fs.lookup f) = some U; rw [beq_self_eq_true])
  refine ⟨by rw [putF_len hu]; exact h.1, fun g W e => ?_, fun g e => ?_⟩
  · rw [lookup_putF]
    have e1 : (match g == f with | true => some T | false => fs.lookup g) = some W := e
    by_cases q : g = f
    · rw [if_pos q]
      rw [show (g == f) = true from beq_iff_eq.mpr q] at e1
      cases e1
      exact ⟨v, rfl, hp⟩
    · rw [if_neg q]
      rw [show (g == f) = false from beq_eq_false_iff_ne.mpr q] at e1
      refine h.2.1 g W ?_
      show (match g == f with | true => some U | false => fs.lookup g) = some W
      rw [show (g == f) = false from beq_eq_false_iff_ne.mpr q]
      exact e1
  · rw [lookup_putF]
    have e1 : (match g == f with | true => some T | false => fs.lookup g) = none := e
    by_cases q : g = f
    · rw [show (g == f) = true from beq_iff_eq.mpr q] at e1
      cases e1
    · rw [if_neg q]
      rw [show (g == f) = false from beq_eq_false_iff_ne.mpr q] at e1
      refine h.2.2 g ?_
      show (match g == f with | true => some U | false => fs.lookup g) = none
      rw [show (g == f) = false from beq_eq_false_iff_ne.mpr q]
      exact e1
section
variable {X : Cx} {B : Bs} {G : Gm} {O O1 O2 : Om} {a b c e o : Expr} {es : List Expr} {R R1 : Ty} {Rs : List Ty} {pos p : Pos} {m k : Nat} {x : Str} {rest : List Stmt} {D : Ends} {C l : Addr}
/-- o.m(e, ..), o owned; o.m() -/
theorem e_meth {ι : Type} {S : Spec2 ι} {nm : Str} {apos : Pos} {pl : Sem Bool} {dx : Addr} {fs : List (Str × Ty)} (z : ι) (kk : Nat) (D : MethOk X.prog X.w X.K X.mg X.base k C nm S.sp) (hr : Room m X.A) (ho : E X B G O o (tRef (S.l z)) O) (ha : EA X B G O (e :: es) Rs O1) (hz : S.args z = tRef (S.l z) :: Rs) (hp : S.pre z)
    (hk0 : O[kk]? = some (S.l z, .ins C dx fs)) (hfs : fs.lookup nm = none) (hko : O1[kk]? = some (S.l z, S.c z) := by rfl) (hk : k ≤ m := by decide)
    (hst : starEach (e :: es) X.env = (false, eval e X.env) :: starEach es X.env := by rfl) (hpl : (backTo pos (starEach es X.env)).any (·.1) = false := by rfl)
    (ht : eval (.Call (.Attribute o nm apos) (e :: es) [] pos) X.env = (do
      let ov ← eval o X.env
      standAt apos.atName
      let (f, first) ← holding [ov] (getMethod ov nm pl)
      callWith pos f first (backTo pos (starEach (e :: es) X.env)) (backToKw pos (keywordEach [] X.env))) := by rfl) :
    E X B G O (.Call (.Attribute o nm apos) (e :: es) [] pos) (S.ret z) (O1.set kk (S.l z, S.c' z)) := by
  obtain ⟨f, fd, ps, hm, F, hb⟩ := D.ex
  refine Et.of (pe_meth ew D.cl hm F (hr.mono hk) hb .nil pass0 aw hst hpl ht) fun σ H Ha s Q q => ho σ H Ha s _ fun v H1 Ha1 s1 k1 r1 => ?_
  obtain rfl : v = V.ref (S.l z) := r1
  obtain ⟨ob, hob, hc⟩ := k1.read hk0
  obtain ⟨gs, rfl, al⟩ := Ch.ins_inv hc
  refine ⟨S.l z, dx, gs, rfl, hob, al.2.2 nm hfs, ha σ H1 Ha1 k1 _ fun vs H2 Ha2 s2 k2 r2 => ?_⟩
  exact ⟨z, H2, hp, k2.ha, (k2.ow.2 _ (List.mem_of_getElem? hko)).1, by rw [hz, List.append_nil]; exact .cons rfl r2, k2.read hko, fun v H3 Ha3 x3 r3 hn o3 => q v H3 Ha3 ((s1.trans s2).trans x3.k) (k2.call2 hko x3 hn o3) r3⟩
theorem e_meth0 {ι : Type} {S : Spec2 ι} {nm : Str} {apos : Pos} {pl : Sem Bool} {dx : Addr} {fs : List (Str × Ty)} (z : ι) (kk : Nat) (D : MethOk X.prog X.w X.K X.mg X.base k C nm S.sp) (hr : Room m X.A) (ho : E X B G O o (tRef (S.l z)) O) (hz : S.args z = [tRef (S.l z)]) (hp : S.pre z)
    (hk0 : O[kk]? = some (S.l z, .ins C dx fs)) (hfs : fs.lookup nm = none) (hko : O[kk]? = some (S.l z, S.c z) := by rfl) (hk : k ≤ m := by decide)
    (ht : eval (.Call (.Attribute o nm apos) [] [] pos) X.env = (do
      let ov ← eval o X.env
      standAt apos.atName
      let (f, first) ← holding [ov] (getMethod ov nm pl)
      callWith pos f first (backTo pos (starEach [] X.env)) (backToKw pos (keywordEach [] X.env))) := by rfl) :
    E X B G O (.Call (.Attribute o nm apos) [] [] pos) (S.ret z) (O.set kk (S.l z, S.c' z)) := by
  obtain ⟨f, fd, ps, hm, F, hb⟩ := D.ex
  refine Et.of (pe_meth0 ew D.cl hm F (hr.mono hk) hb .nil pass0 ht) fun σ H Ha s Q q => ho σ H Ha s _ fun v H1 Ha1 s1 k1 r1 => ?_
  obtain rfl : v = V.ref (S.l z) := r1
  obtain ⟨ob, hob, hc⟩ := k1.read hk0
  obtain ⟨gs, rfl, al⟩ := Ch.ins_inv hc
  refine ⟨S.l z, dx, gs, rfl, hob, al.2.2 nm hfs, ?_⟩
  exact ⟨z, H1, hp, k1.ha, (k1.ow.2 _ (List.mem_of_getElem? hko)).1, by rw [hz]; exact .one rfl, k1.read hko, fun v H3 Ha3 x3 r3 hn o3 => q v H3 Ha3 (s1.trans x3.k) (k1.call2 hko x3 hn o3) r3⟩
/-- self.f += e (whole numbers), f the field that stands first -/
theorem ss_fldAdd {dx : Addr} {fs : List (Str × Ty)} {f : Str} {pos' : Pos} {u w : Int} {v : V} (kk : Nat) (ho : E X B G O o (tRef l) O) (he : E X B G O e (tI w) O1) (hv : V.int (u + w) = v) (r : SS X rest (Sat B G (O1.set kk (l, .ins C dx ((f, tV v) :: fs)))) D) (hc : Cls X.K C) (hn : NoAttr X.K C f)
    (hk0 : O[kk]? = some (l, .ins C dx ((f, tI u) :: fs)) := by rfl) (hk : O1[kk]? = some (l, .ins C dx ((f, tI u) :: fs)) := by rfl) (hz : fs.length < 900 := by exact of_decide_eq_true rfl) : SS X (.AugAssign (.Attribute o f pos') .Add e pos :: rest) (Sat B G O) D :=
  ss_of (ps_fldaug ew ew in_add) fun σ H Ha s => ho σ H Ha s _ fun ov H1 Ha1 s1 k1 r1 => by
    subst hv
    obtain rfl : ov = V.ref l := r1
    obtain ⟨ob, hob, hcc⟩ := k1.read hk0
    obtain ⟨gs, rfl, al⟩ := Ch.ins_inv hcc
    obtain ⟨v0, hv0, rv⟩ := al.2.1 f (tI u) (by show (match f == f with | true => some (tI u) | false => fs.lookup f) = _; rw [beq_self_eq_true])
    obtain rfl : v0 = V.int u := rv
    refine ⟨l, C, dx, gs, _, rfl, hob, hc, hn, hv0, he σ H1 Ha1 k1 _ fun y H2 Ha2 s2 k2 r2 => ?_⟩
    obtain rfl : y = V.int w := r2
    obtain ⟨ob, hob, hcc⟩ := k2.read hk
    obtain ⟨gs, rfl, al⟩ := Ch.ins_inv hcc
    refine ⟨u, w, rfl, rfl, dx, gs, hob, ?_, r σ H2 _ (k2.write hk (c' := .ins C dx ((f, tV (.int (u + w))) :: fs)) ⟨rfl, rfl, al.head rfl⟩)⟩
    have : gs.length ≤ fs.length + 1 := al.1
    omega
/-- a slot's type opened -/
theorem ss_open {α : Type} {P : α → Prop} {U : α → Ty} (i : Nat) (h : ∀ v H, R.p v H → ∃ z, P z ∧ (U z).p v H) (r : ∀ z, P z → SS X rest (Sat B (G.set i (some (U z))) O) D) (hG : G[i]? = some (some R) := by rfl) : SS X rest (Sat B G O) D := fun σ H Ha s => by
  obtain ⟨v, e, hv⟩ := s.sl.2 i R hG
  obtain ⟨z, hz, hu⟩ := h v H hv
  refine r z hz σ H Ha (s.slots ⟨by rw [List.length_set]; exact s.sl.1, fun m T e' => ?_⟩)
  by_cases q : i = m
  · subst q
    rw [List.getElem?_set_self (List.getElem?_eq_some_iff.mp hG).1] at e'
    cases e'
    exact ⟨v, e, hu⟩
  · rw [List.getElem?_set_ne q] at e'
    exact s.sl.2 m T e'
theorem ss_less (h : SS X rest (Sat B G O2) D) (hs : O2.Sublist O) : SS X rest (Sat B G O) D := ss_pre (fun σ H Ha s => ⟨H, s.fewer hs⟩) h
end
/-- a list of things that are there: a list that is there -/
theorem tL_ex {α : Type} {P : Nat → α → Prop} {f : α → Ty} {n : Nat} {v : V} {H : Hp} (h : (tL ((List.range n).map fun i => tEx (P i) f)).p v H) : ∃ xs : List α, (xs.length = n ∧ ∀ (i : Nat) x, xs[i]? = some x → P i x) ∧ (tL (xs.map f)).p v H := by
  obtain ⟨a, vs, rfl, hv, al⟩ := h
  have key : ∀ m, m ≤ n → ∃ xs : List α, xs.length = m ∧ (∀ (i : Nat) x, xs[i]? = some x → P i x) ∧ ∀ (i : Nat) x v, xs[i]? = some x → vs[i]? = some v → (f x).p v H := by
    intro m
    induction m with
    | zero => exact fun _ => ⟨[], rfl, fun i x e => by simp at e, fun i x v e => by simp at e⟩
    | succ m ih =>
      intro hm
      obtain ⟨xs, h1, h2, h3⟩ := ih (by omega)
      have e0 : ((List.range n).map fun i => tEx (P i) f)[m]? = some (tEx (P m) f) := by rw [List.getElem?_map, List.getElem?_range (by omega)]; rfl
      obtain ⟨v, hv, y, hy, ry⟩ := al.get e0
      refine ⟨xs ++ [y], by rw [List.length_append, h1]; rfl, fun i x e => ?_, fun i x u e hu => ?_⟩
      · by_cases hi : i < m
        · rw [List.getElem?_append_left (by omega)] at e
          exact h2 i x e
        · have hlt := (List.getElem?_eq_some_iff.mp e).1
          rw [List.length_append, h1] at hlt
          have : i = m := by simp at hlt; omega
          subst this
          rw [List.getElem?_append_right (by omega), h1] at e
          have : x = y := by simpa using e.symm
          subst this
          exact hy
      · by_cases hi : i < m
        · rw [List.getElem?_append_left (by omega)] at e
          exact h3 i x u e hu
        · have hlt := (List.getElem?_eq_some_iff.mp e).1
          rw [List.length_append, h1] at hlt
          have : i = m := by simp at hlt; omega
          subst this
          rw [List.getElem?_append_right (by omega), h1] at e
          have : x = y := by simpa using e.symm
          subst this
          rw [hv] at hu
          cases hu
          exact ry
  obtain ⟨xs, h1, h2, h3⟩ := key n (Nat.le_refl n)
  refine ⟨xs, ⟨h1, h2⟩, a, vs, rfl, hv, ⟨?_, fun i T v e hv => ?_⟩⟩
  · rw [← al.1, List.length_map, List.length_map, List.length_range, h1]
  · obtain ⟨x, hx, rfl⟩ := getM e
    exact h3 i x v hx hv
end Vc
set_option maxHeartbeats 4000000
/-! VcD4: coins -/
namespace Vc
open PySem PySem.Spec L2
/-- the coins of a stage: gather, order, spread -/
structure SC where
  g : List (List (List Int))
  o : List Nat
  s : List (List (List Int))
structure RC where
  v : List (List Int)
  st : List SC
abbrev fSC (c : SC) : List (Str × Ty) := [("spread", tM3 c.s), ("order", tNs c.o), ("gather", tM3 c.g)]
abbrev tSC (K : PySem.W.Frag) (c : SC) : Ty := tIn (He.ga K "StageCoins") (fSC c)
abbrev fRC (K : PySem.W.Frag) (c : RC) : List (Str × Ty) := [("stages", tL (c.st.map (tSC K))), ("votes", tM c.v)]
abbrev tRC (K : PySem.W.Frag) (c : RC) : Ty := tIn (He.ga K "RunCoins") (fRC K c)
def small3 (g : List (List (List Int))) : Prop := g.length ≤ 1000 ∧ ∀ b ∈ g, b.length ≤ 1000
section
variable {P : Program} {w : World} {K : PySem.W.Frag} {mg : Str → Option Value} {base : Heap}
/-- [[list(row) for row in rows] for rows in e] -/
theorem lc_copy3 {X : Cx} {B : Bs} {G : Gm} {O : Om} {scope scope2 : Scope} {x y : Str} {tp tp2 ip p2 ip2 p3 : Pos} {iter : Expr} {i j : Nat} {g : List (List (List Int))} (hs : small3 g) (hn : X.N.Nodup) (hit : E X B G O iter (tM3 g) O) (hm : X.mg "list" = none)
    (b1 : Blk X scope [(x, i)]) (b2 : ∀ s0 H0 C cl fp, Blk (X.blk s0 H0 scope (compEnvC scope cl C X.env) fp) scope2 [(y, j)])
    (h1 : ∀ (b : List (List Int)) B' q s0 H0 C cl fp, E (X.blk s0 H0 scope (compEnvC scope cl C X.env) fp) B' (G.set i (some (tM b))) (O ++ [q]) (.Name x ip) (tM b) (O ++ [q]))
    (h2 : ∀ (b : List (List Int)) (r : List Int) B' q q2 s0 H0 C cl fp s1 H1 C1 cl1 fp1, E ((X.blk s0 H0 scope (compEnvC scope cl C X.env) fp).blk s1 H1 scope2 (compEnvC scope2 cl1 C1 (X.blk s0 H0 scope (compEnvC scope cl C X.env) fp).env) fp1) B' ((G.set i (some (tM b))).set j (some (tIs r))) (O ++ [q] ++ [q2]) (.Call (.Name "list" p2) [.Name y ip2] [] p3) (tIs r) (O ++ [q] ++ [q2]))
    (hf : ∀ z, foldedSetIterable iter X.env z = pure z := by intro _; rfl) :
    Lc X B G O (.ListComp (.Call (.Name "list" p2) [.Name y ip2] [] p3) [⟨.Name y tp2, .Name x ip, [], 0⟩] scope2 tp) [⟨.Name x tp, iter, [], 0⟩] scope (fun l => O ++ [(l, .lst (g.map tM))]) :=
  lcM (xs := g) (f := tM) (g := tM) b1 hit (by have := hs.1; omega) (fun H1 k b hb q s0 H0 C cl fp =>
    Lc.e (lcM (xs := b) (f := tIs) (g := tIs) (b2 s0 H0 C cl fp) (h1 b _ q s0 H0 C cl fp) (by have := hs.2 b (List.mem_of_getElem? hb); omega) (fun H2 k2 r hr q2 s1 H3 C1 cl1 fp1 => h2 b r _ q q2 s0 H0 C cl fp s1 H3 C1 cl1 fp1))) hf
/-! ### StageCoins, RunCoins -/
def I_StageCoins : SpecI SC := ⟨fun c => small3 c.g ∧ small3 c.s, fun c => [tM3 c.g, tNs c.o, tM3 c.s], fun c => fSC c⟩
theorem ok_StageCoins (T : Tx K mg) : ClsOk P w K mg base 1 "StageCoins" (He.ga K "StageCoins") (I_StageCoins.sp (He.ga K "StageCoins")) :=
  T.k_StageCoins_init fun fd F => I_StageCoins.ok F sc_StageCoins_init (fun _ _ => rfl) fun p B rt c l dx hr hp hR => by
    have hp : small3 c.g ∧ small3 c.s := hp
    refine ss_fld (l := l) 0 (Lc.e (lcM (j := 4) (xs := c.g) (f := tM) (g := tM) (bk sc_StageCoins_init.nd) (e_var 1) (by have := hp.1.1; omega) (fun H1 i b hb q s0 H0 C cl fp =>
      Lc.e (lcM (j := 5) (xs := b) (f := tIs) (g := tIs) (bk sc_StageCoins_init.nd) (e_var 4) (by have := hp.1.2 b (List.mem_of_getElem? hb); omega) (fun H2 i2 r hr q2 s1 H3 C1 cl1 fp1 => e_list (e_var 5) ls T.f_list))))) (e_var 0) ?_ T.c_StageCoins T.n_StageCoins_gather
    refine ss_fld (l := l) 0 (e_list (e_var 2) ls T.f_list) (e_var 0) ?_ T.c_StageCoins T.n_StageCoins_order
    refine ss_fld (l := l) 0 (Lc.e (lcM (j := 4) (xs := c.s) (f := tM) (g := tM) (bk sc_StageCoins_init.nd) (e_var 3) (by have := hp.2.1; omega) (fun H1 i b hb q s0 H0 C cl fp =>
      Lc.e (lcM (j := 5) (xs := b) (f := tIs) (g := tIs) (bk sc_StageCoins_init.nd) (e_var 4) (by have := hp.2.2 b (List.mem_of_getElem? hb); omega) (fun H2 i2 r hr q2 s1 H3 C1 cl1 fp1 => e_list (e_var 5) ls T.f_list))))) (e_var 0) ?_ T.c_StageCoins T.n_StageCoins_spread
    exact ss_nil fun σ H Ha s => hR σ _ H Ha s
def I_RunCoins (K : PySem.W.Frag) : SpecI RC := ⟨fun c => c.v.length ≤ 1000, fun c => [tM c.v, tL (c.st.map (tSC K))], fun c => fRC K c⟩
theorem ok_RunCoins (T : Tx K mg) : ClsOk P w K mg base 1 "RunCoins" (He.ga K "RunCoins") ((I_RunCoins K).sp (He.ga K "RunCoins")) :=
  T.k_RunCoins_init fun fd F => (I_RunCoins K).ok F sc_RunCoins_init (fun _ _ => rfl) fun p B rt c l dx hr hp hR => by
    have hp : c.v.length ≤ 1000 := hp
    refine ss_fld (l := l) 0 (Lc.e (lcM (j := 3) (xs := c.v) (f := tIs) (g := tIs) (bk sc_RunCoins_init.nd) (e_var 1) (by omega) (fun H1 i b hb q s0 H0 C cl fp => e_list (e_var 3) ls T.f_list))) (e_var 0) ?_ T.c_RunCoins T.n_RunCoins_votes
    refine ss_fld (l := l) 0 (e_list (e_var 2) ls T.f_list) (e_var 0) ?_ T.c_RunCoins T.n_RunCoins_stages
    exact ss_nil fun σ H Ha s => hR σ _ H Ha s
/-! ### sizes -/
theorem holders_len (lot : List Nat) (m : Nat) : (holders lot m).length ≤ m := by
  unfold holders
  exact Nat.le_trans (List.length_filter_le _ _) (by rw [List.length_range]; exact Nat.le_refl _)
def stageSize (m : Nat) (lot : List Nat) (r : Nat) : Int := ((m : Int) - ((holders lot m).length : Nat)) * (r : Int) * (((holders lot m).length : Nat) - 1) + 1 + ((holders lot m).length : Nat) * (r : Int) * ((m : Int) - 1)
def rsize (m : Nat) (fam : List (List Nat)) (r : Nat) : Int := (r : Int) * ((m : Int) - 1) + (fam.map fun lot => stageSize m lot r).sum
def S_stage_size : Spec (Nat × List Nat × Nat) := ⟨fun z => z.1 ≤ 5 ∧ z.2.2 ≤ 5, fun z => [tN z.1, tNs z.2.1, tN z.2.2], fun z => tI (stageSize z.1 z.2.1 z.2.2)⟩
theorem ok_stage_size (T : Tx K mg) : DefOk P w K mg base 2 "stage_size" [] S_stage_size.sp :=
  T.k_stage_size fun fd F => S_stage_size.ok F sc_stage_size (fun _ _ => rfl) fun p B rt ⟨m, lot, r⟩ hr hp hR => by
    have hp : m ≤ 5 ∧ r ≤ 5 := hp
    have hr1 : r ≤ 1000 := by omega
    have hm1 : m ≤ 1000 := by omega
    have h1 := holders_len lot m
    have hl1 : (holders lot m).length ≤ 1000 := by omega
    refine ss_asg 3 sc_stage_size.nd (Et.is (e_len (e_call (S := S_holders) (lot, m) (ok_holders T) hr (ea_cons (e_var 1) (ea_cons (e_var 0) ea_nil)) hp.1) ls T.f_len) (show tN ((holders lot m).map tN).length = tN (holders lot m).length by rw [List.length_map])) ?_
    exact ss_retp (e_add (e_add (e_mul (e_mul (e_sub (e_var 0) (e_var 3)) (e_var 2) (.inr (smN hr1))) (e_sub (e_var 3) e_int) (.inr (smN1 hl1))) e_int) (e_mul (e_mul (e_var 3) (e_var 2) (.inr (smN hr1))) (e_sub (e_var 0) e_int) (.inr (smN1 hm1)))) hR
def S_size : Spec (Nat × List (List Nat) × Nat) := ⟨fun z => z.1 ≤ 5 ∧ z.2.2 ≤ 5 ∧ z.2.1.length ≤ 10, fun z => [tN z.1, tF z.2.1, tN z.2.2], fun z => tI (rsize z.1 z.2.1 z.2.2)⟩
theorem ok_size (T : Tx K mg) : DefOk P w K mg base 3 "size" [] S_size.sp :=
  T.k_size fun fd F => S_size.ok F sc_size (fun _ _ => rfl) fun p B rt ⟨m, fam, r⟩ hr hp hR => by
    have hp : m ≤ 5 ∧ r ≤ 5 ∧ fam.length ≤ 10 := hp
    refine ss_retp (e_add (e_mul (e_var 2) (e_sub (e_var 0) e_int) (.inr ⟨by omega, by omega⟩)) (e_sum (ns := fam.map fun lot => stageSize m lot r) (Et.is (Lc.e (lcM (j := 3) (xs := fam) (f := tNs) (g := fun lot => tI (stageSize m lot r)) (bk sc_size.nd) (e_var 1) (by omega)
      (fun H1 i lot hl q s0 H0 C cl fp => e_call (S := S_stage_size) (m, lot, r) (ok_stage_size T) hr (ea_cons (e_var 0) (ea_cons (e_var 3) (ea_cons (e_var 2) ea_nil))) ⟨hp.1, hp.2.1⟩))) ?_) ls rfl T.f_sum)) hR
    rw [List.map_map]
    rfl
/-! ### Source -/
abbrev srcF (ns : List Int) (p k : Nat) : List (Str × Ty) := [("place", tN k), ("prime", tN p), ("numbers", tIs ns)]
def I_Source : SpecI (List Int × Nat) := ⟨fun _ => True, fun z => [tIs z.1, tN z.2], fun z => srcF z.1 z.2 0⟩
theorem ok_Source (T : Tx K mg) : ClsOk P w K mg base 1 "Source" (He.ga K "Source") (I_Source.sp (He.ga K "Source")) :=
  T.k_Source_init fun fd F => I_Source.ok F sc_Source_init (fun _ _ => rfl) fun p B rt ⟨ns, q⟩ l dx hr hp hR => by
    refine ss_fld (l := l) 0 (e_list (e_var 1) ls T.f_list) (e_var 0) ?_ T.c_Source T.n_Source_numbers
    refine ss_fld (l := l) 0 (e_var 2) (e_var 0) ?_ T.c_Source T.n_Source_prime
    refine ss_fld (l := l) (R := tN 0) 0 e_int (e_var 0) ?_ T.c_Source T.n_Source_place
    exact ss_nil fun σ H Ha s => hR σ _ H Ha s
/-- where the source stands, its numbers, its prime, the place -/
structure Src where
  l : Addr
  dx : Addr
  ns : List Int
  p : Nat
  k : Nat
abbrev Src.c (K : PySem.W.Frag) (z : Src) : Ch := .ins (He.ga K "Source") z.dx (srcF z.ns z.p z.k)
abbrev Src.go (z : Src) (n : Nat) : Src := { z with k := z.k + n }
def M_number (K : PySem.W.Frag) : Spec2 Src := ⟨fun z => z.k < z.ns.length, fun z => z.l, fun z => [tRef z.l], fun z => z.c K, fun z => (z.go 1).c K, fun z => tI (z.ns.getD z.k 0)⟩
theorem ok_number (T : Tx K mg) : MethOk P w K mg base 1 (He.ga K "Source") "number" (M_number K).sp :=
  T.okM 21 76 81 (d := d_Source_number) rfl rfl rfl rfl rfl rfl (fun fd F => (M_number K).ok F sc_Source_number (fun _ _ => rfl) fun p B rt z hr hp hF hB hR => by
    have hp : z.k < z.ns.length := hp
    have hg : z.ns[z.k]? = some (z.ns.getD z.k 0) := by rw [List.getD_eq_getElem?_getD, List.getElem?_eq_getElem hp]; rfl
    refine ss_fldAdd (l := z.l) (u := (z.k : Int)) (w := 1) (v := .int ((z.k + 1 : Nat) : Int)) 0 (e_var 0) e_int rfl ?_ T.c_Source T.n_Source_place
    refine ss_ret (e_ix (n := z.k) (e_fld (e_var 0) (inso 0) T.c_Source T.n_Source_numbers (by kernel_rfl)) ls (Et.is (e_sub (i := ((z.k + 1 : Nat) : Int)) (j := 1) (e_fld (e_var 0) (inso 0) T.c_Source T.n_Source_place (by kernel_rfl)) e_int) (tnI (by omega))) (putM tI hg)) fun σ v H Ha s r => hR σ _ v H Ha s r)
    (fun _ _ _ _ _ _ us hl => match us, hl with | [_], _ => rfl)
end
end Vc
set_option maxHeartbeats 4000000
/-! VcD5: block, read_stage, coins_of -/
namespace Vc
open PySem PySem.Spec L2
/-- r rows of wd values below p -/
def IsB (p r wd : Nat) (b : List (List Int)) : Prop := b.length = r ∧ ∀ row ∈ b, row.length = wd ∧ ∀ x ∈ row, 0 ≤ x ∧ x < (p : Int)
structure ScOk (p m r : Nat) (lot : List Nat) (c : SC) : Prop where
  gl : c.g.length = m - (holders lot m).length
  g : ∀ b ∈ c.g, IsB p r ((holders lot m).length - 1) b
  o : IsOrd c.o r
  sl : c.s.length = (holders lot m).length
  s : ∀ b ∈ c.s, IsB p r (m - 1) b
structure RcOk (p m r : Nat) (fam : List (List Nat)) (c : RC) : Prop where
  v : IsB p r (m - 1) c.v
  l : c.st.length = fam.length
  s : ∀ (i : Nat) lot sc, fam[i]? = some lot → c.st[i]? = some sc → ScOk p m r lot sc
/-- how many numbers -/
def stageN (m : Nat) (lot : List Nat) (r : Nat) : Nat := (m - (holders lot m).length) * (r * ((holders lot m).length - 1)) + 1 + (holders lot m).length * (r * (m - 1))
section
variable {P : Program} {w : World} {K : PySem.W.Frag} {mg : Str → Option Value} {base : Heap}
def M_block (K : PySem.W.Frag) : Spec2 (Src × Nat × Nat) := ⟨fun z => z.1.k + z.2.1 * z.2.2 ≤ z.1.ns.length ∧ 0 < z.1.p ∧ z.2.1 ≤ 5 ∧ z.2.2 ≤ 5, fun z => z.1.l, fun z => [tRef z.1.l, tN z.2.1, tN z.2.2], fun z => z.1.c K, fun z => (z.1.go (z.2.1 * z.2.2)).c K, fun z => tEx (IsB z.1.p z.2.1 z.2.2) tM⟩
theorem ok_block (T : Tx K mg) : MethOk P w K mg base 2 (He.ga K "Source") "block" (M_block K).sp :=
  T.okM 22 76 82 (d := d_Source_block) rfl rfl rfl rfl rfl rfl (fun fd F => (M_block K).ok F sc_Source_block (fun _ _ => rfl) fun p B rt ⟨z, r, wd⟩ hr hp hF hB hR => by
    have hp : z.k + r * wd ≤ z.ns.length ∧ 0 < z.p ∧ r ≤ 5 ∧ wd ≤ 5 := hp
    obtain ⟨hlen, hp0, hr5, hw5⟩ := hp
    refine ss_asgO 3 sc_Source_block.nd (eo_lst ea_nil (by decide)) fun l2 hl2 => ?_
    refine ss_forR (n := r) (fun i (M : List (List Int)) => IsB z.p i wd M) (fun i M => [some (tRef z.l), some (tN r), some (tN wd), some (tRef l2), none, none, none]) (fun i M => [(z.l, (z.go (i * wd)).c K), (l2, .lst (M.map tIs))]) 4 rfl sc_Source_block.nd PassesOwn.never T.f_range (e_var 1) (by omega) []
      ⟨rfl, fun row h => nomatch h⟩ (fun i M kb hi hJ => ?_) (fun M hJ => ?_) (ho := by show _ = [] ++ _; rw [Nat.zero_mul]; rfl)
    · have hJ : IsB z.p i wd M := hJ
      refine ss_asgO 5 sc_Source_block.nd (eo_lst ea_nil (by decide)) fun l3 hl3 => ?_
      refine ss_forR (n := wd) (fun j (row : List Int) => row.length = j ∧ ∀ x ∈ row, 0 ≤ x ∧ x < (z.p : Int)) (fun j row => [some (tRef z.l), some (tN r), some (tN wd), some (tRef l2), none, some (tRef l3), none]) (fun j row => [(z.l, (z.go (i * wd + j)).c K), (l2, .lst (M.map tIs)), (l3, .lst (row.map tI))]) 6 rfl sc_Source_block.nd PassesOwn.never T.f_range (e_var 2) (by omega) []
        ⟨rfl, fun x h => nomatch h⟩ (fun j row kb hj hJ2 => ?_) (fun row hJ2 => ?_)
      · obtain ⟨h1, h2⟩ := hJ2
        have hk : z.k + (i * wd + j) < z.ns.length := by
          have : i * wd + wd ≤ r * wd := by
            have := Nat.mul_le_mul_right wd (Nat.succ_le_of_lt hi)
            rw [Nat.succ_mul] at this
            exact this
          omega
        refine ss_append (l := l3) (ts := row.map tI) (ts0 := row.map tI) (R := tI (z.ns.getD (z.k + (i * wd + j)) 0 % (z.p : Int))) 2 (e_var 5) (e_mod (e_meth0 (S := M_number K) (C := He.ga K "Source") (fs := srcF z.ns z.p (z.k + (i * wd + j))) (z.go (i * wd + j)) 0 (ok_number T) hr (e_var 0) rfl hk rfl (by kernel_rfl)) (e_fld (e_var 0) (inso 0) T.c_Source T.n_Source_prime (by kernel_rfl)) (by omega)) ?_ (by rw [List.length_map, h1]; omega)
        refine ss_next (row ++ [z.ns.getD (z.k + (i * wd + j)) 0 % (z.p : Int)]) ⟨by rw [List.length_append, h1]; rfl, fun x hx => ?_⟩ (ho := ?_)
        · rcases List.mem_append.mp hx with hx | hx
          · exact h2 x hx
          · have e : x = z.ns.getD (z.k + (i * wd + j)) 0 % (z.p : Int) := by simpa using hx
            subst e
            exact ⟨Int.emod_nonneg _ (by omega), Int.emod_lt_of_pos _ (by omega)⟩
        · rw [List.map_append]
          rfl
      · obtain ⟨h1, h2⟩ := hJ2
        refine ss_freeze 5 2 (ts := row.map tI) (l := l3) ?_ hl3
        refine ss_append (l := l2) (ts := M.map tIs) (ts0 := M.map tIs) (R := tIs row) 1 (e_var 3) (e_var 5) ?_ (by rw [List.length_map, hJ.1]; omega)
        refine ss_next (M ++ [row]) ⟨by rw [List.length_append, hJ.1]; rfl, fun x hx => ?_⟩ (ho := ?_)
        · rcases List.mem_append.mp hx with hx | hx
          · exact hJ.2 x hx
          · have e : x = row := by simpa using hx
            subst e
            exact ⟨h1, h2⟩
        · show [(z.l, (z.go ((i + 1) * wd)).c K), (l2, Ch.lst ((M ++ [row]).map tIs))] = [(z.l, (z.go (i * wd + wd)).c K), (l2, Ch.lst (M.map tIs ++ [tIs row]))]
          rw [Nat.succ_mul, List.map_append]
          rfl
    · have hJ : IsB z.p r wd M := hJ
      refine ss_freeze 3 1 (ts := M.map tIs) (l := l2) ?_ hl2
      exact ss_ret (Et.to (R := tM M) (R1 := tEx (IsB z.p r wd) tM) (e_var 3) fun v H h => ⟨M, hJ, h⟩) fun σ v H Ha s h => hR σ _ v H Ha s h)
    (fun _ _ _ _ _ _ us hl => match us, hl with | [_, _, _], _ => rfl)
end
end Vc
set_option maxHeartbeats 4000000
/-! VcD6: read_stage, coins_of -/
namespace Vc
open PySem PySem.Spec L2
theorem e_o {X : Cx} {B : Bs} {G : Gm} {O O1 O2 : Om} {e : Expr} {R : Ty} (h : E X B G O e R O1) (q : O1 = O2) : E X B G O e R O2 := q ▸ h
theorem tnN {a : Int} (h : 0 ≤ a) : tI a = tN a.toNat := congrArg tI (Int.toNat_of_nonneg h).symm
theorem Src.go_go (z : Src) (a b : Nat) : (z.go a).go b = z.go (a + b) := by
  show Src.mk _ _ _ _ (z.k + a + b) = Src.mk _ _ _ _ (z.k + (a + b))
  rw [Nat.add_assoc]
theorem lcLM {X : Cx} {B : Bs} {G : Gm} {O : Om} {elt iter : Expr} {scope : Scope} {x : Str} {tp : Pos} {j : Nat} {α : Type} {Oi : Nat → Om} {U : Nat → Ty} {xs : List α} {f : α → Ty} (bk : Blk X scope [(x, j)]) (hit : E X B G O iter (tL (xs.map f)) (Oi 0)) (hz : xs.length < 9000)
    (he : ∀ H1 (i : Nat) a, xs[i]? = some a → ∀ q s0 H0 C cl fp, E (X.blk s0 H0 scope (compEnvC scope cl C X.env) fp) (B.at H1) (G.set j (some (f a))) (Oi i ++ [q]) elt (U i) (Oi (i + 1) ++ [q])) (hs : ∀ z, foldedSetIterable iter X.env z = pure z := by intro _; rfl) :
    Lc X B G O elt [⟨.Name x tp, iter, [], 0⟩] scope (fun l => Oi xs.length ++ [(l, .lst ((List.range xs.length).map U))]) := by
  have h := lcL (elt := elt) (tp := tp) (Oi := Oi) (U := U) bk hs hit (by rw [List.length_map]; exact hz) (fun H1 i T hT q s0 H0 C cl fp => by
    obtain ⟨a, ha, rfl⟩ := getM hT
    exact he H1 i a ha q s0 H0 C cl fp)
  rw [List.length_map, coll_true] at h
  exact h
theorem stageSize_eq {m r : Nat} {lot : List Nat} (hm : 1 ≤ m) (h1 : 1 ≤ (holders lot m).length) : stageSize m lot r = (stageN m lot r : Int) := by
  have h2 := holders_len lot m
  unfold stageSize stageN
  generalize (holders lot m).length = h at h1 h2
  have e1 : ((m - h : Nat) : Int) = (m : Int) - h := by omega
  have e2 : ((h - 1 : Nat) : Int) = (h : Int) - 1 := by omega
  have e3 : ((m - 1 : Nat) : Int) = (m : Int) - 1 := by omega
  simp only [Int.natCast_add, Int.natCast_mul, e1, e2, e3, Int.mul_assoc]
  rfl
def sizeN (m : Nat) (fam : List (List Nat)) (r : Nat) : Nat := r * (m - 1) + (fam.map fun lot => stageN m lot r).sum
theorem rsize_eq {m r : Nat} {fam : List (List Nat)} (hm : 1 ≤ m) (h : ∀ lot ∈ fam, 1 ≤ (holders lot m).length) : rsize m fam r = (sizeN m fam r : Int) := by
  have e3 : ((m - 1 : Nat) : Int) = (m : Int) - 1 := by omega
  have e : ∀ l : List (List Nat), (∀ lot ∈ l, 1 ≤ (holders lot m).length) → (l.map fun lot => stageSize m lot r).sum = (((l.map fun lot => stageN m lot r).sum : Nat) : Int) := by
    intro l
    induction l with
    | nil => intro _; rfl
    | cons a l ih =>
      intro h
      rw [List.map_cons, List.map_cons, List.sum_cons, List.sum_cons, ih fun x hx => h x (List.mem_cons_of_mem _ hx), stageSize_eq hm (h a List.mem_cons_self)]
      omega
  unfold rsize sizeN
  rw [e fam h, Int.natCast_add, Int.natCast_mul, e3]
theorem sum_take_le : ∀ (l : List Nat) (i : Nat), (l.take i).sum ≤ l.sum
  | [], i => by simp
  | a :: l, 0 => by simp
  | a :: l, i + 1 => by
    rw [List.take_succ_cons, List.sum_cons, List.sum_cons]
    have := sum_take_le l i
    omega
section
variable {P : Program} {w : World} {K : PySem.W.Frag} {mg : Str → Option Value} {base : Heap}
/-- the source, m, the lot, r -/
def S2_read_stage (K : PySem.W.Frag) : Spec2 (Src × Nat × List Nat × Nat) :=
  ⟨fun z => z.1.k + stageN z.2.1 z.2.2.1 z.2.2.2 ≤ z.1.ns.length ∧ 0 < z.1.p ∧ z.2.1 ≤ 5 ∧ z.2.2.2 ≤ 5 ∧ 1 ≤ (holders z.2.2.1 z.2.1).length, fun z => z.1.l, fun z => [tRef z.1.l, tN z.2.1, tNs z.2.2.1, tN z.2.2.2], fun z => z.1.c K,
    fun z => (z.1.go (stageN z.2.1 z.2.2.1 z.2.2.2)).c K, fun z => tEx (ScOk z.1.p z.2.1 z.2.2.2 z.2.2.1) (tSC K)⟩
theorem ok_read_stage (T : Tx K mg) : DefOk P w K mg base 3 "read_stage" [] (S2_read_stage K).sp :=
  T.k_read_stage fun fd F => (S2_read_stage K).ok F sc_read_stage (fun _ _ => rfl) fun p B rt ⟨z, m, lot, r⟩ hr hp hF hB hR => by
    have hp : z.k + stageN m lot r ≤ z.ns.length ∧ 0 < z.p ∧ m ≤ 5 ∧ r ≤ 5 ∧ 1 ≤ (holders lot m).length := hp
    obtain ⟨hlen, hp0, hm5, hr5, hh1⟩ := hp
    have hh := holders_len lot m
    unfold stageN at hlen
    refine ss_asg 4 sc_read_stage.nd (Et.is (e_len (e_call (S := S_holders) (lot, m) (ok_holders T) hr (ea_cons (e_var 2) (ea_cons (e_var 1) ea_nil)) hm5) ls T.f_len) (show tN ((holders lot m).map tN).length = tN (holders lot m).length by rw [List.length_map])) ?_
    have hR' : ∀ (σ : L2.St) (G : Gm) (v : V) (H Ha : Hp), Sat B G [(z.l, (z.go ((m - (holders lot m).length) * (r * ((holders lot m).length - 1)) + 1 + (holders lot m).length * (r * (m - 1)))).c K)] σ H Ha → (tEx (ScOk z.p m r lot) (tSC K)).p v H → rt v Ha := hR
    have hok : ∀ c : SC, c.g.length = m - (holders lot m).length → (∀ b ∈ c.g, IsB z.p r ((holders lot m).length - 1) b) → IsOrd c.o r → c.s.length = (holders lot m).length → (∀ b ∈ c.s, IsB z.p r (m - 1) b) → ScOk z.p m r lot c := fun c h1 h2 h3 h4 h5 => ⟨h1, h2, h3, h4, h5⟩
    generalize (holders lot m).length = h at hlen hh1 hh hR' hok
    have hmul : ∀ {i n : Nat} (b : Nat), i < n → i * b + b ≤ n * b := fun {i n} b hi => by
      have := Nat.mul_le_mul_right b (Nat.succ_le_of_lt hi)
      rw [Nat.succ_mul] at this
      exact this
    -- gather
    refine ss_lcK (O1 := [(z.l, (z.go ((m - h) * (r * (h - 1)))).c K)]) (ts := (List.range (m - h)).map fun _ => tEx (IsB z.p r (h - 1)) tM) 5 (by
      rw [← coll_true]
      refine lcR (j := 8) (n := m - h) (U := fun _ => tEx (IsB z.p r (h - 1)) tM) (Oi := fun i => [(z.l, (z.go (i * (r * (h - 1)))).c K)]) (bk sc_read_stage.nd) (e_o (Et.is (e_sub (e_var 1) (e_var 4)) (tnI (b := m - h) (by show (m : Int) - (h : Int) = ((m - h : Nat) : Int); omega))) (by rw [Nat.zero_mul]; rfl)) (by omega) T.f_range (fun H1 i hi q s0 H0 C cl fp => ?_)
      have := hmul (r * (h - 1)) hi
      refine e_o (e_meth (S := M_block K) (C := He.ga K "Source") (fs := srcF z.ns z.p (z.k + i * (r * (h - 1)))) (z.go (i * (r * (h - 1))), r, h - 1) 0 (ok_block T) hr (e_var 0) (ea_cons (e_var 3) (ea_cons (Et.is (e_sub (e_var 4) e_int) (tnI (b := h - 1) (by omega))) ea_nil)) rfl ⟨by show z.k + i * (r * (h - 1)) + r * (h - 1) ≤ z.ns.length; omega, hp0, hr5, by show h - 1 ≤ 5; omega⟩ rfl (by kernel_rfl)) ?_
      show [(z.l, ((z.go (i * (r * (h - 1)))).go (r * (h - 1))).c K), q] = [(z.l, (z.go ((i + 1) * (r * (h - 1)))).c K), q]
      rw [Src.go_go, Nat.succ_mul]) ?_
    refine ss_open 5 (fun v H q => tL_ex q) (fun gather hg => ?_)
    -- order
    have hf0 := fct_pos r
    have hx : 0 ≤ z.ns.getD (z.k + (m - h) * (r * (h - 1))) 0 % ((fct r : Nat) : Int) := Int.emod_nonneg _ (by omega)
    have hx2 : z.ns.getD (z.k + (m - h) * (r * (h - 1))) 0 % ((fct r : Nat) : Int) < ((fct r : Nat) : Int) := Int.emod_lt_of_pos _ (by omega)
    refine ss_asgX 6 sc_read_stage.nd (e_call (S := S_order_of_number) (r, (z.ns.getD (z.k + (m - h) * (r * (h - 1))) 0 % ((fct r : Nat) : Int)).toNat) (ok_order_of_number T) hr (ea_cons (e_var 3) (ea_cons (Et.is (e_mod (e_meth0 (S := M_number K) (C := He.ga K "Source") (fs := srcF z.ns z.p (z.k + (m - h) * (r * (h - 1)))) (z.go ((m - h) * (r * (h - 1)))) 0 (ok_number T) hr (e_var 0) rfl (by show z.k + (m - h) * (r * (h - 1)) < z.ns.length; omega) rfl (by kernel_rfl)) (e_call (S := S_factorial) r (ok_factorial T) hr (ea_cons (e_var 3) ea_nil) hr5) (by omega)) (tnN hx)) ea_nil)) ⟨hr5, by show (_ : Int).toNat < fct r; omega⟩) fun o ho => ?_
    -- spread
    refine ss_lcK (O1 := [(z.l, (z.go ((m - h) * (r * (h - 1)) + 1 + h * (r * (m - 1)))).c K)]) (ts := (List.range h).map fun _ => tEx (IsB z.p r (m - 1)) tM) 7 (by
      rw [← coll_true (fun _ => tEx (IsB z.p r (m - 1)) tM) h]
      refine lcR (j := 9) (n := h) (U := fun _ => tEx (IsB z.p r (m - 1)) tM) (Oi := fun i => [(z.l, (z.go ((m - h) * (r * (h - 1)) + 1 + i * (r * (m - 1)))).c K)]) (bk sc_read_stage.nd) (e_o (e_var 4) (by rw [Nat.zero_mul]; rfl)) (by omega) T.f_range (fun H1 i hi q s0 H0 C cl fp => ?_)
      have := hmul (r * (m - 1)) hi
      refine e_o (e_meth (S := M_block K) (C := He.ga K "Source") (fs := srcF z.ns z.p (z.k + ((m - h) * (r * (h - 1)) + 1 + i * (r * (m - 1))))) (z.go ((m - h) * (r * (h - 1)) + 1 + i * (r * (m - 1))), r, m - 1) 0 (ok_block T) hr (e_var 0) (ea_cons (e_var 3) (ea_cons (Et.is (e_sub (e_var 1) e_int) (tnI (b := m - 1) (by show (m : Int) - 1 = ((m - 1 : Nat) : Int); omega))) ea_nil)) rfl ⟨by show z.k + ((m - h) * (r * (h - 1)) + 1 + i * (r * (m - 1))) + r * (m - 1) ≤ z.ns.length; omega, hp0, hr5, by show m - 1 ≤ 5; omega⟩ rfl (by kernel_rfl)) ?_
      show [(z.l, ((z.go ((m - h) * (r * (h - 1)) + 1 + i * (r * (m - 1)))).go (r * (m - 1))).c K), q] = [(z.l, (z.go ((m - h) * (r * (h - 1)) + 1 + (i + 1) * (r * (m - 1)))).c K), q]
      rw [Src.go_go, Nat.succ_mul, Nat.add_assoc _ (i * _)]) ?_
    refine ss_open 7 (fun v H q => tL_ex q) (fun spread hs => ?_)
    have mem : ∀ {α : Type} {xs : List α} {Q : α → Prop}, (∀ (i : Nat) x, xs[i]? = some x → Q x) → ∀ x ∈ xs, Q x := fun h x hx => by
      obtain ⟨i, hi⟩ := List.getElem?_of_mem hx
      exact h i x hi
    have hg2 := mem hg.2
    have hs2 := mem hs.2
    have hg1 := hg.1
    have hs1 := hs.1
    refine ss_ret (Et.to (R1 := tEx (ScOk z.p m r lot) (tSC K)) (e_make (S := I_StageCoins) ⟨gather, o, spread⟩ (ok_StageCoins T) hr (ea_cons (e_var 5) (ea_cons (e_var 6) (ea_cons (e_var 7) ea_nil))) ⟨⟨by show gather.length ≤ 1000; omega, fun b hb => by have := (hg2 b hb).1; omega⟩, by show spread.length ≤ 1000; omega, fun b hb => by have := (hs2 b hb).1; omega⟩) fun v H q => ⟨⟨gather, o, spread⟩, hok _ hg1 hg2 ho hs1 hs2, q⟩) fun σ v H Ha s q => hR' σ _ v H Ha s q
/-! ### coins_of -/
/-- p, m, r, family, numbers -/
def S_coins_of (K : PySem.W.Frag) : Spec (Nat × Nat × Nat × List (List Nat) × List Int) :=
  ⟨fun z => 0 < z.1 ∧ 1 ≤ z.2.1 ∧ z.2.1 ≤ 5 ∧ z.2.2.1 ≤ 5 ∧ z.2.2.2.1.length ≤ 10 ∧ (∀ lot ∈ z.2.2.2.1, 1 ≤ (holders lot z.2.1).length) ∧ z.2.2.2.2.length = sizeN z.2.1 z.2.2.2.1 z.2.2.1,
    fun z => [tIs z.2.2.2.2, tN z.1, tN z.2.1, tF z.2.2.2.1, tN z.2.2.1], fun z => tEx (RcOk z.1 z.2.1 z.2.2.1 z.2.2.2.1) (tRC K)⟩
/-- a def whose last parameters are keyword-only -/
structure DefOkN (P : Program) (w : World) (K : PySem.W.Frag) (mg : Str → Option Value) (base : Heap) (k : Nat) (x : Str) (n : Nat) (ks : List Str) (sp : Sp) : Prop where
  ex : ∃ (f : Addr) (fd : FuncData) (ps : List Str), FnOk P w K mg base CX0 k f fd ps sp ∧ mg x = some (.ref f) ∧ PySem.W.keepIn K (.ref f) = true ∧ KBn K fd ps n ks (fun us ws => us ++ ws) (fun vs zs => vs ++ zs)
theorem ok_coins_of (T : Tx K mg) : DefOkN P w K mg base 4 "coins_of" 1 ["prime", "mixers", "family", "rows"] (S_coins_of K).sp := by
  obtain ⟨fd, F⟩ := T.says.def_ 24 (d := d_coins_of)
  have F : FunD K "coins_of" "coins_of" (defArgs s_coins_of) (defBody s_coins_of) (defScope s_coins_of) [] [] (He.ga K "coins_of") fd := F
  refine ⟨He.ga K "coins_of", fd, ["numbers", "prime", "mixers", "family", "rows"], ?_, T.glo 22, F.kp, ?_⟩
  · refine (S_coins_of K).ok F sc_coins_of (fun _ _ => rfl) fun p B rt ⟨q, m, r, fam, ns⟩ hr hp hR => ?_
    have hp : 0 < q ∧ 1 ≤ m ∧ m ≤ 5 ∧ r ≤ 5 ∧ fam.length ≤ 10 ∧ (∀ lot ∈ fam, 1 ≤ (holders lot m).length) ∧ ns.length = sizeN m fam r := hp
    obtain ⟨hq, hm1, hm5, hr5, hf, hh, hlen⟩ := hp
    refine ss_asg 5 sc_coins_of.nd (Et.is (e_call (S := S_size) (m, fam, r) (ok_size T) hr (ea_cons (e_var 2) (ea_cons (e_var 3) (ea_cons (e_var 4) ea_nil))) ⟨hm5, hr5, hf⟩) (show tI (rsize m fam r) = tN (sizeN m fam r) by rw [rsize_eq hm1 hh])) ?_
    refine ss_ifF (Tt.is (t_ne (e_len (e_var 0) ls T.f_len) (e_var 5)) ?_) ?_
    · show (!decide (((ns.map tI).length : Int) = (sizeN m fam r : Int))) = false
      rw [List.length_map, hlen]
      simp
    refine ss_asgI (O' := fun l dx => [(l, Src.c K ⟨l, dx, ns, q, 0⟩)]) 6 sc_coins_of.nd (eo_make (S := I_Source) (ns, q) (ok_Source T) hr (ea_cons (e_var 0) (ea_cons (e_var 1) ea_nil)) trivial) fun l dx hl => ?_
    have hs : ∀ i, r * (m - 1) + ((fam.take i).map fun lot => stageN m lot r).sum ≤ ns.length := fun i => by
      rw [hlen]
      unfold sizeN
      rw [List.map_take]
      have := sum_take_le (fam.map fun lot => stageN m lot r) i
      omega
    refine ss_asgX 7 sc_coins_of.nd (e_o (O2 := [(l, Src.c K ⟨l, dx, ns, q, r * (m - 1)⟩)]) (e_meth (S := M_block K) (C := He.ga K "Source") (fs := srcF ns q 0) (⟨l, dx, ns, q, 0⟩, r, m - 1) 0 (ok_block T) hr (e_var 6) (ea_cons (e_var 4) (ea_cons (Et.is (e_sub (e_var 2) e_int) (tnI (b := m - 1) (by show (m : Int) - 1 = ((m - 1 : Nat) : Int); omega))) ea_nil)) rfl ⟨by have := hs 0; simp at this; show 0 + r * (m - 1) ≤ ns.length; omega, hq, hr5, by show m - 1 ≤ 5; omega⟩ rfl (by kernel_rfl)) (by show [(l, Src.c K ⟨l, dx, ns, q, 0 + r * (m - 1)⟩)] = _; rw [Nat.zero_add])) fun v hv => ?_
    refine ss_lcK (O1 := [(l, Src.c K ⟨l, dx, ns, q, r * (m - 1) + ((fam.take fam.length).map fun lot => stageN m lot r).sum⟩)]) (ts := (List.range fam.length).map fun i => tEx (fun c => ∀ lot, fam[i]? = some lot → ScOk q m r lot c) (tSC K)) 8 (by
      refine lcLM (j := 9) (xs := fam) (f := tNs) (U := fun i => tEx (fun c => ∀ lot, fam[i]? = some lot → ScOk q m r lot c) (tSC K)) (Oi := fun i => [(l, Src.c K ⟨l, dx, ns, q, r * (m - 1) + ((fam.take i).map fun lot => stageN m lot r).sum⟩)]) (bk sc_coins_of.nd) (e_var 3) (by omega) (fun H1 i lot hlot u s0 H0 C cl fp => ?_)
      have hi := (List.getElem?_eq_some_iff.mp hlot).1
      have e : (fam.take (i + 1)).map (fun lot => stageN m lot r) = (fam.take i).map (fun lot => stageN m lot r) ++ [stageN m lot r] := by rw [List.take_add_one, hlot, List.map_append]; rfl
      have h1 := hs (i + 1)
      rw [e, List.sum_append, List.sum_singleton] at h1
      refine e_o (Et.to (R1 := tEx (fun c => ∀ lot, fam[i]? = some lot → ScOk q m r lot c) (tSC K)) (e_call2 (S := S2_read_stage K) (⟨l, dx, ns, q, r * (m - 1) + ((fam.take i).map fun lot => stageN m lot r).sum⟩, m, lot, r) 0 (ok_read_stage T) hr (ea_cons (e_var 6) (ea_cons (e_var 2) (ea_cons (e_var 9) (ea_cons (e_var 4) ea_nil)))) ⟨by show r * (m - 1) + ((fam.take i).map fun lot => stageN m lot r).sum + stageN m lot r ≤ ns.length; omega, hq, hm5, hr5, hh lot (List.mem_of_getElem? hlot)⟩) (fun v H ⟨c, hc, hv⟩ => ⟨c, fun lot' hl' => by rw [hlot] at hl'; cases hl'; exact hc, hv⟩)) ?_
      show [(l, Src.c K ⟨l, dx, ns, q, r * (m - 1) + ((fam.take i).map fun lot => stageN m lot r).sum + stageN m lot r⟩), u] = [(l, Src.c K ⟨l, dx, ns, q, r * (m - 1) + ((fam.take (i + 1)).map fun lot => stageN m lot r).sum⟩), u]
      rw [e, List.sum_append, List.sum_singleton, Nat.add_assoc]) ?_
    refine ss_open 8 (fun v H q => tL_ex q) (fun stages hst => ?_)
    refine ss_less (O2 := []) ?_ (List.nil_sublist _)
    refine ss_retp (Et.to (R1 := tEx (RcOk q m r fam) (tRC K)) (e_make (S := I_RunCoins K) ⟨v, stages⟩ (ok_RunCoins T) hr (ea_cons (e_var 7) (ea_cons (e_var 8) ea_nil)) (by show v.length ≤ 1000; have := hv.1; have : v.length = r := this; omega)) fun u H hu => ⟨⟨v, stages⟩, ⟨hv, hst.1, fun i lot sc h1 h2 => hst.2 i sc h2 lot h1⟩, hu⟩) hR
  · refine ⟨fun s us ws X l1 l2 => ?_, fun r1 r2 => r1.append r2⟩
    obtain ⟨oc, od, dV, kV, doc, pm, an, cdv, ct, osl, rfl, lk, hcd, hD, hK⟩ := F.ex
    rcases hD with ⟨_, rfl⟩ | ⟨e, _⟩
    · match us, ws, l1, l2 with
      | [u], [a, b, c, d], _, _ => exact .of_eq rfl
    · exact absurd rfl e
end
end Vc
set_option maxHeartbeats 4000000
/-! VcD7: field, shares, the steps of a stage -/
namespace Vc
open PySem PySem.Spec L2
theorem gd {α : Type} {xs : List α} {i : Nat} (d : α) (h : i < xs.length) : xs[i]? = some (xs.getD i d) := by
  rw [List.getD_eq_getElem?_getD, List.getElem?_eq_getElem h]
  rfl
theorem gd' {α : Type} {xs : List α} {i : Nat} {a : α} (d : α) (h : xs[i]? = some a) : xs.getD i d = a := by
  rw [List.getD_eq_getElem?_getD, h]
  rfl
theorem gdM {α : Type} {xs : List α} {i : Nat} (d : α) (h : i < xs.length) : xs.getD i d ∈ xs := List.mem_of_getElem? (gd d h)
def primes : List Nat := [2, 3, 5, 7, 11, 13, 101, 997]
theorem prime_le {p : Nat} (h : p ∈ primes) : 2 ≤ p ∧ p ≤ 997 := by
  revert p
  decide
theorem prime_no {p f : Nat} (h : p ∈ primes) (h2 : 2 ≤ f) (hf : f * f ≤ p) : p % f ≠ 0 := by
  have hp := (prime_le h).2
  have h32 : f < 32 := by
    rcases Nat.lt_or_ge f 32 with q | q
    · exact q
    · have : 32 * 32 ≤ f * f := Nat.mul_le_mul q q
      omega
  have key : ∀ p ∈ primes, ∀ f, f < 32 → 2 ≤ f → f * f ≤ p → p % f ≠ 0 := by decide
  exact key p h f h32 h2 hf
def tot (p : Nat) (ns : List Int) : Int := ns.foldl (fun a x => (a + x) % (p : Int)) 0
def spl (p : Nat) (v : Int) (cs : List Int) : List Int := cs.map (fun c => c % (p : Int)) ++ [(v - (cs.map fun c => c % (p : Int)).sum) % (p : Int)]
section
variable {P : Program} {w : World} {K : PySem.W.Frag} {mg : Str → Option Value} {base : Heap}
def S_is_prime : Spec Nat := ⟨fun p => p ∈ primes, fun p => [tN p], fun _ => tB true⟩
theorem ok_is_prime (T : Tx K mg) : DefOk P w K mg base 1 "is_prime" [] S_is_prime.sp :=
  T.k_is_prime fun fd F => S_is_prime.ok F sc_is_prime (fun _ _ => rfl) fun p B rt n hr hp hR => by
    have hp : n ∈ primes := hp
    have hb := prime_le hp
    refine ss_ifF (Tt.is (t_lt (e_var 0) e_int) (decide_eq_false (by omega))) ?_
    refine ss_asg (R := tN 2) 1 sc_is_prime.nd e_int ?_
    refine ss_while (J := fun f : Nat => 2 ≤ f ∧ f ≤ 1000) (fun f => [some (tN n), some (tN f)]) (fun f => 1000 - f) (fun f => decide (f * f ≤ n)) PassesOwn.never 2 (by decide) (fun f hf => ?_) (fun f kb hf hbf => ?_) (fun f _ _ => ss_retp e_bl hR)
    · refine Tt.is (t_le (e_mul (e_var 1) (e_var 1) (.inr (smN hf.2))) (e_var 0)) ?_
      refine decide_eq_decide.mpr ?_
      rw [← Int.natCast_mul]
      omega
    · have hbf : f * f ≤ n := of_decide_eq_true hbf
      have hno := prime_no hp hf.1 hbf
      have h32 : f ≤ 999 := by
        rcases Nat.lt_or_ge f 1000 with q | q
        · omega
        · have : 1000 * 1000 ≤ f * f := Nat.mul_le_mul q q
          omega
      refine ss_ifF (Tt.is (t_eq (e_mod (i := (n : Int)) (j := (f : Int)) (e_var 0) (e_var 1) (by omega)) e_int) (decide_eq_false (by rw [← Int.natCast_emod]; omega))) ?_
      refine ss_augT (u := (f : Int)) (w := 1) (v := .int ((f + 1 : Nat) : Int)) 1 sc_is_prime.nd iop_add e_int rfl ?_
      exact ss_nil fun σ H Ha s => ⟨f + 1, H, ⟨⟨by omega, by omega⟩, by omega⟩, s⟩
def S_checked_prime : Spec Nat := ⟨fun p => p ∈ primes, fun p => [tN p], fun p => tN p⟩
theorem ok_checked_prime (T : Tx K mg) : DefOk P w K mg base 2 "checked_prime" [] S_checked_prime.sp :=
  T.k_checked_prime fun fd F => S_checked_prime.ok F sc_checked_prime (fun _ _ => rfl) fun p B rt n hr hp hR =>
    ss_ifF (Tt.is (t_not (t_val (e_call (S := S_is_prime) n (ok_is_prime T) hr (ea_cons (e_var 0) ea_nil) hp))) rfl) (ss_retp (e_var 0) hR)
def S_total : Spec (Nat × List Int) := ⟨fun z => 0 < z.1, fun z => [tN z.1, tIs z.2], fun z => tI (tot z.1 z.2)⟩
theorem ok_total (T : Tx K mg) : DefOk P w K mg base 1 "total" [] S_total.sp :=
  T.k_total fun fd F => S_total.ok F sc_total (fun _ _ => rfl) fun p B rt ⟨q, ns⟩ hr hp hR => by
    have hp : 0 < q := hp
    refine ss_asg (R := tI 0) 2 sc_total.nd e_int ?_
    refine ss_forL (ζ := Unit) (fun _ _ => True) (fun i _ => [some (tN q), some (tIs ns), some (tI (tot q (ns.take i))), none]) (fun _ _ => []) 3 rfl sc_total.nd PassesOwn.never (e_var 1) () trivial (fun H1 i Ti z kb hT _ => ?_) (fun _ _ => ss_retp (Et.is (e_var 2) ?_) hR)
    · obtain ⟨x, hx, rfl⟩ := getM hT
      have hx : ns[i]? = some x := hx
      have e : tot q (ns.take (i + 1)) = (tot q (ns.take i) + x) % (q : Int) := by
        unfold tot
        rw [List.take_add_one, hx, List.foldl_append]
        rfl
      refine ss_asg (R := tI (tot q (ns.take (i + 1)))) 2 sc_total.nd (Et.is (e_mod (e_add (e_var 2) (e_var 3)) (e_var 0) (by omega)) (congrArg tI e.symm)) (ss_next () trivial)
    · show tI (tot q (ns.take (ns.map tI).length)) = tI (tot q ns)
      rw [List.length_map, List.take_length]
def S_split : Spec (Nat × Int × List Int) := ⟨fun z => 0 < z.1 ∧ z.2.2.length ≤ 1000, fun z => [tN z.1, tI z.2.1, tIs z.2.2], fun z => tIs (spl z.1 z.2.1 z.2.2)⟩
theorem ok_split (T : Tx K mg) : DefOk P w K mg base 1 "split" [] S_split.sp :=
  T.k_split fun fd F => S_split.ok F sc_split (fun _ _ => rfl) fun p B rt ⟨q, v, cs⟩ hr hp hR => by
    have hp : 0 < q ∧ cs.length ≤ 1000 := hp
    refine ss_lc 3 (lcM (j := 4) (xs := cs) (f := tI) (g := fun c => tI (c % (q : Int))) (bk sc_split.nd) (e_var 2) (by omega) (fun H1 i a ha u s0 H0 C cl fp => e_mod (e_var 4) (e_var 0) (by have := hp.1; omega))) fun l hl => ?_
    have e : cs.map (fun c => tI (c % (q : Int))) = (cs.map fun c => c % (q : Int)).map tI := by rw [List.map_map]; rfl
    rw [e]
    refine ss_append (l := l) (ts := (cs.map fun c => c % (q : Int)).map tI) (ts0 := (cs.map fun c => c % (q : Int)).map tI) (R := tI ((v - (cs.map fun c => c % (q : Int)).sum) % (q : Int))) 0 (e_var 3) (e_mod (e_sub (e_var 1) (e_sum (e_var 3) (lso 0) rfl T.f_sum)) (e_var 0) (by have := hp.1; show (0 : Int) < (q : Int); omega)) ?_ (by rw [List.length_map, List.length_map]; omega)
    refine ss_freeze (l := l) (ts := (spl q v cs).map tI) 3 0 (ss_retp (e_var 3) hR) hl (hk := ?_)
    show some (l, Ch.lst (_ ++ _)) = _
    unfold spl
    rw [List.map_append]
    rfl
def S_join : Spec (Nat × List Int) := ⟨fun z => 0 < z.1, fun z => [tN z.1, tIs z.2], fun z => tI (tot z.1 z.2)⟩
theorem ok_join (T : Tx K mg) : DefOk P w K mg base 2 "join" [] S_join.sp :=
  T.k_join fun fd F => S_join.ok F sc_join (fun _ _ => rfl) fun p B rt z hr hp hR =>
    ss_retp (e_call (S := S_total) z (ok_total T) hr (ea_cons (e_var 0) (ea_cons (e_var 1) ea_nil)) hp) hR
theorem tM_zip {α β : Type} (f : α → β → List Int) (xs : List α) (ys : List β) : List.zipWith (fun a b => tIs (f a b)) xs ys = (List.zipWith f xs ys).map tIs := by rw [List.map_zipWith]
def S_fresh_table : Spec (Nat × List Int × List (List Int)) := ⟨fun z => 0 < z.1 ∧ z.2.1.length = z.2.2.length ∧ z.2.1.length ≤ 1000 ∧ ∀ c ∈ z.2.2, c.length ≤ 1000, fun z => [tN z.1, tIs z.2.1, tM z.2.2], fun z => tM (List.zipWith (spl z.1) z.2.1 z.2.2)⟩
theorem ok_fresh_table (T : Tx K mg) : DefOk P w K mg base 2 "fresh_table" [] S_fresh_table.sp :=
  T.k_fresh_table fun fd F => S_fresh_table.ok F sc_fresh_table (fun _ _ => rfl) fun p B rt ⟨q, vs, cs⟩ hr hp hR => by
    have hp : 0 < q ∧ vs.length = cs.length ∧ vs.length ≤ 1000 ∧ ∀ c ∈ cs, c.length ≤ 1000 := hp
    obtain ⟨hq, hl, hz, hc⟩ := hp
    refine ss_retp (Et.is (Lc.e (lcZM (i1 := 3) (j1 := 4) (xs := vs) (ys := cs) (f := tI) (g := tIs) (h := fun v c => tIs (spl q v c)) (bk sc_fresh_table.nd) (by decide) hl (e_var 1) (e_var 2) (by omega) T.f_zip (fun H1 i u v hu hv x s0 H0 C cl fp =>
      e_call (S := S_split) (q, u, v) (ok_split T) hr (ea_cons (e_var 0) (ea_cons (e_var 3) (ea_cons (e_var 4) ea_nil))) ⟨hq, hc v (List.mem_of_getElem? hv)⟩))) ?_) hR
    show tL _ = tL _
    rw [tM_zip]
def S_values_of : Spec (Nat × List (List Int)) := ⟨fun z => 0 < z.1 ∧ z.2.length ≤ 1000, fun z => [tN z.1, tM z.2], fun z => tIs (z.2.map (tot z.1))⟩
theorem ok_values_of (T : Tx K mg) : DefOk P w K mg base 3 "values_of" [] S_values_of.sp :=
  T.k_values_of fun fd F => S_values_of.ok F sc_values_of (fun _ _ => rfl) fun p B rt ⟨q, t⟩ hr hp hR => by
    have hp : 0 < q ∧ t.length ≤ 1000 := hp
    refine ss_retp (Et.is (Lc.e (lcM (j := 2) (xs := t) (f := tIs) (g := fun r => tI (tot q r)) (bk sc_values_of.nd) (e_var 1) (by omega) (fun H1 i r hr' x s0 H0 C cl fp => e_call (S := S_join) (q, r) (ok_join T) hr (ea_cons (e_var 0) (ea_cons (e_var 2) ea_nil)) hp.1))) ?_) hR
    show tL _ = tL _
    rw [List.map_map]
    rfl
/-! ### the steps of a stage -/
def S_outsiders : Spec (Nat × List Nat) := ⟨fun z => z.1 ≤ 5, fun z => [tN z.1, tNs z.2], fun z => tNs (holders z.2 z.1)⟩
theorem ok_outsiders (T : Tx K mg) : DefOk P w K mg base 1 "outsiders" [] S_outsiders.sp :=
  T.k_outsiders fun fd F => S_outsiders.ok F sc_outsiders (fun _ _ => rfl) fun p B rt ⟨m, lot⟩ hr hp hR =>
    ss_retp (Lc.e (lcRt (j := 2) (n := m) (b := fun i => !decide (i ∈ lot)) (U := fun i => tN i) (Oi := fun _ => []) (Oi' := fun _ => []) (bk sc_outsiders.nd) (e_var 0) (by have : m ≤ 5 := hp; omega) T.f_range
      (fun H1 i hi q s0 H0 C cl fp => t_notIn (e_var 2) (e_var 1) ls) (fun H1 i hi hb q s0 H0 C cl fp => e_var 2) (fun _ _ => rfl))) hR
def gat (p : Nat) (table : List (List Int)) (others : List Nat) (coins : List (List (List Int))) : List (List (List Int)) := List.zipWith (fun x rows => List.zipWith (fun row line => spl p (row.getD x 0) line) table rows) others coins
def S_gathered : Spec (Nat × List (List Int) × List Nat × List (List (List Int))) := ⟨fun z => 0 < z.1 ∧ z.2.2.1.length = z.2.2.2.length ∧ z.2.2.1.length ≤ 1000 ∧ z.2.1.length ≤ 1000 ∧ (∀ rows ∈ z.2.2.2, rows.length = z.2.1.length ∧ ∀ line ∈ rows, line.length ≤ 1000) ∧ ∀ x ∈ z.2.2.1, ∀ row ∈ z.2.1, x < row.length,
  fun z => [tN z.1, tM z.2.1, tNs z.2.2.1, tM3 z.2.2.2], fun z => tM3 (gat z.1 z.2.1 z.2.2.1 z.2.2.2)⟩
theorem ok_gathered (T : Tx K mg) : DefOk P w K mg base 2 "gathered_pieces" [] S_gathered.sp :=
  T.k_gathered_pieces fun fd F => S_gathered.ok F sc_gathered_pieces (fun _ _ => rfl) fun p B rt ⟨q, t, os, cs⟩ hr hp hR => by
    have hp : 0 < q ∧ os.length = cs.length ∧ os.length ≤ 1000 ∧ t.length ≤ 1000 ∧ (∀ rows ∈ cs, rows.length = t.length ∧ ∀ line ∈ rows, line.length ≤ 1000) ∧ ∀ x ∈ os, ∀ row ∈ t, x < row.length := hp
    obtain ⟨hq, hl, hz, ht, hc, hx⟩ := hp
    refine ss_asgO 4 sc_gathered_pieces.nd (eo_lst ea_nil (by decide)) fun l hl2 => ?_
    refine ss_forZ (ζ := Unit) (fun _ _ => True) (fun _ _ => [some (tN q), some (tM t), some (tNs os), some (tM3 cs), some (tRef l), none, none, none, none]) (fun i _ => [(l, .lst (((gat q t os cs).take i).map tM))]) 5 6 rfl sc_gathered_pieces.nd PassesOwn.never T.f_zip (e_var 2) (e_var 3) (by show (os.map tN).length = (cs.map tM).length; rw [List.length_map, List.length_map, hl]) () trivial (fun H1 i Ti Tj z kb hT hT2 _ => ?_) (fun _ _ => ?_)
    · obtain ⟨x, hxi, rfl⟩ := getM hT
      obtain ⟨rows, hri, rfl⟩ := getM hT2
      have hxi : os[i]? = some x := hxi
      have hri : cs[i]? = some rows := hri
      have hrm := hc rows (List.mem_of_getElem? hri)
      have e : (gat q t os cs)[i]? = some (List.zipWith (fun row line => spl q (row.getD x 0) line) t rows) := by
        unfold gat
        rw [List.getElem?_zipWith, hxi, hri]
      refine ss_append (l := l) (ts := ((gat q t os cs).take i).map tM) (ts0 := ((gat q t os cs).take i).map tM) (R := tM (List.zipWith (fun row line => spl q (row.getD x 0) line) t rows)) 0 (e_var 4) (Et.is (Lc.e (lcZM (i1 := 7) (j1 := 8) (xs := t) (ys := rows) (f := tIs) (g := tIs) (h := fun row line => tIs (spl q (row.getD x 0) line)) (bk sc_gathered_pieces.nd) (by decide) hrm.1.symm (e_var 1) (e_var 6) (by omega) T.f_zip (fun H2 k u v hu hv y s0 H0 C cl fp =>
        e_call (S := S_split) (q, u.getD x 0, v) (ok_split T) hr (ea_cons (e_var 0) (ea_cons (e_ix (e_var 7) ls (e_var 5) (putM tI (gd 0 (hx x (List.mem_of_getElem? hxi) u (List.mem_of_getElem? hu))))) (ea_cons (e_var 8) ea_nil))) ⟨hq, hrm.2 v (List.mem_of_getElem? hv)⟩))) ?_) (ss_next () trivial (ho := ?_)) ?_
      · show tL _ = tL _
        rw [tM_zip]
      · show [(l, Ch.lst (((gat q t os cs).take (i + 1)).map tM))] = [(l, Ch.lst (((gat q t os cs).take i).map tM ++ [tM (List.zipWith (fun row line => spl q (row.getD x 0) line) t rows)]))]
        rw [List.take_add_one, e, List.map_append]
        rfl
      · rw [List.length_map, List.length_take]
        have : i < os.length := (List.getElem?_eq_some_iff.mp hxi).1
        omega
    · have e : (gat q t os cs).take (os.map tN).length = gat q t os cs := by
        refine List.take_of_length_le ?_
        unfold gat
        rw [List.length_zipWith, List.length_map]
        omega
      exact ss_freeze (l := l) (ts := ((gat q t os cs).take (os.map tN).length).map tM) 4 0 (ss_retp (Et.is (e_var 4) (by show tL _ = tL ((gat q t os cs).map tM); rw [e])) hR) hl2
def at2 (M : List (List Int)) (r k : Nat) : Int := (M.getD r []).getD k 0
def hel (p : Nat) (table : List (List Int)) (hs : List Nat) (pieces : List (List (List Int))) : List (List Int) := (List.range table.length).map fun r => (List.range hs.length).map fun k => tot p (at2 table r (hs.getD k 0) :: pieces.map fun rows => at2 rows r k)
def S_held : Spec (Nat × List (List Int) × List Nat × List (List (List Int))) := ⟨fun z => 0 < z.1 ∧ z.2.1.length ≤ 1000 ∧ z.2.2.1.length ≤ 1000 ∧ z.2.2.2.length ≤ 1000 ∧ (∀ row ∈ z.2.1, ∀ h ∈ z.2.2.1, h < row.length) ∧ ∀ rows ∈ z.2.2.2, z.2.1.length ≤ rows.length ∧ ∀ l ∈ rows, z.2.2.1.length ≤ l.length,
  fun z => [tN z.1, tM z.2.1, tNs z.2.2.1, tM3 z.2.2.2], fun z => tM (hel z.1 z.2.1 z.2.2.1 z.2.2.2)⟩
theorem take_range {α : Type} (f : Nat → α) {n i : Nat} (h : i < n) : ((List.range n).map f).take (i + 1) = ((List.range n).map f).take i ++ [f i] := by
  rw [List.take_add_one, List.getElem?_map, List.getElem?_range h]
  rfl
theorem take_rng {α : Type} (f : Nat → α) (n : Nat) : ((List.range n).map f).take n = (List.range n).map f := List.take_of_length_le (by rw [List.length_map, List.length_range]; exact Nat.le_refl n)
theorem take_all {α β : Type} (f : Nat → α) (g : β → Ty) (xs : List β) {n : Nat} (h : n = xs.length) : ((List.range n).map f).take (xs.map g).length = (List.range n).map f := List.take_of_length_le (by rw [List.length_map, List.length_map, List.length_range, h]; exact Nat.le_refl _)
theorem ok_held (T : Tx K mg) : DefOk P w K mg base 2 "held_shares" [] S_held.sp :=
  T.k_held_shares fun fd F => S_held.ok F sc_held_shares (fun _ _ => rfl) fun p B rt ⟨q, t, hs, ps⟩ hr hp hR => by
    have hp : 0 < q ∧ t.length ≤ 1000 ∧ hs.length ≤ 1000 ∧ ps.length ≤ 1000 ∧ (∀ row ∈ t, ∀ h ∈ hs, h < row.length) ∧ ∀ rows ∈ ps, t.length ≤ rows.length ∧ ∀ l ∈ rows, hs.length ≤ l.length := hp
    obtain ⟨hq, ht, hh, hps, h1, h2⟩ := hp
    refine ss_asgO 4 sc_held_shares.nd (eo_lst ea_nil (by decide)) fun l hl => ?_
    refine ss_forE (ζ := Unit) (fun _ _ => True) (fun _ _ => [some (tN q), some (tM t), some (tNs hs), some (tM3 ps), some (tRef l), none, none, none, none, none, none]) (fun i _ => [(l, .lst (((hel q t hs ps).take i).map tIs))]) 5 6 rfl sc_held_shares.nd PassesOwn.never T.f_enumerate (e_var 1) () trivial (fun H1 i Ti z kb hT _ => ?_) (fun _ _ => ?_)
    · obtain ⟨row, hrow, rfl⟩ := getM hT
      have hrow : t[i]? = some row := hrow
      have hi := (List.getElem?_eq_some_iff.mp hrow).1
      have hrm := h1 row (List.mem_of_getElem? hrow)
      refine ss_asgO 7 sc_held_shares.nd (eo_lst ea_nil (by decide)) fun l2 hl2 => ?_
      refine ss_forE (ζ := Unit) (fun _ _ => True) (fun _ _ => [some (tN q), some (tM t), some (tNs hs), some (tM3 ps), some (tRef l), some (tN i), some (tIs row), some (tRef l2), none, none, none]) (fun k _ => [(l, .lst (((hel q t hs ps).take i).map tIs)), (l2, .lst ((((List.range hs.length).map fun k => tot q (at2 t i (hs.getD k 0) :: ps.map fun rows => at2 rows i k)).take k).map tI))]) 8 9 rfl sc_held_shares.nd PassesOwn.never T.f_enumerate (e_var 2) () trivial (fun H2 k Tk z kb hT2 _ => ?_) (fun _ _ => ?_)
      · obtain ⟨h, hk, rfl⟩ := getM hT2
        have hk : hs[k]? = some h := hk
        have hkl := (List.getElem?_eq_some_iff.mp hk).1
        have e1 : at2 t i (hs.getD k 0) = row.getD h 0 := by unfold at2; rw [gd' [] hrow, gd' 0 hk]
        refine ss_append (l := l2) (ts := (((List.range hs.length).map fun k => tot q (at2 t i (hs.getD k 0) :: ps.map fun rows => at2 rows i k)).take k).map tI) (ts0 := (((List.range hs.length).map fun k => tot q (at2 t i (hs.getD k 0) :: ps.map fun rows => at2 rows i k)).take k).map tI) (R := tI (tot q (at2 t i (hs.getD k 0) :: ps.map fun rows => at2 rows i k))) 1 (e_var 7) (e_call (S := S_total) (q, at2 t i (hs.getD k 0) :: ps.map fun rows => at2 rows i k) (ok_total T) hr (ea_cons (e_var 0) (ea_cons (Et.is (Eo.et (eo_cat (ts := [tI (row.getD h 0)]) (us := ps.map fun rows => tI (at2 rows i k)) (e_lst (ea_cons (e_ix (e_var 6) ls (e_var 9) (putM tI (gd 0 (hrm h (List.mem_of_getElem? hk))))) ea_nil) (Nat.le_of_ble_eq_true rfl)) (Lc.e (lcM (j := 10) (xs := ps) (f := tM) (g := fun rows => tI (at2 rows i k)) (bk sc_held_shares.nd) (e_var 3) (by omega) (fun H3 j rows hj y s0 H0 C cl fp => ?_))) ls ls (by rw [List.length_map]; show 1 + _ ≤ _; omega))) ?_) ea_nil)) hq) (ss_next () trivial (ho := ?_)) ?_
        · have hrows := h2 rows (List.mem_of_getElem? hj)
          have g1 : rows[i]? = some (rows.getD i []) := gd [] (by omega)
          exact e_ix (e_ix (e_var 10) ls (e_var 5) (putM tIs g1)) ls (e_var 8) (putM tI (gd 0 (by have := hrows.2 _ (List.mem_of_getElem? g1); omega)))
        · rw [e1]
          show tL ([tI (row.getD h 0)] ++ _) = tL (tI (row.getD h 0) :: (ps.map fun rows => at2 rows i k).map tI)
          rw [List.map_map]
          rfl
        · show [(l, _), (l2, Ch.lst ((((List.range hs.length).map fun k => tot q (at2 t i (hs.getD k 0) :: ps.map fun rows => at2 rows i k)).take (k + 1)).map tI))] = [(l, _), (l2, Ch.lst (_ ++ [_]))]
          rw [take_range _ hkl, List.map_append]
          rfl
        · rw [List.length_map, List.length_take]
          omega
      · rw [take_all _ _ _ rfl]
        refine ss_freeze (l := l2) (ts := ((List.range hs.length).map fun k => tot q (at2 t i (hs.getD k 0) :: ps.map fun rows => at2 rows i k)).map tI) 7 1 ?_ hl2
        refine ss_append (l := l) (ts := ((hel q t hs ps).take i).map tIs) (ts0 := ((hel q t hs ps).take i).map tIs) (R := tIs ((List.range hs.length).map fun k => tot q (at2 t i (hs.getD k 0) :: ps.map fun rows => at2 rows i k))) 0 (e_var 4) (e_var 7) (ss_next () trivial (ho := ?_)) (by rw [List.length_map, List.length_take]; omega)
        show [(l, Ch.lst (((hel q t hs ps).take (i + 1)).map tIs))] = [(l, Ch.lst (((hel q t hs ps).take i).map tIs ++ [_]))]
        unfold hel
        rw [take_range _ hi, List.map_append]
        rfl
    · refine ss_freeze (l := l) (ts := ((hel q t hs ps).take (t.map tIs).length).map tIs) 4 0 (ss_retp (Et.is (e_var 4) ?_) hR) hl
      show tL _ = tL ((hel q t hs ps).map tIs)
      unfold hel
      rw [take_all _ _ _ rfl]
def sprd (p : Nat) (ordered : List (List Int)) (many : Nat) (coins : List (List (List Int))) : List (List (List Int)) := (List.range many).map fun k => List.zipWith (fun row line => spl p (row.getD k 0) line) ordered (coins.getD k [])
def S_spread : Spec (Nat × List (List Int) × Nat × List (List (List Int))) := ⟨fun z => 0 < z.1 ∧ z.2.1.length ≤ 1000 ∧ z.2.2.1 ≤ 1000 ∧ z.2.2.1 ≤ z.2.2.2.length ∧ (∀ rows ∈ z.2.2.2, rows.length = z.2.1.length ∧ ∀ l ∈ rows, l.length ≤ 1000) ∧ ∀ row ∈ z.2.1, z.2.2.1 ≤ row.length,
  fun z => [tN z.1, tM z.2.1, tN z.2.2.1, tM3 z.2.2.2], fun z => tM3 (sprd z.1 z.2.1 z.2.2.1 z.2.2.2)⟩
theorem ok_spread (T : Tx K mg) : DefOk P w K mg base 2 "spread_pieces" [] S_spread.sp :=
  T.k_spread_pieces fun fd F => S_spread.ok F sc_spread_pieces (fun _ _ => rfl) fun p B rt ⟨q, od, n, cs⟩ hr hp hR => by
    have hp : 0 < q ∧ od.length ≤ 1000 ∧ n ≤ 1000 ∧ n ≤ cs.length ∧ (∀ rows ∈ cs, rows.length = od.length ∧ ∀ l ∈ rows, l.length ≤ 1000) ∧ ∀ row ∈ od, n ≤ row.length := hp
    obtain ⟨hq, ho, hn, hnc, hc, hrow⟩ := hp
    refine ss_asgO 4 sc_spread_pieces.nd (eo_lst ea_nil (by decide)) fun l hl => ?_
    refine ss_forR (ζ := Unit) (n := n) (fun _ _ => True) (fun _ _ => [some (tN q), some (tM od), some (tN n), some (tM3 cs), some (tRef l), none, none, none]) (fun i _ => [(l, .lst (((sprd q od n cs).take i).map tM))]) 5 rfl sc_spread_pieces.nd PassesOwn.never T.f_range (e_var 2) (by omega) () trivial (fun i z kb hi _ => ?_) (fun _ _ => ?_)
    · have g1 : cs[i]? = some (cs.getD i []) := gd [] (by omega)
      have hcm := hc _ (List.mem_of_getElem? g1)
      refine ss_append (l := l) (ts := ((sprd q od n cs).take i).map tM) (ts0 := ((sprd q od n cs).take i).map tM) (R := tM (List.zipWith (fun row line => spl q (row.getD i 0) line) od (cs.getD i []))) 0 (e_var 4) (Et.is (Lc.e (lcZM (i1 := 6) (j1 := 7) (xs := od) (ys := cs.getD i []) (f := tIs) (g := tIs) (h := fun row line => tIs (spl q (row.getD i 0) line)) (bk sc_spread_pieces.nd) (by decide) hcm.1.symm (e_var 1) (e_ix (e_var 3) ls (e_var 5) (putM tM g1)) (by omega) T.f_zip (fun H2 k u v hu hv y s0 H0 C cl fp =>
        e_call (S := S_split) (q, u.getD i 0, v) (ok_split T) hr (ea_cons (e_var 0) (ea_cons (e_ix (e_var 6) ls (e_var 5) (putM tI (gd 0 (by have := hrow u (List.mem_of_getElem? hu); omega)))) (ea_cons (e_var 7) ea_nil))) ⟨hq, hcm.2 v (List.mem_of_getElem? hv)⟩))) ?_) (ss_next () trivial (ho := ?_)) (by rw [List.length_map, List.length_take]; omega)
      · show tL _ = tL _
        rw [tM_zip]
      · show [(l, Ch.lst (((sprd q od n cs).take (i + 1)).map tM))] = [(l, Ch.lst (((sprd q od n cs).take i).map tM ++ [_]))]
        unfold sprd
        rw [take_range _ hi, List.map_append]
        rfl
    · refine ss_freeze (l := l) (ts := ((sprd q od n cs).take n).map tM) 4 0 (ss_retp (Et.is (e_var 4) ?_) hR) hl
      show tL _ = tL ((sprd q od n cs).map tM)
      rw [List.take_of_length_le (by unfold sprd; rw [List.length_map, List.length_range]; exact Nat.le_refl _)]
def ntb (p : Nat) (pieces : List (List (List Int))) (m r : Nat) : List (List Int) := (List.range r).map fun i => (List.range m).map fun x => tot p (pieces.map fun rows => at2 rows i x)
def S_new_table : Spec (Nat × List (List (List Int)) × Nat × Nat) := ⟨fun z => 0 < z.1 ∧ z.2.1.length ≤ 1000 ∧ z.2.2.1 ≤ 1000 ∧ z.2.2.2 ≤ 1000 ∧ ∀ rows ∈ z.2.1, z.2.2.2 ≤ rows.length ∧ ∀ l ∈ rows, z.2.2.1 ≤ l.length,
  fun z => [tN z.1, tM3 z.2.1, tN z.2.2.1, tN z.2.2.2], fun z => tM (ntb z.1 z.2.1 z.2.2.1 z.2.2.2)⟩
theorem ok_new_table (T : Tx K mg) : DefOk P w K mg base 2 "new_table" [] S_new_table.sp :=
  T.k_new_table fun fd F => S_new_table.ok F sc_new_table (fun _ _ => rfl) fun p B rt ⟨q, ps, m, r⟩ hr hp hR => by
    have hp : 0 < q ∧ ps.length ≤ 1000 ∧ m ≤ 1000 ∧ r ≤ 1000 ∧ ∀ rows ∈ ps, r ≤ rows.length ∧ ∀ l ∈ rows, m ≤ l.length := hp
    obtain ⟨hq, hps, hm, hr1, h2⟩ := hp
    refine ss_asgO 4 sc_new_table.nd (eo_lst ea_nil (by decide)) fun l hl => ?_
    refine ss_forR (ζ := Unit) (n := r) (fun _ _ => True) (fun _ _ => [some (tN q), some (tM3 ps), some (tN m), some (tN r), some (tRef l), none, none, none, none]) (fun i _ => [(l, .lst (((ntb q ps m r).take i).map tIs))]) 5 rfl sc_new_table.nd PassesOwn.never T.f_range (e_var 3) (by omega) () trivial (fun i z kb hi _ => ?_) (fun _ _ => ?_)
    · refine ss_asgO 6 sc_new_table.nd (eo_lst ea_nil (by decide)) fun l2 hl2 => ?_
      refine ss_forR (ζ := Unit) (n := m) (fun _ _ => True) (fun _ _ => [some (tN q), some (tM3 ps), some (tN m), some (tN r), some (tRef l), some (tN i), some (tRef l2), none, none]) (fun k _ => [(l, .lst (((ntb q ps m r).take i).map tIs)), (l2, .lst ((((List.range m).map fun x => tot q (ps.map fun rows => at2 rows i x)).take k).map tI))]) 7 rfl sc_new_table.nd PassesOwn.never T.f_range (e_var 2) (by omega) () trivial (fun k z kb hk _ => ?_) (fun _ _ => ?_)
      · refine ss_append (l := l2) (ts := (((List.range m).map fun x => tot q (ps.map fun rows => at2 rows i x)).take k).map tI) (ts0 := (((List.range m).map fun x => tot q (ps.map fun rows => at2 rows i x)).take k).map tI) (R := tI (tot q (ps.map fun rows => at2 rows i k))) 1 (e_var 6) (e_call (S := S_total) (q, ps.map fun rows => at2 rows i k) (ok_total T) hr (ea_cons (e_var 0) (ea_cons (Et.is (Lc.e (lcM (j := 8) (xs := ps) (f := tM) (g := fun rows => tI (at2 rows i k)) (bk sc_new_table.nd) (e_var 1) (by omega) (fun H3 j rows hj y s0 H0 C cl fp => ?_))) ?_) ea_nil)) hq) (ss_next () trivial (ho := ?_)) (by rw [List.length_map, List.length_take]; omega)
        · have hrows := h2 rows (List.mem_of_getElem? hj)
          have g1 : rows[i]? = some (rows.getD i []) := gd [] (by omega)
          exact e_ix (e_ix (e_var 8) ls (e_var 5) (putM tIs g1)) ls (e_var 7) (putM tI (gd 0 (by have := hrows.2 _ (List.mem_of_getElem? g1); omega)))
        · show tL _ = tL ((ps.map fun rows => at2 rows i k).map tI)
          rw [List.map_map]
          rfl
        · show [(l, _), (l2, Ch.lst ((((List.range m).map fun x => tot q (ps.map fun rows => at2 rows i x)).take (k + 1)).map tI))] = [(l, _), (l2, Ch.lst (_ ++ [_]))]
          rw [take_range _ hk, List.map_append]
          rfl
      · rw [take_rng]
        refine ss_freeze (l := l2) (ts := ((List.range m).map fun x => tot q (ps.map fun rows => at2 rows i x)).map tI) 6 1 ?_ hl2
        refine ss_append (l := l) (ts := ((ntb q ps m r).take i).map tIs) (ts0 := ((ntb q ps m r).take i).map tIs) (R := tIs ((List.range m).map fun x => tot q (ps.map fun rows => at2 rows i x))) 0 (e_var 4) (e_var 6) (ss_next () trivial (ho := ?_)) (by rw [List.length_map, List.length_take]; omega)
        show [(l, Ch.lst (((ntb q ps m r).take (i + 1)).map tIs))] = [(l, Ch.lst (((ntb q ps m r).take i).map tIs ++ [_]))]
        unfold ntb
        rw [take_range _ hi, List.map_append]
        rfl
    · refine ss_freeze (l := l) (ts := ((ntb q ps m r).take r).map tIs) 4 0 (ss_retp (Et.is (e_var 4) ?_) hR) hl
      show tL _ = tL ((ntb q ps m r).map tIs)
      rw [List.take_of_length_le (by unfold ntb; rw [List.length_map, List.length_range]; exact Nat.le_refl _)]
end
end Vc
set_option maxHeartbeats 4000000
/-! VcN: comprehensions of several clauses without tests -/
namespace Vc
open PySem PySem.Spec PyProof.Rows L2

/-- a turn of a clause that has a clause behind it -/
def midT (ce : Expr) (k : Nat) (tg it0 it1 : Expr) (it acc : Value) (env : Env) : Sem Fin := do
  standAt it0.pos
  match ← pyNext it with
  | none => pure (.done .next)
  | some v =>
    letOwnedTupleGo tg it v
    assign tg env v
    let x ← eval it1 env
    standAt it1.pos
    let x ← foldedSetIterable it1 env x
    let _ ← runOwn (.compStart ce (k + 1) (← holding [x] (pyIter x)) acc env) env
    again (.compLoop ce k it acc env)
/-- a turn of the last clause -/
def endT (ce : Expr) (k : Nat) (tg it0 elt : Expr) (it acc : Value) (env : Env) : Sem Fin := do
  standAt it0.pos
  match ← pyNext it with
  | none => pure (.done .next)
  | some v =>
    letOwnedTupleGo tg it v
    assign tg env v
    (do let _ ← call (.builtin "list.append") [acc, ← eval elt env])
    again (.compLoop ce k it acc env)
section
variable {prog : Program} {w : World} {A : Around} {R : Result → Shared → Prop} {s : Shared} {e0 elt tg it0 it1 : Expr} {gs : List Comprehension} {sc : Scope} {ps : Pos} {it acc : Value} {env : Env} {k : Nat}
abbrev NB (prog : Program) (w : World) (A : Around) (env : Env) (R : Result → Shared → Prop) : Value → Shared → Prop := notedBy (model prog w) A env fun e s' => R (.error e) s'
theorem loop_mid (heq : compTurn (.ListComp e0 gs sc ps) k it acc env = midT (.ListComp e0 gs sc ps) k tg it0 it1 it acc env) (hs : ∀ x, foldedSetIterable it1 env x = pure x) (I : Nat → Shared → Prop)
    (turn : ∀ n s, I n s → wpAny (model prog w) A (pyNext it) (fun r s1 => match r with
      | none => R (.ok .next) s1
      | some v => wpAny (model prog w) A (letOwnedTupleGo tg it v) (fun _ s2 => wpAny (model prog w) A (assign tg env v) (fun _ s3 =>
          wpAny (model prog w) A (eval it1 env) (fun x s4 => wpAny (model prog w) A (pyIter x) (fun i1 s5 =>
            codeAny (model prog w) A (.compStart (.ListComp e0 gs sc ps) (k + 1) i1 acc env) (fun r s' => match r with
              | .ok _ => ∃ m, m < n ∧ I m s'
              | .error _ => False) s5) (NB prog w A env R) s4) (NB prog w A env R) s3) (NB prog w A env R) s2) (NB prog w A env R) s1) (NB prog w A env R) s)
    (n : Nat) (h : I n s) : codeAny (model prog w) A (.compLoop (.ListComp e0 gs sc ps) k it acc env) R s := by
  refine codeAny_loop rfl I (fun n s hI => ?_) n h
  show wpAny _ A ((compTurn (.ListComp e0 gs sc ps) k it acc env).onRaise fun x => do noteFrame x env; theTreesLotGoes x) _ _ s
  rw [heq]
  refine wpAny_noted (wpAny_bind (wpAny_standAt (wpAny_bind (wpAny_mono (turn n s hI) (fun r s1 h1 => ?_) fun _ _ q => q))))
  cases r with
  | none => exact wpAny_pure h1
  | some v =>
    refine wpAny_bind (wpAny_mono h1 (fun _ s2 h2 => wpAny_bind (wpAny_mono h2 (fun _ s3 h3 => ?_) fun _ _ q => q)) fun _ _ q => q)
    refine wpAny_bind (wpAny_mono h3 (fun x s4 h4 => wpAny_bind (wpAny_standAt (wpAny_bind (wpAny_of_eq (hs x) (wpAny_bind (wpAny_holding (wpAny_mono h4 (fun i1 s5 h5 => ?_) fun _ _ q => q))))))) fun _ _ q => q)
    refine wpAny_bind (wpAny_runOwn ?_)
    rw [Around.mark_none]
    refine codeAny_mono h5 fun r s' hr => ?_
    cases r with
    | ok f => first | exact wpAny_pure ⟨rfl, hr⟩ | exact wpAny_bind (wpAny_pure (wpAny_pure ⟨rfl, hr⟩))
    | error e => exact hr.elim
theorem loop_end (heq : compTurn (.ListComp e0 gs sc ps) k it acc env = endT (.ListComp e0 gs sc ps) k tg it0 elt it acc env) (I : Nat → Shared → Prop)
    (turn : ∀ n s, I n s → wpAny (model prog w) A (pyNext it) (fun r s1 => match r with
      | none => R (.ok .next) s1
      | some v => wpAny (model prog w) A (letOwnedTupleGo tg it v) (fun _ s2 => wpAny (model prog w) A (assign tg env v) (fun _ s3 =>
          wpAny (model prog w) A (eval elt env) (fun x s4 => wpAny (model prog w) A (call (.builtin "list.append") [acc, x]) (fun _ s5 => ∃ m, m < n ∧ I m s5) (NB prog w A env R) s4) (NB prog w A env R) s3) (NB prog w A env R) s2) (NB prog w A env R) s1) (NB prog w A env R) s)
    (n : Nat) (h : I n s) : codeAny (model prog w) A (.compLoop (.ListComp e0 gs sc ps) k it acc env) R s := by
  refine codeAny_loop rfl I (fun n s hI => ?_) n h
  show wpAny _ A ((compTurn (.ListComp e0 gs sc ps) k it acc env).onRaise fun x => do noteFrame x env; theTreesLotGoes x) _ _ s
  rw [heq]
  refine wpAny_noted (wpAny_bind (wpAny_standAt (wpAny_bind (wpAny_mono (turn n s hI) (fun r s1 h1 => ?_) fun _ _ q => q))))
  cases r with
  | none => exact wpAny_pure h1
  | some v =>
    refine wpAny_bind (wpAny_mono h1 (fun _ s2 h2 => wpAny_bind (wpAny_mono h2 (fun _ s3 h3 => ?_) fun _ _ q => q)) fun _ _ q => q)
    exact wpAny_bind (wpAny_bind (wpAny_mono h3 (fun x s4 h4 => wpAny_bind (wpAny_mono h4 (fun _ s5 h5 => wpAny_pure (wpAny_pure ⟨rfl, h5⟩)) fun _ _ q => q)) fun _ _ q => q))
theorem start_ok {g : Comprehension} (hg : (clausesOf (.ListComp e0 gs sc ps))[k]? = some g) (ha : g.is_async = 0) (h0 : codeAny (model prog w) A (.compLoop (.ListComp e0 gs sc ps) k it acc env) R s)
    (h : wpAny (model prog w) A (pyIter it) (fun it' s' => codeAny (model prog w) A (.compLoop (.ListComp e0 gs sc ps) k it' acc env) R s') (NB prog w A env R) s) : codeAny (model prog w) A (.compStart (.ListComp e0 gs sc ps) k it acc env) R s := by
  refine codeAny_of_tree ?_
  show wpAny _ _ ((compStart (.ListComp e0 gs sc ps) k it acc env).onRaise fun x => do noteFrame x env; standAt theWindowsPlace) _ _ s
  refine wpAny_notedAt ?_
  unfold compStart
  rw [hg]
  have e : (some g).elim false (fun c : Comprehension => c.is_async != 0) = false := by
    show (g.is_async != 0) = false
    rw [ha]
    rfl
  rw [e, if_neg Bool.false_ne_true]
  refine wpAny_bind (wpAny_askSetting (wpAny_ite ?_))
  split
  · first
      | exact wpAny_bind (wpAny_pure (wpAny_pure (And.intro rfl h0)))
      | exact wpAny_pure (And.intro rfl h0)
  · first
      | exact wpAny_bind (wpAny_rule (wpAny_bind (wpAny_standAt (wpAny_bind (wpAny_mono h (fun i s' q => wpAny_pure (And.intro rfl q)) fun _ _ x => x)))))
      | (refine wpAny_bind (wpAny_rule ?_); show wpAny _ _ (standAt g.iter.pos >>= _) _ _ s; exact wpAny_bind (wpAny_standAt (wpAny_bind (wpAny_mono h (fun i s' q => wpAny_pure (And.intro rfl q)) fun _ _ x => x))))
end
end Vc
namespace Vc
open PySem PySem.Spec PyProof.Rows L2
abbrev Rd := L2.St → Hp → (Hp → Prop) → Prop
/-- what runs at the clause k, from its source on -/
def Lv (Xb : Cx) (ce : Expr) (k : Nat) (D : Addr) (iter : Expr) (vs : List Nat) (rd : Rd) : Prop :=
  ∀ (pins : List (Addr × Obj)) (s : Shared) (σ : L2.St) (H : Hp) (Nx : Hp → Prop) (Rk : Shared → Prop), Inv Xb pins σ H s → rd σ H Nx → (∀ H' s', Inv Xb pins (wipe σ vs) H' s' → Nx H' → Rk s') →
    wpAny (model Xb.prog Xb.w) Xb.A (eval iter Xb.env) (fun x s4 => wpAny (model Xb.prog Xb.w) Xb.A (pyIter x) (fun it s5 =>
      codeAny (model Xb.prog Xb.w) Xb.A (.compStart ce k it (.ref D) Xb.env) (fun r s' => match r with
        | .ok _ => Rk s'
        | .error _ => False) s5) (fun _ _ => False) s4) (fun _ _ => False) s
/-- a clause's reading: bd what its turn is to do -/
def tLv (wi : TI) (g : TG) (bd : Rd) (vs : List Nat) : Rd := fun σ H Nx => wi σ H fun J H4 => ∃ W : Nat → Nat → Hp → Prop, (∃ m, W 0 m H4) ∧ ∀ j k H, W j k H →
  (J.stop j H ∧ Nx H) ∨ (J.go j H ∧ ∃ N1 : Hp → Prop, (∀ H', N1 H' → ∃ k', k' < k ∧ W (j + 1) k' H') ∧ ∀ x H', J.yld j H x H' → g x (wipe σ vs) H' fun σ3 H5 => wipe σ3 vs = wipe σ vs ∧ bd σ3 H5 N1)
/-- the element is appended -/
def tApp (D : Addr) (te : TE) : Rd := fun σ H Nx => te σ H fun y H7 => ∃ acc, H7 D = some (.lst acc) ∧ acc.length < sizeLine ∧ Nx (upd H7 D (.lst (acc ++ [y])))
section
variable {X : Cx} {s3 : Shared} {H3 : Hp} {scope : Scope} {cenv : Env} {fp : List Addr} {e0 elt tg iter it1 : Expr} {gs : List Comprehension} {sc : Scope} {ps : Pos} {k : Nat} {D : Addr} {vs vs' : List Nat} {wi : TI} {g : TG} {te : TE} {bd : Rd} {cl : Comprehension}
theorem lv_end (hc : X.calm = true) (hcl : gs[k]? = some cl) (ha : cl.is_async = 0) (hi : PI (X.blk s3 H3 scope cenv fp) tg iter wi) (hg : PG (X.blk s3 H3 scope cenv fp) tg g) (he : PE (X.blk s3 H3 scope cenv fp) elt te)
    (heq : ∀ it, compTurn (.ListComp e0 gs sc ps) k it (.ref D) cenv = endT (.ListComp e0 gs sc ps) k tg iter elt it (.ref D) cenv) : Lv (X.blk s3 H3 scope cenv fp) (.ListComp e0 gs sc ps) k D iter vs (tLv wi g (tApp D te) vs) := by
  intro pins s σ H Nx Rk I rd fin
  refine thnF (hi.run pins s σ H _ I rd) fun xv s1 hx => thnF hx fun itv s2 h2 => ?_
  obtain ⟨it, fp1, tn1, J1, H11, rfl, I11, T1, st11, f11, W1, ⟨m1, w1⟩, turn1⟩ := h2
  have stat : ∀ {H' : Hp}, (∀ b ∈ fp1, H' b = none) → ∀ b ∈ fp1, FpOk (X.blk s3 H3 scope cenv fp) pins H' b := fun hn b hb => ⟨hn b hb, (f11 b hb).2⟩
  have loop1 : codeAny (model X.prog X.w) X.A (.compLoop (.ListComp e0 gs sc ps) k (.ref it) (.ref D) cenv) (fun r s' => match r with
      | .ok _ => Rk s'
      | .error _ => False) s2 := by
    refine loop_end (heq _) (fun n s' => ∃ j H', Inv (X.blk s3 H3 scope cenv fp) pins (wipe σ vs) H' s' ∧ tn1 j s'.heap ∧ (∀ b ∈ fp1, H' b = none) ∧ W1 j n H') ?_ m1
      ⟨0, H11, I11.weak (wipe_length _ _) (fun j v e => (wipe_some e).1), st11, fun b hb => (f11 b hb).1, w1⟩
    rintro n s12 ⟨j, H12, I12, st12, n12, w12⟩
    rcases turn1 j n H12 w12 with ⟨stop, nx⟩ | ⟨go, N1, hN1, step⟩
    · refine thnF (T1.done _ rfl rfl rfl hc j _ s12 (wipe σ vs) H12 (fun _ _ => False) I12 (stat n12) st12 stop) fun r s13 ⟨hr, I13⟩ => ?_
      subst hr
      exact fin H12 s13 I13 nx
    · refine thnF (T1.item _ rfl rfl rfl hc j _ s12 (wipe σ vs) H12 (fun _ _ => False) I12 (stat n12) st12 go) fun r s13 ⟨u1, hr, h13⟩ => ?_
      subst hr
      refine thnF h13 fun _ s14 ⟨x1, H14, I14, r14, y14, st14, n14⟩ => ?_
      have I14' := I14.pinned (stat n14) (T1.obj _ _ st14)
      refine thnF (hg.run _ s14 (wipe σ vs) H14 x1 u1 _ I14' r14 (step x1 H14 y14)) fun _ s15 ⟨σ15, H15, I15, hw15, q15⟩ => ?_
      refine thnF (he.run _ s15 σ15 H15 _ I15 q15) fun z s17 ⟨yv, H17, I17, r17, acc, hD17, hz17, nx⟩ => ?_
      refine app_ok (X := X.blk s3 H3 scope cenv fp) I17 hD17 hz17 r17 fun s18 I18 => ?_
      obtain ⟨m', hm, w'⟩ := hN1 _ nx
      have pin' : ∀ b ∈ fp1, ∀ o, s14.heap.get? b = some o → s18.heap.get? b = some o ∧ (upd H17 D (.lst (acc ++ [yv]))) b = none := fun b hb o e =>
        let z := I18.pin (b, o) (List.mem_append_right _ (List.mem_append_right _ (mem_pinsAt hb e)))
        ⟨z.1, z.2.1⟩
      refine ⟨m', hm, j + 1, _, I18.unpinned.weak (by rw [← hw15, wipe_length]) (fun j v e => by rw [← hw15] at e; exact (wipe_some e).1), T1.keep _ _ _ st14 fun b hb o e => (pin' b hb o e).1, fun b hb => ?_, w'⟩
      obtain ⟨o, e, _⟩ := T1.obj _ _ st14 b hb
      exact (pin' b hb o e).2
  exact start_ok hcl ha loop1 (T1.self X.A 0 _ _ _ st11 loop1)
theorem lv_mid (hc : X.calm = true) (hcl : gs[k]? = some cl) (ha : cl.is_async = 0) (hi : PI (X.blk s3 H3 scope cenv fp) tg iter wi) (hg : PG (X.blk s3 H3 scope cenv fp) tg g)
    (hin : Lv (X.blk s3 H3 scope cenv fp) (.ListComp e0 gs sc ps) (k + 1) D it1 vs' bd) (hsub : ∀ i ∈ vs', i ∈ vs) (hs : ∀ x, foldedSetIterable it1 cenv x = pure x)
    (heq : ∀ it, compTurn (.ListComp e0 gs sc ps) k it (.ref D) cenv = midT (.ListComp e0 gs sc ps) k tg iter it1 it (.ref D) cenv) : Lv (X.blk s3 H3 scope cenv fp) (.ListComp e0 gs sc ps) k D iter vs (tLv wi g bd vs) := by
  intro pins s σ H Nx Rk I rd fin
  refine thnF (hi.run pins s σ H _ I rd) fun xv s1 hx => thnF hx fun itv s2 h2 => ?_
  obtain ⟨it, fp1, tn1, J1, H11, rfl, I11, T1, st11, f11, W1, ⟨m1, w1⟩, turn1⟩ := h2
  have stat : ∀ {H' : Hp}, (∀ b ∈ fp1, H' b = none) → ∀ b ∈ fp1, FpOk (X.blk s3 H3 scope cenv fp) pins H' b := fun hn b hb => ⟨hn b hb, (f11 b hb).2⟩
  have loop1 : codeAny (model X.prog X.w) X.A (.compLoop (.ListComp e0 gs sc ps) k (.ref it) (.ref D) cenv) (fun r s' => match r with
      | .ok _ => Rk s'
      | .error _ => False) s2 := by
    refine loop_mid (heq _) hs (fun n s' => ∃ j H', Inv (X.blk s3 H3 scope cenv fp) pins (wipe σ vs) H' s' ∧ tn1 j s'.heap ∧ (∀ b ∈ fp1, H' b = none) ∧ W1 j n H') ?_ m1
      ⟨0, H11, I11.weak (wipe_length _ _) (fun j v e => (wipe_some e).1), st11, fun b hb => (f11 b hb).1, w1⟩
    rintro n s12 ⟨j, H12, I12, st12, n12, w12⟩
    rcases turn1 j n H12 w12 with ⟨stop, nx⟩ | ⟨go, N1, hN1, step⟩
    · refine thnF (T1.done _ rfl rfl rfl hc j _ s12 (wipe σ vs) H12 (fun _ _ => False) I12 (stat n12) st12 stop) fun r s13 ⟨hr, I13⟩ => ?_
      subst hr
      exact fin H12 s13 I13 nx
    · refine thnF (T1.item _ rfl rfl rfl hc j _ s12 (wipe σ vs) H12 (fun _ _ => False) I12 (stat n12) st12 go) fun r s13 ⟨u1, hr, h13⟩ => ?_
      subst hr
      refine thnF h13 fun _ s14 ⟨x1, H14, I14, r14, y14, st14, n14⟩ => ?_
      have I14' := I14.pinned (stat n14) (T1.obj _ _ st14)
      refine thnF (hg.run _ s14 (wipe σ vs) H14 x1 u1 _ I14' r14 (step x1 H14 y14)) fun _ s15 ⟨σ15, H15, I15, hw15, q15⟩ => ?_
      refine thnF (hin _ s15 σ15 H15 N1 (fun s' => ∃ m, m < n ∧ ∃ j H', Inv (X.blk s3 H3 scope cenv fp) pins (wipe σ vs) H' s' ∧ tn1 j s'.heap ∧ (∀ b ∈ fp1, H' b = none) ∧ W1 j m H') I15 q15 fun H18 s18 I18 nx => ?_) fun x s16 h16 => thnF h16 fun i1 s17 h17 => h17
      obtain ⟨m', hm, w'⟩ := hN1 _ nx
      have pin' : ∀ b ∈ fp1, ∀ o, s14.heap.get? b = some o → s18.heap.get? b = some o ∧ H18 b = none := fun b hb o e =>
        let z := I18.pin (b, o) (List.mem_append_right _ (List.mem_append_right _ (mem_pinsAt hb e)))
        ⟨z.1, z.2.1⟩
      refine ⟨m', hm, j + 1, _, I18.unpinned.weak (by rw [← hw15, wipe_length, wipe_length]) (fun j v e => ?_), T1.keep _ _ _ st14 fun b hb o e => (pin' b hb o e).1, fun b hb => ?_, w'⟩
      · rw [← hw15] at e
        obtain ⟨e1, e2⟩ := wipe_some e
        rw [wipe_out fun z => e2 (hsub j z)]
        exact e1
      · obtain ⟨o, e, _⟩ := T1.obj _ _ st14 b hb
        exact (pin' b hb o e).2
  exact start_ok hcl ha loop1 (T1.self X.A 0 _ _ _ st11 loop1)
end
/-- a comprehension of several clauses: the first clause in the def's context, what is behind in the block's -/
def tLcN (wi : TI) (g : TG) (bd : Addr → Rd) (vs : List Nat) : TE := fun σ H Q => wi σ H fun J H1 => ∀ D, H1 D = none → ∃ W : Nat → Nat → Hp → Prop, (∃ m, W 0 m (upd H1 D (.lst []))) ∧ ∀ i m H, W i m H →
  (J.stop i H ∧ Q (.ref D) H) ∨ (J.go i H ∧ ∃ Nx : Hp → Prop, (∀ H', Nx H' → ∃ m', m' < m ∧ W (i + 1) m' H') ∧ ∀ x H', J.yld i H x H' → g x (wipe σ vs) H' fun σ2 H2 => wipe σ2 vs = wipe σ vs ∧ bd D σ2 H2 Nx)
section
variable {X : Cx} {scope : Scope} {own : List (Str × Nat)} {elt tg iter it1 : Expr} {gs : List Comprehension} {pos : Pos} {vs' : List Nat} {wi : TI} {g : TG} {bd : Addr → Rd} {cl : Comprehension}
theorem lcN_core {pins : List (Addr × Obj)} {s : Shared} {σ : L2.St} {H : Hp} {Q : VK} {pos' : Pos} {use : Option (Value → Sem Unit)} {Qf : Value → Shared → Prop} (hc : X.calm = true) (hN : X.N.Nodup) (I : Inv X pins σ H s) (hi : PI X tg iter wi) (ok : BlkOk X.N X.env.scope scope own)
    (hg : ∀ (s : Shared) (H : Hp) (C : Addr) (cl : List (Str × Addr)) (fp : List Addr), PG (X.blk s H scope (compEnvC scope cl C X.env) fp) tg g)
    (hin : ∀ (D : Addr) (s : Shared) (H : Hp) (C : Addr) (cl : List (Str × Addr)) (fp : List Addr), Lv (X.blk s H scope (compEnvC scope cl C X.env) fp) (.ListComp elt (⟨tg, iter, [], 0⟩ :: gs) scope pos) 1 D it1 vs' (bd D)) (hsub : ∀ i ∈ vs', i ∈ own.map (·.2))
    (heq : ∀ it acc env, compTurn (.ListComp elt (⟨tg, iter, [], 0⟩ :: gs) scope pos) 0 it acc env = midT (.ListComp elt (⟨tg, iter, [], 0⟩ :: gs) scope pos) 0 tg iter it1 it acc env)
    (hs : ∀ x, foldedSetIterable iter X.env x = pure x) (hs1 : ∀ env x, foldedSetIterable it1 env x = pure x)
    (h : tLcN wi g bd (own.map (·.2)) σ H Q)
    (hRR : ∀ D C s' m H', Inv X pins σ H' s' → Q (.ref D) H' → s'.heap.Ns C m → FpOk X pins H' C → compPost (model X.prog X.w) X.A X.xe use Qf (.ref D) C (.ok .next) s') :
    wpAny (model X.prog X.w) X.A (comprehension (.ListComp elt (⟨tg, iter, [], 0⟩ :: gs) scope pos) scope X.env pos' (newList []) false (eval iter X.env) use) Qf X.xe s := by
  have hfree : ∀ y ∈ scope.names, y.2 = .free → ∃ c, X.env.cells.lookup y.1 = some c := fun y hy e => by
    rcases ok.free y hy e with k | k
    · exact I.ok.has _ (.inl k)
    · exact I.ok.has _ (.inr k)
  refine wpAny_comprehension_free (use := use) rfl hs (closure_ok hfree) ok.kind (fun y hy e => by rw [ok.uniq y hy, e]) (thn (hi.run pins s σ H _ I h) fun xv s1 hx => thn hx fun itv s2 h2 => ?_)
  obtain ⟨it, fp, tn, J, H2, rfl, I2, T, st2, f2, q⟩ := h2
  refine wpAny_newObj_type (newEnv_comp ?_) (Nat.zero_le _)
  generalize hD : s2.heap.objs.size = D
  have hDn : H2 D = none := I2.hok.fresh (Nat.le_of_eq hD)
  obtain ⟨W, ⟨m0, w0⟩, turn⟩ := q D hDn
  generalize hs3 : ({ s2 with heap := s2.heap.push { cls := .type "list", data := .seq ([] : List Value).toArray } } : Shared) = s3
  have I3 : Inv X pins σ (upd H2 D (.lst [])) s3 := by
    rw [← hs3]
    refine I2.laid (t' := s2.toks) (fun b o e => Heap.get?_push_of_some _ e) (Nat.le_of_eq hD) ⟨Nat.zero_le _, [], 0, .nil, ?_⟩
    rw [← hD]
    exact Heap.get?_push_size _ rfl
  have h3 : s3.heap = s2.heap.push { cls := .type "list", data := .seq ([] : List Value).toArray } := by rw [← hs3]
  have f3 : ∀ b ∈ fp, FpOk X pins (upd H2 D (.lst [])) b ∧ b < s3.heap.objs.size := fun b hb => by
    obtain ⟨o, e, _⟩ := T.obj _ _ st2 b hb
    have hlt := Heap.lt_size e
    refine ⟨⟨?_, (f2 b hb).2⟩, by rw [h3, Heap.size_push]; exact Nat.lt_succ_of_lt hlt⟩
    rw [upd_ne (by rw [← hD]; exact Nat.ne_of_lt hlt)]
    exact (f2 b hb).1
  have st3 : tn 0 s3.heap := T.keep _ _ _ st2 fun b _ o e => by rw [h3]; exact Heap.get?_push_of_some _ e
  have I4 := block_start I3 ok hN f3
  have pg := hg s3 (upd H2 D (.lst [])) s3.heap.objs.size (cellsFrom (s3.heap.objs.size + 1) scope.names (cloFrom X.env.cells scope.names [])) fp
  have lv := hin D s3 (upd H2 D (.lst [])) s3.heap.objs.size (cellsFrom (s3.heap.objs.size + 1) scope.names (cloFrom X.env.cells scope.names [])) fp
  show codeAny _ _ (.compStart (.ListComp elt (⟨tg, iter, [], 0⟩ :: gs) scope pos) 0 (.ref it) (.ref D) (compEnvC scope (cellsFrom (s3.heap.objs.size + 1) scope.names (cloFrom X.env.cells scope.names [])) s3.heap.objs.size X.env))
    (compPost (model X.prog X.w) X.A X.xe use Qf (.ref D) s3.heap.objs.size) { s3 with heap := pushCells (s3.heap.push { cls := .type "dict", data := .dict #[] }) scope.names }
  have nfp : ∀ b ∈ fp, (upd H2 D (.lst [])) b = none := fun b hb => (f3 b hb).1.1
  generalize hce : compEnvC scope (cellsFrom (s3.heap.objs.size + 1) scope.names (cloFrom X.env.cells scope.names [])) s3.heap.objs.size X.env = ce at I4 pg lv ⊢
  have cL : ce.locals = s3.heap.objs.size := by subst hce; rfl
  generalize hH3 : upd H2 D (.lst []) = H3 at I3 I4 pg lv w0 nfp f3
  generalize hs4 : ({ s3 with heap := pushCells (s3.heap.push { cls := .type "dict", data := .dict #[] }) scope.names } : Shared) = s4 at I4 ⊢
  have st4 : tn 0 s4.heap := T.keep _ _ _ st3 fun b _ o e => by rw [← hs4]; exact pushCells_keeps _ _ _ _ (Heap.get?_push_of_some _ e)
  have stat : ∀ {σ' : L2.St} {H' : Hp} {s' : Shared}, Inv (X.blk s3 H3 scope ce fp) [] σ' H' s' → (∀ b ∈ fp, H' b = none) → ∀ b ∈ fp, FpOk (X.blk s3 H3 scope ce fp) [] H' b := fun {σ' H' s'} I' hn b hb =>
    ⟨hn b hb, (I'.ok.exf b hb).1, I'.ok.exfs b hb, .inl hb, fun x c e => (I'.ok.exf b hb).2 x c e, fun p hp => absurd (show p ∈ ([] : List (Addr × Obj)) ++ [] from hp) (by simp)⟩
  have loop : codeAny (model X.prog X.w) X.A (.compLoop (.ListComp elt (⟨tg, iter, [], 0⟩ :: gs) scope pos) 0 (.ref it) (.ref D) ce) (compPost (model X.prog X.w) X.A X.xe use Qf (.ref D) s3.heap.objs.size) s4 := by
    refine loop_mid (heq _ _ _) (hs1 ce) (fun n s' => ∃ i H', Inv (X.blk s3 H3 scope ce fp) [] (wipe σ (own.map (·.2))) H' s' ∧ tn i s'.heap ∧ (∀ b ∈ fp, H' b = none) ∧ W i n H') ?_ m0 ⟨0, H3, I4, st4, nfp, w0⟩
    rintro n s5 ⟨i, H5, I5, st5, n5, w5⟩
    rcases turn i n H5 w5 with ⟨stop, qq⟩ | ⟨go, Nx, hNx, step⟩
    · refine thnF (T.done (X.blk s3 H3 scope ce fp) rfl rfl rfl hc i [] s5 _ H5 (fun _ _ => False) I5 (stat I5 n5) st5 stop) fun r s6 ⟨hr, I6⟩ => ?_
      subst hr
      have I7 : Inv X pins σ H5 s6 := I3.call' (ch := fp) I6.os I6.base I6.hok I6.bare fun b hb => ⟨(f3 b hb).1.2.2.2.1, (f3 b hb).1.2.1, (f3 b hb).1.2.2.2.2.1, (f3 b hb).1.2.2.2.2.2⟩
      have nC : H5 s3.heap.objs.size = none := by
        have z : H5 ce.locals = none := I6.free
        rw [cL] at z
        exact z
      obtain ⟨m, hn, _⟩ := I6.loc
      have hn : s6.heap.Ns ce.locals m := hn
      rw [cL] at hn
      exact hRR D s3.heap.objs.size s6 m H5 I7 qq hn (I3.fpOk (Nat.le_refl _) nC)
    · refine thnF (T.item (X.blk s3 H3 scope ce fp) rfl rfl rfl hc i [] s5 _ H5 (fun _ _ => False) I5 (stat I5 n5) st5 go) fun r s6 ⟨u, hr, h6⟩ => ?_
      subst hr
      refine thnF h6 fun _ s7 ⟨x, H7, I7, r7, y7, st7, n7⟩ => ?_
      have I7' := I7.pinned (stat I7 n7) (T.obj _ _ st7)
      refine thnF (pg.run _ s7 _ H7 x u _ I7' r7 (step x H7 y7)) fun _ s8 ⟨σ8, H8, I8, hw8, q8⟩ => ?_
      refine thnF (lv _ s8 σ8 H8 Nx (fun s' => ∃ m, m < n ∧ ∃ i H', Inv (X.blk s3 H3 scope ce fp) [] (wipe σ (own.map (·.2))) H' s' ∧ tn i s'.heap ∧ (∀ b ∈ fp, H' b = none) ∧ W i m H') I8 q8 fun H9 s9 I9 nx => ?_) fun x s16 h16 => thnF h16 fun i1 s17 h17 => h17
      obtain ⟨m', hm, w'⟩ := hNx H9 nx
      have pin' : ∀ b ∈ fp, ∀ o, s7.heap.get? b = some o → s9.heap.get? b = some o ∧ H9 b = none := fun b hb o e =>
        let z := I9.pin (b, o) (List.mem_append_right _ (List.mem_append_right _ (mem_pinsAt hb e)))
        ⟨z.1, z.2.1⟩
      refine ⟨m', hm, i + 1, H9, (I9.unpinned (pins := [])).weak (by rw [← hw8, wipe_length, wipe_length]) (fun j v e => ?_), T.keep _ _ _ st7 fun b hb o e => (pin' b hb o e).1, fun b hb => ?_, w'⟩
      · rw [← hw8] at e
        obtain ⟨e1, e2⟩ := wipe_some e
        rw [wipe_out fun z => e2 (hsub j z)]
        exact e1
      · obtain ⟨o, e, _⟩ := T.obj _ _ st7 b hb
        exact (pin' b hb o e).2
  exact codeAny_compStart_list loop (T.self X.A 0 _ _ _ st4 loop)
theorem pe_lcN (hc : X.calm = true) (hN : X.N.Nodup) (hi : PI X tg iter wi) (ok : BlkOk X.N X.env.scope scope own)
    (hg : ∀ (s : Shared) (H : Hp) (C : Addr) (cl : List (Str × Addr)) (fp : List Addr), PG (X.blk s H scope (compEnvC scope cl C X.env) fp) tg g)
    (hin : ∀ (D : Addr) (s : Shared) (H : Hp) (C : Addr) (cl : List (Str × Addr)) (fp : List Addr), Lv (X.blk s H scope (compEnvC scope cl C X.env) fp) (.ListComp elt (⟨tg, iter, [], 0⟩ :: gs) scope pos) 1 D it1 vs' (bd D)) (hsub : ∀ i ∈ vs', i ∈ own.map (·.2))
    (heq : ∀ it acc env, compTurn (.ListComp elt (⟨tg, iter, [], 0⟩ :: gs) scope pos) 0 it acc env = midT (.ListComp elt (⟨tg, iter, [], 0⟩ :: gs) scope pos) 0 tg iter it1 it acc env)
    (hs : ∀ x, foldedSetIterable iter X.env x = pure x) (hs1 : ∀ env x, foldedSetIterable it1 env x = pure x) :
    PE X (.ListComp elt (⟨tg, iter, [], 0⟩ :: gs) scope pos) (tLcN wi g bd (own.map (·.2))) := by
  refine ⟨fun pins s σ H Q I h => ?_⟩
  rw [eval_ListComp]
  refine lcN_core hc hN I hi ok hg hin hsub heq hs hs1 h fun D C s' m H' I' q hn f => ⟨m, hn, fun h'' sb => ?_⟩
  obtain ⟨f0, f1, f2, f3, f4, f5⟩ := f
  exact ⟨.ref D, H', I'.turned (t' := s'.toks) (fun b o hb e => (sb.2 b hb).trans e) f0 f1 f3 f4 f5, rfl, q⟩
theorem ps_lcN {i : Nat} {y : Str} {py spos : Pos} (hc : X.calm = true) (hN : X.N.Nodup) (hy : X.N[i]? = some y) (hyl : X.env.scope.names.lookup y = some .local) (hsw : swapsWith (.ListComp elt (⟨tg, iter, [], 0⟩ :: gs) scope pos) (some (.Name y py)) spos.line X.env = pure true) (hi : PI X tg iter wi) (ok : BlkOk X.N X.env.scope scope own)
    (hg : ∀ (s : Shared) (H : Hp) (C : Addr) (cl : List (Str × Addr)) (fp : List Addr), PG (X.blk s H scope (compEnvC scope cl C X.env) fp) tg g)
    (hin : ∀ (D : Addr) (s : Shared) (H : Hp) (C : Addr) (cl : List (Str × Addr)) (fp : List Addr), Lv (X.blk s H scope (compEnvC scope cl C X.env) fp) (.ListComp elt (⟨tg, iter, [], 0⟩ :: gs) scope pos) 1 D it1 vs' (bd D)) (hsub : ∀ i ∈ vs', i ∈ own.map (·.2))
    (heq : ∀ it acc env, compTurn (.ListComp elt (⟨tg, iter, [], 0⟩ :: gs) scope pos) 0 it acc env = midT (.ListComp elt (⟨tg, iter, [], 0⟩ :: gs) scope pos) 0 tg iter it1 it acc env)
    (hs : ∀ x, foldedSetIterable iter X.env x = pure x) (hs1 : ∀ env x, foldedSetIterable it1 env x = pure x) :
    PS X (.Assign [.Name y py] (.ListComp elt (⟨tg, iter, [], 0⟩ :: gs) scope pos) spos) (tAsg (tLcN wi g bd (own.map (·.2))) (gName i)) := by
  refine ⟨fun pins s σ H D I h => ?_⟩
  rw [exec_Assign_Name_used _ _ _ _ hsw]
  refine wpAny_bind (wpAny_standAt (wpAny_bind ?_))
  show wpAny _ X.A (do let _ ← comprehension (.ListComp elt (⟨tg, iter, [], 0⟩ :: gs) scope pos) scope X.env (firstIterPos (⟨tg, iter, [], 0⟩ :: gs) pos) (newList []) false (eval iter X.env) (some (assign (.Name y py) X.env))) _ _ s
  have h : tLcN wi g bd (own.map (·.2)) σ H (fun x H1 => gName i x σ H1 D.nx) := h
  refine wpAny_bind (thn (lcN_core (Qf := fun _ s' => SP X pins D .next s') hc hN I hi ok hg hin hsub heq hs hs1 h fun L C s' m H' I' q hn f => ?_) fun _ s' hq => wpAny_pure (wpAny_pure hq))
  show wpAny _ _ (assign (.Name y py) X.env (.ref L)) _ _ _
  refine wpAny_assign_Name (store_ok2 (v := V.ref L) I' hN hy (.inl hyl) rfl (fun s2 I2 ⟨a, sb, ha⟩ => ?_) (.inr hyl))
  obtain ⟨f0, f1, f2, f3, f4, f5⟩ := f
  have haC : C ≠ a := by
    rcases ha with z | z
    · rw [z]; exact f1
    · exact fun e => f4 y a z e.symm
  refine ⟨m, hn.sameBut sb haC, fun h3 sb3 => ?_⟩
  exact ⟨_, H', I2.turned (t' := s2.toks) (fun b o hb e => (sb3.2 b hb).trans e) f0 f1 f3 f4 f5, q⟩
end
end Vc
set_option maxHeartbeats 4000000
/-! VcN2: what the clauses append -/
namespace Vc
open PySem PySem.Spec L2
def wipeG (G : Gm) (vs : List Nat) : Gm := vs.foldr (fun i G => G.set i none) G
theorem Slots.wipes {H : Hp} {G : Gm} {σ : L2.St} (h : Slots H G σ) : ∀ vs : List Nat, Slots H (wipeG G vs) (L2.wipe σ vs)
  | [] => h
  | i :: vs => (Slots.wipes h vs).wipe i
theorem wipe_in {σ : L2.St} {vs : List Nat} {i : Nat} (h : i ∈ vs) : (wipe σ vs)[i]? = if i < σ.length then some none else none := by
  induction vs with
  | nil => cases h
  | cons a vs ih =>
    show ((wipe σ vs).set a none)[i]? = _
    by_cases e : a = i
    · subst e
      rw [List.getElem?_set]
      rw [if_pos rfl, wipe_length]
    · rw [List.getElem?_set_ne e]
      exact ih (by rcases List.mem_cons.mp h with q | q
                   · exact (e q.symm).elim
                   · exact q)
theorem wipe_back {σ : L2.St} {vs : List Nat} {j : Nat} (h : j ∈ vs) (x : V) : wipe ((wipe σ vs).set j (some x)) vs = wipe σ vs := by
  refine List.ext_getElem? fun i => ?_
  by_cases hi : i ∈ vs
  · rw [wipe_in hi, wipe_in hi, List.length_set, wipe_length]
  · rw [wipe_out hi, List.getElem?_set_ne (show j ≠ i from fun e => hi (e ▸ h))]
/-- what a clause appends -/
def RdJ (B : Bs) (G : Gm) (O : Om) (D : Addr) (rd : Rd) (us us' : List Ty) : Prop := ∀ σ H Ha, Sat B G (O ++ [(D, .lst us)]) σ H Ha → ∀ Nx : Hp → Prop, (∀ H' Ha', Same H H' → Sat B G (O ++ [(D, .lst us')]) σ H' Ha' → Nx Ha') → rd σ Ha Nx
section
variable {B : Bs} {G : Gm} {O : Om} {D : Addr} {us us' : List Ty} {U : Ty} {te tl : TE} {bd : Rd} {vs : List Nat} {ts : List Ty} {j : Nat} {K : PySem.W.Frag}
theorem rd_app (h : Et te (Sat B G (O ++ [(D, .lst us)])) U (Sat B G (O ++ [(D, .lst us)]))) (hz : us.length < 9000) : RdJ B G O D (tApp D te) us (us ++ [U]) := fun σ H Ha s Nx nx =>
  h σ H Ha s _ fun y H4 Ha4 s4 k4 r4 => by
    have hk : (O ++ [(D, Ch.lst us)])[O.length]? = some (D, .lst us) := by simp
    obtain ⟨o, ho, hc⟩ := k4.read hk
    obtain ⟨acc, rfl, al⟩ := Ch.lst_inv hc
    refine ⟨acc, ho, by rw [← al.1, sizeLine_eq]; omega, nx H4 _ s4 ?_⟩
    have w := k4.write (c' := .lst (us ++ [U])) (o' := .lst (acc ++ [y])) hk (al.append (.one r4))
    rw [List.set_append_right _ _ (Nat.le_refl _)] at w
    have e : [(D, Ch.lst us)].set (O.length - O.length) (D, .lst (us ++ [U])) = [(D, .lst (us ++ [U]))] := by simp
    rw [e] at w
    exact w
theorem rd_list {acc : Nat → List Ty} (hj : j ∈ vs) (hit : Et tl (Sat B G (O ++ [(D, .lst (acc 0))])) (tL ts) (Sat B G (O ++ [(D, .lst (acc 0))])))
    (hb : ∀ H1 i T, ts[i]? = some T → RdJ (B.at H1) ((wipeG G vs).set j (some T)) O D bd (acc i) (acc (i + 1))) : RdJ B G O D (tLv (iList K tl) (gName j) bd vs) (acc 0) (acc ts.length) := fun σ H Ha s Nx nx =>
  hit σ H Ha s _ fun v H1 Ha1 s1 k1 ⟨a, xs, e, hv, al⟩ => by
    subst e
    refine ⟨a, rfl, ⟨xs, SqL.of (k1.ha _ _ hv)⟩, fun i m Hx => m = xs.length - i ∧ i ≤ xs.length ∧ ∃ H', Sat (B.at H1) G (O ++ [(D, .lst (acc i))]) σ H' Hx, ⟨_, rfl, Nat.zero_le _, H1, k1.at⟩, ?_⟩
    rintro i m Hx ⟨rfl, hi, H', s'⟩
    have q : SqL K Hx a xs := SqL.of (s'.ha _ _ (s'.sn _ _ hv))
    by_cases hlt : i < xs.length
    · refine .inr ⟨⟨xs, xs[i], q, by simp [hlt]⟩, fun Hy => ∃ H', Sat (B.at H1) G (O ++ [(D, .lst (acc (i + 1)))]) σ H' Hy, fun Hy p' => ⟨xs.length - (i + 1), by omega, rfl, hlt, p'⟩, fun x Hy y => ?_⟩
      obtain ⟨e, y⟩ := y
      subst e
      have hx := y xs q
      have hi2 : i < ts.length := by rw [al.1]; exact hlt
      have hT : ts[i]? = some ts[i] := List.getElem?_eq_getElem hi2
      have hp : (ts[i]).p x H' := (ts[i]).mono s'.sn (al.2 i _ x hT hx)
      refine ⟨wipe_back hj x, hb H1 i _ hT _ H' _ (s'.slots ((s'.sl.wipes vs).set j hp)) _ fun H2 Ha2 s2 k2 => ⟨H2, k2.slots (s'.sl.mono s2)⟩⟩
    · have e : i = xs.length := by omega
      subst e
      refine .inl ⟨⟨xs, q, Nat.le_refl _⟩, nx H' _ (s1.trans s'.sn) ?_⟩
      rw [al.1]
      exact s'.unat k1.sn
theorem eo_lcN {acc : Nat → List Ty} {bd : Addr → Rd} (hj : j ∈ vs) (h0 : acc 0 = []) (hit : Et tl (Sat B G O) (tL ts) (Sat B G O))
    (hb : ∀ D H1 i T, ts[i]? = some T → RdJ (B.at H1) ((wipeG G vs).set j (some T)) O D (bd D) (acc i) (acc (i + 1))) : Eo B (tLcN (iList K tl) (gName j) bd vs) (Sat B G O) (fun l => Sat B G (O ++ [(l, .lst (acc ts.length))])) := fun σ H Ha s Q q =>
  hit σ H Ha s _ fun v H1 Ha1 s1 k1 ⟨a, xs, e, hv, al⟩ => by
    subst e
    refine ⟨a, rfl, ⟨xs, SqL.of (k1.ha _ _ hv)⟩, fun D hD => ?_⟩
    have hb0 := k1.baseFree hD
    refine ⟨fun i m Hx => m = xs.length - i ∧ i ≤ xs.length ∧ ∃ H', Sat (B.at H1) G (O ++ [(D, .lst (acc i))]) σ H' Hx, ⟨_, rfl, Nat.zero_le _, H1, k1.at.own hD (by rw [h0]; exact AllT.nil)⟩, ?_⟩
    rintro i m Hx ⟨rfl, hi, H', s'⟩
    have q' : SqL K Hx a xs := SqL.of (s'.ha _ _ (s'.sn _ _ hv))
    by_cases hlt : i < xs.length
    · refine .inr ⟨⟨xs, xs[i], q', by simp [hlt]⟩, fun Hy => ∃ H', Sat (B.at H1) G (O ++ [(D, .lst (acc (i + 1)))]) σ H' Hy, fun Hy p' => ⟨xs.length - (i + 1), by omega, rfl, hlt, p'⟩, fun x Hy y => ?_⟩
      obtain ⟨e, y⟩ := y
      subst e
      have hx := y xs q'
      have hi2 : i < ts.length := by rw [al.1]; exact hlt
      have hT : ts[i]? = some ts[i] := List.getElem?_eq_getElem hi2
      have hp : (ts[i]).p x H' := (ts[i]).mono s'.sn (al.2 i _ x hT hx)
      refine ⟨wipe_back hj x, hb D H1 i _ hT _ H' _ (s'.slots ((s'.sl.wipes vs).set j hp)) _ fun H2 Ha2 s2 k2 => ⟨H2, k2.slots (s'.sl.mono s2)⟩⟩
    · have e : i = xs.length := by omega
      subst e
      refine .inl ⟨⟨xs, q', Nat.le_refl _⟩, q D H' Hx hb0 (s1.trans s'.sn) ?_⟩
      rw [al.1]
      exact s'.unat k1.sn
end
theorem Blk.pgN {X : Cx} {scope : Scope} {own : List (Str × Nat)} {x : Str} {tp : Pos} {j : Nat} (b : Blk X scope own) (k : Nat) (hq : own[k]? = some (x, j)) (s : Shared) (H : Hp) (C : Addr) (cl : List (Str × Addr)) (fp : List Addr) : PG (X.blk s H scope (compEnvC scope cl C X.env) fp) (.Name x tp) (gName j) := b.pg hq s H C cl fp
section
variable {X : Cx} {B : Bs} {G : Gm} {O : Om} {iter : Expr} {scope : Scope} {x y z : Str} {p1 p2 p3 p4 p5 p6 pos : Pos} {i j k : Nat}
theorem flatten_take_len {α : Type} (M : List (List α)) (n : Nat) : (M.take n).flatten.length ≤ M.flatten.length := by
  rw [List.length_flatten, List.length_flatten, List.map_take]
  exact sum_take_le _ _
theorem flatten_take {α : Type} {M : List (List α)} {n : Nat} {row : List α} (h : M[n]? = some row) : (M.take (n + 1)).flatten = (M.take n).flatten ++ row := by
  rw [List.take_add_one, h, List.flatten_append]
  simp
/-- for y in x: y is appended -/
theorem rd_row {row : List Int} {us : List Ty} {D : Addr} (hu : us.length + row.length < 9000) (hi : G[i]? = some (some (tIs row))) (hj : j < G.length)
    (hx : ∀ s0 H0 C cl fp B' G' O' R, G'[i]? = some (some R) → E (X.blk s0 H0 scope (compEnvC scope cl C X.env) fp) B' G' O' (.Name x p2) R O')
    (hy : ∀ s0 H0 C cl fp B' G' O' R, G'[j]? = some (some R) → E (X.blk s0 H0 scope (compEnvC scope cl C X.env) fp) B' G' O' (.Name y p4) R O') :
    RdJ B G O D (tLv (iList X.K (EWb X scope (.Name x p2))) (gName j) (tApp D (EWb X scope (.Name y p4))) [j]) us (us ++ row.map tI) := by
  have h2 := rd_list (B := B) (G := G) (O := O) (D := D) (K := X.K) (tl := EWb X scope (.Name x p2)) (bd := tApp D (EWb X scope (.Name y p4))) (ts := row.map tI) (vs := [j]) (j := j) (acc := fun q => us ++ (row.take q).map tI) (by simp)
    (Et.blk fun s0 H0 C cl fp => hx s0 H0 C cl fp _ _ _ _ hi) (fun H2 q T hT2 => ?_)
  · have e3 : us ++ (row.take 0).map tI = us := by simp
    have e4 : us ++ (row.take (row.map tI).length).map tI = us ++ row.map tI := by rw [List.length_map, List.take_length]
    simp only [e3, e4] at h2
    exact h2
  · obtain ⟨v, hv, rfl⟩ := getM hT2
    have h3 := rd_app (B := B.at H2) (G := (wipeG G [j]).set j (some (tI v))) (O := O) (D := D) (us := us ++ (row.take q).map tI) (te := EWb X scope (.Name y p4)) (U := tI v)
      (Et.blk fun s0 H0 C cl fp => hy s0 H0 C cl fp _ _ _ _ (List.getElem?_set_self (by show j < (G.set j none).length; simp only [List.length_set]; exact hj))) (by
        rw [List.length_append, List.length_map, List.length_take]
        omega)
    have e5 : us ++ (row.take (q + 1)).map tI = us ++ (row.take q).map tI ++ [tI v] := by
      rw [List.take_add_one, hv, List.map_append, List.append_assoc]
      rfl
    simp only [e5]
    exact h3
/-- for y in x for z in y: z is appended -/
theorem rd_rows {M : List (List Int)} {us : List Ty} {D : Addr} (hjk : j ≠ k) (hu : us.length + M.flatten.length < 9000) (hi : G[i]? = some (some (tM M))) (hj : j < G.length) (hk : k < G.length)
    (hx : ∀ s0 H0 C cl fp B' G' O' R, G'[i]? = some (some R) → E (X.blk s0 H0 scope (compEnvC scope cl C X.env) fp) B' G' O' (.Name x p2) R O')
    (hy : ∀ s0 H0 C cl fp B' G' O' R, G'[j]? = some (some R) → E (X.blk s0 H0 scope (compEnvC scope cl C X.env) fp) B' G' O' (.Name y p4) R O')
    (hz : ∀ s0 H0 C cl fp B' G' O' R, G'[k]? = some (some R) → E (X.blk s0 H0 scope (compEnvC scope cl C X.env) fp) B' G' O' (.Name z p6) R O') :
    RdJ B G O D (tLv (iList X.K (EWb X scope (.Name x p2))) (gName j) (tLv (iList X.K (EWb X scope (.Name y p4))) (gName k) (tApp D (EWb X scope (.Name z p6))) [k]) [j, k]) us (us ++ M.flatten.map tI) := by
  have h2 := rd_list (B := B) (G := G) (O := O) (D := D) (K := X.K) (tl := EWb X scope (.Name x p2)) (bd := tLv (iList X.K (EWb X scope (.Name y p4))) (gName k) (tApp D (EWb X scope (.Name z p6))) [k]) (ts := M.map tIs) (vs := [j, k]) (j := j) (acc := fun q => us ++ (M.take q).flatten.map tI) (by simp)
    (Et.blk fun s0 H0 C cl fp => hx s0 H0 C cl fp _ _ _ _ hi) (fun H2 q T hT2 => ?_)
  · have e3 : us ++ (M.take 0).flatten.map tI = us := by simp
    have e4 : us ++ (M.take (M.map tIs).length).flatten.map tI = us ++ M.flatten.map tI := by rw [List.length_map, List.take_length]
    simp only [e3, e4] at h2
    exact h2
  · obtain ⟨row, hrow, rfl⟩ := getM hT2
    have e := flatten_take hrow
    have hl := flatten_take_len M (q + 1)
    rw [e, List.length_append] at hl
    have h3 := rd_row (X := X) (scope := scope) (x := y) (y := z) (p2 := p4) (p4 := p6) (B := B.at H2) (G := (wipeG G [j, k]).set j (some (tIs row))) (O := O) (i := j) (j := k) (D := D) (row := row) (us := us ++ (M.take q).flatten.map tI) (by rw [List.length_append, List.length_map]; omega)
      (List.getElem?_set_self (by show j < ((G.set k none).set j none).length; simp only [List.length_set]; exact hj)) (by show k < (((G.set k none).set j none).set j _).length; simp only [List.length_set]; exact hk) hy hz
    have e5 : us ++ (M.take (q + 1)).flatten.map tI = us ++ (M.take q).flatten.map tI ++ row.map tI := by rw [e, List.map_append, List.append_assoc]
    simp only [e5]
    exact h3
/-- [y for x in M for y in x] -/
theorem lc_flat2 {M : List (List Int)} (b : Blk X scope [(x, i), (y, j)]) (hij : i ≠ j) (hz : M.flatten.length < 9000) (hit : E X B G O iter (tM M) O)
    (hx : ∀ s0 H0 C cl fp B' G' O' R, G'[i]? = some (some R) → E (X.blk s0 H0 scope (compEnvC scope cl C X.env) fp) B' G' O' (.Name x p2) R O')
    (hy : ∀ s0 H0 C cl fp B' G' O' R, G'[j]? = some (some R) → E (X.blk s0 H0 scope (compEnvC scope cl C X.env) fp) B' G' O' (.Name y p4) R O')
    (hi : i < G.length) (hj : j < G.length) (hs : ∀ z, foldedSetIterable iter X.env z = pure z := by intro _; rfl) :
    Lc X B G O (.Name y p4) [⟨.Name x p1, iter, [], 0⟩, ⟨.Name y p3, .Name x p2, [], 0⟩] scope (fun l => O ++ [(l, .lst (M.flatten.map tI))]) := by
  refine ⟨_, fun pos => pe_lcN (own := [(x, i), (y, j)]) (vs' := [j]) (it1 := .Name x p2) (bd := fun D => tLv (iList X.K (EWb X scope (.Name x p2))) (gName j) (tApp D (EWb X scope (.Name y p4))) [j]) b.c b.n (pi_list ew) b.ok (b.pgN 0 rfl)
    (fun D s H C cl fp => lv_end (cl := ⟨.Name y p3, .Name x p2, [], 0⟩) b.c rfl rfl (pi_list (ewb s H C cl fp)) (b.pgN 1 rfl s H C cl fp) (ewb s H C cl fp) (fun it => rfl)) (by simp) (fun _ _ _ => rfl) hs (fun _ _ => rfl),
    fun i' y' py pos spos h1 h2 h3 => ps_lcN (own := [(x, i), (y, j)]) (vs' := [j]) (it1 := .Name x p2) (bd := fun D => tLv (iList X.K (EWb X scope (.Name x p2))) (gName j) (tApp D (EWb X scope (.Name y p4))) [j]) b.c b.n h1 h2 h3 (pi_list ew) b.ok (b.pgN 0 rfl)
    (fun D s H C cl fp => lv_end (cl := ⟨.Name y p3, .Name x p2, [], 0⟩) b.c rfl rfl (pi_list (ewb s H C cl fp)) (b.pgN 1 rfl s H C cl fp) (ewb s H C cl fp) (fun it => rfl)) (by simp) (fun _ _ _ => rfl) hs (fun _ _ => rfl), ?_⟩
  have h := eo_lcN (K := X.K) (vs := [i, j]) (j := i) (acc := fun n => (M.take n).flatten.map tI) (bd := fun D => tLv (iList X.K (EWb X scope (.Name x p2))) (gName j) (tApp D (EWb X scope (.Name y p4))) [j]) (by simp) rfl hit fun D H1 n T hT => ?_
  · have e : M.take (M.map tIs).length = M := by rw [List.length_map, List.take_length]
    simp only [e] at h
    exact h
  · obtain ⟨row, hrow, rfl⟩ := getM hT
    have e := flatten_take hrow
    have hl := flatten_take_len M (n + 1)
    rw [e, List.length_append] at hl
    have h3 := rd_row (X := X) (scope := scope) (x := x) (y := y) (p2 := p2) (p4 := p4) (B := B.at H1) (G := (wipeG G [i, j]).set i (some (tIs row))) (O := O) (i := i) (j := j) (D := D) (row := row) (us := (M.take n).flatten.map tI) (by rw [List.length_map]; omega)
      (List.getElem?_set_self (by show i < ((G.set j none).set i none).length; simp only [List.length_set]; exact hi)) (by show j < (((G.set j none).set i none).set i _).length; simp only [List.length_set]; exact hj) hx hy
    have e5 : (M.take (n + 1)).flatten.map tI = (M.take n).flatten.map tI ++ row.map tI := by rw [e, List.map_append]
    simp only [e5]
    exact h3
/-- [z for x in M for y in x for z in y] -/
theorem lc_flat3 {M : List (List (List Int))} (b : Blk X scope [(x, i), (y, j), (z, k)]) (hjk : j ≠ k) (hl0 : M.flatten.flatten.length < 9000) (hit : E X B G O iter (tM3 M) O)
    (hx : ∀ s0 H0 C cl fp B' G' O' R, G'[i]? = some (some R) → E (X.blk s0 H0 scope (compEnvC scope cl C X.env) fp) B' G' O' (.Name x p2) R O')
    (hy : ∀ s0 H0 C cl fp B' G' O' R, G'[j]? = some (some R) → E (X.blk s0 H0 scope (compEnvC scope cl C X.env) fp) B' G' O' (.Name y p4) R O')
    (hz : ∀ s0 H0 C cl fp B' G' O' R, G'[k]? = some (some R) → E (X.blk s0 H0 scope (compEnvC scope cl C X.env) fp) B' G' O' (.Name z p6) R O')
    (hi : i < G.length) (hj : j < G.length) (hk : k < G.length) (hs : ∀ z, foldedSetIterable iter X.env z = pure z := by intro _; rfl) :
    Lc X B G O (.Name z p6) [⟨.Name x p1, iter, [], 0⟩, ⟨.Name y p3, .Name x p2, [], 0⟩, ⟨.Name z p5, .Name y p4, [], 0⟩] scope (fun l => O ++ [(l, .lst (M.flatten.flatten.map tI))]) := by
  refine ⟨_, fun pos => pe_lcN (own := [(x, i), (y, j), (z, k)]) (vs' := [j, k]) (it1 := .Name x p2) (bd := fun D => tLv (iList X.K (EWb X scope (.Name x p2))) (gName j) (tLv (iList X.K (EWb X scope (.Name y p4))) (gName k) (tApp D (EWb X scope (.Name z p6))) [k]) [j, k]) b.c b.n (pi_list ew) b.ok (b.pgN 0 rfl)
    (fun D s H C cl fp => lv_mid (cl := ⟨.Name y p3, .Name x p2, [], 0⟩) (it1 := .Name y p4) (vs' := [k]) b.c rfl rfl (pi_list (ewb s H C cl fp)) (b.pgN 1 rfl s H C cl fp)
      (lv_end (cl := ⟨.Name z p5, .Name y p4, [], 0⟩) b.c rfl rfl (pi_list (ewb s H C cl fp)) (b.pgN 2 rfl s H C cl fp) (ewb s H C cl fp) (fun it => rfl)) (by simp) (fun _ => rfl) (fun it => rfl)) (by simp) (fun _ _ _ => rfl) hs (fun _ _ => rfl),
    fun i' y' py pos spos h1 h2 h3 => ps_lcN (own := [(x, i), (y, j), (z, k)]) (vs' := [j, k]) (it1 := .Name x p2) (bd := fun D => tLv (iList X.K (EWb X scope (.Name x p2))) (gName j) (tLv (iList X.K (EWb X scope (.Name y p4))) (gName k) (tApp D (EWb X scope (.Name z p6))) [k]) [j, k]) b.c b.n h1 h2 h3 (pi_list ew) b.ok (b.pgN 0 rfl)
    (fun D s H C cl fp => lv_mid (cl := ⟨.Name y p3, .Name x p2, [], 0⟩) (it1 := .Name y p4) (vs' := [k]) b.c rfl rfl (pi_list (ewb s H C cl fp)) (b.pgN 1 rfl s H C cl fp)
      (lv_end (cl := ⟨.Name z p5, .Name y p4, [], 0⟩) b.c rfl rfl (pi_list (ewb s H C cl fp)) (b.pgN 2 rfl s H C cl fp) (ewb s H C cl fp) (fun it => rfl)) (by simp) (fun _ => rfl) (fun it => rfl)) (by simp) (fun _ _ _ => rfl) hs (fun _ _ => rfl), ?_⟩
  have h := eo_lcN (B := B) (O := O) (G := G) (K := X.K) (vs := [i, j, k]) (j := i) (acc := fun n => (M.take n).flatten.flatten.map tI) (bd := fun D => tLv (iList X.K (EWb X scope (.Name x p2))) (gName j) (tLv (iList X.K (EWb X scope (.Name y p4))) (gName k) (tApp D (EWb X scope (.Name z p6))) [k]) [j, k]) (by simp) rfl hit fun D H1 n T hT => ?_
  · have e : M.take (M.map tM).length = M := by rw [List.length_map, List.take_length]
    simp only [e] at h
    exact h
  · obtain ⟨rows, hrow, rfl⟩ := getM hT
    have e : (M.take (n + 1)).flatten.flatten = (M.take n).flatten.flatten ++ rows.flatten := by rw [flatten_take hrow, List.flatten_append]
    have hl : (M.take (n + 1)).flatten.flatten.length ≤ M.flatten.flatten.length := by
      have e2 : M.flatten = (M.take (n + 1)).flatten ++ (M.drop (n + 1)).flatten := by rw [← List.flatten_append, List.take_append_drop]
      rw [e2, List.flatten_append, List.length_append]
      omega
    rw [e, List.length_append] at hl
    have h3 := rd_rows (X := X) (scope := scope) (x := x) (y := y) (z := z) (p2 := p2) (p4 := p4) (p6 := p6) (B := B.at H1) (G := (wipeG G [i, j, k]).set i (some (tM rows))) (O := O) (i := i) (j := j) (k := k) (D := D) (M := rows) (us := (M.take n).flatten.flatten.map tI) hjk (by rw [List.length_map]; omega)
      (List.getElem?_set_self (by show i < (((G.set k none).set j none).set i none).length; simp only [List.length_set]; exact hi)) (by show j < ((((G.set k none).set j none).set i none).set i _).length; simp only [List.length_set]; exact hj) (by show k < ((((G.set k none).set j none).set i none).set i _).length; simp only [List.length_set]; exact hk) hx hy hz
    have e5 : (M.take (n + 1)).flatten.flatten.map tI = (M.take n).flatten.flatten.map tI ++ rows.flatten.map tI := by rw [e, List.map_append]
    simp only [e5]
    exact h3
end
end Vc
set_option maxHeartbeats 4000000
/-! VcD8: flat, StageRecord, run_stage -/
namespace Vc
open PySem PySem.Spec L2
theorem flat_len {α : Type} {M : List (List α)} {n : Nat} (h : ∀ row ∈ M, row.length = n) : M.flatten.length = M.length * n := by
  induction M with
  | nil => simp
  | cons a M ih =>
    rw [List.flatten_cons, List.length_append, h a List.mem_cons_self, ih fun r hr => h r (List.mem_cons_of_mem _ hr), List.length_cons, Nat.succ_mul]
    omega
theorem flat_len3 {p r wd : Nat} {g : List (List (List Int))} (h : ∀ b ∈ g, IsB p r wd b) : g.flatten.flatten.length = g.length * (r * wd) := by
  have h1 : g.flatten.length = g.length * r := flat_len fun b hb => (h b hb).1
  rw [flat_len (n := wd) (fun row hr => by
    obtain ⟨b, hb, hrb⟩ := List.mem_flatten.mp hr
    exact ((h b hb).2 row hrb).1), h1, Nat.mul_assoc]
/-- the shape of all that is run -/
structure Shp (p m r : Nat) (fam : List (List Nat)) : Prop where
  p : p ∈ primes
  m1 : 1 ≤ m
  m5 : m ≤ 5
  r5 : r ≤ 5
  f : fam.length ≤ 10
  h : ∀ lot ∈ fam, 1 ≤ (holders lot m).length
theorem stageN_le {m r : Nat} {lot : List Nat} (hm : m ≤ 5) (hr : r ≤ 5) : stageN m lot r ≤ 301 := by
  unfold stageN
  have h1 := holders_len lot m
  have e1 : (m - (holders lot m).length) * (r * ((holders lot m).length - 1)) ≤ 5 * (5 * 5) := Nat.mul_le_mul (by omega) (Nat.mul_le_mul (by omega) (by omega))
  have e2 : (holders lot m).length * (r * (m - 1)) ≤ 5 * (5 * 5) := Nat.mul_le_mul (by omega) (Nat.mul_le_mul (by omega) (by omega))
  omega
theorem sum_le {l : List Nat} {c : Nat} (h : ∀ x ∈ l, x ≤ c) : l.sum ≤ l.length * c := by
  induction l with
  | nil => simp
  | cons a l ih =>
    rw [List.sum_cons, List.length_cons, Nat.succ_mul]
    have := h a List.mem_cons_self
    have := ih fun x hx => h x (List.mem_cons_of_mem _ hx)
    omega
section
variable {P : Program} {w : World} {K : PySem.W.Frag} {mg : Str → Option Value} {base : Heap}
def S_flat (K : PySem.W.Frag) : Spec (Nat × Nat × Nat × List (List Nat) × RC) := ⟨fun z => Shp z.1 z.2.1 z.2.2.1 z.2.2.2.1 ∧ RcOk z.1 z.2.1 z.2.2.1 z.2.2.2.1 z.2.2.2.2, fun z => [tRC K z.2.2.2.2], fun z => tEx (fun ts : List Ty => ts.length = sizeN z.2.1 z.2.2.2.1 z.2.2.1) tL⟩
theorem ok_flat (T : Tx K mg) : DefOk P w K mg base 4 "flat" [] (S_flat K).sp :=
  T.k_flat fun fd F => (S_flat K).ok F sc_flat (fun _ _ => rfl) fun p B rt ⟨q, m, r, fam, c⟩ hr hp hR => by
    have hp : Shp q m r fam ∧ RcOk q m r fam c := hp
    obtain ⟨hs, hc⟩ := hp
    have hm5 := hs.m5
    have hr5 := hs.r5
    have hf := hs.f
    have hv : c.v.flatten.length = r * (m - 1) := by rw [flat_len (n := m - 1) fun row hrow => (hc.v.2 row hrow).1, hc.v.1]
    have hrm : r * (m - 1) ≤ 5 * 5 := Nat.mul_le_mul hr5 (by omega)
    have hsum : ∀ i, ((fam.take i).map fun lot => stageN m lot r).sum ≤ 3010 := fun i => by
      have h1 : ((fam.take i).map fun lot => stageN m lot r).sum ≤ ((fam.take i).map fun lot => stageN m lot r).length * 301 := sum_le fun x hx => by
        obtain ⟨lot, _, rfl⟩ := List.mem_map.mp hx
        exact stageN_le hm5 hr5
      rw [List.length_map, List.length_take] at h1
      have : min i fam.length * 301 ≤ 10 * 301 := Nat.mul_le_mul_right _ (by omega)
      omega
    refine ss_lcK 1 (lc_flat2 (i := 3) (j := 4) (M := c.v) (bk sc_flat.nd) (by decide) (by omega) (e_fld (e_var 0) ins T.c_RunCoins T.n_RunCoins_votes (by kernel_rfl)) (fun s0 H0 C cl fp B' G' O' R h => e_var 3 h) (fun s0 H0 C cl fp B' G' O' R h => e_var 4 h) (Nat.le_of_ble_eq_true rfl) (Nat.le_of_ble_eq_true rfl)) ?_
    refine ss_forL (ζ := List Ty) (ts := c.st.map (tSC K)) (fun i ts => ts.length = r * (m - 1) + ((fam.take i).map fun lot => stageN m lot r).sum) (fun _ ts => [some (tRC K c), some (tL ts), none, none, none, none]) (fun _ _ => []) 2 rfl sc_flat.nd PassesOwn.never (e_fld (e_var 0) ins T.c_RunCoins T.n_RunCoins_stages (by kernel_rfl)) (c.v.flatten.map tI) (by show (c.v.flatten.map tI).length = r * (m - 1) + 0; rw [List.length_map, hv]; rfl) (fun H1 i Ti ts kb hT hJ => ?_) (fun ts hJ => ?_)
    · obtain ⟨sc, hsc, rfl⟩ := getM hT
      have hil := (List.getElem?_eq_some_iff.mp hsc).1
      obtain ⟨lot, hlot⟩ : ∃ lot, fam[i]? = some lot := ⟨_, List.getElem?_eq_getElem (by rw [← hc.l]; exact hil)⟩
      have ok := hc.s i _ sc hlot hsc
      have e : (fam.take (i + 1)).map (fun lot => stageN m lot r) = (fam.take i).map (fun lot => stageN m lot r) ++ [stageN m lot r] := by rw [List.take_add_one, hlot, List.map_append]; rfl
      have e2 := hsum (i + 1)
      rw [e, List.sum_append, List.sum_singleton] at e2
      have hJ : ts.length = r * (m - 1) + ((fam.take i).map fun lot => stageN m lot r).sum := hJ
      have eg := flat_len3 ok.g
      have es := flat_len3 ok.s
      rw [ok.gl] at eg
      rw [ok.sl] at es
      have eN : stageN m lot r = sc.g.flatten.flatten.length + 1 + sc.s.flatten.flatten.length := by
        unfold stageN
        rw [eg, es]
      refine ss_asgO 1 sc_flat.nd (eo_cat (e_var 1) (Lc.e (lc_flat3 (i := 5) (j := 3) (k := 4) (M := sc.g) (bk sc_flat.nd) (by decide) (by omega) (e_fld (e_var 2) ins T.c_StageCoins T.n_StageCoins_gather (by kernel_rfl)) (fun s0 H0 C cl fp B' G' O' R h => e_var 5 h) (fun s0 H0 C cl fp B' G' O' R h => e_var 3 h) (fun s0 H0 C cl fp B' G' O' R h => e_var 4 h) (Nat.le_of_ble_eq_true rfl) (Nat.le_of_ble_eq_true rfl) (Nat.le_of_ble_eq_true rfl))) ls ls (by rw [List.length_map]; omega)) fun l hl => ?_
      refine ss_append (l := l) (ts := ts ++ sc.g.flatten.flatten.map tI) (ts0 := ts ++ sc.g.flatten.flatten.map tI) (R := tEx (fun _ : Int => True) tI) 0 (e_var 1) (e_call (S := S_order_number) (sc.o, r) (ok_order_number T) hr (ea_cons (e_fld (e_var 2) ins T.c_StageCoins T.n_StageCoins_order (by kernel_rfl)) ea_nil) ok.o) ?_ (by rw [List.length_append, List.length_map]; omega)
      refine ss_asgO (O' := fun l2 => [(l, _), (l2, .lst ((ts ++ sc.g.flatten.flatten.map tI ++ [tEx (fun _ : Int => True) tI]) ++ sc.s.flatten.flatten.map tI))]) 1 sc_flat.nd (eo_cat (e_var 1) (Lc.e (lc_flat3 (i := 5) (j := 3) (k := 4) (M := sc.s) (bk sc_flat.nd) (by decide) (by omega) (e_fld (e_var 2) ins T.c_StageCoins T.n_StageCoins_spread (by kernel_rfl)) (fun s0 H0 C cl fp B' G' O' R h => e_var 5 h) (fun s0 H0 C cl fp B' G' O' R h => e_var 3 h) (fun s0 H0 C cl fp B' G' O' R h => e_var 4 h) (Nat.le_of_ble_eq_true rfl) (Nat.le_of_ble_eq_true rfl) (Nat.le_of_ble_eq_true rfl))) (lso 0) ls (by simp only [List.length_append, List.length_map, List.length_singleton]; omega)) fun l2 hl2 => ?_
      refine ss_freeze (l := l2) (ts := (ts ++ sc.g.flatten.flatten.map tI ++ [tEx (fun _ : Int => True) tI]) ++ sc.s.flatten.flatten.map tI) 1 1 ?_ hl2
      refine ss_less (O2 := []) ?_ (List.nil_sublist _)
      refine ss_next ((ts ++ sc.g.flatten.flatten.map tI ++ [tEx (fun _ : Int => True) tI]) ++ sc.s.flatten.flatten.map tI) ?_
      show _ = _
      rw [e, List.sum_append, List.sum_singleton, eN]
      simp only [List.length_append, List.length_map, List.length_singleton]
      omega
    · have hJ : ts.length = r * (m - 1) + ((fam.take (c.st.map (tSC K)).length).map fun lot => stageN m lot r).sum := hJ
      rw [List.length_map, hc.l, List.take_length] at hJ
      refine ss_retp (Et.to (R1 := tEx (fun ts : List Ty => ts.length = sizeN m fam r) tL) (e_var 1) fun v H h => ⟨ts, hJ, h⟩) hR
/-! ### StageRecord, run_stage -/
structure SR where
  hs : List Nat
  ga : List (List (List Int))
  he : List (List Int)
  o : List Nat
  od : List (List Int)
  sp : List (List (List Int))
  t : List (List Int)
abbrev fSR0 (x : SR) : List (Str × Ty) := [("table", tL []), ("spread", tL []), ("ordered", tM x.od), ("order", tNs x.o), ("held", tM x.he), ("gathered", tM3 x.ga), ("holders", tNs x.hs)]
abbrev fSR (x : SR) : List (Str × Ty) := ("table", tM x.t) :: ("spread", tM3 x.sp) :: fSR0 x
abbrev tSR (K : PySem.W.Frag) (x : SR) : Ty := tIn (He.ga K "StageRecord") (fSR x)
def I_StageRecord : SpecI (List Nat × List (List (List Int)) × List (List Int) × List Nat) := ⟨fun z => IsOrd z.2.2.2 z.2.2.1.length, fun z => [tNs z.1, tM3 z.2.1, tM z.2.2.1, tNs z.2.2.2], fun z => fSR0 ⟨z.1, z.2.1, z.2.2.1, z.2.2.2, mv [] z.2.2.1 z.2.2.2, [], []⟩⟩
theorem ok_StageRecord (T : Tx K mg) : ClsOk P w K mg base 3 "StageRecord" (He.ga K "StageRecord") (I_StageRecord.sp (He.ga K "StageRecord")) :=
  T.k_StageRecord_init fun fd F => I_StageRecord.ok F sc_StageRecord_init (fun _ _ => rfl) fun p B rt ⟨hs, ga, he, o⟩ l dx hr hp hR => by
    have hp : IsOrd o he.length := hp
    refine ss_fld (l := l) 0 (e_list (e_var 1) ls T.f_list) (e_var 0) ?_ T.c_StageRecord T.n_StageRecord_holders
    refine ss_fld (l := l) 0 (e_var 2) (e_var 0) ?_ T.c_StageRecord T.n_StageRecord_gathered
    refine ss_fld (l := l) 0 (e_var 3) (e_var 0) ?_ T.c_StageRecord T.n_StageRecord_held
    refine ss_fld (l := l) 0 (e_list (e_var 4) ls T.f_list) (e_var 0) ?_ T.c_StageRecord T.n_StageRecord_order
    refine ss_fld (l := l) (R := tM (mv [] he o)) 0 (Et.is (e_call (S := S_moved) (he.map tIs, o) (ok_moved T) hr (ea_cons (e_var 3) (ea_cons (e_var 4) ea_nil)) (by show IsOrd o (he.map tIs).length; rw [List.length_map]; exact hp)) (by show tL _ = tL _; rw [mvT_map tIs [] hp])) (e_var 0) ?_ T.c_StageRecord T.n_StageRecord_ordered
    refine ss_fld (l := l) 0 (e_lst ea_nil (by decide)) (e_var 0) ?_ T.c_StageRecord T.n_StageRecord_spread
    refine ss_fld (l := l) 0 (e_lst ea_nil (by decide)) (e_var 0) ?_ T.c_StageRecord T.n_StageRecord_table
    exact ss_nil fun σ H Ha s => hR σ _ H Ha s
end
/-- what a stage computes -/
def stg (p m : Nat) (t : List (List Int)) (hs : List Nat) (c : SC) : SR :=
  let ga := gat p t (holders hs m) c.g
  let he := hel p t hs ga
  let od := mv [] he c.o
  let sp := sprd p od hs.length c.s
  ⟨hs, ga, he, c.o, od, sp, ntb p sp m t.length⟩
end Vc
set_option maxHeartbeats 4000000
/-! VcM2: shapes of what a stage computes (plain) -/
namespace Vc
open PySem L2
theorem primes_pos {p : Nat} (h : p ∈ primes) : 0 < p := by have := (prime_le h).1; omega
theorem emod_in {p : Nat} (hp : 0 < p) (a : Int) : 0 ≤ a % (p : Int) ∧ a % (p : Int) < (p : Int) := ⟨Int.emod_nonneg _ (by omega), Int.emod_lt_of_pos _ (by omega)⟩
theorem spl_len (p : Nat) (v : Int) (cs : List Int) : (spl p v cs).length = cs.length + 1 := by
  unfold spl
  rw [List.length_append, List.length_map]
  rfl
theorem spl_in {p : Nat} (hp : 0 < p) {v x : Int} {cs : List Int} (h : x ∈ spl p v cs) : 0 ≤ x ∧ x < (p : Int) := by
  unfold spl at h
  rcases List.mem_append.mp h with h | h
  · obtain ⟨c, _, rfl⟩ := List.mem_map.mp h
    exact emod_in hp c
  · have e := List.mem_singleton.mp h
    rw [e]
    exact emod_in hp _
theorem tot_in {p : Nat} (hp : 0 < p) (ns : List Int) : 0 ≤ tot p ns ∧ tot p ns < (p : Int) := by
  have key : ∀ (ns : List Int) (a : Int), (0 ≤ a ∧ a < (p : Int)) → 0 ≤ ns.foldl (fun a x => (a + x) % (p : Int)) a ∧ ns.foldl (fun a x => (a + x) % (p : Int)) a < (p : Int) := by
    intro ns
    induction ns with
    | nil => exact fun a h => h
    | cons x ns ih => exact fun a h => ih _ (emod_in hp _)
  exact key ns 0 ⟨by omega, by omega⟩
theorem mem_zipWith {α β γ : Type} {f : α → β → γ} {xs : List α} {ys : List β} {c : γ} (h : c ∈ List.zipWith f xs ys) : ∃ (i : Nat) (a : α) (b : β), xs[i]? = some a ∧ ys[i]? = some b ∧ c = f a b := by
  obtain ⟨i, hi⟩ := List.getElem?_of_mem h
  rw [List.getElem?_zipWith] at hi
  cases ha : xs[i]? with
  | none => rw [ha] at hi; cases hi
  | some a =>
    cases hb : ys[i]? with
    | none => rw [ha, hb] at hi; cases hi
    | some b =>
      rw [ha, hb] at hi
      cases hi
      exact ⟨i, a, b, ha, hb, rfl⟩
theorem isB_spl {p r wd : Nat} (hp : 0 < p) {α : Type} {f : α → Int} {vs : List α} {cs : List (List Int)} (hv : vs.length = r) (hc : IsB p r wd cs) : IsB p r (wd + 1) (List.zipWith (fun v c => spl p (f v) c) vs cs) := by
  refine ⟨by rw [List.length_zipWith, hv, hc.1, Nat.min_self], fun row h => ?_⟩
  obtain ⟨i, a, b, _, hb, rfl⟩ := mem_zipWith h
  exact ⟨by rw [spl_len, (hc.2 b (List.mem_of_getElem? hb)).1], fun x hx => spl_in hp hx⟩
theorem isB_gat {p r wd : Nat} (hp : 0 < p) {t : List (List Int)} {os : List Nat} {cs : List (List (List Int))} (ht : t.length = r) (hc : ∀ b ∈ cs, IsB p r wd b) : ∀ b ∈ gat p t os cs, IsB p r (wd + 1) b := fun b h => by
  obtain ⟨i, x, c, _, hb, rfl⟩ := mem_zipWith h
  exact isB_spl hp ht (hc c (List.mem_of_getElem? hb))
theorem isB_hel {p : Nat} (hp : 0 < p) (t : List (List Int)) (hs : List Nat) (ps : List (List (List Int))) : IsB p t.length hs.length (hel p t hs ps) := by
  unfold hel
  refine ⟨by rw [List.length_map, List.length_range], fun row h => ?_⟩
  obtain ⟨i, _, rfl⟩ := List.mem_map.mp h
  refine ⟨by rw [List.length_map, List.length_range], fun x hx => ?_⟩
  obtain ⟨k, _, rfl⟩ := List.mem_map.mp hx
  exact tot_in hp _
theorem isB_ntb {p : Nat} (hp : 0 < p) (ps : List (List (List Int))) (m r : Nat) : IsB p r m (ntb p ps m r) := by
  unfold ntb
  refine ⟨by rw [List.length_map, List.length_range], fun row h => ?_⟩
  obtain ⟨i, _, rfl⟩ := List.mem_map.mp h
  refine ⟨by rw [List.length_map, List.length_range], fun x hx => ?_⟩
  obtain ⟨k, _, rfl⟩ := List.mem_map.mp hx
  exact tot_in hp _
theorem isB_mv {p r wd : Nat} {t : List (List Int)} {o : List Nat} (ht : IsB p r wd t) (ho : IsOrd o r) : IsB p r wd (mv [] t o) := by
  refine ⟨by rw [mv_len, ho.len], fun row h => ?_⟩
  obtain ⟨i, hi, rfl⟩ := List.mem_map.mp h
  exact ht.2 _ (gdM [] (by rw [ht.1]; exact ho.lt hi))
theorem isB_sprd {p r wd n : Nat} (hp : 0 < p) {od : List (List Int)} {cs : List (List (List Int))} (ho : od.length = r) (hn : n ≤ cs.length) (hc : ∀ b ∈ cs, IsB p r wd b) : ∀ b ∈ sprd p od n cs, IsB p r (wd + 1) b := fun b h => by
  obtain ⟨k, hk, rfl⟩ := List.mem_map.mp h
  exact isB_spl hp ho (hc _ (gdM [] (by have := List.mem_range.mp hk; omega)))
theorem mem_holders {lot : List Nat} {m x : Nat} : x ∈ holders lot m ↔ x < m ∧ x ∉ lot := by
  unfold holders
  rw [List.mem_filter, List.mem_range]
  simp
theorem hold_hold (lot : List Nat) (m : Nat) : (holders (holders lot m) m).length = m - (holders lot m).length := by
  have e : holders (holders lot m) m = (List.range m).filter fun x => decide (x ∈ lot) := by
    unfold holders
    refine List.filter_congr fun x hx => ?_
    have hx := List.mem_range.mp hx
    by_cases h : x ∈ lot
    · simp [h]
    · simp [h, hx]
  have e2 : ∀ l : List Nat, (l.filter fun x => decide (x ∈ lot)).length + (l.filter fun x => !decide (x ∈ lot)).length = l.length := by
    intro l
    induction l with
    | nil => rfl
    | cons a l ih =>
      by_cases h : a ∈ lot
      · simp [h] at ih ⊢
        omega
      · simp [h] at ih ⊢
        omega
  have := e2 (List.range m)
  rw [List.length_range] at this
  rw [e]
  unfold holders
  omega
theorem hold_nodup (lot : List Nat) (m : Nat) : (holders lot m).Nodup := List.Nodup.sublist List.filter_sublist List.nodup_range
section
variable {p m r : Nat} {fam : List (List Nat)} {lot : List Nat} {t : List (List Int)} {c : SC}
/-- what the steps of a stage ask -/
structure StOk (p m r : Nat) (hs : List Nat) (t : List (List Int)) (c : SC) : Prop where
  m5 : m ≤ 5
  m1 : 1 ≤ m
  r5 : r ≤ 5
  p0 : 0 < p
  tb : IsB p r m t
  h1 : 1 ≤ hs.length
  hl : hs.length ≤ m
  hm : ∀ x ∈ hs, x < m
  gl : c.g.length = (holders hs m).length
  g : ∀ b ∈ c.g, IsB p r (hs.length - 1) b
  o : IsOrd c.o r
  sl : c.s.length = hs.length
  s : ∀ b ∈ c.s, IsB p r (m - 1) b
theorem StOk.of (hs : Shp p m r fam) (hl : lot ∈ fam) (ht : IsB p r m t) (hc : ScOk p m r lot c) : StOk p m r (holders lot m) t c :=
  ⟨hs.m5, hs.m1, hs.r5, primes_pos hs.p, ht, hs.h lot hl, holders_len lot m, fun x hx => (mem_holders.mp hx).1, by rw [hold_hold, hc.gl], hc.g, hc.o, hc.sl, hc.s⟩
section
variable {hs : List Nat}
theorem StOk.ga (h : StOk p m r hs t c) : ∀ b ∈ gat p t (holders hs m) c.g, IsB p r hs.length b := by
  have := isB_gat (os := holders hs m) h.p0 h.tb.1 h.g
  rw [Nat.sub_add_cancel h.h1] at this
  exact this
theorem StOk.he (h : StOk p m r hs t c) : IsB p r hs.length (stg p m t hs c).he := by
  have := isB_hel h.p0 t hs (gat p t (holders hs m) c.g)
  rw [h.tb.1] at this
  exact this
theorem StOk.od (h : StOk p m r hs t c) : IsB p r hs.length (stg p m t hs c).od := isB_mv h.he h.o
theorem StOk.sp (h : StOk p m r hs t c) : ∀ b ∈ (stg p m t hs c).sp, IsB p r m b := by
  have := isB_sprd (n := hs.length) h.p0 h.od.1 (by rw [h.sl]; exact Nat.le_refl _) h.s
  rw [Nat.sub_add_cancel h.m1] at this
  exact this
theorem StOk.nt (h : StOk p m r hs t c) : IsB p r m (stg p m t hs c).t := by
  have := isB_ntb h.p0 (stg p m t hs c).sp m t.length
  rw [h.tb.1] at this
  show IsB p r m (ntb p (stg p m t hs c).sp m t.length)
  rw [h.tb.1]
  exact this
end
end
section
variable {P : Program} {w : World} {K : PySem.W.Frag} {mg : Str → Option Value} {base : Heap}
open PySem.Spec
def S_run_stage (K : PySem.W.Frag) : Spec (Nat × Nat × Nat × List (List Int) × List Nat × SC) := ⟨fun z => StOk z.1 z.2.1 z.2.2.1 z.2.2.2.2.1 z.2.2.2.1 z.2.2.2.2.2, fun z => [tN z.1, tN z.2.1, tM z.2.2.2.1, tNs z.2.2.2.2.1, tSC K z.2.2.2.2.2], fun z => tSR K (stg z.1 z.2.1 z.2.2.2.1 z.2.2.2.2.1 z.2.2.2.2.2)⟩
theorem ok_run_stage (T : Tx K mg) : DefOk P w K mg base 5 "run_stage" [] (S_run_stage K).sp :=
  T.k_run_stage fun fd F => (S_run_stage K).ok F sc_run_stage (fun _ _ => rfl) fun p B rt ⟨q, m, r, t, hs, c⟩ hr hp hR => by
    have hp : StOk q m r hs t c := hp
    have hm := hp.m5
    have hr5 := hp.r5
    have hhl := hp.hl
    have ht := hp.tb
    have hol := holders_len hs m
    refine ss_asg 5 sc_run_stage.nd (e_call (S := S_gathered) (q, t, holders hs m, c.g) (ok_gathered T) hr (ea_cons (e_var 0) (ea_cons (e_var 2) (ea_cons (e_call (S := S_outsiders) (m, hs) (ok_outsiders T) hr (ea_cons (e_var 1) (ea_cons (e_var 3) ea_nil)) hm) (ea_cons (e_fld (e_var 4) ins T.c_StageCoins T.n_StageCoins_gather (by kernel_rfl)) ea_nil))))
      ⟨hp.p0, hp.gl.symm, by show (holders hs m).length ≤ 1000; omega, by show t.length ≤ 1000; rw [ht.1]; omega, fun rows hrows => ⟨by rw [(hp.g rows hrows).1]; exact ht.1.symm, fun l hl => by rw [((hp.g rows hrows).2 l hl).1]; omega⟩, fun x hx row hrow => by rw [(ht.2 row hrow).1]; exact (mem_holders.mp hx).1⟩) ?_
    have hga := hp.ga
    have hgl : (gat q t (holders hs m) c.g).length ≤ 1000 := by unfold gat; rw [List.length_zipWith]; omega
    refine ss_asg 6 sc_run_stage.nd (e_call (S := S_held) (q, t, hs, gat q t (holders hs m) c.g) (ok_held T) hr (ea_cons (e_var 0) (ea_cons (e_var 2) (ea_cons (e_var 3) (ea_cons (e_var 5) ea_nil))))
      ⟨hp.p0, by show t.length ≤ 1000; rw [ht.1]; omega, by show hs.length ≤ 1000; omega, hgl, fun row hrow x hx => by rw [(ht.2 row hrow).1]; exact hp.hm x hx, fun rows hrows => ⟨by rw [(hga rows hrows).1, show t.length = r from ht.1]; exact Nat.le_refl _, fun l hl => by rw [((hga rows hrows).2 l hl).1]; exact Nat.le_refl _⟩⟩) ?_
    have hhe := hp.he
    refine ss_asgI (O' := fun l dx => [] ++ [(l, .ins (He.ga K "StageRecord") dx (fSR0 ⟨hs, gat q t (holders hs m) c.g, hel q t hs (gat q t (holders hs m) c.g), c.o, mv [] (hel q t hs (gat q t (holders hs m) c.g)) c.o, [], []⟩))]) 7 sc_run_stage.nd
      (eo_make (S := I_StageRecord) (hs, gat q t (holders hs m) c.g, hel q t hs (gat q t (holders hs m) c.g), c.o) (ok_StageRecord T) hr (ea_cons (e_var 3) (ea_cons (e_var 5) (ea_cons (e_var 6) (ea_cons (e_fld (e_var 4) ins T.c_StageCoins T.n_StageCoins_order (by kernel_rfl)) ea_nil)))) (by show IsOrd c.o (hel q t hs (gat q t (holders hs m) c.g)).length; rw [show (hel q t hs (gat q t (holders hs m) c.g)).length = r from hhe.1]; exact hp.o)) fun l dx hl => ?_
    have hod := hp.od
    refine ss_fld (l := l) 0 (e_call (S := S_spread) (q, mv [] (hel q t hs (gat q t (holders hs m) c.g)) c.o, hs.length, c.s) (ok_spread T) hr (ea_cons (e_var 0) (ea_cons (e_fld (e_var 7) (inso 0) T.c_StageRecord T.n_StageRecord_ordered (by kernel_rfl)) (ea_cons (Et.is (e_len (e_var 3) ls T.f_len) (congrArg tN (List.length_map _))) (ea_cons (e_fld (e_var 4) ins T.c_StageCoins T.n_StageCoins_spread (by kernel_rfl)) ea_nil))))
      ⟨hp.p0, by rw [show (mv [] (hel q t hs (gat q t (holders hs m) c.g)) c.o).length = r from hod.1]; omega, by show hs.length ≤ 1000; omega, by show hs.length ≤ c.s.length; rw [hp.sl]; exact Nat.le_refl _, fun rows hrows => ⟨by rw [(hp.s rows hrows).1]; exact hod.1.symm, fun l hl => by rw [((hp.s rows hrows).2 l hl).1]; omega⟩, fun row hrow => by rw [(hod.2 row hrow).1]; exact Nat.le_refl _⟩) (e_var 7) ?_ T.c_StageRecord T.n_StageRecord_spread
    have hsp := hp.sp
    have hsl : (stg q m t hs c).sp.length ≤ 1000 := by show (sprd q _ hs.length c.s).length ≤ 1000; unfold sprd; rw [List.length_map, List.length_range]; omega
    refine ss_fld (l := l) 0 (e_call (S := S_new_table) (q, (stg q m t hs c).sp, m, t.length) (ok_new_table T) hr (ea_cons (e_var 0) (ea_cons (e_fld (e_var 7) (inso 0) T.c_StageRecord T.n_StageRecord_spread (by kernel_rfl)) (ea_cons (e_var 1) (ea_cons (Et.is (e_len (e_var 2) ls T.f_len) (congrArg tN (List.length_map _))) ea_nil))))
      ⟨hp.p0, hsl, by show m ≤ 1000; omega, by show t.length ≤ 1000; have := ht.1; omega, fun rows hrows => ⟨by rw [(hsp rows hrows).1, show t.length = r from ht.1]; exact Nat.le_refl _, fun l hl => by rw [((hsp rows hrows).2 l hl).1]; exact Nat.le_refl _⟩⟩) (e_var 7) ?_ T.c_StageRecord T.n_StageRecord_table
    exact ss_freezeI (l := l) (dx := dx) (C := He.ga K "StageRecord") (fs := fSR (stg q m t hs c)) 7 0 (ss_retp (e_var 7) hR) hl
end
end Vc
set_option maxHeartbeats 4000000
/-! VcD9: RunRecord, last_table, check_votes, run -/
namespace Vc
open PySem PySem.Spec L2
theorem look_cons {T : Type} {f g : Str} {U : T} {fs : List (Str × T)} : ((g, U) :: fs).lookup f = if f = g then some U else fs.lookup f := by
  show (match f == g with | true => some U | false => fs.lookup f) = _
  by_cases q : f = g
  · rw [if_pos q, show (f == g) = true from beq_iff_eq.mpr q]
  · rw [if_neg q, show (f == g) = false from beq_eq_false_iff_ne.mpr q]
/-- a field's type changed -/
theorem FldT.chg {H : Hp} {f : Str} {U U' : Ty} {A Bf : List (Str × Ty)} {gs : List (Str × V)} (h : FldT H (A ++ (f, U) :: Bf) gs) (w : ∀ v, gs.lookup f = some v → U.p v H → U'.p v H) : FldT H (A ++ (f, U') :: Bf) gs := by
  refine ⟨by have := h.1; rw [List.length_append, List.length_cons] at this ⊢; exact this, fun g T e => ?_, fun g e => ?_⟩
  · have key : ∀ A : List (Str × Ty), (A ++ (f, U') :: Bf).lookup g = some T → (A ++ (f, U) :: Bf).lookup g = some T ∨ (g = f ∧ T = U' ∧ (A ++ (f, U) :: Bf).lookup g = some U) := by
      intro A
      induction A with
      | nil =>
        intro e
        rw [List.nil_append, look_cons] at e ⊢
        by_cases q : g = f
        · rw [if_pos q] at e ⊢
          cases e
          exact .inr ⟨q, rfl, rfl⟩
        · rw [if_neg q] at e ⊢
          exact .inl e
      | cons a A ih =>
        obtain ⟨n, W⟩ := a
        intro e
        rw [List.cons_append, look_cons] at e ⊢
        by_cases q : g = n
        · rw [if_pos q] at e ⊢
          exact .inl e
        · rw [if_neg q] at e ⊢
          exact ih e
    rcases key A e with e' | ⟨hg, hT, e'⟩
    · exact h.2.1 g T e'
    · obtain ⟨v, a, b⟩ := h.2.1 g U e'
      subst hg hT
      exact ⟨v, a, w v a b⟩
  · refine h.2.2 g ?_
    have key : ∀ A : List (Str × Ty), (A ++ (f, U') :: Bf).lookup g = none → (A ++ (f, U) :: Bf).lookup g = none := by
      intro A
      induction A with
      | nil =>
        intro e
        rw [List.nil_append, look_cons] at e ⊢
        by_cases q : g = f
        · rw [if_pos q] at e
          cases e
        · rw [if_neg q] at e ⊢
          exact e
      | cons a A ih =>
        obtain ⟨n, W⟩ := a
        intro e
        rw [List.cons_append, look_cons] at e ⊢
        by_cases q : g = n
        · rw [if_pos q] at e
          cases e
        · rw [if_neg q] at e ⊢
          exact ih e
    exact key A e
section
variable {X : Cx} {B : Bs} {G : Gm} {O O1 O2 : Om} {a b c e o : Expr} {es : List Expr} {R R1 : Ty} {Rs : List Ty} {pos p : Pos} {m k n : Nat} {x : Str} {rest : List Stmt} {D : Ends} {C l : Addr} {i : Int}
theorem e_neg (h : E X B G O e (tI i) O1) : E X B G O (.UnaryOp .USub e pos) (tI (-i)) O1 :=
  Et.of (pe_un un_neg ew) fun σ H Ha s Q q => h σ H Ha s _ fun v H1 Ha1 s1 k1 r1 => ⟨i, r1, q _ H1 Ha1 s1 k1 rfl⟩
theorem Sat.add {σ : L2.St} {H Ha : Hp} {c : Ch} (s : Sat B G O σ H Ha) (hH : H l = none) (hB : B.Ha l = none) (hn : l ∉ O.map (·.1)) (ho : ∃ o, Ha l = some o ∧ c.ok H o) : Sat B G (O ++ [(l, c)]) σ H Ha := by
  refine ⟨s.st, s.sn, s.sl, ?_, fun q hq => ?_⟩
  · rw [List.map_append]
    exact List.nodup_append.mpr ⟨s.ow.1, by simp, fun a ha b hb => by
      have e : b = l := by simpa using hb
      subst e
      exact fun z => hn (z ▸ ha)⟩
  · rcases List.mem_append.mp hq with hq | e
    · exact s.ow.2 q hq
    · have e : q = (l, c) := by simpa using e
      subst e
      exact ⟨hH, .inl hB, ho⟩
/-- self.f = [..], the list owned -/
theorem ss_fldO {dx : Addr} {fs : List (Str × Ty)} {f : Str} {pos' : Pos} {O' : Addr → Om} (k : Nat) (he : EO X B G O e O') (ha : ∀ l2, E X B G (O' l2) a (tRef l) (O' l2)) (r : ∀ l2, B.Ha l2 = none → SS X rest (Sat B G ((O' l2).set k (l, .ins C dx ((f, tRef l2) :: fs)))) D) (hc : Cls X.K C) (hn : NoAttr X.K C f) (hk : ∀ l2, (O' l2)[k]? = some (l, .ins C dx fs) := by intro _; rfl) (hz : fs.length < 900 := by exact of_decide_eq_true rfl)
    (hs : swapsWith e (some (.Attribute a f pos')) pos.line X.env = pure false := by rfl) : SS X (.Assign [.Attribute a f pos'] e pos :: rest) (Sat B G O) D :=
  ss_of (ps_fld ew ew hs) fun σ H Ha s => he σ H Ha s _ fun l2 H1 Ha1 hl2 s1 k1 => ha l2 σ H1 Ha1 k1 _ fun ov H2 Ha2 s2 k2 r2 => by
    obtain rfl : ov = V.ref l := r2
    obtain ⟨o, ho, hcc⟩ := k2.read (hk l2)
    obtain ⟨gs, rfl, al⟩ := Ch.ins_inv hcc
    exact ⟨l, C, dx, gs, rfl, ho, hc, hn, Nat.lt_of_le_of_lt al.1 (by omega), r l2 hl2 σ H2 _ (k2.write (hk l2) (c' := .ins C dx ((f, tRef l2) :: fs)) ⟨rfl, rfl, al.put (T := tRef l2) rfl⟩)⟩
/-- a list that an owned instance holds becomes known -/
theorem ss_freezeF {dx l2 : Addr} {A Bf : List (Str × Ty)} {f : Str} {ts : List Ty} (h : SS X rest (Sat B G [(l, .ins C dx (A ++ (f, tL ts) :: Bf))]) D) (hl : B.Ha l2 = none) : SS X rest (Sat B G [(l, .ins C dx (A ++ (f, tRef l2) :: Bf)), (l2, .lst ts)]) D :=
  ss_pre (fun σ H Ha s => by
    obtain ⟨o, ho, hc, sm, s2⟩ := s.freeze (k := 1) rfl (.inr hl)
    obtain ⟨vs, rfl, al⟩ := Ch.lst_inv hc
    refine ⟨_, s2.st, s2.sn, s2.sl, s2.ow.1, fun q hq => ?_⟩
    have e : q = (l, Ch.ins C dx (A ++ (f, tL ts) :: Bf)) := by simpa using hq
    subst e
    obtain ⟨h1, h2, ob, h3, h4⟩ := s2.ow.2 (l, Ch.ins C dx (A ++ (f, tRef l2) :: Bf)) (by show _ ∈ [_]; simp)
    obtain ⟨gs, rfl, k⟩ := Ch.ins_inv h4
    exact ⟨h1, h2, _, h3, rfl, rfl, k.chg fun v _ hv => ⟨l2, vs, hv, upd_same, al.mono sm⟩⟩) h
/-- a call that reads owned objects: they are known for its time; its value is one that was known -/
theorem e_callBorrow {ι : Type} {S : Spec ι} (D : DefOk X.prog X.w X.K X.mg X.base k x [] S.sp) (hr : Room m X.A) (ha : EA X B G O (e :: es) Rs O1)
    (h : ∀ σ H Ha vs, Sat B G O1 σ H Ha → AllT H Rs vs → ∃ z Hc v0, S.pre z ∧ Same H Hc ∧ Same Hc Ha ∧ AllT Hc (S.args z) vs ∧ (∀ v H', (S.ret z).p v H' → v = v0) ∧ R.p v0 H) (hk : k ≤ m := by decide) (hg : Gl X x := by rfl)
    (hdb : (x == ("__debug__" : Str)) = false := by decide) (he : starEach (e :: es) X.env = (false, eval e X.env) :: starEach es X.env := by rfl) (hpl : (backTo pos (starEach es X.env)).any (·.1) = false := by rfl) :
    E X B G O (.Call (.Name x p) (e :: es) [] pos) R O1 :=
  Et.of (pe_def D hr hk aw hg hdb he hpl) fun σ H Ha s Q q => ha σ H Ha s _ fun vs H1 Ha1 s1 k1 r1 => by
    obtain ⟨z, Hc, v0, hp, sa, sb, al, hv, hR⟩ := h σ H1 Ha1 vs k1 r1
    refine ⟨z, Hc, hp, sb, by rw [List.append_nil]; exact al, fun v H2 Ha2 x2 r2 => ?_⟩
    obtain rfl := hv v H2 r2
    exact q v H1 Ha2 s1 (k1.step ⟨.refl _, sa.trans (x2.k.trans x2.a), x2.keep, fun b h e => (h e).elim, x2.dom⟩) hR
end
/-! ### RunRecord -/
abbrev fRR0 (p m : Nat) (fam : List (List Nat)) (t : List (List Int)) (T : Ty) : List (Str × Ty) := [("opened", tL []), ("stages", T), ("table", tM t), ("family", tF fam), ("mixers", tN m), ("prime", tN p)]
def sp_RunRecord (C : Addr) : Sp := fun vs Ha Q _ => ∃ (p m : Nat) (fam : List (List Nat)) (t : List (List Int)) (l dx : Addr) (H : Hp), fam.length ≤ 1000 ∧ Same H Ha ∧ H l = none ∧ AllT H [tRef l, tN p, tN m, tF fam, tM t] vs ∧ (∃ o, Ha l = some o ∧ (Ch.ins C dx []).ok H o) ∧
  ∀ H' Ha' l2, Stp (fun b => b = l) H Ha H' Ha' → H' l = none → H' l2 = none → Ha l2 = none → (∃ o, Ha' l = some o ∧ (Ch.ins C dx (fRR0 p m fam t (tRef l2))).ok H' o) → (∃ o, Ha' l2 = some o ∧ (Ch.lst []).ok H' o) → Q .non Ha'
section
variable {P : Program} {w : World} {K : PySem.W.Frag} {mg : Str → Option Value} {base : Heap}
theorem ok_RunRecord (T : Tx K mg) : ClsOk P w K mg base 1 "RunRecord" (He.ga K "RunRecord") (sp_RunRecord (He.ga K "RunRecord")) :=
  T.k_RunRecord_init fun fd F => F.ok sc_RunRecord_init (fun vs H Q E ⟨p, m, fam, t, l, dx, H0, _, _, _, al, _⟩ => by rw [← al.1]; rfl) fun cdv A outer s Ha vs Q E hr ⟨p, m, fam, t, l, dx, H, hf, sm, hn, al, ho, hQ⟩ =>
    ⟨_, PSs.nox sw, by
      have key : ∀ (pr : Par) (B : Bs), (∀ σ G l2 H' Ha', B.Ha l2 = none → Sat B G [(l, .ins (He.ga K "RunRecord") dx (fRR0 p m fam t (tRef l2))), (l2, .lst [])] σ H' Ha' → Q .non Ha') → Room 0 (XD P w K mg base N_RunRecord_init "RunRecord.__init__" (defScope s_RunRecord_init) pr).A →
          SS (XD P w K mg base N_RunRecord_init "RunRecord.__init__" (defScope s_RunRecord_init) pr) (defBody s_RunRecord_init) (Sat B [some (tRef l), some (tN p), some (tN m), some (tF fam), some (tM t), none] [(l, .ins (He.ga K "RunRecord") dx [])]) (DR Q) := by
        intro pr B hR hr
        refine ss_fld (l := l) 0 (e_var 1) (e_var 0) ?_ T.c_RunRecord T.n_RunRecord_prime
        refine ss_fld (l := l) 0 (e_var 2) (e_var 0) ?_ T.c_RunRecord T.n_RunRecord_mixers
        refine ss_fld (l := l) 0 (Lc.e (lcM (j := 5) (xs := fam) (f := tNs) (g := tNs) (bk sc_RunRecord_init.nd) (e_var 3) (by omega) (fun H1 i b hb q s0 H0 C cl fp => e_list (e_var 5) ls T.f_list))) (e_var 0) ?_ T.c_RunRecord T.n_RunRecord_family
        refine ss_fld (l := l) 0 (e_var 4) (e_var 0) ?_ T.c_RunRecord T.n_RunRecord_table
        refine ss_fldO (l := l) (O' := fun l2 => [(l, _), (l2, .lst [])]) 0 (eo_lst ea_nil (by decide)) (fun l2 => e_var 0) (fun l2 hl2 => ?_) T.c_RunRecord T.n_RunRecord_stages
        refine ss_fld (l := l) (R := tL []) 0 (e_lst ea_nil (by decide)) (e_var 0) ?_ T.c_RunRecord T.n_RunRecord_opened
        exact ss_nil fun σ H Ha s => hR σ _ l2 H Ha hl2 s
      exact key ⟨cdv, A, outer, s, Ha, E, _⟩ ⟨fun b => b = l, H, Ha, H⟩ (fun σ G l2 H' Ha' hb s' => hQ H' Ha' l2 s'.st (s'.ow.2 _ List.mem_cons_self).1 (s'.ow.2 _ (List.mem_cons_of_mem _ List.mem_cons_self)).1 hb (s'.read (k := 0) rfl) (s'.read (k := 1) rfl)) hr (L2.start N_RunRecord_init vs) H Ha
        ⟨Stp.refl sm, .refl _, startSlots al N_RunRecord_init, by simp, fun q hq => by
          have e : q = (l, Ch.ins (He.ga K "RunRecord") dx []) := by simpa using hq
          subst e
          exact ⟨hn, .inr rfl, ho⟩⟩⟩
theorem eo_RunRecord {X : Cx} {B : Bs} {G : Gm} {O O1 : Om} {e : Expr} {es : List Expr} {n : Nat} {pos p : Pos} {q m : Nat} {fam : List (List Nat)} {t : List (List Int)} (D : ClsOk X.prog X.w X.K X.mg X.base 1 "RunRecord" (He.ga X.K "RunRecord") (sp_RunRecord (He.ga X.K "RunRecord"))) (hr : Room n X.A) (ha : EA X B G O (e :: es) [tN q, tN m, tF fam, tM t] O1) (hf : fam.length ≤ 1000) (hk : 2 ≤ n := by decide) (hg : Gl X "RunRecord" := by rfl)
    (he : starEach (e :: es) X.env = (false, eval e X.env) :: starEach es X.env := by rfl) (hpl : (backTo pos (starEach es X.env)).any (·.1) = false := by rfl) :
    Eo B (EW X (.Call (.Name "RunRecord" p) (e :: es) [] pos)) (Sat B G O) (fun l σ H Ha => ∃ y : Addr × Addr, B.Ha y.2 = none ∧ Sat B G (O1 ++ [(l, .ins (He.ga X.K "RunRecord") y.1 (fRR0 q m fam t (tRef y.2)))] ++ [(y.2, .lst [])]) σ H Ha) := by
  obtain ⟨f, fd, ps, F, hm, M, hb⟩ := D.ex
  refine Eo.of (pe_make M F (hr.mono hk) hg hm hb .nil pass0 aw (by decide) he hpl) fun σ H Ha s Q qq => ha σ H Ha s _ fun vs H1 Ha1 s1 k1 r1 => fun y dx hy hdx ne => ?_
  have hy' : (upd Ha1 dx (.own y)) y = none := by rw [upd_ne ne.symm]; exact hy
  have x1 : Stp F0 H1 Ha1 H1 (upd Ha1 dx (.own y)) := Stp.grow k1.ha hdx
  have k2 := k1.step x1
  have k3 := k2.own (c := .ins (He.ga X.K "RunRecord") dx []) (o := .ins (He.ga X.K "RunRecord") dx []) hy' ⟨rfl, rfl, FldT.nil⟩
  have h2 : (O1 ++ [(y, Ch.ins (He.ga X.K "RunRecord") dx [])])[O1.length]? = some (y, Ch.ins (He.ga X.K "RunRecord") dx []) := by simp
  refine ⟨q, m, fam, t, y, dx, H1, hf, k3.ha, (k3.ow.2 _ (List.mem_of_getElem? h2)).1, by rw [List.append_nil]; exact .cons rfl r1, k3.read h2, fun H2 Ha2 l2 x2 hn hn2 hl2 o2 o3 => ⟨rfl, qq y H2 Ha2 (k1.baseFree hy) (s1.trans x2.k) ⟨(dx, l2), k3.baseFree hl2, ?_⟩⟩⟩
  have k4 := k3.call2 h2 x2 hn o2
  have es' : (O1 ++ [(y, Ch.ins (He.ga X.K "RunRecord") dx [])]).set O1.length (y, Ch.ins (He.ga X.K "RunRecord") dx (fRR0 q m fam t (tRef l2))) = O1 ++ [(y, Ch.ins (He.ga X.K "RunRecord") dx (fRR0 q m fam t (tRef l2)))] := by
    rw [List.set_append_right _ _ (Nat.le_refl _)]
    simp
  rw [es'] at k4
  refine k4.add hn2 (k3.baseFree hl2) ?_ o3
  have := k3.notO hl2
  rw [List.map_append] at this ⊢
  exact this
/-! ### last_table -/
def S_last (K : PySem.W.Frag) : Spec (List (Str × Ty) × V) := ⟨fun z => (z.1.lookup ("stages" : Str) = some (tL []) ∧ z.1.lookup ("table" : Str) = some (tV z.2)) ∨ ∃ (ts : List Ty) (fs : List (Str × Ty)), z.1.lookup ("stages" : Str) = some (tL (ts ++ [tIn (He.ga K "StageRecord") fs])) ∧ fs.lookup ("table" : Str) = some (tV z.2),
  fun z => [tIn (He.ga K "RunRecord") z.1], fun z => tV z.2⟩
theorem ok_last (T : Tx K mg) : DefOk P w K mg base 1 "last_table" [] (S_last K).sp :=
  T.k_last_table fun fd F => (S_last K).ok F sc_last_table (fun _ _ => rfl) fun p B rt ⟨fs, v⟩ hr hp hR => by
    rcases hp with ⟨h1, h2⟩ | ⟨ts, gs, h1, h2⟩
    · refine ss_if (t_not (t_lst (e_fld (e_var 0) ins T.c_RunRecord T.n_RunRecord_stages h1) ls)) (fun _ => ss_retp (e_fld (e_var 0) ins T.c_RunRecord T.n_RunRecord_table h2) hR) (fun h => nomatch h)
    · refine ss_ifF (Tt.is (t_not (t_lst (e_fld (e_var 0) ins T.c_RunRecord T.n_RunRecord_stages h1) ls)) ?_) ?_
      · cases ts <;> rfl
      · refine ss_retp (e_fld (e_ixI (e_fld (e_var 0) ins T.c_RunRecord T.n_RunRecord_stages h1) ls (e_neg e_int) ?_) ins T.c_StageRecord T.n_StageRecord_table h2) hR
        have e : atI (ts ++ [tIn (He.ga K "StageRecord") gs]) (-1) = (ts ++ [tIn (He.ga K "StageRecord") gs])[ts.length]? := by
          unfold atI ixN
          rw [if_neg (by omega), if_pos (by rw [List.length_append]; show -(((ts.length + 1 : Nat)) : Int) ≤ -1; omega)]
          rw [List.length_append]
          show (ts ++ [tIn (He.ga K "StageRecord") gs])[(((ts.length + 1 : Nat) : Int) + -1).toNat]? = _
          congr 1
          omega
        rw [e, List.getElem?_append_right (Nat.le_refl _), Nat.sub_self]
        rfl
theorem e_last {X : Cx} {B : Bs} {G : Gm} {O : Om} {e : Expr} {n : Nat} {pos p : Pos} {q m : Nat} {fam : List (List Nat)} {t0 t : List (List Int)} {l l2 dx : Addr} {ts : List Ty} (D : DefOk X.prog X.w X.K X.mg X.base 1 "last_table" [] (S_last X.K).sp) (hr : Room n X.A) (he : E X B G O e (tRef l) O)
    (hO0 : O[0]? = some (l, .ins (He.ga X.K "RunRecord") dx (fRR0 q m fam t0 (tRef l2)))) (hO1 : O[1]? = some (l2, .lst ts)) (h : (ts = [] ∧ t = t0) ∨ ∃ us x, ts = us ++ [tSR X.K x] ∧ t = x.t) (hk : 1 ≤ n := by decide) (hg : Gl X "last_table" := by rfl)
    (hst : starEach [e] X.env = (false, eval e X.env) :: starEach [] X.env := by rfl) (hpl : (backTo pos (starEach [] X.env)).any (·.1) = false := by rfl) : E X B G O (.Call (.Name "last_table" p) [e] [] pos) (tM t) O := by
  refine e_callBorrow D hr (ea_cons he ea_nil hst) (fun σ H Ha vs s al => ?_) hk hg (by decide) hst hpl
  obtain ⟨v, vs', rfl, e1, al2⟩ := al.uncons
  obtain rfl := al2.unnil
  obtain rfl : v = V.ref l := e1
  have m0 := List.mem_of_getElem? hO0
  have m1 := List.mem_of_getElem? hO1
  have hl := (s.ow.2 _ m0).1
  have hl2 := (s.ow.2 _ m1).1
  obtain ⟨o, ho, hc⟩ := s.read hO0
  obtain ⟨gs, rfl, fl⟩ := Ch.ins_inv hc
  obtain ⟨o, ho2, hc2⟩ := s.read hO1
  obtain ⟨ws, rfl, bl⟩ := Ch.lst_inv hc2
  have hne : l2 ≠ l := fun z => by
    rw [z, ho] at ho2
    cases ho2
  let Hc : Hp := upd (upd H l2 (.lst ws)) l (.ins (He.ga X.K "RunRecord") dx gs)
  have s1 : Same H Hc := fun b u eb => by
    show upd _ l _ b = _
    rw [upd_ne (ne_of_none eb hl), upd_ne (ne_of_none eb hl2)]
    exact eb
  have s2 : Same Hc Ha := fun b u eb => by
    have eb : upd (upd H l2 (.lst ws)) l (.ins (He.ga X.K "RunRecord") dx gs) b = some u := eb
    by_cases q1 : b = l
    · rw [q1, upd_same] at eb
      rw [q1, ho]
      exact eb
    · rw [upd_ne q1] at eb
      by_cases q2 : b = l2
      · rw [q2, upd_same] at eb
        rw [q2, ho2]
        exact eb
      · rw [upd_ne q2] at eb
        exact s.ha b u eb
  have hl' : Hc l = some (.ins (He.ga X.K "RunRecord") dx gs) := upd_same
  have hl2' : Hc l2 = some (.lst ws) := by
    show upd _ l _ l2 = _
    rw [upd_ne hne, upd_same]
  rcases h with ⟨rfl, rfl⟩ | ⟨us, y, rfl, rfl⟩
  · obtain ⟨v0, hv0, r0⟩ := fl.2.1 "table" (tM t) rfl
    have f1 : FldT Hc ([(("opened" : Str), tL [])] ++ (("stages" : Str), tL []) :: [(("table" : Str), tM t), (("family" : Str), tF fam), (("mixers" : Str), tN m), (("prime" : Str), tN q)]) gs := FldT.chg (U := tRef l2) (A := [(("opened" : Str), tL [])]) (fl.mono s1) fun v _ hv => ⟨l2, ws, hv, hl2', bl.mono s1⟩
    have f2 : FldT Hc ([(("opened" : Str), tL []), (("stages" : Str), tL [])] ++ (("table" : Str), tV v0) :: [(("family" : Str), tF fam), (("mixers" : Str), tN m), (("prime" : Str), tN q)]) gs := FldT.chg (U := tM t) (A := [(("opened" : Str), tL []), (("stages" : Str), tL [])]) f1 fun v hv _ => by
      rw [hv0] at hv
      exact (Option.some.inj hv).symm
    exact ⟨([(("opened" : Str), tL []), (("stages" : Str), tL [])] ++ (("table" : Str), tV v0) :: [(("family" : Str), tF fam), (("mixers" : Str), tN m), (("prime" : Str), tN q)], v0), Hc, v0, .inl ⟨rfl, rfl⟩, s1, s2, .one ⟨l, dx, gs, rfl, hl', f2⟩, fun v H' h => h, r0⟩
  · have hlast : (us ++ [tSR X.K y])[us.length]? = some (tSR X.K y) := by rw [List.getElem?_append_right (Nat.le_refl _), Nat.sub_self]; rfl
    obtain ⟨u, hu, a2, dx2, gs2, rfl, ha2, fl2⟩ := bl.get hlast
    obtain ⟨v0, hv0, r0⟩ := fl2.2.1 "table" (tM y.t) rfl
    have g1 : FldT H ([] ++ (("table" : Str), tV v0) :: ((("spread" : Str), tM3 y.sp) :: fSR0 y)) gs2 := FldT.chg (U := tM y.t) (A := []) fl2 fun v hv _ => by
      rw [hv0] at hv
      exact (Option.some.inj hv).symm
    have al3 : AllT H (us ++ [tIn (He.ga X.K "StageRecord") ([] ++ (("table" : Str), tV v0) :: ((("spread" : Str), tM3 y.sp) :: fSR0 y))]) ws := by
      refine ⟨by have := bl.1; rw [List.length_append] at this ⊢; exact this, fun i T v hT hv => ?_⟩
      by_cases hi : i < us.length
      · rw [List.getElem?_append_left hi] at hT
        exact bl.2 i T v (by rw [List.getElem?_append_left hi]; exact hT) hv
      · have hlt := (List.getElem?_eq_some_iff.mp hT).1
        rw [List.length_append, List.length_singleton] at hlt
        have ei : i = us.length := by omega
        subst ei
        rw [List.getElem?_append_right (Nat.le_refl _), Nat.sub_self] at hT
        cases hT
        rw [hu] at hv
        cases hv
        exact ⟨a2, dx2, gs2, rfl, ha2, g1⟩
    have f1 : FldT Hc ([(("opened" : Str), tL [])] ++ (("stages" : Str), tL (us ++ [tIn (He.ga X.K "StageRecord") ([] ++ (("table" : Str), tV v0) :: ((("spread" : Str), tM3 y.sp) :: fSR0 y))])) :: [(("table" : Str), tM t0), (("family" : Str), tF fam), (("mixers" : Str), tN m), (("prime" : Str), tN q)]) gs := FldT.chg (U := tRef l2) (A := [(("opened" : Str), tL [])]) (fl.mono s1) fun v _ hv => ⟨l2, ws, hv, hl2', al3.mono s1⟩
    exact ⟨([(("opened" : Str), tL [])] ++ (("stages" : Str), tL (us ++ [tIn (He.ga X.K "StageRecord") ([] ++ (("table" : Str), tV v0) :: ((("spread" : Str), tM3 y.sp) :: fSR0 y))])) :: [(("table" : Str), tM t0), (("family" : Str), tF fam), (("mixers" : Str), tN m), (("prime" : Str), tN q)], v0), Hc, v0, .inr ⟨us, _, rfl, rfl⟩, s1, s2, .one ⟨l, dx, gs, rfl, hl', f1⟩, fun v H' h => h, r0⟩
/-! ### check_votes -/
def S_check_votes : Spec (Nat × List Int) := ⟨fun z => ∀ v ∈ z.2, 0 ≤ v ∧ v < (z.1 : Int), fun z => [tN z.1, tIs z.2], fun _ => tNone⟩
theorem ok_check_votes (T : Tx K mg) : DefOk P w K mg base 1 "check_votes" [] S_check_votes.sp :=
  T.k_check_votes fun fd F => S_check_votes.ok F sc_check_votes (fun _ _ => rfl) fun p B rt ⟨q, vs⟩ hr hp hR => by
    have hp : ∀ v ∈ vs, 0 ≤ v ∧ v < (q : Int) := hp
    refine ss_forL (ζ := Unit) (fun i _ => True) (fun _ _ => [some (tN q), some (tIs vs), none]) (fun _ _ => []) 2 rfl sc_check_votes.nd PassesOwn.never (e_var 1) () trivial (fun H1 i Ti z kb hT hJ => ?_) (fun _ _ => ss_nil fun σ H Ha s => hR .non H Ha s.st rfl)
    obtain ⟨x, hx, rfl⟩ := getM hT
    have hx := hp x (List.mem_of_getElem? hx)
    refine ss_ifF (Tt.is (t_not (t_chain op_le op_lt e_int (e_var 2) (e_var 0))) ?_) (ss_next () trivial)
    rw [decide_eq_true hx.1, decide_eq_true hx.2]
    rfl
end
end Vc
set_option maxHeartbeats 4000000
/-! VcD10: run -/
namespace Vc
open PySem PySem.Spec L2
def dSC : SC := ⟨[], [], []⟩
def hsA (fam : List (List Nat)) (m i : Nat) : List Nat := holders (fam.getD i []) m
/-- the table that enters the stage i -/
def tab (p m : Nat) (fam : List (List Nat)) (vs : List Int) (c : RC) : Nat → List (List Int)
  | 0 => List.zipWith (spl p) vs c.v
  | i + 1 => (stg p m (tab p m fam vs c i) (hsA fam m i) (c.st.getD i dSC)).t
def recA (p m : Nat) (fam : List (List Nat)) (vs : List Int) (c : RC) (i : Nat) : SR := stg p m (tab p m fam vs c i) (hsA fam m i) (c.st.getD i dSC)
structure VotOk (p r : Nat) (vs : List Int) : Prop where
  l : vs.length = r
  v : ∀ v ∈ vs, 0 ≤ v ∧ v < (p : Int)
section
variable {p m r : Nat} {fam : List (List Nat)} {vs : List Int} {c : RC}
theorem getD_some {α : Type} {xs : List α} {i : Nat} {a d : α} (h : xs[i]? = some a) : xs.getD i d = a := by
  rw [List.getD_eq_getElem?_getD, h]
  rfl
theorem ix_some {α : Type} {xs : List α} {i : Nat} (h : i < xs.length) : ∃ a, xs[i]? = some a := ⟨_, List.getElem?_eq_getElem h⟩
theorem RcOk.at (hc : RcOk p m r fam c) {i : Nat} (hi : i < fam.length) : ∃ lot sc, fam[i]? = some lot ∧ c.st[i]? = some sc ∧ ScOk p m r lot sc ∧ hsA fam m i = holders lot m ∧ c.st.getD i dSC = sc := by
  obtain ⟨lot, h1⟩ := ix_some hi
  obtain ⟨sc, h2⟩ := ix_some (xs := c.st) (i := i) (by rw [hc.l]; exact hi)
  exact ⟨lot, sc, h1, h2, hc.s i lot sc h1 h2, by unfold hsA; rw [getD_some h1], getD_some h2⟩
theorem tab_ok (hs : Shp p m r fam) (hc : RcOk p m r fam c) (hv : vs.length = r) : ∀ i, i ≤ fam.length → IsB p r m (tab p m fam vs c i)
  | 0, _ => by
    have h := isB_spl (f := fun v : Int => v) (primes_pos hs.p) hv hc.v
    rw [Nat.sub_add_cancel hs.m1] at h
    exact h
  | i + 1, hi => by
    obtain ⟨lot, sc, h1, h2, h3, h4, h5⟩ := hc.at (show i < fam.length from hi)
    have ih := tab_ok hs hc hv i (Nat.le_of_succ_le hi)
    show IsB p r m (stg p m (tab p m fam vs c i) (hsA fam m i) (c.st.getD i dSC)).t
    rw [h4, h5]
    exact (StOk.of hs (List.mem_of_getElem? h1) ih h3).nt
theorem st_ok (hs : Shp p m r fam) (hc : RcOk p m r fam c) (hv : vs.length = r) {i : Nat} (hi : i < fam.length) : StOk p m r (hsA fam m i) (tab p m fam vs c i) (c.st.getD i dSC) := by
  obtain ⟨lot, sc, h1, h2, h3, h4, h5⟩ := hc.at hi
  rw [h4, h5]
  exact StOk.of hs (List.mem_of_getElem? h1) (tab_ok hs hc hv i (Nat.le_of_lt hi)) h3
end
abbrev fRR (K : PySem.W.Frag) (p m : Nat) (fam : List (List Nat)) (vs : List Int) (c : RC) : List (Str × Ty) :=
  [(("opened" : Str), tIs ((tab p m fam vs c fam.length).map (tot p))), (("opened" : Str), tL [])] ++ (("stages" : Str), tL ((List.range fam.length).map fun i => tSR K (recA p m fam vs c i))) :: [(("table" : Str), tM (tab p m fam vs c 0)), (("family" : Str), tF fam), (("mixers" : Str), tN m), (("prime" : Str), tN p)]
abbrev tRR (K : PySem.W.Frag) (p m : Nat) (fam : List (List Nat)) (vs : List Int) (c : RC) : Ty := tIn (He.ga K "RunRecord") (fRR K p m fam vs c)
section
variable {P : Program} {w : World} {K : PySem.W.Frag} {mg : Str → Option Value} {base : Heap}
def S_run (K : PySem.W.Frag) : Spec (Nat × Nat × Nat × List (List Nat) × List Int × RC) := ⟨fun z => Shp z.1 z.2.1 z.2.2.1 z.2.2.2.1 ∧ IsFam z.2.2.2.1 z.2.1 ∧ RcOk z.1 z.2.1 z.2.2.1 z.2.2.2.1 z.2.2.2.2.2 ∧ VotOk z.1 z.2.2.1 z.2.2.2.2.1,
  fun z => [tN z.1, tN z.2.1, tF z.2.2.2.1, tIs z.2.2.2.2.1, tRC K z.2.2.2.2.2], fun z => tRR K z.1 z.2.1 z.2.2.2.1 z.2.2.2.2.1 z.2.2.2.2.2⟩
theorem ok_run (T : Tx K mg) : DefOk P w K mg base 6 "run" [] (S_run K).sp :=
  T.k_run fun fd F => (S_run K).ok F sc_run (fun _ _ => rfl) fun p B rt ⟨q, m, r, fam, vs, c⟩ hr hp hR => by
    have hp : Shp q m r fam ∧ IsFam fam m ∧ RcOk q m r fam c ∧ VotOk q r vs := hp
    obtain ⟨hs, hf, hc, hv⟩ := hp
    have hm5 := hs.m5
    have hr5 := hs.r5
    have hfl := hs.f
    have hq := primes_pos hs.p
    refine ss_expr (e_call (S := S_checked_prime) q (ok_checked_prime T) hr (ea_cons (e_var 0) ea_nil) hs.p) ?_
    refine ss_asg 5 sc_run.nd (e_call (S := S_checked_family) (fam, m) (ok_checked_family T) hr (ea_cons (e_var 2) (ea_cons (e_var 1) ea_nil)) hf) ?_
    refine ss_expr (e_call (S := S_check_votes) (q, vs) (ok_check_votes T) hr (ea_cons (e_var 0) (ea_cons (e_var 3) ea_nil)) hv.v) ?_
    refine ss_asg 6 sc_run.nd (Et.is (e_call (S := S_size) (m, fam, r) (ok_size T) hr (ea_cons (e_var 1) (ea_cons (e_var 5) (ea_cons (Et.is (e_len (e_var 3) ls T.f_len) (congrArg tN (show (vs.map tI).length = r by rw [List.length_map, hv.l]))) ea_nil))) ⟨hm5, hr5, hfl⟩) (show tI (rsize m fam r) = tN (sizeN m fam r) by rw [rsize_eq hs.m1 hs.h])) ?_
    refine ss_asg (R := tN (sizeN m fam r)) (O1 := []) 7 sc_run.nd ?_ ?_
    · refine Et.of (pe_callB call_len_seq (show Gl _ "len" from rfl) T.f_len PySem.boot_len (pa_cons ew pa_nil rfl) (by decide) (by decide) rfl rfl) fun σ H Ha s Q qq => (e_call (S := S_flat K) (q, m, r, fam, c) (ok_flat T) hr (ea_cons (e_var 4) ea_nil) ⟨hs, hc⟩) σ H Ha s _ fun v H1 Ha1 s1 k1 ⟨ts, hts, a, us, e, hv, al⟩ => ?_
      subst e
      refine ⟨a, us, rfl, .inl (SqL.of (k1.ha _ _ hv)), qq _ H1 Ha1 s1 k1 ?_⟩
      have hts : ts.length = sizeN m fam r := hts
      show V.int _ = V.int _
      rw [← al.1, hts]
    refine ss_ifF (Tt.is (t_ne (e_var 7) (e_var 6)) (by simp)) ?_
    have hvl : vs.length = c.v.length := by rw [hv.l, hc.v.1]
    have t0 := tab_ok hs hc hv.l
    refine ss_asgOX (P := fun y : Addr × Addr => B.Ha y.2 = none) (O' := fun l y => [(l, .ins (He.ga K "RunRecord") y.1 (fRR0 q m fam (tab q m fam vs c 0) (tRef y.2))), (y.2, .lst [])]) 8 sc_run.nd (eo_RunRecord (ok_RunRecord T) hr (ea_cons (e_var 0) (ea_cons (e_var 1) (ea_cons (e_var 5) (ea_cons (e_call (S := S_fresh_table) (q, vs, c.v) (ok_fresh_table T) hr (ea_cons (e_var 0) (ea_cons (e_var 3) (ea_cons (e_fld (e_var 4) ins T.c_RunCoins T.n_RunCoins_votes (by kernel_rfl)) ea_nil)))
      ⟨hq, hvl, by show vs.length ≤ 1000; rw [hv.l]; omega, fun l hl => by rw [(hc.v.2 l hl).1]; omega⟩) ea_nil)))) (by omega)) fun l y hl hl2 => ?_
    obtain ⟨dx, l2⟩ := y
    have hl2 : B.Ha l2 = none := hl2
    have hst : (fam.map tNs).length = (c.st.map (tSC K)).length := by rw [List.length_map, List.length_map, hc.l]
    have hcase : ∀ i, ((List.range i).map (fun k => tSR K (recA q m fam vs c k)) = [] ∧ tab q m fam vs c i = tab q m fam vs c 0) ∨ ∃ us x, (List.range i).map (fun k => tSR K (recA q m fam vs c k)) = us ++ [tSR K x] ∧ tab q m fam vs c i = x.t := fun i => by
      cases i with
      | zero => exact .inl ⟨rfl, rfl⟩
      | succ i => exact .inr ⟨(List.range i).map (fun k => tSR K (recA q m fam vs c k)), recA q m fam vs c i, by rw [List.range_succ, List.map_append]; rfl, rfl⟩
    refine ss_forZ (ζ := Unit) (ts := fam.map tNs) (us := c.st.map (tSC K)) (fun _ _ => True) (fun _ _ => [some (tN q), some (tN m), some (tF fam), some (tIs vs), some (tRC K c), some (tF fam), none, none, some (tRef l), none, none]) (fun i _ => [(l, .ins (He.ga K "RunRecord") dx (fRR0 q m fam (tab q m fam vs c 0) (tRef l2))), (l2, .lst ((List.range i).map fun k => tSR K (recA q m fam vs c k)))]) 9 10 rfl sc_run.nd PassesOwn.never T.f_zip (e_var 5) (e_fld (e_var 4) ins T.c_RunCoins T.n_RunCoins_stages (by kernel_rfl)) hst () trivial (fun H1 i Ti Tj z kb hT hT2 _ => ?_) (fun _ _ => ?_)
    · obtain ⟨lot, hlot, rfl⟩ := getM hT
      obtain ⟨sc, hsc, rfl⟩ := getM hT2
      have hlot : fam[i]? = some lot := hlot
      have hi := (List.getElem?_eq_some_iff.mp hlot).1
      have hso := st_ok hs hc hv.l hi
      rw [show hsA fam m i = holders lot m by unfold hsA; rw [getD_some hlot], getD_some hsc] at hso
      refine ss_append (l := l2) (ts := (List.range i).map fun k => tSR K (recA q m fam vs c k)) (ts0 := (List.range i).map fun k => tSR K (recA q m fam vs c k)) (R := tSR K (stg q m (tab q m fam vs c i) (holders lot m) sc)) 1 (e_fld (e_var 8) (inso 0) T.c_RunRecord T.n_RunRecord_stages (by kernel_rfl))
        (e_call (S := S_run_stage K) (q, m, r, tab q m fam vs c i, holders lot m, sc) (ok_run_stage T) hr (ea_cons (e_var 0) (ea_cons (e_var 1) (ea_cons (e_last (ok_last T) hr (e_var 8) rfl rfl (hcase i)) (ea_cons (e_call (S := S_holders) (lot, m) (ok_holders T) hr (ea_cons (e_var 9) (ea_cons (e_var 1) ea_nil)) hm5) (ea_cons (e_var 10) ea_nil))))) hso) (ss_next () trivial (ho := ?_)) (by rw [List.length_map, List.length_range]; omega)
      show [_, (l2, Ch.lst ((List.range (i + 1)).map fun k => tSR K (recA q m fam vs c k)))] = [_, (l2, Ch.lst ((List.range i).map (fun k => tSR K (recA q m fam vs c k)) ++ [tSR K (stg q m (tab q m fam vs c i) (holders lot m) sc)]))]
      rw [List.range_succ, List.map_append]
      have e : recA q m fam vs c i = stg q m (tab q m fam vs c i) (holders lot m) sc := by
        unfold recA
        rw [show hsA fam m i = holders lot m by unfold hsA; rw [getD_some hlot], getD_some hsc]
      rw [← e]
      rfl
    · rw [show (fam.map tNs).length = fam.length from List.length_map _]
      have tl := t0 fam.length (Nat.le_refl _)
      refine ss_fld (l := l) (R := tIs ((tab q m fam vs c fam.length).map (tot q))) 0 (e_call (S := S_values_of) (q, tab q m fam vs c fam.length) (ok_values_of T) hr (ea_cons (e_var 0) (ea_cons (e_last (ok_last T) hr (e_var 8) rfl rfl (hcase fam.length)) ea_nil)) ⟨hq, by show (tab q m fam vs c fam.length).length ≤ 1000; rw [tl.1]; omega⟩) (e_var 8) ?_ T.c_RunRecord T.n_RunRecord_opened
      refine ss_freezeF (A := [(("opened" : Str), tIs ((tab q m fam vs c fam.length).map (tot q))), (("opened" : Str), tL [])]) (f := ("stages" : Str)) (l := l) (l2 := l2) (ts := (List.range fam.length).map fun i => tSR K (recA q m fam vs c i)) ?_ hl2
      exact ss_freezeI (l := l) (dx := dx) (C := He.ga K "RunRecord") (fs := fRR K q m fam vs c) 8 0 (ss_retp (e_var 8) hR) hl
end
end Vc
set_option maxHeartbeats 4000000
/-! VcE1: swaps, the parts -/
namespace Vc
open PySem PySem.Spec L2
def ndg (p : Nat) (cs : List Int) (k : Nat) (d : Int) : List Int := if k < cs.length then cs.set k ((cs.getD k 0 + d) % (p : Int)) else cs
def ndr (p : Nat) (rows : List (List Int)) (k : Nat) (ds : List Int) : List (List Int) := List.zipWith (fun cs d => ndg p cs k d) rows ds
def carr (lot : List Nat) (m : Nat) : Nat := (holders lot m).getD 0 0
def hid (held lot : List Nat) (ca : Nat) : Nat := if ca ∈ held then ca else (held.filter fun x => !decide (x ∈ lot)).getD 0 0
def ogt (p : Nat) (g : List (List (List Int))) (held : List Nat) (m ca h : Nat) (ds : List Int) : List (List (List Int)) :=
  if ca ∈ held then g else g.set ((holders held m).idxOf ca) (ndr p (g.getD ((holders held m).idxOf ca) []) (held.idxOf h) ds)
def psd (p : Nat) (c : SC) (held : List Nat) (m ca h : Nat) (ds : List Int) : SC :=
  ⟨ogt p c.g held m ca h ds, c.o, c.s.set (held.idxOf h) (ndr p (c.s.getD (held.idxOf h) []) ca (mv 0 ds c.o))⟩
def trn (order before target : List Nat) : List Nat := order.map fun row => (undo before).getD (target.getD (before.getD row 0) 0) 0
def ownD (own : Option (List Int)) (i : Nat) : Int := match own with
  | none => 0
  | some ds => ds.getD i 0
def shd (p : Nat) (he : List (List Int)) (order other : List Nat) (k : Nat) (own : Option (List Int)) : List Int :=
  (List.range order.length).map fun i => (at2 he (other.getD i 0) k + ownD own (other.getD i 0) - at2 he (order.getD i 0) k) % (p : Int)
def ownOf (held : List Nat) (h k : Nat) (ds : List Int) : Option (List Int) := if held.getD k 0 = h then some ds else none
def tka (p : Nat) (c : SC) (held : List Nat) (he : List (List Int)) (m ca h : Nat) (ds : List Int) (order : List Nat) : SC :=
  ⟨ogt p c.g held m ca h ds, order, (List.range held.length).map fun k => ndr p (c.s.getD k []) ca (shd p he c.o order k (ownOf held h k ds))⟩
/-- what the swaps of a stage ask -/
structure SwOk (p m r : Nat) (hs : List Nat) (c : SC) (ds : List Int) (ca h : Nat) : Prop where
  st : ∃ t, StOk p m r hs t c
  dl : ds.length = r
  hh : h ∈ hs
  cm : ca < m
section
variable {P : Program} {w : World} {K : PySem.W.Frag} {mg : Str → Option Value} {base : Heap}
def S_nudged : Spec (Nat × List Int × Nat × Int) := ⟨fun z => 0 < z.1, fun z => [tN z.1, tIs z.2.1, tN z.2.2.1, tI z.2.2.2], fun z => tIs (ndg z.1 z.2.1 z.2.2.1 z.2.2.2)⟩
theorem ok_nudged (T : Tx K mg) : DefOk P w K mg base 1 "nudged" [] S_nudged.sp :=
  T.k_nudged fun fd F => S_nudged.ok F sc_nudged (fun _ _ => rfl) fun p B rt ⟨q, cs, k, d⟩ hr hp hR => by
    have hp : 0 < q := hp
    refine ss_asgO 4 sc_nudged.nd (eo_list (e_var 1) ls T.f_list) fun l hl => ?_
    refine ss_if (bb := decide (k < cs.length)) (Tt.is (t_lt (e_var 2) (e_len (e_var 4) (lso 0) T.f_len)) ?_) (fun hb => ?_) (fun hb => ?_)
    · refine decide_eq_decide.mpr ?_
      show (k : Int) < ((cs.map tI).length : Int) ↔ _
      rw [List.length_map]
      omega
    · have hk : k < cs.length := of_decide_eq_true hb
      refine ss_setItem (l := l) (n := k) (ts := cs.map tI) (R := tI ((cs.getD k 0 + d) % (q : Int))) 0 (e_mod (e_intOf (e_add (e_ix (e_var 4) (lso 0) (e_var 2) (putM tI (gd 0 hk))) (e_var 3)) T.f_int) (e_var 0) (by omega)) (e_var 4) (e_var 2) (ss_go ?_) (by rw [List.length_map]; exact hk)
      refine ss_freeze (l := l) (ts := (ndg q cs k d).map tI) 4 0 (ss_retp (e_var 4) hR) hl (hk := ?_)
      show some (l, Ch.lst ((cs.map tI).set k (tI ((cs.getD k 0 + d) % (q : Int))))) = _
      unfold ndg
      rw [if_pos hk, List.map_set]
    · have hk : ¬ k < cs.length := of_decide_eq_false hb
      refine ss_go ?_
      refine ss_freeze (l := l) (ts := (ndg q cs k d).map tI) 4 0 (ss_retp (e_var 4) hR) hl (hk := ?_)
      show some (l, Ch.lst (cs.map tI)) = _
      unfold ndg
      rw [if_neg hk]
def S_nudged_rows : Spec (Nat × List (List Int) × Nat × List Int) := ⟨fun z => 0 < z.1 ∧ z.2.1.length = z.2.2.2.length ∧ z.2.1.length ≤ 1000, fun z => [tN z.1, tM z.2.1, tN z.2.2.1, tIs z.2.2.2], fun z => tM (ndr z.1 z.2.1 z.2.2.1 z.2.2.2)⟩
theorem ok_nudged_rows (T : Tx K mg) : DefOk P w K mg base 2 "nudged_rows" [] S_nudged_rows.sp :=
  T.k_nudged_rows fun fd F => S_nudged_rows.ok F sc_nudged_rows (fun _ _ => rfl) fun p B rt ⟨q, rows, k, ds⟩ hr hp hR => by
    have hp : 0 < q ∧ rows.length = ds.length ∧ rows.length ≤ 1000 := hp
    refine ss_retp (Et.is (Lc.e (lcZM (i1 := 4) (j1 := 5) (xs := rows) (ys := ds) (f := tIs) (g := tI) (h := fun cs d => tIs (ndg q cs k d)) (bk sc_nudged_rows.nd) (by decide) hp.2.1 (e_var 1) (e_var 3) (by omega) T.f_zip (fun H1 i u v hu hv x s0 H0 C cl fp =>
      e_call (S := S_nudged) (q, u, k, v) (ok_nudged T) hr (ea_cons (e_var 0) (ea_cons (e_var 4) (ea_cons (e_var 2) (ea_cons (e_var 5) ea_nil)))) hp.1))) ?_) hR
    show tL _ = tL _
    rw [tM_zip]
    rfl
def S_carrier_of : Spec (List Nat × Nat) := ⟨fun z => z.2 ≤ 5 ∧ 0 < (holders z.1 z.2).length, fun z => [tNs z.1, tN z.2], fun z => tN (carr z.1 z.2)⟩
theorem ok_carrier_of (T : Tx K mg) : DefOk P w K mg base 2 "carrier_of" [] S_carrier_of.sp :=
  T.k_carrier_of fun fd F => S_carrier_of.ok F sc_carrier_of (fun _ _ => rfl) fun p B rt ⟨lot, m⟩ hr hp hR => by
    have hp : m ≤ 5 ∧ 0 < (holders lot m).length := hp
    exact ss_retp (e_ixI (e_call (S := S_holders) (lot, m) (ok_holders T) hr (ea_cons (e_var 0) (ea_cons (e_var 1) ea_nil)) hp.1) ls e_int (atI_nat (j := 0) (putM tN (gd 0 hp.2)))) hR
def S_hidden_holder : Spec (List Nat × List Nat × Nat) := ⟨fun z => z.1.length ≤ 1000 ∧ (z.2.2 ∉ z.1 → 0 < (z.1.filter fun x => !decide (x ∈ z.2.1)).length), fun z => [tNs z.1, tNs z.2.1, tN z.2.2], fun z => tN (hid z.1 z.2.1 z.2.2)⟩
theorem ok_hidden_holder (T : Tx K mg) : DefOk P w K mg base 1 "hidden_holder" [] S_hidden_holder.sp :=
  T.k_hidden_holder fun fd F => S_hidden_holder.ok F sc_hidden_holder (fun _ _ => rfl) fun p B rt ⟨held, lot, ca⟩ hr hp hR => by
    have hp : held.length ≤ 1000 ∧ (ca ∉ held → 0 < (held.filter fun x => !decide (x ∈ lot)).length) := hp
    refine ss_if (t_in (e_var 2) (e_var 0) ls) (fun hb => ss_retp (Et.is (e_var 2) ?_) hR) (fun hb => ss_go (ss_retp (Et.is (e_ixI (Lc.e (lcMt (j := 3) (xs := held) (f := tN) (g := tN) (p := fun x => !decide (x ∈ lot)) (bk sc_hidden_holder.nd) (e_var 0) (by omega) (fun H1 i a ha q s0 H0 C cl fp => t_notIn (e_var 3) (e_var 1) ls) (fun H1 i a ha hb q s0 H0 C cl fp => e_var 3))) ls e_int (atI_nat (j := 0) (putM tN (gd 0 (hp.2 (of_decide_eq_false hb)))))) ?_) hR))
    · show tN ca = tN (hid held lot ca)
      unfold hid
      rw [if_pos (of_decide_eq_true hb)]
    · show _ = tN (hid held lot ca)
      unfold hid
      rw [if_neg (of_decide_eq_false hb)]
end
end Vc
set_option maxHeartbeats 4000000
/-! VcE2: the swaps of a stage -/
namespace Vc
open PySem PySem.Spec L2
def forB (l : List Stmt) (i : Nat) : List Stmt := match l.getD i (.Pass ⟨0, 0, 0, 0⟩) with
  | .For _ _ b _ _ => b
  | _ => []
section
variable {p m r : Nat} {hs : List Nat} {c : SC} {ds : List Int} {ca h : Nat}
theorem SwOk.ix (s : SwOk p m r hs c ds ca h) (hn : ca ∉ hs) : ca ∈ holders hs m ∧ (holders hs m).idxOf ca < c.g.length ∧ (c.g.getD ((holders hs m).idxOf ca) []).length = ds.length := by
  obtain ⟨t, st⟩ := s.st
  have h1 : ca ∈ holders hs m := mem_holders.mpr ⟨s.cm, hn⟩
  have h2 : (holders hs m).idxOf ca < c.g.length := by rw [st.gl]; exact List.idxOf_lt_length_of_mem h1
  exact ⟨h1, h2, by rw [(st.g _ (gdM [] h2)).1, s.dl]⟩
theorem SwOk.hx (s : SwOk p m r hs c ds ca h) : hs.idxOf h < c.s.length ∧ (c.s.getD (hs.idxOf h) []).length = r := by
  obtain ⟨t, st⟩ := s.st
  have h2 : hs.idxOf h < c.s.length := by rw [st.sl]; exact List.idxOf_lt_length_of_mem s.hh
  exact ⟨h2, (st.s _ (gdM [] h2)).1⟩
end
section
variable {P : Program} {w : World} {K : PySem.W.Frag} {mg : Str → Option Value} {base : Heap}
def S_other_gather (K : PySem.W.Frag) : Spec (Nat × Nat × Nat × List Nat × SC × List Int × Nat × Nat) := ⟨fun z => SwOk z.1 z.2.1 z.2.2.1 z.2.2.2.1 z.2.2.2.2.1 z.2.2.2.2.2.1 z.2.2.2.2.2.2.1 z.2.2.2.2.2.2.2,
  fun z => [tN z.1, tSC K z.2.2.2.2.1, tNs z.2.2.2.1, tN z.2.1, tN z.2.2.2.2.2.2.1, tN z.2.2.2.2.2.2.2, tIs z.2.2.2.2.2.1], fun z => tM3 (ogt z.1 z.2.2.2.2.1.g z.2.2.2.1 z.2.1 z.2.2.2.2.2.2.1 z.2.2.2.2.2.2.2 z.2.2.2.2.2.1)⟩
theorem ok_other_gather (T : Tx K mg) : DefOk P w K mg base 3 "other_gather" [] (S_other_gather K).sp :=
  T.k_other_gather fun fd F => (S_other_gather K).ok F sc_other_gather (fun _ _ => rfl) fun p B rt ⟨q, m, r, hs, c, ds, ca, h⟩ hr hp hR => by
    have hp : SwOk q m r hs c ds ca h := hp
    obtain ⟨t, st⟩ := hp.st
    have hm5 := st.m5
    have hr5 := st.r5
    have hgl := st.gl
    have hol := holders_len hs m
    refine ss_lc 7 (lcM (j := 9) (xs := c.g) (f := tM) (g := tM) (bk sc_other_gather.nd) (e_fld (e_var 1) ins T.c_StageCoins T.n_StageCoins_gather (by kernel_rfl)) (by omega) (fun H1 i b hb y s0 H0 C cl fp =>
      Lc.e (lcM (j := 10) (xs := b) (f := tIs) (g := tIs) (bk sc_other_gather.nd) (e_var 9) (by have := (st.g b (List.mem_of_getElem? hb)).1; omega) (fun H2 i2 row hrow y2 s1 H3 C1 cl1 fp1 => e_list (e_var 10) ls T.f_list)))) fun l hl => ?_
    refine ss_if (t_notIn (e_var 4) (e_var 2) ls) (fun hb => ?_) (fun hb => ?_)
    · have hn : ca ∉ hs := by simpa using hb
      obtain ⟨h1, h2, h3⟩ := hp.ix hn
      refine ss_asg 8 sc_other_gather.nd (e_index (n := ca) (ns := holders hs m) (e_call (S := S_holders) (hs, m) (ok_holders T) hr (ea_cons (e_var 2) (ea_cons (e_var 3) ea_nil)) hm5) (e_var 4) ls ls h1) ?_
      refine ss_setItem (l := l) (n := (holders hs m).idxOf ca) (ts := c.g.map tM) (R := tM (ndr q (c.g.getD ((holders hs m).idxOf ca) []) (hs.idxOf h) ds)) 0 (e_call (S := S_nudged_rows) (q, c.g.getD ((holders hs m).idxOf ca) [], hs.idxOf h, ds) (ok_nudged_rows T) hr (ea_cons (e_var 0) (ea_cons (e_ix (e_var 7) (lso 0) (e_var 8) (putM tM (gd [] h2))) (ea_cons (e_index (n := h) (ns := hs) (e_var 2) (e_var 5) ls ls hp.hh) (ea_cons (e_var 6) ea_nil)))) ⟨st.p0, h3, by have := hp.dl; show (c.g.getD ((holders hs m).idxOf ca) []).length ≤ 1000; omega⟩) (e_var 7) (e_var 8) (ss_go ?_) (by rw [List.length_map]; exact h2)
      refine ss_freeze (l := l) (ts := (ogt q c.g hs m ca h ds).map tM) 7 0 (ss_retp (e_var 7) hR) hl (hk := ?_)
      show some (l, Ch.lst ((c.g.map tM).set _ _)) = _
      unfold ogt
      rw [if_neg hn, List.map_set]
    · have hn : ca ∈ hs := by simpa using hb
      refine ss_go ?_
      refine ss_freeze (l := l) (ts := (ogt q c.g hs m ca h ds).map tM) 7 0 (ss_retp (e_var 7) hR) hl (hk := ?_)
      show some (l, Ch.lst (c.g.map tM)) = _
      unfold ogt
      rw [if_pos hn]
theorem ogt_len {p m ca h : Nat} {g : List (List (List Int))} {hs : List Nat} {ds : List Int} : (ogt p g hs m ca h ds).length = g.length := by
  unfold ogt
  split
  · rfl
  · rw [List.length_set]
theorem ndr_len {p k : Nat} {rows : List (List Int)} {ds : List Int} (h : rows.length = ds.length) : (ndr p rows k ds).length = rows.length := by
  unfold ndr
  rw [List.length_zipWith, ← h, Nat.min_self]
theorem ogt_mem {p m r ca h : Nat} {c : SC} {hs : List Nat} {ds : List Int} (s : SwOk p m r hs c ds ca h) : ∀ b ∈ ogt p c.g hs m ca h ds, b.length = r := fun b hb => by
  obtain ⟨t, st⟩ := s.st
  unfold ogt at hb
  split at hb
  · exact (st.g b hb).1
  · rename_i hn
    rcases List.mem_or_eq_of_mem_set hb with hb | hb
    · exact (st.g b hb).1
    · obtain ⟨_, _, h3⟩ := s.ix hn
      rw [hb, ndr_len h3, h3, s.dl]
def S_passed_on (K : PySem.W.Frag) : Spec (Nat × Nat × Nat × List Nat × SC × List Int × Nat × Nat) := ⟨fun z => SwOk z.1 z.2.1 z.2.2.1 z.2.2.2.1 z.2.2.2.2.1 z.2.2.2.2.2.1 z.2.2.2.2.2.2.1 z.2.2.2.2.2.2.2,
  fun z => [tN z.1, tSC K z.2.2.2.2.1, tNs z.2.2.2.1, tN z.2.1, tN z.2.2.2.2.2.2.1, tN z.2.2.2.2.2.2.2, tIs z.2.2.2.2.2.1], fun z => tSC K (psd z.1 z.2.2.2.2.1 z.2.2.2.1 z.2.1 z.2.2.2.2.2.2.1 z.2.2.2.2.2.2.2 z.2.2.2.2.2.1)⟩
theorem ok_passed_on (T : Tx K mg) : DefOk P w K mg base 4 "passed_on" [] (S_passed_on K).sp :=
  T.k_passed_on fun fd F => (S_passed_on K).ok F sc_passed_on (fun _ _ => rfl) fun p B rt ⟨q, m, r, hs, c, ds, ca, h⟩ hr hp hR => by
    have hp : SwOk q m r hs c ds ca h := hp
    obtain ⟨t, st⟩ := hp.st
    have hm5 := st.m5
    have hr5 := st.r5
    have hgl := st.gl
    have hsl := st.sl
    have hhl := st.hl
    have hdl := hp.dl
    have hol := holders_len hs m
    obtain ⟨hx1, hx2⟩ := hp.hx
    have ho : IsOrd c.o ds.length := by rw [hdl]; exact st.o
    refine ss_asg 7 sc_passed_on.nd (e_call (S := S_other_gather K) (q, m, r, hs, c, ds, ca, h) (ok_other_gather T) hr (ea_cons (e_var 0) (ea_cons (e_var 1) (ea_cons (e_var 2) (ea_cons (e_var 3) (ea_cons (e_var 4) (ea_cons (e_var 5) (ea_cons (e_var 6) ea_nil))))))) hp) ?_
    refine ss_lc 8 (lcM (j := 10) (xs := c.s) (f := tM) (g := tM) (bk sc_passed_on.nd) (e_fld (e_var 1) ins T.c_StageCoins T.n_StageCoins_spread (by kernel_rfl)) (by omega) (fun H1 i b hb y s0 H0 C cl fp =>
      Lc.e (lcM (j := 11) (xs := b) (f := tIs) (g := tIs) (bk sc_passed_on.nd) (e_var 10) (by have := (st.s b (List.mem_of_getElem? hb)).1; omega) (fun H2 i2 row hrow y2 s1 H3 C1 cl1 fp1 => e_list (e_var 11) ls T.f_list)))) fun l hl => ?_
    refine ss_asg 9 sc_passed_on.nd (e_index (n := h) (ns := hs) (e_var 2) (e_var 5) ls ls hp.hh) ?_
    have hml : (mv 0 ds c.o).length = r := by rw [mv_len, st.o.len]
    refine ss_setItem (l := l) (n := hs.idxOf h) (ts := c.s.map tM) (R := tM (ndr q (c.s.getD (hs.idxOf h) []) ca (mv 0 ds c.o))) 0 (e_call (S := S_nudged_rows) (q, c.s.getD (hs.idxOf h) [], ca, mv 0 ds c.o) (ok_nudged_rows T) hr (ea_cons (e_var 0) (ea_cons (e_ix (e_var 8) (lso 0) (e_var 9) (putM tM (gd [] hx1))) (ea_cons (e_var 4) (ea_cons (Et.is (e_call (S := S_moved) (ds.map tI, c.o) (ok_moved T) hr (ea_cons (e_var 6) (ea_cons (e_fld (e_var 1) ins T.c_StageCoins T.n_StageCoins_order (by kernel_rfl)) ea_nil)) (by show IsOrd c.o (ds.map tI).length; rw [List.length_map]; exact ho)) (by show tL _ = tL _; rw [mvT_map tI 0 ho])) ea_nil))))
      ⟨st.p0, by rw [hml]; exact hx2, by show (c.s.getD (hs.idxOf h) []).length ≤ 1000; omega⟩) (e_var 8) (e_var 9) ?_ (by rw [List.length_map]; exact hx1)
    refine ss_freeze (l := l) (ts := (psd q c hs m ca h ds).s.map tM) 8 0 ?_ hl (hk := ?_)
    · refine ss_retp (e_make (S := I_StageCoins) (psd q c hs m ca h ds) (ok_StageCoins T) hr (ea_cons (e_var 7) (ea_cons (e_list (e_fld (e_var 1) ins T.c_StageCoins T.n_StageCoins_order (by kernel_rfl)) ls T.f_list) (ea_cons (e_var 8) ea_nil))) ⟨⟨by show (ogt q c.g hs m ca h ds).length ≤ 1000; rw [ogt_len]; omega, fun b hb => by rw [ogt_mem hp b hb]; omega⟩, by show (c.s.set _ _).length ≤ 1000; rw [List.length_set]; omega, fun b hb => ?_⟩) hR
      rcases List.mem_or_eq_of_mem_set hb with hb | hb
      · rw [(st.s b hb).1]; omega
      · rw [hb, ndr_len (by rw [hml]; exact hx2)]; omega
    · show some (l, Ch.lst ((c.s.map tM).set _ _)) = some (l, Ch.lst ((c.s.set _ _).map tM))
      rw [List.map_set]
def S_turned_order : Spec (List Nat × List Nat × List Nat × Nat) := ⟨fun z => IsOrd z.1 z.2.2.2 ∧ IsOrd z.2.1 z.2.2.2 ∧ IsOrd z.2.2.1 z.2.2.2, fun z => [tNs z.1, tNs z.2.1, tNs z.2.2.1], fun z => tNs (trn z.1 z.2.1 z.2.2.1)⟩
theorem IsOrd.gt {o : List Nat} {n x : Nat} (h : IsOrd o n) (hx : x < n) : o.getD x 0 < n := h.lt (gdM 0 (by rw [h.len]; exact hx))
theorem undo_len (o : List Nat) : (undo o).length = o.length := by unfold undo; rw [List.length_map, List.length_range]
theorem ok_turned_order (T : Tx K mg) : DefOk P w K mg base 4 "turned_order" [] S_turned_order.sp :=
  T.k_turned_order fun fd F => S_turned_order.ok F sc_turned_order (fun _ _ => rfl) fun p B rt ⟨o, b, t, n⟩ hr hp hR => by
    have hp : IsOrd o n ∧ IsOrd b n ∧ IsOrd t n := hp
    obtain ⟨ho, hb, ht⟩ := hp
    refine ss_asg 3 sc_turned_order.nd (e_call (S := S_undone) (b, n) (ok_undone T) hr (ea_cons (e_var 1) ea_nil) hb) ?_
    refine ss_retp (Et.is (Lc.e (lcM (j := 4) (xs := o) (f := tN) (g := fun row => tN ((undo b).getD (t.getD (b.getD row 0) 0) 0)) (bk sc_turned_order.nd) (e_var 0) (by have := ho.2; have := ho.len; omega) (fun H1 i row hrow y s0 H0 C cl fp => ?_))) ?_) hR
    · have h1 : row < n := ho.lt (List.mem_of_getElem? hrow)
      have h2 := hb.gt h1
      have h3 := ht.gt h2
      exact e_ix (e_var 3) ls (e_ix (e_var 2) ls (e_ix (e_var 1) ls (e_var 4) (putM tN (gd 0 (by rw [hb.len]; exact h1)))) (putM tN (gd 0 (by rw [ht.len]; exact h2)))) (putM tN (gd 0 (by rw [undo_len, hb.len]; exact h3)))
    · show tL _ = tL ((trn o b t).map tN)
      unfold trn
      rw [List.map_map]
      rfl
/-! ### share_differences -/
def tOw : Option (List Int) → Ty
  | none => tNone
  | some ds => tIs ds
def S_shd : Spec (Nat × Nat × List (List Int) × List Nat × List Nat × Nat × Option (List Int)) := ⟨fun z => 0 < z.1 ∧ z.2.2.1.length = z.2.1 ∧ IsOrd z.2.2.2.1 z.2.1 ∧ IsOrd z.2.2.2.2.1 z.2.1 ∧ (∀ row ∈ z.2.2.1, z.2.2.2.2.2.1 < row.length) ∧ ∀ ds, z.2.2.2.2.2.2 = some ds → ds.length = z.2.1,
  fun z => [tN z.1, tM z.2.2.1, tNs z.2.2.2.1, tNs z.2.2.2.2.1, tN z.2.2.2.2.2.1, tOw z.2.2.2.2.2.2], fun z => tIs (shd z.1 z.2.2.1 z.2.2.2.1 z.2.2.2.2.1 z.2.2.2.2.2.1 z.2.2.2.2.2.2)⟩
theorem ok_shd (T : Tx K mg) : DefOk P w K mg base 1 "share_differences" [] S_shd.sp :=
  T.k_share_differences fun fd F => S_shd.ok F sc_share_differences (fun _ _ => rfl) fun p B rt ⟨q, n, he, o, o2, k, own⟩ hr hp hR => by
    have hp : 0 < q ∧ he.length = n ∧ IsOrd o n ∧ IsOrd o2 n ∧ (∀ row ∈ he, k < row.length) ∧ ∀ ds, own = some ds → ds.length = n := hp
    obtain ⟨hq, hl, ho, ho2, hk, hd⟩ := hp
    have hn5 := ho.2
    have e2 : ∀ x, x < n → ∃ row, he[x]? = some row ∧ row[k]? = some (at2 he x k) := fun x hx => by
      obtain ⟨row, hrow⟩ := ix_some (xs := he) (i := x) (by omega)
      refine ⟨row, hrow, ?_⟩
      unfold at2
      rw [getD_some hrow]
      exact gd 0 (hk row (List.mem_of_getElem? hrow))
    refine ss_asgO 6 sc_share_differences.nd (eo_lst ea_nil (by decide)) fun l hl2 => ?_
    refine ss_forR (ζ := Unit) (n := o.length) (fun _ _ => True) (fun _ _ => [some (tN q), some (tM he), some (tNs o), some (tNs o2), some (tN k), some (tOw own), some (tRef l), none, none, none]) (fun i _ => [(l, .lst (((shd q he o o2 k own).take i).map tI))]) 7 rfl sc_share_differences.nd PassesOwn.never T.f_range (Et.is (e_len (e_var 2) ls T.f_len) (congrArg tN (List.length_map _))) (by rw [ho.len]; omega) () trivial (fun i z kb hi _ => ?_) (fun _ _ => ?_)
    · have hi : i < o.length := hi
      rw [ho.len] at hi
      obtain ⟨row, hrow, hat⟩ := e2 _ (ho.gt hi)
      obtain ⟨row2, hrow2, hat2⟩ := e2 _ (ho2.gt hi)
      have fin : SS (XD P w K mg base N_share_differences "share_differences" (defScope s_share_differences) p) ((forB (defBody s_share_differences) 1).drop 3)
          (Sat B [some (tN q), some (tM he), some (tNs o), some (tNs o2), some (tN k), some (tOw own), some (tRef l), some (tN i), some (tI (at2 he (o.getD i 0) k)), some (tI (at2 he (o2.getD i 0) k + ownD own (o2.getD i 0)))] [(l, .lst (((shd q he o o2 k own).take i).map tI))]) (DL B (fun _ _ => True) (fun _ _ => [some (tN q), some (tM he), some (tNs o), some (tNs o2), some (tN k), some (tOw own), some (tRef l), none, none, none]) (fun i (_ : Unit) => [(l, .lst (((shd q he o o2 k own).take i).map tI))]) (i + 1) rt kb) := by
        refine ss_append (l := l) (ts := ((shd q he o o2 k own).take i).map tI) (ts0 := ((shd q he o o2 k own).take i).map tI) (R := tI ((at2 he (o2.getD i 0) k + ownD own (o2.getD i 0) - at2 he (o.getD i 0) k) % (q : Int))) 0 (e_var 6) (e_mod (e_intOf (e_sub (e_var 9) (e_var 8)) T.f_int) (e_var 0) (by omega)) (ss_next () trivial (ho := ?_)) (by rw [List.length_map, List.length_take]; omega)
        show [(l, Ch.lst (((shd q he o o2 k own).take (i + 1)).map tI))] = [(l, Ch.lst (((shd q he o o2 k own).take i).map tI ++ [_]))]
        unfold shd
        rw [take_range _ (by rw [ho.len]; exact hi), List.map_append]
        rfl
      refine ss_asg (R := tI (at2 he (o.getD i 0) k)) 8 sc_share_differences.nd (e_ix (e_ix (e_var 1) ls (e_ix (e_var 2) ls (e_var 7) (putM tN (gd 0 (by rw [ho.len]; exact hi)))) (putM tIs hrow)) ls (e_var 4) (putM tI hat)) ?_
      refine ss_asg (R := tI (at2 he (o2.getD i 0) k)) 9 sc_share_differences.nd (e_ix (e_ix (e_var 1) ls (e_ix (e_var 3) ls (e_var 7) (putM tN (gd 0 (by rw [ho2.len]; exact hi)))) (putM tIs hrow2)) ls (e_var 4) (putM tI hat2)) ?_
      cases own with
      | none =>
        refine ss_ifF (t_notN (e_var 5) e_non (fun v H e => by rw [show v = V.non from e]; rfl)) ?_
        have e0 : at2 he (o2.getD i 0) k + ownD none (o2.getD i 0) = at2 he (o2.getD i 0) k := Int.add_zero _
        rw [e0] at fin
        exact fin
      | some ds =>
        refine ss_if (bb := true) (t_notN (e_var 5) e_non (fun v H e => by rw [tL_notN v H e]; rfl)) (fun _ => ?_) (fun h => nomatch h)
        have hdl := hd ds rfl
        refine ss_asg (R := tI (at2 he (o2.getD i 0) k + ownD (some ds) (o2.getD i 0))) 9 sc_share_differences.nd (e_add (e_var 9) (e_ix (e_var 5) ls (e_ix (e_var 3) ls (e_var 7) (putM tN (gd 0 (by rw [ho2.len]; exact hi)))) (putM tI (gd 0 (by rw [hdl]; exact ho2.gt hi))))) (ss_go fin)
    · have e : (shd q he o o2 k own).take o.length = shd q he o o2 k own := List.take_of_length_le (by unfold shd; rw [List.length_map, List.length_range]; exact Nat.le_refl _)
      rw [e]
      exact ss_freeze 6 0 (ss_retp (e_var 6) hR) hl2
end
end Vc
set_option maxHeartbeats 4000000
/-! VcM3: orders; what the swaps of a run ask (plain) -/
namespace Vc
open PySem L2
theorem mv_get {α : Type} (d : α) {xs : List α} {o : List Nat} {x : Nat} (h : x < o.length) : (mv d xs o).getD x d = xs.getD (o.getD x 0) d := by
  unfold mv
  rw [List.getD_eq_getElem?_getD, List.getElem?_map, gd 0 h]
  rfl
theorem range_get {α : Type} (d : α) (a : List α) : (List.range a.length).map (fun i => a.getD i d) = a := by
  refine List.ext_getElem? fun i => ?_
  rw [List.getElem?_map]
  by_cases h : i < a.length
  · rw [List.getElem?_range h, gd d h]
    rfl
  · rw [List.getElem?_eq_none (by rw [List.length_range]; omega), List.getElem?_eq_none (by omega)]
    rfl
theorem mv_ord {a b : List Nat} {n : Nat} (ha : IsOrd a n) (hb : IsOrd b n) : IsOrd (mv 0 a b) n := by
  refine ⟨?_, ha.2⟩
  have h1 : (mv 0 a b).Perm ((List.range n).map fun i => a.getD i 0) := hb.1.map _
  have h2 := range_get 0 a
  rw [ha.len] at h2
  rw [h2] at h1
  exact h1.trans ha.1
theorem range_ord {n : Nat} (h : n ≤ 5) : IsOrd (List.range n) n := ⟨.refl _, h⟩
theorem undo_get {o : List Nat} {n x : Nat} (h : IsOrd o n) (hx : x < n) : (undo o).getD (o.getD x 0) 0 = x := by
  have h1 : o[x]? = some (o.getD x 0) := gd 0 (by rw [h.len]; exact hx)
  have h2 : o.getD x 0 < o.length := by rw [h.len]; exact h.gt hx
  unfold undo
  rw [List.getD_eq_getElem?_getD, List.getElem?_map, List.getElem?_range h2]
  exact idxOf_get h.nodup h1
theorem get_undo {o : List Nat} {n x : Nat} (h : IsOrd o n) (hx : x < n) : o.getD ((undo o).getD x 0) 0 = x := by
  have hm := h.mem hx
  obtain ⟨y, hy⟩ := List.getElem?_of_mem hm
  have hyl := (List.getElem?_eq_some_iff.mp hy).1
  have e := getD_some (d := 0) hy
  have h2 := undo_get h (x := y) (by rw [← h.len]; exact hyl)
  rw [e] at h2
  rw [h2, e]
theorem undo_ord {o : List Nat} {n : Nat} (h : IsOrd o n) : IsOrd (undo o) n := by
  refine ord_of h.2 ?_ (fun x hx => ?_) (fun x hx => ?_)
  · refine List.pairwise_iff_getElem.mpr fun i j hi hj hij e => ?_
    have g1 : (undo o).getD i 0 = (undo o)[i] := getD_some (List.getElem?_eq_getElem hi)
    have g2 : (undo o).getD j 0 = (undo o)[j] := getD_some (List.getElem?_eq_getElem hj)
    rw [undo_len, h.len] at hi hj
    have h1 := get_undo h hi
    have h2 := get_undo h hj
    rw [g1, e, ← g2, h2] at h1
    omega
  · unfold undo at hx
    obtain ⟨j, hj, rfl⟩ := List.mem_map.mp hx
    rw [← h.len]
    exact List.idxOf_lt_length_of_mem (h.mem (by rw [← h.len]; exact List.mem_range.mp hj))
  · have h2 := undo_get h hx
    rw [← h2]
    exact gdM 0 (by rw [undo_len, h.len]; exact h.gt hx)
theorem trn_mv {o b t : List Nat} {n : Nat} (ho : IsOrd o n) (hb : IsOrd b n) (ht : IsOrd t n) : trn o b t = mv 0 (mv 0 (mv 0 (undo b) t) b) o := by
  unfold trn
  conv => rhs; unfold mv
  refine List.map_congr_left fun row hrow => ?_
  have h1 := ho.lt hrow
  have e1 := mv_get 0 (xs := mv 0 (undo b) t) (o := b) (x := row) (by rw [hb.len]; exact h1)
  have e2 := mv_get 0 (xs := undo b) (o := t) (x := b.getD row 0) (by rw [ht.len]; exact hb.gt h1)
  show _ = (mv 0 (mv 0 (undo b) t) b).getD row 0
  rw [e1, e2]
theorem trn_ord {o b t : List Nat} {n : Nat} (ho : IsOrd o n) (hb : IsOrd b n) (ht : IsOrd t n) : IsOrd (trn o b t) n := by
  rw [trn_mv ho hb ht]
  exact mv_ord (mv_ord (mv_ord (undo_ord hb) ht) hb) ho
theorem trn_get {o b t : List Nat} {x : Nat} (hx : x < o.length) : (trn o b t).getD x 0 = (undo b).getD (t.getD (b.getD (o.getD x 0) 0) 0) 0 := by
  unfold trn
  rw [List.getD_eq_getElem?_getD, List.getElem?_map, gd 0 hx]
  rfl
theorem ext_getD {α : Type} {d : α} {a b : List α} (hl : a.length = b.length) (h : ∀ x, x < a.length → a.getD x d = b.getD x d) : a = b := by
  refine List.ext_getElem? fun i => ?_
  by_cases hi : i < a.length
  · rw [gd d hi, gd d (by omega), h i hi]
  · rw [List.getElem?_eq_none (by omega), List.getElem?_eq_none (by omega)]
/-- the turned order is turned back -/
theorem trn_back {o b t t2 : List Nat} {n : Nat} (ho : IsOrd o n) (hb : IsOrd b n) (ht : IsOrd t n) (ht2 : IsOrd t2 n) (h : ∀ x, x < n → t2.getD (t.getD x 0) 0 = x) : trn (trn o b t) b t2 = o := by
  have h1 := trn_ord ho hb ht
  have h2 := trn_ord h1 hb ht2
  refine ext_getD (d := 0) (by rw [h2.len, ho.len]) fun x hx => ?_
  rw [h2.len] at hx
  have o1 := ho.gt hx
  have o2 := hb.gt o1
  have o3 := ht.gt o2
  rw [trn_get (by rw [h1.len]; exact hx), trn_get (by rw [ho.len]; exact hx), get_undo hb o3, h _ o2, undo_get hb o1]
/-! ### differences, orders, stages -/
def dif (p : Nat) (vs os : List Int) : List Int := List.zipWith (fun v o => (o - v) % (p : Int)) vs os
def dAt (p k : Nat) (vs os : List Int) (c : RC) : Nat → List Int
  | 0 => dif p vs os
  | i + 1 => if i < k then mv 0 (dAt p k vs os c i) (c.st.getD i dSC).o else dAt p k vs os c i
def bAt (r k : Nat) (c : RC) : Nat → List Nat
  | 0 => List.range r
  | i + 1 => if i < k then mv 0 (bAt r k c i) (c.st.getD i dSC).o else bAt r k c i
def swS (p m : Nat) (fam : List (List Nat)) (lot : List Nat) (k : Nat) (vs os : List Int) (c : RC) (i : Nat) : SC :=
  if k < i then c.st.getD i dSC
  else if i = k then tka p (c.st.getD i dSC) (hsA fam m i) (recA p m fam vs c i).he m (carr lot m) (hid (hsA fam m i) lot (carr lot m)) (dAt p k vs os c i) (trn (c.st.getD i dSC).o (bAt vs.length k c i) (mtch os vs))
  else psd p (c.st.getD i dSC) (hsA fam m i) m (carr lot m) (hid (hsA fam m i) lot (carr lot m)) (dAt p k vs os c i)
def swp (p m : Nat) (fam : List (List Nat)) (lot : List Nat) (k : Nat) (vs os : List Int) (c : RC) : RC := ⟨ndr p c.v (carr lot m) (dif p vs os), (List.range c.st.length).map (swS p m fam lot k vs os c)⟩
structure LawOk (p m r : Nat) (fam : List (List Nat)) (lot : List Nat) (k : Nat) (vs os : List Int) (c : RC) : Prop where
  sh : Shp p m r fam
  fm : IsFam fam m
  rc : RcOk p m r fam c
  vo : VotOk p r vs
  oo : VotOk p r os
  pm : os.Perm vs
  sg : StageOf lot fam k
section
variable {p m r k : Nat} {fam : List (List Nat)} {lot : List Nat} {vs os : List Int} {c : RC}
theorem LawOk.klt (h : LawOk p m r fam lot k vs os c) : k < fam.length := by
  obtain ⟨⟨a, ha, _⟩, _⟩ := h.sg
  exact (List.getElem?_eq_some_iff.mp ha).1
theorem LawOk.free (h : LawOk p m r fam lot k vs os c) {a : List Nat} (ha : a ∈ fam) : ∃ x, x < m ∧ x ∉ a ∧ x ∉ lot := by
  obtain ⟨⟨b, hb, hc⟩, _⟩ := h.sg
  obtain ⟨x, h1, h2, h3⟩ := h.fm.2.1 a ha b (List.mem_of_getElem? hb)
  refine ⟨x, h1, h2, fun hx => h3 ?_⟩
  have := List.all_eq_true.mp hc x hx
  exact of_decide_eq_true this
theorem LawOk.carr (h : LawOk p m r fam lot k vs os c) : 0 < (holders lot m).length ∧ carr lot m < m := by
  obtain ⟨⟨b, hb, hc⟩, _⟩ := h.sg
  obtain ⟨x, h1, _, h3⟩ := h.free (List.mem_of_getElem? hb)
  have hx : x ∈ holders lot m := mem_holders.mpr ⟨h1, h3⟩
  have h4 := List.length_pos_of_mem hx
  exact ⟨h4, (mem_holders.mp (gdM 0 h4)).1⟩
theorem LawOk.hid0 (h : LawOk p m r fam lot k vs os c) {i : Nat} (hi : i < fam.length) : 0 < ((hsA fam m i).filter fun x => !decide (x ∈ lot)).length := by
  obtain ⟨a, ha⟩ := ix_some hi
  obtain ⟨x, h1, h2, h3⟩ := h.free (List.mem_of_getElem? ha)
  have hx : x ∈ hsA fam m i := by
    unfold hsA
    rw [getD_some ha]
    exact mem_holders.mpr ⟨h1, h2⟩
  exact List.length_pos_of_mem (List.mem_filter.mpr ⟨hx, by simp [h3]⟩)
theorem LawOk.hid (h : LawOk p m r fam lot k vs os c) {i : Nat} (hi : i < fam.length) : hid (hsA fam m i) lot (Vc.carr lot m) ∈ hsA fam m i := by
  unfold Vc.hid
  split
  · assumption
  · exact (List.mem_filter.mp (gdM 0 (h.hid0 hi))).1
theorem dif_len (h1 : vs.length = r) (h2 : os.length = r) : (dif p vs os).length = r := by
  unfold dif
  rw [List.length_zipWith, h1, h2, Nat.min_self]
theorem LawOk.ord (h : LawOk p m r fam lot k vs os c) {i : Nat} (hi : i < fam.length) : IsOrd (c.st.getD i dSC).o r := by
  obtain ⟨lot, sc, h1, h2, h3, h4, h5⟩ := h.rc.at hi
  rw [h5]
  exact h3.o
theorem LawOk.dl (h : LawOk p m r fam lot k vs os c) : ∀ i, i ≤ fam.length → (dAt p k vs os c i).length = r
  | 0, _ => dif_len h.vo.l h.oo.l
  | i + 1, hi => by
    show (if i < k then mv 0 (dAt p k vs os c i) (c.st.getD i dSC).o else dAt p k vs os c i).length = r
    split
    · rw [mv_len, (h.ord (i := i) hi).len]
    · exact h.dl i (Nat.le_of_succ_le hi)
theorem LawOk.bo (h : LawOk p m r fam lot k vs os c) : ∀ i, i ≤ fam.length → IsOrd (bAt r k c i) r
  | 0, _ => range_ord h.sh.r5
  | i + 1, hi => by
    show IsOrd (if i < k then mv 0 (bAt r k c i) (c.st.getD i dSC).o else bAt r k c i) r
    split
    · exact mv_ord (h.bo i (Nat.le_of_succ_le hi)) (h.ord (i := i) hi)
    · exact h.bo i (Nat.le_of_succ_le hi)
theorem LawOk.sw (h : LawOk p m r fam lot k vs os c) {i : Nat} (hi : i < fam.length) : SwOk p m r (hsA fam m i) (c.st.getD i dSC) (dAt p k vs os c i) (Vc.carr lot m) (Vc.hid (hsA fam m i) lot (Vc.carr lot m)) :=
  ⟨⟨_, st_ok h.sh h.rc h.vo.l hi⟩, h.dl i (Nat.le_of_lt hi), h.hid hi, h.carr.2⟩
theorem LawOk.tg (h : LawOk p m r fam lot k vs os c) : IsOrd (mtch os vs) r := by
  have := mtch_ord h.pm (by rw [h.vo.l]; exact h.sh.r5)
  rw [h.vo.l] at this
  exact this
theorem LawOk.tr (h : LawOk p m r fam lot k vs os c) {i : Nat} (hi : i < fam.length) : IsOrd (trn (c.st.getD i dSC).o (bAt r k c i) (mtch os vs)) r := trn_ord (h.ord hi) (h.bo i (Nat.le_of_lt hi)) h.tg
end
end Vc
set_option maxHeartbeats 4000000
/-! VcE3: taken_away, copied, swapped -/
namespace Vc
open PySem PySem.Spec L2
structure TkI where
  p : Nat
  m : Nat
  r : Nat
  x : SR
  c : SC
  ds : List Int
  ca : Nat
  h : Nat
  o : List Nat
structure SwI where
  p : Nat
  m : Nat
  r : Nat
  fam : List (List Nat)
  lot : List Nat
  k : Nat
  vs : List Int
  os : List Int
  c : RC
theorem lc_is {X : Cx} {B : Bs} {G : Gm} {O : Om} {elt : Expr} {gens : List Comprehension} {scope : Scope} {O' O'' : Addr → Om} (h : Lc X B G O elt gens scope O') (e : O' = O'') : Lc X B G O elt gens scope O'' := e ▸ h
theorem ss_contD {X : Cx} {B : Bs} {G : Gm} {O : Om} {rest : List Stmt} {pos : Pos} {ζ : Type} {J : Nat → ζ → Prop} {Γ : Nat → ζ → Gm} {Oi : Nat → ζ → Om} {N : L2.St → Hp → Prop} {rt : VK} {bk : L2.St → Hp → Prop} {m : Nat} (z : ζ) (hz : J m z) (hg : GLe (Γ m z) G := by repeat (first | exact GLe.nil | apply GLe.skip | apply GLe.same)) (ho : Oi m z = O := by rfl) : SS X (.Continue pos :: rest) (Sat B G O) ⟨N, rt, bk, LI B J Γ Oi m⟩ :=
  ss_cont fun σ H Ha s => ⟨z, H, hz, by rw [ho]; exact s.slots (hg.slots s.sl)⟩
theorem shd_len {p k : Nat} {he : List (List Int)} {o o2 : List Nat} {own : Option (List Int)} : (shd p he o o2 k own).length = o.length := by unfold shd; rw [List.length_map, List.length_range]
section
variable {P : Program} {w : World} {K : PySem.W.Frag} {mg : Str → Option Value} {base : Heap}
def S_taken_away (K : PySem.W.Frag) : Spec TkI := ⟨fun z => SwOk z.p z.m z.r z.x.hs z.c z.ds z.ca z.h ∧ (z.x.he.length = z.r ∧ ∀ row ∈ z.x.he, row.length = z.x.hs.length) ∧ IsOrd z.o z.r, fun z => [tN z.p, tSC K z.c, tSR K z.x, tN z.m, tN z.ca, tN z.h, tIs z.ds, tNs z.o], fun z => tSC K (tka z.p z.c z.x.hs z.x.he z.m z.ca z.h z.ds z.o)⟩
theorem ok_taken_away (T : Tx K mg) : DefOk P w K mg base 4 "taken_away" [] (S_taken_away K).sp :=
  T.k_taken_away fun fd F => (S_taken_away K).ok F sc_taken_away (fun _ _ => rfl) fun p B rt ⟨q, m, r, x, c, ds, ca, h, o⟩ hr hp hR => by
    have hp : SwOk q m r x.hs c ds ca h ∧ (x.he.length = r ∧ ∀ row ∈ x.he, row.length = x.hs.length) ∧ IsOrd o r := hp
    obtain ⟨hp, ⟨hel, hew⟩, ho⟩ := hp
    obtain ⟨t, st⟩ := hp.st
    have hm5 := st.m5
    have hr5 := st.r5
    have hsl := st.sl
    have hgl := st.gl
    have hhl := st.hl
    have hdl := hp.dl
    have hol := holders_len x.hs m
    refine ss_asg (R := tNs x.hs) 8 sc_taken_away.nd (e_fld (e_var 2) ins T.c_StageRecord T.n_StageRecord_holders (by kernel_rfl)) ?_
    refine ss_asg 9 sc_taken_away.nd (e_call (S := S_other_gather K) (q, m, r, x.hs, c, ds, ca, h) (ok_other_gather T) hr (ea_cons (e_var 0) (ea_cons (e_var 1) (ea_cons (e_var 8) (ea_cons (e_var 3) (ea_cons (e_var 4) (ea_cons (e_var 5) (ea_cons (e_var 6) ea_nil))))))) hp) ?_
    refine ss_asgO 10 sc_taken_away.nd (eo_lst ea_nil (by decide)) fun l hl => ?_
    have hkl : (tka q c x.hs x.he m ca h ds o).s.length = x.hs.length := by show ((List.range x.hs.length).map _).length = _; rw [List.length_map, List.length_range]
    have hkb : ∀ b ∈ (tka q c x.hs x.he m ca h ds o).s, b.length ≤ 1000 := fun b hb => by
      obtain ⟨k, hk, rfl⟩ := List.mem_map.mp hb
      have hk := List.mem_range.mp hk
      have h1 := (st.s _ (gdM [] (show k < c.s.length by omega))).1
      rw [ndr_len (by rw [h1, shd_len, st.o.len])]
      omega
    refine ss_forE (ζ := Unit) (ts := x.hs.map tN) (fun _ _ => True) (fun _ _ => [some (tN q), some (tSC K c), some (tSR K x), some (tN m), some (tN ca), some (tN h), some (tIs ds), some (tNs o), some (tNs x.hs), some (tM3 (ogt q c.g x.hs m ca h ds)), some (tRef l), none, none, none, none]) (fun i _ => [(l, .lst (((tka q c x.hs x.he m ca h ds o).s.take i).map tM))]) 11 12 rfl sc_taken_away.nd PassesOwn.never T.f_enumerate (e_var 8) () trivial (fun H1 k Ti z kb hT _ => ?_) (fun _ _ => ?_)
    · obtain ⟨ho1, hk, rfl⟩ := getM hT
      have hk : x.hs[k]? = some ho1 := hk
      have hkl2 := (List.getElem?_eq_some_iff.mp hk).1
      have g1 : c.s[k]? = some (c.s.getD k []) := gd [] (by omega)
      have hb1 := (st.s _ (List.mem_of_getElem? g1)).1
      have hsh : (shd q x.he c.o o k (ownOf x.hs h k ds)).length = r := by rw [shd_len, st.o.len]
      have fin : SS (XD P w K mg base N_taken_away "taken_away" (defScope s_taken_away) p) ((forB (defBody s_taken_away) 3).drop 2)
          (Sat (B.at H1) [some (tN q), some (tSC K c), some (tSR K x), some (tN m), some (tN ca), some (tN h), some (tIs ds), some (tNs o), some (tNs x.hs), some (tM3 (ogt q c.g x.hs m ca h ds)), some (tRef l), some (tN k), some (tN ho1), some (tOw (ownOf x.hs h k ds)), none] [(l, .lst (((tka q c x.hs x.he m ca h ds o).s.take k).map tM))])
          (DL (B.at H1) (fun _ _ => True) (fun _ _ => [some (tN q), some (tSC K c), some (tSR K x), some (tN m), some (tN ca), some (tN h), some (tIs ds), some (tNs o), some (tNs x.hs), some (tM3 (ogt q c.g x.hs m ca h ds)), some (tRef l), none, none, none, none]) (fun i (_ : Unit) => [(l, .lst (((tka q c x.hs x.he m ca h ds o).s.take i).map tM))]) (k + 1) rt kb) := by
        refine ss_asg 14 sc_taken_away.nd (e_call (S := S_shd) (q, r, x.he, c.o, o, k, ownOf x.hs h k ds) (ok_shd T) hr (ea_cons (e_var 0) (ea_cons (e_fld (e_var 2) ins T.c_StageRecord T.n_StageRecord_held (by kernel_rfl)) (ea_cons (e_fld (e_var 1) ins T.c_StageCoins T.n_StageCoins_order (by kernel_rfl)) (ea_cons (e_var 7) (ea_cons (e_var 11) (ea_cons (e_var 13) ea_nil)))))) ⟨st.p0, hel, st.o, ho, fun row hrow => by rw [hew row hrow]; exact hkl2, fun ds' hds => by
          unfold ownOf at hds
          split at hds
          · cases hds; exact hdl
          · cases hds⟩) ?_
        refine ss_append (l := l) (ts := ((tka q c x.hs x.he m ca h ds o).s.take k).map tM) (ts0 := ((tka q c x.hs x.he m ca h ds o).s.take k).map tM) (R := tM (ndr q (c.s.getD k []) ca (shd q x.he c.o o k (ownOf x.hs h k ds)))) 0 (e_var 10) (e_call (S := S_nudged_rows) (q, c.s.getD k [], ca, shd q x.he c.o o k (ownOf x.hs h k ds)) (ok_nudged_rows T) hr (ea_cons (e_var 0) (ea_cons (e_ix (e_fld (e_var 1) ins T.c_StageCoins T.n_StageCoins_spread (by kernel_rfl)) ls (e_var 11) (putM tM g1)) (ea_cons (e_var 4) (ea_cons (e_var 14) ea_nil)))) ⟨st.p0, by rw [hsh]; exact hb1, by show (c.s.getD k []).length ≤ 1000; omega⟩) (ss_next () trivial (ho := ?_)) (by rw [List.length_map, List.length_take, hkl]; omega)
        show [(l, Ch.lst (((tka q c x.hs x.he m ca h ds o).s.take (k + 1)).map tM))] = [(l, Ch.lst (((tka q c x.hs x.he m ca h ds o).s.take k).map tM ++ [_]))]
        unfold tka
        rw [take_range _ hkl2, List.map_append]
        rfl
      have hg : x.hs.getD k 0 = ho1 := getD_some hk
      refine ss_asg 13 sc_taken_away.nd e_non ?_
      refine ss_if (t_eq (e_var 12) (e_var 5)) (fun hb => ?_) (fun hb => ?_)
      · have hb : ((ho1 : Int) = (h : Int)) := of_decide_eq_true hb
        have e : ownOf x.hs h k ds = some ds := by unfold ownOf; rw [hg, if_pos (by omega)]
        rw [e] at fin
        exact ss_asg 13 sc_taken_away.nd (e_var 6) (ss_go fin)
      · have hb : ¬ ((ho1 : Int) = (h : Int)) := of_decide_eq_false hb
        have e : ownOf x.hs h k ds = none := by unfold ownOf; rw [hg, if_neg (by omega)]
        rw [e] at fin
        exact ss_go fin
    · have e : (tka q c x.hs x.he m ca h ds o).s.take (x.hs.map tN).length = (tka q c x.hs x.he m ca h ds o).s := by rw [List.length_map, ← hkl, List.take_length]
      rw [e]
      refine ss_freeze (l := l) (ts := (tka q c x.hs x.he m ca h ds o).s.map tM) 10 0 ?_ hl
      exact ss_retp (e_make (S := I_StageCoins) (tka q c x.hs x.he m ca h ds o) (ok_StageCoins T) hr (ea_cons (e_var 9) (ea_cons (e_list (e_var 7) ls T.f_list) (ea_cons (e_var 10) ea_nil))) ⟨⟨by show (ogt q c.g x.hs m ca h ds).length ≤ 1000; rw [ogt_len]; omega, fun b hb => by rw [ogt_mem hp b hb]; omega⟩, by rw [hkl]; omega, hkb⟩) hR
def S_copied (K : PySem.W.Frag) : Spec SC := ⟨fun c => small3 c.g ∧ small3 c.s, fun c => [tSC K c], fun c => tSC K c⟩
theorem ok_copied (T : Tx K mg) : DefOk P w K mg base 3 "copied" [] (S_copied K).sp :=
  T.k_copied fun fd F => (S_copied K).ok F sc_copied (fun _ _ => rfl) fun p B rt c hr hp hR =>
    ss_retp (e_make (S := I_StageCoins) c (ok_StageCoins T) hr (ea_cons (e_fld (e_var 0) ins T.c_StageCoins T.n_StageCoins_gather (by kernel_rfl)) (ea_cons (e_fld (e_var 0) ins T.c_StageCoins T.n_StageCoins_order (by kernel_rfl)) (ea_cons (e_fld (e_var 0) ins T.c_StageCoins T.n_StageCoins_spread (by kernel_rfl)) ea_nil))) hp) hR
theorem Tx.k_swapped {k : Nat} {sp : Sp} (T : Tx K mg) (F : ∀ fd, FunD K "swapped" "swapped" (defArgs s_swapped) (defBody s_swapped) (defScope s_swapped) [.non] [] (He.ga K "swapped") fd → FnOk P w K mg base CX0 k (He.ga K "swapped") fd ["p", "mixers", "family", "lot", "votes", "others", "coins", "order"] sp) : DefOk P w K mg base k "swapped" [.non] sp := by
  obtain ⟨fd, FD⟩ := T.says.def_ 54 (d := d_swapped)
  have FD : FunD K "swapped" "swapped" (defArgs s_swapped) (defBody s_swapped) (defScope s_swapped) [.non] [] (He.ga K "swapped") fd := FD
  obtain ⟨ds, hv, hb⟩ := FD.binds1 (ps := ["p", "mixers", "family", "lot", "votes", "others", "coins", "order"]) 7 0 (by simp) rfl fun T kV doc pm an cdv ct us its h1 h2 => match us, h1, its, h2 with
    | [_, _, _, _, _, _, _], _, [_], _ => ⟨_, rfl, rfl⟩
  exact ⟨He.ga K "swapped", fd, _, ds, F fd FD, T.glo 52, FD.kp, hb, hv⟩
def S_swapped (K : PySem.W.Frag) : Spec SwI := ⟨fun z => LawOk z.p z.m z.r z.fam z.lot z.k z.vs z.os z.c, fun z => [tN z.p, tN z.m, tF z.fam, tNs z.lot, tIs z.vs, tIs z.os, tRC K z.c, tNone], fun z => tRC K (swp z.p z.m z.fam z.lot z.k z.vs z.os z.c)⟩
theorem ok_swapped (T : Tx K mg) : DefOk P w K mg base 7 "swapped" [.non] (S_swapped K).sp :=
  T.k_swapped fun fd F => by
    refine (S_swapped K).ok F sc_swapped (fun _ _ => rfl) fun p B rt ⟨q, m, r, fam, lot, kk, vs, os, c⟩ hr hp hR => ?_
    have hp : LawOk q m r fam lot kk vs os c := hp
    have hm5 := hp.sh.m5
    have hr5 := hp.sh.r5
    have hq := primes_pos hp.sh.p
    have hfl := hp.sh.f
    have hvl := hp.vo.l
    have hol := hp.oo.l
    have hcl := hp.rc.l
    have hkl := hp.klt
    refine ss_asg 8 sc_swapped.nd (e_call (S := S_stage_of) (lot, fam, kk) (ok_stage_of T) hr (ea_cons (e_var 3) (ea_cons (e_var 2) ea_nil)) hp.sg) ?_
    refine ss_ifF (t_isN (e_var 8) e_non (fun v H e => by rw [show v = V.int kk from e]; exact decide_eq_false fun z => nomatch z)) ?_
    refine ss_asg 9 sc_swapped.nd (e_var 7) ?_
    refine ss_if (bb := true) (t_isN (e_var 9) e_non (fun v H e => by rw [show v = V.non from e]; rfl)) (fun _ => ?_) (fun h => nomatch h)
    refine ss_asg 9 sc_swapped.nd (e_call (S := S_matching) (os, vs) (ok_matching T) hr (ea_cons (e_var 5) (ea_cons (e_var 4) ea_nil)) ⟨hp.pm, by show vs.length ≤ 5; omega⟩) (ss_go ?_)
    refine ss_ifF (t_isN (e_var 9) e_non (fun v H e => tL_notN v H e)) ?_
    refine ss_asg 10 sc_swapped.nd (e_call (S := S_run K) (q, m, r, fam, vs, c) (ok_run T) hr (ea_cons (e_var 0) (ea_cons (e_var 1) (ea_cons (e_var 2) (ea_cons (e_var 4) (ea_cons (e_var 6) ea_nil))))) ⟨hp.sh, hp.fm, hp.rc, hp.vo⟩) ?_
    refine ss_asg 11 sc_swapped.nd (e_call (S := S_carrier_of) (lot, m) (ok_carrier_of T) hr (ea_cons (e_var 3) (ea_cons (e_var 1) ea_nil)) ⟨hm5, hp.carr.1⟩) ?_
    refine ss_lcK (O1 := []) (ts := (dif q vs os).map tI) 12 (by
      refine lc_is (lcZM (i1 := 22) (j1 := 23) (xs := vs) (ys := os) (f := tI) (g := tI) (h := fun v o => tI ((o - v) % (q : Int))) (bk sc_swapped.nd) (by decide) (by rw [hvl, hol]) (e_var 4) (e_var 5) (by omega) T.f_zip (fun H1 i u v hu hv x s0 H0 C cl fp => e_mod (e_intOf (e_sub (e_var 23) (e_var 22)) T.f_int) (e_var 0) (by omega))) ?_
      funext l
      show _ ++ [(l, Ch.lst _)] = _ ++ [(l, Ch.lst _)]
      unfold dif
      rw [List.map_zipWith]) ?_
    have hdl := hp.dl 0 (Nat.zero_le _)
    refine ss_asg 13 sc_swapped.nd (e_call (S := S_nudged_rows) (q, c.v, carr lot m, dif q vs os) (ok_nudged_rows T) hr (ea_cons (e_var 0) (ea_cons (e_fld (e_var 6) ins T.c_RunCoins T.n_RunCoins_votes (by kernel_rfl)) (ea_cons (e_var 11) (ea_cons (e_var 12) ea_nil)))) ⟨hq, by rw [hp.rc.v.1]; exact hdl.symm, by rw [hp.rc.v.1]; omega⟩) ?_
    refine ss_asg (R := tNs (List.range r)) 14 sc_swapped.nd (Eo.et (eo_listRg (n := r) (Et.is (e_len (e_var 4) ls T.f_len) (congrArg tN (show (vs.map tI).length = r by rw [List.length_map, hvl]))) (by omega) rfl T.f_list T.f_range)) ?_
    refine ss_asgO 15 sc_swapped.nd (eo_lst ea_nil (by decide)) fun l hl => ?_
    have hsl : (swp q m fam lot kk vs os c).st.length = fam.length := by show ((List.range c.st.length).map _).length = _; rw [List.length_map, List.length_range, hcl]
    have hct : (c.st.map (tSC K)).length = fam.length := by rw [List.length_map, hcl]
    have htk : ∀ i, i < fam.length → ((swp q m fam lot kk vs os c).st.take (i + 1)).map (tSC K) = ((swp q m fam lot kk vs os c).st.take i).map (tSC K) ++ [tSC K (swS q m fam lot kk vs os c i)] := fun i hi => by
      show (((List.range c.st.length).map (swS q m fam lot kk vs os c)).take (i + 1)).map (tSC K) = _
      rw [take_range _ (by rw [hcl]; exact hi), List.map_append]
      rfl
    refine ss_forE (ζ := Unit) (ts := c.st.map (tSC K)) (fun _ _ => True) (fun i _ => [some (tN q), some (tN m), some (tF fam), some (tNs lot), some (tIs vs), some (tIs os), some (tRC K c), some tNone, some (tN kk), some (tNs (mtch os vs)), some (tRR K q m fam vs c), some (tN (carr lot m)), some (tIs (dAt q kk vs os c i)), some (tM (ndr q c.v (carr lot m) (dif q vs os))), some (tNs (bAt r kk c i)), some (tRef l), none, none, none, none, none, none, none, none]) (fun i _ => [(l, .lst (((swp q m fam lot kk vs os c).st.take i).map (tSC K)))]) 16 17 rfl sc_swapped.nd PassesOwn.never T.f_enumerate (e_fld (e_var 6) ins T.c_RunCoins T.n_RunCoins_stages (by kernel_rfl)) () trivial (fun H1 i Ti z kb hT _ => ?_) (fun _ _ => ?_)
    · obtain ⟨sc, hsc, rfl⟩ := getM hT
      have hsc : c.st[i]? = some sc := hsc
      have hi : i < fam.length := by rw [← hcl]; exact (List.getElem?_eq_some_iff.mp hsc).1
      have hgs : c.st.getD i dSC = sc := getD_some hsc
      obtain ⟨lo, hlo⟩ := ix_some hi
      have hhs : hsA fam m i = holders lo m := by unfold hsA; rw [getD_some hlo]
      have hso := st_ok hp.sh hp.rc hvl hi
      have hsw := hp.sw hi
      have hor := hp.ord hi
      have hbo := hp.bo i (Nat.le_of_lt hi)
      have hdl := hp.dl i (Nat.le_of_lt hi)
      have htr := hp.tr hi
      have hsn : (c.st.getD i dSC).s.length ≤ 1000 := by rw [hso.sl]; have := hso.hl; omega
      have hgn : (c.st.getD i dSC).g.length ≤ 1000 := by rw [hso.gl]; have := holders_len (hsA fam m i) m; omega
      rw [hgs] at hsw hor htr hsn hgn
      have hso' := hso
      rw [hgs] at hso
      have hsl2 : ((swp q m fam lot kk vs os c).st.take i).length ≤ 10 := by rw [List.length_take, hsl]; omega
      refine ss_if (bb := decide (kk < i)) (Tt.is (t_gt (e_var 16) (e_var 8)) (decide_eq_decide.mpr (by omega))) (fun hb => ?_) (fun hb => ss_go ?_)
      · have hb : kk < i := of_decide_eq_true hb
        have e : swS q m fam lot kk vs os c i = sc := by unfold swS; rw [if_pos hb, hgs]
        have e1 : dAt q kk vs os c (i + 1) = dAt q kk vs os c i := if_neg (by omega)
        have e2 : bAt r kk c (i + 1) = bAt r kk c i := if_neg (by omega)
        refine ss_append (l := l) (ts := ((swp q m fam lot kk vs os c).st.take i).map (tSC K)) (ts0 := ((swp q m fam lot kk vs os c).st.take i).map (tSC K)) (R := tSC K sc) 0 (e_var 15) (e_call (S := S_copied K) sc (ok_copied T) hr (ea_cons (e_var 17) ea_nil) ⟨⟨hgn, fun b hb => by rw [(hso.g b hb).1]; omega⟩, hsn, fun b hb => by rw [(hso.s b hb).1]; omega⟩) ?_ (by rw [List.length_map]; omega)
        refine ss_cont fun σ H Ha s => ⟨(), H, trivial, ?_⟩
        show Sat (B.at H1) [_, _, _, _, _, _, _, _, _, _, _, _, some (tIs (dAt q kk vs os c (i + 1))), _, some (tNs (bAt r kk c (i + 1))), _, _, _, _, _, _, _, _, _] [(l, Ch.lst (((swp q m fam lot kk vs os c).st.take (i + 1)).map (tSC K)))] σ H Ha
        rw [e1, e2, htk i hi, e]
        exact s.slots (GLe.slots (by repeat (first | exact GLe.nil | apply GLe.skip | apply GLe.same)) s.sl)
      · have hb : ¬ kk < i := of_decide_eq_false hb
        refine ss_asg 18 sc_swapped.nd (Et.is (e_call (S := S_holders) (lo, m) (ok_holders T) hr (ea_cons (e_ix (e_var 2) ls (e_var 16) (putM tNs hlo)) (ea_cons (e_var 1) ea_nil)) hm5) (show tNs (holders lo m) = tNs (hsA fam m i) by rw [hhs])) ?_
        refine ss_asg 19 sc_swapped.nd (e_call (S := S_hidden_holder) (hsA fam m i, lot, carr lot m) (ok_hidden_holder T) hr (ea_cons (e_var 18) (ea_cons (e_var 3) (ea_cons (e_var 11) ea_nil))) ⟨by have := hso.hl; show (hsA fam m i).length ≤ 1000; omega, fun _ => hp.hid0 hi⟩) ?_
        refine ss_if (bb := decide (i = kk)) (Tt.is (t_eq (e_var 16) (e_var 8)) (decide_eq_decide.mpr (by omega))) (fun hb2 => ?_) (fun hb2 => ?_)
        · have hb2 : i = kk := of_decide_eq_true hb2
          have e1 : dAt q kk vs os c (i + 1) = dAt q kk vs os c i := if_neg (by omega)
          have e2 : bAt r kk c (i + 1) = bAt r kk c i := if_neg (by omega)
          have e : swS q m fam lot kk vs os c i = tka q sc (hsA fam m i) (recA q m fam vs c i).he m (carr lot m) (hid (hsA fam m i) lot (carr lot m)) (dAt q kk vs os c i) (trn sc.o (bAt r kk c i) (mtch os vs)) := by
            unfold swS
            rw [if_neg hb, if_pos hb2, hgs, hvl]
          have hre : ((List.range fam.length).map fun i => tSR K (recA q m fam vs c i))[i]? = some (tSR K (recA q m fam vs c i)) := by rw [List.getElem?_map, List.getElem?_range hi]; rfl
          refine ss_asg 20 sc_swapped.nd (e_call (S := S_turned_order) (sc.o, bAt r kk c i, mtch os vs, r) (ok_turned_order T) hr (ea_cons (e_fld (e_var 17) ins T.c_StageCoins T.n_StageCoins_order (by kernel_rfl)) (ea_cons (e_var 14) (ea_cons (e_var 9) ea_nil))) ⟨hor, hbo, hp.tg⟩) ?_
          refine ss_asg 21 sc_swapped.nd (e_ix (e_fld (e_var 10) ins T.c_RunRecord T.n_RunRecord_stages (by kernel_rfl)) ls (e_var 16) hre) ?_
          have hhe := hso'.he
          refine ss_append (l := l) (ts := ((swp q m fam lot kk vs os c).st.take i).map (tSC K)) (ts0 := ((swp q m fam lot kk vs os c).st.take i).map (tSC K)) (R := tSC K (tka q sc (hsA fam m i) (recA q m fam vs c i).he m (carr lot m) (hid (hsA fam m i) lot (carr lot m)) (dAt q kk vs os c i) (trn sc.o (bAt r kk c i) (mtch os vs)))) 0 (e_var 15)
            (e_call (S := S_taken_away K) ⟨q, m, r, recA q m fam vs c i, sc, dAt q kk vs os c i, carr lot m, hid (hsA fam m i) lot (carr lot m), trn sc.o (bAt r kk c i) (mtch os vs)⟩ (ok_taken_away T) hr (ea_cons (e_var 0) (ea_cons (e_var 17) (ea_cons (e_var 21) (ea_cons (e_var 1) (ea_cons (e_var 11) (ea_cons (e_var 19) (ea_cons (e_var 12) (ea_cons (e_var 20) ea_nil)))))))) ⟨hsw, ⟨hhe.1, fun row hrow => (hhe.2 row hrow).1⟩, htr⟩) (ss_go (ss_next () trivial (hg := ?_) (ho := ?_))) (by rw [List.length_map]; omega)
          · show GLe [_, _, _, _, _, _, _, _, _, _, _, _, some (tIs (dAt q kk vs os c (i + 1))), _, some (tNs (bAt r kk c (i + 1))), _, _, _, _, _, _, _, _, _] _
            rw [e1, e2]
            repeat (first | exact GLe.nil | apply GLe.skip | apply GLe.same)
          · show [(l, Ch.lst (((swp q m fam lot kk vs os c).st.take (i + 1)).map (tSC K)))] = _
            rw [htk i hi, e]
            rfl
        · have hb2 : ¬ i = kk := of_decide_eq_false hb2
          have e1 : dAt q kk vs os c (i + 1) = mv 0 (dAt q kk vs os c i) sc.o := (if_pos (by omega)).trans (by rw [hgs])
          have e2 : bAt r kk c (i + 1) = mv 0 (bAt r kk c i) sc.o := (if_pos (by omega)).trans (by rw [hgs])
          have e : swS q m fam lot kk vs os c i = psd q sc (hsA fam m i) m (carr lot m) (hid (hsA fam m i) lot (carr lot m)) (dAt q kk vs os c i) := by
            unfold swS
            rw [if_neg hb, if_neg hb2, hgs]
          have hod : IsOrd sc.o (dAt q kk vs os c i).length := by rw [hdl]; exact hor
          refine ss_append (l := l) (ts := ((swp q m fam lot kk vs os c).st.take i).map (tSC K)) (ts0 := ((swp q m fam lot kk vs os c).st.take i).map (tSC K)) (R := tSC K (psd q sc (hsA fam m i) m (carr lot m) (hid (hsA fam m i) lot (carr lot m)) (dAt q kk vs os c i))) 0 (e_var 15)
            (e_call (S := S_passed_on K) (q, m, r, hsA fam m i, sc, dAt q kk vs os c i, carr lot m, hid (hsA fam m i) lot (carr lot m)) (ok_passed_on T) hr (ea_cons (e_var 0) (ea_cons (e_var 17) (ea_cons (e_var 18) (ea_cons (e_var 1) (ea_cons (e_var 11) (ea_cons (e_var 19) (ea_cons (e_var 12) ea_nil))))))) hsw) ?_ (by rw [List.length_map]; omega)
          refine ss_asg (R := tIs (mv 0 (dAt q kk vs os c i) sc.o)) 12 sc_swapped.nd (Et.is (e_call (S := S_moved) ((dAt q kk vs os c i).map tI, sc.o) (ok_moved T) hr (ea_cons (e_var 12) (ea_cons (e_fld (e_var 17) ins T.c_StageCoins T.n_StageCoins_order (by kernel_rfl)) ea_nil)) (by show IsOrd sc.o ((dAt q kk vs os c i).map tI).length; rw [List.length_map]; exact hod)) (by show tL _ = tL _; rw [mvT_map tI 0 hod])) ?_
          refine ss_asg 14 sc_swapped.nd (e_call (S := S_chained) (bAt r kk c i, sc.o, r) (ok_chained T) hr (ea_cons (e_var 14) (ea_cons (e_fld (e_var 17) ins T.c_StageCoins T.n_StageCoins_order (by kernel_rfl)) ea_nil)) ⟨hbo, hor⟩) (ss_go (ss_next () trivial (hg := ?_) (ho := ?_)))
          · show GLe [_, _, _, _, _, _, _, _, _, _, _, _, some (tIs (dAt q kk vs os c (i + 1))), _, some (tNs (bAt r kk c (i + 1))), _, _, _, _, _, _, _, _, _] _
            rw [e1, e2]
            repeat (first | exact GLe.nil | apply GLe.skip | apply GLe.same)
          · show [(l, Ch.lst (((swp q m fam lot kk vs os c).st.take (i + 1)).map (tSC K)))] = _
            rw [htk i hi, e]
            rfl
    · have e : (swp q m fam lot kk vs os c).st.take (c.st.map (tSC K)).length = (swp q m fam lot kk vs os c).st := by rw [hct, ← hsl, List.take_length]
      rw [e]
      refine ss_freeze (l := l) (ts := (swp q m fam lot kk vs os c).st.map (tSC K)) 15 0 ?_ hl
      refine ss_retp (e_make (S := I_RunCoins K) (swp q m fam lot kk vs os c) (ok_RunCoins T) hr (ea_cons (e_var 13) (ea_cons (e_var 15) ea_nil)) ?_) hR
      show (ndr q c.v (carr lot m) (dif q vs os)).length ≤ 1000
      rw [ndr_len (by rw [hp.rc.v.1]; exact hdl.symm), hp.rc.v.1]
      omega
end
end Vc
set_option maxHeartbeats 4000000
/-! VcE4: the law's words: cells, rows, the box, draws -/
namespace Vc
open PySem PySem.Spec L2
theorem upd_self {H : Hp} {l : Addr} {o : HO} (h : H l = some o) : upd H l o = H := by
  funext b
  unfold upd
  split
  · rename_i q
    rw [q, h]
  · rfl
/-- the script -/
def tScr (K : PySem.W.Frag) (ns : List Int) : Ty := ⟨fun v H => ∃ a, v = .ref a ∧ SqL K H a (ns.map V.int), fun s ⟨a, e, h⟩ => ⟨a, e, by
  rcases h with h | h
  · rcases h with h | ⟨o, h⟩
    · exact .inl (.inl (s _ _ h))
    · exact .inl (.inr ⟨o, s _ _ h⟩)
  · exact .inr h⟩⟩
section
variable {X : Cx} {B : Bs} {G : Gm} {O O1 O2 : Om} {a b c e o : Expr} {es : List Expr} {R R1 : Ty} {Rs : List Ty} {pos p : Pos} {m k n : Nat} {x : Str} {rest : List Stmt} {D : Ends} {C l : Addr} {i : Int} {ts : List Ty}
theorem Sat.chunk {σ : L2.St} {H Ha : Hp} {c c' : Ch} (s : Sat B G O σ H Ha) (hk : O[k]? = some (l, c)) (w : ∀ o, c.ok H o → c'.ok H o) : Sat B G (O.set k (l, c')) σ H Ha := by
  obtain ⟨o, ho, hc⟩ := s.read hk
  have r := s.write hk (w o hc)
  rw [upd_self ho] at r
  exact r
/-- an owned list's item, opened -/
theorem ss_openL {α : Type} {P : α → Prop} {U : α → Ty} (k j : Nat) (r : ∀ z, P z → SS X rest (Sat B G (O.set k (l, .lst (ts.set j (U z))))) D) (hk : O[k]? = some (l, .lst ts) := by rfl) (hj : ts[j]? = some (tEx P U) := by rfl) : SS X rest (Sat B G O) D := fun σ H Ha s => by
  obtain ⟨ob, ho, hc⟩ := s.read hk
  obtain ⟨vs, rfl, al⟩ := Ch.lst_inv hc
  obtain ⟨v, hv, z, hz, hu⟩ := al.get hj
  have al' : AllT H (ts.set j (U z)) vs := by
    refine ⟨by rw [List.length_set]; exact al.1, fun q T w hT hw => ?_⟩
    by_cases e : j = q
    · subst e
      rw [List.getElem?_set_self (List.getElem?_eq_some_iff.mp hj).1] at hT
      cases hT
      rw [hv] at hw
      cases hw
      exact hu
    · rw [List.getElem?_set_ne e] at hT
      exact al.2 q T w hT hw
  have w := s.write (c' := .lst (ts.set j (U z))) (o' := .lst vs) hk al'
  rw [upd_self ho] at w
  exact r z hz σ H Ha w
theorem e_lenS {ns : List Int} (h : E X B G O e (tScr X.K ns) O1) (hm : X.mg "len" = none) (hg : Gl X "len" := by rfl) (he : starEach [e] X.env = (false, eval e X.env) :: starEach [] X.env := by rfl) (hpl : (backTo pos (starEach [] X.env)).any (·.1) = false := by rfl) :
    E X B G O (.Call (.Name "len" p) [e] [] pos) (tN ns.length) O1 :=
  Et.of (pe_callB call_len_seq hg hm PySem.boot_len (pa_cons ew pa_nil he) (by decide) (by decide) he hpl) fun σ H Ha s Q q => h σ H Ha s _ fun v H1 Ha1 s1 k1 r1 => by
    obtain ⟨a, rfl, hv⟩ := (tScr X.K ns).mono k1.ha r1
    exact ⟨a, _, rfl, .inl hv, q _ H1 Ha1 s1 k1 (by show V.int _ = V.int _; rw [List.length_map])⟩
theorem e_ixS {ns : List Int} {v : Int} (h : E X B G O a (tScr X.K ns) O1) (hi : E X B G O1 b (tN n) O2) (hn : ns[n]? = some v) (hs : PlainIx b := by exact fun _ _ => rfl) : E X B G O (.Subscript a b pos) (tI v) O2 :=
  Et.of (pe_ix ix_list ew ew hs) (et_op h hi fun σ H Ha u w s r1 r2 Q q => by
    obtain ⟨l, rfl, hv⟩ := (tScr X.K ns).mono s.ha r1
    exact ⟨l, _, (n : Int), .int v, rfl, r2, hv, atI_nat (by rw [List.getElem?_map, hn]; rfl), q _ H Ha (.refl _) s rfl⟩)
/-- xs + ys, ys there -/
theorem eo_catX {α : Type} {P : α → Prop} {f : α → List Ty} {N : Nat} (ha : E X B G O a (tL ts) O1) (hb : E X B G O1 b (tEx P fun y => tL (f y)) O2) (hz : ∀ y, P y → ts.length + (f y).length ≤ 10000) : Eo B (EW X (.BinOp a .Add b pos)) (Sat B G O) (fun l σ H Ha => ∃ y, P y ∧ Sat B G (O2 ++ [(l, .lst (ts ++ f y))]) σ H Ha) :=
  Eo.of (pe_op op_cat ew ew) fun σ H Ha s Q q => ha σ H Ha s _ fun v H1 Ha1 s1 z1 r1 => hb σ H1 Ha1 z1 _ fun w H2 Ha2 s2 z2 ⟨y, hy, r2⟩ => by
    obtain ⟨l1, vs, rfl, hv, al⟩ := (tL ts).mono s2 r1
    obtain ⟨l2, ws, rfl, hw, bl⟩ := r2
    have hzz := hz y hy
    refine ⟨l1, l2, vs, ws, rfl, rfl, z2.ha _ _ hv, z2.ha _ _ hw, ?_, eo_new z2 (al.append bl) fun l H3 Ha3 b s3 k3 => q l H3 Ha3 b ((s1.trans s2).trans s3) ⟨y, hy, k3⟩⟩
    rw [← al.1, ← bl.1, sizeLine_eq]
    omega
end
abbrev tA : Ty := tEx (fun _ : Int => True) tI
section
variable {P : Program} {w : World} {K : PySem.W.Frag} {mg : Str → Option Value} {base : Heap}
def S_cell (K : PySem.W.Frag) : Spec (List Int × Nat) := ⟨fun _ => True, fun z => [tScr K z.1, tN z.2], fun _ => tA⟩
theorem ok_cell (T : Tx K mg) : DefOk P w K mg base 1 "_law_cell" [] (S_cell K).sp :=
  T.k__law_cell fun fd F => (S_cell K).ok F sc__law_cell (fun _ _ => rfl) fun p B rt ⟨ns, k⟩ hr hp hR => by
    refine ss_if (t_lt (e_var 1) (e_lenS (ns := ns) (e_var 0) T.f_len)) (fun hb => ?_) (fun hb => ss_go (ss_retp (Et.to (R1 := tA) e_int fun v H h => ⟨0, trivial, h⟩) hR))
    have hk : k < ns.length := by have := of_decide_eq_true hb; omega
    exact ss_retp (Et.to (R1 := tA) (e_ixS (ns := ns) (n := k) (e_var 0) (e_var 1) (gd 0 hk)) fun v H h => ⟨_, trivial, h⟩) hR
def S_row : Spec (Int × Nat × Nat) := ⟨fun z => z.2.2 ≤ 12, fun z => [tI z.1, tN z.2.1, tN z.2.2], fun z => tEx (fun xs : List Int => xs.length ≤ z.2.2) tIs⟩
theorem ok_row (T : Tx K mg) : DefOk P w K mg base 1 "_law_row" [] S_row.sp :=
  T.k__law_row fun fd F => S_row.ok F sc__law_row (fun _ _ => rfl) fun p B rt ⟨c, k, n⟩ hr hp hR => by
    have hn : n ≤ 12 := hp
    refine ss_asgO 3 sc__law_row.nd (eo_lst ea_nil (by decide)) fun l hl => ?_
    have fin : ∀ c : Int, SS (XD P w K mg base N__law_row "_law_row" (defScope s__law_row) p) ((defBody s__law_row).drop 2) (Sat B [some (tI c), some (tN k), some (tN n), some (tRef l), none, none] [(l, .lst [])]) (DR rt) := fun c => by
      refine ss_if (t_ge (e_var 0) (e_pow e_int e_int ⟨by decide, by decide, by decide⟩)) (fun hb => ?_) (fun hb => ss_go ?_)
      · refine ss_forR (n := 60) (fun i (z : Int × List Int) => z.2.length ≤ n) (fun i z => [some (tI z.1), some (tN k), some (tN n), some (tRef l), none, none]) (fun i z => [(l, .lst (z.2.map tI))]) 5 rfl sc__law_row.nd PassesOwn.never T.f_range e_int (by decide) (c, []) (Nat.zero_le _) (fun i z kb hi hJ => ?_) (fun z hJ => ?_)
        · obtain ⟨c, xs⟩ := z
          have hJ : xs.length ≤ n := hJ
          refine ss_if (t_and (t_gt (e_var 0) e_int) (fun _ => t_lt (e_len (e_var 3) (lso 0) T.f_len) (e_var 2))) (fun hb => ?_) (fun hb => ss_go (ss_next (c, xs) hJ))
          have hb2 : ((xs.map tI).length : Int) < (n : Int) := of_decide_eq_true (Bool.and_eq_true_iff.mp hb).2
          rw [List.length_map] at hb2
          refine ss_append (l := l) (ts := xs.map tI) (ts0 := xs.map tI) (R := tI (c % 1000)) 0 (e_var 3) (e_mod (e_intOf (e_var 0) T.f_int) e_int (by decide)) ?_ (by rw [List.length_map]; omega)
          refine ss_asg (R := tI (c / 1000)) 0 sc__law_row.nd (e_fdiv (e_var 0) e_int ⟨by decide, by decide⟩) (ss_go (ss_next (c / 1000, xs ++ [c % 1000]) ?_ (ho := ?_)))
          · show (xs ++ [c % 1000]).length ≤ n
            rw [List.length_append, List.length_singleton]
            omega
          · show [(l, Ch.lst ((xs ++ [c % 1000]).map tI))] = _
            rw [List.map_append]
            rfl
        · obtain ⟨c, xs⟩ := z
          have hJ : xs.length ≤ n := hJ
          exact ss_freeze (l := l) (ts := xs.map tI) 3 0 (ss_retp (Et.to (R1 := tEx (fun xs : List Int => xs.length ≤ n) tIs) (e_var 3) fun v H h => ⟨xs, hJ, h⟩) hR) hl
      · refine ss_asg 4 sc__law_row.nd (e_mod (e_intOf (e_add (e_add (e_mul (e_var 0) e_int (.inr ⟨by decide, by decide⟩)) (e_mul (e_var 1) e_int (.inr ⟨by decide, by decide⟩))) e_int) T.f_int) e_int (by decide)) ?_
        refine ss_forR (n := n) (fun i (z : Int × List Int) => z.2.length = i) (fun i z => [some (tI c), some (tN k), some (tN n), some (tRef l), some (tI z.1), none]) (fun i z => [(l, .lst (z.2.map tI))]) 5 rfl sc__law_row.nd PassesOwn.never T.f_range (e_var 2) (by omega) (_, []) rfl (fun i z kb hi hJ => ?_) (fun z hJ => ?_)
        · obtain ⟨sd, xs⟩ := z
          have hJ : xs.length = i := hJ
          refine ss_asg 4 sc__law_row.nd (e_mod (e_intOf (e_add (e_add (e_mul (e_var 4) e_int (.inr ⟨by decide, by decide⟩)) (e_mul e_int (e_var 5) (.inl ⟨by decide, by decide⟩))) e_int) T.f_int) e_int (by decide)) ?_
          generalize (sd * 16807 + 7 * (i : Int) + 1) % 2147483647 = sd2
          refine ss_append (l := l) (ts := xs.map tI) (ts0 := xs.map tI) (R := tI (sd2 / 997 % 1000)) 0 (e_var 3) (e_mod (e_intOf (e_fdiv (e_var 4) e_int ⟨by decide, by decide⟩) T.f_int) e_int (by decide)) (ss_next (sd2, xs ++ [sd2 / 997 % 1000]) ?_ (ho := ?_)) (by rw [List.length_map]; omega)
          · show (xs ++ [_]).length = i + 1
            rw [List.length_append, List.length_singleton, hJ]
          · show [(l, Ch.lst ((xs ++ [_]).map tI))] = _
            rw [List.map_append]
            rfl
        · obtain ⟨sd, xs⟩ := z
          have hJ : xs.length = n := hJ
          exact ss_freeze (l := l) (ts := xs.map tI) 3 0 (ss_retp (Et.to (R1 := tEx (fun xs : List Int => xs.length ≤ n) tIs) (e_var 3) fun v H h => ⟨xs, Nat.le_of_eq hJ, h⟩) hR) hl
    refine ss_if (t_lt (e_var 0) e_int) (fun _ => ?_) (fun _ => ss_go (fin c))
    exact ss_asg (R := tI (1 - 2 * c)) 0 sc__law_row.nd (e_sub e_int (e_mul e_int (e_var 0) (.inl ⟨by decide, by decide⟩))) (ss_go (fin _))
/-! ### the box -/
abbrev tNx : Ty := tEx (fun _ : Nat => True) tN
abbrev tBx : Ty := tEx (fun xs : List Int => xs.length ≤ 400) tIs
def S_box (K : PySem.W.Frag) : SpecO (List Int) := ⟨fun _ => True, fun ns => [tScr K ns, tN 0, tN 30], fun _ => [tBx, tN 0]⟩
theorem ok_box (T : Tx K mg) : DefOk P w K mg base 2 "_law_box" [] (S_box K).sp :=
  T.k__law_box fun fd F => (S_box K).ok F sc__law_box (fun _ _ => rfl) fun p B rt ns hr hp hR => by
    refine ss_asg (R := tIs []) 3 sc__law_box.nd (e_lst ea_nil (by decide)) ?_
    refine ss_forR2 (lo := 0) (n := 30) (fun i (xs : List Int) => xs.length ≤ 12 * i) (fun i xs => [some (tScr K ns), some (tN 0), some (tN 30), some (tIs xs), none]) (fun _ _ => []) 4 rfl sc__law_box.nd PassesOwn.never T.f_range (e_var 1) (e_var 2) (by decide) (by decide) [] (Nat.zero_le _) (fun i xs kb hi hJ => ?_) (fun xs hJ => ?_)
    · have hJ : xs.length ≤ 12 * i := hJ
      refine ss_asgOX (P := fun ys : List Int => ys.length ≤ 12) (O' := fun l ys => [] ++ [(l, .lst (xs.map tI ++ ys.map tI))]) 3 sc__law_box.nd (eo_catX (N := 0) (P := fun ys : List Int => ys.length ≤ 12) (f := fun ys => ys.map tI) (e_var 3) (e_callG (S := S_row) (R := tEx (fun ys : List Int => ys.length ≤ 12) tIs) (ok_row T) hr (ea_cons (e_call (S := S_cell K) (ns, 0 + i) (ok_cell T) hr (ea_cons (e_var 0) (ea_cons (e_var 4) ea_nil)) trivial) (ea_cons (e_var 4) (ea_cons e_int ea_nil))) fun H vs al => ?_) (fun ys hy => by rw [List.length_map, List.length_map]; omega)) fun l ys hl hy => ?_
      · obtain ⟨v, vs', rfl, ⟨c, _, hc⟩, al2⟩ := al.uncons
        exact ⟨(c, 0 + i, 12), Nat.le_refl _, .cons hc al2, fun v H' h => h⟩
      · refine ss_freeze (l := l) (ts := xs.map tI ++ ys.map tI) 3 0 ?_ hl
        refine ss_next (xs ++ ys) ?_ (hg := ?_)
        · show (xs ++ ys).length ≤ 12 * (i + 1)
          rw [List.length_append]
          omega
        · show GLe [_, _, _, some (tL ((xs ++ ys).map tI)), _] _
          rw [List.map_append]
          repeat (first | exact GLe.nil | apply GLe.skip | apply GLe.same)
    · have hJ : xs.length ≤ 12 * (30 - 0) := hJ
      exact ss_of (ps_ret ew) fun σ H Ha s => (eo_lst (ts := [tBx, tN 0]) (ea_cons (Et.to (R1 := tBx) (e_var 3) fun v H h => ⟨xs, by omega, h⟩) (ea_cons e_int ea_nil)) (by decide)) σ H Ha s _ fun l H1 Ha1 hl s1 k1 => hR σ _ l H1 Ha1 hl k1
def drw (xs : List Int) (k n : Nat) : Nat := ((if k < xs.length then xs.getD k 0 else (k : Int) * 7 + 3) % (n : Int)).toNat
theorem drw_lt {xs : List Int} {k n : Nat} (h : 0 < n) : drw xs k n < n := by
  have := Int.emod_lt_of_pos (if k < xs.length then xs.getD k 0 else (k : Int) * 7 + 3) (show (0 : Int) < (n : Int) by omega)
  unfold drw
  omega
theorem drw_cast {xs : List Int} {k n : Nat} (h : 0 < n) : (if k < xs.length then xs.getD k 0 else (k : Int) * 7 + 3) % (n : Int) = ((drw xs k n : Nat) : Int) := by
  have := Int.emod_nonneg (if k < xs.length then xs.getD k 0 else (k : Int) * 7 + 3) (show (n : Int) ≠ 0 by omega)
  unfold drw
  omega
structure DrI where
  l : Addr
  xs : List Int
  k : Nat
  n : Nat
def S_draw : Spec2 DrI := ⟨fun z => 0 < z.n, fun z => z.l, fun z => [tRef z.l, tN z.n], fun z => .lst [tIs z.xs, tN z.k], fun z => .lst [tIs z.xs, tN (z.k + 1)], fun z => tN (drw z.xs z.k z.n)⟩
theorem ok_draw (T : Tx K mg) : DefOk P w K mg base 1 "_law_draw" [] S_draw.sp :=
  T.k__law_draw fun fd F => S_draw.ok F sc__law_draw (fun _ _ => rfl) fun p B rt ⟨l, xs, k, n⟩ hr hp hF hB hR => by
    have hn : 0 < n := hp
    refine ss_asg (R := tN k) 2 sc__law_draw.nd (e_ixI (e_var 0) (lso 0) e_int rfl) ?_
    refine ss_setItem (l := l) (n := 1) (ts := [tIs xs, tN k]) (R := tN (k + 1)) 0 (Et.is (e_add (i := (k : Int)) (j := 1) (e_var 2) e_int) (tnI (by omega))) (e_var 0) e_int ?_ (Nat.le_of_ble_eq_true rfl)
    refine ss_if (t_lt (e_var 2) (e_len (ts := xs.map tI) (e_ixI (e_var 0) (lso 0) e_int rfl) ls T.f_len)) (fun hb => ?_) (fun hb => ss_go ?_)
    · have hk : ((k : Int) < ((xs.map tI).length : Int)) := of_decide_eq_true hb
      rw [List.length_map] at hk
      have hk : k < xs.length := by omega
      have e := drw_cast (xs := xs) (k := k) hn
      rw [if_pos hk] at e
      refine ss_ret (Et.is (e_mod (e_intOf (e_ix (ts := xs.map tI) (e_ixI (e_var 0) (lso 0) e_int rfl) ls (e_var 2) (putM tI (gd 0 hk))) T.f_int) (e_var 1) (by omega)) (congrArg tI e)) fun σ v H Ha s r => hR σ _ v H Ha s r
    · have hk : ¬ ((k : Int) < ((xs.map tI).length : Int)) := of_decide_eq_false hb
      rw [List.length_map] at hk
      have hk : ¬ k < xs.length := by omega
      have e := drw_cast (xs := xs) (k := k) hn
      rw [if_neg hk] at e
      exact ss_ret (Et.is (e_mod (e_intOf (e_add (e_mul (e_var 2) e_int (.inr ⟨by decide, by decide⟩)) e_int) T.f_int) (e_var 1) (by omega)) (congrArg tI e)) fun σ v H Ha s r => hR σ _ v H Ha s r
end
end Vc
set_option maxHeartbeats 4000000
/-! VcE5: the law's family, size, world -/
namespace Vc
open PySem PySem.Spec L2
theorem filt_lt {b : Nat → Bool} {m : Nat} (h : ((List.range m).filter b).length < m) : ∃ x, x < m ∧ b x = false := by
  by_cases q : ∀ x, x < m → b x = true
  · rw [List.filter_eq_self.mpr (fun x hx => q x (List.mem_range.mp hx)), List.length_range] at h
    omega
  · obtain ⟨x, hx⟩ := Classical.not_forall.mp q
    obtain ⟨h1, h2⟩ := Classical.not_imp.mp hx
    exact ⟨x, h1, by simpa using h2⟩
theorem filt_ne {b : Nat → Bool} {m : Nat} (h : ((List.range m).filter b).length ≠ m) : ∃ x, x < m ∧ b x = false := by
  refine filt_lt (Nat.lt_of_le_of_ne ?_ h)
  have := List.length_filter_le b (List.range m)
  rw [List.length_range] at this
  exact this
theorem boxW {xs : List Int} {k : Nat} (H : Hp) (o : HO) (h : (Ch.lst [tIs xs, tN k]).ok H o) : (Ch.lst [tIs xs, tNx]).ok H o := by
  obtain ⟨vs, rfl, al⟩ := Ch.lst_inv h
  obtain ⟨v, vs', rfl, h1, al2⟩ := al.uncons
  obtain ⟨u, us', rfl, h2, al3⟩ := al2.uncons
  obtain rfl := al3.unnil
  exact AllT.cons h1 (.cons ⟨k, trivial, h2⟩ .nil)
theorem ss_chunk {X : Cx} {B : Bs} {G : Gm} {O : Om} {rest : List Stmt} {D : Ends} {l : Addr} {c c' : Ch} (k : Nat) (w : ∀ H o, c.ok H o → c'.ok H o) (r : SS X rest (Sat B G (O.set k (l, c'))) D) (hk : O[k]? = some (l, c) := by rfl) : SS X rest (Sat B G O) D :=
  ss_pre (fun σ H Ha s => ⟨H, s.chunk hk (w H)⟩) r
section
variable {P : Program} {w : World} {K : PySem.W.Frag} {mg : Str → Option Value} {base : Heap}
structure FaI where
  l : Addr
  xs : List Int
  k : Nat
  m : Nat
def FamOk (fam : List (List Nat)) (m : Nat) : Prop := (∀ a ∈ fam, IsLot a m) ∧ ∀ a ∈ fam, ∀ b ∈ fam, NoCover a b m
theorem NoCover.symm {a b : List Nat} {m : Nat} (h : NoCover a b m) : NoCover b a m := let ⟨x, h1, h2, h3⟩ := h; ⟨x, h1, h3, h2⟩
theorem FamOk.snoc {fam : List (List Nat)} {m : Nat} {a : List Nat} (h : FamOk fam m) (h1 : IsLot a m) (h2 : NoCover a a m) (h3 : ∀ b ∈ fam, NoCover a b m) : FamOk (fam ++ [a]) m := by
  refine ⟨fun x hx => ?_, fun x hx y hy => ?_⟩
  · rcases List.mem_append.mp hx with hx | hx
    · exact h.1 x hx
    · rw [List.mem_singleton.mp hx]; exact h1
  · rcases List.mem_append.mp hx with hx | hx <;> rcases List.mem_append.mp hy with hy | hy
    · exact h.2 x hx y hy
    · rw [List.mem_singleton.mp hy]; exact (h3 x hx).symm
    · rw [List.mem_singleton.mp hx]; exact h3 y hy
    · rw [List.mem_singleton.mp hx, List.mem_singleton.mp hy]; exact h2
def S_family : Spec2 FaI := ⟨fun z => 1 ≤ z.m ∧ z.m ≤ 5, fun z => z.l, fun z => [tRef z.l, tN z.m], fun z => .lst [tIs z.xs, tN z.k], fun z => .lst [tIs z.xs, tNx], fun z => tEx (fun fam : List (List Nat) => IsFam fam z.m ∧ 0 < fam.length) tF⟩
theorem ok_family (T : Tx K mg) : DefOk P w K mg base 2 "_law_family" [] S_family.sp :=
  T.k__law_family fun fd F => S_family.ok F sc__law_family (fun _ _ => rfl) fun p B rt ⟨l, xs, k, m⟩ hr hp hF hB hR => by
    have hp : 1 ≤ m ∧ m ≤ 5 := hp
    obtain ⟨hm1, hm5⟩ := hp
    refine ss_asgO (O' := fun l2 => [(l, .lst [tIs xs, tN k]), (l2, .lst [])]) 2 sc__law_family.nd (eo_lst ea_nil (by decide)) fun l2 hl2 => ?_
    have h40 := drw_lt (xs := xs) (k := k) (n := 4) (by decide)
    refine ss_forR (n := drw xs k 4) (O1 := [(l, .lst [tIs xs, tN (k + 1)]), (l2, .lst [])]) (fun i (z : Nat × List (List Nat)) => FamOk z.2 m ∧ z.2.length ≤ i) (fun i z => [some (tRef l), some (tN m), some (tRef l2), none, none, none, none, none]) (fun i z => [(l, .lst [tIs xs, tN z.1]), (l2, .lst (z.2.map tNs))]) 3 rfl sc__law_family.nd PassesOwn.never T.f_range (e_call2 (S := S_draw) ⟨l, xs, k, 4⟩ 0 (ok_draw T) hr (ea_cons (e_var 0) (ea_cons e_int ea_nil)) (show 0 < 4 by decide)) (by have := drw_lt (xs := xs) (k := k) (n := 4) (by decide); omega) (k + 1, []) ⟨⟨fun a h => (nomatch h), fun a h => (nomatch h)⟩, Nat.le_refl _⟩ (fun i z kb hi hJ => ?_) (fun z hJ => ?_)
    · obtain ⟨k, fam⟩ := z
      obtain ⟨hJ1, hJ2⟩ := hJ
      have hJ1 : FamOk fam m := hJ1
      have hJ2 : fam.length ≤ i := hJ2
      have hi4 : i < 4 := by omega
      let bl : Nat → Bool := fun j => decide (drw xs (k + j) 3 = 0)
      refine ss_asg (R := tNs ((List.range m).filter bl)) (O1 := [(l, .lst [tIs xs, tN (k + m)]), (l2, .lst (fam.map tNs))]) 4 sc__law_family.nd (Lc.e (lcRt (j := 7) (n := m) (b := bl) (U := fun j => tN j) (Oi := fun j => [(l, .lst [tIs xs, tN (k + j)]), (l2, .lst (fam.map tNs))]) (Oi' := fun j => [(l, .lst [tIs xs, tN (k + j + 1)]), (l2, .lst (fam.map tNs))]) (bk sc__law_family.nd) (e_var 1) (by omega) T.f_range
        (fun H1 j hj q s0 H0 C cl fp => ?_) (fun H1 j hj hb q s0 H0 C cl fp => e_var 7) (fun _ _ => rfl))) ?_
      · refine Tt.is (t_eq (e_call2 (S := S_draw) ⟨l, xs, k + j, 3⟩ 0 (ok_draw T) hr (ea_cons (e_var 0) (ea_cons e_int ea_nil)) (show 0 < 3 by decide)) e_int) ?_
        show decide (((drw xs (k + j) 3 : Nat) : Int) = 0) = decide (drw xs (k + j) 3 = 0)
        exact decide_eq_decide.mpr (by omega)
      generalize hlot : (List.range m).filter bl = lot
      have hil : IsLot lot m := by
        rw [← hlot]
        exact ⟨List.Pairwise.sublist List.filter_sublist List.pairwise_lt_range, fun x hx => List.mem_range.mp (List.mem_filter.mp hx).1⟩
      have hself : lot.length < m → NoCover lot lot m := fun h => by
        rw [← hlot] at h
        obtain ⟨x, h1, h2⟩ := filt_lt h
        have : x ∉ lot := by rw [← hlot]; exact fun z => by rw [(List.mem_filter.mp z).2] at h2; cases h2
        exact ⟨x, h1, this, this⟩
      refine ss_asg (R := tB (decide (lot.length < m))) 5 sc__law_family.nd (Et.is (e_cmpI (g := fun i j => decide (i < j)) op_lt (e_len (e_var 4) ls T.f_len) (e_var 1) (nomark _)) ?_) ?_
      · show tB (decide (((lot.map tN).length : Int) < (m : Int))) = _
        rw [List.length_map]
        exact congrArg tB (decide_eq_decide.mpr (by omega))
      refine ss_forO (ts := fam.map tNs) (l := l2) 1 (fun i (b : Bool) => b = true → lot.length < m ∧ ∀ (j : Nat) a, j < i → fam[j]? = some a → NoCover lot a m) (fun _ b => [some (tRef l), some (tN m), some (tRef l2), some (tN i), some (tNs lot), some (tB b), none, none]) 6 rfl sc__law_family.nd PassesOwn.never (e_var 2) (decide (lot.length < m)) (fun h => ⟨of_decide_eq_true h, fun j a hj => by omega⟩) (fun H1 vs q Tq b kb2 hT hJ => ?_) (fun b hJ => ?_)
      · obtain ⟨ot, hot, rfl⟩ := getM hT
        have hot : fam[q]? = some ot := hot
        let b2 : Nat → Bool := fun j => decide (j ∈ lot) || decide (j ∈ ot)
        refine ss_if (bb := decide (((List.range m).filter b2).length = m)) (Tt.is (t_eq (e_len (Lc.e (lcRt (j := 7) (n := m) (b := b2) (U := fun j => tN j) (Oi := fun _ => _) (Oi' := fun _ => _) (bk sc__law_family.nd) (e_var 1) (by omega) T.f_range (fun H1 j hj q s0 H0 C cl fp => t_or (t_in (e_var 7) (e_var 4) ls) (fun _ => t_in (e_var 7) (e_var 6) ls)) (fun H1 j hj hb q s0 H0 C cl fp => e_var 7) (fun _ _ => rfl))) ls T.f_len) (e_var 1)) ?_) (fun hb => ?_) (fun hb => ?_)
        · show decide (((((List.range m).filter b2).map tN).length : Int) = (m : Int)) = _
          rw [List.length_map]
          exact decide_eq_decide.mpr (by omega)
        · exact ss_asg 5 sc__law_family.nd e_bl (ss_go (ss_next false (fun h => nomatch h)))
        · have hne : ((List.range m).filter b2).length ≠ m := of_decide_eq_false hb
          obtain ⟨x, h1, h2⟩ := filt_ne hne
          have h3 := Bool.or_eq_false_iff.mp h2
          have hnc : NoCover lot ot m := ⟨x, h1, of_decide_eq_false h3.1, of_decide_eq_false h3.2⟩
          refine ss_go (ss_next b (fun hbt => ⟨(hJ hbt).1, fun j a hj ha => ?_⟩))
          by_cases e : j = q
          · subst e
            rw [hot] at ha
            cases ha
            exact hnc
          · exact (hJ hbt).2 j a (by omega) ha
      · refine ss_if (bb := b) (t_val (e_var 5)) (fun hb => ?_) (fun hb => ss_go (ss_next (k + m, fam) ⟨hJ1, Nat.le_succ_of_le hJ2⟩))
        obtain ⟨g1, g2⟩ := hJ hb
        rw [List.length_map] at g2
        refine ss_append (l := l2) (ts := fam.map tNs) (ts0 := fam.map tNs) (R := tNs lot) 1 (e_var 2) (e_var 4) (ss_go (ss_next (k + m, fam ++ [lot]) ⟨hJ1.snoc hil (hself g1) (fun a ha => ?_), ?_⟩ (ho := ?_))) (by rw [List.length_map]; omega)
        · obtain ⟨j, hj⟩ := List.getElem?_of_mem ha
          exact g2 j a (List.getElem?_eq_some_iff.mp hj).1 hj
        · show (fam ++ [lot]).length ≤ i + 1
          rw [List.length_append, List.length_singleton]
          omega
        · show [_, (l2, Ch.lst ((fam ++ [lot]).map tNs))] = _
          rw [List.map_append]
          rfl
    · obtain ⟨k2, fam⟩ := z
      obtain ⟨hJ1, hJ2⟩ := hJ
      have hJ1 : FamOk fam m := hJ1
      have hJ2 : fam.length ≤ drw xs k 4 := hJ2
      have fin : ∀ fam : List (List Nat), FamOk fam m → fam.length ≤ 10 → 0 < fam.length → SS (XD P w K mg base N__law_family "_law_family" (defScope s__law_family) p) ((defBody s__law_family).drop 3) (Sat B [some (tRef l), some (tN m), some (tRef l2), none, none, none, none, none] [(l, .lst [tIs xs, tN k2]), (l2, .lst (fam.map tNs))]) (DR rt) := fun fam h1 h2 h3 => by
        refine ss_freeze (l := l2) (ts := fam.map tNs) 2 1 ?_ hl2
        refine ss_chunk (l := l) (c := .lst [tIs xs, tN k2]) (c' := .lst [tIs xs, tNx]) 0 boxW ?_
        exact ss_ret (Et.to (R := tF fam) (R1 := tEx (fun fam : List (List Nat) => IsFam fam m ∧ 0 < fam.length) tF) (e_var 2) fun v H h => ⟨fam, ⟨⟨h1.1, h1.2, hm5, h2⟩, h3⟩, h⟩) fun σ v H Ha s r => hR σ _ v H Ha s r
      refine ss_if (t_not (t_lst (e_var 2) (lso 1))) (fun hb => ?_) (fun hb => ss_go (fin fam hJ1 (by omega) ?_))
      · have e : fam = [] := by
          cases fam with
          | nil => rfl
          | cons a f => cases hb
        subst e
        refine ss_append (l := l2) (ts := []) (ts0 := []) (R := tNs []) 1 (e_var 2) (e_lst ea_nil (by decide)) (ss_go (fin [[]] ⟨fun a ha => ?_, fun a ha b hb => ?_⟩ (Nat.le_of_ble_eq_true rfl) Nat.one_pos)) (by decide)
        · rw [List.mem_singleton.mp ha]
          exact ⟨List.Pairwise.nil, fun x hx => nomatch hx⟩
        · rw [List.mem_singleton.mp ha, List.mem_singleton.mp hb]
          exact ⟨0, by omega, fun h => (nomatch h), fun h => (nomatch h)⟩
      · cases fam with
        | nil => cases hb
        | cons a f => exact Nat.succ_pos _
end
end Vc
set_option maxHeartbeats 4000000
/-! VcE6: the law's size, world -/
namespace Vc
open PySem PySem.Spec L2
/-- a dict with these texts as keys -/
def tWd (ts : List (Str × Ty)) : Ty := ⟨fun v H => ∃ a kvs, v = .ref a ∧ H a = some (.dK kvs) ∧ ∀ f T, ts.lookup f = some T → ∃ u, valV kvs (.inr f) = some u ∧ T.p u H,
  fun s ⟨a, kvs, e, h, k⟩ => ⟨a, kvs, e, s _ _ h, fun f T q => let ⟨u, h1, h2⟩ := k f T q; ⟨u, h1, T.mono s h2⟩⟩⟩
theorem e_key {X : Cx} {B : Bs} {G : Gm} {O O1 : Om} {a : Expr} {pos p : Pos} {n : Nat} {f : Str} {j' : Nat} {U : Ty} {ts : List (Str × Ty)} (hr : Room n X.A) (h : E X B G O a (tWd ts) O1) (hl : ts.lookup f = some U) (hs : NoSl (.Constant (.str f) j' p) := by exact fun _ _ => rfl) : E X B G O (.Subscript a (.Constant (.str f) j' p) pos) U O1 :=
  Et.of (pe_dget (hu_of hr) ew pe_str hs) fun σ H Ha s Q q => h σ H Ha s _ fun v H1 Ha1 s1 k1 ⟨d, kvs, e, hd, hk⟩ => by
    obtain ⟨u, h1, h2⟩ := hk f U hl
    exact ⟨d, u, e, h1 ▸ DGet.k (k := .inr f) (k1.ha _ _ hd), q u H1 Ha1 s1 k1 h2⟩
structure WD where
  p : Nat
  m : Nat
  r : Nat
  fam : List (List Nat)
  vs : List Int
  ns : List Int
structure WdOk (W : WD) : Prop where
  sh : Shp W.p W.m W.r W.fam
  fm : IsFam W.fam W.m
  f0 : 0 < W.fam.length
  r1 : 0 < W.r
  vo : VotOk W.p W.r W.vs
  nl : W.ns.length = sizeN W.m W.fam W.r
abbrev tW (W : WD) (l : Addr) : Ty := tWd [(("prime" : Str), tN W.p), (("mixers" : Str), tN W.m), (("family" : Str), tF W.fam), (("votes" : Str), tIs W.vs), (("numbers" : Str), tIs W.ns), (("box" : Str), tRef l)]
section
variable {P : Program} {w : World} {K : PySem.W.Frag} {mg : Str → Option Value} {base : Heap}
theorem ok_lhold (T : Tx K mg) : DefOk P w K mg base 1 "_law_holders" [] S_holders.sp :=
  T.k__law_holders fun fd F => S_holders.ok F sc__law_holders (fun _ _ => rfl) fun p B rt ⟨lot, m⟩ hr hp hR =>
    ss_retp (Lc.e (lcRt (j := 2) (n := m) (b := fun i => !decide (i ∈ lot)) (U := fun i => tN i) (Oi := fun _ => []) (Oi' := fun _ => []) (bk sc__law_holders.nd) (e_var 1) (by have : m ≤ 5 := hp; omega) T.f_range
      (fun H1 i hi q s0 H0 C cl fp => t_notIn (e_var 2) (e_var 0) ls) (fun H1 i hi hb q s0 H0 C cl fp => e_var 2) (fun _ _ => rfl))) hR
theorem ok_lsize (T : Tx K mg) : DefOk P w K mg base 2 "_law_size" [] S_size.sp :=
  T.k__law_size fun fd F => S_size.ok F sc__law_size (fun _ _ => rfl) fun p B rt ⟨m, fam, r⟩ hr hp hR => by
    have hp : m ≤ 5 ∧ r ≤ 5 ∧ fam.length ≤ 10 := hp
    obtain ⟨hm5, hr5, hf⟩ := hp
    have hr1 : r ≤ 1000 := by omega
    have hm1 : m ≤ 1000 := by omega
    refine ss_asg 3 sc__law_size.nd (e_mul (e_var 2) (e_sub (e_var 0) e_int) (.inr ⟨by omega, by omega⟩)) ?_
    refine ss_forL (ζ := Unit) (ts := fam.map tNs) (fun _ _ => True) (fun i _ => [some (tN m), some (tF fam), some (tN r), some (tI ((r : Int) * ((m : Int) - 1) + ((fam.take i).map fun lot => stageSize m lot r).sum)), none, none]) (fun _ _ => []) 4 rfl sc__law_size.nd PassesOwn.never (e_var 1) () trivial (hg := ?_) (fun H1 i Ti z kb hT _ => ?_) (fun _ _ => ?_)
    · obtain ⟨lot, hlot, rfl⟩ := getM hT
      have hlot : fam[i]? = some lot := hlot
      have h1 := holders_len lot m
      have hl1 : (holders lot m).length ≤ 1000 := by omega
      refine ss_asg (R := tN (holders lot m).length) 5 sc__law_size.nd (Et.is (e_len (e_call (S := S_holders) (lot, m) (ok_lhold T) hr (ea_cons (e_var 4) (ea_cons (e_var 0) ea_nil)) hm5) ls T.f_len) (show tN ((holders lot m).map tN).length = tN (holders lot m).length by rw [List.length_map])) ?_
      refine ss_asg (R := tI ((r : Int) * ((m : Int) - 1) + ((fam.take (i + 1)).map fun lot => stageSize m lot r).sum)) 3 sc__law_size.nd (Et.is (e_add (e_add (e_add (e_var 3) (e_mul (e_mul (e_sub (e_var 0) (e_var 5)) (e_var 2) (.inr (smN hr1))) (e_sub (e_var 5) e_int) (.inr (smN1 hl1)))) e_int) (e_mul (e_mul (e_var 5) (e_var 2) (.inr (smN hr1))) (e_sub (e_var 0) e_int) (.inr (smN1 hm1)))) ?_) (ss_next () trivial)
      rw [List.take_add_one, hlot, List.map_append, List.sum_append]
      show tI _ = tI (_ + (_ + (stageSize m lot r + 0)))
      unfold stageSize
      congr 1
      generalize ((m : Int) - ((holders lot m).length : Nat)) * (r : Int) * (((holders lot m).length : Nat) - 1) = A
      generalize (((holders lot m).length : Nat) : Int) * (r : Int) * ((m : Int) - 1) = B
      omega
    · refine ss_retp (Et.is (e_var 3) ?_) hR
      show tI _ = tI (rsize m fam r)
      unfold rsize
      rw [List.length_map, List.take_length]
    · show GLe [_, _, _, some (tI ((r : Int) * ((m : Int) - 1) + 0)), _, _] _
      rw [Int.add_zero]
      repeat (first | exact GLe.nil | apply GLe.skip | apply GLe.same)
/-! ### the world -/
def sp_world (K : PySem.W.Frag) : Sp := fun vs Ha Q _ => ∃ (ns : List Int) (H : Hp), Same H Ha ∧ AllT H [tScr K ns, tN 4] vs ∧
  ∀ (W : WD) (xs : List Int) (l : Addr) (v : V) (H' Ha' : Hp), WdOk W → Stp F0 H Ha H' Ha' → Ha l = none → H' l = none → (∃ o, Ha' l = some o ∧ (Ch.lst [tIs xs, tNx]).ok H' o) → (tW W l).p v H' → Q v Ha'
theorem min_tI {p s : Nat} {v : V} {H : Hp} (h : (tEx (fun m : Int => m ∈ [(p : Int), (s : Int)] ∧ ∀ y, y ∈ [(p : Int), (s : Int)] → m ≤ y) tI).p v H) : (tN (min p s)).p v H := by
  obtain ⟨y, ⟨h1, h2⟩, e⟩ := h
  have g1 := h2 p (by simp)
  have g2 := h2 s (by simp)
  have : y = ((min p s : Nat) : Int) := by
    rcases List.mem_cons.mp h1 with q | q
    · omega
    · have q := List.mem_singleton.mp q
      omega
  rw [this] at e
  exact e
theorem ok_world (T : Tx K mg) : DefOk P w K mg base 3 "_law_world" [] (sp_world K) :=
  T.k__law_world fun fd F => F.ok sc__law_world (fun vs H Q E ⟨ns, H0, _, al, _⟩ => by rw [← al.1]; rfl) fun cdv A outer s Ha vs Q E hr ⟨ns, H, sm, al, hQ⟩ =>
    ⟨_, PSs.nox sw, by
      have key : ∀ (pr : Par) (B : Bs), Room 2 (XD P w K mg base N__law_world "_law_world" (defScope s__law_world) pr).A → (∀ σ G W xs l v H' Ha', B.Ha l = none → WdOk W → Sat B G [(l, .lst [tIs xs, tNx])] σ H' Ha' → (tW W l).p v H' → Q v Ha') →
          SS (XD P w K mg base N__law_world "_law_world" (defScope s__law_world) pr) (defBody s__law_world) (Sat B [some (tScr K ns), some (tN 4), none, none, none, none, none, none, none, none, none, none] []) (DR Q) := by
        intro pr B hr hR
        refine ss_asgOX (P := fun _ : Unit => True) (O' := fun l _ => [] ++ [(l, .lst [tBx, tN 0])]) 2 sc__law_world.nd (eo_callG (S := S_box K) (f := fun _ => [tBx, tN 0]) (P := fun _ : Unit => True) (ok_box T) hr (ea_cons (e_var 0) (ea_cons e_int (ea_cons e_int ea_nil))) fun H vs al => ⟨ns, (), trivial, al, trivial, rfl⟩) fun l _ hl _ => ?_
        refine ss_openL (l := l) (ts := [tBx, tN 0]) 0 0 fun xs _ => ?_
        have h8 := drw_lt (xs := xs) (k := 0) (n := 8) (by decide)
        have hpr : primes[drw xs 0 8]? = some (primes.getD (drw xs 0 8) 0) := gd 0 h8
        have hpm : primes.getD (drw xs 0 8) 0 ∈ primes := List.mem_of_getElem? hpr
        refine ss_asg (R := tN (primes.getD (drw xs 0 8) 0)) (O1 := [(l, .lst [tIs xs, tN 1])]) 3 sc__law_world.nd (e_ix (n := drw xs 0 8) (ts := primes.map tN) (e_lst (ea_cons e_int (ea_cons e_int (ea_cons e_int (ea_cons e_int (ea_cons e_int (ea_cons e_int (ea_cons e_int (ea_cons e_int ea_nil)))))))) (by decide)) ls (e_call2 (S := S_draw) ⟨l, xs, 0, 8⟩ 0 (ok_draw T) hr (ea_cons (e_var 2) (ea_cons e_int ea_nil)) (show 0 < 8 by decide)) (putM tN hpr)) ?_
        generalize primes.getD (drw xs 0 8) 0 = q at hpm
        refine ss_asg (R := tN (2 + drw xs 1 4)) (O1 := [(l, .lst [tIs xs, tN 2])]) 4 sc__law_world.nd (Et.is (e_add e_int (e_call2 (S := S_draw) ⟨l, xs, 1, 4⟩ 0 (ok_draw T) hr (ea_cons (e_var 2) (ea_cons (e_var 1) ea_nil)) (show 0 < 4 by decide))) (tnI (by show (2 : Int) + ((drw xs 1 4 : Nat) : Int) = _; omega))) ?_
        have h4 := drw_lt (xs := xs) (k := 1) (n := 4) (by decide)
        have hm2 : 2 ≤ 2 + drw xs 1 4 := by omega
        have hm5 : 2 + drw xs 1 4 ≤ 5 := by omega
        generalize 2 + drw xs 1 4 = m at hm2 hm5
        refine ss_asg (R := tN (1 + drw xs 2 5)) (O1 := [(l, .lst [tIs xs, tN 3])]) 5 sc__law_world.nd (Et.is (e_add e_int (e_call2 (S := S_draw) ⟨l, xs, 2, 5⟩ 0 (ok_draw T) hr (ea_cons (e_var 2) (ea_cons e_int ea_nil)) (show 0 < 5 by decide))) (tnI (by show (1 : Int) + ((drw xs 2 5 : Nat) : Int) = _; omega))) ?_
        have h5 := drw_lt (xs := xs) (k := 2) (n := 5) (by decide)
        have hr5 : 1 + drw xs 2 5 ≤ 5 := by omega
        have hr1 : 0 < 1 + drw xs 2 5 := by omega
        generalize 1 + drw xs 2 5 = r at hr5 hr1
        refine ss_asgX (O1 := [(l, .lst [tIs xs, tNx])]) 6 sc__law_world.nd (e_call2 (S := S_family) ⟨l, xs, 3, m⟩ 0 (ok_family T) hr (ea_cons (e_var 2) (ea_cons (e_var 4) ea_nil)) ⟨by show 1 ≤ m; omega, hm5⟩) fun fam hfam => ?_
        have hfam : IsFam fam m ∧ 0 < fam.length := hfam
        obtain ⟨hfam, hf0⟩ := hfam
        have hfl := hfam.2.2.2
        have hhol : ∀ lot ∈ fam, 1 ≤ (holders lot m).length := fun lot hl => by
          obtain ⟨x, h1, h2, _⟩ := hfam.2.1 lot hl lot hl
          exact List.length_pos_of_mem (mem_holders.mpr ⟨h1, h2⟩)
        refine ss_openL (l := l) (ts := [tIs xs, tNx]) 0 1 fun k _ => ?_
        refine ss_asg (R := tN (2 + drw xs k 999)) (O1 := [(l, .lst [tIs xs, tN (k + 1)])]) 7 sc__law_world.nd (Et.is (e_add e_int (e_call2 (S := S_draw) ⟨l, xs, k, 999⟩ 0 (ok_draw T) hr (ea_cons (e_var 2) (ea_cons e_int ea_nil)) (show 0 < 999 by decide))) (tnI (by show (2 : Int) + ((drw xs k 999 : Nat) : Int) = _; omega))) ?_
        have hs2 : 2 ≤ 2 + drw xs k 999 := by omega
        generalize 2 + drw xs k 999 = sm at hs2
        have hq0 := primes_pos hpm
        have hmin : 0 < min q sm := by omega
        let vf : Nat → Int := fun i => ((drw xs (k + 1 + i) 1000 : Nat) : Int) % ((min q sm : Nat) : Int)
        refine ss_lcK (ts := ((List.range r).map vf).map tI) (O1 := [(l, .lst [tIs xs, tN (k + 1 + r)])]) 8 (by
          refine lc_is (lcR (j := 10) (n := r) (U := fun i => tI (vf i)) (Oi := fun i => [(l, .lst [tIs xs, tN (k + 1 + i)])]) (bk sc__law_world.nd) (e_var 5) (by omega) T.f_range (fun H1 i hi y s0 H0 C cl fp =>
          e_mod (e_intOf (e_call2 (S := S_draw) ⟨l, xs, k + 1 + i, 1000⟩ 0 (ok_draw T) hr (ea_cons (e_var 2) (ea_cons e_int ea_nil)) (show 0 < 1000 by decide)) T.f_int) (Et.to (R1 := tN (min q sm)) (e_min (ns := [(q : Int), (sm : Int)]) (e_lst (ea_cons (e_var 3) (ea_cons (e_var 7) ea_nil)) (Nat.le_of_ble_eq_true rfl)) ls (Nat.le_of_ble_eq_true rfl) rfl T.f_min) fun v H h => min_tI h) (by omega))) ?_
          funext l
          rw [coll_true, List.map_map]
          rfl) ?_
        have hvo : VotOk q r ((List.range r).map vf) := ⟨by rw [List.length_map, List.length_range], fun v hv => by
          obtain ⟨i, _, rfl⟩ := List.mem_map.mp hv
          have g1 := Int.emod_nonneg ((drw xs (k + 1 + i) 1000 : Nat) : Int) (show ((min q sm : Nat) : Int) ≠ 0 by omega)
          have g2 := Int.emod_lt_of_pos ((drw xs (k + 1 + i) 1000 : Nat) : Int) (show (0 : Int) < ((min q sm : Nat) : Int) by omega)
          exact ⟨g1, by show ((drw xs (k + 1 + i) 1000 : Nat) : Int) % ((min q sm : Nat) : Int) < (q : Int); omega⟩⟩
        generalize (List.range r).map vf = votes at hvo
        have hsh : Shp q m r fam := ⟨hpm, by omega, hm5, hr5, hfl, hhol⟩
        have hsz : sizeN m fam r ≤ 5000 := by
          unfold sizeN
          have h1 : r * (m - 1) ≤ 5 * 5 := Nat.mul_le_mul hr5 (by omega)
          have h2 : (fam.map fun lot => stageN m lot r).sum ≤ (fam.map fun lot => stageN m lot r).length * 301 := sum_le fun x hx => by
            obtain ⟨lot, _, rfl⟩ := List.mem_map.mp hx
            exact stageN_le hm5 hr5
          rw [List.length_map] at h2
          have : fam.length * 301 ≤ 10 * 301 := Nat.mul_le_mul_right _ hfl
          omega
        let nf : Nat → Int := fun i => ((drw xs (k + 1 + r + i) 1000 : Nat) : Int) - 99
        refine ss_lcK (ts := ((List.range (sizeN m fam r)).map nf).map tI) (O1 := [(l, .lst [tIs xs, tN (k + 1 + r + sizeN m fam r)])]) 9 (by
          refine lc_is (lcR (j := 11) (n := sizeN m fam r) (U := fun i => tI (nf i)) (Oi := fun i => [(l, .lst [tIs xs, tN (k + 1 + r + i)])]) (bk sc__law_world.nd) (Et.is (e_call (S := S_size) (m, fam, r) (ok_lsize T) hr (ea_cons (e_var 4) (ea_cons (e_var 6) (ea_cons (e_var 5) ea_nil))) ⟨hm5, hr5, hfl⟩) (show tI (rsize m fam r) = tN (sizeN m fam r) by rw [rsize_eq hsh.m1 hsh.h])) (by omega) T.f_range (fun H1 i hi y s0 H0 C cl fp =>
          e_sub (e_call2 (S := S_draw) ⟨l, xs, k + 1 + r + i, 1000⟩ 0 (ok_draw T) hr (ea_cons (e_var 2) (ea_cons e_int ea_nil)) (show 0 < 1000 by decide)) e_int)) ?_
          funext l
          rw [coll_true, List.map_map]
          rfl) ?_
        have hnl : ((List.range (sizeN m fam r)).map nf).length = sizeN m fam r := by rw [List.length_map, List.length_range]
        generalize (List.range (sizeN m fam r)).map nf = nums at hnl
        refine ss_chunk (l := l) (c := .lst [tIs xs, tN (k + 1 + r + sizeN m fam r)]) (c' := .lst [tIs xs, tNx]) 0 boxW ?_
        refine ss_of (ps_ret (pe_disp (pps_cons pe_str (pv 3) (pps_cons pe_str (pv 4) (pps_cons pe_str (pv 6) (pps_cons pe_str (pv 8) (pps_cons pe_str (pv 9) (pps_cons pe_str (pv 2) pps_nil)))))) (by rfl) (by rfl) (fun z => by cases z) (by decide))) fun σ H Ha s => ?_
        intro a ha
        obtain ⟨v3, e3, r3⟩ := s.sl.2 3 (tN q) rfl
        obtain ⟨v4, e4, r4⟩ := s.sl.2 4 (tN m) rfl
        obtain ⟨v6, e6, r6⟩ := s.sl.2 6 (tF fam) rfl
        obtain ⟨v8, e8, r8⟩ := s.sl.2 8 (tIs votes) rfl
        obtain ⟨v9, e9, r9⟩ := s.sl.2 9 (tIs nums) rfl
        obtain ⟨v2, e2, r2⟩ := s.sl.2 2 (tRef l) rfl
        refine ⟨v3, e3, v4, e4, v6, e6, v8, e8, v9, e9, v2, e2, upd_same, [(.inr "prime", v3), (.inr "mixers", v4), (.inr "family", v6), (.inr "votes", v8), (.inr "numbers", v9), (.inr "box", v2)], rfl, Nat.le_of_ble_eq_true rfl, ?_⟩
        have x : Stp F0 H Ha (upd H a (.dK (mergeK [] [(.inr "prime", v3), (.inr "mixers", v4), (.inr "family", v6), (.inr "votes", v8), (.inr "numbers", v9), (.inr "box", v2)]))) (upd Ha a (.dK (mergeK [] [(.inr "prime", v3), (.inr "mixers", v4), (.inr "family", v6), (.inr "votes", v8), (.inr "numbers", v9), (.inr "box", v2)]))) := Stp.made s.ha ha
        have eu : upd (upd Ha a (.dK [])) a (.dK (mergeK [] [(.inr "prime", v3), (.inr "mixers", v4), (.inr "family", v6), (.inr "votes", v8), (.inr "numbers", v9), (.inr "box", v2)])) = upd Ha a (.dK (mergeK [] [(.inr "prime", v3), (.inr "mixers", v4), (.inr "family", v6), (.inr "votes", v8), (.inr "numbers", v9), (.inr "box", v2)])) := by
          funext b
          unfold upd
          split <;> rfl
        rw [eu]
        refine hR σ _ ⟨q, m, r, fam, votes, nums⟩ xs l (.ref a) _ _ hl ⟨hsh, hfam, hf0, hr1, hvo, hnl⟩ (s.step x) ⟨a, _, rfl, upd_same, fun f T hf => ?_⟩
        have hf : [(("prime" : Str), tN q), (("mixers" : Str), tN m), (("family" : Str), tF fam), (("votes" : Str), tIs votes), (("numbers" : Str), tIs nums), (("box" : Str), tRef l)].lookup f = some T := hf
        rw [look_cons] at hf
        split at hf
        · rename_i q1; subst q1; cases hf; exact ⟨v3, rfl, Ty.mono _ x.k r3⟩
        rw [look_cons] at hf
        split at hf
        · rename_i q1; subst q1; cases hf; exact ⟨v4, rfl, Ty.mono _ x.k r4⟩
        rw [look_cons] at hf
        split at hf
        · rename_i q1; subst q1; cases hf; exact ⟨v6, rfl, Ty.mono _ x.k r6⟩
        rw [look_cons] at hf
        split at hf
        · rename_i q1; subst q1; cases hf; exact ⟨v8, rfl, Ty.mono _ x.k r8⟩
        rw [look_cons] at hf
        split at hf
        · rename_i q1; subst q1; cases hf; exact ⟨v9, rfl, Ty.mono _ x.k r9⟩
        rw [look_cons] at hf
        split at hf
        · rename_i q1; subst q1; cases hf; exact ⟨v2, rfl, Ty.mono _ x.k r2⟩
        cases hf
      exact key ⟨cdv, A, outer, s, Ha, E, _⟩ ⟨F0, H, Ha, H⟩ hr (fun σ G W xs l v H' Ha' hl hW s' hv => hQ W xs l v H' Ha' hW s'.st hl (s'.ow.2 _ List.mem_cons_self).1 (s'.read (k := 0) rfl) hv) (L2.start N__law_world vs) H Ha
        ⟨Stp.refl sm, .refl _, startSlots al N__law_world, List.Pairwise.nil, fun q hq => nomatch hq⟩⟩
end
end Vc
set_option maxHeartbeats 4000000
/-! VcM4: differences that travel (plain) -/
namespace Vc
open PySem L2
/-! ### mod p -/
def Cg (p : Nat) (a b : Int) : Prop := a % (p : Int) = b % (p : Int)
section
variable {p : Nat} {a b c d : Int}
theorem Cg.rfl' : Cg p a a := rfl
theorem Cg.add (h : Cg p a b) (k : Cg p c d) : Cg p (a + c) (b + d) := by
  unfold Cg at *
  rw [Int.add_emod, h, k, ← Int.add_emod]
theorem Cg.sub (h : Cg p a b) (k : Cg p c d) : Cg p (a - c) (b - d) := by
  unfold Cg at *
  rw [Int.sub_emod, h, k, ← Int.sub_emod]
theorem Cg.trans (h : Cg p a b) (k : Cg p b c) : Cg p a c := Eq.trans h k
theorem Cg.symm (h : Cg p a b) : Cg p b a := Eq.symm h
theorem Cg.mod : Cg p (a % (p : Int)) a := Int.emod_emod_of_dvd _ (Int.dvd_refl _)
theorem Cg.eq (h : Cg p a b) (ha : 0 ≤ a ∧ a < (p : Int)) (hb : 0 ≤ b ∧ b < (p : Int)) : a = b := by
  unfold Cg at h
  rw [Int.emod_eq_of_lt ha.1 ha.2, Int.emod_eq_of_lt hb.1 hb.2] at h
  exact h
theorem Cg.of (h : a = b) : Cg p a b := by rw [h]; exact Cg.rfl'
end
theorem cg_tot (p : Nat) (ns : List Int) : Cg p (tot p ns) ns.sum := by
  have key : ∀ (ns : List Int) (a : Int), Cg p (ns.foldl (fun a x => (a + x) % (p : Int)) a) (a + ns.sum) := by
    intro ns
    induction ns with
    | nil => exact fun a => Cg.of (by simp)
    | cons x ns ih =>
      intro a
      refine (ih _).trans ?_
      rw [List.sum_cons]
      refine (Cg.mod.add Cg.rfl').trans (Cg.of (by omega))
  have := key ns 0
  rw [Int.zero_add] at this
  exact this
/-! ### a row with an entry changed -/
theorem getD_set {α : Type} {l : List α} {k j : Nat} {v d : α} (h : k < l.length) : (l.set k v).getD j d = if k = j then v else l.getD j d := by
  rw [List.getD_eq_getElem?_getD, List.getD_eq_getElem?_getD]
  by_cases e : k = j
  · subst e
    rw [List.getElem?_set_self h, if_pos rfl]
    rfl
  · rw [List.getElem?_set_ne e, if_neg e]
theorem ndg_len (p : Nat) (cs : List Int) (k : Nat) (d : Int) : (ndg p cs k d).length = cs.length := by
  unfold ndg
  split
  · rw [List.length_set]
  · rfl
theorem ndg_get {p : Nat} {cs : List Int} {k j : Nat} {d : Int} (hj : j < cs.length) : (ndg p cs k d).getD j 0 = if k = j then (cs.getD j 0 + d) % (p : Int) else cs.getD j 0 := by
  unfold ndg
  by_cases h : k < cs.length
  · rw [if_pos h, getD_set h]
    by_cases e : k = j
    · subst e; simp
    · rw [if_neg e, if_neg e]
  · rw [if_neg h, if_neg (by omega)]
/-- nudged there and back -/
theorem ndg_back {p : Nat} {cs : List Int} {k : Nat} {d d' : Int} (hc : ∀ x ∈ cs, 0 ≤ x ∧ x < (p : Int)) (hd : Cg p (d + d') 0) (hp : 0 < p) : ndg p (ndg p cs k d) k d' = cs := by
  refine ext_getD (d := 0) (by rw [ndg_len, ndg_len]) fun j hj => ?_
  rw [ndg_len, ndg_len] at hj
  rw [ndg_get (by rw [ndg_len]; exact hj), ndg_get hj]
  by_cases e : k = j
  · rw [if_pos e, if_pos e]
    refine Cg.eq ?_ (emod_in hp _) (hc _ (gdM 0 hj))
    refine Cg.mod.trans ((Cg.mod.add Cg.rfl').trans ?_)
    have h1 : Cg p (cs.getD j 0 + (d + d')) (cs.getD j 0 + 0) := Cg.rfl'.add hd
    exact (Cg.of (by omega)).trans (h1.trans (Cg.of (by omega)))
  · rw [if_neg e, if_neg e]
theorem ndr_get {p : Nat} {rows : List (List Int)} {k i : Nat} {ds : List Int} (h1 : i < rows.length) (h2 : i < ds.length) : (ndr p rows k ds).getD i [] = ndg p (rows.getD i []) k (ds.getD i 0) := by
  unfold ndr
  rw [List.getD_eq_getElem?_getD, List.getElem?_zipWith, gd [] h1, gd 0 h2]
  rfl
/-- the one takes away what the other brings -/
structure Opp (p : Nat) (ds es : List Int) : Prop where
  l : ds.length = es.length
  z : ∀ i, i < ds.length → Cg p (ds.getD i 0 + es.getD i 0) 0
theorem ndr_back {p r wd k : Nat} {rows : List (List Int)} {ds es : List Int} (hp : 0 < p) (hb : IsB p r wd rows) (hd : ds.length = r) (ho : Opp p ds es) : ndr p (ndr p rows k ds) k es = rows := by
  have h1 : (ndr p rows k ds).length = r := by rw [ndr_len (by rw [hb.1, hd]), hb.1]
  have h2 := ho.l
  refine ext_getD (d := []) (by rw [ndr_len (by omega), h1, hb.1]) fun i hi => ?_
  rw [ndr_len (by omega), h1] at hi
  rw [ndr_get (by omega) (by omega), ndr_get (by rw [hb.1]; exact hi) (by omega)]
  exact ndg_back (hb.2 _ (gdM [] (by rw [hb.1]; exact hi))).2 (ho.z i (by omega)) hp
theorem isB_ndr {p r wd k : Nat} {rows : List (List Int)} {ds : List Int} (hp : 0 < p) (hb : IsB p r wd rows) (hd : ds.length = r) : IsB p r wd (ndr p rows k ds) := by
  refine ⟨by rw [ndr_len (by rw [hb.1, hd]), hb.1], fun row h => ?_⟩
  obtain ⟨i, a, d, ha, _, rfl⟩ := mem_zipWith h
  have h2 := hb.2 a (List.mem_of_getElem? ha)
  refine ⟨by rw [ndg_len]; exact h2.1, fun x hx => ?_⟩
  unfold ndg at hx
  split at hx
  · rcases List.mem_or_eq_of_mem_set hx with hx | hx
    · exact h2.2 x hx
    · rw [hx]; exact emod_in hp _
  · exact h2.2 x hx
theorem Opp.mv {p n : Nat} {ds es : List Int} {o : List Nat} (h : Opp p ds es) (ho : IsOrd o n) (hl : ds.length = n) : Opp p (mv 0 ds o) (mv 0 es o) := by
  refine ⟨by rw [mv_len, mv_len], fun i hi => ?_⟩
  rw [mv_len] at hi
  rw [mv_get 0 hi, mv_get 0 hi]
  exact h.z _ (by rw [hl]; exact ho.gt (by rw [← ho.len]; exact hi))
theorem dif_get {p : Nat} {vs os : List Int} {i : Nat} (h1 : i < vs.length) (h2 : i < os.length) : (dif p vs os).getD i 0 = (os.getD i 0 - vs.getD i 0) % (p : Int) := by
  unfold dif
  rw [List.getD_eq_getElem?_getD, List.getElem?_zipWith, gd 0 h1, gd 0 h2]
  rfl
theorem dif_opp {p r : Nat} {vs os : List Int} (h1 : vs.length = r) (h2 : os.length = r) : Opp p (dif p vs os) (dif p os vs) := by
  refine ⟨by rw [dif_len h1 h2, dif_len h2 h1], fun i hi => ?_⟩
  rw [dif_len h1 h2] at hi
  rw [dif_get (by omega) (by omega), dif_get (by omega) (by omega)]
  exact (Cg.mod.add Cg.mod).trans (Cg.of (by omega))
/-! ### split -/
theorem spl_get {p : Nat} {v : Int} {cs : List Int} {j : Nat} (hj : j ≤ cs.length) : (spl p v cs).getD j 0 = if j < cs.length then (cs.getD j 0) % (p : Int) else (v - (cs.map fun c => c % (p : Int)).sum) % (p : Int) := by
  unfold spl
  rw [List.getD_eq_getElem?_getD]
  by_cases h : j < cs.length
  · rw [List.getElem?_append_left (by rw [List.length_map]; exact h), List.getElem?_map, gd 0 h, if_pos h]
    rfl
  · have e : j = cs.length := by omega
    subst e
    rw [List.getElem?_append_right (by rw [List.length_map]; exact Nat.le_refl _), List.length_map, Nat.sub_self, if_neg h]
    rfl
theorem cg_sumset {p : Nat} : ∀ {cs : List Int} {k : Nat} {d : Int}, k < cs.length → Cg p ((ndg p cs k d).map fun c => c % (p : Int)).sum ((cs.map fun c => c % (p : Int)).sum + d)
  | [], _, _, h => by simp at h
  | a :: cs, 0, d, h => by
    unfold ndg
    rw [if_pos h]
    show Cg p (((a + d) % (p : Int)) % (p : Int) + (cs.map fun c => c % (p : Int)).sum) (a % (p : Int) + (cs.map fun c => c % (p : Int)).sum + d)
    refine ((Cg.mod.trans Cg.mod).add Cg.rfl').trans ?_
    exact (((Cg.mod (a := a)).symm.add (Cg.rfl' (a := d))).add Cg.rfl').trans (Cg.of (by omega))
  | a :: cs, k + 1, d, h => by
    have hk : k < cs.length := by simpa using h
    have ih := cg_sumset (p := p) (cs := cs) (d := d) hk
    unfold ndg at ih ⊢
    rw [if_pos hk] at ih
    rw [if_pos h]
    show Cg p (a % (p : Int) + ((cs.set k ((cs.getD k 0 + d) % (p : Int))).map fun c => c % (p : Int)).sum) (a % (p : Int) + (cs.map fun c => c % (p : Int)).sum + d)
    exact (Cg.rfl'.add ih).trans (Cg.of (by omega))
/-- another value, the coins nudged: the piece at k takes the difference -/
theorem spl_ndg {p : Nat} {v v' d : Int} {cs : List Int} {k j : Nat} (hk : k ≤ cs.length) (hj : j ≤ cs.length) (hv : Cg p v' (v + d)) : Cg p ((spl p v' (ndg p cs k d)).getD j 0) ((spl p v cs).getD j 0 + if j = k then d else 0) := by
  rw [spl_get (by rw [ndg_len]; exact hj), spl_get hj, ndg_len]
  by_cases h : j < cs.length
  · rw [if_pos h, if_pos h, ndg_get h]
    refine Cg.mod.trans ?_
    by_cases e : k = j
    · rw [if_pos e, if_pos e.symm]
      exact Cg.mod.trans (Cg.mod.symm.add Cg.rfl')
    · rw [if_neg e, if_neg (Ne.symm e)]
      exact Cg.mod.symm.trans (Cg.of (by omega))
  · have ej : j = cs.length := by omega
    rw [if_neg h, if_neg h]
    refine Cg.mod.trans ?_
    by_cases hk2 : k < cs.length
    · rw [if_neg (by omega)]
      refine (hv.sub (cg_sumset hk2)).trans ?_
      exact (Cg.of (by omega)).trans (Cg.mod.symm.trans (Cg.of (Int.add_zero _).symm))
    · rw [if_pos (by omega)]
      have e : ndg p cs k d = cs := if_neg hk2
      rw [e]
      refine (hv.sub Cg.rfl').trans ?_
      exact (Cg.of (by omega)).trans (Cg.mod.symm.add Cg.rfl')
theorem cg_spl {p : Nat} {v v' : Int} {cs : List Int} {j : Nat} (hj : j ≤ cs.length) (hv : Cg p v' v) : Cg p ((spl p v' cs).getD j 0) ((spl p v cs).getD j 0) := by
  rw [spl_get hj, spl_get hj]
  split
  · exact Cg.rfl'
  · exact Cg.mod.trans ((hv.sub Cg.rfl').trans Cg.mod.symm)
end Vc
set_option maxHeartbeats 4000000
/-! VcM5: the two runs (plain) -/
namespace Vc
open PySem L2
theorem cg_sum {p : Nat} {e : Int} : ∀ {a b : List Int} {ix : Nat}, a.length = b.length → (∀ i, i < a.length → Cg p (b.getD i 0) (a.getD i 0 + if i = ix then e else 0)) → Cg p b.sum (a.sum + if ix < a.length then e else 0)
  | [], [], _, _, _ => Cg.of (by simp)
  | [], _ :: _, _, h, _ => nomatch h
  | _ :: _, [], _, h, _ => nomatch h
  | x :: a, y :: b, 0, hl, h => by
    have h0 : Cg p y (x + e) := h 0 (Nat.succ_pos _)
    have ih := cg_sum (p := p) (e := e) (a := a) (b := b) (ix := a.length) (Nat.succ.inj hl) (fun i hi => by
      have := h (i + 1) (Nat.succ_lt_succ hi)
      rw [if_neg (by omega)] at this ⊢
      exact this)
    rw [if_neg (Nat.lt_irrefl _)] at ih
    rw [List.sum_cons, List.sum_cons, if_pos (show 0 < (x :: a).length from Nat.succ_pos _)]
    exact (h0.add ih).trans (Cg.of (by omega))
  | x :: a, y :: b, k + 1, hl, h => by
    have h0 : Cg p y (x + 0) := h 0 (Nat.succ_pos _)
    have ih := cg_sum (p := p) (e := e) (a := a) (b := b) (ix := k) (Nat.succ.inj hl) (fun i hi => by
      have h1 := h (i + 1) (Nat.succ_lt_succ hi)
      have e1 : (if i + 1 = k + 1 then e else 0) = if i = k then e else 0 := by
        by_cases q : i = k
        · rw [if_pos q, if_pos (by omega)]
        · rw [if_neg q, if_neg (by omega)]
      rw [e1] at h1
      exact h1)
    have e2 : (if k + 1 < (x :: a).length then e else 0) = if k < a.length then e else 0 := by
      rw [List.length_cons]
      by_cases q : k < a.length
      · rw [if_pos q, if_pos (by omega)]
      · rw [if_neg q, if_neg (by omega)]
    rw [List.sum_cons, List.sum_cons, e2]
    exact (h0.add ih).trans (Cg.of (by omega))
theorem map_getD {α β : Type} (f : α → β) {xs : List α} {i : Nat} (a : α) (b : β) (h : i < xs.length) : (xs.map f).getD i b = f (xs.getD i a) := by
  rw [List.getD_eq_getElem?_getD, List.getElem?_map, gd a h]
  rfl
theorem zip_getD {α β γ : Type} (f : α → β → γ) {xs : List α} {ys : List β} {i : Nat} (a : α) (b : β) (c : γ) (h : i < xs.length) (k : i < ys.length) : (List.zipWith f xs ys).getD i c = f (xs.getD i a) (ys.getD i b) := by
  rw [List.getD_eq_getElem?_getD, List.getElem?_zipWith, gd a h, gd b k]
  rfl
theorem rng_getD {β : Type} (f : Nat → β) {n i : Nat} (b : β) (h : i < n) : ((List.range n).map f).getD i b = f i := by
  rw [List.getD_eq_getElem?_getD, List.getElem?_map, List.getElem?_range h]
  rfl
/-! ### what stands in the tables -/
theorem gat_at {p : Nat} {t : List (List Int)} {os : List Nat} {cs : List (List (List Int))} {i x q : Nat} (h1 : i < os.length) (h2 : i < cs.length) (h3 : x < t.length) (h4 : x < (cs.getD i []).length) : at2 ((gat p t os cs).getD i []) x q = (spl p (at2 t x (os.getD i 0)) ((cs.getD i []).getD x [])).getD q 0 := by
  unfold gat at2
  rw [zip_getD _ 0 [] [] h1 h2, zip_getD _ [] [] [] h3 h4]
theorem hel_at {p : Nat} {t : List (List Int)} {hs : List Nat} {ps : List (List (List Int))} {x q : Nat} (h1 : x < t.length) (h2 : q < hs.length) : Cg p (at2 (hel p t hs ps) x q) (at2 t x (hs.getD q 0) + (ps.map fun rows => at2 rows x q).sum) := by
  unfold hel
  have e : at2 ((List.range t.length).map fun r => (List.range hs.length).map fun k => tot p (at2 t r (hs.getD k 0) :: ps.map fun rows => at2 rows r k)) x q = tot p (at2 t x (hs.getD q 0) :: ps.map fun rows => at2 rows x q) := by
    conv => lhs; unfold at2
    rw [rng_getD _ _ h1, rng_getD _ _ h2]
    rfl
  rw [e]
  exact (cg_tot p _).trans (Cg.of (by rw [List.sum_cons]))
theorem sprd_at {p : Nat} {od : List (List Int)} {n : Nat} {cs : List (List (List Int))} {x q j : Nat} (h1 : q < n) (h2 : x < od.length) (h3 : x < (cs.getD q []).length) : at2 ((sprd p od n cs).getD q []) x j = (spl p (at2 od x q) ((cs.getD q []).getD x [])).getD j 0 := by
  unfold sprd at2
  rw [rng_getD _ _ h1, zip_getD _ [] [] [] h2 h3]
theorem ntb_at {p : Nat} {ps : List (List (List Int))} {m r x j : Nat} (h1 : x < r) (h2 : j < m) : Cg p (at2 (ntb p ps m r) x j) (ps.map fun rows => at2 rows x j).sum := by
  unfold ntb
  have e : at2 ((List.range r).map fun i => (List.range m).map fun x => tot p (ps.map fun rows => at2 rows i x)) x j = tot p (ps.map fun rows => at2 rows x j) := by
    conv => lhs; unfold at2
    rw [rng_getD _ _ h1, rng_getD _ _ h2]
    rfl
  rw [e]
  exact cg_tot p _
theorem mv_at {t : List (List Int)} {o : List Nat} {x q : Nat} (h : x < o.length) : at2 (mv [] t o) x q = at2 t (o.getD x 0) q := by
  unfold at2
  rw [mv_get [] h]
/-- the one table is the other, and the differences at ca -/
def Tr (p r m : Nat) (t t' : List (List Int)) (ca : Nat) (ds : List Int) : Prop := ∀ x, x < r → ∀ j, j < m → Cg p (at2 t' x j) (at2 t x j + if j = ca then ds.getD x 0 else 0)
theorem idx_iff {hs : List Nat} {h q : Nat} (nd : hs.Nodup) (hh : h ∈ hs) (hq : q < hs.length) : hs.getD q 0 = h ↔ q = hs.idxOf h := by
  constructor
  · intro e
    have h1 : hs[q]? = some h := by rw [gd 0 hq, e]
    exact (idxOf_get nd h1).symm
  · rintro rfl
    have h1 : hs.idxOf h < hs.length := List.idxOf_lt_length_of_mem hh
    have h2 : hs[hs.idxOf h]? = some h := by
      rw [List.getElem?_eq_getElem h1]
      exact congrArg some (List.getElem_idxOf h1)
    exact getD_some h2
section
variable {p m r ca h : Nat} {hs : List Nat} {t t' : List (List Int)} {c : SC} {ds : List Int}
theorem held_rel (st : StOk p m r hs t c) (ht : IsB p r m t') (hT : Tr p r m t t' ca ds) (hd : ds.length = r) (hcm : ca < m) (hh : h ∈ hs) (hc : ca ∈ hs → h = ca) (nd : hs.Nodup) {x q : Nat} (hx : x < r) (hq : q < hs.length) :
    Cg p (at2 (hel p t' hs (gat p t' (holders hs m) (ogt p c.g hs m ca h ds))) x q) (at2 (hel p t hs (gat p t (holders hs m) c.g)) x q + if q = hs.idxOf h then ds.getD x 0 else 0) := by
  have hxt : x < t.length := by rw [st.tb.1]; exact hx
  have hxt' : x < t'.length := by rw [ht.1]; exact hx
  have hgl := st.gl
  have hogl : (ogt p c.g hs m ca h ds).length = (holders hs m).length := by rw [ogt_len, hgl]
  have hlen : (gat p t (holders hs m) c.g).length = (holders hs m).length := by unfold gat; rw [List.length_zipWith]; omega
  have hlen' : (gat p t' (holders hs m) (ogt p c.g hs m ca h ds)).length = (holders hs m).length := by unfold gat; rw [List.length_zipWith]; omega
  have hqm : hs.getD q 0 < m := st.hm _ (gdM 0 hq)
  refine (hel_at hxt' hq).trans ?_
  refine Cg.trans ?_ ((hel_at (p := p) (ps := gat p t (holders hs m) c.g) hxt hq).symm.add Cg.rfl')
  have hown := hT x hx (hs.getD q 0) hqm
  have hw : ∀ i, i < (holders hs m).length → x < (c.g.getD i []).length ∧ ((c.g.getD i []).getD x []).length = hs.length - 1 := fun i hi => by
    have h1 := st.g _ (gdM [] (show i < c.g.length by omega))
    have h2 : x < (c.g.getD i []).length := by rw [h1.1]; exact hx
    exact ⟨h2, (h1.2 _ (gdM [] h2)).1⟩
  have h1s := st.h1
  have hos : ∀ i, i < (holders hs m).length → (holders hs m).getD i 0 < m ∧ (holders hs m).getD i 0 ∉ hs := fun i hi => mem_holders.mp (gdM 0 hi)
  by_cases hca : ca ∈ hs
  · have e : h = ca := hc hca
    subst e
    have eo : ogt p c.g hs m h h ds = c.g := if_pos hca
    rw [eo] at hlen' ⊢
    have hsum : Cg p ((gat p t' (holders hs m) c.g).map fun rows => at2 rows x q).sum (((gat p t (holders hs m) c.g).map fun rows => at2 rows x q).sum + if (holders hs m).length < ((gat p t (holders hs m) c.g).map fun rows => at2 rows x q).length then (0 : Int) else 0) := by
      refine cg_sum (by rw [List.length_map, List.length_map, hlen, hlen']) fun i hi => ?_
      rw [List.length_map, hlen] at hi
      rw [map_getD _ [] 0 (by rw [hlen']; exact hi), map_getD _ [] 0 (by rw [hlen]; exact hi), gat_at hi (by omega) hxt' (hw i hi).1, gat_at hi (by omega) hxt (hw i hi).1]
      have g1 := hT x hx _ (hos i hi).1
      rw [if_neg (show ¬ (holders hs m).getD i 0 = h from fun z => (hos i hi).2 (by rw [z]; exact hca))] at g1
      have g2 : Cg p (at2 t' x ((holders hs m).getD i 0)) (at2 t x ((holders hs m).getD i 0)) := g1.trans (Cg.of (Int.add_zero _))
      refine (cg_spl (by rw [(hw i hi).2]; omega) g2).trans (Cg.of ?_)
      rw [ite_self, Int.add_zero]
    rw [ite_self, Int.add_zero] at hsum
    have e1 : (if hs.getD q 0 = h then ds.getD x 0 else 0) = if q = hs.idxOf h then ds.getD x 0 else 0 := by
      by_cases z : q = hs.idxOf h
      · rw [if_pos z, if_pos ((idx_iff nd hh hq).mpr z)]
      · rw [if_neg z, if_neg fun y => z ((idx_iff nd hh hq).mp y)]
    rw [e1] at hown
    exact (hown.add hsum).trans (Cg.of (by omega))
  · have eo : ogt p c.g hs m ca h ds = c.g.set ((holders hs m).idxOf ca) (ndr p (c.g.getD ((holders hs m).idxOf ca) []) (hs.idxOf h) ds) := if_neg hca
    have hcm2 : ca ∈ holders hs m := mem_holders.mpr ⟨hcm, hca⟩
    have hix : (holders hs m).idxOf ca < (holders hs m).length := List.idxOf_lt_length_of_mem hcm2
    rw [if_neg (fun z => hca (by rw [← z]; exact gdM 0 hq))] at hown
    have hsum : Cg p ((gat p t' (holders hs m) (ogt p c.g hs m ca h ds)).map fun rows => at2 rows x q).sum (((gat p t (holders hs m) c.g).map fun rows => at2 rows x q).sum + if (holders hs m).idxOf ca < ((gat p t (holders hs m) c.g).map fun rows => at2 rows x q).length then (if q = hs.idxOf h then ds.getD x 0 else 0) else 0) := by
      refine cg_sum (by rw [List.length_map, List.length_map, hlen, hlen']) fun i hi => ?_
      rw [List.length_map, hlen] at hi
      have hg : (ogt p c.g hs m ca h ds).getD i [] = if (holders hs m).idxOf ca = i then ndr p (c.g.getD ((holders hs m).idxOf ca) []) (hs.idxOf h) ds else c.g.getD i [] := by rw [eo, getD_set (by omega)]
      have g1 := hT x hx _ (hos i hi).1
      by_cases e : i = (holders hs m).idxOf ca
      · have ei := (idx_iff (hold_nodup hs m) hcm2 hi).mpr e
        rw [if_pos e.symm, ← e] at hg
        have hbl := st.g _ (gdM [] (show i < c.g.length by omega))
        have hnl : x < ((ogt p c.g hs m ca h ds).getD i []).length := by rw [hg, ndr_len (by rw [hbl.1, hd]), hbl.1]; exact hx
        rw [map_getD _ [] 0 (by rw [hlen']; exact hi), map_getD _ [] 0 (by rw [hlen]; exact hi), gat_at hi (by omega) hxt' hnl, gat_at hi (by omega) hxt (hw i hi).1, hg, ndr_get (hw i hi).1 (by omega), if_pos e]
        rw [if_pos ei] at g1
        have hhl : hs.idxOf h < hs.length := List.idxOf_lt_length_of_mem hh
        exact spl_ndg (by rw [(hw i hi).2]; omega) (by rw [(hw i hi).2]; omega) g1
      · rw [if_neg (Ne.symm e)] at hg
        rw [map_getD _ [] 0 (by rw [hlen']; exact hi), map_getD _ [] 0 (by rw [hlen]; exact hi), gat_at hi (by omega) hxt' (by rw [hg]; exact (hw i hi).1), gat_at hi (by omega) hxt (hw i hi).1, hg, if_neg e]
        rw [if_neg fun z => e ((idx_iff (hold_nodup hs m) hcm2 hi).mp z)] at g1
        exact (cg_spl (by rw [(hw i hi).2]; omega) (g1.trans (Cg.of (Int.add_zero _)))).trans (Cg.of (Int.add_zero _).symm)
    rw [List.length_map, hlen, if_pos hix] at hsum
    exact (hown.add hsum).trans (Cg.of (by omega))
theorem pass_rel (st : StOk p m r hs t c) (ht : IsB p r m t') (hT : Tr p r m t t' ca ds) (hd : ds.length = r) (hcm : ca < m) (hh : h ∈ hs) (hc : ca ∈ hs → h = ca) (nd : hs.Nodup) :
    Tr p r m (stg p m t hs c).t (stg p m t' hs (psd p c hs m ca h ds)).t ca (mv 0 ds c.o) := by
  intro x hx j hj
  have hH := fun x q hx hq => held_rel (x := x) (q := q) st ht hT hd hcm hh hc nd hx hq
  have hhe := st.he
  have hhe' : IsB p t'.length hs.length (hel p t' hs (gat p t' (holders hs m) (ogt p c.g hs m ca h ds))) := isB_hel st.p0 _ _ _
  rw [ht.1] at hhe'
  have hod := isB_mv hhe st.o
  have hod' := isB_mv hhe' st.o
  have e0 : (mv [] (hel p t hs (gat p t (holders hs m) c.g)) c.o).length = r := hod.1
  have hol := st.o.len
  have hsl := st.sl
  have hix : hs.idxOf h < hs.length := List.idxOf_lt_length_of_mem hh
  have hml : (mv 0 ds c.o).length = r := by rw [mv_len, hol]
  have htl : t.length = r := st.tb.1
  have htl' : t'.length = r := ht.1
  show Cg p (at2 (ntb p (sprd p (mv [] (hel p t' hs (gat p t' (holders hs m) (ogt p c.g hs m ca h ds))) c.o) hs.length (c.s.set (hs.idxOf h) (ndr p (c.s.getD (hs.idxOf h) []) ca (mv 0 ds c.o)))) m t'.length) x j)
    (at2 (ntb p (sprd p (mv [] (hel p t hs (gat p t (holders hs m) c.g)) c.o) hs.length c.s) m t.length) x j + if j = ca then (mv 0 ds c.o).getD x 0 else 0)
  refine (ntb_at (by omega) hj).trans ?_
  refine Cg.trans ?_ ((ntb_at (p := p) (ps := sprd p (mv [] (hel p t hs (gat p t (holders hs m) c.g)) c.o) hs.length c.s) (m := m) (r := t.length) (by omega) hj).symm.add Cg.rfl')
  have hl1 : ∀ od cs, (sprd p od hs.length cs).length = hs.length := fun od cs => by unfold sprd; rw [List.length_map, List.length_range]
  have hsum := cg_sum (p := p) (e := if j = ca then (mv 0 ds c.o).getD x 0 else 0) (ix := hs.idxOf h) (a := (sprd p (mv [] (hel p t hs (gat p t (holders hs m) c.g)) c.o) hs.length c.s).map fun rows => at2 rows x j)
    (b := (sprd p (mv [] (hel p t' hs (gat p t' (holders hs m) (ogt p c.g hs m ca h ds))) c.o) hs.length (c.s.set (hs.idxOf h) (ndr p (c.s.getD (hs.idxOf h) []) ca (mv 0 ds c.o)))).map fun rows => at2 rows x j) (by rw [List.length_map, List.length_map, hl1, hl1]) (fun q hq => by
    rw [List.length_map, hl1] at hq
    have hbs := st.s _ (gdM [] (show q < c.s.length by omega))
    have hxs : x < (c.s.getD q []).length := by rw [hbs.1]; exact hx
    have hw := (hbs.2 _ (gdM [] hxs)).1
    have hm1 := st.m1
    have hg : (c.s.set (hs.idxOf h) (ndr p (c.s.getD (hs.idxOf h) []) ca (mv 0 ds c.o))).getD q [] = if hs.idxOf h = q then ndr p (c.s.getD (hs.idxOf h) []) ca (mv 0 ds c.o) else c.s.getD q [] := getD_set (by omega)
    have hv : Cg p (at2 (mv [] (hel p t' hs (gat p t' (holders hs m) (ogt p c.g hs m ca h ds))) c.o) x q) (at2 (mv [] (hel p t hs (gat p t (holders hs m) c.g)) c.o) x q + if q = hs.idxOf h then (mv 0 ds c.o).getD x 0 else 0) := by
      rw [mv_at (by omega), mv_at (by omega), mv_get 0 (by omega)]
      exact hH _ q (st.o.gt hx) hq
    by_cases e : q = hs.idxOf h
    · rw [if_pos e.symm, ← e] at hg
      rw [if_pos e] at hv
      rw [map_getD _ [] 0 (by rw [hl1]; exact hq), map_getD _ [] 0 (by rw [hl1]; exact hq), sprd_at hq (by rw [hod'.1]; exact hx) (by rw [← e, hg, ndr_len (by rw [hbs.1, hml]), hbs.1]; exact hx), sprd_at hq (by rw [e0]; exact hx) hxs, ← e, hg, ndr_get hxs (by omega), if_pos rfl]
      exact spl_ndg (by rw [hw]; omega) (by rw [hw]; omega) hv
    · rw [if_neg (Ne.symm e)] at hg
      rw [if_neg e] at hv
      rw [map_getD _ [] 0 (by rw [hl1]; exact hq), map_getD _ [] 0 (by rw [hl1]; exact hq), sprd_at hq (by rw [hod'.1]; exact hx) (by rw [hg]; exact hxs), sprd_at hq (by rw [e0]; exact hx) hxs, hg, if_neg e]
      exact (cg_spl (by rw [hw]; omega) (hv.trans (Cg.of (Int.add_zero _)))).trans (Cg.of (Int.add_zero _).symm))
  rw [List.length_map, hl1, if_pos hix] at hsum
  exact hsum
end
end Vc
set_option maxHeartbeats 4000000
/-! VcM6: swapped there and back (plain) -/
namespace Vc
open PySem L2
theorem shd_ln {p k : Nat} {he : List (List Int)} {o o2 : List Nat} {own : Option (List Int)} : (shd p he o o2 k own).length = o.length := by unfold shd; rw [List.length_map, List.length_range]
theorem hid_ca {hs lot : List Nat} {ca : Nat} (h : ca ∈ hs) : hid hs lot ca = ca := if_pos h
theorem shd_get {p i k : Nat} {he : List (List Int)} {o o2 : List Nat} {own : Option (List Int)} (h : i < o.length) : (shd p he o o2 k own).getD i 0 = (at2 he (o2.getD i 0) k + ownD own (o2.getD i 0) - at2 he (o.getD i 0) k) % (p : Int) := by
  unfold shd
  rw [rng_getD _ _ h]
section
variable {p m r : Nat} {hs : List Nat} {c : SC} {ds es : List Int} {ca h : Nat}
theorem isB_ogt (st : ∃ t, StOk p m r hs t c) (hd : ds.length = r) (hcm : ca < m) : ∀ b ∈ ogt p c.g hs m ca h ds, IsB p r (hs.length - 1) b := fun b hb => by
  obtain ⟨t, st⟩ := st
  unfold ogt at hb
  split at hb
  · exact st.g b hb
  · rename_i hn
    rcases List.mem_or_eq_of_mem_set hb with hb | hb
    · exact st.g b hb
    · rw [hb]
      refine isB_ndr st.p0 (st.g _ (gdM [] ?_)) hd
      rw [st.gl]
      exact List.idxOf_lt_length_of_mem (mem_holders.mpr ⟨hcm, hn⟩)
theorem ogt_back (st : ∃ t, StOk p m r hs t c) (hd : ds.length = r) (hcm : ca < m) (ho : Opp p ds es) : ogt p (ogt p c.g hs m ca h ds) hs m ca h es = c.g := by
  obtain ⟨t, st⟩ := st
  by_cases hca : ca ∈ hs
  · have e1 : ogt p c.g hs m ca h ds = c.g := if_pos hca
    rw [e1]
    exact if_pos hca
  · have hix : (holders hs m).idxOf ca < c.g.length := by rw [st.gl]; exact List.idxOf_lt_length_of_mem (mem_holders.mpr ⟨hcm, hca⟩)
    have e1 : ogt p c.g hs m ca h ds = c.g.set ((holders hs m).idxOf ca) (ndr p (c.g.getD ((holders hs m).idxOf ca) []) (hs.idxOf h) ds) := if_neg hca
    rw [e1]
    have e2 : ogt p (c.g.set ((holders hs m).idxOf ca) (ndr p (c.g.getD ((holders hs m).idxOf ca) []) (hs.idxOf h) ds)) hs m ca h es = _ := if_neg hca
    rw [e2, getD_set hix, if_pos rfl, List.set_set, ndr_back st.p0 (st.g _ (gdM [] hix)) hd ho]
    refine List.ext_getElem? fun i => ?_
    by_cases q : (holders hs m).idxOf ca = i
    · rw [← q, List.getElem?_set_self hix, gd [] hix]
    · rw [List.getElem?_set_ne q]
theorem psd_back (st : ∃ t, StOk p m r hs t c) (hd : ds.length = r) (hcm : ca < m) (hh : h ∈ hs) (ho : Opp p ds es) : psd p (psd p c hs m ca h ds) hs m ca h es = c := by
  have hg := ogt_back (h := h) st hd hcm ho
  obtain ⟨t, st⟩ := st
  have hix : hs.idxOf h < c.s.length := by rw [st.sl]; exact List.idxOf_lt_length_of_mem hh
  have hml : (mv 0 ds c.o).length = r := by rw [mv_len, st.o.len]
  have hs2 : (c.s.set (hs.idxOf h) (ndr p (c.s.getD (hs.idxOf h) []) ca (mv 0 ds c.o))).set (hs.idxOf h) (ndr p ((c.s.set (hs.idxOf h) (ndr p (c.s.getD (hs.idxOf h) []) ca (mv 0 ds c.o))).getD (hs.idxOf h) []) ca (mv 0 es c.o)) = c.s := by
    rw [getD_set hix, if_pos rfl, List.set_set, ndr_back st.p0 (st.s _ (gdM [] hix)) hml (ho.mv st.o hd)]
    refine List.ext_getElem? fun i => ?_
    by_cases q : hs.idxOf h = i
    · rw [← q, List.getElem?_set_self hix, gd [] hix]
    · rw [List.getElem?_set_ne q]
  show SC.mk (ogt p (ogt p c.g hs m ca h ds) hs m ca h es) c.o ((c.s.set (hs.idxOf h) (ndr p (c.s.getD (hs.idxOf h) []) ca (mv 0 ds c.o))).set (hs.idxOf h) (ndr p ((c.s.set (hs.idxOf h) (ndr p (c.s.getD (hs.idxOf h) []) ca (mv 0 ds c.o))).getD (hs.idxOf h) []) ca (mv 0 es c.o))) = SC.mk c.g c.o c.s
  rw [hg, hs2]
theorem own_get {q x : Nat} (nd : hs.Nodup) (hh : h ∈ hs) (hq : q < hs.length) : ownD (ownOf hs h q ds) x = if q = hs.idxOf h then ds.getD x 0 else 0 := by
  unfold ownOf
  by_cases e : q = hs.idxOf h
  · rw [if_pos e, if_pos ((idx_iff nd hh hq).mpr e)]
    rfl
  · rw [if_neg e, if_neg fun z => e ((idx_iff nd hh hq).mp z)]
    rfl
theorem tka_back {he he' : List (List Int)} {o2 : List Nat} (st : ∃ t, StOk p m r hs t c) (hd : ds.length = r) (hcm : ca < m) (hh : h ∈ hs) (nd : hs.Nodup) (ho : Opp p ds es) (h2 : IsOrd o2 r)
    (hH : ∀ x q, x < r → q < hs.length → Cg p (at2 he' x q) (at2 he x q + if q = hs.idxOf h then ds.getD x 0 else 0)) : tka p (tka p c hs he m ca h ds o2) hs he' m ca h es c.o = c := by
  have hg := ogt_back (h := h) st hd hcm ho
  obtain ⟨t, st⟩ := st
  have hol := st.o.len
  have hs2 : (List.range hs.length).map (fun k => ndr p (((List.range hs.length).map fun k => ndr p (c.s.getD k []) ca (shd p he c.o o2 k (ownOf hs h k ds))).getD k []) ca (shd p he' o2 c.o k (ownOf hs h k es))) = c.s := by
    refine ext_getD (d := []) (by rw [List.length_map, List.length_range, st.sl]) fun q hq => ?_
    rw [List.length_map, List.length_range] at hq
    rw [rng_getD _ _ hq, rng_getD _ _ hq]
    refine ndr_back st.p0 (st.s _ (gdM [] (by rw [st.sl]; exact hq))) (by rw [shd_ln, hol]) ⟨by rw [shd_ln, shd_ln, hol, h2.len], fun i hi => ?_⟩
    rw [shd_ln, hol] at hi
    rw [shd_get (by omega), shd_get (by rw [h2.len]; exact hi), own_get nd hh hq, own_get nd hh hq]
    refine (Cg.mod.add Cg.mod).trans ?_
    have g1 := hH _ q (st.o.gt hi) hq
    have g2 := hH _ q (h2.gt hi) hq
    have g3 : Cg p ((if q = hs.idxOf h then ds.getD (c.o.getD i 0) 0 else 0) + (if q = hs.idxOf h then es.getD (c.o.getD i 0) 0 else 0)) 0 := by
      by_cases e : q = hs.idxOf h
      · rw [if_pos e, if_pos e]
        exact ho.z _ (by rw [hd]; exact st.o.gt hi)
      · rw [if_neg e, if_neg e]
        exact Cg.of (by omega)
    have g4 : Cg p (at2 he' (c.o.getD i 0) q + (if q = hs.idxOf h then es.getD (c.o.getD i 0) 0 else 0) - at2 he' (o2.getD i 0) q) ((at2 he (c.o.getD i 0) q + (if q = hs.idxOf h then ds.getD (c.o.getD i 0) 0 else 0)) + (if q = hs.idxOf h then es.getD (c.o.getD i 0) 0 else 0) - (at2 he (o2.getD i 0) q + if q = hs.idxOf h then ds.getD (o2.getD i 0) 0 else 0)) := (g1.add Cg.rfl').sub g2
    have g5 := (Cg.rfl' (p := p) (a := at2 he (o2.getD i 0) q + (if q = hs.idxOf h then ds.getD (o2.getD i 0) 0 else 0) - at2 he (c.o.getD i 0) q)).add g4
    exact g5.trans ((Cg.of (by omega)).trans g3)
  show SC.mk (ogt p (ogt p c.g hs m ca h ds) hs m ca h es) c.o ((List.range hs.length).map fun k => ndr p (((List.range hs.length).map fun k => ndr p (c.s.getD k []) ca (shd p he c.o o2 k (ownOf hs h k ds))).getD k []) ca (shd p he' o2 c.o k (ownOf hs h k es))) = SC.mk c.g c.o c.s
  rw [hg, hs2]
end
section
variable {p m r k : Nat} {fam : List (List Nat)} {lot : List Nat} {vs os : List Int} {c : RC}
theorem swp_at (hl : c.st.length = fam.length) {i : Nat} (hi : i < fam.length) : (swp p m fam lot k vs os c).st.getD i dSC = swS p m fam lot k vs os c i := rng_getD _ _ (by rw [hl]; exact hi)
/-- the other coins are coins -/
theorem LawOk.rc2 (h : LawOk p m r fam lot k vs os c) : RcOk p m r fam (swp p m fam lot k vs os c) := by
  have hp := primes_pos h.sh.p
  have hl := h.rc.l
  refine ⟨isB_ndr hp h.rc.v (dif_len h.vo.l h.oo.l), ?_, fun i lo sc h1 h2 => ?_⟩
  · show ((List.range c.st.length).map _).length = _
    rw [List.length_map, List.length_range, hl]
  · have hi := (List.getElem?_eq_some_iff.mp h1).1
    have e : sc = swS p m fam lot k vs os c i := by rw [← swp_at hl hi, getD_some h2]
    obtain ⟨lo', sc0, g1, g2, g3, g4, g5⟩ := h.rc.at hi
    rw [h1] at g1
    cases g1
    have sw := h.sw hi
    have st := st_ok h.sh h.rc h.vo.l hi
    have tr := h.tr hi
    subst e
    unfold swS
    rw [g5, g4] at sw st ⊢
    rw [g5] at tr
    split
    · exact g3
    · split
      · refine ⟨by show (ogt p sc0.g (holders lo m) m _ _ _).length = _; rw [ogt_len, g3.gl], isB_ogt ⟨_, st⟩ sw.dl sw.cm, by rw [h.vo.l]; exact tr, by show ((List.range _).map _).length = _; rw [List.length_map, List.length_range], fun b hb => ?_⟩
        obtain ⟨q, hq, rfl⟩ := List.mem_map.mp hb
        exact isB_ndr hp (g3.s _ (gdM [] (by rw [g3.sl]; exact List.mem_range.mp hq))) (by rw [shd_ln, g3.o.len])
      · refine ⟨by show (ogt p sc0.g (holders lo m) m _ _ _).length = _; rw [ogt_len, g3.gl], isB_ogt ⟨_, st⟩ sw.dl sw.cm, g3.o, by show (sc0.s.set _ _).length = _; rw [List.length_set, g3.sl], fun b hb => ?_⟩
        rcases List.mem_or_eq_of_mem_set hb with hb | hb
        · exact g3.s b hb
        · rw [hb]
          exact isB_ndr hp (g3.s _ (gdM [] sw.hx.1)) (by rw [mv_len, g3.o.len])
theorem LawOk.back (h : LawOk p m r fam lot k vs os c) : LawOk p m r fam lot k os vs (swp p m fam lot k vs os c) := ⟨h.sh, h.fm, h.rc2, h.oo, h.vo, h.pm.symm, h.sg⟩
theorem swp_psd (h : LawOk p m r fam lot k vs os c) {i : Nat} (hi : i < k) : (swp p m fam lot k vs os c).st.getD i dSC = psd p (c.st.getD i dSC) (hsA fam m i) m (carr lot m) (hid (hsA fam m i) lot (carr lot m)) (dAt p k vs os c i) := by
  rw [swp_at h.rc.l (by have := h.klt; omega)]
  unfold swS
  rw [if_neg (by omega), if_neg (by omega)]
theorem swp_tka (h : LawOk p m r fam lot k vs os c) : (swp p m fam lot k vs os c).st.getD k dSC = tka p (c.st.getD k dSC) (hsA fam m k) (recA p m fam vs c k).he m (carr lot m) (hid (hsA fam m k) lot (carr lot m)) (dAt p k vs os c k) (trn (c.st.getD k dSC).o (bAt r k c k) (mtch os vs)) := by
  rw [swp_at h.rc.l h.klt]
  unfold swS
  rw [if_neg (Nat.lt_irrefl _), if_pos rfl, h.vo.l]
theorem tab_rel (h : LawOk p m r fam lot k vs os c) : ∀ i, i ≤ k → Tr p r m (tab p m fam vs c i) (tab p m fam os (swp p m fam lot k vs os c) i) (carr lot m) (dAt p k vs os c i)
  | 0, _ => fun x hx j hj => by
    have hcv := h.rc.v
    have hm1 := h.sh.m1
    have hvl := h.vo.l
    have hol := h.oo.l
    have hdl := dif_len (p := p) h.vo.l h.oo.l
    have hxc : x < c.v.length := by rw [hcv.1]; exact hx
    have hw := (hcv.2 _ (gdM [] hxc)).1
    have hca := h.carr.2
    show Cg p (at2 (List.zipWith (spl p) os (ndr p c.v (carr lot m) (dif p vs os))) x j) (at2 (List.zipWith (spl p) vs c.v) x j + if j = carr lot m then (dif p vs os).getD x 0 else 0)
    unfold at2
    rw [zip_getD _ 0 [] [] (by omega) (by rw [ndr_len (by rw [hcv.1, hdl]), hcv.1]; exact hx), zip_getD _ 0 [] [] (by omega) hxc, ndr_get hxc (by omega)]
    refine spl_ndg (by rw [hw]; omega) (by rw [hw]; omega) ?_
    rw [dif_get (by omega) (by omega)]
    exact ((Cg.rfl' (a := vs.getD x 0)).add Cg.mod |>.trans (Cg.of (by omega))).symm
  | i + 1, hi => by
    have ih := tab_rel h i (Nat.le_of_succ_le hi)
    have hik : i < k := hi
    have hkf := h.klt
    have hif : i < fam.length := by omega
    have sw := h.sw hif
    have st := st_ok h.sh h.rc h.vo.l hif
    have ht := tab_ok h.sh h.rc2 h.oo.l i (Nat.le_of_lt hif)
    have e1 : dAt p k vs os c (i + 1) = mv 0 (dAt p k vs os c i) (c.st.getD i dSC).o := if_pos hik
    show Tr p r m (stg p m (tab p m fam vs c i) (hsA fam m i) (c.st.getD i dSC)).t (stg p m (tab p m fam os (swp p m fam lot k vs os c) i) (hsA fam m i) ((swp p m fam lot k vs os c).st.getD i dSC)).t (carr lot m) (dAt p k vs os c (i + 1))
    rw [e1, swp_psd h hik]
    exact pass_rel st ht ih sw.dl sw.cm sw.hh hid_ca (hold_nodup _ _)
theorem dAt_opp (h : LawOk p m r fam lot k vs os c) : ∀ i, i ≤ k → Opp p (dAt p k vs os c i) (dAt p k os vs (swp p m fam lot k vs os c) i)
  | 0, _ => dif_opp h.vo.l h.oo.l
  | i + 1, hi => by
    have ih := dAt_opp h i (Nat.le_of_succ_le hi)
    have hik : i < k := hi
    have hkf := h.klt
    have hif : i < fam.length := by omega
    have e1 : dAt p k vs os c (i + 1) = mv 0 (dAt p k vs os c i) (c.st.getD i dSC).o := if_pos hik
    have e2 : dAt p k os vs (swp p m fam lot k vs os c) (i + 1) = mv 0 (dAt p k os vs (swp p m fam lot k vs os c) i) ((swp p m fam lot k vs os c).st.getD i dSC).o := if_pos hik
    rw [e1, e2, swp_psd h hik]
    exact ih.mv (h.ord hif) (h.dl i (Nat.le_of_lt hif))
theorem bAt_same (h : LawOk p m r fam lot k vs os c) : ∀ i, i ≤ k → bAt r k (swp p m fam lot k vs os c) i = bAt r k c i
  | 0, _ => rfl
  | i + 1, hi => by
    have ih := bAt_same h i (Nat.le_of_succ_le hi)
    have hik : i < k := hi
    have e1 : bAt r k c (i + 1) = mv 0 (bAt r k c i) (c.st.getD i dSC).o := if_pos hik
    have e2 : bAt r k (swp p m fam lot k vs os c) (i + 1) = mv 0 (bAt r k (swp p m fam lot k vs os c) i) ((swp p m fam lot k vs os c).st.getD i dSC).o := if_pos hik
    rw [e1, e2, swp_psd h hik, ih]
    rfl
/-- the whole way back -/
theorem swp_back (h : LawOk p m r fam lot k vs os c) : swp p m fam lot k os vs (swp p m fam lot k vs os c) = c := by
  have hp := primes_pos h.sh.p
  have hl := h.rc.l
  have hkf := h.klt
  have hl2 : (swp p m fam lot k vs os c).st.length = fam.length := h.rc2.l
  have ev : ndr p (ndr p c.v (carr lot m) (dif p vs os)) (carr lot m) (dif p os vs) = c.v := ndr_back hp h.rc.v (dif_len h.vo.l h.oo.l) (dif_opp h.vo.l h.oo.l)
  have es : (List.range (swp p m fam lot k vs os c).st.length).map (swS p m fam lot k os vs (swp p m fam lot k vs os c)) = c.st := by
    refine ext_getD (d := dSC) (by rw [List.length_map, List.length_range, hl2, hl]) fun i hi => ?_
    rw [List.length_map, List.length_range, hl2] at hi
    rw [rng_getD _ _ (by rw [hl2]; exact hi)]
    have sw := h.sw hi
    by_cases h1 : k < i
    · have e : swS p m fam lot k os vs (swp p m fam lot k vs os c) i = (swp p m fam lot k vs os c).st.getD i dSC := if_pos h1
      rw [e, swp_at hl hi]
      exact if_pos h1
    · by_cases h2 : i = k
      · subst h2
        have e : swS p m fam lot i os vs (swp p m fam lot i vs os c) i = _ := (if_neg h1).trans (if_pos rfl)
        rw [e, h.oo.l, bAt_same h i (Nat.le_refl _), swp_tka h]
        have hb := h.bo i (Nat.le_of_lt hi)
        have ho := h.ord hi
        have ht2 : IsOrd (mtch vs os) r := h.back.tg
        have eo : trn (trn (c.st.getD i dSC).o (bAt r i c i) (mtch os vs)) (bAt r i c i) (mtch vs os) = (c.st.getD i dSC).o := trn_back ho hb h.tg ht2 fun x hx => by
          have g1 : (mtch os vs)[x]? = some ((mtch os vs).getD x 0) := gd 0 (by rw [h.tg.len]; exact hx)
          exact getD_some (mtch_back h.pm g1)
        show tka p (tka p (c.st.getD i dSC) (hsA fam m i) (recA p m fam vs c i).he m (carr lot m) (hid (hsA fam m i) lot (carr lot m)) (dAt p i vs os c i) (trn (c.st.getD i dSC).o (bAt r i c i) (mtch os vs))) (hsA fam m i) (recA p m fam os (swp p m fam lot i vs os c) i).he m (carr lot m) (hid (hsA fam m i) lot (carr lot m)) (dAt p i os vs (swp p m fam lot i vs os c) i) (trn (trn (c.st.getD i dSC).o (bAt r i c i) (mtch os vs)) (bAt r i c i) (mtch vs os)) = _
        rw [eo]
        have st := st_ok h.sh h.rc h.vo.l hi
        refine tka_back ⟨_, st⟩ sw.dl sw.cm sw.hh (hold_nodup _ _) (dAt_opp h i (Nat.le_refl _)) (h.tr hi) fun x q hx hq => ?_
        have ht := tab_ok h.sh h.rc2 h.oo.l i (Nat.le_of_lt hi)
        have g := held_rel st ht (tab_rel h i (Nat.le_refl _)) sw.dl sw.cm sw.hh hid_ca (hold_nodup _ _) hx hq
        show Cg p (at2 (hel p (tab p m fam os (swp p m fam lot i vs os c) i) (hsA fam m i) (gat p (tab p m fam os (swp p m fam lot i vs os c) i) (holders (hsA fam m i) m) ((swp p m fam lot i vs os c).st.getD i dSC).g)) x q) _
        rw [swp_tka h]
        exact g
      · have h3 : i < k := by omega
        have e : swS p m fam lot k os vs (swp p m fam lot k vs os c) i = _ := (if_neg h1).trans (if_neg h2)
        rw [e, swp_psd h h3]
        exact psd_back sw.st sw.dl sw.cm sw.hh (dAt_opp h i (Nat.le_of_lt h3))
  show RC.mk (ndr p (ndr p c.v (carr lot m) (dif p vs os)) (carr lot m) (dif p os vs)) ((List.range (swp p m fam lot k vs os c).st.length).map (swS p m fam lot k os vs (swp p m fam lot k vs os c))) = RC.mk c.v c.st
  rw [ev, es]
end
end Vc
set_option maxHeartbeats 4000000
/-! VcE7: what the law tells; its lot and its other votes -/
namespace Vc
open PySem PySem.Spec L2
abbrev tRow (row : List Int) : Ty := tT (row.map tI)
abbrev tBk (b : List (List Int)) : Ty := tT (b.map tRow)
abbrev tDeep (g : List (List (List Int))) : Ty := tT (g.map tBk)
abbrev tSt (c : SC) : Ty := tT [tDeep c.g, tT (c.o.map tN), tDeep c.s]
abbrev tTold (c : RC) : Ty := tT [tBk c.v, tT (c.st.map tSt)]
abbrev dRow (row : List Int) : PyData := .tuple (row.map PyData.int)
abbrev dBk (b : List (List Int)) : PyData := .tuple (b.map dRow)
abbrev dDeep (g : List (List (List Int))) : PyData := .tuple (g.map dBk)
abbrev dSt (c : SC) : PyData := .tuple [dDeep c.g, .tuple (c.o.map fun n : Nat => PyData.int n), dDeep c.s]
abbrev dTold (c : RC) : PyData := .tuple [dBk c.v, .tuple (c.st.map dSt)]
theorem DtOk.tupL {K : PySem.W.Frag} {ts : List Ty} {ds : List PyData} (hl : ts.length = ds.length) (h : ∀ (i : Nat) T d, ts[i]? = some T → ds[i]? = some d → DtOk K T d) : DtOk K (tT ts) (.tuple ds) := fun v H ⟨a, vs, e, hv, al⟩ => by
  subst e
  exact .tup (SqT.of hv) (dpAll hl h al)
theorem dt_row {K : PySem.W.Frag} (row : List Int) : DtOk K (tRow row) (dRow row) := DtOk.tup row fun x _ => DtOk.int
theorem dt_bk {K : PySem.W.Frag} (b : List (List Int)) : DtOk K (tBk b) (dBk b) := DtOk.tup b fun x _ => dt_row x
theorem dt_deep {K : PySem.W.Frag} (g : List (List (List Int))) : DtOk K (tDeep g) (dDeep g) := DtOk.tup g fun x _ => dt_bk x
theorem dt_st {K : PySem.W.Frag} (c : SC) : DtOk K (tSt c) (dSt c) := DtOk.tupL rfl fun i T d h1 h2 => by
  match i with
  | 0 => cases h1; cases h2; exact dt_deep c.g
  | 1 => cases h1; cases h2; exact DtOk.tup c.o fun x _ => DtOk.int
  | 2 => cases h1; cases h2; exact dt_deep c.s
  | i + 3 => cases h1
theorem dt_told {K : PySem.W.Frag} (c : RC) : DtOk K (tTold c) (dTold c) := DtOk.tupL rfl fun i T d h1 h2 => by
  match i with
  | 0 => cases h1; cases h2; exact dt_bk c.v
  | 1 => cases h1; cases h2; exact DtOk.tup c.st fun x _ => dt_st x
  | i + 2 => cases h1
theorem Okd.mono {n m : Nat} {d : PyData} (h : Okd n d) (k : n ≤ m) : Okd m d := ⟨h.1, Nat.le_trans h.2 k⟩
theorem okd_row (row : List Int) : Okd 1 (dRow row) := Okd.tup fun d hd => by
  obtain ⟨x, _, rfl⟩ := List.mem_map.mp hd
  exact Okd.int 0 x
theorem okd_bk (b : List (List Int)) : Okd 2 (dBk b) := Okd.tup fun d hd => by
  obtain ⟨x, _, rfl⟩ := List.mem_map.mp hd
  exact okd_row x
theorem okd_deep (g : List (List (List Int))) : Okd 3 (dDeep g) := Okd.tup fun d hd => by
  obtain ⟨x, _, rfl⟩ := List.mem_map.mp hd
  exact okd_bk x
theorem okd_st (c : SC) : Okd 4 (dSt c) := Okd.tup fun d hd => by
  rcases List.mem_cons.mp hd with rfl | hd
  · exact okd_deep c.g
  · rcases List.mem_cons.mp hd with rfl | hd
    · refine Okd.mono (n := 1) (Okd.tup fun d hd => ?_) (by decide)
      obtain ⟨x, _, rfl⟩ := List.mem_map.mp hd
      exact Okd.int 0 _
    · rw [List.mem_singleton.mp hd]
      exact okd_deep c.s
theorem okd_told (c : RC) : Okd 6 (dTold c) := Okd.tup fun d hd => by
  rcases List.mem_cons.mp hd with rfl | hd
  · exact (okd_bk c.v).mono (by decide)
  · rw [List.mem_singleton.mp hd]
    refine Okd.tup fun d hd => ?_
    obtain ⟨x, _, rfl⟩ := List.mem_map.mp hd
    exact okd_st x
theorem lot_len {m : Nat} : ∀ {lot : List Nat} {lo : Nat}, lot.Pairwise (· < ·) → (∀ x ∈ lot, lo ≤ x ∧ x < m) → lot.length ≤ m - lo
  | [], _, _, _ => Nat.zero_le _
  | a :: lot, lo, h, k => by
    obtain ⟨h1, h2⟩ := List.pairwise_cons.mp h
    have ha := k a List.mem_cons_self
    have ih := lot_len (lo := a + 1) h2 fun x hx => ⟨h1 x hx, (k x (List.mem_cons_of_mem _ hx)).2⟩
    rw [List.length_cons]
    omega
theorem stage_ex {lot : List Nat} : ∀ {fam : List (List Nat)}, (∃ a ∈ fam, contains a lot = true) → ∃ k, StageOf lot fam k
  | [], ⟨a, h, _⟩ => nomatch h
  | a :: fam, h => by
    by_cases e : contains a lot = true
    · exact ⟨0, ⟨a, rfl, e⟩, fun j b hj => by omega⟩
    · obtain ⟨b, hb, hc⟩ := h
      rcases List.mem_cons.mp hb with q | q
      · subst q; exact (e hc).elim
      · obtain ⟨k, ⟨x, h1, h2⟩, h3⟩ := stage_ex ⟨b, q, hc⟩
        refine ⟨k + 1, ⟨x, h1, h2⟩, fun j y hj hy => ?_⟩
        cases j with
        | zero =>
          cases hy
          exact Bool.eq_false_iff.mpr e
        | succ j => exact h3 j y (by omega) hy
section
variable {P : Program} {w : World} {K : PySem.W.Frag} {mg : Str → Option Value} {base : Heap}
def S_deep : Spec (List (List (List Int))) := ⟨fun g => small3 g ∧ ∀ b ∈ g, ∀ row ∈ b, row.length ≤ 1000, fun g => [tM3 g], fun g => tDeep g⟩
theorem ok_deep (T : Tx K mg) : DefOk P w K mg base 1 "_law_deep" [] S_deep.sp :=
  T.k__law_deep fun fd F => S_deep.ok F sc__law_deep (fun _ _ => rfl) fun p B rt g hr hp hR => by
    have hp : small3 g ∧ ∀ b ∈ g, ∀ row ∈ b, row.length ≤ 1000 := hp
    obtain ⟨⟨h1, h2⟩, h3⟩ := hp
    exact ss_retp (e_tuple (Lc.e (lcM (j := 1) (xs := g) (f := tM) (g := tBk) (bk sc__law_deep.nd) (e_var 0) (by omega) (fun H1 i b hb q s0 H0 C cl fp =>
      e_tuple (Lc.e (lcM (j := 2) (xs := b) (f := tIs) (g := tRow) (bk sc__law_deep.nd) (e_var 1) (by have := h2 b (List.mem_of_getElem? hb); omega) (fun H2 i2 row hrow q2 s1 H3 C1 cl1 fp1 =>
        e_tuple (e_var 2) ls T.f_tuple))) ls T.f_tuple))) ls T.f_tuple) hR
def S_told (K : PySem.W.Frag) : Spec (Nat × Nat × Nat × List (List Nat) × RC) := ⟨fun z => Shp z.1 z.2.1 z.2.2.1 z.2.2.2.1 ∧ RcOk z.1 z.2.1 z.2.2.1 z.2.2.2.1 z.2.2.2.2, fun z => [tRC K z.2.2.2.2], fun z => tTold z.2.2.2.2⟩
theorem ok_told (T : Tx K mg) : DefOk P w K mg base 2 "_law_told_coins" [] (S_told K).sp :=
  T.k__law_told_coins fun fd F => (S_told K).ok F sc__law_told_coins (fun _ _ => rfl) fun p B rt ⟨q, m, r, fam, c⟩ hr hp hR => by
    have hp : Shp q m r fam ∧ RcOk q m r fam c := hp
    obtain ⟨hs, hc⟩ := hp
    have hm5 := hs.m5
    have hr5 := hs.r5
    have hf := hs.f
    have hcl := hc.l
    refine ss_asgO 1 sc__law_told_coins.nd (eo_lst ea_nil (by decide)) fun l hl => ?_
    refine ss_forL (ζ := Unit) (ts := c.st.map (tSC K)) (fun _ _ => True) (fun _ _ => [some (tRC K c), some (tRef l), none, none]) (fun i _ => [(l, .lst ((c.st.take i).map tSt))]) 2 rfl sc__law_told_coins.nd PassesOwn.never (e_fld (e_var 0) ins T.c_RunCoins T.n_RunCoins_stages (by kernel_rfl)) () trivial (fun H1 i Ti z kb hT _ => ?_) (fun _ _ => ?_)
    · obtain ⟨sc, hsc, rfl⟩ := getM hT
      have hsc : c.st[i]? = some sc := hsc
      have hil := (List.getElem?_eq_some_iff.mp hsc).1
      obtain ⟨lot, hlot⟩ := ix_some (xs := fam) (i := i) (by omega)
      have ok := hc.s i lot sc hlot hsc
      have hol := holders_len lot m
      have hgl := ok.gl
      have hsl := ok.sl
      refine ss_append (l := l) (ts := (c.st.take i).map tSt) (ts0 := (c.st.take i).map tSt) (R := tSt sc) 0 (e_var 1) (e_tup (ea_cons (e_call (S := S_deep) sc.g (ok_deep T) hr (ea_cons (e_fld (e_var 2) ins T.c_StageCoins T.n_StageCoins_gather (by kernel_rfl)) ea_nil) ⟨⟨by omega, fun b hb => by rw [(ok.g b hb).1]; omega⟩, fun b hb row hrow => by rw [((ok.g b hb).2 row hrow).1]; omega⟩)
        (ea_cons (e_tuple (e_fld (e_var 2) ins T.c_StageCoins T.n_StageCoins_order (by kernel_rfl)) ls T.f_tuple) (ea_cons (e_call (S := S_deep) sc.s (ok_deep T) hr (ea_cons (e_fld (e_var 2) ins T.c_StageCoins T.n_StageCoins_spread (by kernel_rfl)) ea_nil) ⟨⟨by omega, fun b hb => by rw [(ok.s b hb).1]; omega⟩, fun b hb row hrow => by rw [((ok.s b hb).2 row hrow).1]; omega⟩) ea_nil))) (Nat.le_of_ble_eq_true rfl)) (ss_next () trivial (ho := ?_)) (by rw [List.length_map, List.length_take]; omega)
      show [(l, Ch.lst ((c.st.take (i + 1)).map tSt))] = [(l, Ch.lst ((c.st.take i).map tSt ++ [tSt sc]))]
      rw [List.take_add_one, hsc, List.map_append]
      rfl
    · rw [List.length_map, List.take_length]
      exact ss_retp (e_o (e_tup (ea_cons (e_tuple (Lc.e (lcM (j := 3) (xs := c.v) (f := tIs) (g := tRow) (bk sc__law_told_coins.nd) (e_fld (e_var 0) ins T.c_RunCoins T.n_RunCoins_votes (by kernel_rfl)) (by rw [hc.v.1]; omega) (fun H1 i row hrow q s0 H0 C cl fp => e_tuple (e_var 3) ls T.f_tuple))) ls T.f_tuple) (ea_cons (e_tuple (ts := c.st.map tSt) (e_var 1) (lso 0) T.f_tuple) ea_nil)) (Nat.le_of_ble_eq_true rfl)) rfl) hR
/-! ### the lot, the other votes -/
structure LoI where
  W : WD
  xs : List Int
  l : Addr
theorem boxW2 {xs : List Int} {k : Nat} {σ : L2.St} {H Ha : Hp} {B : Bs} {G : Gm} {l : Addr} (s : Sat B G [(l, .lst [tIs xs, tN k])] σ H Ha) : Sat B G [(l, .lst [tIs xs, tNx])] σ H Ha := s.chunk (k := 0) rfl (boxW H)
def S_lot : Spec2 LoI := ⟨fun z => WdOk z.W, fun z => z.l, fun z => [tW z.W z.l], fun z => .lst [tIs z.xs, tNx], fun z => .lst [tIs z.xs, tNx], fun z => tEx (fun lot : List Nat => (∃ k, StageOf lot z.W.fam k) ∧ lot.length ≤ 1000) tNs⟩
theorem ok_lot (T : Tx K mg) : DefOk P w K mg base 2 "_law_lot" [] S_lot.sp :=
  T.k__law_lot fun fd F => S_lot.ok F sc__law_lot (fun _ _ => rfl) fun p B rt ⟨W, xs, l⟩ hr hp hF hB hR => by
    have hp : WdOk W := hp
    have hR : ∀ (σ : L2.St) (G : Gm) (v : V) (H Ha : Hp), Sat B G [(l, .lst [tIs xs, tNx])] σ H Ha → (tEx (fun lot : List Nat => (∃ k, StageOf lot W.fam k) ∧ lot.length ≤ 1000) tNs).p v H → rt v Ha := hR
    refine ss_openL (l := l) (ts := [tIs xs, tNx]) 0 1 fun k _ => ?_
    refine ss_asg (R := tF W.fam) 1 sc__law_lot.nd (e_key hr (e_var 0) rfl) ?_
    have hn : drw xs k 900 % W.fam.length < W.fam.length := Nat.mod_lt _ hp.f0
    obtain ⟨lot, hlot⟩ := ix_some hn
    have hfl : (W.fam.map tNs).length = W.fam.length := List.length_map _
    have hlm := List.mem_of_getElem? hlot
    have hil := hp.fm.1 lot hlm
    have hm5 := hp.sh.m5
    have hll : lot.length ≤ 1000 := by
      have h1 := lot_len (lo := 0) hil.1 fun x hx => ⟨Nat.zero_le _, hil.2 x hx⟩
      omega
    refine ss_asg (R := tNs lot) (O1 := [(l, .lst [tIs xs, tN (k + 1)])]) 2 sc__law_lot.nd (e_ix (n := drw xs k 900 % W.fam.length) (e_var 1) ls (Et.is (e_mod (e_intOf (e_call2 (S := S_draw) ⟨l, xs, k, 900⟩ 0 (ok_draw T) hr (ea_cons (e_key hr (e_var 0) rfl) (ea_cons e_int ea_nil)) (show 0 < 900 by decide)) T.f_int) (e_len (e_var 1) ls T.f_len) (by rw [hfl]; have := hp.f0; omega)) ?_) (putM tNs hlot)) ?_
    · rw [hfl]
      exact tnI (Int.natCast_emod _ _).symm
    refine ss_if (t_gt (e_call2 (S := S_draw) ⟨l, xs, k + 1, 3⟩ 0 (ok_draw T) hr (ea_cons (e_key hr (e_var 0) rfl) (ea_cons e_int ea_nil)) (show 0 < 3 by decide)) e_int) (fun hb => ?_) (fun hb => ss_go ?_)
    · refine ss_ret (Et.to (R := tNs lot) (R1 := tEx (fun lot : List Nat => (∃ k, StageOf lot W.fam k) ∧ lot.length ≤ 1000) tNs) (e_list (e_var 2) ls T.f_list) fun v H h => ⟨lot, ⟨stage_ex ⟨lot, hlm, ?_⟩, hll⟩, h⟩) fun σ v H Ha s r => hR σ _ v H Ha (boxW2 s) r
      exact List.all_eq_true.mpr fun x hx => decide_eq_true hx
    · let b : Nat → Bool := fun i => decide (drw xs (k + 2 + i) 2 = 0)
      have hlen : (lot.map tN).length = lot.length := List.length_map _
      refine ss_ret (O1 := [(l, .lst [tIs xs, tN (k + 2 + (lot.map tN).length)])]) (Et.to (R1 := tEx (fun lot : List Nat => (∃ k, StageOf lot W.fam k) ∧ lot.length ≤ 1000) tNs) (Lc.e (lcLt (j := 3) (ts := lot.map tN) (b := b) (U := fun i => tN (lot.getD i 0)) (Oi := fun i => [(l, .lst [tIs xs, tN (k + 2 + i)])]) (Oi' := fun i => [(l, .lst [tIs xs, tN (k + 2 + i + 1)])]) (bk sc__law_lot.nd) (fun _ => rfl) (e_var 2) (by rw [hlen]; omega)
        (fun H1 i Ti hT q s0 H0 C cl fp => Tt.is (t_eq (e_call2 (S := S_draw) ⟨l, xs, k + 2 + i, 2⟩ 0 (ok_draw T) hr (ea_cons (e_key hr (e_var 0) rfl) (ea_cons e_int ea_nil)) (show 0 < 2 by decide)) e_int) (by show decide (((drw xs (k + 2 + i) 2 : Nat) : Int) = 0) = decide (drw xs (k + 2 + i) 2 = 0); exact decide_eq_decide.mpr (by omega)))
        (fun H1 i Ti hT hb q s0 H0 C cl fp => by obtain ⟨x, hx, rfl⟩ := getM hT; show E _ _ _ _ _ (tN (lot.getD i 0)) _; rw [getD_some hx]; exact e_var 3) (fun _ _ => rfl))) fun v H h => ?_) fun σ v H Ha s r => hR σ _ v H Ha (boxW2 s) r
      have e : coll b (fun i => tN (lot.getD i 0)) (lot.map tN).length = (((List.range lot.length).filter b).map fun i => lot.getD i 0).map tN := by
        unfold coll
        rw [hlen, List.map_map]
        rfl
      rw [e] at h
      refine ⟨_, ⟨stage_ex ⟨lot, hlm, ?_⟩, ?_⟩, h⟩
      · refine List.all_eq_true.mpr fun x hx => ?_
        obtain ⟨i, hi, rfl⟩ := List.mem_map.mp hx
        exact decide_eq_true (gdM 0 (List.mem_range.mp (List.mem_filter.mp hi).1))
      · rw [List.length_map]
        have := List.length_filter_le b (List.range lot.length)
        rw [List.length_range] at this
        omega
def S_others : Spec2 LoI := ⟨fun z => WdOk z.W, fun z => z.l, fun z => [tW z.W z.l], fun z => .lst [tIs z.xs, tNx], fun z => .lst [tIs z.xs, tNx], fun z => tEx (fun os : List Int => os.Perm z.W.vs) tIs⟩
theorem ok_others (T : Tx K mg) : DefOk P w K mg base 2 "_law_others" [] S_others.sp :=
  T.k__law_others fun fd F => S_others.ok F sc__law_others (fun _ _ => rfl) fun p B rt ⟨W, xs, l⟩ hr hp hF hB hR => by
    have hp : WdOk W := hp
    have hR : ∀ (σ : L2.St) (G : Gm) (v : V) (H Ha : Hp), Sat B G [(l, .lst [tIs xs, tNx])] σ H Ha → (tEx (fun os : List Int => os.Perm W.vs) tIs).p v H → rt v Ha := hR
    refine ss_openL (l := l) (ts := [tIs xs, tNx]) 0 1 fun k _ => ?_
    refine ss_asgO (O' := fun l2 => [(l, .lst [tIs xs, tN k]), (l2, .lst (W.vs.map tI))]) 1 sc__law_others.nd (eo_list (e_key hr (e_var 0) rfl) ls T.f_list) fun l2 hl2 => ?_
    refine ss_forR (n := drw xs k 6) (O1 := [(l, .lst [tIs xs, tN (k + 1)]), (l2, .lst (W.vs.map tI))]) (fun i (z : Nat × List Int) => z.2.Perm W.vs) (fun i z => [some (tW W l), some (tRef l2), none, none, none, none]) (fun i z => [(l, .lst [tIs xs, tN z.1]), (l2, .lst (z.2.map tI))]) 2 rfl sc__law_others.nd PassesOwn.never T.f_range (e_call2 (S := S_draw) ⟨l, xs, k, 6⟩ 0 (ok_draw T) hr (ea_cons (e_key hr (e_var 0) rfl) (ea_cons e_int ea_nil)) (show 0 < 6 by decide)) (by have := drw_lt (xs := xs) (k := k) (n := 6) (by decide); omega) (k + 1, W.vs) (List.Perm.refl _) (fun i z kb hi hJ => ?_) (fun z hJ => ?_)
    · obtain ⟨k, os⟩ := z
      have hJ : os.Perm W.vs := hJ
      have hol : os.length = W.r := by rw [hJ.length_eq, hp.vo.l]
      have hml : (os.map tI).length = os.length := List.length_map _
      have hl0 : 0 < os.length := by have := hp.r1; omega
      have hi1 : drw xs k 900 % os.length < os.length := Nat.mod_lt _ hl0
      have hi2 : drw xs (k + 1) 900 % os.length < os.length := Nat.mod_lt _ hl0
      refine ss_asg (R := tN (drw xs k 900 % os.length)) (O1 := [(l, .lst [tIs xs, tN (k + 1)]), (l2, .lst (os.map tI))]) 3 sc__law_others.nd (Et.is (e_mod (e_intOf (e_call2 (S := S_draw) ⟨l, xs, k, 900⟩ 0 (ok_draw T) hr (ea_cons (e_key hr (e_var 0) rfl) (ea_cons e_int ea_nil)) (show 0 < 900 by decide)) T.f_int) (e_len (ts := os.map tI) (e_var 1) (lso 1) T.f_len) (by rw [hml]; omega)) (by rw [hml]; exact tnI (Int.natCast_emod _ _).symm)) ?_
      refine ss_asg (R := tN (drw xs (k + 1) 900 % os.length)) (O1 := [(l, .lst [tIs xs, tN (k + 2)]), (l2, .lst (os.map tI))]) 4 sc__law_others.nd (Et.is (e_mod (e_intOf (e_call2 (S := S_draw) ⟨l, xs, k + 1, 900⟩ 0 (ok_draw T) hr (ea_cons (e_key hr (e_var 0) rfl) (ea_cons e_int ea_nil)) (show 0 < 900 by decide)) T.f_int) (e_len (ts := os.map tI) (e_var 1) (lso 1) T.f_len) (by rw [hml]; omega)) (by rw [hml]; exact tnI (Int.natCast_emod _ _).symm)) ?_
      generalize drw xs k 900 % os.length = a at hi1
      generalize drw xs (k + 1) 900 % os.length = b at hi2
      have ga : os[a]? = some os[a] := List.getElem?_eq_getElem hi1
      have gb : os[b]? = some os[b] := List.getElem?_eq_getElem hi2
      refine ss_asg (R := tI os[a]) 5 sc__law_others.nd (e_ix (ts := os.map tI) (e_var 1) (lso 1) (e_var 3) (putM tI ga)) ?_
      refine ss_setItem (l := l2) (n := a) (ts := os.map tI) (R := tI os[b]) 1 (e_ix (ts := os.map tI) (e_var 1) (lso 1) (e_var 4) (putM tI gb)) (e_var 1) (e_var 3) ?_ (by rw [hml]; exact hi1)
      refine ss_setItem (l := l2) (n := b) (ts := (os.map tI).set a (tI os[b])) (R := tI os[a]) 1 (e_var 5) (e_var 1) (e_var 4) ?_ (by rw [List.length_set, hml]; exact hi2)
      refine ss_next (k + 2, (os.set a os[b]).set b os[a]) ((List.set_set_perm hi1 hi2).trans hJ) (ho := ?_)
      show [(l, Ch.lst [tIs xs, tN (k + 2)]), (l2, Ch.lst (((os.set a os[b]).set b os[a]).map tI))] = [(l, Ch.lst [tIs xs, tN (k + 2)]), (l2, Ch.lst (((os.map tI).set a (tI os[b])).set b (tI os[a])))]
      rw [List.map_set, List.map_set]
    · obtain ⟨k2, os⟩ := z
      have hJ : os.Perm W.vs := hJ
      refine ss_freeze (l := l2) (ts := os.map tI) 1 1 ?_ hl2
      exact ss_ret (Et.to (R := tIs os) (R1 := tEx (fun os : List Int => os.Perm W.vs) tIs) (e_var 1) fun v H h => ⟨os, hJ, h⟩) fun σ v H Ha s r => hR σ _ v H Ha (boxW2 s) r
end
end Vc
set_option maxHeartbeats 4000000
/-! VcE8: the law's coins, the law -/
namespace Vc
open PySem PySem.Spec L2
theorem e_coins_of {X : Cx} {B : Bs} {G : Gm} {O : Om} {e1 e2 e3 e4 e5 : Expr} {n : Nat} {pos p p2 p3 p4 p5 : Pos} (z : Nat × Nat × Nat × List (List Nat) × List Int) (D : DefOkN X.prog X.w X.K X.mg X.base 4 "coins_of" 1 ["prime", "mixers", "family", "rows"] (S_coins_of X.K).sp) (hr : Room n X.A)
    (h1 : E X B G O e1 (tIs z.2.2.2.2) O) (h2 : E X B G O e2 (tN z.1) O) (h3 : E X B G O e3 (tN z.2.1) O) (h4 : E X B G O e4 (tF z.2.2.2.1) O) (h5 : E X B G O e5 (tN z.2.2.1) O) (hp : (S_coins_of X.K).pre z) (hk : 4 ≤ n := by decide) (hg : Gl X "coins_of" := by rfl)
    (he : starEach [e1] X.env = (false, eval e1 X.env) :: starEach [] X.env := by rfl)
    (hall : (backToKw pos (keywordEach [⟨some "prime", e2, p2⟩, ⟨some "mixers", e3, p3⟩, ⟨some "family", e4, p4⟩, ⟨some "rows", e5, p5⟩] X.env)).all (·.1.isSome) = true := by rfl) (hks : (backToKw pos (keywordEach [⟨some "prime", e2, p2⟩, ⟨some "mixers", e3, p3⟩, ⟨some "family", e4, p4⟩, ⟨some "rows", e5, p5⟩] X.env)).filterMap (·.1) = (["prime", "mixers", "family", "rows"] : List Str) := by rfl)
    (hpl : ((backTo pos (starEach [e1] X.env)).any (·.1) || (backToKw pos (keywordEach [⟨some "prime", e2, p2⟩, ⟨some "mixers", e3, p3⟩, ⟨some "family", e4, p4⟩, ⟨some "rows", e5, p5⟩] X.env)).any (·.1.isNone)) = false := by rfl) :
    E X B G O (.Call (.Name "coins_of" p) [e1] [⟨some "prime", e2, p2⟩, ⟨some "mixers", e3, p3⟩, ⟨some "family", e4, p4⟩, ⟨some "rows", e5, p5⟩] pos) ((S_coins_of X.K).ret z) O := by
  obtain ⟨f, fd, ps, F, hm, kp, hb⟩ := D.ex
  refine Et.of (pe_callN F (hr.mono hk) hg hm kp hb pass0 (pa_cons ew pa_nil he) (pk_cons ew (pk_cons ew (pk_cons ew (pk_cons ew pk_nil)))) hall hks (by decide) he hpl) fun σ H Ha s Q q => ?_
  refine h1 σ H Ha s _ fun v1 H1 Ha1 s1 k1 r1 => h2 σ H1 Ha1 k1 _ fun v2 H2 Ha2 s2 k2 r2 => h3 σ H2 Ha2 k2 _ fun v3 H3 Ha3 s3 k3 r3 => h4 σ H3 Ha3 k3 _ fun v4 H4 Ha4 s4 k4 r4 => h5 σ H4 Ha4 k4 _ fun v5 H5 Ha5 s5 k5 r5 => ?_
  refine ⟨rfl, rfl, z, H5, hp, k5.ha, ?_, fun v H6 Ha6 x6 r6 => q v H6 Ha6 (((((s1.trans s2).trans s3).trans s4).trans s5).trans x6.k) (k5.step x6) r6⟩
  exact .cons (Ty.mono _ (((s2.trans s3).trans s4).trans s5) r1) (.cons (Ty.mono _ ((s3.trans s4).trans s5) r2) (.cons (Ty.mono _ (s4.trans s5) r3) (.cons (Ty.mono _ s5 r4) (.one r5))))
section
variable {P : Program} {w : World} {K : PySem.W.Frag} {mg : Str → Option Value} {base : Heap}
def S_lcoins (K : PySem.W.Frag) : Spec (WD × Addr) := ⟨fun z => WdOk z.1, fun z => [tW z.1 z.2], fun z => tEx (RcOk z.1.p z.1.m z.1.r z.1.fam) (tRC K)⟩
theorem ok_lcoins (T : Tx K mg) : DefOk P w K mg base 5 "_law_coins" [] (S_lcoins K).sp :=
  T.k__law_coins fun fd F => (S_lcoins K).ok F sc__law_coins (fun _ _ => rfl) fun p B rt ⟨W, l⟩ hr hp hR => by
    have hp : WdOk W := hp
    refine ss_asg (R := tN W.r) 1 sc__law_coins.nd (Et.is (e_len (ts := W.vs.map tI) (e_key hr (e_var 0) rfl) ls T.f_len) (congrArg tN (show (W.vs.map tI).length = W.r by rw [List.length_map, hp.vo.l]))) ?_
    exact ss_retp (e_coins_of (W.p, W.m, W.r, W.fam, W.ns) (ok_coins_of T) hr (e_key hr (e_var 0) rfl) (e_key hr (e_var 0) rfl) (e_key hr (e_var 0) rfl) (e_key hr (e_var 0) rfl) (e_var 1) ⟨primes_pos hp.sh.p, hp.sh.m1, hp.sh.m5, hp.sh.r5, hp.sh.f, hp.sh.h, hp.nl⟩) hR
theorem ew_world {X : Cx} {B : Bs} {G : Gm} {O : Om} {e1 : Expr} {es : List Expr} {n : Nat} {pos p : Pos} {ns : List Int} {σ : L2.St} {H Ha : Hp} {Q : VK} (D : DefOk X.prog X.w X.K X.mg X.base 3 "_law_world" [] (sp_world X.K)) (hr : Room n X.A) (ha : EA X B G O (e1 :: es) [tScr X.K ns, tN 4] O) (s : Sat B G O σ H Ha)
    (hQ : ∀ (W : WD) (xs : List Int) (l : Addr) (v : V) (H' Ha' : Hp), WdOk W → B.Ha l = none → Sat B G (O ++ [(l, .lst [tIs xs, tNx])]) σ H' Ha' → (tW W l).p v H' → Q v Ha') (hk : 3 ≤ n := by decide) (hg : Gl X "_law_world" := by rfl)
    (he : starEach (e1 :: es) X.env = (false, eval e1 X.env) :: starEach es X.env := by rfl) (hpl : (backTo pos (starEach es X.env)).any (·.1) = false := by rfl) : EW X (.Call (.Name "_law_world" p) (e1 :: es) [] pos) σ Ha Q :=
  fun pins s' I => (pe_def D hr hk aw hg (by decide) he hpl).run pins s' σ Ha Q I (ha σ H Ha s _ fun vs H1 Ha1 s1 k1 r1 => ⟨ns, H1, k1.ha, by rw [List.append_nil]; exact r1, fun W xs l v H' Ha' hW x hl hn ho hv =>
    hQ W xs l v H' Ha' hW (k1.baseFree hl) ((k1.step x).add hn (k1.baseFree hl) (k1.notO hl) ho) hv⟩)
def S_law (K : PySem.W.Frag) : Spec (List Int) := ⟨fun _ => True, fun ns => [tScr K ns], fun _ => tB true⟩
theorem fn_law {f : Addr} {fd : FuncData} (T : Tx K mg) (F : FunD K "law" "law" (defArgs s_law) (defBody s_law) (defScope s_law) [] [] f fd) : FnOk P w K mg base CX0 9 f fd ["_law_script"] (S_law K).sp :=
  (S_law K).ok F sc_law (fun _ _ => rfl) fun p B rt ns hr hp hR => by
    have rest : ∀ (W : WD) (xs : List Int) (l : Addr), WdOk W → B.Ha l = none → SS (XD P w K mg base N_law "law" (defScope s_law) p) ((defBody s_law).drop 1) (Sat B [some (tScr K ns), some (tW W l), none, none, none, none, none] [(l, .lst [tIs xs, tNx])]) (DR rt) := fun W xs l hW hl => by
      refine ss_asgX 2 sc_law.nd (e_call (S := S_lcoins K) (W, l) (ok_lcoins T) hr (ea_cons (e_var 1) ea_nil) hW) fun c hc => ?_
      refine ss_asgX (O1 := [(l, .lst [tIs xs, tNx])]) 3 sc_law.nd (e_call2 (S := S_lot) ⟨W, xs, l⟩ 0 (ok_lot T) hr (ea_cons (e_var 1) ea_nil) hW) fun lot hlot => ?_
      refine ss_asgX (O1 := [(l, .lst [tIs xs, tNx])]) 4 sc_law.nd (e_call2 (S := S_others) ⟨W, xs, l⟩ 0 (ok_others T) hr (ea_cons (e_var 1) ea_nil) hW) fun os hos => ?_
      have hos : os.Perm W.vs := hos
      obtain ⟨⟨k, hk⟩, _⟩ := hlot
      have hoo : VotOk W.p W.r os := ⟨by rw [hos.length_eq, hW.vo.l], fun v hv => hW.vo.v v (hos.mem_iff.mp hv)⟩
      have hL : LawOk W.p W.m W.r W.fam lot k W.vs os c := ⟨hW.sh, hW.fm, hc, hW.vo, hoo, hos, hk⟩
      refine ss_asg 5 sc_law.nd (e_callD (S := S_swapped K) (Rs' := [tNone]) ⟨W.p, W.m, W.r, W.fam, lot, k, W.vs, os, c⟩ (ok_swapped T) hr (ea_cons (e_key hr (e_var 1) rfl) (ea_cons (e_key hr (e_var 1) rfl) (ea_cons (e_key hr (e_var 1) rfl) (ea_cons (e_list (e_var 3) ls T.f_list) (ea_cons (e_list (e_key hr (e_var 1) rfl) ls T.f_list) (ea_cons (e_list (e_var 4) ls T.f_list) (ea_cons (e_var 2) ea_nil))))))) hL rfl (fun H => .one rfl)) ?_
      refine ss_asg 6 sc_law.nd (e_callD (S := S_swapped K) (Rs' := [tNone]) ⟨W.p, W.m, W.r, W.fam, lot, k, os, W.vs, swp W.p W.m W.fam lot k W.vs os c⟩ (ok_swapped T) hr (ea_cons (e_key hr (e_var 1) rfl) (ea_cons (e_key hr (e_var 1) rfl) (ea_cons (e_key hr (e_var 1) rfl) (ea_cons (e_list (e_var 3) ls T.f_list) (ea_cons (e_list (e_var 4) ls T.f_list) (ea_cons (e_list (e_key hr (e_var 1) rfl) ls T.f_list) (ea_cons (e_var 5) ea_nil))))))) hL.back rfl (fun H => .one rfl)) ?_
      have eb := swp_back hL
      refine ss_retp (e_eqD (n := 6) (d := dTold c) hr (e_call (S := S_told K) (W.p, W.m, W.r, W.fam, swp W.p W.m W.fam lot k os W.vs (swp W.p W.m W.fam lot k W.vs os c)) (ok_told T) hr (ea_cons (e_var 6) ea_nil) ⟨hW.sh, by show RcOk _ _ _ _ (swp _ _ _ _ _ _ _ _); rw [eb]; exact hc⟩) (e_call (S := S_told K) (W.p, W.m, W.r, W.fam, c) (ok_told T) hr (ea_cons (e_var 2) ea_nil) ⟨hW.sh, hc⟩) (by show DtOk _ (tTold (swp _ _ _ _ _ _ _ _)) _; rw [eb]; exact dt_told c) (dt_told c) (okd_told c)) hR
    exact ss_of (ps_set (i := 1) sc_law.nd rfl (Or.inl rfl) ew rfl (.inl rfl)) fun σ H Ha s => ew_world (ok_world T) hr (ea_cons (e_var 0) (ea_cons e_int ea_nil)) s fun W xs l v H' Ha' hW hl k1 r1 => rest W xs l hW hl _ H' Ha' (k1.slots (k1.sl.set 1 r1))
theorem facts {h : Heap} {f : Addr} (X : K.In h) (G : h.Ns mainGlobals mg) (hfa : mg ("law" : Str) = some (.ref f)) (c : He.SaysD faAll fnAll K) :
    ∃ fd : FuncData, (∀ (s : Shared) (v : Value), BindsTo s fd ⟨[v], []⟩ [("_law_script", v)]) ∧ ∀ base : Heap, K.In base → base.Ns mainGlobals mg → FnOk P w K mg base CX0 9 f fd ["_law_script"] (S_law K).sp := by
  have T : Tx K mg := ⟨⟨h, X, G⟩, c⟩
  obtain ⟨fd, F⟩ := c.def_ 68 (d := d_law) rfl
  have F : FunD K "law" "law" (defArgs s_law) (defBody s_law) (defScope s_law) [] [] (He.ga K "law") fd := F
  have e := hfa.symm.trans (T.glo 66)
  cases e
  have b := FunD.bindsA (ps := ["_law_script"]) F fun _ _ _ _ _ _ us hl => match us, hl with | [_], _ => rfl
  exact ⟨fd, fun s v => b s [v] rfl, fun base _ _ => fn_law T F⟩
end
end Vc
set_option maxHeartbeats 0
namespace Vc
open PySem PySem.Spec PyProof.Rows L2
abbrev R : PySem.W.OpenRow := PySem.W.OpenLaw.row PySem.Challenge.rw_veilcount_k91_whole_the_way_back
abbrev hk : PySem.W.Hook := He.hookD 5 faAll fnAll
def ob (s : PySem.W.SharedT) : He.AlD := He.obsDG 5 faAll fnAll (HandSHeadRun.getT s)
theorem ob_eq (s : PySem.W.SharedT) : ob s = hk.obs s.abs := He.obsDG_eq (HandSHeadRun.getT_eq s)
theorem run (w : World) : HandSHeadRun.RunEq R (PySem.W.view R.prog [82]) hk ob 6000 looseAll w := by
  intro os
  kernel_rfl
end Vc
set_option maxHeartbeats 0
/-! VcEnd: the claim -/
open PySem PySem.W PySem.Calls PyProof.Rows
theorem PySem.Challenge.cw_veilcount_k91_whole_the_way_back_holds : PySem.Challenge.rw_veilcount_k91_whole_the_way_back.Holds := by
  w_on; o_law
  refine HandSHeadRun.head_any (r := OpenLaw.row PySem.Challenge.rw_veilcount_k91_whole_the_way_back) (q := view (OpenLaw.row PySem.Challenge.rw_veilcount_k91_whole_the_way_back).prog [82]) (H := Vc.hk) (ob := Vc.ob) (M := 6000) (loose := Vc.looseAll) (d := HandSHeadRun.topDef (OpenLaw.row PySem.Challenge.rw_veilcount_k91_whole_the_way_back).prog 82) (kwd := []) Vc.ob_eq
    (by kernel_rfl) (fun s => by kernel_rfl) Vc.run (by kernel_rfl) (by kernel_rfl) (by kernel_rfl) (by rfl) (by first | assumption | decide +kernel) (by decide +kernel) ⟨rfl, rfl, rfl, rfl, rfl, by decide +kernel⟩ ?hw ?hc
  case hw => w_witness2
  case hc =>
    refine L2.walk_ofE (l := PySem.Challenge.rw_veilcount_k91_whole_the_way_back) (n := 63) (k := 9) (x := "_law_script") (CX := L2.CX0) rfl (by decide) (by kernel_rfl) ⟨rfl, by decide, by decide⟩ ?F (fun _ _ _ _ z => z)
    intro w mg fa h Y G hmg0
    obtain ⟨K, KX, c⟩ := Y
    have hmg : mg ("law" : PySem.Str) = some (.ref fa) := by
      have e : (HandSHeadRun.topDef (OpenLaw.row PySem.Challenge.rw_veilcount_k91_whole_the_way_back).prog 82).name = ("law" : PySem.Str) := by kernel_rfl
      rw [← e]
      exact hmg0
    obtain ⟨fd, hb, hF⟩ := Vc.facts (P := (PySem.Challenge.rw_veilcount_k91_whole_the_way_back).prog) (w := w) KX G hmg c
    exact ⟨K, fd, (Vc.S_law K).sp, KX, hb, fun H a ns hl _ hS => ⟨ns, H, trivial, .refl _, .one ⟨a, rfl, hS⟩, fun v H' Ha' st r => r⟩, hF⟩
