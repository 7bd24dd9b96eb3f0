import PyProof.Rows.All
import Wide.All
import OpenK.AllK
import Wide.FinOn
import KE.KStateDown
import Lean
import HandS.ForMost
import HandS.Defaults
import HandS.Walk
import HandS.Wide
import HandS.Conv
import HandS.Strs
import HandS.AnyAll
import HandS.EndTab
import HandS.Head0
import HandS.Head1
import HandS.Head2
import HandS.HeadEnd
import HandS.HeadHook1
import HandS.HeadHook2
import HandS.HeadHook3
import HandS.HeadHook4
import HandS.HeadWalk
import PySem.Challenge.RW_veilcount_k25_whole_elections_from_sheet
set_option Elab.async false
set_option linter.all false
set_option maxRecDepth 100000
set_option maxHeartbeats 4000000
/-! The text by places, the head's data, what the walk asks of it. -/
namespace Vc
open PySem PySem.Spec PyProof.Rows L2
def top (i : Nat) : Stmt := PySem.Challenge.pw_veilcount_k25_whole_elections_from_sheet.main.body.getD i (.Pass ⟨0, 0, 0, 0⟩)
abbrev s_read_number : Stmt := top 9
abbrev s_read_numbers : Stmt := top 10
abbrev s_write_line : Stmt := top 11
abbrev s_Sheet_init : Stmt := inClass (top 12) 0
abbrev s_write_sheet : Stmt := top 13
abbrev s_is_next : Stmt := top 15
abbrev s_is_shape : Stmt := top 16
abbrev s_read_lines : Stmt := top 17
abbrev s_read_sheet : Stmt := top 18
abbrev s_is_prime : Stmt := top 20
abbrev s_checked_prime : Stmt := top 21
abbrev s_total : Stmt := top 22
abbrev s_split : Stmt := top 24
abbrev s_join : Stmt := top 25
abbrev s_fresh_table : Stmt := top 26
abbrev s_values_of : Stmt := top 27
abbrev s_is_order : Stmt := top 29
abbrev s_checked_order : Stmt := top 30
abbrev s_moved : Stmt := top 31
abbrev s_factorial : Stmt := top 32
abbrev s_order_of_number : Stmt := top 33
abbrev s_order_number : Stmt := top 34
abbrev s_StageRecord_init : Stmt := inClass (top 36) 0
abbrev s_outsiders : Stmt := top 37
abbrev s_gathered_pieces : Stmt := top 38
abbrev s_held_shares : Stmt := top 39
abbrev s_spread_pieces : Stmt := top 40
abbrev s_new_table : Stmt := top 41
abbrev s_run_stage : Stmt := top 42
abbrev s_gather_faults : Stmt := top 44
abbrev s_hold_faults : Stmt := top 45
abbrev s_order_faults : Stmt := top 46
abbrev s_spread_faults : Stmt := top 47
abbrev s_add_faults : Stmt := top 48
abbrev s_stage_faults : Stmt := top 49
abbrev s_faults : Stmt := top 50
abbrev s_is_lot : Stmt := top 52
abbrev s_holders : Stmt := top 53
abbrev s_cover : Stmt := top 54
abbrev s_covering_pair : Stmt := top 55
abbrev s_checked_family : Stmt := top 56
abbrev s_StageCoins_init : Stmt := inClass (top 58) 0
abbrev s_RunCoins_init : Stmt := inClass (top 59) 0
abbrev s_stage_size : Stmt := top 60
abbrev s_size : Stmt := top 61
abbrev s_Source_init : Stmt := inClass (top 62) 0
abbrev s_Source_number : Stmt := inClass (top 62) 1
abbrev s_Source_block : Stmt := inClass (top 62) 2
abbrev s_read_stage : Stmt := top 63
abbrev s_coins_of : Stmt := top 64
abbrev s_flat : Stmt := top 65
abbrev s_RunRecord_init : Stmt := inClass (top 67) 0
abbrev s_last_table : Stmt := top 68
abbrev s_check_votes : Stmt := top 69
abbrev s_run : Stmt := top 70
abbrev s_counts : Stmt := top 72
abbrev s_leaders : Stmt := top 73
abbrev s_law_cell : Stmt := top 75
abbrev s_law_digits : Stmt := top 76
abbrev s_law_draw : Stmt := top 77
abbrev s_law_prime : Stmt := top 78
abbrev s_law_numbers : Stmt := top 79
abbrev s_law_covered : Stmt := top 83
abbrev s_law_fits : Stmt := top 84
abbrev s_law_family : Stmt := top 85
abbrev s_law_out : Stmt := top 86
abbrev s_law_stage_size : Stmt := top 87
abbrev s_law_size : Stmt := top 88
abbrev s_law_world : Stmt := top 89
abbrev s_law : Stmt := top 90
def d_read_number : He.DefD := ⟨("read_number", none), "read_number", "read_number", defArgs s_read_number, defBody s_read_number, defScope s_read_number, [], []⟩
def d_read_numbers : He.DefD := ⟨("read_numbers", none), "read_numbers", "read_numbers", defArgs s_read_numbers, defBody s_read_numbers, defScope s_read_numbers, [], []⟩
def d_write_line : He.DefD := ⟨("write_line", none), "write_line", "write_line", defArgs s_write_line, defBody s_write_line, defScope s_write_line, [], []⟩
def d_Sheet_init : He.DefD := ⟨("Sheet", some "__init__"), "__init__", "Sheet.__init__", defArgs s_Sheet_init, defBody s_Sheet_init, defScope s_Sheet_init, [], []⟩
def d_write_sheet : He.DefD := ⟨("write_sheet", none), "write_sheet", "write_sheet", defArgs s_write_sheet, defBody s_write_sheet, defScope s_write_sheet, [], []⟩
def d_is_next : He.DefD := ⟨("is_next", none), "is_next", "is_next", defArgs s_is_next, defBody s_is_next, defScope s_is_next, [], []⟩
def d_is_shape : He.DefD := ⟨("is_shape", none), "is_shape", "is_shape", defArgs s_is_shape, defBody s_is_shape, defScope s_is_shape, [], []⟩
def d_read_lines : He.DefD := ⟨("read_lines", none), "read_lines", "read_lines", defArgs s_read_lines, defBody s_read_lines, defScope s_read_lines, [], []⟩
def d_read_sheet : He.DefD := ⟨("read_sheet", none), "read_sheet", "read_sheet", defArgs s_read_sheet, defBody s_read_sheet, defScope s_read_sheet, [], []⟩
def d_is_prime : He.DefD := ⟨("is_prime", none), "is_prime", "is_prime", defArgs s_is_prime, defBody s_is_prime, defScope s_is_prime, [], []⟩
def d_checked_prime : He.DefD := ⟨("checked_prime", none), "checked_prime", "checked_prime", defArgs s_checked_prime, defBody s_checked_prime, defScope s_checked_prime, [], []⟩
def d_total : He.DefD := ⟨("total", none), "total", "total", defArgs s_total, defBody s_total, defScope s_total, [], []⟩
def d_split : He.DefD := ⟨("split", none), "split", "split", defArgs s_split, defBody s_split, defScope s_split, [], []⟩
def d_join : He.DefD := ⟨("join", none), "join", "join", defArgs s_join, defBody s_join, defScope s_join, [], []⟩
def d_fresh_table : He.DefD := ⟨("fresh_table", none), "fresh_table", "fresh_table", defArgs s_fresh_table, defBody s_fresh_table, defScope s_fresh_table, [], []⟩
def d_values_of : He.DefD := ⟨("values_of", none), "values_of", "values_of", defArgs s_values_of, defBody s_values_of, defScope s_values_of, [], []⟩
def d_is_order : He.DefD := ⟨("is_order", none), "is_order", "is_order", defArgs s_is_order, defBody s_is_order, defScope s_is_order, [], []⟩
def d_checked_order : He.DefD := ⟨("checked_order", none), "checked_order", "checked_order", defArgs s_checked_order, defBody s_checked_order, defScope s_checked_order, [], []⟩
def d_moved : He.DefD := ⟨("moved", none), "moved", "moved", defArgs s_moved, defBody s_moved, defScope s_moved, [], []⟩
def d_factorial : He.DefD := ⟨("factorial", none), "factorial", "factorial", defArgs s_factorial, defBody s_factorial, defScope s_factorial, [], []⟩
def d_order_of_number : He.DefD := ⟨("order_of_number", none), "order_of_number", "order_of_number", defArgs s_order_of_number, defBody s_order_of_number, defScope s_order_of_number, [], []⟩
def d_order_number : He.DefD := ⟨("order_number", none), "order_number", "order_number", defArgs s_order_number, defBody s_order_number, defScope s_order_number, [], []⟩
def d_StageRecord_init : He.DefD := ⟨("StageRecord", some "__init__"), "__init__", "StageRecord.__init__", defArgs s_StageRecord_init, defBody s_StageRecord_init, defScope s_StageRecord_init, [], []⟩
def d_outsiders : He.DefD := ⟨("outsiders", none), "outsiders", "outsiders", defArgs s_outsiders, defBody s_outsiders, defScope s_outsiders, [], []⟩
def d_gathered_pieces : He.DefD := ⟨("gathered_pieces", none), "gathered_pieces", "gathered_pieces", defArgs s_gathered_pieces, defBody s_gathered_pieces, defScope s_gathered_pieces, [], []⟩
def d_held_shares : He.DefD := ⟨("held_shares", none), "held_shares", "held_shares", defArgs s_held_shares, defBody s_held_shares, defScope s_held_shares, [], []⟩
def d_spread_pieces : He.DefD := ⟨("spread_pieces", none), "spread_pieces", "spread_pieces", defArgs s_spread_pieces, defBody s_spread_pieces, defScope s_spread_pieces, [], []⟩
def d_new_table : He.DefD := ⟨("new_table", none), "new_table", "new_table", defArgs s_new_table, defBody s_new_table, defScope s_new_table, [], []⟩
def d_run_stage : He.DefD := ⟨("run_stage", none), "run_stage", "run_stage", defArgs s_run_stage, defBody s_run_stage, defScope s_run_stage, [], []⟩
def d_gather_faults : He.DefD := ⟨("gather_faults", none), "gather_faults", "gather_faults", defArgs s_gather_faults, defBody s_gather_faults, defScope s_gather_faults, [], []⟩
def d_hold_faults : He.DefD := ⟨("hold_faults", none), "hold_faults", "hold_faults", defArgs s_hold_faults, defBody s_hold_faults, defScope s_hold_faults, [], []⟩
def d_order_faults : He.DefD := ⟨("order_faults", none), "order_faults", "order_faults", defArgs s_order_faults, defBody s_order_faults, defScope s_order_faults, [], []⟩
def d_spread_faults : He.DefD := ⟨("spread_faults", none), "spread_faults", "spread_faults", defArgs s_spread_faults, defBody s_spread_faults, defScope s_spread_faults, [], []⟩
def d_add_faults : He.DefD := ⟨("add_faults", none), "add_faults", "add_faults", defArgs s_add_faults, defBody s_add_faults, defScope s_add_faults, [], []⟩
def d_stage_faults : He.DefD := ⟨("stage_faults", none), "stage_faults", "stage_faults", defArgs s_stage_faults, defBody s_stage_faults, defScope s_stage_faults, [], []⟩
def d_faults : He.DefD := ⟨("faults", none), "faults", "faults", defArgs s_faults, defBody s_faults, defScope s_faults, [], []⟩
def d_is_lot : He.DefD := ⟨("is_lot", none), "is_lot", "is_lot", defArgs s_is_lot, defBody s_is_lot, defScope s_is_lot, [], []⟩
def d_holders : He.DefD := ⟨("holders", none), "holders", "holders", defArgs s_holders, defBody s_holders, defScope s_holders, [], []⟩
def d_cover : He.DefD := ⟨("cover", none), "cover", "cover", defArgs s_cover, defBody s_cover, defScope s_cover, [], []⟩
def d_covering_pair : He.DefD := ⟨("covering_pair", none), "covering_pair", "covering_pair", defArgs s_covering_pair, defBody s_covering_pair, defScope s_covering_pair, [], []⟩
def d_checked_family : He.DefD := ⟨("checked_family", none), "checked_family", "checked_family", defArgs s_checked_family, defBody s_checked_family, defScope s_checked_family, [], []⟩
def d_StageCoins_init : He.DefD := ⟨("StageCoins", some "__init__"), "__init__", "StageCoins.__init__", defArgs s_StageCoins_init, defBody s_StageCoins_init, defScope s_StageCoins_init, [], []⟩
def d_RunCoins_init : He.DefD := ⟨("RunCoins", some "__init__"), "__init__", "RunCoins.__init__", defArgs s_RunCoins_init, defBody s_RunCoins_init, defScope s_RunCoins_init, [], []⟩
def d_stage_size : He.DefD := ⟨("stage_size", none), "stage_size", "stage_size", defArgs s_stage_size, defBody s_stage_size, defScope s_stage_size, [], []⟩
def d_size : He.DefD := ⟨("size", none), "size", "size", defArgs s_size, defBody s_size, defScope s_size, [], []⟩
def d_Source_init : He.DefD := ⟨("Source", some "__init__"), "__init__", "Source.__init__", defArgs s_Source_init, defBody s_Source_init, defScope s_Source_init, [], []⟩
def d_Source_number : He.DefD := ⟨("Source", some "number"), "number", "Source.number", defArgs s_Source_number, defBody s_Source_number, defScope s_Source_number, [], []⟩
def d_Source_block : He.DefD := ⟨("Source", some "block"), "block", "Source.block", defArgs s_Source_block, defBody s_Source_block, defScope s_Source_block, [], []⟩
def d_read_stage : He.DefD := ⟨("read_stage", none), "read_stage", "read_stage", defArgs s_read_stage, defBody s_read_stage, defScope s_read_stage, [], []⟩
def d_coins_of : He.DefD := ⟨("coins_of", none), "coins_of", "coins_of", defArgs s_coins_of, defBody s_coins_of, defScope s_coins_of, [], []⟩
def d_flat : He.DefD := ⟨("flat", none), "flat", "flat", defArgs s_flat, defBody s_flat, defScope s_flat, [], []⟩
def d_RunRecord_init : He.DefD := ⟨("RunRecord", some "__init__"), "__init__", "RunRecord.__init__", defArgs s_RunRecord_init, defBody s_RunRecord_init, defScope s_RunRecord_init, [], []⟩
def d_last_table : He.DefD := ⟨("last_table", none), "last_table", "last_table", defArgs s_last_table, defBody s_last_table, defScope s_last_table, [], []⟩
def d_check_votes : He.DefD := ⟨("check_votes", none), "check_votes", "check_votes", defArgs s_check_votes, defBody s_check_votes, defScope s_check_votes, [], []⟩
def d_run : He.DefD := ⟨("run", none), "run", "run", defArgs s_run, defBody s_run, defScope s_run, [], []⟩
def d_counts : He.DefD := ⟨("counts", none), "counts", "counts", defArgs s_counts, defBody s_counts, defScope s_counts, [], []⟩
def d_leaders : He.DefD := ⟨("leaders", none), "leaders", "leaders", defArgs s_leaders, defBody s_leaders, defScope s_leaders, [], []⟩
def d_law_cell : He.DefD := ⟨("_law_cell", none), "_law_cell", "_law_cell", defArgs s_law_cell, defBody s_law_cell, defScope s_law_cell, [], []⟩
def d_law_digits : He.DefD := ⟨("_law_digits", none), "_law_digits", "_law_digits", defArgs s_law_digits, defBody s_law_digits, defScope s_law_digits, [], []⟩
def d_law_draw : He.DefD := ⟨("_law_draw", none), "_law_draw", "_law_draw", defArgs s_law_draw, defBody s_law_draw, defScope s_law_draw, [], []⟩
def d_law_prime : He.DefD := ⟨("_law_prime", none), "_law_prime", "_law_prime", defArgs s_law_prime, defBody s_law_prime, defScope s_law_prime, [], []⟩
def d_law_numbers : He.DefD := ⟨("_law_numbers", none), "_law_numbers", "_law_numbers", defArgs s_law_numbers, defBody s_law_numbers, defScope s_law_numbers, [], []⟩
def d_law_covered : He.DefD := ⟨("_law_covered", none), "_law_covered", "_law_covered", defArgs s_law_covered, defBody s_law_covered, defScope s_law_covered, [], []⟩
def d_law_fits : He.DefD := ⟨("_law_fits", none), "_law_fits", "_law_fits", defArgs s_law_fits, defBody s_law_fits, defScope s_law_fits, [], []⟩
def d_law_family : He.DefD := ⟨("_law_family", none), "_law_family", "_law_family", defArgs s_law_family, defBody s_law_family, defScope s_law_family, [], []⟩
def d_law_out : He.DefD := ⟨("_law_out", none), "_law_out", "_law_out", defArgs s_law_out, defBody s_law_out, defScope s_law_out, [], []⟩
def d_law_stage_size : He.DefD := ⟨("_law_stage_size", none), "_law_stage_size", "_law_stage_size", defArgs s_law_stage_size, defBody s_law_stage_size, defScope s_law_stage_size, [], []⟩
def d_law_size : He.DefD := ⟨("_law_size", none), "_law_size", "_law_size", defArgs s_law_size, defBody s_law_size, defScope s_law_size, [], []⟩
def d_law_world : He.DefD := ⟨("_law_world", none), "_law_world", "_law_world", defArgs s_law_world, defBody s_law_world, defScope s_law_world, [], []⟩
def d_law : He.DefD := ⟨("law", none), "law", "law", defArgs s_law, defBody s_law, defScope s_law, [], []⟩
def fn : List He.DefD := [d_read_number, d_read_numbers, d_write_line, d_Sheet_init, d_write_sheet, d_is_next, d_is_shape, d_read_lines, d_read_sheet, d_is_prime, d_checked_prime, d_total, d_split, d_join, d_fresh_table, d_values_of, d_is_order, d_checked_order, d_moved, d_factorial, d_order_of_number, d_order_number, d_StageRecord_init, d_outsiders, d_gathered_pieces, d_held_shares, d_spread_pieces, d_new_table, d_run_stage, d_gather_faults, d_hold_faults, d_order_faults, d_spread_faults, d_add_faults, d_stage_faults, d_faults, d_is_lot, d_holders, d_cover, d_covering_pair, d_checked_family, d_StageCoins_init, d_RunCoins_init, d_stage_size, d_size, d_Source_init, d_Source_number, d_Source_block, d_read_stage, d_coins_of, d_flat, d_RunRecord_init, d_last_table, d_check_votes, d_run, d_counts, d_leaders, d_law_cell, d_law_digits, d_law_draw, d_law_prime, d_law_numbers, d_law_covered, d_law_fits, d_law_family, d_law_out, d_law_stage_size, d_law_size, d_law_world, d_law]
def fa : List He.Fa := [.glo "read_number", .glo "read_numbers", .glo "write_line", .glo "write_sheet", .glo "is_next", .glo "is_shape", .glo "read_lines", .glo "read_sheet", .glo "is_prime", .glo "checked_prime", .glo "total", .glo "split", .glo "join", .glo "fresh_table", .glo "values_of", .glo "is_order", .glo "checked_order", .glo "moved", .glo "factorial", .glo "order_of_number", .glo "order_number", .glo "outsiders", .glo "gathered_pieces", .glo "held_shares", .glo "spread_pieces", .glo "new_table", .glo "run_stage", .glo "gather_faults", .glo "hold_faults", .glo "order_faults", .glo "spread_faults", .glo "add_faults", .glo "stage_faults", .glo "faults", .glo "is_lot", .glo "holders", .glo "cover", .glo "covering_pair", .glo "checked_family", .glo "stage_size", .glo "size", .glo "read_stage", .glo "coins_of", .glo "flat", .glo "last_table", .glo "check_votes", .glo "run", .glo "counts", .glo "leaders", .glo "_law_cell", .glo "_law_digits", .glo "_law_draw", .glo "_law_prime", .glo "_law_numbers", .glo "_law_covered", .glo "_law_fits", .glo "_law_family", .glo "_law_out", .glo "_law_stage_size", .glo "_law_size", .glo "_law_world", .glo "law", .glo "Sheet", .cls "Sheet", .mkr "Sheet", .noat "Sheet" "prime", .noat "Sheet" "mixers", .noat "Sheet" "family", .noat "Sheet" "votes", .noat "Sheet" "numbers", .glo "StageRecord", .cls "StageRecord", .mkr "StageRecord", .noat "StageRecord" "holders", .noat "StageRecord" "gathered", .noat "StageRecord" "held", .noat "StageRecord" "order", .noat "StageRecord" "ordered", .noat "StageRecord" "spread", .noat "StageRecord" "table", .glo "StageCoins", .cls "StageCoins", .mkr "StageCoins", .noat "StageCoins" "gather", .noat "StageCoins" "order", .noat "StageCoins" "spread", .glo "RunCoins", .cls "RunCoins", .mkr "RunCoins", .noat "RunCoins" "votes", .noat "RunCoins" "stages", .glo "Source", .cls "Source", .mkr "Source", .noat "Source" "numbers", .noat "Source" "prime", .noat "Source" "place", .glo "RunRecord", .cls "RunRecord", .mkr "RunRecord", .noat "RunRecord" "prime", .noat "RunRecord" "mixers", .noat "RunRecord" "family", .noat "RunRecord" "table", .noat "RunRecord" "stages", .noat "RunRecord" "opened", .meth "Source" "number", .meth "Source" "block", .glo "STEPS", .free "all", .free "any", .free "range", .free "len", .free "zip", .free "enumerate", .free "str", .free "int", .free "list", .free "sorted", .free "sum", .free "max", .free "min", .free "abs"]
def tf : List He.Defn := [("read_number", none), ("read_numbers", none), ("is_shape", none)]
def steps5 : List He.Dv := [.str "prime", .str "mixers", .str "lot", .str "vote", .str "coins"]
def tupT (K : PySem.W.Frag) (x : Str) : Bool := match K.lookup (He.ga K x) with
  | some ⟨.type c, none, _, _⟩ => decide (c = "tuple")
  | _ => false
def ex (K : PySem.W.Frag) : Bool := He.tupB K "STEPS" steps5 && tupT K "STEPS"
def loose0 : List Str := ["VeilError", "BadPrime", "BadValue", "BadOrder", "BadCoins", "BadLots", "LineError", "read_number", "read_numbers", "write_line", "Sheet", "write_sheet", "STEPS", "is_next", "is_shape", "read_lines", "read_sheet", "is_prime", "checked_prime", "total", "split", "join", "fresh_table", "values_of", "is_order", "checked_order", "moved", "factorial", "order_of_number", "order_number"]
def loose1 : List Str := ["StageRecord", "outsiders", "gathered_pieces", "held_shares", "spread_pieces", "new_table", "run_stage", "gather_faults", "hold_faults", "order_faults", "spread_faults", "add_faults", "stage_faults", "faults", "is_lot", "holders", "cover", "covering_pair", "checked_family", "StageCoins", "RunCoins", "stage_size", "size", "Source", "read_stage", "coins_of", "flat", "RunRecord", "last_table", "check_votes"]
def loose2 : List Str := ["run", "counts", "leaders", "_law_cell", "_law_digits", "_law_draw", "_law_prime", "_law_numbers", "_law_order", "_law_is_int", "_law_are_values", "_law_covered", "_law_fits", "_law_family", "_law_out", "_law_stage_size", "_law_size", "_law_world"]
def looseN : List Str := loose0 ++ loose1 ++ loose2
def lawAt : Nat := 90
abbrev R : PySem.W.OpenRow := PySem.W.OpenLaw.row PySem.Challenge.rw_veilcount_k25_whole_elections_from_sheet
abbrev hk : PySem.W.Hook := He.hookX 5 fa fn [] tf ex
def ob (s : PySem.W.SharedT) : He.AlX := He.obsX 5 fa fn [] tf ex (HandSHeadRun.getT s)
theorem ob_eq (s : PySem.W.SharedT) : ob s = hk.obs s.abs := He.obsX_eq (HandSHeadRun.getT_eq s)
set_option maxHeartbeats 0 in
theorem run (w : World) : HandSHeadRun.RunEq R (PySem.W.view R.prog [lawAt]) hk ob 6000 looseN w := by
  intro os
  kernel_rfl
end Vc
/-! The plain part: what the package reckons, as functions on lists, and why a run keeps the values. -/
namespace Vm

/-! ### sums -/
def tot (p : Int) (xs : List Int) : Int := xs.foldl (fun r x => (r + x) % p) 0
theorem tot_from (p : Int) : ∀ (xs : List Int) (r : Int), xs.foldl (fun r x => (r + x) % p) (r % p) = (r + xs.sum) % p
  | [], r => by simp
  | x :: xs, r => by
    rw [List.foldl_cons, Int.emod_add_emod, tot_from p xs, List.sum_cons, Int.add_assoc]
theorem tot_eq (p : Int) (xs : List Int) : tot p xs = xs.sum % p := by
  have h := tot_from p xs 0
  rw [Int.zero_emod, Int.zero_add] at h
  exact h
theorem tot_mod (p : Int) (xs : List Int) : tot p xs % p = tot p xs := by
  rw [tot_eq, Int.emod_emod_of_dvd _ (Int.dvd_refl p)]
theorem tot_snoc (p : Int) (xs : List Int) (x : Int) : tot p (xs ++ [x]) = (tot p xs + x) % p := by
  unfold tot
  rw [List.foldl_append]
  rfl

def splitF (p v : Int) (cs : List Int) : List Int := cs.map (· % p) ++ [(v - (cs.map (· % p)).sum) % p]
theorem splitF_len (p v : Int) (cs : List Int) : (splitF p v cs).length = cs.length + 1 := by
  unfold splitF
  simp
theorem splitF_sum (p v : Int) (cs : List Int) : (splitF p v cs).sum % p = v % p := by
  unfold splitF
  rw [List.sum_append, List.sum_singleton, Int.add_emod_emod]
  have e : (cs.map (· % p)).sum + (v - (cs.map (· % p)).sum) = v := by omega
  rw [e]
theorem splitF_tot (p v : Int) (cs : List Int) : tot p (splitF p v cs) = v % p := by
  rw [tot_eq, splitF_sum]

/-- two sums are alike modulo p if their parts are -/
theorem sum_congr {α : Type} (p : Int) (f g : α → Int) : ∀ (l : List α), (∀ x ∈ l, f x % p = g x % p) → (l.map f).sum % p = (l.map g).sum % p
  | [], _ => rfl
  | a :: l, h => by
    have h1 := h a List.mem_cons_self
    have h2 := sum_congr p f g l fun x hx => h x (List.mem_cons_of_mem _ hx)
    rw [List.map_cons, List.map_cons, List.sum_cons, List.sum_cons, Int.add_emod, h1, h2, ← Int.add_emod]
theorem sum_add {α : Type} (f g : α → Int) : ∀ (l : List α), (l.map fun x => f x + g x).sum = (l.map f).sum + (l.map g).sum
  | [] => rfl
  | a :: l => by
    have h := sum_add f g l
    rw [List.map_cons, List.map_cons, List.map_cons, List.sum_cons, List.sum_cons, List.sum_cons, h]
    omega
theorem sum_zero {α : Type} : ∀ (l : List α), (l.map fun _ => (0 : Int)).sum = 0
  | [] => rfl
  | a :: l => by
    rw [List.map_cons, List.sum_cons, sum_zero l]
    rfl
theorem sum_swap {α β : Type} (f : α → β → Int) (ys : List β) : ∀ (xs : List α), (xs.map fun x => (ys.map fun y => f x y).sum).sum = (ys.map fun y => (xs.map fun x => f x y).sum).sum
  | [] => (sum_zero ys).symm
  | x :: xs => by
    have h := sum_swap f ys xs
    rw [List.map_cons, List.sum_cons, h, ← sum_add]
    congr 1
theorem sum_filter {α : Type} (q : α → Bool) (f : α → Int) : ∀ (l : List α), ((l.filter q).map f).sum + ((l.filter fun x => !q x).map f).sum = (l.map f).sum
  | [] => rfl
  | a :: l => by
    have h := sum_filter q f l
    rw [List.map_cons, List.sum_cons, List.filter_cons, List.filter_cons]
    cases q a with
    | true =>
      simp only [Bool.not_true, if_true, Bool.false_eq_true, if_false, List.map_cons, List.sum_cons]
      omega
    | false =>
      simp only [Bool.not_false, if_true, Bool.false_eq_true, if_false, List.map_cons, List.sum_cons]
      omega
theorem sum_range_get : ∀ (row : List Int), ((List.range row.length).map fun j => row.getD j 0).sum = row.sum
  | [] => rfl
  | a :: r => by
    have h := sum_range_get r
    rw [List.length_cons, List.range_succ_eq_map, List.map_cons, List.sum_cons, List.map_map, List.sum_cons]
    show a + ((List.range r.length).map ((fun j => (a :: r).getD j 0) ∘ Nat.succ)).sum = a + r.sum
    rw [← h]
    rfl
theorem sum_map_get {α : Type} (f : Nat → Int) (hs : List Nat) : ((List.range hs.length).map fun j => f (hs.getD j 0)).sum = (hs.map f).sum := by
  have e : ((List.range hs.length).map fun j => f (hs.getD j 0)) = hs.map f := by
    apply List.ext_getElem
    · simp
    · intro i h1 h2
      simp at h1 h2
      simp [h2]
  rw [e]
/-- a sum over a zip, each part told by the first of its pair -/
theorem sum_zip {α β γ : Type} (p : Int) (F : α → β → γ) (φ : γ → Int) (g : α → Int) : ∀ (xs : List α) (ys : List β), xs.length = ys.length → (∀ x y, x ∈ xs → y ∈ ys → φ (F x y) % p = g x % p) →
    ((List.zipWith F xs ys).map φ).sum % p = (xs.map g).sum % p
  | [], [], _, _ => rfl
  | [], _ :: _, h, _ => by cases h
  | _ :: _, [], h, _ => by cases h
  | x :: xs, y :: ys, h, hh => by
    have h1 := hh x y List.mem_cons_self List.mem_cons_self
    have h2 := sum_zip p F φ g xs ys (Nat.succ.inj h) fun a b ha hb => hh a b (List.mem_cons_of_mem _ ha) (List.mem_cons_of_mem _ hb)
    rw [List.zipWith_cons_cons, List.map_cons, List.map_cons, List.sum_cons, List.sum_cons, Int.add_emod, h1, h2, ← Int.add_emod]

/-! ### tables -/
/-- r rows of c each -/
def Rect {α : Type} (t : List (List α)) (r c : Nat) : Prop := t.length = r ∧ ∀ row ∈ t, row.length = c
theorem Rect.row {α : Type} {t : List (List α)} {r c n : Nat} (h : Rect t r c) (hn : n < r) : (t.getD n []).length = c := by
  have hl : n < t.length := by rw [h.1]; exact hn
  rw [List.getD_eq_getElem?_getD, List.getElem?_eq_getElem hl]
  exact h.2 _ (List.getElem_mem hl)
theorem Rect.mem {α : Type} {t : List (List α)} {r c n : Nat} (h : Rect t r c) (hn : n < r) : t.getD n [] ∈ t := by
  have hl : n < t.length := by rw [h.1]; exact hn
  rw [List.getD_eq_getElem?_getD, List.getElem?_eq_getElem hl]
  exact List.getElem_mem hl
/-- k blocks of r rows of c each -/
def Box {α : Type} (b : List (List (List α))) (k r c : Nat) : Prop := b.length = k ∧ ∀ t ∈ b, Rect t r c

def vals (p : Int) (t : List (List Int)) : List Int := t.map (tot p)
/-- the mixers that are in no given list -/
def outs (m : Nat) (hs : List Nat) : List Nat := (List.range m).filter fun x => !hs.contains x
theorem outs_lt {m : Nat} {hs : List Nat} {x : Nat} (h : x ∈ outs m hs) : x < m := List.mem_range.mp (List.mem_filter.mp h).1
theorem outs_le (m : Nat) (hs : List Nat) : (outs m hs).length ≤ m := by
  have h := List.length_filter_le (fun x => !hs.contains x) (List.range m)
  rw [List.length_range] at h
  exact h
theorem filter_split {α : Type} (q : α → Bool) : ∀ l : List α, (l.filter q).length + (l.filter fun x => !q x).length = l.length
  | [] => rfl
  | a :: l => by
    have h := filter_split q l
    rw [List.filter_cons, List.filter_cons]
    cases q a with
    | true =>
      simp only [Bool.not_true, if_true, Bool.false_eq_true, if_false, List.length_cons]
      omega
    | false =>
      simp only [Bool.not_false, if_true, Bool.false_eq_true, if_false, List.length_cons]
      omega
/-- outside of the outside -/
theorem outs_outs (m : Nat) (hs : List Nat) : outs m (outs m hs) = (List.range m).filter fun x => hs.contains x := by
  unfold outs
  apply List.filter_congr
  intro x hx
  rw [Bool.eq_iff_iff]
  simp only [Bool.not_eq_true', List.contains_eq_mem, List.mem_filter, hx, true_and, Bool.not_eq_eq_eq_not, Bool.not_true, decide_eq_false_iff_not, decide_eq_true_eq, Decidable.not_not]
theorem outs_count (m : Nat) (hs : List Nat) : (outs m hs).length + (outs m (outs m hs)).length = m := by
  have h := filter_split (fun x => !hs.contains x) (List.range m)
  rw [outs_outs]
  simp only [Bool.not_not, List.length_range] at h
  exact h
theorem outs_sum (m : Nat) (hs : List Nat) (f : Nat → Int) : ((outs m hs).map f).sum + ((outs m (outs m hs)).map f).sum = ((List.range m).map f).sum := by
  have h := sum_filter (fun x => !hs.contains x) f (List.range m)
  rw [outs_outs]
  simp only [Bool.not_not] at h
  exact h

structure SC where
  gather : List (List (List Int))
  order : List Nat
  spread : List (List (List Int))
structure RC where
  votes : List (List Int)
  stages : List SC
structure SR where
  holders : List Nat
  gathered : List (List (List Int))
  held : List (List Int)
  order : List Nat
  ordered : List (List Int)
  spread : List (List (List Int))
  table : List (List Int)

def gatheredF (p : Int) (table : List (List Int)) (others : List Nat) (coins : List (List (List Int))) : List (List (List Int)) :=
  List.zipWith (fun mixer rows => List.zipWith (fun row line => splitF p (row.getD mixer 0) line) table rows) others coins
def heldF (p : Int) (table : List (List Int)) (hs : List Nat) (pieces : List (List (List Int))) : List (List Int) :=
  (List.range table.length).map fun n => (List.range hs.length).map fun j => tot p ((table.getD n []).getD (hs.getD j 0) 0 :: pieces.map fun rows => (rows.getD n []).getD j 0)
def spreadF (p : Int) (ordered : List (List Int)) (many : Nat) (coins : List (List (List Int))) : List (List (List Int)) :=
  (List.range many).map fun j => List.zipWith (fun row line => splitF p (row.getD j 0) line) ordered (coins.getD j [])
def tableF (p : Int) (pieces : List (List (List Int))) (m rows : Nat) : List (List Int) :=
  (List.range rows).map fun n => (List.range m).map fun x => tot p (pieces.map fun rs => (rs.getD n []).getD x 0)
def movedF {α : Type} (d : α) (rows : List α) (order : List Nat) : List α := order.map fun k => rows.getD k d

def stageF (p : Int) (m : Nat) (table : List (List Int)) (hs : List Nat) (c : SC) : SR :=
  let g := gatheredF p table (outs m hs) c.gather
  let h := heldF p table hs g
  let o := movedF [] h c.order
  let s := spreadF p o hs.length c.spread
  ⟨hs, g, h, c.order, o, s, tableF p s m table.length⟩

/-- the coins of a stage fit -/
structure SCok (m R : Nat) (hs : List Nat) (c : SC) : Prop where
  g : Box c.gather (outs m hs).length R (hs.length - 1)
  o : c.order.Perm (List.range R)
  s : Box c.spread hs.length R (m - 1)

theorem zip_rect {α β γ : Type} (F : α → β → List γ) (k : Nat) : ∀ (xs : List α) (ys : List β), xs.length = ys.length → (∀ x y, x ∈ xs → y ∈ ys → (F x y).length = k) → Rect (List.zipWith F xs ys) xs.length k := by
  intro xs ys h hh
  refine ⟨by simp [h], fun row hr => ?_⟩
  obtain ⟨i, hi, e⟩ := List.getElem_of_mem hr
  rw [List.getElem_zipWith] at e
  rw [← e]
  exact hh _ _ (List.getElem_mem _) (List.getElem_mem _)
theorem getD_zip {α β γ : Type} (F : α → β → γ) (xs : List α) (ys : List β) (n : Nat) (a : α) (b : β) (c : γ) (h1 : n < xs.length) (h2 : n < ys.length) : (List.zipWith F xs ys).getD n c = F (xs.getD n a) (ys.getD n b) := by
  simp only [List.getD_eq_getElem?_getD, List.getElem?_zipWith, List.getElem?_eq_getElem h1, List.getElem?_eq_getElem h2]
  rfl
theorem getD_rmap {α : Type} (f : Nat → α) (R n : Nat) (d : α) (h : n < R) : ((List.range R).map f).getD n d = f n := by
  simp [List.getD_eq_getElem?_getD, h]
theorem getD_mem {α : Type} (l : List α) (n : Nat) (d : α) (h : n < l.length) : l.getD n d ∈ l := by
  rw [List.getD_eq_getElem?_getD, List.getElem?_eq_getElem h]
  exact List.getElem_mem h
theorem rect_rmap {α : Type} (f : Nat → List α) (R c : Nat) (h : ∀ n, n < R → (f n).length = c) : Rect ((List.range R).map f) R c := by
  refine ⟨by simp, fun row hr => ?_⟩
  obtain ⟨n, hn, rfl⟩ := List.mem_map.mp hr
  exact h n (List.mem_range.mp hn)

section
variable {p : Int} {m R : Nat} {table : List (List Int)} {hs : List Nat} {c : SC}
theorem gathered_box (ht : Rect table R m) (hc : SCok m R hs c) (h1 : 1 ≤ hs.length) : Box (gatheredF p table (outs m hs) c.gather) (outs m hs).length R hs.length := by
  unfold gatheredF
  refine ⟨by simp [hc.g.1], fun t hr => ?_⟩
  obtain ⟨i, hi, e⟩ := List.getElem_of_mem hr
  rw [List.getElem_zipWith] at e
  rw [← e]
  have hi2 : i < c.gather.length := by simp at hi; omega
  have hi3 : i < (outs m hs).length := by simp at hi; omega
  have hb := hc.g.2 _ (List.getElem_mem hi2)
  have := zip_rect (fun row line => splitF p (row.getD (outs m hs)[i] 0) line) hs.length table c.gather[i] (by rw [ht.1, hb.1]) (fun x y _ hy => by
    rw [splitF_len, hb.2 y hy]
    omega)
  rw [ht.1] at this
  exact this
theorem held_rect (pieces : List (List (List Int))) (ht : Rect table R m) : Rect (heldF p table hs pieces) R hs.length := by
  unfold heldF
  rw [ht.1]
  exact rect_rmap _ _ _ fun n _ => by simp
theorem moved_rect {rows : List (List Int)} {o : List Nat} {k : Nat} (hr : Rect rows R k) (ho : o.Perm (List.range R)) : Rect (movedF [] rows o) R k := by
  refine ⟨by unfold movedF; rw [List.length_map, ho.length_eq, List.length_range], fun row h => ?_⟩
  obtain ⟨n, hn, rfl⟩ := List.mem_map.mp h
  exact hr.row (List.mem_range.mp (ho.mem_iff.mp hn))
theorem spread_box {ordered : List (List Int)} {coins : List (List (List Int))} {k : Nat} (hr : Rect ordered R k) (hc : Box coins k R (m - 1)) (hm : 1 ≤ m) : Box (spreadF p ordered k coins) k R m := by
  unfold spreadF
  refine ⟨by simp, fun t h => ?_⟩
  obtain ⟨j, hj, rfl⟩ := List.mem_map.mp h
  have hj' : j < coins.length := by rw [hc.1]; exact List.mem_range.mp hj
  have hb := hc.2 _ (getD_mem coins j [] hj')
  have := zip_rect (fun row line => splitF p (row.getD j 0) line) m ordered (coins.getD j []) (by rw [hr.1, hb.1]) (fun x y _ hy => by
    rw [splitF_len, hb.2 y hy]
    omega)
  rw [hr.1] at this
  exact this
theorem table_rect (pieces : List (List (List Int))) : Rect (tableF p pieces m R) R m := by
  unfold tableF
  exact rect_rmap _ _ _ fun n _ => by simp

/-- the new row's value is that of the old one -/
theorem stage_row (ht : Rect table R m) (hc : SCok m R hs c) (h1 : 1 ≤ hs.length) (hm : 1 ≤ m) (lot : List Nat) (hh : hs = outs m lot) (r : Nat) (hr : r < R) :
    tot p ((stageF p m table hs c).table.getD r []) = tot p (table.getD (c.order.getD r 0) []) := by
  have hg := gathered_box (p := p) ht hc h1
  have hH := held_rect (p := p) (hs := hs) (gatheredF p table (outs m hs) c.gather) ht
  have hO := moved_rect hH hc.o
  have hol : c.order.length = R := by rw [hc.o.length_eq, List.length_range]
  generalize hk : c.order.getD r 0 = k
  have hkR : k < R := by
    rw [← hk]
    exact List.mem_range.mp (hc.o.mem_iff.mp (getD_mem c.order r 0 (by omega)))
  show tot p ((tableF p (spreadF p (movedF [] (heldF p table hs (gatheredF p table (outs m hs) c.gather)) c.order) hs.length c.spread) m table.length).getD r []) = _
  generalize hG : gatheredF p table (outs m hs) c.gather = G at hg hH hO
  generalize hHd : heldF p table hs G = Hd at hH hO
  have hOr : (movedF [] Hd c.order).getD r [] = Hd.getD k [] := by
    unfold movedF
    rw [List.getD_eq_getElem?_getD, List.getElem?_map, List.getElem?_eq_getElem (by omega)]
    show Hd.getD c.order[r] [] = _
    rw [← hk, List.getD_eq_getElem?_getD (l := c.order), List.getElem?_eq_getElem (by omega)]
    rfl
  generalize hOd : movedF [] Hd c.order = O at hO hOr
  have hS := spread_box (p := p) hO hc.s hm
  generalize hSd : spreadF p O hs.length c.spread = S at hS
  rw [ht.1]
  -- the new row
  unfold tableF
  rw [getD_rmap _ _ _ _ hr, tot_eq, tot_eq]
  have e1 : ((List.range m).map fun x => tot p (S.map fun rs => (rs.getD r []).getD x 0)).sum % p = ((List.range m).map fun x => (S.map fun rs => (rs.getD r []).getD x 0).sum).sum % p :=
    sum_congr p _ _ _ fun x _ => by rw [tot_mod, tot_eq]
  rw [e1, sum_swap]
  have e2 : (S.map fun rs => ((List.range m).map fun x => (rs.getD r []).getD x 0).sum) = S.map fun rs => (rs.getD r []).sum := by
    apply List.map_congr_left
    intro rs hrs
    have hl := (hS.2 rs hrs).row hr
    have := sum_range_get (rs.getD r [])
    rw [hl] at this
    exact this
  rw [e2]
  -- each holder's pieces make its ordered share
  have e3 : (S.map fun rs => (rs.getD r []).sum).sum % p = ((List.range hs.length).map fun j => (O.getD r []).getD j 0).sum % p := by
    rw [← hSd]
    unfold spreadF
    rw [List.map_map]
    refine sum_congr p _ _ _ fun j hj => ?_
    have hj' : j < c.spread.length := by rw [hc.s.1]; exact List.mem_range.mp hj
    have hb := hc.s.2 _ (getD_mem c.spread j [] hj')
    show ((List.zipWith (fun row line => splitF p (row.getD j 0) line) O (c.spread.getD j [])).getD r []).sum % p = _
    rw [getD_zip _ _ _ _ [] [] _ (by rw [hO.1]; exact hr) (by rw [hb.1]; exact hr), splitF_sum]
  rw [e3, hOr, ← hHd]
  unfold heldF
  rw [ht.1, getD_rmap _ _ _ _ hkR]
  have e4 : ((List.range hs.length).map fun j => ((List.range hs.length).map fun j => tot p ((table.getD k []).getD (hs.getD j 0) 0 :: G.map fun rows => (rows.getD k []).getD j 0)).getD j 0).sum % p =
      ((List.range hs.length).map fun j => (table.getD k []).getD (hs.getD j 0) 0 + (G.map fun rows => (rows.getD k []).getD j 0).sum).sum % p := by
    refine sum_congr p _ _ _ fun j hj => ?_
    rw [getD_rmap _ _ _ _ (List.mem_range.mp hj), tot_mod, tot_eq, List.sum_cons]
  rw [e4, sum_add, sum_map_get (α := Nat) (fun x => (table.getD k []).getD x 0) hs, sum_swap (fun (j : Nat) (rows : List (List Int)) => (rows.getD k []).getD j 0) G (List.range hs.length)]
  have e5 : (G.map fun rows => ((List.range hs.length).map fun j => (rows.getD k []).getD j 0).sum) = G.map fun rows => (rows.getD k []).sum := by
    apply List.map_congr_left
    intro rows hrows
    have hl := (hg.2 rows hrows).row hkR
    have := sum_range_get (rows.getD k [])
    rw [hl] at this
    exact this
  rw [e5]
  have e6 : (G.map fun rows => (rows.getD k []).sum).sum % p = ((outs m hs).map fun x => (table.getD k []).getD x 0).sum % p := by
    rw [← hG]
    unfold gatheredF
    refine sum_zip p _ _ _ _ _ (by rw [hc.g.1]) fun x y hx hy => ?_
    have hb := hc.g.2 y hy
    rw [getD_zip _ _ _ _ [] [] _ (by rw [ht.1]; exact hkR) (by rw [hb.1]; exact hkR), splitF_sum]
  rw [Int.add_emod, e6, ← Int.add_emod]
  rw [hh, outs_sum]
  have hl := ht.row hkR
  have := sum_range_get (table.getD k [])
  rw [hl] at this
  rw [this]
theorem stage_vals (ht : Rect table R m) (hc : SCok m R hs c) (h1 : 1 ≤ hs.length) (hm : 1 ≤ m) (lot : List Nat) (hh : hs = outs m lot) :
    vals p (stageF p m table hs c).table = movedF 0 (vals p table) c.order := by
  have hol : c.order.length = R := by rw [hc.o.length_eq, List.length_range]
  have hT : Rect (stageF p m table hs c).table R m := by
    show Rect (tableF p _ m table.length) R m
    rw [ht.1]
    exact table_rect _
  apply List.ext_getElem
  · simp [vals, movedF, hT.1, hol]
  · intro i h2 h3
    have hi : i < R := by
      simp [vals, hT.1] at h2
      exact h2
    have e := stage_row (p := p) ht hc h1 hm lot hh i hi
    have hk : c.order[i]'(by omega) < R := List.mem_range.mp (hc.o.mem_iff.mp (List.getElem_mem _))
    simp only [vals, movedF, List.getElem_map]
    rw [List.getD_eq_getElem?_getD (l := table.map (tot p)), List.getElem?_map, List.getElem?_eq_getElem (by rw [ht.1]; exact hk)]
    rw [List.getD_eq_getElem?_getD (l := (stageF p m table hs c).table), List.getElem?_eq_getElem (by rw [hT.1]; exact hi), List.getD_eq_getElem?_getD (l := c.order), List.getElem?_eq_getElem (by omega)] at e
    simp only [Option.getD_some, Option.map_some] at e ⊢
    rw [e, List.getD_eq_getElem?_getD, List.getElem?_eq_getElem (by rw [ht.1]; exact hk)]
    rfl
end
theorem moved_perm {α : Type} (d : α) (l : List α) (o : List Nat) (h : o.Perm (List.range l.length)) : (movedF d l o).Perm l := by
  unfold movedF
  have e : (List.range l.length).map (fun k => l.getD k d) = l := by
    apply List.ext_getElem
    · simp
    · intro i h1 h2
      simp at h1 h2
      simp [h2]
  have := h.map fun k => l.getD k d
  rw [e] at this
  exact this

/-! ### a run -/
def stagesF (p : Int) (m : Nat) : List (List Int) → List (List Nat) → List SC → List SR
  | t, l :: ls, c :: cs => let s := stageF p m t (outs m l) c; s :: stagesF p m s.table ls cs
  | _, _, _ => []
/-- the table behind the stages -/
def lastF (t : List (List Int)) : List SR → List (List Int)
  | [] => t
  | s :: ss => lastF s.table ss
theorem lastF_snoc (t : List (List Int)) : ∀ (ss : List SR) (s : SR), lastF t (ss ++ [s]) = s.table
  | [], s => rfl
  | a :: ss, s => lastF_snoc a.table ss s
/-- the coins of all stages fit -/
inductive SCsOk (m R : Nat) : List (List Nat) → List SC → Prop where
  | nil : SCsOk m R [] []
  | cons {l : List Nat} {c : SC} {ls : List (List Nat)} {cs : List SC} (h : SCok m R (outs m l) c) (h1 : 1 ≤ (outs m l).length) (t : SCsOk m R ls cs) : SCsOk m R (l :: ls) (c :: cs)
theorem run_vals {p : Int} {m R : Nat} (hm : 1 ≤ m) : ∀ {ls : List (List Nat)} {cs : List SC} {t : List (List Int)}, SCsOk m R ls cs → Rect t R m →
    Rect (lastF t (stagesF p m t ls cs)) R m ∧ (vals p (lastF t (stagesF p m t ls cs))).Perm (vals p t)
  | [], [], t, _, ht => ⟨ht, .refl _⟩
  | l :: ls, c :: cs, t, .cons h h1 hr, ht => by
    have e := stage_vals (p := p) ht h h1 hm l rfl
    have hT : Rect (stageF p m t (outs m l) c).table R m := by
      show Rect (tableF p _ m t.length) R m
      rw [ht.1]
      exact table_rect _
    obtain ⟨q1, q2⟩ := run_vals (p := p) hm hr hT
    refine ⟨q1, q2.trans ?_⟩
    rw [e]
    exact moved_perm 0 _ _ (by rw [show (vals p t).length = R from by simp [vals, ht.1]]; exact h.o)
def freshF (p : Int) (votes : List Int) (coins : List (List Int)) : List (List Int) := List.zipWith (splitF p) votes coins
theorem fresh_rect {p : Int} {m : Nat} {votes : List Int} {coins : List (List Int)} (hc : Rect coins votes.length (m - 1)) (hm : 1 ≤ m) : Rect (freshF p votes coins) votes.length m :=
  zip_rect _ _ _ _ (by rw [hc.1]) fun x y _ hy => by
    rw [splitF_len, hc.2 y hy]
    omega
theorem fresh_vals {p : Int} : ∀ {votes : List Int} {coins : List (List Int)}, votes.length = coins.length → (∀ v ∈ votes, v % p = v) → vals p (freshF p votes coins) = votes
  | [], [], _, _ => rfl
  | [], _ :: _, h, _ => by cases h
  | _ :: _, [], h, _ => by cases h
  | v :: vs, c :: cs, h, hv => by
    have h2 := fresh_vals (p := p) (Nat.succ.inj h) fun x hx => hv x (List.mem_cons_of_mem _ hx)
    show tot p (splitF p v c) :: vals p (freshF p vs cs) = v :: vs
    rw [h2, splitF_tot, hv v List.mem_cons_self]
/-- the opened values are the votes in another order -/
theorem opened_perm {p : Int} {m : Nat} (hm : 1 ≤ m) {votes : List Int} {coins : List (List Int)} {ls : List (List Nat)} {cs : List SC} (hc : Rect coins votes.length (m - 1)) (hv : ∀ v ∈ votes, v % p = v) (hs : SCsOk m votes.length ls cs) :
    (vals p (lastF (freshF p votes coins) (stagesF p m (freshF p votes coins) ls cs))).Perm votes := by
  have h := (run_vals (p := p) hm hs (fresh_rect (p := p) hc hm)).2
  rw [fresh_vals hc.1.symm hv] at h
  exact h
end Vm
/-! Orders: how many, by a number, and back. -/
namespace Vm
def fact : Nat → Nat
  | 0 => 1
  | n + 1 => (n + 1) * fact n
theorem fact_pos : ∀ n, 0 < fact n
  | 0 => Nat.one_pos
  | n + 1 => Nat.mul_pos (Nat.succ_pos n) (fact_pos n)
theorem fact_le5 {n : Nat} (h : n ≤ 5) : fact n ≤ 120 := by
  match n, h with
  | 0, _ => decide
  | 1, _ => decide
  | 2, _ => decide
  | 3, _ => decide
  | 4, _ => decide
  | 5, _ => decide
/-- the running product of factorial, from the factor 2 -/
def factTo (i : Nat) : Nat := fact (i + 1)
theorem factTo_end (n : Nat) : factTo (n + 1 - 2) = fact n := by
  unfold factTo
  match n with
  | 0 => rfl
  | 1 => rfl
  | n + 2 =>
    have e : n + 2 + 1 - 2 + 1 = n + 2 := by omega
    rw [e]
theorem eraseIdx_perm {α : Type} : ∀ (l : List α) (i : Nat) (x : α), l[i]? = some x → l.Perm (x :: l.eraseIdx i)
  | [], _, _, h => by simp at h
  | a :: l, 0, x, h => by
    simp at h
    subst h
    exact .refl _
  | a :: l, i + 1, x, h => by
    have ih := eraseIdx_perm l i x (by simpa using h)
    exact (ih.cons a).trans (.swap x a _)
theorem sorted_range {ms : List Int} {ns : List Nat} (h1 : ms.Perm (ns.map Int.ofNat)) (h2 : ms.Pairwise (· ≤ ·)) (h3 : ns.Perm (List.range ns.length)) : ms = (List.range ns.length).map Int.ofNat := by
  have p : ms.Perm ((List.range ns.length).map Int.ofNat) := h1.trans (h3.map _)
  refine List.Perm.eq_of_pairwise (le := (· ≤ ·)) (fun a b _ _ h1 h2 => Int.le_antisymm h1 h2) h2 ?_ p
  rw [List.pairwise_map]
  exact List.pairwise_lt_range.imp fun {a b} h => by
    show (a : Int) ≤ (b : Int)
    omega
/-- one step of an order by its number: what is left, what is taken -/
theorem order_step {os ls : List Nat} {n i rest x : Nat} (hp : (os ++ ls).Perm (List.range n)) (hl : ls.length = n - i) (hi : i < n) (hr : rest < fact (n - i)) (hx : ls[rest / fact (n - i - 1)]? = some x) :
    ((os ++ [x]) ++ ls.eraseIdx (rest / fact (n - i - 1))).Perm (List.range n) ∧ (ls.eraseIdx (rest / fact (n - i - 1))).length = n - (i + 1) ∧ rest % fact (n - i - 1) < fact (n - (i + 1)) := by
  have hb : rest / fact (n - i - 1) < ls.length := (List.getElem?_eq_some_iff.mp hx).1
  refine ⟨?_, ?_, ?_⟩
  · rw [List.append_assoc]
    refine List.Perm.trans ?_ hp
    exact ((eraseIdx_perm ls _ x hx).symm).append_left os
  · rw [List.length_eraseIdx, if_pos hb]
    omega
  · have e : n - (i + 1) = n - i - 1 := by omega
    rw [e]
    exact Nat.mod_lt _ (fact_pos _)
theorem order_index {n i rest : Nat} (hi : i < n) (hr : rest < fact (n - i)) : rest / fact (n - i - 1) < n - i := by
  have e : n - i = (n - i - 1) + 1 := by omega
  rw [Nat.div_lt_iff_lt_mul (fact_pos _)]
  have e2 : fact (n - i) = (n - i) * fact (n - i - 1) := by
    generalize n - i = k at e ⊢
    match k, e with
    | k + 1, _ => rfl
  rw [← e2]
  exact hr
/-- the primes that are used: no factor up to the root -/
structure PrimeOk (p : Nat) : Prop where
  lo : 2 ≤ p
  hi : p ≤ 1000
  nof : ∀ f : Nat, 2 ≤ f → f * f ≤ p → p % f ≠ 0
end Vm
/-! A second layer over the hand layer: G, the part of the heap that stands still, within H, the heap; what a value stands for over G (Rp). -/
namespace Vc
open PySem L2

/-! ### growing heaps -/
/-- an object stays; a table of code objects may grow -/
def Le : HO → HO → Prop
  | .tbl ps, o' => ∃ ps', o' = .tbl ps' ∧ (TriplesOk ps.toList → TriplesOk ps'.toList)
  | o, o' => o' = o
theorem Le.refl : ∀ o : HO, Le o o
  | .tbl ps => ⟨ps, rfl, fun h => h⟩
  | .lst _ => rfl
  | .tup _ => rfl
  | .dK _ => rfl
  | .dT _ => rfl
  | .set _ _ => rfl
  | .ins _ _ _ => rfl
  | .own _ => rfl
  | .xd _ => rfl
  | .met _ _ => rfl
  | .rng _ _ => rfl
  | .frz _ _ => rfl
  | .ext _ => rfl
theorem Le.trans {a b c : HO} (h : Le a b) (k : Le b c) : Le a c := by
  cases a with
  | tbl ps =>
    obtain ⟨qs, rfl, h2⟩ := h
    obtain ⟨rs, rfl, k2⟩ := k
    exact ⟨rs, rfl, fun z => k2 (h2 z)⟩
  | _ =>
    have e : b = _ := h
    subst e
    exact k
/-- all that is known of H stays in H', but for what stands in M -/
def ExM (M : List Addr) (H H' : Hp) : Prop := ∀ a o, H a = some o → ∃ o', H' a = some o' ∧ (a ∉ M → Le o o')
abbrev Ex : Hp → Hp → Prop := ExM []
section
variable {M : List Addr} {H H1 H2 G G' : Hp} {p a : Addr} {o : HO}
theorem ExM.refl : ExM M H H := fun _ o h => ⟨o, h, fun _ => Le.refl o⟩
theorem Ex.refl (H : Hp) : Ex H H := ExM.refl
theorem ExM.trans (a : ExM M H H1) (b : ExM M H1 H2) : ExM M H H2 := fun x o h => by
  obtain ⟨o1, e1, l1⟩ := a x o h
  obtain ⟨o2, e2, l2⟩ := b x o1 e1
  exact ⟨o2, e2, fun z => (l1 z).trans (l2 z)⟩
theorem Ex.m (a : Ex H H1) : ExM M H H1 := fun x o h => by
  obtain ⟨o1, e1, l1⟩ := a x o h
  exact ⟨o1, e1, fun _ => l1 (by simp)⟩
theorem ExM.dom (e : ExM M H H1) (h : H1 p = none) : H p = none := by
  cases q : H p with
  | none => rfl
  | some o =>
    obtain ⟨_, e1, _⟩ := e p o q
    rw [h] at e1
    cases e1
theorem ExM.nn (e : ExM M H H1) (h : H p ≠ none) : H1 p ≠ none := fun z => h (e.dom z)
theorem ExM.lst (e : ExM M H H1) {xs : List V} (h : H p = some (.lst xs)) (hp : p ∉ M) : H1 p = some (.lst xs) := by
  obtain ⟨o1, e1, l1⟩ := e p _ h
  have l : o1 = .lst xs := l1 hp
  rw [e1, l]
theorem ExM.tup (e : ExM M H H1) {xs : List V} (h : H p = some (.tup xs)) (hp : p ∉ M) : H1 p = some (.tup xs) := by
  obtain ⟨o1, e1, l1⟩ := e p _ h
  have l : o1 = .tup xs := l1 hp
  rw [e1, l]
theorem ExM.ins (e : ExM M H H1) {C dx : Addr} {fs : List (Str × V)} (h : H p = some (.ins C dx fs)) (hp : p ∉ M) : H1 p = some (.ins C dx fs) := by
  obtain ⟨o1, e1, l1⟩ := e p _ h
  have l : o1 = .ins C dx fs := l1 hp
  rw [e1, l]
theorem Ex.l (e : Ex H H1) {xs : List V} (h : H p = some (.lst xs)) : H1 p = some (.lst xs) := e.lst h (by simp)
theorem Ex.t (e : Ex H H1) {xs : List V} (h : H p = some (.tup xs)) : H1 p = some (.tup xs) := e.tup h (by simp)
theorem Ex.i (e : Ex H H1) {C dx : Addr} {fs : List (Str × V)} (h : H p = some (.ins C dx fs)) : H1 p = some (.ins C dx fs) := e.ins h (by simp)
theorem Ex.tab (e : Ex H H1) (h : GxR.TabG H p) : GxR.TabG H1 p := by
  obtain ⟨ps, h1, h2⟩ := h
  obtain ⟨o1, e1, l1⟩ := e p _ h1
  obtain ⟨qs, rfl, l⟩ := l1 (by simp)
  exact ⟨qs, e1, l h2⟩
theorem ExM.new (h : H p = none) : ExM M H (upd H p o) := fun a u e => ⟨u, by rw [upd_ne (ne_of_none e h)]; exact e, fun _ => Le.refl u⟩
/-- what G does not know may change -/
theorem Ex.mut (e : Ex G H) (h : G p = none) : Ex G (upd H p o) := fun a u q => by
  obtain ⟨o1, e1, l1⟩ := e a u q
  exact ⟨o1, by rw [upd_ne (ne_of_none q h)]; exact e1, l1⟩
theorem Ex.tabbed {P : Addr} (h : GxR.TabG H P) (t : GxR.Tabbed P H H1) : Ex H H1 := fun a u q => by
  obtain ⟨⟨ps', t1, t2⟩, t3⟩ := t
  by_cases ha : a = P
  · obtain ⟨ps, h1, _⟩ := h
    rw [ha, h1] at q
    cases q
    exact ⟨_, by rw [ha]; exact t1, fun _ => ⟨ps', rfl, fun _ => t2⟩⟩
  · exact ⟨u, by rw [t3 a ha]; exact q, fun _ => Le.refl u⟩
end

/-- from H, of which G stands still, to H', of which G' does -/
structure StepM (M : List Addr) (H G H' G' : Hp) : Prop where
  ex : ExM M H H'
  gg : Ex G G'
  gh : Ex G' H'
  fr : ∀ a, H a ≠ none → G a = none → G' a = none
abbrev Step : Hp → Hp → Hp → Hp → Prop := StepM []
section
variable {M : List Addr} {H H0 H1 H2 G G0 G1 G2 : Hp} {p : Addr} {o : HO}
theorem StepM.refl (e : Ex G H) : StepM M H G H G := ⟨ExM.refl, Ex.refl _, e, fun _ _ h => h⟩
theorem StepM.trans (a : StepM M H0 G0 H1 G1) (b : StepM M H1 G1 H2 G2) : StepM M H0 G0 H2 G2 :=
  ⟨a.ex.trans b.ex, a.gg.trans b.gg, b.gh, fun x h1 h2 => b.fr x (a.ex.nn h1) (a.fr x h1 h2)⟩
theorem Step.m (a : Step H0 G0 H1 G1) : StepM M H0 G0 H1 G1 := ⟨Ex.m a.ex, a.gg, a.gh, a.fr⟩
/-- behind a pure step -/
theorem StepM.then (a : StepM M H0 G0 H1 G1) (b : Step H1 G1 H2 G2) : StepM M H0 G0 H2 G2 := a.trans b.m
theorem StepM.of_ex (e : Ex G H) (x : Ex H H1) : StepM M H G H1 G := ⟨x.m, Ex.refl _, e.trans x, fun _ _ h => h⟩
theorem upd_ex (e : Ex G H) : Ex (upd G p o) (upd H p o) := fun a u q => by
  by_cases h : a = p
  · rw [h, upd_same] at q
    cases q
    exact ⟨_, by rw [h, upd_same], fun _ => Le.refl _⟩
  · rw [upd_ne h] at q ⊢
    exact e a u q
/-- a new object that stands still -/
theorem StepM.new (e : Ex G H) (h : H p = none) : StepM M H G (upd H p o) (upd G p o) :=
  ⟨ExM.new h, ExM.new (e.dom h), upd_ex e, fun a h1 h2 => by
    rw [upd_ne]
    · exact h2
    · rintro rfl
      exact h1 h⟩
/-- one's own object changes -/
theorem StepM.mut (a : StepM M H0 G0 H G) (h0 : H0 p = none) (hg : G p = none) : StepM M H0 G0 (upd H p o) G :=
  ⟨fun x u q => by
    obtain ⟨o1, e1, l1⟩ := a.ex x u q
    exact ⟨o1, by rw [upd_ne (ne_of_none q h0)]; exact e1, l1⟩, a.gg, a.gh.mut hg, a.fr⟩
/-- an object of M changes -/
theorem StepM.mutM (a : StepM M H0 G0 H G) (hM : p ∈ M) (hg : G p = none) : StepM M H0 G0 (upd H p o) G :=
  ⟨fun x u q => by
    by_cases hx : x = p
    · rw [hx]
      exact ⟨o, upd_same, fun z => absurd hM z⟩
    · obtain ⟨o1, e1, l1⟩ := a.ex x u q
      exact ⟨o1, by rw [upd_ne hx]; exact e1, l1⟩, a.gg, a.gh.mut hg, a.fr⟩
/-- one's own object stands still from now on -/
theorem StepM.freeze (a : StepM M H0 G0 H G) (h0 : H0 p = none) (hg : G p = none) (h : H p = some o) : StepM M H0 G0 H (upd G p o) :=
  ⟨a.ex, a.gg.trans (ExM.new hg), fun x u q => by
    by_cases hx : x = p
    · rw [hx, upd_same] at q
      cases q
      exact ⟨_, by rw [hx]; exact h, fun _ => Le.refl _⟩
    · rw [upd_ne hx] at q
      exact a.gh x u q, fun x h1 h2 => by
    rw [upd_ne]
    · exact a.fr x h1 h2
    · rintro rfl
      exact h1 h0⟩
theorem StepM.x (a : StepM [] H0 G0 H G) : Ex H0 H := a.ex
theorem StepM.l (a : StepM [] H0 G0 H G) {xs : List V} (h : H0 p = some (.lst xs)) : H p = some (.lst xs) := Ex.l a.ex h
theorem StepM.t (a : StepM [] H0 G0 H G) {xs : List V} (h : H0 p = some (.tup xs)) : H p = some (.tup xs) := Ex.t a.ex h
theorem StepM.i (a : StepM [] H0 G0 H G) {C dx : Addr} {fs : List (Str × V)} (h : H0 p = some (.ins C dx fs)) : H p = some (.ins C dx fs) := Ex.i a.ex h
theorem StepM.fresh (a : StepM M H0 G0 H G) (h : H p = none) : H0 p = none := a.ex.dom h
end

/-! ### what a value stands for -/
abbrev Rp := Hp → V → Prop
class Mo (r : Rp) : Prop where
  mo : ∀ {G G' : Hp} {v : V}, Ex G G' → r G v → r G' v
def rV (x : V) : Rp := fun _ v => v = x
abbrev rInt (i : Int) : Rp := rV (.int i)
abbrev rNat (n : Nat) : Rp := rV (.int (n : Int))
abbrev rStr (x : Str) : Rp := rV (.str x)
abbrev rBl (b : Bool) : Rp := rV (.bl b)
abbrev rNon : Rp := rV .non
instance {x : V} : Mo (rV x) := ⟨fun _ h => h⟩
def rL {α : Type} (r : α → Rp) (xs : List α) : Rp := fun G v => ∃ a vs, v = .ref a ∧ G a = some (.lst vs) ∧ Paired (fun v x => r x G v) vs xs
def Pr (rs : List Rp) (G : Hp) (vs : List V) : Prop := Paired (fun v (r : Rp) => r G v) vs rs
def rT (rs : List Rp) : Rp := fun G v => ∃ a vs, v = .ref a ∧ G a = some (.tup vs) ∧ Pr rs G vs
def Pf (fs : List (Str × Rp)) (G : Hp) (vs : List (Str × V)) : Prop := Paired (fun (p : Str × V) (q : Str × Rp) => p.1 = q.1 ∧ q.2 G p.2) vs fs
def rO (C : Addr) (fs : List (Str × Rp)) : Rp := fun G v => ∃ a dx vs, v = .ref a ∧ G a = some (.ins C dx vs) ∧ Pf fs G vs
/-- some x of which P holds -/
def rE {α : Type} (P : α → Prop) (r : α → Rp) : Rp := fun G v => ∃ x, P x ∧ r x G v
theorem paired_mono {α β : Type} {F F' : α → β → Prop} : ∀ {l₁ : List α} {l₂ : List β}, Paired F l₁ l₂ → (∀ a b, b ∈ l₂ → F a b → F' a b) → Paired F' l₁ l₂
  | _, _, .nil, _ => .nil
  | _, _, .cons r t, h => .cons (h _ _ List.mem_cons_self r) (paired_mono t fun a b hb => h a b (List.mem_cons_of_mem _ hb))
instance {α : Type} {r : α → Rp} {xs : List α} [∀ x, Mo (r x)] : Mo (rL r xs) := ⟨fun e h => by
  obtain ⟨a, vs, h1, h2, h3⟩ := h
  exact ⟨a, vs, h1, e.l h2, paired_mono h3 fun v x _ q => Mo.mo e q⟩⟩
class MoL (rs : List Rp) : Prop where
  mo : ∀ r ∈ rs, Mo r
instance : MoL [] := ⟨fun _ h => by cases h⟩
instance {r : Rp} {rs : List Rp} [Mo r] [MoL rs] : MoL (r :: rs) := ⟨fun q h => by
  rcases List.mem_cons.mp h with h | h
  · rw [h]
    infer_instance
  · exact MoL.mo q h⟩
theorem Pr.mono {rs : List Rp} [MoL rs] {G G' : Hp} {vs : List V} (e : Ex G G') (h : Pr rs G vs) : Pr rs G' vs := paired_mono h fun _ r hr q => (MoL.mo (rs := rs) r hr).mo e q
instance {rs : List Rp} [MoL rs] : Mo (rT rs) := ⟨fun e h => by
  obtain ⟨a, vs, h1, h2, h3⟩ := h
  exact ⟨a, vs, h1, e.t h2, h3.mono e⟩⟩
class MoF (fs : List (Str × Rp)) : Prop where
  mo : ∀ q ∈ fs, Mo q.2
instance : MoF [] := ⟨fun _ h => by cases h⟩
instance {n : Str} {r : Rp} {fs : List (Str × Rp)} [Mo r] [MoF fs] : MoF ((n, r) :: fs) := ⟨fun q h => by
  rcases List.mem_cons.mp h with h | h
  · rw [h]
    infer_instance
  · exact MoF.mo q h⟩
theorem Pf.mono {fs : List (Str × Rp)} [MoF fs] {G G' : Hp} {vs : List (Str × V)} (e : Ex G G') (h : Pf fs G vs) : Pf fs G' vs := paired_mono h fun _ q hq z => ⟨z.1, (MoF.mo (fs := fs) q hq).mo e z.2⟩
instance {C : Addr} {fs : List (Str × Rp)} [MoF fs] : Mo (rO C fs) := ⟨fun e h => by
  obtain ⟨a, dx, vs, h1, h2, h3⟩ := h
  exact ⟨a, dx, vs, h1, e.i h2, h3.mono e⟩⟩
instance {α : Type} {P : α → Prop} {r : α → Rp} [∀ x, Mo (r x)] : Mo (rE P r) := ⟨fun e h => by
  obtain ⟨x, h1, h2⟩ := h
  exact ⟨x, h1, Mo.mo e h2⟩⟩
section
variable {G : Hp} {v : V} {α : Type} {r : α → Rp}
theorem paired_len {α β : Type} {F : α → β → Prop} {l₁ : List α} {l₂ : List β} (h : Paired F l₁ l₂) : l₁.length = l₂.length := Paired.length h
theorem paired_get {α β : Type} {F : α → β → Prop} : ∀ {l₁ : List α} {l₂ : List β} {i : Nat} {y : β}, Paired F l₁ l₂ → l₂[i]? = some y → ∃ x, l₁[i]? = some x ∧ F x y
  | _, _, _, _, .nil, e => by simp at e
  | _, _, 0, _, .cons r _, e => by simp at e; subst e; exact ⟨_, rfl, r⟩
  | _, _, i + 1, y, .cons _ t, e => by
    obtain ⟨u, h1, h2⟩ := paired_get (i := i) (y := y) t (by simpa using e)
    exact ⟨u, by simpa using h1, h2⟩
theorem paired_snoc {α β : Type} {F : α → β → Prop} : ∀ {l₁ : List α} {l₂ : List β} {x : α} {y : β}, Paired F l₁ l₂ → F x y → Paired F (l₁ ++ [x]) (l₂ ++ [y])
  | _, _, _, _, .nil, h => .cons h .nil
  | _, _, _, _, .cons r t, h => .cons r (paired_snoc t h)
theorem paired_app {α β : Type} {F : α → β → Prop} : ∀ {l₁ m₁ : List α} {l₂ m₂ : List β}, Paired F l₁ l₂ → Paired F m₁ m₂ → Paired F (l₁ ++ m₁) (l₂ ++ m₂)
  | _, _, _, _, .nil, h => h
  | _, _, _, _, .cons r t, h => .cons r (paired_app t h)
theorem paired_ints : ∀ {vs : List V} {ns : List Int}, Paired (fun v i => rInt i G v) vs ns → vs = ns.map V.int
  | _, _, .nil => rfl
  | _, _, .cons r t => by
    have h : _ = V.int _ := r
    rw [h, paired_ints t]
    rfl
theorem paired_of_ints (G : Hp) : ∀ ns : List Int, Paired (fun v i => rInt i G v) (ns.map V.int) ns
  | [] => .nil
  | n :: ns => .cons rfl (paired_of_ints G ns)
theorem paired_vals {β : Type} {f : β → V} : ∀ {vs : List V} {ns : List β}, Paired (fun v i => rV (f i) G v) vs ns → vs = ns.map f
  | _, _, .nil => rfl
  | _, _, .cons r t => by
    have h : _ = f _ := r
    rw [h, paired_vals t]
    rfl
theorem paired_of_vals {β : Type} (f : β → V) (G : Hp) : ∀ ns : List β, Paired (fun v i => rV (f i) G v) (ns.map f) ns
  | [] => .nil
  | n :: ns => .cons rfl (paired_of_vals f G ns)
/-- a list of ints, read back -/
theorem rL_ints {ns : List Int} (h : rL rInt ns G v) : ∃ a, v = .ref a ∧ G a = some (.lst (ns.map V.int)) := by
  obtain ⟨a, vs, h1, h2, h3⟩ := h
  rw [paired_ints h3] at h2
  exact ⟨a, h1, h2⟩
theorem rL_vals {β : Type} {f : β → V} {ns : List β} (h : rL (fun i => rV (f i)) ns G v) : ∃ a, v = .ref a ∧ G a = some (.lst (ns.map f)) := by
  obtain ⟨a, vs, h1, h2, h3⟩ := h
  rw [paired_vals h3] at h2
  exact ⟨a, h1, h2⟩
theorem rL_of_vals {β : Type} {f : β → V} {ns : List β} {a : Addr} (h : G a = some (.lst (ns.map f))) : rL (fun i => rV (f i)) ns G (.ref a) := ⟨a, _, rfl, h, paired_of_vals f G ns⟩
theorem rL_of_ints {ns : List Int} {a : Addr} (h : G a = some (.lst (ns.map V.int))) : rL rInt ns G (.ref a) := ⟨a, _, rfl, h, paired_of_ints G ns⟩
/-- a list of numbers is a list of ints -/
theorem rL_nat_int {ns : List Nat} (h : rL rNat ns G v) : rL rInt (ns.map Int.ofNat) G v := by
  obtain ⟨a, rfl, h2⟩ := rL_vals (f := fun n : Nat => V.int (n : Int)) h
  refine rL_of_ints ?_
  rw [h2, List.map_map]
  rfl
theorem rL_int_nat {ns : List Nat} (h : rL rInt (ns.map Int.ofNat) G v) : rL rNat ns G v := by
  obtain ⟨a, rfl, h2⟩ := rL_ints h
  refine rL_of_vals (f := fun n : Nat => V.int (n : Int)) ?_
  rw [h2, List.map_map]
  rfl
end

/-! ### what evaluates to what -/
def Ev (te : TE) (σ : L2.St) (G : Hp) (r : Rp) : Prop := ∀ H, Ex G H → ∀ Q : VK, (∀ v H' G', Step H G H' G' → r G' v → Q v H') → te σ H Q
def EvT (tt : TT) (σ : L2.St) (G : Hp) (b : Bool) : Prop := ∀ H, Ex G H → ∀ Q : Bool → Hp → Prop, (∀ H' G', Step H G H' G' → Q b H') → tt σ H Q
def EvA (ta : TA) (σ : L2.St) (G : Hp) (rs : List Rp) : Prop := ∀ H, Ex G H → ∀ Q : List V → Hp → Prop, (∀ vs H' G', Step H G H' G' → Pr rs G' vs → Q vs H') → ta σ H Q
/-- a new object that may still change -/
def EvN (te : TE) (σ : L2.St) (G : Hp) (r : Rp) : Prop := ∀ H, Ex G H → ∀ Q : VK, (∀ p H' G', H p = none → Step H G H' G' → r G' (.ref p) → Q (.ref p) H') → te σ H Q
theorem EvN.ev {te : TE} {σ : L2.St} {G : Hp} {r : Rp} (h : EvN te σ G r) : Ev te σ G r := fun H x Q q => h H x Q fun p H' G' _ s hr => q _ H' G' s hr
/-- G2 and G', as they stand in H' -/
def un (G2 G' H' : Hp) : Hp := fun a => if G2 a ≠ none ∨ G' a ≠ none then H' a else none
section
variable {σ : L2.St} {H H' G G' G2 : Hp} {te ta tb tc : TE} {t u : TT} {r r1 r2 : Rp} {al : TA} {rs : List Rp}
theorem un_l (e : Ex G2 H') : Ex G2 (un G2 G' H') := fun a o h => by
  obtain ⟨o1, e1, l1⟩ := e a o h
  exact ⟨o1, by unfold un; rw [if_pos (.inl (by rw [h]; simp))]; exact e1, l1⟩
theorem un_r (e : Ex G' H') : Ex G' (un G2 G' H') := fun a o h => by
  obtain ⟨o1, e1, l1⟩ := e a o h
  exact ⟨o1, by unfold un; rw [if_pos (.inr (by rw [h]; simp))]; exact e1, l1⟩
theorem un_h : Ex (un G2 G' H') H' := fun a o h => by
  unfold un at h
  split at h
  · exact ⟨o, h, fun _ => Le.refl o⟩
  · cases h
theorem Step.un (e : Ex G G2) (x : Ex G2 H) (s : Step H G H' G') : Step H G2 H' (un G2 G' H') ∧ Ex G' (Vc.un G2 G' H') :=
  ⟨⟨s.ex, un_l (x.trans s.ex), un_h, fun a h1 h2 => by
    have h3 : G' a = none := s.fr a h1 (e.dom h2)
    unfold Vc.un
    rw [if_neg (by simp [h2, h3])]⟩, un_r s.gh⟩
theorem Ev.mono [Mo r] (e : Ex G G2) (h : Ev te σ G r) : Ev te σ G2 r := fun H x Q q => h H (e.trans x) Q fun v H' G' s hr => by
  obtain ⟨s2, e2⟩ := Step.un e x s
  exact q v H' _ s2 (Mo.mo e2 hr)
theorem EvT.mono {b : Bool} (e : Ex G G2) (h : EvT t σ G b) : EvT t σ G2 b := fun H x Q q => h H (e.trans x) Q fun H' G' s => q H' _ (Step.un e x s).1
theorem EvA.mono [MoL rs] (e : Ex G G2) (h : EvA al σ G rs) : EvA al σ G2 rs := fun H x Q q => h H (e.trans x) Q fun vs H' G' s hr => by
  obtain ⟨s2, e2⟩ := Step.un e x s
  exact q vs H' _ s2 (hr.mono e2)
theorem Ev.is {r' : Rp} (h : Ev te σ G r) (k : ∀ G' v, Ex G G' → r G' v → r' G' v) : Ev te σ G r' := fun H x Q q => h H x Q fun v H' G' s hr => q v H' G' s (k G' v s.gg hr)
theorem EvT.is {b c : Bool} (h : EvT t σ G b) (k : b = c) : EvT t σ G c := by
  rw [← k]
  exact h
theorem ev_var {i : Nat} {v : V} (h : σ[i]? = some (some v)) (hr : r G v) : Ev (tVar i) σ G r := fun H x Q q => ⟨v, h, q v H G (StepM.refl x) hr⟩
theorem ev_c {v : V} (hr : r G v) : Ev (tC v) σ G r := fun H x Q q => q v H G (StepM.refl x) hr
theorem ev_i {i : Int} : Ev (tC (.int i)) σ G (rInt i) := ev_c rfl
theorem ev_s {z : Str} : Ev (tC (.str z)) σ G (rStr z) := ev_c rfl
theorem ea_nil : EvA tNil σ G [] := fun H x Q q => q [] H G (StepM.refl x) .nil
theorem ea_cons [Mo r] [MoL rs] (h : Ev te σ G r) (hs : EvA al σ G rs) : EvA (tCons te al) σ G (r :: rs) := fun H x Q q =>
  h H x _ fun v H1 G1 s1 r1 => hs.mono s1.gg H1 s1.gh _ fun vs H2 G2 s2 r2 => q (v :: vs) H2 G2 (s1.trans s2) (.cons (Mo.mo s2.gg r1) r2)
/-- a two-place operation that leaves the heap as it is -/
theorem ev_op {op : R2} [Mo r1] [Mo r2] (ha : Ev ta σ G r1) (hb : Ev tb σ G r2) (hr : ∀ G' H' x y, Ex G G' → Ex G' H' → r1 G' x → r2 G' y → ∀ Q : VK, (∀ z, r G' z → Q z H') → op x y H' Q) : Ev (tOp op ta tb) σ G r := fun H x Q q =>
  ha H x _ fun v H1 G1 s1 h1 => hb.mono s1.gg H1 s1.gh _ fun w H2 G2 s2 h2 => hr G2 H2 v w (s1.gg.trans s2.gg) s2.gh (Mo.mo s2.gg h1) h2 Q fun z hz => q z H2 G2 (s1.trans s2) hz
theorem ev_I0 {g : Int → Int → V} {i j : Int} (ha : Ev ta σ G (rInt i)) (hb : Ev tb σ G (rInt j)) : Ev (tOp (rI0 g) ta tb) σ G (rV (g i j)) :=
  ev_op ha hb fun G' H' x y _ _ h1 h2 Q q => ⟨i, j, h1, h2, q _ rfl⟩
theorem ev_I {C : Int → Int → Prop} {g : Int → Int → V} {i j : Int} (ha : Ev ta σ G (rInt i)) (hb : Ev tb σ G (rInt j)) (hc : C i j) : Ev (tOp (rI C g) ta tb) σ G (rV (g i j)) :=
  ev_op ha hb fun G' H' x y _ _ h1 h2 Q q => ⟨i, j, h1, h2, hc, q _ rfl⟩
theorem ev_eq {x y : V} (ha : Ev ta σ G (rV x)) (hb : Ev tb σ G (rV y)) (h : scal x y = true) : Ev (tOp rEq ta tb) σ G (rBl (decide (x = y))) :=
  ev_op ha hb fun G' H' a b _ _ h1 h2 Q q => by
    have e1 : a = x := h1
    have e2 : b = y := h2
    rw [e1, e2]
    exact ⟨h, q _ rfl⟩
theorem ev_ne {x y : V} (ha : Ev ta σ G (rV x)) (hb : Ev tb σ G (rV y)) (h : scal x y = true) : Ev (tOp rNe ta tb) σ G (rBl (!decide (x = y))) :=
  ev_op ha hb fun G' H' a b _ _ h1 h2 Q q => by
    have e1 : a = x := h1
    have e2 : b = y := h2
    rw [e1, e2]
    exact ⟨h, q _ rfl⟩
/-- xs[i] -/
theorem ev_ix {α : Type} {K : PySem.W.Frag} {r : α → Rp} [∀ x, Mo (r x)] {xs : List α} {i : Int} {n : Nat} {x : α} (ha : Ev ta σ G (rL r xs)) (hb : Ev tb σ G (rInt i)) (hi : i = (n : Int)) (hx : xs[n]? = some x) : Ev (tOp (rIxL K) ta tb) σ G (r x) :=
  ev_op ha hb fun G' H' a b _ e h1 h2 Q q => by
    obtain ⟨p, vs, rfl, h3, h4⟩ := h1
    obtain ⟨v, h5, h6⟩ := paired_get h4 hx
    exact ⟨p, vs, i, v, rfl, h2, SqL.of (e.l h3), at_of hi h5, q v h6⟩
/-- t[i] -/
theorem ev_ixT {K : PySem.W.Frag} {rs : List Rp} [MoL rs] {i : Int} {n : Nat} (ha : Ev ta σ G (rT rs)) (hb : Ev tb σ G (rInt i)) (hi : i = (n : Int)) (hx : rs[n]? = some r) : Ev (tOp (rIxT K) ta tb) σ G r :=
  ev_op ha hb fun G' H' a b _ e h1 h2 Q q => by
    obtain ⟨p, vs, rfl, h3, h4⟩ := h1
    obtain ⟨v, h5, h6⟩ := paired_get h4 hx
    exact ⟨p, vs, i, v, rfl, h2, SqT.of (e.t h3), at_of hi h5, q v h6⟩
/-- [a, b, ..] -/
theorem pr_map {α : Type} {r : α → Rp} {G : Hp} : ∀ {xs : List α} {vs : List V}, Pr (xs.map r) G vs → Paired (fun v x => r x G v) vs xs
  | [], _, .nil => .nil
  | _ :: _, _, .cons h t => .cons h (pr_map t)
instance {α : Type} {r : α → Rp} {xs : List α} [∀ x, Mo (r x)] : MoL (xs.map r) := ⟨fun q h => by
  obtain ⟨x, _, rfl⟩ := List.mem_map.mp h
  infer_instance⟩
theorem ev_lst {α : Type} {r : α → Rp} [∀ x, Mo (r x)] {xs : List α} (h : EvA al σ G (xs.map r)) (hl : xs.length ≤ 1000) : Ev (tLst al) σ G (rL r xs) := fun H x Q q =>
  h H x _ fun vs H1 G1 s1 h1 => by
    have el : vs.length = xs.length := by rw [paired_len h1, List.length_map]
    refine ⟨by rw [el]; exact Nat.le_trans hl (by decide), fun p hp => q _ _ _ (s1.trans (StepM.new (o := .lst vs) s1.gh hp)) ⟨p, vs, rfl, upd_same, pr_map (h1.mono (ExM.new (s1.gh.dom hp)))⟩⟩
/-- (a, b, ..) -/
theorem ev_tup [MoL rs] (h : EvA al σ G rs) (hl : rs.length ≤ 1000) : Ev (tTup al) σ G (rT rs) := fun H x Q q =>
  h H x _ fun vs H1 G1 s1 h1 => by
    have el : vs.length = rs.length := paired_len h1
    exact ⟨by rw [el]; exact Nat.le_trans hl (by decide), fun p hp => q _ _ _ (s1.trans (StepM.new (o := .tup vs) s1.gh hp)) ⟨p, vs, rfl, upd_same, h1.mono (ExM.new (s1.gh.dom hp))⟩⟩
/-- xs + ys -/
theorem evN_cat {α : Type} {r : α → Rp} [∀ x, Mo (r x)] {xs ys : List α} (ha : Ev ta σ G (rL r xs)) (hb : Ev tb σ G (rL r ys)) (hl : xs.length + ys.length ≤ 1000000) : EvN (tOp rCat ta tb) σ G (rL r (xs ++ ys)) := fun H x Q q =>
  ha H x _ fun v H1 G1 s1 h1 => hb.mono s1.gg H1 s1.gh _ fun w H2 G2 s2 h2 => by
    obtain ⟨a, vs, rfl, a1, a2⟩ := Mo.mo s2.gg h1
    obtain ⟨b, ws, rfl, b1, b2⟩ := h2
    have e1 := paired_len a2
    have e2 := paired_len b2
    refine ⟨a, b, vs, ws, rfl, rfl, s2.gh.l a1, s2.gh.l b1, by rw [e1, e2]; exact Nat.le_trans hl (by decide), fun p hp => ?_⟩
    have e := ExM.new (M := []) (o := HO.lst (vs ++ ws)) (s2.gh.dom hp)
    exact q p _ _ ((s1.trans s2).fresh hp) ((s1.trans s2).trans (StepM.new s2.gh hp)) ⟨p, _, rfl, upd_same, paired_app (paired_mono a2 fun _ _ _ z => Mo.mo e z) (paired_mono b2 fun _ _ _ z => Mo.mo e z)⟩
theorem ev_cat {α : Type} {r : α → Rp} [∀ x, Mo (r x)] {xs ys : List α} (ha : Ev ta σ G (rL r xs)) (hb : Ev tb σ G (rL r ys)) (hl : xs.length + ys.length ≤ 1000000) : Ev (tOp rCat ta tb) σ G (rL r (xs ++ ys)) := (evN_cat ha hb hl).ev
/-- o.f -/
theorem pf_look {G : Hp} {f : Str} : ∀ {fs : List (Str × Rp)} {vs : List (Str × V)}, Pf fs G vs → ∀ {r : Rp}, fs.lookup f = some r → ∃ v, vs.lookup f = some v ∧ r G v
  | _, _, .nil, _, h => by cases h
  | (n, q) :: fs, (m, v) :: vs, .cons h t, r, e => by
    obtain ⟨h1, h2⟩ := h
    have h1' : m = n := h1
    subst h1'
    rw [List.lookup_cons] at e ⊢
    cases hb : f == m with
    | true =>
      rw [hb] at e
      cases e
      exact ⟨v, rfl, h2⟩
    | false =>
      rw [hb] at e
      exact pf_look t e
theorem pf_none {G : Hp} {f : Str} : ∀ {fs : List (Str × Rp)} {vs : List (Str × V)}, Pf fs G vs → fs.lookup f = none → vs.lookup f = none
  | _, _, .nil, _ => rfl
  | (n, q) :: fs, (m, v) :: vs, .cons h t, e => by
    obtain ⟨h1, h2⟩ := h
    have h1' : m = n := h1
    subst h1'
    rw [List.lookup_cons] at e ⊢
    cases hb : f == m with
    | true =>
      rw [hb] at e
      cases e
    | false =>
      rw [hb] at e
      exact pf_none t e
/-- the place of a name among names, reckoned on names alone -/
def plc (f : Str) : List Str → Nat
  | [] => 0
  | n :: ns => if f = n then 0 else plc f ns + 1
theorem look_plc {β : Type} {f : Str} : ∀ {fs : List (Str × β)} {i : Nat}, plc f (fs.map (·.1)) = i → fs.lookup f = (fs[i]?).map (·.2)
  | [], i, _ => by simp
  | (n, b) :: fs, i, h => by
    rw [List.lookup_cons]
    have h1 : (if f = n then 0 else plc f (fs.map (·.1)) + 1) = i := h
    by_cases e : f = n
    · rw [if_pos e] at h1
      subst h1
      rw [show (f == n) = true from beq_iff_eq.mpr e]
      rfl
    · rw [if_neg e] at h1
      subst h1
      rw [show (f == n) = false from beq_eq_false_iff_ne.mpr e, look_plc (fs := fs) rfl]
      rfl
theorem ev_fld {K : PySem.W.Frag} {C : Addr} {f : Str} {fs : List (Str × Rp)} (h : Ev ta σ G (rO C fs)) (c : Cls K C) (n : NoAttr K C f) (l : fs.lookup f = some r) : Ev (tFld K ta f) σ G r := fun H x Q q =>
  h H x _ fun v H1 G1 s1 h1 => by
    obtain ⟨a, dx, vs, rfl, h2, h3⟩ := h1
    obtain ⟨w, h4, h5⟩ := pf_look h3 l
    exact ⟨a, C, dx, vs, w, rfl, s1.gh.i h2, c, n, h4, q w H1 G1 s1 h5⟩

/-! ### a call of a def that leaves all as it was -/
def spOf (rs : List Rp) (r : Rp) : Sp := fun vs H Q _ => ∃ G, Ex G H ∧ Pr rs G vs ∧ ∀ v H' G', Step H G H' G' → r G' v → Q v H'
def spOfN (rs : List Rp) (r : Rp) : Sp := fun vs H Q _ => ∃ G, Ex G H ∧ Pr rs G vs ∧ ∀ p H' G', H p = none → Step H G H' G' → r G' (.ref p) → Q (.ref p) H'
theorem evN_call {sp : Sp} {E : XK} (ha : EvA al σ G rs) (hsp : ∀ vs H Q, spOfN rs r vs H Q E → sp vs H Q E) : EvN (tCall sp [] E al) σ G r := fun H x Q q =>
  ha H x _ fun vs H1 G1 s1 h1 => by
    refine hsp _ H1 Q ⟨G1, s1.gh, ?_, fun p H2 G2 hn s2 h2 => q p H2 G2 (s1.fresh hn) (s1.trans s2) h2⟩
    rw [List.append_nil]
    exact h1
theorem ev_call {sp : Sp} {E : XK} (ha : EvA al σ G rs) (hsp : ∀ vs H Q, spOf rs r vs H Q E → sp vs H Q E) : Ev (tCall sp [] E al) σ G r := fun H x Q q =>
  ha H x _ fun vs H1 G1 s1 h1 => by
    refine hsp _ H1 Q ⟨G1, s1.gh, ?_, fun v H2 G2 s2 h2 => q v H2 G2 (s1.trans s2) h2⟩
    rw [List.append_nil]
    exact h1
/-- a built-in's call that leaves the heap as it is -/
theorem ev_cb {rc : List V → Hp → VK → Prop} (ha : EvA al σ G rs) (hr : ∀ G' H' vs, Ex G G' → Ex G' H' → Pr rs G' vs → ∀ Q : VK, (∀ z H2 G2, Step H' G' H2 G2 → r G2 z → Q z H2) → rc vs H' Q) : Ev (tCB rc al) σ G r := fun H x Q q =>
  ha H x _ fun vs H1 G1 s1 h1 => hr G1 H1 vs s1.gg s1.gh h1 Q fun z H2 G2 s2 h2 => q z H2 G2 (s1.trans s2) h2
theorem pr_one {r : Rp} {G : Hp} {vs : List V} (h : Pr [r] G vs) : ∃ v, vs = [v] ∧ r G v := by
  cases h with
  | cons h t =>
    cases t
    exact ⟨_, rfl, h⟩
theorem pr_two {r s : Rp} {G : Hp} {vs : List V} (h : Pr [r, s] G vs) : ∃ v w, vs = [v, w] ∧ r G v ∧ s G w := by
  cases h with
  | cons h t =>
    obtain ⟨w, rfl, h2⟩ := pr_one t
    exact ⟨_, w, rfl, h, h2⟩
theorem pr_cons {r : Rp} {rs : List Rp} {G : Hp} {vs : List V} (h : Pr (r :: rs) G vs) : ∃ v ws, vs = v :: ws ∧ r G v ∧ Pr rs G ws := by
  cases h with
  | cons h t => exact ⟨_, _, rfl, h, t⟩
/-- len(xs) -/
theorem ev_len {α : Type} {K : PySem.W.Frag} {r : α → Rp} [∀ x, Mo (r x)] {xs : List α} (ha : Ev ta σ G (rL r xs)) :
    Ev (tCB (fun xs H Q => ∃ p ys, xs = [.ref p] ∧ (SqL K H p ys ∨ SqT K H p ys) ∧ Q (.int (ys.length : Nat)) H) (tCons ta tNil)) σ G (rNat xs.length) :=
  ev_cb (ea_cons ha ea_nil) fun G' H' vs _ e h Q q => by
    obtain ⟨v, rfl, p, ws, rfl, h2, h3⟩ := pr_one h
    refine ⟨p, ws, rfl, .inl (SqL.of (e.l h2)), ?_⟩
    rw [paired_len h3]
    exact q _ _ _ (StepM.refl e) rfl
/-- sum(ns) -/
theorem ev_sum {K : PySem.W.Frag} {ns : List Int} (ha : Ev ta σ G (rL rInt ns)) : Ev (tCB (rSum K) (tCons ta tNil)) σ G (rInt ns.sum) :=
  ev_cb (ea_cons ha ea_nil) fun G' H' vs _ e h Q q => by
    obtain ⟨v, rfl, h1⟩ := pr_one h
    obtain ⟨p, rfl, h2⟩ := rL_ints h1
    exact ⟨p, ns, rfl, SqL.of (e.l h2), q _ _ _ (StepM.refl e) rfl⟩
/-- max(ns) -/
theorem ev_max {K : PySem.W.Frag} {ns : List Int} {m : Int} (ha : Ev ta σ G (rL rInt ns)) (hm : m ∈ ns) (hle : ∀ y ∈ ns, y ≤ m) : Ev (tCB (rMax K) (tCons ta tNil)) σ G (rInt m) :=
  ev_cb (ea_cons ha ea_nil) fun G' H' vs _ e h Q q => by
    obtain ⟨v, rfl, h1⟩ := pr_one h
    obtain ⟨p, rfl, h2⟩ := rL_ints h1
    refine ⟨p, ns, rfl, SqL.of (e.l h2), List.length_pos_of_mem hm, fun m' hm' hle' => ?_⟩
    have em : m' = m := Int.le_antisymm (hle m' hm') (hle' m hm)
    rw [em]
    exact q _ _ _ (StepM.refl e) rfl
/-- list(xs) -/
theorem evN_list {α : Type} {K : PySem.W.Frag} {r : α → Rp} [∀ x, Mo (r x)] {xs : List α} (ha : Ev ta σ G (rL r xs)) :
    EvN (tCB (fun xs H Q => ∃ p ys, xs = [.ref p] ∧ (SqL K H p ys ∨ SqT K H p ys) ∧ ∀ l, H l = none → Q (.ref l) (upd H l (.lst ys))) (tCons ta tNil)) σ G (rL r xs) := fun H x Q q =>
  ha H x _ fun v H' G' s1 h => by
    obtain ⟨p, ws, rfl, h2, h3⟩ := h
    exact ⟨p, ws, rfl, .inl (SqL.of (s1.gh.l h2)), fun l hl => q l _ _ (s1.fresh hl) (s1.trans (StepM.new s1.gh hl)) ⟨l, ws, rfl, upd_same, paired_mono h3 fun _ _ _ z => Mo.mo (ExM.new (s1.gh.dom hl)) z⟩⟩
theorem ev_list {α : Type} {K : PySem.W.Frag} {r : α → Rp} [∀ x, Mo (r x)] {xs : List α} (ha : Ev ta σ G (rL r xs)) :
    Ev (tCB (fun xs H Q => ∃ p ys, xs = [.ref p] ∧ (SqL K H p ys ∨ SqT K H p ys) ∧ ∀ l, H l = none → Q (.ref l) (upd H l (.lst ys))) (tCons ta tNil)) σ G (rL r xs) := (evN_list ha).ev
/-- sorted(ns) -/
theorem ev_sorted {K : PySem.W.Frag} {ns : List Int} (ha : Ev ta σ G (rL rInt ns)) (hl : ns.length < 64) : Ev (tCB (rSorted K) (tCons ta tNil)) σ G (rE (fun ms : List Int => ms.Perm ns ∧ ms.Pairwise (· ≤ ·)) (rL rInt)) :=
  ev_cb (ea_cons ha ea_nil) fun G' H' vs _ e h Q q => by
    obtain ⟨v, rfl, h1⟩ := pr_one h
    obtain ⟨p, rfl, h2⟩ := rL_ints h1
    exact ⟨p, ns, rfl, SqL.of (e.l h2), hl, fun ms l hp hs hn => q _ _ _ (StepM.new e hn) ⟨ms, ⟨hp, hs⟩, rL_of_ints upd_same⟩⟩
/-- list(range(n)) -/
theorem evN_lrange {n : Nat} (ha : Ev ta σ G (rNat n)) (hn : n ≤ 1000000) : EvN (tLstRg (tRg1 ta)) σ G (rL rNat (List.range n)) := fun H x Q q =>
  ha H x _ fun v H1 G1 s1 h1 => by
    refine ⟨(n : Int), h1, ⟨by omega, by omega, by omega, by omega, by omega⟩, fun l hl => q l _ _ (s1.fresh hl) (s1.trans (StepM.new s1.gh hl)) ?_⟩
    refine rL_of_vals (f := fun n : Nat => V.int (n : Int)) ?_
    rw [upd_same]
    unfold rgV
    have e : ((n : Int) - 0).toNat = n := by omega
    rw [e]
    congr 2
    apply List.map_congr_left
    intro i _
    rw [Int.zero_add]

theorem ev_lrange {n : Nat} (ha : Ev ta σ G (rNat n)) (hn : n ≤ 1000000) : Ev (tLstRg (tRg1 ta)) σ G (rL rNat (List.range n)) := (evN_lrange ha hn).ev
/-! ### tests -/
theorem et_test {b : Bool} (h : Ev te σ G (rBl b)) : EvT (tTest te) σ G b := fun H x Q q => h H x _ fun v H1 G1 s1 h1 => ⟨b, h1, q H1 G1 s1⟩
theorem et_B {b : Bool} (h : Ev te σ G (rBl b)) : EvT (tB te) σ G b := fun H x Q q => h H x _ fun v H1 G1 s1 h1 => ⟨b, h1, q H1 G1 s1⟩
theorem et_and {a b : Bool} (h1 : EvT t σ G a) (h2 : a = true → EvT u σ G b) : EvT (tAnd t u) σ G (a && b) := fun H x Q q => h1 H x _ fun H1 G1 s1 => by
  cases a with
  | true =>
    show u σ H1 Q
    exact (h2 rfl).mono s1.gg H1 s1.gh Q fun H2 G2 s2 => q H2 G2 (s1.trans s2)
  | false =>
    show Q false H1
    exact q H1 G1 s1
theorem et_or {a b : Bool} (h1 : EvT t σ G a) (h2 : a = false → EvT u σ G b) : EvT (tOr t u) σ G (a || b) := fun H x Q q => h1 H x _ fun H1 G1 s1 => by
  cases a with
  | true =>
    show Q true H1
    exact q H1 G1 s1
  | false =>
    show u σ H1 Q
    exact (h2 rfl).mono s1.gg H1 s1.gh Q fun H2 G2 s2 => q H2 G2 (s1.trans s2)
theorem et_not {a : Bool} (h1 : EvT t σ G a) : EvT (tNot t) σ G (!a) := fun H x Q q => h1 H x _ fun H1 G1 s1 => q H1 G1 s1
theorem ev_notV {a : Bool} (h1 : Ev ta σ G (rBl a)) : Ev (tNotV ta) σ G (rBl (!a)) := fun H x Q q => h1 H x _ fun v H1 G1 s1 h => ⟨a, h, q _ H1 G1 s1 rfl⟩
theorem ev_andV {a b : Bool} (h1 : Ev ta σ G (rBl a)) (h2 : a = true → Ev tb σ G (rBl b)) : Ev (tAndV ta tb) σ G (rBl (a && b)) := fun H x Q q => h1 H x _ fun v H1 G1 s1 h => ⟨a, h, by
  cases a with
  | true =>
    show tb σ H1 Q
    exact (h2 rfl).mono s1.gg H1 s1.gh Q fun w H2 G2 s2 => q w H2 G2 (s1.trans s2)
  | false =>
    show Q (.bl false) H1
    exact q _ H1 G1 s1 rfl⟩
theorem ev_ifV {b : Bool} [Mo r] (h : EvT t σ G b) (h1 : b = true → Ev ta σ G r) (h2 : b = false → Ev tb σ G r) : Ev (tIf t ta tb) σ G r := fun H x Q q => h H x _ fun H1 G1 s1 => by
  cases b with
  | true =>
    show ta σ H1 Q
    exact (h1 rfl).mono s1.gg H1 s1.gh Q fun w H2 G2 s2 => q w H2 G2 (s1.trans s2)
  | false =>
    show tb σ H1 Q
    exact (h2 rfl).mono s1.gg H1 s1.gh Q fun w H2 G2 s2 => q w H2 G2 (s1.trans s2)
/-- a < b < c -/
theorem ev_chain {op op' : R2} {k l : Bool} [Mo r1] [Mo r2] {r3 : Rp} [Mo r3] (ha : Ev ta σ G r1) (hb : Ev tb σ G r2) (hc : k = true → Ev tc σ G r3)
    (o1 : ∀ G' H' x y, Ex G G' → Ex G' H' → r1 G' x → r2 G' y → ∀ Q : VK, Q (.bl k) H' → op x y H' Q)
    (o2 : k = true → ∀ G' H' x y, Ex G G' → Ex G' H' → r2 G' x → r3 G' y → ∀ Q : VK, Q (.bl l) H' → op' x y H' Q) : Ev (tChain op op' ta tb tc) σ G (rBl (k && l)) := fun H x Q q =>
  ha H x _ fun v H1 G1 s1 h1 => hb.mono s1.gg H1 s1.gh _ fun w H2 G2 s2 h2 => o1 G2 H2 v w (s1.gg.trans s2.gg) s2.gh (Mo.mo s2.gg h1) h2 _ ⟨k, rfl, by
    cases k with
    | true =>
      show tc σ H2 fun w' H4 => op' w w' H4 Q
      exact (hc rfl).mono (s1.gg.trans s2.gg) H2 s2.gh _ fun y H3 G3 s3 h3 => o2 rfl G3 H3 w y ((s1.gg.trans s2.gg).trans s3.gg) s3.gh (Mo.mo s3.gg h2) h3 Q (q _ H3 G3 ((s1.trans s2).trans s3) rfl)
    | false =>
      show Q (.bl false) H2
      exact q _ H2 G2 (s1.trans s2) rfl⟩
end

/-! ### what is walked, with its target: at a turn the slots take an item -/
def Wk {β : Type} (wi : TI) (g : TG) (σ : L2.St) (G : Hp) (ys : List β) (S : β → Hp → L2.St → L2.St → Prop) : Prop :=
  ∀ H, Ex G H → ∀ R : It → Hp → Prop, (∀ J H1 G1 (Gd : Hp → Prop) Y, Step H G H1 G1 → Walk J ys.length Gd Y → (∀ H', Ex G1 H' → Gd H') →
    (∀ i y x σ' Ha Hb, ys[i]? = some y → Ex G1 Ha → Y i Ha x Hb → ∀ Q : L2.St → Hp → Prop, (∀ σ2 Hc, Ex Ha Hc → S y G1 σ' σ2 → Q σ2 Hc) → g x σ' Hb Q) → R J H1) → wi σ H R
/-- one name takes the item -/
def S1 {β : Type} (r : β → Rp) (j : Nat) : β → Hp → L2.St → L2.St → Prop := fun y G σ' σ2 => ∃ v, r y G v ∧ σ2 = σ'.set j (some v)
/-- two names -/
def S2 {β γ : Type} (r : β → Rp) (r' : γ → Rp) (j k : Nat) : β × γ → Hp → L2.St → L2.St → Prop := fun y G σ' σ2 => ∃ v w, r y.1 G v ∧ r' y.2 G w ∧ σ2 = (σ'.set j (some v)).set k (some w)
section
variable {σ : L2.St} {G : Hp} {ta tb te : TE} {K : PySem.W.Frag}
theorem wk_list {β : Type} {r : β → Rp} [∀ y, Mo (r y)] {ys : List β} {j : Nat} (h : Ev ta σ G (rL r ys)) : Wk (iList K ta) (gName j) σ G ys (S1 r j) := fun H x R k =>
  h H x _ fun v H1 G1 s1 h1 => by
    obtain ⟨a, vs, rfl, h2, h3⟩ := h1
    have el := paired_len h3
    refine ⟨a, rfl, ⟨vs, SqL.of (s1.gh.l h2)⟩, k _ H1 G1 (fun H' => SqL K H' a vs) _ s1 (by rw [← el]; exact walk_list) (fun H' e => SqL.of (e.l h2)) fun i y x σ' Ha Hb hy e hY Q q => ?_⟩
    obtain ⟨e1, e2⟩ := hY
    subst e1
    obtain ⟨v, hv, hr⟩ := paired_get h3 hy
    rw [hv] at e2
    cases e2
    exact q _ _ (Ex.refl _) ⟨_, hr, rfl⟩
theorem wk_rng1 {n : Nat} {j : Nat} (h : Ev ta σ G (rNat n)) (hn : n ≤ 1000000) : Wk (iRng1 (tCons ta tNil)) (gName j) σ G (List.range n) (S1 rNat j) := fun H x R k =>
  h H x _ fun v H1 G1 s1 h1 => by
    have h1' : v = .int (n : Int) := h1
    subst h1'
    refine ⟨(n : Int), rfl, by omega, by omega, k _ H1 G1 (fun _ => True) _ s1 (by rw [List.length_range]; exact walk_range) (fun _ _ => trivial) fun i y x σ' Ha Hb hy e hY Q q => ?_⟩
    obtain ⟨e1, e2⟩ := hY
    subst e1 e2
    have hy' : i = y := by
      obtain ⟨hlt, e⟩ := List.getElem?_eq_some_iff.mp hy
      rw [List.getElem_range] at e
      exact e
    subst hy'
    refine q _ _ (Ex.refl _) ⟨.int (i : Int), rfl, ?_⟩
    show List.set σ' j (some (V.int (0 + (i : Int)))) = _
    rw [Int.zero_add]
theorem wk_rng2 {lo n : Nat} {j : Nat} (h1 : Ev ta σ G (rNat lo)) (h2 : Ev tb σ G (rNat n)) (hn : lo ≤ 1000000 ∧ n ≤ 1000000) : Wk (iRng2 (tCons ta (tCons tb tNil))) (gName j) σ G ((List.range (n - lo)).map (lo + ·)) (S1 rNat j) := fun H x R k =>
  h1 H x _ fun v H1 G1 s1 hv => h2.mono s1.gg H1 s1.gh _ fun w H2 G2 s2 hw => by
    have hv' : v = .int (lo : Int) := hv
    have hw' : w = .int (n : Int) := hw
    subst hv' hw'
    have en : ((n : Int) - (lo : Int)).toNat = n - lo := by omega
    refine ⟨(lo : Int), (n : Int), rfl, ⟨by omega, by omega, by omega, by omega⟩, k _ H2 G2 (fun _ => True) _ (s1.trans s2) (by rw [List.length_map, List.length_range, en]; exact walk_range) (fun _ _ => trivial) fun i y x σ' Ha Hb hy e hY Q q => ?_⟩
    obtain ⟨e1, e2⟩ := hY
    subst e1 e2
    have hy' : lo + i = y := by
      obtain ⟨hlt, e⟩ := List.getElem?_eq_some_iff.mp hy
      rw [List.getElem_map, List.getElem_range] at e
      exact e
    subst hy'
    refine q _ _ (Ex.refl _) ⟨.int ((lo + i : Nat) : Int), rfl, ?_⟩
    show List.set σ' j (some (V.int ((lo : Int) + (i : Int)))) = _
    rw [Int.natCast_add]
/-- a new pair into two names -/
theorem g_pair {v w : V} {T : Addr} {σ' : L2.St} {Ha : Hp} {j k : Nat} {Q : L2.St → Hp → Prop} (hT : Ha T = none) (q : Q ((σ'.set j (some v)).set k (some w)) (upd Ha T (.tup [v, w]))) :
    gTup K 2 (gCons (gName j) (gCons (gName k) gNil)) (.ref T) σ' (upd Ha T (.tup [v, w])) Q :=
  ⟨T, [v, w], rfl, SqT.of upd_same, rfl, v, [w], rfl, w, [], rfl, rfl, q⟩
theorem wk_enum {β : Type} {r : β → Rp} [∀ y, Mo (r y)] {ys : List β} {j k : Nat} (h : Ev ta σ G (rL r ys)) : Wk (iEnum K (tCons ta tNil)) (gTup K 2 (gCons (gName j) (gCons (gName k) gNil))) σ G (ys.mapIdx fun i y => (i, y)) (S2 rNat r j k) := fun H x R kk =>
  h H x _ fun v H1 G1 s1 h1 => by
    obtain ⟨a, vs, rfl, h2, h3⟩ := h1
    have el := paired_len h3
    refine ⟨a, vs, rfl, SqL.of (s1.gh.l h2), kk _ H1 G1 (fun H' => SqL K H' a vs) _ s1 (by rw [List.length_mapIdx, ← el]; exact walk_enum) (fun H' e => SqL.of (e.l h2)) fun i y x σ' Ha Hb hy e hY Q q => ?_⟩
    obtain ⟨T, v, w, rfl, hT, rfl, e1, e2⟩ := hY
    have e1' : V.int (i : Nat) = v := Option.some.inj e1
    subst e1'
    rw [List.getElem?_mapIdx] at hy
    cases hq : ys[i]? with
    | none =>
      rw [hq] at hy
      cases hy
    | some z =>
      rw [hq] at hy
      cases hy
      obtain ⟨v, hv, hr⟩ := paired_get h3 hq
      have e2' : vs[i]? = some w := e2
      rw [hv] at e2'
      cases e2'
      exact g_pair hT (q _ _ (ExM.new hT) ⟨_, _, rfl, hr, rfl⟩)
theorem wk_zip {β γ : Type} {r : β → Rp} {r' : γ → Rp} [∀ y, Mo (r y)] [∀ y, Mo (r' y)] {ys : List β} {zs : List γ} {j k : Nat} (h : Ev ta σ G (rL r ys)) (h' : Ev tb σ G (rL r' zs)) :
    Wk (iZip K (tCons ta (tCons tb tNil))) (gTup K 2 (gCons (gName j) (gCons (gName k) gNil))) σ G (ys.zip zs) (S2 r r' j k) := fun H x R kk =>
  h H x _ fun v H1 G1 s1 h1 => h'.mono s1.gg H1 s1.gh _ fun w H2 G2 s2 h2 => by
    obtain ⟨a, vs, rfl, a2, a3⟩ := Mo.mo s2.gg h1
    obtain ⟨b, ws, rfl, b2, b3⟩ := h2
    have el := paired_len a3
    have el2 := paired_len b3
    refine ⟨a, b, vs, ws, rfl, SqL.of (s2.gh.l a2), SqL.of (s2.gh.l b2), kk _ H2 G2 (fun H' => SqL K H' a vs ∧ SqL K H' b ws) _ (s1.trans s2) (walk_zip (by rw [List.length_zip, el, el2])) (fun H' e => ⟨SqL.of (e.l a2), SqL.of (e.l b2)⟩) fun i y x σ' Ha Hb hy e hY Q q => ?_⟩
    obtain ⟨T, v, w, rfl, hT, rfl, e1, e2⟩ := hY
    rw [List.getElem?_zip_eq_some] at hy
    obtain ⟨hy1, hy2⟩ := hy
    obtain ⟨v', hv, hr⟩ := paired_get a3 hy1
    obtain ⟨w', hw, hr'⟩ := paired_get b3 hy2
    have e1' : vs[i]? = some v := e1
    have e2' : ws[i]? = some w := e2
    rw [hv] at e1'
    rw [hw] at e2'
    cases e1'
    cases e2'
    exact g_pair hT (q _ _ (ExM.new hT) ⟨_, _, hr, hr', rfl⟩)
/-- a list of pairs into two names -/
theorem wk_pairs {β γ : Type} {r : β → Rp} {r' : γ → Rp} [∀ y, Mo (r y)] [∀ y, Mo (r' y)] {ys : List (β × γ)} {j k : Nat} (h : Ev ta σ G (rL (fun y : β × γ => rT [r y.1, r' y.2]) ys)) :
    Wk (iList K ta) (gTup K 2 (gCons (gName j) (gCons (gName k) gNil))) σ G ys (S2 r r' j k) := fun H x R kk =>
  h H x _ fun v H1 G1 s1 h1 => by
    obtain ⟨a, vs, rfl, h2, h3⟩ := h1
    have el := paired_len h3
    refine ⟨a, rfl, ⟨vs, SqL.of (s1.gh.l h2)⟩, kk _ H1 G1 (fun H' => SqL K H' a vs) _ s1 (by rw [← el]; exact walk_list) (fun H' e => SqL.of (e.l h2)) fun i y x σ' Ha Hb hy e hY Q q => ?_⟩
    obtain ⟨e1, e2⟩ := hY
    subst e1
    obtain ⟨v, hv, T, ws, rfl, t1, t2⟩ := paired_get h3 hy
    rw [hv] at e2
    cases e2
    obtain ⟨v1, v2, rfl, p1, p2⟩ := pr_two t2
    exact ⟨T, [v1, v2], rfl, SqT.of (e.t t1), rfl, v1, [v2], rfl, v2, [], rfl, rfl, q _ _ (Ex.refl _) ⟨v1, v2, p1, p2, rfl⟩⟩
/-- an empty list, whatever the target -/
theorem wk_nil {β : Type} {r : β → Rp} {g : TG} {S : β → Hp → L2.St → L2.St → Prop} (h : Ev ta σ G (rL r [])) : Wk (iList K ta) g σ G [] S := fun H x R kk =>
  h H x _ fun v H1 G1 s1 h1 => by
    obtain ⟨a, vs, rfl, h2, h3⟩ := h1
    cases h3
    exact ⟨a, rfl, ⟨[], SqL.of (s1.gh.l h2)⟩, kk _ H1 G1 (fun H' => SqL K H' a []) _ s1 (walk_list (xs := [])) (fun H' e => SqL.of (e.l h2)) fun i y x σ' Ha Hb hy => by cases hy⟩

/-- [e for target in .. if t] -/
theorem evN_lcF {β γ : Type} {wi : TI} {g : TG} {t : TT} {vs : List Nat} {ys : List β} {S : β → Hp → L2.St → L2.St → Prop} {r : γ → Rp} [∀ y, Mo (r y)] (b : β → Bool) (f : β → γ) (w : Wk wi g σ G ys S) (hz : ys.length ≤ 1000000)
    (hS : ∀ y G1 G2 σ2, Ex G1 G2 → S y G1 (wipe σ vs) σ2 → S y G2 (wipe σ vs) σ2) (hw : ∀ y G' σ2, S y G' (wipe σ vs) σ2 → wipe σ2 vs = wipe σ vs)
    (ht : ∀ y G' σ2, y ∈ ys → Ex G G' → S y G' (wipe σ vs) σ2 → EvT t σ2 G' (b y)) (he : ∀ y G' σ2, y ∈ ys → b y = true → Ex G G' → S y G' (wipe σ vs) σ2 → Ev te σ2 G' (r (f y))) :
    EvN (tLc wi g t te vs) σ G (rL r ((ys.filter b).map f)) := fun H x Q q => w H x _ fun J H1 G1 Gd Y s1 wJ hGd turn D hD => by
  have gD : G1 D = none := s1.gh.dom hD
  refine lc_it wJ (fun i H' => ∃ G' us, Step H1 G1 H' G' ∧ G' D = none ∧ H' D = some (.lst us) ∧ Paired (fun v z => r z G' v) us (((ys.take i).filter b).map f)) ?_ ?_ ?_ ?_
  · exact ⟨G1, [], (StepM.refl s1.gh).mut hD gD, gD, upd_same, by rw [List.take_zero]; exact .nil⟩
  · rintro i H' _ ⟨G', us, s2, _⟩
    exact hGd H' (s2.gg.trans s2.gh)
  · rintro i x Ha Hb hi ⟨G', us, s2, g2, hD2, hp⟩ hY
    have hyi : ys[i]? = some ys[i] := List.getElem?_eq_getElem hi
    have hmem : ys[i] ∈ ys := List.getElem_mem hi
    refine turn i ys[i] x _ Ha Hb hyi (s2.gg.trans s2.gh) hY _ fun σ2 Hc ec hSc => ⟨hw _ _ _ hSc, ?_⟩
    have s3 : Step H1 G1 Hc G' := s2.then (StepM.of_ex s2.gh ec)
    have hS' := hS _ _ _ _ s2.gg hSc
    have hDc : Hc D = some (.lst us) := ec.l hD2
    have hlen : us.length < sizeLine := by
      rw [paired_len hp, List.length_map]
      have h1 := List.length_filter_le b (ys.take i)
      have h2 : (ys.take i).length ≤ i := by rw [List.length_take]; omega
      exact Nat.lt_of_lt_of_le (show _ < 1000001 by omega) (by decide)
    refine ht _ G' σ2 hmem (s1.gg.trans s2.gg) hS' Hc s3.gh _ fun Hd Gd2 s4 => ?_
    have s5 : Step H1 G1 Hd Gd2 := s3.trans s4
    have g5 : Gd2 D = none := s4.fr D (by rw [hDc]; simp) g2
    have etake : ys.take (i + 1) = ys.take i ++ [ys[i]] := by rw [List.take_succ, hyi]; rfl
    cases hb : b ys[i] with
    | false =>
      rw [if_neg (by simp)]
      refine ⟨Gd2, us, s5, g5, s4.l hDc, ?_⟩
      rw [etake, List.filter_append, List.filter_cons, if_neg (by rw [hb]; simp), List.filter_nil, List.append_nil]
      exact paired_mono hp fun v z _ h => Mo.mo s4.gg h
    | true =>
      rw [if_pos rfl]
      refine he _ Gd2 σ2 hmem hb (s1.gg.trans s5.gg) (hS _ _ _ _ s4.gg hS') Hd s4.gh _ fun y He Ge s6 hy => ?_
      refine ⟨us, s6.l (s4.l hDc), hlen, Ge, us ++ [y], ?_, ?_, upd_same, ?_⟩
      · exact (s5.trans s6).mut hD (s6.fr D (by rw [s4.l hDc]; simp) g5)
      · exact s6.fr D (by rw [s4.l hDc]; simp) g5
      · rw [etake, List.filter_append, List.filter_cons, if_pos hb, List.filter_nil, List.map_append]
        exact paired_snoc (paired_mono hp fun v z _ h => Mo.mo (s4.gg.trans s6.gg) h) hy
  · rintro H' ⟨G', us, s2, g2, hD2, hp⟩
    rw [List.take_length] at hp
    refine q D H' (upd G' D (.lst us)) (s1.fresh hD) (s1.then (s2.freeze hD g2 hD2)) ⟨D, us, rfl, upd_same, paired_mono hp fun v z _ h => Mo.mo (ExM.new g2) h⟩
theorem ev_lcF {β γ : Type} {wi : TI} {g : TG} {t : TT} {vs : List Nat} {ys : List β} {S : β → Hp → L2.St → L2.St → Prop} {r : γ → Rp} [∀ y, Mo (r y)] (b : β → Bool) (f : β → γ) (w : Wk wi g σ G ys S) (hz : ys.length ≤ 1000000)
    (hS : ∀ y G1 G2 σ2, Ex G1 G2 → S y G1 (wipe σ vs) σ2 → S y G2 (wipe σ vs) σ2) (hw : ∀ y G' σ2, S y G' (wipe σ vs) σ2 → wipe σ2 vs = wipe σ vs)
    (ht : ∀ y G' σ2, y ∈ ys → Ex G G' → S y G' (wipe σ vs) σ2 → EvT t σ2 G' (b y)) (he : ∀ y G' σ2, y ∈ ys → b y = true → Ex G G' → S y G' (wipe σ vs) σ2 → Ev te σ2 G' (r (f y))) :
    Ev (tLc wi g t te vs) σ G (rL r ((ys.filter b).map f)) := (evN_lcF b f w hz hS hw ht he).ev
/-- the new list may still change -/
theorem evN_lc1 {β γ : Type} {wi : TI} {vs : List Nat} {ys : List β} {r0 : β → Rp} [∀ y, Mo (r0 y)] {j : Nat} {r : γ → Rp} [∀ y, Mo (r y)] (f : β → γ) (w : Wk wi (gName j) σ G ys (S1 r0 j)) (hz : ys.length ≤ 1000000)
    (hw : ∀ v, wipe ((wipe σ vs).set j (some v)) vs = wipe σ vs) (he : ∀ y v G', y ∈ ys → Ex G G' → r0 y G' v → Ev te ((wipe σ vs).set j (some v)) G' (r (f y))) :
    EvN (tLc wi (gName j) tYes te vs) σ G (rL r (ys.map f)) := by
  have h := evN_lcF (t := tYes) (r := r) (vs := vs) (te := te) (fun _ => true) f w hz (fun y G1 G2 σ2 e ⟨v, h1, h2⟩ => ⟨v, Mo.mo e h1, h2⟩) (fun y G' σ2 ⟨v, _, e⟩ => by rw [e]; exact hw v) (fun y G' σ2 _ _ _ H x Q q => q H G' (StepM.refl x)) (fun y G' σ2 hy _ e ⟨v, h1, h2⟩ => by rw [h2]; exact he y v G' hy e h1)
  rw [List.filter_eq_self.mpr (fun _ _ => rfl)] at h
  exact h
/-- [e for target in ..] -/
theorem ev_lc {β γ : Type} {wi : TI} {g : TG} {vs : List Nat} {ys : List β} {S : β → Hp → L2.St → L2.St → Prop} {r : γ → Rp} [∀ y, Mo (r y)] (f : β → γ) (w : Wk wi g σ G ys S) (hz : ys.length ≤ 1000000)
    (hS : ∀ y G1 G2 σ2, Ex G1 G2 → S y G1 (wipe σ vs) σ2 → S y G2 (wipe σ vs) σ2) (hw : ∀ y G' σ2, S y G' (wipe σ vs) σ2 → wipe σ2 vs = wipe σ vs)
    (he : ∀ y G' σ2, y ∈ ys → Ex G G' → S y G' (wipe σ vs) σ2 → Ev te σ2 G' (r (f y))) :
    Ev (tLc wi g tYes te vs) σ G (rL r (ys.map f)) := by
  have h := ev_lcF (t := tYes) (r := r) (fun _ => true) f w hz hS hw (fun y G' σ2 _ _ _ H x Q q => q H G' (StepM.refl x)) (fun y G' σ2 hy _ e s => he y G' σ2 hy e s)
  rw [List.filter_eq_self.mpr (fun _ _ => rfl)] at h
  exact h
theorem s1_mono {β : Type} {r : β → Rp} [∀ y, Mo (r y)] {j : Nat} {y : β} {G1 G2 : Hp} {σ' σ2 : L2.St} (e : Ex G1 G2) (h : S1 r j y G1 σ' σ2) : S1 r j y G2 σ' σ2 := by
  obtain ⟨v, h1, h2⟩ := h
  exact ⟨v, Mo.mo e h1, h2⟩
theorem s2_mono {β γ : Type} {r : β → Rp} {r' : γ → Rp} [∀ y, Mo (r y)] [∀ y, Mo (r' y)] {j k : Nat} {y : β × γ} {G1 G2 : Hp} {σ' σ2 : L2.St} (e : Ex G1 G2) (h : S2 r r' j k y G1 σ' σ2) : S2 r r' j k y G2 σ' σ2 := by
  obtain ⟨v, w, h1, h1', h2⟩ := h
  exact ⟨v, w, Mo.mo e h1, Mo.mo e h1', h2⟩
/-- one name, a test -/
theorem ev_lcF1 {β γ : Type} {wi : TI} {t : TT} {vs : List Nat} {ys : List β} {r0 : β → Rp} [∀ y, Mo (r0 y)] {j : Nat} {r : γ → Rp} [∀ y, Mo (r y)] (b : β → Bool) (f : β → γ) (w : Wk wi (gName j) σ G ys (S1 r0 j)) (hz : ys.length ≤ 1000000)
    (hw : ∀ v, wipe ((wipe σ vs).set j (some v)) vs = wipe σ vs)
    (ht : ∀ y v G', y ∈ ys → Ex G G' → r0 y G' v → EvT t ((wipe σ vs).set j (some v)) G' (b y)) (he : ∀ y v G', y ∈ ys → b y = true → Ex G G' → r0 y G' v → Ev te ((wipe σ vs).set j (some v)) G' (r (f y))) :
    Ev (tLc wi (gName j) t te vs) σ G (rL r ((ys.filter b).map f)) :=
  ev_lcF b f w hz (fun _ _ _ _ e h => s1_mono e h) (fun y G' σ2 ⟨v, _, e⟩ => by rw [e]; exact hw v) (fun y G' σ2 hy e ⟨v, h1, h2⟩ => by rw [h2]; exact ht y v G' hy e h1) (fun y G' σ2 hy hb e ⟨v, h1, h2⟩ => by rw [h2]; exact he y v G' hy hb e h1)
theorem ev_lc1 {β γ : Type} {wi : TI} {vs : List Nat} {ys : List β} {r0 : β → Rp} [∀ y, Mo (r0 y)] {j : Nat} {r : γ → Rp} [∀ y, Mo (r y)] (f : β → γ) (w : Wk wi (gName j) σ G ys (S1 r0 j)) (hz : ys.length ≤ 1000000)
    (hw : ∀ v, wipe ((wipe σ vs).set j (some v)) vs = wipe σ vs) (he : ∀ y v G', y ∈ ys → Ex G G' → r0 y G' v → Ev te ((wipe σ vs).set j (some v)) G' (r (f y))) :
    Ev (tLc wi (gName j) tYes te vs) σ G (rL r (ys.map f)) :=
  ev_lc f w hz (fun _ _ _ _ e h => s1_mono e h) (fun y G' σ2 ⟨v, _, e⟩ => by rw [e]; exact hw v) (fun y G' σ2 hy e ⟨v, h1, h2⟩ => by rw [h2]; exact he y v G' hy e h1)
/-- two names -/
theorem ev_lc2n {β γ δ : Type} {wi : TI} {g : TG} {vs : List Nat} {ys : List (β × γ)} {r0 : β → Rp} {r1 : γ → Rp} [∀ y, Mo (r0 y)] [∀ y, Mo (r1 y)] {j k : Nat} {r : δ → Rp} [∀ y, Mo (r y)] (f : β × γ → δ) (w : Wk wi g σ G ys (S2 r0 r1 j k)) (hz : ys.length ≤ 1000000)
    (hw : ∀ v w, wipe (((wipe σ vs).set j (some v)).set k (some w)) vs = wipe σ vs) (he : ∀ y v w G', y ∈ ys → Ex G G' → r0 y.1 G' v → r1 y.2 G' w → Ev te (((wipe σ vs).set j (some v)).set k (some w)) G' (r (f y))) :
    Ev (tLc wi g tYes te vs) σ G (rL r (ys.map f)) :=
  ev_lc f w hz (fun _ _ _ _ e h => s2_mono e h) (fun y G' σ2 ⟨v, w, _, _, e⟩ => by rw [e]; exact hw v w) (fun y G' σ2 hy e ⟨v, w, h1, h2, h3⟩ => by rw [h3]; exact he y v w G' hy e h1 h2)
theorem ev_lcF2n {β γ δ : Type} {wi : TI} {g : TG} {t : TT} {vs : List Nat} {ys : List (β × γ)} {r0 : β → Rp} {r1 : γ → Rp} [∀ y, Mo (r0 y)] [∀ y, Mo (r1 y)] {j k : Nat} {r : δ → Rp} [∀ y, Mo (r y)] (b : β × γ → Bool) (f : β × γ → δ) (w : Wk wi g σ G ys (S2 r0 r1 j k)) (hz : ys.length ≤ 1000000)
    (hw : ∀ v w, wipe (((wipe σ vs).set j (some v)).set k (some w)) vs = wipe σ vs) (ht : ∀ y v w G', y ∈ ys → Ex G G' → r0 y.1 G' v → r1 y.2 G' w → EvT t (((wipe σ vs).set j (some v)).set k (some w)) G' (b y))
    (he : ∀ y v w G', y ∈ ys → b y = true → Ex G G' → r0 y.1 G' v → r1 y.2 G' w → Ev te (((wipe σ vs).set j (some v)).set k (some w)) G' (r (f y))) :
    Ev (tLc wi g t te vs) σ G (rL r ((ys.filter b).map f)) :=
  ev_lcF b f w hz (fun _ _ _ _ e h => s2_mono e h) (fun y G' σ2 ⟨v, w, _, _, e⟩ => by rw [e]; exact hw v w) (fun y G' σ2 hy e ⟨v, w, h1, h2, h3⟩ => by rw [h3]; exact ht y v w G' hy e h1 h2) (fun y G' σ2 hy hb e ⟨v, w, h1, h2, h3⟩ => by rw [h3]; exact he y v w G' hy hb e h1 h2)
end

/-! ### statements -/
section
variable {σ : L2.St} {H H0 G G0 : Hp} {ta tb te : TE} {t : TT} {r : Rp} {D : Ends} {tu tw tz : TS} {K : PySem.W.Frag} {M : List Addr}
theorem s_set {i : Nat} (h : Ev te σ G r) (e : Ex G H) (k : ∀ v H1 G1, Step H G H1 G1 → r G1 v → D.nx (σ.set i (some v)) H1) : tAsg te (gName i) D σ H := h H e _ k
theorem q_set {i : Nat} (h : Ev te σ G r) (e : Ex G H) (k : ∀ v H1 G1, Step H G H1 G1 → r G1 v → tz D (σ.set i (some v)) H1) : tSeq (tAsg te (gName i)) tz D σ H := h H e _ k
theorem q_setN {i : Nat} (h : EvN te σ G r) (e : Ex G H) (k : ∀ p H1 G1, H p = none → Step H G H1 G1 → r G1 (.ref p) → tz D (σ.set i (some (.ref p))) H1) : tSeq (tAsg te (gName i)) tz D σ H := h H e _ k
theorem s_setN {i : Nat} (h : EvN te σ G r) (e : Ex G H) (k : ∀ p H1 G1, H p = none → Step H G H1 G1 → r G1 (.ref p) → D.nx (σ.set i (some (.ref p))) H1) : tAsg te (gName i) D σ H := h H e _ k
theorem s_retN (h : EvN te σ G r) (e : Ex G H) (k : ∀ p H1 G1, H p = none → Step H G H1 G1 → r G1 (.ref p) → D.rt (.ref p) H1) : tRet te D σ H := h H e _ k
theorem s_ret (h : Ev te σ G r) (e : Ex G H) (k : ∀ v H1 G1, Step H G H1 G1 → r G1 v → D.rt v H1) : tRet te D σ H := h H e _ k
theorem s_drop (h : Ev te σ G r) (e : Ex G H) (k : ∀ H1 G1, Step H G H1 G1 → D.nx σ H1) : tDrop te D σ H := h H e _ fun _ H1 G1 s _ => k H1 G1 s
theorem q_drop (h : Ev te σ G r) (e : Ex G H) (k : ∀ H1 G1, Step H G H1 G1 → tz D σ H1) : tSeq (tDrop te) tz D σ H := h H e _ fun _ H1 G1 s _ => k H1 G1 s
theorem s_if {b : Bool} (h : EvT t σ G b) (e : Ex G H) (h1 : b = true → ∀ H1 G1, Step H G H1 G1 → tu D σ H1) (h2 : b = false → ∀ H1 G1, Step H G H1 G1 → tw D σ H1) : tIfS t tu tw D σ H := h H e _ fun H1 G1 s => by
  cases b with
  | true => exact h1 rfl H1 G1 s
  | false => exact h2 rfl H1 G1 s
theorem q_if {b : Bool} (h : EvT t σ G b) (e : Ex G H) (h1 : b = true → ∀ H1 G1, Step H G H1 G1 → tu { D with nx := tz D } σ H1) (h2 : b = false → ∀ H1 G1, Step H G H1 G1 → tw { D with nx := tz D } σ H1) : tSeq (tIfS t tu tw) tz D σ H :=
  s_if (D := { D with nx := tz D }) h e h1 h2
/-- x = [] -/
theorem q_new {i : Nat} (k : ∀ p, H p = none → tz D (σ.set i (some (.ref p))) (upd H p (.lst []))) : tSeq (tAsg (tLst tNil) (gName i)) tz D σ H := ⟨Nat.zero_le _, k⟩
/-- xs.append(e) -/
theorem s_app {j : Nat} {p : Addr} {vs : List V} (hσ : σ[j]? = some (some (.ref p))) (hp : H p = some (.lst vs)) (hl : vs.length ≤ 1000000) (h : Ev te σ G r) (e : Ex G H) (k : ∀ v H1 G1, Step H G H1 G1 → r G1 v → D.nx σ (upd H1 p (.lst (vs ++ [v])))) :
    tDrop (tBM K "list" rAppend (tVar j) (tCons te tNil)) D σ H :=
  ⟨.ref p, hσ, Or.inl ⟨rfl, _, Or.inl (Or.inl hp)⟩, h H e _ fun v H1 G1 s1 h1 => ⟨p, vs, v, rfl, rfl, s1.l hp, Nat.lt_of_le_of_lt hl (by decide), k v H1 G1 s1 h1⟩⟩
theorem q_app {j : Nat} {p : Addr} {vs : List V} (hσ : σ[j]? = some (some (.ref p))) (hp : H p = some (.lst vs)) (hl : vs.length ≤ 1000000) (h : Ev te σ G r) (e : Ex G H) (k : ∀ v H1 G1, Step H G H1 G1 → r G1 v → tz D σ (upd H1 p (.lst (vs ++ [v])))) :
    tSeq (tDrop (tBM K "list" rAppend (tVar j) (tCons te tNil))) tz D σ H := s_app (D := { D with nx := tz D }) hσ hp hl h e k
/-- what a turn is to reach -/
def Nx (M : List Addr) (H0 G0 G : Hp) (P : L2.St → Hp → Hp → Prop) : L2.St → Hp → Prop := fun σ2 H2 => ∃ G2, StepM M H0 G0 H2 G2 ∧ Ex G G2 ∧ P σ2 H2 G2
/-- a for loop: from the def's entry (H0, G0); Pv by the turn, the slots, the heap, what stands still of it -/
theorem s_for {β : Type} {wi : TI} {g : TG} {ys : List β} {S : β → Hp → L2.St → L2.St → Prop} (st : StepM M H0 G0 H G) (w : Wk wi g σ G ys S) (Pv : Nat → L2.St → Hp → Hp → Prop)
    (h0 : ∀ H1 G1, Step H G H1 G1 → Pv 0 σ H1 G1)
    (hs : ∀ i y σ' σ2 Ha Hb G' G1, ys[i]? = some y → StepM M H0 G0 Hb G' → Ex G G1 → Ex G1 G' → Ex Ha Hb → S y G1 σ' σ2 → Pv i σ' Ha G' → tu { D with nx := Nx M H0 G0 G1 (Pv (i + 1)), ct := Nx M H0 G0 G1 (Pv (i + 1)), bk := D.nx } σ2 Hb)
    (hd : ∀ σ' H' G', StepM M H0 G0 H' G' → Ex G G' → Pv ys.length σ' H' G' → D.nx σ' H') : tFor wi g tu D σ H :=
  w H st.gh _ fun J H1 G1 Gd Y s1 wJ hGd turn => by
    refine for_it wJ (fun i σ' H' => ∃ G', StepM M H0 G0 H' G' ∧ Ex G1 G' ∧ Pv i σ' H' G') ⟨G1, st.then s1, Ex.refl _, h0 H1 G1 s1⟩ (fun i σ' H' _ ⟨G', s2, e, _⟩ => hGd H' (e.trans s2.gh)) ?_ ?_
    · rintro i x σ' Ha Hb hi ⟨G', s2, e, hP⟩ hY
      refine turn i ys[i] x σ' Ha Hb (List.getElem?_eq_getElem hi) (e.trans s2.gh) hY _ fun σ2 Hc ec hS => ?_
      exact hs i ys[i] σ' σ2 Ha Hc G' G1 (List.getElem?_eq_getElem hi) (s2.then (StepM.of_ex s2.gh ec)) s1.gg e ec hS hP
    · rintro σ' H' ⟨G', s2, e, hP⟩
      exact hd σ' H' G' s2 (s1.gg.trans e) hP
theorem q_for {β : Type} {wi : TI} {g : TG} {ys : List β} {S : β → Hp → L2.St → L2.St → Prop} (st : StepM M H0 G0 H G) (w : Wk wi g σ G ys S) (Pv : Nat → L2.St → Hp → Hp → Prop)
    (h0 : ∀ H1 G1, Step H G H1 G1 → Pv 0 σ H1 G1)
    (hs : ∀ i y σ' σ2 Ha Hb G' G1, ys[i]? = some y → StepM M H0 G0 Hb G' → Ex G G1 → Ex G1 G' → Ex Ha Hb → S y G1 σ' σ2 → Pv i σ' Ha G' → tu { D with nx := Nx M H0 G0 G1 (Pv (i + 1)), ct := Nx M H0 G0 G1 (Pv (i + 1)), bk := tz D } σ2 Hb)
    (hd : ∀ σ' H' G', StepM M H0 G0 H' G' → Ex G G' → Pv ys.length σ' H' G' → tz D σ' H') : tSeq (tFor wi g tu) tz D σ H :=
  s_for (D := { D with nx := tz D }) st w Pv h0 hs hd
/-- a for loop over a list, one name -/
theorem q_for1 {β : Type} {wi : TI} {j : Nat} {ys : List β} {r0 : β → Rp} [∀ y, Mo (r0 y)] (st : StepM M H0 G0 H G) (w : Wk wi (gName j) σ G ys (S1 r0 j)) (Pv : Nat → L2.St → Hp → Hp → Prop)
    (h0 : ∀ H1 G1, Step H G H1 G1 → Pv 0 σ H1 G1)
    (hs : ∀ i y σ' v Ha Hb G' G1, ys[i]? = some y → StepM M H0 G0 Hb G' → Ex G G1 → Ex G1 G' → Ex Ha Hb → r0 y G' v → Pv i σ' Ha G' → tu { D with nx := Nx M H0 G0 G1 (Pv (i + 1)), ct := Nx M H0 G0 G1 (Pv (i + 1)), bk := tz D } (σ'.set j (some v)) Hb)
    (hd : ∀ σ' H' G', StepM M H0 G0 H' G' → Ex G G' → Pv ys.length σ' H' G' → tz D σ' H') : tSeq (tFor wi (gName j) tu) tz D σ H :=
  q_for st w Pv h0 (fun i y σ' σ2 Ha Hb G' G1 hi s2 e1 e2 e3 ⟨v, h1, h2⟩ hP => by rw [h2]; exact hs i y σ' v Ha Hb G' G1 hi s2 e1 e2 e3 (Mo.mo e2 h1) hP) hd
theorem s_for1 {β : Type} {wi : TI} {j : Nat} {ys : List β} {r0 : β → Rp} [∀ y, Mo (r0 y)] (st : StepM M H0 G0 H G) (w : Wk wi (gName j) σ G ys (S1 r0 j)) (Pv : Nat → L2.St → Hp → Hp → Prop)
    (h0 : ∀ H1 G1, Step H G H1 G1 → Pv 0 σ H1 G1)
    (hs : ∀ i y σ' v Ha Hb G' G1, ys[i]? = some y → StepM M H0 G0 Hb G' → Ex G G1 → Ex G1 G' → Ex Ha Hb → r0 y G' v → Pv i σ' Ha G' → tu { D with nx := Nx M H0 G0 G1 (Pv (i + 1)), ct := Nx M H0 G0 G1 (Pv (i + 1)), bk := D.nx } (σ'.set j (some v)) Hb)
    (hd : ∀ σ' H' G', StepM M H0 G0 H' G' → Ex G G' → Pv ys.length σ' H' G' → D.nx σ' H') : tFor wi (gName j) tu D σ H :=
  s_for st w Pv h0 (fun i y σ' σ2 Ha Hb G' G1 hi s2 e1 e2 e3 ⟨v, h1, h2⟩ hP => by rw [h2]; exact hs i y σ' v Ha Hb G' G1 hi s2 e1 e2 e3 (Mo.mo e2 h1) hP) hd
/-- two names -/
theorem q_for2 {β γ : Type} {wi : TI} {g : TG} {j l : Nat} {ys : List (β × γ)} {r0 : β → Rp} {r1 : γ → Rp} [∀ y, Mo (r0 y)] [∀ y, Mo (r1 y)] (st : StepM M H0 G0 H G) (w : Wk wi g σ G ys (S2 r0 r1 j l)) (Pv : Nat → L2.St → Hp → Hp → Prop)
    (h0 : ∀ H1 G1, Step H G H1 G1 → Pv 0 σ H1 G1)
    (hs : ∀ i y σ' v u Ha Hb G' G1, ys[i]? = some y → StepM M H0 G0 Hb G' → Ex G G1 → Ex G1 G' → Ex Ha Hb → r0 y.1 G' v → r1 y.2 G' u → Pv i σ' Ha G' → tu { D with nx := Nx M H0 G0 G1 (Pv (i + 1)), ct := Nx M H0 G0 G1 (Pv (i + 1)), bk := tz D } ((σ'.set j (some v)).set l (some u)) Hb)
    (hd : ∀ σ' H' G', StepM M H0 G0 H' G' → Ex G G' → Pv ys.length σ' H' G' → tz D σ' H') : tSeq (tFor wi g tu) tz D σ H :=
  q_for st w Pv h0 (fun i y σ' σ2 Ha Hb G' G1 hi s2 e1 e2 e3 ⟨v, u, h1, h1', h2⟩ hP => by rw [h2]; exact hs i y σ' v u Ha Hb G' G1 hi s2 e1 e2 e3 (Mo.mo e2 h1) (Mo.mo e2 h1') hP) hd
theorem s_for2 {β γ : Type} {wi : TI} {g : TG} {j l : Nat} {ys : List (β × γ)} {r0 : β → Rp} {r1 : γ → Rp} [∀ y, Mo (r0 y)] [∀ y, Mo (r1 y)] (st : StepM M H0 G0 H G) (w : Wk wi g σ G ys (S2 r0 r1 j l)) (Pv : Nat → L2.St → Hp → Hp → Prop)
    (h0 : ∀ H1 G1, Step H G H1 G1 → Pv 0 σ H1 G1)
    (hs : ∀ i y σ' v u Ha Hb G' G1, ys[i]? = some y → StepM M H0 G0 Hb G' → Ex G G1 → Ex G1 G' → Ex Ha Hb → r0 y.1 G' v → r1 y.2 G' u → Pv i σ' Ha G' → tu { D with nx := Nx M H0 G0 G1 (Pv (i + 1)), ct := Nx M H0 G0 G1 (Pv (i + 1)), bk := D.nx } ((σ'.set j (some v)).set l (some u)) Hb)
    (hd : ∀ σ' H' G', StepM M H0 G0 H' G' → Ex G G' → Pv ys.length σ' H' G' → D.nx σ' H') : tFor wi g tu D σ H :=
  s_for st w Pv h0 (fun i y σ' σ2 Ha Hb G' G1 hi s2 e1 e2 e3 ⟨v, u, h1, h1', h2⟩ hP => by rw [h2]; exact hs i y σ' v u Ha Hb G' G1 hi s2 e1 e2 e3 (Mo.mo e2 h1) (Mo.mo e2 h1') hP) hd
end
end Vc
namespace Vc
open PySem PySem.Spec PyProof.Rows L2
/-- what the top has left: the defs and classes of the text, the built-in names free -/
structure Tx (K : PySem.W.Frag) (mg : Str → Option Value) : Prop where
  h : ∃ h : Heap, K.In h ∧ h.Ns mainGlobals mg
  c : He.SaysD fa fn K
  ex : ex K = true
/-- a def of the module, known by what it takes -/
structure Df (K : PySem.W.Frag) (mg : Str → Option Value) (x : Str) (st : Stmt) (ps : List Str) : Prop where
  F : ∃ fd, FunD K x x (defArgs st) (defBody st) (defScope st) [] [] (He.ga K x) fd ∧ Binds K fd ps []
  g : mg x = some (.ref (He.ga K x))
structure Dm (K : PySem.W.Frag) (C x : Str) (st : Stmt) (ps : List Str) : Prop where
  F : ∃ fd, FunD K x (C ++ "." ++ x) (defArgs st) (defBody st) (defScope st) [] [] (He.ma K (He.ga K C) x) fd ∧ Binds K fd ps []
section
variable {K : PySem.W.Frag} {mg : Str → Option Value}
theorem Tx.free (T : Tx K mg) {x : Str} (h : He.Fa.free x ∈ fa) : mg x = none := by
  obtain ⟨hp, X, G⟩ := T.h
  exact He.free_ok X G (T.c.facts h)
theorem Tx.glo (T : Tx K mg) {x : Str} (h : He.Fa.glo x ∈ fa) : mg x = some (.ref (He.ga K x)) := by
  obtain ⟨hp, X, G⟩ := T.h
  exact He.glo_ok X G (T.c.facts h)
theorem Tx.cls (T : Tx K mg) {x : Str} (h : He.Fa.cls x ∈ fa) : Cls K (He.ga K x) := He.cls_ok (T.c.facts h)
theorem Tx.mkr (T : Tx K mg) {x : Str} (h : He.Fa.mkr x ∈ fa) : Mk K (He.ga K x) (He.ma K (He.ga K x) "__init__") := He.mkr_ok (T.c.facts h)
theorem Tx.noat (T : Tx K mg) {x f : Str} (h : He.Fa.noat x f ∈ fa) : NoAttr K (He.ga K x) f := He.noat_ok (T.c.facts h)
theorem Tx.meth (T : Tx K mg) {x m : Str} (h : He.Fa.meth x m ∈ fa) : Meth K (He.ga K x) m (He.ma K (He.ga K x) m) := He.meth_ok (T.c.facts h)
theorem Tx.df (T : Tx K mg) {x : Str} {st : Stmt} {ps : List Str} {d : He.DefD} (hd : d ∈ fn) (hg : He.Fa.glo x ∈ fa) (hb : ∀ (kV doc pm : Value) (an : Option Addr) (cdv ct : Value) (us : List Value), us.length = ps.length → bindArgs (PySem.W.fnOf x x (defArgs st) (defBody st) (defScope st) .none kV doc pm an cdv ct) ⟨us, []⟩ = pure (ps.zip us))
    (e : d = ⟨(x, none), x, x, defArgs st, defBody st, defScope st, [], []⟩ := by rfl) : Df K mg x st ps := by
  obtain ⟨fd, F⟩ := T.c.defs hd
  subst e
  exact ⟨⟨fd, F, FunD.bindsN (ps := ps) F hb⟩, T.glo hg⟩
theorem Tx.dm (T : Tx K mg) {C x : Str} {st : Stmt} {ps : List Str} {d : He.DefD} (hd : d ∈ fn) (hb : ∀ (kV doc pm : Value) (an : Option Addr) (cdv ct : Value) (us : List Value), us.length = ps.length → bindArgs (PySem.W.fnOf x (C ++ "." ++ x) (defArgs st) (defBody st) (defScope st) .none kV doc pm an cdv ct) ⟨us, []⟩ = pure (ps.zip us))
    (e : d = ⟨(C, some x), x, C ++ "." ++ x, defArgs st, defBody st, defScope st, [], []⟩ := by rfl) : Dm K C x st ps := by
  obtain ⟨fd, F⟩ := T.c.defs hd
  subst e
  exact ⟨⟨fd, F, FunD.bindsN (ps := ps) F hb⟩⟩
theorem Tx.fall (T : Tx K mg) : mg "all" = none := T.free (x := "all") (List.mem_of_getElem? (i := 109) rfl)
theorem Tx.fany (T : Tx K mg) : mg "any" = none := T.free (x := "any") (List.mem_of_getElem? (i := 110) rfl)
theorem Tx.frange (T : Tx K mg) : mg "range" = none := T.free (x := "range") (List.mem_of_getElem? (i := 111) rfl)
theorem Tx.flen (T : Tx K mg) : mg "len" = none := T.free (x := "len") (List.mem_of_getElem? (i := 112) rfl)
theorem Tx.fzip (T : Tx K mg) : mg "zip" = none := T.free (x := "zip") (List.mem_of_getElem? (i := 113) rfl)
theorem Tx.fenumerate (T : Tx K mg) : mg "enumerate" = none := T.free (x := "enumerate") (List.mem_of_getElem? (i := 114) rfl)
theorem Tx.fstr (T : Tx K mg) : mg "str" = none := T.free (x := "str") (List.mem_of_getElem? (i := 115) rfl)
theorem Tx.fint (T : Tx K mg) : mg "int" = none := T.free (x := "int") (List.mem_of_getElem? (i := 116) rfl)
theorem Tx.flist (T : Tx K mg) : mg "list" = none := T.free (x := "list") (List.mem_of_getElem? (i := 117) rfl)
theorem Tx.fsorted (T : Tx K mg) : mg "sorted" = none := T.free (x := "sorted") (List.mem_of_getElem? (i := 118) rfl)
theorem Tx.fsum (T : Tx K mg) : mg "sum" = none := T.free (x := "sum") (List.mem_of_getElem? (i := 119) rfl)
theorem Tx.fmax (T : Tx K mg) : mg "max" = none := T.free (x := "max") (List.mem_of_getElem? (i := 120) rfl)
theorem Tx.fmin (T : Tx K mg) : mg "min" = none := T.free (x := "min") (List.mem_of_getElem? (i := 121) rfl)
theorem Tx.fabs (T : Tx K mg) : mg "abs" = none := T.free (x := "abs") (List.mem_of_getElem? (i := 122) rfl)
theorem Tx.gSTEPS (T : Tx K mg) : mg "STEPS" = some (.ref (He.ga K "STEPS")) := T.glo (x := "STEPS") (List.mem_of_getElem? (i := 108) rfl)
theorem Tx.k_read_number (T : Tx K mg) : Df K mg "read_number" s_read_number ["word"] := T.df (d := d_read_number) (List.mem_of_getElem? (i := 0) rfl) (List.mem_of_getElem? (i := 0) rfl) fun _ _ _ _ _ _ us hl => match us, hl with | [_], _ => rfl
theorem Tx.k_read_numbers (T : Tx K mg) : Df K mg "read_numbers" s_read_numbers ["words"] := T.df (d := d_read_numbers) (List.mem_of_getElem? (i := 1) rfl) (List.mem_of_getElem? (i := 1) rfl) fun _ _ _ _ _ _ us hl => match us, hl with | [_], _ => rfl
theorem Tx.k_write_line (T : Tx K mg) : Df K mg "write_line" s_write_line ["word", "numbers"] := T.df (d := d_write_line) (List.mem_of_getElem? (i := 2) rfl) (List.mem_of_getElem? (i := 2) rfl) fun _ _ _ _ _ _ us hl => match us, hl with | [_, _], _ => rfl
theorem Tx.k_Sheet_init (T : Tx K mg) : Dm K "Sheet" "__init__" s_Sheet_init ["self", "prime", "mixers", "family", "votes", "numbers"] := T.dm (d := d_Sheet_init) (List.mem_of_getElem? (i := 3) rfl) fun _ _ _ _ _ _ us hl => match us, hl with | [_, _, _, _, _, _], _ => rfl
theorem Tx.k_write_sheet (T : Tx K mg) : Df K mg "write_sheet" s_write_sheet ["sheet"] := T.df (d := d_write_sheet) (List.mem_of_getElem? (i := 4) rfl) (List.mem_of_getElem? (i := 3) rfl) fun _ _ _ _ _ _ us hl => match us, hl with | [_], _ => rfl
theorem Tx.k_is_next (T : Tx K mg) : Df K mg "is_next" s_is_next ["step", "word"] := T.df (d := d_is_next) (List.mem_of_getElem? (i := 5) rfl) (List.mem_of_getElem? (i := 4) rfl) fun _ _ _ _ _ _ us hl => match us, hl with | [_, _], _ => rfl
theorem Tx.k_is_shape (T : Tx K mg) : Df K mg "is_shape" s_is_shape ["word", "numbers"] := T.df (d := d_is_shape) (List.mem_of_getElem? (i := 6) rfl) (List.mem_of_getElem? (i := 5) rfl) fun _ _ _ _ _ _ us hl => match us, hl with | [_, _], _ => rfl
theorem Tx.k_read_lines (T : Tx K mg) : Df K mg "read_lines" s_read_lines ["lines"] := T.df (d := d_read_lines) (List.mem_of_getElem? (i := 7) rfl) (List.mem_of_getElem? (i := 6) rfl) fun _ _ _ _ _ _ us hl => match us, hl with | [_], _ => rfl
theorem Tx.k_read_sheet (T : Tx K mg) : Df K mg "read_sheet" s_read_sheet ["text"] := T.df (d := d_read_sheet) (List.mem_of_getElem? (i := 8) rfl) (List.mem_of_getElem? (i := 7) rfl) fun _ _ _ _ _ _ us hl => match us, hl with | [_], _ => rfl
theorem Tx.k_is_prime (T : Tx K mg) : Df K mg "is_prime" s_is_prime ["number"] := T.df (d := d_is_prime) (List.mem_of_getElem? (i := 9) rfl) (List.mem_of_getElem? (i := 8) rfl) fun _ _ _ _ _ _ us hl => match us, hl with | [_], _ => rfl
theorem Tx.k_checked_prime (T : Tx K mg) : Df K mg "checked_prime" s_checked_prime ["number"] := T.df (d := d_checked_prime) (List.mem_of_getElem? (i := 10) rfl) (List.mem_of_getElem? (i := 9) rfl) fun _ _ _ _ _ _ us hl => match us, hl with | [_], _ => rfl
theorem Tx.k_total (T : Tx K mg) : Df K mg "total" s_total ["prime", "numbers"] := T.df (d := d_total) (List.mem_of_getElem? (i := 11) rfl) (List.mem_of_getElem? (i := 10) rfl) fun _ _ _ _ _ _ us hl => match us, hl with | [_, _], _ => rfl
theorem Tx.k_split (T : Tx K mg) : Df K mg "split" s_split ["prime", "value", "coins"] := T.df (d := d_split) (List.mem_of_getElem? (i := 12) rfl) (List.mem_of_getElem? (i := 11) rfl) fun _ _ _ _ _ _ us hl => match us, hl with | [_, _, _], _ => rfl
theorem Tx.k_join (T : Tx K mg) : Df K mg "join" s_join ["prime", "pieces"] := T.df (d := d_join) (List.mem_of_getElem? (i := 13) rfl) (List.mem_of_getElem? (i := 12) rfl) fun _ _ _ _ _ _ us hl => match us, hl with | [_, _], _ => rfl
theorem Tx.k_fresh_table (T : Tx K mg) : Df K mg "fresh_table" s_fresh_table ["prime", "votes", "coins"] := T.df (d := d_fresh_table) (List.mem_of_getElem? (i := 14) rfl) (List.mem_of_getElem? (i := 13) rfl) fun _ _ _ _ _ _ us hl => match us, hl with | [_, _, _], _ => rfl
theorem Tx.k_values_of (T : Tx K mg) : Df K mg "values_of" s_values_of ["prime", "table"] := T.df (d := d_values_of) (List.mem_of_getElem? (i := 15) rfl) (List.mem_of_getElem? (i := 14) rfl) fun _ _ _ _ _ _ us hl => match us, hl with | [_, _], _ => rfl
theorem Tx.k_is_order (T : Tx K mg) : Df K mg "is_order" s_is_order ["order"] := T.df (d := d_is_order) (List.mem_of_getElem? (i := 16) rfl) (List.mem_of_getElem? (i := 15) rfl) fun _ _ _ _ _ _ us hl => match us, hl with | [_], _ => rfl
theorem Tx.k_checked_order (T : Tx K mg) : Df K mg "checked_order" s_checked_order ["order"] := T.df (d := d_checked_order) (List.mem_of_getElem? (i := 17) rfl) (List.mem_of_getElem? (i := 16) rfl) fun _ _ _ _ _ _ us hl => match us, hl with | [_], _ => rfl
theorem Tx.k_moved (T : Tx K mg) : Df K mg "moved" s_moved ["rows", "order"] := T.df (d := d_moved) (List.mem_of_getElem? (i := 18) rfl) (List.mem_of_getElem? (i := 17) rfl) fun _ _ _ _ _ _ us hl => match us, hl with | [_, _], _ => rfl
theorem Tx.k_factorial (T : Tx K mg) : Df K mg "factorial" s_factorial ["many"] := T.df (d := d_factorial) (List.mem_of_getElem? (i := 19) rfl) (List.mem_of_getElem? (i := 18) rfl) fun _ _ _ _ _ _ us hl => match us, hl with | [_], _ => rfl
theorem Tx.k_order_of_number (T : Tx K mg) : Df K mg "order_of_number" s_order_of_number ["many", "number"] := T.df (d := d_order_of_number) (List.mem_of_getElem? (i := 20) rfl) (List.mem_of_getElem? (i := 19) rfl) fun _ _ _ _ _ _ us hl => match us, hl with | [_, _], _ => rfl
theorem Tx.k_order_number (T : Tx K mg) : Df K mg "order_number" s_order_number ["order"] := T.df (d := d_order_number) (List.mem_of_getElem? (i := 21) rfl) (List.mem_of_getElem? (i := 20) rfl) fun _ _ _ _ _ _ us hl => match us, hl with | [_], _ => rfl
theorem Tx.k_StageRecord_init (T : Tx K mg) : Dm K "StageRecord" "__init__" s_StageRecord_init ["self", "holders", "gathered", "held", "order"] := T.dm (d := d_StageRecord_init) (List.mem_of_getElem? (i := 22) rfl) fun _ _ _ _ _ _ us hl => match us, hl with | [_, _, _, _, _], _ => rfl
theorem Tx.k_outsiders (T : Tx K mg) : Df K mg "outsiders" s_outsiders ["mixers", "holders"] := T.df (d := d_outsiders) (List.mem_of_getElem? (i := 23) rfl) (List.mem_of_getElem? (i := 21) rfl) fun _ _ _ _ _ _ us hl => match us, hl with | [_, _], _ => rfl
theorem Tx.k_gathered_pieces (T : Tx K mg) : Df K mg "gathered_pieces" s_gathered_pieces ["prime", "table", "others", "coins"] := T.df (d := d_gathered_pieces) (List.mem_of_getElem? (i := 24) rfl) (List.mem_of_getElem? (i := 22) rfl) fun _ _ _ _ _ _ us hl => match us, hl with | [_, _, _, _], _ => rfl
theorem Tx.k_held_shares (T : Tx K mg) : Df K mg "held_shares" s_held_shares ["prime", "table", "holders", "pieces"] := T.df (d := d_held_shares) (List.mem_of_getElem? (i := 25) rfl) (List.mem_of_getElem? (i := 23) rfl) fun _ _ _ _ _ _ us hl => match us, hl with | [_, _, _, _], _ => rfl
theorem Tx.k_spread_pieces (T : Tx K mg) : Df K mg "spread_pieces" s_spread_pieces ["prime", "ordered", "many", "coins"] := T.df (d := d_spread_pieces) (List.mem_of_getElem? (i := 26) rfl) (List.mem_of_getElem? (i := 24) rfl) fun _ _ _ _ _ _ us hl => match us, hl with | [_, _, _, _], _ => rfl
theorem Tx.k_new_table (T : Tx K mg) : Df K mg "new_table" s_new_table ["prime", "pieces", "mixers", "rows"] := T.df (d := d_new_table) (List.mem_of_getElem? (i := 27) rfl) (List.mem_of_getElem? (i := 25) rfl) fun _ _ _ _ _ _ us hl => match us, hl with | [_, _, _, _], _ => rfl
theorem Tx.k_run_stage (T : Tx K mg) : Df K mg "run_stage" s_run_stage ["prime", "mixers", "table", "holders", "coins"] := T.df (d := d_run_stage) (List.mem_of_getElem? (i := 28) rfl) (List.mem_of_getElem? (i := 26) rfl) fun _ _ _ _ _ _ us hl => match us, hl with | [_, _, _, _, _], _ => rfl
theorem Tx.k_gather_faults (T : Tx K mg) : Df K mg "gather_faults" s_gather_faults ["prime", "mixers", "table", "stage"] := T.df (d := d_gather_faults) (List.mem_of_getElem? (i := 29) rfl) (List.mem_of_getElem? (i := 27) rfl) fun _ _ _ _ _ _ us hl => match us, hl with | [_, _, _, _], _ => rfl
theorem Tx.k_hold_faults (T : Tx K mg) : Df K mg "hold_faults" s_hold_faults ["prime", "table", "stage"] := T.df (d := d_hold_faults) (List.mem_of_getElem? (i := 30) rfl) (List.mem_of_getElem? (i := 28) rfl) fun _ _ _ _ _ _ us hl => match us, hl with | [_, _, _], _ => rfl
theorem Tx.k_order_faults (T : Tx K mg) : Df K mg "order_faults" s_order_faults ["stage"] := T.df (d := d_order_faults) (List.mem_of_getElem? (i := 31) rfl) (List.mem_of_getElem? (i := 29) rfl) fun _ _ _ _ _ _ us hl => match us, hl with | [_], _ => rfl
theorem Tx.k_spread_faults (T : Tx K mg) : Df K mg "spread_faults" s_spread_faults ["prime", "stage"] := T.df (d := d_spread_faults) (List.mem_of_getElem? (i := 32) rfl) (List.mem_of_getElem? (i := 30) rfl) fun _ _ _ _ _ _ us hl => match us, hl with | [_, _], _ => rfl
theorem Tx.k_add_faults (T : Tx K mg) : Df K mg "add_faults" s_add_faults ["prime", "mixers", "stage"] := T.df (d := d_add_faults) (List.mem_of_getElem? (i := 33) rfl) (List.mem_of_getElem? (i := 31) rfl) fun _ _ _ _ _ _ us hl => match us, hl with | [_, _, _], _ => rfl
theorem Tx.k_stage_faults (T : Tx K mg) : Df K mg "stage_faults" s_stage_faults ["prime", "mixers", "table", "stage"] := T.df (d := d_stage_faults) (List.mem_of_getElem? (i := 34) rfl) (List.mem_of_getElem? (i := 32) rfl) fun _ _ _ _ _ _ us hl => match us, hl with | [_, _, _, _], _ => rfl
theorem Tx.k_faults (T : Tx K mg) : Df K mg "faults" s_faults ["record"] := T.df (d := d_faults) (List.mem_of_getElem? (i := 35) rfl) (List.mem_of_getElem? (i := 33) rfl) fun _ _ _ _ _ _ us hl => match us, hl with | [_], _ => rfl
theorem Tx.k_is_lot (T : Tx K mg) : Df K mg "is_lot" s_is_lot ["lot", "mixers"] := T.df (d := d_is_lot) (List.mem_of_getElem? (i := 36) rfl) (List.mem_of_getElem? (i := 34) rfl) fun _ _ _ _ _ _ us hl => match us, hl with | [_, _], _ => rfl
theorem Tx.k_holders (T : Tx K mg) : Df K mg "holders" s_holders ["lot", "mixers"] := T.df (d := d_holders) (List.mem_of_getElem? (i := 37) rfl) (List.mem_of_getElem? (i := 35) rfl) fun _ _ _ _ _ _ us hl => match us, hl with | [_, _], _ => rfl
theorem Tx.k_cover (T : Tx K mg) : Df K mg "cover" s_cover ["one", "other", "mixers"] := T.df (d := d_cover) (List.mem_of_getElem? (i := 38) rfl) (List.mem_of_getElem? (i := 36) rfl) fun _ _ _ _ _ _ us hl => match us, hl with | [_, _, _], _ => rfl
theorem Tx.k_covering_pair (T : Tx K mg) : Df K mg "covering_pair" s_covering_pair ["family", "mixers"] := T.df (d := d_covering_pair) (List.mem_of_getElem? (i := 39) rfl) (List.mem_of_getElem? (i := 37) rfl) fun _ _ _ _ _ _ us hl => match us, hl with | [_, _], _ => rfl
theorem Tx.k_checked_family (T : Tx K mg) : Df K mg "checked_family" s_checked_family ["family", "mixers"] := T.df (d := d_checked_family) (List.mem_of_getElem? (i := 40) rfl) (List.mem_of_getElem? (i := 38) rfl) fun _ _ _ _ _ _ us hl => match us, hl with | [_, _], _ => rfl
theorem Tx.k_StageCoins_init (T : Tx K mg) : Dm K "StageCoins" "__init__" s_StageCoins_init ["self", "gather", "order", "spread"] := T.dm (d := d_StageCoins_init) (List.mem_of_getElem? (i := 41) rfl) fun _ _ _ _ _ _ us hl => match us, hl with | [_, _, _, _], _ => rfl
theorem Tx.k_RunCoins_init (T : Tx K mg) : Dm K "RunCoins" "__init__" s_RunCoins_init ["self", "votes", "stages"] := T.dm (d := d_RunCoins_init) (List.mem_of_getElem? (i := 42) rfl) fun _ _ _ _ _ _ us hl => match us, hl with | [_, _, _], _ => rfl
theorem Tx.k_stage_size (T : Tx K mg) : Df K mg "stage_size" s_stage_size ["mixers", "lot", "rows"] := T.df (d := d_stage_size) (List.mem_of_getElem? (i := 43) rfl) (List.mem_of_getElem? (i := 39) rfl) fun _ _ _ _ _ _ us hl => match us, hl with | [_, _, _], _ => rfl
theorem Tx.k_size (T : Tx K mg) : Df K mg "size" s_size ["mixers", "family", "rows"] := T.df (d := d_size) (List.mem_of_getElem? (i := 44) rfl) (List.mem_of_getElem? (i := 40) rfl) fun _ _ _ _ _ _ us hl => match us, hl with | [_, _, _], _ => rfl
theorem Tx.k_Source_init (T : Tx K mg) : Dm K "Source" "__init__" s_Source_init ["self", "numbers", "prime"] := T.dm (d := d_Source_init) (List.mem_of_getElem? (i := 45) rfl) fun _ _ _ _ _ _ us hl => match us, hl with | [_, _, _], _ => rfl
theorem Tx.k_Source_number (T : Tx K mg) : Dm K "Source" "number" s_Source_number ["self"] := T.dm (d := d_Source_number) (List.mem_of_getElem? (i := 46) rfl) fun _ _ _ _ _ _ us hl => match us, hl with | [_], _ => rfl
theorem Tx.k_Source_block (T : Tx K mg) : Dm K "Source" "block" s_Source_block ["self", "rows", "wide"] := T.dm (d := d_Source_block) (List.mem_of_getElem? (i := 47) rfl) fun _ _ _ _ _ _ us hl => match us, hl with | [_, _, _], _ => rfl
theorem Tx.k_read_stage (T : Tx K mg) : Df K mg "read_stage" s_read_stage ["source", "mixers", "lot", "rows"] := T.df (d := d_read_stage) (List.mem_of_getElem? (i := 48) rfl) (List.mem_of_getElem? (i := 41) rfl) fun _ _ _ _ _ _ us hl => match us, hl with | [_, _, _, _], _ => rfl
theorem Tx.k_coins_of (T : Tx K mg) : (∃ fd, FunD K "coins_of" "coins_of" (defArgs s_coins_of) (defBody s_coins_of) (defScope s_coins_of) [] [] (He.ga K "coins_of") fd) ∧ mg "coins_of" = some (.ref (He.ga K "coins_of")) := ⟨T.c.defs (d := d_coins_of) (List.mem_of_getElem? (i := 49) rfl), T.glo (List.mem_of_getElem? (i := 42) rfl)⟩
theorem Tx.k_flat (T : Tx K mg) : Df K mg "flat" s_flat ["coins"] := T.df (d := d_flat) (List.mem_of_getElem? (i := 50) rfl) (List.mem_of_getElem? (i := 43) rfl) fun _ _ _ _ _ _ us hl => match us, hl with | [_], _ => rfl
theorem Tx.k_RunRecord_init (T : Tx K mg) : Dm K "RunRecord" "__init__" s_RunRecord_init ["self", "prime", "mixers", "family", "table"] := T.dm (d := d_RunRecord_init) (List.mem_of_getElem? (i := 51) rfl) fun _ _ _ _ _ _ us hl => match us, hl with | [_, _, _, _, _], _ => rfl
theorem Tx.k_last_table (T : Tx K mg) : Df K mg "last_table" s_last_table ["record"] := T.df (d := d_last_table) (List.mem_of_getElem? (i := 52) rfl) (List.mem_of_getElem? (i := 44) rfl) fun _ _ _ _ _ _ us hl => match us, hl with | [_], _ => rfl
theorem Tx.k_check_votes (T : Tx K mg) : Df K mg "check_votes" s_check_votes ["prime", "votes"] := T.df (d := d_check_votes) (List.mem_of_getElem? (i := 53) rfl) (List.mem_of_getElem? (i := 45) rfl) fun _ _ _ _ _ _ us hl => match us, hl with | [_, _], _ => rfl
theorem Tx.k_run (T : Tx K mg) : Df K mg "run" s_run ["prime", "mixers", "family", "votes", "coins"] := T.df (d := d_run) (List.mem_of_getElem? (i := 54) rfl) (List.mem_of_getElem? (i := 46) rfl) fun _ _ _ _ _ _ us hl => match us, hl with | [_, _, _, _, _], _ => rfl
theorem Tx.k_counts (T : Tx K mg) : Df K mg "counts" s_counts ["values", "options"] := T.df (d := d_counts) (List.mem_of_getElem? (i := 55) rfl) (List.mem_of_getElem? (i := 47) rfl) fun _ _ _ _ _ _ us hl => match us, hl with | [_, _], _ => rfl
theorem Tx.k_leaders (T : Tx K mg) : Df K mg "leaders" s_leaders ["numbers"] := T.df (d := d_leaders) (List.mem_of_getElem? (i := 56) rfl) (List.mem_of_getElem? (i := 48) rfl) fun _ _ _ _ _ _ us hl => match us, hl with | [_], _ => rfl
theorem Tx.k_law_cell (T : Tx K mg) : Df K mg "_law_cell" s_law_cell ["_law_script", "_law_k"] := T.df (d := d_law_cell) (List.mem_of_getElem? (i := 57) rfl) (List.mem_of_getElem? (i := 49) rfl) fun _ _ _ _ _ _ us hl => match us, hl with | [_, _], _ => rfl
theorem Tx.k_law_digits (T : Tx K mg) : Df K mg "_law_digits" s_law_digits ["_law_script", "_law_first", "_law_last"] := T.df (d := d_law_digits) (List.mem_of_getElem? (i := 58) rfl) (List.mem_of_getElem? (i := 50) rfl) fun _ _ _ _ _ _ us hl => match us, hl with | [_, _, _], _ => rfl
theorem Tx.k_law_draw (T : Tx K mg) : Df K mg "_law_draw" s_law_draw ["_law_box", "_law_many"] := T.df (d := d_law_draw) (List.mem_of_getElem? (i := 59) rfl) (List.mem_of_getElem? (i := 51) rfl) fun _ _ _ _ _ _ us hl => match us, hl with | [_, _], _ => rfl
theorem Tx.k_law_prime (T : Tx K mg) : Df K mg "_law_prime" s_law_prime ["_law_box"] := T.df (d := d_law_prime) (List.mem_of_getElem? (i := 60) rfl) (List.mem_of_getElem? (i := 52) rfl) fun _ _ _ _ _ _ us hl => match us, hl with | [_], _ => rfl
theorem Tx.k_law_numbers (T : Tx K mg) : Df K mg "_law_numbers" s_law_numbers ["_law_box", "_law_many"] := T.df (d := d_law_numbers) (List.mem_of_getElem? (i := 61) rfl) (List.mem_of_getElem? (i := 53) rfl) fun _ _ _ _ _ _ us hl => match us, hl with | [_, _], _ => rfl
theorem Tx.k_law_covered (T : Tx K mg) : Df K mg "_law_covered" s_law_covered ["_law_one", "_law_other", "_law_mixers"] := T.df (d := d_law_covered) (List.mem_of_getElem? (i := 62) rfl) (List.mem_of_getElem? (i := 54) rfl) fun _ _ _ _ _ _ us hl => match us, hl with | [_, _, _], _ => rfl
theorem Tx.k_law_fits (T : Tx K mg) : Df K mg "_law_fits" s_law_fits ["_law_family_here", "_law_lot", "_law_mixers"] := T.df (d := d_law_fits) (List.mem_of_getElem? (i := 63) rfl) (List.mem_of_getElem? (i := 55) rfl) fun _ _ _ _ _ _ us hl => match us, hl with | [_, _, _], _ => rfl
theorem Tx.k_law_family (T : Tx K mg) : Df K mg "_law_family" s_law_family ["_law_box", "_law_mixers"] := T.df (d := d_law_family) (List.mem_of_getElem? (i := 64) rfl) (List.mem_of_getElem? (i := 56) rfl) fun _ _ _ _ _ _ us hl => match us, hl with | [_, _], _ => rfl
theorem Tx.k_law_out (T : Tx K mg) : Df K mg "_law_out" s_law_out ["_law_lot", "_law_mixers"] := T.df (d := d_law_out) (List.mem_of_getElem? (i := 65) rfl) (List.mem_of_getElem? (i := 57) rfl) fun _ _ _ _ _ _ us hl => match us, hl with | [_, _], _ => rfl
theorem Tx.k_law_stage_size (T : Tx K mg) : Df K mg "_law_stage_size" s_law_stage_size ["_law_mixers", "_law_lot", "_law_rows"] := T.df (d := d_law_stage_size) (List.mem_of_getElem? (i := 66) rfl) (List.mem_of_getElem? (i := 58) rfl) fun _ _ _ _ _ _ us hl => match us, hl with | [_, _, _], _ => rfl
theorem Tx.k_law_size (T : Tx K mg) : Df K mg "_law_size" s_law_size ["_law_mixers", "_law_family_here", "_law_rows"] := T.df (d := d_law_size) (List.mem_of_getElem? (i := 67) rfl) (List.mem_of_getElem? (i := 59) rfl) fun _ _ _ _ _ _ us hl => match us, hl with | [_, _, _], _ => rfl
theorem Tx.k_law_world (T : Tx K mg) : Df K mg "_law_world" s_law_world ["_law_box"] := T.df (d := d_law_world) (List.mem_of_getElem? (i := 68) rfl) (List.mem_of_getElem? (i := 60) rfl) fun _ _ _ _ _ _ us hl => match us, hl with | [_], _ => rfl
theorem Tx.k_law (T : Tx K mg) : Df K mg "law" s_law ["_law_script"] := T.df (d := d_law) (List.mem_of_getElem? (i := 69) rfl) (List.mem_of_getElem? (i := 61) rfl) fun _ _ _ _ _ _ us hl => match us, hl with | [_], _ => rfl
theorem Tx.g_Sheet (T : Tx K mg) : mg "Sheet" = some (.ref (He.ga K "Sheet")) := T.glo (List.mem_of_getElem? (i := 62) rfl)
theorem Tx.c_Sheet (T : Tx K mg) : Cls K (He.ga K "Sheet") := T.cls (List.mem_of_getElem? (i := 63) rfl)
theorem Tx.m_Sheet (T : Tx K mg) : Mk K (He.ga K "Sheet") (He.ma K (He.ga K "Sheet") "__init__") := T.mkr (List.mem_of_getElem? (i := 64) rfl)
theorem Tx.n_Sheet_prime (T : Tx K mg) : NoAttr K (He.ga K "Sheet") "prime" := T.noat (List.mem_of_getElem? (i := 65) rfl)
theorem Tx.n_Sheet_mixers (T : Tx K mg) : NoAttr K (He.ga K "Sheet") "mixers" := T.noat (List.mem_of_getElem? (i := 66) rfl)
theorem Tx.n_Sheet_family (T : Tx K mg) : NoAttr K (He.ga K "Sheet") "family" := T.noat (List.mem_of_getElem? (i := 67) rfl)
theorem Tx.n_Sheet_votes (T : Tx K mg) : NoAttr K (He.ga K "Sheet") "votes" := T.noat (List.mem_of_getElem? (i := 68) rfl)
theorem Tx.n_Sheet_numbers (T : Tx K mg) : NoAttr K (He.ga K "Sheet") "numbers" := T.noat (List.mem_of_getElem? (i := 69) rfl)
theorem Tx.g_StageRecord (T : Tx K mg) : mg "StageRecord" = some (.ref (He.ga K "StageRecord")) := T.glo (List.mem_of_getElem? (i := 70) rfl)
theorem Tx.c_StageRecord (T : Tx K mg) : Cls K (He.ga K "StageRecord") := T.cls (List.mem_of_getElem? (i := 71) rfl)
theorem Tx.m_StageRecord (T : Tx K mg) : Mk K (He.ga K "StageRecord") (He.ma K (He.ga K "StageRecord") "__init__") := T.mkr (List.mem_of_getElem? (i := 72) rfl)
theorem Tx.n_StageRecord_holders (T : Tx K mg) : NoAttr K (He.ga K "StageRecord") "holders" := T.noat (List.mem_of_getElem? (i := 73) rfl)
theorem Tx.n_StageRecord_gathered (T : Tx K mg) : NoAttr K (He.ga K "StageRecord") "gathered" := T.noat (List.mem_of_getElem? (i := 74) rfl)
theorem Tx.n_StageRecord_held (T : Tx K mg) : NoAttr K (He.ga K "StageRecord") "held" := T.noat (List.mem_of_getElem? (i := 75) rfl)
theorem Tx.n_StageRecord_order (T : Tx K mg) : NoAttr K (He.ga K "StageRecord") "order" := T.noat (List.mem_of_getElem? (i := 76) rfl)
theorem Tx.n_StageRecord_ordered (T : Tx K mg) : NoAttr K (He.ga K "StageRecord") "ordered" := T.noat (List.mem_of_getElem? (i := 77) rfl)
theorem Tx.n_StageRecord_spread (T : Tx K mg) : NoAttr K (He.ga K "StageRecord") "spread" := T.noat (List.mem_of_getElem? (i := 78) rfl)
theorem Tx.n_StageRecord_table (T : Tx K mg) : NoAttr K (He.ga K "StageRecord") "table" := T.noat (List.mem_of_getElem? (i := 79) rfl)
theorem Tx.g_StageCoins (T : Tx K mg) : mg "StageCoins" = some (.ref (He.ga K "StageCoins")) := T.glo (List.mem_of_getElem? (i := 80) rfl)
theorem Tx.c_StageCoins (T : Tx K mg) : Cls K (He.ga K "StageCoins") := T.cls (List.mem_of_getElem? (i := 81) rfl)
theorem Tx.m_StageCoins (T : Tx K mg) : Mk K (He.ga K "StageCoins") (He.ma K (He.ga K "StageCoins") "__init__") := T.mkr (List.mem_of_getElem? (i := 82) rfl)
theorem Tx.n_StageCoins_gather (T : Tx K mg) : NoAttr K (He.ga K "StageCoins") "gather" := T.noat (List.mem_of_getElem? (i := 83) rfl)
theorem Tx.n_StageCoins_order (T : Tx K mg) : NoAttr K (He.ga K "StageCoins") "order" := T.noat (List.mem_of_getElem? (i := 84) rfl)
theorem Tx.n_StageCoins_spread (T : Tx K mg) : NoAttr K (He.ga K "StageCoins") "spread" := T.noat (List.mem_of_getElem? (i := 85) rfl)
theorem Tx.g_RunCoins (T : Tx K mg) : mg "RunCoins" = some (.ref (He.ga K "RunCoins")) := T.glo (List.mem_of_getElem? (i := 86) rfl)
theorem Tx.c_RunCoins (T : Tx K mg) : Cls K (He.ga K "RunCoins") := T.cls (List.mem_of_getElem? (i := 87) rfl)
theorem Tx.m_RunCoins (T : Tx K mg) : Mk K (He.ga K "RunCoins") (He.ma K (He.ga K "RunCoins") "__init__") := T.mkr (List.mem_of_getElem? (i := 88) rfl)
theorem Tx.n_RunCoins_votes (T : Tx K mg) : NoAttr K (He.ga K "RunCoins") "votes" := T.noat (List.mem_of_getElem? (i := 89) rfl)
theorem Tx.n_RunCoins_stages (T : Tx K mg) : NoAttr K (He.ga K "RunCoins") "stages" := T.noat (List.mem_of_getElem? (i := 90) rfl)
theorem Tx.g_Source (T : Tx K mg) : mg "Source" = some (.ref (He.ga K "Source")) := T.glo (List.mem_of_getElem? (i := 91) rfl)
theorem Tx.c_Source (T : Tx K mg) : Cls K (He.ga K "Source") := T.cls (List.mem_of_getElem? (i := 92) rfl)
theorem Tx.m_Source (T : Tx K mg) : Mk K (He.ga K "Source") (He.ma K (He.ga K "Source") "__init__") := T.mkr (List.mem_of_getElem? (i := 93) rfl)
theorem Tx.n_Source_numbers (T : Tx K mg) : NoAttr K (He.ga K "Source") "numbers" := T.noat (List.mem_of_getElem? (i := 94) rfl)
theorem Tx.n_Source_prime (T : Tx K mg) : NoAttr K (He.ga K "Source") "prime" := T.noat (List.mem_of_getElem? (i := 95) rfl)
theorem Tx.n_Source_place (T : Tx K mg) : NoAttr K (He.ga K "Source") "place" := T.noat (List.mem_of_getElem? (i := 96) rfl)
theorem Tx.g_RunRecord (T : Tx K mg) : mg "RunRecord" = some (.ref (He.ga K "RunRecord")) := T.glo (List.mem_of_getElem? (i := 97) rfl)
theorem Tx.c_RunRecord (T : Tx K mg) : Cls K (He.ga K "RunRecord") := T.cls (List.mem_of_getElem? (i := 98) rfl)
theorem Tx.m_RunRecord (T : Tx K mg) : Mk K (He.ga K "RunRecord") (He.ma K (He.ga K "RunRecord") "__init__") := T.mkr (List.mem_of_getElem? (i := 99) rfl)
theorem Tx.n_RunRecord_prime (T : Tx K mg) : NoAttr K (He.ga K "RunRecord") "prime" := T.noat (List.mem_of_getElem? (i := 100) rfl)
theorem Tx.n_RunRecord_mixers (T : Tx K mg) : NoAttr K (He.ga K "RunRecord") "mixers" := T.noat (List.mem_of_getElem? (i := 101) rfl)
theorem Tx.n_RunRecord_family (T : Tx K mg) : NoAttr K (He.ga K "RunRecord") "family" := T.noat (List.mem_of_getElem? (i := 102) rfl)
theorem Tx.n_RunRecord_table (T : Tx K mg) : NoAttr K (He.ga K "RunRecord") "table" := T.noat (List.mem_of_getElem? (i := 103) rfl)
theorem Tx.n_RunRecord_stages (T : Tx K mg) : NoAttr K (He.ga K "RunRecord") "stages" := T.noat (List.mem_of_getElem? (i := 104) rfl)
theorem Tx.n_RunRecord_opened (T : Tx K mg) : NoAttr K (He.ga K "RunRecord") "opened" := T.noat (List.mem_of_getElem? (i := 105) rfl)
theorem Tx.me_number (T : Tx K mg) : Meth K (He.ga K "Source") "number" (He.ma K (He.ga K "Source") "number") := T.meth (List.mem_of_getElem? (i := 106) rfl)
theorem Tx.me_block (T : Tx K mg) : Meth K (He.ga K "Source") "block" (He.ma K (He.ga K "Source") "block") := T.meth (List.mem_of_getElem? (i := 107) rfl)
end
/-- a def keeps its promise, and may be called by its name -/
structure Cal (P : Program) (w : World) (K : PySem.W.Frag) (mg : Str → Option Value) (base : Heap) (x : Str) (k : Nat) (ps : List Str) (sp : Sp) : Prop where
  ex : ∃ f fd, FnOk P w K mg base CX0 k f fd ps sp ∧ mg x = some (.ref f) ∧ PySem.W.keepIn K (.ref f) = true ∧ Binds K fd ps []
section
variable {P : Program} {w : World} {K : PySem.W.Frag} {mg : Str → Option Value} {base : Heap}
theorem Df.cal {x : Str} {st : Stmt} {N ps : List Str} {k : Nat} {sp : Sp} (d : Df K mg x st ps) (S : FnScope N ps (defScope st)) (len : ∀ vs H Q E, sp vs H Q E → vs.length = ps.length)
    (body : ∀ (f : Addr) (cdv : Value) (A : Around) (outer : List Env) (s : Shared) (H : Hp) (vs : List V) (Q : VK) (E : XK), Room k (A.deeper (envOfC x (defScope st) s.heap.objs.size f cdv)) → sp vs H Q E →
      ∃ t, PSs (cxOf CX0 P w K mg base N x (defScope st) f cdv A outer s H E).nox (defBody st) t ∧ t { nx := fun _ H' => Q .non H', rt := Q } (start N vs) H) : Cal P w K mg base x (k + 1) ps sp := by
  obtain ⟨⟨fd, F, b⟩, g⟩ := d
  refine ⟨_, fd, F.ok S len (fun cdv A outer s H vs Q E hr h => ?_), g, F.kp, b⟩
  obtain ⟨t, p, q⟩ := body _ cdv A outer s H vs Q E hr h
  exact ⟨t, p.nox, q⟩
theorem pe_cal {X : Cx} {x : Str} {j k : Nat} {ps : List Str} {sp : Sp} {p pos : Pos} {e : Expr} {es : List Expr} {t : TA} (C : Cal X.prog X.w X.K X.mg X.base x k ps sp) (hr : Room j X.A) (hg : Gl X x) (ha : PA X (e :: es) t) (hk : k ≤ j := by decide)
    (hdb : (x == ("__debug__" : Str)) = false := by decide) (he : starEach (e :: es) X.env = (false, eval e X.env) :: starEach es X.env := by rfl) (hpl : (backTo pos (starEach es X.env)).any (·.1) = false := by rfl) :
    PE X (.Call (.Name x p) (e :: es) [] pos) (tCall sp [] E0 t) := by
  obtain ⟨f, fd, F, g, kp, b⟩ := C.ex
  exact pe_call F (hr.mono hk) hg g kp b .nil pass0 ha hdb he hpl
theorem spOf_len {rs : List Rp} {r : Rp} {vs : List V} {H : Hp} {Q : VK} {E : XK} (h : spOf rs r vs H Q E) : vs.length = rs.length := by
  obtain ⟨G, _, h, _⟩ := h
  exact paired_len h
end
end Vc
/-! More rules: classes and methods, fields, while, equality of data, membership. -/
namespace Vc
open PySem PySem.Spec PyProof.Rows L2 Vm
theorem Room.eqD {k : Nat} {A : Around} (hr : Room k A) : A.units + 64 < cLine := by have := hr.un; omega
/-! ### fields -/
theorem putF_app {f : Str} {v : V} : ∀ {fs : List (Str × V)}, f ∉ fs.map (·.1) → putF f v fs = fs ++ [(f, v)]
  | [], _ => rfl
  | (g, x) :: r, h => by
    have h1 : ¬ g = f := fun e => h (by rw [← e]; exact List.mem_cons_self)
    have h2 : f ∉ r.map (·.1) := fun e => h (List.mem_cons_of_mem _ e)
    show (if g = f then (g, v) :: r else (g, x) :: putF f v r) = _
    rw [if_neg h1, putF_app h2]
    rfl
theorem putF_set {f : Str} {v : V} : ∀ {fs : List (Str × V)} {i : Nat}, plc f (fs.map (·.1)) = i → i < fs.length → putF f v fs = fs.set i (f, v)
  | [], i, _, h => by cases h
  | (g, x) :: r, i, h, hi => by
    have h1 : (if f = g then 0 else plc f (r.map (·.1)) + 1) = i := h
    show (if g = f then (g, v) :: r else (g, x) :: putF f v r) = _
    by_cases e : f = g
    · rw [if_pos e] at h1
      subst h1
      rw [if_pos e.symm, e]
      rfl
    · rw [if_neg e] at h1
      subst h1
      rw [if_neg fun z => e z.symm, putF_set (fs := r) rfl (by simp at hi; omega)]
      rfl
theorem pf_names {G : Hp} : ∀ {fs : List (Str × Rp)} {vs : List (Str × V)}, Pf fs G vs → vs.map (·.1) = fs.map (·.1)
  | _, _, .nil => rfl
  | (n, q) :: fs, (m, v) :: vs, .cons h t => by
    have h1 : m = n := h.1
    rw [List.map_cons, List.map_cons, pf_names t]
    exact congrArg (· :: _) h1
theorem pf_snoc {G : Hp} {fs : List (Str × Rp)} {vs : List (Str × V)} {n : Str} {r : Rp} {v : V} (h : Pf fs G vs) (hv : r G v) : Pf (fs ++ [(n, r)]) G (vs ++ [(n, v)]) := paired_snoc h ⟨rfl, hv⟩
theorem pf_set {G : Hp} {n : Str} {r : Rp} {v : V} : ∀ {fs : List (Str × Rp)} {vs : List (Str × V)} {i : Nat}, Pf fs G vs → r G v → Pf (fs.set i (n, r)) G (vs.set i (n, v))
  | _, _, _, .nil, _ => .nil
  | _, _, 0, .cons h t, hv => .cons ⟨rfl, hv⟩ t
  | _, _, i + 1, .cons h t, hv => .cons h (pf_set t hv)
section
variable {σ : L2.St} {H H0 G G0 : Hp} {ta tb te : TE} {t : TT} {r : Rp} {D : Ends} {tu tw tz : TS} {K : PySem.W.Frag} {M : List Addr} {al : TA} {rs : List Rp}
theorem s_fld {j : Nat} {x C dx : Addr} {fs : List (Str × V)} {f : Str} (h : Ev te σ G r) (e : Ex G H) (hσ : σ[j]? = some (some (.ref x))) (hx : H x = some (.ins C dx fs)) (c : Cls K C) (n : NoAttr K C f) (hl : fs.length < 1000)
    (k : ∀ v H1 G1, Step H G H1 G1 → r G1 v → D.nx σ (upd H1 x (.ins C dx (putF f v fs)))) : sFld K (tVar j) te f D σ H :=
  h H e _ fun v H1 G1 s1 h1 => ⟨.ref x, hσ, x, C, dx, fs, rfl, s1.i hx, c, n, hl, k v H1 G1 s1 h1⟩
theorem q_fld {j : Nat} {x C dx : Addr} {fs : List (Str × V)} {f : Str} (h : Ev te σ G r) (e : Ex G H) (hσ : σ[j]? = some (some (.ref x))) (hx : H x = some (.ins C dx fs)) (c : Cls K C) (n : NoAttr K C f) (hl : fs.length < 1000)
    (k : ∀ v H1 G1, Step H G H1 G1 → r G1 v → tz D σ (upd H1 x (.ins C dx (putF f v fs)))) : tSeq (sFld K (tVar j) te f) tz D σ H := s_fld (D := { D with nx := tz D }) h e hσ hx c n hl k
/-- the promise of an __init__: the new object x gets the fields fsR -/
def spInit (rs : List Rp) (fsR : List (Str × Rp)) : Sp := fun vs H Q _ => ∃ (G : Hp) (x C dx : Addr) (ws : List V), Ex G H ∧ G x = none ∧ vs = .ref x :: ws ∧ H x = some (.ins C dx []) ∧ Pr rs G ws ∧
  ∀ dx' fs H' G', StepM [x] H G H' G' → H' x = some (.ins C dx' fs) → Pf fsR G' fs → Q .non H'
/-- an object made by C(..): x, its fields fs as told; it may still change -/
def EvO (te : TE) (σ : L2.St) (G : Hp) (C : Addr) (fsR : List (Str × Rp)) : Prop := ∀ H, Ex G H → ∀ Q : VK, (∀ x dx fs H' G', H x = none → Step H G H' G' → G' x = none → H' x = some (.ins C dx fs) → Pf fsR G' fs → Q (.ref x) H') → te σ H Q
theorem evO_make {C : Addr} {sp : Sp} {fsR : List (Str × Rp)} {E : XK} (ha : EvA al σ G rs) (hsp : ∀ vs H Q, (∃ (G : Hp) (x dx : Addr) (ws : List V), Ex G H ∧ G x = none ∧ vs = .ref x :: ws ∧ H x = some (.ins C dx []) ∧ Pr rs G ws ∧
    ∀ dx' fs H' G', StepM [x] H G H' G' → H' x = some (.ins C dx' fs) → Pf fsR G' fs → Q .non H') → sp vs H Q E) : EvO (tMake C sp [] E al) σ G C fsR := fun H e Q q =>
  ha H e _ fun vs H1 G1 s1 h1 x dx hx hdx ne => by
    have gx : G1 x = none := s1.gh.dom hx
    have e1 : Ex G1 (upd (upd H1 dx (.own x)) x (.ins C dx [])) := (s1.gh.mut (s1.gh.dom hdx)).mut gx
    refine hsp _ _ _ ⟨G1, x, dx, vs, e1, gx, by rw [List.append_nil], upd_same, h1, fun dx2 fs H2 G2 s2 h2 h3 => ⟨rfl, ?_⟩⟩
    have g2 : G2 x = none := s2.fr x (by rw [upd_same]; simp) gx
    refine q x dx2 fs H2 G2 (s1.fresh hx) ⟨fun a o ha => ?_, s1.gg.trans s2.gg, s2.gh, fun a h4 h5 => ?_⟩ g2 h2 h3
    · obtain ⟨o1, a1, l1⟩ := s1.ex a o ha
      have nax : a ≠ x := ne_of_none a1 hx
      obtain ⟨o2, a2, l2⟩ := s2.ex a o1 (by rw [upd_ne nax, upd_ne (ne_of_none a1 hdx)]; exact a1)
      exact ⟨o2, a2, fun z => (l1 z).trans (l2 (by simp [nax]))⟩
    · have h6 := s1.fr a h4 h5
      have h7 := s1.ex.nn h4
      refine s2.fr a ?_ h6
      have nax : a ≠ x := fun z => h7 (by rw [z]; exact hx)
      rw [upd_ne nax, upd_ne (fun z => h7 (by rw [z]; exact hdx))]
      exact h7
theorem q_make {C : Addr} {fsR : List (Str × Rp)} {i : Nat} (h : EvO te σ G C fsR) (e : Ex G H) (k : ∀ x dx fs H1 G1, H x = none → Step H G H1 G1 → G1 x = none → H1 x = some (.ins C dx fs) → Pf fsR G1 fs → tz D (σ.set i (some (.ref x))) H1) :
    tSeq (tAsg te (gName i)) tz D σ H := h H e _ k
theorem EvO.ev {C : Addr} {fsR : List (Str × Rp)} [MoF fsR] (h : EvO te σ G C fsR) : Ev te σ G (rO C fsR) := fun H e Q q => h H e Q fun x dx fs H1 G1 hx s1 g1 h1 h2 =>
  q _ H1 (upd G1 x (.ins C dx fs)) (s1.freeze hx g1 h1) ⟨x, dx, fs, rfl, upd_same, h2.mono (ExM.new g1)⟩
/-! ### while -/
theorem q_while (st : StepM M H0 G0 H G) (Pv : Nat → L2.St → Hp → Hp → Prop) (m0 : Nat) (h0 : Pv m0 σ H G)
    (hs : ∀ m σ' H' G', StepM M H0 G0 H' G' → Pv m σ' H' G' → ∃ b, EvT t σ' G' b ∧
      (b = true → ∀ H1 G1, Step H' G' H1 G1 → tu { D with nx := fun σ2 H2 => ∃ m' G2, m' < m ∧ StepM M H0 G0 H2 G2 ∧ Pv m' σ2 H2 G2, ct := fun σ2 H2 => ∃ m' G2, m' < m ∧ StepM M H0 G0 H2 G2 ∧ Pv m' σ2 H2 G2, bk := tz D } σ' H1) ∧
      (b = false → ∀ H1 G1, Step H' G' H1 G1 → tz D σ' H1)) : tSeq (tWhile t tu) tz D σ H := by
  refine ⟨fun m σ' H' => ∃ G', StepM M H0 G0 H' G' ∧ Pv m σ' H' G', ⟨m0, G, st, h0⟩, ?_⟩
  rintro m σ' H' ⟨G', s1, p1⟩
  obtain ⟨b, h1, h2, h3⟩ := hs m σ' H' G' s1 p1
  refine h1 H' s1.gh _ fun H1 G1 s2 => ?_
  cases b with
  | true =>
    rw [if_pos rfl]
    exact ⟨_, fun σ2 H2 ⟨m', G2, a, b, c⟩ => ⟨m', a, G2, b, c⟩, h2 rfl H1 G1 s2⟩
  | false =>
    rw [if_neg (by simp)]
    exact h3 rfl H1 G1 s2
/-! ### data compared -/
theorem shaped_ints (ns : List Int) : SeqAt.shaped (.list (ns.map PyData.int)) = true := by
  have h1 : ∀ ns : List Int, PyData.canLayAll0 (ns.map PyData.int) = true ∧ PyData.depthAll (ns.map PyData.int) = 0 := by
    intro ns
    induction ns with
    | nil => exact ⟨by simp only [List.map_nil, PyData.canLayAll0], by simp only [List.map_nil, PyData.depthAll]⟩
    | cons a r ih =>
      refine ⟨?_, ?_⟩
      · simp only [List.map_cons, PyData.canLayAll0, PyData.canLay0, ih.1, Bool.and_self]
      · simp only [List.map_cons, PyData.depthAll, PyData.depth, ih.2]
        rfl
  unfold SeqAt.shaped
  simp only [PyData.canLay0, PyData.depth, (h1 ns).1, (h1 ns).2]
  decide
theorem shaped_rows (rows : List (List Int)) : SeqAt.shaped (.list (rows.map fun ns => .list (ns.map PyData.int))) = true := by
  have h0 : ∀ ns : List Int, PyData.canLay0 (.list (ns.map PyData.int)) = true ∧ PyData.depth (.list (ns.map PyData.int)) ≤ 1 := by
    intro ns
    have h := shaped_ints ns
    refine ⟨SeqAt.canLay_of_shaped h, ?_⟩
    have : ∀ ns : List Int, PyData.depthAll (ns.map PyData.int) = 0 := by
      intro ns
      induction ns with
      | nil => simp only [List.map_nil, PyData.depthAll]
      | cons a r ih =>
        simp only [List.map_cons, PyData.depthAll, PyData.depth, ih]
        rfl
    simp only [PyData.depth, this]
    omega
  have h1 : ∀ rows : List (List Int), PyData.canLayAll0 (rows.map fun ns => PyData.list (ns.map PyData.int)) = true ∧ PyData.depthAll (rows.map fun ns => PyData.list (ns.map PyData.int)) ≤ 1 := by
    intro rows
    induction rows with
    | nil => exact ⟨by simp only [List.map_nil, PyData.canLayAll0], by simp only [List.map_nil, PyData.depthAll]; omega⟩
    | cons a r ih =>
      refine ⟨?_, ?_⟩
      · simp only [List.map_cons, PyData.canLayAll0, (h0 a).1, ih.1, Bool.and_self]
      · have h2 := (h0 a).2
        have h3 := ih.2
        simp only [List.map_cons, PyData.depthAll]
        omega
  unfold SeqAt.shaped
  rw [Bool.and_eq_true, decide_eq_true_eq]
  refine ⟨?_, ?_⟩
  · show PyData.canLayAll0 _ = true
    exact (h1 rows).1
  · have := (h1 rows).2
    simp only [PyData.depth]
    omega
theorem dpAll_ints {ns : List Int} : DpAll K H (ns.map V.int) (ns.map PyData.int) := by
  induction ns with
  | nil => exact .nil
  | cons a r ih => exact .cons (.int a) ih
theorem dp_ints {v : V} {ns : List Int} (e : Ex G H) (h : rL rInt ns G v) : Dp K H v (.list (ns.map PyData.int)) := by
  obtain ⟨p, rfl, h2⟩ := rL_ints h
  exact .lst (SqL.of (e.l h2)) dpAll_ints
theorem dp_rows {v : V} {rows : List (List Int)} (e : Ex G H) (h : rL (rL rInt) rows G v) : Dp K H v (.list (rows.map fun ns => .list (ns.map PyData.int))) := by
  obtain ⟨p, vs, rfl, h2, h3⟩ := h
  refine .lst (SqL.of (e.l h2)) ?_
  clear h2
  induction h3 with
  | nil => exact .nil
  | cons h t ih => exact .cons (dp_ints e h) ih
/-- a == b, a != b, both sides the same data -/
theorem ev_eqD {r1 r2 : Rp} [Mo r1] [Mo r2] {d : PyData} (ha : Ev ta σ G r1) (hb : Ev tb σ G r2) (h1 : ∀ G' H' v, Ex G' H' → r1 G' v → Dp K H' v d) (h2 : ∀ G' H' v, Ex G' H' → r2 G' v → Dp K H' v d) (hd : SeqAt.shaped d = true) :
    Ev (tOp (rEqD K) ta tb) σ G (rBl true) :=
  ev_op ha hb fun G' H' x y _ e a b Q q => ⟨d, d, h1 G' H' x e a, h2 G' H' y e b, hd, hd, by
    rw [SeqAt.eqv_refl d (SeqAt.canLay_of_shaped hd)]
    exact q _ rfl⟩
theorem ev_neD {r1 r2 : Rp} [Mo r1] [Mo r2] {d : PyData} (ha : Ev ta σ G r1) (hb : Ev tb σ G r2) (h1 : ∀ G' H' v, Ex G' H' → r1 G' v → Dp K H' v d) (h2 : ∀ G' H' v, Ex G' H' → r2 G' v → Dp K H' v d) (hd : SeqAt.shaped d = true) :
    Ev (tOp (rNeD K) ta tb) σ G (rBl false) :=
  ev_op ha hb fun G' H' x y _ e a b Q q => ⟨d, d, h1 G' H' x e a, h2 G' H' y e b, hd, hd, by
    rw [SeqAt.eqv_refl d (SeqAt.canLay_of_shaped hd)]
    exact q _ rfl⟩
/-! ### in, not in -/
theorem inV_nat (x : Nat) : ∀ xs : List Nat, inV (.int (x : Int)) (xs.map fun n : Nat => V.int (n : Int)) = xs.contains x
  | [] => rfl
  | y :: ys => by
    have h := inV_nat x ys
    unfold inV at h ⊢
    rw [List.map_cons, List.any_cons, h, List.contains_cons]
    congr 1
    show ((y : Int) == (x : Int)) = (x == y)
    rw [Bool.eq_iff_iff, beq_iff_eq, beq_iff_eq]
    omega
theorem flat_nat (xs : List Nat) : (xs.map fun n : Nat => V.int (n : Int)).all flatV = true := by
  rw [List.all_map, List.all_eq_true]
  intro x _
  rfl
theorem ev_in {x : Nat} {xs : List Nat} (ha : Ev ta σ G (rNat x)) (hb : Ev tb σ G (rL rNat xs)) : Ev (tOp (rIn K false) ta tb) σ G (rBl (xs.contains x)) :=
  ev_op ha hb fun G' H' a b _ e h1 h2 Q q => by
    obtain ⟨p, rfl, h3⟩ := rL_vals (f := fun n : Nat => V.int (n : Int)) h2
    cases h1
    refine ⟨p, _, rfl, .inl (SqL.of (e.l h3)), rfl, flat_nat xs, ?_⟩
    rw [if_neg (by simp), inV_nat]
    exact q _ rfl
theorem ev_notin {x : Nat} {xs : List Nat} (ha : Ev ta σ G (rNat x)) (hb : Ev tb σ G (rL rNat xs)) : Ev (tOp (rIn K true) ta tb) σ G (rBl (!xs.contains x)) :=
  ev_op ha hb fun G' H' a b _ e h1 h2 Q q => by
    obtain ⟨p, rfl, h3⟩ := rL_vals (f := fun n : Nat => V.int (n : Int)) h2
    cases h1
    refine ⟨p, _, rfl, .inl (SqL.of (e.l h3)), rfl, flat_nat xs, ?_⟩
    rw [if_pos rfl, inV_nat]
    exact q _ rfl
/-- the truth of a list -/
theorem et_truth {α : Type} {r : α → Rp} {xs : List α} (h : Ev te σ G (rL r xs)) : EvT (fun σ H Q => te σ H fun x H' => ∃ k, TruV K x H' k ∧ Q k H') σ G (!xs.isEmpty) := fun H x Q q =>
  h H x _ fun v H1 G1 s1 h1 => by
    obtain ⟨p, vs, rfl, h2, h3⟩ := h1
    refine ⟨!xs.isEmpty, .inl ⟨vs, SqL.of (s1.gh.l h2), ?_⟩, q H1 G1 s1⟩
    cases h3 <;> rfl
theorem ev_isN {v : V} (h : Ev te σ G (rV v)) : Ev (tIsN te) σ G (rBl (decide (v = .non))) := fun H x Q q => h H x _ fun u H1 G1 s1 h1 => by
  have e : u = v := h1
  rw [e]
  exact q _ H1 G1 s1 rfl
theorem ev_notN {v : V} (h : Ev te σ G (rV v)) : Ev (tNotN te) σ G (rBl (!decide (v = .non))) := fun H x Q q => h H x _ fun u H1 G1 s1 h1 => by
  have e : u = v := h1
  rw [e]
  exact q _ H1 G1 s1 rfl
/-- a < b < c, ints -/
theorem ev_chainI {g1 g2 : Int → Int → Bool} {i j k : Int} {tc : TE} (ha : Ev ta σ G (rInt i)) (hb : Ev tb σ G (rInt j)) (hc : g1 i j = true → Ev tc σ G (rInt k)) :
    Ev (tChain (rI0 fun i j => .bl (g1 i j)) (rI0 fun i j => .bl (g2 i j)) ta tb tc) σ G (rBl (g1 i j && g2 j k)) :=
  ev_chain ha hb hc (fun G' H' x y _ _ h1 h2 Q q => ⟨i, j, h1, h2, q⟩) (fun _ G' H' x y _ _ h1 h2 Q q => ⟨j, k, h1, h2, q⟩)
end
/-! ### classes -/
structure Ctr (P : Program) (w : World) (K : PySem.W.Frag) (mg : Str → Option Value) (base : Heap) (C : Str) (k : Nat) (ps : List Str) (sp : Sp) : Prop where
  ex : ∃ fd, FnOk P w K mg base CX0 k (He.ma K (He.ga K C) "__init__") fd ps sp ∧ Binds K fd ps []
  m : Mk K (He.ga K C) (He.ma K (He.ga K C) "__init__")
  g : mg C = some (.ref (He.ga K C))
structure MCal (P : Program) (w : World) (K : PySem.W.Frag) (mg : Str → Option Value) (base : Heap) (C m : Str) (k : Nat) (ps : List Str) (sp : Sp) : Prop where
  ex : ∃ fd, FnOk P w K mg base CX0 k (He.ma K (He.ga K C) m) fd ps sp ∧ Binds K fd ps []
  c : Cls K (He.ga K C)
  m : Meth K (He.ga K C) m (He.ma K (He.ga K C) m)
section
variable {P : Program} {w : World} {K : PySem.W.Frag} {mg : Str → Option Value} {base : Heap}
theorem Dm.fnOk {C x : Str} {st : Stmt} {N ps : List Str} {k : Nat} {sp : Sp} (d : Dm K C x st ps) (S : FnScope N ps (defScope st)) (len : ∀ vs H Q E, sp vs H Q E → vs.length = ps.length)
    (body : ∀ (f : Addr) (cdv : Value) (A : Around) (outer : List Env) (s : Shared) (H : Hp) (vs : List V) (Q : VK) (E : XK), Room k (A.deeper (envOfC (C ++ "." ++ x) (defScope st) s.heap.objs.size f cdv)) → sp vs H Q E →
      ∃ t, PSs (cxOf CX0 P w K mg base N (C ++ "." ++ x) (defScope st) f cdv A outer s H E).nox (defBody st) t ∧ t { nx := fun _ H' => Q .non H', rt := Q } (start N vs) H) :
    ∃ fd, FnOk P w K mg base CX0 (k + 1) (He.ma K (He.ga K C) x) fd ps sp ∧ Binds K fd ps [] := by
  obtain ⟨fd, F, b⟩ := d.F
  refine ⟨fd, F.ok S len (fun cdv A outer s H vs Q E hr h => ?_), b⟩
  obtain ⟨t, p, q⟩ := body _ cdv A outer s H vs Q E hr h
  exact ⟨t, p.nox, q⟩
theorem pe_mk {X : Cx} {x : Str} {j k : Nat} {ps : List Str} {sp : Sp} {p pos : Pos} {e : Expr} {es : List Expr} {t : TA} (C : Ctr X.prog X.w X.K X.mg X.base x k ps sp) (hr : Room j X.A) (hg : Gl X x) (ha : PA X (e :: es) t) (hk : k + 1 ≤ j := by decide)
    (hdb : (x == ("__debug__" : Str)) = false := by decide) (he : starEach (e :: es) X.env = (false, eval e X.env) :: starEach es X.env := by rfl) (hpl : (backTo pos (starEach es X.env)).any (·.1) = false := by rfl) :
    PE X (.Call (.Name x p) (e :: es) [] pos) (tMake (He.ga X.K x) sp [] E0 t) := by
  obtain ⟨fd, F, b⟩ := C.ex
  exact pe_make C.m F (hr.mono hk) hg C.g b .nil pass0 ha hdb he hpl
theorem pe_mc {X : Cx} {C m : Str} {j k : Nat} {ps : List Str} {sp : Sp} {pl : Sem Bool} {apos pos : Pos} {o e : Expr} {es : List Expr} {to : TE} {t : TA} (M : MCal X.prog X.w X.K X.mg X.base C m k ps sp) (ho : PE X o to) (hr : Room j X.A) (ha : PA X (e :: es) t) (hk : k ≤ j := by decide)
    (hst : starEach (e :: es) X.env = (false, eval e X.env) :: starEach es X.env := by rfl) (hpl : (backTo pos (starEach es X.env)).any (·.1) = false := by rfl)
    (ht : eval (.Call (.Attribute o m apos) (e :: es) [] pos) X.env = (do
      let ov ← eval o X.env
      standAt apos.atName
      let (f, first) ← holding [ov] (getMethod ov m pl)
      callWith pos f first (backTo pos (starEach (e :: es) X.env)) (backToKw pos (keywordEach [] X.env))) := by rfl) :
    PE X (.Call (.Attribute o m apos) (e :: es) [] pos) (tMeth (He.ga X.K C) m sp [] E0 to t) := by
  obtain ⟨fd, F, b⟩ := M.ex
  exact pe_meth ho M.c M.m F (hr.mono hk) b .nil pass0 ha hst hpl ht
theorem pe_mc0 {X : Cx} {C m : Str} {j k : Nat} {ps : List Str} {sp : Sp} {pl : Sem Bool} {apos pos : Pos} {o : Expr} {to : TE} (M : MCal X.prog X.w X.K X.mg X.base C m k ps sp) (ho : PE X o to) (hr : Room j X.A) (hk : k ≤ j := by decide)
    (ht : eval (.Call (.Attribute o m apos) [] [] pos) X.env = (do
      let ov ← eval o X.env
      standAt apos.atName
      let (f, first) ← holding [ov] (getMethod ov m pl)
      callWith pos f first (backTo pos (starEach [] X.env)) (backToKw pos (keywordEach [] X.env))) := by rfl) :
    PE X (.Call (.Attribute o m apos) [] [] pos) (tMeth (He.ga X.K C) m sp [] E0 to tNil) := by
  obtain ⟨fd, F, b⟩ := M.ex
  exact pe_meth0 ho M.c M.m F (hr.mono hk) b .nil pass0 ht
/-- xs[i], read for xs[i] op= .. -/
def rGetL (K : PySem.W.Frag) : V → V → Hp → VK → Prop := fun x y H Q => ∃ (p : Addr) (xs : List V) (j : Nat) (v : V), x = .ref p ∧ y = .int (j : Int) ∧ SqL K H p xs ∧ xs[j]? = some v ∧ Q v H
theorem get_list {X : Cx} : PGet X (rGetL X.K) := by
  intro pins s σ H o i ov iv Q I r1 r2 h
  obtain ⟨p, xs, j, v, rfl, rfl, hq, ha, q⟩ := h
  cases r1
  obtain ⟨t, rfl⟩ := r2
  obtain ⟨its, r, pl, hz⟩ := I.list hq
  obtain ⟨u, hu, ru⟩ := r.get ha
  have hj : j < xs.length := (List.getElem?_eq_some_iff.mp ha).1
  have hb : xs.length < 2 ^ 63 := Nat.lt_of_le_of_lt hz (by decide)
  exact PySem.wpAny_getItem_list pl.isList (Int.natCast_nonneg j) (by omega) (by simpa using hu) ⟨v, H, I, ru, q⟩
/-! ### the rules of the hand layer with the written part told -/
section
variable {X : Cx} (K' : PySem.W.Frag)
theorem ixl (h : X.K = K' := by rfl) : IxR X (rIxL K') := by subst h; exact ix_list
theorem ixt (h : X.K = K' := by rfl) : IxR X (rIxT K') := by subst h; exact ix_tup
theorem opIn (h : X.K = K' := by rfl) : OpR X (compareOp .In) (rIn K' false) := by subst h; exact op_in_seq
theorem opNotIn (h : X.K = K' := by rfl) : OpR X (compareOp .NotIn) (rIn K' true) := by subst h; exact op_notIn_seq
theorem opEqD {k : Nat} (hr : Room k X.A) (h : X.K = K' := by rfl) : OpR X (compareOp .Eq) (rEqD K') := by subst h; exact op_eqD (Room.eqD hr)
theorem opNeD {k : Nat} (hr : Room k X.A) (h : X.K = K' := by rfl) : OpR X (compareOp .NotEq) (rNeD K') := by subst h; exact op_neD (Room.eqD hr)
theorem cLen (h : X.K = K' := by rfl) : CallR X (.builtin "len") (fun xs H Q => ∃ p ys, xs = [.ref p] ∧ (SqL K' H p ys ∨ SqT K' H p ys) ∧ Q (.int (ys.length : Nat)) H) := by subst h; exact call_len_seq
theorem cList (h : X.K = K' := by rfl) : CallR X (.type "list") (fun xs H Q => ∃ p ys, xs = [.ref p] ∧ (SqL K' H p ys ∨ SqT K' H p ys) ∧ ∀ l, H l = none → Q (.ref l) (upd H l (.lst ys))) := by subst h; exact call_list_of
theorem cSum (hc : X.calm = true) (h : X.K = K' := by rfl) : CallR X (.builtin "sum") (rSum K') := by subst h; exact cr_sum hc
theorem cMax (hc : X.calm = true) (h : X.K = K' := by rfl) : CallR X (.builtin "max") (rMax K') := by subst h; exact cr_max hc
theorem cSorted (h : X.K = K' := by rfl) : CallR X (.builtin "sorted") (rSorted K') := by subst h; exact cr_sorted
theorem fldK {e : Expr} {f : Str} {ta : TE} {pos : Pos} (ha : PE X e ta) (hb : attributeBase e f X.env (eval e X.env) = eval e X.env) (h : X.K = K' := by rfl) : PE X (.Attribute e f pos) (tFld K' ta f) := by subst h; exact pe_fld ha hb
theorem itL {tg l : Expr} {tl : TE} (hl : PE X l tl) (h : X.K = K' := by rfl) : PI X tg l (iList K' tl) := by subst h; exact pi_list hl
theorem itE {e : Expr} {ta : TA} {p pos tpos : Pos} {elts : List Expr} {kk : Nat} (hg : Gl X "enumerate") (hm : X.mg "enumerate" = none) (ha : PA X [e] ta) (hs : starEach [e] X.env = [(false, eval e X.env)] := by rfl) (h : X.K = K' := by rfl) :
    PI X (.Tuple elts kk tpos) (.Call (.Name "enumerate" p) [e] [] pos) (iEnum K' ta) := by subst h; exact pi_enum hg hm ha hs
theorem itZ {e e2 : Expr} {ta : TA} {p pos tpos : Pos} {elts : List Expr} {kk : Nat} (hg : Gl X "zip") (hm : X.mg "zip" = none) (ha : PA X [e, e2] ta) (hs : starEach [e, e2] X.env = (false, eval e X.env) :: starEach [e2] X.env := by rfl) (hpl : (backTo pos (starEach [e2] X.env)).any (·.1) = false := by rfl) (h : X.K = K' := by rfl) :
    PI X (.Tuple elts kk tpos) (.Call (.Name "zip" p) [e, e2] [] pos) (iZip K' ta) := by subst h; exact pi_zip hg hm ha hs hpl
theorem tgT {es : List Expr} {k : Nat} {t : TGs} {n : Nat} {pos : Pos} (hc : X.calm = true) (ht : PGs X es t) (hn : (assignEach es X.env).length = n := by rfl) (hst : (assignEach es X.env).findIdx? (·.1) = none := by rfl) (h : X.K = K' := by rfl) : PG X (.Tuple es k pos) (gTup K' n t) := by subst h; exact pg_tup hc ht hn hst
theorem slL (h : X.K = K' := by rfl) : SlR X (rSlL K') := by subst h; exact sl_list
theorem bmK {T : String} {o e : Expr} {es : List Expr} {name : Str} {r : V → List V → Hp → VK → Prop} {to : TE} {t : TA} {apos cpos : Pos} (h : PE X (.Call (.Attribute o name apos) (e :: es) [] cpos) (tBM X.K T r to t)) (hK : X.K = K' := by rfl) :
    PE X (.Call (.Attribute o name apos) (e :: es) [] cpos) (tBM K' T r to t) := by subst hK; exact h
end
/-! ### numbers that are not negative -/
section
variable {σ : L2.St} {G : Hp} {ta tb : TE} {a b : Nat}
theorem ev_n (n : Nat) {i : Int} (h : i = (n : Int) := by rfl) : Ev (tC (.int i)) σ G (rNat n) := ev_c (by rw [h]; rfl)
theorem ev_addN (ha : Ev ta σ G (rNat a)) (hb : Ev tb σ G (rNat b)) : Ev (tOp (rI0 fun i j => .int (i + j)) ta tb) σ G (rNat (a + b)) := by
  have h := ev_I0 (g := fun i j => .int (i + j)) ha hb
  have e : (a : Int) + (b : Int) = ((a + b : Nat) : Int) := (Int.natCast_add a b).symm
  rw [e] at h
  exact h
theorem ev_subN (ha : Ev ta σ G (rNat a)) (hb : Ev tb σ G (rNat b)) (hle : b ≤ a) : Ev (tOp (rI0 fun i j => .int (i - j)) ta tb) σ G (rNat (a - b)) := by
  have h := ev_I0 (g := fun i j => .int (i - j)) ha hb
  have e : (a : Int) - (b : Int) = ((a - b : Nat) : Int) := (Int.ofNat_sub hle).symm
  rw [e] at h
  exact h
theorem ev_mulN (ha : Ev ta σ G (rNat a)) (hb : Ev tb σ G (rNat b)) (hs : a < 2 ^ 64 ∨ b < 2 ^ 64) : Ev (tOp (rI CMul fun i j => .int (i * j)) ta tb) σ G (rNat (a * b)) := by
  have h := ev_I (C := CMul) (g := fun i j => .int (i * j)) ha hb (by
    rcases hs with hs | hs
    · exact .inl ⟨by omega, by omega⟩
    · exact .inr ⟨by omega, by omega⟩)
  have e : (a : Int) * (b : Int) = ((a * b : Nat) : Int) := (Int.natCast_mul a b).symm
  rw [e] at h
  exact h
theorem ev_divN (ha : Ev ta σ G (rNat a)) (hb : Ev tb σ G (rNat b)) (h0 : 0 < b) (h1 : b < 1073741824) : Ev (tOp (rI CDiv fun i j => .int (i / j)) ta tb) σ G (rNat (a / b)) := by
  have h := ev_I (C := CDiv) (g := fun i j => .int (i / j)) ha hb ⟨by omega, by omega⟩
  have e : (a : Int) / (b : Int) = ((a / b : Nat) : Int) := (Int.natCast_ediv a b).symm
  rw [e] at h
  exact h
theorem ev_modN (ha : Ev ta σ G (rNat a)) (hb : Ev tb σ G (rNat b)) (h0 : 0 < b) : Ev (tOp (rI (fun _ j => 0 < j) fun i j => .int (i % j)) ta tb) σ G (rNat (a % b)) := by
  have h := ev_I (C := fun _ j => 0 < j) (g := fun i j => .int (i % j)) ha hb (by show (0 : Int) < b; omega)
  have e : (a : Int) % (b : Int) = ((a % b : Nat) : Int) := (Int.natCast_emod a b).symm
  rw [e] at h
  exact h
end
end
end Vc
namespace Vc
open PySem PySem.Spec PyProof.Rows L2 Vm
theorem tot_take (p : Int) (ns : List Int) (i : Nat) (y : Int) (h : ns[i]? = some y) : tot p (ns.take (i + 1)) = (tot p (ns.take i) + y) % p := by
  rw [List.take_succ, h]
  exact tot_snoc p _ y
section
variable {P : Program} {w : World} {K : PySem.W.Frag} {mg : Str → Option Value} {base : Heap}

/-! total -/
def spTotal : Sp := fun vs H Q E => ∃ (p : Int) (ns : List Int), 0 < p ∧ spOf [rInt p, rL rInt ns] (rInt (tot p ns)) vs H Q E
theorem sc_total : FnScope ["prime", "numbers", "result", "number"] ["prime", "numbers"] (defScope s_total) := ⟨rfl, rfl, rfl, by decide +kernel, rfl, by decide +kernel, by decide +kernel⟩
theorem ok_total (T : Tx K mg) : Cal P w K mg base "total" 1 ["prime", "numbers"] spTotal := by
  refine T.k_total.cal sc_total (fun vs H Q E ⟨p, ns, _, h⟩ => spOf_len h) fun f cdv A outer s H vs Q E hr h => ⟨_, (pss_cons (ps_set (i := 2) sc_total.nd rfl (Or.inl rfl) pe_int)
        (pss_cons (ps_for PassesOwn.never rfl (itL K (pv 1)) (pg_name (i := 3) sc_total.nd rfl (Or.inl rfl))
          (pss_one (ps_set (i := 2) sc_total.nd rfl (Or.inl rfl) (pe_op op_mod (pe_op op_add (pv 2) (pv 3)) (pv 0)))))
        (pss_one (ps_ret (pv 2))))), ?_⟩
  obtain ⟨p, ns, hp, G, e, ha, k⟩ := h
  obtain ⟨_, u, rfl, rfl, hu⟩ := pr_two ha
  refine q_set ev_i e fun v1 H1 G1 s1 h1 => ?_
  cases h1
  refine q_for1 s1 (wk_list (r := rInt) (ys := ns) (ev_var rfl (Mo.mo s1.gg hu))) (fun i σ _ _ => ∃ x, σ = [some (.int p), some u, some (.int (tot p (ns.take i))), x]) ?_ ?_ ?_
  · exact fun H1 G1 _ => ⟨none, rfl⟩
  · rintro i y σ v Ha Hb G' G2 hi s2 e1 e2 e3 hv ⟨x, rfl⟩
    refine s_set (ev_I (ev_I0 (ev_var rfl rfl) (ev_var rfl hv)) (ev_var rfl rfl) hp) s2.gh fun v2 H2 G3 s3 h2 => ⟨G3, s2.then s3, e2.trans s3.gg, some v, ?_⟩
    cases h2
    rw [tot_take p ns i y hi]
    rfl
  · rintro σ H2 G2 s2 e2 ⟨x, rfl⟩
    refine s_ret (ev_var (r := rInt (tot p ns)) rfl (by rw [List.take_length]; exact rfl)) s2.gh fun v H3 G3 s3 h3 => k v H3 G3 (s2.trans s3) h3

/-! split -/
def spSplit : Sp := fun vs H Q E => ∃ (p v : Int) (cs : List Int), 0 < p ∧ cs.length ≤ 1000 ∧ spOf [rInt p, rInt v, rL rInt cs] (rL rInt (splitF p v cs)) vs H Q E
theorem sc_split : FnScope ["prime", "value", "coins", "pieces", "coin"] ["prime", "value", "coins"] (defScope s_split) := ⟨rfl, rfl, rfl, by decide +kernel, rfl, by decide +kernel, by decide +kernel⟩
theorem ok_split (T : Tx K mg) : Cal P w K mg base "split" 1 ["prime", "value", "coins"] spSplit := by
  refine T.k_split.cal sc_split (fun vs H Q E ⟨p, v, cs, _, _, h⟩ => spOf_len h) fun f cdv A outer s H vs Q E hr h => ⟨_, (pss_cons (ps_setLc (i := 3) (own := [("coin", 4)]) (g := gName 4) (tt := tYes) rfl sc_split.nd rfl rfl (sw_true rfl rfl rfl (by decide +kernel)) (itL K (pv 2)) (blkOk_by (N := ["prime", "value", "coins", "pieces", "coin"]) (sc := defScope s_split) (by decide +kernel)) (fun _ _ _ _ _ => pg_name (i := 4) sc_split.nd rfl (Or.inl rfl)) (fun _ _ _ _ _ => pts_nil) (fun _ _ _ _ _ => (pe_op op_mod (pv 4) (pv 0))))
        (pss_cons (ps_expr (bmK K (pe_bm PySem.F.plainAttrs_list PySem.F.slot_list_append PySem.F.type_list_append mt_append (pv 3) (pa_cons (pe_op op_mod (pe_op op_sub (pv 1) (pe_callB (cSum K rfl) (by rfl) T.fsum (by decide +kernel) (pa_cons (pv 3) pa_nil))) (pv 0)) pa_nil))))
        (pss_one (ps_ret (pv 3))))), ?_⟩
  obtain ⟨p, v, cs, hp, hl, G, e, ha, k⟩ := h
  obtain ⟨_, _, rfl, rfl, hb⟩ := pr_cons ha
  obtain ⟨_, u, rfl, rfl, hu⟩ := pr_two hb
  refine q_setN (evN_lc1 (r := rInt) (f := (· % p)) (wk_list (r := rInt) (ys := cs) (ev_var rfl hu)) (by omega) (fun _ => rfl) fun y v G' _ _ hv => ev_I (ev_var rfl hv) (ev_var rfl rfl) hp) e fun a H1 G1 hn s1 h1 => ?_
  obtain ⟨_, q, h2⟩ := rL_ints h1
  cases q
  have sg : Step H G H1 G := StepM.of_ex e s1.ex
  refine q_app rfl (s1.gh.l h2) (by rw [List.length_map, List.length_map]; omega) (ev_I (ev_I0 (ev_var rfl rfl) (ev_sum (ns := cs.map (· % p)) (ev_var rfl h1))) (ev_var rfl rfl) hp) s1.gh fun x H2 G2 s2 h3 => ?_
  cases h3
  have s3 : Step H G H2 G := StepM.of_ex e (s1.trans s2).ex
  have e3 : upd H2 a (.lst ((cs.map (· % p)).map V.int ++ [.int ((v - (cs.map (· % p)).sum) % p)])) a = some (.lst ((splitF p v cs).map V.int)) := by
    rw [upd_same]
    unfold splitF
    rw [List.map_append]
    rfl
  have s4 := (s3.mut hn (e.dom hn) (o := .lst ((cs.map (· % p)).map V.int ++ [.int ((v - (cs.map (· % p)).sum) % p)]))).freeze hn (e.dom hn) e3
  exact s_ret (ev_var (r := rL rInt (splitF p v cs)) rfl (rL_of_ints upd_same)) s4.gh fun v H3 G3 s5 h5 => k v H3 G3 (s4.trans s5) h5

/-! join, fresh_table, values_of -/
def spJoin : Sp := spTotal
theorem sc_join : FnScope ["prime", "pieces"] ["prime", "pieces"] (defScope s_join) := ⟨rfl, rfl, rfl, by decide +kernel, rfl, by decide +kernel, by decide +kernel⟩
theorem ok_join (T : Tx K mg) : Cal P w K mg base "join" 2 ["prime", "pieces"] spJoin := by
  have c_total := ok_total (P := P) (w := w) (base := base) T
  refine T.k_join.cal sc_join (fun vs H Q E ⟨p, ns, _, h⟩ => spOf_len h) fun f cdv A outer s H vs Q E hr h => ⟨_, (pss_one (ps_ret (pe_cal c_total hr rfl (pa_cons (pv 0) (pa_cons (pv 1) pa_nil))))), ?_⟩
  obtain ⟨p, ns, hp, G, e, ha, k⟩ := h
  obtain ⟨_, u, rfl, rfl, hu⟩ := pr_two ha
  exact s_ret (ev_call (ea_cons (ev_var rfl rfl) (ea_cons (ev_var rfl hu) ea_nil)) fun vs H Q h => ⟨p, ns, hp, h⟩) e k
def spFresh : Sp := fun vs H Q E => ∃ (p : Int) (ns : List Int) (cs : List (List Int)), 0 < p ∧ ns.length ≤ 1000 ∧ (∀ c ∈ cs, c.length ≤ 1000) ∧ spOf [rInt p, rL rInt ns, rL (rL rInt) cs] (rL (rL rInt) (freshF p ns cs)) vs H Q E
theorem sc_fresh_table : FnScope ["prime", "votes", "coins", "vote", "row"] ["prime", "votes", "coins"] (defScope s_fresh_table) := ⟨rfl, rfl, rfl, by decide +kernel, rfl, by decide +kernel, by decide +kernel⟩
theorem ok_fresh_table (T : Tx K mg) : Cal P w K mg base "fresh_table" 2 ["prime", "votes", "coins"] spFresh := by
  have c_split := ok_split (P := P) (w := w) (base := base) T
  refine T.k_fresh_table.cal sc_fresh_table (fun vs H Q E ⟨p, ns, cs, _, _, _, h⟩ => spOf_len h) fun f cdv A outer s H vs Q E hr h => ⟨_, (pss_one (ps_ret (pe_lc (own := [("vote", 3), ("row", 4)]) (g := gTup K 2 (gCons (gName 3) (gCons (gName 4) gNil))) (tt := tYes) rfl sc_fresh_table.nd (itZ K rfl T.fzip (pa_cons (pv 1) (pa_cons (pv 2) pa_nil))) (blkOk_by (N := ["prime", "votes", "coins", "vote", "row"]) (sc := defScope s_fresh_table) (by decide +kernel)) (fun _ _ _ _ _ => tgT K rfl (pgs_cons (pg_name (i := 3) sc_fresh_table.nd rfl (Or.inl rfl)) (pgs_cons (pg_name (i := 4) sc_fresh_table.nd rfl (Or.inl rfl)) pgs_nil))) (fun _ _ _ _ _ => pts_nil) (fun _ _ _ _ _ => (pe_cal c_split hr rfl (pa_cons (pv 0) (pa_cons (pv 3) (pa_cons (pv 4) pa_nil)))))))), ?_⟩
  obtain ⟨p, ns, cs, hp, hl, hc, G, e, ha, k⟩ := h
  obtain ⟨_, _, rfl, rfl, hb⟩ := pr_cons ha
  obtain ⟨u, z, rfl, hu, hz⟩ := pr_two hb
  have ef : freshF p ns cs = (ns.zip cs).map fun x => splitF p x.1 x.2 := by
    unfold freshF
    rw [List.zip_eq_zipWith, List.map_zipWith]
  rw [ef] at k
  refine s_ret (ev_lc2n (r := rL rInt) (fun x => splitF p x.1 x.2) (wk_zip (r := rInt) (r' := rL rInt) (ev_var rfl hu) (ev_var rfl hz)) (by rw [List.length_zip]; omega) (fun _ _ => rfl) fun y v w G' hy _ hv hw => ?_) e k
  exact ev_call (ea_cons (ev_var rfl rfl) (ea_cons (ev_var rfl hv) (ea_cons (ev_var rfl hw) ea_nil))) fun vs H Q h => ⟨p, y.1, y.2, hp, hc _ (List.of_mem_zip hy).2, h⟩
def spValues : Sp := fun vs H Q E => ∃ (p : Int) (t : List (List Int)), 0 < p ∧ t.length ≤ 1000 ∧ spOf [rInt p, rL (rL rInt) t] (rL rInt (vals p t)) vs H Q E
theorem sc_values_of : FnScope ["prime", "table", "row"] ["prime", "table"] (defScope s_values_of) := ⟨rfl, rfl, rfl, by decide +kernel, rfl, by decide +kernel, by decide +kernel⟩
theorem ok_values_of (T : Tx K mg) : Cal P w K mg base "values_of" 3 ["prime", "table"] spValues := by
  have c_join := ok_join (P := P) (w := w) (base := base) T
  refine T.k_values_of.cal sc_values_of (fun vs H Q E ⟨p, t, _, _, h⟩ => spOf_len h) fun f cdv A outer s H vs Q E hr h => ⟨_, (pss_one (ps_ret (pe_lc (own := [("row", 2)]) (g := gName 2) (tt := tYes) rfl sc_values_of.nd (itL K (pv 1)) (blkOk_by (N := ["prime", "table", "row"]) (sc := defScope s_values_of) (by decide +kernel)) (fun _ _ _ _ _ => pg_name (i := 2) sc_values_of.nd rfl (Or.inl rfl)) (fun _ _ _ _ _ => pts_nil) (fun _ _ _ _ _ => (pe_cal c_join hr rfl (pa_cons (pv 0) (pa_cons (pv 2) pa_nil))))))), ?_⟩
  obtain ⟨p, t, hp, hl, G, e, ha, k⟩ := h
  obtain ⟨_, u, rfl, rfl, hu⟩ := pr_two ha
  exact s_ret (ev_lc1 (r := rInt) (tot p) (wk_list (r := rL rInt) (ev_var rfl hu)) (by omega) (fun _ => rfl) fun y v G' hy _ hv =>
    ev_call (ea_cons (ev_var rfl rfl) (ea_cons (ev_var rfl hv) ea_nil)) fun vs H Q h => ⟨p, y, hp, h⟩) e k
end
end Vc
namespace Vc
open PySem PySem.Spec PyProof.Rows L2 Vm
section
variable {P : Program} {w : World} {K : PySem.W.Frag} {mg : Str → Option Value} {base : Heap}
/-! is_prime, checked_prime -/
def spPrime (r : Nat → Rp) : Sp := fun vs H Q E => ∃ n : Nat, PrimeOk n ∧ spOf [rNat n] (r n) vs H Q E
theorem sc_is_prime : FnScope ["number", "factor"] ["number"] (defScope s_is_prime) := ⟨rfl, rfl, rfl, by decide +kernel, rfl, by decide +kernel, by decide +kernel⟩
theorem ok_is_prime (T : Tx K mg) : Cal P w K mg base "is_prime" 1 ["number"] (spPrime fun _ => rBl true) := by
  refine T.k_is_prime.cal sc_is_prime (fun vs H Q E ⟨n, _, h⟩ => spOf_len h) fun f cdv A outer s H vs Q E hr h => ⟨_, (pss_cons (ps_if (pt_cmpR op_lt (pv 0) pe_int (nomark _)) (pss_one (ps_ret pe_bl)) pss_nil)
        (pss_cons (ps_set (i := 1) sc_is_prime.nd rfl (Or.inl rfl) pe_int)
        (pss_cons (ps_while PassesOwn.never (pt_cmpR op_le (pe_op op_mul (pv 1) (pv 1)) (pv 0) (nomark _))
          (pss_cons (ps_if (pt_cmpR op_eq (pe_op op_mod (pv 0) (pv 1)) pe_int (nomark _)) (pss_one (ps_ret pe_bl)) pss_nil)
          (pss_one (ps_aug (i := 1) sc_is_prime.nd rfl (Or.inl rfl) pe_int ip_add))))
        (pss_one (ps_ret pe_bl))))), ?_⟩
  obtain ⟨n, hn, G, e, ha, k⟩ := h
  obtain ⟨_, rfl, rfl⟩ := pr_one ha
  have h2 := hn.lo
  have h3 := hn.hi
  refine q_if (b := false) ((et_test (ev_I0 (ev_var rfl rfl) ev_i)).is (decide_eq_false (by omega))) e (fun z => by cases z) fun _ H1 G1 s1 => ?_
  refine q_set ev_i s1.gh fun v H2 G2 s2 h => ?_
  cases h
  refine q_while (s1.trans s2) (fun m σ' H' G' => ∃ f : Nat, m = n + 1 - f ∧ 2 ≤ f ∧ f ≤ n + 1 ∧ σ' = [some (.int (n : Int)), some (.int (f : Int))]) (n + 1 - 2) ⟨2, rfl, by omega, by omega, rfl⟩ ?_
  rintro m σ' H' G' s3 ⟨f, rfl, hf2, hfn, rfl⟩
  have hff : ((f : Int) * (f : Int) ≤ (n : Int)) ↔ f * f ≤ n := by rw [← Int.natCast_mul]; omega
  refine ⟨decide (f * f ≤ n), (et_test (ev_I0 (ev_I (ev_var rfl rfl) (ev_var rfl rfl) (.inl ⟨by omega, by omega⟩)) (ev_var rfl rfl))).is (decide_eq_decide.mpr hff), fun hb H1 G1 s4 => ?_, fun hb H1 G1 s4 => ?_⟩
  · have hle := of_decide_eq_true hb
    have hnz := hn.nof f hf2 hle
    refine q_if (b := false) ((et_test (ev_eq (x := .int ((n : Int) % (f : Int))) (y := .int 0) (ev_I (ev_var rfl rfl) (ev_var rfl rfl) (by show (0 : Int) < f; omega)) ev_i rfl)).is (decide_eq_false (by
      intro z
      injection z with z
      rw [← Int.natCast_emod] at z
      omega))) s4.gh (fun z => by cases z) fun _ H2 G2 s5 => ?_
    have hlt : f ≤ n := Nat.le_trans (Nat.le_mul_of_pos_left f (by omega)) hle
    refine ⟨.int (f : Int), rfl, ?_⟩
    refine (ev_i (σ := [some (.int (n : Int)), some (.int (f : Int))]) (G := G2) (i := 1)) H2 s5.gh _ fun v H3 G3 s6 h6 => ?_
    cases h6
    exact ⟨_, _, rfl, rfl, n + 1 - (f + 1), G3, by omega, s3.then ((s4.trans s5).trans s6), f + 1, rfl, by omega, by omega, rfl⟩
  · exact s_ret (ev_c rfl) s4.gh fun v H2 G2 s5 h5 => k v H2 G2 ((s3.then s4).then s5) h5
theorem sc_checked_prime : FnScope ["number"] ["number"] (defScope s_checked_prime) := ⟨rfl, rfl, rfl, by decide +kernel, rfl, by decide +kernel, by decide +kernel⟩
theorem ok_checked_prime (T : Tx K mg) : Cal P w K mg base "checked_prime" 2 ["number"] (spPrime fun n => rNat n) := by
  have c_is_prime := ok_is_prime (P := P) (w := w) (base := base) T
  refine T.k_checked_prime.cal sc_checked_prime (fun vs H Q E ⟨n, _, h⟩ => spOf_len h) fun f cdv A outer s H vs Q E hr h => ⟨_, (pss_cons (ps_if (pt_not (pt_val (pe_cal c_is_prime hr rfl (pa_cons (pv 0) pa_nil)))) (pss_one ps_never) pss_nil)
        (pss_one (ps_ret (pv 0)))), ?_⟩
  obtain ⟨n, hn, G, e, ha, k⟩ := h
  obtain ⟨_, rfl, rfl⟩ := pr_one ha
  refine q_if (b := false) (et_not (a := true) (et_B (ev_call (ea_cons (ev_var rfl rfl) ea_nil) fun vs H Q h => ⟨n, hn, h⟩))) e (fun z => by cases z) fun _ H1 G1 s1 => ?_
  exact s_ret (ev_var rfl rfl) s1.gh fun v H2 G2 s2 h2 => k v H2 G2 (s1.trans s2) h2

/-! is_order, checked_order, moved -/
def Ord (ns : List Nat) : Prop := ns.Perm (List.range ns.length) ∧ ns.length < 64
def spIsOrder : Sp := fun vs H Q E => ∃ ns, Ord ns ∧ spOf [rL rNat ns] (rBl true) vs H Q E
theorem sc_is_order : FnScope ["order"] ["order"] (defScope s_is_order) := ⟨rfl, rfl, rfl, by decide +kernel, rfl, by decide +kernel, by decide +kernel⟩
theorem ok_is_order (T : Tx K mg) : Cal P w K mg base "is_order" 1 ["order"] spIsOrder := by
  refine T.k_is_order.cal sc_is_order (fun vs H Q E ⟨n, _, h⟩ => spOf_len h) fun f cdv A outer s H vs Q E hr h => ⟨_, (pss_one (ps_ret (pe_cmpR (opEqD K hr) (pe_callB (cSorted K) (by rfl) T.fsorted (by decide +kernel) (pa_cons (pv 0) pa_nil)) (pe_listRg rfl rfl T.flist (prg_1 rfl T.frange (pe_callB (cLen K) (by rfl) T.flen PySem.boot_len (pa_cons (pv 0) pa_nil)))) (nomark _)))), ?_⟩
  obtain ⟨ns, hn, G, e, ha, k⟩ := h
  obtain ⟨u, rfl, hu⟩ := pr_one ha
  refine s_ret (ev_eqD (d := .list (((List.range ns.length).map Int.ofNat).map PyData.int)) (ev_sorted (ns := ns.map Int.ofNat) (ev_var rfl (rL_nat_int hu)) (by rw [List.length_map]; exact hn.2)) (ev_lrange (n := ns.length) (ev_len (r := rNat) (xs := ns) (ev_var rfl hu)) (by have := hn.2; omega)) ?_ ?_ (shaped_ints _)) e k
  · rintro G' H' v e' ⟨ms, ⟨h1, h2⟩, h3⟩
    rw [sorted_range h1 h2 hn.1] at h3
    exact dp_ints e' h3
  · intro G' H' v e' h3
    exact dp_ints e' (rL_nat_int h3)
def spChkOrder : Sp := fun vs H Q E => ∃ ns, Ord ns ∧ spOfN [rL rNat ns] (rL rNat ns) vs H Q E
theorem spOfN_len {rs : List Rp} {r : Rp} {vs : List V} {H : Hp} {Q : VK} {E : XK} (h : spOfN rs r vs H Q E) : vs.length = rs.length := by
  obtain ⟨G, _, h, _⟩ := h
  exact paired_len h
theorem sc_checked_order : FnScope ["order"] ["order"] (defScope s_checked_order) := ⟨rfl, rfl, rfl, by decide +kernel, rfl, by decide +kernel, by decide +kernel⟩
theorem ok_checked_order (T : Tx K mg) : Cal P w K mg base "checked_order" 2 ["order"] spChkOrder := by
  have c_is_order := ok_is_order (P := P) (w := w) (base := base) T
  refine T.k_checked_order.cal sc_checked_order (fun vs H Q E ⟨n, _, h⟩ => spOfN_len h) fun f cdv A outer s H vs Q E hr h => ⟨_, (pss_cons (ps_if (pt_not (pt_val (pe_cal c_is_order hr rfl (pa_cons (pv 0) pa_nil)))) (pss_one ps_never) pss_nil)
        (pss_one (ps_ret (pe_callTy (cList K) (by rfl) T.flist (by decide +kernel) (pa_cons (pv 0) pa_nil))))), ?_⟩
  obtain ⟨ns, hn, G, e, ha, k⟩ := h
  obtain ⟨u, rfl, hu⟩ := pr_one ha
  refine q_if (b := false) (et_not (a := true) (et_B (ev_call (ea_cons (ev_var (r := rL rNat ns) rfl hu) ea_nil) fun vs H Q h => ⟨ns, hn, h⟩))) e (fun z => by cases z) fun _ H1 G1 s1 => ?_
  exact s_retN (evN_list (r := rNat) (xs := ns) (ev_var rfl (Mo.mo s1.gg hu))) s1.gh fun p H2 G2 hp s2 h2 => k p H2 G2 (s1.fresh hp) (s1.trans s2) h2
def spMoved : Sp := fun vs H Q E => ∃ (rows : List (List Int)) (o : List Nat), Ord o ∧ o.length = rows.length ∧ spOf [rL (rL rInt) rows, rL rNat o] (rL (rL rInt) (movedF [] rows o)) vs H Q E
theorem sc_moved : FnScope ["rows", "order", "place"] ["rows", "order"] (defScope s_moved) := ⟨rfl, rfl, rfl, by decide +kernel, rfl, by decide +kernel, by decide +kernel⟩
theorem ok_moved (T : Tx K mg) : Cal P w K mg base "moved" 2 ["rows", "order"] spMoved := by
  have c_is_order := ok_is_order (P := P) (w := w) (base := base) T
  refine T.k_moved.cal sc_moved (fun vs H Q E ⟨rows, o, _, _, h⟩ => spOf_len h) fun f cdv A outer s H vs Q E hr h => ⟨_, (pss_cons (ps_if (PW.pt (pw_or (pt_cmpR op_ne (pe_callB (cLen K) (by rfl) T.flen PySem.boot_len (pa_cons (pv 1) pa_nil)) (pe_callB (cLen K) (by rfl) T.flen PySem.boot_len (pa_cons (pv 0) pa_nil)) (nomark _)) (pw_or1 (pt_not (pt_val (pe_cal c_is_order hr rfl (pa_cons (pv 1) pa_nil))))))) (pss_one ps_never) pss_nil)
        (pss_one (ps_ret (pe_lc (own := [("place", 2)]) (g := gName 2) (tt := tYes) rfl sc_moved.nd (itL K (pv 1)) (blkOk_by (N := ["rows", "order", "place"]) (sc := defScope s_moved) (by decide +kernel)) (fun _ _ _ _ _ => pg_name (i := 2) sc_moved.nd rfl (Or.inl rfl)) (fun _ _ _ _ _ => pts_nil) (fun _ _ _ _ _ => (pe_ix (ixl K) (pv 0) (pv 2) (fun _ _ => rfl))))))), ?_⟩
  obtain ⟨rows, o, ho, hl, G, e, ha, k⟩ := h
  obtain ⟨u, z, rfl, hu, hz⟩ := pr_two ha
  refine q_if (b := false) (et_or (a := false) (b := false) ((et_test (ev_ne (x := .int (o.length : Int)) (y := .int (rows.length : Int)) (ev_len (r := rNat) (xs := o) (ev_var rfl hz)) (ev_len (r := rL rInt) (xs := rows) (ev_var rfl hu)) rfl)).is (by rw [hl]; simp))
    fun _ => et_not (a := true) (et_B (ev_call (ea_cons (ev_var (r := rL rNat o) rfl hz) ea_nil) fun vs H Q h => ⟨o, ho, h⟩))) e (fun z => by cases z) fun _ H1 G1 s1 => ?_
  refine s_ret (ev_lc1 (r := rL rInt) (fun j => rows.getD j []) (wk_list (r := rNat) (ys := o) (ev_var rfl (Mo.mo s1.gg hz))) (by have := ho.2; omega) (fun _ => rfl) fun y v G' hy e' hv => ?_) s1.gh fun v H2 G2 s2 h2 => k v H2 G2 (s1.trans s2) h2
  have hy2 : y < rows.length := by
    rw [← hl]
    exact List.mem_range.mp (ho.1.mem_iff.mp hy)
  exact ev_ix (r := rL rInt) (xs := rows) (ev_var rfl (Mo.mo (s1.gg.trans e') hu)) (ev_var rfl hv) rfl (by rw [List.getElem?_eq_getElem hy2, List.getD_eq_getElem?_getD, List.getElem?_eq_getElem hy2]; rfl)
/-! factorial -/
def spFact : Sp := fun vs H Q E => ∃ n : Nat, n ≤ 5 ∧ spOf [rNat n] (rNat (fact n)) vs H Q E
theorem sc_factorial : FnScope ["many", "result", "factor"] ["many"] (defScope s_factorial) := ⟨rfl, rfl, rfl, by decide +kernel, rfl, by decide +kernel, by decide +kernel⟩
theorem ok_factorial (T : Tx K mg) : Cal P w K mg base "factorial" 1 ["many"] spFact := by
  refine T.k_factorial.cal sc_factorial (fun vs H Q E ⟨n, _, h⟩ => spOf_len h) fun f cdv A outer s H vs Q E hr h => ⟨_, (pss_cons (ps_set (i := 1) sc_factorial.nd rfl (Or.inl rfl) pe_int)
        (pss_cons (ps_for PassesOwn.never rfl (pi_range2 rfl T.frange (pa_cons pe_int (pa_cons (pe_op op_add (pv 0) pe_int) pa_nil))) (pg_name (i := 2) sc_factorial.nd rfl (Or.inl rfl))
          (pss_one (ps_aug (i := 1) sc_factorial.nd rfl (Or.inl rfl) (pv 2) iop_mul)))
        (pss_one (ps_ret (pv 1))))), ?_⟩
  obtain ⟨n, hn, G, e, ha, k⟩ := h
  obtain ⟨_, rfl, rfl⟩ := pr_one ha
  refine q_set ev_i e fun v H1 G1 s1 h1 => ?_
  cases h1
  refine q_for1 (r0 := rNat) s1 (wk_rng2 (lo := 2) (n := n + 1) (ev_n 2) (ev_addN (ev_var rfl rfl) (ev_n 1)) (by omega)) (fun i σ' _ _ => ∃ x, σ' = [some (.int (n : Int)), some (.int (factTo i : Nat)), x]) ?_ ?_ ?_
  · exact fun H1 G1 _ => ⟨none, rfl⟩
  · rintro i y σ' v Ha Hb G' G2 hi s2 e1 e2 e3 hv ⟨x, rfl⟩
    cases hv
    have hy : 2 + i = y := by
      obtain ⟨hlt, e⟩ := List.getElem?_eq_some_iff.mp hi
      rw [List.getElem_map, List.getElem_range] at e
      exact e
    subst hy
    have hlt : i < n + 1 - 2 := by
      have := (List.getElem?_eq_some_iff.mp hi).1
      rw [List.length_map, List.length_range] at this
      exact this
    refine ⟨.int (factTo i : Nat), rfl, .int ((2 + i : Nat) : Int), rfl, _, _, rfl, rfl, .inr ⟨by omega, by omega⟩, G', s2, e2, some (.int ((2 + i : Nat) : Int)), ?_⟩
    have ef : ((factTo i : Nat) : Int) * ((2 + i : Nat) : Int) = ((factTo (i + 1) : Nat) : Int) := by
      rw [← Int.natCast_mul]
      congr 1
      show fact (i + 1) * (2 + i) = (i + 1 + 1) * fact (i + 1)
      rw [Nat.mul_comm, Nat.add_comm 2 i]
    show [_, some (V.int (((factTo i : Nat) : Int) * ((2 + i : Nat) : Int))), _] = _
    rw [ef]
  · rintro σ' H2 G2 s2 e2 ⟨x, rfl⟩
    rw [List.length_map, List.length_range]
    refine s_ret (ev_var (r := rNat (fact n)) rfl (by rw [factTo_end]; exact rfl)) s2.gh fun v H3 G3 s3 h3 => k v H3 G3 (s2.then s3) h3
end
end Vc
namespace Vc
open PySem PySem.Spec PyProof.Rows L2 Vm
section
variable {σ : L2.St} {H H' G G' G2 : Hp} {te ta tb tc : TE} {t u : TT} {r r1 r2 : Rp}
theorem EvN.mono [Mo r] (e : Ex G G2) (h : EvN te σ G r) : EvN te σ G2 r := fun H x Q q => h H (e.trans x) Q fun p H' G' hn s hr => by
  obtain ⟨s2, e2⟩ := Step.un e x s
  exact q p H' _ hn s2 (Mo.mo e2 hr)
theorem evN_ifT [Mo r] (h : EvT t σ G true) (h1 : EvN ta σ G r) : EvN (tIf t ta tb) σ G r := fun H x Q q => h H x _ fun H1 G1 s1 => by
  show ta σ H1 Q
  exact h1.mono s1.gg H1 s1.gh Q fun p H2 G2 hn s2 => q p H2 G2 (s1.fresh hn) (s1.trans s2)
end
abbrev natV (ns : List Nat) : List V := ns.map fun n : Nat => V.int (n : Int)
theorem seqIx {i n : Nat} (h : i < n) : seqIndex? (i : Int) n = some i := by
  have h0 : ¬ (i : Int) < 0 := by omega
  unfold seqIndex?
  simp [h0, h]
theorem natV_get {ns : List Nat} {i x : Nat} (h : ns[i]? = some x) : (natV ns)[i]? = some (.int (x : Int)) := by
  rw [List.getElem?_map, h]
  rfl
theorem natV_erase : ∀ (ns : List Nat) (i : Nat), (natV ns).eraseIdx i = natV (ns.eraseIdx i)
  | [], _ => rfl
  | a :: r, 0 => rfl
  | a :: r, i + 1 => congrArg (V.int (a : Int) :: ·) (natV_erase r i)
section
variable {P : Program} {w : World} {K : PySem.W.Frag} {mg : Str → Option Value} {base : Heap}
/-! order_of_number -/
def OrdOf (n : Nat) (o : List Nat) : Prop := o.Perm (List.range n)
def spOrdOf : Sp := fun vs H Q E => ∃ n k : Nat, n ≤ 5 ∧ k < fact n ∧ spOf [rNat n, rNat k] (rE (OrdOf n) (rL rNat)) vs H Q E
theorem sc_order_of_number : FnScope ["many", "number", "left", "rest", "order", "place", "block"] ["many", "number"] (defScope s_order_of_number) := ⟨rfl, rfl, rfl, by decide +kernel, rfl, by decide +kernel, by decide +kernel⟩
theorem ok_order_of_number (T : Tx K mg) : Cal P w K mg base "order_of_number" 2 ["many", "number"] spOrdOf := by
  have c_factorial := ok_factorial (P := P) (w := w) (base := base) T
  refine T.k_order_of_number.cal sc_order_of_number (fun vs H Q E ⟨n, k, _, _, h⟩ => spOf_len h) fun f cdv A outer s H vs Q E hr h => ⟨_, (pss_cons (ps_if (pt_not (pt_chain op_le op_lt pe_int (pv 1) (pe_cal c_factorial hr rfl (pa_cons (pv 0) pa_nil)))) (pss_one ps_never) pss_nil)
        (pss_cons (ps_set (i := 2) sc_order_of_number.nd rfl (Or.inl rfl) (pe_listRg rfl rfl T.flist (prg_1 rfl T.frange (pv 0))))
        (pss_cons (ps_set (i := 3) sc_order_of_number.nd rfl (Or.inl rfl) (pv 1))
        (pss_cons (ps_set (i := 4) sc_order_of_number.nd rfl (Or.inl rfl) (pe_lst pa_nil))
        (pss_cons (ps_for PassesOwn.never rfl (pi_range1 rfl T.frange (pa_cons (pv 0) pa_nil)) (pg_name (i := 5) sc_order_of_number.nd rfl (Or.inl rfl))
          (pss_cons (ps_set (i := 6) sc_order_of_number.nd rfl (Or.inl rfl) (pe_cal c_factorial hr rfl (pa_cons (pe_op op_sub (pe_op op_sub (pv 0) (pv 5)) pe_int) pa_nil)))
          (pss_cons (ps_expr (bmK K (pe_bm PySem.F.plainAttrs_list PySem.F.slot_list_append PySem.F.type_list_append mt_append (pv 4) (pa_cons (bmK K (pe_bm PySem.F.plainAttrs_list PySem.F.slot_list_pop PySem.F.type_list_pop mt_popAt (pv 2) (pa_cons (pe_op op_fdiv (pv 3) (pv 6)) pa_nil))) pa_nil))))
          (pss_one (ps_set (i := 3) sc_order_of_number.nd rfl (Or.inl rfl) (pe_op op_mod (pv 3) (pv 6)))))))
        (pss_one (ps_ret (pv 4)))))))), ?_⟩
  obtain ⟨n, m, hn, hm, G, e, ha, k⟩ := h
  obtain ⟨_, _, rfl, rfl, h2⟩ := pr_two ha
  cases h2
  refine q_if (b := false) (et_not (a := true) (et_test ((ev_chainI (g1 := fun i j => decide (i ≤ j)) (g2 := fun i j => decide (i < j)) (i := 0) (j := m) (k := (fact n : Nat)) ev_i (ev_var rfl rfl) (fun _ => ev_call (ea_cons (ev_var rfl rfl) ea_nil) fun vs H Q h => ⟨n, hn, h⟩)).is fun G' v _ z => by
    have z' : v = V.bl (decide ((0 : Int) ≤ (m : Int)) && decide ((m : Int) < ((fact n : Nat) : Int))) := z
    rw [z', decide_eq_true (by omega), decide_eq_true (by omega)]
    rfl))) e (fun z => by cases z) fun _ H1 G1 s1 => ?_
  refine q_setN (evN_lrange (n := n) (ev_var rfl rfl) (by omega)) s1.gh fun l H2 G2 hl s2 h2 => ?_
  obtain ⟨_, q, hl2⟩ := rL_vals (f := fun n : Nat => V.int (n : Int)) h2
  cases q
  have t2 : Step H G H2 G1 := s1.trans (StepM.of_ex s1.gh s2.ex)
  have gl : G1 l = none := s1.gh.dom hl
  refine q_set (r := rNat m) (ev_var rfl rfl) t2.gh fun v H3 G3 s3 h3 => ?_
  cases h3
  have gl3 : G3 l = none := s3.fr l (by rw [s2.gh.l hl2]; simp) gl
  refine q_new fun p hp => ?_
  have t3 : Step H G (upd H3 p (.lst [])) G3 := (t2.trans s3).mut ((t2.trans s3).fresh hp) (s3.gh.dom hp)
  have lp : l ≠ p := fun z => by
    have := s3.l (s2.gh.l hl2)
    rw [z, hp] at this
    cases this
  have l0 : H l = none := s1.fresh hl
  have p0 : H p = none := (t2.trans s3).fresh hp
  refine q_for1 (r0 := rNat) t3 (wk_rng1 (n := n) (ev_var rfl rfl) (by omega)) (fun i σ' H' G' => ∃ (os ls : List Nat) (rest : Nat) (x y : Option V), σ' = [some (.int (n : Int)), some (.int (m : Int)), some (.ref l), some (.int (rest : Int)), some (.ref p), x, y] ∧
    H' l = some (.lst (natV ls)) ∧ H' p = some (.lst (natV os)) ∧ G' l = none ∧ G' p = none ∧ (os ++ ls).Perm (List.range n) ∧ ls.length = n - i ∧ rest < fact (n - i) ∧ os.length = i) ?_ ?_ ?_
  · intro H4 G4 s4
    exact ⟨[], List.range n, m, none, none, rfl, s4.l (by rw [upd_ne lp]; exact s3.l (s2.gh.l hl2)), s4.l upd_same, s4.fr l (by rw [upd_ne lp, s3.l (s2.gh.l hl2)]; simp) gl3, s4.fr p (by rw [upd_same]; simp) (s3.gh.dom hp), .refl _, by simp, hm, rfl⟩
  · rintro i y σ' v Ha Hb G' Gs hi s4 e1 e2 e3 hv ⟨os, ls, rest, x, z, rfl, a1, a2, a3, a4, a5, a6, a7, a8⟩
    cases hv
    have hlt : i < n := by
      have := (List.getElem?_eq_some_iff.mp hi).1
      rw [List.length_range] at this
      exact this
    have hy : i = y := by
      obtain ⟨hlt, e⟩ := List.getElem?_eq_some_iff.mp hi
      rw [List.getElem_range] at e
      exact e
    subst hy
    have hf1 : fact (n - i - 1) ≤ 120 := fact_le5 (by omega)
    have hf0 : 0 < fact (n - i - 1) := fact_pos _
    have hix : rest / fact (n - i - 1) < ls.length := by
      rw [a6]
      exact order_index hlt a7
    have hq : rest / fact (n - i - 1) < 6 := by omega
    -- block
    refine q_set (r := rNat (fact (n - i - 1))) (ev_call (ea_cons (ev_subN (ev_subN (a := n) (b := i) (ev_var rfl rfl) (ev_var rfl rfl) (by omega)) (ev_n 1) (by omega)) ea_nil) fun vs H Q h => ⟨n - i - 1, by omega, h⟩) s4.gh fun v H5 G5 s5 h5 => ?_
    cases h5
    -- the next of the order
    have b1 := s5.l (e3.l a1)
    have b2 := s5.l (e3.l a2)
    have b3 : G5 l = none := s5.fr l (by rw [e3.l a1]; simp) a3
    have b4 : G5 p = none := s5.fr p (by rw [e3.l a2]; simp) a4
    refine ⟨.ref p, rfl, Or.inl ⟨rfl, _, Or.inl (Or.inl b2)⟩, .ref l, rfl, Or.inl ⟨rfl, _, Or.inl (Or.inl b1)⟩, ?_⟩
    refine (ev_divN (σ := [some (.int (n : Int)), some (.int (m : Int)), some (.ref l), some (.int (rest : Int)), some (.ref p), some (.int (i : Int)), some (.int ((fact (n - i - 1) : Nat) : Int))]) (G := G5) (ta := tVar 3) (tb := tVar 6) (a := rest) (b := fact (n - i - 1)) (ev_var rfl rfl) (ev_var rfl rfl) hf0 (by omega)) H5 s5.gh _ fun v H6 G6 s6 h6 => ?_
    cases h6
    have c1 := s6.l b1
    have c2 := s6.l b2
    obtain ⟨xx, hxx⟩ : ∃ xx, ls[rest / fact (n - i - 1)]? = some xx := ⟨_, List.getElem?_eq_getElem hix⟩
    refine ⟨l, natV ls, _, rest / fact (n - i - 1), .int (xx : Int), rfl, rfl, c1, Int.le_trans (by decide) (Int.natCast_nonneg _), Int.lt_trans (Int.ofNat_lt.mpr hq) (by decide), seqIx (by rw [List.length_map]; exact hix), natV_get hxx, ?_⟩
    refine ⟨p, natV os, _, rfl, rfl, by rw [upd_ne (fun z => lp z.symm)]; exact c2, by rw [List.length_map, a8]; exact Nat.lt_of_lt_of_le hlt (Nat.le_trans hn (by decide)), ?_⟩
    rw [natV_erase]
    have d3 : G6 l = none := s6.fr l (by rw [b1]; simp) b3
    have d4 : G6 p = none := s6.fr p (by rw [b2]; simp) b4
    have t6 : Step H G (upd (upd H6 l (.lst (natV (ls.eraseIdx (rest / fact (n - i - 1)))))) p (.lst (natV os ++ [.int (xx : Int)]))) G6 := (((s4.trans s5).trans s6).mut l0 d3).mut p0 d4
    refine s_set (r := rNat (rest % fact (n - i - 1))) (ev_modN (ev_var rfl rfl) (ev_var rfl rfl) hf0) t6.gh fun v H7 G7 s7 h7 => ?_
    cases h7
    obtain ⟨q1, q2, q3⟩ := order_step a5 a6 hlt a7 hxx
    refine ⟨G7, t6.trans s7, (e2.trans s5.gg).trans (s6.gg.trans s7.gg), os ++ [xx], ls.eraseIdx (rest / fact (n - i - 1)), rest % fact (n - i - 1), _, _, rfl, s7.l (by rw [upd_ne lp, upd_same]), s7.l (by
      rw [upd_same]
      unfold natV
      rw [List.map_append]
      rfl), s7.fr l (by rw [upd_ne lp, upd_same]; simp) d3, s7.fr p (by rw [upd_same]; simp) d4, q1, q2, q3, by rw [List.length_append, a8]; rfl⟩
  · rintro σ' H4 G4 s4 e4 ⟨os, ls, rest, x, z, rfl, a1, a2, a3, a4, a5, a6, a7, a8⟩
    rw [List.length_range] at a6
    have hls : ls = [] := List.length_eq_zero_iff.mp (by omega)
    rw [hls, List.append_nil] at a5
    have s5 := s4.freeze p0 a4 a2
    exact s_ret (ev_var (r := rE (OrdOf n) (rL rNat)) rfl ⟨os, a5, rL_of_vals (f := fun n : Nat => V.int (n : Int)) upd_same⟩) s5.gh fun v H5 G5 s6 h6 => k v H5 G5 (s5.trans s6) h6
end
end Vc
namespace Vc
open PySem PySem.Spec PyProof.Rows L2 Vm
section
variable {σ : L2.St} {H H0 G G0 : Hp} {te : TE} {D : Ends} {tz : TS}
theorem s_augI {i : Nat} {f : Int → Int → Int} {a b : Int} (hx : σ[i]? = some (some (.int a))) (h : Ev te σ G (rInt b)) (e : Ex G H) (k : ∀ H1 G1, Step H G H1 G1 → D.nx (σ.set i (some (.int (f a b)))) H1) : tAug i te (ipI f) D σ H :=
  ⟨.int a, hx, h H e _ fun v H1 G1 s1 h1 => ⟨a, b, rfl, h1, k H1 G1 s1⟩⟩
theorem q_augI {i : Nat} {f : Int → Int → Int} {a b : Int} (hx : σ[i]? = some (some (.int a))) (h : Ev te σ G (rInt b)) (e : Ex G H) (k : ∀ H1 G1, Step H G H1 G1 → tz D (σ.set i (some (.int (f a b)))) H1) : tSeq (tAug i te (ipI f)) tz D σ H := s_augI (D := { D with nx := tz D }) hx h e k
end
theorem idx_spec {ls : List Nat} {x : Nat} (h : x ∈ ls) : ls[ls.idxOf x]? = some x ∧ ls.idxOf x < ls.length ∧ ∀ (m : Nat) (z : V), m < ls.idxOf x → (natV ls)[m]? = some z → eqV z (.int (x : Int)) = false := by
  have hl := List.idxOf_lt_length_of_mem h
  refine ⟨?_, hl, fun m z hm hz => ?_⟩
  · rw [List.getElem?_eq_getElem hl, List.getElem_idxOf hl]
  · have hml : m < ls.length := by omega
    rw [List.getElem?_map, List.getElem?_eq_getElem hml] at hz
    cases hz
    have h1 : (ls[m] == x) = false := List.not_of_lt_findIdx (p := (· == x)) hm
    show ((ls[m] : Int) == (x : Int)) = false
    rw [beq_eq_false_iff_ne] at h1 ⊢
    omega
section
variable {P : Program} {w : World} {K : PySem.W.Frag} {mg : Str → Option Value} {base : Heap}
/-! order_number -/
def spOrdNum : Sp := fun vs H Q E => ∃ ns : List Nat, Ord ns ∧ ns.length ≤ 5 ∧ spOf [rL rNat ns] (rE (fun _ : Int => True) rInt) vs H Q E
theorem sc_order_number : FnScope ["order", "left", "number", "place", "row", "index"] ["order"] (defScope s_order_number) := ⟨rfl, rfl, rfl, by decide +kernel, rfl, by decide +kernel, by decide +kernel⟩
theorem ok_order_number (T : Tx K mg) : Cal P w K mg base "order_number" 3 ["order"] spOrdNum := by
  have c_is_order := ok_is_order (P := P) (w := w) (base := base) T
  have c_checked_order := ok_checked_order (P := P) (w := w) (base := base) T
  have c_factorial := ok_factorial (P := P) (w := w) (base := base) T
  refine T.k_order_number.cal sc_order_number (fun vs H Q E ⟨n, _, _, h⟩ => spOf_len h) fun f cdv A outer s H vs Q E hr h => ⟨_, (pss_cons (ps_set (i := 1) sc_order_number.nd rfl (Or.inl rfl) (pe_ifExp (pt_val (pe_cal c_is_order hr rfl (pa_cons (pv 0) pa_nil))) (pe_cal c_checked_order hr rfl (pa_cons (pe_callB (cSorted K) (by rfl) T.fsorted (by decide +kernel) (pa_cons (pv 0) pa_nil)) pa_nil)) (pe_cal c_checked_order hr rfl (pa_cons (pv 0) pa_nil))))
        (pss_cons (ps_set (i := 2) sc_order_number.nd rfl (Or.inl rfl) pe_int)
        (pss_cons (ps_for PassesOwn.never rfl (itE K rfl T.fenumerate (pa_cons (pv 0) pa_nil)) (tgT K rfl (pgs_cons (pg_name (i := 3) sc_order_number.nd rfl (Or.inl rfl)) (pgs_cons (pg_name (i := 4) sc_order_number.nd rfl (Or.inl rfl)) pgs_nil)))
          (pss_cons (ps_set (i := 5) sc_order_number.nd rfl (Or.inl rfl) (bmK K (pe_bm PySem.F.plainAttrs_list PySem.F.slot_list_index PySem.F.type_list_index mt_index (pv 1) (pa_cons (pv 4) pa_nil))))
          (pss_cons (ps_aug (i := 2) sc_order_number.nd rfl (Or.inl rfl) (pe_op op_mul (pv 5) (pe_cal c_factorial hr rfl (pa_cons (pe_op op_sub (pe_op op_sub (pe_callB (cLen K) (by rfl) T.flen PySem.boot_len (pa_cons (pv 0) pa_nil)) (pv 3)) pe_int) pa_nil))) ip_add)
          (pss_one (ps_expr (bmK K (pe_bm PySem.F.plainAttrs_list PySem.F.slot_list_pop PySem.F.type_list_pop mt_popAt (pv 1) (pa_cons (pv 5) pa_nil))))))))
        (pss_one (ps_ret (pv 2)))))), ?_⟩
  obtain ⟨ns, hn, h5, G, e, ha, k⟩ := h
  obtain ⟨u, rfl, hu⟩ := pr_one ha
  have hsort : ∀ {σ : L2.St}, σ[0]? = some (some u) → Ev (tCB (rSorted K) (tCons (tVar 0) tNil)) σ G (rL rNat (List.range ns.length)) := fun hσ =>
    (ev_sorted (ns := ns.map Int.ofNat) (ev_var hσ (rL_nat_int hu)) (by rw [List.length_map]; exact hn.2)).is fun G' v _ z => by
      obtain ⟨ms, ⟨h1, h2⟩, h3⟩ := z
      rw [sorted_range h1 h2 hn.1] at h3
      exact rL_int_nat h3
  refine q_setN (r := rL rNat (List.range ns.length)) (evN_ifT (et_B (ev_call (ea_cons (ev_var (r := rL rNat ns) rfl hu) ea_nil) fun vs H Q h => ⟨ns, hn, h⟩)) (evN_call (ea_cons (hsort rfl) ea_nil) fun vs H Q h => ⟨_, ⟨by rw [List.length_range], by rw [List.length_range]; exact hn.2⟩, h⟩)) e fun l H1 G1 hl s1 h1 => ?_
  obtain ⟨_, q, hl1⟩ := rL_vals (f := fun n : Nat => V.int (n : Int)) h1
  cases q
  have t1 : Step H G H1 G := StepM.of_ex e s1.ex
  have gl : G l = none := e.dom hl
  refine q_set ev_i t1.gh fun v H2 G2 s2 h2 => ?_
  cases h2
  refine q_for2 (r0 := rNat) (r1 := rNat) (t1.trans s2) (wk_enum (r := rNat) (ys := ns) (ev_var rfl (Mo.mo s2.gg hu))) (fun i σ' H' G' => ∃ (ls : List Nat) (num : Int) (x y z : Option V), σ' = [some u, some (.ref l), some (.int num), x, y, z] ∧ H' l = some (.lst (natV ls)) ∧ G' l = none ∧ ls.Perm (ns.drop i) ∧ rL rNat ns G' u) ?_ ?_ ?_
  · intro H3 G3 s3
    exact ⟨List.range ns.length, 0, none, none, none, rfl, (s2.trans s3).l (s1.gh.l hl1), (s2.trans s3).fr l (by rw [s1.gh.l hl1]; simp) gl, hn.1.symm, Mo.mo (s2.gg.trans s3.gg) hu⟩
  · rintro i y σ' v v2 Ha Hb G' Gs hi s3 e1 e2 e3 hv hv2 ⟨ls, num, x, y2, z, rfl, a1, a2, a3, a4⟩
    rw [List.getElem?_mapIdx] at hi
    cases hq : ns[i]? with
    | none =>
      rw [hq] at hi
      cases hi
    | some row =>
      rw [hq] at hi
      cases hi
      cases hv
      cases hv2
      have hil : i < ns.length := (List.getElem?_eq_some_iff.mp hq).1
      have hdrop : ns.drop i = row :: ns.drop (i + 1) := by
        rw [List.drop_eq_getElem_cons hil]
        rw [List.getElem?_eq_getElem hil] at hq
        rw [Option.some.inj hq]
      have hmem : row ∈ ls := a3.mem_iff.mpr (by rw [hdrop]; exact List.mem_cons_self)
      obtain ⟨q1, q2, q3⟩ := idx_spec hmem
      have b1 := e3.l a1
      have hlen : ls.length = ns.length - i := by rw [a3.length_eq, List.length_drop]
      refine ⟨.ref l, rfl, Or.inl ⟨rfl, _, Or.inl (Or.inl b1)⟩, .int (row : Int), rfl, l, natV ls, _, ls.idxOf row, .int (row : Int), rfl, rfl, SqL.of b1, rfl, flat_nat ls, natV_get q1, by show ((row : Int) == (row : Int)) = true; exact beq_self_eq_true _, q3, ?_⟩
      have hj : ls.idxOf row < 6 := by omega
      generalize hJ : ls.idxOf row = j at q1 q2 q3 hj ⊢
      refine q_augI (b := (j : Int) * (fact (ns.length - i - 1) : Nat)) rfl (ev_I (C := CMul) (i := (j : Int)) (j := (fact (ns.length - i - 1) : Nat)) (ev_var rfl rfl) (ev_call (ea_cons (ev_subN (ev_subN (ev_len (r := rNat) (xs := ns) (ev_var rfl a4)) (ev_var (r := rNat i) rfl rfl) (by omega)) (ev_n 1) (by omega)) ea_nil) fun vs H Q h => ⟨ns.length - i - 1, by omega, h⟩) (.inl ⟨by omega, by omega⟩)) s3.gh fun H4 G4 s4 => ?_
      have c1 := s4.l b1
      have c2 : G4 l = none := s4.fr l (by rw [b1]; simp) a2
      refine ⟨.ref l, rfl, Or.inl ⟨rfl, _, Or.inl (Or.inl c1)⟩, .int (j : Int), rfl, l, natV ls, _, j, .int (row : Int), rfl, rfl, c1, by omega, by omega, seqIx (by rw [List.length_map]; exact q2), natV_get q1, ?_⟩
      rw [natV_erase]
      refine ⟨G4, (s3.trans s4).mut hl c2, e2.trans s4.gg, ls.eraseIdx j, _, _, _, _, rfl, upd_same, c2, ?_, Mo.mo s4.gg a4⟩
      have p1 := eraseIdx_perm ls j row q1
      have p2 := a3
      rw [hdrop] at p2
      exact (List.perm_cons row).mp (p1.symm.trans p2)
  · rintro σ' H3 G3 s3 e3 ⟨ls, num, x, y, z, rfl, a1, a2, a3, a4⟩
    exact s_ret (ev_var (r := rE (fun _ : Int => True) rInt) rfl ⟨num, trivial, rfl⟩) s3.gh fun v H4 G4 s4 h4 => k v H4 G4 (s3.trans s4) h4
end
end Vc
namespace Vm
def LotOk (m : Nat) (lot : List Nat) : Prop := lot.Pairwise (· < ·) ∧ ∀ x ∈ lot, x < m
def covB (m : Nat) (one other : List Nat) : Bool := (List.range m).all fun x => one.contains x || other.contains x
structure FamOk (m : Nat) (fam : List (List Nat)) : Prop where
  lot : ∀ l ∈ fam, LotOk m l
  no : ∀ (i j : Nat) (a b : List Nat), i ≤ j → fam[i]? = some a → fam[j]? = some b → covB m a b = false
def ssz (m : Nat) (lot : List Nat) (rows : Nat) : Nat := (m - (outs m lot).length) * rows * ((outs m lot).length - 1) + 1 + (outs m lot).length * rows * (m - 1)
def szF (m : Nat) (fam : List (List Nat)) (rows : Nat) : Nat := rows * (m - 1) + (fam.map fun l => ssz m l rows).sum
def fitsB (m : Nat) (fam : List (List Nat)) (lot : List Nat) : Bool := (fam ++ [lot]).all fun o => !covB m o lot
theorem sum_cast {α : Type} (f : α → Nat) : ∀ l : List α, (l.map fun x => ((f x : Nat) : Int)).sum = (((l.map f).sum : Nat) : Int)
  | [] => rfl
  | a :: l => by rw [List.map_cons, List.map_cons, List.sum_cons, List.sum_cons, sum_cast f l, Int.natCast_add]
theorem all_take {α : Type} {q : α → Bool} {l : List α} {i : Nat} {x : α} (h : (l.take i).all q = true) (hx : l[i]? = some x) (hq : q x = true) : (l.take (i + 1)).all q = true := by
  rw [List.take_succ, hx, List.all_append, h]
  simp [hq]
theorem all_bad {α : Type} {q : α → Bool} {l : List α} {i : Nat} {x : α} (hx : l[i]? = some x) (hq : q x = false) : l.all q = false := by
  rw [List.all_eq_false]
  exact ⟨x, List.mem_of_getElem? hx, by rw [hq]; simp⟩
/-- a lot that does not cover has a mixer outside -/
theorem outs_pos {m : Nat} {lot : List Nat} (h : covB m lot lot = false) : 1 ≤ (outs m lot).length := by
  unfold covB at h
  rw [List.all_eq_false] at h
  obtain ⟨x, hx, hq⟩ := h
  have : x ∈ outs m lot := by
    refine List.mem_filter.mpr ⟨hx, ?_⟩
    simp at hq ⊢
    exact hq
  exact List.length_pos_of_mem this
end Vm
namespace Vc
open PySem PySem.Spec PyProof.Rows L2 Vm
theorem not_true {b : Bool} (h : (!b) = true) : b = false := by cases b <;> simp at h ⊢
theorem not_false {b : Bool} (h : (!b) = false) : b = true := by cases b <;> simp at h ⊢
section
variable {σ : L2.St} {G : Hp} {te : TE}
theorem ev_flt1 {β : Type} {wi : TI} {t : TT} {vs : List Nat} {ys : List β} {r0 : β → Rp} [∀ y, Mo (r0 y)] {j : Nat} {r : β → Rp} [∀ y, Mo (r y)] (b : β → Bool) (w : Wk wi (gName j) σ G ys (S1 r0 j)) (hz : ys.length ≤ 1000000)
    (hw : ∀ v, wipe ((wipe σ vs).set j (some v)) vs = wipe σ vs)
    (ht : ∀ y v G', y ∈ ys → Ex G G' → r0 y G' v → EvT t ((wipe σ vs).set j (some v)) G' (b y)) (he : ∀ y v G', y ∈ ys → b y = true → Ex G G' → r0 y G' v → Ev te ((wipe σ vs).set j (some v)) G' (r y)) :
    Ev (tLc wi (gName j) t te vs) σ G (rL r (ys.filter b)) := by
  have h := ev_lcF1 (r := r) b id w hz hw ht he
  rw [List.map_id] at h
  exact h
theorem ev_map1 {β : Type} {wi : TI} {vs : List Nat} {ys : List β} {r0 : β → Rp} [∀ y, Mo (r0 y)] {j : Nat} {r : β → Rp} [∀ y, Mo (r y)] (w : Wk wi (gName j) σ G ys (S1 r0 j)) (hz : ys.length ≤ 1000000)
    (hw : ∀ v, wipe ((wipe σ vs).set j (some v)) vs = wipe σ vs) (he : ∀ y v G', y ∈ ys → Ex G G' → r0 y G' v → Ev te ((wipe σ vs).set j (some v)) G' (r y)) :
    Ev (tLc wi (gName j) tYes te vs) σ G (rL r ys) := by
  have h := ev_lc1 (r := r) id w hz hw he
  rw [List.map_id] at h
  exact h
end
theorem st0 {H G : Hp} (e : Ex G H) : Step H G H G := StepM.refl e
theorem get_range {n i y : Nat} (h : (List.range n)[i]? = some y) : i = y ∧ i < n := by
  obtain ⟨hlt, e⟩ := List.getElem?_eq_some_iff.mp h
  rw [List.getElem_range] at e
  rw [List.length_range] at hlt
  exact ⟨e, hlt⟩
theorem get_enum {α : Type} {l : List α} {i : Nat} {p : Nat × α} (h : (l.mapIdx fun i y => (i, y))[i]? = some p) : ∃ x, p = (i, x) ∧ l[i]? = some x := by
  rw [List.getElem?_mapIdx] at h
  cases hq : l[i]? with
  | none =>
    rw [hq] at h
    cases h
  | some x =>
    rw [hq] at h
    cases h
    exact ⟨x, rfl, rfl⟩
section
variable {P : Program} {w : World} {K : PySem.W.Frag} {mg : Str → Option Value} {base : Heap}
/-! is_lot -/
def spIsLot : Sp := fun vs H Q E => ∃ (lot : List Nat) (m : Nat), LotOk m lot ∧ spOf [rL rNat lot, rNat m] (rBl true) vs H Q E
theorem sc_is_lot : FnScope ["lot", "mixers", "index", "mixer"] ["lot", "mixers"] (defScope s_is_lot) := ⟨rfl, rfl, rfl, by decide +kernel, rfl, by decide +kernel, by decide +kernel⟩
theorem ok_is_lot (T : Tx K mg) : Cal P w K mg base "is_lot" 1 ["lot", "mixers"] spIsLot := by
  refine T.k_is_lot.cal sc_is_lot (fun vs H Q E ⟨n, _, _, h⟩ => spOf_len h) fun f cdv A outer s H vs Q E hr h => ⟨_, (pss_cons (ps_for PassesOwn.never rfl (itE K rfl T.fenumerate (pa_cons (pv 0) pa_nil)) (tgT K rfl (pgs_cons (pg_name (i := 2) sc_is_lot.nd rfl (Or.inl rfl)) (pgs_cons (pg_name (i := 3) sc_is_lot.nd rfl (Or.inl rfl)) pgs_nil)))
          (pss_one (ps_if (PW.pt (pw_or (pt_not (pt_chain op_le op_lt pe_int (pv 3) (pv 1))) (pw_or1 (PW.pt (pw_and (pt_cmpR op_gt (pv 2) pe_int (nomark _)) (pw_and1 (pt_cmpR op_ge (pe_ix (ixl K) (pv 0) (pe_op op_sub (pv 2) pe_int) (fun _ _ => rfl)) (pv 3) (nomark _)))))))) (pss_one (ps_ret pe_bl)) pss_nil)))
        (pss_one (ps_ret pe_bl))), ?_⟩
  obtain ⟨lot, m, ⟨hp, hm⟩, G, e, ha, k⟩ := h
  obtain ⟨u, _, rfl, hu, rfl⟩ := pr_two ha
  refine q_for2 (r0 := rNat) (r1 := rNat) (st0 e) (wk_enum (r := rNat) (ys := lot) (ev_var rfl hu)) (fun i σ' H' G' => ∃ x y, σ' = [some u, some (.int (m : Int)), x, y] ∧ rL rNat lot G' u) ?_ ?_ ?_
  · exact fun H1 G1 s1 => ⟨none, none, rfl, Mo.mo s1.gg hu⟩
  · rintro i p σ' v v2 Ha Hb G' Gs hi s1 e1 e2 e3 hv hv2 ⟨x, y, rfl, hu1⟩
    obtain ⟨mx, rfl, hq⟩ := get_enum hi
    cases hv
    cases hv2
    have hmx := hm mx (List.mem_of_getElem? hq)
    refine s_if (b := false) ((et_or (a := false) (b := decide (0 < i) && false) (et_not (a := true) (et_test ((ev_chainI (g1 := fun i j => decide (i ≤ j)) (g2 := fun i j => decide (i < j)) (i := 0) (j := (mx : Int)) (k := (m : Int)) ev_i (ev_var rfl rfl) (fun _ => ev_var rfl rfl)).is fun G' v _ z => by
      have z' : v = V.bl (decide ((0 : Int) ≤ (mx : Int)) && decide ((mx : Int) < (m : Int))) := z
      rw [z', decide_eq_true (by omega), decide_eq_true (by omega)]
      rfl))) fun _ => et_and (b := false) ((et_test (ev_I0 (i := (i : Int)) (j := 0) (ev_var rfl rfl) ev_i)).is (decide_eq_decide.mpr (by omega))) fun h0 => ?_).is (by simp)) s1.gh (fun z => by cases z) fun _ H1 G1 s2 => ⟨G1, s1.trans s2, e2.trans s2.gg, _, _, rfl, Mo.mo s2.gg hu1⟩
    have h0' := of_decide_eq_true h0
    obtain ⟨hil, hq2⟩ := List.getElem?_eq_some_iff.mp hq
    have hlt : lot[i - 1] < mx := by
      rw [← hq2]
      exact List.pairwise_iff_getElem.mp hp (i - 1) i (by omega) hil (by omega)
    refine (et_test (ev_I0 (i := (lot[i - 1] : Int)) (j := (mx : Int)) (ev_ix (r := rNat) (xs := lot) (n := i - 1) (ev_var rfl hu1) (ev_subN (a := i) (b := 1) (ev_var rfl rfl) (ev_n 1) (by omega)) rfl (List.getElem?_eq_getElem (by omega))) (ev_var rfl rfl))).is (decide_eq_false (by omega))
  · rintro σ' H1 G1 s1 e1 ⟨x, y, rfl, hu1⟩
    exact s_ret (ev_c rfl) s1.gh fun v H2 G2 s2 h2 => k v H2 G2 (s1.trans s2) h2
/-! holders, outsiders, _law_out -/
def spHold : Sp := fun vs H Q E => ∃ (lot : List Nat) (m : Nat), m ≤ 1000 ∧ spOf [rL rNat lot, rNat m] (rL rNat (outs m lot)) vs H Q E
def spOuts : Sp := fun vs H Q E => ∃ (lot : List Nat) (m : Nat), m ≤ 1000 ∧ spOf [rNat m, rL rNat lot] (rL rNat (outs m lot)) vs H Q E
theorem sc_holders : FnScope ["lot", "mixers", "mixer"] ["lot", "mixers"] (defScope s_holders) := ⟨rfl, rfl, rfl, by decide +kernel, rfl, by decide +kernel, by decide +kernel⟩
theorem ok_holders (T : Tx K mg) : Cal P w K mg base "holders" 1 ["lot", "mixers"] spHold := by
  refine T.k_holders.cal sc_holders (fun vs H Q E ⟨n, _, _, h⟩ => spOf_len h) fun f cdv A outer s H vs Q E hr h => ⟨_, (pss_one (ps_ret (pe_lc (own := [("mixer", 2)]) (g := gName 2) rfl sc_holders.nd (pi_range1 rfl T.frange (pa_cons (pv 1) pa_nil)) (blkOk_by (N := ["lot", "mixers", "mixer"]) (sc := defScope s_holders) (by decide +kernel)) (fun _ _ _ _ _ => pg_name (i := 2) sc_holders.nd rfl (Or.inl rfl)) (fun _ _ _ _ _ => pts_one (pt_cmpR (opNotIn K) (pv 2) (pv 0) (by rfl))) (fun _ _ _ _ _ => (pv 2))))), ?_⟩
  obtain ⟨lot, m, hm, G, e, ha, k⟩ := h
  obtain ⟨u, _, rfl, hu, rfl⟩ := pr_two ha
  exact s_ret (ev_flt1 (r := rNat) (fun x => !lot.contains x) (wk_rng1 (n := m) (ev_var rfl rfl) (by omega)) (by rw [List.length_range]; omega) (fun _ => rfl) (fun y v G' hy e' hv => et_test (ev_notin (ev_var rfl hv) (ev_var rfl (Mo.mo e' hu)))) (fun y v G' hy _ e' hv => ev_var rfl hv)) e k
theorem sc_outsiders : FnScope ["mixers", "holders", "mixer"] ["mixers", "holders"] (defScope s_outsiders) := ⟨rfl, rfl, rfl, by decide +kernel, rfl, by decide +kernel, by decide +kernel⟩
theorem ok_outsiders (T : Tx K mg) : Cal P w K mg base "outsiders" 1 ["mixers", "holders"] spOuts := by
  refine T.k_outsiders.cal sc_outsiders (fun vs H Q E ⟨n, _, _, h⟩ => spOf_len h) fun f cdv A outer s H vs Q E hr h => ⟨_, (pss_one (ps_ret (pe_lc (own := [("mixer", 2)]) (g := gName 2) rfl sc_outsiders.nd (pi_range1 rfl T.frange (pa_cons (pv 0) pa_nil)) (blkOk_by (N := ["mixers", "holders", "mixer"]) (sc := defScope s_outsiders) (by decide +kernel)) (fun _ _ _ _ _ => pg_name (i := 2) sc_outsiders.nd rfl (Or.inl rfl)) (fun _ _ _ _ _ => pts_one (pt_cmpR (opNotIn K) (pv 2) (pv 1) (by rfl))) (fun _ _ _ _ _ => (pv 2))))), ?_⟩
  obtain ⟨lot, m, hm, G, e, ha, k⟩ := h
  obtain ⟨_, u, rfl, rfl, hu⟩ := pr_two ha
  exact s_ret (ev_flt1 (r := rNat) (fun x => !lot.contains x) (wk_rng1 (n := m) (ev_var rfl rfl) (by omega)) (by rw [List.length_range]; omega) (fun _ => rfl) (fun y v G' hy e' hv => et_test (ev_notin (ev_var rfl hv) (ev_var rfl (Mo.mo e' hu)))) (fun y v G' hy _ e' hv => ev_var rfl hv)) e k
theorem sc_law_out : FnScope ["_law_lot", "_law_mixers", "_law_mixer"] ["_law_lot", "_law_mixers"] (defScope s_law_out) := ⟨rfl, rfl, rfl, by decide +kernel, rfl, by decide +kernel, by decide +kernel⟩
theorem ok_law_out (T : Tx K mg) : Cal P w K mg base "_law_out" 1 ["_law_lot", "_law_mixers"] spHold := by
  refine T.k_law_out.cal sc_law_out (fun vs H Q E ⟨n, _, _, h⟩ => spOf_len h) fun f cdv A outer s H vs Q E hr h => ⟨_, (pss_one (ps_ret (pe_lc (own := [("_law_mixer", 2)]) (g := gName 2) rfl sc_law_out.nd (pi_range1 rfl T.frange (pa_cons (pv 1) pa_nil)) (blkOk_by (N := ["_law_lot", "_law_mixers", "_law_mixer"]) (sc := defScope s_law_out) (by decide +kernel)) (fun _ _ _ _ _ => pg_name (i := 2) sc_law_out.nd rfl (Or.inl rfl)) (fun _ _ _ _ _ => pts_one (pt_cmpR (opNotIn K) (pv 2) (pv 0) (by rfl))) (fun _ _ _ _ _ => (pv 2))))), ?_⟩
  obtain ⟨lot, m, hm, G, e, ha, k⟩ := h
  obtain ⟨u, _, rfl, hu, rfl⟩ := pr_two ha
  exact s_ret (ev_flt1 (r := rNat) (fun x => !lot.contains x) (wk_rng1 (n := m) (ev_var rfl rfl) (by omega)) (by rw [List.length_range]; omega) (fun _ => rfl) (fun y v G' hy e' hv => et_test (ev_notin (ev_var rfl hv) (ev_var rfl (Mo.mo e' hu)))) (fun y v G' hy _ e' hv => ev_var rfl hv)) e k
/-! cover, _law_covered -/
def spCover : Sp := fun vs H Q E => ∃ (a b : List Nat) (m : Nat), m ≤ 1000 ∧ spOf [rL rNat a, rL rNat b, rNat m] (rBl (covB m a b)) vs H Q E
theorem pr_three {r s t : Rp} {G : Hp} {vs : List V} (h : Pr [r, s, t] G vs) : ∃ v w x, vs = [v, w, x] ∧ r G v ∧ s G w ∧ t G x := by
  obtain ⟨v, ws, rfl, h1, h2⟩ := pr_cons h
  obtain ⟨a, b, rfl, h3, h4⟩ := pr_two h2
  exact ⟨v, a, b, rfl, h1, h3, h4⟩
theorem read_cover {D : Ends} {u z : V} {a b : List Nat} {m : Nat} {H G : Hp} (hm : m ≤ 1000) (e : Ex G H) (hu : rL rNat a G u) (hz : rL rNat b G z) (k : ∀ v H' G', Step H G H' G' → rBl (covB m a b) G' v → D.rt v H') :
    tSeq (tFor (iRng1 (tCons (tVar 2) tNil)) (gName 3) (tIfS (tAnd (tTest (tOp (rIn K true) (tVar 3) (tVar 0))) (tTest (tOp (rIn K true) (tVar 3) (tVar 1)))) (tRet (tC (.bl false))) tNext)) (tRet (tC (.bl true))) D [some u, some z, some (.int (m : Int)), none] H := by
  refine q_for1 (r0 := rNat) (st0 e) (wk_rng1 (n := m) (ev_var rfl rfl) (by omega)) (fun i σ' H' G' => ∃ x, σ' = [some u, some z, some (.int (m : Int)), x] ∧ rL rNat a G' u ∧ rL rNat b G' z ∧ ((List.range m).take i).all (fun x => a.contains x || b.contains x) = true) ?_ ?_ ?_
  · exact fun H1 G1 s1 => ⟨none, rfl, Mo.mo s1.gg hu, Mo.mo s1.gg hz, by simp⟩
  · rintro i y σ' v Ha Hb G' Gs hi s1 e1 e2 e3 hv ⟨x, rfl, hu1, hz1, hall⟩
    cases hv
    refine s_if (b := !(a.contains y || b.contains y)) ((et_and (et_test (ev_notin (x := y) (ev_var rfl rfl) (ev_var rfl hu1))) fun _ => et_test (ev_notin (x := y) (ev_var rfl rfl) (ev_var rfl hz1))).is (by rw [Bool.not_or])) s1.gh (fun hb H1 G1 s2 => ?_) fun hb H1 G1 s2 => ?_
    · refine s_ret (ev_c (r := rBl (covB m a b)) ?_) s2.gh fun v H2 G2 s3 h3 => k v H2 G2 ((s1.trans s2).trans s3) h3
      have : covB m a b = false := all_bad (q := fun x => a.contains x || b.contains x) hi (not_true hb)
      rw [this]
      rfl
    · exact ⟨G1, s1.trans s2, e2.trans s2.gg, _, rfl, Mo.mo s2.gg hu1, Mo.mo s2.gg hz1, all_take hall hi (not_false hb)⟩
  · rintro σ' H1 G1 s1 e1 ⟨x, rfl, _, _, hall⟩
    rw [List.take_length] at hall
    exact s_ret (ev_c (r := rBl (covB m a b)) (by unfold covB; rw [hall]; rfl)) s1.gh fun v H2 G2 s2 h2 => k v H2 G2 (s1.trans s2) h2
theorem sc_cover : FnScope ["one", "other", "mixers", "mixer"] ["one", "other", "mixers"] (defScope s_cover) := ⟨rfl, rfl, rfl, by decide +kernel, rfl, by decide +kernel, by decide +kernel⟩
theorem ok_cover (T : Tx K mg) : Cal P w K mg base "cover" 1 ["one", "other", "mixers"] spCover := by
  refine T.k_cover.cal sc_cover (fun vs H Q E ⟨a, b, n, _, h⟩ => spOf_len h) fun f cdv A outer s H vs Q E hr h => ⟨_, (pss_cons (ps_for PassesOwn.never rfl (pi_range1 rfl T.frange (pa_cons (pv 2) pa_nil)) (pg_name (i := 3) sc_cover.nd rfl (Or.inl rfl))
          (pss_one (ps_if (PW.pt (pw_and (pt_cmpR (opNotIn K) (pv 3) (pv 0) (by rfl)) (pw_and1 (pt_cmpR (opNotIn K) (pv 3) (pv 1) (by rfl))))) (pss_one (ps_ret pe_bl)) pss_nil)))
        (pss_one (ps_ret pe_bl))), ?_⟩
  obtain ⟨a, b, m, hm, G, e, ha, k⟩ := h
  obtain ⟨u, z, _, rfl, hu, hz, rfl⟩ := pr_three ha
  exact read_cover hm e hu hz k
theorem sc_law_covered : FnScope ["_law_one", "_law_other", "_law_mixers", "_law_mixer"] ["_law_one", "_law_other", "_law_mixers"] (defScope s_law_covered) := ⟨rfl, rfl, rfl, by decide +kernel, rfl, by decide +kernel, by decide +kernel⟩
theorem ok_law_covered (T : Tx K mg) : Cal P w K mg base "_law_covered" 1 ["_law_one", "_law_other", "_law_mixers"] spCover := by
  refine T.k_law_covered.cal sc_law_covered (fun vs H Q E ⟨a, b, n, _, h⟩ => spOf_len h) fun f cdv A outer s H vs Q E hr h => ⟨_, (pss_cons (ps_for PassesOwn.never rfl (pi_range1 rfl T.frange (pa_cons (pv 2) pa_nil)) (pg_name (i := 3) sc_law_covered.nd rfl (Or.inl rfl))
          (pss_one (ps_if (PW.pt (pw_and (pt_cmpR (opNotIn K) (pv 3) (pv 0) (by rfl)) (pw_and1 (pt_cmpR (opNotIn K) (pv 3) (pv 1) (by rfl))))) (pss_one (ps_ret pe_bl)) pss_nil)))
        (pss_one (ps_ret pe_bl))), ?_⟩
  obtain ⟨a, b, m, hm, G, e, ha, k⟩ := h
  obtain ⟨u, z, _, rfl, hu, hz, rfl⟩ := pr_three ha
  exact read_cover hm e hu hz k
/-! covering_pair -/
def spPair : Sp := fun vs H Q E => ∃ (fam : List (List Nat)) (m : Nat), m ≤ 1000 ∧ fam.length ≤ 1000 ∧ FamOk m fam ∧ spOf [rL (rL rNat) fam, rNat m] rNon vs H Q E
theorem sc_covering_pair : FnScope ["family", "mixers", "first", "second"] ["family", "mixers"] (defScope s_covering_pair) := ⟨rfl, rfl, rfl, by decide +kernel, rfl, by decide +kernel, by decide +kernel⟩
theorem ok_covering_pair (T : Tx K mg) : Cal P w K mg base "covering_pair" 2 ["family", "mixers"] spPair := by
  have c_cover := ok_cover (P := P) (w := w) (base := base) T
  refine T.k_covering_pair.cal sc_covering_pair (fun vs H Q E ⟨a, n, _, _, _, h⟩ => spOf_len h) fun f cdv A outer s H vs Q E hr h => ⟨_, (pss_cons (ps_for PassesOwn.never rfl (pi_range1 rfl T.frange (pa_cons (pe_callB (cLen K) (by rfl) T.flen PySem.boot_len (pa_cons (pv 0) pa_nil)) pa_nil)) (pg_name (i := 2) sc_covering_pair.nd rfl (Or.inl rfl))
          (pss_one (ps_for PassesOwn.never rfl (pi_range2 rfl T.frange (pa_cons (pv 2) (pa_cons (pe_callB (cLen K) (by rfl) T.flen PySem.boot_len (pa_cons (pv 0) pa_nil)) pa_nil))) (pg_name (i := 3) sc_covering_pair.nd rfl (Or.inl rfl))
            (pss_one (ps_if (pt_val (pe_cal c_cover hr rfl (pa_cons (pe_ix (ixl K) (pv 0) (pv 2) (fun _ _ => rfl)) (pa_cons (pe_ix (ixl K) (pv 0) (pv 3) (fun _ _ => rfl)) (pa_cons (pv 1) pa_nil))))) (pss_one (ps_ret (pe_tup (pa_cons (pv 2) (pa_cons (pv 3) pa_nil))))) pss_nil)))))
        (pss_one (ps_ret pe_non))), ?_⟩
  obtain ⟨fam, m, hm, hl, hF, G, e, ha, k⟩ := h
  obtain ⟨u, _, rfl, hu, rfl⟩ := pr_two ha
  refine q_for1 (r0 := rNat) (st0 e) (wk_rng1 (n := fam.length) (ev_len (r := rL rNat) (xs := fam) (ev_var rfl hu)) (by omega)) (fun i σ' H' G' => ∃ x y, σ' = [some u, some (.int (m : Int)), x, y] ∧ rL (rL rNat) fam G' u) ?_ ?_ ?_
  · exact fun H1 G1 s1 => ⟨none, none, rfl, Mo.mo s1.gg hu⟩
  · rintro i y σ' v Ha Hb G' Gs hi s1 e1 e2 e3 hv ⟨x, y2, rfl, hu1⟩
    cases hv
    obtain ⟨rfl, hil⟩ := get_range hi
    refine s_for1 (r0 := rNat) s1 (wk_rng2 (lo := i) (n := fam.length) (ev_var rfl rfl) (ev_len (r := rL rNat) (xs := fam) (ev_var rfl hu1)) (by omega)) (fun j σ' H' G' => ∃ y, σ' = [some u, some (.int (m : Int)), some (.int (i : Int)), y] ∧ rL (rL rNat) fam G' u) ?_ ?_ ?_
    · exact fun H1 G1 s2 => ⟨_, rfl, Mo.mo s2.gg hu1⟩
    · rintro j y σ' v Hc Hd G2 Gt hj s2 f1 f2 f3 hv ⟨y3, rfl, hu2⟩
      cases hv
      rw [List.getElem?_map] at hj
      cases hq : (List.range (fam.length - i))[j]? with
      | none =>
        rw [hq] at hj
        cases hj
      | some j' =>
        rw [hq] at hj
        cases hj
        obtain ⟨rfl, hjl⟩ := get_range hq
        have a1 : fam[i]? = some fam[i] := List.getElem?_eq_getElem hil
        have a2 : fam[i + j]? = some (fam[i + j]'(by omega)) := List.getElem?_eq_getElem (by omega)
        refine s_if (b := false) ((et_B (ev_call (r := rBl (covB m fam[i] (fam[i + j]'(by omega)))) (ea_cons (ev_ix (r := rL rNat) (xs := fam) (ev_var rfl hu2) (ev_var (r := rNat i) rfl rfl) rfl a1) (ea_cons (ev_ix (r := rL rNat) (xs := fam) (ev_var rfl hu2) (ev_var (r := rNat (i + j)) rfl rfl) rfl a2) (ea_cons (ev_var (r := rNat m) rfl rfl) ea_nil))) fun vs H Q h => ⟨_, _, m, hm, h⟩)).is (hF.no i (i + j) _ _ (by omega) a1 a2)) s2.gh (fun z => by cases z) fun _ H1 G1 s3 => ⟨G1, s2.trans s3, f2.trans s3.gg, _, rfl, Mo.mo s3.gg hu2⟩
    · rintro σ' H1 G1 s2 f1 ⟨y3, rfl, hu2⟩
      exact ⟨G1, s2, e2.trans f1, _, _, rfl, hu2⟩
  · rintro σ' H1 G1 s1 e1 ⟨x, y, rfl, hu1⟩
    exact s_ret (ev_c rfl) s1.gh fun v H2 G2 s2 h2 => k v H2 G2 (s1.trans s2) h2
/-! checked_family -/
def spFam : Sp := fun vs H Q E => ∃ (fam : List (List Nat)) (m : Nat), m ≤ 1000 ∧ fam.length ≤ 1000 ∧ FamOk m fam ∧ spOf [rL (rL rNat) fam, rNat m] (rL (rL rNat) fam) vs H Q E
theorem sc_checked_family : FnScope ["family", "mixers", "place", "lot", "pair"] ["family", "mixers"] (defScope s_checked_family) := ⟨rfl, rfl, rfl, by decide +kernel, rfl, by decide +kernel, by decide +kernel⟩
theorem ok_checked_family (T : Tx K mg) : Cal P w K mg base "checked_family" 3 ["family", "mixers"] spFam := by
  have c_is_lot := ok_is_lot (P := P) (w := w) (base := base) T
  have c_covering_pair := ok_covering_pair (P := P) (w := w) (base := base) T
  refine T.k_checked_family.cal sc_checked_family (fun vs H Q E ⟨a, n, _, _, _, h⟩ => spOf_len h) fun f cdv A outer s H vs Q E hr h => ⟨_, (pss_cons (ps_for PassesOwn.never rfl (itE K rfl T.fenumerate (pa_cons (pv 0) pa_nil)) (tgT K rfl (pgs_cons (pg_name (i := 2) sc_checked_family.nd rfl (Or.inl rfl)) (pgs_cons (pg_name (i := 3) sc_checked_family.nd rfl (Or.inl rfl)) pgs_nil)))
          (pss_one (ps_if (pt_not (pt_val (pe_cal c_is_lot hr rfl (pa_cons (pv 3) (pa_cons (pv 1) pa_nil))))) (pss_one ps_never) pss_nil)))
        (pss_cons (ps_set (i := 4) sc_checked_family.nd rfl (Or.inl rfl) (pe_cal c_covering_pair hr rfl (pa_cons (pv 0) (pa_cons (pv 1) pa_nil))))
        (pss_cons (ps_if (pt_cmp (pc_notN (pv 4))) (pss_one ps_never) pss_nil)
        (pss_one (ps_ret (pe_lc (own := [("lot", 3)]) (g := gName 3) (tt := tYes) rfl sc_checked_family.nd (itL K (pv 0)) (blkOk_by (N := ["family", "mixers", "place", "lot", "pair"]) (sc := defScope s_checked_family) (by decide +kernel)) (fun _ _ _ _ _ => pg_name (i := 3) sc_checked_family.nd rfl (Or.inl rfl)) (fun _ _ _ _ _ => pts_nil) (fun _ _ _ _ _ => (pe_callTy (cList K) (by rfl) T.flist (by decide +kernel) (pa_cons (pv 3) pa_nil))))))))), ?_⟩
  obtain ⟨fam, m, hm, hl, hF, G, e, ha, k⟩ := h
  obtain ⟨u, _, rfl, hu, rfl⟩ := pr_two ha
  refine q_for2 (r0 := rNat) (r1 := rL rNat) (st0 e) (wk_enum (r := rL rNat) (ys := fam) (ev_var rfl hu)) (fun i σ' H' G' => ∃ x y, σ' = [some u, some (.int (m : Int)), x, y, none] ∧ rL (rL rNat) fam G' u) ?_ ?_ ?_
  · exact fun H1 G1 s1 => ⟨none, none, rfl, Mo.mo s1.gg hu⟩
  · rintro i p σ' v v2 Ha Hb G' Gs hi s1 e1 e2 e3 hv hv2 ⟨x, y, rfl, hu1⟩
    obtain ⟨lot, rfl, hq⟩ := get_enum hi
    refine s_if (b := false) (et_not (a := true) (et_B (ev_call (ea_cons (ev_var (r := rL rNat lot) rfl hv2) (ea_cons (ev_var (r := rNat m) rfl rfl) ea_nil)) fun vs H Q h => ⟨lot, m, hF.lot lot (List.mem_of_getElem? hq), h⟩))) s1.gh (fun z => by cases z) fun _ H1 G1 s2 => ⟨G1, s1.trans s2, e2.trans s2.gg, _, _, rfl, Mo.mo s2.gg hu1⟩
  · rintro σ' H1 G1 s1 e1 ⟨x, y, rfl, hu1⟩
    refine q_set (r := rNon) (ev_call (ea_cons (ev_var (r := rL (rL rNat) fam) rfl hu1) (ea_cons (ev_var (r := rNat m) rfl rfl) ea_nil)) fun vs H Q h => ⟨fam, m, hm, hl, hF, h⟩) s1.gh fun v H2 G2 s2 h2 => ?_
    cases h2
    refine q_if (b := false) ((et_B (ev_notN (ev_var (r := rNon) rfl rfl))).is rfl) s2.gh (fun z => by cases z) fun _ H3 G3 s3 => ?_
    exact s_ret (ev_map1 (r := rL rNat) (wk_list (r := rL rNat) (ys := fam) (ev_var rfl (Mo.mo (s2.gg.trans s3.gg) hu1))) (by omega) (fun _ => rfl) (fun l v G' hy e' hv => ev_list (r := rNat) (xs := l) (ev_var rfl hv))) s3.gh fun v H4 G4 s4 h4 => k v H4 G4 (((s1.trans s2).trans s3).trans s4) h4
end
end Vc
namespace Vm
/-- small enough -/
structure Sm (m rows : Nat) : Prop where
  m1 : 1 ≤ m
  m4 : m ≤ 4
  r5 : rows ≤ 5
end Vm
namespace Vc
open PySem PySem.Spec PyProof.Rows L2 Vm
section
variable {P : Program} {w : World} {K : PySem.W.Frag} {mg : Str → Option Value} {base : Heap}
/-! _law_fits -/
def spFits : Sp := fun vs H Q E => ∃ (fam : List (List Nat)) (lot : List Nat) (m : Nat), m ≤ 1000 ∧ fam.length ≤ 1000 ∧ spOf [rL (rL rNat) fam, rL rNat lot, rNat m] (rBl (fitsB m fam lot)) vs H Q E
theorem sc_law_fits : FnScope ["_law_family_here", "_law_lot", "_law_mixers", "_law_other"] ["_law_family_here", "_law_lot", "_law_mixers"] (defScope s_law_fits) := ⟨rfl, rfl, rfl, by decide +kernel, rfl, by decide +kernel, by decide +kernel⟩
theorem ok_law_fits (T : Tx K mg) : Cal P w K mg base "_law_fits" 2 ["_law_family_here", "_law_lot", "_law_mixers"] spFits := by
  have c_law_covered := ok_law_covered (P := P) (w := w) (base := base) T
  refine T.k_law_fits.cal sc_law_fits (fun vs H Q E ⟨_, _, _, _, _, h⟩ => spOf_len h) fun f cdv A outer s H vs Q E hr h => ⟨_, (pss_cons (ps_for PassesOwn.never rfl (itL K (pe_op op_cat (pv 0) (pe_lst (pa_cons (pv 1) pa_nil)))) (pg_name (i := 3) sc_law_fits.nd rfl (Or.inl rfl))
          (pss_one (ps_if (pt_val (pe_cal c_law_covered hr rfl (pa_cons (pv 3) (pa_cons (pv 1) (pa_cons (pv 2) pa_nil))))) (pss_one (ps_ret pe_bl)) pss_nil)))
        (pss_one (ps_ret pe_bl))), ?_⟩
  obtain ⟨fam, lot, m, hm, hl, G, e, ha, k⟩ := h
  obtain ⟨u, z, _, rfl, hu, hz, rfl⟩ := pr_three ha
  refine q_for1 (r0 := rL rNat) (st0 e) (wk_list (r := rL rNat) (ys := fam ++ [lot]) (ev_cat (r := rL rNat) (xs := fam) (ys := [lot]) (ev_var rfl hu) (ev_lst (r := rL rNat) (xs := [lot]) (ea_cons (ev_var rfl hz) ea_nil) (by simp)) (by simp; omega)))
    (fun i σ' H' G' => ∃ x, σ' = [some u, some z, some (.int (m : Int)), x] ∧ rL rNat lot G' z ∧ ((fam ++ [lot]).take i).all (fun o => !covB m o lot) = true) ?_ ?_ ?_
  · exact fun H1 G1 s1 => ⟨none, rfl, Mo.mo s1.gg hz, by simp⟩
  · rintro i y σ' v Ha Hb G' Gs hi s1 e1 e2 e3 hv ⟨x, rfl, hz1, hall⟩
    refine s_if (b := covB m y lot) (et_B (ev_call (ea_cons (ev_var (r := rL rNat y) rfl hv) (ea_cons (ev_var (r := rL rNat lot) rfl hz1) (ea_cons (ev_var (r := rNat m) rfl rfl) ea_nil))) fun vs H Q h => ⟨y, lot, m, hm, h⟩)) s1.gh (fun hb H1 G1 s2 => ?_) fun hb H1 G1 s2 => ?_
    · refine s_ret (ev_c (r := rBl (fitsB m fam lot)) ?_) s2.gh fun v H2 G2 s3 h3 => k v H2 G2 ((s1.trans s2).trans s3) h3
      have : fitsB m fam lot = false := all_bad (q := fun o => !covB m o lot) hi (by rw [hb]; rfl)
      rw [this]
      rfl
    · exact ⟨G1, s1.trans s2, e2.trans s2.gg, _, rfl, Mo.mo s2.gg hz1, all_take hall hi (by rw [hb]; rfl)⟩
  · rintro σ' H1 G1 s1 e1 ⟨x, rfl, _, hall⟩
    rw [List.take_length] at hall
    exact s_ret (ev_c (r := rBl (fitsB m fam lot)) (by unfold fitsB; rw [hall]; rfl)) s1.gh fun v H2 G2 s2 h2 => k v H2 G2 (s1.trans s2) h2
/-! stage_size -/
def spSsz : Sp := fun vs H Q E => ∃ (m : Nat) (lot : List Nat) (rows : Nat), Sm m rows ∧ 1 ≤ (outs m lot).length ∧ spOf [rNat m, rL rNat lot, rNat rows] (rNat (ssz m lot rows)) vs H Q E
theorem read_ssz {D : Ends} {u : V} {lot : List Nat} {m rows : Nat} {H G : Hp} {te : TE} (sm : Sm m rows) (h1 : 1 ≤ (outs m lot).length) (e : Ex G H) (hte : Ev te [some (.int (m : Int)), some u, some (.int (rows : Int)), none] G (rNat (outs m lot).length))
    (k : ∀ v H' G', Step H G H' G' → rNat (ssz m lot rows) G' v → D.rt v H') :
    tSeq (tAsg te (gName 3)) (tRet (tOp (rI0 fun i j => .int (i + j)) (tOp (rI0 fun i j => .int (i + j)) (tOp (rI CMul fun i j => .int (i * j)) (tOp (rI CMul fun i j => .int (i * j)) (tOp (rI0 fun i j => .int (i - j)) (tVar 0) (tVar 3)) (tVar 2)) (tOp (rI0 fun i j => .int (i - j)) (tVar 3) (tC (.int 1)))) (tC (.int 1)))
      (tOp (rI CMul fun i j => .int (i * j)) (tOp (rI CMul fun i j => .int (i * j)) (tVar 3) (tVar 2)) (tOp (rI0 fun i j => .int (i - j)) (tVar 0) (tC (.int 1)))))) D [some (.int (m : Int)), some u, some (.int (rows : Int)), none] H := by
  have hle := outs_le m lot
  have h2 := sm.m1
  have h3 := sm.m4
  refine q_set hte e fun v H1 G1 s1 h => ?_
  cases h
  generalize hh : (outs m lot).length = h at *
  have e1 : ssz m lot rows = (m - h) * rows * (h - 1) + 1 + h * rows * (m - 1) := by
    unfold ssz
    rw [hh]
  rw [e1] at k
  exact s_ret (ev_addN (ev_addN (ev_mulN (ev_mulN (ev_subN (a := m) (b := h) (ev_var rfl rfl) (ev_var rfl rfl) hle) (ev_var (r := rNat rows) rfl rfl) (.inl (by omega))) (ev_subN (a := h) (b := 1) (ev_var rfl rfl) (ev_n 1) h1) (.inr (by omega))) (ev_n 1))
    (ev_mulN (ev_mulN (a := h) (b := rows) (ev_var rfl rfl) (ev_var rfl rfl) (.inl (by omega))) (ev_subN (a := m) (b := 1) (ev_var rfl rfl) (ev_n 1) h2) (.inr (by omega)))) s1.gh fun v H2 G2 s2 h => k v H2 G2 (s1.trans s2) h
theorem sc_stage_size : FnScope ["mixers", "lot", "rows", "many"] ["mixers", "lot", "rows"] (defScope s_stage_size) := ⟨rfl, rfl, rfl, by decide +kernel, rfl, by decide +kernel, by decide +kernel⟩
theorem ok_stage_size (T : Tx K mg) : Cal P w K mg base "stage_size" 2 ["mixers", "lot", "rows"] spSsz := by
  have c_holders := ok_holders (P := P) (w := w) (base := base) T
  refine T.k_stage_size.cal sc_stage_size (fun vs H Q E ⟨_, _, _, _, _, h⟩ => spOf_len h) fun f cdv A outer s H vs Q E hr h => ⟨_, (pss_cons (ps_set (i := 3) sc_stage_size.nd rfl (Or.inl rfl) (pe_callB (cLen K) (by rfl) T.flen PySem.boot_len (pa_cons (pe_cal c_holders hr rfl (pa_cons (pv 1) (pa_cons (pv 0) pa_nil))) pa_nil)))
        (pss_one (ps_ret (pe_op op_add (pe_op op_add (pe_op op_mul (pe_op op_mul (pe_op op_sub (pv 0) (pv 3)) (pv 2)) (pe_op op_sub (pv 3) pe_int)) pe_int) (pe_op op_mul (pe_op op_mul (pv 3) (pv 2)) (pe_op op_sub (pv 0) pe_int)))))), ?_⟩
  obtain ⟨m, lot, rows, sm, h1, G, e, ha, k⟩ := h
  obtain ⟨_, u, _, rfl, rfl, hu, rfl⟩ := pr_three ha
  have h4 := sm.m4
  exact read_ssz sm h1 e (ev_len (r := rNat) (ev_call (ea_cons (ev_var (r := rL rNat lot) rfl hu) (ea_cons (ev_var (r := rNat m) rfl rfl) ea_nil)) fun vs H Q h => ⟨lot, m, by omega, h⟩)) k
theorem sc_law_stage_size : FnScope ["_law_mixers", "_law_lot", "_law_rows", "_law_held"] ["_law_mixers", "_law_lot", "_law_rows"] (defScope s_law_stage_size) := ⟨rfl, rfl, rfl, by decide +kernel, rfl, by decide +kernel, by decide +kernel⟩
theorem ok_law_stage_size (T : Tx K mg) : Cal P w K mg base "_law_stage_size" 2 ["_law_mixers", "_law_lot", "_law_rows"] spSsz := by
  have c_law_out := ok_law_out (P := P) (w := w) (base := base) T
  refine T.k_law_stage_size.cal sc_law_stage_size (fun vs H Q E ⟨_, _, _, _, _, h⟩ => spOf_len h) fun f cdv A outer s H vs Q E hr h => ⟨_, (pss_cons (ps_set (i := 3) sc_law_stage_size.nd rfl (Or.inl rfl) (pe_callB (cLen K) (by rfl) T.flen PySem.boot_len (pa_cons (pe_cal c_law_out hr rfl (pa_cons (pv 1) (pa_cons (pv 0) pa_nil))) pa_nil)))
        (pss_one (ps_ret (pe_op op_add (pe_op op_add (pe_op op_mul (pe_op op_mul (pe_op op_sub (pv 0) (pv 3)) (pv 2)) (pe_op op_sub (pv 3) pe_int)) pe_int) (pe_op op_mul (pe_op op_mul (pv 3) (pv 2)) (pe_op op_sub (pv 0) pe_int)))))), ?_⟩
  obtain ⟨m, lot, rows, sm, h1, G, e, ha, k⟩ := h
  obtain ⟨_, u, _, rfl, rfl, hu, rfl⟩ := pr_three ha
  have h4 := sm.m4
  exact read_ssz sm h1 e (ev_len (r := rNat) (ev_call (ea_cons (ev_var (r := rL rNat lot) rfl hu) (ea_cons (ev_var (r := rNat m) rfl rfl) ea_nil)) fun vs H Q h => ⟨lot, m, by omega, h⟩)) k
/-! size -/
def spSize : Sp := fun vs H Q E => ∃ (m : Nat) (fam : List (List Nat)) (rows : Nat), Sm m rows ∧ (∀ l ∈ fam, 1 ≤ (outs m l).length) ∧ fam.length ≤ 1000 ∧ spOf [rNat m, rL (rL rNat) fam, rNat rows] (rNat (szF m fam rows)) vs H Q E
theorem sc_size : FnScope ["mixers", "family", "rows", "lot"] ["mixers", "family", "rows"] (defScope s_size) := ⟨rfl, rfl, rfl, by decide +kernel, rfl, by decide +kernel, by decide +kernel⟩
theorem ok_size (T : Tx K mg) : Cal P w K mg base "size" 3 ["mixers", "family", "rows"] spSize := by
  have c_stage_size := ok_stage_size (P := P) (w := w) (base := base) T
  refine T.k_size.cal sc_size (fun vs H Q E ⟨_, _, _, _, _, _, h⟩ => spOf_len h) fun f cdv A outer s H vs Q E hr h => ⟨_, (pss_one (ps_ret (pe_op op_add (pe_op op_mul (pv 2) (pe_op op_sub (pv 0) pe_int)) (pe_callB (cSum K rfl) (by rfl) T.fsum (by decide +kernel) (pa_cons (pe_lc (own := [("lot", 3)]) (g := gName 3) (tt := tYes) rfl sc_size.nd (itL K (pv 1)) (blkOk_by (N := ["mixers", "family", "rows", "lot"]) (sc := defScope s_size) (by decide +kernel)) (fun _ _ _ _ _ => pg_name (i := 3) sc_size.nd rfl (Or.inl rfl)) (fun _ _ _ _ _ => pts_nil) (fun _ _ _ _ _ => (pe_cal c_stage_size hr rfl (pa_cons (pv 0) (pa_cons (pv 3) (pa_cons (pv 2) pa_nil)))))) pa_nil))))), ?_⟩
  obtain ⟨m, fam, rows, sm, h1, hl, G, e, ha, k⟩ := h
  obtain ⟨_, u, _, rfl, rfl, hu, rfl⟩ := pr_three ha
  have h2 := sm.m1
  have h4 := sm.m4
  have hs : Ev _ (start ["mixers", "family", "rows", "lot"] [.int (m : Int), u, .int (rows : Int)]) G (rNat (fam.map fun l => ssz m l rows).sum) :=
    (ev_sum (K := K) (ns := fam.map fun l => ((ssz m l rows : Nat) : Int)) (ev_lc1 (te := tCall spSsz [] E0 (tCons (tVar 0) (tCons (tVar 3) (tCons (tVar 2) tNil)))) (vs := [3]) (j := 3) (r := rInt) (fun l => ((ssz m l rows : Nat) : Int)) (wk_list (K := K) (ta := tVar 1) (r := rL rNat) (ys := fam) (ev_var rfl hu)) (by omega) (fun _ => rfl) fun l v G' hy e' hv =>
      ev_call (ea_cons (ev_var (r := rNat m) rfl rfl) (ea_cons (ev_var (r := rL rNat l) rfl hv) (ea_cons (ev_var (r := rNat rows) rfl rfl) ea_nil))) fun vs H Q h => ⟨m, l, rows, sm, h1 l hy, h⟩)).is fun G' v _ h => by
        rw [sum_cast (fun l => ssz m l rows) fam] at h
        exact h
  exact s_ret (ev_addN (a := rows * (m - 1)) (ev_mulN (a := rows) (b := m - 1) (ev_var rfl rfl) (ev_subN (a := m) (b := 1) (ev_var rfl rfl) (ev_n 1) h2) (.inr (by omega))) hs) e k
theorem sc_law_size : FnScope ["_law_mixers", "_law_family_here", "_law_rows", "_law_many", "_law_lot"] ["_law_mixers", "_law_family_here", "_law_rows"] (defScope s_law_size) := ⟨rfl, rfl, rfl, by decide +kernel, rfl, by decide +kernel, by decide +kernel⟩
theorem ok_law_size (T : Tx K mg) : Cal P w K mg base "_law_size" 3 ["_law_mixers", "_law_family_here", "_law_rows"] spSize := by
  have c_law_stage_size := ok_law_stage_size (P := P) (w := w) (base := base) T
  refine T.k_law_size.cal sc_law_size (fun vs H Q E ⟨_, _, _, _, _, _, h⟩ => spOf_len h) fun f cdv A outer s H vs Q E hr h => ⟨_, (pss_cons (ps_set (i := 3) sc_law_size.nd rfl (Or.inl rfl) (pe_op op_mul (pv 2) (pe_op op_sub (pv 0) pe_int)))
        (pss_cons (ps_for PassesOwn.never rfl (itL K (pv 1)) (pg_name (i := 4) sc_law_size.nd rfl (Or.inl rfl))
          (pss_one (ps_set (i := 3) sc_law_size.nd rfl (Or.inl rfl) (pe_op op_add (pv 3) (pe_cal c_law_stage_size hr rfl (pa_cons (pv 0) (pa_cons (pv 4) (pa_cons (pv 2) pa_nil))))))))
        (pss_one (ps_ret (pv 3))))), ?_⟩
  obtain ⟨m, fam, rows, sm, h1, hl, G, e, ha, k⟩ := h
  obtain ⟨_, u, _, rfl, rfl, hu, rfl⟩ := pr_three ha
  have h2 := sm.m1
  have h4 := sm.m4
  refine q_set (r := rNat (rows * (m - 1))) (ev_mulN (a := rows) (b := m - 1) (ev_var rfl rfl) (ev_subN (a := m) (b := 1) (ev_var rfl rfl) (ev_n 1) h2) (.inr (by omega))) e fun v H1 G1 s1 h => ?_
  cases h
  refine q_for1 (r0 := rL rNat) s1 (wk_list (r := rL rNat) (ys := fam) (ev_var rfl (Mo.mo s1.gg hu))) (fun i σ' H' G' => ∃ x, σ' = [some (.int (m : Int)), some u, some (.int (rows : Int)), some (.int ((rows * (m - 1) + ((fam.take i).map fun l => ssz m l rows).sum : Nat) : Int)), x]) ?_ ?_ ?_
  · exact fun H2 G2 s2 => ⟨none, rfl⟩
  · rintro i l σ' v Ha Hb G' Gs hi s2 e1 e2 e3 hv ⟨x, rfl⟩
    refine s_set (ev_addN (a := rows * (m - 1) + ((fam.take i).map fun l => ssz m l rows).sum) (b := ssz m l rows) (ev_var rfl rfl) (ev_call (ea_cons (ev_var (r := rNat m) rfl rfl) (ea_cons (ev_var (r := rL rNat l) rfl hv) (ea_cons (ev_var (r := rNat rows) rfl rfl) ea_nil))) fun vs H Q h => ⟨m, l, rows, sm, h1 l (List.mem_of_getElem? hi), h⟩)) s2.gh fun v H3 G3 s3 h => ?_
    cases h
    refine ⟨G3, s2.trans s3, e2.trans s3.gg, some v, ?_⟩
    have : ((fam.take (i + 1)).map fun l => ssz m l rows).sum = ((fam.take i).map fun l => ssz m l rows).sum + ssz m l rows := by
      rw [List.take_succ, hi, List.map_append, List.sum_append]
      show _ + (ssz m l rows + 0) = _
      rw [Nat.add_zero]
    rw [this, ← Nat.add_assoc]
    rfl
  · rintro σ' H2 G2 s2 e1 ⟨x, rfl⟩
    rw [List.take_length]
    exact s_ret (ev_var (r := rNat (szF m fam rows)) rfl rfl) s2.gh fun v H3 G3 s3 h => k v H3 G3 (s2.trans s3) h
/-! check_votes -/
def spChkVotes : Sp := fun vs H Q E => ∃ (p : Int) (ns : List Int), (∀ v ∈ ns, 0 ≤ v ∧ v < p) ∧ spOf [rInt p, rL rInt ns] rNon vs H Q E
theorem sc_check_votes : FnScope ["prime", "votes", "vote"] ["prime", "votes"] (defScope s_check_votes) := ⟨rfl, rfl, rfl, by decide +kernel, rfl, by decide +kernel, by decide +kernel⟩
theorem ok_check_votes (T : Tx K mg) : Cal P w K mg base "check_votes" 1 ["prime", "votes"] spChkVotes := by
  refine T.k_check_votes.cal sc_check_votes (fun vs H Q E ⟨_, _, _, h⟩ => spOf_len h) fun f cdv A outer s H vs Q E hr h => ⟨_, (pss_one (ps_for PassesOwn.never rfl (itL K (pv 1)) (pg_name (i := 2) sc_check_votes.nd rfl (Or.inl rfl))
          (pss_one (ps_if (pt_not (pt_chain op_le op_lt pe_int (pv 2) (pv 0))) (pss_one ps_never) pss_nil)))), ?_⟩
  obtain ⟨p, ns, hv, G, e, ha, k⟩ := h
  obtain ⟨_, u, rfl, rfl, hu⟩ := pr_two ha
  refine s_for1 (r0 := rInt) (st0 e) (wk_list (r := rInt) (ys := ns) (ev_var rfl hu)) (fun i σ' H' G' => ∃ x, σ' = [some (.int p), some u, x]) ?_ ?_ ?_
  · exact fun H2 G2 s2 => ⟨none, rfl⟩
  · rintro i y σ' v Ha Hb G' Gs hi s2 e1 e2 e3 h ⟨x, rfl⟩
    cases h
    have hy := hv y (List.mem_of_getElem? hi)
    refine s_if (b := false) (et_not (a := true) (et_test ((ev_chainI (g1 := fun i j => decide (i ≤ j)) (g2 := fun i j => decide (i < j)) (i := 0) (j := y) (k := p) ev_i (ev_var rfl rfl) (fun _ => ev_var rfl rfl)).is fun G' v _ z => by
      have z' : v = V.bl (decide ((0 : Int) ≤ y) && decide (y < p)) := z
      rw [z', decide_eq_true hy.1, decide_eq_true hy.2]
      rfl))) s2.gh (fun z => by cases z) fun _ H1 G1 s3 => ⟨G1, s2.trans s3, e2.trans s3.gg, _, rfl⟩
  · rintro σ' H2 G2 s2 e1 ⟨x, rfl⟩
    exact k .non H2 G2 s2 rfl
end
end Vc
/-! A list that grows by append, and stands still in the end. -/
namespace Vc
open PySem PySem.Spec PyProof.Rows L2 Vm
theorem ne_fresh {H : Hp} {a b : Addr} (h : H a ≠ none) (h' : H b = none) : a ≠ b := fun e => h (by rw [e]; exact h')
/-- the growing list at p: it stands for zs, and is not yet part of G -/
def Acc {α : Type} (r : α → Rp) (p : Addr) (zs : List α) (H G : Hp) : Prop := ∃ vs, H p = some (.lst vs) ∧ G p = none ∧ Paired (fun v z => r z G v) vs zs
section
variable {α : Type} {r : α → Rp} [∀ x, Mo (r x)] {p q : Addr} {zs : List α} {z : α} {H H0 H1 G G0 G1 : Hp} {M : List Addr} {o : HO} {v : V} {vs : List V}
theorem Acc.nn (A : Acc r p zs H G) : H p ≠ none := by
  obtain ⟨vs, h, _⟩ := A
  rw [h]
  simp
theorem Acc.start (e : Ex G H) (h : H p = none) : Acc r p [] (upd H p (.lst [])) G := ⟨[], upd_same, e.dom h, .nil⟩
theorem Acc.step (A : Acc r p zs H G) (s : Step H G H1 G1) : Acc r p zs H1 G1 := by
  obtain ⟨vs, h1, h2, h3⟩ := A
  exact ⟨vs, s.l h1, s.fr p (by rw [h1]; simp) h2, paired_mono h3 fun _ _ _ q => Mo.mo s.gg q⟩
theorem Acc.ex (A : Acc r p zs H G) (s : Ex H H1) : Acc r p zs H1 G := by
  obtain ⟨vs, h1, h2, h3⟩ := A
  exact ⟨vs, s.l h1, h2, h3⟩
theorem Acc.ne (A : Acc r p zs H G) (h : p ≠ q) : Acc r p zs (upd H q o) G := by
  obtain ⟨vs, h1, h2, h3⟩ := A
  exact ⟨vs, by rw [upd_ne h]; exact h1, h2, h3⟩
theorem Acc.neG (A : Acc r p zs H G) (h : p ≠ q) (hq : G q = none) : Acc r p zs H (upd G q o) := by
  obtain ⟨vs, h1, h2, h3⟩ := A
  exact ⟨vs, h1, by rw [upd_ne h]; exact h2, paired_mono h3 fun _ _ _ w => Mo.mo (ExM.new hq) w⟩
/-- the list is done: from now on it stands still -/
theorem Acc.done (A : Acc r p zs H G) (st : StepM M H0 G0 H G) (h0 : H0 p = none) : ∃ vs, StepM M H0 G0 H (upd G p (.lst vs)) ∧ Ex G (upd G p (.lst vs)) ∧ rL r zs (upd G p (.lst vs)) (.ref p) ∧ G p = none := by
  obtain ⟨vs, h1, h2, h3⟩ := A
  exact ⟨vs, st.freeze h0 h2 h1, ExM.new h2, ⟨p, vs, rfl, upd_same, paired_mono h3 fun _ _ _ w => Mo.mo (ExM.new h2) w⟩, h2⟩
end
section
variable {α : Type} {r : α → Rp} [∀ x, Mo (r x)] {p : Addr} {zs : List α} {z : α} {σ : L2.St} {H H0 G G0 : Hp} {te : TE} {D : Ends} {tz : TS} {K : PySem.W.Frag} {M : List Addr}
/-- xs.append(e) -/
theorem s_appA {j : Nat} (st : StepM M H0 G0 H G) (h0 : H0 p = none) (hσ : σ[j]? = some (some (.ref p))) (A : Acc r p zs H G) (hl : zs.length ≤ 1000000) (h : Ev te σ G (r z))
    (k : ∀ H1 G1 o, Step H G H1 G1 → StepM M H0 G0 (upd H1 p o) G1 → Acc r p (zs ++ [z]) (upd H1 p o) G1 → D.nx σ (upd H1 p o)) : tDrop (tBM K "list" rAppend (tVar j) (tCons te tNil)) D σ H := by
  obtain ⟨vs, h1, h2, h3⟩ := A
  refine s_app hσ h1 (by rw [paired_len h3]; exact hl) h st.gh fun v H1 G1 s1 hv => ?_
  have g1 : G1 p = none := s1.fr p (by rw [h1]; simp) h2
  exact k H1 G1 _ s1 ((st.then s1).mut h0 g1) ⟨_, upd_same, g1, paired_snoc (paired_mono h3 fun _ _ _ w => Mo.mo s1.gg w) hv⟩
theorem q_appA {j : Nat} (st : StepM M H0 G0 H G) (h0 : H0 p = none) (hσ : σ[j]? = some (some (.ref p))) (A : Acc r p zs H G) (hl : zs.length ≤ 1000000) (h : Ev te σ G (r z))
    (k : ∀ H1 G1 o, Step H G H1 G1 → StepM M H0 G0 (upd H1 p o) G1 → Acc r p (zs ++ [z]) (upd H1 p o) G1 → tz D σ (upd H1 p o)) : tSeq (tDrop (tBM K "list" rAppend (tVar j) (tCons te tNil))) tz D σ H :=
  s_appA (D := { D with nx := tz D }) st h0 hσ A hl h k
/-- x = [] -/
theorem q_newA {i : Nat} (st : StepM M H0 G0 H G) (k : ∀ p, H p = none → H0 p = none → StepM M H0 G0 (upd H p (.lst [])) G → Acc r p [] (upd H p (.lst [])) G → tz D (σ.set i (some (.ref p))) (upd H p (.lst []))) : tSeq (tAsg (tLst tNil) (gName i)) tz D σ H :=
  q_new fun p hp => k p hp (st.fresh hp) (st.mut (st.fresh hp) (st.gh.dom hp)) (Acc.start st.gh hp)
/-- return xs -/
theorem s_retA {j : Nat} (st : StepM M H0 G0 H G) (h0 : H0 p = none) (hσ : σ[j]? = some (some (.ref p))) (A : Acc r p zs H G) (k : ∀ G1, StepM M H0 G0 H G1 → rL r zs G1 (.ref p) → D.rt (.ref p) H) : tRet (tVar j) D σ H := by
  obtain ⟨vs, s1, _, h, _⟩ := A.done st h0
  exact ⟨.ref p, hσ, k _ s1 h⟩
end
theorem map_take_succ {α β : Type} (f : α → β) {l : List α} {i : Nat} {x : α} (h : l[i]? = some x) : (l.take (i + 1)).map f = (l.take i).map f ++ [f x] := by
  rw [List.take_succ, h, List.map_append]
  rfl
end Vc
/-! An object that still changes; what is evaluated at one heap. -/
namespace Vc
open PySem PySem.Spec PyProof.Rows L2 Vm
/-- the object at x has the fields fsR, and is not yet part of G -/
def Ob (x C : Addr) (fsR : List (Str × Rp)) (H G : Hp) : Prop := ∃ dx fs, H x = some (.ins C dx fs) ∧ G x = none ∧ Pf fsR G fs
def EvH (te : TE) (σ : L2.St) (H G : Hp) (r : Rp) : Prop := ∀ Q : VK, (∀ v H' G', Step H G H' G' → r G' v → Q v H') → te σ H Q
def EvHA (ta : TA) (σ : L2.St) (H G : Hp) (rs : List Rp) : Prop := ∀ Q : List V → Hp → Prop, (∀ vs H' G', Step H G H' G' → Pr rs G' vs → Q vs H') → ta σ H Q
section
variable {σ : L2.St} {H H' H0 H1 G G' G0 G1 : Hp} {te ta tb : TE} {r : Rp} {al : TA} {rs : List Rp} {K : PySem.W.Frag} {x C p : Addr} {fsR : List (Str × Rp)} {M : List Addr} {D : Ends} {tz : TS} {f : Str} {o : HO}
theorem Ob.nn (O : Ob x C fsR H G) : H x ≠ none := by
  obtain ⟨dx, fs, h, _⟩ := O
  rw [h]
  simp
theorem Ob.step [MoF fsR] (O : Ob x C fsR H G) (s : Step H G H1 G1) : Ob x C fsR H1 G1 := by
  obtain ⟨dx, fs, h1, h2, h3⟩ := O
  exact ⟨dx, fs, s.i h1, s.fr x (by rw [h1]; simp) h2, h3.mono s.gg⟩
theorem Ob.ex (O : Ob x C fsR H G) (s : Ex H H1) : Ob x C fsR H1 G := by
  obtain ⟨dx, fs, h1, h2, h3⟩ := O
  exact ⟨dx, fs, s.i h1, h2, h3⟩
theorem Ob.ne (O : Ob x C fsR H G) (h : x ≠ p) : Ob x C fsR (upd H p o) G := by
  obtain ⟨dx, fs, h1, h2, h3⟩ := O
  exact ⟨dx, fs, by rw [upd_ne h]; exact h1, h2, h3⟩
theorem Ob.neG [MoF fsR] (O : Ob x C fsR H G) (h : x ≠ p) (hp : G p = none) : Ob x C fsR H (upd G p o) := by
  obtain ⟨dx, fs, h1, h2, h3⟩ := O
  exact ⟨dx, fs, h1, by rw [upd_ne h]; exact h2, h3.mono (ExM.new hp)⟩
/-- the object stands still from now on -/
theorem Ob.done [MoF fsR] (O : Ob x C fsR H G) (st : StepM M H0 G0 H G) (h0 : H0 x = none) : ∃ o, StepM M H0 G0 H (upd G x o) ∧ Ex G (upd G x o) ∧ rO C fsR (upd G x o) (.ref x) ∧ G x = none := by
  obtain ⟨dx, fs, h1, h2, h3⟩ := O
  exact ⟨_, st.freeze h0 h2 h1, ExM.new h2, ⟨x, dx, fs, rfl, upd_same, h3.mono (ExM.new h2)⟩, h2⟩
theorem Ev.h (h : Ev te σ G r) (e : Ex G H) : EvH te σ H G r := fun Q q => h H e Q q
theorem EvA.h (h : EvA al σ G rs) (e : Ex G H) : EvHA al σ H G rs := fun Q q => h H e Q q
theorem ehA_cons [Mo r] [MoL rs] (h : EvH te σ H G r) (hs : ∀ H1 G1, Step H G H1 G1 → EvHA al σ H1 G1 rs) : EvHA (tCons te al) σ H G (r :: rs) := fun Q q =>
  h _ fun v H1 G1 s1 h1 => hs H1 G1 s1 _ fun vs H2 G2 s2 h2 => q (v :: vs) H2 G2 (s1.trans s2) (.cons (Mo.mo s2.gg h1) h2)
theorem evH_fld {j : Nat} (O : Ob x C fsR H G) (e : Ex G H) (hσ : σ[j]? = some (some (.ref x))) (c : Cls K C) (n : NoAttr K C f) (l : fsR.lookup f = some r) : EvH (tFld K (tVar j) f) σ H G r := fun Q q => by
  obtain ⟨dx, fs, h1, h2, h3⟩ := O
  obtain ⟨v, h4, h5⟩ := pf_look h3 l
  exact ⟨.ref x, hσ, x, C, dx, fs, v, rfl, h1, c, n, h4, q v H G (st_refl e) h5⟩
where st_refl {H G : Hp} (e : Ex G H) : Step H G H G := StepM.refl e
theorem evH_call {sp : Sp} {E : XK} (ha : EvHA al σ H G rs) (hsp : ∀ vs H Q, spOf rs r vs H Q E → sp vs H Q E) : EvH (tCall sp [] E al) σ H G r := fun Q q =>
  ha _ fun vs H1 G1 s1 h1 => by
    refine hsp _ H1 Q ⟨G1, s1.gh, ?_, fun v H2 G2 s2 h2 => q v H2 G2 (s1.trans s2) h2⟩
    rw [List.append_nil]
    exact h1
theorem Pf.len {fs : List (Str × V)} (h : Pf fsR G fs) : fs.length = fsR.length := paired_len h
/-- x.f = e, a new field -/
theorem s_fldA [MoF fsR] {j : Nat} (st : StepM M H0 G0 H G) (hM : x ∈ M ∨ H0 x = none) (O : Ob x C fsR H G) (h : EvH te σ H G r) (hσ : σ[j]? = some (some (.ref x))) (c : Cls K C) (n : NoAttr K C f) (hf : f ∉ fsR.map (·.1)) (hl : fsR.length < 1000)
    (k : ∀ H1 G1 o, Step H G H1 G1 → StepM M H0 G0 (upd H1 x o) G1 → Ob x C (fsR ++ [(f, r)]) (upd H1 x o) G1 → D.nx σ (upd H1 x o)) : sFld K (tVar j) te f D σ H :=
  h _ fun v H1 G1 s1 hv => by
    obtain ⟨dx, fs, h1, h2, h3⟩ := O.step s1
    refine ⟨.ref x, hσ, x, C, dx, fs, rfl, h1, c, n, by rw [h3.len]; exact hl, ?_⟩
    refine k H1 G1 _ s1 ?_ ⟨dx, _, upd_same, h2, ?_⟩
    · rcases hM with hM | hM
      · exact (st.then s1).mutM hM h2
      · exact (st.then s1).mut hM h2
    · rw [putF_app (by rw [pf_names h3]; exact hf)]
      exact pf_snoc h3 hv
theorem q_fldA [MoF fsR] {j : Nat} (st : StepM M H0 G0 H G) (hM : x ∈ M ∨ H0 x = none) (O : Ob x C fsR H G) (h : EvH te σ H G r) (hσ : σ[j]? = some (some (.ref x))) (c : Cls K C) (n : NoAttr K C f) (hf : f ∉ fsR.map (·.1)) (hl : fsR.length < 1000)
    (k : ∀ H1 G1 o, Step H G H1 G1 → StepM M H0 G0 (upd H1 x o) G1 → Ob x C (fsR ++ [(f, r)]) (upd H1 x o) G1 → tz D σ (upd H1 x o)) : tSeq (sFld K (tVar j) te f) tz D σ H :=
  s_fldA (D := { D with nx := tz D }) st hM O h hσ c n hf hl k
/-- x.f = e, the field at place i -/
theorem q_fldS [MoF fsR] {j i : Nat} (st : StepM M H0 G0 H G) (hM : x ∈ M ∨ H0 x = none) (O : Ob x C fsR H G) (h : EvH te σ H G r) (hσ : σ[j]? = some (some (.ref x))) (c : Cls K C) (n : NoAttr K C f) (hf : plc f (fsR.map (·.1)) = i) (hi : i < fsR.length) (hl : fsR.length < 1000)
    (k : ∀ H1 G1 o, Step H G H1 G1 → StepM M H0 G0 (upd H1 x o) G1 → Ob x C (fsR.set i (f, r)) (upd H1 x o) G1 → tz D σ (upd H1 x o)) : tSeq (sFld K (tVar j) te f) tz D σ H :=
  h _ fun v H1 G1 s1 hv => by
    obtain ⟨dx, fs, h1, h2, h3⟩ := O.step s1
    refine ⟨.ref x, hσ, x, C, dx, fs, rfl, h1, c, n, by rw [h3.len]; exact hl, ?_⟩
    refine k H1 G1 _ s1 ?_ ⟨dx, _, upd_same, h2, ?_⟩
    · rcases hM with hM | hM
      · exact (st.then s1).mutM hM h2
      · exact (st.then s1).mut hM h2
    · rw [putF_set (i := i) (by rw [pf_names h3]; exact hf) (by rw [h3.len]; exact hi)]
      exact pf_set h3 hv
/-- x = C(..) -/
theorem q_makeA {i : Nat} (st : StepM M H0 G0 H G) (h : EvO te σ G C fsR) (k : ∀ x H1 G1, H x = none → H0 x = none → Step H G H1 G1 → StepM M H0 G0 H1 G1 → Ob x C fsR H1 G1 → tz D (σ.set i (some (.ref x))) H1) : tSeq (tAsg te (gName i)) tz D σ H :=
  q_make h st.gh fun x dx fs H1 G1 hx s1 g1 h1 h2 => k x H1 G1 hx (st.fresh hx) s1 (st.then s1) ⟨dx, fs, h1, g1, h2⟩
/-- return x -/
theorem s_retO [MoF fsR] {j : Nat} (st : StepM M H0 G0 H G) (h0 : H0 x = none) (hσ : σ[j]? = some (some (.ref x))) (O : Ob x C fsR H G) (k : ∀ G1, StepM M H0 G0 H G1 → rO C fsR G1 (.ref x) → D.rt (.ref x) H) : tRet (tVar j) D σ H := by
  obtain ⟨o, s1, _, h, _⟩ := O.done st h0
  exact ⟨.ref x, hσ, k _ s1 h⟩
end
theorem in1 {x : Addr} : x ∈ [x] := List.mem_cons_self
instance mofApp {a b : List (Str × Rp)} [MoF a] [MoF b] : MoF (a ++ b) := ⟨fun q h => by
  rcases List.mem_append.mp h with h | h
  · exact MoF.mo q h
  · exact MoF.mo q h⟩
instance mofSet {a : List (Str × Rp)} {i : Nat} {n : Str} {r : Rp} [MoF a] [Mo r] : MoF (a.set i (n, r)) := ⟨fun q h => by
  rcases List.mem_or_eq_of_mem_set h with h | h
  · exact MoF.mo q h
  · rw [h]
    infer_instance⟩
section
variable {σ : L2.St} {H H0 H1 G G0 G1 : Hp} {te ta tb : TE} {r : Rp} {K : PySem.W.Frag} {x C p : Addr} {fsR : List (Str × Rp)} {M : List Addr} {D : Ends} {tz : TS} {f : Str}
/-- x.f = e, a new field; the names are told -/
theorem q_fldB (ns : List Str) [MoF fsR] {j : Nat} (st : StepM M H0 G0 H G) (hM : x ∈ M ∨ H0 x = none) (O : Ob x C fsR H G) (h : EvH te σ H G r) (hσ : σ[j]? = some (some (.ref x))) (c : Cls K C) (n : NoAttr K C f)
    (k : ∀ H1 G1 o, Step H G H1 G1 → StepM M H0 G0 (upd H1 x o) G1 → Ob x C (fsR ++ [(f, r)]) (upd H1 x o) G1 → tz D σ (upd H1 x o)) (hns : fsR.map (·.1) = ns := by rfl) (hf : f ∉ ns := by decide +kernel) (hl : ns.length < 1000 := by decide +kernel) : tSeq (sFld K (tVar j) te f) tz D σ H :=
  q_fldA st hM O h hσ c n (by rw [hns]; exact hf) (by rw [← hns, List.length_map] at hl; exact hl) k
theorem s_fldB (ns : List Str) [MoF fsR] {j : Nat} (st : StepM M H0 G0 H G) (hM : x ∈ M ∨ H0 x = none) (O : Ob x C fsR H G) (h : EvH te σ H G r) (hσ : σ[j]? = some (some (.ref x))) (c : Cls K C) (n : NoAttr K C f)
    (k : ∀ H1 G1 o, Step H G H1 G1 → StepM M H0 G0 (upd H1 x o) G1 → Ob x C (fsR ++ [(f, r)]) (upd H1 x o) G1 → D.nx σ (upd H1 x o)) (hns : fsR.map (·.1) = ns := by rfl) (hf : f ∉ ns := by decide +kernel) (hl : ns.length < 1000 := by decide +kernel) : sFld K (tVar j) te f D σ H :=
  s_fldA st hM O h hσ c n (by rw [hns]; exact hf) (by rw [← hns, List.length_map] at hl; exact hl) k
/-- x.f = e, the field at place i; the names are told -/
theorem q_fldC (ns : List Str) (i : Nat) [MoF fsR] {j : Nat} (st : StepM M H0 G0 H G) (hM : x ∈ M ∨ H0 x = none) (O : Ob x C fsR H G) (h : EvH te σ H G r) (hσ : σ[j]? = some (some (.ref x))) (c : Cls K C) (n : NoAttr K C f)
    (k : ∀ H1 G1 o, Step H G H1 G1 → StepM M H0 G0 (upd H1 x o) G1 → Ob x C (fsR.set i (f, r)) (upd H1 x o) G1 → tz D σ (upd H1 x o)) (hns : fsR.map (·.1) = ns := by rfl) (hf : plc f ns = i := by decide +kernel) (hi : i < ns.length := by decide +kernel) (hl : ns.length < 1000 := by decide +kernel) : tSeq (sFld K (tVar j) te f) tz D σ H :=
  have e : fsR.length = ns.length := by rw [← hns, List.length_map]
  q_fldS st hM O h hσ c n (by rw [hns]; exact hf) (by rw [e]; exact hi) (by rw [e]; exact hl) k
/-- the field of name f -/
theorem look_ns {β : Type} (ns : List Str) (i : Nat) {fs : List (Str × β)} {b : β} (hb : (fs[i]?).map (·.2) = some b) (hns : fs.map (·.1) = ns := by rfl) (hf : plc f ns = i := by decide +kernel) : fs.lookup f = some b := by
  rw [look_plc (i := i) (by rw [hns]; exact hf), hb]
end
/-- the promise of an __init__ in the form that its body is read from -/
def spIni (K : PySem.W.Frag) (C : Str) (rs : List Rp) (fsR : List (Str × Rp)) : Sp := fun vs H Q _ => ∃ (G : Hp) (x dx : Addr) (ws : List V), Ex G H ∧ G x = none ∧ vs = .ref x :: ws ∧ H x = some (.ins (He.ga K C) dx []) ∧ Pr rs G ws ∧
  ∀ dx' fs H' G', StepM [x] H G H' G' → H' x = some (.ins (He.ga K C) dx' fs) → Pf fsR G' fs → Q .non H'
theorem spIni_len {K : PySem.W.Frag} {C : Str} {rs : List Rp} {fsR : List (Str × Rp)} {vs : List V} {H : Hp} {Q : VK} {E : XK} (h : spIni K C rs fsR vs H Q E) : vs.length = rs.length + 1 := by
  obtain ⟨G, x, dx, ws, _, _, rfl, _, h, _⟩ := h
  rw [List.length_cons, paired_len h]
theorem Ob.start {x C dx : Addr} {H G : Hp} (h : H x = some (.ins C dx [])) (g : G x = none) : Ob x C [] H G := ⟨dx, [], h, g, .nil⟩
/-- the end of an __init__ -/
theorem ini_end {C x : Addr} {fsR : List (Str × Rp)} {Q : VK} {H G H' G' : Hp} (k : ∀ dx' fs H' G', StepM [x] H G H' G' → H' x = some (.ins C dx' fs) → Pf fsR G' fs → Q .non H') (st : StepM [x] H G H' G') (O : Ob x C fsR H' G') : Q .non H' := by
  obtain ⟨dx', fs, h1, _, h3⟩ := O
  exact k dx' fs H' G' st h1 h3
/-- C(..), with a promise that spIni gives -/
theorem evO_ini {σ : L2.St} {G : Hp} {al : TA} {rs : List Rp} {K : PySem.W.Frag} {C : Str} {sp : Sp} {fsR : List (Str × Rp)} {E : XK} (ha : EvA al σ G rs) (hsp : ∀ vs H Q, spIni K C rs fsR vs H Q E → sp vs H Q E) : EvO (tMake (He.ga K C) sp [] E al) σ G (He.ga K C) fsR :=
  evO_make ha fun vs H Q ⟨G, x, dx, ws, a, b, c, d, e, k⟩ => hsp vs H Q ⟨G, x, dx, ws, a, b, c, d, e, k⟩
end Vc
namespace Vm
theorem zipWith_map {α β γ : Type} (f : α → β → γ) (xs : List α) (ys : List β) : List.zipWith f xs ys = (xs.zip ys).map fun x => f x.1 x.2 := by
  rw [List.zip_eq_zipWith, List.map_zipWith]
theorem get_of_lt {α : Type} {l : List α} {n : Nat} (d : α) (h : n < l.length) : l[n]? = some (l.getD n d) := by
  rw [List.getD_eq_getElem?_getD, List.getElem?_eq_getElem h]
  rfl
end Vm
namespace Vc
open PySem PySem.Spec PyProof.Rows L2 Vm
theorem pr_four {r s t q : Rp} {G : Hp} {vs : List V} (h : Pr [r, s, t, q] G vs) : ∃ v w x y, vs = [v, w, x, y] ∧ r G v ∧ s G w ∧ t G x ∧ q G y := by
  obtain ⟨v, ws, rfl, h1, h2⟩ := pr_cons h
  obtain ⟨a, b, c, rfl, h3, h4, h5⟩ := pr_three h2
  exact ⟨v, a, b, c, rfl, h1, h3, h4, h5⟩
theorem pr_five {r s t q o : Rp} {G : Hp} {vs : List V} (h : Pr [r, s, t, q, o] G vs) : ∃ v w x y z, vs = [v, w, x, y, z] ∧ r G v ∧ s G w ∧ t G x ∧ q G y ∧ o G z := by
  obtain ⟨v, ws, rfl, h1, h2⟩ := pr_cons h
  obtain ⟨a, b, c, d, rfl, h3, h4, h5, h6⟩ := pr_four h2
  exact ⟨v, a, b, c, d, rfl, h1, h3, h4, h5, h6⟩
abbrev rInts : List Int → Rp := rL rInt
abbrev rTab : List (List Int) → Rp := rL rInts
abbrev rBox : List (List (List Int)) → Rp := rL rTab
section
variable {P : Program} {w : World} {K : PySem.W.Frag} {mg : Str → Option Value} {base : Heap}
/-! gathered_pieces -/
def spGathered : Sp := fun vs H Q E => ∃ (p : Int) (t : List (List Int)) (others : List Nat) (coins : List (List (List Int))), 0 < p ∧ (∀ row ∈ t, ∀ x ∈ others, x < row.length) ∧ t.length ≤ 1000 ∧ others.length ≤ 1000 ∧ (∀ b ∈ coins, ∀ c ∈ b, c.length ≤ 1000) ∧
  spOf [rInt p, rTab t, rL rNat others, rBox coins] (rBox (gatheredF p t others coins)) vs H Q E
theorem sc_gathered_pieces : FnScope ["prime", "table", "others", "coins", "pieces", "mixer", "rows", "row", "line"] ["prime", "table", "others", "coins"] (defScope s_gathered_pieces) := ⟨rfl, rfl, rfl, by decide +kernel, rfl, by decide +kernel, by decide +kernel⟩
theorem ok_gathered_pieces (T : Tx K mg) : Cal P w K mg base "gathered_pieces" 2 ["prime", "table", "others", "coins"] spGathered := by
  have c_split := ok_split (P := P) (w := w) (base := base) T
  refine T.k_gathered_pieces.cal sc_gathered_pieces (fun vs H Q E ⟨_, _, _, _, _, _, _, _, _, h⟩ => spOf_len h) fun f cdv A outer s H vs Q E hr h => ⟨_, (pss_cons (ps_set (i := 4) sc_gathered_pieces.nd rfl (Or.inl rfl) (pe_lst pa_nil))
        (pss_cons (ps_for PassesOwn.never rfl (itZ K rfl T.fzip (pa_cons (pv 2) (pa_cons (pv 3) pa_nil))) (tgT K rfl (pgs_cons (pg_name (i := 5) sc_gathered_pieces.nd rfl (Or.inr rfl)) (pgs_cons (pg_name (i := 6) sc_gathered_pieces.nd rfl (Or.inl rfl)) pgs_nil)))
          (pss_one (ps_expr (bmK K (pe_bm PySem.F.plainAttrs_list PySem.F.slot_list_append PySem.F.type_list_append mt_append (pv 4) (pa_cons (pe_lc (own := [("row", 7), ("line", 8)]) (g := gTup K 2 (gCons (gName 7) (gCons (gName 8) gNil))) (tt := tYes) rfl sc_gathered_pieces.nd (itZ K rfl T.fzip (pa_cons (pv 1) (pa_cons (pv 6) pa_nil))) (blkOk_by (N := ["prime", "table", "others", "coins", "pieces", "mixer", "rows", "row", "line"]) (sc := defScope s_gathered_pieces) (by decide +kernel)) (fun _ _ _ _ _ => tgT K rfl (pgs_cons (pg_name (i := 7) sc_gathered_pieces.nd rfl (Or.inl rfl)) (pgs_cons (pg_name (i := 8) sc_gathered_pieces.nd rfl (Or.inl rfl)) pgs_nil))) (fun _ _ _ _ _ => pts_nil) (fun _ _ _ _ _ => (pe_cal c_split hr rfl (pa_cons (pv 0) (pa_cons (pe_ix (ixl K) (pv 7) (pv 5) (fun _ _ => rfl)) (pa_cons (pv 8) pa_nil)))))) pa_nil))))))
        (pss_one (ps_ret (pv 4))))), ?_⟩
  obtain ⟨p, t, others, coins, hp, hlt, hl, hlo, hc, G, e, ha, k⟩ := h
  obtain ⟨_, u, z, y, rfl, rfl, hu, hz, hy⟩ := pr_four ha
  have ef : gatheredF p t others coins = (others.zip coins).map fun x => (t.zip x.2).map fun q => splitF p (q.1.getD x.1 0) q.2 := by
    unfold gatheredF
    rw [zipWith_map]
    apply List.map_congr_left
    intro x _
    exact zipWith_map _ _ _
  rw [ef] at k
  refine q_newA (r := rTab) (st0 e) fun a hn h0 s1 A1 => ?_
  refine q_for2 (r0 := rNat) (r1 := rTab) s1 (wk_zip (r := rNat) (r' := rTab) (ys := others) (zs := coins) (ev_var rfl hz) (ev_var rfl hy)) (fun i σ' H' G' => ∃ x1 x2, σ' = [some (.int p), some u, some z, some y, some (.ref a), x1, x2, none, none] ∧ rTab t G' u ∧
    Acc rTab a (((others.zip coins).take i).map fun x => (t.zip x.2).map fun q => splitF p (q.1.getD x.1 0) q.2) H' G') ?_ ?_ ?_
  · exact fun H1 G1 s2 => ⟨none, none, rfl, Mo.mo s2.gg hu, by rw [List.take_zero]; exact A1.step s2⟩
  · rintro i x σ' v v2 Ha Hb G' Gs hi s2 e1 e2 e3 hv hv2 ⟨x1, x2, rfl, hu1, A2⟩
    cases hv
    have hx := List.of_mem_zip (List.mem_of_getElem? hi)
    have hlen : i < others.length := by
      have := (List.getElem?_eq_some_iff.mp hi).1
      rw [List.length_zip] at this
      omega
    refine s_appA (z := (t.zip x.2).map fun q => splitF p (q.1.getD x.1 0) q.2) s2 h0 rfl (A2.ex e3) (by rw [List.length_map, List.length_take]; omega)
      (ev_lc2n (r := rInts) (fun q => splitF p (q.1.getD x.1 0) q.2) (wk_zip (r := rInts) (r' := rInts) (ys := t) (zs := x.2) (ev_var rfl hu1) (ev_var rfl hv2)) (by rw [List.length_zip]; omega) (fun _ _ => rfl) fun q v w G2 hq e4 h1 h2 => ?_) fun H1 G1 o s3 s4 A3 => ⟨G1, s4, e2.trans s3.gg, _, _, rfl, Mo.mo s3.gg hu1, by rw [map_take_succ _ hi]; exact A3⟩
    have hq' := List.of_mem_zip hq
    exact ev_call (ea_cons (ev_var (r := rInt p) rfl rfl) (ea_cons (ev_ix (r := rInt) (xs := q.1) (n := x.1) (ev_var rfl h1) (ev_var rfl rfl) rfl (get_of_lt 0 (hlt _ hq'.1 _ hx.1))) (ea_cons (ev_var (r := rInts q.2) rfl h2) ea_nil))) fun vs H Q h => ⟨p, _, q.2, hp, hc _ hx.2 _ hq'.2, h⟩
  · rintro σ' H2 G2 s2 e1 ⟨x1, x2, rfl, hu1, A2⟩
    rw [List.take_length] at A2
    exact s_retA s2 h0 rfl A2 fun G3 s3 h3 => k _ H2 G3 s3 h3
/-! held_shares -/
def spHeld : Sp := fun vs H Q E => ∃ (p : Int) (t : List (List Int)) (hs : List Nat) (pieces : List (List (List Int))), 0 < p ∧ (∀ row ∈ t, ∀ x ∈ hs, x < row.length) ∧ t.length ≤ 1000 ∧ hs.length ≤ 1000 ∧ pieces.length ≤ 1000 ∧ (∀ b ∈ pieces, Rect b t.length hs.length) ∧
  spOf [rInt p, rTab t, rL rNat hs, rBox pieces] (rTab (heldF p t hs pieces)) vs H Q E
theorem sc_held_shares : FnScope ["prime", "table", "holders", "pieces", "result", "number", "row", "line", "place", "holder", "rows"] ["prime", "table", "holders", "pieces"] (defScope s_held_shares) := ⟨rfl, rfl, rfl, by decide +kernel, rfl, by decide +kernel, by decide +kernel⟩
theorem ok_held_shares (T : Tx K mg) : Cal P w K mg base "held_shares" 2 ["prime", "table", "holders", "pieces"] spHeld := by
  have c_total := ok_total (P := P) (w := w) (base := base) T
  refine T.k_held_shares.cal sc_held_shares (fun vs H Q E ⟨_, _, _, _, _, _, _, _, _, _, h⟩ => spOf_len h) fun f cdv A outer s H vs Q E hr h => ⟨_, (pss_cons (ps_set (i := 4) sc_held_shares.nd rfl (Or.inl rfl) (pe_lst pa_nil))
        (pss_cons (ps_for PassesOwn.never rfl (itE K rfl T.fenumerate (pa_cons (pv 1) pa_nil)) (tgT K rfl (pgs_cons (pg_name (i := 5) sc_held_shares.nd rfl (Or.inr rfl)) (pgs_cons (pg_name (i := 6) sc_held_shares.nd rfl (Or.inl rfl)) pgs_nil)))
          (pss_cons (ps_set (i := 7) sc_held_shares.nd rfl (Or.inl rfl) (pe_lst pa_nil))
          (pss_cons (ps_for PassesOwn.never rfl (itE K rfl T.fenumerate (pa_cons (pv 2) pa_nil)) (tgT K rfl (pgs_cons (pg_name (i := 8) sc_held_shares.nd rfl (Or.inr rfl)) (pgs_cons (pg_name (i := 9) sc_held_shares.nd rfl (Or.inl rfl)) pgs_nil)))
            (pss_one (ps_expr (bmK K (pe_bm PySem.F.plainAttrs_list PySem.F.slot_list_append PySem.F.type_list_append mt_append (pv 7) (pa_cons (pe_cal c_total hr rfl (pa_cons (pv 0) (pa_cons (pe_op op_cat (pe_lst (pa_cons (pe_ix (ixl K) (pv 6) (pv 9) (fun _ _ => rfl)) pa_nil)) (pe_lc (own := [("rows", 10)]) (g := gName 10) (tt := tYes) rfl sc_held_shares.nd (itL K (pv 3)) (blkOk_by (N := ["prime", "table", "holders", "pieces", "result", "number", "row", "line", "place", "holder", "rows"]) (sc := defScope s_held_shares) (by decide +kernel)) (fun _ _ _ _ _ => pg_name (i := 10) sc_held_shares.nd rfl (Or.inl rfl)) (fun _ _ _ _ _ => pts_nil) (fun _ _ _ _ _ => (pe_ix (ixl K) (pe_ix (ixl K) (pv 10) (pv 5) (fun _ _ => rfl)) (pv 8) (fun _ _ => rfl))))) pa_nil))) pa_nil))))))
          (pss_one (ps_expr (bmK K (pe_bm PySem.F.plainAttrs_list PySem.F.slot_list_append PySem.F.type_list_append mt_append (pv 4) (pa_cons (pv 7) pa_nil))))))))
        (pss_one (ps_ret (pv 4))))), ?_⟩
  obtain ⟨p, t, hs, pieces, hp, hlt, hl, hlh, hlp, hb, G, e, ha, k⟩ := h
  obtain ⟨_, u, z, y, rfl, rfl, hu, hz, hy⟩ := pr_four ha
  refine q_newA (r := rInts) (st0 e) fun a hn h0 s1 A1 => ?_
  refine q_for2 (r0 := rNat) (r1 := rInts) s1 (wk_enum (r := rInts) (ys := t) (ev_var rfl hu)) (fun i σ' H' G' => ∃ x1 x2 x3 x4 x5, σ' = [some (.int p), some u, some z, some y, some (.ref a), x1, x2, x3, x4, x5, none] ∧ rL rNat hs G' z ∧ rBox pieces G' y ∧
    Acc rInts a ((List.range i).map fun n => (List.range hs.length).map fun j => tot p ((t.getD n []).getD (hs.getD j 0) 0 :: pieces.map fun rows => (rows.getD n []).getD j 0)) H' G') ?_ ?_ ?_
  · exact fun H1 G1 s2 => ⟨none, none, none, none, none, rfl, Mo.mo s2.gg hz, Mo.mo s2.gg hy, A1.step s2⟩
  · rintro i x σ' v v2 Ha Hb G' Gs hi s2 e1 e2 e3 hv hv2 ⟨x1, x2, x3, x4, x5, rfl, hz1, hy1, A2⟩
    obtain ⟨row, rfl, hq⟩ := get_enum hi
    cases hv
    have hil : i < t.length := (List.getElem?_eq_some_iff.mp hq).1
    have hrow : t.getD i [] = row := by rw [List.getD_eq_getElem?_getD, hq]; rfl
    have hrm : row ∈ t := List.mem_of_getElem? hq
    refine q_newA (r := rInt) s2 fun b hbn hb0 s3 B1 => ?_
    have A3 := (A2.ex e3).ne (q := b) (o := .lst []) (ne_fresh (A2.ex e3).nn hbn)
    have nab : a ≠ b := ne_fresh (A2.ex e3).nn hbn
    refine q_for2 (r0 := rNat) (r1 := rNat) s3 (wk_enum (r := rNat) (ys := hs) (ev_var rfl hz1)) (fun j σ' H' G' => ∃ x4 x5, σ' = [some (.int p), some u, some z, some y, some (.ref a), some (.int (i : Int)), some v2, some (.ref b), x4, x5, none] ∧ rL rNat hs G' z ∧ rBox pieces G' y ∧ rInts row G' v2 ∧
      Acc rInts a ((List.range i).map fun n => (List.range hs.length).map fun j => tot p ((t.getD n []).getD (hs.getD j 0) 0 :: pieces.map fun rows => (rows.getD n []).getD j 0)) H' G' ∧
      Acc rInt b ((List.range j).map fun j => tot p (row.getD (hs.getD j 0) 0 :: pieces.map fun rows => (rows.getD i []).getD j 0)) H' G') ?_ ?_ ?_
    · exact fun H1 G1 s4 => ⟨_, _, rfl, Mo.mo s4.gg hz1, Mo.mo s4.gg hy1, Mo.mo s4.gg hv2, A3.step s4, B1.step s4⟩
    · rintro j x σ' v v3 Hc Hd G2 Gt hj s4 f1 f2 f3 hv hv3 ⟨x4, x5, rfl, hz2, hy2, hr2, A4, B2⟩
      obtain ⟨hx, rfl, hqj⟩ := get_enum hj
      cases hv
      cases hv3
      have hjl : j < hs.length := (List.getElem?_eq_some_iff.mp hqj).1
      have hhx : hs.getD j 0 = hx := by rw [List.getD_eq_getElem?_getD, hqj]; rfl
      have hxm : hx ∈ hs := List.mem_of_getElem? hqj
      refine s_appA (z := tot p (row.getD (hs.getD j 0) 0 :: pieces.map fun rows => (rows.getD i []).getD j 0)) s4 hb0 rfl (B2.ex f3) (by rw [List.length_map, List.length_range]; omega)
        (ev_call (rs := [rInt p, rInts ([row.getD (hs.getD j 0) 0] ++ pieces.map fun rows => (rows.getD i []).getD j 0)]) (ea_cons (ev_var rfl rfl) (ea_cons (ev_cat (r := rInt) (xs := [row.getD (hs.getD j 0) 0]) (ys := pieces.map fun rows => (rows.getD i []).getD j 0)
          (ev_lst (r := rInt) (xs := [row.getD (hs.getD j 0) 0]) (ea_cons (ev_ix (r := rInt) (xs := row) (n := hx) (ev_var rfl hr2) (ev_var rfl rfl) rfl (by rw [hhx]; exact get_of_lt 0 (hlt _ hrm _ hxm))) ea_nil) (by simp))
          (ev_lc1 (r := rInt) (fun rows : List (List Int) => (rows.getD i []).getD j 0) (wk_list (r := rTab) (ys := pieces) (ev_var rfl hy2)) (by omega) (fun _ => rfl) fun rows v G3 hrows e4 hv4 => ?_) (by rw [List.length_map, List.length_singleton]; omega)) ea_nil)) fun vs H Q h => ⟨p, _, hp, h⟩)
        fun H1 G1 o s5 s6 B3 => ⟨G1, s6, f2.trans s5.gg, _, _, rfl, Mo.mo s5.gg hz2, Mo.mo s5.gg hy2, Mo.mo s5.gg hr2, ((A4.ex f3).step s5).ne nab, by rw [List.range_succ, List.map_append]; exact B3⟩
      have hrr := hb rows hrows
      exact ev_ix (r := rInt) (xs := rows.getD i []) (n := j) (ev_ix (r := rInts) (xs := rows) (n := i) (ev_var rfl hv4) (ev_var rfl rfl) rfl (get_of_lt [] (by rw [hrr.1]; exact hil))) (ev_var rfl rfl) rfl (get_of_lt 0 (by rw [hrr.row hil]; exact hjl))
    · rintro σ' H2 G2 s4 f1 ⟨x4, x5, rfl, hz2, hy2, hr2, A4, B2⟩
      rw [List.length_mapIdx] at B2
      obtain ⟨us, s5, e5, h5, g5⟩ := B2.done s4 hb0
      refine s_appA (z := (List.range hs.length).map fun j => tot p (row.getD (hs.getD j 0) 0 :: pieces.map fun rows => (rows.getD i []).getD j 0)) s5 h0 rfl (A4.neG nab g5) (by rw [List.length_map, List.length_range]; omega) (ev_var rfl h5)
        fun H1 G1 o s6 s7 A5 => ⟨G1, s7, (e2.trans f1).trans (e5.trans s6.gg), _, _, _, _, _, rfl, Mo.mo (e5.trans s6.gg) hz2, Mo.mo (e5.trans s6.gg) hy2, by
          rw [List.range_succ, List.map_append]
          show Acc rInts a (_ ++ [(List.range hs.length).map fun j => tot p ((t.getD i []).getD (hs.getD j 0) 0 :: pieces.map fun rows => (rows.getD i []).getD j 0)]) _ _
          rw [hrow]
          exact A5⟩
  · rintro σ' H2 G2 s2 e1 ⟨x1, x2, x3, x4, x5, rfl, hz1, hy1, A2⟩
    rw [List.length_mapIdx] at A2
    exact s_retA s2 h0 rfl A2 fun G3 s3 h3 => k _ H2 G3 s3 h3
/-! spread_pieces -/
def spSpread : Sp := fun vs H Q E => ∃ (p : Int) (t : List (List Int)) (n : Nat) (coins : List (List (List Int))), 0 < p ∧ (∀ row ∈ t, n ≤ row.length) ∧ t.length ≤ 1000 ∧ n ≤ 1000 ∧ n ≤ coins.length ∧ (∀ b ∈ coins, ∀ c ∈ b, c.length ≤ 1000) ∧
  spOf [rInt p, rTab t, rNat n, rBox coins] (rBox (spreadF p t n coins)) vs H Q E
theorem sc_spread_pieces : FnScope ["prime", "ordered", "many", "coins", "pieces", "place", "row", "line"] ["prime", "ordered", "many", "coins"] (defScope s_spread_pieces) := ⟨rfl, rfl, rfl, by decide +kernel, rfl, by decide +kernel, by decide +kernel⟩
theorem ok_spread_pieces (T : Tx K mg) : Cal P w K mg base "spread_pieces" 2 ["prime", "ordered", "many", "coins"] spSpread := by
  have c_split := ok_split (P := P) (w := w) (base := base) T
  refine T.k_spread_pieces.cal sc_spread_pieces (fun vs H Q E ⟨_, _, _, _, _, _, _, _, _, _, h⟩ => spOf_len h) fun f cdv A outer s H vs Q E hr h => ⟨_, (pss_cons (ps_set (i := 4) sc_spread_pieces.nd rfl (Or.inl rfl) (pe_lst pa_nil))
        (pss_cons (ps_for PassesOwn.never rfl (pi_range1 rfl T.frange (pa_cons (pv 2) pa_nil)) (pg_name (i := 5) sc_spread_pieces.nd rfl (Or.inr rfl))
          (pss_one (ps_expr (bmK K (pe_bm PySem.F.plainAttrs_list PySem.F.slot_list_append PySem.F.type_list_append mt_append (pv 4) (pa_cons (pe_lc (own := [("row", 6), ("line", 7)]) (g := gTup K 2 (gCons (gName 6) (gCons (gName 7) gNil))) (tt := tYes) rfl sc_spread_pieces.nd (itZ K rfl T.fzip (pa_cons (pv 1) (pa_cons (pe_ix (ixl K) (pv 3) (pv 5) (fun _ _ => rfl)) pa_nil))) (blkOk_by (N := ["prime", "ordered", "many", "coins", "pieces", "place", "row", "line"]) (sc := defScope s_spread_pieces) (by decide +kernel)) (fun _ _ _ _ _ => tgT K rfl (pgs_cons (pg_name (i := 6) sc_spread_pieces.nd rfl (Or.inl rfl)) (pgs_cons (pg_name (i := 7) sc_spread_pieces.nd rfl (Or.inl rfl)) pgs_nil))) (fun _ _ _ _ _ => pts_nil) (fun _ _ _ _ _ => (pe_cal c_split hr rfl (pa_cons (pv 0) (pa_cons (pe_ix (ixl K) (pv 6) (pv 5) (fun _ _ => rfl)) (pa_cons (pv 7) pa_nil)))))) pa_nil))))))
        (pss_one (ps_ret (pv 4))))), ?_⟩
  obtain ⟨p, t, n, coins, hp, hlt, hl, hn, hnc, hc, G, e, ha, k⟩ := h
  obtain ⟨_, u, _, y, rfl, rfl, hu, rfl, hy⟩ := pr_four ha
  refine q_newA (r := rTab) (st0 e) fun a hna h0 s1 A1 => ?_
  refine q_for1 (r0 := rNat) s1 (wk_rng1 (n := n) (ev_var rfl rfl) (by omega)) (fun i σ' H' G' => ∃ x1, σ' = [some (.int p), some u, some (.int (n : Int)), some y, some (.ref a), x1, none, none] ∧ rTab t G' u ∧ rBox coins G' y ∧
    Acc rTab a ((List.range i).map fun j => List.zipWith (fun row line => splitF p (row.getD j 0) line) t (coins.getD j [])) H' G') ?_ ?_ ?_
  · exact fun H1 G1 s2 => ⟨none, rfl, Mo.mo s2.gg hu, Mo.mo s2.gg hy, A1.step s2⟩
  · rintro i x σ' v Ha Hb G' Gs hi s2 e1 e2 e3 hv ⟨x1, rfl, hu1, hy1, A2⟩
    cases hv
    obtain ⟨rfl, hil⟩ := get_range hi
    have hic : i < coins.length := by omega
    have hmem := getD_mem coins i [] hic
    refine s_appA (z := List.zipWith (fun row line => splitF p (row.getD i 0) line) t (coins.getD i [])) s2 h0 rfl (A2.ex e3) (by rw [List.length_map, List.length_range]; omega) ?_
      fun H1 G1 o s3 s4 A3 => ⟨G1, s4, e2.trans s3.gg, _, rfl, Mo.mo s3.gg hu1, Mo.mo s3.gg hy1, by rw [List.range_succ, List.map_append]; exact A3⟩
    rw [zipWith_map]
    refine ev_lc2n (r := rInts) (fun q : List Int × List Int => splitF p (q.1.getD i 0) q.2) (wk_zip (r := rInts) (r' := rInts) (ys := t) (zs := coins.getD i []) (ev_var rfl hu1) (ev_ix (r := rTab) (xs := coins) (n := i) (ev_var rfl hy1) (ev_var rfl rfl) rfl (get_of_lt [] hic))) (by rw [List.length_zip]; omega) (fun _ _ => rfl) fun q v w G2 hq e4 h1 h2 => ?_
    have hq' := List.of_mem_zip hq
    exact ev_call (ea_cons (ev_var (r := rInt p) rfl rfl) (ea_cons (ev_ix (r := rInt) (xs := q.1) (n := i) (ev_var rfl h1) (ev_var rfl rfl) rfl (get_of_lt 0 (Nat.lt_of_lt_of_le hil (hlt _ hq'.1)))) (ea_cons (ev_var (r := rInts q.2) rfl h2) ea_nil))) fun vs H Q h => ⟨p, _, q.2, hp, hc _ hmem _ hq'.2, h⟩
  · rintro σ' H2 G2 s2 e1 ⟨x1, rfl, hu1, hy1, A2⟩
    rw [List.length_range] at A2
    exact s_retA s2 h0 rfl A2 fun G3 s3 h3 => k _ H2 G3 s3 h3
/-! new_table -/
def spNewTab : Sp := fun vs H Q E => ∃ (p : Int) (pieces : List (List (List Int))) (m rows : Nat), 0 < p ∧ pieces.length ≤ 1000 ∧ m ≤ 1000 ∧ rows ≤ 1000 ∧ (∀ b ∈ pieces, Rect b rows m) ∧
  spOf [rInt p, rBox pieces, rNat m, rNat rows] (rTab (tableF p pieces m rows)) vs H Q E
theorem sc_new_table : FnScope ["prime", "pieces", "mixers", "rows", "table", "number", "line", "mixer", "row"] ["prime", "pieces", "mixers", "rows"] (defScope s_new_table) := ⟨rfl, rfl, rfl, by decide +kernel, rfl, by decide +kernel, by decide +kernel⟩
theorem ok_new_table (T : Tx K mg) : Cal P w K mg base "new_table" 2 ["prime", "pieces", "mixers", "rows"] spNewTab := by
  have c_total := ok_total (P := P) (w := w) (base := base) T
  refine T.k_new_table.cal sc_new_table (fun vs H Q E ⟨_, _, _, _, _, _, _, _, _, h⟩ => spOf_len h) fun f cdv A outer s H vs Q E hr h => ⟨_, (pss_cons (ps_set (i := 4) sc_new_table.nd rfl (Or.inl rfl) (pe_lst pa_nil))
        (pss_cons (ps_for PassesOwn.never rfl (pi_range1 rfl T.frange (pa_cons (pv 3) pa_nil)) (pg_name (i := 5) sc_new_table.nd rfl (Or.inr rfl))
          (pss_cons (ps_set (i := 6) sc_new_table.nd rfl (Or.inl rfl) (pe_lst pa_nil))
          (pss_cons (ps_for PassesOwn.never rfl (pi_range1 rfl T.frange (pa_cons (pv 2) pa_nil)) (pg_name (i := 7) sc_new_table.nd rfl (Or.inr rfl))
            (pss_one (ps_expr (bmK K (pe_bm PySem.F.plainAttrs_list PySem.F.slot_list_append PySem.F.type_list_append mt_append (pv 6) (pa_cons (pe_cal c_total hr rfl (pa_cons (pv 0) (pa_cons (pe_lc (own := [("row", 8)]) (g := gName 8) (tt := tYes) rfl sc_new_table.nd (itL K (pv 1)) (blkOk_by (N := ["prime", "pieces", "mixers", "rows", "table", "number", "line", "mixer", "row"]) (sc := defScope s_new_table) (by decide +kernel)) (fun _ _ _ _ _ => pg_name (i := 8) sc_new_table.nd rfl (Or.inl rfl)) (fun _ _ _ _ _ => pts_nil) (fun _ _ _ _ _ => (pe_ix (ixl K) (pe_ix (ixl K) (pv 8) (pv 5) (fun _ _ => rfl)) (pv 7) (fun _ _ => rfl)))) pa_nil))) pa_nil))))))
          (pss_one (ps_expr (bmK K (pe_bm PySem.F.plainAttrs_list PySem.F.slot_list_append PySem.F.type_list_append mt_append (pv 4) (pa_cons (pv 6) pa_nil))))))))
        (pss_one (ps_ret (pv 4))))), ?_⟩
  obtain ⟨p, pieces, m, rows, hp, hlp, hm, hrw, hb, G, e, ha, k⟩ := h
  obtain ⟨_, y, _, _, rfl, rfl, hy, rfl, rfl⟩ := pr_four ha
  refine q_newA (r := rInts) (st0 e) fun a hn h0 s1 A1 => ?_
  refine q_for1 (r0 := rNat) s1 (wk_rng1 (n := rows) (ev_var rfl rfl) (by omega)) (fun i σ' H' G' => ∃ x1 x2 x3, σ' = [some (.int p), some y, some (.int (m : Int)), some (.int (rows : Int)), some (.ref a), x1, x2, x3, none] ∧ rBox pieces G' y ∧
    Acc rInts a ((List.range i).map fun n => (List.range m).map fun x => tot p (pieces.map fun rs => (rs.getD n []).getD x 0)) H' G') ?_ ?_ ?_
  · exact fun H1 G1 s2 => ⟨none, none, none, rfl, Mo.mo s2.gg hy, A1.step s2⟩
  · rintro i x σ' v Ha Hb G' Gs hi s2 e1 e2 e3 hv ⟨x1, x2, x3, rfl, hy1, A2⟩
    cases hv
    obtain ⟨rfl, hil⟩ := get_range hi
    refine q_newA (r := rInt) s2 fun b hbn hb0 s3 B1 => ?_
    have A3 := (A2.ex e3).ne (q := b) (o := .lst []) (ne_fresh (A2.ex e3).nn hbn)
    have nab : a ≠ b := ne_fresh (A2.ex e3).nn hbn
    refine q_for1 (r0 := rNat) s3 (wk_rng1 (n := m) (ev_var rfl rfl) (by omega)) (fun j σ' H' G' => ∃ x3, σ' = [some (.int p), some y, some (.int (m : Int)), some (.int (rows : Int)), some (.ref a), some (.int (i : Int)), some (.ref b), x3, none] ∧ rBox pieces G' y ∧
      Acc rInts a ((List.range i).map fun n => (List.range m).map fun x => tot p (pieces.map fun rs => (rs.getD n []).getD x 0)) H' G' ∧
      Acc rInt b ((List.range j).map fun x => tot p (pieces.map fun rs => (rs.getD i []).getD x 0)) H' G') ?_ ?_ ?_
    · exact fun H1 G1 s4 => ⟨_, rfl, Mo.mo s4.gg hy1, A3.step s4, B1.step s4⟩
    · rintro j x σ' v Hc Hd G2 Gt hj s4 f1 f2 f3 hv ⟨x3, rfl, hy2, A4, B2⟩
      cases hv
      obtain ⟨rfl, hjl⟩ := get_range hj
      refine s_appA (z := tot p (pieces.map fun rs => (rs.getD i []).getD j 0)) s4 hb0 rfl (B2.ex f3) (by rw [List.length_map, List.length_range]; omega)
        (ev_call (rs := [rInt p, rInts (pieces.map fun rs => (rs.getD i []).getD j 0)]) (ea_cons (ev_var rfl rfl) (ea_cons
          (ev_lc1 (r := rInt) (fun rows : List (List Int) => (rows.getD i []).getD j 0) (wk_list (r := rTab) (ys := pieces) (ev_var rfl hy2)) (by omega) (fun _ => rfl) fun rs v G3 hrows e4 hv4 => ?_) ea_nil)) fun vs H Q h => ⟨p, _, hp, h⟩)
        fun H1 G1 o s5 s6 B3 => ⟨G1, s6, f2.trans s5.gg, _, rfl, Mo.mo s5.gg hy2, ((A4.ex f3).step s5).ne nab, by rw [List.range_succ, List.map_append]; exact B3⟩
      have hrr := hb rs hrows
      exact ev_ix (r := rInt) (xs := rs.getD i []) (n := j) (ev_ix (r := rInts) (xs := rs) (n := i) (ev_var rfl hv4) (ev_var rfl rfl) rfl (get_of_lt [] (by rw [hrr.1]; exact hil))) (ev_var rfl rfl) rfl (get_of_lt 0 (by rw [hrr.row hil]; exact hjl))
    · rintro σ' H2 G2 s4 f1 ⟨x3, rfl, hy2, A4, B2⟩
      rw [List.length_range] at B2
      obtain ⟨us, s5, e5, h5, g5⟩ := B2.done s4 hb0
      exact s_appA (z := (List.range m).map fun x => tot p (pieces.map fun rs => (rs.getD i []).getD x 0)) s5 h0 rfl (A4.neG nab g5) (by rw [List.length_map, List.length_range]; omega) (ev_var rfl h5)
        fun H1 G1 o s6 s7 A5 => ⟨G1, s7, (e2.trans f1).trans (e5.trans s6.gg), _, _, _, rfl, Mo.mo (e5.trans s6.gg) hy2, by rw [List.range_succ, List.map_append]; exact A5⟩
  · rintro σ' H2 G2 s2 e1 ⟨x1, x2, x3, rfl, hy1, A2⟩
    rw [List.length_range] at A2
    exact s_retA s2 h0 rfl A2 fun G3 s3 h3 => k _ H2 G3 s3 h3
end
end Vc
namespace Vc
open PySem PySem.Spec PyProof.Rows L2 Vm
def nsSR : List Str := ["holders", "gathered", "held", "order", "ordered", "spread", "table"]
def rSRf (s : SR) : List (Str × Rp) := [("holders", rL rNat s.holders), ("gathered", rBox s.gathered), ("held", rTab s.held), ("order", rL rNat s.order), ("ordered", rTab s.ordered), ("spread", rBox s.spread), ("table", rTab s.table)]
instance {s : SR} : MoF (rSRf s) := by
  unfold rSRf
  infer_instance
abbrev rSR (K : PySem.W.Frag) (s : SR) : Rp := rO (He.ga K "StageRecord") (rSRf s)
def nsSC : List Str := ["gather", "order", "spread"]
def rSCf (s : SC) : List (Str × Rp) := [("gather", rBox s.gather), ("order", rL rNat s.order), ("spread", rBox s.spread)]
instance {s : SC} : MoF (rSCf s) := by
  unfold rSCf
  infer_instance
abbrev rSC (K : PySem.W.Frag) (s : SC) : Rp := rO (He.ga K "StageCoins") (rSCf s)
section
variable {P : Program} {w : World} {K : PySem.W.Frag} {mg : Str → Option Value} {base : Heap}
/-! StageRecord -/
def spSRini (K : PySem.W.Frag) : Sp := fun vs H Q E => ∃ (hs : List Nat) (g : List (List (List Int))) (h : List (List Int)) (o : List Nat), Ord o ∧ o.length = h.length ∧
  spIni K "StageRecord" [rL rNat hs, rBox g, rTab h, rL rNat o] (rSRf ⟨hs, g, h, o, movedF [] h o, [], []⟩) vs H Q E
theorem sc_StageRecord_init : FnScope ["self", "holders", "gathered", "held", "order"] ["self", "holders", "gathered", "held", "order"] (defScope s_StageRecord_init) := ⟨rfl, rfl, rfl, by decide +kernel, rfl, by decide +kernel, by decide +kernel⟩
theorem ok_StageRecord (T : Tx K mg) : Ctr P w K mg base "StageRecord" 3 ["self", "holders", "gathered", "held", "order"] (spSRini K) := by
  have c_moved := ok_moved (P := P) (w := w) (base := base) T
  refine ⟨T.k_StageRecord_init.fnOk sc_StageRecord_init (fun vs H Q E ⟨_, _, _, _, _, _, h⟩ => spIni_len h) fun f cdv A outer s H vs Q E hr h => ⟨_, (pss_cons (ps_fld (pv 0) (pe_callTy (cList K) (by rfl) T.flist (by decide +kernel) (pa_cons (pv 1) pa_nil)) rfl)
        (pss_cons (ps_fld (pv 0) (pv 2) rfl)
        (pss_cons (ps_fld (pv 0) (pv 3) rfl)
        (pss_cons (ps_fld (pv 0) (pe_callTy (cList K) (by rfl) T.flist (by decide +kernel) (pa_cons (pv 4) pa_nil)) rfl)
        (pss_cons (ps_fld (pv 0) (pe_cal c_moved hr rfl (pa_cons (pv 3) (pa_cons (pv 4) pa_nil))) rfl)
        (pss_cons (ps_fld (pv 0) (pe_lst pa_nil) rfl)
        (pss_one (ps_fld (pv 0) (pe_lst pa_nil) rfl)))))))), ?_⟩, T.m_StageRecord, T.g_StageRecord⟩
  obtain ⟨hs, g, h, o, ho, hl, G, x, dx, ws, e, gx, rfl, hx, ha, k⟩ := h
  obtain ⟨a, b, c, d, rfl, h1, h2, h3, h4⟩ := pr_four ha
  refine q_fldB [] (StepM.refl e) (.inl in1) (Ob.start hx gx) ((ev_list (r := rNat) (xs := hs) (ev_var rfl h1)).h e) rfl T.c_StageRecord T.n_StageRecord_holders fun H1 G1 o1 s1 t1 O1 => ?_
  refine q_fldB ["holders"] t1 (.inl in1) O1 ((ev_var (r := rBox g) rfl (Mo.mo s1.gg h2)).h t1.gh) rfl T.c_StageRecord T.n_StageRecord_gathered fun H2 G2 o2 s2 t2 O2 => ?_
  have e2 := s1.gg.trans s2.gg
  refine q_fldB ["holders", "gathered"] t2 (.inl in1) O2 ((ev_var (r := rTab h) rfl (Mo.mo e2 h3)).h t2.gh) rfl T.c_StageRecord T.n_StageRecord_held fun H3 G3 o3 s3 t3 O3 => ?_
  have e3 := e2.trans s3.gg
  refine q_fldB ["holders", "gathered", "held"] t3 (.inl in1) O3 ((ev_list (r := rNat) (xs := o) (ev_var rfl (Mo.mo e3 h4))).h t3.gh) rfl T.c_StageRecord T.n_StageRecord_order fun H4 G4 o4 s4 t4 O4 => ?_
  have e4 := e3.trans s4.gg
  refine q_fldB ["holders", "gathered", "held", "order"] t4 (.inl in1) O4 (r := rTab (movedF [] h o)) ((ev_call (ea_cons (ev_var (r := rTab h) rfl (Mo.mo e4 h3)) (ea_cons (ev_var (r := rL rNat o) rfl (Mo.mo e4 h4)) ea_nil)) fun vs H Q z => ⟨h, o, ho, hl, z⟩).h t4.gh) rfl T.c_StageRecord T.n_StageRecord_ordered fun H5 G5 o5 s5 t5 O5 => ?_
  refine q_fldB ["holders", "gathered", "held", "order", "ordered"] t5 (.inl in1) O5 (r := rBox []) ((ev_lst (r := rTab) (xs := []) ea_nil (by simp)).h t5.gh) rfl T.c_StageRecord T.n_StageRecord_spread fun H6 G6 o6 s6 t6 O6 => ?_
  refine s_fldB ["holders", "gathered", "held", "order", "ordered", "spread"] t6 (.inl in1) O6 (r := rTab []) ((ev_lst (r := rInts) (xs := []) ea_nil (by simp)).h t6.gh) rfl T.c_StageRecord T.n_StageRecord_table fun H7 G7 o7 s7 t7 O7 => ?_
  exact ini_end k t7 O7
/-! run_stage -/
def spStage (K : PySem.W.Frag) : Sp := fun vs H Q E => ∃ (p : Int) (m R : Nat) (t : List (List Int)) (lot : List Nat) (c : SC), 0 < p ∧ Sm m R ∧ Rect t R m ∧ 1 ≤ (outs m lot).length ∧ SCok m R (outs m lot) c ∧
  spOf [rInt p, rNat m, rTab t, rL rNat (outs m lot), rSC K c] (rSR K (stageF p m t (outs m lot) c)) vs H Q E
theorem sc_run_stage : FnScope ["prime", "mixers", "table", "holders", "coins", "gathered", "held", "record"] ["prime", "mixers", "table", "holders", "coins"] (defScope s_run_stage) := ⟨rfl, rfl, rfl, by decide +kernel, rfl, by decide +kernel, by decide +kernel⟩
theorem ok_run_stage (T : Tx K mg) : Cal P w K mg base "run_stage" 5 ["prime", "mixers", "table", "holders", "coins"] (spStage K) := by
  have c_gathered_pieces := ok_gathered_pieces (P := P) (w := w) (base := base) T
  have c_held_shares := ok_held_shares (P := P) (w := w) (base := base) T
  have c_outsiders := ok_outsiders (P := P) (w := w) (base := base) T
  have c_spread_pieces := ok_spread_pieces (P := P) (w := w) (base := base) T
  have c_new_table := ok_new_table (P := P) (w := w) (base := base) T
  have c_StageRecord := ok_StageRecord (P := P) (w := w) (base := base) T
  refine T.k_run_stage.cal sc_run_stage (fun vs H Q E ⟨_, _, _, _, _, _, _, _, _, _, _, h⟩ => spOf_len h) fun f cdv A outer s H vs Q E hr h => ⟨_, (pss_cons (ps_set (i := 5) sc_run_stage.nd rfl (Or.inl rfl) (pe_cal c_gathered_pieces hr rfl (pa_cons (pv 0) (pa_cons (pv 2) (pa_cons (pe_cal c_outsiders hr rfl (pa_cons (pv 1) (pa_cons (pv 3) pa_nil))) (pa_cons (fldK K (pv 4) rfl) pa_nil))))))
        (pss_cons (ps_set (i := 6) sc_run_stage.nd rfl (Or.inl rfl) (pe_cal c_held_shares hr rfl (pa_cons (pv 0) (pa_cons (pv 2) (pa_cons (pv 3) (pa_cons (pv 5) pa_nil))))))
        (pss_cons (ps_set (i := 7) sc_run_stage.nd rfl (Or.inl rfl) (pe_mk c_StageRecord hr rfl (pa_cons (pv 3) (pa_cons (pv 5) (pa_cons (pv 6) (pa_cons (fldK K (pv 4) rfl) pa_nil))))))
        (pss_cons (ps_fld (pv 7) (pe_cal c_spread_pieces hr rfl (pa_cons (pv 0) (pa_cons (fldK K (pv 7) rfl) (pa_cons (pe_callB (cLen K) (by rfl) T.flen PySem.boot_len (pa_cons (pv 3) pa_nil)) (pa_cons (fldK K (pv 4) rfl) pa_nil))))) rfl)
        (pss_cons (ps_fld (pv 7) (pe_cal c_new_table hr rfl (pa_cons (pv 0) (pa_cons (fldK K (pv 7) rfl) (pa_cons (pv 1) (pa_cons (pe_callB (cLen K) (by rfl) T.flen PySem.boot_len (pa_cons (pv 2) pa_nil)) pa_nil))))) rfl)
        (pss_one (ps_ret (pv 7)))))))), ?_⟩
  obtain ⟨p, m, R, t, lot, c, hp, sm, ht, h1, hc, G, e, ha, k⟩ := h
  obtain ⟨_, _, u, z, y, rfl, rfl, rfl, hu, hz, hy⟩ := pr_five ha
  have hm := sm.m4
  have hR := sm.r5
  have hol := outs_le m lot
  have hol2 := outs_le m (outs m lot)
  generalize hhs : outs m lot = hs at *
  have hB := gathered_box (p := p) ht hc h1
  have hH : Rect (heldF p t hs (gatheredF p t (outs m hs) c.gather)) R hs.length := held_rect _ ht
  have hO : Rect (movedF [] (heldF p t hs (gatheredF p t (outs m hs) c.gather)) c.order) R hs.length := moved_rect hH hc.o
  have hS := spread_box (p := p) hO hc.s sm.m1
  have hlt : ∀ row ∈ t, ∀ x ∈ hs, x < row.length := fun row hr x hx => by
    rw [ht.2 row hr]
    rw [← hhs] at hx
    exact outs_lt hx
  have hlt2 : ∀ row ∈ t, ∀ x ∈ outs m hs, x < row.length := fun row hr x hx => by
    rw [ht.2 row hr]
    exact outs_lt hx
  have hco : c.order.length = R := by
    have := hc.o.length_eq
    rw [List.length_range] at this
    exact this
  have ord : Ord c.order := ⟨by rw [hco]; exact hc.o, by omega⟩
  refine q_set (r := rBox (gatheredF p t (outs m hs) c.gather)) (ev_call (ea_cons (ev_var (r := rInt p) rfl rfl) (ea_cons (ev_var (r := rTab t) rfl hu) (ea_cons (ev_call (r := rL rNat (outs m hs)) (ea_cons (ev_var (r := rNat m) rfl rfl) (ea_cons (ev_var (r := rL rNat hs) rfl hz) ea_nil)) fun vs H Q q => ⟨hs, m, by omega, q⟩)
    (ea_cons (ev_fld (r := rBox c.gather) (ev_var (r := rSC K c) rfl hy) T.c_StageCoins T.n_StageCoins_gather (look_ns nsSC 0 rfl)) ea_nil)))) fun vs H Q q => ⟨p, t, _, c.gather, hp, hlt2, by rw [ht.1]; omega, by omega, fun b hb r hr => by rw [(hc.g.2 b hb).2 r hr]; omega, q⟩) e fun v1 H1 G1 s1 hv1 => ?_
  refine q_set (r := rTab (heldF p t hs (gatheredF p t (outs m hs) c.gather))) (ev_call (ea_cons (ev_var (r := rInt p) rfl rfl) (ea_cons (ev_var (r := rTab t) rfl (Mo.mo s1.gg hu)) (ea_cons (ev_var (r := rL rNat hs) rfl (Mo.mo s1.gg hz)) (ea_cons (ev_var rfl hv1) ea_nil)))) fun vs H Q q => ⟨p, t, hs, _, hp, hlt, by rw [ht.1]; omega, by omega, by rw [hB.1]; omega, by rw [ht.1]; exact hB.2, q⟩) s1.gh fun v2 H2 G2 s2 hv2 => ?_
  have e2 := s1.gg.trans s2.gg
  refine q_makeA (s1.trans s2) (evO_ini (fsR := rSRf ⟨hs, gatheredF p t (outs m hs) c.gather, heldF p t hs (gatheredF p t (outs m hs) c.gather), c.order, movedF [] (heldF p t hs (gatheredF p t (outs m hs) c.gather)) c.order, [], []⟩)
    (ea_cons (ev_var (r := rL rNat hs) rfl (Mo.mo e2 hz)) (ea_cons (ev_var rfl (Mo.mo s2.gg hv1)) (ea_cons (ev_var rfl hv2) (ea_cons (ev_fld (r := rL rNat c.order) (ev_var (r := rSC K c) rfl (Mo.mo e2 hy)) T.c_StageCoins T.n_StageCoins_order (look_ns nsSC 1 rfl)) ea_nil)))) fun vs H Q q => ⟨hs, _, _, c.order, ord, by rw [hco, hH.1], q⟩)
    fun x H3 G3 hn h0 s3 t3 O3 => ?_
  have e3 := e2.trans s3.gg
  refine q_fldC nsSR 5 t3 (.inr h0) O3 (r := rBox (spreadF p (movedF [] (heldF p t hs (gatheredF p t (outs m hs) c.gather)) c.order) hs.length c.spread)) (evH_call (ehA_cons ((ev_var (r := rInt p) rfl rfl).h t3.gh) fun Ha Ga sa => ehA_cons (evH_fld (r := rTab (movedF [] (heldF p t hs (gatheredF p t (outs m hs) c.gather)) c.order)) (O3.step sa) sa.gh rfl T.c_StageRecord T.n_StageRecord_ordered (look_ns nsSR 4 rfl)) fun Hb Gb sb =>
    EvA.h (ea_cons (ev_len (r := rNat) (ev_var (r := rL rNat hs) rfl (Mo.mo ((e3.trans sa.gg).trans sb.gg) hz))) (ea_cons (ev_fld (r := rBox c.spread) (ev_var (r := rSC K c) rfl (Mo.mo ((e3.trans sa.gg).trans sb.gg) hy)) T.c_StageCoins T.n_StageCoins_spread (look_ns nsSC 2 rfl)) ea_nil)) sb.gh)
    fun vs H Q q => ⟨p, _, hs.length, c.spread, hp, fun row hr => Nat.le_of_eq (hO.2 row hr).symm, by rw [hO.1]; omega, by omega, Nat.le_of_eq hc.s.1.symm, fun b hb r hr => by rw [(hc.s.2 b hb).2 r hr]; omega, q⟩) rfl T.c_StageRecord T.n_StageRecord_spread fun H4 G4 o4 s4 t4 O4 => ?_
  have e4 := e3.trans s4.gg
  refine q_fldC nsSR 6 t4 (.inr h0) O4 (r := rTab (tableF p (spreadF p (movedF [] (heldF p t hs (gatheredF p t (outs m hs) c.gather)) c.order) hs.length c.spread) m t.length)) (evH_call (ehA_cons ((ev_var (r := rInt p) rfl rfl).h t4.gh) fun Ha Ga sa => ehA_cons (evH_fld (r := rBox (spreadF p (movedF [] (heldF p t hs (gatheredF p t (outs m hs) c.gather)) c.order) hs.length c.spread)) (O4.step sa) sa.gh rfl T.c_StageRecord T.n_StageRecord_spread (look_ns nsSR 5 rfl)) fun Hb Gb sb =>
    EvA.h (ea_cons (ev_var (r := rNat m) rfl rfl) (ea_cons (ev_len (r := rInts) (ev_var (r := rTab t) rfl (Mo.mo ((e4.trans sa.gg).trans sb.gg) hu))) ea_nil)) sb.gh)
    fun vs H Q q => ⟨p, _, m, t.length, hp, by rw [hS.1]; omega, by omega, by rw [ht.1]; omega, by rw [ht.1]; exact hS.2, q⟩) rfl T.c_StageRecord T.n_StageRecord_table fun H5 G5 o5 s5 t5 O5 => ?_
  exact s_retO t5 h0 rfl O5 fun G6 t6 h6 => k _ _ G6 t6 (by
    unfold stageF
    exact h6)
end
end Vc
/-! What changes an object that is told of (M). -/
namespace Vc
open PySem PySem.Spec PyProof.Rows L2 Vm
def EvM (M : List Addr) (te : TE) (σ : L2.St) (H G : Hp) (po : V → Hp → Hp → Prop) : Prop := ∀ Q : VK, (∀ v H' G', StepM M H G H' G' → po v H' G' → Q v H') → te σ H Q
def EvMA (M : List Addr) (ta : TA) (σ : L2.St) (H G : Hp) (po : List V → Hp → Hp → Prop) : Prop := ∀ Q : List V → Hp → Prop, (∀ vs H' G', StepM M H G H' G' → po vs H' G' → Q vs H') → ta σ H Q
def EvMT (M : List Addr) (tt : TT) (σ : L2.St) (H G : Hp) (po : Bool → Hp → Hp → Prop) : Prop := ∀ Q : Bool → Hp → Prop, (∀ b H' G', StepM M H G H' G' → po b H' G' → Q b H') → tt σ H Q
/-- a property of what stands at x, kept by all that leaves x alone -/
structure Stab (x : Addr) (S : Hp → Hp → Prop) : Prop where
  nn : ∀ {H G : Hp}, S H G → H x ≠ none
  g : ∀ {H G : Hp}, S H G → G x = none
  ex : ∀ {H G H' : Hp}, S H G → Ex H H' → S H' G
  gx : ∀ {H G G' : Hp}, S H G → Ex G G' → G' x = none → S H G'
  up : ∀ {H G : Hp} {p : Addr} {o : HO}, S H G → x ≠ p → S (upd H p o) G
section
variable {σ : L2.St} {H H0 H1 H2 G G0 G1 G2 : Hp} {te ta tb : TE} {r : Rp} {al : TA} {rs : List Rp} {K : PySem.W.Frag} {x C p : Addr} {fsR : List (Str × Rp)} {M : List Addr} {D : Ends} {tz : TS} {f : Str} {o : HO} {S : Hp → Hp → Prop}
theorem Stab.step (s : Stab x S) (h : S H G) (t : Step H G H1 G1) : S H1 G1 := s.gx (s.ex h t.ex) t.gg (t.fr x (s.nn h) (s.g h))
theorem Stab.neG (s : Stab x S) (h : S H G) (n : x ≠ p) (hp : G p = none) : S H (upd G p o) := s.gx h (ExM.new hp) (by rw [upd_ne n]; exact s.g h)
theorem Ob.stab [MoF fsR] : Stab x (Ob x C fsR) where
  nn := fun O => O.nn
  g := fun ⟨_, _, _, h, _⟩ => h
  ex := fun O s => O.ex s
  gx := fun ⟨dx, fs, h1, _, h3⟩ e h => ⟨dx, fs, h1, h, h3.mono e⟩
  up := fun O h => O.ne h
theorem Acc.stab {α : Type} {q : α → Rp} [∀ x, Mo (q x)] {zs : List α} : Stab p (Acc q p zs) where
  nn := fun O => O.nn
  g := fun ⟨_, _, h, _⟩ => h
  ex := fun O s => O.ex s
  gx := fun ⟨vs, h1, _, h3⟩ e h => ⟨vs, h1, h, paired_mono h3 fun _ _ _ w => Mo.mo e w⟩
  up := fun O h => O.ne h
theorem Acc.stepM {α : Type} {q : α → Rp} [∀ x, Mo (q x)] {zs : List α} (A : Acc q p zs H G) (s : StepM M H G H1 G1) (hp : p ∉ M) : Acc q p zs H1 G1 := by
  obtain ⟨vs, h1, h2, h3⟩ := A
  exact ⟨vs, s.ex.lst h1 hp, s.fr p (by rw [h1]; simp) h2, paired_mono h3 fun _ _ _ q => Mo.mo s.gg q⟩
theorem evM_ev (h : EvH te σ H G r) : EvM M te σ H G (fun v H' G' => Step H G H' G' ∧ r G' v) := fun Q q => h Q fun v H' G' s hr => q v H' G' s.m ⟨s, hr⟩
theorem EvM.is {po po' : V → Hp → Hp → Prop} (h : EvM M te σ H G po) (k : ∀ v H' G', StepM M H G H' G' → po v H' G' → po' v H' G') : EvM M te σ H G po' := fun Q q => h Q fun v H' G' s hp => q v H' G' s (k v H' G' s hp)
theorem evM_op {op : R2} {pa po : V → Hp → Hp → Prop} {pb : V → V → Hp → Hp → Prop} (ha : EvM M ta σ H G pa) (hb : ∀ v H1 G1, StepM M H G H1 G1 → pa v H1 G1 → EvM M tb σ H1 G1 (pb v))
    (ho : ∀ v w H2 G2, Ex G2 H2 → pb v w H2 G2 → ∀ Q : VK, (∀ z, po z H2 G2 → Q z H2) → op v w H2 Q) : EvM M (tOp op ta tb) σ H G po := fun Q q =>
  ha _ fun v H1 G1 s1 h1 => hb v H1 G1 s1 h1 _ fun w H2 G2 s2 h2 => ho v w H2 G2 s2.gh h2 Q fun z hz => q z H2 G2 (s1.trans s2) hz
theorem emA_nil (e : Ex G H) : EvMA M tNil σ H G (fun vs H' G' => Step H G H' G' ∧ vs = []) := fun Q q => q [] H G (StepM.refl e) ⟨StepM.refl e, rfl⟩
theorem emA_cons {po : V → Hp → Hp → Prop} {pa : V → List V → Hp → Hp → Prop} (h : EvM M te σ H G po) (hs : ∀ v H1 G1, StepM M H G H1 G1 → po v H1 G1 → EvMA M al σ H1 G1 (pa v)) : EvMA M (tCons te al) σ H G (fun vs H' G' => ∃ v ws, vs = v :: ws ∧ pa v ws H' G') := fun Q q =>
  h _ fun v H1 G1 s1 h1 => hs v H1 G1 s1 h1 _ fun ws H2 G2 s2 h2 => q _ H2 G2 (s1.trans s2) ⟨v, ws, rfl, h2⟩
theorem emA_of (h : EvHA al σ H G rs) : EvMA M al σ H G (fun vs H' G' => Step H G H' G' ∧ Pr rs G' vs) := fun Q q => h Q fun vs H' G' s hr => q vs H' G' s.m ⟨s, hr⟩
theorem evM_call {sp : Sp} {E : XK} {po : List V → Hp → Hp → Prop} {pr : V → Hp → Hp → Prop} (ha : EvMA M al σ H G po) (hsp : ∀ vs H1 G1, StepM M H G H1 G1 → po vs H1 G1 → ∀ Q : VK, (∀ v H' G', StepM M H1 G1 H' G' → pr v H' G' → Q v H') → sp vs H1 Q E) : EvM M (tCall sp [] E al) σ H G pr := fun Q q =>
  ha _ fun vs H1 G1 s1 h1 => by
    rw [List.append_nil]
    exact hsp vs H1 G1 s1 h1 Q fun v H' G' s2 h2 => q v H' G' (s1.trans s2) h2
/-- x.m(..), x in a variable -/
theorem evM_meth {j : Nat} {m : Str} {sp : Sp} {E : XK} {po : List V → Hp → Hp → Prop} {pr : V → Hp → Hp → Prop} (hσ : σ[j]? = some (some (.ref x))) (O : Ob x C fsR H G) (hm : fsR.lookup m = none) (ha : EvMA M al σ H G po)
    (hsp : ∀ vs H1 G1, StepM M H G H1 G1 → po vs H1 G1 → ∀ Q : VK, (∀ v H' G', StepM M H1 G1 H' G' → pr v H' G' → Q v H') → sp (.ref x :: vs) H1 Q E) : EvM M (tMeth C m sp [] E (tVar j) al) σ H G pr := fun Q q => by
  obtain ⟨dx, fs, h1, _, h3⟩ := O
  refine ⟨.ref x, hσ, x, dx, fs, rfl, h1, pf_none h3 hm, ha _ fun vs H1 G1 s1 h1 => ?_⟩
  rw [List.append_nil]
  exact hsp vs H1 G1 s1 h1 Q fun v H' G' s2 h2 => q v H' G' (s1.trans s2) h2
theorem q_setM {i : Nat} {po : V → Hp → Hp → Prop} (st : StepM M H0 G0 H G) (h : EvM M te σ H G po) (k : ∀ v H1 G1, StepM M H G H1 G1 → StepM M H0 G0 H1 G1 → po v H1 G1 → tz D (σ.set i (some v)) H1) : tSeq (tAsg te (gName i)) tz D σ H := h _ fun v H1 G1 s hp => k v H1 G1 s (st.trans s) hp
theorem s_setM {i : Nat} {po : V → Hp → Hp → Prop} (st : StepM M H0 G0 H G) (h : EvM M te σ H G po) (k : ∀ v H1 G1, StepM M H G H1 G1 → StepM M H0 G0 H1 G1 → po v H1 G1 → D.nx (σ.set i (some v)) H1) : tAsg te (gName i) D σ H := h _ fun v H1 G1 s hp => k v H1 G1 s (st.trans s) hp
theorem s_retM {po : V → Hp → Hp → Prop} (st : StepM M H0 G0 H G) (h : EvM M te σ H G po) (k : ∀ v H1 G1, StepM M H G H1 G1 → StepM M H0 G0 H1 G1 → po v H1 G1 → D.rt v H1) : tRet te D σ H := h _ fun v H1 G1 s hp => k v H1 G1 s (st.trans s) hp
/-- xs.append(e) -/
theorem s_appM {α : Type} {q : α → Rp} [∀ x, Mo (q x)] {zs : List α} {j : Nat} {W : α → Hp → Hp → Prop} (st : StepM M H0 G0 H G) (h0 : H0 p = none) (hM : p ∉ M) (hσ : σ[j]? = some (some (.ref p))) (A : Acc q p zs H G) (hl : zs.length ≤ 1000000)
    (h : EvM M te σ H G (fun v H' G' => ∃ z, q z G' v ∧ W z H' G'))
    (k : ∀ z H1 G1 o, W z H1 G1 → StepM M H G H1 G1 → StepM M H0 G0 (upd H1 p o) G1 → Acc q p (zs ++ [z]) (upd H1 p o) G1 → D.nx σ (upd H1 p o)) : tDrop (tBM K "list" rAppend (tVar j) (tCons te tNil)) D σ H := by
  obtain ⟨vs, h1, h2, h3⟩ := A
  refine ⟨.ref p, hσ, Or.inl ⟨rfl, _, Or.inl (Or.inl h1)⟩, h _ fun v H1 G1 s1 ⟨z, hv, hw⟩ => ⟨p, vs, v, rfl, rfl, s1.ex.lst h1 hM, ?_, ?_⟩⟩
  · rw [paired_len h3]
    exact Nat.lt_of_le_of_lt hl (by decide)
  · have g1 : G1 p = none := s1.fr p (by rw [h1]; simp) h2
    exact k z H1 G1 _ hw s1 ((st.trans s1).mut h0 g1) ⟨_, upd_same, g1, paired_snoc (paired_mono h3 fun _ _ _ w => Mo.mo s1.gg w) hv⟩
/-- [e for target in .. if t], what stands at x changes -/
theorem evM_lcF {β γ A : Type} {wi : TI} {g : TG} {t : TT} {vs : List Nat} {ys : List β} {Sg : β → Hp → L2.St → L2.St → Prop} {q : γ → Rp} [∀ y, Mo (q y)] (S : A → Hp → Hp → Prop) (hst : ∀ a, Stab x (S a)) (J : Nat → List γ → A → Prop) {a0 : A} (h0 : S a0 H G) (j0 : J 0 [] a0) (e : Ex G H)
    (w : Wk wi g σ G ys Sg) (hz : ys.length ≤ 1000000) (hS : ∀ y G1 G2 σ2, Ex G1 G2 → Sg y G1 (wipe σ vs) σ2 → Sg y G2 (wipe σ vs) σ2) (hw : ∀ y G' σ2, Sg y G' (wipe σ vs) σ2 → wipe σ2 vs = wipe σ vs)
    (he : ∀ i y zs a G' H' σ2, ys[i]? = some y → Ex G G' → Ex G' H' → J i zs a → S a H' G' → Sg y G' (wipe σ vs) σ2 →
      EvMT [x] t σ2 H' G' (fun b H2 G2 => (b = true → EvM [x] te σ2 H2 G2 (fun v H3 G3 => ∃ z a2, q z G3 v ∧ J (i + 1) (zs ++ [z]) a2 ∧ S a2 H3 G3)) ∧ (b = false → ∃ a2, J (i + 1) zs a2 ∧ S a2 H2 G2))) :
    EvM [x] (tLc wi g t te vs) σ H G (fun v H' G' => ∃ zs a, rL q zs G' v ∧ J ys.length zs a ∧ S a H' G') := fun Q k => w H e _ fun J' H1 G1 Gd Y s1 wJ hGd turn D hD => by
  have gD : G1 D = none := s1.gh.dom hD
  have h1 : S a0 H1 G1 := (hst a0).step h0 s1
  have nx : x ≠ D := ne_fresh ((hst a0).nn h1) hD
  have hDM : D ∉ [x] := by simp [nx.symm]
  refine lc_it wJ (fun i H' => ∃ G' us zs a, StepM [x] H1 G1 H' G' ∧ G' D = none ∧ H' D = some (.lst us) ∧ Paired (fun v z => q z G' v) us zs ∧ zs.length ≤ i ∧ J i zs a ∧ S a H' G') ?_ ?_ ?_ ?_
  · exact ⟨G1, [], [], a0, (StepM.refl s1.gh).mut hD gD, gD, upd_same, .nil, Nat.le_refl _, j0, (hst a0).up h1 nx⟩
  · rintro i H' _ ⟨G', us, zs, a, s2, _⟩
    exact hGd H' (s2.gg.trans s2.gh)
  · rintro i y Ha Hb hi ⟨G', us, zs, a, s2, g2, hD2, hp, hl, hj, hs⟩ hY
    have hyi : ys[i]? = some ys[i] := List.getElem?_eq_getElem hi
    refine turn i ys[i] y _ Ha Hb hyi (s2.gg.trans s2.gh) hY _ fun σ2 Hc ec hSc => ⟨hw _ _ _ hSc, ?_⟩
    have s3 : StepM [x] H1 G1 Hc G' := s2.then (StepM.of_ex s2.gh ec)
    have hS' := hS _ _ _ _ s2.gg hSc
    have hDc : Hc D = some (.lst us) := ec.l hD2
    refine he i ys[i] zs a G' Hc σ2 hyi (s1.gg.trans s2.gg) s3.gh hj ((hst a).ex hs ec) hS' _ fun b Hd Gd2 s4 ⟨p1, p2⟩ => ?_
    have s5 := s3.trans s4
    have g5 : Gd2 D = none := s4.fr D (by rw [hDc]; simp) g2
    have hDd : Hd D = some (.lst us) := s4.ex.lst hDc hDM
    cases b with
    | false =>
      rw [if_neg (by simp)]
      obtain ⟨a2, j2, h2⟩ := p2 rfl
      exact ⟨Gd2, us, zs, a2, s5, g5, hDd, paired_mono hp fun v z _ h => Mo.mo s4.gg h, by omega, j2, h2⟩
    | true =>
      rw [if_pos rfl]
      refine p1 rfl _ fun y He Ge s6 ⟨z, a2, hv, j2, h2⟩ => ?_
      have hlen : us.length < sizeLine := by
        rw [paired_len hp]
        exact Nat.lt_of_lt_of_le (show _ < 1000001 by omega) (by decide)
      have g6 : Ge D = none := s6.fr D (by rw [hDd]; simp) g5
      refine ⟨us, s6.ex.lst hDd hDM, hlen, Ge, us ++ [y], zs ++ [z], a2, (s5.trans s6).mut hD g6, g6, upd_same, paired_snoc (paired_mono hp fun v z _ h => Mo.mo (s4.gg.trans s6.gg) h) hv, by rw [List.length_append, List.length_singleton]; omega, j2, (hst a2).up h2 nx⟩
  · rintro H' ⟨G', us, zs, a, s2, g2, hD2, hp, hl, hj, hs⟩
    refine k _ H' (upd G' D (.lst us)) (s1.m.trans (s2.freeze hD g2 hD2)) ⟨zs, a, ⟨D, us, rfl, upd_same, paired_mono hp fun v z _ h => Mo.mo (ExM.new g2) h⟩, hj, (hst a).neG hs nx g2⟩
/-- one name, no test -/
theorem evM_lc1 {β γ A : Type} {wi : TI} {vs : List Nat} {ys : List β} {r0 : β → Rp} [∀ y, Mo (r0 y)] {j : Nat} {q : γ → Rp} [∀ y, Mo (q y)] (S : A → Hp → Hp → Prop) (hst : ∀ a, Stab x (S a)) (J : Nat → List γ → A → Prop) {a0 : A} (h0 : S a0 H G) (j0 : J 0 [] a0) (e : Ex G H)
    (w : Wk wi (gName j) σ G ys (S1 r0 j)) (hz : ys.length ≤ 1000000) (hw : ∀ v, wipe ((wipe σ vs).set j (some v)) vs = wipe σ vs)
    (he : ∀ i y zs a G' H' v, ys[i]? = some y → Ex G G' → Ex G' H' → J i zs a → S a H' G' → r0 y G' v → EvM [x] te ((wipe σ vs).set j (some v)) H' G' (fun v H3 G3 => ∃ z a2, q z G3 v ∧ J (i + 1) (zs ++ [z]) a2 ∧ S a2 H3 G3)) :
    EvM [x] (tLc wi (gName j) tYes te vs) σ H G (fun v H' G' => ∃ zs a, rL q zs G' v ∧ J ys.length zs a ∧ S a H' G') :=
  evM_lcF S hst J h0 j0 e w hz (fun _ _ _ _ e h => s1_mono e h) (fun y G' σ2 ⟨v, _, e⟩ => by rw [e]; exact hw v) fun i y zs a G' H' σ2 hi e1 e2 hj hs ⟨v, h1, h2⟩ Q k => k true H' G' (StepM.refl e2) ⟨fun _ => by rw [h2]; exact he i y zs a G' H' v hi e1 e2 hj hs h1, fun z => by cases z⟩
/-- what a call did to one's own object -/
theorem StepM.own (a : StepM M H0 G0 H G) (h0 : H0 x = none) (b : StepM [x] H G H1 G1) : StepM M H0 G0 H1 G1 :=
  ⟨fun y u q => by
    obtain ⟨o1, e1, l1⟩ := a.ex y u q
    obtain ⟨o2, e2, l2⟩ := b.ex y o1 e1
    exact ⟨o2, e2, fun z => (l1 z).trans (l2 (by simp [ne_of_none q h0]))⟩, a.gg.trans b.gg, b.gh, fun y h1 h2 => b.fr y (a.ex.nn h1) (a.fr y h1 h2)⟩
theorem q_setO {i : Nat} {po : V → Hp → Hp → Prop} (st : StepM M H0 G0 H G) (h0 : H0 x = none) (h : EvM [x] te σ H G po) (k : ∀ v H1 G1, StepM [x] H G H1 G1 → StepM M H0 G0 H1 G1 → po v H1 G1 → tz D (σ.set i (some v)) H1) : tSeq (tAsg te (gName i)) tz D σ H := h _ fun v H1 G1 s hp => k v H1 G1 s (st.own h0 s) hp
/-- x.f += b, an int -/
theorem q_fldaugI (ns : List Str) (i : Nat) [MoF fsR] {j : Nat} {a b : Int} (st : StepM M H0 G0 H G) (hM : x ∈ M ∨ H0 x = none) (O : Ob x C fsR H G) (hσ : σ[j]? = some (some (.ref x))) (c : Cls K C) (n : NoAttr K C f) (l : fsR.lookup f = some (rInt a))
    (k : ∀ o, StepM M H0 G0 (upd H x o) G → Ob x C (fsR.set i (f, rInt (a + b))) (upd H x o) G → tz D σ (upd H x o)) (hns : fsR.map (·.1) = ns := by rfl) (hf : plc f ns = i := by decide +kernel) (hi : i < ns.length := by decide +kernel) (hl : ns.length < 1000 := by decide +kernel) : tSeq (sFldAug K (tVar j) (tC (.int b)) rAdd f) tz D σ H := by
  obtain ⟨dx, fs, h1, h2, h3⟩ := O
  obtain ⟨v, h4, h5⟩ := pf_look h3 l
  have e : fs.length = ns.length := by rw [h3.len, ← hns, List.length_map]
  refine ⟨.ref x, hσ, x, C, dx, fs, v, rfl, h1, c, n, h4, a, b, h5, rfl, dx, fs, h1, by rw [e]; exact hl, ?_⟩
  refine k _ ?_ ⟨dx, _, upd_same, h2, ?_⟩
  · rcases hM with hM | hM
    · exact st.mutM hM h2
    · exact st.mut hM h2
  · rw [putF_set (i := i) (by rw [pf_names h3, hns]; exact hf) (by rw [e]; exact hi)]
    exact pf_set h3 rfl
/-- what is read is a plain value: any G that stands still in H may be looked at -/
theorem evH_val {v : V} {G' : Hp} (h : Ev te σ G' (rV v)) (e' : Ex G' H) (e : Ex G H) : EvH te σ H G (rV v) := fun Q q => h H e' Q fun u H1 G1 s hu => q u H1 G (StepM.of_ex e s.ex) hu
theorem Ob.view [MoF fsR] (O : Ob x C fsR H G) (e : Ex G H) : ∃ G1, Ex G G1 ∧ Ex G1 H ∧ rO C fsR G1 (.ref x) := by
  obtain ⟨o, s, e1, h, _⟩ := O.done (H0 := fun _ => none) (G0 := fun _ => none) (M := []) ⟨fun _ _ h => (by cases h), fun _ _ h => (by cases h), e, fun _ h => absurd rfl h⟩ rfl
  exact ⟨_, e1, s.gh, h⟩
theorem look_no {β : Type} (ns : List Str) {fs : List (Str × β)} (hns : fs.map (·.1) = ns := by rfl) (hf : f ∉ ns := by decide +kernel) : fs.lookup f = none := by
  subst hns
  induction fs with
  | nil => rfl
  | cons a r ih =>
    obtain ⟨n, b⟩ := a
    rw [List.map_cons, List.mem_cons] at hf
    rw [List.lookup_cons, show (f == n) = false from beq_eq_false_iff_ne.mpr fun z => hf (.inl z)]
    exact ih fun z => hf (.inr z)
theorem s_retH (h : EvH te σ H G r) (k : ∀ v H1 G1, Step H G H1 G1 → r G1 v → D.rt v H1) : tRet te D σ H := h _ k
theorem emA_one {po : V → Hp → Hp → Prop} (h : EvM M te σ H G po) : EvMA M (tCons te tNil) σ H G (fun vs H' G' => ∃ v, vs = [v] ∧ po v H' G') := fun Q q =>
  h _ fun v H1 G1 s1 h1 => q _ H1 G1 s1 ⟨v, rfl, h1⟩
theorem emA_two {pa : V → Hp → Hp → Prop} {po : V → V → Hp → Hp → Prop} (h : EvM M ta σ H G pa) (hb : ∀ v H1 G1, StepM M H G H1 G1 → pa v H1 G1 → EvM M tb σ H1 G1 (po v)) : EvMA M (tCons ta (tCons tb tNil)) σ H G (fun vs H' G' => ∃ v w, vs = [v, w] ∧ po v w H' G') := fun Q q =>
  h _ fun v H1 G1 s1 h1 => hb v H1 G1 s1 h1 _ fun w H2 G2 s2 h2 => q _ H2 G2 (s1.trans s2) ⟨v, w, rfl, h2⟩
/-- a pure expression, and what is known of x stays known -/
theorem evM_pure (s : Stab x S) (h : Ev te σ G r) (e : Ex G H) (hS : S H G) : EvM M te σ H G (fun v H' G' => r G' v ∧ S H' G') := fun Q q => h H e Q fun v H' G' s1 hr => q v H' G' s1.m ⟨hr, s.step hS s1⟩
end
theorem mcK (K' : PySem.W.Frag) {X : Cx} {e : Expr} {C m : Str} {sp : Sp} {to : TE} {t : TA} (h : PE X e (tMeth (He.ga X.K C) m sp [] E0 to t)) (hK : X.K = K' := by rfl) : PE X e (tMeth (He.ga K' C) m sp [] E0 to t) := by subst hK; exact h
end Vc
namespace Vc
open PySem PySem.Spec PyProof.Rows L2 Vm
def nsRC : List Str := ["votes", "stages"]
def rRCf (K : PySem.W.Frag) (s : RC) : List (Str × Rp) := [("votes", rTab s.votes), ("stages", rL (rSC K) s.stages)]
instance {K : PySem.W.Frag} {s : RC} : MoF (rRCf K s) := by
  unfold rRCf
  infer_instance
abbrev rRC (K : PySem.W.Frag) (s : RC) : Rp := rO (He.ga K "RunCoins") (rRCf K s)
def nsSo : List Str := ["numbers", "prime", "place"]
def rSof (ns : List Int) (p : Int) (i : Nat) : List (Str × Rp) := [("numbers", rInts ns), ("prime", rInt p), ("place", rNat i)]
instance {ns : List Int} {p : Int} {i : Nat} : MoF (rSof ns p i) := by
  unfold rSof
  infer_instance
abbrev So (K : PySem.W.Frag) (x : Addr) (ns : List Int) (p : Int) (i : Nat) : Hp → Hp → Prop := Ob x (He.ga K "Source") (rSof ns p i)
section
variable {P : Program} {w : World} {K : PySem.W.Frag} {mg : Str → Option Value} {base : Heap}
/-! StageCoins -/
def spSCini (K : PySem.W.Frag) : Sp := fun vs H Q E => ∃ (m R : Nat) (hs : List Nat) (c : SC), Sm m R ∧ hs.length ≤ m ∧ SCok m R hs c ∧ spIni K "StageCoins" [rBox c.gather, rL rNat c.order, rBox c.spread] (rSCf c) vs H Q E
theorem sc_StageCoins_init : FnScope ["self", "gather", "order", "spread", "rows", "row"] ["self", "gather", "order", "spread"] (defScope s_StageCoins_init) := ⟨rfl, rfl, rfl, by decide +kernel, rfl, by decide +kernel, by decide +kernel⟩
theorem ok_StageCoins (T : Tx K mg) : Ctr P w K mg base "StageCoins" 1 ["self", "gather", "order", "spread"] (spSCini K) := by
  refine ⟨T.k_StageCoins_init.fnOk sc_StageCoins_init (fun vs H Q E ⟨_, _, _, _, _, _, _, h⟩ => spIni_len h) fun f cdv A outer s H vs Q E hr h => ⟨_, (pss_cons (ps_fld (pv 0) (pe_lc (own := [("rows", 4)]) (g := gName 4) (tt := tYes) rfl sc_StageCoins_init.nd (itL K (pv 1)) (blkOk_by (N := ["self", "gather", "order", "spread", "rows", "row"]) (sc := defScope s_StageCoins_init) (by decide +kernel)) (fun _ _ _ _ _ => pg_name (i := 4) sc_StageCoins_init.nd rfl (Or.inl rfl)) (fun _ _ _ _ _ => pts_nil) (fun _ _ _ _ _ => (pe_lc (own := [("row", 5)]) (g := gName 5) (tt := tYes) rfl sc_StageCoins_init.nd (itL K (pv 4)) (blkOk_by (by rfl)) (fun _ _ _ _ _ => pg_name (i := 5) sc_StageCoins_init.nd rfl (Or.inl rfl)) (fun _ _ _ _ _ => pts_nil) (fun _ _ _ _ _ => (pe_callTy (cList K) (by rfl) T.flist (by decide +kernel) (pa_cons (pv 5) pa_nil)))))) rfl)
        (pss_cons (ps_fld (pv 0) (pe_callTy (cList K) (by rfl) T.flist (by decide +kernel) (pa_cons (pv 2) pa_nil)) rfl)
        (pss_one (ps_fld (pv 0) (pe_lc (own := [("rows", 4)]) (g := gName 4) (tt := tYes) rfl sc_StageCoins_init.nd (itL K (pv 3)) (blkOk_by (N := ["self", "gather", "order", "spread", "rows", "row"]) (sc := defScope s_StageCoins_init) (by decide +kernel)) (fun _ _ _ _ _ => pg_name (i := 4) sc_StageCoins_init.nd rfl (Or.inl rfl)) (fun _ _ _ _ _ => pts_nil) (fun _ _ _ _ _ => (pe_lc (own := [("row", 5)]) (g := gName 5) (tt := tYes) rfl sc_StageCoins_init.nd (itL K (pv 4)) (blkOk_by (by rfl)) (fun _ _ _ _ _ => pg_name (i := 5) sc_StageCoins_init.nd rfl (Or.inl rfl)) (fun _ _ _ _ _ => pts_nil) (fun _ _ _ _ _ => (pe_callTy (cList K) (by rfl) T.flist (by decide +kernel) (pa_cons (pv 5) pa_nil)))))) rfl)))), ?_⟩, T.m_StageCoins, T.g_StageCoins⟩
  obtain ⟨m, R, hs, c, sm, hle, hc, G, x, dx, ws, e, gx, rfl, hx, ha, k⟩ := h
  obtain ⟨a, b, d, rfl, h1, h2, h3⟩ := pr_three ha
  have hm := sm.m4
  have hR := sm.r5
  have hol := outs_le m hs
  refine q_fldB [] (StepM.refl e) (.inl in1) (Ob.start hx gx) (r := rBox c.gather) ((ev_map1 (r := rTab) (r0 := rTab) (wk_list (r := rTab) (ys := c.gather) (ev_var rfl h1)) (by rw [hc.g.1]; omega) (fun _ => rfl) fun t v G1 ht e1 hv =>
    ev_map1 (r := rInts) (r0 := rInts) (wk_list (r := rInts) (ys := t) (ev_var rfl hv)) (by rw [(hc.g.2 t ht).1]; omega) (fun _ => rfl) fun row v G2 hr e2 hv => ev_list (r := rInt) (xs := row) (ev_var rfl hv)).h e) rfl T.c_StageCoins T.n_StageCoins_gather fun H1 G1 o1 s1 t1 O1 => ?_
  refine q_fldB ["gather"] t1 (.inl in1) O1 (r := rL rNat c.order) ((ev_list (r := rNat) (xs := c.order) (ev_var rfl (Mo.mo s1.gg h2))).h t1.gh) rfl T.c_StageCoins T.n_StageCoins_order fun H2 G2 o2 s2 t2 O2 => ?_
  refine s_fldB ["gather", "order"] t2 (.inl in1) O2 (r := rBox c.spread) ((ev_map1 (r := rTab) (r0 := rTab) (wk_list (r := rTab) (ys := c.spread) (ev_var rfl (Mo.mo (s1.gg.trans s2.gg) h3))) (by rw [hc.s.1]; omega) (fun _ => rfl) fun t v G1 ht e1 hv =>
    ev_map1 (r := rInts) (r0 := rInts) (wk_list (r := rInts) (ys := t) (ev_var rfl hv)) (by rw [(hc.s.2 t ht).1]; omega) (fun _ => rfl) fun row v G2 hr e2 hv => ev_list (r := rInt) (xs := row) (ev_var rfl hv)).h t2.gh) rfl T.c_StageCoins T.n_StageCoins_spread fun H3 G3 o3 s3 t3 O3 => ?_
  exact ini_end k t3 O3
/-! RunCoins -/
def spRCini (K : PySem.W.Frag) : Sp := fun vs H Q E => ∃ (c : RC), c.votes.length ≤ 1000 ∧ spIni K "RunCoins" [rTab c.votes, rL (rSC K) c.stages] (rRCf K c) vs H Q E
theorem sc_RunCoins_init : FnScope ["self", "votes", "stages", "row"] ["self", "votes", "stages"] (defScope s_RunCoins_init) := ⟨rfl, rfl, rfl, by decide +kernel, rfl, by decide +kernel, by decide +kernel⟩
theorem ok_RunCoins (T : Tx K mg) : Ctr P w K mg base "RunCoins" 1 ["self", "votes", "stages"] (spRCini K) := by
  refine ⟨T.k_RunCoins_init.fnOk sc_RunCoins_init (fun vs H Q E ⟨_, _, h⟩ => spIni_len h) fun f cdv A outer s H vs Q E hr h => ⟨_, (pss_cons (ps_fld (pv 0) (pe_lc (own := [("row", 3)]) (g := gName 3) (tt := tYes) rfl sc_RunCoins_init.nd (itL K (pv 1)) (blkOk_by (N := ["self", "votes", "stages", "row"]) (sc := defScope s_RunCoins_init) (by decide +kernel)) (fun _ _ _ _ _ => pg_name (i := 3) sc_RunCoins_init.nd rfl (Or.inl rfl)) (fun _ _ _ _ _ => pts_nil) (fun _ _ _ _ _ => (pe_callTy (cList K) (by rfl) T.flist (by decide +kernel) (pa_cons (pv 3) pa_nil)))) rfl)
        (pss_one (ps_fld (pv 0) (pe_callTy (cList K) (by rfl) T.flist (by decide +kernel) (pa_cons (pv 2) pa_nil)) rfl))), ?_⟩, T.m_RunCoins, T.g_RunCoins⟩
  obtain ⟨c, hl, G, x, dx, ws, e, gx, rfl, hx, ha, k⟩ := h
  obtain ⟨a, b, rfl, h1, h2⟩ := pr_two ha
  refine q_fldB [] (StepM.refl e) (.inl in1) (Ob.start hx gx) (r := rTab c.votes) ((ev_map1 (r := rInts) (r0 := rInts) (wk_list (r := rInts) (ys := c.votes) (ev_var rfl h1)) (by omega) (fun _ => rfl) fun row v G2 hr e2 hv => ev_list (r := rInt) (xs := row) (ev_var rfl hv)).h e) rfl T.c_RunCoins T.n_RunCoins_votes fun H1 G1 o1 s1 t1 O1 => ?_
  refine s_fldB ["votes"] t1 (.inl in1) O1 (r := rL (rSC K) c.stages) ((ev_list (r := rSC K) (xs := c.stages) (ev_var rfl (Mo.mo s1.gg h2))).h t1.gh) rfl T.c_RunCoins T.n_RunCoins_stages fun H2 G2 o2 s2 t2 O2 => ?_
  exact ini_end k t2 O2
/-! Source -/
def spSoini (K : PySem.W.Frag) : Sp := fun vs H Q E => ∃ (ns : List Int) (p : Int), spIni K "Source" [rInts ns, rInt p] (rSof ns p 0) vs H Q E
theorem sc_Source_init : FnScope ["self", "numbers", "prime"] ["self", "numbers", "prime"] (defScope s_Source_init) := ⟨rfl, rfl, rfl, by decide +kernel, rfl, by decide +kernel, by decide +kernel⟩
theorem ok_Source (T : Tx K mg) : Ctr P w K mg base "Source" 1 ["self", "numbers", "prime"] (spSoini K) := by
  refine ⟨T.k_Source_init.fnOk sc_Source_init (fun vs H Q E ⟨_, _, h⟩ => spIni_len h) fun f cdv A outer s H vs Q E hr h => ⟨_, (pss_cons (ps_fld (pv 0) (pe_callTy (cList K) (by rfl) T.flist (by decide +kernel) (pa_cons (pv 1) pa_nil)) rfl)
        (pss_cons (ps_fld (pv 0) (pv 2) rfl)
        (pss_one (ps_fld (pv 0) pe_int rfl)))), ?_⟩, T.m_Source, T.g_Source⟩
  obtain ⟨ns, p, G, x, dx, ws, e, gx, rfl, hx, ha, k⟩ := h
  obtain ⟨a, b, rfl, h1, h2⟩ := pr_two ha
  refine q_fldB [] (StepM.refl e) (.inl in1) (Ob.start hx gx) (r := rInts ns) ((ev_list (r := rInt) (xs := ns) (ev_var rfl h1)).h e) rfl T.c_Source T.n_Source_numbers fun H1 G1 o1 s1 t1 O1 => ?_
  refine q_fldB ["numbers"] t1 (.inl in1) O1 (r := rInt p) ((ev_var rfl (Mo.mo s1.gg h2)).h t1.gh) rfl T.c_Source T.n_Source_prime fun H2 G2 o2 s2 t2 O2 => ?_
  refine s_fldB ["numbers", "prime"] t2 (.inl in1) O2 (r := rNat 0) ((ev_n 0).h t2.gh) rfl T.c_Source T.n_Source_place fun H3 G3 o3 s3 t3 O3 => ?_
  exact ini_end k t3 O3
/-! Source.number -/
def spNumber (K : PySem.W.Frag) : Sp := fun vs H Q E => ∃ (G : Hp) (x : Addr) (ns : List Int) (p : Int) (i : Nat) (n : Int), Ex G H ∧ So K x ns p i H G ∧ ns[i]? = some n ∧ vs = [.ref x] ∧ ∀ H' G', StepM [x] H G H' G' → So K x ns p (i + 1) H' G' → Q (.int n) H'
theorem sc_Source_number : FnScope ["self"] ["self"] (defScope s_Source_number) := ⟨rfl, rfl, rfl, by decide +kernel, rfl, by decide +kernel, by decide +kernel⟩
theorem ok_number (T : Tx K mg) : MCal P w K mg base "Source" "number" 1 ["self"] (spNumber K) := by
  refine ⟨T.k_Source_number.fnOk sc_Source_number (fun vs H Q E ⟨_, _, _, _, _, _, _, _, _, h, _⟩ => by rw [h]; rfl) fun f cdv A outer s H vs Q E hr h => ⟨_, (pss_cons (ps_fldaug (pv 0) pe_int in_add)
        (pss_one (ps_ret (pe_ix (ixl K) (fldK K (pv 0) rfl) (pe_op op_sub (fldK K (pv 0) rfl) pe_int) (fun _ _ => rfl))))), ?_⟩, T.c_Source, T.me_number⟩
  obtain ⟨G, x, ns, p, i, n, e, O, hn, rfl, k⟩ := h
  refine q_fldaugI nsSo 2 (M := [x]) (StepM.refl e) (.inl in1) O rfl T.c_Source T.n_Source_place (look_ns nsSo 2 rfl) fun o t1 O1 => ?_
  obtain ⟨G1, e1, e2, hO⟩ := O1.view t1.gh
  refine s_retH (evH_val (v := .int n) (ev_ix (r := rInt) (xs := ns) (n := i) (ev_fld (ev_var rfl hO) T.c_Source T.n_Source_numbers (look_ns nsSo 0 rfl)) (ev_I0 (g := fun i j => .int (i - j)) (i := (i : Int) + 1) (j := 1) (ev_fld (ev_var rfl hO) T.c_Source T.n_Source_place (look_ns nsSo 2 rfl)) ev_i) (by omega) hn) e2 t1.gh) fun v H2 G2 s2 hv => ?_
  cases hv
  exact k H2 G2 (t1.then s2) (O1.step s2)
section
variable {σ : L2.St} {H G : Hp} {x : Addr} {ns : List Int} {p : Int} {i j : Nat} {n : Int}
theorem ev_number (e : Ex G H) (hσ : σ[j]? = some (some (.ref x))) (O : So K x ns p i H G) (hn : ns[i]? = some n) : EvM [x] (tMeth (He.ga K "Source") "number" (spNumber K) [] E0 (tVar j) tNil) σ H G (fun v H' G' => v = .int n ∧ So K x ns p (i + 1) H' G') :=
  evM_meth hσ O (look_no nsSo) (emA_nil e) fun vs H1 G1 s1 ⟨s2, ev⟩ Q q => ⟨G1, x, ns, p, i, n, s2.gh, O.step s2, hn, by rw [ev], fun H' G' s3 O3 => q _ H' G' s3 ⟨rfl, O3⟩⟩
end
/-! Source.block -/
def spBlock (K : PySem.W.Frag) : Sp := fun vs H Q E => ∃ (G : Hp) (x : Addr) (ns : List Int) (p : Int) (i rows wide : Nat), Ex G H ∧ So K x ns p i H G ∧ 0 < p ∧ rows ≤ 1000 ∧ wide ≤ 1000 ∧ i + rows * wide ≤ ns.length ∧ vs = [.ref x, .int (rows : Int), .int (wide : Int)] ∧
  ∀ t v H' G', StepM [x] H G H' G' → So K x ns p (i + rows * wide) H' G' → Rect t rows wide → rTab t G' v → Q v H'
theorem blk_le {i k rows wide l : Nat} (h : i + rows * wide ≤ l) (hk : k < rows) : i + k * wide + wide ≤ l := by
  have h1 : (k + 1) * wide ≤ rows * wide := Nat.mul_le_mul_right _ hk
  rw [Nat.succ_mul] at h1
  omega
theorem sc_Source_block : FnScope ["self", "rows", "wide", "result", "row", "line", "place"] ["self", "rows", "wide"] (defScope s_Source_block) := ⟨rfl, rfl, rfl, by decide +kernel, rfl, by decide +kernel, by decide +kernel⟩
theorem ok_block (T : Tx K mg) : MCal P w K mg base "Source" "block" 2 ["self", "rows", "wide"] (spBlock K) := by
  have c_number := ok_number (P := P) (w := w) (base := base) T
  refine ⟨T.k_Source_block.fnOk sc_Source_block (fun vs H Q E ⟨_, _, _, _, _, _, _, _, _, _, _, _, _, h, _⟩ => by rw [h]; rfl) fun f cdv A outer s H vs Q E hr h => ⟨_, (pss_cons (ps_set (i := 3) sc_Source_block.nd rfl (Or.inl rfl) (pe_lst pa_nil))
        (pss_cons (ps_for PassesOwn.never rfl (pi_range1 rfl T.frange (pa_cons (pv 1) pa_nil)) (pg_name (i := 4) sc_Source_block.nd rfl (Or.inl rfl))
          (pss_cons (ps_set (i := 5) sc_Source_block.nd rfl (Or.inl rfl) (pe_lst pa_nil))
          (pss_cons (ps_for PassesOwn.never rfl (pi_range1 rfl T.frange (pa_cons (pv 2) pa_nil)) (pg_name (i := 6) sc_Source_block.nd rfl (Or.inl rfl))
            (pss_one (ps_expr (bmK K (pe_bm PySem.F.plainAttrs_list PySem.F.slot_list_append PySem.F.type_list_append mt_append (pv 5) (pa_cons (pe_op op_mod (mcK K (pe_mc0 c_number (pv 0) hr)) (fldK K (pv 0) rfl)) pa_nil))))))
          (pss_one (ps_expr (bmK K (pe_bm PySem.F.plainAttrs_list PySem.F.slot_list_append PySem.F.type_list_append mt_append (pv 3) (pa_cons (pv 5) pa_nil))))))))
        (pss_one (ps_ret (pv 3))))), ?_⟩, T.c_Source, T.me_block⟩
  obtain ⟨G, x, ns, p, i, rows, wide, e, O, hp, hr1, hw1, hi, rfl, k⟩ := h
  refine q_newA (r := rInts) (StepM.refl (M := [x]) e) fun a hn h0 s1 A1 => ?_
  have nxa : x ≠ a := ne_fresh O.nn hn
  have haM : a ∉ [x] := by simp [nxa.symm]
  refine q_for1 (r0 := rNat) s1 (wk_rng1 (n := rows) (ev_var rfl rfl) (by omega)) (fun b σ' H' G' => ∃ x4 x5 x6 zs, σ' = [some (.ref x), some (.int (rows : Int)), some (.int (wide : Int)), some (.ref a), x4, x5, x6] ∧ So K x ns p (i + b * wide) H' G' ∧ zs.length = b ∧ (∀ r ∈ zs, r.length = wide) ∧ Acc rInts a zs H' G') ?_ ?_ ?_
  · exact fun H1 G1 s2 => ⟨none, none, none, [], rfl, by rw [Nat.zero_mul]; exact (O.ne nxa).step s2, rfl, (fun _ h => by cases h), A1.step s2⟩
  · rintro b _ σ' v Ha Hb G' Gs hb s2 e1 e2 e3 hv ⟨x4, x5, x6, zs, rfl, O2, hl, hwd, A2⟩
    cases hv
    obtain ⟨rfl, hbl⟩ := get_range hb
    have hbk := blk_le hi hbl
    refine q_newA (r := rInt) s2 fun c hcn hc0 s3 B1 => ?_
    have A3 := (A2.ex e3).ne (q := c) (o := .lst []) (ne_fresh (A2.ex e3).nn hcn)
    have nac : a ≠ c := ne_fresh (A2.ex e3).nn hcn
    have nxc : x ≠ c := ne_fresh (O2.ex e3).nn hcn
    have hcM : c ∉ [x] := by simp [nxc.symm]
    refine q_for1 (r0 := rNat) s3 (wk_rng1 (n := wide) (ev_var rfl rfl) (by omega)) (fun d σ' H' G' => ∃ x6 us, σ' = [some (.ref x), some (.int (rows : Int)), some (.int (wide : Int)), some (.ref a), some (.int (b : Int)), some (.ref c), x6] ∧ So K x ns p (i + b * wide + d) H' G' ∧ us.length = d ∧ Acc rInts a zs H' G' ∧ Acc rInt c us H' G') ?_ ?_ ?_
    · exact fun H1 G1 s4 => ⟨_, [], rfl, ((O2.ex e3).ne nxc).step s4, rfl, A3.step s4, B1.step s4⟩
    · rintro d _ σ' v Hc Hd G2 Gt hd s4 f1 f2 f3 hv ⟨x6, us, rfl, O3, hul, A4, B2⟩
      cases hv
      obtain ⟨rfl, hdl⟩ := get_range hd
      have hn := get_of_lt (l := ns) 0 (show i + b * wide + d < ns.length by omega)
      generalize hz : ns.getD (i + b * wide + d) 0 = z0 at hn
      refine s_appM (q := rInt) (W := fun _ H' G' => So K x ns p (i + b * wide + d + 1) H' G') s4 hc0 hcM rfl (B2.ex f3) (by omega)
        (evM_op (pb := fun v w H2 G2 => v = .int z0 ∧ w = .int p ∧ So K x ns p (i + b * wide + d + 1) H2 G2) (ev_number s4.gh rfl (O3.ex f3) hn)
          (fun v H1 G1 s5 ⟨h1, h2⟩ => (evM_ev (r := rInt p) (evH_fld h2 s5.gh rfl T.c_Source T.n_Source_prime (look_ns nsSo 1 rfl))).is fun w H2 G2 _ ⟨s6, h3⟩ => ⟨h1, h3, h2.step s6⟩)
          (fun v w H2 G2 e4 ⟨h1, h2, h3⟩ Q q => ⟨z0, p, h1, h2, hp, q _ ⟨z0 % p, rfl, h3⟩⟩))
        fun z H1 G1 o h5 s5 s6 B3 => ⟨G1, s6, f2.trans s5.gg, _, us ++ [z], rfl, h5.ne nxc, by rw [List.length_append, hul]; rfl, ((A4.ex f3).stepM s5 haM).ne nac, B3⟩
    · rintro σ' H2 G2 s4 f1 ⟨x6, us, rfl, O3, hul, A4, B2⟩
      rw [List.length_range] at hul O3
      obtain ⟨us', s5, e5, h5, g5⟩ := B2.done s4 hc0
      refine s_appA (z := us) s5 h0 rfl (A4.neG nac g5) (by omega) (ev_var rfl h5) fun H1 G1 o s6 s7 A5 => ⟨G1, s7, (e2.trans f1).trans (e5.trans s6.gg), _, _, _, zs ++ [us], rfl, ?_, by rw [List.length_append, hl]; rfl, ?_, A5⟩
      · rw [Nat.succ_mul, ← Nat.add_assoc]
        exact ((Ob.stab.neG O3 nxc g5).step s6).ne nxa
      · intro r hr
        rcases List.mem_append.mp hr with hr | hr
        · exact hwd r hr
        · rw [List.mem_singleton.mp hr, hul]
  · rintro σ' H2 G2 s2 e1 ⟨x4, x5, x6, zs, rfl, O2, hl, hwd, A2⟩
    rw [List.length_range] at hl O2
    obtain ⟨us', s5, e5, h5, g5⟩ := A2.done s2 h0
    exact s_ret (ev_var (r := rTab zs) rfl h5) s5.gh fun v H3 G3 s6 hv => k zs v H3 G3 (s5.then s6) ((Ob.stab.neG O2 nxa g5).step s6) ⟨hl, hwd⟩ hv
end
end Vc
namespace Vm
theorem SCsOk.snoc {m R : Nat} {l : List Nat} {c : SC} (h : SCok m R (outs m l) c) (h1 : 1 ≤ (outs m l).length) : ∀ {ls : List (List Nat)} {cs : List SC}, SCsOk m R ls cs → SCsOk m R (ls ++ [l]) (cs ++ [c])
  | _, _, .nil => .cons h h1 .nil
  | _, _, .cons h' h1' t => .cons h' h1' (SCsOk.snoc h h1 t)
theorem sum_take_succ {α : Type} (f : α → Nat) {l : List α} {i : Nat} {x : α} (h : l[i]? = some x) : ((l.take (i + 1)).map f).sum = ((l.take i).map f).sum + f x := by
  rw [List.take_succ, h, List.map_append, List.sum_append]
  show _ + (f x + 0) = _
  rw [Nat.add_zero]
theorem sum_take_le {α : Type} (f : α → Nat) : ∀ (l : List α) (i : Nat), ((l.take i).map f).sum ≤ (l.map f).sum
  | [], i => by simp
  | a :: l, 0 => by simp
  | a :: l, i + 1 => by
    have := sum_take_le f l i
    simp only [List.take_succ_cons, List.map_cons, List.sum_cons]
    omega
end Vm
namespace Vc
open PySem PySem.Spec PyProof.Rows L2 Vm
section
variable {P : Program} {w : World} {K : PySem.W.Frag} {mg : Str → Option Value} {base : Heap}
section
variable {σ : L2.St} {H G : Hp} {x : Addr} {ns : List Int} {p : Int} {i j rows wide : Nat} {al : TA}
theorem ev_block (e : Ex G H) (hσ : σ[j]? = some (some (.ref x))) (O : So K x ns p i H G) (hp : 0 < p) (h1 : rows ≤ 1000) (h2 : wide ≤ 1000) (hi : i + rows * wide ≤ ns.length) (ha : EvA al σ G [rNat rows, rNat wide]) :
    EvM [x] (tMeth (He.ga K "Source") "block" (spBlock K) [] E0 (tVar j) al) σ H G (fun v H' G' => ∃ t, rTab t G' v ∧ Rect t rows wide ∧ So K x ns p (i + rows * wide) H' G') :=
  evM_meth hσ O (look_no nsSo) (emA_of (ha.h e)) fun vs H1 G1 s1 ⟨s2, ev⟩ Q q => by
    obtain ⟨_, _, rfl, rfl, rfl⟩ := pr_two ev
    exact ⟨G1, x, ns, p, i, rows, wide, s2.gh, O.step s2, hp, h1, h2, hi, rfl, fun t v H' G' s3 O3 hr hv => q _ H' G' s3 ⟨t, hv, hr, O3⟩⟩
end
/-! read_stage -/
def spRdStage (K : PySem.W.Frag) : Sp := fun vs H Q E => ∃ (G : Hp) (x : Addr) (ns : List Int) (p : Int) (i m rows : Nat) (lot : List Nat) (u : V), Ex G H ∧ So K x ns p i H G ∧ 0 < p ∧ Sm m rows ∧ 1 ≤ (outs m lot).length ∧ i + ssz m lot rows ≤ ns.length ∧ vs = [.ref x, .int (m : Int), u, .int (rows : Int)] ∧ rL rNat lot G u ∧
  ∀ c v H' G', StepM [x] H G H' G' → So K x ns p (i + ssz m lot rows) H' G' → SCok m rows (outs m lot) c → rSC K c G' v → Q v H'
theorem sc_read_stage : FnScope ["source", "mixers", "lot", "rows", "many", "gather", "order", "spread", "mixer", "holder"] ["source", "mixers", "lot", "rows"] (defScope s_read_stage) := ⟨rfl, rfl, rfl, by decide +kernel, rfl, by decide +kernel, by decide +kernel⟩
theorem ok_read_stage (T : Tx K mg) : Cal P w K mg base "read_stage" 4 ["source", "mixers", "lot", "rows"] (spRdStage K) := by
  have c_number := ok_number (P := P) (w := w) (base := base) T
  have c_block := ok_block (P := P) (w := w) (base := base) T
  have c_factorial := ok_factorial (P := P) (w := w) (base := base) T
  have c_holders := ok_holders (P := P) (w := w) (base := base) T
  have c_order_of_number := ok_order_of_number (P := P) (w := w) (base := base) T
  have c_StageCoins := ok_StageCoins (P := P) (w := w) (base := base) T
  refine T.k_read_stage.cal sc_read_stage (fun vs H Q E ⟨_, _, _, _, _, _, _, _, _, _, _, _, _, _, _, h, _⟩ => by rw [h]; rfl) fun f cdv A outer s H vs Q E hr h => ⟨_, (pss_cons (ps_set (i := 4) sc_read_stage.nd rfl (Or.inr rfl) (pe_callB (cLen K) (by rfl) T.flen PySem.boot_len (pa_cons (pe_cal c_holders hr rfl (pa_cons (pv 2) (pa_cons (pv 1) pa_nil))) pa_nil)))
        (pss_cons (ps_setLc (i := 5) (own := [("mixer", 8)]) (g := gName 8) (tt := tYes) rfl sc_read_stage.nd rfl rfl (sw_true rfl rfl rfl (by decide +kernel)) (pi_range1 rfl T.frange (pa_cons (pe_op op_sub (pv 1) (pv 4)) pa_nil)) (blkOk_by (N := ["source", "mixers", "lot", "rows", "many", "gather", "order", "spread", "mixer", "holder"]) (sc := defScope s_read_stage) (by decide +kernel)) (fun _ _ _ _ _ => pg_name (i := 8) sc_read_stage.nd rfl (Or.inl rfl)) (fun _ _ _ _ _ => pts_nil) (fun _ _ _ _ _ => (mcK K (pe_mc c_block (pv 0) hr (pa_cons (pv 3) (pa_cons (pe_op op_sub (pv 4) pe_int) pa_nil))))))
        (pss_cons (ps_set (i := 6) sc_read_stage.nd rfl (Or.inl rfl) (pe_cal c_order_of_number hr rfl (pa_cons (pv 3) (pa_cons (pe_op op_mod (mcK K (pe_mc0 c_number (pv 0) hr)) (pe_cal c_factorial hr rfl (pa_cons (pv 3) pa_nil))) pa_nil))))
        (pss_cons (ps_setLc (i := 7) (own := [("holder", 9)]) (g := gName 9) (tt := tYes) rfl sc_read_stage.nd rfl rfl (sw_true rfl rfl rfl (by decide +kernel)) (pi_range1 rfl T.frange (pa_cons (pv 4) pa_nil)) (blkOk_by (N := ["source", "mixers", "lot", "rows", "many", "gather", "order", "spread", "mixer", "holder"]) (sc := defScope s_read_stage) (by decide +kernel)) (fun _ _ _ _ _ => pg_name (i := 9) sc_read_stage.nd rfl (Or.inl rfl)) (fun _ _ _ _ _ => pts_nil) (fun _ _ _ _ _ => (mcK K (pe_mc c_block (pv 0) hr (pa_cons (pv 3) (pa_cons (pe_op op_sub (pv 1) pe_int) pa_nil))))))
        (pss_one (ps_ret (pe_mk c_StageCoins hr rfl (pa_cons (pv 5) (pa_cons (pv 6) (pa_cons (pv 7) pa_nil)))))))))), ?_⟩
  obtain ⟨G, x, ns, p, i, m, rows, lot, u, e, O, hp, sm, h1, hi, rfl, hu, k⟩ := h
  have hm1 := sm.m1
  have hm := sm.m4
  have hR := sm.r5
  have hol := outs_le m lot
  have hcnt := outs_count m lot
  have hst : ∀ i, Stab x (So K x ns p i) := fun i => Ob.stab
  refine q_set (r := rNat (outs m lot).length) (ev_len (r := rNat) (ev_call (ea_cons (ev_var (r := rL rNat lot) rfl hu) (ea_cons (ev_var (r := rNat m) rfl rfl) ea_nil)) fun vs H Q h => ⟨lot, m, by omega, h⟩)) e fun v H1 G1 s1 hv => ?_
  cases hv
  have es : ssz m lot rows = (m - (outs m lot).length) * (rows * ((outs m lot).length - 1)) + 1 + (outs m lot).length * (rows * (m - 1)) := by
    unfold ssz
    rw [Nat.mul_assoc, Nat.mul_assoc]
  generalize hhs : outs m lot = hs at *
  generalize hw1 : rows * (hs.length - 1) = w1 at *
  generalize hw2 : rows * (m - 1) = w2 at *
  rw [es] at hi
  have step1 : ∀ b, b < m - hs.length → b * w1 + w1 ≤ (m - hs.length) * w1 := fun b hb => by
    have := Nat.mul_le_mul_right w1 (show b + 1 ≤ m - hs.length from hb)
    rw [Nat.succ_mul] at this
    exact this
  have step2 : ∀ b, b < hs.length → b * w2 + w2 ≤ hs.length * w2 := fun b hb => by
    have := Nat.mul_le_mul_right w2 (show b + 1 ≤ hs.length from hb)
    rw [Nat.succ_mul] at this
    exact this
  refine q_setM (M := [x]) s1.m (evM_lc1 (q := rTab) (r0 := rNat) (fun a => So K x ns p a) hst (fun b zs a => zs.length = b ∧ (∀ t ∈ zs, Rect t rows (hs.length - 1)) ∧ a = i + b * w1) (O.step s1) ⟨rfl, (fun _ h => by cases h), by omega⟩ s1.gh
    (wk_rng1 (n := m - hs.length) (ev_subN (a := m) (b := hs.length) (ev_var rfl rfl) (ev_var rfl rfl) hol) (by omega)) (by rw [List.length_range]; omega) (fun _ => rfl) fun b y zs a G' H' v hb e1 e2 ⟨j1, j2, j3⟩ O1 hv => ?_) fun v1 H2 G2 s2 t2 ⟨zs1, a1, hz1, ⟨l1, l2, l3⟩, O2⟩ => ?_
  · obtain ⟨rfl, hbl⟩ := get_range hb
    have := step1 b hbl
    refine (ev_block e2 rfl O1 hp (by omega) (by omega) (by rw [j3, hw1]; omega) (ea_cons (ev_var (r := rNat rows) rfl rfl) (ea_cons (ev_subN (a := hs.length) (b := 1) (ev_var rfl rfl) (ev_n 1) h1) ea_nil))).is fun v H3 G3 _ ⟨t, h3, h4, h5⟩ => ⟨t, _, h3, ⟨by rw [List.length_append, j1]; rfl, fun t' ht' => ?_, ?_⟩, h5⟩
    · rcases List.mem_append.mp ht' with ht' | ht'
      · exact j2 t' ht'
      · rw [List.mem_singleton.mp ht']
        exact h4
    · rw [j3, hw1, Nat.succ_mul, Nat.add_assoc]
  rw [List.length_range] at l1 l3
  have hn := get_of_lt (l := ns) 0 (show a1 < ns.length by omega)
  generalize hz : ns.getD a1 0 = z0 at hn
  have hf := fact_pos rows
  obtain ⟨kn, hkn, hkl⟩ : ∃ kn : Nat, z0 % ((fact rows : Nat) : Int) = (kn : Int) ∧ kn < fact rows := by
    have e1 := Int.emod_nonneg z0 (show ((fact rows : Nat) : Int) ≠ 0 by omega)
    have e2 := Int.emod_lt_of_pos z0 (show (0 : Int) < ((fact rows : Nat) : Int) by omega)
    exact ⟨(z0 % ((fact rows : Nat) : Int)).toNat, by omega, by omega⟩
  refine q_setM (M := [x]) t2 (evM_call (pr := fun v H' G' => rE (OrdOf rows) (rL rNat) G' v ∧ So K x ns p (a1 + 1) H' G') (emA_two (pa := fun v H' G' => rNat rows G' v ∧ So K x ns p a1 H' G') (po := fun v w H' G' => v = .int (rows : Int) ∧ w = .int (kn : Int) ∧ So K x ns p (a1 + 1) H' G') (evM_pure (hst a1) (ev_var rfl rfl) t2.gh O2)
    fun v H3 G3 s3 ⟨h3, O3⟩ => evM_op (pb := fun v' w' H' G' => v' = .int z0 ∧ w' = .int ((fact rows : Nat) : Int) ∧ So K x ns p (a1 + 1) H' G') (ev_number s3.gh rfl O3 hn) (fun v' H4 G4 s4 ⟨h4, O4⟩ => (evM_pure (r := rNat (fact rows)) (hst (a1 + 1)) (ev_call (ea_cons (ev_var (r := rNat rows) rfl rfl) ea_nil) fun vs H Q h => ⟨rows, hR, h⟩) s4.gh O4).is fun w' H5 G5 s5 ⟨h5, O5⟩ => ⟨h4, h5, O5⟩)
      fun v' w' H6 G6 e6 ⟨h6, h7, O6⟩ Q q => ⟨z0, _, h6, h7, by omega, q _ ⟨h3, congrArg V.int hkn, O6⟩⟩)
    fun vs H3 G3 s3 ⟨v, w, ev, hv, hw, O3⟩ Q q => ⟨rows, kn, hR, hkl, G3, s3.gh, by rw [ev, hv, hw]; exact .cons rfl (.cons rfl .nil), fun v' H4 G4 s4 h4 => q v' H4 G4 s4.m ⟨h4, (hst (a1 + 1)).step O3 s4⟩⟩) fun v2 H3 G3 s3 t3 ⟨⟨o, ho, hv2⟩, O3⟩ => ?_
  refine q_setM (M := [x]) t3 (evM_lc1 (q := rTab) (r0 := rNat) (fun a => So K x ns p a) hst (fun b zs a => zs.length = b ∧ (∀ t ∈ zs, Rect t rows (m - 1)) ∧ a = a1 + 1 + b * w2) O3 ⟨rfl, (fun _ h => by cases h), by omega⟩ t3.gh
    (wk_rng1 (n := hs.length) (ev_var rfl rfl) (by omega)) (by rw [List.length_range]; omega) (fun _ => rfl) fun b y zs a G' H' v hb e1 e2 ⟨j1, j2, j3⟩ O1 hv => ?_) fun v3 H4 G4 s4 t4 ⟨zs3, a3, hz3, ⟨n1, n2, n3⟩, O4⟩ => ?_
  · obtain ⟨rfl, hbl⟩ := get_range hb
    have := step2 b hbl
    refine (ev_block e2 rfl O1 hp (by omega) (by omega) (by rw [j3, hw2]; omega) (ea_cons (ev_var (r := rNat rows) rfl rfl) (ea_cons (ev_subN (a := m) (b := 1) (ev_var rfl rfl) (ev_n 1) hm1) ea_nil))).is fun v H3 G3 _ ⟨t, h3, h4, h5⟩ => ⟨t, _, h3, ⟨by rw [List.length_append, j1]; rfl, fun t' ht' => ?_, ?_⟩, h5⟩
    · rcases List.mem_append.mp ht' with ht' | ht'
      · exact j2 t' ht'
      · rw [List.mem_singleton.mp ht']
        exact h4
    · rw [j3, hw2, Nat.succ_mul, Nat.add_assoc]
  rw [List.length_range] at n1 n3
  have hok : SCok m rows hs ⟨zs1, o, zs3⟩ := ⟨⟨by show zs1.length = (outs m hs).length; omega, l2⟩, ho, ⟨n1, n2⟩⟩
  refine s_ret (EvO.ev (evO_ini (fsR := rSCf ⟨zs1, o, zs3⟩) (ea_cons (ev_var (r := rBox zs1) rfl (Mo.mo (s3.gg.trans s4.gg) hz1)) (ea_cons (ev_var (r := rL rNat o) rfl (Mo.mo s4.gg hv2)) (ea_cons (ev_var (r := rBox zs3) rfl hz3) ea_nil))) fun vs H Q h => ⟨m, rows, hs, ⟨zs1, o, zs3⟩, sm, hol, hok, h⟩)) t4.gh fun v H5 G5 s5 hv => ?_
  refine k ⟨zs1, o, zs3⟩ v H5 G5 (t4.then s5) ?_ hok hv
  have ea : a3 = i + ssz m lot rows := by rw [es]; omega
  rw [← ea]
  exact (hst a3).step O4 s5
end
end Vc
namespace Vm
theorem FamOk.pos {m : Nat} {fam : List (List Nat)} (h : FamOk m fam) {l : List Nat} (hl : l ∈ fam) : 1 ≤ (outs m l).length := by
  obtain ⟨i, hi, e⟩ := List.getElem_of_mem hl
  have e' : fam[i]? = some l := by rw [List.getElem?_eq_getElem hi, e]
  exact outs_pos (h.no i i l l (Nat.le_refl _) e' e')
/-- the coins of a run fit -/
def CoOk (m rows : Nat) (fam : List (List Nat)) (c : RC) : Prop := Rect c.votes rows (m - 1) ∧ SCsOk m rows fam c.stages
end Vm
namespace Vc
open PySem PySem.Spec PyProof.Rows L2 Vm
section
variable {P : Program} {w : World} {K : PySem.W.Frag} {mg : Str → Option Value} {base : Heap}
/-! coins_of -/
structure KCal (P : Program) (w : World) (K : PySem.W.Frag) (mg : Str → Option Value) (base : Heap) (x : Str) (k : Nat) (ps : List Str) (n : Nat) (ks : List Str) (sp : Sp) : Prop where
  ex : ∃ f fd, FnOk P w K mg base CX0 k f fd ps sp ∧ mg x = some (.ref f) ∧ PySem.W.keepIn K (.ref f) = true ∧ KBn K fd ps n ks (fun us ws => us ++ ws) (fun vs zs => vs ++ zs)
theorem pe_kcal {X : Cx} {x : Str} {j k n : Nat} {ps ks : List Str} {sp : Sp} {p pos : Pos} {e : Expr} {es : List Expr} {kws : List Keyword} {t tk : TA} (C : KCal X.prog X.w X.K X.mg X.base x k ps n ks sp) (hr : Room j X.A) (hg : Gl X x) (ha : PA X (e :: es) t) (hkw : PK X kws tk) (hk : k ≤ j := by decide)
    (hall : (backToKw pos (keywordEach kws X.env)).all (·.1.isSome) = true := by rfl) (hks : (backToKw pos (keywordEach kws X.env)).filterMap (·.1) = ks := by rfl)
    (hdb : (x == ("__debug__" : Str)) = false := by decide) (he : starEach (e :: es) X.env = (false, eval e X.env) :: starEach es X.env := by rfl)
    (hpl : ((backTo pos (starEach (e :: es) X.env)).any (·.1) || (backToKw pos (keywordEach kws X.env)).any (·.1.isNone)) = false := by rfl) :
    PE X (.Call (.Name x p) (e :: es) kws pos) (tCallN n ks.length sp (fun vs zs => vs ++ zs) E0 t tk) := by
  obtain ⟨f, fd, F, g, kp, b⟩ := C.ex
  exact pe_callN F (hr.mono hk) hg g kp b pass0 ha hkw hall hks hdb he hpl
def spCoins (K : PySem.W.Frag) : Sp := fun vs H Q E => ∃ (ns : List Int) (p m : Nat) (fam : List (List Nat)) (rows : Nat), 0 < p ∧ Sm m rows ∧ FamOk m fam ∧ fam.length ≤ 1000 ∧ ns.length = szF m fam rows ∧ spOf [rInts ns, rNat p, rNat m, rL (rL rNat) fam, rNat rows] (rE (CoOk m rows fam) (rRC K)) vs H Q E
theorem sc_coins_of : FnScope ["numbers", "prime", "mixers", "family", "rows", "due", "source", "votes", "stages", "lot"] ["numbers", "prime", "mixers", "family", "rows"] (defScope s_coins_of) := ⟨rfl, rfl, rfl, by decide +kernel, rfl, by decide +kernel, by decide +kernel⟩
theorem ok_coins_of (T : Tx K mg) : KCal P w K mg base "coins_of" 5 ["numbers", "prime", "mixers", "family", "rows"] 1 ["prime", "mixers", "family", "rows"] (spCoins K) := by
  have c_size := ok_size (P := P) (w := w) (base := base) T
  have c_Source := ok_Source (P := P) (w := w) (base := base) T
  have c_block := ok_block (P := P) (w := w) (base := base) T
  have c_read_stage := ok_read_stage (P := P) (w := w) (base := base) T
  have c_RunCoins := ok_RunCoins (P := P) (w := w) (base := base) T
  obtain ⟨⟨fd, F⟩, hg⟩ := T.k_coins_of
  refine ⟨_, fd, F.ok sc_coins_of (fun vs H Q E ⟨_, _, _, _, _, _, _, _, _, _, h⟩ => spOf_len h) (fun cdv A outer s H vs Q E hr h => ?_), hg, F.kp, ⟨?_, fun r1 r2 => r1.append r2⟩⟩
  · suffices h' : ∃ t, PSs (cxOf CX0 P w K mg base ["numbers", "prime", "mixers", "family", "rows", "due", "source", "votes", "stages", "lot"] "coins_of" (defScope s_coins_of) (He.ga K "coins_of") cdv A outer s H E).nox (defBody s_coins_of) t ∧ t { nx := fun _ H' => Q .non H', rt := Q } (start ["numbers", "prime", "mixers", "family", "rows", "due", "source", "votes", "stages", "lot"] vs) H by
      obtain ⟨t, p, q⟩ := h'
      exact ⟨t, p.nox, q⟩
    refine ⟨_, (pss_cons (ps_set (i := 5) sc_coins_of.nd rfl (Or.inl rfl) (pe_cal c_size hr rfl (pa_cons (pv 2) (pa_cons (pv 3) (pa_cons (pv 4) pa_nil)))))
        (pss_cons (ps_if (pt_cmpR op_ne (pe_callB (cLen K) (by rfl) T.flen PySem.boot_len (pa_cons (pv 0) pa_nil)) (pv 5) (nomark _)) (pss_one ps_never) pss_nil)
        (pss_cons (ps_set (i := 6) sc_coins_of.nd rfl (Or.inr rfl) (pe_mk c_Source hr rfl (pa_cons (pv 0) (pa_cons (pv 1) pa_nil))))
        (pss_cons (ps_set (i := 7) sc_coins_of.nd rfl (Or.inl rfl) (mcK K (pe_mc c_block (pv 6) hr (pa_cons (pv 4) (pa_cons (pe_op op_sub (pv 2) pe_int) pa_nil)))))
        (pss_cons (ps_setLc (i := 8) (own := [("lot", 9)]) (g := gName 9) (tt := tYes) rfl sc_coins_of.nd rfl rfl (sw_true rfl rfl rfl (by decide +kernel)) (itL K (pv 3)) (blkOk_by (N := ["numbers", "prime", "mixers", "family", "rows", "due", "source", "votes", "stages", "lot"]) (sc := defScope s_coins_of) (by decide +kernel)) (fun _ _ _ _ _ => pg_name (i := 9) sc_coins_of.nd rfl (Or.inl rfl)) (fun _ _ _ _ _ => pts_nil) (fun _ _ _ _ _ => (pe_cal c_read_stage hr rfl (pa_cons (pv 6) (pa_cons (pv 2) (pa_cons (pv 9) (pa_cons (pv 4) pa_nil)))))))
        (pss_one (ps_ret (pe_mk c_RunCoins hr rfl (pa_cons (pv 7) (pa_cons (pv 8) pa_nil)))))))))), ?_⟩
    obtain ⟨ns, p, m, fam, rows, hp, sm, hf, hfl, hns, G, e, ha, k⟩ := h
    obtain ⟨u, _, _, z, _, rfl, hu, rfl, rfl, hz, rfl⟩ := pr_five ha
    have hm1 := sm.m1
    have hm := sm.m4
    have hR := sm.r5
    have hp' : (0 : Int) < (p : Int) := by omega
    refine q_set (r := rNat (szF m fam rows)) (ev_call (ea_cons (ev_var (r := rNat m) rfl rfl) (ea_cons (ev_var (r := rL (rL rNat) fam) rfl hz) (ea_cons (ev_var (r := rNat rows) rfl rfl) ea_nil))) fun vs H Q h => ⟨m, fam, rows, sm, fun l hl => hf.pos hl, hfl, h⟩) e fun v H1 G1 s1 hv => ?_
    cases hv
    refine q_if (b := false) ((et_test (ev_ne (x := .int (ns.length : Int)) (y := .int ((szF m fam rows : Nat) : Int)) (ev_len (r := rInt) (ev_var (r := rInts ns) rfl (Mo.mo s1.gg hu))) (ev_var rfl rfl) rfl)).is (by rw [hns]; simp)) s1.gh (fun z => by cases z) fun _ H2 G2 s2 => ?_
    have t2 := s1.trans s2
    refine q_makeA t2 (evO_ini (fsR := rSof ns p 0) (ea_cons (ev_var (r := rInts ns) rfl (Mo.mo t2.gg hu)) (ea_cons (ev_var (r := rInt p) rfl rfl) ea_nil)) fun vs H Q h => ⟨ns, p, h⟩) fun x H3 G3 hn h0 s3 t3 O3 => ?_
    refine q_setO t3 h0 (ev_block t3.gh rfl O3 hp' (by omega) (by omega) (by rw [hns]; unfold szF; omega) (ea_cons (ev_var (r := rNat rows) rfl rfl) (ea_cons (ev_subN (a := m) (b := 1) (ev_var rfl rfl) (ev_n 1) hm1) ea_nil))) fun v4 H4 G4 s4 t4 ⟨tv, hv4, hrt, O4⟩ => ?_
    have e4 := t4.gg
    refine q_setO t4 h0 (evM_lc1 (q := rSC K) (r0 := rL rNat) (fun a => So K x ns p a) (fun i => Ob.stab) (fun b zs a => SCsOk m rows (fam.take b) zs ∧ a = 0 + rows * (m - 1) + ((fam.take b).map fun l => ssz m l rows).sum) O4 ⟨by rw [List.take_zero]; exact .nil, by simp⟩ t4.gh
      (wk_list (r := rL rNat) (ys := fam) (ev_var rfl (Mo.mo e4 hz))) (by omega) (fun _ => rfl) fun b l zs a G' H' v hb e1 e2 ⟨j1, j2⟩ O1 hv => ?_) fun v5 H5 G5 s5 t5 ⟨zs, a5, hz5, ⟨l1, l2⟩, O5⟩ => ?_
    · have hs1 := sum_take_succ (fun l => ssz m l rows) hb
      have hs2 := sum_take_le (fun l => ssz m l rows) fam (b + 1)
      have hlm := List.mem_of_getElem? hb
      refine evM_call (emA_of (EvA.h (ea_cons (ev_var (r := rV (.ref x)) rfl rfl) (ea_cons (ev_var (r := rNat m) rfl rfl) (ea_cons (ev_var (r := rL rNat l) rfl hv) (ea_cons (ev_var (r := rNat rows) rfl rfl) ea_nil)))) e2)) fun vs H6 G6 s6 ⟨s6', hvs⟩ Q q => ?_
      obtain ⟨_, _, u6, _, rfl, rfl, rfl, hu6, rfl⟩ := pr_four hvs
      refine ⟨G6, x, ns, p, a, m, rows, l, u6, s6.gh, Ob.stab.step O1 s6', hp', sm, hf.pos hlm, ?_, rfl, hu6, fun c v7 H7 G7 s7 O7 hc hv7 => q v7 H7 G7 s7 ⟨c, _, hv7, ⟨?_, ?_⟩, O7⟩⟩
      · rw [hns, j2]
        unfold szF
        omega
      · rw [List.take_succ, hb]
        exact SCsOk.snoc hc (hf.pos hlm) j1
      · rw [hs1, j2]
        omega
    rw [List.take_length] at l1
    exact s_ret (EvO.ev (evO_ini (fsR := rRCf K ⟨tv, zs⟩) (ea_cons (ev_var (r := rTab tv) rfl (Mo.mo s5.gg hv4)) (ea_cons (ev_var (r := rL (rSC K) zs) rfl hz5) ea_nil)) fun vs H Q h => ⟨⟨tv, zs⟩, by show tv.length ≤ 1000; rw [hrt.1]; omega, h⟩)) t5.gh fun v H6 G6 s6 hv => k v H6 G6 (t5.then s6) ⟨⟨tv, zs⟩, ⟨hrt, l1⟩, hv⟩
  · obtain ⟨oc, od, dV, kV, doc, pm, an, cdv, ct, osl, rfl, lk, hcd, hD, hK⟩ := F.ex
    rcases hD with ⟨_, rfl⟩ | ⟨e, _⟩
    · intro s us ws _ h1 h2
      match us, ws, h1, h2 with
      | [u], [a, b, c, d], _, _ => exact .of_eq rfl
    · exact absurd rfl e
end
end Vc
/-! A list comprehension of three clauses without tests. -/
namespace Vc
open PySem PySem.Spec PyProof.Rows L2
section
variable {elt t0 i0 t1 i1 t2 i2 : Expr} {scope : Scope} {pos : Pos} {it acc : Value} {env : Env}
abbrev cmp3 (elt t0 i0 t1 i1 t2 i2 : Expr) (scope : Scope) (pos : Pos) : Expr := .ListComp elt [⟨t0, i0, [], 0⟩, ⟨t1, i1, [], 0⟩, ⟨t2, i2, [], 0⟩] scope pos
theorem turn_zero : compTurn (cmp3 elt t0 i0 t1 i1 t2 i2 scope pos) 0 it acc env = (do
    standAt i0.pos
    match ← pyNext it with
    | none => pure (.done .next)
    | some v =>
      letOwnedTupleGo t0 it v
      assign t0 env v
      let x ← eval i1 env
      standAt i1.pos
      let x ← foldedSetIterable i1 env x
      let _ ← runOwn (.compStart (cmp3 elt t0 i0 t1 i1 t2 i2 scope pos) 1 (← holding [x] (pyIter x)) acc env) env
      again (.compLoop (cmp3 elt t0 i0 t1 i1 t2 i2 scope pos) 0 it acc env)) := by rfl
theorem turn_one : compTurn (cmp3 elt t0 i0 t1 i1 t2 i2 scope pos) 1 it acc env = (do
    standAt i1.pos
    match ← pyNext it with
    | none => pure (.done .next)
    | some v =>
      letOwnedTupleGo t1 it v
      assign t1 env v
      let x ← eval i2 env
      standAt i2.pos
      let x ← foldedSetIterable i2 env x
      let _ ← runOwn (.compStart (cmp3 elt t0 i0 t1 i1 t2 i2 scope pos) 2 (← holding [x] (pyIter x)) acc env) env
      again (.compLoop (cmp3 elt t0 i0 t1 i1 t2 i2 scope pos) 1 it acc env)) := by rfl
theorem turn_two : compTurn (cmp3 elt t0 i0 t1 i1 t2 i2 scope pos) 2 it acc env = (do
    standAt i2.pos
    match ← pyNext it with
    | none => pure (.done .next)
    | some v =>
      letOwnedTupleGo t2 it v
      assign t2 env v
      (do
        let y ← eval elt env
        let _ ← call (.builtin "list.append") [acc, y])
      again (.compLoop (cmp3 elt t0 i0 t1 i1 t2 i2 scope pos) 2 it acc env)) := by rfl
end
section
variable {prog : Program} {w : World} {A : Around} {R : Result → Shared → Prop} {s : Shared} {elt t0 i0 t1 i1 t2 i2 t i : Expr} {gens : List Comprehension} {scope : Scope} {pos p0 : Pos} {it acc : Value} {env : Env} {d : Nat}
/-- the loop of a clause that has another one in it -/
theorem mid_loop (heq : compTurn (.ListComp elt gens scope pos) d it acc env = (do
    standAt p0
    match ← pyNext it with
    | none => pure (.done .next)
    | some v =>
      letOwnedTupleGo t it v
      assign t env v
      let x ← eval i env
      standAt i.pos
      let x ← foldedSetIterable i env x
      let _ ← runOwn (.compStart (.ListComp elt gens scope pos) (d + 1) (← holding [x] (pyIter x)) acc env) env
      again (.compLoop (.ListComp elt gens scope pos) d it acc env)))
    (hs : ∀ x, foldedSetIterable i env x = pure x) (I : Nat → Shared → Prop)
    (each : ∀ n s, I n s → wpAny (model prog w) A (pyNext it) (fun r sF => match r with
      | none => R (.ok .next) sF
      | some v => wpAny (model prog w) A (letOwnedTupleGo t it v) (fun _ sG => wpAny (model prog w) A (assign t env v) (fun _ sH => wpAny (model prog w) A (eval i env) (fun x sJ => wpAny (model prog w) A (pyIter x) (fun it1 sK =>
          codeAny (model prog w) A (.compStart (.ListComp elt gens scope pos) (d + 1) it1 acc env) (fun r s' => match r with
            | .ok _ => ∃ m, m < n ∧ I m s'
            | .error _ => False) sK) (fun _ _ => False) sJ) (fun _ _ => False) sH) (fun _ _ => False) sG) (fun _ _ => False) sF) (fun _ _ => False) s)
    (n : Nat) (h : I n s) : codeAny (model prog w) A (.compLoop (.ListComp elt gens scope pos) d it acc env) R s := by
  refine codeAny_loop rfl I (fun n s hI => ?_) n h
  show wpAny _ A ((compTurn (.ListComp elt gens scope pos) d it acc env).onRaise (fun x => do noteFrame x env; theTreesLotGoes x)) _ _ s
  refine wpAny_noted ?_
  rw [heq]
  refine wpAny_bind (wpAny_standAt (wpAny_bind (wpAny_mono (each n s hI) (fun r sF kF => ?_) fun _ _ z => z.elim)))
  cases r with
  | none => exact wpAny_pure kF
  | some v =>
    refine wpAny_bind (wpAny_mono kF (fun _ sG kG => ?_) fun _ _ z => z.elim)
    refine wpAny_bind (wpAny_mono kG (fun _ sH kH => ?_) fun _ _ z => z.elim)
    refine wpAny_bind (wpAny_mono kH (fun x sJ kJ => ?_) fun _ _ z => z.elim)
    refine wpAny_bind (wpAny_standAt (wpAny_bind (wpAny_of_eq (hs x) (wpAny_bind (wpAny_holding (wpAny_mono kJ (fun it1 sK kK => ?_) fun _ _ z => z.elim))))))
    refine wpAny_bind (wpAny_runOwn ?_)
    rw [Around.mark_none]
    refine codeAny_mono kK fun r s' hr => ?_
    cases r with
    | ok f => exact wpAny_pure ⟨rfl, hr⟩
    | error e => exact hr.elim
/-- the loop of the last clause -/
theorem last_loop (heq : compTurn (.ListComp elt gens scope pos) d it acc env = (do
    standAt p0
    match ← pyNext it with
    | none => pure (.done .next)
    | some v =>
      letOwnedTupleGo t it v
      assign t env v
      (do
        let y ← eval elt env
        let _ ← call (.builtin "list.append") [acc, y])
      again (.compLoop (.ListComp elt gens scope pos) d it acc env))) (I : Nat → Shared → Prop)
    (each : ∀ n s, I n s → wpAny (model prog w) A (pyNext it) (fun r sF => match r with
      | none => R (.ok .next) sF
      | some v => wpAny (model prog w) A (letOwnedTupleGo t it v) (fun _ sG => wpAny (model prog w) A (assign t env v) (fun _ sH => wpAny (model prog w) A (eval elt env) (fun x sJ =>
          wpAny (model prog w) A (call (.builtin "list.append") [acc, x]) (fun _ sK => ∃ m, m < n ∧ I m sK) (fun _ _ => False) sJ) (fun _ _ => False) sH) (fun _ _ => False) sG) (fun _ _ => False) sF) (fun _ _ => False) s)
    (n : Nat) (h : I n s) : codeAny (model prog w) A (.compLoop (.ListComp elt gens scope pos) d it acc env) R s := by
  refine codeAny_loop rfl I (fun n s hI => ?_) n h
  show wpAny _ A ((compTurn (.ListComp elt gens scope pos) d it acc env).onRaise (fun x => do noteFrame x env; theTreesLotGoes x)) _ _ s
  refine wpAny_noted ?_
  rw [heq]
  refine wpAny_bind (wpAny_standAt (wpAny_bind (wpAny_mono (each n s hI) (fun r sF kF => ?_) fun _ _ z => z.elim)))
  cases r with
  | none => exact wpAny_pure kF
  | some v =>
    refine wpAny_bind (wpAny_mono kF (fun _ sG kG => ?_) fun _ _ z => z.elim)
    refine wpAny_bind (wpAny_mono kG (fun _ sH kH => ?_) fun _ _ z => z.elim)
    exact wpAny_bind (wpAny_bind (wpAny_mono kH (fun x sJ kJ => wpAny_bind (wpAny_mono kJ (fun _ sK kK => wpAny_pure (wpAny_pure ⟨rfl, kK⟩)) fun _ _ z => z.elim)) fun _ _ z => z.elim))
/-- the start of an inner clause: its own loop, at once or by its iterator's iterator -/
theorem start_any {g : Comprehension} (eg : gens[d]? = some g) (na : g.is_async = 0) (now : codeAny (model prog w) A (.compLoop (.ListComp elt gens scope pos) d it acc env) R s)
    (late : wpAny (model prog w) A (pyIter it) (fun jt sZ => codeAny (model prog w) A (.compLoop (.ListComp elt gens scope pos) d jt acc env) R sZ) (fun _ _ => False) s) :
    codeAny (model prog w) A (.compStart (.ListComp elt gens scope pos) d it acc env) R s := by
  have e0 : compStart (.ListComp elt gens scope pos) d it acc env = (do
      if (← ask).params.followText "comprehension-iter-twice" then return ← again (.compLoop (.ListComp elt gens scope pos) d it acc env)
      rule "comprehension.iter-twice"
      standAt g.iter.pos
      again (.compLoop (.ListComp elt gens scope pos) d (← pyIter it) acc env)) := by
    unfold compStart
    have ec : (clausesOf (.ListComp elt gens scope pos))[d]? = some g := eg
    simp only [ec, Option.elim, na]
    rfl
  refine codeAny_of_tree ?_
  show wpAny _ _ ((compStart (.ListComp elt gens scope pos) d it acc env).onRaise (fun x => do
    noteFrame x env
    standAt theWindowsPlace)) _ _ s
  rw [e0]
  refine wpAny_notedAt (wpAny_bind (wpAny_askSetting (wpAny_ite ?_)))
  split
  · first
      | exact wpAny_bind (wpAny_pure (wpAny_pure ⟨rfl, now⟩))
      | exact wpAny_pure ⟨rfl, now⟩
  · exact wpAny_bind (wpAny_rule (wpAny_bind (wpAny_standAt (wpAny_bind (wpAny_mono late (fun _ _ z => wpAny_pure ⟨rfl, z⟩) fun _ _ z => z.elim)))))
end
/-! ### what is told of such a comprehension -/
abbrev Bd := L2.St → Hp → (Hp → Prop) → Prop
/-- the element, appended -/
def bApp (D : Addr) (te : TE) : Bd := fun σ H N => te σ H fun y H' => ∃ acc, H' D = some (.lst acc) ∧ acc.length < sizeLine ∧ N (upd H' D (.lst (acc ++ [y])))
/-- a loop: its turns take b; N behind it -/
def lpC (J : It) (g : TG) (vs : List Nat) (b : Bd) : Bd := fun σ H N => ∃ W : Nat → Nat → Hp → Prop, (∃ m, W 0 m H) ∧ ∀ i m H, W i m H →
  (J.stop i H ∧ N H) ∨ (J.go i H ∧ ∃ N1 : Hp → Prop, (∀ H', N1 H' → ∃ m', m' < m ∧ W (i + 1) m' H') ∧ ∀ x H', J.yld i H x H' → g x (wipe σ vs) H' fun σ2 hI => wipe σ2 vs = wipe σ vs ∧ b σ2 hI N1)
/-- a clause: its source, then its loop -/
def bCl (wi : TI) (g : TG) (vs : List Nat) (b : Bd) : Bd := fun σ H N => wi σ H fun J H1 => lpC J g vs b σ H1 N
def tLc3 (wi0 : TI) (g0 : TG) (vs0 : List Nat) (wi1 : TI) (g1 : TG) (vs1 : List Nat) (wi2 : TI) (g2 : TG) (vs2 : List Nat) (te : TE) : TE := fun σ H Q => wi0 σ H fun J H1 => ∀ D, H1 D = none → lpC J g0 vs0 (bCl wi1 g1 vs1 (bCl wi2 g2 vs2 (bApp D te))) σ (upd H1 D (.lst [])) (Q (.ref D))
section
variable {B : Cx} {elt t i : Expr} {gens : List Comprehension} {scope : Scope} {pos p0 : Pos} {d : Nat} {J : It} {fp : List Addr} {it D : Addr} {tn : Nat → Heap → Prop} {g : TG} {te : TE} {vs us : List Nat} {b : Bd} {pins : List (Addr × Obj)} {σ : L2.St} {H : Hp} {s : Shared} {N : Hp → Prop} {acc : Value}
theorem turn_end (T : Turn B.prog B.w B.K t J fp it tn) {j : Nat} {sV s' : Shared} {σ2 σ9 : L2.St} {H' : Hp} (tV : tn (j + 1) sV.heap) (hw : wipe σ2 vs = wipe σ vs) (hv : ∀ i ∈ us, i ∈ vs) (I' : Inv B (pins ++ pinsAt fp sV.heap) σ9 H' s') (hl : σ2.length = σ9.length) (hk : ∀ (j : Nat) v, j ∉ us → σ2[j]? = some (some v) → σ9[j]? = some (some v)) :
    Inv B pins (wipe σ vs) H' s' ∧ tn (j + 1) s'.heap ∧ ∀ b ∈ fp, H' b = none := by
  have keptP : ∀ b ∈ fp, ∀ o, sV.heap.get? b = some o → s'.heap.get? b = some o ∧ H' b = none := fun b hb o e =>
    let z := I'.pin (b, o) (List.mem_append_right _ (List.mem_append_right _ (mem_pinsAt hb e)))
    ⟨z.1, z.2.1⟩
  refine ⟨(I'.unpinned (pins := pins)).weak ?_ (fun j v e => ?_), T.keep _ _ _ tV fun b hb o e => (keptP b hb o e).1, fun b hb => ?_⟩
  · rw [← hw, wipe_length]
    exact hl
  · rw [← hw] at e
    obtain ⟨e1, e2⟩ := wipe_some e
    exact hk j v (fun z => e2 (hv j z)) e1
  · obtain ⟨o, e, _⟩ := T.obj _ _ tV b hb
    exact (keptP b hb o e).2
def LpPost (B : Cx) (pins : List (Addr × Obj)) (σ : L2.St) (N : Hp → Prop) : Result → Shared → Prop := fun r s' => r = .ok .next ∧ ∃ H', Inv B pins σ H' s' ∧ N H'
/-- the last clause's loop -/
theorem last_ok (hx : B.xe = fun _ _ => False) (hc : B.calm = true) (T : Turn B.prog B.w B.K t J fp it tn) (pg : PG B t g) (pe : PE B elt te)
    (heq : compTurn (.ListComp elt gens scope pos) d (.ref it) (.ref D) B.env = (do
      standAt p0
      match ← pyNext (.ref it) with
      | none => pure (.done .next)
      | some v =>
        letOwnedTupleGo t (.ref it) v
        assign t B.env v
        (do
          let y ← eval elt B.env
          let _ ← call (.builtin "list.append") [.ref D, y])
        again (.compLoop (.ListComp elt gens scope pos) d (.ref it) (.ref D) B.env)))
    (I : Inv B pins σ H s) (st : tn 0 s.heap) (nf : ∀ b ∈ fp, FpOk B pins H b) (h : lpC J g vs (bApp D te) σ H N) :
    codeAny (model B.prog B.w) B.A (.compLoop (.ListComp elt gens scope pos) d (.ref it) (.ref D) B.env) (LpPost B pins (wipe σ vs) N) s := by
  obtain ⟨W, ⟨mA, wA⟩, each⟩ := h
  have still : ∀ {H' : Hp}, (∀ b ∈ fp, H' b = none) → ∀ b ∈ fp, FpOk B pins H' b := fun hn b hb => ⟨hn b hb, (nf b hb).2⟩
  refine last_loop heq (fun n s' => ∃ i H', Inv B pins (wipe σ vs) H' s' ∧ tn i s'.heap ∧ (∀ b ∈ fp, H' b = none) ∧ W i n H') ?_ mA ⟨0, H, I.weak (wipe_length _ _) (fun j v e => (wipe_some e).1), st, fun b hb => (nf b hb).1, wA⟩
  rintro n sT ⟨i, hT, jT, tT, zT, wT⟩
  rcases each i n hT wT with ⟨stop, fin⟩ | ⟨go, Nxt, down, step⟩
  · refine thnF (T.done B rfl rfl rfl hc i pins sT _ hT (fun _ _ => False) jT (still zT) tT stop) fun r sU ⟨hr, jU⟩ => ?_
    subst hr
    exact ⟨rfl, hT, jU, fin⟩
  · refine thnF (T.item B rfl rfl rfl hc i pins sT _ hT (fun _ _ => False) jT (still zT) tT go) fun r sU ⟨u, hr, h6⟩ => ?_
    subst hr
    refine thnF h6 fun _ sV ⟨x, hV, jV, qV, yV, tV, zV⟩ => ?_
    have I7' := jV.pinned (still zV) (T.obj _ _ tV)
    have z1 := pg.run _ sV _ hV x u _ I7' qV (step x hV yV)
    rw [hx] at z1
    refine thnF z1 fun _ sW ⟨σ8, hW, jW, hw8, q8⟩ => ?_
    have z2 := pe.run _ sW σ8 hW _ jW q8
    rw [hx] at z2
    refine thnF z2 fun z sX ⟨yv, hX, jX, r9, acc, hD9, hz9, nx⟩ => ?_
    refine app_ok (X := B) jX hD9 hz9 r9 fun sY jY => ?_
    obtain ⟨m', hm, w'⟩ := down _ nx
    obtain ⟨e1, e2, e3⟩ := turn_end (us := []) T tV hw8 (fun _ h => by cases h) jY rfl fun _ _ _ e => e
    exact ⟨m', hm, i + 1, _, e1, e2, e3, w'⟩
/-- the loop of a clause with another one in it -/
theorem mid_ok (hx : B.xe = fun _ _ => False) (hc : B.calm = true) (T : Turn B.prog B.w B.K t J fp it tn) (pg : PG B t g) (hv : ∀ i ∈ us, i ∈ vs) (hs : ∀ x, foldedSetIterable i B.env x = pure x)
    (heq : compTurn (.ListComp elt gens scope pos) d (.ref it) (.ref D) B.env = (do
      standAt p0
      match ← pyNext (.ref it) with
      | none => pure (.done .next)
      | some v =>
        letOwnedTupleGo t (.ref it) v
        assign t B.env v
        let x ← eval i B.env
        standAt i.pos
        let x ← foldedSetIterable i B.env x
        let _ ← runOwn (.compStart (.ListComp elt gens scope pos) (d + 1) (← holding [x] (pyIter x)) (.ref D) B.env) B.env
        again (.compLoop (.ListComp elt gens scope pos) d (.ref it) (.ref D) B.env)))
    (hb : ∀ pins σ H s N, Inv B pins σ H s → b σ H N → wpAny (model B.prog B.w) B.A (eval i B.env) (fun x sB => wpAny (model B.prog B.w) B.A (pyIter x) (fun it1 sT =>
      codeAny (model B.prog B.w) B.A (.compStart (.ListComp elt gens scope pos) (d + 1) it1 (.ref D) B.env) (LpPost B pins (wipe σ us) N) sT) (fun _ _ => False) sB) (fun _ _ => False) s)
    (I : Inv B pins σ H s) (st : tn 0 s.heap) (nf : ∀ b ∈ fp, FpOk B pins H b) (h : lpC J g vs b σ H N) :
    codeAny (model B.prog B.w) B.A (.compLoop (.ListComp elt gens scope pos) d (.ref it) (.ref D) B.env) (LpPost B pins (wipe σ vs) N) s := by
  obtain ⟨W, ⟨mA, wA⟩, each⟩ := h
  have still : ∀ {H' : Hp}, (∀ b ∈ fp, H' b = none) → ∀ b ∈ fp, FpOk B pins H' b := fun hn b hb => ⟨hn b hb, (nf b hb).2⟩
  refine mid_loop heq hs (fun n s' => ∃ i H', Inv B pins (wipe σ vs) H' s' ∧ tn i s'.heap ∧ (∀ b ∈ fp, H' b = none) ∧ W i n H') ?_ mA ⟨0, H, I.weak (wipe_length _ _) (fun j v e => (wipe_some e).1), st, fun b hb => (nf b hb).1, wA⟩
  rintro n sT ⟨i, hT, jT, tT, zT, wT⟩
  rcases each i n hT wT with ⟨stop, fin⟩ | ⟨go, Nxt, down, step⟩
  · refine thnF (T.done B rfl rfl rfl hc i pins sT _ hT (fun _ _ => False) jT (still zT) tT stop) fun r sU ⟨hr, jU⟩ => ?_
    subst hr
    exact ⟨rfl, hT, jU, fin⟩
  · refine thnF (T.item B rfl rfl rfl hc i pins sT _ hT (fun _ _ => False) jT (still zT) tT go) fun r sU ⟨u, hr, h6⟩ => ?_
    subst hr
    refine thnF h6 fun _ sV ⟨x, hV, jV, qV, yV, tV, zV⟩ => ?_
    have I7' := jV.pinned (still zV) (T.obj _ _ tV)
    have z1 := pg.run _ sV _ hV x u _ I7' qV (step x hV yV)
    rw [hx] at z1
    refine thnF z1 fun _ sW ⟨σ8, hW, jW, hw8, q8⟩ => ?_
    refine thnF (hb _ σ8 hW sW Nxt jW q8) fun xv sX h9 => thnF h9 fun it1 sY h10 => ?_
    refine codeAny_mono h10 fun r sZ ⟨hr, hZ, jZ, nx⟩ => ?_
    subst hr
    obtain ⟨m', hm, w'⟩ := down _ nx
    obtain ⟨e1, e2, e3⟩ := turn_end (us := us) T tV hw8 hv jZ (wipe_length σ8 us).symm fun j v hj e => by
      rw [wipe_out hj]
      exact e
    exact ⟨m', hm, i + 1, _, e1, e2, e3, w'⟩
/-- a clause within a each: its source, then its loop -/
theorem cl_ok {wi : TI} (hx : B.xe = fun _ _ => False) (hi : PI B t i wi)
    (hst : ∀ it1 R s, codeAny (model B.prog B.w) B.A (.compLoop (.ListComp elt gens scope pos) d it1 (.ref D) B.env) R s → wpAny (model B.prog B.w) B.A (pyIter it1) (fun it' s' => codeAny (model B.prog B.w) B.A (.compLoop (.ListComp elt gens scope pos) d it' (.ref D) B.env) R s') (fun _ _ => False) s →
      codeAny (model B.prog B.w) B.A (.compStart (.ListComp elt gens scope pos) d it1 (.ref D) B.env) R s)
    (hl : ∀ (J : It) (fp : List Addr) (it : Addr) (tn : Nat → Heap → Prop) pins σ H s N, Turn B.prog B.w B.K t J fp it tn → Inv B pins σ H s → tn 0 s.heap → (∀ b ∈ fp, FpOk B pins H b) → lpC J g vs b σ H N → codeAny (model B.prog B.w) B.A (.compLoop (.ListComp elt gens scope pos) d (.ref it) (.ref D) B.env) (LpPost B pins (wipe σ vs) N) s)
    (pins : List (Addr × Obj)) (σ : L2.St) (H : Hp) (s : Shared) (N : Hp → Prop) (I : Inv B pins σ H s) (h : bCl wi g vs b σ H N) :
    wpAny (model B.prog B.w) B.A (eval i B.env) (fun x sB => wpAny (model B.prog B.w) B.A (pyIter x) (fun it1 sT => codeAny (model B.prog B.w) B.A (.compStart (.ListComp elt gens scope pos) d it1 (.ref D) B.env) (LpPost B pins (wipe σ vs) N) sT) (fun _ _ => False) sB) (fun _ _ => False) s := by
  have z := hi.run pins s σ H _ I h
  rw [hx] at z
  refine thnF z fun xv s1 h1 => thnF h1 fun itv sI h2 => ?_
  obtain ⟨it1, fp1, tn1, J1, hI, e1, jI, T1, tI, oI, q⟩ := h2
  subst e1
  have loop := hl J1 fp1 it1 tn1 pins σ hI sI N T1 jI tI oI q
  exact hst _ _ _ loop (T1.self B.A 0 _ _ _ tI loop)
end
/-! ### the rule -/
theorem wipe_fix {vs : List Nat} : ∀ {σ : L2.St}, (∀ i ∈ vs, i < σ.length → σ[i]? = some none) → wipe σ vs = σ := by
  induction vs with
  | nil => exact fun _ => rfl
  | cons i vs ih =>
    intro σ h
    have e : wipe σ vs = σ := ih fun j hj => h j (List.mem_cons_of_mem _ hj)
    show (wipe σ vs).set i none = σ
    rw [e]
    apply List.ext_getElem?
    intro j
    rw [List.getElem?_set]
    split
    · rename_i hij
      subst hij
      split
      · rename_i hl
        exact (h i List.mem_cons_self hl).symm
      · rename_i hl
        rw [List.getElem?_eq_none (by omega)]
    · rfl
theorem wipe_in {σ : L2.St} {i : Nat} : ∀ {vs : List Nat}, i ∈ vs → i < σ.length → (wipe σ vs)[i]? = some none
  | j :: vs, h, hl => by
    show ((wipe σ vs).set j none)[i]? = some none
    rw [List.getElem?_set]
    split
    · rw [wipe_length]
      rename_i hij
      subst hij
      rw [if_pos hl]
    · rename_i hij
      rcases List.mem_cons.mp h with e | h
      · exact absurd e.symm hij
      · exact wipe_in h hl
theorem wipe_idem {σ : L2.St} {vs : List Nat} : wipe (wipe σ vs) vs = wipe σ vs := wipe_fix fun i hi hl => wipe_in hi (by rw [wipe_length] at hl; exact hl)
section
variable {X : Cx} {elt t0 i0 t1 i1 t2 i2 : Expr} {scope : Scope} {own : List (Str × Nat)} {vs1 vs2 : List Nat} {pos : Pos} {wi0 wi1 wi2 : TI} {g0 g1 g2 : TG} {te : TE}
theorem pe_lc3 (hc : X.calm = true) (hN : X.N.Nodup) (hi : PI X t0 i0 wi0) (ok : BlkOk X.N X.env.scope scope own) (hv1 : ∀ i ∈ vs1, i ∈ own.map (·.2)) (hv2 : ∀ i ∈ vs2, i ∈ vs1)
    (hg0 : ∀ (s : Shared) (H : Hp) (C : Addr) (cl : List (Str × Addr)) (fp : List Addr), PG (X.blk s H scope (compEnvC scope cl C X.env) fp) t0 g0)
    (hi1 : ∀ (s : Shared) (H : Hp) (C : Addr) (cl : List (Str × Addr)) (fp : List Addr), PI (X.blk s H scope (compEnvC scope cl C X.env) fp) t1 i1 wi1)
    (hg1 : ∀ (s : Shared) (H : Hp) (C : Addr) (cl : List (Str × Addr)) (fp : List Addr), PG (X.blk s H scope (compEnvC scope cl C X.env) fp) t1 g1)
    (hi2 : ∀ (s : Shared) (H : Hp) (C : Addr) (cl : List (Str × Addr)) (fp : List Addr), PI (X.blk s H scope (compEnvC scope cl C X.env) fp) t2 i2 wi2)
    (hg2 : ∀ (s : Shared) (H : Hp) (C : Addr) (cl : List (Str × Addr)) (fp : List Addr), PG (X.blk s H scope (compEnvC scope cl C X.env) fp) t2 g2)
    (he : ∀ (s : Shared) (H : Hp) (C : Addr) (cl : List (Str × Addr)) (fp : List Addr), PE (X.blk s H scope (compEnvC scope cl C X.env) fp) elt te)
    (hs0 : ∀ x, foldedSetIterable i0 X.env x = pure x := by intro _; rfl) (hs1 : ∀ env x, foldedSetIterable i1 env x = pure x := by intro _ _; rfl) (hs2 : ∀ env x, foldedSetIterable i2 env x = pure x := by intro _ _; rfl) :
    PE X (cmp3 elt t0 i0 t1 i1 t2 i2 scope pos) (tLc3 wi0 g0 (own.map (·.2)) wi1 g1 vs1 wi2 g2 vs2 te) := by
  refine ⟨fun pins s σ H Q I h => ?_⟩
  rw [eval_ListComp]
  have caught : ∀ y ∈ scope.names, y.2 = .free → ∃ c, X.env.cells.lookup y.1 = some c := fun y hy e => by
    rcases ok.free y hy e with k | k
    · exact I.ok.has _ (.inl k)
    · exact I.ok.has _ (.inr k)
  refine wpAny_comprehension_free (use := none) rfl hs0 (closure_ok caught) ok.kind (fun y hy e => by rw [ok.uniq y hy, e])
    (thn (hi.run pins s σ H _ I h) fun xv s1 hx => thn hx fun itv sI h2 => ?_)
  obtain ⟨it, fp, tn, J, hI, e, jI, T, tI, oI, q⟩ := h2
  subst e
  refine wpAny_newObj_type (newEnv_comp ?_) (by show 0 ≤ sizeLine; decide)
  generalize hD : sI.heap.objs.size = D
  have noD : hI D = none := jI.hok.fresh (Nat.le_of_eq hD)
  have lp := q D noD
  generalize hs3 : ({ sI with heap := sI.heap.push { cls := .type "list", data := .seq ([] : List Value).toArray } } : Shared) = sL
  have jL : Inv X pins σ (upd hI D (.lst [])) sL := by
    rw [← hs3]
    refine jI.laid (t' := sI.toks) (fun b o e => Heap.get?_push_of_some _ e) (Nat.le_of_eq hD) ⟨Nat.zero_le _, [], 0, .nil, ?_⟩
    rw [← hD]
    exact Heap.get?_push_size _ rfl
  have h3 : sL.heap = sI.heap.push { cls := .type "list", data := .seq ([] : List Value).toArray } := by rw [← hs3]
  have oL : ∀ b ∈ fp, FpOk X pins (upd hI D (.lst [])) b ∧ b < sL.heap.objs.size := fun b hb => by
    obtain ⟨o, e, _⟩ := T.obj _ _ tI b hb
    have hlt := Heap.lt_size e
    refine ⟨⟨?_, (oI b hb).2⟩, by rw [h3, Heap.size_push]; exact Nat.lt_succ_of_lt hlt⟩
    rw [upd_ne (by rw [← hD]; exact Nat.ne_of_lt hlt)]
    exact (oI b hb).1
  have tL : tn 0 sL.heap := T.keep _ _ _ tI fun b _ o e => by rw [h3]; exact Heap.get?_push_of_some _ e
  have jB := block_start jL ok hN oL
  have pg0 := hg0 sL (upd hI D (.lst [])) sL.heap.objs.size (cellsFrom (sL.heap.objs.size + 1) scope.names (cloFrom X.env.cells scope.names [])) fp
  have pi1 := hi1 sL (upd hI D (.lst [])) sL.heap.objs.size (cellsFrom (sL.heap.objs.size + 1) scope.names (cloFrom X.env.cells scope.names [])) fp
  have pg1 := hg1 sL (upd hI D (.lst [])) sL.heap.objs.size (cellsFrom (sL.heap.objs.size + 1) scope.names (cloFrom X.env.cells scope.names [])) fp
  have pi2 := hi2 sL (upd hI D (.lst [])) sL.heap.objs.size (cellsFrom (sL.heap.objs.size + 1) scope.names (cloFrom X.env.cells scope.names [])) fp
  have pg2 := hg2 sL (upd hI D (.lst [])) sL.heap.objs.size (cellsFrom (sL.heap.objs.size + 1) scope.names (cloFrom X.env.cells scope.names [])) fp
  have pe := he sL (upd hI D (.lst [])) sL.heap.objs.size (cellsFrom (sL.heap.objs.size + 1) scope.names (cloFrom X.env.cells scope.names [])) fp
  show codeAny _ _ (.compStart (cmp3 elt t0 i0 t1 i1 t2 i2 scope pos) 0 (.ref it) (.ref D) (compEnvC scope (cellsFrom (sL.heap.objs.size + 1) scope.names (cloFrom X.env.cells scope.names [])) sL.heap.objs.size X.env)) (compPost (model X.prog X.w) X.A X.xe none (EP X pins σ Q) (.ref D) sL.heap.objs.size) { sL with heap := pushCells (sL.heap.push { cls := .type "dict", data := .dict #[] }) scope.names }
  generalize hce : compEnvC scope (cellsFrom (sL.heap.objs.size + 1) scope.names (cloFrom X.env.cells scope.names [])) sL.heap.objs.size X.env = ce at jB pg0 pi1 pg1 pi2 pg2 pe ⊢
  have locB : ce.locals = sL.heap.objs.size := by subst hce; rfl
  generalize hH3 : upd hI D (.lst []) = hL at jL jB pg0 pi1 pg1 pi2 pg2 pe lp oL
  generalize hs4 : ({ sL with heap := pushCells (sL.heap.push { cls := .type "dict", data := .dict #[] }) scope.names } : Shared) = sB at jB ⊢
  have tB : tn 0 sB.heap := T.keep _ _ _ tL fun b _ o e => by rw [← hs4]; exact pushCells_keeps _ _ _ _ (Heap.get?_push_of_some _ e)
  have oB : ∀ b ∈ fp, FpOk (X.blk sL hL scope ce fp) [] hL b := fun b hb =>
    ⟨(oL b hb).1.1, (jB.ok.exf b hb).1, jB.ok.exfs b hb, .inl hb, fun x c e => (jB.ok.exf b hb).2 x c e, fun p hp => absurd (show p ∈ ([] : List (Addr × Obj)) ++ [] from hp) (by simp)⟩
  have loop0 : codeAny (model X.prog X.w) X.A (.compLoop (cmp3 elt t0 i0 t1 i1 t2 i2 scope pos) 0 (.ref it) (.ref D) ce) (LpPost (X.blk sL hL scope ce fp) [] (wipe (wipe σ (own.map (·.2))) (own.map (·.2))) (Q (.ref D))) sB := by
    refine mid_ok (B := X.blk sL hL scope ce fp) (us := vs1) (p0 := i0.pos) (i := i1) rfl hc T pg0 hv1 (hs1 ce) turn_zero ?_ jB tB oB (b := bCl wi1 g1 vs1 (bCl wi2 g2 vs2 (bApp D te))) ?_
    · refine cl_ok (B := X.blk sL hL scope ce fp) (t := t1) rfl pi1 (fun it1 R s => start_any (g := ⟨t1, i1, [], 0⟩) rfl rfl) fun J1 fp1 it1 tn1 pins1 σ1 H1 s1 N1 T1 J2 st1 nf1 hl1 => ?_
      refine mid_ok (B := X.blk sL hL scope ce fp) (us := vs2) (p0 := i1.pos) (i := i2) rfl hc T1 pg1 hv2 (hs2 ce) turn_one ?_ J2 st1 nf1 hl1
      exact cl_ok (B := X.blk sL hL scope ce fp) (t := t2) rfl pi2 (fun it1 R s => start_any (g := ⟨t2, i2, [], 0⟩) rfl rfl) fun J3 fp3 it3 tn3 pins3 σ3 H3' s3' N3 T3 I33 st33 nf33 hl3 => last_ok (B := X.blk sL hL scope ce fp) (p0 := i2.pos) rfl hc T3 pg2 pe turn_two I33 st33 nf33 hl3
    · have z : wipe (wipe σ (own.map (·.2))) (own.map (·.2)) = wipe σ (own.map (·.2)) := wipe_idem
      unfold lpC
      rw [z]
      exact lp
  have loop : codeAny (model X.prog X.w) X.A (.compLoop (cmp3 elt t0 i0 t1 i1 t2 i2 scope pos) 0 (.ref it) (.ref D) ce) (compPost (model X.prog X.w) X.A X.xe none (EP X pins σ Q) (.ref D) sL.heap.objs.size) sB := by
    refine codeAny_mono loop0 fun r sU ⟨hr, hU, jU, fin⟩ => ?_
    subst hr
    have jV : Inv X pins σ hU sU := jL.call' (ch := fp) jU.os jU.base jU.hok jU.bare fun b hb => ⟨(oL b hb).1.2.2.2.1, (oL b hb).1.2.1, (oL b hb).1.2.2.2.2.1, (oL b hb).1.2.2.2.2.2⟩
    have noC : hU sL.heap.objs.size = none := by
      have z : hU ce.locals = none := jU.free
      rw [locB] at z
      exact z
    obtain ⟨m, hn, _⟩ := jU.loc
    have hn : sU.heap.Ns ce.locals m := hn
    rw [locB] at hn
    refine ⟨m, hn, fun h'' sb => ?_⟩
    obtain ⟨f0, f1, oI, oL, f4, f5⟩ := jL.fpOk (H' := hU) (Nat.le_refl _) noC
    exact ⟨.ref D, hU, jV.turned (t' := sU.toks) (fun b o hb e => (sb.2 b hb).trans e) f0 f1 oL f4 f5, rfl, fin⟩
  exact codeAny_compStart_list loop (T.self X.A 0 _ _ _ tB loop)
end
end Vc
/-! What comprehensions of several clauses give. -/
namespace Vc
open PySem PySem.Spec PyProof.Rows L2 Vm
theorem lp_it {J : It} {n : Nat} {Gd : Hp → Prop} {Y : Nat → Hp → V → Hp → Prop} (w : Walk J n Gd Y) {g : TG} {vs : List Nat} {b : Bd} {σ : L2.St} {H : Hp} {N : Hp → Prop} (Pv : Nat → Hp → Prop) (h0 : Pv 0 H) (hG : ∀ i H, i ≤ n → Pv i H → Gd H)
    (hs : ∀ i x H H', i < n → Pv i H → Y i H x H' → g x (wipe σ vs) H' fun σ2 H2 => wipe σ2 vs = wipe σ vs ∧ b σ2 H2 (Pv (i + 1))) (hd : ∀ H, Pv n H → N H) : lpC J g vs b σ H N := by
  refine ⟨fun i m H => m = n - i ∧ i ≤ n ∧ Pv i H, ⟨n, by simp, Nat.zero_le _, h0⟩, ?_⟩
  rintro i m H ⟨rfl, hi, p⟩
  have q := hG i H hi p
  by_cases hlt : i < n
  · exact .inr ⟨w.goes i H hlt q, Pv (i + 1), fun H' p' => ⟨n - (i + 1), by omega, rfl, hlt, p'⟩, fun x H' y => hs i x H H' hlt p (w.yields i H x H' hlt q y)⟩
  · have e : i = n := by omega
    subst e
    exact .inl ⟨w.stops H q, hd H p⟩
/-- b appends what f stands for -/
def BdE {γ : Type} (b : Addr → Bd) (σ : L2.St) (G : Hp) (r : γ → Rp) (f : List γ) : Prop := ∀ (D : Addr) (H0 G0 H G' : Hp) (xs : List γ) (N : Hp → Prop), H0 D = none → Step H0 G0 H G' → Ex G G' → Acc r D xs H G' → xs.length + f.length ≤ 1000000 →
  (∀ H' G'', Step H0 G0 H' G'' → Ex G' G'' → Acc r D (xs ++ f) H' G'' → N H') → b D σ H N
section
variable {γ β : Type} {r : γ → Rp} [∀ x, Mo (r x)] {r0 : β → Rp} [∀ x, Mo (r0 x)] {σ : L2.St} {G : Hp} {te : TE} {wi : TI} {j : Nat} {vs : List Nat} {b : Addr → Bd} {ys : List β} {f : β → List γ}
theorem bdE_app {z : γ} (h : Ev te σ G (r z)) : BdE (fun D => bApp D te) σ G r [z] := fun D H0 G0 H G' xs N h0 st e A hl k => by
  refine h.mono e H st.gh _ fun v H1 G1 s1 hv => ?_
  obtain ⟨us, h1, h2, h3⟩ := A.step s1
  have hlen : us.length < sizeLine := by
    rw [paired_len h3]
    rw [List.length_singleton] at hl
    exact Nat.lt_of_lt_of_le (show _ < 1000001 by omega) (by decide)
  exact ⟨us, h1, hlen, k _ G1 ((st.then s1).mut h0 h2) s1.gg ⟨_, upd_same, h2, paired_snoc h3 hv⟩⟩
theorem lp_ok (w : Wk wi (gName j) σ G ys (S1 r0 j)) (hw : ∀ v, wipe ((wipe σ vs).set j (some v)) vs = wipe σ vs) (hb : ∀ y v G1, y ∈ ys → Ex G G1 → r0 y G1 v → BdE b ((wipe σ vs).set j (some v)) G1 r (f y)) : BdE (fun D => bCl wi (gName j) vs (b D)) σ G r (ys.flatMap f) :=
  fun D H0 G0 H G' xs N h0 st e A hl k => w H (e.trans st.gh) _ fun J H1 G1 Gd Y s1 wJ hGd turn => by
    obtain ⟨s2, e2⟩ := Step.un e st.gh s1
    have st2 := st.trans s2
    have A2 := A.step s2
    refine lp_it wJ (fun i H' => ∃ G'', Step H0 G0 H' G'' ∧ Ex (un G' G1 H1) G'' ∧ Acc r D (xs ++ (ys.take i).flatMap f) H' G'') ⟨_, st2, Ex.refl _, by rw [List.take_zero, List.flatMap_nil, List.append_nil]; exact A2⟩ (fun i H' _ ⟨G2, s3, e3, _⟩ => hGd H' ((e2.trans e3).trans s3.gh)) ?_ ?_
    · rintro i x Ha Hb hi ⟨G2, s3, e3, A3⟩ hY
      have hyi : ys[i]? = some ys[i] := List.getElem?_eq_getElem hi
      refine turn i ys[i] x _ Ha Hb hyi ((e2.trans e3).trans s3.gh) hY _ fun σ2 Hc ec ⟨v, hv, hσ⟩ => ?_
      rw [hσ]
      refine ⟨hw v, ?_⟩
      have etake : (ys.take (i + 1)).flatMap f = (ys.take i).flatMap f ++ f ys[i] := by
        rw [List.take_succ, hyi, List.flatMap_append]
        show _ ++ (f ys[i] ++ []) = _
        rw [List.append_nil]
      have hlen : (xs ++ (ys.take i).flatMap f).length + (f ys[i]).length ≤ 1000000 := by
        have h1 : (ys.take (i + 1)).flatMap f ++ (ys.drop (i + 1)).flatMap f = ys.flatMap f := by rw [← List.flatMap_append, List.take_append_drop]
        have h2 := congrArg List.length h1
        rw [etake, List.length_append, List.length_append] at h2
        rw [List.length_append]
        omega
      refine hb ys[i] v G1 (List.getElem_mem hi) s1.gg hv D H0 G0 Hc G2 _ _ h0 (s3.then (StepM.of_ex s3.gh ec)) (e2.trans e3) (A3.ex ec) hlen fun H' G3 s4 e4 A4 => ⟨G3, s4, e3.trans e4, ?_⟩
      rw [etake, ← List.append_assoc]
      exact A4
    · rintro H' ⟨G2, s3, e3, A3⟩
      rw [List.take_length] at A3
      exact k H' G2 s3 (s2.gg.trans e3) A3
def tLcN (wi : TI) (g : TG) (vs : List Nat) (b : Addr → Bd) : TE := fun σ H Q => wi σ H fun J H1 => ∀ D, H1 D = none → lpC J g vs (b D) σ (upd H1 D (.lst [])) (Q (.ref D))
theorem ev_lcN (w : Wk wi (gName j) σ G ys (S1 r0 j)) (hw : ∀ v, wipe ((wipe σ vs).set j (some v)) vs = wipe σ vs) (hb : ∀ y v G1, y ∈ ys → Ex G G1 → r0 y G1 v → BdE b ((wipe σ vs).set j (some v)) G1 r (f y)) (hl : (ys.flatMap f).length ≤ 1000000) : Ev (tLcN wi (gName j) vs b) σ G (rL r (ys.flatMap f)) :=
  fun H e Q q => w H e _ fun J H1 G1 Gd Y s1 wJ hGd turn D hD => by
    have gD : G1 D = none := s1.gh.dom hD
    refine lp_it wJ (fun i H' => ∃ G'', Step H1 G1 H' G'' ∧ Acc r D ((ys.take i).flatMap f) H' G'') ⟨G1, (StepM.refl s1.gh).mut hD gD, ⟨[], upd_same, gD, .nil⟩⟩ (fun i H' _ ⟨G2, s3, _⟩ => hGd H' (s3.gg.trans s3.gh)) ?_ ?_
    · rintro i x Ha Hb hi ⟨G2, s3, A3⟩ hY
      have hyi : ys[i]? = some ys[i] := List.getElem?_eq_getElem hi
      refine turn i ys[i] x _ Ha Hb hyi (s3.gg.trans s3.gh) hY _ fun σ2 Hc ec ⟨v, hv, hσ⟩ => ?_
      rw [hσ]
      refine ⟨hw v, ?_⟩
      have etake : (ys.take (i + 1)).flatMap f = (ys.take i).flatMap f ++ f ys[i] := by
        rw [List.take_succ, hyi, List.flatMap_append]
        show _ ++ (f ys[i] ++ []) = _
        rw [List.append_nil]
      have hlen : ((ys.take i).flatMap f).length + (f ys[i]).length ≤ 1000000 := by
        have h1 : (ys.take (i + 1)).flatMap f ++ (ys.drop (i + 1)).flatMap f = ys.flatMap f := by rw [← List.flatMap_append, List.take_append_drop]
        have h2 := congrArg List.length h1
        rw [etake, List.length_append, List.length_append] at h2
        omega
      refine hb ys[i] v G1 (List.getElem_mem hi) s1.gg hv D H1 G1 Hc G2 _ _ hD (s3.then (StepM.of_ex s3.gh ec)) s3.gg (A3.ex ec) hlen fun H' G3 s4 e4 A4 => ⟨G3, s4, ?_⟩
      rw [etake]
      exact A4
    · rintro H' ⟨G2, s3, A3⟩
      rw [List.take_length] at A3
      obtain ⟨us, s4, _, h4, _⟩ := A3.done s3 hD
      exact q _ H' _ (s1.trans s4) h4
end
section
variable {γ β δ : Type} {r : γ → Rp} [∀ x, Mo (r x)] {r0 : β → Rp} [∀ x, Mo (r0 x)] {σ : L2.St} {G : Hp} {te : TE} {wi wi1 : TI} {g1 : TG} {j : Nat} {vs vs1 : List Nat} {ys : List β}
theorem lc2_of {g : TG} {H : Hp} {Q : VK} (h : tLcN wi g vs (fun D => bCl wi1 g1 vs1 (bApp D te)) σ H Q) : tLc2 wi g tYes wi1 g1 tYes te vs vs1 σ H Q := h
end
end Vc
namespace Vm
def flat1 (row : List Int) : List Int := row.flatMap fun n => [n]
def flat2 (t : List (List Int)) : List Int := t.flatMap flat1
def flat3 (b : List (List (List Int))) : List Int := b.flatMap flat2
theorem flatMap_len {α β : Type} (f : α → List β) (k : Nat) : ∀ l : List α, (∀ x ∈ l, (f x).length = k) → (l.flatMap f).length = l.length * k
  | [], _ => by simp
  | a :: l, h => by
    rw [List.flatMap_cons, List.length_append, h a List.mem_cons_self, flatMap_len f k l fun x hx => h x (List.mem_cons_of_mem _ hx), List.length_cons, Nat.succ_mul]
    omega
theorem flat1_len (row : List Int) : (flat1 row).length = row.length := by
  unfold flat1
  rw [flatMap_len _ 1 row fun _ _ => rfl, Nat.mul_one]
theorem flat2_len {t : List (List Int)} {r c : Nat} (h : Rect t r c) : (flat2 t).length = r * c := by
  unfold flat2
  rw [flatMap_len flat1 c t fun row hr => by rw [flat1_len, h.2 row hr], h.1]
theorem flat3_len {b : List (List (List Int))} {k r c : Nat} (h : Box b k r c) : (flat3 b).length = k * r * c := by
  unfold flat3
  rw [flatMap_len flat2 (r * c) b fun t ht => flat2_len (h.2 t ht), h.1, Nat.mul_assoc]
theorem mul3_le {a b c x y z : Nat} (h1 : a ≤ x) (h2 : b ≤ y) (h3 : c ≤ z) : a * b * c ≤ x * y * z := Nat.mul_le_mul (Nat.mul_le_mul h1 h2) h3
theorem ssz_le {m rows : Nat} (sm : Sm m rows) (lot : List Nat) : ssz m lot rows ≤ 161 := by
  have h1 := sm.m4
  have h2 := sm.r5
  have h3 := outs_le m lot
  unfold ssz
  have a := mul3_le (show m - (outs m lot).length ≤ 4 by omega) h2 (show (outs m lot).length - 1 ≤ 4 by omega)
  have b := mul3_le (show (outs m lot).length ≤ 4 by omega) h2 (show m - 1 ≤ 4 by omega)
  omega
theorem sum_ssz_le {m rows : Nat} (sm : Sm m rows) : ∀ fam : List (List Nat), (fam.map fun l => ssz m l rows).sum ≤ 161 * fam.length
  | [] => by simp
  | a :: l => by
    have h1 := ssz_le sm a
    have h2 := sum_ssz_le sm l
    simp only [List.map_cons, List.sum_cons, List.length_cons]
    omega
theorem szF_le {m rows : Nat} (sm : Sm m rows) (fam : List (List Nat)) : szF m fam rows ≤ 20 + 161 * fam.length := by
  have h1 := sum_ssz_le sm fam
  have h2 := Nat.mul_le_mul sm.r5 (show m - 1 ≤ 4 by have := sm.m4; omega)
  unfold szF
  omega
theorem SCsOk.len {m R : Nat} : ∀ {ls : List (List Nat)} {cs : List SC}, SCsOk m R ls cs → ls.length = cs.length
  | _, _, .nil => rfl
  | _, _, .cons _ _ t => congrArg Nat.succ t.len
theorem SCsOk.get {m R : Nat} : ∀ {ls : List (List Nat)} {cs : List SC} {i : Nat} {c : SC}, SCsOk m R ls cs → cs[i]? = some c → ∃ l, ls[i]? = some l ∧ SCok m R (outs m l) c ∧ 1 ≤ (outs m l).length
  | _, _, i, _, .nil, h => by simp at h
  | _, _, 0, _, .cons (l := l) h h1 _, e => by
    simp at e
    subst e
    exact ⟨l, rfl, h, h1⟩
  | _, _, i + 1, _, .cons _ _ t, e => by
    obtain ⟨l, h1, h2⟩ := t.get (i := i) (by simpa using e)
    exact ⟨l, by simpa using h1, h2⟩
end Vm
namespace Vc
open PySem PySem.Spec PyProof.Rows L2 Vm
section
variable {σ : L2.St} {H H0 G G0 : Hp} {te : TE} {D : Ends} {tz : TS} {K : PySem.W.Frag} {p : Addr} {M : List Addr} {α : Type} {q : α → Rp} [∀ x, Mo (q x)] {zs : List α} {j : Nat} {W : α → Hp → Hp → Prop}
theorem q_appM (st : StepM M H0 G0 H G) (h0 : H0 p = none) (hM : p ∉ M) (hσ : σ[j]? = some (some (.ref p))) (A : Acc q p zs H G) (hl : zs.length ≤ 1000000)
    (h : EvM M te σ H G (fun v H' G' => ∃ z, q z G' v ∧ W z H' G'))
    (k : ∀ z H1 G1 o, W z H1 G1 → StepM M H G H1 G1 → StepM M H0 G0 (upd H1 p o) G1 → Acc q p (zs ++ [z]) (upd H1 p o) G1 → tz D σ (upd H1 p o)) : tSeq (tDrop (tBM K "list" rAppend (tVar j) (tCons te tNil))) tz D σ H :=
  s_appM (D := { D with nx := tz D }) st h0 hM hσ A hl h k
/-- a new list of ints, that may grow -/
theorem accInts {ns : List Int} {G1 H1 : Hp} (e : Ex G H) (hn : H p = none) (s : Step H G H1 G1) (h : rInts ns G1 (.ref p)) : Acc rInt p ns H1 G := by
  obtain ⟨a, e1, h2⟩ := rL_ints h
  cases e1
  exact ⟨_, s.gh.l h2, e.dom hn, paired_of_ints G ns⟩
end
section
variable {P : Program} {w : World} {K : PySem.W.Frag} {mg : Str → Option Value} {base : Heap}
/-! flat -/
def spFlat (K : PySem.W.Frag) : Sp := fun vs H Q E => ∃ (m rows : Nat) (fam : List (List Nat)) (c : RC), Sm m rows ∧ fam.length ≤ 1000 ∧ CoOk m rows fam c ∧ spOf [rRC K c] (rE (fun xs : List Int => xs.length = szF m fam rows) rInts) vs H Q E
theorem sc_flat : FnScope ["coins", "numbers", "stage", "row", "number", "rows"] ["coins"] (defScope s_flat) := ⟨rfl, rfl, rfl, by decide +kernel, rfl, by decide +kernel, by decide +kernel⟩
theorem ok_flat (T : Tx K mg) : Cal P w K mg base "flat" 4 ["coins"] (spFlat K) := by
  have c_order_number := ok_order_number (P := P) (w := w) (base := base) T
  refine T.k_flat.cal sc_flat (fun vs H Q E ⟨_, _, _, _, _, _, _, h⟩ => spOf_len h) fun f cdv A outer s H vs Q E hr h => ⟨_, (pss_cons (ps_setLc2 (i := 1) (own := [("row", 3), ("number", 4)]) (vs1 := [4]) (g := gName 3) (g1 := gName 4) (tt := tYes) (tt1 := tYes) rfl sc_flat.nd rfl rfl (sw_true rfl rfl rfl (by decide +kernel)) (itL K (fldK K (pv 0) rfl)) (blkOk_by (N := ["coins", "numbers", "stage", "row", "number", "rows"]) (sc := defScope s_flat) (by decide +kernel)) (by decide) (fun _ _ _ _ _ => pg_name (i := 3) sc_flat.nd rfl (Or.inl rfl)) (fun _ _ _ _ _ => pts_nil) (fun _ _ _ _ _ => (itL K (pv 3))) (fun _ _ _ _ _ => pg_name (i := 4) sc_flat.nd rfl (Or.inl rfl)) (fun _ _ _ _ _ => pts_nil) (fun _ _ _ _ _ => (pv 4)))
        (pss_cons (ps_for PassesOwn.never rfl (itL K (fldK K (pv 0) rfl)) (pg_name (i := 2) sc_flat.nd rfl (Or.inl rfl))
          (pss_cons (ps_set (i := 1) sc_flat.nd rfl (Or.inl rfl) (pe_op op_cat (pv 1) (pe_lc3 (own := [("rows", 5), ("row", 3), ("number", 4)]) (vs1 := [3, 4]) (vs2 := [4]) (g0 := gName 5) (g1 := gName 3) (g2 := gName 4) rfl sc_flat.nd (itL K (fldK K (pv 2) rfl)) (blkOk_by (N := ["coins", "numbers", "stage", "row", "number", "rows"]) (sc := defScope s_flat) (by decide +kernel)) (by decide) (by decide) (fun _ _ _ _ _ => pg_name (i := 5) sc_flat.nd rfl (Or.inl rfl)) (fun _ _ _ _ _ => (itL K (pv 5))) (fun _ _ _ _ _ => pg_name (i := 3) sc_flat.nd rfl (Or.inl rfl)) (fun _ _ _ _ _ => (itL K (pv 3))) (fun _ _ _ _ _ => pg_name (i := 4) sc_flat.nd rfl (Or.inl rfl)) (fun _ _ _ _ _ => (pv 4)))))
          (pss_cons (ps_expr (bmK K (pe_bm PySem.F.plainAttrs_list PySem.F.slot_list_append PySem.F.type_list_append mt_append (pv 1) (pa_cons (pe_cal c_order_number hr rfl (pa_cons (fldK K (pv 2) rfl) pa_nil)) pa_nil))))
          (pss_one (ps_set (i := 1) sc_flat.nd rfl (Or.inl rfl) (pe_op op_cat (pv 1) (pe_lc3 (own := [("rows", 5), ("row", 3), ("number", 4)]) (vs1 := [3, 4]) (vs2 := [4]) (g0 := gName 5) (g1 := gName 3) (g2 := gName 4) rfl sc_flat.nd (itL K (fldK K (pv 2) rfl)) (blkOk_by (N := ["coins", "numbers", "stage", "row", "number", "rows"]) (sc := defScope s_flat) (by decide +kernel)) (by decide) (by decide) (fun _ _ _ _ _ => pg_name (i := 5) sc_flat.nd rfl (Or.inl rfl)) (fun _ _ _ _ _ => (itL K (pv 5))) (fun _ _ _ _ _ => pg_name (i := 3) sc_flat.nd rfl (Or.inl rfl)) (fun _ _ _ _ _ => (itL K (pv 3))) (fun _ _ _ _ _ => pg_name (i := 4) sc_flat.nd rfl (Or.inl rfl)) (fun _ _ _ _ _ => (pv 4)))))))))
        (pss_one (ps_ret (pv 1))))), ?_⟩
  obtain ⟨m, rows, fam, c, sm, hfl, hc, G, e, ha, k⟩ := h
  obtain ⟨u, rfl, hu⟩ := pr_one ha
  have hm := sm.m4
  have hR := sm.r5
  have hsz := szF_le sm fam
  have hv2 := flat2_len hc.1
  have hvl : rows * (m - 1) ≤ szF m fam rows := by unfold szF; omega
  refine q_set (r := rInts (flat2 c.votes)) (ev_lcN (j := 3) (vs := [3, 4]) (f := flat1) (wk_list (r := rInts) (ys := c.votes) (ev_fld (ev_var rfl hu) T.c_RunCoins T.n_RunCoins_votes (look_ns nsRC 0 rfl))) (fun _ => rfl)
    (fun row v G1 hrow e1 hv => lp_ok (j := 4) (wk_list (r := rInt) (ys := row) (ev_var rfl hv)) (fun _ => rfl) fun n v G2 hn e2 hv => bdE_app (ev_var rfl hv)) (by show (flat2 c.votes).length ≤ _; rw [hv2]; omega)) e fun v1 H1 G1 s1 hv1 => ?_
  refine q_for1 (r0 := rSC K) s1 (wk_list (r := rSC K) (ys := c.stages) (ev_fld (ev_var rfl (Mo.mo s1.gg hu)) T.c_RunCoins T.n_RunCoins_stages (look_ns nsRC 1 rfl))) (fun i σ' H' G' => ∃ w2 x2 xs, σ' = [some u, some w2, x2, none, none, none] ∧ rInts xs G' w2 ∧ xs.length = rows * (m - 1) + ((fam.take i).map fun l => ssz m l rows).sum) ?_ ?_ ?_
  · exact fun H2 G2 s2 => ⟨v1, none, _, rfl, Mo.mo s2.gg hv1, by rw [hv2]; simp⟩
  · rintro i sc σ' v Ha Hb G' Gs hi s2 e1 e2 e3 hsc ⟨w2, x2, xs, rfl, hw2, hxl⟩
    obtain ⟨l, hl, hok, h1⟩ := hc.2.get hi
    have hs1 := sum_take_succ (fun l => ssz m l rows) hl
    have hs2 := sum_take_le (fun l => ssz m l rows) fam (i + 1)
    have hcnt := outs_count m l
    have hle := outs_le m l
    have hg3 := flat3_len hok.g
    have hp3 := flat3_len hok.s
    have hssz : ssz m l rows = (flat3 sc.gather).length + 1 + (flat3 sc.spread).length := by
      rw [hg3, hp3]
      unfold ssz
      have : m - (outs m l).length = (outs m (outs m l)).length := by omega
      rw [this]
    have htot : xs.length + ssz m l rows ≤ 1000000 := by
      have hz : szF m fam rows = rows * (m - 1) + (fam.map fun l => ssz m l rows).sum := rfl
      omega
    have ol : sc.order.length = rows := by
      have := hok.o.length_eq
      rw [List.length_range] at this
      exact this
    have ord : Ord sc.order := ⟨by rw [ol]; exact hok.o, by omega⟩
    have ev3 : ∀ (b : List (List (List Int))) (te : TE) (σ : L2.St) (G : Hp), σ.length = 6 → Ev te σ G (rBox b) → (flat3 b).length ≤ 1000000 → Ev (tLc3 (iList K te) (gName 5) [5, 3, 4] (iList K (tVar 5)) (gName 3) [3, 4] (iList K (tVar 3)) (gName 4) [4] (tVar 4)) σ G (rInts (flat3 b)) := fun b te σ G hσ hb hl => by
      match σ, hσ with
      | [a0, a1, a2, a3, a4, a5], _ =>
        exact ev_lcN (j := 5) (vs := [5, 3, 4]) (f := flat2) (b := fun D => bCl (iList K (tVar 5)) (gName 3) [3, 4] (bCl (iList K (tVar 3)) (gName 4) [4] (bApp D (tVar 4)))) (wk_list (r := rTab) (ys := b) hb) (fun _ => rfl)
          (fun t v G1 ht e1 hv => lp_ok (j := 3) (f := flat1) (b := fun D => bCl (iList K (tVar 3)) (gName 4) [4] (bApp D (tVar 4))) (wk_list (r := rInts) (ys := t) (ev_var rfl hv)) (fun _ => rfl) fun row v G2 hr e2 hv => lp_ok (j := 4) (f := fun n => [n]) (wk_list (r := rInt) (ys := row) (ev_var rfl hv)) (fun _ => rfl) fun n v G3 hn e3 hv => bdE_app (ev_var rfl hv)) hl
    refine q_setN (r := rInts (xs ++ flat3 sc.gather)) (evN_cat (r := rInt) (ev_var rfl hw2) (ev3 sc.gather _ _ _ rfl (ev_fld (ev_var rfl hsc) T.c_StageCoins T.n_StageCoins_gather (look_ns nsSC 0 rfl)) (by omega)) (by omega)) s2.gh fun p1 H3 G3 hn s3 hp1 => ?_
    have A1 := accInts s2.gh hn s3 hp1
    have s4 := s2.then (StepM.of_ex s2.gh s3.ex)
    have h0 := s2.fresh hn
    refine q_appM (W := fun _ _ _ => True) s4 h0 (by simp) rfl A1 (by rw [List.length_append]; omega) ((evM_ev (r := rE (fun _ : Int => True) rInt) ((ev_call (ea_cons (ev_fld (r := rL rNat sc.order) (ev_var rfl hsc) T.c_StageCoins T.n_StageCoins_order (look_ns nsSC 1 rfl)) ea_nil) fun vs H Q h => ⟨sc.order, ord, by omega, h⟩).h s4.gh)).is fun v H' G' _ ⟨_, z, _, hz⟩ => ⟨z, hz, trivial⟩) fun z H4 G4 o _ s5 s6 A2 => ?_
    obtain ⟨us, s7, e7, h7, g7⟩ := A2.done s6 h0
    refine s_set (r := rInts (xs ++ flat3 sc.gather ++ [z] ++ flat3 sc.spread)) (ev_cat (r := rInt) (ev_var rfl h7) (ev3 sc.spread _ _ _ rfl (ev_fld (ev_var rfl (Mo.mo (s5.gg.trans e7) hsc)) T.c_StageCoins T.n_StageCoins_spread (look_ns nsSC 2 rfl)) (by omega)) (by rw [List.length_append, List.length_append, List.length_singleton]; omega)) s7.gh fun v8 H8 G8 s8 hv8 => ⟨G8, s7.then s8, ((e2.trans s5.gg).trans e7).trans s8.gg, v8, some v, _, rfl, hv8, ?_⟩
    rw [hs1, List.length_append, List.length_append, List.length_append, List.length_singleton]
    omega
  · rintro σ' H2 G2 s2 e1 ⟨w2, x2, xs, rfl, hw2, hxl⟩
    rw [← hc.2.len, List.take_length] at hxl
    exact s_ret (ev_var (r := rE (fun xs : List Int => xs.length = szF m fam rows) rInts) rfl ⟨xs, hxl, hw2⟩) s2.gh fun v H3 G3 s3 hv => k v H3 G3 (s2.then s3) hv
end
end Vc
/-! All of the heap as it stands; a class made with a promise of any form; a list in a field. -/
namespace Vc
open PySem PySem.Spec PyProof.Rows L2 Vm
section
variable {σ : L2.St} {H H0 H1 G G0 G1 : Hp} {te ta tb : TE} {r : Rp} {al : TA} {rs : List Rp} {K : PySem.W.Frag} {x C p : Addr} {fsR : List (Str × Rp)} {M : List Addr} {D : Ends} {tz : TS} {f : Str} {o : HO}
theorem Ob.at [MoF fsR] (O : Ob x C fsR H G) (e : Ex G H) : rO C fsR H (.ref x) := by
  obtain ⟨dx, fs, h1, _, h3⟩ := O
  exact ⟨x, dx, fs, rfl, h1, h3.mono e⟩
theorem Acc.at {α : Type} {q : α → Rp} [∀ x, Mo (q x)] {zs : List α} (A : Acc q p zs H G) (e : Ex G H) : rL q zs H (.ref p) := by
  obtain ⟨vs, h1, _, h3⟩ := A
  exact ⟨p, vs, rfl, h1, paired_mono h3 fun _ _ _ w => Mo.mo e w⟩
theorem evP_make {C : Addr} {sp : Sp} {E : XK} {Po : Addr → Hp → Hp → Hp → Prop} (ha : EvA al σ G rs) (hsp : ∀ vs H Q, (∃ (G : Hp) (x dx : Addr) (ws : List V), Ex G H ∧ G x = none ∧ vs = .ref x :: ws ∧ H x = some (.ins C dx []) ∧ Pr rs G ws ∧
    ∀ H' G', StepM [x] H G H' G' → Po x H H' G' → Q .non H') → sp vs H Q E) : ∀ H, Ex G H → ∀ Q : VK, (∀ x Hi H' G', H x = none → Ex H Hi → Hi x ≠ none → Step H G H' G' → Po x Hi H' G' → Q (.ref x) H') → tMake C sp [] E al σ H Q := fun H e Q q =>
  ha H e _ fun vs H1 G1 s1 h1 x dx hx hdx ne => by
    have gx : G1 x = none := s1.gh.dom hx
    have e1 : Ex G1 (upd (upd H1 dx (.own x)) x (.ins C dx [])) := (s1.gh.mut (s1.gh.dom hdx)).mut gx
    refine hsp _ _ _ ⟨G1, x, dx, vs, e1, gx, by rw [List.append_nil], upd_same, h1, fun H2 G2 s2 h2 => ⟨rfl, ?_⟩⟩
    have eH : Ex H (upd (upd H1 dx (.own x)) x (.ins C dx [])) := fun a o ha => by
      obtain ⟨o1, a1, l1⟩ := s1.ex a o ha
      exact ⟨o1, by rw [upd_ne (ne_of_none a1 hx), upd_ne (ne_of_none a1 hdx)]; exact a1, l1⟩
    refine q x _ H2 G2 (s1.fresh hx) eH (by rw [upd_same]; simp) ⟨fun a o ha => ?_, s1.gg.trans s2.gg, s2.gh, fun a h4 h5 => ?_⟩ h2
    · obtain ⟨o1, a1, l1⟩ := s1.ex a o ha
      have nax : a ≠ x := ne_of_none a1 hx
      obtain ⟨o2, a2, l2⟩ := s2.ex a o1 (by rw [upd_ne nax, upd_ne (ne_of_none a1 hdx)]; exact a1)
      exact ⟨o2, a2, fun z => (l1 z).trans (l2 (by simp [nax]))⟩
    · have h6 := s1.fr a h4 h5
      have h7 := s1.ex.nn h4
      refine s2.fr a ?_ h6
      have nax : a ≠ x := fun z => h7 (by rw [z]; exact hx)
      rw [upd_ne nax, upd_ne (fun z => h7 (by rw [z]; exact hdx))]
      exact h7
theorem q_makeP {i : Nat} {Po : Addr → Hp → Hp → Hp → Prop} (h : ∀ H, Ex G H → ∀ Q : VK, (∀ x Hi H' G', H x = none → Ex H Hi → Hi x ≠ none → Step H G H' G' → Po x Hi H' G' → Q (.ref x) H') → te σ H Q) (e : Ex G H)
    (k : ∀ x Hi H' G', H x = none → Ex H Hi → Hi x ≠ none → Step H G H' G' → Po x Hi H' G' → tz D (σ.set i (some (.ref x))) H') : tSeq (tAsg te (gName i)) tz D σ H := h H e _ k
theorem pf_is {n : Str} {r r' : Rp} : ∀ {fs : List (Str × Rp)} {vs : List (Str × V)} {i : Nat}, Pf fs G vs → fs[i]? = some (n, r) → (∀ v, r G v → r' G v) → Pf (fs.set i (n, r')) G vs
  | _, _, _, .nil, _, _ => .nil
  | _, _, 0, .cons h t, e, k => by
    simp at e
    subst e
    exact .cons ⟨h.1, k _ h.2⟩ t
  | _, _, i + 1, .cons h t, e, k => .cons h (pf_is (i := i) t (by simpa using e) k)
theorem Ob.is {n : Str} {r r' : Rp} {i : Nat} (O : Ob x C fsR H G) (e : fsR[i]? = some (n, r)) (k : ∀ v, r G v → r' G v) : Ob x C (fsR.set i (n, r')) H G := by
  obtain ⟨dx, fs, h1, h2, h3⟩ := O
  exact ⟨dx, fs, h1, h2, pf_is h3 e k⟩
/-- x.f.append(e), the list at p -/
theorem s_appF {α : Type} {q : α → Rp} [∀ x, Mo (q x)] {zs : List α} {z : α} {j : Nat} (st : StepM M H0 G0 H G) (h0 : H0 p = none) (O : Ob x C fsR H G) (hσ : σ[j]? = some (some (.ref x))) (c : Cls K C) (n : NoAttr K C f) (l : fsR.lookup f = some (rV (.ref p))) (A : Acc q p zs H G) (hl : zs.length ≤ 1000000)
    (h : EvH te σ H G (q z)) (k : ∀ H1 G1 o, Step H G H1 G1 → StepM M H0 G0 (upd H1 p o) G1 → Acc q p (zs ++ [z]) (upd H1 p o) G1 → D.nx σ (upd H1 p o)) : tDrop (tBM K "list" rAppend (tFld K (tVar j) f) (tCons te tNil)) D σ H := by
  obtain ⟨dx, fs, o1, o2, o3⟩ := O
  obtain ⟨v, h4, h5⟩ := pf_look o3 l
  have h5' : v = .ref p := h5
  subst h5'
  obtain ⟨vs, h1, h2, h3⟩ := A
  refine ⟨.ref x, hσ, x, C, dx, fs, .ref p, rfl, o1, c, n, h4, Or.inl ⟨rfl, _, Or.inl (Or.inl h1)⟩, h _ fun v H1 G1 s1 hv => ⟨p, vs, v, rfl, rfl, s1.l h1, ?_, ?_⟩⟩
  · rw [paired_len h3]
    exact Nat.lt_of_le_of_lt hl (by decide)
  · have g1 : G1 p = none := s1.fr p (by rw [h1]; simp) h2
    exact k H1 G1 _ s1 ((st.then s1).mut h0 g1) ⟨_, upd_same, g1, paired_snoc (paired_mono h3 fun _ _ _ w => Mo.mo s1.gg w) hv⟩
end
theorem atI_last {vs : List V} {v : V} : atI (vs ++ [v]) (-1) = some v := by
  have h : ixN (vs ++ [v]).length (-1) = some vs.length := by
    unfold ixN
    rw [List.length_append, List.length_singleton]
    rw [if_neg (by omega), if_pos (by omega)]
    congr 1
    omega
  unfold atI
  rw [h]
  simp
end Vc
namespace Vm
theorem stagesF_snoc {p : Int} {m : Nat} {l : List Nat} {c : SC} : ∀ {ls : List (List Nat)} {cs : List SC} {t : List (List Int)}, ls.length = cs.length →
    stagesF p m t (ls ++ [l]) (cs ++ [c]) = stagesF p m t ls cs ++ [stageF p m (lastF t (stagesF p m t ls cs)) (outs m l) c]
  | [], [], t, _ => rfl
  | a :: ls, b :: cs, t, h => by
    show stageF p m t (outs m a) b :: stagesF p m _ (ls ++ [l]) (cs ++ [c]) = stageF p m t (outs m a) b :: (stagesF p m _ ls cs ++ [_])
    rw [stagesF_snoc (by simpa using h)]
    rfl
  | [], _ :: _, _, h => by simp at h
  | _ :: _, [], _, h => by simp at h
theorem stagesF_len {p : Int} {m : Nat} : ∀ {ls : List (List Nat)} {cs : List SC} {t : List (List Int)}, ls.length = cs.length → (stagesF p m t ls cs).length = cs.length
  | [], [], t, _ => rfl
  | a :: ls, b :: cs, t, h => congrArg Nat.succ (stagesF_len (by simpa using h))
  | [], _ :: _, _, h => by simp at h
  | _ :: _, [], _, h => by simp at h
theorem SCsOk.take {m R : Nat} : ∀ {ls : List (List Nat)} {cs : List SC} (i : Nat), SCsOk m R ls cs → SCsOk m R (ls.take i) (cs.take i)
  | _, _, 0, _ => by
    rw [List.take_zero, List.take_zero]
    exact .nil
  | _, _, i + 1, .nil => .nil
  | _, _, i + 1, .cons h h1 t => .cons h h1 (t.take i)
end Vm
namespace Vc
open PySem PySem.Spec PyProof.Rows L2 Vm
def nsRR : List Str := ["prime", "mixers", "family", "table", "stages", "opened"]
def rRRg (p m : Nat) (fam : List (List Nat)) (t : List (List Int)) (st : Rp) (o : List Int) : List (Str × Rp) := [("prime", rNat p), ("mixers", rNat m), ("family", rL (rL rNat) fam), ("table", rTab t), ("stages", st), ("opened", rInts o)]
instance {p m : Nat} {fam : List (List Nat)} {t : List (List Int)} {st : Rp} {o : List Int} [Mo st] : MoF (rRRg p m fam t st o) := by
  unfold rRRg
  infer_instance
abbrev rRR (K : PySem.W.Frag) (p m : Nat) (fam : List (List Nat)) (t : List (List Int)) (ss : List SR) (o : List Int) : Rp := rO (He.ga K "RunRecord") (rRRg p m fam t (rL (rSR K) ss) o)
abbrev Rr (K : PySem.W.Frag) (x q : Addr) (p m : Nat) (fam : List (List Nat)) (t : List (List Int)) (o : List Int) : Hp → Hp → Prop := Ob x (He.ga K "RunRecord") (rRRg p m fam t (rV (.ref q)) o)
section
variable {P : Program} {w : World} {K : PySem.W.Frag} {mg : Str → Option Value} {base : Heap}
/-! RunRecord -/
def poRR (K : PySem.W.Frag) (p m : Nat) (fam : List (List Nat)) (t : List (List Int)) : Addr → Hp → Hp → Hp → Prop := fun x H H' G' => ∃ q, H q = none ∧ Rr K x q p m fam t [] H' G' ∧ Acc (rSR K) q [] H' G'
def spRRini (K : PySem.W.Frag) : Sp := fun vs H Q E => ∃ (p m : Nat) (fam : List (List Nat)) (t : List (List Int)), fam.length ≤ 1000 ∧ ∃ (G : Hp) (x dx : Addr) (ws : List V), Ex G H ∧ G x = none ∧ vs = .ref x :: ws ∧ H x = some (.ins (He.ga K "RunRecord") dx []) ∧ Pr [rNat p, rNat m, rL (rL rNat) fam, rTab t] G ws ∧
  ∀ H' G', StepM [x] H G H' G' → poRR K p m fam t x H H' G' → Q .non H'
theorem sc_RunRecord_init : FnScope ["self", "prime", "mixers", "family", "table", "lot"] ["self", "prime", "mixers", "family", "table"] (defScope s_RunRecord_init) := ⟨rfl, rfl, rfl, by decide +kernel, rfl, by decide +kernel, by decide +kernel⟩
theorem ok_RunRecord (T : Tx K mg) : Ctr P w K mg base "RunRecord" 1 ["self", "prime", "mixers", "family", "table"] (spRRini K) := by
  refine ⟨T.k_RunRecord_init.fnOk sc_RunRecord_init (fun vs H Q E ⟨_, _, _, _, _, _, _, _, _, _, _, h, _, h2, _⟩ => by rw [h, List.length_cons, paired_len h2]; rfl) fun f cdv A outer s H vs Q E hr h => ⟨_, (pss_cons (ps_fld (pv 0) (pv 1) rfl)
        (pss_cons (ps_fld (pv 0) (pv 2) rfl)
        (pss_cons (ps_fld (pv 0) (pe_lc (own := [("lot", 5)]) (g := gName 5) (tt := tYes) rfl sc_RunRecord_init.nd (itL K (pv 3)) (blkOk_by (N := ["self", "prime", "mixers", "family", "table", "lot"]) (sc := defScope s_RunRecord_init) (by decide +kernel)) (fun _ _ _ _ _ => pg_name (i := 5) sc_RunRecord_init.nd rfl (Or.inl rfl)) (fun _ _ _ _ _ => pts_nil) (fun _ _ _ _ _ => (pe_callTy (cList K) (by rfl) T.flist (by decide +kernel) (pa_cons (pv 5) pa_nil)))) rfl)
        (pss_cons (ps_fld (pv 0) (pv 4) rfl)
        (pss_cons (ps_fld (pv 0) (pe_lst pa_nil) rfl)
        (pss_one (ps_fld (pv 0) (pe_lst pa_nil) rfl))))))), ?_⟩, T.m_RunRecord, T.g_RunRecord⟩
  obtain ⟨p, m, fam, t, hfl, G, x, dx, ws, e, gx, rfl, hx, ha, k⟩ := h
  obtain ⟨_, _, a, b, rfl, rfl, rfl, h3, h4⟩ := pr_four ha
  refine q_fldB [] (StepM.refl e) (.inl in1) (Ob.start hx gx) (r := rNat p) ((ev_var rfl rfl).h e) rfl T.c_RunRecord T.n_RunRecord_prime fun H1 G1 o1 s1 t1 O1 => ?_
  refine q_fldB ["prime"] t1 (.inl in1) O1 (r := rNat m) ((ev_var rfl rfl).h t1.gh) rfl T.c_RunRecord T.n_RunRecord_mixers fun H2 G2 o2 s2 t2 O2 => ?_
  refine q_fldB ["prime", "mixers"] t2 (.inl in1) O2 (r := rL (rL rNat) fam) ((ev_map1 (r := rL rNat) (r0 := rL rNat) (wk_list (r := rL rNat) (ys := fam) (ev_var rfl (Mo.mo t2.gg h3))) (by omega) (fun _ => rfl) fun l v G1 hl e1 hv => ev_list (r := rNat) (xs := l) (ev_var rfl hv)).h t2.gh) rfl T.c_RunRecord T.n_RunRecord_family fun H3 G3 o3 s3 t3 O3 => ?_
  refine q_fldB ["prime", "mixers", "family"] t3 (.inl in1) O3 (r := rTab t) ((ev_var rfl (Mo.mo t3.gg h4)).h t3.gh) rfl T.c_RunRecord T.n_RunRecord_table fun H4 G4 o4 s4 t4 O4 => ?_
  refine ⟨Nat.zero_le _, fun q hq => ?_⟩
  have nxq : x ≠ q := ne_fresh O4.nn hq
  have h0 := t4.fresh hq
  have A5 : Acc (rSR K) q [] (upd (upd H4 x o4) q (.lst [])) G4 := Acc.start t4.gh hq
  have O5 := O4.ne (o := .lst []) nxq
  have t5 := t4.mut (o := .lst []) h0 (t4.gh.dom hq)
  refine q_fldB (te := tC (.ref q)) ["prime", "mixers", "family", "table"] t5 (.inl in1) O5 (r := rV (.ref q)) ((ev_c rfl).h t5.gh) rfl T.c_RunRecord T.n_RunRecord_stages fun H6 G6 o6 s6 t6 O6 => ?_
  have A6 := (A5.step s6).ne (q := x) (o := o6) nxq.symm
  refine s_fldB ["prime", "mixers", "family", "table", "stages"] t6 (.inl in1) O6 (r := rInts []) ((ev_lst (r := rInt) (xs := []) ea_nil (by simp)).h t6.gh) rfl T.c_RunRecord T.n_RunRecord_opened fun H7 G7 o7 s7 t7 O7 => ?_
  exact k _ G7 t7 ⟨q, h0, O7, (A6.step s7).ne nxq.symm⟩
/-! last_table -/
def spLast (K : PySem.W.Frag) : Sp := fun vs H Q E => ∃ (G : Hp) (x q : Addr) (p m : Nat) (fam : List (List Nat)) (t : List (List Int)) (ss : List SR) (o : List Int), Ex G H ∧ Rr K x q p m fam t o H G ∧ Acc (rSR K) q ss H G ∧ vs = [.ref x] ∧ ∀ v H' G', Step H G H' G' → rTab (lastF t ss) G' v → Q v H'
theorem sc_last_table : FnScope ["record"] ["record"] (defScope s_last_table) := ⟨rfl, rfl, rfl, by decide +kernel, rfl, by decide +kernel, by decide +kernel⟩
theorem ok_last_table (T : Tx K mg) : Cal P w K mg base "last_table" 1 ["record"] (spLast K) := by
  refine T.k_last_table.cal sc_last_table (fun vs H Q E ⟨_, _, _, _, _, _, _, _, _, _, _, _, h, _⟩ => by rw [h]; rfl) fun f cdv A outer s H vs Q E hr h => ⟨_, (pss_cons (ps_if (pt_not (pt_truth (fldK K (pv 0) rfl) (by intro _; rfl))) (pss_one (ps_ret (fldK K (pv 0) rfl))) pss_nil)
        (pss_one (ps_ret (fldK K (pe_ix (ixl K) (fldK K (pv 0) rfl) (pe_un un_neg pe_int) (fun _ _ => rfl)) rfl)))), ?_⟩
  obtain ⟨G, x, q, p, m, fam, t, ss, o, e, O, Ac, rfl, k⟩ := h
  have hO := O.at e
  have hA := Ac.at e
  refine q_if (b := !(!ss.isEmpty)) (G := H) (et_not (et_truth (r := rSR K) (xs := ss) ((ev_fld (r := rV (.ref q)) (ev_var rfl hO) T.c_RunRecord T.n_RunRecord_stages (look_ns nsRR 4 rfl)).is fun G' v eG hv => by
    have hv' : v = .ref q := hv
    rw [hv']
    exact Mo.mo eG hA))) (Ex.refl H) (fun hb H1 G1 s1 => ?_) fun hb H1 G1 s1 => ?_
  · have hnil : ss = [] := by
      cases ss with
      | nil => rfl
      | cons a r => simp at hb
    subst hnil
    refine s_retH (evH_fld (r := rTab t) (O.ex s1.ex) (e.trans s1.ex) rfl T.c_RunRecord T.n_RunRecord_table (look_ns nsRR 3 rfl)) fun v H2 G2 s2 hv => k v H2 G2 ((StepM.of_ex e s1.ex).trans s2) hv
  · obtain ⟨ss', sl, rfl⟩ : ∃ ss' sl, ss = ss' ++ [sl] := by
      rcases List.eq_nil_or_concat ss with h | ⟨a, b, h⟩
      · subst h
        simp at hb
      · exact ⟨a, b, by rw [h, List.concat_eq_append]⟩
    obtain ⟨dx, fs, o1, o2, o3⟩ := O.ex s1.ex
    obtain ⟨vs, a1, a2, a3⟩ := Ac.ex s1.ex
    obtain ⟨v1, l1, r1⟩ := pf_look o3 (look_ns (f := "stages") (b := rV (.ref q)) nsRR 4 rfl)
    have r1' : v1 = .ref q := r1
    subst r1'
    obtain ⟨vl, hvl, ⟨ax, dx2, fs2, rfl, b2, b3⟩⟩ := paired_get (i := ss'.length) (y := sl) a3 (by simp)
    obtain ⟨v2, l2, r2⟩ := pf_look b3 (look_ns (f := "table") (b := rTab sl.table) nsSR 6 rfl)
    have hlen : vs.length = ss'.length + 1 := by
      have := paired_len a3
      rw [List.length_append, List.length_singleton] at this
      exact this
    have hvs : vs = vs.take ss'.length ++ [.ref ax] := by
      have h2 : vs.take (ss'.length + 1) = vs.take ss'.length ++ [.ref ax] := by
        rw [List.take_succ, hvl]
        rfl
      rw [← hlen, List.take_length] at h2
      exact h2
    have hat : atI vs (-1) = some (.ref ax) := by
      rw [hvs]
      exact atI_last
    refine ⟨.ref x, rfl, x, _, dx, fs, _, rfl, o1, T.c_RunRecord, T.n_RunRecord_stages, l1, 1, rfl, q, vs, -1, .ref ax, rfl, rfl, SqL.of a1, hat, ax, _, dx2, fs2, v2, rfl, Ex.i (ExM.trans e s1.ex) b2, T.c_StageRecord, T.n_StageRecord_table, l2, ?_⟩
    refine k v2 H1 G (StepM.of_ex e s1.ex) ?_
    rw [lastF_snoc]
    exact r2
section
variable {σ : L2.St} {H G : Hp} {x q : Addr} {p m : Nat} {fam : List (List Nat)} {t : List (List Int)} {ss : List SR} {o : List Int} {j : Nat}
theorem ev_last (e : Ex G H) (hσ : σ[j]? = some (some (.ref x))) (O : Rr K x q p m fam t o H G) (Ac : Acc (rSR K) q ss H G) : EvH (tCall (spLast K) [] E0 (tCons (tVar j) tNil)) σ H G (rTab (lastF t ss)) :=
  fun Q k => ⟨.ref x, hσ, G, x, q, p, m, fam, t, ss, o, e, O, Ac, rfl, fun v H' G' s hv => k v H' G' s hv⟩
end
/-! run -/
def openF (p m : Nat) (fam : List (List Nat)) (votes : List Int) (c : RC) : List (List Int) := lastF (freshF p votes c.votes) (stagesF p m (freshF p votes c.votes) fam c.stages)
def spRun (K : PySem.W.Frag) : Sp := fun vs H Q E => ∃ (p m rows : Nat) (fam : List (List Nat)) (votes : List Int) (c : RC), PrimeOk p ∧ Sm m rows ∧ FamOk m fam ∧ fam.length ≤ 1000 ∧ votes.length = rows ∧ (∀ v ∈ votes, 0 ≤ v ∧ v < (p : Int)) ∧ CoOk m rows fam c ∧
  spOf [rNat p, rNat m, rL (rL rNat) fam, rInts votes, rRC K c] (rRR K p m fam (freshF p votes c.votes) (stagesF p m (freshF p votes c.votes) fam c.stages) (vals p (openF p m fam votes c))) vs H Q E
theorem sc_run : FnScope ["prime", "mixers", "family", "votes", "coins", "lots", "due", "given", "record", "lot", "stage"] ["prime", "mixers", "family", "votes", "coins"] (defScope s_run) := ⟨rfl, rfl, rfl, by decide +kernel, rfl, by decide +kernel, by decide +kernel⟩
theorem ok_run (T : Tx K mg) : Cal P w K mg base "run" 6 ["prime", "mixers", "family", "votes", "coins"] (spRun K) := by
  have c_check_votes := ok_check_votes (P := P) (w := w) (base := base) T
  have c_checked_family := ok_checked_family (P := P) (w := w) (base := base) T
  have c_checked_prime := ok_checked_prime (P := P) (w := w) (base := base) T
  have c_flat := ok_flat (P := P) (w := w) (base := base) T
  have c_fresh_table := ok_fresh_table (P := P) (w := w) (base := base) T
  have c_holders := ok_holders (P := P) (w := w) (base := base) T
  have c_last_table := ok_last_table (P := P) (w := w) (base := base) T
  have c_run_stage := ok_run_stage (P := P) (w := w) (base := base) T
  have c_size := ok_size (P := P) (w := w) (base := base) T
  have c_values_of := ok_values_of (P := P) (w := w) (base := base) T
  have c_RunRecord := ok_RunRecord (P := P) (w := w) (base := base) T
  refine T.k_run.cal sc_run (fun vs H Q E ⟨_, _, _, _, _, _, _, _, _, _, _, _, _, h⟩ => spOf_len h) fun f cdv A outer s H vs Q E hr h => ⟨_, (pss_cons (ps_expr (pe_cal c_checked_prime hr rfl (pa_cons (pv 0) pa_nil)))
        (pss_cons (ps_set (i := 5) sc_run.nd rfl (Or.inl rfl) (pe_cal c_checked_family hr rfl (pa_cons (pv 2) (pa_cons (pv 1) pa_nil))))
        (pss_cons (ps_expr (pe_cal c_check_votes hr rfl (pa_cons (pv 0) (pa_cons (pv 3) pa_nil))))
        (pss_cons (ps_set (i := 6) sc_run.nd rfl (Or.inl rfl) (pe_cal c_size hr rfl (pa_cons (pv 1) (pa_cons (pv 5) (pa_cons (pe_callB (cLen K) (by rfl) T.flen PySem.boot_len (pa_cons (pv 3) pa_nil)) pa_nil)))))
        (pss_cons (ps_set (i := 7) sc_run.nd rfl (Or.inl rfl) (pe_callB (cLen K) (by rfl) T.flen PySem.boot_len (pa_cons (pe_cal c_flat hr rfl (pa_cons (pv 4) pa_nil)) pa_nil)))
        (pss_cons (ps_if (pt_cmpR op_ne (pv 7) (pv 6) (nomark _)) (pss_one ps_never) pss_nil)
        (pss_cons (ps_set (i := 8) sc_run.nd rfl (Or.inl rfl) (pe_mk c_RunRecord hr rfl (pa_cons (pv 0) (pa_cons (pv 1) (pa_cons (pv 5) (pa_cons (pe_cal c_fresh_table hr rfl (pa_cons (pv 0) (pa_cons (pv 3) (pa_cons (fldK K (pv 4) rfl) pa_nil)))) pa_nil))))))
        (pss_cons (ps_for PassesOwn.never rfl (itZ K rfl T.fzip (pa_cons (pv 5) (pa_cons (fldK K (pv 4) rfl) pa_nil))) (tgT K rfl (pgs_cons (pg_name (i := 9) sc_run.nd rfl (Or.inl rfl)) (pgs_cons (pg_name (i := 10) sc_run.nd rfl (Or.inl rfl)) pgs_nil)))
          (pss_one (ps_expr (bmK K (pe_bm PySem.F.plainAttrs_list PySem.F.slot_list_append PySem.F.type_list_append mt_append (fldK K (pv 8) rfl) (pa_cons (pe_cal c_run_stage hr rfl (pa_cons (pv 0) (pa_cons (pv 1) (pa_cons (pe_cal c_last_table hr rfl (pa_cons (pv 8) pa_nil)) (pa_cons (pe_cal c_holders hr rfl (pa_cons (pv 9) (pa_cons (pv 1) pa_nil))) (pa_cons (pv 10) pa_nil)))))) pa_nil))))))
        (pss_cons (ps_fld (pv 8) (pe_cal c_values_of hr rfl (pa_cons (pv 0) (pa_cons (pe_cal c_last_table hr rfl (pa_cons (pv 8) pa_nil)) pa_nil))) rfl)
        (pss_one (ps_ret (pv 8)))))))))))), ?_⟩
  obtain ⟨p, m, rows, fam, votes, c, hpr, sm, hf, hfl, hvl, hvv, hc, G, e, ha, k⟩ := h
  obtain ⟨_, _, u, z, y, rfl, rfl, rfl, hu, hz, hy⟩ := pr_five ha
  have hm1 := sm.m1
  have hm := sm.m4
  have hR := sm.r5
  have hp2 := hpr.lo
  have hp' : (0 : Int) < (p : Int) := by omega
  refine q_drop (r := rNat p) (ev_call (ea_cons (ev_var (r := rNat p) rfl rfl) ea_nil) fun vs H Q h => ⟨p, hpr, h⟩) e fun H1 G1 s1 => ?_
  refine q_set (r := rL (rL rNat) fam) (ev_call (ea_cons (ev_var (r := rL (rL rNat) fam) rfl (Mo.mo s1.gg hu)) (ea_cons (ev_var (r := rNat m) rfl rfl) ea_nil)) fun vs H Q h => ⟨fam, m, by omega, hfl, hf, h⟩) s1.gh fun v2 H2 G2 s2 hv2 => ?_
  have t2 := s1.trans s2
  refine q_drop (r := rNon) (ev_call (ea_cons (ev_var (r := rInt p) rfl rfl) (ea_cons (ev_var (r := rInts votes) rfl (Mo.mo t2.gg hz)) ea_nil)) fun vs H Q h => ⟨p, votes, hvv, h⟩) s2.gh fun H3 G3 s3 => ?_
  have t3 := t2.trans s3
  refine q_set (r := rNat (szF m fam rows)) (ev_call (ea_cons (ev_var (r := rNat m) rfl rfl) (ea_cons (ev_var (r := rL (rL rNat) fam) rfl (Mo.mo s3.gg hv2)) (ea_cons ((ev_len (r := rInt) (ev_var (r := rInts votes) rfl (Mo.mo t3.gg hz))).is (r' := rNat rows) fun G' v _ h => by rw [hvl] at h; exact h) ea_nil))) fun vs H Q h => ⟨m, fam, rows, sm, fun l hl => hf.pos hl, hfl, h⟩) s3.gh fun v4 H4 G4 s4 hv4 => ?_
  cases hv4
  have t4 := t3.trans s4
  refine q_set (r := rNat (szF m fam rows)) (fun H x Q q => (ev_call (r := rE (fun xs : List Int => xs.length = szF m fam rows) rInts) (ea_cons (ev_var (r := rRC K c) rfl (Mo.mo t4.gg hy)) ea_nil) fun vs H Q h => ⟨m, rows, fam, c, sm, hfl, hc, h⟩) H x _ fun v H' G' s' ⟨xs, hx, hv⟩ => (ev_len (ta := tC v) (σ := []) (r := rInt) (ev_c hv)) H' s'.gh Q fun v' H'' G'' s'' hv' => q v' H'' G'' (s'.trans s'') (by rw [hx] at hv'; exact hv')) s4.gh fun v5 H5 G5 s5 hv5 => ?_
  cases hv5
  have t5 := t4.trans s5
  refine q_if (b := false) ((et_test (ev_ne (x := .int ((szF m fam rows : Nat) : Int)) (y := .int ((szF m fam rows : Nat) : Int)) (ev_var rfl rfl) (ev_var rfl rfl) rfl)).is (by simp)) s5.gh (fun z => by cases z) fun _ H6 G6 s6 => ?_
  have t6 := t5.trans s6
  have hfr : Rect (freshF p votes c.votes) rows m := by
    have := fresh_rect (p := p) (m := m) (votes := votes) (coins := c.votes) (by rw [hvl]; exact hc.1) hm1
    rw [hvl] at this
    exact this
  generalize ht : freshF (p : Int) votes c.votes = t at hfr
  refine q_makeP (evP_make (Po := poRR K p m fam t) (ea_cons (ev_var (r := rNat p) rfl rfl) (ea_cons (ev_var (r := rNat m) rfl rfl) (ea_cons (ev_var (r := rL (rL rNat) fam) rfl (Mo.mo (((s3.gg.trans s4.gg).trans s5.gg).trans s6.gg) hv2)) (ea_cons (ev_call (r := rTab t) (ea_cons (ev_var (r := rInt p) rfl rfl) (ea_cons (ev_var (r := rInts votes) rfl (Mo.mo t6.gg hz)) (ea_cons (ev_fld (r := rTab c.votes) (ev_var (r := rRC K c) rfl (Mo.mo t6.gg hy)) T.c_RunCoins T.n_RunCoins_votes (look_ns nsRC 0 rfl)) ea_nil))) fun vs H Q h => ⟨p, votes, c.votes, hp', by omega, fun row hr => by rw [hc.1.2 row hr]; omega, by rw [ht]; exact h⟩) ea_nil)))) (fun vs H Q h => ⟨p, m, fam, t, hfl, h⟩)) t6.gh fun x Hi H7 G7 hx eHi nHi s7 ⟨q, hq, O7, A7⟩ => ?_
  have t7 := t6.trans s7
  have hx0 := t6.fresh hx
  have hq0 := t6.fresh (ExM.dom eHi hq)
  have nxq : x ≠ q := fun z => nHi (by rw [z]; exact hq)
  have hlen := hc.2.len
  refine q_for2 (r0 := rL rNat) (r1 := rSC K) t7 (wk_zip (r := rL rNat) (r' := rSC K) (ys := fam) (zs := c.stages) (ev_var rfl (Mo.mo ((((s3.gg.trans s4.gg).trans s5.gg).trans s6.gg).trans s7.gg) hv2)) (ev_fld (r := rL (rSC K) c.stages) (ev_var (r := rRC K c) rfl (Mo.mo t7.gg hy)) T.c_RunCoins T.n_RunCoins_stages (look_ns nsRC 1 rfl)))
    (fun i σ' H' G' => ∃ x9 x10, σ' = [some (.int (p : Int)), some (.int (m : Int)), some u, some z, some y, some v2, some (.int ((szF m fam rows : Nat) : Int)), some (.int ((szF m fam rows : Nat) : Int)), some (.ref x), x9, x10] ∧ Rr K x q p m fam t [] H' G' ∧ Acc (rSR K) q (stagesF p m t (fam.take i) (c.stages.take i)) H' G') ?_ ?_ ?_
  · exact fun H8 G8 s8 => ⟨none, none, rfl, O7.step s8, by rw [List.take_zero, List.take_zero]; exact A7.step s8⟩
  · rintro i ⟨l, sc⟩ σ' v v' Ha Hb G' Gs hi s8 e1 e2 e3 hl hsc ⟨x9, x10, rfl, O8, A8⟩
    rw [List.getElem?_zip_eq_some] at hi
    obtain ⟨hil, his⟩ := hi
    obtain ⟨l', hl', hok, h1⟩ := hc.2.get his
    have hil' : fam[i]? = some l := hil
    rw [hil'] at hl'
    cases hl'
    have hrv := run_vals (p := p) hm1 (hc.2.take i) hfr
    have hsl : (stagesF (p : Int) m t (fam.take i) (c.stages.take i)).length ≤ 1000000 := by
      rw [stagesF_len (by rw [List.length_take, List.length_take, hlen]), List.length_take, ← hlen]
      omega
    have O9 := O8.ex e3
    have A9 := A8.ex e3
    refine s_appF (z := stageF p m (lastF t (stagesF p m t (fam.take i) (c.stages.take i))) (outs m l) sc) s8 hq0 O9 rfl T.c_RunRecord T.n_RunRecord_stages (look_ns nsRR 4 rfl) A9 hsl
      (evH_call (ehA_cons ((ev_var (r := rInt p) rfl rfl).h s8.gh) fun Hc Gc sa => ehA_cons ((ev_var (r := rNat m) rfl rfl).h sa.gh) fun Hd Gd sb => ehA_cons (ev_last sb.gh rfl ((O9.step sa).step sb) ((A9.step sa).step sb)) fun He Ge sd =>
        EvA.h (ea_cons (ev_call (r := rL rNat (outs m l)) (ea_cons (ev_var (r := rL rNat l) rfl (Mo.mo ((sa.gg.trans sb.gg).trans sd.gg) hl)) (ea_cons (ev_var (r := rNat m) rfl rfl) ea_nil)) fun vs H Q h => ⟨l, m, by omega, h⟩) (ea_cons (ev_var (r := rSC K sc) rfl (Mo.mo ((sa.gg.trans sb.gg).trans sd.gg) hsc)) ea_nil)) sd.gh)
        fun vs H Q h => ⟨p, m, rows, _, l, sc, hp', sm, hrv.1, h1, hok, h⟩) fun H9 G9 o s9 t9 A10 => ⟨G9, t9, e2.trans s9.gg, _, _, rfl, (O9.step s9).ne nxq, ?_⟩
    rw [List.take_succ, List.take_succ, hil', his]
    show Acc (rSR K) q (stagesF p m t (fam.take i ++ [l]) (c.stages.take i ++ [sc])) _ _
    rw [stagesF_snoc (by rw [List.length_take, List.length_take, hlen])]
    exact A10
  · rintro σ' H8 G8 s8 e1 ⟨x9, x10, rfl, O8, A8⟩
    rw [List.length_zip, hlen, Nat.min_self, List.take_length, ← hlen, List.take_length] at A8
    have hrv := run_vals (p := p) hm1 hc.2 hfr
    refine q_fldC nsRR 5 s8 (.inr hx0) O8 (r := rInts (vals p (lastF t (stagesF p m t fam c.stages)))) (evH_call (ehA_cons ((ev_var (r := rInt p) rfl rfl).h s8.gh) fun Hc Gc sa => ehA_cons (ev_last sa.gh rfl (O8.step sa) (A8.step sa)) fun Hd Gd sb => EvA.h ea_nil sb.gh) fun vs H Q h => ⟨p, _, hp', by rw [hrv.1.1]; omega, h⟩) rfl T.c_RunRecord T.n_RunRecord_opened fun H9 G9 o9 s9 t9 O9 => ?_
    have A9 := (A8.step s9).ne (q := x) (o := o9) nxq.symm
    obtain ⟨us, s10, e10, h10, g10⟩ := A9.done t9 hq0
    have O10 := (O9.neG (o := .lst us) nxq g10).is (i := 4) (r' := rL (rSR K) (stagesF p m t fam c.stages)) rfl fun v hv => by
      have hv' : v = .ref q := hv
      rw [hv']
      exact h10
    refine s_retO s10 hx0 rfl O10 fun G11 t11 h11 => k _ _ G11 t11 ?_
    unfold openF
    rw [ht]
    exact h11
end
end Vc
namespace Vm
/-- what the audit looks at holds of the stage -/
structure StOk (p : Int) (m R : Nat) (t : List (List Int)) (s : SR) : Prop where
  g : ∀ (i x : Nat) (rows : List (List Int)), ((outs m s.holders).zip s.gathered)[i]? = some (x, rows) → ∀ (n : Nat) (pc : List Int), rows[n]? = some pc → ∃ (row : List Int) (v : Int), t[n]? = some row ∧ row[x]? = some v ∧ tot p pc = v % p
  gb : Box s.gathered (outs m s.holders).length R s.holders.length
  h : ∀ (j x : Nat), s.holders[j]? = some x → ∀ (n : Nat) (row : List Int), t[n]? = some row → ∃ (v : Int) (rh : List Int) (v' : Int), row[x]? = some v ∧ s.held[n]? = some rh ∧ rh[j]? = some v' ∧ tot p (v :: s.gathered.map fun rows => (rows.getD n []).getD j 0) = v' % p
  o : ∀ (j x : Nat), s.holders[j]? = some x → ∀ (n old : Nat), s.order[n]? = some old → ∃ (r1 r2 : List Int) (v : Int), s.ordered[n]? = some r1 ∧ r1[j]? = some v ∧ s.held[old]? = some r2 ∧ r2[j]? = some v
  sp : ∀ (j x : Nat), s.holders[j]? = some x → ∀ (n : Nat) (row : List Int), s.ordered[n]? = some row → ∃ (b : List (List Int)) (pc : List Int) (v : Int), s.spread[j]? = some b ∧ b[n]? = some pc ∧ row[j]? = some v ∧ tot p pc = v % p
  sb : Box s.spread s.holders.length R m
  a : ∀ (x : Nat), x < m → ∀ (n : Nat) (row : List Int), s.table[n]? = some row → ∃ v : Int, row[x]? = some v ∧ tot p (s.spread.map fun rows => (rows.getD n []).getD x 0) = v % p
  tr : Rect t R m
  tr' : Rect s.table R m
  hl : s.holders.length ≤ m
theorem get_rect {α : Type} {t : List (List α)} {r c n j : Nat} (d : α) (h : Rect t r c) (hn : n < r) (hj : j < c) : ∃ row, t[n]? = some row ∧ row[j]? = some ((t.getD n []).getD j d) := by
  refine ⟨t.getD n [], get_of_lt [] (by rw [h.1]; exact hn), get_of_lt d (by rw [h.row hn]; exact hj)⟩
theorem lt_of_get {α : Type} {l : List α} {n : Nat} {x : α} (h : l[n]? = some x) : n < l.length := (List.getElem?_eq_some_iff.mp h).1
theorem getD_of_get {α : Type} {l : List α} {n : Nat} {x : α} (d : α) (h : l[n]? = some x) : l.getD n d = x := by
  rw [List.getD_eq_getElem?_getD, h]
  rfl
theorem get_zipWith {α β γ : Type} {f : α → β → γ} {xs : List α} {ys : List β} {n : Nat} {z : γ} (h : (List.zipWith f xs ys)[n]? = some z) : ∃ x y, xs[n]? = some x ∧ ys[n]? = some y ∧ z = f x y := by
  rw [List.getElem?_zipWith] at h
  split at h
  · rename_i a b h1 h2
    exact ⟨a, b, h1, h2, (Option.some.inj h).symm⟩
  · cases h
theorem stageF_ok {p : Int} {m R : Nat} {t : List (List Int)} {lot : List Nat} {c : SC} (ht : Rect t R m) (hm1 : 1 ≤ m) (h1 : 1 ≤ (outs m lot).length) (hc : SCok m R (outs m lot) c) : StOk p m R t (stageF p m t (outs m lot) c) := by
  have hle := outs_le m lot
  have hlt : ∀ j x, (outs m lot)[j]? = some x → x < m := fun j x h => outs_lt (List.mem_of_getElem? h)
  generalize outs m lot = hs at *
  have hg := gathered_box (p := p) ht hc h1
  have hh : Rect (heldF p t hs (gatheredF p t (outs m hs) c.gather)) R hs.length := held_rect _ ht
  have ho : Rect (movedF [] (heldF p t hs (gatheredF p t (outs m hs) c.gather)) c.order) R hs.length := moved_rect hh hc.o
  have hsb := spread_box (p := p) ho hc.s hm1
  have htr : Rect (stageF p m t hs c).table R m := by
    show Rect (tableF p _ m t.length) R m
    rw [ht.1]
    exact table_rect _
  refine ⟨?_, hg, ?_, ?_, ?_, hsb, ?_, ht, htr, hle⟩
  · intro i x rows hi n pc hpc
    rw [List.getElem?_zip_eq_some] at hi
    obtain ⟨hi1, hi2⟩ := hi
    have hi2' : (gatheredF p t (outs m hs) c.gather)[i]? = some rows := hi2
    unfold gatheredF at hi2'
    obtain ⟨x', cs, e1, e2, rfl⟩ := get_zipWith hi2'
    have hi1' : (outs m hs)[i]? = some x := hi1
    rw [hi1'] at e1
    cases e1
    obtain ⟨row, line, e3, e4, rfl⟩ := get_zipWith hpc
    have hx : x < m := outs_lt (List.mem_of_getElem? hi1')
    refine ⟨row, row.getD x 0, e3, get_of_lt 0 (by rw [ht.2 row (List.mem_of_getElem? e3)]; exact hx), ?_⟩
    rw [splitF_tot]
  · intro j x hj n row hrow
    have hj' : hs[j]? = some x := hj
    have hjl := lt_of_get hj'
    have hn : n < R := by rw [← ht.1]; exact lt_of_get hrow
    obtain ⟨rh, e1, e2⟩ := get_rect 0 hh hn hjl
    refine ⟨row.getD x 0, rh, _, get_of_lt 0 (by rw [ht.2 row (List.mem_of_getElem? hrow)]; exact hlt j x hj'), e1, e2, ?_⟩
    have : ((heldF p t hs (gatheredF p t (outs m hs) c.gather)).getD n []).getD j 0 = tot p (row.getD x 0 :: (gatheredF p t (outs m hs) c.gather).map fun rows => (rows.getD n []).getD j 0) := by
      unfold heldF
      rw [getD_rmap _ _ _ _ (by rw [ht.1]; exact hn), getD_rmap _ _ _ _ hjl, getD_of_get [] hrow, getD_of_get 0 hj']
    rw [this, tot_mod]
    rfl
  · intro j x hj n old hold
    have hjl := lt_of_get (show hs[j]? = some x from hj)
    have hold' : c.order[n]? = some old := hold
    have hol : old < R := List.mem_range.mp (hc.o.mem_iff.mp (List.mem_of_getElem? hold'))
    obtain ⟨r2, e1, e2⟩ := get_rect 0 hh hol hjl
    refine ⟨r2, r2, _, ?_, e2, e1, e2⟩
    show (movedF [] _ c.order)[n]? = some r2
    unfold movedF
    rw [List.getElem?_map, hold']
    exact congrArg some (getD_of_get [] e1)
  · intro j x hj n row hrow
    have hjl := lt_of_get (show hs[j]? = some x from hj)
    have hrow' : (movedF [] (heldF p t hs (gatheredF p t (outs m hs) c.gather)) c.order)[n]? = some row := hrow
    have hnl : n < R := by rw [← ho.1]; exact lt_of_get hrow'
    have hb : (spreadF p (movedF [] (heldF p t hs (gatheredF p t (outs m hs) c.gather)) c.order) hs.length c.spread)[j]? = some (List.zipWith (fun row line => splitF p (row.getD j 0) line) (movedF [] (heldF p t hs (gatheredF p t (outs m hs) c.gather)) c.order) (c.spread.getD j [])) := by
      unfold spreadF
      rw [List.getElem?_map, List.getElem?_range hjl]
      rfl
    have hjc : j < c.spread.length := by rw [hc.s.1]; exact hjl
    have hcr := hc.s.2 _ (getD_mem c.spread j [] hjc)
    obtain ⟨line, hline⟩ : ∃ line, (c.spread.getD j [])[n]? = some line := ⟨_, List.getElem?_eq_getElem (by rw [hcr.1]; exact hnl)⟩
    refine ⟨_, splitF p (row.getD j 0) line, row.getD j 0, hb, ?_, get_of_lt 0 (by rw [ho.2 row (List.mem_of_getElem? hrow')]; exact hjl), splitF_tot p _ _⟩
    rw [List.getElem?_zipWith, hrow', hline]
  · intro x hx n row hrow
    have hrow' : (tableF p (stageF p m t hs c).spread m t.length)[n]? = some row := hrow
    have hn : n < R := by
      have := lt_of_get hrow'
      rw [ht.1, (table_rect (p := p) (m := m) (R := R) (stageF p m t hs c).spread).1] at this
      exact this
    have e : row = (List.range m).map fun x => tot p ((stageF p m t hs c).spread.map fun rs => (rs.getD n []).getD x 0) := by
      unfold tableF at hrow'
      rw [List.getElem?_map, List.getElem?_range (by rw [ht.1]; exact hn)] at hrow'
      exact (Option.some.inj hrow').symm
    refine ⟨tot p ((stageF p m t hs c).spread.map fun rs => (rs.getD n []).getD x 0), ?_, (tot_mod _ _).symm⟩
    rw [e, List.getElem?_map, List.getElem?_range hx]
    rfl
end Vm
namespace Vc
open PySem PySem.Spec PyProof.Rows L2 Vm
section
variable {P : Program} {w : World} {K : PySem.W.Frag} {mg : Str → Option Value} {base : Heap}
/-- a and b are equal, so a != b is false -/
theorem et_same {σ : L2.St} {G : Hp} {ta tb : TE} {i : Int} (ha : Ev ta σ G (rInt i)) (hb : Ev tb σ G (rInt i)) : EvT (tTest (tOp rNe ta tb)) σ G false := (et_test (ev_ne (x := .int i) (y := .int i) ha hb rfl)).is (by simp)
theorem ev_modI {σ : L2.St} {G : Hp} {ta tb : TE} {i j : Int} (ha : Ev ta σ G (rInt i)) (hb : Ev tb σ G (rInt j)) (h : 0 < j) : Ev (tOp (rI (fun _ j => 0 < j) fun i j => .int (i % j)) ta tb) σ G (rInt (i % j)) := ev_I (C := fun _ j => 0 < j) (g := fun i j => .int (i % j)) ha hb h
/-! gather_faults -/
def spGf (K : PySem.W.Frag) : Sp := fun vs H Q E => ∃ (p : Int) (m R : Nat) (t : List (List Int)) (s : SR), 0 < p ∧ m ≤ 1000 ∧ R ≤ 1000 ∧ StOk p m R t s ∧ spOf [rInt p, rNat m, rTab t, rSR K s] (rL rNat []) vs H Q E
theorem sc_gather_faults : FnScope ["prime", "mixers", "table", "stage", "found", "mixer", "rows", "number", "pieces"] ["prime", "mixers", "table", "stage"] (defScope s_gather_faults) := ⟨rfl, rfl, rfl, by decide +kernel, rfl, by decide +kernel, by decide +kernel⟩
theorem ok_gather_faults (T : Tx K mg) : Cal P w K mg base "gather_faults" 3 ["prime", "mixers", "table", "stage"] (spGf K) := by
  have c_join := ok_join (P := P) (w := w) (base := base) T
  have c_outsiders := ok_outsiders (P := P) (w := w) (base := base) T
  refine T.k_gather_faults.cal sc_gather_faults (fun vs H Q E ⟨_, _, _, _, _, _, _, _, _, h⟩ => spOf_len h) fun f cdv A outer s H vs Q E hr h => ⟨_, (pss_cons (ps_set (i := 4) sc_gather_faults.nd rfl (Or.inl rfl) (pe_lst pa_nil))
        (pss_cons (ps_for PassesOwn.never rfl (itZ K rfl T.fzip (pa_cons (pe_cal c_outsiders hr rfl (pa_cons (pv 1) (pa_cons (fldK K (pv 3) rfl) pa_nil))) (pa_cons (fldK K (pv 3) rfl) pa_nil))) (tgT K rfl (pgs_cons (pg_name (i := 5) sc_gather_faults.nd rfl (Or.inl rfl)) (pgs_cons (pg_name (i := 6) sc_gather_faults.nd rfl (Or.inl rfl)) pgs_nil)))
          (pss_one (ps_for PassesOwn.never rfl (itE K rfl T.fenumerate (pa_cons (pv 6) pa_nil)) (tgT K rfl (pgs_cons (pg_name (i := 7) sc_gather_faults.nd rfl (Or.inl rfl)) (pgs_cons (pg_name (i := 8) sc_gather_faults.nd rfl (Or.inl rfl)) pgs_nil)))
            (pss_one (ps_if (pt_cmpR op_ne (pe_cal c_join hr rfl (pa_cons (pv 0) (pa_cons (pv 8) pa_nil))) (pe_op op_mod (pe_ix (ixl K) (pe_ix (ixl K) (pv 2) (pv 7) (fun _ _ => rfl)) (pv 5) (fun _ _ => rfl)) (pv 0)) (nomark _)) (pss_one (ps_expr (bmK K (pe_bm PySem.F.plainAttrs_list PySem.F.slot_list_append PySem.F.type_list_append mt_append (pv 4) (pa_cons (pe_tup (pa_cons (pv 5) (pa_cons (pv 7) pa_nil))) pa_nil))))) pss_nil)))))
        (pss_one (ps_ret (pv 4))))), ?_⟩
  obtain ⟨p, m, R, t, s, hp, hm, hR, hs, G, e, ha, k⟩ := h
  obtain ⟨_, _, u, z, rfl, rfl, rfl, hu, hz⟩ := pr_four ha
  refine q_newA (r := rNat) (st0 e) fun a hn h0 s1 A1 => ?_
  refine q_for2 (r0 := rNat) (r1 := rTab) s1 (wk_zip (r := rNat) (r' := rTab) (ys := outs m s.holders) (zs := s.gathered) (ev_call (ea_cons (ev_var (r := rNat m) rfl rfl) (ea_cons (ev_fld (r := rL rNat s.holders) (ev_var rfl hz) T.c_StageRecord T.n_StageRecord_holders (look_ns nsSR 0 rfl)) ea_nil)) fun vs H Q h => ⟨s.holders, m, hm, h⟩) (ev_fld (r := rBox s.gathered) (ev_var rfl hz) T.c_StageRecord T.n_StageRecord_gathered (look_ns nsSR 1 rfl)))
    (fun i σ' H' G' => ∃ x5 x6 x7 x8, σ' = [some (.int p), some (.int (m : Int)), some u, some z, some (.ref a), x5, x6, x7, x8] ∧ rTab t G' u ∧ Acc rNat a [] H' G') ?_ ?_ ?_
  · exact fun H1 G1 s2 => ⟨none, none, none, none, rfl, Mo.mo s2.gg hu, A1.step s2⟩
  · rintro i ⟨x, rows⟩ σ' v v2 Ha Hb G' Gs hi s2 e1 e2 e3 hv hv2 ⟨x5, x6, x7, x8, rfl, hu1, A2⟩
    cases hv
    refine s_for2 (r0 := rNat) (r1 := rInts) s2 (wk_enum (r := rInts) (ys := rows) (ev_var rfl hv2)) (fun n σ' H' G' => ∃ x7 x8, σ' = [some (.int p), some (.int (m : Int)), some u, some z, some (.ref a), some (.int (x : Int)), some v2, x7, x8] ∧ rTab t G' u ∧ Acc rNat a [] H' G') ?_ ?_ ?_
    · exact fun H1 G1 s3 => ⟨_, _, rfl, Mo.mo s3.gg hu1, (A2.ex e3).step s3⟩
    · rintro n y σ' v v3 Hc Hd G2 Gt hn s4 f1 f2 f3 hv hv3 ⟨x7, x8, rfl, hu2, A3⟩
      obtain ⟨pc, rfl, hpc⟩ := get_enum hn
      cases hv
      obtain ⟨row, vv, h1, h2, h3⟩ := hs.g i x rows hi n pc hpc
      refine s_if (b := false) (et_same (i := tot p pc) (ev_call (ea_cons (ev_var (r := rInt p) rfl rfl) (ea_cons (ev_var (r := rInts pc) rfl hv3) ea_nil)) fun vs H Q h => ⟨p, pc, hp, h⟩)
        ((ev_modI (i := vv) (j := p) (ev_ix (r := rInt) (xs := row) (n := x) (ev_ix (r := rInts) (xs := t) (n := n) (ev_var rfl hu2) (ev_var rfl rfl) rfl h1) (ev_var rfl rfl) rfl h2) (ev_var rfl rfl) hp).is fun _ _ _ z => by rw [h3]; exact z)) s4.gh (fun z => by cases z) fun _ H1 G1 s5 => ⟨G1, s4.trans s5, f2.trans s5.gg, _, _, rfl, Mo.mo s5.gg hu2, (A3.ex f3).step s5⟩
    · exact fun σ' H1 G1 s4 f1 ⟨x7, x8, hσ, hu2, A3⟩ => ⟨G1, s4, e2.trans f1, _, _, _, _, hσ, hu2, A3⟩
  · rintro σ' H2 G2 s2 e1 ⟨x5, x6, x7, x8, rfl, hu1, A2⟩
    exact s_retA s2 h0 rfl A2 fun G3 s3 h3 => k _ H2 G3 s3 h3
/-! hold_faults -/
def spHf (K : PySem.W.Frag) : Sp := fun vs H Q E => ∃ (p : Int) (m R : Nat) (t : List (List Int)) (s : SR), 0 < p ∧ m ≤ 1000 ∧ R ≤ 1000 ∧ StOk p m R t s ∧ spOf [rInt p, rTab t, rSR K s] (rL rNat []) vs H Q E
theorem sc_hold_faults : FnScope ["prime", "table", "stage", "found", "place", "holder", "number", "row", "pieces", "rows"] ["prime", "table", "stage"] (defScope s_hold_faults) := ⟨rfl, rfl, rfl, by decide +kernel, rfl, by decide +kernel, by decide +kernel⟩
theorem ok_hold_faults (T : Tx K mg) : Cal P w K mg base "hold_faults" 3 ["prime", "table", "stage"] (spHf K) := by
  have c_total := ok_total (P := P) (w := w) (base := base) T
  refine T.k_hold_faults.cal sc_hold_faults (fun vs H Q E ⟨_, _, _, _, _, _, _, _, _, h⟩ => spOf_len h) fun f cdv A outer s H vs Q E hr h => ⟨_, (pss_cons (ps_set (i := 3) sc_hold_faults.nd rfl (Or.inl rfl) (pe_lst pa_nil))
        (pss_cons (ps_for PassesOwn.never rfl (itE K rfl T.fenumerate (pa_cons (fldK K (pv 2) rfl) pa_nil)) (tgT K rfl (pgs_cons (pg_name (i := 4) sc_hold_faults.nd rfl (Or.inr rfl)) (pgs_cons (pg_name (i := 5) sc_hold_faults.nd rfl (Or.inl rfl)) pgs_nil)))
          (pss_one (ps_for PassesOwn.never rfl (itE K rfl T.fenumerate (pa_cons (pv 1) pa_nil)) (tgT K rfl (pgs_cons (pg_name (i := 6) sc_hold_faults.nd rfl (Or.inr rfl)) (pgs_cons (pg_name (i := 7) sc_hold_faults.nd rfl (Or.inl rfl)) pgs_nil)))
            (pss_cons (ps_setLc (i := 8) (own := [("rows", 9)]) (g := gName 9) (tt := tYes) rfl sc_hold_faults.nd rfl rfl (sw_true rfl rfl rfl (by decide +kernel)) (itL K (fldK K (pv 2) rfl)) (blkOk_by (N := ["prime", "table", "stage", "found", "place", "holder", "number", "row", "pieces", "rows"]) (sc := defScope s_hold_faults) (by decide +kernel)) (fun _ _ _ _ _ => pg_name (i := 9) sc_hold_faults.nd rfl (Or.inl rfl)) (fun _ _ _ _ _ => pts_nil) (fun _ _ _ _ _ => (pe_ix (ixl K) (pe_ix (ixl K) (pv 9) (pv 6) (fun _ _ => rfl)) (pv 4) (fun _ _ => rfl))))
            (pss_one (ps_if (pt_cmpR op_ne (pe_cal c_total hr rfl (pa_cons (pv 0) (pa_cons (pe_op op_cat (pe_lst (pa_cons (pe_ix (ixl K) (pv 7) (pv 5) (fun _ _ => rfl)) pa_nil)) (pv 8)) pa_nil))) (pe_op op_mod (pe_ix (ixl K) (pe_ix (ixl K) (fldK K (pv 2) rfl) (pv 6) (fun _ _ => rfl)) (pv 4) (fun _ _ => rfl)) (pv 0)) (nomark _)) (pss_one (ps_expr (bmK K (pe_bm PySem.F.plainAttrs_list PySem.F.slot_list_append PySem.F.type_list_append mt_append (pv 3) (pa_cons (pe_tup (pa_cons (pv 5) (pa_cons (pv 6) pa_nil))) pa_nil))))) pss_nil))))))
        (pss_one (ps_ret (pv 3))))), ?_⟩
  obtain ⟨p, m, R, t, s, hp, hm, hR, hs, G, e, ha, k⟩ := h
  obtain ⟨_, u, z, rfl, rfl, hu, hz⟩ := pr_three ha
  have hgl := hs.gb.1
  have hol := outs_le m s.holders
  refine q_newA (r := rNat) (st0 e) fun a hn h0 s1 A1 => ?_
  refine q_for2 (r0 := rNat) (r1 := rNat) s1 (wk_enum (r := rNat) (ys := s.holders) (ev_fld (r := rL rNat s.holders) (ev_var rfl hz) T.c_StageRecord T.n_StageRecord_holders (look_ns nsSR 0 rfl)))
    (fun i σ' H' G' => ∃ x4 x5 x6 x7 x8, σ' = [some (.int p), some u, some z, some (.ref a), x4, x5, x6, x7, x8, none] ∧ rTab t G' u ∧ rSR K s G' z ∧ Acc rNat a [] H' G') ?_ ?_ ?_
  · exact fun H1 G1 s2 => ⟨none, none, none, none, none, rfl, Mo.mo s2.gg hu, Mo.mo s2.gg hz, A1.step s2⟩
  · rintro j y σ' v v2 Ha Hb G' Gs hi s2 e1 e2 e3 hv hv2 ⟨x4, x5, x6, x7, x8, rfl, hu1, hz1, A2⟩
    obtain ⟨x, rfl, hj⟩ := get_enum hi
    cases hv
    cases hv2
    refine s_for2 (r0 := rNat) (r1 := rInts) s2 (wk_enum (r := rInts) (ys := t) (ev_var rfl hu1)) (fun n σ' H' G' => ∃ x6 x7 x8, σ' = [some (.int p), some u, some z, some (.ref a), some (.int (j : Int)), some (.int (x : Int)), x6, x7, x8, none] ∧ rTab t G' u ∧ rSR K s G' z ∧ Acc rNat a [] H' G') ?_ ?_ ?_
    · exact fun H1 G1 s3 => ⟨_, _, _, rfl, Mo.mo s3.gg hu1, Mo.mo s3.gg hz1, (A2.ex e3).step s3⟩
    · rintro n y σ' v v3 Hc Hd G2 Gt hn s4 f1 f2 f3 hv hv3 ⟨x6, x7, x8, rfl, hu2, hz2, A3⟩
      obtain ⟨row, rfl, hrow⟩ := get_enum hn
      cases hv
      obtain ⟨vv, rh, v', h1, h2, h3, h4⟩ := hs.h j x hj n row hrow
      have hnR : n < R := by rw [← hs.tr.1]; exact lt_of_get hrow
      have hjl := lt_of_get hj
      refine q_set (r := rInts (s.gathered.map fun rows => (rows.getD n []).getD j 0)) (ev_lc1 (r := rInt) (fun rows : List (List Int) => (rows.getD n []).getD j 0) (wk_list (r := rTab) (ys := s.gathered) (ev_fld (r := rBox s.gathered) (ev_var rfl hz2) T.c_StageRecord T.n_StageRecord_gathered (look_ns nsSR 1 rfl))) (by omega) (fun _ => rfl) fun rows v G3 hrows e4 hv4 =>
        ev_ix (r := rInt) (xs := rows.getD n []) (n := j) (ev_ix (r := rInts) (xs := rows) (n := n) (ev_var rfl hv4) (ev_var rfl rfl) rfl (get_of_lt [] (by rw [(hs.gb.2 rows hrows).1]; exact hnR))) (ev_var rfl rfl) rfl (get_of_lt 0 (by rw [(hs.gb.2 rows hrows).row hnR]; exact hjl))) s4.gh fun v5 H5 G5 s5 hv5 => ?_
      refine s_if (b := false) (et_same (i := v' % p) ((ev_call (r := rInt (tot p ([vv] ++ s.gathered.map fun rows => (rows.getD n []).getD j 0))) (ea_cons (ev_var (r := rInt p) rfl rfl) (ea_cons (ev_cat (r := rInt) (xs := [vv]) (ys := s.gathered.map fun rows => (rows.getD n []).getD j 0) (ev_lst (r := rInt) (xs := [vv]) (ea_cons (ev_ix (r := rInt) (xs := row) (n := x) (ev_var rfl (Mo.mo s5.gg hv3)) (ev_var rfl rfl) rfl h1) ea_nil) (by simp)) (ev_var rfl hv5) (by rw [List.length_map, List.length_singleton]; omega)) ea_nil)) fun vs H Q h => ⟨p, _, hp, h⟩).is fun _ _ _ z => by rw [← h4]; exact z)
        (ev_modI (i := v') (j := p) (ev_ix (r := rInt) (xs := rh) (n := j) (ev_ix (r := rInts) (xs := s.held) (n := n) (ev_fld (r := rTab s.held) (ev_var rfl (Mo.mo s5.gg hz2)) T.c_StageRecord T.n_StageRecord_held (look_ns nsSR 2 rfl)) (ev_var rfl rfl) rfl h2) (ev_var rfl rfl) rfl h3) (ev_var rfl rfl) hp)) s5.gh (fun z => by cases z) fun _ H6 G6 s6 => ⟨G6, (s4.trans s5).trans s6, (f2.trans s5.gg).trans s6.gg, _, _, _, rfl, Mo.mo (s5.gg.trans s6.gg) hu2, Mo.mo (s5.gg.trans s6.gg) hz2, ((A3.ex f3).step s5).step s6⟩
    · exact fun σ' H1 G1 s4 f1 ⟨x6, x7, x8, hσ, hu2, hz2, A3⟩ => ⟨G1, s4, e2.trans f1, _, _, _, _, _, hσ, hu2, hz2, A3⟩
  · rintro σ' H2 G2 s2 e1 ⟨x4, x5, x6, x7, x8, rfl, hu1, hz1, A2⟩
    exact s_retA s2 h0 rfl A2 fun G3 s3 h3 => k _ H2 G3 s3 h3
/-! order_faults -/
def spOf' (K : PySem.W.Frag) : Sp := fun vs H Q E => ∃ (p : Int) (m R : Nat) (t : List (List Int)) (s : SR), 0 < p ∧ m ≤ 1000 ∧ R ≤ 1000 ∧ StOk p m R t s ∧ spOf [rSR K s] (rL rNat []) vs H Q E
theorem sc_order_faults : FnScope ["stage", "found", "place", "holder", "number", "old"] ["stage"] (defScope s_order_faults) := ⟨rfl, rfl, rfl, by decide +kernel, rfl, by decide +kernel, by decide +kernel⟩
theorem ok_order_faults (T : Tx K mg) : Cal P w K mg base "order_faults" 3 ["stage"] (spOf' K) := by
  refine T.k_order_faults.cal sc_order_faults (fun vs H Q E ⟨_, _, _, _, _, _, _, _, _, h⟩ => spOf_len h) fun f cdv A outer s H vs Q E hr h => ⟨_, (pss_cons (ps_set (i := 1) sc_order_faults.nd rfl (Or.inl rfl) (pe_lst pa_nil))
        (pss_cons (ps_for PassesOwn.never rfl (itE K rfl T.fenumerate (pa_cons (fldK K (pv 0) rfl) pa_nil)) (tgT K rfl (pgs_cons (pg_name (i := 2) sc_order_faults.nd rfl (Or.inl rfl)) (pgs_cons (pg_name (i := 3) sc_order_faults.nd rfl (Or.inl rfl)) pgs_nil)))
          (pss_one (ps_for PassesOwn.never rfl (itE K rfl T.fenumerate (pa_cons (fldK K (pv 0) rfl) pa_nil)) (tgT K rfl (pgs_cons (pg_name (i := 4) sc_order_faults.nd rfl (Or.inl rfl)) (pgs_cons (pg_name (i := 5) sc_order_faults.nd rfl (Or.inl rfl)) pgs_nil)))
            (pss_one (ps_if (pt_cmpR op_ne (pe_ix (ixl K) (pe_ix (ixl K) (fldK K (pv 0) rfl) (pv 4) (fun _ _ => rfl)) (pv 2) (fun _ _ => rfl)) (pe_ix (ixl K) (pe_ix (ixl K) (fldK K (pv 0) rfl) (pv 5) (fun _ _ => rfl)) (pv 2) (fun _ _ => rfl)) (nomark _)) (pss_one (ps_expr (bmK K (pe_bm PySem.F.plainAttrs_list PySem.F.slot_list_append PySem.F.type_list_append mt_append (pv 1) (pa_cons (pe_tup (pa_cons (pv 3) (pa_cons (pv 4) pa_nil))) pa_nil))))) pss_nil)))))
        (pss_one (ps_ret (pv 1))))), ?_⟩
  obtain ⟨p, m, R, t, s, hp, hm, hR, hs, G, e, ha, k⟩ := h
  obtain ⟨z, rfl, hz⟩ := pr_one ha
  refine q_newA (r := rNat) (st0 e) fun a hn h0 s1 A1 => ?_
  refine q_for2 (r0 := rNat) (r1 := rNat) s1 (wk_enum (r := rNat) (ys := s.holders) (ev_fld (r := rL rNat s.holders) (ev_var rfl hz) T.c_StageRecord T.n_StageRecord_holders (look_ns nsSR 0 rfl)))
    (fun i σ' H' G' => ∃ x2 x3 x4 x5, σ' = [some z, some (.ref a), x2, x3, x4, x5] ∧ rSR K s G' z ∧ Acc rNat a [] H' G') ?_ ?_ ?_
  · exact fun H1 G1 s2 => ⟨none, none, none, none, rfl, Mo.mo s2.gg hz, A1.step s2⟩
  · rintro j y σ' v v2 Ha Hb G' Gs hi s2 e1 e2 e3 hv hv2 ⟨x2, x3, x4, x5, rfl, hz1, A2⟩
    obtain ⟨x, rfl, hj⟩ := get_enum hi
    cases hv
    cases hv2
    refine s_for2 (r0 := rNat) (r1 := rNat) s2 (wk_enum (r := rNat) (ys := s.order) (ev_fld (r := rL rNat s.order) (ev_var rfl hz1) T.c_StageRecord T.n_StageRecord_order (look_ns nsSR 3 rfl))) (fun n σ' H' G' => ∃ x4 x5, σ' = [some z, some (.ref a), some (.int (j : Int)), some (.int (x : Int)), x4, x5] ∧ rSR K s G' z ∧ Acc rNat a [] H' G') ?_ ?_ ?_
    · exact fun H1 G1 s3 => ⟨_, _, rfl, Mo.mo s3.gg hz1, (A2.ex e3).step s3⟩
    · rintro n y σ' v v3 Hc Hd G2 Gt hn s4 f1 f2 f3 hv hv3 ⟨x4, x5, rfl, hz2, A3⟩
      obtain ⟨old, rfl, hold⟩ := get_enum hn
      cases hv
      cases hv3
      obtain ⟨r1, r2, vv, h1, h2, h3, h4⟩ := hs.o j x hj n old hold
      exact s_if (b := false) (et_same (i := vv) (ev_ix (r := rInt) (xs := r1) (n := j) (ev_ix (r := rInts) (xs := s.ordered) (n := n) (ev_fld (r := rTab s.ordered) (ev_var rfl hz2) T.c_StageRecord T.n_StageRecord_ordered (look_ns nsSR 4 rfl)) (ev_var rfl rfl) rfl h1) (ev_var rfl rfl) rfl h2)
        (ev_ix (r := rInt) (xs := r2) (n := j) (ev_ix (r := rInts) (xs := s.held) (n := old) (ev_fld (r := rTab s.held) (ev_var rfl hz2) T.c_StageRecord T.n_StageRecord_held (look_ns nsSR 2 rfl)) (ev_var rfl rfl) rfl h3) (ev_var rfl rfl) rfl h4)) s4.gh (fun z => by cases z) fun _ H6 G6 s6 => ⟨G6, s4.trans s6, f2.trans s6.gg, _, _, rfl, Mo.mo s6.gg hz2, (A3.ex f3).step s6⟩
    · exact fun σ' H1 G1 s4 f1 ⟨x4, x5, hσ, hz2, A3⟩ => ⟨G1, s4, e2.trans f1, _, _, _, _, hσ, hz2, A3⟩
  · rintro σ' H2 G2 s2 e1 ⟨x2, x3, x4, x5, rfl, hz1, A2⟩
    exact s_retA s2 h0 rfl A2 fun G3 s3 h3 => k _ H2 G3 s3 h3
/-! spread_faults -/
def spSf (K : PySem.W.Frag) : Sp := fun vs H Q E => ∃ (p : Int) (m R : Nat) (t : List (List Int)) (s : SR), 0 < p ∧ m ≤ 1000 ∧ R ≤ 1000 ∧ StOk p m R t s ∧ spOf [rInt p, rSR K s] (rL rNat []) vs H Q E
theorem sc_spread_faults : FnScope ["prime", "stage", "found", "place", "holder", "number", "row"] ["prime", "stage"] (defScope s_spread_faults) := ⟨rfl, rfl, rfl, by decide +kernel, rfl, by decide +kernel, by decide +kernel⟩
theorem ok_spread_faults (T : Tx K mg) : Cal P w K mg base "spread_faults" 3 ["prime", "stage"] (spSf K) := by
  have c_join := ok_join (P := P) (w := w) (base := base) T
  refine T.k_spread_faults.cal sc_spread_faults (fun vs H Q E ⟨_, _, _, _, _, _, _, _, _, h⟩ => spOf_len h) fun f cdv A outer s H vs Q E hr h => ⟨_, (pss_cons (ps_set (i := 2) sc_spread_faults.nd rfl (Or.inl rfl) (pe_lst pa_nil))
        (pss_cons (ps_for PassesOwn.never rfl (itE K rfl T.fenumerate (pa_cons (fldK K (pv 1) rfl) pa_nil)) (tgT K rfl (pgs_cons (pg_name (i := 3) sc_spread_faults.nd rfl (Or.inl rfl)) (pgs_cons (pg_name (i := 4) sc_spread_faults.nd rfl (Or.inl rfl)) pgs_nil)))
          (pss_one (ps_for PassesOwn.never rfl (itE K rfl T.fenumerate (pa_cons (fldK K (pv 1) rfl) pa_nil)) (tgT K rfl (pgs_cons (pg_name (i := 5) sc_spread_faults.nd rfl (Or.inl rfl)) (pgs_cons (pg_name (i := 6) sc_spread_faults.nd rfl (Or.inl rfl)) pgs_nil)))
            (pss_one (ps_if (pt_cmpR op_ne (pe_cal c_join hr rfl (pa_cons (pv 0) (pa_cons (pe_ix (ixl K) (pe_ix (ixl K) (fldK K (pv 1) rfl) (pv 3) (fun _ _ => rfl)) (pv 5) (fun _ _ => rfl)) pa_nil))) (pe_op op_mod (pe_ix (ixl K) (pv 6) (pv 3) (fun _ _ => rfl)) (pv 0)) (nomark _)) (pss_one (ps_expr (bmK K (pe_bm PySem.F.plainAttrs_list PySem.F.slot_list_append PySem.F.type_list_append mt_append (pv 2) (pa_cons (pe_tup (pa_cons (pv 4) (pa_cons (pv 5) pa_nil))) pa_nil))))) pss_nil)))))
        (pss_one (ps_ret (pv 2))))), ?_⟩
  obtain ⟨p, m, R, t, s, hp, hm, hR, hs, G, e, ha, k⟩ := h
  obtain ⟨_, z, rfl, rfl, hz⟩ := pr_two ha
  refine q_newA (r := rNat) (st0 e) fun a hn h0 s1 A1 => ?_
  refine q_for2 (r0 := rNat) (r1 := rNat) s1 (wk_enum (r := rNat) (ys := s.holders) (ev_fld (r := rL rNat s.holders) (ev_var rfl hz) T.c_StageRecord T.n_StageRecord_holders (look_ns nsSR 0 rfl)))
    (fun i σ' H' G' => ∃ x2 x3 x4 x5, σ' = [some (.int p), some z, some (.ref a), x2, x3, x4, x5] ∧ rSR K s G' z ∧ Acc rNat a [] H' G') ?_ ?_ ?_
  · exact fun H1 G1 s2 => ⟨none, none, none, none, rfl, Mo.mo s2.gg hz, A1.step s2⟩
  · rintro j y σ' v v2 Ha Hb G' Gs hi s2 e1 e2 e3 hv hv2 ⟨x2, x3, x4, x5, rfl, hz1, A2⟩
    obtain ⟨x, rfl, hj⟩ := get_enum hi
    cases hv
    cases hv2
    refine s_for2 (r0 := rNat) (r1 := rInts) s2 (wk_enum (r := rInts) (ys := s.ordered) (ev_fld (r := rTab s.ordered) (ev_var rfl hz1) T.c_StageRecord T.n_StageRecord_ordered (look_ns nsSR 4 rfl))) (fun n σ' H' G' => ∃ x4 x5, σ' = [some (.int p), some z, some (.ref a), some (.int (j : Int)), some (.int (x : Int)), x4, x5] ∧ rSR K s G' z ∧ Acc rNat a [] H' G') ?_ ?_ ?_
    · exact fun H1 G1 s3 => ⟨_, _, rfl, Mo.mo s3.gg hz1, (A2.ex e3).step s3⟩
    · rintro n y σ' v v3 Hc Hd G2 Gt hn s4 f1 f2 f3 hv hv3 ⟨x4, x5, rfl, hz2, A3⟩
      obtain ⟨row, rfl, hrow⟩ := get_enum hn
      cases hv
      obtain ⟨b, pc, vv, h1, h2, h3, h4⟩ := hs.sp j x hj n row hrow
      exact s_if (b := false) (et_same (i := tot p pc) (ev_call (ea_cons (ev_var (r := rInt p) rfl rfl) (ea_cons (ev_ix (r := rInts) (xs := b) (n := n) (ev_ix (r := rTab) (xs := s.spread) (n := j) (ev_fld (r := rBox s.spread) (ev_var rfl hz2) T.c_StageRecord T.n_StageRecord_spread (look_ns nsSR 5 rfl)) (ev_var rfl rfl) rfl h1) (ev_var rfl rfl) rfl h2) ea_nil)) fun vs H Q h => ⟨p, pc, hp, h⟩)
        ((ev_modI (i := vv) (j := p) (ev_ix (r := rInt) (xs := row) (n := j) (ev_var rfl hv3) (ev_var rfl rfl) rfl h3) (ev_var rfl rfl) hp).is fun _ _ _ z => by rw [h4]; exact z)) s4.gh (fun z => by cases z) fun _ H6 G6 s6 => ⟨G6, s4.trans s6, f2.trans s6.gg, _, _, rfl, Mo.mo s6.gg hz2, (A3.ex f3).step s6⟩
    · exact fun σ' H1 G1 s4 f1 ⟨x4, x5, hσ, hz2, A3⟩ => ⟨G1, s4, e2.trans f1, _, _, _, _, hσ, hz2, A3⟩
  · rintro σ' H2 G2 s2 e1 ⟨x2, x3, x4, x5, rfl, hz1, A2⟩
    exact s_retA s2 h0 rfl A2 fun G3 s3 h3 => k _ H2 G3 s3 h3
/-! add_faults -/
def spAf (K : PySem.W.Frag) : Sp := fun vs H Q E => ∃ (p : Int) (m R : Nat) (t : List (List Int)) (s : SR), 0 < p ∧ m ≤ 1000 ∧ R ≤ 1000 ∧ StOk p m R t s ∧ spOf [rInt p, rNat m, rSR K s] (rL rNat []) vs H Q E
theorem sc_add_faults : FnScope ["prime", "mixers", "stage", "found", "mixer", "number", "row", "pieces", "rows"] ["prime", "mixers", "stage"] (defScope s_add_faults) := ⟨rfl, rfl, rfl, by decide +kernel, rfl, by decide +kernel, by decide +kernel⟩
theorem ok_add_faults (T : Tx K mg) : Cal P w K mg base "add_faults" 3 ["prime", "mixers", "stage"] (spAf K) := by
  have c_total := ok_total (P := P) (w := w) (base := base) T
  refine T.k_add_faults.cal sc_add_faults (fun vs H Q E ⟨_, _, _, _, _, _, _, _, _, h⟩ => spOf_len h) fun f cdv A outer s H vs Q E hr h => ⟨_, (pss_cons (ps_set (i := 3) sc_add_faults.nd rfl (Or.inl rfl) (pe_lst pa_nil))
        (pss_cons (ps_for PassesOwn.never rfl (pi_range1 rfl T.frange (pa_cons (pv 1) pa_nil)) (pg_name (i := 4) sc_add_faults.nd rfl (Or.inr rfl))
          (pss_one (ps_for PassesOwn.never rfl (itE K rfl T.fenumerate (pa_cons (fldK K (pv 2) rfl) pa_nil)) (tgT K rfl (pgs_cons (pg_name (i := 5) sc_add_faults.nd rfl (Or.inr rfl)) (pgs_cons (pg_name (i := 6) sc_add_faults.nd rfl (Or.inl rfl)) pgs_nil)))
            (pss_cons (ps_setLc (i := 7) (own := [("rows", 8)]) (g := gName 8) (tt := tYes) rfl sc_add_faults.nd rfl rfl (sw_true rfl rfl rfl (by decide +kernel)) (itL K (fldK K (pv 2) rfl)) (blkOk_by (N := ["prime", "mixers", "stage", "found", "mixer", "number", "row", "pieces", "rows"]) (sc := defScope s_add_faults) (by decide +kernel)) (fun _ _ _ _ _ => pg_name (i := 8) sc_add_faults.nd rfl (Or.inl rfl)) (fun _ _ _ _ _ => pts_nil) (fun _ _ _ _ _ => (pe_ix (ixl K) (pe_ix (ixl K) (pv 8) (pv 5) (fun _ _ => rfl)) (pv 4) (fun _ _ => rfl))))
            (pss_one (ps_if (pt_cmpR op_ne (pe_cal c_total hr rfl (pa_cons (pv 0) (pa_cons (pv 7) pa_nil))) (pe_op op_mod (pe_ix (ixl K) (pv 6) (pv 4) (fun _ _ => rfl)) (pv 0)) (nomark _)) (pss_one (ps_expr (bmK K (pe_bm PySem.F.plainAttrs_list PySem.F.slot_list_append PySem.F.type_list_append mt_append (pv 3) (pa_cons (pe_tup (pa_cons (pv 4) (pa_cons (pv 5) pa_nil))) pa_nil))))) pss_nil))))))
        (pss_one (ps_ret (pv 3))))), ?_⟩
  obtain ⟨p, m, R, t, s, hp, hm, hR, hs, G, e, ha, k⟩ := h
  obtain ⟨_, _, z, rfl, rfl, rfl, hz⟩ := pr_three ha
  have hsl := hs.sb.1
  have hhl := hs.hl
  refine q_newA (r := rNat) (st0 e) fun a hn h0 s1 A1 => ?_
  refine q_for1 (r0 := rNat) s1 (wk_rng1 (n := m) (ev_var rfl rfl) (by omega))
    (fun i σ' H' G' => ∃ x4 x5 x6 x7, σ' = [some (.int p), some (.int (m : Int)), some z, some (.ref a), x4, x5, x6, x7, none] ∧ rSR K s G' z ∧ Acc rNat a [] H' G') ?_ ?_ ?_
  · exact fun H1 G1 s2 => ⟨none, none, none, none, rfl, Mo.mo s2.gg hz, A1.step s2⟩
  · rintro x y σ' v Ha Hb G' Gs hi s2 e1 e2 e3 hv ⟨x4, x5, x6, x7, rfl, hz1, A2⟩
    cases hv
    obtain ⟨rfl, hxm⟩ := get_range hi
    refine s_for2 (r0 := rNat) (r1 := rInts) s2 (wk_enum (r := rInts) (ys := s.table) (ev_fld (r := rTab s.table) (ev_var rfl hz1) T.c_StageRecord T.n_StageRecord_table (look_ns nsSR 6 rfl))) (fun n σ' H' G' => ∃ x5 x6 x7, σ' = [some (.int p), some (.int (m : Int)), some z, some (.ref a), some (.int (x : Int)), x5, x6, x7, none] ∧ rSR K s G' z ∧ Acc rNat a [] H' G') ?_ ?_ ?_
    · exact fun H1 G1 s3 => ⟨_, _, _, rfl, Mo.mo s3.gg hz1, (A2.ex e3).step s3⟩
    · rintro n y σ' v v3 Hc Hd G2 Gt hn s4 f1 f2 f3 hv hv3 ⟨x5, x6, x7, rfl, hz2, A3⟩
      obtain ⟨row, rfl, hrow⟩ := get_enum hn
      cases hv
      obtain ⟨vv, h1, h2⟩ := hs.a x hxm n row hrow
      have hnR : n < R := by rw [← hs.tr'.1]; exact lt_of_get hrow
      refine q_set (r := rInts (s.spread.map fun rows => (rows.getD n []).getD x 0)) (ev_lc1 (r := rInt) (fun rows : List (List Int) => (rows.getD n []).getD x 0) (wk_list (r := rTab) (ys := s.spread) (ev_fld (r := rBox s.spread) (ev_var rfl hz2) T.c_StageRecord T.n_StageRecord_spread (look_ns nsSR 5 rfl))) (by omega) (fun _ => rfl) fun rows v G3 hrows e4 hv4 =>
        ev_ix (r := rInt) (xs := rows.getD n []) (n := x) (ev_ix (r := rInts) (xs := rows) (n := n) (ev_var rfl hv4) (ev_var rfl rfl) rfl (get_of_lt [] (by rw [(hs.sb.2 rows hrows).1]; exact hnR))) (ev_var rfl rfl) rfl (get_of_lt 0 (by rw [(hs.sb.2 rows hrows).row hnR]; exact hxm))) s4.gh fun v5 H5 G5 s5 hv5 => ?_
      refine s_if (b := false) (et_same (i := vv % p) ((ev_call (r := rInt (tot p (s.spread.map fun rows => (rows.getD n []).getD x 0))) (ea_cons (ev_var (r := rInt p) rfl rfl) (ea_cons (ev_var rfl hv5) ea_nil)) fun vs H Q h => ⟨p, _, hp, h⟩).is fun _ _ _ z => by rw [← h2]; exact z)
        (ev_modI (i := vv) (j := p) (ev_ix (r := rInt) (xs := row) (n := x) (ev_var rfl (Mo.mo s5.gg hv3)) (ev_var rfl rfl) rfl h1) (ev_var rfl rfl) hp)) s5.gh (fun z => by cases z) fun _ H6 G6 s6 => ⟨G6, (s4.trans s5).trans s6, (f2.trans s5.gg).trans s6.gg, _, _, _, rfl, Mo.mo (s5.gg.trans s6.gg) hz2, ((A3.ex f3).step s5).step s6⟩
    · exact fun σ' H1 G1 s4 f1 ⟨x5, x6, x7, hσ, hz2, A3⟩ => ⟨G1, s4, e2.trans f1, _, _, _, _, hσ, hz2, A3⟩
  · rintro σ' H2 G2 s2 e1 ⟨x4, x5, x6, x7, rfl, hz1, A2⟩
    exact s_retA s2 h0 rfl A2 fun G3 s3 h3 => k _ H2 G3 s3 h3
end
end Vc
namespace Vm
/-- how many are x -/
def cnt (l : List Int) (x : Nat) : Nat := (l.filter fun v => decide (v = (x : Int))).length
theorem cnt_take {l : List Int} {i : Nat} {v : Int} (h : l[i]? = some v) (x : Nat) : cnt (l.take (i + 1)) x = cnt (l.take i) x + (if v = (x : Int) then 1 else 0) := by
  unfold cnt
  rw [List.take_succ, h, List.filter_append, List.length_append]
  show _ + (List.filter _ [v]).length = _
  rw [List.filter_cons]
  by_cases e : v = (x : Int)
  · simp [e]
  · simp [e]
theorem cnt_perm {l l' : List Int} (h : l.Perm l') (x : Nat) : cnt l x = cnt l' x := (h.filter _).length_eq
def cntF (l : List Int) (k : Nat) : List Nat := (List.range k).map fun x => cnt l x
theorem cntF_len (l : List Int) (k : Nat) : (cntF l k).length = k := by simp [cntF]
theorem cntF_get {l : List Int} {k n : Nat} (h : n < k) : (cntF l k)[n]? = some (cnt l n) := by
  unfold cntF
  rw [List.getElem?_map, List.getElem?_range h]
  rfl
theorem cntF_set {l : List Int} {k i n : Nat} (h : l[i]? = some (n : Int)) (hn : n < k) : (cntF (l.take i) k).set n (cnt (l.take i) n + 1) = cntF (l.take (i + 1)) k := by
  apply List.ext_getElem?
  intro j
  rw [List.getElem?_set]
  split
  · rename_i e
    subst e
    rw [cntF_len, if_pos hn, cntF_get hn, cnt_take h, if_pos rfl]
  · rename_i e
    by_cases hj : j < k
    · rw [cntF_get hj, cntF_get hj, cnt_take h, if_neg (by omega), Nat.add_zero]
    · rw [List.getElem?_eq_none (by rw [cntF_len]; omega), List.getElem?_eq_none (by rw [cntF_len]; omega)]
theorem cntF_out {l : List Int} {k i : Nat} {v : Int} (h : l[i]? = some v) (hv : (k : Int) ≤ v) : cntF (l.take (i + 1)) k = cntF (l.take i) k := by
  unfold cntF
  apply List.map_congr_left
  intro x hx
  have := List.mem_range.mp hx
  rw [cnt_take h, if_neg (by omega), Nat.add_zero]
/-- the stages one behind another -/
def ChainOk (p : Int) (m R : Nat) (t : List (List Int)) (ss : List SR) : Prop := ∀ i s, ss[i]? = some s → StOk p m R (lastF t (ss.take i)) s
theorem chain_ok {p : Int} {m R : Nat} (hm1 : 1 ≤ m) : ∀ {ls : List (List Nat)} {cs : List SC} {t : List (List Int)}, SCsOk m R ls cs → Rect t R m → ChainOk p m R t (stagesF p m t ls cs)
  | [], [], t, _, _ => fun i s h => by
    have h' : ([] : List SR)[i]? = some s := h
    simp at h'
  | l :: ls, c :: cs, t, .cons h h1 hr, ht => fun i s hi => by
    have hs := stageF_ok (p := p) ht hm1 h1 h
    cases i with
    | zero =>
      have e : stageF p m t (outs m l) c = s := Option.some.inj hi
      rw [← e]
      exact hs
    | succ i => exact chain_ok hm1 hr hs.tr' i s hi
end Vm
namespace Vc
open PySem PySem.Spec PyProof.Rows L2 Vm
section
variable {P : Program} {w : World} {K : PySem.W.Frag} {mg : Str → Option Value} {base : Heap}
theorem ev_lc0 {σ : L2.St} {G : Hp} {ta te : TE} {g : TG} {vs : List Nat} (h : Ev ta σ G (rL rNat [])) : Ev (tLc (iList K ta) g tYes te vs) σ G (rL rNat []) :=
  ev_lc (β := Nat) (ys := []) (S := fun _ _ _ _ => False) (fun _ => (0 : Nat)) (wk_nil h) (by simp) (fun _ _ _ _ _ z => z) (fun _ _ _ z => z.elim) (fun _ _ _ hy => by cases hy)
/-! stage_faults -/
theorem sc_stage_faults : FnScope ["prime", "mixers", "table", "stage", "found", "mixer", "row"] ["prime", "mixers", "table", "stage"] (defScope s_stage_faults) := ⟨rfl, rfl, rfl, by decide +kernel, rfl, by decide +kernel, by decide +kernel⟩
theorem ok_stage_faults (T : Tx K mg) : Cal P w K mg base "stage_faults" 4 ["prime", "mixers", "table", "stage"] (spGf K) := by
  have c_gather_faults := ok_gather_faults (P := P) (w := w) (base := base) T
  have c_hold_faults := ok_hold_faults (P := P) (w := w) (base := base) T
  have c_order_faults := ok_order_faults (P := P) (w := w) (base := base) T
  have c_spread_faults := ok_spread_faults (P := P) (w := w) (base := base) T
  have c_add_faults := ok_add_faults (P := P) (w := w) (base := base) T
  refine T.k_stage_faults.cal sc_stage_faults (fun vs H Q E ⟨_, _, _, _, _, _, _, _, _, h⟩ => spOf_len h) fun f cdv A outer s H vs Q E hr h => ⟨_, (pss_cons (ps_setLc (i := 4) (own := [("mixer", 5), ("row", 6)]) (g := gTup K 2 (gCons (gName 5) (gCons (gName 6) gNil))) (tt := tYes) rfl sc_stage_faults.nd rfl rfl (sw_true rfl rfl rfl (by decide +kernel)) (itL K (pe_cal c_gather_faults hr rfl (pa_cons (pv 0) (pa_cons (pv 1) (pa_cons (pv 2) (pa_cons (pv 3) pa_nil)))))) (blkOk_by (N := ["prime", "mixers", "table", "stage", "found", "mixer", "row"]) (sc := defScope s_stage_faults) (by decide +kernel)) (fun _ _ _ _ _ => tgT K rfl (pgs_cons (pg_name (i := 5) sc_stage_faults.nd rfl (Or.inl rfl)) (pgs_cons (pg_name (i := 6) sc_stage_faults.nd rfl (Or.inl rfl)) pgs_nil))) (fun _ _ _ _ _ => pts_nil) (fun _ _ _ _ _ => (pe_tup (pa_cons pe_str (pa_cons (pv 5) (pa_cons (pv 6) pa_nil))))))
        (pss_cons (ps_set (i := 4) sc_stage_faults.nd rfl (Or.inl rfl) (pe_op op_cat (pv 4) (pe_lc (own := [("mixer", 5), ("row", 6)]) (g := gTup K 2 (gCons (gName 5) (gCons (gName 6) gNil))) (tt := tYes) rfl sc_stage_faults.nd (itL K (pe_cal c_hold_faults hr rfl (pa_cons (pv 0) (pa_cons (pv 2) (pa_cons (pv 3) pa_nil))))) (blkOk_by (N := ["prime", "mixers", "table", "stage", "found", "mixer", "row"]) (sc := defScope s_stage_faults) (by decide +kernel)) (fun _ _ _ _ _ => tgT K rfl (pgs_cons (pg_name (i := 5) sc_stage_faults.nd rfl (Or.inl rfl)) (pgs_cons (pg_name (i := 6) sc_stage_faults.nd rfl (Or.inl rfl)) pgs_nil))) (fun _ _ _ _ _ => pts_nil) (fun _ _ _ _ _ => (pe_tup (pa_cons pe_str (pa_cons (pv 5) (pa_cons (pv 6) pa_nil))))))))
        (pss_cons (ps_set (i := 4) sc_stage_faults.nd rfl (Or.inl rfl) (pe_op op_cat (pv 4) (pe_lc (own := [("mixer", 5), ("row", 6)]) (g := gTup K 2 (gCons (gName 5) (gCons (gName 6) gNil))) (tt := tYes) rfl sc_stage_faults.nd (itL K (pe_cal c_order_faults hr rfl (pa_cons (pv 3) pa_nil))) (blkOk_by (N := ["prime", "mixers", "table", "stage", "found", "mixer", "row"]) (sc := defScope s_stage_faults) (by decide +kernel)) (fun _ _ _ _ _ => tgT K rfl (pgs_cons (pg_name (i := 5) sc_stage_faults.nd rfl (Or.inl rfl)) (pgs_cons (pg_name (i := 6) sc_stage_faults.nd rfl (Or.inl rfl)) pgs_nil))) (fun _ _ _ _ _ => pts_nil) (fun _ _ _ _ _ => (pe_tup (pa_cons pe_str (pa_cons (pv 5) (pa_cons (pv 6) pa_nil))))))))
        (pss_cons (ps_set (i := 4) sc_stage_faults.nd rfl (Or.inl rfl) (pe_op op_cat (pv 4) (pe_lc (own := [("mixer", 5), ("row", 6)]) (g := gTup K 2 (gCons (gName 5) (gCons (gName 6) gNil))) (tt := tYes) rfl sc_stage_faults.nd (itL K (pe_cal c_spread_faults hr rfl (pa_cons (pv 0) (pa_cons (pv 3) pa_nil)))) (blkOk_by (N := ["prime", "mixers", "table", "stage", "found", "mixer", "row"]) (sc := defScope s_stage_faults) (by decide +kernel)) (fun _ _ _ _ _ => tgT K rfl (pgs_cons (pg_name (i := 5) sc_stage_faults.nd rfl (Or.inl rfl)) (pgs_cons (pg_name (i := 6) sc_stage_faults.nd rfl (Or.inl rfl)) pgs_nil))) (fun _ _ _ _ _ => pts_nil) (fun _ _ _ _ _ => (pe_tup (pa_cons pe_str (pa_cons (pv 5) (pa_cons (pv 6) pa_nil))))))))
        (pss_one (ps_ret (pe_op op_cat (pv 4) (pe_lc (own := [("mixer", 5), ("row", 6)]) (g := gTup K 2 (gCons (gName 5) (gCons (gName 6) gNil))) (tt := tYes) rfl sc_stage_faults.nd (itL K (pe_cal c_add_faults hr rfl (pa_cons (pv 0) (pa_cons (pv 1) (pa_cons (pv 3) pa_nil))))) (blkOk_by (N := ["prime", "mixers", "table", "stage", "found", "mixer", "row"]) (sc := defScope s_stage_faults) (by decide +kernel)) (fun _ _ _ _ _ => tgT K rfl (pgs_cons (pg_name (i := 5) sc_stage_faults.nd rfl (Or.inl rfl)) (pgs_cons (pg_name (i := 6) sc_stage_faults.nd rfl (Or.inl rfl)) pgs_nil))) (fun _ _ _ _ _ => pts_nil) (fun _ _ _ _ _ => (pe_tup (pa_cons pe_str (pa_cons (pv 5) (pa_cons (pv 6) pa_nil))))))))))))), ?_⟩
  obtain ⟨p, m, R, t, s, hp, hm, hR, hs, G, e, ha, k⟩ := h
  obtain ⟨_, _, u, z, rfl, rfl, rfl, hu, hz⟩ := pr_four ha
  refine q_set (r := rL rNat []) (ev_lc0 (ev_call (ea_cons (ev_var (r := rInt p) rfl rfl) (ea_cons (ev_var (r := rNat m) rfl rfl) (ea_cons (ev_var (r := rTab t) rfl hu) (ea_cons (ev_var (r := rSR K s) rfl hz) ea_nil)))) fun vs H Q h => ⟨p, m, R, t, s, hp, hm, hR, hs, h⟩)) e fun v1 H1 G1 s1 hv1 => ?_
  refine q_set (r := rL rNat []) (ev_cat (r := rNat) (xs := []) (ys := []) (ev_var rfl hv1) (ev_lc0 (ev_call (ea_cons (ev_var (r := rInt p) rfl rfl) (ea_cons (ev_var (r := rTab t) rfl (Mo.mo s1.gg hu)) (ea_cons (ev_var (r := rSR K s) rfl (Mo.mo s1.gg hz)) ea_nil))) fun vs H Q h => ⟨p, m, R, t, s, hp, hm, hR, hs, h⟩)) (by simp)) s1.gh fun v2 H2 G2 s2 hv2 => ?_
  have e2 := s1.gg.trans s2.gg
  refine q_set (r := rL rNat []) (ev_cat (r := rNat) (xs := []) (ys := []) (ev_var rfl hv2) (ev_lc0 (ev_call (ea_cons (ev_var (r := rSR K s) rfl (Mo.mo e2 hz)) ea_nil) fun vs H Q h => ⟨p, m, R, t, s, hp, hm, hR, hs, h⟩)) (by simp)) s2.gh fun v3 H3 G3 s3 hv3 => ?_
  have e3 := e2.trans s3.gg
  refine q_set (r := rL rNat []) (ev_cat (r := rNat) (xs := []) (ys := []) (ev_var rfl hv3) (ev_lc0 (ev_call (ea_cons (ev_var (r := rInt p) rfl rfl) (ea_cons (ev_var (r := rSR K s) rfl (Mo.mo e3 hz)) ea_nil)) fun vs H Q h => ⟨p, m, R, t, s, hp, hm, hR, hs, h⟩)) (by simp)) s3.gh fun v4 H4 G4 s4 hv4 => ?_
  have e4 := e3.trans s4.gg
  exact s_ret (r := rL rNat []) (ev_cat (r := rNat) (xs := []) (ys := []) (ev_var rfl hv4) (ev_lc0 (ev_call (ea_cons (ev_var (r := rInt p) rfl rfl) (ea_cons (ev_var (r := rNat m) rfl rfl) (ea_cons (ev_var (r := rSR K s) rfl (Mo.mo e4 hz)) ea_nil))) fun vs H Q h => ⟨p, m, R, t, s, hp, hm, hR, hs, h⟩)) (by simp)) s4.gh fun v5 H5 G5 s5 hv5 => k v5 H5 G5 ((((s1.trans s2).trans s3).trans s4).trans s5) hv5
/-! faults -/
def spFaults (K : PySem.W.Frag) : Sp := fun vs H Q E => ∃ (p m R : Nat) (fam : List (List Nat)) (t : List (List Int)) (ss : List SR) (o : List Int), 0 < p ∧ m ≤ 1000 ∧ R ≤ 1000 ∧ ss.length ≤ 1000 ∧ ChainOk p m R t ss ∧ o = vals p (lastF t ss) ∧ spOf [rRR K p m fam t ss o] (rL rNat []) vs H Q E
theorem sc_faults : FnScope ["record", "found", "table", "number", "stage", "word", "mixer", "row", "shares"] ["record"] (defScope s_faults) := ⟨rfl, rfl, rfl, by decide +kernel, rfl, by decide +kernel, by decide +kernel⟩
theorem ok_faults (T : Tx K mg) : Cal P w K mg base "faults" 5 ["record"] (spFaults K) := by
  have c_join := ok_join (P := P) (w := w) (base := base) T
  have c_stage_faults := ok_stage_faults (P := P) (w := w) (base := base) T
  refine T.k_faults.cal sc_faults (fun vs H Q E ⟨_, _, _, _, _, _, _, _, _, _, _, _, _, h⟩ => spOf_len h) fun f cdv A outer s H vs Q E hr h => ⟨_, (pss_cons (ps_set (i := 1) sc_faults.nd rfl (Or.inl rfl) (pe_lst pa_nil))
        (pss_cons (ps_set (i := 2) sc_faults.nd rfl (Or.inl rfl) (fldK K (pv 0) rfl))
        (pss_cons (ps_for PassesOwn.never rfl (itE K rfl T.fenumerate (pa_cons (fldK K (pv 0) rfl) pa_nil)) (tgT K rfl (pgs_cons (pg_name (i := 3) sc_faults.nd rfl (Or.inl rfl)) (pgs_cons (pg_name (i := 4) sc_faults.nd rfl (Or.inl rfl)) pgs_nil)))
          (pss_cons (ps_for PassesOwn.never rfl (itL K (pe_cal c_stage_faults hr rfl (pa_cons (fldK K (pv 0) rfl) (pa_cons (fldK K (pv 0) rfl) (pa_cons (pv 2) (pa_cons (pv 4) pa_nil)))))) (tgT K rfl (pgs_cons (pg_name (i := 5) sc_faults.nd rfl (Or.inl rfl)) (pgs_cons (pg_name (i := 6) sc_faults.nd rfl (Or.inl rfl)) (pgs_cons (pg_name (i := 7) sc_faults.nd rfl (Or.inl rfl)) pgs_nil))))
            (pss_one (ps_expr (bmK K (pe_bm PySem.F.plainAttrs_list PySem.F.slot_list_append PySem.F.type_list_append mt_append (pv 1) (pa_cons (pe_tup (pa_cons (pv 3) (pa_cons (pv 5) (pa_cons (pv 6) (pa_cons (pv 7) pa_nil))))) pa_nil))))))
          (pss_one (ps_set (i := 2) sc_faults.nd rfl (Or.inl rfl) (fldK K (pv 4) rfl)))))
        (pss_cons (ps_for PassesOwn.never rfl (itE K rfl T.fenumerate (pa_cons (pv 2) pa_nil)) (tgT K rfl (pgs_cons (pg_name (i := 7) sc_faults.nd rfl (Or.inl rfl)) (pgs_cons (pg_name (i := 8) sc_faults.nd rfl (Or.inl rfl)) pgs_nil)))
          (pss_one (ps_if (pt_cmpR op_ne (pe_cal c_join hr rfl (pa_cons (fldK K (pv 0) rfl) (pa_cons (pv 8) pa_nil))) (pe_op op_mod (pe_ix (ixl K) (fldK K (pv 0) rfl) (pv 7) (fun _ _ => rfl)) (fldK K (pv 0) rfl)) (nomark _)) (pss_one (ps_expr (bmK K (pe_bm PySem.F.plainAttrs_list PySem.F.slot_list_append PySem.F.type_list_append mt_append (pv 1) (pa_cons (pe_tup (pa_cons (pe_callB (cLen K) (by rfl) T.flen PySem.boot_len (pa_cons (fldK K (pv 0) rfl) pa_nil)) (pa_cons pe_str (pa_cons pe_non (pa_cons (pv 7) pa_nil))))) pa_nil))))) pss_nil)))
        (pss_one (ps_ret (pv 1))))))), ?_⟩
  obtain ⟨p, m, R, fam, t, ss, o, hp, hm, hR, hsl, hch, ho, G, e, ha, k⟩ := h
  obtain ⟨z, rfl, hz⟩ := pr_one ha
  have hp' : (0 : Int) < (p : Int) := by omega
  refine q_newA (r := rNat) (st0 e) fun a hn h0 s1 A1 => ?_
  refine q_set (r := rTab t) (ev_fld (ev_var rfl hz) T.c_RunRecord T.n_RunRecord_table (look_ns nsRR 3 rfl)) s1.gh fun v2 H2 G2 s2 hv2 => ?_
  have t2 := s1.trans s2
  refine q_for2 (r0 := rNat) (r1 := rSR K) t2 (wk_enum (r := rSR K) (ys := ss) (ev_fld (ev_var rfl (Mo.mo s2.gg hz)) T.c_RunRecord T.n_RunRecord_stages (look_ns nsRR 4 rfl)))
    (fun i σ' H' G' => ∃ w2 x3 x4, σ' = [some z, some (.ref a), some w2, x3, x4, none, none, none, none] ∧ rTab (lastF t (ss.take i)) G' w2 ∧ rRR K p m fam t ss o G' z ∧ Acc rNat a [] H' G') ?_ ?_ ?_
  · exact fun H3 G3 s3 => ⟨v2, none, none, rfl, by rw [List.take_zero]; exact Mo.mo s3.gg hv2, Mo.mo (s2.gg.trans s3.gg) hz, (A1.step s2).step s3⟩
  · rintro i y σ' v v3 Ha Hb G' Gs hi s3 e1 e2 e3 hv hv3 ⟨w2, x3, x4, rfl, hw2, hz2, A2⟩
    obtain ⟨sr, rfl, hsr⟩ := get_enum hi
    cases hv
    have hok := hch i sr hsr
    refine q_for (S := fun (_ : Nat) _ _ _ => False) s3 (wk_nil (r := rNat) (ev_call (ea_cons (ev_fld (r := rNat p) (ev_var rfl hz2) T.c_RunRecord T.n_RunRecord_prime (look_ns nsRR 0 rfl)) (ea_cons (ev_fld (r := rNat m) (ev_var rfl hz2) T.c_RunRecord T.n_RunRecord_mixers (look_ns nsRR 1 rfl)) (ea_cons (ev_var (r := rTab (lastF t (ss.take i))) rfl hw2) (ea_cons (ev_var (r := rSR K sr) rfl hv3) ea_nil)))) fun vs H Q h => ⟨p, m, R, _, sr, hp', hm, hR, hok, h⟩))
      (fun n σ' H' G' => σ' = [some z, some (.ref a), some w2, some (.int (i : Int)), some v3, none, none, none, none] ∧ rSR K sr G' v3 ∧ rRR K p m fam t ss o G' z ∧ Acc rNat a [] H' G') (fun H4 G4 s4 => ⟨rfl, Mo.mo s4.gg hv3, Mo.mo s4.gg hz2, (A2.ex e3).step s4⟩) (fun n y σ' σ2 Hc Hd G4 Gt hn => by simp at hn) fun σ' H4 G4 s4 f1 ⟨hσ, hv4, hz4, A4⟩ => ?_
    subst hσ
    refine s_set (r := rTab sr.table) (ev_fld (ev_var rfl hv4) T.c_StageRecord T.n_StageRecord_table (look_ns nsSR 6 rfl)) s4.gh fun v5 H5 G5 s5 hv5 => ⟨G5, s4.trans s5, (e2.trans f1).trans s5.gg, v5, _, _, rfl, ?_, Mo.mo s5.gg hz4, A4.step s5⟩
    rw [List.take_succ, hsr]
    show rTab (lastF t (ss.take i ++ [sr])) G5 v5
    rw [lastF_snoc]
    exact hv5
  · rintro σ' H3 G3 s3 e1 ⟨w2, x3, x4, rfl, hw2, hz2, A2⟩
    rw [List.length_mapIdx, List.take_length] at hw2
    generalize hlt : lastF t ss = tl at *
    refine q_for2 (r0 := rNat) (r1 := rInts) s3 (wk_enum (r := rInts) (ys := tl) (ev_var rfl hw2)) (fun i σ' H' G' => ∃ x7 x8, σ' = [some z, some (.ref a), some w2, x3, x4, none, none, x7, x8] ∧ rRR K p m fam t ss o G' z ∧ Acc rNat a [] H' G') ?_ ?_ ?_
    · exact fun H4 G4 s4 => ⟨none, none, rfl, Mo.mo s4.gg hz2, A2.step s4⟩
    · rintro n y σ' v v3 Ha Hb G' Gs hn s4 e1 e2 e3 hv hv3 ⟨x7, x8, rfl, hz3, A3⟩
      obtain ⟨shares, rfl, hsh⟩ := get_enum hn
      cases hv
      have hon : o[n]? = some (tot p shares) := by
        rw [ho]
        unfold vals
        rw [List.getElem?_map, hsh]
        rfl
      exact s_if (b := false) (et_same (i := tot p shares) (ev_call (ea_cons (ev_fld (r := rInt p) (ev_var rfl hz3) T.c_RunRecord T.n_RunRecord_prime (look_ns nsRR 0 rfl)) (ea_cons (ev_var (r := rInts shares) rfl hv3) ea_nil)) fun vs H Q h => ⟨p, shares, hp', h⟩)
        ((ev_modI (i := tot p shares) (j := p) (ev_ix (r := rInt) (xs := o) (n := n) (ev_fld (r := rInts o) (ev_var rfl hz3) T.c_RunRecord T.n_RunRecord_opened (look_ns nsRR 5 rfl)) (ev_var rfl rfl) rfl hon) (ev_fld (r := rInt p) (ev_var rfl hz3) T.c_RunRecord T.n_RunRecord_prime (look_ns nsRR 0 rfl)) hp').is fun _ _ _ z => by rw [tot_mod] at z; exact z)) s4.gh (fun z => by cases z) fun _ H6 G6 s6 => ⟨G6, s4.trans s6, e2.trans s6.gg, _, _, rfl, Mo.mo s6.gg hz3, (A3.ex e3).step s6⟩
    · rintro σ' H4 G4 s4 e1 ⟨x7, x8, rfl, hz3, A3⟩
      exact s_retA s4 h0 rfl A3 fun G5 s5 h5 => k _ H4 G5 s5 h5
/-! counts -/
def spCounts : Sp := fun vs H Q E => ∃ (ns : List Int) (n : Nat), n ≤ 1000 ∧ ns.length ≤ 1000 ∧ (∀ v ∈ ns, 0 ≤ v) ∧ spOf [rInts ns, rNat n] (rL rNat (cntF ns n)) vs H Q E
theorem sc_counts : FnScope ["values", "options", "result", "value", "option"] ["values", "options"] (defScope s_counts) := ⟨rfl, rfl, rfl, by decide +kernel, rfl, by decide +kernel, by decide +kernel⟩
theorem ok_counts (T : Tx K mg) : Cal P w K mg base "counts" 1 ["values", "options"] spCounts := by
  refine T.k_counts.cal sc_counts (fun vs H Q E ⟨_, _, _, _, _, h⟩ => spOf_len h) fun f cdv A outer s H vs Q E hr h => ⟨_, (pss_cons (ps_setLc (i := 2) (own := [("option", 4)]) (g := gName 4) (tt := tYes) rfl sc_counts.nd rfl rfl (sw_true rfl rfl rfl (by decide +kernel)) (pi_range1 rfl T.frange (pa_cons (pv 1) pa_nil)) (blkOk_by (N := ["values", "options", "result", "value", "option"]) (sc := defScope s_counts) (by decide +kernel)) (fun _ _ _ _ _ => pg_name (i := 4) sc_counts.nd rfl (Or.inl rfl)) (fun _ _ _ _ _ => pts_nil) (fun _ _ _ _ _ => pe_int))
        (pss_cons (ps_for PassesOwn.never rfl (itL K (pv 0)) (pg_name (i := 3) sc_counts.nd rfl (Or.inl rfl))
          (pss_one (ps_if (pt_chain op_le op_lt pe_int (pv 3) (pv 1)) (pss_one (ps_augS (pv 2) (pv 3) get_list pe_int ip_add set_list)) pss_nil)))
        (pss_one (ps_ret (pv 2))))), ?_⟩
  obtain ⟨ns, n, hn, hl, hv0, G, e, ha, k⟩ := h
  obtain ⟨u, _, rfl, hu, rfl⟩ := pr_two ha
  refine q_setN (r := rL rNat ((List.range n).map fun _ => 0)) (evN_lc1 (r := rNat) (r0 := rNat) (fun _ => 0) (wk_rng1 (n := n) (ev_var rfl rfl) (by omega)) (by rw [List.length_range]; omega) (fun _ => rfl) fun y v G' hy e' hv => ev_n 0) e fun a H1 G1 hna s1 hv1 => ?_
  have hna0 : G a = none := e.dom hna
  have s1' : Step H G H1 G := StepM.of_ex e s1.ex
  obtain ⟨a', ea, hga⟩ := rL_vals (f := fun n : Nat => V.int (n : Int)) hv1
  cases ea
  have hHa : H1 a = some (.lst (natV (cntF (ns.take 0) n))) := by
    rw [s1.gh.l hga, List.take_zero]
    rfl
  refine q_for1 (r0 := rInt) s1' (wk_list (r := rInt) (ys := ns) (ev_var rfl hu)) (fun i σ' H' G' => ∃ x3, σ' = [some u, some (.int (n : Int)), some (.ref a), x3, none] ∧ H' a = some (.lst (natV (cntF (ns.take i) n))) ∧ G' a = none) ?_ ?_ ?_
  · exact fun H2 G2 s2 => ⟨none, rfl, s2.l hHa, s2.fr a (by rw [hHa]; simp) hna0⟩
  · rintro i y σ' v Ha Hb G' Gs hi s2 e1 e2 e3 hv ⟨x3, rfl, hA, gA⟩
    cases hv
    have hy0 := hv0 y (List.mem_of_getElem? hi)
    have hA' := e3.l hA
    refine s_if (b := decide ((0 : Int) ≤ y) && decide (y < (n : Int))) (et_test (ev_chainI (g1 := fun i j => decide (i ≤ j)) (g2 := fun i j => decide (i < j)) (i := 0) (j := y) (k := n) ev_i (ev_var rfl rfl) (fun _ => ev_var rfl rfl))) s2.gh (fun hb H3 G3 s3 => ?_) fun hb H3 G3 s3 => ?_
    · rw [Bool.and_eq_true, decide_eq_true_eq, decide_eq_true_eq] at hb
      obtain ⟨c, rfl⟩ : ∃ c : Nat, y = (c : Int) := ⟨y.toNat, by omega⟩
      have hcn : c < n := by omega
      have hA3 := s3.l hA'
      have gA3 : G3 a = none := s3.fr a (by rw [hA']; simp) gA
      have hix : ixN (natV (cntF (ns.take i) n)).length (c : Int) = some c := by
        unfold ixN
        rw [List.length_map, cntF_len, if_pos (by omega), if_pos (by omega)]
        rfl
      refine ⟨.ref a, rfl, .int (c : Int), rfl, a, _, c, .int ((cnt (ns.take i) c : Nat) : Int), rfl, rfl, SqL.of hA3, natV_get (cntF_get hcn), _, 1, rfl, rfl, a, _, _, c, rfl, rfl, hA3, hix, ?_⟩
      refine ⟨G3, (s2.trans s3).mut hna gA3, e2.trans s3.gg, _, rfl, ?_, gA3⟩
      rw [upd_same, ← cntF_set hi hcn]
      show some (HO.lst _) = some (HO.lst ((cntF (ns.take i) n).set c _ |>.map _))
      rw [List.map_set]
      rfl
    · have hyn : (n : Int) ≤ y := by
        rw [Bool.and_eq_false_iff] at hb
        rcases hb with hb | hb
        · rw [decide_eq_false_iff_not] at hb
          omega
        · rw [decide_eq_false_iff_not] at hb
          omega
      exact ⟨G3, s2.trans s3, e2.trans s3.gg, _, rfl, by rw [cntF_out hi hyn]; exact s3.l hA', s3.fr a (by rw [hA']; simp) gA⟩
  · rintro σ' H2 G2 s2 e1 ⟨x3, rfl, hA, gA⟩
    rw [List.take_length] at hA
    refine ⟨.ref a, rfl, k _ H2 (upd G2 a (.lst (natV (cntF ns n)))) (s2.freeze hna gA hA) (rL_of_vals (f := fun n : Nat => V.int (n : Int)) upd_same)⟩
/-! leaders -/
def spLead : Sp := fun vs H Q E => ∃ (ns : List Int) (mx : Int), ns.length ≤ 1000 ∧ mx ∈ ns ∧ (∀ v ∈ ns, v ≤ mx) ∧ spOf [rInts ns] (rL rNat ((List.range ns.length).filter fun i => decide (ns.getD i 0 = mx))) vs H Q E
theorem sc_leaders : FnScope ["numbers", "most", "place"] ["numbers"] (defScope s_leaders) := ⟨rfl, rfl, rfl, by decide +kernel, rfl, by decide +kernel, by decide +kernel⟩
theorem ok_leaders (T : Tx K mg) : Cal P w K mg base "leaders" 1 ["numbers"] spLead := by
  refine T.k_leaders.cal sc_leaders (fun vs H Q E ⟨_, _, _, _, _, h⟩ => spOf_len h) fun f cdv A outer s H vs Q E hr h => ⟨_, (pss_cons (ps_if (pt_not (pt_truth (pv 0) (by intro _; rfl))) (pss_one (ps_ret (pe_lst pa_nil))) pss_nil)
        (pss_cons (ps_set (i := 1) sc_leaders.nd rfl (Or.inr rfl) (pe_callB (cMax K rfl) (by rfl) T.fmax (by decide +kernel) (pa_cons (pv 0) pa_nil)))
        (pss_one (ps_ret (pe_lc (own := [("place", 2)]) (g := gName 2) rfl sc_leaders.nd (pi_range1 rfl T.frange (pa_cons (pe_callB (cLen K) (by rfl) T.flen PySem.boot_len (pa_cons (pv 0) pa_nil)) pa_nil)) (blkOk_by (N := ["numbers", "most", "place"]) (sc := defScope s_leaders) (by decide +kernel)) (fun _ _ _ _ _ => pg_name (i := 2) sc_leaders.nd rfl (Or.inl rfl)) (fun _ _ _ _ _ => pts_one (pt_cmpR op_eq (pe_ix (ixl K) (pv 0) (pv 2) (fun _ _ => rfl)) (pv 1) (nomark _))) (fun _ _ _ _ _ => (pv 2))))))), ?_⟩
  obtain ⟨ns, mx, hl, hmem, hmax, G, e, ha, k⟩ := h
  obtain ⟨u, rfl, hu⟩ := pr_one ha
  refine q_if (b := false) ((et_not (et_truth (r := rInt) (xs := ns) (ev_var rfl hu))).is (by cases ns with | nil => cases hmem | cons a r => rfl)) e (fun z => by cases z) fun _ H1 G1 s1 => ?_
  refine q_set (r := rInt mx) (ev_max (ev_var rfl (Mo.mo s1.gg hu)) hmem hmax) s1.gh fun v H2 G2 s2 hv => ?_
  cases hv
  have e2 := s1.gg.trans s2.gg
  exact s_ret (ev_flt1 (r := rNat) (r0 := rNat) (fun i => decide (ns.getD i 0 = mx)) (wk_rng1 (n := ns.length) (ev_len (r := rInt) (ev_var rfl (Mo.mo e2 hu))) (by omega)) (by rw [List.length_range]; omega) (fun _ => rfl)
    (fun y v G' hy e' hv => (et_test (ev_eq (x := .int (ns.getD y 0)) (y := .int mx) (ev_ix (r := rInt) (xs := ns) (n := y) (ev_var rfl (Mo.mo (e2.trans e') hu)) (ev_var rfl hv) rfl (get_of_lt 0 (List.mem_range.mp hy))) (ev_var rfl rfl) rfl)).is (by simp)) fun y v G' hy hb e' hv => ev_var rfl hv) s2.gh fun v H3 G3 s3 hv => k v H3 G3 ((s1.trans s2).trans s3) hv
end
end Vc
/-! any, all of a generator expression: over what is walked, the element a test. -/
namespace Vc
open PySem PySem.Spec PyProof.Rows L2
/-- a generator expression's code object: found in the table, or laid and put there -/
theorem code_some {prog : Program} {w : World} {A : Around} {E Q : Value → Shared → Prop} {env : Env} {gp : Pos} {q : Str} {sc : Scope} {c P : Addr} {ps : Array Value} {sB : Shared}
    (ec : env.code = .ref c) (hd : PySem.W.CodeHd sB.heap c P) (eP : sB.heap.get? P = some { cls := .none, data := .fields ps }) (tr : TriplesOk ps.toList)
    (k : ∀ (code : Value) (hB : Heap) (tk : Nat) (more : Array Value), Heap.ExtBut P sB.heap hB → sB.heap.objs.size ≤ hB.objs.size → hB.get? P = some { cls := .none, data := .fields (ps ++ more) } → TriplesOk (ps ++ more).toList → Q code { sB with heap := hB, toks := tk }) :
    wpAny (model prog w) A (genexprCode env gp q sc) Q E sB := by
  cases am : codeAmong gp ps.toList with
  | some cv => exact wpAny_genexprCode_hit ec (hd.code eP tr) am (k cv sB.heap sB.toks #[] (.refl _ _) (Nat.le_refl _) (by rw [Array.append_empty]; exact eP) (by rw [Array.append_empty]; exact tr))
  | none =>
    refine wpAny_genexprCodeX ec (hd.code eP tr) (hd.tab eP) am fun code hB tk x1 x2 x3 x4 _ x5 _ => ?_
    obtain ⟨_, _, _, _, _, _, _, _, _, _, _, _, _, _, _, _, _, _, _, trB, _⟩ := x4
    exact k _ hB tk _ x1 (Nat.le_trans x2 (Nat.le_of_lt x3)) x5.2 trB
/-- the iterator that pyIter of xv makes in sA: n items; the element's truth by place is tr -/
def Srce (X : Cx) (P : Addr) (x : Str) (scope : Scope) (elt : Expr) (xv : Value) (sA : Shared) (n : Nat) (tr : Nat → Bool) : Prop :=
  ∃ (Pf : Nat → Value → Prop) (o : Obj) (fx : List Addr) (Stt : Nat → Heap → Prop),
    (∀ (Q E : Value → Shared → Prop), Q (.ref sA.heap.objs.size) { sA with heap := sA.heap.push o } → wpAny (model X.prog X.w) X.A (pyIter xv) Q E sA) ∧
    (∀ A' : Around, A'.handled = none → Walks X.prog X.w A' sA.heap.objs.size (sA.heap.objs.size :: fx) [sA.heap.objs.size] n Pf Stt) ∧ Stt 0 (sA.heap.push o) ∧ (∀ b ∈ fx, b < sA.heap.objs.size ∧ b ≠ P) ∧
    ∀ (C : Addr) (code : Value) (bi : Addr) (A' : Around) (E' : Value → Shared → Prop) (i : Nat) (v : Value) (s₂ : Shared) (m₂ : Str → Option Value), Pf i v → s₂.heap.Ns C m₂ → m₂ x = some v → (∀ b u, b ≠ P → sA.heap.get? b = some u → s₂.heap.get? b = some u) →
      wpAny (model X.prog X.w) A' (eval elt (genEnv scope (cloFrom X.env.cells scope.names []) C code bi X.env)) (fun y s₃ => y = .bool (tr i) ∧ Keeps s₂ s₃) E' s₂
section
variable {X : Cx} {pl : List (Addr × Obj)} {τ : L2.St} {sA : Shared}
/-- the generator at g is ready to be walked; hA: what was held before -/
def Rdy (X : Cx) (pl : List (Addr × Obj)) (τ : L2.St) (hA : Hp) (P : Addr) (n : Nat) (tr : Nat → Bool) (g : Addr) (sG : Shared) : Prop :=
  ∃ (own wr : List Addr) (Ge : Array GenState → Array GenState → Prop) (F : Nat → Value → Prop) (Wt : Nat → Shared → Prop),
    WalksS X.prog X.w X.A.in1 g own wr Ge n F Wt ∧ Wt 0 sG ∧ TruthOf X.prog X.w X.A.in1 F tr ∧ ∀ sZ, Moved wr Ge sG sZ → ∃ hZ, GxR.Tabbed P hA hZ ∧ Inv X pl τ hZ sZ
theorem gen_run {c P : Addr} {elt iter : Expr} {x : Str} {px gp : Pos} {scope : Scope} {k : Nat} {Qz : Value → Shared → Prop}
    (rm : Room k X.A) (TB : GxR.TabB X.base X.mg c P) (ec : X.env.code = .ref c) (S : GxR.GenS X.env scope x) (fold : ∀ v, genFold iter X.env v = pure v)
    (h : wpAny (model X.prog X.w) X.A (eval iter X.env) (fun xv sA => ∃ hA n tr, Inv X pl τ hA sA ∧ GxR.TabG hA P ∧ Srce X P x scope elt xv sA n tr ∧ ∀ g sG, Rdy X pl τ hA P n tr g sG → Qz (.ref g) sG) X.xe sA) :
    wpAny (model X.prog X.w) X.A (eval (.GeneratorExp elt [⟨.Name x px, iter, [], 0⟩] scope gp) X.env) Qz X.xe sA := by
  have deep : X.A.depth < recursionLimit := by
    have := rm.dp
    omega
  refine wpAny_GeneratorExp_walksQ rm.hd S.co (closure_ok S.free) S.cell S.dot S.loc S.kind deep ?_ fold
  refine wpAny_mono h (fun xv sA ⟨hA, n, tr, IA, ⟨ps, tP, triples⟩, ⟨Pf, o, fx, Stt, mk, wk, st0, old, el⟩, fin⟩ => mk _ _ ?_) fun _ _ z => z
  have gP : sA.heap.get? P = some { cls := .none, data := .fields ps } := IA.hok P _ tP
  have ltP := Heap.lt_size gP
  have szB : (sA.heap.push o).objs.size = sA.heap.objs.size + 1 := Heap.size_push ..
  refine ⟨IA.nolimit.push o, code_some ec (TB.code.keeps fun b u e => Heap.get?_push_of_some _ (IA.bk b u e)) (Heap.get?_push_of_some _ gP) triples fun code hB tk more but szLe tabB triB => ?_⟩
  have keepB : ∀ b u, b ≠ P → sA.heap.get? b = some u → hB.get? b = some u := fun b u nb e => but b u nb (Heap.get?_push_of_some _ e)
  have ltB : sA.heap.objs.size < hB.objs.size := by
    have z := szLe
    rw [szB] at z
    exact z
  have neC : cStatics ≠ P ∧ cStatics < sA.heap.objs.size := by
    obtain ⟨_, ⟨ob, es, ep, eo, ed, ex⟩, _⟩ := IA.nolimit
    refine ⟨fun e => ?_, Heap.lt_size eo⟩
    rw [e, gP] at eo
    cases eo
    cases ed
  obtain ⟨_, _, b1, b2, _, b4, b5, b6, b7, b8⟩ := TB.bm
  have glob : hB.Ns X.env.globals X.mg := by
    rw [IA.ok.glob]
    exact ((IA.mod.glob.keeps IA.bk).push o).extBut but TB.gP
  refine wpAny_builtinsFor (m := X.mg) glob b1 b2 (keepB _ _ b4 (IA.bk _ _ b5)) b6 b7 b8 ?_
  refine ⟨sA.heap.objs.size, sA.heap.objs.size :: fx, [sA.heap.objs.size], n, Pf, Stt, (fun _ => true), (fun i y => y = .bool (tr i)), rfl, wk, ?start, ?low, (IA.nolimit.push o).extBut but neC.1, ?stat, ?quiet, ?after⟩
  case start =>
    refine (wk X.A rm.hd).frame _ _ _ st0 fun b mb u e => but b u (fun z => ?_) e
    cases mb with
    | head => exact Nat.lt_irrefl _ (by rw [← z] at ltP; exact ltP)
    | tail _ mb => exact (old b mb).2 z
  case low =>
    intro b mb
    cases mb with
    | head => exact ltB
    | tail _ mb => exact Nat.lt_trans (old b mb).1 ltB
  case stat =>
    intro z
    exact Nat.ne_of_lt neC.2 (List.mem_singleton.mp z)
  case quiet =>
    intro href kept
    refine ⟨fun A' E' i v s₂ m₂ _ _ _ _ _ => ?_, fun A' E' i v s₂ m₂ _ pv _ ns mx kp => el _ _ _ A' E' i v s₂ m₂ pv ns mx fun b u nb e => kp b (List.mem_range.mpr (Heap.lt_size (keepB b u nb e))) (fun z => ?_) u (kept b u (keepB b u nb e))⟩
    · simp only [List.forIn_nil]
      exact wpAny_pure ⟨rfl, GxR.keeps_refl s₂⟩
    · have lt := Heap.lt_size e
      cases z with
      | head => exact Nat.lt_irrefl _ lt
      | tail _ z => cases z
  case after =>
    intro g hG tkG gs bareG _ _ keepG walkG atG
    simp only [GxR.passing_true, List.length_range] at walkG
    refine fin g _ ⟨_, _, _, _, _, walkG.in4_1, atG, ?_, fun sZ mv => ?_⟩
    · rintro j y sj Qj Ej ⟨i, ij, rfl⟩ qj
      obtain ⟨lt, e⟩ := List.getElem?_eq_some_iff.mp ij
      rw [List.getElem_range] at e
      rw [e] at qj
      exact wpAny_truthy_bool qj
    · have out : ∀ b u, sA.heap.get? b = some u → b ∉ hB.objs.size :: [sA.heap.objs.size] := fun b u e mb => by
        have lt := Heap.lt_size e
        cases mb with
        | head => exact Nat.lt_irrefl _ (Nat.lt_trans lt ltB)
        | tail _ mb =>
          cases mb with
          | head => exact Nat.lt_irrefl _ lt
          | tail _ mb => cases mb
      have tabZ : sZ.heap.get? P = some { cls := .none, data := .fields (ps ++ more) } := mv.heap P _ (out P _ gP) (keepG P _ tabB)
      have J := GxR.inv_tab (h' := sZ.heap) (g' := sZ.gens) (d' := sZ.drawn) (t' := sZ.toks) IA tP (fun b u nb e => mv.heap b u (out b u e) (keepG b u (keepB b u nb e))) tabZ (AllBare.movedS (IA.bare.push bareG) mv)
      rw [GxR.sh_eta sA sZ mv.os] at J
      exact ⟨upd hA P (.tbl (ps ++ more)), ⟨⟨_, upd_same, triB⟩, fun b nb => upd_ne nb⟩, J⟩
end
end Vc
/-! The three generator expressions of the text: signs, no None, rising numbers. -/
namespace Vc
open PySem PySem.Spec PyProof.Rows L2
section
variable {X : Cx} {c P : Addr} {elt iter : Expr} {x : Str} {px p pos gpos : Pos} {scope : Scope} {k : Nat}
abbrev TSrc := L2.St → Hp → (Nat → (Nat → Bool) → Hp → Prop) → Prop
def tAnyG (P : Addr) (ts : TSrc) : TE := fun σ H Q => ts σ H fun n tr H1 => GxR.TabG H1 P ∧ ∀ H2, GxR.Tabbed P H1 H2 → Q (.bl ((List.range n).any tr)) H2
def tAllG (P : Addr) (ts : TSrc) : TE := fun σ H Q => ts σ H fun n tr H1 => GxR.TabG H1 P ∧ ∀ H2, GxR.Tabbed P H1 H2 → Q (.bl ((List.range n).all tr)) H2
/-- the iterable of a generator expression -/
def PSrc (X : Cx) (P : Addr) (x : Str) (scope : Scope) (elt iter : Expr) (ts : TSrc) : Prop := ∀ (pins : List (Addr × Obj)) (s : Shared) (σ : L2.St) (H : Hp) (R : Nat → (Nat → Bool) → Hp → Prop), Inv X pins σ H s → ts σ H R →
  wpAny (model X.prog X.w) X.A (eval iter X.env) (fun xv s1 => ∃ H1 n tr, Inv X pins σ H1 s1 ∧ (GxR.TabG H1 P → Srce X P x scope elt xv s1 n tr) ∧ R n tr H1) X.xe s
theorem pe_anyG {ts : TSrc} (hr : Room k X.A) (hg : Gl X "any") (hm : X.mg "any" = none) (TB : GxR.TabB X.base X.mg c P) (hcode : X.env.code = .ref c) (S : GxR.GenS X.env scope x) (hi : PSrc X P x scope elt iter ts) (hs : ∀ v, genFold iter X.env v = pure v)
    (he : starEach [.GeneratorExp elt [⟨.Name x px, iter, [], 0⟩] scope gpos] X.env = (false, eval (.GeneratorExp elt [⟨.Name x px, iter, [], 0⟩] scope gpos) X.env) :: starEach [] X.env := by rfl) :
    PE X (.Call (.Name "any" p) [.GeneratorExp elt [⟨.Name x px, iter, [], 0⟩] scope gpos] [] pos) (tAnyG P ts) := by
  refine ⟨fun pins s σ H Q I h => ?_⟩
  refine wpAny_Call_Name_kw (ld_blt I hg hm boot_any ?_)
  refine PyProof.Rows.callWith_builtin1 ?_ he (by rfl)
  rw [he]
  show wpAny _ _ (spliced ((false, eval (.GeneratorExp elt [⟨.Name x px, iter, [], 0⟩] scope gpos) X.env) :: backTo pos (starEach [] X.env))) _ _ s
  refine Calls.spliced_cons (gen_run hr TB hcode S hs (pl := pins) (τ := σ) (wpAny_mono (hi pins s σ H _ I h) (fun xv s1 ⟨H1, n, tr, I1, hsr, htb, hq⟩ => ⟨H1, n, tr, I1, htb, hsr htb, fun g s5 hG => ?_⟩) fun _ _ z => z))
  obtain ⟨fp, wr, G, F, St5, W, hst, htr, hI⟩ := hG
  refine Calls.spliced_nil ?_
  refine call_any_walkS (W.self 0 _ _ _ hst ⟨g, fp, wr, G, _, F, St5, _, rfl, W, hst, htr, fun s' hmv => ?_⟩)
  obtain ⟨H2, hT, J⟩ := hI s' hmv
  exact ⟨.bl _, H2, J, rfl, hq H2 hT⟩
theorem pe_allG {ts : TSrc} (hr : Room k X.A) (hg : Gl X "all") (hm : X.mg "all" = none) (TB : GxR.TabB X.base X.mg c P) (hcode : X.env.code = .ref c) (S : GxR.GenS X.env scope x) (hi : PSrc X P x scope elt iter ts) (hs : ∀ v, genFold iter X.env v = pure v)
    (he : starEach [.GeneratorExp elt [⟨.Name x px, iter, [], 0⟩] scope gpos] X.env = (false, eval (.GeneratorExp elt [⟨.Name x px, iter, [], 0⟩] scope gpos) X.env) :: starEach [] X.env := by rfl) :
    PE X (.Call (.Name "all" p) [.GeneratorExp elt [⟨.Name x px, iter, [], 0⟩] scope gpos] [] pos) (tAllG P ts) := by
  refine ⟨fun pins s σ H Q I h => ?_⟩
  refine wpAny_Call_Name_kw (ld_blt I hg hm boot_all ?_)
  refine PyProof.Rows.callWith_builtin1 ?_ he (by rfl)
  rw [he]
  show wpAny _ _ (spliced ((false, eval (.GeneratorExp elt [⟨.Name x px, iter, [], 0⟩] scope gpos) X.env) :: backTo pos (starEach [] X.env))) _ _ s
  refine Calls.spliced_cons (gen_run hr TB hcode S hs (pl := pins) (τ := σ) (wpAny_mono (hi pins s σ H _ I h) (fun xv s1 ⟨H1, n, tr, I1, hsr, htb, hq⟩ => ⟨H1, n, tr, I1, htb, hsr htb, fun g s5 hG => ?_⟩) fun _ _ z => z))
  obtain ⟨fp, wr, G, F, St5, W, hst, htr, hI⟩ := hG
  refine Calls.spliced_nil ?_
  refine call_all_walkS (W.self 0 _ _ _ hst ⟨g, fp, wr, G, _, F, St5, _, rfl, W, hst, htr, fun s' hmv => ?_⟩)
  obtain ⟨H2, hT, J⟩ := hI s' hmv
  exact ⟨.bl _, H2, J, rfl, hq H2 hT⟩
/-! signs -/
def sSigns (te : TE) (z : Str) : TSrc := fun σ H R => te σ H fun v H1 => ∃ a : Str, v = .str a ∧ R a.cps.size (GxR.trF (fun c => decide (c ∈ z.cps.toList)) a.cps.toList) H1
theorem ps_signs {te : TE} {z : Str} {j : Nat} {p1 p2 p3 : Pos} (hi : PE X iter te) (hk : scope.kind = .function) (hl : scope.names.lookup x = some .local) (hd : (x == ("__debug__" : Str)) = false := by decide) :
    PSrc X P x scope (.Compare (.Name x p1) [.In] [.Constant (.str z) j p2] p3) iter (sSigns te z) := fun pins s σ H R I h => by
  refine wpAny_mono (hi.run pins s σ H _ I h) (fun xv s1 ⟨v, H1, I1, r1, a, e, q⟩ => ?_) fun _ _ z => z
  subst e
  obtain ⟨t, rfl⟩ := r1
  have hel : ∀ (C : Addr) (code : Value) (bi : Addr) (A' : Around) (E' : Value → Shared → Prop) (i : Nat) (v : Value) (s₂ : Shared) (m₂ : Str → Option Value), SignAt a i v → s₂.heap.Ns C m₂ → m₂ x = some v → (∀ b u, b ≠ P → s1.heap.get? b = some u → s₂.heap.get? b = some u) →
      wpAny (model X.prog X.w) A' (eval (.Compare (.Name x p1) [.In] [.Constant (.str z) j p2] p3) (genEnv scope (cloFrom X.env.cells scope.names []) C code bi X.env)) (fun y s₃ => y = .bool (GxR.trF (fun c => decide (c ∈ z.cps.toList)) a.cps.toList i) ∧ Keeps s₂ s₃) E' s₂ := by
    intro C code bi A' E' i v s₂ m₂ hP hn hm hkp
    obtain ⟨cc, u, hcc, rfl⟩ := hP
    refine wpAny_Compare1 ?_
    refine wpAny_Name (wpAny_loadName_local (by exact hk) (show scope.names.lookup x = some .local from hl) hn hm ?_) hd
    refine Calls.Constant_str ?_
    refine PyProof.Rows.in_str ⟨?_, GxR.keeps_tok _ _⟩
    rw [GxR.trF_some (by rw [Array.getElem?_toList]; exact hcc), ← PySem.StrLaws.found_one z cc]
  refine ⟨H1, _, _, I1, fun _ => ?_, q⟩
  cases ha : a.cps.all (· < 128)
  · exact ⟨SignAt a, _, [], _, fun Q E hq => wpAny_pyIter_wide ha hq, fun A' hA => Walks.strWide hA _ a t, ⟨_, Heap.get?_push_size _ rfl, rfl, rfl⟩, (fun _ hb => by cases hb), hel⟩
  · exact ⟨SignAt a, _, [], _, fun Q E hq => wpAny_pyIter_ascii ha hq, fun A' hA => Walks.strAscii hA _ a t, ⟨_, Heap.get?_push_size _ rfl, rfl, rfl⟩, (fun _ hb => by cases hb), hel⟩
/-! ints, none of them None -/
def sInts (K : PySem.W.Frag) (te : TE) : TSrc := fun σ H R => te σ H fun v H1 => ∃ (yl : Addr) (ns : List Int), v = .ref yl ∧ SqL K H1 yl (ns.map V.int) ∧ R ns.length (fun _ => false) H1
theorem ps_isNone {te : TE} {j : Nat} {p1 p2 p3 : Pos} (hi : PE X iter te) (hk : scope.kind = .function) (hl : scope.names.lookup x = some .local) (hd : (x == ("__debug__" : Str)) = false := by decide) :
    PSrc X P x scope (.Compare (.Name x p1) [.Is] [.Constant .none j p2] p3) iter (sInts X.K te) := fun pins s σ H R I h => by
  refine wpAny_mono (hi.run pins s σ H _ I h) (fun xv s1 ⟨v, H1, I1, r1, yl, ns, e, hq, q⟩ => ?_) fun _ _ z => z
  subst e
  obtain rfl : xv = Value.ref yl := r1
  obtain ⟨its, rv, hl', hz⟩ := I1.list hq
  have hIL := hl'.isList
  have hlen : its.length = ns.length := by rw [← rv.length, List.length_map]
  have hylt : yl < s1.heap.objs.size := by
    obtain ⟨_, e, _⟩ := _root_.id hIL
    exact Heap.lt_size e
  refine ⟨H1, _, _, I1, fun ⟨ps, hP, _⟩ => ?_, q⟩
  have hPs : s1.heap.get? P = some { cls := .none, data := .fields ps } := I1.hok P _ hP
  have hylP : yl ≠ P := fun z => by
    obtain ⟨_, e, hc1, _, hd1⟩ := _root_.id hIL
    rw [z, hPs] at e
    cases e
    cases hd1
  refine ⟨(fun i v => its.toArray[i]? = some v), _, [yl], (fun i h => h.IsListIter s1.heap.objs.size yl i ∧ h.IsList yl its.toArray), fun Q E hq => wpAny_pyIter_list hIL hq, fun A' hA => ?_, ⟨⟨_, Heap.get?_push_size _ rfl, rfl, rfl⟩, ?_⟩, fun b hb => ?_, ?_⟩
  · have e : its.toArray.size = ns.length := by rw [List.size_toArray, hlen]
    rw [← e]
    exact Walks.list hA s1.heap.objs.size yl (Nat.ne_of_lt hylt) its.toArray
  · obtain ⟨ob, e, r⟩ := _root_.id hIL
    exact ⟨ob, Heap.get?_push_of_some _ e, r⟩
  · rw [List.mem_singleton.mp hb]
    exact ⟨hylt, hylP⟩
  · intro C code bi A' E' i v s₂ m₂ hPv hn hm hkp
    have hv2 : its[i]? = some v := by simpa using hPv
    obtain ⟨a, ha⟩ : ∃ a, ns[i]? = some a := ⟨ns[i]'(by rw [← hlen]; exact (List.getElem?_eq_some_iff.mp hv2).1), List.getElem?_eq_getElem _⟩
    have hb : (ns.map V.int)[i]? = some (V.int a) := by rw [List.getElem?_map, ha] <;> rfl
    obtain ⟨u, hu, ru⟩ := rv.get hb
    rw [hv2] at hu
    cases hu
    obtain ⟨t, rfl⟩ := (show ∃ t, v = Value.int a t from ru)
    refine wpAny_Compare1 ?_
    refine wpAny_Name (wpAny_loadName_local (by exact hk) (show scope.names.lookup x = some .local from hl) hn hm ?_) hd
    refine Constant_none (is_none_gen ⟨rfl, GxR.keeps_refl _⟩)
/-! rising numbers -/
def sRise (K : PySem.W.Frag) (j : Nat) (ta : TA) : TSrc := fun σ H R => ta σ H fun vs H1 => ∃ (yl : Addr) (ns : List Int) (k : Int), vs = [.int k] ∧ -(2 ^ 62) ≤ k ∧ k < 2 ^ 62 ∧ σ[j]? = some (some (.ref yl)) ∧ SqL K H1 yl (ns.map V.int) ∧
  (∀ i : Nat, (i : Int) < k → ∃ a b, ns[i]? = some a ∧ ns[i + 1]? = some b ∧ a < b) ∧ R k.toNat (fun _ => true) H1
theorem ps_rise {ta : TA} {e : Expr} {y : Str} {j l : Nat} {pr q1 q2 q3 q4 q5 q6 q7 q8 q9 qa : Pos} (hg : Gl X "range") (hm : X.mg "range" = none) (ha : PA X [e] ta) (hk : scope.kind = .function) (hl : scope.names.lookup x = some .local) (hf : scope.names.lookup y = some .free)
    (hj : X.N[j]? = some y) (hy : X.env.scope.names.lookup y = some .cell) (hcl : ∀ c, X.env.cells.lookup y = some c → (cloFrom X.env.cells scope.names []).lookup y = some c)
    (hs : starEach [e] X.env = [(false, eval e X.env)] := by rfl) (hd : (x == ("__debug__" : Str)) = false := by decide) (hdy : (y == ("__debug__" : Str)) = false := by decide) (hdc : (y == ("__classdict__" : Str)) = false := by decide) :
    PSrc X P x scope (.Compare (.Subscript (.Name y q1) (.Name x q2) q3) [.Lt] [.Subscript (.Name y q4) (.BinOp (.Name x q5) .Add (.Constant (.int 1) l q6) q7) q8] q9) (.Call (.Name "range" pr) [e] [] qa) (sRise X.K j ta) := fun pins s σ H R I h => by
  refine Call_ (ld_blt I hg hm boot_range (PyProof.Rows.callWith_type1 (thn (ha.run qa pins s σ H _ I h) fun us s1 ⟨vs, H1, I1, r1, yl, ns, k, e, hk1, hk2, hσ, hq, hlt, q⟩ => ?_) hs rfl))
  subst e
  cases r1 with
  | cons r rr =>
    cases rr
    obtain ⟨t, rfl⟩ := r
    refine call_range_1 ?_
    generalize ho1 : ({ cls := .type "range", data := .fields #[.int 0 s1.toks, .int k t, .int 1 (s1.toks + 1)] } : Obj) = o1
    have I2 : Inv X pins σ H1 { s1 with heap := s1.heap.push o1, toks := s1.toks + 1 + 1 } := I1.kept fun b o e => Heap.get?_push_of_some _ e
    refine ⟨H1, _, _, I2, fun ⟨ps, hP, _⟩ => ?_, q⟩
    have hPs : s1.heap.get? P = some { cls := .none, data := .fields ps } := I1.hok P _ hP
    obtain ⟨its, rv, hl', hz⟩ := I1.list hq
    have hIL := hl'.isList
    have hlen : its.length = ns.length := by rw [← rv.length, List.length_map]
    have hylP : yl ≠ P := fun z => by
      obtain ⟨_, e, hc1, _, hd1⟩ := _root_.id hIL
      rw [z, hPs] at e
      cases e
      cases hd1
    obtain ⟨mm, hns, hlook⟩ := I1.loc
    obtain ⟨u, ru, hlk⟩ := hlook j y (.ref yl) hj hσ (.inr (.inl hy))
    obtain rfl : u = Value.ref yl := ru
    obtain ⟨cc, hcc, hcell⟩ : ∃ c, X.env.cells.lookup y = some c ∧ s1.heap.IsCell c (some (.ref yl)) := by
      rcases hlk with ⟨z, _⟩ | ⟨_, z⟩
      · have z' : X.env.scope.names.lookup y = some .local := z
        rw [hy] at z'
        cases z'
      · exact z
    have hccP : cc ≠ P := fun z => by
      obtain ⟨ob, e, hd1⟩ := _root_.id hcell
      rw [z, hPs] at e
      cases e
      cases hd1
    refine ⟨_, _, [], _, fun Q E hq => wpAny_pyIter_range (a := 0) (b := k) (c := 1) (r := s1.heap.objs.size) (t := s1.toks) (u := t) (v := s1.toks + 1) (by rw [← ho1]; exact IsRange.new ..) (small_one (show -(2 ^ 62) ≤ (0 : Int) by omega) (show (0 : Int) < 2 ^ 62 by omega) hk1 hk2) hq, fun A' hA => (Walks.range hA _ 0 1 k.toNat).bound, ?_, (fun _ hb => by cases hb), ?_⟩
    · have e1 : (0 : Int) + ((0 : Nat) : Int) * 1 = 0 := by simp
      have e2 : ((k.toNat : Nat) : Int) - ((0 : Nat) : Int) = Builtin.Range.rangeSize 0 k 1 := by rw [rangeSize_one]; split <;> omega
      show IsRangeIter _ _ ((0 : Int) + ((0 : Nat) : Int) * 1) (((k.toNat : Nat) : Int) - ((0 : Nat) : Int)) 1
      rw [e1, e2]
      exact Heap.get?_push_size _ rfl
    · intro C code bi A' E' i v s₂ m₂ hPv hn hm2 hkp
      obtain ⟨hb, t', rfl⟩ := hPv
      have hkp1 : ∀ b u, b ≠ P → s1.heap.get? b = some u → s₂.heap.get? b = some u := fun b u hb e => hkp b u hb (Heap.get?_push_of_some _ e)
      obtain ⟨a, b, ha1, hb1, hab⟩ := hlt i (by omega)
      have hi62 : (i : Int) < 2 ^ 62 := by omega
      have hIL2 : s₂.heap.IsList yl its.toArray := by
        obtain ⟨ob, e, r⟩ := _root_.id hIL
        exact ⟨ob, hkp1 _ _ hylP e, r⟩
      have hcell2 : s₂.heap.IsCell cc (some (.ref yl)) := by
        obtain ⟨ob, e, r⟩ := _root_.id hcell
        exact ⟨ob, hkp1 _ _ hccP e, r⟩
      obtain ⟨w1, hw1, rw1⟩ := rv.get (show (ns.map V.int)[i]? = some (V.int a) by rw [List.getElem?_map, ha1] <;> rfl)
      obtain ⟨w2, hw2, rw2⟩ := rv.get (show (ns.map V.int)[i + 1]? = some (V.int b) by rw [List.getElem?_map, hb1] <;> rfl)
      obtain ⟨t1, rfl⟩ := (show ∃ t, w1 = Value.int a t from rw1)
      obtain ⟨t2, rfl⟩ := (show ∃ t, w2 = Value.int b t from rw2)
      have hfree : ∀ (C : Addr) (code : Value) (bi : Addr), (genEnv scope (cloFrom X.env.cells scope.names []) C code bi X.env).kindOf y = some .free := fun _ _ _ => hf
      refine wpAny_Compare1 (Subscript_ ?_)
      refine wpAny_Name (wpAny_loadName_free (by exact hk) (hfree _ _ _) (hcl cc hcc) hcell2 ?_ hdc) hdy
      refine wpAny_Name (wpAny_loadName_local (by exact hk) (show scope.names.lookup x = some .local from hl) hn hm2 ?_) hd
      refine item_listR hIL2 (x := .int a t1) (by omega) (by omega) (by
        have e : ((0 : Int) + (i : Nat) * 1).toNat = i := by omega
        rw [e]
        simpa using hw1) ?_ (by rfl)
      refine Subscript_ ?_
      refine wpAny_Name (wpAny_loadName_free (by exact hk) (hfree _ _ _) (hcl cc hcc) hcell2 ?_ hdc) hdy
      refine wpAny_BinOp ?_
      refine wpAny_Name (wpAny_loadName_local (by exact hk) (show scope.names.lookup x = some .local from hl) hn hm2 ?_) hd
      refine wpAny_Constant_int ?_
      refine PyProof.Rows.add_int ?_
      refine item_listR hIL2 (x := .int b t2) (by omega) (by omega) (by
        have e : ((0 : Int) + (i : Nat) * 1 + 1).toNat = i + 1 := by omega
        rw [e]
        simpa using hw2) ?_ (by rfl)
      refine PyProof.Rows.lt_int ⟨?_, GxR.keeps_tok _ _⟩
      rw [decide_eq_true hab]
end
end Vc
/-! Lines of a sheet: written, split, read back. -/
namespace Vc
open PySem PySem.Spec PyProof.Rows L2 TL
def nS (n : Nat) : Str := Str.ofString (toString ((n : Nat) : Int))
theorem tl_nS (n : Nat) : tl (nS n) = numL n := tl_num n
def lineS (w : Str) (ns : List Nat) : Str := Txt.join " " (w :: ns.map nS)
theorem joinL_free {s : Nat} {S : List Nat} (hS : s ∉ S) : ∀ parts : List (List Nat), (∀ p ∈ parts, s ∉ p) → s ∉ joinL S parts
  | [], _ => by
    show s ∉ []
    simp
  | [p], h => h p List.mem_cons_self
  | p :: q :: r, h => by
    show s ∉ p ++ (S ++ joinL S (q :: r))
    intro hm
    rcases List.mem_append.mp hm with hm | hm
    · exact h p List.mem_cons_self hm
    · rcases List.mem_append.mp hm with hm | hm
      · exact hS hm
      · exact joinL_free hS (q :: r) (fun z hz => h z (List.mem_cons_of_mem _ hz)) hm
theorem joinL_len (S : List Nat) : ∀ parts : List (List Nat), (joinL S parts).length ≤ (parts.map List.length).sum + parts.length * S.length
  | [] => by
    show ([] : List Nat).length ≤ _
    simp
  | [p] => by
    show p.length ≤ _
    simp
  | p :: q :: r => by
    have h := joinL_len S (q :: r)
    show (p ++ (S ++ joinL S (q :: r))).length ≤ _
    rw [List.length_append, List.length_append, List.map_cons, List.sum_cons, List.length_cons, Nat.succ_mul]
    omega
theorem split_line {w : Str} (hw : 32 ∉ tl w) (ns : List Nat) : Txt.split (lineS w ns) " " = w :: ns.map nS :=
  split_join (s := 32) (S := []) (by decide +kernel) (by decide +kernel) (by simp) fun p hp => by
    rcases List.mem_cons.mp hp with e | hp
    · rw [e]
      exact hw
    · obtain ⟨n, _, rfl⟩ := List.mem_map.mp hp
      rw [tl_nS]
      exact numL_free (.inl (by decide))
theorem line_free {w : Str} (hw : 10 ∉ tl w) (ns : List Nat) : 10 ∉ tl (lineS w ns) := by
  unfold lineS
  rw [join_eq, tl_join]
  refine joinL_free (by decide +kernel) _ fun p hp => ?_
  obtain ⟨q, hq, rfl⟩ := List.mem_map.mp hp
  rcases List.mem_cons.mp hq with e | hq
  · rw [e]
    exact hw
  · obtain ⟨n, _, rfl⟩ := List.mem_map.mp hq
    rw [tl_nS]
    exact numL_free (.inl (by decide))
theorem nS_len {n : Nat} (h : n < 10 ^ 9) : (nS n).length ≤ 9 := by
  rw [len_tl, tl_nS]
  exact numL_len (by decide) h
theorem sum_le {α : Type} (f : α → Nat) (k : Nat) : ∀ l : List α, (∀ x ∈ l, f x ≤ k) → (l.map f).sum ≤ k * l.length
  | [], _ => by simp
  | a :: l, h => by
    have h1 := h a List.mem_cons_self
    have h2 := sum_le f k l fun x hx => h x (List.mem_cons_of_mem _ hx)
    simp only [List.map_cons, List.sum_cons, List.length_cons, Nat.mul_succ]
    omega
theorem sums_len {ns : List Nat} (h : ∀ n ∈ ns, n < 10 ^ 9) : ((ns.map nS).map (·.length)).sum ≤ 9 * ns.length := by
  rw [List.map_map]
  exact sum_le _ 9 ns fun n hn => nS_len (h n hn)
theorem line_len {w : Str} {ns : List Nat} (h : ∀ n ∈ ns, n < 10 ^ 9) : (lineS w ns).length ≤ w.length + 10 * ns.length + 1 := by
  unfold lineS
  rw [join_eq, len_tl, tl_join]
  have h1 := joinL_len (tl " ") ((w :: ns.map nS).map tl)
  have h2 : (((w :: ns.map nS).map tl).map List.length) = ((w :: ns.map nS).map (·.length)) := by
    rw [List.map_map]
    apply List.map_congr_left
    intro x _
    exact (len_tl x).symm
  have h3 := sums_len h
  have h4 : (tl (" " : Str)).length = 1 := by decide +kernel
  rw [h2, h4] at h1
  rw [show (w :: ns.map nS).map (·.length) = w.length :: (ns.map nS).map (·.length) from rfl, List.sum_cons, List.length_map, List.length_cons, List.length_map] at h1
  omega
/-- the first sign of a number of two signs or more is not 0 -/
theorem numL_head {n : Nat} (h : 10 ≤ n) : ∃ c r, numL n = c :: r ∧ c ≠ 48 := by
  induction n using Nat.strongRecOn with
  | _ n ih =>
    rw [numL_step h]
    by_cases h2 : n / 10 < 10
    · rw [numL_lt h2]
      exact ⟨48 + n / 10, [48 + n % 10], rfl, by omega⟩
    · obtain ⟨c, r, e, hc⟩ := ih (n / 10) (by omega) (by omega)
      exact ⟨c, r ++ [48 + n % 10], by rw [e]; rfl, hc⟩
/-! ### the five words -/
def stW : Nat → Str
  | 0 => "prime"
  | 1 => "mixers"
  | 2 => "lot"
  | 3 => "vote"
  | _ => "coins"
def stepsW : List Str := ["prime", "mixers", "lot", "vote", "coins"]
theorem stW_free (k : Nat) : 32 ∉ tl (stW k) ∧ 10 ∉ tl (stW k) ∧ (stW k).length ≤ 6 := by
  match k with
  | 0 => decide +kernel
  | 1 => decide +kernel
  | 2 => decide +kernel
  | 3 => decide +kernel
  | k + 4 => exact (show 32 ∉ tl ("coins" : Str) ∧ 10 ∉ tl ("coins" : Str) ∧ ("coins" : Str).length ≤ 6 by decide +kernel)
/-- a line by its word's place, and its numbers -/
abbrev Ln := Nat × List Nat
def txtL (x : Ln) : Str := lineS (stW x.1) x.2
def nextB (step : Int) (k : Nat) : Bool := if k < 2 then decide ((k : Int) = step + 1) else decide (1 ≤ step) && decide (step ≤ (k : Int)) && !decide (step = 4)
def Rise (ns : List Nat) : Prop := ∀ i, i + 1 < ns.length → ∃ a b, ns[i]? = some a ∧ ns[i + 1]? = some b ∧ a < b
def ShapeOk (k : Nat) (ns : List Nat) : Prop := k < 5 ∧ (k = 0 ∨ k = 1 ∨ k = 3 → ns.length = 1) ∧ (k = 2 → Rise ns) ∧ ns.length ≤ 1000 ∧ ∀ n ∈ ns, n < 10 ^ 9
theorem shape_one {k n : Nat} (h : k = 0 ∨ k = 1 ∨ k = 3) (hn : n < 10 ^ 9) : ShapeOk k [n] :=
  ⟨by omega, fun _ => rfl, fun z => by omega, by simp, fun x hx => by
    rw [List.mem_singleton.mp hx]
    exact hn⟩
/-- the lines one behind another, from a step on -/
def Path : Int → List Ln → Prop
  | s, [] => s = 4
  | s, x :: r => nextB s x.1 = true ∧ ShapeOk x.1 x.2 ∧ Path x.1 r
theorem path_get : ∀ {ls : List Ln} {s : Int} {i : Nat} {x : Ln}, Path s ls → ls[i]? = some x → nextB (((ls.take i).map fun y => (y.1 : Int)).getLastD s) x.1 = true ∧ ShapeOk x.1 x.2
  | [], _, _, _, _, h => by simp at h
  | y :: r, s, 0, x, h, e => by
    simp at e
    subst e
    exact ⟨h.1, h.2.1⟩
  | y :: r, s, i + 1, x, h, e => by
    have := path_get (i := i) h.2.2 (by simpa using e)
    rw [List.take_succ_cons, List.map_cons, List.getLastD_cons]
    exact this
theorem path_end : ∀ {ls : List Ln} {s : Int}, Path s ls → (ls.map fun y => (y.1 : Int)).getLastD s = 4
  | [], _, h => h
  | y :: r, s, h => by
    rw [List.map_cons, List.getLastD_cons]
    exact path_end h.2.2
/-- the lines of a sheet -/
def linesL (p m : Nat) (fam : List (List Nat)) (votes ns : List Nat) : List Ln := (0, [p]) :: (1, [m]) :: (fam.map (fun l => (2, l)) ++ (votes.map (fun v => (3, [v])) ++ [(4, ns)]))
theorem path_app {s t : Int} {r : List Ln} (h : ∀ s, (s = t ∨ s = 2 ∨ s = 3) → 1 ≤ s → Path s r) : True := trivial
theorem path_votes {ns : List Nat} (hn : ShapeOk 4 ns) : ∀ (votes : List Nat) (s : Int), 1 ≤ s → s ≤ 3 → (∀ v ∈ votes, v < 10 ^ 9) → Path s (votes.map (fun v => (3, [v])) ++ [(4, ns)])
  | [], s, h1, h2, _ => by
    refine ⟨?_, hn, rfl⟩
    show (decide (1 ≤ s) && decide (s ≤ ((4 : Nat) : Int)) && !decide (s = 4)) = true
    rw [decide_eq_true h1, decide_eq_true (by omega), decide_eq_false (by omega)]
    rfl
  | v :: r, s, h1, h2, hv => by
    refine ⟨?_, shape_one (.inr (.inr rfl)) (hv v List.mem_cons_self), path_votes hn r 3 (by decide) (by decide) fun x hx => hv x (List.mem_cons_of_mem _ hx)⟩
    show (decide (1 ≤ s) && decide (s ≤ ((3 : Nat) : Int)) && !decide (s = 4)) = true
    rw [decide_eq_true h1, decide_eq_true (by omega), decide_eq_false (by omega)]
    rfl
theorem path_lots {ns : List Nat} (hn : ShapeOk 4 ns) (votes : List Nat) (hv : ∀ v ∈ votes, v < 10 ^ 9) : ∀ (fam : List (List Nat)) (s : Int), 1 ≤ s → s ≤ 2 → (∀ l ∈ fam, ShapeOk 2 l) → Path s (fam.map (fun l => (2, l)) ++ (votes.map (fun v => (3, [v])) ++ [(4, ns)]))
  | [], s, h1, h2, _ => path_votes hn votes s h1 (by omega) hv
  | l :: r, s, h1, h2, hf => by
    refine ⟨?_, hf l List.mem_cons_self, path_lots hn votes hv r 2 (by decide) (by decide) fun x hx => hf x (List.mem_cons_of_mem _ hx)⟩
    show (decide (1 ≤ s) && decide (s ≤ ((2 : Nat) : Int)) && !decide (s = 4)) = true
    rw [decide_eq_true h1, decide_eq_true (by omega), decide_eq_false (by omega)]
    rfl
theorem path_lines {p m : Nat} {fam : List (List Nat)} {votes ns : List Nat} (hp : p < 10 ^ 9) (hm : m < 10 ^ 9) (hf : ∀ l ∈ fam, ShapeOk 2 l) (hv : ∀ v ∈ votes, v < 10 ^ 9) (hn : ShapeOk 4 ns) : Path (-1) (linesL p m fam votes ns) := by
  exact ⟨rfl, shape_one (.inl rfl) hp, rfl, shape_one (.inr (.inl rfl)) hm, path_lots hn votes hv fam 1 (by decide) (by decide) hf⟩
theorem lines_lots {p m : Nat} {fam : List (List Nat)} {votes ns : List Nat} : ((linesL p m fam votes ns).filter fun x => decide (x.1 = 2)).map (·.2) = fam := by
  have h1 : (fam.map (fun l => ((2, l) : Ln))).filter (fun x => decide (x.1 = 2)) = fam.map (fun l => (2, l)) := List.filter_eq_self.mpr fun x hx => by
    obtain ⟨l, _, rfl⟩ := List.mem_map.mp hx
    rfl
  have h2 : (votes.map (fun v => ((3, [v]) : Ln))).filter (fun x => decide (x.1 = 2)) = [] := List.filter_eq_nil_iff.mpr fun x hx => by
    obtain ⟨l, _, rfl⟩ := List.mem_map.mp hx
    simp
  have h3 : linesL p m fam votes ns = [(0, [p]), (1, [m])] ++ (fam.map (fun l => ((2, l) : Ln)) ++ (votes.map (fun v => ((3, [v]) : Ln)) ++ [(4, ns)])) := rfl
  have h4 : [((0, [p]) : Ln), (1, [m])].filter (fun x => decide (x.1 = 2)) = [] := rfl
  have h5 : [((4, ns) : Ln)].filter (fun x => decide (x.1 = 2)) = [] := rfl
  rw [h3, List.filter_append, List.filter_append, List.filter_append, h1, h2, h4, h5, List.nil_append, List.append_nil, List.append_nil, List.map_map]
  exact List.map_id fam
theorem lines_votes {p m : Nat} {fam : List (List Nat)} {votes ns : List Nat} : ((linesL p m fam votes ns).filter fun x => decide (x.1 = 3)).map (fun x => x.2.getD 0 0) = votes := by
  have h1 : (votes.map (fun v => ((3, [v]) : Ln))).filter (fun x => decide (x.1 = 3)) = votes.map (fun v => (3, [v])) := List.filter_eq_self.mpr fun x hx => by
    obtain ⟨l, _, rfl⟩ := List.mem_map.mp hx
    rfl
  have h2 : (fam.map (fun v => ((2, v) : Ln))).filter (fun x => decide (x.1 = 3)) = [] := List.filter_eq_nil_iff.mpr fun x hx => by
    obtain ⟨l, _, rfl⟩ := List.mem_map.mp hx
    simp
  have h3 : linesL p m fam votes ns = [(0, [p]), (1, [m])] ++ (fam.map (fun l => ((2, l) : Ln)) ++ (votes.map (fun v => ((3, [v]) : Ln)) ++ [(4, ns)])) := rfl
  have h4 : [((0, [p]) : Ln), (1, [m])].filter (fun x => decide (x.1 = 3)) = [] := rfl
  have h5 : [((4, ns) : Ln)].filter (fun x => decide (x.1 = 3)) = [] := rfl
  rw [h3, List.filter_append, List.filter_append, List.filter_append, h1, h2, h4, h5, List.nil_append, List.nil_append, List.append_nil, List.map_map]
  exact List.map_id votes
def sheetS (ls : List Ln) : Str := Txt.join "\n" (ls.map txtL)
theorem split_sheet {ls : List Ln} (h : ls ≠ []) : Txt.split (sheetS ls) "\n" = ls.map txtL :=
  split_join (s := 10) (S := []) (by decide +kernel) (by decide +kernel) (by simpa using h) fun p hp => by
    obtain ⟨x, _, rfl⟩ := List.mem_map.mp hp
    exact line_free (stW_free x.1).2.1 x.2
theorem stW_inj {j k : Nat} (hj : j < 5) (hk : k < 5) : decide (stW j = stW k) = decide (j = k) := by
  match j, k, hj, hk with
  | 0, 0, _, _ | 0, 1, _, _ | 0, 2, _, _ | 0, 3, _, _ | 0, 4, _, _ | 1, 0, _, _ | 1, 1, _, _ | 1, 2, _, _ | 1, 3, _, _ | 1, 4, _, _ | 2, 0, _, _ | 2, 1, _, _ | 2, 2, _, _ | 2, 3, _, _ | 2, 4, _, _ | 3, 0, _, _ | 3, 1, _, _ | 3, 2, _, _ | 3, 3, _, _ | 3, 4, _, _ | 4, 0, _, _ | 4, 1, _, _ | 4, 2, _, _ | 4, 3, _, _ | 4, 4, _, _ => decide +kernel
end Vc
/-! Rules for texts, and the tables of code objects. -/
namespace Vc
open PySem PySem.Spec PyProof.Rows L2 Vm TL
/-! ### the defs with a generator expression: code object and table -/
def cO (K : PySem.W.Frag) (x : Str) : Addr := He.codeOf K (x, none)
def tb (K : PySem.W.Frag) (x : Str) : Addr := He.tabOf K (cO K x)
/-- the three tables -/
structure Tg (K : PySem.W.Frag) (G : Hp) : Prop where
  a : GxR.TabG G (tb K "read_number")
  b : GxR.TabG G (tb K "read_numbers")
  c : GxR.TabG G (tb K "is_shape")
structure TBs (K : PySem.W.Frag) (mg : Str → Option Value) (base : Heap) : Prop where
  a : GxR.TabB base mg (cO K "read_number") (tb K "read_number")
  b : GxR.TabB base mg (cO K "read_numbers") (tb K "read_numbers")
  c : GxR.TabB base mg (cO K "is_shape") (tb K "is_shape")
theorem Tg.ex {K : PySem.W.Frag} {G G' : Hp} (h : Tg K G) (e : Ex G G') : Tg K G' := ⟨e.tab h.a, e.tab h.b, e.tab h.c⟩
theorem Df.calC {P : Program} {w : World} {K : PySem.W.Frag} {mg : Str → Option Value} {base : Heap} {x : Str} {st : Stmt} {N ps : List Str} {k : Nat} {sp : Sp} (d : Df K mg x st ps) (S : FnScope N ps (defScope st)) (len : ∀ vs H Q E, sp vs H Q E → vs.length = ps.length)
    (body : ∀ (f : Addr) (A : Around) (outer : List Env) (s : Shared) (H : Hp) (vs : List V) (Q : VK) (E : XK), Room k (A.deeper (envOfC x (defScope st) s.heap.objs.size f (.ref (cO K x)))) → sp vs H Q E →
      ∃ t, PSs (cxOf CX0 P w K mg base N x (defScope st) f (.ref (cO K x)) A outer s H E).nox (defBody st) t ∧ t { nx := fun _ H' => Q .non H', rt := Q } (start N vs) H) : Cal P w K mg base x (k + 1) ps sp := by
  obtain ⟨⟨fd, F, b⟩, g⟩ := d
  have kp := F.kp
  obtain ⟨oc, od, dV, kV, doc, pm, an, cdv, ct, osl, rfl, lk, hcd, _, _⟩ := F.ex
  obtain ⟨c, rfl⟩ := He.codeIn_ref hcd
  have ec : cO K x = c := He.codeOf_eq (p := (x, none)) lk rfl
  refine ⟨_, _, fn_of lk hcd S len fun A outer s H vs Q E hr h => ?_, g, kp, b⟩
  rw [← ec] at hr ⊢
  obtain ⟨t, p, q⟩ := body _ A outer s H vs Q E hr h
  exact ⟨t, p.nox, q⟩
section
variable {σ : L2.St} {H H' G G' : Hp} {te ta tb' tc : TE} {r : Rp} {al : TA} {K : PySem.W.Frag} {z : Str}
theorem pr_strs : ∀ {ys : List Str} {vs : List V}, Pr (ys.map rStr) G vs → vs = ys.map V.str
  | [], _, .nil => rfl
  | y :: ys, _, .cons h t => by
    have h' : _ = V.str y := h
    rw [h', pr_strs t]
    rfl
theorem rL_strs {ys : List Str} {v : V} (h : rL rStr ys G v) : ∃ a, v = .ref a ∧ G a = some (.lst (ys.map V.str)) := rL_vals (f := V.str) h
/-- x in a tuple of texts -/
theorem ev_inT {ys : List Str} (ha : Ev ta σ G (rStr z)) (hb : Ev tb' σ G (rT (ys.map rStr))) : Ev (tOp (rIn K false) ta tb') σ G (rBl (inV (.str z) (ys.map V.str))) :=
  ev_op ha hb fun G' H' a b _ e h1 h2 Q q => by
    obtain ⟨p, vs, rfl, h3, h4⟩ := h2
    rw [pr_strs h4] at h3
    have h1' : a = .str z := h1
    subst h1'
    refine ⟨p, _, rfl, .inr (SqT.of (e.t h3)), rfl, flat_strs ys, ?_⟩
    rw [if_neg (by simp)]
    exact q _ rfl
theorem ev_notinK {ys : List Str} {p : Addr} (hp : ∀ H, SqT K H p (ys.map V.str)) (ha : Ev ta σ G (rStr z)) : Ev (tOp (rIn K true) ta (tC (.ref p))) σ G (rBl (!inV (.str z) (ys.map V.str))) :=
  ev_op (r2 := rV (.ref p)) ha (ev_c rfl) fun G' H' a b _ e h1 h2 Q q => by
    have h1' : a = .str z := h1
    have h2' : b = .ref p := h2
    subst h1'
    refine ⟨p, _, h2', .inr (hp H'), rfl, flat_strs ys, ?_⟩
    rw [if_pos rfl]
    exact q _ rfl
/-- t.index(x) of a constant tuple of texts -/
theorem ev_index {ys : List Str} {p : Addr} {j : Nat} (hp : ∀ H, SqT K H p (ys.map V.str)) (hty : ∃ o, K.lookup p = some o ∧ o.cls = .type "tuple" ∧ o.dict = none) (hb : Ev tb' σ G (rStr z)) (hj : ys[j]? = some z) (hno : ∀ m, m < j → ys[m]? ≠ some z) :
    Ev (tBM K "tuple" (fun x xs H Q => ∃ p, ∃ ys : List Str, ∃ z j, x = .ref p ∧ xs = [.str z] ∧ SqT K H p (ys.map V.str) ∧ ys[j]? = some z ∧ (∀ m, m < j → ys[m]? ≠ some z) ∧ Q (.int (j : Nat)) H) (tC (.ref p)) (tCons tb' tNil)) σ G (rNat j) := fun H x Q q =>
  ⟨.inr (.inl ⟨rfl, hty⟩), hb H x _ fun v H1 G1 s1 hv => by
    have hv' : v = .str z := hv
    subst hv'
    exact ⟨p, ys, z, j, rfl, rfl, hp H1, hj, hno, q _ H1 G1 s1 rfl⟩⟩
/-- str(n) -/
theorem ev_str {n : Nat} (hn : n < 10 ^ 9) (ha : Ev ta σ G (rNat n)) : Ev (tCB (fun xs H Q => ∃ i : Int, xs = [.int i] ∧ i.natAbs.log2 < 1920 ∧ Q (.str (Str.ofString (toString i))) H) (tCons ta tNil)) σ G (rStr (nS n)) :=
  ev_cb (ea_cons ha ea_nil) fun G' H' vs _ e h Q q => by
    obtain ⟨v, rfl, h1⟩ := pr_one h
    refine ⟨(n : Int), by rw [show v = .int (n : Int) from h1], ?_, q _ _ _ (StepM.refl e) rfl⟩
    by_cases h0 : n = 0
    · subst h0
      decide
    · have h2 : n.log2 < 30 := (Nat.log2_lt h0).mpr (Nat.lt_of_lt_of_le hn (by decide))
      rw [Int.natAbs_natCast]
      omega
/-- sep.join(..) -/
theorem ev_join {sep : Str} {ys : List Str} (hb : Ev tb' σ G (rL rStr ys)) (hl : (ys.map (·.length)).sum + ys.length * sep.length ≤ 16777216) :
    Ev (tBM K "str" (fun x xs H Q => ∃ a p, ∃ ys : List Str, x = .str a ∧ xs = [.ref p] ∧ (SqL K H p (ys.map V.str) ∨ SqT K H p (ys.map V.str)) ∧ (ys.map (·.length)).sum + ys.length * a.length ≤ 16777216 ∧ Q (.str (Txt.join a ys)) H) (tC (.str sep)) (tCons tb' tNil)) σ G (rStr (Txt.join sep ys)) := fun H x Q q =>
  ⟨rfl, hb H x _ fun v H1 G1 s1 hv => by
    obtain ⟨p, rfl, h2⟩ := rL_strs hv
    exact ⟨sep, p, ys, rfl, rfl, .inl (SqL.of (s1.gh.l h2)), hl, q _ H1 G1 s1 rfl⟩⟩
/-- a.split(b) -/
theorem ev_split {a b : Str} (ha : Ev ta σ G (rStr a)) (hb : (b.length == 0) = false) (hl : a.length + 2 ≤ 16777216) :
    Ev (tBM K "str" (fun x xs H Q => ∃ a b, x = .str a ∧ xs = [.str b] ∧ (b.length == 0) = false ∧ a.length + 2 ≤ sizeLine ∧ rNewStrs (Txt.split a b) H Q) ta (tCons (tC (.str b)) tNil)) σ G (rL rStr (Txt.split a b)) := fun H x Q q =>
  ha H x _ fun v H1 G1 s1 hv => by
    have hv' : v = .str a := hv
    subst hv'
    refine ⟨rfl, a, b, rfl, rfl, hb, hl, fun p hp => ?_⟩
    exact q _ _ _ (s1.trans (StepM.new s1.gh hp)) (rL_of_vals (f := V.str) upd_same)
/-- xs[1:] -/
theorem ev_tail {α : Type} {q : α → Rp} [∀ x, Mo (q x)] {y : α} {ys : List α} (ha : Ev ta σ G (rL q (y :: ys))) : Ev (tSl (rSlL K) ta (tPart (tC (.int 1))) tNoPart) σ G (rL q ys) := fun H x Q k =>
  ha H x _ fun v H1 G1 s1 hv => by
    obtain ⟨a, vs, rfl, h2, h3⟩ := hv
    refine ⟨1, rfl, a, vs, rfl, SqL.of (s1.gh.l h2), fun p hp => ?_⟩
    cases h3 with
    | cons h t =>
      rename_i v vs
      have e : cutV (v :: vs) (some 1) none = vs := by
        unfold cutV HT.sIx
        simp
      rw [e]
      exact k _ _ _ (s1.trans (StepM.new s1.gh hp)) ⟨p, vs, rfl, upd_same, paired_mono t fun _ _ _ w => Mo.mo (ExM.new (s1.gh.dom hp)) w⟩
/-- len(a text) -/
theorem ev_lenS {a : Str} (ha : Ev ta σ G (rStr a)) (hl : a.length ≤ 16777216) : Ev (tCB (fun xs H Q => ∃ z, xs = [.str z] ∧ z.length ≤ sizeLine ∧ Q (.int z.length) H) (tCons ta tNil)) σ G (rNat a.length) :=
  ev_cb (ea_cons ha ea_nil) fun G' H' vs _ e h Q q => by
    obtain ⟨v, rfl, h1⟩ := pr_one h
    exact ⟨a, by rw [show v = .str a from h1], hl, q _ _ _ (StepM.refl e) rfl⟩
/-- a[0] -/
theorem ev_ixS {a : Str} {c : Nat} (ha : Ev ta σ G (rStr a)) (hl : a.length ≤ 16777216) (hc : (tl a)[0]? = some c) : Ev (tOp rIxS ta (tC (.int 0))) σ G (rStr ⟨#[c]⟩) :=
  ev_op (r2 := rInt 0) ha ev_i fun G' H' x y _ e h1 h2 Q q => ⟨a, 0, c, h1, h2, hl, by
    have hlt : 0 < (tl a).length := (List.getElem?_eq_some_iff.mp hc).1
    unfold atI ixN
    rw [if_pos (by omega), if_pos (show (0 : Int) < ((tl a).length : Int) by omega)]
    exact hc, q _ rfl⟩
/-- int(a text) -/
theorem ev_int {n : Nat} (hn : n < 10 ^ 9) (ha : Ev ta σ G (rStr (nS n))) : Ev (tCB (fun xs H Q => ∃ a n, xs = [.str a] ∧ PySem.intText? a = some n ∧ a.length ≤ 640 ∧ Q (.int n) H) (tCons ta tNil)) σ G (rNat n) :=
  ev_cb (ea_cons ha ea_nil) fun G' H' vs _ e h Q q => by
    obtain ⟨v, rfl, h1⟩ := pr_one h
    have hl := nS_len hn
    refine ⟨nS n, (n : Int), by rw [show v = .str (nS n) from h1], int_num ?_, by omega, q _ _ _ (StepM.refl e) rfl⟩
    rw [len_tl, tl_nS] at hl
    omega
/-- xs[-1] -/
theorem ev_ixLast {α : Type} {q : α → Rp} [∀ x, Mo (q x)] {ys : List α} {y : α} (ha : Ev ta σ G (rL q (ys ++ [y]))) : Ev (tOp (rIxL K) ta (tUn (rU fun i => .int (-i)) (tC (.int 1)))) σ G (q y) := fun H x Q k =>
  ha H x _ fun v H1 G1 s1 hv => by
    obtain ⟨a, vs, rfl, h2, h3⟩ := hv
    obtain ⟨v, h4, h5⟩ := paired_get (i := ys.length) (y := y) h3 (by simp)
    have hlen : vs.length = ys.length + 1 := by
      have := paired_len h3
      rw [List.length_append, List.length_singleton] at this
      exact this
    have hvs : vs = vs.take ys.length ++ [v] := by
      have h6 : vs.take (ys.length + 1) = vs.take ys.length ++ [v] := by
        rw [List.take_succ, h4]
        rfl
      rw [← hlen, List.take_length] at h6
      exact h6
    refine ⟨1, rfl, a, vs, -1, v, rfl, rfl, SqL.of (s1.gh.l h2), ?_, k v H1 G1 s1 h5⟩
    rw [hvs]
    exact atI_last
/-- any, all -/
theorem ev_allSigns {P : Addr} {a z : Str} (ht : GxR.TabG G P) (ha : Ev ta σ G (rStr a)) (h : ∀ c ∈ tl a, c ∈ tl z) : Ev (tAllG P (sSigns ta z)) σ G (rBl true) := fun H x Q q =>
  ha H x _ fun v H1 G1 s1 hv => by
    have ht1 : GxR.TabG H1 P := Ex.tab (ExM.trans s1.gg s1.gh) ht
    refine ⟨a, hv, ht1, fun H2 t2 => ?_⟩
    have e : (List.range a.cps.size).all (GxR.trF (fun c => decide (c ∈ z.cps.toList)) a.cps.toList) = true := by
      rw [GxR.all_signs, List.all_eq_true]
      intro c hc
      exact decide_eq_true (h c hc)
    rw [e]
    exact q _ H2 G1 (s1.trans (StepM.of_ex s1.gh (Ex.tabbed ht1 t2))) rfl
theorem ev_anyNone {P : Addr} {ns : List Nat} (ht : GxR.TabG G P) (ha : Ev ta σ G (rL rNat ns)) : Ev (tAnyG P (sInts K ta)) σ G (rBl false) := fun H x Q q =>
  ha H x _ fun v H1 G1 s1 hv => by
    have ht1 : GxR.TabG H1 P := Ex.tab (ExM.trans s1.gg s1.gh) ht
    obtain ⟨p, rfl, h2⟩ := rL_ints (rL_nat_int hv)
    refine ⟨p, _, rfl, SqL.of (s1.gh.l h2), ht1, fun H2 t2 => ?_⟩
    have e : (List.range (ns.map Int.ofNat).length).any (fun _ => false) = false := by simp
    rw [e]
    exact q _ H2 G1 (s1.trans (StepM.of_ex s1.gh (Ex.tabbed ht1 t2))) rfl
theorem ev_allRise {P : Addr} {ns : List Nat} {j : Nat} {v : V} (ht : GxR.TabG G P) (hj : σ[j]? = some (some v)) (hv : rL rNat ns G v) (hr : Rise ns) (hl : ns.length ≤ 1000) (ha : EvA al σ G [rInt ((ns.length : Int) - 1)]) : Ev (tAllG P (sRise K j al)) σ G (rBl true) := fun H x Q q =>
  ha H x _ fun vs H1 G1 s1 hvs => by
    have ht1 : GxR.TabG H1 P := Ex.tab (ExM.trans s1.gg s1.gh) ht
    obtain ⟨u, rfl, hu⟩ := pr_one hvs
    obtain ⟨p, rfl, h2⟩ := rL_ints (rL_nat_int (Mo.mo s1.gg hv))
    have hu' : u = .int ((ns.length : Int) - 1) := hu
    subst hu'
    refine ⟨p, _, _, rfl, by omega, by omega, hj, SqL.of (s1.gh.l h2), fun i hi => ?_, ht1, fun H2 t2 => ?_⟩
    · obtain ⟨a, b, h3, h4, h5⟩ := hr i (by omega)
      exact ⟨a, b, by rw [List.getElem?_map, h3]; rfl, by rw [List.getElem?_map, h4]; rfl, by omega⟩
    · have e : (List.range ((ns.length : Int) - 1).toNat).all (fun _ => true) = true := by simp
      rw [e]
      exact q _ H2 G1 (s1.trans (StepM.of_ex s1.gh (Ex.tabbed ht1 t2))) rfl
end
end Vc
namespace Vc
open PySem PySem.Spec PyProof.Rows L2 Vm TL
theorem nofree {env : Env} {scope : Scope} (h : ∀ y ∈ scope.names, y.2 ≠ .free) : ∀ y ∈ scope.names, y.2 = .free → ∃ c, env.cells.lookup y.1 = some c := fun y hy e => absurd e (h y hy)
theorem onefree {env : Env} {scope : Scope} {x : Str} (h : ∀ y ∈ scope.names, y.2 = .free → y.1 = x) (hc : ∃ c, env.cells.lookup x = some c) : ∀ y ∈ scope.names, y.2 = .free → ∃ c, env.cells.lookup y.1 = some c := fun y hy e => by
  rw [h y hy e]
  exact hc
section
variable {P : Program} {w : World} {K : PySem.W.Frag} {mg : Str → Option Value} {base : Heap}
/-! read_number -/
def spRdN (K : PySem.W.Frag) : Sp := fun vs H Q E => ∃ (n : Nat) (G : Hp), n < 10 ^ 9 ∧ Tg K G ∧ Ex G H ∧ Pr [rStr (nS n)] G vs ∧ ∀ v H' G', Step H G H' G' → rNat n G' v → Q v H'
theorem sc_read_number : FnScope ["word"] ["word"] (defScope s_read_number) := ⟨rfl, rfl, rfl, by decide +kernel, rfl, by decide +kernel, by decide +kernel⟩
theorem ok_read_number (T : Tx K mg) (TB : TBs K mg base) : Cal P w K mg base "read_number" 1 ["word"] (spRdN K) := by
  refine T.k_read_number.calC sc_read_number (fun vs H Q E ⟨_, _, _, _, _, h, _⟩ => (paired_len h).trans rfl) fun f A outer s H vs Q E hr h => ⟨_, (pss_cons (ps_if (PW.pt (pw_or (pt_not (pt_chain op_le op_le pe_int (pe_callB call_len_str (by rfl) T.flen PySem.boot_len (pa_cons (pv 0) pa_nil)) pe_int)) (pw_or1 (pt_not (pt_val (pe_allG hr rfl T.fall TB.a rfl ⟨rfl, rfl, by decide +kernel, rfl, rfl, nofree (by decide +kernel)⟩ (ps_signs (pv 0) rfl rfl) (fun _ => rfl))))))) (pss_one (ps_ret pe_non)) pss_nil)
        (pss_cons (ps_if (PW.pt (pw_and (pt_cmpR op_gt (pe_callB call_len_str (by rfl) T.flen PySem.boot_len (pa_cons (pv 0) pa_nil)) pe_int (nomark _)) (pw_and1 (pt_cmpR op_eq (pe_ix ix_str (pv 0) pe_int (fun _ _ => rfl)) pe_str (nomark _))))) (pss_one (ps_ret pe_non)) pss_nil)
        (pss_one (ps_ret (pe_callTy call_int_str (by rfl) T.fint (by decide +kernel) (pa_cons (pv 0) pa_nil)))))), ?_⟩
  obtain ⟨n, G, hn, ht, e, ha, k⟩ := h
  obtain ⟨_, rfl, rfl⟩ := pr_one ha
  have hl := nS_len hn
  have hl0 : 1 ≤ (nS n).length := by
    rw [len_tl, tl_nS]
    exact List.length_pos_iff.mpr (numL_ne n)
  have hdig : ∀ c ∈ tl (nS n), c ∈ tl ("0123456789" : Str) := fun c hc => by
    rw [tl_nS] at hc
    have h1 := numL_digits n c hc
    have h2 : ∀ d : Nat, d < 10 → 48 + d ∈ tl ("0123456789" : Str) := by decide +kernel
    have h3 := h2 (c - 48) (by omega)
    rw [show 48 + (c - 48) = c by omega] at h3
    exact h3
  refine q_if (b := false) ((et_or (a := false) (b := false) ((et_not (a := true) (et_test ((ev_chainI (g1 := fun i j => decide (i ≤ j)) (g2 := fun i j => decide (i ≤ j)) (i := 1) (j := ((nS n).length : Int)) (k := 9) ev_i (ev_lenS (ev_var rfl rfl) (by omega)) (fun _ => ev_i)).is fun _ v _ z => by
      have z' : v = V.bl (decide ((1 : Int) ≤ ((nS n).length : Int)) && decide (((nS n).length : Int) ≤ 9)) := z
      rw [z', decide_eq_true (by omega), decide_eq_true (by omega)]
      rfl)))) fun _ => et_not (a := true) (et_B (ev_allSigns ht.a (ev_var rfl rfl) hdig)))) e (fun z => by cases z) fun _ H1 G1 s1 => ?_
  refine q_if (b := false) ((et_and (a := decide ((1 : Int) < ((nS n).length : Int))) (b := false) (et_test (ev_I0 (g := fun i j => .bl (decide (j < i))) (ev_lenS (ev_var rfl rfl) (by omega)) ev_i)) fun hb => ?_).is (by simp)) s1.gh (fun z => by cases z) fun _ H2 G2 s2 => ?_
  · have hb' := of_decide_eq_true hb
    have hlen : 1 < (numL n).length := by
      rw [len_tl, tl_nS] at hb'
      omega
    have h10 : 10 ≤ n := by
      by_cases hc : 10 ≤ n
      · exact hc
      · rw [numL_lt (by omega)] at hlen
        simp at hlen
    obtain ⟨c, r, hc, hc48⟩ := numL_head h10
    refine (et_test (ev_eq (x := .str ⟨#[c]⟩) (y := .str "0") (ev_ixS (ev_var rfl rfl) (by omega) (by rw [tl_nS, hc]; rfl)) ev_s rfl)).is (decide_eq_false fun z => hc48 ?_)
    have z1 : (⟨#[c]⟩ : Str) = "0" := V.str.inj z
    have z2 := congrArg tl z1
    have z3 : [c] = [48] := z2.trans (show tl ("0" : Str) = [48] by decide +kernel)
    exact (List.cons.inj z3).1
  · exact s_ret (ev_int hn (ev_var rfl rfl)) s2.gh fun v H3 G3 s3 hv => k v H3 G3 ((s1.trans s2).trans s3) hv
/-! read_numbers -/
def spRdNs (K : PySem.W.Frag) : Sp := fun vs H Q E => ∃ (ns : List Nat) (G : Hp), ns.length ≤ 1000 ∧ (∀ n ∈ ns, n < 10 ^ 9) ∧ Tg K G ∧ Ex G H ∧ Pr [rL rStr (ns.map nS)] G vs ∧ ∀ v H' G', Step H G H' G' → rL rNat ns G' v → Q v H'
theorem sc_read_numbers : FnScope ["words", "numbers", "word"] ["words"] (defScope s_read_numbers) := ⟨rfl, rfl, rfl, by decide +kernel, rfl, by decide +kernel, by decide +kernel⟩
theorem ok_read_numbers (T : Tx K mg) (TB : TBs K mg base) : Cal P w K mg base "read_numbers" 2 ["words"] (spRdNs K) := by
  have c_read_number := ok_read_number (P := P) (w := w) T TB
  refine T.k_read_numbers.calC sc_read_numbers (fun vs H Q E ⟨_, _, _, _, _, _, h, _⟩ => (paired_len h).trans rfl) fun f A outer s H vs Q E hr h => ⟨_, (pss_cons (ps_setLc (i := 1) (own := [("word", 2)]) (g := gName 2) (tt := tYes) rfl sc_read_numbers.nd rfl rfl (sw_true rfl rfl rfl (by decide +kernel)) (itL K (pv 0)) (blkOk_by (N := ["words", "numbers", "word"]) (sc := defScope s_read_numbers) (by decide +kernel)) (fun _ _ _ _ _ => pg_name (i := 2) sc_read_numbers.nd rfl (Or.inl rfl)) (fun _ _ _ _ _ => pts_nil) (fun _ _ _ _ _ => (pe_cal c_read_number hr rfl (pa_cons (pv 2) pa_nil))))
        (pss_cons (ps_if (pt_val (pe_anyG hr rfl T.fany TB.b rfl ⟨rfl, rfl, by decide +kernel, rfl, rfl, nofree (by decide +kernel)⟩ (ps_isNone (pv 1) rfl rfl) (fun _ => rfl))) (pss_one (ps_ret pe_non)) pss_nil)
        (pss_one (ps_ret (pv 1))))), ?_⟩
  obtain ⟨ns, G, hl, hn, ht, e, ha, k⟩ := h
  obtain ⟨u, rfl, hu⟩ := pr_one ha
  have hu2 : rL (fun n : Nat => rStr (nS n)) ns G u := by
    obtain ⟨a, rfl, h2⟩ := rL_strs hu
    refine rL_of_vals (f := fun n => V.str (nS n)) ?_
    rw [h2, List.map_map]
    rfl
  refine q_set (r := rL rNat ns) (ev_map1 (r := rNat) (r0 := fun n : Nat => rStr (nS n)) (wk_list (r := fun n : Nat => rStr (nS n)) (ys := ns) (ev_var rfl hu2)) (by omega) (fun _ => rfl) fun n v G1 hm e1 hv H x Q q =>
    ⟨v, rfl, n, G1, hn n hm, ht.ex e1, x, .cons hv .nil, fun v' H' G' s' hv' => q v' H' G' s' hv'⟩) e fun v1 H1 G1 s1 hv1 => ?_
  refine q_if (b := false) (et_B (ev_anyNone (ht.ex s1.gg).b (ev_var rfl hv1))) s1.gh (fun z => by cases z) fun _ H2 G2 s2 => ?_
  exact s_ret (ev_var rfl (Mo.mo s2.gg hv1)) s2.gh fun v H3 G3 s3 hv => k v H3 G3 ((s1.trans s2).trans s3) hv
/-! write_line -/
def spWL : Sp := fun vs H Q E => ∃ (z : Str) (ns : List Nat), z.length ≤ 10 ∧ ns.length ≤ 1000 ∧ (∀ n ∈ ns, n < 10 ^ 9) ∧ spOf [rStr z, rL rNat ns] (rStr (lineS z ns)) vs H Q E
theorem sc_write_line : FnScope ["word", "numbers", "number"] ["word", "numbers"] (defScope s_write_line) := ⟨rfl, rfl, rfl, by decide +kernel, rfl, by decide +kernel, by decide +kernel⟩
theorem ok_write_line (T : Tx K mg) : Cal P w K mg base "write_line" 1 ["word", "numbers"] spWL := by
  refine T.k_write_line.cal sc_write_line (fun vs H Q E ⟨_, _, _, _, _, h⟩ => spOf_len h) fun f cdv A outer s H vs Q E hr h => ⟨_, (pss_one (ps_ret (bmK K (pe_bm PySem.F.plainAttrs_str PySem.F.slot_str_join PySem.F.type_str_join mt_join pe_str (pa_cons (pe_op op_cat (pe_lst (pa_cons (pv 0) pa_nil)) (pe_lc (own := [("number", 2)]) (g := gName 2) (tt := tYes) rfl sc_write_line.nd (itL K (pv 1)) (blkOk_by (N := ["word", "numbers", "number"]) (sc := defScope s_write_line) (by decide +kernel)) (fun _ _ _ _ _ => pg_name (i := 2) sc_write_line.nd rfl (Or.inl rfl)) (fun _ _ _ _ _ => pts_nil) (fun _ _ _ _ _ => (pe_callTy call_str_int (by rfl) T.fstr (by decide +kernel) (pa_cons (pv 2) pa_nil))))) pa_nil))))), ?_⟩
  obtain ⟨z, ns, hz, hl, hn, G, e, ha, k⟩ := h
  obtain ⟨_, u, rfl, rfl, hu⟩ := pr_two ha
  have hs := sums_len hn
  refine s_ret (ev_join (ys := z :: ns.map nS) (ev_cat (r := rStr) (xs := [z]) (ys := ns.map nS) (ev_lst (r := rStr) (xs := [z]) (ea_cons (ev_var rfl rfl) ea_nil) (by simp)) (ev_lc1 (r := rStr) (r0 := rNat) nS (wk_list (r := rNat) (ys := ns) (ev_var rfl hu)) (by omega) (fun _ => rfl) fun n v G1 hm e1 hv => ev_str (hn n hm) (ev_var rfl hv)) (by rw [List.length_map, List.length_singleton]; omega)) ?_) e k
  have h4 : ((" " : Str)).length = 1 := by decide +kernel
  rw [h4, List.map_cons, List.sum_cons, List.length_cons, List.length_map]
  omega
/-! Sheet -/
def nsSh : List Str := ["prime", "mixers", "family", "votes", "numbers"]
def rShf (p m : Nat) (fam : List (List Nat)) (votes ns : List Nat) : List (Str × Rp) := [("prime", rNat p), ("mixers", rNat m), ("family", rL (rL rNat) fam), ("votes", rL rNat votes), ("numbers", rL rNat ns)]
instance {p m : Nat} {fam : List (List Nat)} {votes ns : List Nat} : MoF (rShf p m fam votes ns) := by
  unfold rShf
  infer_instance
abbrev rSh (K : PySem.W.Frag) (p m : Nat) (fam : List (List Nat)) (votes ns : List Nat) : Rp := rO (He.ga K "Sheet") (rShf p m fam votes ns)
def spShini (K : PySem.W.Frag) : Sp := fun vs H Q E => ∃ (p m : Nat) (fam : List (List Nat)) (votes ns : List Nat), fam.length ≤ 1000 ∧ spIni K "Sheet" [rNat p, rNat m, rL (rL rNat) fam, rL rNat votes, rL rNat ns] (rShf p m fam votes ns) vs H Q E
theorem sc_Sheet_init : FnScope ["self", "prime", "mixers", "family", "votes", "numbers", "lot"] ["self", "prime", "mixers", "family", "votes", "numbers"] (defScope s_Sheet_init) := ⟨rfl, rfl, rfl, by decide +kernel, rfl, by decide +kernel, by decide +kernel⟩
theorem ok_Sheet (T : Tx K mg) : Ctr P w K mg base "Sheet" 1 ["self", "prime", "mixers", "family", "votes", "numbers"] (spShini K) := by
  refine ⟨T.k_Sheet_init.fnOk sc_Sheet_init (fun vs H Q E ⟨_, _, _, _, _, _, h⟩ => spIni_len h) fun f cdv A outer s H vs Q E hr h => ⟨_, (pss_cons (ps_fld (pv 0) (pv 1) rfl)
        (pss_cons (ps_fld (pv 0) (pv 2) rfl)
        (pss_cons (ps_fld (pv 0) (pe_lc (own := [("lot", 6)]) (g := gName 6) (tt := tYes) rfl sc_Sheet_init.nd (itL K (pv 3)) (blkOk_by (N := ["self", "prime", "mixers", "family", "votes", "numbers", "lot"]) (sc := defScope s_Sheet_init) (by decide +kernel)) (fun _ _ _ _ _ => pg_name (i := 6) sc_Sheet_init.nd rfl (Or.inl rfl)) (fun _ _ _ _ _ => pts_nil) (fun _ _ _ _ _ => (pe_callTy (cList K) (by rfl) T.flist (by decide +kernel) (pa_cons (pv 6) pa_nil)))) rfl)
        (pss_cons (ps_fld (pv 0) (pe_callTy (cList K) (by rfl) T.flist (by decide +kernel) (pa_cons (pv 4) pa_nil)) rfl)
        (pss_one (ps_fld (pv 0) (pe_callTy (cList K) (by rfl) T.flist (by decide +kernel) (pa_cons (pv 5) pa_nil)) rfl)))))), ?_⟩, T.m_Sheet, T.g_Sheet⟩
  obtain ⟨p, m, fam, votes, ns, hfl, G, x, dx, ws, e, gx, rfl, hx, ha, k⟩ := h
  obtain ⟨_, _, a, b, c, rfl, rfl, rfl, h3, h4, h5⟩ := pr_five ha
  refine q_fldB [] (StepM.refl e) (.inl in1) (Ob.start hx gx) (r := rNat p) ((ev_var rfl rfl).h e) rfl T.c_Sheet T.n_Sheet_prime fun H1 G1 o1 s1 t1 O1 => ?_
  refine q_fldB ["prime"] t1 (.inl in1) O1 (r := rNat m) ((ev_var rfl rfl).h t1.gh) rfl T.c_Sheet T.n_Sheet_mixers fun H2 G2 o2 s2 t2 O2 => ?_
  refine q_fldB ["prime", "mixers"] t2 (.inl in1) O2 (r := rL (rL rNat) fam) ((ev_map1 (r := rL rNat) (r0 := rL rNat) (wk_list (r := rL rNat) (ys := fam) (ev_var rfl (Mo.mo t2.gg h3))) (by omega) (fun _ => rfl) fun l v G1 hl e1 hv => ev_list (r := rNat) (xs := l) (ev_var rfl hv)).h t2.gh) rfl T.c_Sheet T.n_Sheet_family fun H3 G3 o3 s3 t3 O3 => ?_
  refine q_fldB ["prime", "mixers", "family"] t3 (.inl in1) O3 (r := rL rNat votes) ((ev_list (r := rNat) (xs := votes) (ev_var rfl (Mo.mo t3.gg h4))).h t3.gh) rfl T.c_Sheet T.n_Sheet_votes fun H4 G4 o4 s4 t4 O4 => ?_
  refine s_fldB ["prime", "mixers", "family", "votes"] t4 (.inl in1) O4 (r := rL rNat ns) ((ev_list (r := rNat) (xs := ns) (ev_var rfl (Mo.mo t4.gg h5))).h t4.gh) rfl T.c_Sheet T.n_Sheet_numbers fun H5 G5 o5 s5 t5 O5 => ?_
  exact ini_end k t5 O5
end
end Vc
namespace Vc
open PySem PySem.Spec PyProof.Rows L2 Vm TL
theorem path_mem : ∀ {ls : List Ln} {s : Int} {x : Ln}, Path s ls → x ∈ ls → ShapeOk x.1 x.2
  | y :: r, s, x, h, e => by
    rcases List.mem_cons.mp e with e | e
    · rw [e]
      exact h.2.1
    · exact path_mem h.2.2 e
theorem txt_len {x : Ln} (h : ShapeOk x.1 x.2) : (txtL x).length ≤ 10007 := by
  have h1 := line_len (w := stW x.1) h.2.2.2.2
  have h2 := (stW_free x.1).2.2
  have h3 := h.2.2.2.1
  show (lineS (stW x.1) x.2).length ≤ _
  omega
theorem txts_len {ls : List Ln} {s : Int} (h : Path s ls) : ((ls.map txtL).map (·.length)).sum ≤ 10007 * ls.length := by
  rw [List.map_map]
  exact sum_le _ 10007 ls fun x hx => txt_len (path_mem h hx)
theorem sheet_len {ls : List Ln} {s : Int} (h : Path s ls) : (sheetS ls).length ≤ 10008 * ls.length := by
  unfold sheetS
  rw [join_eq, len_tl, tl_join]
  have h1 := joinL_len (tl "\n") ((ls.map txtL).map tl)
  have h2 : (((ls.map txtL).map tl).map List.length) = ((ls.map txtL).map (·.length)) := by
    rw [List.map_map]
    apply List.map_congr_left
    intro x _
    exact (len_tl x).symm
  have h3 := txts_len h
  have h4 : (tl ("\n" : Str)).length = 1 := by decide +kernel
  rw [h2, h4, List.length_map, List.length_map] at h1
  omega
theorem lines_len {p m : Nat} {fam : List (List Nat)} {votes ns : List Nat} : (linesL p m fam votes ns).length = 3 + fam.length + votes.length := by
  simp [linesL]
  omega
theorem lines_txt {p m : Nat} {fam : List (List Nat)} {votes ns : List Nat} : (linesL p m fam votes ns).map txtL = [lineS "prime" [p], lineS "mixers" [m]] ++ fam.map (fun l => lineS "lot" l) ++ votes.map (fun v => lineS "vote" [v]) ++ [lineS "coins" ns] := by
  unfold linesL
  rw [List.map_cons, List.map_cons, List.map_append, List.map_append, List.map_map, List.map_map, List.append_assoc, List.append_assoc]
  rfl
theorem accStrs {ys : List Str} {H G G1 H1 : Hp} {p : Addr} (e : Ex G H) (hn : H p = none) (s : Step H G H1 G1) (h : rL rStr ys G1 (.ref p)) : Acc rStr p ys H1 G := by
  obtain ⟨a, e1, h2⟩ := rL_strs h
  cases e1
  exact ⟨_, s.gh.l h2, e.dom hn, paired_of_vals V.str G ys⟩
section
variable {P : Program} {w : World} {K : PySem.W.Frag} {mg : Str → Option Value} {base : Heap}
/-- a call that asks for the tables -/
def spOfT (K : PySem.W.Frag) (rs : List Rp) (r : Rp) : Sp := fun vs H Q _ => ∃ G, Tg K G ∧ Ex G H ∧ Pr rs G vs ∧ ∀ v H' G', Step H G H' G' → r G' v → Q v H'
theorem ev_callT {σ : L2.St} {G : Hp} {al : TA} {rs : List Rp} {r : Rp} {sp : Sp} {E : XK} (ht : Tg K G) (ha : EvA al σ G rs) (hsp : ∀ vs H Q, spOfT K rs r vs H Q E → sp vs H Q E) : Ev (tCall sp [] E al) σ G r := fun H x Q q =>
  ha H x _ fun vs H1 G1 s1 h1 => by
    refine hsp _ H1 Q ⟨G1, ht.ex s1.gg, s1.gh, ?_, fun v H2 G2 s2 h2 => q v H2 G2 (s1.trans s2) h2⟩
    rw [List.append_nil]
    exact h1
/-! write_sheet -/
def spWS (K : PySem.W.Frag) : Sp := fun vs H Q E => ∃ (p m : Nat) (fam : List (List Nat)) (votes ns : List Nat), Path (-1) (linesL p m fam votes ns) ∧ fam.length ≤ 100 ∧ votes.length ≤ 100 ∧ spOf [rSh K p m fam votes ns] (rStr (sheetS (linesL p m fam votes ns))) vs H Q E
theorem sc_write_sheet : FnScope ["sheet", "lines", "lot", "vote"] ["sheet"] (defScope s_write_sheet) := ⟨rfl, rfl, rfl, by decide +kernel, rfl, by decide +kernel, by decide +kernel⟩
theorem ok_write_sheet (T : Tx K mg) : Cal P w K mg base "write_sheet" 2 ["sheet"] (spWS K) := by
  have c_write_line := ok_write_line (P := P) (w := w) (base := base) T
  refine T.k_write_sheet.cal sc_write_sheet (fun vs H Q E ⟨_, _, _, _, _, _, _, _, h⟩ => spOf_len h) fun f cdv A outer s H vs Q E hr h => ⟨_, (pss_cons (ps_set (i := 1) sc_write_sheet.nd rfl (Or.inl rfl) (pe_lst (pa_cons (pe_cal c_write_line hr rfl (pa_cons pe_str (pa_cons (pe_lst (pa_cons (fldK K (pv 0) rfl) pa_nil)) pa_nil))) (pa_cons (pe_cal c_write_line hr rfl (pa_cons pe_str (pa_cons (pe_lst (pa_cons (fldK K (pv 0) rfl) pa_nil)) pa_nil))) pa_nil))))
        (pss_cons (ps_set (i := 1) sc_write_sheet.nd rfl (Or.inl rfl) (pe_op op_cat (pv 1) (pe_lc (own := [("lot", 2)]) (g := gName 2) (tt := tYes) rfl sc_write_sheet.nd (itL K (fldK K (pv 0) rfl)) (blkOk_by (N := ["sheet", "lines", "lot", "vote"]) (sc := defScope s_write_sheet) (by decide +kernel)) (fun _ _ _ _ _ => pg_name (i := 2) sc_write_sheet.nd rfl (Or.inl rfl)) (fun _ _ _ _ _ => pts_nil) (fun _ _ _ _ _ => (pe_cal c_write_line hr rfl (pa_cons pe_str (pa_cons (pv 2) pa_nil)))))))
        (pss_cons (ps_set (i := 1) sc_write_sheet.nd rfl (Or.inl rfl) (pe_op op_cat (pv 1) (pe_lc (own := [("vote", 3)]) (g := gName 3) (tt := tYes) rfl sc_write_sheet.nd (itL K (fldK K (pv 0) rfl)) (blkOk_by (N := ["sheet", "lines", "lot", "vote"]) (sc := defScope s_write_sheet) (by decide +kernel)) (fun _ _ _ _ _ => pg_name (i := 3) sc_write_sheet.nd rfl (Or.inl rfl)) (fun _ _ _ _ _ => pts_nil) (fun _ _ _ _ _ => (pe_cal c_write_line hr rfl (pa_cons pe_str (pa_cons (pe_lst (pa_cons (pv 3) pa_nil)) pa_nil)))))))
        (pss_cons (ps_expr (bmK K (pe_bm PySem.F.plainAttrs_list PySem.F.slot_list_append PySem.F.type_list_append mt_append (pv 1) (pa_cons (pe_cal c_write_line hr rfl (pa_cons pe_str (pa_cons (fldK K (pv 0) rfl) pa_nil))) pa_nil))))
        (pss_one (ps_ret (bmK K (pe_bm PySem.F.plainAttrs_str PySem.F.slot_str_join PySem.F.type_str_join mt_join pe_str (pa_cons (pv 1) pa_nil))))))))), ?_⟩
  obtain ⟨p, m, fam, votes, ns, hp, hfl, hvl, G, e, ha, k⟩ := h
  obtain ⟨u, rfl, hu⟩ := pr_one ha
  have hsum := txts_len hp
  have hlen := lines_len (p := p) (m := m) (fam := fam) (votes := votes) (ns := ns)
  have h0 := path_mem hp (x := (0, [p])) (by unfold linesL; simp)
  have h1 := path_mem hp (x := (1, [m])) (by unfold linesL; simp)
  have h2 : ∀ l ∈ fam, ShapeOk 2 l := fun l hl => path_mem hp (x := (2, l)) (by unfold linesL; simp [hl])
  have h3 : ∀ v ∈ votes, ShapeOk 3 [v] := fun v hv => path_mem hp (x := (3, [v])) (by unfold linesL; simp [hv])
  have h4 := path_mem hp (x := (4, ns)) (by unfold linesL; simp)
  refine q_set (r := rL rStr [lineS "prime" [p], lineS "mixers" [m]]) (ev_lst (r := rStr) (xs := [lineS "prime" [p], lineS "mixers" [m]]) (ea_cons (ev_call (ea_cons (ev_s (z := "prime")) (ea_cons (ev_lst (r := rNat) (xs := [p]) (ea_cons (ev_fld (ev_var rfl hu) T.c_Sheet T.n_Sheet_prime (look_ns nsSh 0 rfl)) ea_nil) (by simp)) ea_nil)) fun vs H Q h => ⟨"prime", [p], by decide +kernel, by simp, h0.2.2.2.2, h⟩)
    (ea_cons (ev_call (ea_cons (ev_s (z := "mixers")) (ea_cons (ev_lst (r := rNat) (xs := [m]) (ea_cons (ev_fld (ev_var rfl hu) T.c_Sheet T.n_Sheet_mixers (look_ns nsSh 1 rfl)) ea_nil) (by simp)) ea_nil)) fun vs H Q h => ⟨"mixers", [m], by decide +kernel, by simp, h1.2.2.2.2, h⟩) ea_nil)) (by simp)) e fun v1 H1 G1 s1 hv1 => ?_
  refine q_set (r := rL rStr ([lineS "prime" [p], lineS "mixers" [m]] ++ fam.map fun l => lineS "lot" l)) (ev_cat (r := rStr) (ev_var rfl hv1) (ev_lc1 (r := rStr) (r0 := rL rNat) (fun l => lineS "lot" l) (wk_list (r := rL rNat) (ys := fam) (ev_fld (ev_var rfl (Mo.mo s1.gg hu)) T.c_Sheet T.n_Sheet_family (look_ns nsSh 2 rfl))) (by omega) (fun _ => rfl) fun l v G2 hl e2 hv =>
    ev_call (ea_cons (ev_s (z := "lot")) (ea_cons (ev_var (r := rL rNat l) rfl hv) ea_nil)) fun vs H Q h => ⟨"lot", l, by decide +kernel, (h2 l hl).2.2.2.1, (h2 l hl).2.2.2.2, h⟩) (by simp; omega)) s1.gh fun v2 H2 G2 s2 hv2 => ?_
  have t2 := s1.trans s2
  refine q_setN (r := rL rStr ([lineS "prime" [p], lineS "mixers" [m]] ++ (fam.map fun l => lineS "lot" l) ++ votes.map fun v => lineS "vote" [v])) (evN_cat (r := rStr) (ev_var rfl hv2) (ev_lc1 (r := rStr) (r0 := rNat) (fun v => lineS "vote" [v]) (wk_list (r := rNat) (ys := votes) (ev_fld (ev_var rfl (Mo.mo t2.gg hu)) T.c_Sheet T.n_Sheet_votes (look_ns nsSh 3 rfl))) (by omega) (fun _ => rfl) fun x v G3 hx e3 hv =>
    ev_call (ea_cons (ev_s (z := "vote")) (ea_cons (ev_lst (r := rNat) (xs := [x]) (ea_cons (ev_var rfl hv) ea_nil) (by simp)) ea_nil)) fun vs H Q h => ⟨"vote", [x], by decide +kernel, by simp, (h3 x hx).2.2.2.2, h⟩) (by simp; omega)) s2.gh fun a H3 G3 hna s3 hv3 => ?_
  have A3 := accStrs s2.gh hna s3 hv3
  have t3 := t2.then (StepM.of_ex s2.gh s3.ex)
  have ha0 := t2.fresh hna
  refine q_appA (z := lineS "coins" ns) t3 ha0 rfl A3 (by simp; omega) (ev_call (ea_cons (ev_s (z := "coins")) (ea_cons (ev_fld (r := rL rNat ns) (ev_var rfl (Mo.mo t2.gg hu)) T.c_Sheet T.n_Sheet_numbers (look_ns nsSh 4 rfl)) ea_nil)) fun vs H Q h => ⟨"coins", ns, by decide +kernel, h4.2.2.2.1, h4.2.2.2.2, h⟩) fun H4 G4 o s4 t4 A4 => ?_
  obtain ⟨us, t5, e5, h5, g5⟩ := A4.done t4 ha0
  have hnl : (("\n" : Str)).length = 1 := by decide +kernel
  refine s_ret (r := rStr (sheetS (linesL p m fam votes ns))) (ev_join (ys := (linesL p m fam votes ns).map txtL) (ev_var rfl (by rw [lines_txt]; exact h5)) (by rw [hnl, List.length_map]; omega)) t5.gh fun v H6 G6 s6 hv => k v H6 G6 (t5.then s6) hv
/-! is_next -/
theorem steps_sq (T : Tx K mg) : ∀ H, SqT K H (He.ga K "STEPS") (stepsW.map V.str) := fun H => by
  have h := T.ex
  unfold ex at h
  rw [Bool.and_eq_true] at h
  exact He.tupB_ok h.1 H
theorem steps_ty (T : Tx K mg) : ∃ o, K.lookup (He.ga K "STEPS") = some o ∧ o.cls = .type "tuple" ∧ o.dict = none := by
  have h := T.ex
  unfold ex at h
  rw [Bool.and_eq_true] at h
  have h2 := h.2
  unfold tupT at h2
  split at h2
  · rename_i c d s e
    exact ⟨_, e, congrArg Value.type (of_decide_eq_true h2), rfl⟩
  · cases h2
theorem stW_at {k : Nat} (h : k < 5) : stepsW[k]? = some (stW k) ∧ (∀ m, m < k → stepsW[m]? ≠ some (stW k)) ∧ inV (.str (stW k)) (stepsW.map V.str) = true ∧ inV (.str (stW k)) ((["prime", "mixers"] : List Str).map V.str) = decide (k < 2) ∧
    inV (.str (stW k)) ((["prime", "mixers", "vote"] : List Str).map V.str) = decide (k = 0 ∨ k = 1 ∨ k = 3) ∧ decide (V.str (stW k) = V.str "lot") = decide (k = 2) ∧ decide (V.str (stW k) = V.str "vote") = decide (k = 3) := by
  match k, h with
  | 0, _ => exact ⟨rfl, fun m hm => absurd hm (Nat.not_lt_zero m), by decide +kernel, by decide +kernel, by decide +kernel, by decide +kernel, by decide +kernel⟩
  | 1, _ => exact ⟨rfl, by decide +kernel, by decide +kernel, by decide +kernel, by decide +kernel, by decide +kernel, by decide +kernel⟩
  | 2, _ => exact ⟨rfl, by decide +kernel, by decide +kernel, by decide +kernel, by decide +kernel, by decide +kernel, by decide +kernel⟩
  | 3, _ => exact ⟨rfl, by decide +kernel, by decide +kernel, by decide +kernel, by decide +kernel, by decide +kernel, by decide +kernel⟩
  | 4, _ => exact ⟨rfl, by decide +kernel, by decide +kernel, by decide +kernel, by decide +kernel, by decide +kernel, by decide +kernel⟩
def spNext : Sp := fun vs H Q E => ∃ (s : Int) (k : Nat), k < 5 ∧ nextB s k = true ∧ spOf [rInt s, rStr (stW k)] (rBl true) vs H Q E
theorem sc_is_next : FnScope ["step", "word", "place"] ["step", "word"] (defScope s_is_next) := ⟨rfl, rfl, rfl, by decide +kernel, rfl, by decide +kernel, by decide +kernel⟩
theorem ok_is_next (T : Tx K mg) : Cal P w K mg base "is_next" 1 ["step", "word"] spNext := by
  refine T.k_is_next.cal sc_is_next (fun vs H Q E ⟨_, _, _, _, h⟩ => spOf_len h) fun f cdv A outer s H vs Q E hr h => ⟨_, (pss_cons (ps_if (pt_cmpR (opNotIn K) (pv 1) (pe_glob (v := .ref (He.ga K "STEPS")) rfl T.gSTEPS rfl) (by rfl)) (pss_one (ps_ret pe_bl)) pss_nil)
        (pss_cons (ps_set (i := 2) sc_is_next.nd rfl (Or.inl rfl) (bmK K (pe_bm PySem.F.plainAttrs_tuple PySem.F.slot_tuple_index PySem.F.type_tuple_index mt_tup_index (pe_glob (v := .ref (He.ga K "STEPS")) rfl T.gSTEPS rfl) (pa_cons (pv 1) pa_nil))))
        (pss_cons (ps_if (pt_cmpR (opIn K) (pv 1) (pe_tup (pa_cons pe_str (pa_cons pe_str pa_nil))) (by rfl)) (pss_one (ps_ret (pe_cmpR op_eq (pv 2) (pe_op op_add (pv 0) pe_int) (nomark _)))) pss_nil)
        (pss_one (ps_ret (pe_and (pe_cmpR op_ge (pv 0) pe_int (nomark _)) (pe_and (pe_cmpR op_ge (pv 2) (pv 0) (nomark _)) (pe_one (pe_not (pe_cmpR op_eq (pv 0) pe_int (nomark _))))))))))), ?_⟩
  obtain ⟨st, n, hn, hb, G, e, ha, k⟩ := h
  obtain ⟨_, _, rfl, rfl, rfl⟩ := pr_two ha
  obtain ⟨g1, g2, g3, g4, _, _⟩ := stW_at hn
  refine q_if (b := false) ((et_test (ev_notinK (ys := stepsW) (steps_sq T) (ev_var rfl rfl))).is (by rw [g3]; rfl)) e (fun z => by cases z) fun _ H1 G1 s1 => ?_
  refine q_set (r := rNat n) (ev_index (ys := stepsW) (j := n) (steps_sq T) (steps_ty T) (ev_var rfl rfl) g1 g2) s1.gh fun v H2 G2 s2 hv => ?_
  cases hv
  have t2 := s1.trans s2
  refine q_if (b := decide (n < 2)) ((et_test (ev_inT (ys := ["prime", "mixers"]) (ev_var rfl rfl) (ev_tup (rs := (["prime", "mixers"] : List Str).map rStr) (ea_cons ev_s (ea_cons ev_s ea_nil)) (by simp)))).is g4) s2.gh (fun h2 H3 G3 s3 => ?_) fun h2 H3 G3 s3 => ?_
  · have h2' := of_decide_eq_true h2
    unfold nextB at hb
    rw [if_pos h2'] at hb
    have hb' := of_decide_eq_true hb
    refine s_ret (r := rBl true) ((ev_eq (x := .int (n : Int)) (y := .int (st + 1)) (ev_var rfl rfl) (ev_I0 (g := fun i j => .int (i + j)) (i := st) (j := 1) (ev_var rfl rfl) ev_i) rfl).is fun _ v _ z => by
      have z' : v = V.bl (decide (V.int (n : Int) = V.int (st + 1))) := z
      rw [z', hb']
      simp [rBl, rV]) s3.gh fun v H4 G4 s4 hv => k v H4 G4 ((t2.trans s3).trans s4) hv
  · have h2' := of_decide_eq_false h2
    unfold nextB at hb
    rw [if_neg h2', Bool.and_eq_true, Bool.and_eq_true] at hb
    obtain ⟨⟨b1, b2⟩, b3⟩ := hb
    have b1' := of_decide_eq_true b1
    have b2' := of_decide_eq_true b2
    have b3' := of_decide_eq_false (not_true b3)
    refine s_ret (r := rBl true) ((ev_andV (a := true) (b := true) ((ev_I0 (g := fun i j => .bl (decide (j ≤ i))) (i := st) (j := 1) (ev_var rfl rfl) ev_i).is fun _ v _ z => by
        have z' : v = V.bl (decide (1 ≤ st)) := z
        rw [z', b1]
        rfl) fun _ => (ev_andV (a := true) (b := true) ((ev_I0 (g := fun i j => .bl (decide (j ≤ i))) (i := (n : Int)) (j := st) (ev_var rfl rfl) (ev_var rfl rfl)).is fun _ v _ z => by
        have z' : v = V.bl (decide (st ≤ (n : Int))) := z
        rw [z', b2]
        rfl) fun _ => ev_notV (a := false) ((ev_eq (x := .int st) (y := .int 4) (ev_var rfl rfl) ev_i rfl).is fun _ v _ z => by
        have z' : v = V.bl (decide (V.int st = V.int 4)) := z
        rw [z', decide_eq_false fun w => b3' (V.int.inj w)]
        rfl)))) s3.gh fun v H4 G4 s4 hv => k v H4 G4 ((t2.trans s3).trans s4) hv
/-! is_shape -/
def spShape (K : PySem.W.Frag) : Sp := fun vs H Q E => ∃ (k : Nat) (ns : List Nat), ShapeOk k ns ∧ spOfT K [rStr (stW k), rL rNat ns] (rBl true) vs H Q E
theorem sc_is_shape : FnScope ["word", "numbers"] ["word", "numbers"] (defScope s_is_shape) := ⟨rfl, rfl, rfl, by decide +kernel, rfl, by decide +kernel, by decide +kernel⟩
theorem ok_is_shape (T : Tx K mg) (TB : TBs K mg base) : Cal P w K mg base "is_shape" 1 ["word", "numbers"] (spShape K) := by
  refine T.k_is_shape.calC sc_is_shape (fun vs H Q E ⟨_, _, _, _, _, _, h, _⟩ => (paired_len h).trans rfl) fun f A outer s H vs Q E hr h => ⟨_, (pss_cons (ps_if (pt_cmpR (opIn K) (pv 0) (pe_tup (pa_cons pe_str (pa_cons pe_str (pa_cons pe_str pa_nil)))) (by rfl)) (pss_one (ps_ret (pe_cmpR op_eq (pe_callB (cLen K) (by rfl) T.flen PySem.boot_len (pa_cons (pv 1) pa_nil)) pe_int (nomark _)))) pss_nil)
        (pss_cons (ps_if (pt_cmpR op_eq (pv 0) pe_str (nomark _)) (pss_one (ps_ret (pe_allG hr rfl T.fall TB.c rfl ⟨rfl, rfl, by decide +kernel, rfl, rfl, onefree (x := "numbers") (by decide +kernel) ⟨_, rfl⟩⟩ (ps_rise (j := 1) rfl T.frange (pa_cons (pe_op op_sub (pe_callB (cLen K) (by rfl) T.flen PySem.boot_len (pa_cons (pv 1) pa_nil)) pe_int) pa_nil) rfl rfl rfl rfl rfl (fun c h => congrArg (fun o => some (Option.getD o 0)) h)) (fun _ => rfl)))) pss_nil)
        (pss_one (ps_ret pe_bl)))), ?_⟩
  obtain ⟨n, ns, hs, G, ht, e, ha, k⟩ := h
  obtain ⟨_, u, rfl, rfl, hu⟩ := pr_two ha
  obtain ⟨_, _, _, _, g5, g6, _⟩ := stW_at hs.1
  refine q_if (b := decide (n = 0 ∨ n = 1 ∨ n = 3)) ((et_test (ev_inT (ys := ["prime", "mixers", "vote"]) (ev_var rfl rfl) (ev_tup (rs := (["prime", "mixers", "vote"] : List Str).map rStr) (ea_cons ev_s (ea_cons ev_s (ea_cons ev_s ea_nil))) (by simp)))).is g5) e (fun h2 H3 G3 s3 => ?_) fun h2 H3 G3 s3 => ?_
  · have h1 := hs.2.1 (of_decide_eq_true h2)
    refine s_ret (r := rBl true) ((ev_eq (x := .int (ns.length : Int)) (y := .int 1) (ev_len (r := rNat) (ev_var rfl (Mo.mo s3.gg hu))) ev_i rfl).is fun _ v _ z => by
      have z' : v = V.bl (decide (V.int (ns.length : Int) = V.int 1)) := z
      rw [z', h1]
      rfl) s3.gh fun v H4 G4 s4 hv => k v H4 G4 (s3.trans s4) hv
  · refine q_if (b := decide (n = 2)) ((et_test (ev_eq (x := .str (stW n)) (y := .str "lot") (ev_var rfl rfl) ev_s rfl)).is g6) s3.gh (fun h4 H4 G4 s4 => ?_) fun h4 H4 G4 s4 => ?_
    · have hr := hs.2.2.1 (of_decide_eq_true h4)
      have e4 := s3.gg.trans s4.gg
      refine s_ret (r := rBl true) ?_ s4.gh fun v H5 G5 s5 hv => k v H5 G5 ((s3.trans s4).trans s5) hv
      exact ev_allRise (j := 1) (ht.ex e4).c rfl (Mo.mo e4 hu) hr hs.2.2.2.1 (ea_cons (ev_I0 (g := fun i j => .int (i - j)) (i := (ns.length : Int)) (j := 1) (ev_len (r := rNat) (ev_var rfl (Mo.mo e4 hu))) ev_i) ea_nil)
    · exact k (.bl true) H4 G4 (s3.trans s4) rfl
end
end Vc
namespace Vc
open PySem PySem.Spec PyProof.Rows L2 Vm TL
abbrev rLn (x : Ln) : Rp := rT [rStr (stW x.1), rL rNat x.2]
def stp (ls : List Ln) (i : Nat) : Int := ((ls.take i).map fun y => (y.1 : Int)).getLastD (-1)
theorem stp_succ {ls : List Ln} {i : Nat} {x : Ln} (h : ls[i]? = some x) : stp ls (i + 1) = (x.1 : Int) := by
  unfold stp
  rw [List.take_succ, h, List.map_append]
  show (_ ++ [(x.1 : Int)]).getLastD (-1) = _
  rw [List.getLastD_concat]
section
variable {P : Program} {w : World} {K : PySem.W.Frag} {mg : Str → Option Value} {base : Heap}
/-! read_lines -/
def spRL (K : PySem.W.Frag) : Sp := fun vs H Q E => ∃ (ls : List Ln), Path (-1) ls ∧ ls.length ≤ 1000 ∧ spOfT K [rL rStr (ls.map txtL)] (rL rLn ls) vs H Q E
theorem sc_read_lines : FnScope ["lines", "found", "step", "index", "line", "words", "numbers"] ["lines"] (defScope s_read_lines) := ⟨rfl, rfl, rfl, by decide +kernel, rfl, by decide +kernel, by decide +kernel⟩
theorem ok_read_lines (T : Tx K mg) (TB : TBs K mg base) : Cal P w K mg base "read_lines" 3 ["lines"] (spRL K) := by
  have c_is_next := ok_is_next (P := P) (w := w) (base := base) T
  have c_is_shape := ok_is_shape (P := P) (w := w) T TB
  have c_read_numbers := ok_read_numbers (P := P) (w := w) T TB
  refine T.k_read_lines.cal sc_read_lines (fun vs H Q E ⟨_, _, _, _, _, _, h, _⟩ => (paired_len h).trans rfl) fun f cdv A outer s H vs Q E hr h => ⟨_, (pss_cons (ps_set (i := 1) sc_read_lines.nd rfl (Or.inl rfl) (pe_lst pa_nil))
        (pss_cons (ps_set (i := 2) sc_read_lines.nd rfl (Or.inl rfl) (pe_un un_neg pe_int))
        (pss_cons (ps_for PassesOwn.never rfl (itE K rfl T.fenumerate (pa_cons (pv 0) pa_nil)) (tgT K rfl (pgs_cons (pg_name (i := 3) sc_read_lines.nd rfl (Or.inl rfl)) (pgs_cons (pg_name (i := 4) sc_read_lines.nd rfl (Or.inl rfl)) pgs_nil)))
          (pss_cons (ps_set (i := 5) sc_read_lines.nd rfl (Or.inl rfl) (bmK K (pe_bm PySem.F.plainAttrs_str PySem.F.slot_str_split PySem.F.type_str_split mt_split (pv 4) (pa_cons pe_str pa_nil))))
          (pss_cons (ps_set (i := 6) sc_read_lines.nd rfl (Or.inl rfl) (pe_cal c_read_numbers hr rfl (pa_cons (pe_slice (slL K) (pv 5) (po_some pe_int) po_none) pa_nil)))
          (pss_cons (ps_if (PW.pt (pw_or (pt_cmp (pc_isN (pv 6))) (pw_or (pt_not (pt_val (pe_cal c_is_next hr rfl (pa_cons (pv 2) (pa_cons (pe_ix (ixl K) (pv 5) pe_int (fun _ _ => rfl)) pa_nil))))) (pw_or1 (pt_not (pt_val (pe_cal c_is_shape hr rfl (pa_cons (pe_ix (ixl K) (pv 5) pe_int (fun _ _ => rfl)) (pa_cons (pv 6) pa_nil))))))))) (pss_one ps_never) pss_nil)
          (pss_cons (ps_set (i := 2) sc_read_lines.nd rfl (Or.inl rfl) (bmK K (pe_bm PySem.F.plainAttrs_tuple PySem.F.slot_tuple_index PySem.F.type_tuple_index mt_tup_index (pe_glob (v := .ref (He.ga K "STEPS")) rfl T.gSTEPS rfl) (pa_cons (pe_ix (ixl K) (pv 5) pe_int (fun _ _ => rfl)) pa_nil))))
          (pss_one (ps_expr (bmK K (pe_bm PySem.F.plainAttrs_list PySem.F.slot_list_append PySem.F.type_list_append mt_append (pv 1) (pa_cons (pe_tup (pa_cons (pe_ix (ixl K) (pv 5) pe_int (fun _ _ => rfl)) (pa_cons (pv 6) pa_nil))) pa_nil))))))))))
        (pss_cons (ps_if (pt_cmpR op_ne (pv 2) pe_int (nomark _)) (pss_one ps_never) pss_nil)
        (pss_one (ps_ret (pv 1))))))), ?_⟩
  obtain ⟨ls, hp, hll, G, ht, e, ha, k⟩ := h
  obtain ⟨u, rfl, hu⟩ := pr_one ha
  have hu2 : rL (fun x : Ln => rStr (txtL x)) ls G u := by
    obtain ⟨a, rfl, h2⟩ := rL_strs hu
    refine rL_of_vals (f := fun x : Ln => V.str (txtL x)) ?_
    rw [h2, List.map_map]
    rfl
  refine q_newA (r := rLn) (st0 e) fun a hn h0 s1 A1 => ?_
  refine q_set (r := rInt (-1)) (fun H x Q q => ⟨1, rfl, q _ H _ (StepM.refl x) rfl⟩) s1.gh fun v2 H2 G2 s2 hv2 => ?_
  cases hv2
  have t2 := s1.trans s2
  refine q_for2 (r0 := rNat) (r1 := fun x : Ln => rStr (txtL x)) t2 (wk_enum (r := fun x : Ln => rStr (txtL x)) (ys := ls) (ev_var rfl (Mo.mo t2.gg hu2)))
    (fun i σ' H' G' => ∃ x3 x4 x5 x6, σ' = [some u, some (.ref a), some (.int (stp ls i)), x3, x4, x5, x6] ∧ Acc rLn a (ls.take i) H' G') ?_ ?_ ?_
  · exact fun H3 G3 s3 => ⟨none, none, none, none, rfl, by rw [List.take_zero]; exact (A1.step s2).step s3⟩
  · rintro i y σ' v v2 Ha Hb G' Gs hi s3 e1 e2 e3 hv hv2 ⟨x3, x4, x5, x6, rfl, A2⟩
    obtain ⟨x, rfl, hx⟩ := get_enum hi
    cases hv
    cases hv2
    obtain ⟨hnx, hsh⟩ := path_get hp hx
    have htl := txt_len hsh
    have hfr := stW_free x.1
    have hG : Ex G G' := t2.gg.trans (e1.trans e2)
    obtain ⟨g1, g2, _, _, _, _, _⟩ := stW_at hsh.1
    refine q_set (r := rL rStr (stW x.1 :: x.2.map nS)) ((ev_split (a := txtL x) (b := " ") (ev_var rfl rfl) (by decide +kernel) (by omega)).is fun _ v _ z => by
      rw [show Txt.split (txtL x) " " = stW x.1 :: x.2.map nS from split_line hfr.1 x.2] at z
      exact z) s3.gh fun v5 H5 G5 s5 hv5 => ?_
    have ht5 := ht.ex (hG.trans s5.gg)
    refine q_set (r := rL rNat x.2) (ev_callT ht5 (ea_cons (ev_tail (q := rStr) (ev_var rfl hv5)) ea_nil) fun vs H Q ⟨G, a, b, c, d⟩ => ⟨x.2, G, hsh.2.2.2.1, hsh.2.2.2.2, a, b, c, d⟩) s5.gh fun v6 H6 G6 s6 hv6 => ?_
    have ht6 := ht5.ex s6.gg
    have hv5' : rL rStr (stW x.1 :: x.2.map nS) G6 v5 := Mo.mo s6.gg hv5
    obtain ⟨p6, w6, rfl, hg6, hw6⟩ := _root_.id hv6
    refine q_if (b := false) (et_or (a := false) (b := false) (et_B ((ev_isN (v := .ref p6) (ev_var rfl rfl)).is fun _ v _ z => z)) fun _ => et_or (a := false) (b := false) (et_not (a := true) (et_B (ev_call (ea_cons (ev_var (r := rInt (stp ls i)) rfl rfl) (ea_cons (ev_ix (r := rStr) (xs := stW x.1 :: x.2.map nS) (n := 0) (ev_var rfl hv5') ev_i rfl rfl) ea_nil)) fun vs H Q h => ⟨stp ls i, x.1, hsh.1, hnx, h⟩)))
      fun _ => et_not (a := true) (et_B (ev_callT ht6 (ea_cons (ev_ix (r := rStr) (xs := stW x.1 :: x.2.map nS) (n := 0) (ev_var rfl hv5') ev_i rfl rfl) (ea_cons (ev_var (r := rL rNat x.2) rfl hv6) ea_nil)) fun vs H Q h => ⟨x.1, x.2, hsh, h⟩))) s6.gh (fun z => by cases z) fun _ H7 G7 s7 => ?_
    refine q_set (r := rNat x.1) (ev_index (ys := stepsW) (j := x.1) (steps_sq T) (steps_ty T) (ev_ix (r := rStr) (xs := stW x.1 :: x.2.map nS) (n := 0) (ev_var rfl (Mo.mo s7.gg hv5')) ev_i rfl rfl) g1 g2) s7.gh fun v8 H8 G8 s8 hv8 => ?_
    cases hv8
    have t8 := (((s3.trans s5).trans s6).trans s7).trans s8
    have A8 := ((((A2.ex e3).step s5).step s6).step s7).step s8
    refine s_appA (z := x) t8 h0 rfl A8 (by rw [List.length_take]; omega) (ev_tup (rs := [rStr (stW x.1), rL rNat x.2]) (ea_cons (ev_ix (r := rStr) (xs := stW x.1 :: x.2.map nS) (n := 0) (ev_var rfl (Mo.mo (s7.gg.trans s8.gg) hv5')) ev_i rfl rfl) (ea_cons (ev_var rfl (Mo.mo (s7.gg.trans s8.gg) hv6)) ea_nil)) (by simp))
      fun H9 G9 o s9 t9 A9 => ⟨G9, t9, ((((e2.trans s5.gg).trans s6.gg).trans s7.gg).trans s8.gg).trans s9.gg, _, _, _, _, by rw [stp_succ hx]; rfl, ?_⟩
    rw [List.take_succ, hx]
    exact A9
  · rintro σ' H3 G3 s3 e1 ⟨x3, x4, x5, x6, rfl, A3⟩
    rw [List.length_mapIdx] at A3 ⊢
    have hst : stp ls ls.length = 4 := by
      unfold stp
      rw [List.take_length]
      exact path_end hp
    rw [hst]
    rw [List.take_length] at A3
    refine q_if (b := false) ((et_test (ev_ne (x := .int 4) (y := .int 4) (ev_var rfl rfl) ev_i rfl)).is (by simp)) s3.gh (fun z => by cases z) fun _ H4 G4 s4 => ?_
    exact s_retA (s3.trans s4) h0 rfl (A3.step s4) fun G5 s5 h5 => k _ H4 G5 s5 h5
/-! read_sheet -/
def spRS (K : PySem.W.Frag) : Sp := fun vs H Q E => ∃ (p m : Nat) (fam : List (List Nat)) (votes ns : List Nat), Path (-1) (linesL p m fam votes ns) ∧ fam.length ≤ 100 ∧ votes.length ≤ 100 ∧ spOfT K [rStr (sheetS (linesL p m fam votes ns))] (rSh K p m fam votes ns) vs H Q E
theorem sc_read_sheet : FnScope ["text", "found", "family", "votes", "word", "numbers"] ["text"] (defScope s_read_sheet) := ⟨rfl, rfl, rfl, by decide +kernel, rfl, by decide +kernel, by decide +kernel⟩
theorem ok_read_sheet (T : Tx K mg) (TB : TBs K mg base) : Cal P w K mg base "read_sheet" 4 ["text"] (spRS K) := by
  have c_read_lines := ok_read_lines (P := P) (w := w) T TB
  have c_Sheet := ok_Sheet (P := P) (w := w) (base := base) T
  refine T.k_read_sheet.cal sc_read_sheet (fun vs H Q E ⟨_, _, _, _, _, _, _, _, _, _, _, h, _⟩ => (paired_len h).trans rfl) fun f cdv A outer s H vs Q E hr h => ⟨_, (pss_cons (ps_set (i := 1) sc_read_sheet.nd rfl (Or.inl rfl) (pe_cal c_read_lines hr rfl (pa_cons (bmK K (pe_bm PySem.F.plainAttrs_str PySem.F.slot_str_split PySem.F.type_str_split mt_split (pv 0) (pa_cons pe_str pa_nil))) pa_nil)))
        (pss_cons (ps_setLc (i := 2) (own := [("word", 4), ("numbers", 5)]) (g := gTup K 2 (gCons (gName 4) (gCons (gName 5) gNil))) rfl sc_read_sheet.nd rfl rfl (sw_true rfl rfl rfl (by decide +kernel)) (itL K (pv 1)) (blkOk_by (N := ["text", "found", "family", "votes", "word", "numbers"]) (sc := defScope s_read_sheet) (by decide +kernel)) (fun _ _ _ _ _ => tgT K rfl (pgs_cons (pg_name (i := 4) sc_read_sheet.nd rfl (Or.inl rfl)) (pgs_cons (pg_name (i := 5) sc_read_sheet.nd rfl (Or.inl rfl)) pgs_nil))) (fun _ _ _ _ _ => pts_one (pt_cmpR op_eq (pv 4) pe_str (nomark _))) (fun _ _ _ _ _ => (pv 5)))
        (pss_cons (ps_setLc (i := 3) (own := [("word", 4), ("numbers", 5)]) (g := gTup K 2 (gCons (gName 4) (gCons (gName 5) gNil))) rfl sc_read_sheet.nd rfl rfl (sw_true rfl rfl rfl (by decide +kernel)) (itL K (pv 1)) (blkOk_by (N := ["text", "found", "family", "votes", "word", "numbers"]) (sc := defScope s_read_sheet) (by decide +kernel)) (fun _ _ _ _ _ => tgT K rfl (pgs_cons (pg_name (i := 4) sc_read_sheet.nd rfl (Or.inl rfl)) (pgs_cons (pg_name (i := 5) sc_read_sheet.nd rfl (Or.inl rfl)) pgs_nil))) (fun _ _ _ _ _ => pts_one (pt_cmpR op_eq (pv 4) pe_str (nomark _))) (fun _ _ _ _ _ => (pe_ix (ixl K) (pv 5) pe_int (fun _ _ => rfl))))
        (pss_one (ps_ret (pe_mk c_Sheet hr rfl (pa_cons (pe_ix (ixl K) (pe_ix (ixt K) (pe_ix (ixl K) (pv 1) pe_int (fun _ _ => rfl)) pe_int (fun _ _ => rfl)) pe_int (fun _ _ => rfl)) (pa_cons (pe_ix (ixl K) (pe_ix (ixt K) (pe_ix (ixl K) (pv 1) pe_int (fun _ _ => rfl)) pe_int (fun _ _ => rfl)) pe_int (fun _ _ => rfl)) (pa_cons (pv 2) (pa_cons (pv 3) (pa_cons (pe_ix (ixt K) (pe_ix (ixl K) (pv 1) (pe_un un_neg pe_int) (fun _ _ => rfl)) pe_int (fun _ _ => rfl)) pa_nil))))))))))), ?_⟩
  obtain ⟨p, m, fam, votes, ns, hp, hfl, hvl, G, ht, e, ha, k⟩ := h
  obtain ⟨_, rfl, rfl⟩ := pr_one ha
  have hlen := lines_len (p := p) (m := m) (fam := fam) (votes := votes) (ns := ns)
  have hsl := sheet_len hp
  have hlots := lines_lots (p := p) (m := m) (fam := fam) (votes := votes) (ns := ns)
  have hvts := lines_votes (p := p) (m := m) (fam := fam) (votes := votes) (ns := ns)
  have hsplit : Txt.split (sheetS (linesL p m fam votes ns)) "\n" = (linesL p m fam votes ns).map txtL := split_sheet (by unfold linesL; simp)
  have hlast : linesL p m fam votes ns = ((0, [p]) :: (1, [m]) :: (fam.map (fun l => ((2, l) : Ln)) ++ votes.map (fun v => ((3, [v]) : Ln)))) ++ [(4, ns)] := by
    unfold linesL
    simp
  have hz0 : (linesL p m fam votes ns)[0]? = some (0, [p]) := rfl
  have hz1 : (linesL p m fam votes ns)[1]? = some (1, [m]) := rfl
  generalize hls : linesL p m fam votes ns = ls at *
  refine q_set (r := rL rLn ls) (ev_callT ht (ea_cons ((ev_split (a := sheetS ls) (b := "\n") (ev_var rfl rfl) (by decide +kernel) (by omega)).is (r' := rL rStr (ls.map txtL)) fun _ v _ z => by rw [hsplit] at z; exact z) ea_nil) fun vs H Q h => ⟨ls, hp, by omega, h⟩) e fun v1 H1 G1 s1 hv1 => ?_
  have wp : ∀ {G : Hp} {σ : L2.St}, σ[1]? = some (some v1) → rL rLn ls G v1 → Ev (tVar 1) σ G (rL (fun y : Nat × List Nat => rT [rStr (stW y.1), rL rNat y.2]) ls) := fun h1 h2 => ev_var h1 h2
  refine q_set (r := rL (rL rNat) fam) ((ev_lcF2n (r := rL rNat) (r0 := fun k : Nat => rStr (stW k)) (r1 := fun l : List Nat => rL rNat l) (fun y => decide (y.1 = 2)) (fun y => y.2) (wk_pairs (r := fun k : Nat => rStr (stW k)) (r' := fun l : List Nat => rL rNat l) (ys := ls) (wp rfl hv1)) (by omega) (fun _ _ => rfl)
    (fun y v x G' hy e1 h1 h2 => (et_test (ev_eq (x := .str (stW y.1)) (y := .str "lot") (ev_var rfl h1) ev_s rfl)).is (stW_at (path_mem hp hy).1).2.2.2.2.2.1) (fun y v x G' hy hb e1 h1 h2 => ev_var rfl h2)).is fun _ v _ z => by rw [hlots] at z; exact z) s1.gh fun v2 H2 G2 s2 hv2 => ?_
  refine q_set (r := rL rNat votes) ((ev_lcF2n (r := rNat) (r0 := fun k : Nat => rStr (stW k)) (r1 := fun l : List Nat => rL rNat l) (fun y => decide (y.1 = 3)) (fun y => y.2.getD 0 0) (wk_pairs (r := fun k : Nat => rStr (stW k)) (r' := fun l : List Nat => rL rNat l) (ys := ls) (wp rfl (Mo.mo s2.gg hv1))) (by omega) (fun _ _ => rfl)
    (fun y v x G' hy e1 h1 h2 => (et_test (ev_eq (x := .str (stW y.1)) (y := .str "vote") (ev_var rfl h1) ev_s rfl)).is (stW_at (path_mem hp hy).1).2.2.2.2.2.2) (fun y v x G' hy hb e1 h1 h2 => ev_ix (r := rNat) (xs := y.2) (n := 0) (ev_var rfl h2) ev_i rfl (get_of_lt 0 (by rw [(path_mem hp hy).2.1 (.inr (.inr (of_decide_eq_true hb)))]; decide)))).is fun _ v _ z => by rw [hvts] at z; exact z) s2.gh fun v3 H3 G3 s3 hv3 => ?_
  have e3 := s2.gg.trans s3.gg
  have hv1' : rL rLn ls G3 v1 := Mo.mo e3 hv1
  have hv1'' := hv1'
  rw [hlast] at hv1''
  exact s_ret (EvO.ev (evO_ini (fsR := rShf p m fam votes ns) (ea_cons (ev_ix (r := rNat) (xs := [p]) (n := 0) (ev_ixT (rs := [rStr (stW 0), rL rNat [p]]) (n := 1) (ev_ix (r := rLn) (xs := ls) (n := 0) (ev_var rfl hv1') ev_i rfl hz0) ev_i rfl rfl) ev_i rfl rfl) (ea_cons (ev_ix (r := rNat) (xs := [m]) (n := 0) (ev_ixT (rs := [rStr (stW 1), rL rNat [m]]) (n := 1) (ev_ix (r := rLn) (xs := ls) (n := 1) (ev_var rfl hv1') ev_i rfl hz1) ev_i rfl rfl) ev_i rfl rfl)
    (ea_cons (ev_var rfl (Mo.mo s3.gg hv2)) (ea_cons (ev_var rfl hv3) (ea_cons (ev_ixT (r := rL rNat ns) (rs := [rStr (stW 4), rL rNat ns]) (n := 1) (ev_ixLast (q := rLn) (y := (4, ns)) (ev_var rfl hv1'')) ev_i rfl rfl) ea_nil))))) fun vs H Q h => ⟨p, m, fam, votes, ns, by omega, h⟩)) s3.gh fun v H4 G4 s4 hv => k v H4 G4 (((s1.trans s2).trans s3).trans s4) hv
end
end Vc
/-! The script, the box of digits, a list of unlike things. -/
namespace Vc
open PySem PySem.Spec PyProof.Rows L2 Vm
/-- the script: a list of the base or of the heap -/
def rScr (K : PySem.W.Frag) (ns : List Int) : Rp := fun G v => ∃ a, v = .ref a ∧ SqL K G a (ns.map V.int)
theorem sql_ex {K : PySem.W.Frag} {G G' : Hp} {a : Addr} {xs : List V} (e : Ex G G') (h : SqL K G a xs) : SqL K G' a xs := by
  rcases h with h | h
  · refine .inl ?_
    rcases h with h | ⟨o, h⟩
    · exact .inl (e.l h)
    · obtain ⟨o1, e1, l1⟩ := e a _ h
      have l : o1 = .frz o (.lst xs) := l1 (by simp)
      exact .inr ⟨o, by rw [e1, l]⟩
  · exact .inr h
instance {K : PySem.W.Frag} {ns : List Int} : Mo (rScr K ns) := ⟨fun e ⟨a, h1, h2⟩ => ⟨a, h1, sql_ex e h2⟩⟩
/-- a list of unlike things -/
def rH (rs : List Rp) : Rp := fun G v => ∃ a vs, v = .ref a ∧ G a = some (.lst vs) ∧ Pr rs G vs
instance {rs : List Rp} [MoL rs] : Mo (rH rs) := ⟨fun e h => by
  obtain ⟨a, vs, h1, h2, h3⟩ := h
  exact ⟨a, vs, h1, e.l h2, h3.mono e⟩⟩
/-- the box: its digits, its place -/
def Bx (b : Addr) (ds : List Int) (i : Nat) (H G : Hp) : Prop := ∃ d, H b = some (.lst [d, .int (i : Int)]) ∧ G b = none ∧ rL rInt ds G d
def Bs (b : Addr) (ds : List Int) (H G : Hp) : Prop := ∃ i, Bx b ds i H G
section
variable {σ : L2.St} {H H0 H1 G G0 G1 : Hp} {te ta tb' : TE} {r : Rp} {al : TA} {rs : List Rp} {K : PySem.W.Frag} {x b : Addr} {M : List Addr} {D : Ends} {tz tu : TS} {g : TG} {tt : TT} {ds : List Int} {vs : List Nat}
theorem Bs.stab : Stab b (Bs b ds) where
  nn := fun ⟨i, d, h, _⟩ => by rw [h]; simp
  g := fun ⟨_, _, _, h, _⟩ => h
  ex := fun ⟨i, d, h1, h2, h3⟩ e => ⟨i, d, e.l h1, h2, h3⟩
  gx := fun ⟨i, d, h1, _, h3⟩ e h => ⟨i, d, h1, h, Mo.mo e h3⟩
  up := fun ⟨i, d, h1, h2, h3⟩ h => ⟨i, d, by rw [upd_ne h]; exact h1, h2, h3⟩
theorem ev_lenK {ns : List Int} (ha : Ev ta σ G (rScr K ns)) : Ev (tCB (fun xs H Q => ∃ p ys, xs = [.ref p] ∧ (SqL K H p ys ∨ SqT K H p ys) ∧ Q (.int (ys.length : Nat)) H) (tCons ta tNil)) σ G (rNat ns.length) :=
  ev_cb (ea_cons ha ea_nil) fun G' H' vs _ e h Q q => by
    obtain ⟨v, rfl, p, rfl, h2⟩ := pr_one h
    refine ⟨p, _, rfl, .inl (sql_ex e h2), ?_⟩
    rw [List.length_map]
    exact q _ _ _ (StepM.refl e) rfl
theorem ev_ixK {ns : List Int} {n : Nat} {y : Int} (ha : Ev ta σ G (rScr K ns)) (hb : Ev tb' σ G (rNat n)) (hx : ns[n]? = some y) : Ev (tOp (rIxL K) ta tb') σ G (rInt y) :=
  ev_op ha hb fun G' H' a b _ e h1 h2 Q q => by
    obtain ⟨p, rfl, h3⟩ := h1
    exact ⟨p, _, _, .int y, rfl, h2, sql_ex e h3, at_of rfl (by rw [List.getElem?_map, hx]; rfl), q _ rfl⟩
theorem ev_lstH [MoL rs] (h : EvA al σ G rs) (hl : rs.length ≤ 1000) : Ev (tLst al) σ G (rH rs) := fun H x Q q =>
  h H x _ fun vs H1 G1 s1 h1 => by
    have el : vs.length = rs.length := paired_len h1
    exact ⟨by rw [el]; exact Nat.le_trans hl (by decide), fun p hp => q _ _ _ (s1.trans (StepM.new (o := .lst vs) s1.gh hp)) ⟨p, vs, rfl, upd_same, h1.mono (ExM.new (s1.gh.dom hp))⟩⟩
theorem ev_ixH [MoL rs] {i : Int} {n : Nat} (ha : Ev ta σ G (rH rs)) (hb : Ev tb' σ G (rInt i)) (hi : i = (n : Int)) (hx : rs[n]? = some r) : Ev (tOp (rIxL K) ta tb') σ G r :=
  ev_op ha hb fun G' H' a b _ e h1 h2 Q q => by
    obtain ⟨p, vs, rfl, h3, h4⟩ := h1
    obtain ⟨v, h5, h6⟩ := paired_get h4 hx
    exact ⟨p, vs, i, v, rfl, h2, SqL.of (e.l h3), at_of hi h5, q v h6⟩
/-- int(n) of an int -/
theorem ev_intI {i : Int} (ha : Ev ta σ G (rInt i)) : Ev (tCB (fun xs H Q => (∃ i, xs = [.int i] ∧ Q (.int i) H) ∨ ∃ k, xs = [.bl k] ∧ Q (.int (if k then 1 else 0)) H) (tCons ta tNil)) σ G (rInt i) :=
  ev_cb (ea_cons ha ea_nil) fun G' H' vs _ e h Q q => by
    obtain ⟨v, rfl, h1⟩ := pr_one h
    exact .inl ⟨i, by rw [show v = .int i from h1], q _ _ _ (StepM.refl e) rfl⟩
theorem ev_abs {i : Int} (ha : Ev ta σ G (rInt i)) : Ev (tCB (fun xs H Q => ∃ i : Int, xs = [.int i] ∧ Q (.int (if i < 0 then -i else i)) H) (tCons ta tNil)) σ G (rNat i.natAbs) :=
  ev_cb (ea_cons ha ea_nil) fun G' H' vs _ e h Q q => by
    obtain ⟨v, rfl, h1⟩ := pr_one h
    refine ⟨i, by rw [show v = .int i from h1], q _ _ _ (StepM.refl e) ?_⟩
    show V.int _ = V.int _
    congr 1
    split <;> omega
theorem ev_min {i j : Nat} (ha : Ev ta σ G (rNat i)) (hb : Ev tb' σ G (rNat j)) : Ev (tCB (fun xs H Q => ∃ i j : Int, xs = [.int i, .int j] ∧ Q (.int (if j < i then j else i)) H) (tCons ta (tCons tb' tNil))) σ G (rNat (min i j)) :=
  ev_cb (ea_cons ha (ea_cons hb ea_nil)) fun G' H' vs _ e h Q q => by
    obtain ⟨v, w, rfl, h1, h2⟩ := pr_two h
    refine ⟨i, j, by rw [show v = .int (i : Int) from h1, show w = .int (j : Int) from h2], q _ _ _ (StepM.refl e) ?_⟩
    show V.int _ = V.int _
    congr 1
    split <;> omega
/-- a for loop over range(e), e changes what stands at x -/
theorem q_forM {Po : Nat → Hp → Hp → Prop} (h : EvM M te σ H G (fun v H' G' => ∃ n : Nat, v = .int (n : Int) ∧ Po n H' G')) (k : ∀ n H1 G1, StepM M H G H1 G1 → Po n H1 G1 → tSeq (tFor (iRng1 (tCons (tC (.int (n : Int))) tNil)) g tu) tz D σ H1) : tSeq (tFor (iRng1 (tCons te tNil)) g tu) tz D σ H :=
  h _ fun v H1 G1 s ⟨n, hv, po⟩ => by
    subst hv
    obtain ⟨j, e, b1, b2, r⟩ := k n H1 G1 s po
    cases e
    exact ⟨(n : Int), rfl, b1, b2, r⟩
/-- a comprehension over a list that a call makes, which changes what stands at x -/
theorem evM_lcI {po : V → Hp → Hp → Prop} {po' : V → Hp → Hp → Prop} (h : EvM M ta σ H G po) (k : ∀ v H1 G1, StepM M H G H1 G1 → po v H1 G1 → EvM M (tLc (iList K (tC v)) g tt te vs) σ H1 G1 po') : EvM M (tLc (iList K ta) g tt te vs) σ H G po' := fun Q q =>
  h _ fun v H1 G1 s hp => k v H1 G1 s hp Q fun v' H2 G2 s2 hp2 => q v' H2 G2 (s.trans s2) hp2
end
/-! ### data of numbers -/
theorem rLL_nat_int {fam : List (List Nat)} {G : Hp} {v : V} (h : rL (rL rNat) fam G v) : rL (rL rInt) (fam.map fun l => l.map Int.ofNat) G v := by
  obtain ⟨a, vs, rfl, h2, h3⟩ := h
  refine ⟨a, vs, rfl, h2, ?_⟩
  clear h2
  induction h3 with
  | nil => exact .nil
  | cons h t ih => exact .cons (rL_nat_int h) ih
end Vc
namespace Vm
theorem primeOk_of {p : Nat} (h1 : 2 ≤ p) (h2 : p ≤ 1000) (h : ∀ f, f < 32 → 2 ≤ f → f * f ≤ p → p % f ≠ 0) : PrimeOk p := ⟨h1, h2, fun f a b => h f (by
  by_cases hf : f < 32
  · exact hf
  · have := Nat.mul_le_mul (show 32 ≤ f by omega) (show 32 ≤ f by omega)
    omega) a b⟩
def primesL : List Nat := [2, 3, 5, 7, 11, 13, 17, 19, 23, 97, 101, 997]
theorem primesL_ok : ∀ p ∈ primesL, PrimeOk p := by
  intro p hp
  have h : ∀ p ∈ primesL, 2 ≤ p ∧ p ≤ 1000 ∧ ∀ f, f < 32 → 2 ≤ f → f * f ≤ p → p % f ≠ 0 := by decide +kernel
  obtain ⟨a, b, c⟩ := h p hp
  exact primeOk_of a b c
theorem famOk_snoc {m : Nat} {fam : List (List Nat)} {lot : List Nat} (h : FamOk m fam) (hl : LotOk m lot) (hf : fitsB m fam lot = true) : FamOk m (fam ++ [lot]) := by
  unfold fitsB at hf
  rw [List.all_eq_true] at hf
  refine ⟨fun l hl' => ?_, fun i j a b hij ha hb => ?_⟩
  · rcases List.mem_append.mp hl' with z | z
    · exact h.lot l z
    · rw [List.mem_singleton.mp z]
      exact hl
  · by_cases hj : j < fam.length
    · rw [List.getElem?_append_left hj] at hb
      rw [List.getElem?_append_left (by omega)] at ha
      exact h.no i j a b hij ha hb
    · have hb' : b = lot := by
        have hlt := (List.getElem?_eq_some_iff.mp hb).1
        rw [List.length_append, List.length_singleton] at hlt
        have : j = fam.length := by omega
        rw [this, List.getElem?_append_right (Nat.le_refl _), Nat.sub_self] at hb
        exact (Option.some.inj hb).symm
      rw [hb']
      have h2 := hf a (List.mem_of_getElem? ha)
      cases hcv : covB m a lot with
      | false => rfl
      | true =>
        rw [hcv] at h2
        cases h2
end Vm
namespace Vc
open PySem PySem.Spec PyProof.Rows L2 Vm
section
variable {P : Program} {w : World} {K : PySem.W.Frag} {mg : Str → Option Value} {base : Heap}
/-! _law_cell -/
def spCell (K : PySem.W.Frag) : Sp := fun vs H Q E => ∃ (ns : List Int) (n : Nat), spOf [rScr K ns, rNat n] (rE (fun _ : Int => True) rInt) vs H Q E
theorem sc_law_cell : FnScope ["_law_script", "_law_k"] ["_law_script", "_law_k"] (defScope s_law_cell) := ⟨rfl, rfl, rfl, by decide +kernel, rfl, by decide +kernel, by decide +kernel⟩
theorem ok_law_cell (T : Tx K mg) : Cal P w K mg base "_law_cell" 1 ["_law_script", "_law_k"] (spCell K) := by
  refine T.k_law_cell.cal sc_law_cell (fun vs H Q E ⟨_, _, h⟩ => spOf_len h) fun f cdv A outer s H vs Q E hr h => ⟨_, (pss_cons (ps_if (pt_cmpR op_lt (pv 1) (pe_callB (cLen K) (by rfl) T.flen PySem.boot_len (pa_cons (pv 0) pa_nil)) (nomark _)) (pss_one (ps_ret (pe_ix (ixl K) (pv 0) (pv 1) (fun _ _ => rfl)))) pss_nil)
        (pss_one (ps_ret pe_int))), ?_⟩
  obtain ⟨ns, n, G, e, ha, k⟩ := h
  obtain ⟨u, _, rfl, hu, rfl⟩ := pr_two ha
  refine q_if (b := decide ((n : Int) < (ns.length : Int))) (et_test (ev_I0 (g := fun i j => .bl (decide (i < j))) (i := (n : Int)) (j := (ns.length : Int)) (ev_var rfl rfl) (ev_lenK (ev_var rfl hu)))) e (fun hb H1 G1 s1 => ?_) fun hb H1 G1 s1 => ?_
  · have hn : n < ns.length := by
      have := of_decide_eq_true hb
      omega
    exact s_ret (ev_ixK (ns := ns) (n := n) (ev_var rfl (Mo.mo s1.gg hu)) (ev_var rfl rfl) (get_of_lt 0 hn)) s1.gh fun v H2 G2 s2 hv => k v H2 G2 (s1.trans s2) ⟨_, trivial, hv⟩
  · exact k (.int 0) H1 G1 s1 ⟨0, trivial, rfl⟩
/-! _law_digits -/
def spDig (K : PySem.W.Frag) : Sp := fun vs H Q E => ∃ (ns : List Int) (a b : Nat), a ≤ 1000 ∧ b ≤ 1000 ∧ spOf [rScr K ns, rNat a, rNat b] (rE (fun _ : List Int => True) rInts) vs H Q E
theorem sc_law_digits : FnScope ["_law_script", "_law_first", "_law_last", "_law_digits_here", "_law_k", "_law_cell_here", "_law_turn", "_law_seed"] ["_law_script", "_law_first", "_law_last"] (defScope s_law_digits) := ⟨rfl, rfl, rfl, by decide +kernel, rfl, by decide +kernel, by decide +kernel⟩
theorem ok_law_digits (T : Tx K mg) : Cal P w K mg base "_law_digits" 2 ["_law_script", "_law_first", "_law_last"] (spDig K) := by
  have c_law_cell := ok_law_cell (P := P) (w := w) (base := base) T
  refine T.k_law_digits.cal sc_law_digits (fun vs H Q E ⟨_, _, _, _, _, h⟩ => spOf_len h) fun f cdv A outer s H vs Q E hr h => ⟨_, (pss_cons (ps_set (i := 3) sc_law_digits.nd rfl (Or.inl rfl) (pe_lst pa_nil))
        (pss_cons (ps_for PassesOwn.never rfl (pi_range2 rfl T.frange (pa_cons (pv 1) (pa_cons (pv 2) pa_nil))) (pg_name (i := 4) sc_law_digits.nd rfl (Or.inl rfl))
          (pss_cons (ps_set (i := 5) sc_law_digits.nd rfl (Or.inl rfl) (pe_cal c_law_cell hr rfl (pa_cons (pv 0) (pa_cons (pv 4) pa_nil))))
          (pss_cons (ps_if (pt_cmpR op_lt (pv 5) pe_int (nomark _)) (pss_one (ps_set (i := 5) sc_law_digits.nd rfl (Or.inl rfl) (pe_op op_sub pe_int (pe_op op_mul pe_int (pv 5))))) pss_nil)
          (pss_one (ps_if (pt_cmpR op_ge (pv 5) (pe_op op_pow pe_int pe_int) (nomark _)) (pss_one (ps_for PassesOwn.never rfl (pi_range1 rfl T.frange (pa_cons pe_int pa_nil)) (pg_name (i := 6) sc_law_digits.nd rfl (Or.inl rfl))
              (pss_one (ps_if (pt_cmpR op_gt (pv 5) pe_int (nomark _)) (pss_cons (ps_expr (bmK K (pe_bm PySem.F.plainAttrs_list PySem.F.slot_list_append PySem.F.type_list_append mt_append (pv 3) (pa_cons (pe_op op_mod (pe_callTy call_int1 (by rfl) T.fint (by decide +kernel) (pa_cons (pv 5) pa_nil)) pe_int) pa_nil))))
                (pss_one (ps_set (i := 5) sc_law_digits.nd rfl (Or.inl rfl) (pe_op op_fdiv (pv 5) pe_int)))) pss_nil)))) (pss_cons (ps_set (i := 7) sc_law_digits.nd rfl (Or.inl rfl) (pe_op op_mod (pe_callTy call_int1 (by rfl) T.fint (by decide +kernel) (pa_cons (pe_op op_add (pe_op op_add (pe_op op_mul (pv 5) pe_int) (pe_op op_mul (pv 4) pe_int)) pe_int) pa_nil)) pe_int))
            (pss_one (ps_for PassesOwn.never rfl (pi_range1 rfl T.frange (pa_cons pe_int pa_nil)) (pg_name (i := 6) sc_law_digits.nd rfl (Or.inl rfl))
              (pss_cons (ps_set (i := 7) sc_law_digits.nd rfl (Or.inl rfl) (pe_op op_mod (pe_callTy call_int1 (by rfl) T.fint (by decide +kernel) (pa_cons (pe_op op_add (pe_op op_add (pe_op op_mul (pv 7) pe_int) (pe_op op_mul pe_int (pv 6))) pe_int) pa_nil)) pe_int))
              (pss_one (ps_expr (bmK K (pe_bm PySem.F.plainAttrs_list PySem.F.slot_list_append PySem.F.type_list_append mt_append (pv 3) (pa_cons (pe_op op_mod (pe_callTy call_int1 (by rfl) T.fint (by decide +kernel) (pa_cons (pe_op op_fdiv (pv 7) pe_int) pa_nil)) pe_int) pa_nil))))))))))))))
        (pss_one (ps_ret (pv 3))))), ?_⟩
  obtain ⟨ns, lo, hi, hlo, hhi, G, e, ha, k⟩ := h
  obtain ⟨u, _, _, rfl, hu, rfl, rfl⟩ := pr_three ha
  refine q_newA (r := rInt) (st0 e) fun a hn h0 s1 A1 => ?_
  refine q_for1 (r0 := rNat) s1 (wk_rng2 (lo := lo) (n := hi) (ev_var rfl rfl) (ev_var rfl rfl) ⟨by omega, by omega⟩) (fun i σ' H' G' => ∃ x4 x5 x6 x7 zs, σ' = [some u, some (.int (lo : Int)), some (.int (hi : Int)), some (.ref a), x4, x5, x6, x7] ∧ rScr K ns G' u ∧ zs.length ≤ i * 60 ∧ Acc rInt a zs H' G') ?_ ?_ ?_
  · exact fun H1 G1 s2 => ⟨none, none, none, none, [], rfl, Mo.mo s2.gg hu, by simp, A1.step s2⟩
  · rintro i y σ' v Ha Hb G' Gs hiy s2 e1 e2 e3 hv ⟨x4, x5, x6, x7, zs, rfl, hu1, hzl, A2⟩
    cases hv
    have hil : i < 1000 := by
      have := (List.getElem?_eq_some_iff.mp hiy).1
      rw [List.length_map, List.length_range] at this
      omega
    refine q_set (r := rE (fun _ : Int => True) rInt) (ev_call (ea_cons (ev_var (r := rScr K ns) rfl hu1) (ea_cons (ev_var (r := rNat y) rfl rfl) ea_nil)) fun vs H Q h => ⟨ns, y, h⟩) s2.gh fun v5 H5 G5 s5 ⟨c, _, hv5⟩ => ?_
    cases hv5
    have t5 := s2.trans s5
    have A5 := (A2.ex e3).step s5
    have hu5 := Mo.mo s5.gg hu1
    have main : ∀ (c : Int) (H6 G6 : Hp), Step H G H6 G6 → Ex Gs G6 → rScr K ns G6 u → Acc rInt a zs H6 G6 → ∀ (D : Ends), (∀ σ2 H2, Nx [] H G Gs (fun σ' H' G' => ∃ x4 x5 x6 x7 zs, σ' = [some u, some (.int (lo : Int)), some (.int (hi : Int)), some (.ref a), x4, x5, x6, x7] ∧ rScr K ns G' u ∧ zs.length ≤ (i + 1) * 60 ∧ Acc rInt a zs H' G') σ2 H2 → D.nx σ2 H2) →
      tIfS (tTest (tOp (rI0 fun i j => .bl (decide (j ≤ i))) (tVar 5) (tOp (rI CPow fun i j => .int (i ^ j.toNat)) (tC (.int 10)) (tC (.int 18)))))
        (tFor (iRng1 (tCons (tC (.int 60)) tNil)) (gName 6) (tIfS (tTest (tOp (rI0 fun i j => .bl (decide (j < i))) (tVar 5) (tC (.int 0)))) (tSeq (tDrop (tBM K "list" rAppend (tVar 3) (tCons (tOp (rI (fun _ j => 0 < j) fun i j => .int (i % j)) (tCB (fun xs H Q => (∃ i, xs = [.int i] ∧ Q (.int i) H) ∨ ∃ k, xs = [.bl k] ∧ Q (.int (if k then 1 else 0)) H) (tCons (tVar 5) tNil)) (tC (.int 1000))) tNil)))
          (tAsg (tOp (rI CDiv fun i j => .int (i / j)) (tVar 5) (tC (.int 1000))) (gName 5))) (fun D σ H => D.nx σ H)))
        (tSeq (tAsg (tOp (rI (fun _ j => 0 < j) fun i j => .int (i % j)) (tCB (fun xs H Q => (∃ i, xs = [.int i] ∧ Q (.int i) H) ∨ ∃ k, xs = [.bl k] ∧ Q (.int (if k then 1 else 0)) H) (tCons (tOp (rI0 fun i j => .int (i + j)) (tOp (rI0 fun i j => .int (i + j)) (tOp (rI CMul fun i j => .int (i * j)) (tVar 5) (tC (.int 48271))) (tOp (rI CMul fun i j => .int (i * j)) (tVar 4) (tC (.int 69621)))) (tC (.int 11))) tNil)) (tC (.int 2147483647))) (gName 7))
          (tFor (iRng1 (tCons (tC (.int 12)) tNil)) (gName 6) (tSeq (tAsg (tOp (rI (fun _ j => 0 < j) fun i j => .int (i % j)) (tCB (fun xs H Q => (∃ i, xs = [.int i] ∧ Q (.int i) H) ∨ ∃ k, xs = [.bl k] ∧ Q (.int (if k then 1 else 0)) H) (tCons (tOp (rI0 fun i j => .int (i + j)) (tOp (rI0 fun i j => .int (i + j)) (tOp (rI CMul fun i j => .int (i * j)) (tVar 7) (tC (.int 16807))) (tOp (rI CMul fun i j => .int (i * j)) (tC (.int 7)) (tVar 6))) (tC (.int 1))) tNil)) (tC (.int 2147483647))) (gName 7))
            (tDrop (tBM K "list" rAppend (tVar 3) (tCons (tOp (rI (fun _ j => 0 < j) fun i j => .int (i % j)) (tCB (fun xs H Q => (∃ i, xs = [.int i] ∧ Q (.int i) H) ∨ ∃ k, xs = [.bl k] ∧ Q (.int (if k then 1 else 0)) H) (tCons (tOp (rI CDiv fun i j => .int (i / j)) (tVar 7) (tC (.int 997))) tNil)) (tC (.int 1000))) tNil))))))
        D [some u, some (.int (lo : Int)), some (.int (hi : Int)), some (.ref a), some (.int (y : Int)), some (.int c), x6, x7] H6 := by
      intro c H6 G6 t6 eg6 hu6 A6 D hD
      refine s_if (b := decide ((10 : Int) ^ (18 : Int).toNat ≤ c)) (et_test (ev_I0 (g := fun i j => .bl (decide (j ≤ i))) (i := c) (j := (10 : Int) ^ (18 : Int).toNat) (ev_var rfl rfl) (ev_I (C := CPow) (g := fun i j => .int (i ^ j.toNat)) (i := 10) (j := 18) ev_i ev_i ⟨by decide, by decide, by decide⟩))) t6.gh (fun _ H7 G7 s7 => ?_) fun _ H7 G7 s7 => ?_
      · refine s_for1 (r0 := rNat) (t6.trans s7) (wk_rng1 (n := 60) (ev_n 60) (by decide)) (fun j σ' H' G' => ∃ c x6 zs', σ' = [some u, some (.int (lo : Int)), some (.int (hi : Int)), some (.ref a), some (.int (y : Int)), some (.int c), x6, x7] ∧ rScr K ns G' u ∧ zs'.length ≤ i * 60 + j ∧ Acc rInt a zs' H' G') ?_ ?_ ?_
        · exact fun H8 G8 s8 => ⟨c, x6, zs, rfl, Mo.mo (s7.gg.trans s8.gg) hu6, by omega, (A6.step s7).step s8⟩
        · rintro j t σ' v Hc Hd G8 Gt hj s8 f1 f2 f3 hv ⟨c, x6, zs', rfl, hu8, hl8, A8⟩
          cases hv
          obtain ⟨rfl, hjl⟩ := get_range hj
          refine s_if (b := decide ((0 : Int) < c)) (et_test (ev_I0 (g := fun i j => .bl (decide (j < i))) (i := c) (j := 0) (ev_var rfl rfl) ev_i)) s8.gh (fun _ H9 G9 s9 => ?_) fun _ H9 G9 s9 => ⟨G9, s8.trans s9, f2.trans s9.gg, c, _, zs', rfl, Mo.mo s9.gg hu8, by omega, (A8.ex f3).step s9⟩
          refine q_appA (z := c % 1000) (s8.trans s9) h0 rfl ((A8.ex f3).step s9) (by omega) (ev_modI (ev_intI (ev_var rfl rfl)) ev_i (by decide)) fun Ha Ga o sa ta Aa => ?_
          refine s_set (r := rInt (c / 1000)) (ev_I (C := CDiv) (g := fun i j => .int (i / j)) (i := c) (j := 1000) (ev_var rfl rfl) ev_i ⟨by decide, by decide⟩) ta.gh fun v Hb Gb sb hv => ?_
          cases hv
          exact ⟨Gb, ta.trans sb, ((f2.trans s9.gg).trans sa.gg).trans sb.gg, c / 1000, _, zs' ++ [c % 1000], rfl, Mo.mo ((s9.gg.trans sa.gg).trans sb.gg) hu8, by rw [List.length_append, List.length_singleton]; omega, Aa.step sb⟩
        · rintro σ' H8 G8 s8 f1 ⟨c, x6, zs', rfl, hu8, hl8, A8⟩
          rw [List.length_range] at hl8
          exact hD _ _ ⟨G8, s8, (eg6.trans s7.gg).trans f1, _, _, _, _, zs', rfl, hu8, by omega, A8⟩
      · refine q_set (r := rE (fun _ : Int => True) rInt) ((ev_modI (ev_intI (ev_I0 (g := fun i j => .int (i + j)) (ev_I0 (g := fun i j => .int (i + j)) (ev_I (C := CMul) (g := fun i j => .int (i * j)) (i := c) (j := 48271) (ev_var rfl rfl) ev_i (.inr (by decide))) (ev_I (C := CMul) (g := fun i j => .int (i * j)) (i := (y : Int)) (j := 69621) (ev_var rfl rfl) ev_i (.inr (by decide)))) (ev_i (i := 11)))) (ev_i (i := 2147483647)) (by decide)).is fun _ v _ z => ⟨_, trivial, z⟩) s7.gh fun v8 H8 G8 s8 ⟨sd, _, hv8⟩ => ?_
        cases hv8
        refine s_for1 (r0 := rNat) ((t6.trans s7).trans s8) (wk_rng1 (n := 12) (ev_n 12) (by decide)) (fun j σ' H' G' => ∃ sd x6 zs', σ' = [some u, some (.int (lo : Int)), some (.int (hi : Int)), some (.ref a), some (.int (y : Int)), some (.int c), x6, some (.int sd)] ∧ rScr K ns G' u ∧ zs'.length ≤ i * 60 + j ∧ Acc rInt a zs' H' G') ?_ ?_ ?_
        · exact fun H9 G9 s9 => ⟨sd, x6, zs, rfl, Mo.mo ((s7.gg.trans s8.gg).trans s9.gg) hu6, by omega, ((A6.step s7).step s8).step s9⟩
        · rintro j t σ' v Hc Hd G9 Gt hj s9 f1 f2 f3 hv ⟨sd, x6, zs', rfl, hu8, hl8, A8⟩
          cases hv
          obtain ⟨rfl, hjl⟩ := get_range hj
          refine q_set (r := rE (fun _ : Int => True) rInt) ((ev_modI (ev_intI (ev_I0 (g := fun i j => .int (i + j)) (ev_I0 (g := fun i j => .int (i + j)) (ev_I (C := CMul) (g := fun i j => .int (i * j)) (i := sd) (j := 16807) (ev_var rfl rfl) ev_i (.inr (by decide))) (ev_I (C := CMul) (g := fun i j => .int (i * j)) (i := 7) (j := (j : Int)) ev_i (ev_var rfl rfl) (.inl (by decide)))) (ev_i (i := 1)))) (ev_i (i := 2147483647)) (by decide)).is fun _ v _ z => ⟨_, trivial, z⟩) s9.gh fun v8 Ha Ga sa ⟨sd', _, hva⟩ => ?_
          cases hva
          exact s_appA (z := sd' / 997 % 1000) (s9.trans sa) h0 rfl ((A8.ex f3).step sa) (by omega) (ev_modI (ev_intI (ev_I (C := CDiv) (g := fun i j => .int (i / j)) (i := sd') (j := 997) (ev_var rfl rfl) ev_i ⟨by decide, by decide⟩)) ev_i (by decide))
            fun Hb Gb o sb tb Ab => ⟨Gb, tb, (f2.trans sa.gg).trans sb.gg, sd', _, zs' ++ [sd' / 997 % 1000], rfl, Mo.mo (sa.gg.trans sb.gg) hu8, by rw [List.length_append, List.length_singleton]; omega, Ab⟩
        · rintro σ' H9 G9 s9 f1 ⟨sd, x6, zs', rfl, hu8, hl8, A8⟩
          rw [List.length_range] at hl8
          exact hD _ _ ⟨G9, s9, ((eg6.trans s7.gg).trans s8.gg).trans f1, _, _, _, _, zs', rfl, hu8, by omega, A8⟩
    refine q_if (b := decide (c < 0)) (et_test (ev_I0 (g := fun i j => .bl (decide (i < j))) (i := c) (j := 0) (ev_var rfl rfl) ev_i)) s5.gh (fun _ H6 G6 s6 => ?_) fun _ H6 G6 s6 => ?_
    · refine s_set (r := rInt (1 - 2 * c)) (ev_I0 (g := fun i j => .int (i - j)) (i := 1) (j := 2 * c) ev_i (ev_I (C := CMul) (g := fun i j => .int (i * j)) (i := 2) (j := c) ev_i (ev_var rfl rfl) (.inl (by decide)))) s6.gh fun v H7 G7 s7 hv => ?_
      cases hv
      exact main (1 - 2 * c) H7 G7 ((t5.trans s6).trans s7) (((e2.trans s5.gg).trans s6.gg).trans s7.gg) (Mo.mo (s6.gg.trans s7.gg) hu5) ((A5.step s6).step s7) _ fun _ _ z => z
    · exact main c H6 G6 (t5.trans s6) ((e2.trans s5.gg).trans s6.gg) (Mo.mo s6.gg hu5) (A5.step s6) _ fun _ _ z => z
  · rintro σ' H2 G2 s2 e1 ⟨x4, x5, x6, x7, zs, rfl, hu1, hzl, A2⟩
    exact s_retA s2 h0 rfl A2 fun G3 s3 h3 => k _ H2 G3 s3 ⟨zs, trivial, h3⟩
end
end Vc
namespace Vc
open PySem PySem.Spec PyProof.Rows L2 Vm
section
variable {P : Program} {w : World} {K : PySem.W.Frag} {mg : Str → Option Value} {base : Heap}
/-! _law_draw -/
def spDraw : Sp := fun vs H Q E => ∃ (G : Hp) (b : Addr) (ds : List Int) (many : Nat), Ex G H ∧ Bs b ds H G ∧ 0 < many ∧ vs = [.ref b, .int (many : Int)] ∧ ∀ (n : Nat) H' G', StepM [b] H G H' G' → Bs b ds H' G' → n < many → Q (.int (n : Int)) H'
theorem sc_law_draw : FnScope ["_law_box", "_law_many", "_law_at"] ["_law_box", "_law_many"] (defScope s_law_draw) := ⟨rfl, rfl, rfl, by decide +kernel, rfl, by decide +kernel, by decide +kernel⟩
theorem ok_law_draw (T : Tx K mg) : Cal P w K mg base "_law_draw" 1 ["_law_box", "_law_many"] spDraw := by
  refine T.k_law_draw.cal sc_law_draw (fun vs H Q E ⟨_, _, _, _, _, _, _, h, _⟩ => by rw [h]; rfl) fun f cdv A outer s H vs Q E hr h => ⟨_, (pss_cons (ps_set (i := 2) sc_law_draw.nd rfl (Or.inl rfl) (pe_ix (ixl K) (pv 0) pe_int (fun _ _ => rfl)))
        (pss_cons (ps_asg (pe_op op_add (pv 2) pe_int) (pg_sub (pv 0) pe_int set_list))
        (pss_cons (ps_if (pt_cmpR op_lt (pv 2) (pe_callB (cLen K) (by rfl) T.flen PySem.boot_len (pa_cons (pe_ix (ixl K) (pv 0) pe_int (fun _ _ => rfl)) pa_nil)) (nomark _)) (pss_one (ps_ret (pe_op op_mod (pe_callTy call_int1 (by rfl) T.fint (by decide +kernel) (pa_cons (pe_ix (ixl K) (pe_ix (ixl K) (pv 0) pe_int (fun _ _ => rfl)) (pv 2) (fun _ _ => rfl)) pa_nil)) (pv 1)))) pss_nil)
        (pss_one (ps_ret pe_int))))), ?_⟩
  obtain ⟨G, b, ds, many, e, ⟨i, d, hb, gb, hd⟩, hm, rfl, k⟩ := h
  refine ⟨.ref b, rfl, b, _, 1, _, rfl, rfl, SqL.of hb, at_of (j := 1) rfl rfl, ?_⟩
  refine ⟨.int (i : Int), rfl, (i : Int), 1, rfl, rfl, .ref b, rfl, b, _, 1, 1, rfl, rfl, hb, rfl, ?_⟩
  have t1 : StepM [b] H G (upd H b (.lst ([d, .int (i : Int)].set 1 (.int ((i : Int) + 1))))) G := (StepM.refl e).mutM in1 gb
  generalize hH1 : upd H b (.lst ([d, .int (i : Int)].set 1 (.int ((i : Int) + 1)))) = H1 at t1
  have hb1 : H1 b = some (.lst [d, .int ((i + 1 : Nat) : Int)]) := by
    rw [← hH1, upd_same]
    rfl
  have hB1 : Bs b ds H1 G := ⟨i + 1, d, hb1, gb, hd⟩
  have hbox : rH [rInts ds, rNat (i + 1)] H1 (.ref b) := ⟨b, _, rfl, hb1, .cons (Mo.mo t1.gh hd) (.cons rfl .nil)⟩
  refine q_if (b := decide ((i : Int) < (ds.length : Int))) (G := H1) (et_test (ev_I0 (g := fun i j => .bl (decide (i < j))) (i := (i : Int)) (j := (ds.length : Int)) (ev_var rfl rfl) (ev_len (r := rInt) (ev_ixH (rs := [rInts ds, rNat (i + 1)]) (n := 0) (ev_var rfl hbox) ev_i rfl rfl)))) (Ex.refl _) (fun hlt H2 G2 s2 => ?_) fun _ H2 G2 s2 => ?_
  · have hlt' : i < ds.length := by
      have := of_decide_eq_true hlt
      omega
    have hbox2 := Mo.mo (r := rH [rInts ds, rNat (i + 1)]) s2.ex hbox
    obtain ⟨n, hn, hnm⟩ : ∃ n : Nat, ds.getD i 0 % (many : Int) = (n : Int) ∧ n < many := by
      have e1 := Int.emod_nonneg (ds.getD i 0) (show (many : Int) ≠ 0 by omega)
      have e2 := Int.emod_lt_of_pos (ds.getD i 0) (show (0 : Int) < (many : Int) by omega)
      exact ⟨(ds.getD i 0 % (many : Int)).toNat, by omega, by omega⟩
    have t2 := t1.then (StepM.of_ex t1.gh s2.ex)
    refine s_ret (r := rNat n) ((ev_modI (i := ds.getD i 0) (j := (many : Int)) (ev_intI (ev_ix (r := rInt) (xs := ds) (n := i) (ev_ixH (rs := [rInts ds, rNat (i + 1)]) (n := 0) (ev_var rfl hbox2) ev_i rfl rfl) (ev_var rfl rfl) rfl (get_of_lt 0 hlt'))) (ev_var rfl rfl) (by omega)).is fun _ v _ z => by rw [hn] at z; exact z) (Ex.refl H2) fun v H3 G3 s3 hv => ?_
    cases hv
    exact k n H3 G (t2.then (StepM.of_ex t2.gh s3.ex)) (Bs.stab.ex (Bs.stab.ex hB1 s2.ex) s3.ex) hnm
  · exact k 0 H2 G (t1.then (StepM.of_ex t1.gh s2.ex)) (Bs.stab.ex hB1 s2.ex) hm
section
variable {σ : L2.St} {H G : Hp} {b : Addr} {ds : List Int} {j many : Nat}
theorem ev_draw (e : Ex G H) (hσ : σ[j]? = some (some (.ref b))) (hB : Bs b ds H G) (hm : 0 < many) {z : Int} (hz : z = (many : Int) := by rfl) : EvM [b] (tCall spDraw [] E0 (tCons (tVar j) (tCons (tC (.int z)) tNil))) σ H G (fun v H' G' => ∃ n : Nat, v = .int (n : Int) ∧ n < many ∧ Bs b ds H' G') :=
  fun Q q => by
    subst hz
    exact ⟨.ref b, hσ, G, b, ds, many, e, hB, hm, rfl, fun n H' G' s hb hn => q _ H' G' s ⟨n, rfl, hn, hb⟩⟩
end
/-! _law_prime -/
def spLPrime : Sp := fun vs H Q E => ∃ (G : Hp) (b : Addr) (ds : List Int), Ex G H ∧ Bs b ds H G ∧ vs = [.ref b] ∧ ∀ (p : Nat) H' G', StepM [b] H G H' G' → Bs b ds H' G' → PrimeOk p → Q (.int (p : Int)) H'
theorem sc_law_prime : FnScope ["_law_box"] ["_law_box"] (defScope s_law_prime) := ⟨rfl, rfl, rfl, by decide +kernel, rfl, by decide +kernel, by decide +kernel⟩
theorem ok_law_prime (T : Tx K mg) : Cal P w K mg base "_law_prime" 2 ["_law_box"] spLPrime := by
  have c_law_draw := ok_law_draw (P := P) (w := w) (base := base) T
  refine T.k_law_prime.cal sc_law_prime (fun vs H Q E ⟨_, _, _, _, _, h, _⟩ => by rw [h]; rfl) fun f cdv A outer s H vs Q E hr h => ⟨_, (pss_one (ps_ret (pe_ix (ixl K) (pe_lst (pa_cons pe_int (pa_cons pe_int (pa_cons pe_int (pa_cons pe_int (pa_cons pe_int (pa_cons pe_int (pa_cons pe_int (pa_cons pe_int (pa_cons pe_int (pa_cons pe_int (pa_cons pe_int (pa_cons pe_int pa_nil))))))))))))) (pe_cal c_law_draw hr rfl (pa_cons (pv 0) (pa_cons pe_int pa_nil))) (fun _ _ => rfl)))), ?_⟩
  obtain ⟨G, b, ds, e, hB, rfl, k⟩ := h
  refine s_retM (M := [b]) (StepM.refl e) (evM_op (po := fun v H' G' => ∃ p : Nat, v = .int (p : Int) ∧ PrimeOk p ∧ Bs b ds H' G') (pa := fun v H' G' => rL rNat primesL G' v ∧ Bs b ds H' G') (pb := fun v w H' G' => rL rNat primesL G' v ∧ ∃ n : Nat, w = .int (n : Int) ∧ n < 12 ∧ Bs b ds H' G')
    (evM_pure Bs.stab (ev_lst (r := rNat) (xs := primesL) (ea_cons (ev_n 2) (ea_cons (ev_n 3) (ea_cons (ev_n 5) (ea_cons (ev_n 7) (ea_cons (ev_n 11) (ea_cons (ev_n 13) (ea_cons (ev_n 17) (ea_cons (ev_n 19) (ea_cons (ev_n 23) (ea_cons (ev_n 97) (ea_cons (ev_n 101) (ea_cons (ev_n 997) ea_nil)))))))))))) (by decide)) e hB)
    (fun v H1 G1 s1 ⟨h1, h2⟩ => (ev_draw s1.gh rfl h2 (by decide)).is fun w H2 G2 s2 h3 => ⟨Mo.mo s2.gg h1, h3⟩)
    (fun v w H2 G2 e2 ⟨h1, n, h2, h3, h4⟩ Q q => by
      obtain ⟨p, rfl, h5⟩ := rL_vals (f := fun n : Nat => V.int (n : Int)) h1
      have hp := get_of_lt (l := primesL) 0 (show n < primesL.length from h3)
      exact ⟨p, _, (n : Int), .int ((primesL.getD n 0 : Nat) : Int), rfl, h2, SqL.of (e2.l h5), at_of rfl (by rw [List.getElem?_map, hp]; rfl), q _ ⟨_, rfl, primesL_ok _ (List.mem_of_getElem? hp), h4⟩⟩)) fun v H1 G1 s1 s2 ⟨p, hv, hp, hB1⟩ => ?_
  subst hv
  exact k p H1 G1 s1 hB1 hp
/-! _law_numbers -/
def NumOk (x : Int) : Prop := -300 ≤ x ∧ x ≤ 999699
def spNums : Sp := fun vs H Q E => ∃ (G : Hp) (b : Addr) (ds : List Int) (many : Nat), Ex G H ∧ Bs b ds H G ∧ many ≤ 100000 ∧ vs = [.ref b, .int (many : Int)] ∧ ∀ (xs : List Int) v H' G', StepM [b] H G H' G' → Bs b ds H' G' → xs.length = many → (∀ x ∈ xs, NumOk x) → rInts xs G' v → Q v H'
theorem sc_law_numbers : FnScope ["_law_box", "_law_many", "_law_numbers_here", "_law_k"] ["_law_box", "_law_many"] (defScope s_law_numbers) := ⟨rfl, rfl, rfl, by decide +kernel, rfl, by decide +kernel, by decide +kernel⟩
theorem ok_law_numbers (T : Tx K mg) : Cal P w K mg base "_law_numbers" 2 ["_law_box", "_law_many"] spNums := by
  have c_law_draw := ok_law_draw (P := P) (w := w) (base := base) T
  refine T.k_law_numbers.cal sc_law_numbers (fun vs H Q E ⟨_, _, _, _, _, _, _, h, _⟩ => by rw [h]; rfl) fun f cdv A outer s H vs Q E hr h => ⟨_, (pss_cons (ps_set (i := 2) sc_law_numbers.nd rfl (Or.inl rfl) (pe_lst pa_nil))
        (pss_cons (ps_for PassesOwn.never rfl (pi_range1 rfl T.frange (pa_cons (pv 1) pa_nil)) (pg_name (i := 3) sc_law_numbers.nd rfl (Or.inl rfl))
          (pss_one (ps_expr (bmK K (pe_bm PySem.F.plainAttrs_list PySem.F.slot_list_append PySem.F.type_list_append mt_append (pv 2) (pa_cons (pe_op op_sub (pe_op op_add (pe_op op_mul (pe_cal c_law_draw hr rfl (pa_cons (pv 0) (pa_cons pe_int pa_nil))) pe_int) (pe_cal c_law_draw hr rfl (pa_cons (pv 0) (pa_cons pe_int pa_nil)))) pe_int) pa_nil))))))
        (pss_one (ps_ret (pv 2))))), ?_⟩
  obtain ⟨G, b, ds, many, e, hB, hm, rfl, k⟩ := h
  refine q_newA (r := rInt) (StepM.refl (M := [b]) e) fun a hn h0 s1 A1 => ?_
  have nba : b ≠ a := ne_fresh (Bs.stab.nn hB) hn
  have haM : a ∉ [b] := by simp [nba.symm]
  refine q_for1 (r0 := rNat) s1 (wk_rng1 (n := many) (ev_var rfl rfl) (by omega)) (fun i σ' H' G' => ∃ x3 zs, σ' = [some (.ref b), some (.int (many : Int)), some (.ref a), x3] ∧ zs.length = i ∧ (∀ x ∈ zs, NumOk x) ∧ Bs b ds H' G' ∧ Acc rInt a zs H' G') ?_ ?_ ?_
  · exact fun H1 G1 s2 => ⟨none, [], rfl, rfl, (fun _ h => by cases h), Bs.stab.step (Bs.stab.up hB nba) s2, A1.step s2⟩
  · rintro i y σ' v Ha Hb G' Gs hi s2 e1 e2 e3 hv ⟨x3, zs, rfl, hzl, hz, hB2, A2⟩
    cases hv
    obtain ⟨rfl, hil⟩ := get_range hi
    refine s_appM (q := rInt) (W := fun z H' G' => NumOk z ∧ Bs b ds H' G') s2 h0 haM rfl (A2.ex e3) (by omega) (evM_op (pa := fun v H' G' => ∃ z : Int, v = .int z ∧ 0 ≤ z ∧ z ≤ 999999 ∧ Bs b ds H' G') (pb := fun v w H' G' => ∃ z : Int, v = .int z ∧ 0 ≤ z ∧ z ≤ 999999 ∧ w = .int 300 ∧ Bs b ds H' G')
      (evM_op (pa := fun v H' G' => ∃ m : Nat, v = .int ((m : Int) * 1000) ∧ m < 1000 ∧ Bs b ds H' G') (pb := fun v w H' G' => ∃ m n : Nat, v = .int ((m : Int) * 1000) ∧ m < 1000 ∧ w = .int (n : Int) ∧ n < 1000 ∧ Bs b ds H' G')
        (evM_op (pa := fun v H' G' => ∃ m : Nat, v = .int (m : Int) ∧ m < 1000 ∧ Bs b ds H' G') (pb := fun v w H' G' => ∃ m : Nat, v = .int (m : Int) ∧ m < 1000 ∧ w = .int 1000 ∧ Bs b ds H' G')
          (ev_draw s2.gh rfl (Bs.stab.ex hB2 e3) (by decide)) (fun v H1 G1 s3 ⟨m, h1, h2, h3⟩ => (evM_pure (r := rInt 1000) Bs.stab ev_i s3.gh h3).is fun w H2 G2 _ ⟨h4, h5⟩ => ⟨m, h1, h2, h4, h5⟩)
          (fun v w H2 G2 e4 ⟨m, h1, h2, h3, h4⟩ Q q => ⟨(m : Int), 1000, h1, h3, .inr (by decide), q _ ⟨m, rfl, h2, h4⟩⟩))
        (fun v H1 G1 s3 ⟨m, h1, h2, h3⟩ => (ev_draw s3.gh rfl h3 (by decide)).is fun w H2 G2 _ ⟨n, h4, h5, h6⟩ => ⟨m, n, h1, h2, h4, h5, h6⟩)
        (fun v w H2 G2 e4 ⟨m, n, h1, h2, h3, h4, h5⟩ Q q => ⟨_, _, h1, h3, q _ ⟨_, rfl, by omega, by omega, h5⟩⟩))
      (fun v H1 G1 s3 ⟨z, h1, h2, h3, h4⟩ => (evM_pure (r := rInt 300) Bs.stab ev_i s3.gh h4).is fun w H2 G2 _ ⟨h5, h6⟩ => ⟨z, h1, h2, h3, h5, h6⟩)
      (fun v w H2 G2 e4 ⟨z, h1, h2, h3, h4, h5⟩ Q q => ⟨z, 300, h1, h4, q _ ⟨z - 300, rfl, ⟨by omega, by omega⟩, h5⟩⟩))
      fun z H1 G1 o ⟨hz1, hB3⟩ s3 s4 A3 => ⟨G1, s4, e2.trans s3.gg, _, zs ++ [z], rfl, by rw [List.length_append, hzl]; rfl, fun x hx => ?_, Bs.stab.up hB3 nba, A3⟩
    rcases List.mem_append.mp hx with hx | hx
    · exact hz x hx
    · rw [List.mem_singleton.mp hx]
      exact hz1
  · rintro σ' H2 G2 s2 e1 ⟨x3, zs, rfl, hzl, hz, hB2, A2⟩
    rw [List.length_range] at hzl
    obtain ⟨us, s5, e5, h5, g5⟩ := A2.done s2 h0
    exact s_ret (ev_var (r := rInts zs) rfl h5) s5.gh fun v H3 G3 s6 hv => k zs v H3 G3 (s5.then s6) (Bs.stab.step (Bs.stab.neG hB2 nba g5) s6) hzl hz hv
/-! _law_family -/
def spLFam : Sp := fun vs H Q E => ∃ (G : Hp) (b : Addr) (ds : List Int) (m : Nat), Ex G H ∧ Bs b ds H G ∧ m ≤ 1000 ∧ vs = [.ref b, .int (m : Int)] ∧ ∀ (fam : List (List Nat)) v H' G', StepM [b] H G H' G' → Bs b ds H' G' → FamOk m fam → fam.length ≤ 3 → rL (rL rNat) fam G' v → Q v H'
theorem sc_law_family : FnScope ["_law_box", "_law_mixers", "_law_family_here", "_law_k", "_law_lot", "_law_mixer"] ["_law_box", "_law_mixers"] (defScope s_law_family) := ⟨rfl, rfl, rfl, by decide +kernel, rfl, by decide +kernel, by decide +kernel⟩
theorem ok_law_family (T : Tx K mg) : Cal P w K mg base "_law_family" 3 ["_law_box", "_law_mixers"] spLFam := by
  have c_law_draw := ok_law_draw (P := P) (w := w) (base := base) T
  have c_law_fits := ok_law_fits (P := P) (w := w) (base := base) T
  refine T.k_law_family.cal sc_law_family (fun vs H Q E ⟨_, _, _, _, _, _, _, h, _⟩ => by rw [h]; rfl) fun f cdv A outer s H vs Q E hr h => ⟨_, (pss_cons (ps_set (i := 2) sc_law_family.nd rfl (Or.inl rfl) (pe_lst pa_nil))
        (pss_cons (ps_for PassesOwn.never rfl (pi_range1 rfl T.frange (pa_cons (pe_cal c_law_draw hr rfl (pa_cons (pv 0) (pa_cons pe_int pa_nil))) pa_nil)) (pg_name (i := 3) sc_law_family.nd rfl (Or.inl rfl))
          (pss_cons (ps_setLc (i := 4) (own := [("_law_mixer", 5)]) (g := gName 5) rfl sc_law_family.nd rfl rfl (sw_true rfl rfl rfl (by decide +kernel)) (pi_range1 rfl T.frange (pa_cons (pv 1) pa_nil)) (blkOk_by (N := ["_law_box", "_law_mixers", "_law_family_here", "_law_k", "_law_lot", "_law_mixer"]) (sc := defScope s_law_family) (by decide +kernel)) (fun _ _ _ _ _ => pg_name (i := 5) sc_law_family.nd rfl (Or.inl rfl)) (fun _ _ _ _ _ => pts_one (pt_cmpR op_eq (pe_cal c_law_draw hr rfl (pa_cons (pv 0) (pa_cons pe_int pa_nil))) pe_int (nomark _))) (fun _ _ _ _ _ => (pv 5)))
          (pss_one (ps_if (pt_val (pe_cal c_law_fits hr rfl (pa_cons (pv 2) (pa_cons (pv 4) (pa_cons (pv 1) pa_nil))))) (pss_one (ps_expr (bmK K (pe_bm PySem.F.plainAttrs_list PySem.F.slot_list_append PySem.F.type_list_append mt_append (pv 2) (pa_cons (pv 4) pa_nil))))) pss_nil))))
        (pss_one (ps_ret (pv 2))))), ?_⟩
  obtain ⟨G, b, ds, m, e, hB, hm, rfl, k⟩ := h
  refine q_newA (r := rL rNat) (StepM.refl (M := [b]) e) fun a hn h0 s1 A1 => ?_
  have nba : b ≠ a := ne_fresh (Bs.stab.nn hB) hn
  have haM : a ∉ [b] := by simp [nba.symm]
  refine q_forM (M := [b]) (Po := fun n H' G' => n < 4 ∧ Bs b ds H' G') (ev_draw s1.gh rfl (Bs.stab.up hB nba) (by decide)) fun n H1 G1 s2 ⟨hn4, hB1⟩ => ?_
  have t2 := s1.trans s2
  have A2 := A1.stepM s2 haM
  refine q_for1 (r0 := rNat) t2 (wk_rng1 (n := n) (ev_c rfl) (by omega)) (fun i σ' H' G' => ∃ x3 x4 fam, σ' = [some (.ref b), some (.int (m : Int)), some (.ref a), x3, x4, none] ∧ fam.length ≤ i ∧ FamOk m fam ∧ Bs b ds H' G' ∧ Acc (rL rNat) a fam H' G') ?_ ?_ ?_
  · exact fun H2 G2 s3 => ⟨none, none, [], rfl, Nat.le_refl _, ⟨fun _ h => (by cases h), fun i j a b _ h => (by simp at h)⟩, Bs.stab.step hB1 s3, A2.step s3⟩
  · rintro i y σ' v Ha Hb G' Gs hi s3 e1 e2 e3 hv ⟨x3, x4, fam, rfl, hfl, hfo, hB2, A3⟩
    cases hv
    obtain ⟨rfl, hil⟩ := get_range hi
    refine q_setM (M := [b]) s3 (evM_lcF (q := rNat) (A := Unit) (fun _ => Bs b ds) (fun _ => Bs.stab) (fun i zs _ => zs.Sublist (List.range i)) (a0 := ()) (Bs.stab.ex hB2 e3) (List.Sublist.refl _) s3.gh (wk_rng1 (n := m) (ev_var rfl rfl) (by omega)) (by rw [List.length_range]; omega) (fun _ _ _ _ e h => s1_mono e h) (fun y G' σ2 ⟨v, _, e⟩ => by rw [e]; rfl)
      fun j t zs _ G4 H4 σ2 hj f1 f2 hsub hB4 ⟨v, hv, hσ⟩ => ?_) fun v4 H4 G4 s4 t4 ⟨lot, _, hlot, hsub, hB4⟩ => ?_
    · cases hv
      obtain ⟨rfl, hjm⟩ := get_range hj
      rw [hσ]
      refine fun Q q => (ev_draw (many := 3) (z := 3) f2 rfl hB4 (by decide) rfl : EvM _ _ _ _ _ _) _ fun v H5 G5 s5 ⟨n, hv5, hn5, hB5⟩ => ?_
      subst hv5
      refine ⟨rfl, _, rfl, q _ H5 G5 s5 ⟨fun _ Q2 q2 => ⟨_, rfl, q2 _ H5 G5 (StepM.refl s5.gh) ⟨j, (), rfl, ?_, hB5⟩⟩, fun _ => ⟨(), ?_, hB5⟩⟩⟩
      · rw [List.range_succ]
        exact hsub.append (List.Sublist.refl _)
      · rw [List.range_succ]
        exact hsub.trans (List.sublist_append_left _ _)
    · rw [List.length_range] at hsub
      have hlo : LotOk m lot := ⟨List.Pairwise.sublist hsub List.pairwise_lt_range, fun x hx => List.mem_range.mp (hsub.subset hx)⟩
      have A4 := (A3.ex e3).stepM s4 haM
      refine s_if (G := H4) (b := fitsB m fam lot) (et_B (ev_call (ea_cons (ev_var (r := rL (rL rNat) fam) rfl (A4.at t4.gh)) (ea_cons (ev_var (r := rL rNat lot) rfl (Mo.mo t4.gh hlot)) (ea_cons (ev_var (r := rNat m) rfl rfl) ea_nil))) fun vs H Q h => ⟨fam, lot, m, hm, by omega, h⟩)) (Ex.refl _) (fun hfit H5 G5 s5 => ?_) fun _ H5 G5 s5 => ?_
      · have t5 := t4.then (StepM.of_ex t4.gh s5.ex)
        exact s_appA (z := lot) t5 h0 rfl (A4.ex s5.ex) (by omega) (ev_var rfl hlot) fun H6 G6 o s6 t6 A6 => ⟨G6, t6, (e2.trans s4.gg).trans s6.gg, _, _, fam ++ [lot], rfl, by rw [List.length_append, List.length_singleton]; omega, famOk_snoc hfo hlo hfit, Bs.stab.up (Bs.stab.step (Bs.stab.ex hB4 s5.ex) s6) nba, A6⟩
      · exact ⟨G4, t4.then (StepM.of_ex t4.gh s5.ex), e2.trans s4.gg, _, _, fam, rfl, by omega, hfo, Bs.stab.ex hB4 s5.ex, A4.ex s5.ex⟩
  · rintro σ' H2 G2 s3 e1 ⟨x3, x4, fam, rfl, hfl, hfo, hB2, A3⟩
    rw [List.length_range] at hfl
    obtain ⟨us, s5, e5, h5, g5⟩ := A3.done s3 h0
    exact s_ret (ev_var (r := rL (rL rNat) fam) rfl h5) s5.gh fun v H3 G3 s6 hv => k fam v H3 G3 (s5.then s6) (Bs.stab.step (Bs.stab.neG hB2 nba g5) s6) hfo (by omega) hv
end
end Vc
namespace Vm
theorem rise_len {m : Nat} : ∀ (l : List Nat) (k : Nat), l.Pairwise (· < ·) → (∀ x ∈ l, k ≤ x ∧ x < m) → l.length ≤ m - k
  | [], _, _, _ => by simp
  | a :: l, k, h, hb => by
    have h1 := List.pairwise_cons.mp h
    have h2 := hb a List.mem_cons_self
    have h3 := rise_len l (a + 1) h1.2 fun x hx => ⟨h1.1 x hx, (hb x (List.mem_cons_of_mem _ hx)).2⟩
    rw [List.length_cons]
    omega
theorem lot_len {m : Nat} {l : List Nat} (h : LotOk m l) : l.length ≤ m := rise_len l 0 h.1 fun x hx => ⟨Nat.zero_le _, h.2 x hx⟩
theorem cnt_ofNat (votes : List Nat) (x : Nat) : (votes.filter fun v => decide (v = x)).length = cnt (votes.map Int.ofNat) x := by
  unfold cnt
  rw [List.filter_map, List.length_map]
  congr 1
  apply List.filter_congr
  intro v _
  show decide (v = x) = decide ((v : Int) = (x : Int))
  exact decide_eq_decide.mpr (by omega)
theorem exists_max : ∀ l : List Int, l ≠ [] → ∃ m, m ∈ l ∧ ∀ y ∈ l, y ≤ m
  | [], h => absurd rfl h
  | [a], _ => ⟨a, List.mem_cons_self, fun y hy => by rw [List.mem_singleton.mp hy]; exact Int.le_refl _⟩
  | a :: b :: l, _ => by
    obtain ⟨m, h1, h2⟩ := exists_max (b :: l) (by simp)
    by_cases h : a ≤ m
    · refine ⟨m, List.mem_cons_of_mem _ h1, fun y hy => ?_⟩
      rcases List.mem_cons.mp hy with e | e
      · rw [e]
        exact h
      · exact h2 y e
    · refine ⟨a, List.mem_cons_self, fun y hy => ?_⟩
      rcases List.mem_cons.mp hy with e | e
      · rw [e]
        exact Int.le_refl _
      · have := h2 y e
        omega
end Vm
namespace Vc
open PySem PySem.Spec PyProof.Rows L2 Vm
section
variable {P : Program} {w : World} {K : PySem.W.Frag} {mg : Str → Option Value} {base : Heap}
/-! _law_world -/
structure WorldOk (p m : Nat) (fam : List (List Nat)) (votes : List Nat) (xs : List Int) : Prop where
  pr : PrimeOk p
  m1 : 1 ≤ m
  m4 : m ≤ 4
  f : FamOk m fam
  fl : fam.length ≤ 3
  vl : votes.length ≤ 5
  vp : ∀ v ∈ votes, v < p
  xl : xs.length = szF m fam votes.length
  x : ∀ x ∈ xs, NumOk x
def spWorld : Sp := fun vs H Q E => ∃ (G : Hp) (b : Addr) (ds : List Int), Ex G H ∧ Bs b ds H G ∧ vs = [.ref b] ∧ ∀ (p m : Nat) (fam : List (List Nat)) (votes : List Nat) (xs : List Int) v H' G', StepM [b] H G H' G' → WorldOk p m fam votes xs → rH [rNat p, rNat m, rL (rL rNat) fam, rL rNat votes, rInts xs] G' v → Q v H'
theorem sc_law_world : FnScope ["_law_box", "_law_prime_here", "_law_mixers", "_law_family_here", "_law_votes", "_law_numbers_here", "_law_number"] ["_law_box"] (defScope s_law_world) := ⟨rfl, rfl, rfl, by decide +kernel, rfl, by decide +kernel, by decide +kernel⟩
theorem ok_law_world (T : Tx K mg) : Cal P w K mg base "_law_world" 4 ["_law_box"] spWorld := by
  have c_law_draw := ok_law_draw (P := P) (w := w) (base := base) T
  have c_law_family := ok_law_family (P := P) (w := w) (base := base) T
  have c_law_numbers := ok_law_numbers (P := P) (w := w) (base := base) T
  have c_law_prime := ok_law_prime (P := P) (w := w) (base := base) T
  have c_law_size := ok_law_size (P := P) (w := w) (base := base) T
  refine T.k_law_world.cal sc_law_world (fun vs H Q E ⟨_, _, _, _, _, h, _⟩ => by rw [h]; rfl) fun f cdv A outer s H vs Q E hr h => ⟨_, (pss_cons (ps_set (i := 1) sc_law_world.nd rfl (Or.inr rfl) (pe_cal c_law_prime hr rfl (pa_cons (pv 0) pa_nil)))
        (pss_cons (ps_set (i := 2) sc_law_world.nd rfl (Or.inl rfl) (pe_op op_add pe_int (pe_cal c_law_draw hr rfl (pa_cons (pv 0) (pa_cons pe_int pa_nil)))))
        (pss_cons (ps_set (i := 3) sc_law_world.nd rfl (Or.inl rfl) (pe_cal c_law_family hr rfl (pa_cons (pv 0) (pa_cons (pv 2) pa_nil))))
        (pss_cons (ps_setLc (i := 4) (own := [("_law_number", 6)]) (g := gName 6) (tt := tYes) rfl sc_law_world.nd rfl rfl (sw_true rfl rfl rfl (by decide +kernel)) (itL K (pe_cal c_law_numbers hr rfl (pa_cons (pv 0) (pa_cons (pe_cal c_law_draw hr rfl (pa_cons (pv 0) (pa_cons pe_int pa_nil))) pa_nil)))) (blkOk_by (N := ["_law_box", "_law_prime_here", "_law_mixers", "_law_family_here", "_law_votes", "_law_numbers_here", "_law_number"]) (sc := defScope s_law_world) (by decide +kernel)) (fun _ _ _ _ _ => pg_name (i := 6) sc_law_world.nd rfl (Or.inl rfl)) (fun _ _ _ _ _ => pts_nil) (fun _ _ _ _ _ => (pe_op op_mod (pe_callTy call_int1 (by rfl) T.fint (by decide +kernel) (pa_cons (pv 6) pa_nil)) (pv 1))))
        (pss_cons (ps_set (i := 5) sc_law_world.nd rfl (Or.inl rfl) (pe_cal c_law_numbers hr rfl (pa_cons (pv 0) (pa_cons (pe_cal c_law_size hr rfl (pa_cons (pv 2) (pa_cons (pv 3) (pa_cons (pe_callB (cLen K) (by rfl) T.flen PySem.boot_len (pa_cons (pv 4) pa_nil)) pa_nil)))) pa_nil))))
        (pss_one (ps_ret (pe_lst (pa_cons (pv 1) (pa_cons (pv 2) (pa_cons (pv 3) (pa_cons (pv 4) (pa_cons (pv 5) pa_nil))))))))))))), ?_⟩
  obtain ⟨G, b, ds, e, hB, rfl, k⟩ := h
  refine q_setM (M := [b]) (StepM.refl e) (po := fun v H' G' => ∃ p : Nat, v = .int (p : Int) ∧ PrimeOk p ∧ Bs b ds H' G') (fun Q q => ⟨.ref b, rfl, G, b, ds, e, hB, rfl, fun p H' G' s hb hp => q _ H' G' s ⟨p, rfl, hp, hb⟩⟩) fun v1 H1 G1 s1 t1 ⟨p, hv1, hpr, hB1⟩ => ?_
  subst hv1
  refine q_setM (M := [b]) t1 (po := fun v H' G' => ∃ m : Nat, v = .int (m : Int) ∧ 1 ≤ m ∧ m ≤ 4 ∧ Bs b ds H' G') (evM_op (pa := fun v H' G' => v = .int 1 ∧ Bs b ds H' G') (pb := fun v w H' G' => v = .int 1 ∧ ∃ n : Nat, w = .int (n : Int) ∧ n < 4 ∧ Bs b ds H' G') (evM_pure (r := rInt 1) Bs.stab ev_i t1.gh hB1) (fun v H2 G2 s2 ⟨h1, h2⟩ => (ev_draw s2.gh rfl h2 (by decide)).is fun w H3 G3 _ h3 => ⟨h1, h3⟩)
    (fun v w H2 G2 e2 ⟨h1, n, h2, h3, h4⟩ Q q => ⟨1, (n : Int), h1, h2, q _ ⟨1 + n, rfl, by omega, by omega, h4⟩⟩)) fun v2 H2 G2 s2 t2 ⟨m, hv2, hm1, hm4, hB2⟩ => ?_
  subst hv2
  refine q_setM (M := [b]) t2 (po := fun v H' G' => ∃ fam : List (List Nat), FamOk m fam ∧ fam.length ≤ 3 ∧ rL (rL rNat) fam G' v ∧ Bs b ds H' G') (fun Q q => ⟨.ref b, rfl, .int (m : Int), rfl, G2, b, ds, m, t2.gh, hB2, by omega, rfl, fun fam v H' G' s hb hf hl hv => q v H' G' s ⟨fam, hf, hl, hv, hb⟩⟩) fun v3 H3 G3 s3 t3 ⟨fam, hf, hfl, hv3, hB3⟩ => ?_
  refine q_setM (M := [b]) t3 (po := fun v H' G' => ∃ votes : List Nat, votes.length ≤ 5 ∧ (∀ v ∈ votes, v < p) ∧ rL rNat votes G' v ∧ Bs b ds H' G') (evM_lcI (po := fun v H' G' => ∃ xs : List Int, xs.length ≤ 5 ∧ rInts xs G' v ∧ Bs b ds H' G')
    (fun Q q => ⟨.ref b, rfl, (ev_draw (many := 6) (z := 6) t3.gh rfl hB3 (by decide) rfl : EvM _ _ _ _ _ _) _ fun v H4 G4 s4 ⟨n, hv4, hn, hB4⟩ => by
      subst hv4
      exact ⟨G4, b, ds, n, s4.gh, hB4, by omega, rfl, fun xs v H' G' s hb hl _ hv => q v H' G' (s4.trans s) ⟨xs, by omega, hv, hb⟩⟩⟩)
    fun v H4 G4 s4 ⟨xs, hxl, hxs, hB4⟩ => (evM_pure (r := rL rNat (xs.map fun x => (x % (p : Int)).toNat)) Bs.stab (ev_lc1 (r := rNat) (r0 := rInt) (fun x => (x % (p : Int)).toNat) (wk_list (r := rInt) (ys := xs) (ev_c hxs)) (by omega) (fun _ => rfl) fun x v G' hx e' hv => (ev_modI (i := x) (j := (p : Int)) (ev_intI (ev_var rfl hv)) (ev_var rfl rfl) (by have := hpr.lo; omega)).is fun _ u _ z => by
      have z' : u = .int (x % (p : Int)) := z
      have h0 := Int.emod_nonneg x (show (p : Int) ≠ 0 by have := hpr.lo; omega)
      show u = .int (((x % (p : Int)).toNat : Nat) : Int)
      rw [z', Int.toNat_of_nonneg h0]) s4.gh hB4).is fun v H5 G5 _ ⟨h1, h2⟩ => ⟨_, by rw [List.length_map]; exact hxl, fun v hv => by
      obtain ⟨x, _, rfl⟩ := List.mem_map.mp hv
      have h0 := Int.emod_nonneg x (show (p : Int) ≠ 0 by have := hpr.lo; omega)
      have h3 := Int.emod_lt_of_pos x (show (0 : Int) < (p : Int) by have := hpr.lo; omega)
      omega, h1, h2⟩) fun v4 H4 G4 s4 t4 ⟨votes, hvl, hvp, hv4, hB4⟩ => ?_
  have sm : Sm m votes.length := ⟨hm1, hm4, hvl⟩
  have hsz := szF_le sm fam
  have hv3' := Mo.mo s4.gg hv3
  refine q_setM (M := [b]) t4 (po := fun v H' G' => ∃ xs : List Int, xs.length = szF m fam votes.length ∧ (∀ x ∈ xs, NumOk x) ∧ rInts xs G' v ∧ Bs b ds H' G') (fun Q q => ⟨.ref b, rfl, (ev_call (r := rNat (szF m fam votes.length)) (ea_cons (ev_var (r := rNat m) rfl rfl) (ea_cons (ev_var (r := rL (rL rNat) fam) rfl hv3') (ea_cons (ev_len (r := rNat) (ev_var (r := rL rNat votes) rfl hv4)) ea_nil))) fun vs H Q h => ⟨m, fam, votes.length, sm, fun l hl => hf.pos hl, by omega, h⟩) H4 t4.gh _ fun v H5 G5 s5 hv5 => by
      cases hv5
      exact ⟨G5, b, ds, _, s5.gh, Bs.stab.step hB4 s5, by omega, rfl, fun xs v H' G' s hb hl hx hv => q v H' G' (s5.m.trans s) ⟨xs, hl, hx, hv, hb⟩⟩⟩) fun v5 H5 G5 s5 t5 ⟨xs, hxl, hx, hv5, hB5⟩ => ?_
  exact s_ret (ev_lstH (rs := [rNat p, rNat m, rL (rL rNat) fam, rL rNat votes, rInts xs]) (ea_cons (ev_var rfl rfl) (ea_cons (ev_var rfl rfl) (ea_cons (ev_var rfl (Mo.mo s5.gg hv3')) (ea_cons (ev_var rfl (Mo.mo s5.gg hv4)) (ea_cons (ev_var rfl hv5) ea_nil))))) (by simp)) t5.gh fun v H6 G6 s6 hv => k p m fam votes xs v H6 G6 (t5.then s6) ⟨hpr, hm1, hm4, hf, hfl, hvl, hvp, hxl, hx⟩ hv
end
end Vc
namespace Vc
open PySem PySem.Spec PyProof.Rows L2 Vm TL
section
variable {P : Program} {w : World} {K : PySem.W.Frag} {mg : Str → Option Value} {base : Heap}
theorem ev_callN {σ : L2.St} {G : Hp} {t tk : TA} {rs1 rs2 : List Rp} {r : Rp} {sp : Sp} {E : XK} {n m : Nat} [MoL rs1] (h1 : EvA t σ G rs1) (h2 : EvA tk σ G rs2) [MoL rs2] (l1 : rs1.length = n) (l2 : rs2.length = m) (hsp : ∀ vs H Q, spOf (rs1 ++ rs2) r vs H Q E → sp vs H Q E) : Ev (tCallN n m sp (fun vs zs => vs ++ zs) E t tk) σ G r := fun H x Q q =>
  h1 H x _ fun vs H1 G1 s1 p1 => h2.mono s1.gg H1 s1.gh _ fun zs H2 G2 s2 p2 => by
    refine ⟨by rw [← l1]; exact paired_len p1, by rw [← l2]; exact paired_len p2, hsp _ H2 Q ⟨G2, s2.gh, paired_app (p1.mono s2.gg) p2, fun v H3 G3 s3 h3 => q v H3 G3 ((s1.trans s2).trans s3) h3⟩⟩
theorem q_lstA {σ : L2.St} {H G : Hp} {al : TA} {rs : List Rp} {i : Nat} {D : Ends} {tz : TS} (h : EvA al σ G rs) (e : Ex G H) (hl : rs.length ≤ 1000) (k : ∀ p vs H1 G1, H1 p = none → Step H G H1 G1 → Pr rs G1 vs → tz D (σ.set i (some (.ref p))) (upd H1 p (.lst vs))) : tSeq (tAsg (tLst al) (gName i)) tz D σ H :=
  h H e _ fun vs H1 G1 s1 h1 => ⟨by rw [paired_len h1]; exact Nat.le_trans hl (by decide), fun p hp => k p vs H1 G1 hp s1 h1⟩
abbrev dN (ns : List Nat) : PyData := .list ((ns.map Int.ofNat).map PyData.int)
abbrev dF (fam : List (List Nat)) : PyData := .list ((fam.map fun l => l.map Int.ofNat).map fun ns => .list (ns.map PyData.int))
theorem dp_nat {K : PySem.W.Frag} {G H : Hp} {v : V} {ns : List Nat} (e : Ex G H) (h : rL rNat ns G v) : Dp K H v (dN ns) := dp_ints e (rL_nat_int h)
theorem dp_fam {K : PySem.W.Frag} {G H : Hp} {v : V} {fam : List (List Nat)} (e : Ex G H) (h : rL (rL rNat) fam G v) : Dp K H v (dF fam) := dp_rows e (rLL_nat_int h)
/-! law -/
def spLaw (K : PySem.W.Frag) : Sp := fun vs H Q E => ∃ (ns : List Int), spOfT K [rScr K ns] (rBl true) vs H Q E
theorem sc_law : FnScope ["_law_script", "_law_box", "_law_world_here", "_law_numbers_here", "_law_sheet", "_law_rows", "_law_coins", "_law_record", "_law_due", "_law_actual", "_law_number", "_law_option", "_law_k", "_law_vote"] ["_law_script"] (defScope s_law) := ⟨rfl, rfl, rfl, by decide +kernel, rfl, by decide +kernel, by decide +kernel⟩
theorem ok_law (T : Tx K mg) (TB : TBs K mg base) {fd : FuncData} (F : FunD K "law" "law" (defArgs s_law) (defBody s_law) (defScope s_law) [] [] (He.ga K "law") fd) : FnOk P w K mg base CX0 8 (He.ga K "law") fd ["_law_script"] (spLaw K) := by
  have c_law_digits := ok_law_digits (P := P) (w := w) (base := base) T
  have c_law_world := ok_law_world (P := P) (w := w) (base := base) T
  have c_coins_of := ok_coins_of (P := P) (w := w) (base := base) T
  have c_counts := ok_counts (P := P) (w := w) (base := base) T
  have c_faults := ok_faults (P := P) (w := w) (base := base) T
  have c_leaders := ok_leaders (P := P) (w := w) (base := base) T
  have c_read_sheet := ok_read_sheet (P := P) (w := w) T TB
  have c_run := ok_run (P := P) (w := w) (base := base) T
  have c_write_sheet := ok_write_sheet (P := P) (w := w) (base := base) T
  have c_Sheet := ok_Sheet (P := P) (w := w) (base := base) T
  refine F.ok sc_law (fun vs H Q E ⟨_, _, _, _, h, _⟩ => (paired_len h).trans rfl) fun cdv A outer s H vs Q E hr h => ?_
  suffices h' : ∃ t, PSs (cxOf CX0 P w K mg base ["_law_script", "_law_box", "_law_world_here", "_law_numbers_here", "_law_sheet", "_law_rows", "_law_coins", "_law_record", "_law_due", "_law_actual", "_law_number", "_law_option", "_law_k", "_law_vote"] "law" (defScope s_law) (He.ga K "law") cdv A outer s H E).nox (defBody s_law) t ∧ t { nx := fun _ H' => Q .non H', rt := Q } (start ["_law_script", "_law_box", "_law_world_here", "_law_numbers_here", "_law_sheet", "_law_rows", "_law_coins", "_law_record", "_law_due", "_law_actual", "_law_number", "_law_option", "_law_k", "_law_vote"] vs) H by
    obtain ⟨t, p, q⟩ := h'
    exact ⟨t, p.nox, q⟩
  refine ⟨_, (pss_cons (ps_set (i := 1) sc_law.nd rfl (Or.inl rfl) (pe_lst (pa_cons (pe_cal c_law_digits hr rfl (pa_cons (pv 0) (pa_cons pe_int (pa_cons pe_int pa_nil)))) (pa_cons pe_int pa_nil))))
        (pss_cons (ps_set (i := 2) sc_law.nd rfl (Or.inr rfl) (pe_cal c_law_world hr rfl (pa_cons (pv 1) pa_nil)))
        (pss_cons (ps_setLc (i := 3) (own := [("_law_number", 10)]) (g := gName 10) (tt := tYes) rfl sc_law.nd rfl rfl (sw_true rfl rfl rfl (by decide +kernel)) (itL K (pe_ix (ixl K) (pv 2) pe_int (fun _ _ => rfl))) (blkOk_by (N := ["_law_script", "_law_box", "_law_world_here", "_law_numbers_here", "_law_sheet", "_law_rows", "_law_coins", "_law_record", "_law_due", "_law_actual", "_law_number", "_law_option", "_law_k", "_law_vote"]) (sc := defScope s_law) (by decide +kernel)) (fun _ _ _ _ _ => pg_name (i := 10) sc_law.nd rfl (Or.inl rfl)) (fun _ _ _ _ _ => pts_nil) (fun _ _ _ _ _ => (pe_callB call_abs (by rfl) T.fabs (by decide +kernel) (pa_cons (pv 10) pa_nil))))
        (pss_cons (ps_set (i := 4) sc_law.nd rfl (Or.inl rfl) (pe_cal c_read_sheet hr rfl (pa_cons (pe_cal c_write_sheet hr rfl (pa_cons (pe_mk c_Sheet hr rfl (pa_cons (pe_ix (ixl K) (pv 2) pe_int (fun _ _ => rfl)) (pa_cons (pe_ix (ixl K) (pv 2) pe_int (fun _ _ => rfl)) (pa_cons (pe_ix (ixl K) (pv 2) pe_int (fun _ _ => rfl)) (pa_cons (pe_ix (ixl K) (pv 2) pe_int (fun _ _ => rfl)) (pa_cons (pv 3) pa_nil)))))) pa_nil)) pa_nil)))
        (pss_cons (ps_if (PW.pt (pw_or (pt_cmpR (opNeD K hr) (fldK K (pv 4) rfl) (pe_ix (ixl K) (pv 2) pe_int (fun _ _ => rfl)) (nomark _)) (pw_or (pt_cmpR (opNeD K hr) (fldK K (pv 4) rfl) (pe_ix (ixl K) (pv 2) pe_int (fun _ _ => rfl)) (nomark _)) (pw_or1 (pt_cmpR (opNeD K hr) (fldK K (pv 4) rfl) (pv 3) (nomark _)))))) (pss_one (ps_ret pe_bl)) pss_nil)
        (pss_cons (ps_set (i := 5) sc_law.nd rfl (Or.inl rfl) (pe_callB (cLen K) (by rfl) T.flen PySem.boot_len (pa_cons (fldK K (pv 4) rfl) pa_nil)))
        (pss_cons (ps_set (i := 6) sc_law.nd rfl (Or.inl rfl) (pe_kcal c_coins_of hr rfl (pa_cons (fldK K (pv 4) rfl) pa_nil) (pk_cons (fldK K (pv 4) rfl) (pk_cons (fldK K (pv 4) rfl) (pk_cons (fldK K (pv 4) rfl) (pk_cons (pv 5) pk_nil))))))
        (pss_cons (ps_set (i := 7) sc_law.nd rfl (Or.inl rfl) (pe_cal c_run hr rfl (pa_cons (fldK K (pv 4) rfl) (pa_cons (fldK K (pv 4) rfl) (pa_cons (fldK K (pv 4) rfl) (pa_cons (fldK K (pv 4) rfl) (pa_cons (pv 6) pa_nil)))))))
        (pss_cons (ps_set (i := 8) sc_law.nd rfl (Or.inr rfl) (pe_lc (own := [("_law_option", 11)]) (g := gName 11) (tt := tYes) rfl sc_law.nd (pi_range1 rfl T.frange (pa_cons (pe_callB (call_min2 rfl) (by rfl) T.fmin (by decide +kernel) (pa_cons (pe_ix (ixl K) (pv 2) pe_int (fun _ _ => rfl)) (pa_cons pe_int pa_nil))) pa_nil)) (blkOk_by (N := ["_law_script", "_law_box", "_law_world_here", "_law_numbers_here", "_law_sheet", "_law_rows", "_law_coins", "_law_record", "_law_due", "_law_actual", "_law_number", "_law_option", "_law_k", "_law_vote"]) (sc := defScope s_law) (by decide +kernel)) (fun _ _ _ _ _ => pg_name (i := 11) sc_law.nd rfl (Or.inr rfl)) (fun _ _ _ _ _ => pts_nil) (fun _ _ _ _ _ => (pe_callB (cLen K) (by rfl) T.flen PySem.boot_len (pa_cons (pe_lc (own := [("_law_vote", 13)]) (g := gName 13) rfl sc_law.nd (itL K (pe_ix (ixl K) (pv 2) pe_int (fun _ _ => rfl))) (blkOk_by (by rfl)) (fun _ _ _ _ _ => pg_name (i := 13) sc_law.nd rfl (Or.inl rfl)) (fun _ _ _ _ _ => pts_one (pt_cmpR op_eq (pv 13) (pv 11) (nomark _))) (fun _ _ _ _ _ => (pv 13))) pa_nil)))))
        (pss_cons (ps_set (i := 9) sc_law.nd rfl (Or.inl rfl) (pe_cal c_counts hr rfl (pa_cons (fldK K (pv 7) rfl) (pa_cons (pe_callB (call_min2 rfl) (by rfl) T.fmin (by decide +kernel) (pa_cons (pe_ix (ixl K) (pv 2) pe_int (fun _ _ => rfl)) (pa_cons pe_int pa_nil))) pa_nil))))
        (pss_cons (ps_if (PW.pt (pw_or (pt_cmpR (opNeD K hr) (pv 9) (pv 8) (nomark _)) (pw_or (pt_cmpR (opNeD K hr) (pe_cal c_faults hr rfl (pa_cons (pv 7) pa_nil)) (pe_lst pa_nil) (nomark _)) (pw_or1 (pt_cmpR op_ne (pe_callB (cLen K) (by rfl) T.flen PySem.boot_len (pa_cons (fldK K (pv 7) rfl) pa_nil)) (pv 5) (nomark _)))))) (pss_one (ps_ret pe_bl)) pss_nil)
        (pss_one (ps_ret (pe_cmpR (opEqD K hr) (pe_cal c_leaders hr rfl (pa_cons (pv 9) pa_nil)) (pe_lc (own := [("_law_k", 12)]) (g := gName 12) rfl sc_law.nd (pi_range1 rfl T.frange (pa_cons (pe_callB (cLen K) (by rfl) T.flen PySem.boot_len (pa_cons (pv 8) pa_nil)) pa_nil)) (blkOk_by (N := ["_law_script", "_law_box", "_law_world_here", "_law_numbers_here", "_law_sheet", "_law_rows", "_law_coins", "_law_record", "_law_due", "_law_actual", "_law_number", "_law_option", "_law_k", "_law_vote"]) (sc := defScope s_law) (by decide +kernel)) (fun _ _ _ _ _ => pg_name (i := 12) sc_law.nd rfl (Or.inl rfl)) (fun _ _ _ _ _ => pts_one (pt_cmpR op_eq (pe_ix (ixl K) (pv 8) (pv 12) (fun _ _ => rfl)) (pe_callB (cMax K rfl) (by rfl) T.fmax (by decide +kernel) (pa_cons (pv 8) pa_nil)) (nomark _))) (fun _ _ _ _ _ => (pv 12))) (nomark _))))))))))))))), ?_⟩
  obtain ⟨ns, G, ht, e, ha, k⟩ := h
  obtain ⟨u, rfl, hu⟩ := pr_one ha
  refine q_lstA (rs := [rE (fun _ : List Int => True) rInts, rInt 0]) (ea_cons (ev_call (ea_cons (ev_var (r := rScr K ns) rfl hu) (ea_cons (ev_n 0) (ea_cons (ev_n 63) ea_nil))) fun vs H Q h => ⟨ns, 0, 63, by decide, by decide, h⟩) (ea_cons ev_i ea_nil)) e (by simp) fun b vs1 H1 G1 hb s1 hp1 => ?_
  obtain ⟨d, _, rfl, ⟨ds, _, hd⟩, rfl⟩ := pr_two hp1
  have hb0 : H b = none := s1.fresh hb
  have t1 := s1.mut (o := .lst [d, .int 0]) hb0 (s1.gh.dom hb)
  have hB1 : Bs b ds (upd H1 b (.lst [d, .int 0])) G1 := ⟨0, d, upd_same, s1.gh.dom hb, hd⟩
  refine q_setO (x := b) (po := fun v H' G' => ∃ (p m : Nat) (fam : List (List Nat)) (votes : List Nat) (xs : List Int), WorldOk p m fam votes xs ∧ rH [rNat p, rNat m, rL (rL rNat) fam, rL rNat votes, rInts xs] G' v) t1 hb0 (fun Q q => ⟨.ref b, rfl, G1, b, ds, t1.gh, hB1, rfl, fun p m fam votes xs v H' G' s hw hv => q v H' G' s ⟨p, m, fam, votes, xs, hw, hv⟩⟩) fun v2 H2 G2 _ t2 ⟨p, m, fam, votes, xs, W, hv2⟩ => ?_
  have hm1 := W.m1
  have hm4 := W.m4
  have hvl := W.vl
  have hfl := W.fl
  have hplo := W.pr.lo
  have hphi := W.pr.hi
  have sm : Sm m votes.length := ⟨hm1, hm4, hvl⟩
  have hsz := szF_le sm fam
  have hxl := W.xl
  have ix : ∀ {σ : L2.St} {G : Hp} {r : Rp} (n : Nat) {i : Int}, σ[2]? = some (some v2) → rH [rNat p, rNat m, rL (rL rNat) fam, rL rNat votes, rInts xs] G v2 → i = (n : Int) → [rNat p, rNat m, rL (rL rNat) fam, rL rNat votes, rInts xs][n]? = some r → Ev (tOp (rIxL K) (tVar 2) (tC (.int i))) σ G r := by
    intro σ G r n i h1 h2 h3 h4
    exact ev_ixH (rs := [rNat p, rNat m, rL (rL rNat) fam, rL rNat votes, rInts xs]) (n := n) (ev_var h1 h2) (ev_i (i := i)) h3 h4
  refine q_set (r := rL rNat (xs.map Int.natAbs)) (ev_lc1 (r := rNat) (r0 := rInt) Int.natAbs (wk_list (r := rInt) (ys := xs) (ix 4 rfl hv2 rfl rfl)) (by omega) (fun _ => rfl) fun x v G' hx e' hv => ev_abs (ev_var rfl hv)) t2.gh fun v3 H3 G3 s3 hv3 => ?_
  have t3 := t2.trans s3
  have hv2a := Mo.mo s3.gg hv2
  generalize hnb : xs.map Int.natAbs = nb at *
  have hnl : nb.length = szF m fam votes.length := by rw [← hnb, List.length_map, hxl]
  have hnb9 : ∀ n ∈ nb, n < 10 ^ 9 := fun n hn => by
    rw [← hnb] at hn
    obtain ⟨x, hx, rfl⟩ := List.mem_map.mp hn
    obtain ⟨h1, h2⟩ := W.x x hx
    omega
  have hpath : Path (-1) (linesL p m fam votes nb) := path_lines (by omega) (by omega) (fun l hl => by
      have hlo := W.f.lot l hl
      have hll := lot_len hlo
      refine ⟨by decide, fun z => by omega, fun _ i hi => ?_, by omega, fun n hn => by have := hlo.2 n hn; omega⟩
      refine ⟨l[i], l[i + 1], List.getElem?_eq_getElem (by omega), List.getElem?_eq_getElem hi, ?_⟩
      exact List.pairwise_iff_getElem.mp hlo.1 i (i + 1) (by omega) hi (by omega)) (fun v hv => by have := W.vp v hv; omega) ⟨by decide, fun z => by omega, fun z => by omega, by omega, hnb9⟩
  refine q_set (r := rSh K p m fam votes nb) (ev_callT (ht.ex t3.gg) (ea_cons (ev_call (r := rStr (sheetS (linesL p m fam votes nb))) (ea_cons (EvO.ev (evO_ini (fsR := rShf p m fam votes nb) (ea_cons (ix 0 rfl hv2a rfl rfl) (ea_cons (ix 1 rfl hv2a rfl rfl) (ea_cons (ix 2 rfl hv2a rfl rfl) (ea_cons (ix 3 rfl hv2a rfl rfl) (ea_cons (ev_var rfl hv3) ea_nil))))) fun vs H Q h => ⟨p, m, fam, votes, nb, by omega, h⟩)) ea_nil) fun vs H Q h => ⟨p, m, fam, votes, nb, hpath, by omega, by omega, h⟩) ea_nil)
    fun vs H Q h => ⟨p, m, fam, votes, nb, hpath, by omega, by omega, h⟩) t3.gh fun v4 H4 G4 s4 hv4 => ?_
  have t4 := t3.trans s4
  have hv2b := Mo.mo s4.gg hv2a
  have hv3b := Mo.mo s4.gg hv3
  refine q_if (b := false) (et_or (a := false) (b := false) (et_test (ev_neD (r1 := rL (rL rNat) fam) (r2 := rL (rL rNat) fam) (d := dF fam) (ev_fld (ev_var rfl hv4) T.c_Sheet T.n_Sheet_family (look_ns nsSh 2 rfl)) (ix 2 rfl hv2b rfl rfl) (fun _ _ _ => dp_fam) (fun _ _ _ => dp_fam) (shaped_rows _))) fun _ => et_or (a := false) (b := false) (et_test (ev_neD (r1 := rL rNat votes) (r2 := rL rNat votes) (d := dN votes) (ev_fld (ev_var rfl hv4) T.c_Sheet T.n_Sheet_votes (look_ns nsSh 3 rfl)) (ix 3 rfl hv2b rfl rfl) (fun _ _ _ => dp_nat) (fun _ _ _ => dp_nat) (shaped_ints _)))
    fun _ => et_test (ev_neD (r1 := rL rNat nb) (r2 := rL rNat nb) (d := dN nb) (ev_fld (ev_var rfl hv4) T.c_Sheet T.n_Sheet_numbers (look_ns nsSh 4 rfl)) (ev_var rfl hv3b) (fun _ _ _ => dp_nat) (fun _ _ _ => dp_nat) (shaped_ints _))) s4.gh (fun z => by cases z) fun _ H5 G5 s5 => ?_
  have t5 := t4.trans s5
  have hv4a := Mo.mo s5.gg hv4
  refine q_set (r := rNat votes.length) (ev_len (r := rNat) (ev_fld (ev_var rfl hv4a) T.c_Sheet T.n_Sheet_votes (look_ns nsSh 3 rfl))) s5.gh fun v6 H6 G6 s6 hv6 => ?_
  cases hv6
  have t6 := t5.trans s6
  have hv4b := Mo.mo s6.gg hv4a
  have nints : ∀ {l : List Nat} (G : Hp) (v : V), rL rNat l G v → rInts (l.map Int.ofNat) G v := fun _ _ h => rL_nat_int h
  refine q_set (r := rE (CoOk m votes.length fam) (rRC K)) (ev_callN (rs1 := [rInts (nb.map Int.ofNat)]) (rs2 := [rNat p, rNat m, rL (rL rNat) fam, rNat votes.length]) (ea_cons ((ev_fld (r := rL rNat nb) (ev_var rfl hv4b) T.c_Sheet T.n_Sheet_numbers (look_ns nsSh 4 rfl)).is fun G v _ h => nints G v h) ea_nil)
    (ea_cons (ev_fld (ev_var rfl hv4b) T.c_Sheet T.n_Sheet_prime (look_ns nsSh 0 rfl)) (ea_cons (ev_fld (ev_var rfl hv4b) T.c_Sheet T.n_Sheet_mixers (look_ns nsSh 1 rfl)) (ea_cons (ev_fld (ev_var rfl hv4b) T.c_Sheet T.n_Sheet_family (look_ns nsSh 2 rfl)) (ea_cons (ev_var rfl rfl) ea_nil)))) rfl rfl fun vs H Q h => ⟨nb.map Int.ofNat, p, m, fam, votes.length, by omega, sm, W.f, by omega, by rw [List.length_map, hnl], h⟩) s6.gh fun v7 H7 G7 s7 ⟨c, hc, hv7⟩ => ?_
  have t7 := t6.trans s7
  have hv4c := Mo.mo s7.gg hv4b
  generalize hvi : votes.map Int.ofNat = vi
  have hvil : vi.length = votes.length := by rw [← hvi, List.length_map]
  have hvip : ∀ v ∈ vi, 0 ≤ v ∧ v < (p : Int) := fun v hv => by
    rw [← hvi] at hv
    obtain ⟨n, hn, rfl⟩ := List.mem_map.mp hv
    have := W.vp n hn
    exact ⟨Int.natCast_nonneg n, by show (n : Int) < p; omega⟩
  refine q_set (ev_call (rs := [rNat p, rNat m, rL (rL rNat) fam, rInts vi, rRC K c]) (r := rRR K p m fam (freshF p vi c.votes) (stagesF p m (freshF p vi c.votes) fam c.stages) (vals p (openF p m fam vi c))) (ea_cons (ev_fld (ev_var rfl hv4c) T.c_Sheet T.n_Sheet_prime (look_ns nsSh 0 rfl)) (ea_cons (ev_fld (ev_var rfl hv4c) T.c_Sheet T.n_Sheet_mixers (look_ns nsSh 1 rfl)) (ea_cons (ev_fld (ev_var rfl hv4c) T.c_Sheet T.n_Sheet_family (look_ns nsSh 2 rfl))
    (ea_cons ((ev_fld (r := rL rNat votes) (ev_var rfl hv4c) T.c_Sheet T.n_Sheet_votes (look_ns nsSh 3 rfl)).is fun G v _ h => by rw [← hvi]; exact nints G v h) (ea_cons (ev_var rfl hv7) ea_nil))))) fun vs H Q h => ⟨p, m, votes.length, fam, vi, c, W.pr, sm, W.f, by omega, hvil, hvip, hc, h⟩) s7.gh fun v8 H8 G8 s8 hv8 => ?_
  have t8 := t7.trans s8
  have hperm : (vals p (openF p m fam vi c)).Perm vi := opened_perm hm1 (by rw [hvil]; exact hc.1) (fun v hv => Int.emod_eq_of_lt (hvip v hv).1 (hvip v hv).2) (by rw [hvil]; exact hc.2)
  have hfr : Rect (freshF p vi c.votes) votes.length m := by
    have := fresh_rect (p := p) (m := m) (votes := vi) (coins := c.votes) (by rw [hvil]; exact hc.1) hm1
    rw [hvil] at this
    exact this
  have hch := chain_ok (p := p) hm1 hc.2 hfr
  have hsl : (stagesF (p : Int) m (freshF p vi c.votes) fam c.stages).length ≤ 1000 := by
    rw [stagesF_len hc.2.len, ← hc.2.len]
    omega
  have hop : openF p m fam vi c = lastF (freshF p vi c.votes) (stagesF p m (freshF p vi c.votes) fam c.stages) := rfl
  generalize hov : vals p (openF p m fam vi c) = ov at *
  have hol : ov.length = votes.length := by rw [hperm.length_eq, hvil]
  have hv2c := Mo.mo ((s5.gg.trans s6.gg).trans (s7.gg.trans s8.gg)) hv2b
  have hk2 : 2 ≤ min p 30 := by omega
  have hk30 : min p 30 ≤ 30 := Nat.min_le_right _ _
  generalize hkk : min p 30 = kk at *
  have emin : ∀ {σ : L2.St} {G : Hp}, σ[2]? = some (some v2) → rH [rNat p, rNat m, rL (rL rNat) fam, rL rNat votes, rInts xs] G v2 → Ev (tCB (fun xs H Q => ∃ i j : Int, xs = [.int i, .int j] ∧ Q (.int (if j < i then j else i)) H) (tCons (tOp (rIxL K) (tVar 2) (tC (.int 0))) (tCons (tC (.int 30)) tNil))) σ G (rNat kk) := fun h1 h2 => by
    rw [← hkk]
    exact ev_min (ix 0 h1 h2 rfl rfl) (ev_n 30)
  refine q_set (r := rL rNat (cntF vi kk)) (ev_lc1 (r := rNat) (r0 := rNat) (fun x => cnt vi x) (wk_rng1 (n := kk) (emin rfl hv2c) (by omega)) (by rw [List.length_range]; omega) (fun _ => rfl) fun x v G' hx e' hv => by
    cases hv
    rw [← hvi, ← cnt_ofNat]
    exact ev_len (r := rNat) (ev_flt1 (r := rNat) (r0 := rNat) (fun v => decide (v = x)) (wk_list (r := rNat) (ys := votes) (ix 3 rfl (Mo.mo e' hv2c) rfl rfl)) (by omega) (fun _ => rfl) (fun y v G2 hy e2 hv => (et_test (ev_eq (x := .int (y : Int)) (y := .int (x : Int)) (ev_var rfl hv) (ev_var rfl rfl) rfl)).is (decide_eq_decide.mpr ⟨fun z => by have := V.int.inj z; omega, fun z => by rw [z]⟩)) fun y v G2 hy hb e2 hv => ev_var rfl hv)) s8.gh fun v9 H9 G9 s9 hv9 => ?_
  have t9 := t8.trans s9
  have hv2d := Mo.mo s9.gg hv2c
  have hv8a := Mo.mo s9.gg hv8
  have hcnt : cntF ov kk = cntF vi kk := by
    unfold cntF
    exact List.map_congr_left fun x _ => cnt_perm hperm x
  refine q_set (r := rL rNat (cntF vi kk)) (ev_call (rs := [rInts ov, rNat kk]) (ea_cons (ev_fld (ev_var rfl hv8a) T.c_RunRecord T.n_RunRecord_opened (look_ns nsRR 5 rfl)) (ea_cons (emin rfl hv2d) ea_nil)) fun vs H Q h => ⟨ov, kk, by omega, by omega, fun v hv => (hvip v (hperm.mem_iff.mp hv)).1, by rw [hcnt]; exact h⟩) s9.gh fun va Ha Ga sa hva => ?_
  have ta := t9.trans sa
  have hv8b := Mo.mo sa.gg hv8a
  have hv9a := Mo.mo sa.gg hv9
  refine q_if (b := false) (et_or (a := false) (b := false) (et_test (ev_neD (r1 := rL rNat (cntF vi kk)) (r2 := rL rNat (cntF vi kk)) (d := dN (cntF vi kk)) (ev_var rfl hva) (ev_var rfl hv9a) (fun _ _ _ => dp_nat) (fun _ _ _ => dp_nat) (shaped_ints _))) fun _ => et_or (a := false) (b := false) (et_test (ev_neD (r1 := rL rNat []) (r2 := rL rNat []) (d := dN []) (ev_call (ea_cons (ev_var rfl hv8b) ea_nil) fun vs H Q h => ⟨p, m, votes.length, fam, _, _, ov, by omega, by omega, by omega, hsl, hch, by rw [← hov, hop], h⟩) (ev_lst (r := rNat) (xs := []) ea_nil (by simp)) (fun _ _ _ => dp_nat) (fun _ _ _ => dp_nat) (shaped_ints _)))
    fun _ => (et_test (ev_ne (x := .int (votes.length : Int)) (y := .int (votes.length : Int)) ((ev_len (r := rInt) (ev_fld (r := rInts ov) (ev_var rfl hv8b) T.c_RunRecord T.n_RunRecord_opened (look_ns nsRR 5 rfl))).is fun _ _ _ z => by rw [hol] at z; exact z) (ev_var rfl rfl) rfl)).is (by simp)) sa.gh (fun z => by cases z) fun _ Hb Gb sb => ?_
  have tb' := ta.trans sb
  have hvb := Mo.mo sb.gg hva
  have hv9b := Mo.mo sb.gg hv9a
  have hcl := cntF_len vi kk
  generalize hdue : cntF vi kk = due at *
  obtain ⟨mx, hmem, hmax⟩ := exists_max (due.map Int.ofNat) (fun z => by
    have := congrArg List.length z
    rw [List.length_map, hcl] at this
    simp at this
    omega)
  have hleq : (due.map Int.ofNat).length = due.length := List.length_map _
  refine s_ret (r := rBl true) (ev_eqD (r1 := rL rNat ((List.range due.length).filter fun i => decide ((due.map Int.ofNat).getD i 0 = mx))) (r2 := rL rNat ((List.range due.length).filter fun i => decide ((due.map Int.ofNat).getD i 0 = mx))) (d := dN ((List.range due.length).filter fun i => decide ((due.map Int.ofNat).getD i 0 = mx)))
    (ev_call (rs := [rInts (due.map Int.ofNat)]) (ea_cons (ev_var rfl (nints _ _ hvb)) ea_nil) fun vs H Q h => ⟨due.map Int.ofNat, mx, by rw [hleq]; omega, hmem, hmax, by rw [hleq]; exact h⟩)
    (ev_flt1 (r := rNat) (r0 := rNat) (fun i => decide ((due.map Int.ofNat).getD i 0 = mx)) (wk_rng1 (n := due.length) (ev_len (r := rNat) (ev_var rfl hv9b)) (by omega)) (by rw [List.length_range]; omega) (fun _ => rfl)
      (fun y v G' hy e' hv => (et_test (ev_eq (x := .int ((due.map Int.ofNat).getD y 0)) (y := .int mx) (ev_ix (r := rInt) (xs := due.map Int.ofNat) (n := y) (ev_var rfl (nints _ _ (Mo.mo e' hv9b))) (ev_var rfl hv) rfl (get_of_lt 0 (by rw [hleq]; exact List.mem_range.mp hy))) (ev_max (ns := due.map Int.ofNat) (ev_var rfl (nints _ _ (Mo.mo e' hv9b))) hmem hmax) rfl)).is (decide_eq_decide.mpr ⟨fun z => V.int.inj z, fun z => by rw [z]⟩)) fun y v G' hy hb e' hv => ev_var rfl hv)
    (fun _ _ _ => dp_nat) (fun _ _ _ => dp_nat) (shaped_ints _)) sb.gh fun v Hc Gc sc hv => k v Hc Gc (tb'.trans sc) hv
end
end Vc
namespace Vc
open PySem PySem.Spec PyProof.Rows L2 Vm
abbrev tabs (K : PySem.W.Frag) : List (Addr × Addr) := tf.map (He.cT K)
theorem facts {w : World} {K : PySem.W.Frag} {h : Heap} {mg : Str → Option Value} {f : Addr} (X : K.In h) (G : h.Ns mainGlobals mg) (hfa : mg ("law" : Str) = some (.ref f)) (c : He.SaysX fa fn [] tf ex w h K) :
    LamX.LawAtS PySem.Challenge.rw_veilcount_k25_whole_elections_from_sheet w K L2.CX0 8 63 "_law_script" mg f h := by
  have T : Tx K mg := ⟨⟨h, X, G⟩, c.t.d, c.more⟩
  obtain ⟨⟨fd, F, _⟩, hg⟩ := T.k_law
  have ef := hfa.symm.trans hg
  cases ef
  refine ⟨fd, tabs K, spLaw K, ?_, ?_, ?_, ?_, ?_, ?_⟩
  · intro p hp
    obtain ⟨q, hq, rfl⟩ := List.mem_map.mp hp
    exact c.empty q hq
  · intro p hp
    obtain ⟨q, hq, rfl⟩ := List.mem_map.mp hp
    exact c.out q hq
  · intro p hp
    obtain ⟨q, hq, rfl⟩ := List.mem_map.mp hp
    exact PySem.W.codeHd_of_K X (c.hd q hq)
  · intro s u
    exact FunD.bindsA (ps := ["_law_script"]) F (fun _ _ _ _ _ _ us hl => match us, hl with | [_], _ => rfl) s [u] rfl
  · intro H a ns hl _ hT hS
    have tg : ∀ x : Str, (x, none) ∈ tf → GxR.TabG H (tb K x) := fun x hx => ⟨#[], hT (He.cT K (x, none)) (List.mem_map.mpr ⟨_, hx, rfl⟩), trivial⟩
    refine ⟨ns, H, ⟨tg _ (List.mem_cons_self), tg _ (List.mem_cons_of_mem _ List.mem_cons_self), tg _ (List.mem_cons_of_mem _ (List.mem_cons_of_mem _ List.mem_cons_self))⟩, Ex.refl H, .cons ⟨a, rfl, hS⟩ .nil, fun v H' G' _ hv => hv⟩
  · intro base KX hns hTB
    have tbs : ∀ x : Str, (x, none) ∈ tf → GxR.TabB base mg (cO K x) (tb K x) := fun x hx => by
      obtain ⟨h1, h2, h3⟩ := hTB (He.cT K (x, none)) (List.mem_map.mpr ⟨_, hx, rfl⟩)
      exact ⟨h1, h2, h3⟩
    have TB : TBs K mg base := ⟨tbs _ (List.mem_cons_self), tbs _ (List.mem_cons_of_mem _ List.mem_cons_self), tbs _ (List.mem_cons_of_mem _ (List.mem_cons_of_mem _ List.mem_cons_self))⟩
    exact ok_law T TB F
end Vc
set_option maxHeartbeats 0
open PySem PySem.W PySem.Calls PyProof.Rows
theorem PySem.Challenge.cw_veilcount_k25_whole_elections_from_sheet_holds : PySem.Challenge.rw_veilcount_k25_whole_elections_from_sheet.Holds := by
  w_on; o_law
  refine HandSHeadRun.head_any (r := OpenLaw.row PySem.Challenge.rw_veilcount_k25_whole_elections_from_sheet) (q := view (OpenLaw.row PySem.Challenge.rw_veilcount_k25_whole_elections_from_sheet).prog [Vc.lawAt]) (H := Vc.hk) (ob := Vc.ob) (M := 6000) (loose := Vc.looseN) (d := HandSHeadRun.topDef (OpenLaw.row PySem.Challenge.rw_veilcount_k25_whole_elections_from_sheet).prog Vc.lawAt) (kwd := []) Vc.ob_eq
    (by kernel_rfl) (fun s => by kernel_rfl) Vc.run (by kernel_rfl) (by kernel_rfl) (by kernel_rfl) (by rfl) (by first | assumption | decide +kernel) (by decide +kernel) ⟨rfl, rfl, rfl, rfl, rfl, by decide +kernel⟩ ?hw ?hc
  case hw => w_witness2
  case hc =>
    refine LamX.walk_ofTsE (l := PySem.Challenge.rw_veilcount_k25_whole_elections_from_sheet) (n := 63) (k := 8) (x := "_law_script") (CX := fun _ => L2.CX0) rfl (by decide) (by kernel_rfl) ⟨rfl, by decide, by decide⟩ ?F (fun _ _ _ _ _ z => z)
    intro w mg fa h Y G hmg0
    obtain ⟨K, KX, c⟩ := Y
    have hmg : mg ("law" : PySem.Str) = some (.ref fa) := by
      have e : (HandSHeadRun.topDef (OpenLaw.row PySem.Challenge.rw_veilcount_k25_whole_elections_from_sheet).prog Vc.lawAt).name = ("law" : PySem.Str) := by kernel_rfl
      rw [← e]
      exact hmg0
    exact ⟨K, KX, Vc.facts KX G hmg c⟩
