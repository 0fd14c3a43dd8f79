import PyProof.Rows.All
import Wide.All
import OpenK.AllK
import Wide.FinOn
import HandS.ForMost
import HandS.Defaults
import HandS.Exc
import HandS.EndBits
import HandS.Head0
import HandS.Head1
import HandS.Head2
import HandS.HeadEnd
import HandS.HeadHook1
import HandS.HeadHook2
import PySem.Challenge.RW_oneofall_k93_whole_chain
import HandS.IsInst
import HandS.StrMore
import HandS.Rev
import HandS.Conv
import HandS.Flow
import HandS.Style
import HandS.RevTup
import HandS.Walk
import KE.KDictList
import KE.GoesEnum
import KE.GoesMore
import PyProof.StrOps2
import PyProof.EnumMake
import HandS.ReplaceDef
import HandS.ReplaceLit
import KE.KRevSl
import HandS.Text
import PyProof.SliceStr2
import HandS.NoneIn
import HandS.SetFor
import HandS.Strs
import HandS.More
import HandS.Codes
import PyProof.Rows.StrCut
import PyProof.Rows.StrStrike
import HandS.WordsDict
import HandS.TupLen
set_option Elab.async false
set_option linter.all false
set_option maxRecDepth 100000
set_option maxHeartbeats 4000000
/-! The head: what the top leaves. -/
namespace My
open PySem PySem.Spec PyProof.Rows L2
set_option maxHeartbeats 0
def top (i : Nat) : Stmt := PySem.Challenge.pw_oneofall_k93_whole_chain.main.body.getD i (.Pass ⟨0, 0, 0, 0⟩)
abbrev st_counter_image : Stmt := top 5
abbrev st_lap_of : Stmt := top 6
abbrev st_copied : Stmt := top 7
abbrev st_up_rules : Stmt := top 8
abbrev st_down_rules : Stmt := top 9
abbrev st_make_rows : Stmt := top 10
abbrev st_counter_told : Stmt := top 11
abbrev st_row_image : Stmt := top 16
abbrev st_rules_for : Stmt := top 18
abbrev st_make_tape : Stmt := top 19
abbrev st_row_told : Stmt := top 20
abbrev st_is_value : Stmt := top 22
abbrev st_leaves : Stmt := top 23
abbrev st_is_done : Stmt := top 24
abbrev st_joint : Stmt := top 25
abbrev st_became : Stmt := top 26
abbrev st_opened : Stmt := top 27
abbrev st_one_up : Stmt := top 28
abbrev st_closed : Stmt := top 29
abbrev st_tree_run : Stmt := top 30
abbrev st_idle : Stmt := top 32
abbrev st_is_joint : Stmt := top 33
abbrev st_pick : Stmt := top 34
abbrev st_pick_cost : Stmt := top 35
abbrev st_picked : Stmt := top 36
abbrev st_folded : Stmt := top 37
abbrev st_is_cell : Stmt := top 38
abbrev st_unfolded : Stmt := top 39
abbrev st_list_of : Stmt := top 40
abbrev st_things_of : Stmt := top 41
abbrev st_pack : Stmt := top 42
abbrev st_end_of : Stmt := top 43
abbrev st_put_in : Stmt := top 45
abbrev st_parted : Stmt := top 46
abbrev st_taken_out : Stmt := top 47
abbrev st_made_of : Stmt := top 48
abbrev st_made_costs : Stmt := top 49
abbrev st_handed : Stmt := top 50
abbrev st_list_grown : Stmt := top 52
abbrev st_next_term : Stmt := top 53
abbrev st_end_names : Stmt := top 54
abbrev st_side_names : Stmt := top 55
abbrev st_bare_names : Stmt := top 56
abbrev st_cell_names : Stmt := top 57
abbrev st_chooser_names : Stmt := top 58
abbrev st_made_pair : Stmt := top 59
abbrev st_cost_of : Stmt := top 60
abbrev st_with_last : Stmt := top 61
abbrev st_state_tree : Stmt := top 63
abbrev st_sides_of : Stmt := top 64
abbrev st_tape_image : Stmt := top 65
abbrev st_next_cost : Stmt := top 66
abbrev st_tape_cost : Stmt := top 67
abbrev st_side_told : Stmt := top 68
abbrev st_stand_told : Stmt := top 69
abbrev st_state_told : Stmt := top 70
abbrev st_image_told : Stmt := top 71
abbrev st_end_told : Stmt := top 72
abbrev st_states_in : Stmt := top 75
abbrev st_chain_image : Stmt := top 77
abbrev st_chain_told : Stmt := top 78
abbrev st__law_cell : Stmt := top 80
abbrev st__law_whole : Stmt := top 81
abbrev st__law_program : Stmt := top 82
abbrev st__law_drawn_stand : Stmt := top 83
abbrev st__law_stepped : Stmt := top 84
abbrev st__law_row_image : Stmt := top 85
abbrev st__law_next : Stmt := top 86
abbrev st__law_many_steps : Stmt := top 87
abbrev st__law_tape_stands : Stmt := top 88
abbrev st__law_made_right : Stmt := top 89
abbrev st__law_gone : Stmt := top 90
abbrev st__law_goes : Stmt := top 91
abbrev st__law_ends : Stmt := top 92
abbrev st_law : Stmt := top 93
abbrev st_Between_init : Stmt := inClass (top 17) 0
abbrev st_Between_state_for : Stmt := inClass (top 17) 1
abbrev st_Book_init : Stmt := inClass (top 62) 0
abbrev st_Book_frame : Stmt := inClass (top 62) 1
abbrev st_Book_sign_tree : Stmt := inClass (top 62) 2
abbrev st_Book_state_pick : Stmt := inClass (top 62) 3
abbrev st_Book_thing : Stmt := inClass (top 62) 4
abbrev st_Book_seat : Stmt := inClass (top 62) 5
abbrev st_Chain_init : Stmt := inClass (top 76) 0
def d_counter_image : He.DefD := ⟨("counter_image", none), "counter_image", "counter_image", defArgs st_counter_image, defBody st_counter_image, defScope st_counter_image, [], []⟩
def d_lap_of : He.DefD := ⟨("lap_of", none), "lap_of", "lap_of", defArgs st_lap_of, defBody st_lap_of, defScope st_lap_of, [], []⟩
def d_copied : He.DefD := ⟨("copied", none), "copied", "copied", defArgs st_copied, defBody st_copied, defScope st_copied, [], []⟩
def d_up_rules : He.DefD := ⟨("up_rules", none), "up_rules", "up_rules", defArgs st_up_rules, defBody st_up_rules, defScope st_up_rules, [], []⟩
def d_down_rules : He.DefD := ⟨("down_rules", none), "down_rules", "down_rules", defArgs st_down_rules, defBody st_down_rules, defScope st_down_rules, [], []⟩
def d_make_rows : He.DefD := ⟨("make_rows", none), "make_rows", "make_rows", defArgs st_make_rows, defBody st_make_rows, defScope st_make_rows, [], []⟩
def d_counter_told : He.DefD := ⟨("counter_told", none), "counter_told", "counter_told", defArgs st_counter_told, defBody st_counter_told, defScope st_counter_told, [], []⟩
def d_row_image : He.DefD := ⟨("row_image", none), "row_image", "row_image", defArgs st_row_image, defBody st_row_image, defScope st_row_image, [.int 0], []⟩
def d_rules_for : He.DefD := ⟨("rules_for", none), "rules_for", "rules_for", defArgs st_rules_for, defBody st_rules_for, defScope st_rules_for, [], []⟩
def d_make_tape : He.DefD := ⟨("make_tape", none), "make_tape", "make_tape", defArgs st_make_tape, defBody st_make_tape, defScope st_make_tape, [], []⟩
def d_row_told : He.DefD := ⟨("row_told", none), "row_told", "row_told", defArgs st_row_told, defBody st_row_told, defScope st_row_told, [], []⟩
def d_is_value : He.DefD := ⟨("is_value", none), "is_value", "is_value", defArgs st_is_value, defBody st_is_value, defScope st_is_value, [], []⟩
def d_leaves : He.DefD := ⟨("leaves", none), "leaves", "leaves", defArgs st_leaves, defBody st_leaves, defScope st_leaves, [], []⟩
def d_is_done : He.DefD := ⟨("is_done", none), "is_done", "is_done", defArgs st_is_done, defBody st_is_done, defScope st_is_done, [], []⟩
def d_joint : He.DefD := ⟨("joint", none), "joint", "joint", defArgs st_joint, defBody st_joint, defScope st_joint, [], []⟩
def d_became : He.DefD := ⟨("became", none), "became", "became", defArgs st_became, defBody st_became, defScope st_became, [], []⟩
def d_opened : He.DefD := ⟨("opened", none), "opened", "opened", defArgs st_opened, defBody st_opened, defScope st_opened, [], []⟩
def d_one_up : He.DefD := ⟨("one_up", none), "one_up", "one_up", defArgs st_one_up, defBody st_one_up, defScope st_one_up, [], []⟩
def d_closed : He.DefD := ⟨("closed", none), "closed", "closed", defArgs st_closed, defBody st_closed, defScope st_closed, [], []⟩
def d_tree_run : He.DefD := ⟨("tree_run", none), "tree_run", "tree_run", defArgs st_tree_run, defBody st_tree_run, defScope st_tree_run, [.int 1000], []⟩
def d_idle : He.DefD := ⟨("idle", none), "idle", "idle", defArgs st_idle, defBody st_idle, defScope st_idle, [], []⟩
def d_is_joint : He.DefD := ⟨("is_joint", none), "is_joint", "is_joint", defArgs st_is_joint, defBody st_is_joint, defScope st_is_joint, [], []⟩
def d_pick : He.DefD := ⟨("pick", none), "pick", "pick", defArgs st_pick, defBody st_pick, defScope st_pick, [], []⟩
def d_pick_cost : He.DefD := ⟨("pick_cost", none), "pick_cost", "pick_cost", defArgs st_pick_cost, defBody st_pick_cost, defScope st_pick_cost, [], []⟩
def d_picked : He.DefD := ⟨("picked", none), "picked", "picked", defArgs st_picked, defBody st_picked, defScope st_picked, [], []⟩
def d_folded : He.DefD := ⟨("folded", none), "folded", "folded", defArgs st_folded, defBody st_folded, defScope st_folded, [], []⟩
def d_is_cell : He.DefD := ⟨("is_cell", none), "is_cell", "is_cell", defArgs st_is_cell, defBody st_is_cell, defScope st_is_cell, [], []⟩
def d_unfolded : He.DefD := ⟨("unfolded", none), "unfolded", "unfolded", defArgs st_unfolded, defBody st_unfolded, defScope st_unfolded, [], []⟩
def d_list_of : He.DefD := ⟨("list_of", none), "list_of", "list_of", defArgs st_list_of, defBody st_list_of, defScope st_list_of, [], []⟩
def d_things_of : He.DefD := ⟨("things_of", none), "things_of", "things_of", defArgs st_things_of, defBody st_things_of, defScope st_things_of, [], []⟩
def d_pack : He.DefD := ⟨("pack", none), "pack", "pack", defArgs st_pack, defBody st_pack, defScope st_pack, [], []⟩
def d_end_of : He.DefD := ⟨("end_of", none), "end_of", "end_of", defArgs st_end_of, defBody st_end_of, defScope st_end_of, [], []⟩
def d_put_in : He.DefD := ⟨("put_in", none), "put_in", "put_in", defArgs st_put_in, defBody st_put_in, defScope st_put_in, [], []⟩
def d_parted : He.DefD := ⟨("parted", none), "parted", "parted", defArgs st_parted, defBody st_parted, defScope st_parted, [], []⟩
def d_taken_out : He.DefD := ⟨("taken_out", none), "taken_out", "taken_out", defArgs st_taken_out, defBody st_taken_out, defScope st_taken_out, [], []⟩
def d_made_of : He.DefD := ⟨("made_of", none), "made_of", "made_of", defArgs st_made_of, defBody st_made_of, defScope st_made_of, [], []⟩
def d_made_costs : He.DefD := ⟨("made_costs", none), "made_costs", "made_costs", defArgs st_made_costs, defBody st_made_costs, defScope st_made_costs, [], []⟩
def d_handed : He.DefD := ⟨("handed", none), "handed", "handed", defArgs st_handed, defBody st_handed, defScope st_handed, [], []⟩
def d_list_grown : He.DefD := ⟨("list_grown", none), "list_grown", "list_grown", defArgs st_list_grown, defBody st_list_grown, defScope st_list_grown, [], []⟩
def d_next_term : He.DefD := ⟨("next_term", none), "next_term", "next_term", defArgs st_next_term, defBody st_next_term, defScope st_next_term, [], []⟩
def d_end_names : He.DefD := ⟨("end_names", none), "end_names", "end_names", defArgs st_end_names, defBody st_end_names, defScope st_end_names, [], []⟩
def d_side_names : He.DefD := ⟨("side_names", none), "side_names", "side_names", defArgs st_side_names, defBody st_side_names, defScope st_side_names, [], []⟩
def d_bare_names : He.DefD := ⟨("bare_names", none), "bare_names", "bare_names", defArgs st_bare_names, defBody st_bare_names, defScope st_bare_names, [], []⟩
def d_cell_names : He.DefD := ⟨("cell_names", none), "cell_names", "cell_names", defArgs st_cell_names, defBody st_cell_names, defScope st_cell_names, [], []⟩
def d_chooser_names : He.DefD := ⟨("chooser_names", none), "chooser_names", "chooser_names", defArgs st_chooser_names, defBody st_chooser_names, defScope st_chooser_names, [], []⟩
def d_made_pair : He.DefD := ⟨("made_pair", none), "made_pair", "made_pair", defArgs st_made_pair, defBody st_made_pair, defScope st_made_pair, [], []⟩
def d_cost_of : He.DefD := ⟨("cost_of", none), "cost_of", "cost_of", defArgs st_cost_of, defBody st_cost_of, defScope st_cost_of, [], []⟩
def d_with_last : He.DefD := ⟨("with_last", none), "with_last", "with_last", defArgs st_with_last, defBody st_with_last, defScope st_with_last, [], []⟩
def d_state_tree : He.DefD := ⟨("state_tree", none), "state_tree", "state_tree", defArgs st_state_tree, defBody st_state_tree, defScope st_state_tree, [], []⟩
def d_sides_of : He.DefD := ⟨("sides_of", none), "sides_of", "sides_of", defArgs st_sides_of, defBody st_sides_of, defScope st_sides_of, [], []⟩
def d_tape_image : He.DefD := ⟨("tape_image", none), "tape_image", "tape_image", defArgs st_tape_image, defBody st_tape_image, defScope st_tape_image, [], []⟩
def d_next_cost : He.DefD := ⟨("next_cost", none), "next_cost", "next_cost", defArgs st_next_cost, defBody st_next_cost, defScope st_next_cost, [], []⟩
def d_tape_cost : He.DefD := ⟨("tape_cost", none), "tape_cost", "tape_cost", defArgs st_tape_cost, defBody st_tape_cost, defScope st_tape_cost, [], []⟩
def d_side_told : He.DefD := ⟨("side_told", none), "side_told", "side_told", defArgs st_side_told, defBody st_side_told, defScope st_side_told, [], []⟩
def d_stand_told : He.DefD := ⟨("stand_told", none), "stand_told", "stand_told", defArgs st_stand_told, defBody st_stand_told, defScope st_stand_told, [], []⟩
def d_state_told : He.DefD := ⟨("state_told", none), "state_told", "state_told", defArgs st_state_told, defBody st_state_told, defScope st_state_told, [], []⟩
def d_image_told : He.DefD := ⟨("image_told", none), "image_told", "image_told", defArgs st_image_told, defBody st_image_told, defScope st_image_told, [], []⟩
def d_end_told : He.DefD := ⟨("end_told", none), "end_told", "end_told", defArgs st_end_told, defBody st_end_told, defScope st_end_told, [], []⟩
def d_states_in : He.DefD := ⟨("states_in", none), "states_in", "states_in", defArgs st_states_in, defBody st_states_in, defScope st_states_in, [], []⟩
def d_chain_image : He.DefD := ⟨("chain_image", none), "chain_image", "chain_image", defArgs st_chain_image, defBody st_chain_image, defScope st_chain_image, [], []⟩
def d_chain_told : He.DefD := ⟨("chain_told", none), "chain_told", "chain_told", defArgs st_chain_told, defBody st_chain_told, defScope st_chain_told, [], []⟩
def d__law_cell : He.DefD := ⟨("_law_cell", none), "_law_cell", "_law_cell", defArgs st__law_cell, defBody st__law_cell, defScope st__law_cell, [], []⟩
def d__law_whole : He.DefD := ⟨("_law_whole", none), "_law_whole", "_law_whole", defArgs st__law_whole, defBody st__law_whole, defScope st__law_whole, [], []⟩
def d__law_program : He.DefD := ⟨("_law_program", none), "_law_program", "_law_program", defArgs st__law_program, defBody st__law_program, defScope st__law_program, [], []⟩
def d__law_drawn_stand : He.DefD := ⟨("_law_drawn_stand", none), "_law_drawn_stand", "_law_drawn_stand", defArgs st__law_drawn_stand, defBody st__law_drawn_stand, defScope st__law_drawn_stand, [], []⟩
def d__law_stepped : He.DefD := ⟨("_law_stepped", none), "_law_stepped", "_law_stepped", defArgs st__law_stepped, defBody st__law_stepped, defScope st__law_stepped, [], []⟩
def d__law_row_image : He.DefD := ⟨("_law_row_image", none), "_law_row_image", "_law_row_image", defArgs st__law_row_image, defBody st__law_row_image, defScope st__law_row_image, [], []⟩
def d__law_next : He.DefD := ⟨("_law_next", none), "_law_next", "_law_next", defArgs st__law_next, defBody st__law_next, defScope st__law_next, [], []⟩
def d__law_many_steps : He.DefD := ⟨("_law_many_steps", none), "_law_many_steps", "_law_many_steps", defArgs st__law_many_steps, defBody st__law_many_steps, defScope st__law_many_steps, [], []⟩
def d__law_tape_stands : He.DefD := ⟨("_law_tape_stands", none), "_law_tape_stands", "_law_tape_stands", defArgs st__law_tape_stands, defBody st__law_tape_stands, defScope st__law_tape_stands, [], []⟩
def d__law_made_right : He.DefD := ⟨("_law_made_right", none), "_law_made_right", "_law_made_right", defArgs st__law_made_right, defBody st__law_made_right, defScope st__law_made_right, [], []⟩
def d__law_gone : He.DefD := ⟨("_law_gone", none), "_law_gone", "_law_gone", defArgs st__law_gone, defBody st__law_gone, defScope st__law_gone, [], []⟩
def d__law_goes : He.DefD := ⟨("_law_goes", none), "_law_goes", "_law_goes", defArgs st__law_goes, defBody st__law_goes, defScope st__law_goes, [], []⟩
def d__law_ends : He.DefD := ⟨("_law_ends", none), "_law_ends", "_law_ends", defArgs st__law_ends, defBody st__law_ends, defScope st__law_ends, [], []⟩
def d_law : He.DefD := ⟨("law", none), "law", "law", defArgs st_law, defBody st_law, defScope st_law, [], []⟩
def d_Between_init : He.DefD := ⟨("Between", some "__init__"), "__init__", "Between.__init__", defArgs st_Between_init, defBody st_Between_init, defScope st_Between_init, [], []⟩
def d_Between_state_for : He.DefD := ⟨("Between", some "state_for"), "state_for", "Between.state_for", defArgs st_Between_state_for, defBody st_Between_state_for, defScope st_Between_state_for, [], []⟩
def d_Book_init : He.DefD := ⟨("Book", some "__init__"), "__init__", "Book.__init__", defArgs st_Book_init, defBody st_Book_init, defScope st_Book_init, [], []⟩
def d_Book_frame : He.DefD := ⟨("Book", some "frame"), "frame", "Book.frame", defArgs st_Book_frame, defBody st_Book_frame, defScope st_Book_frame, [], []⟩
def d_Book_sign_tree : He.DefD := ⟨("Book", some "sign_tree"), "sign_tree", "Book.sign_tree", defArgs st_Book_sign_tree, defBody st_Book_sign_tree, defScope st_Book_sign_tree, [], []⟩
def d_Book_state_pick : He.DefD := ⟨("Book", some "state_pick"), "state_pick", "Book.state_pick", defArgs st_Book_state_pick, defBody st_Book_state_pick, defScope st_Book_state_pick, [], []⟩
def d_Book_thing : He.DefD := ⟨("Book", some "thing"), "thing", "Book.thing", defArgs st_Book_thing, defBody st_Book_thing, defScope st_Book_thing, [], []⟩
def d_Book_seat : He.DefD := ⟨("Book", some "seat"), "seat", "Book.seat", defArgs st_Book_seat, defBody st_Book_seat, defScope st_Book_seat, [], []⟩
def d_Chain_init : He.DefD := ⟨("Chain", some "__init__"), "__init__", "Chain.__init__", defArgs st_Chain_init, defBody st_Chain_init, defScope st_Chain_init, [], []⟩
def fnL : List He.DefD := [d_counter_image, d_lap_of, d_copied, d_up_rules, d_down_rules, d_make_rows, d_counter_told, d_row_image, d_rules_for, d_make_tape, d_row_told, d_is_value, d_leaves, d_is_done, d_joint, d_became, d_opened, d_one_up, d_closed, d_tree_run, d_idle, d_is_joint, d_pick, d_pick_cost, d_picked, d_folded, d_is_cell, d_unfolded, d_list_of, d_things_of, d_pack, d_end_of, d_put_in, d_parted, d_taken_out, d_made_of, d_made_costs, d_handed, d_list_grown, d_next_term]
def fnR : List He.DefD := [d_end_names, d_side_names, d_bare_names, d_cell_names, d_chooser_names, d_made_pair, d_cost_of, d_with_last, d_state_tree, d_sides_of, d_tape_image, d_next_cost, d_tape_cost, d_side_told, d_stand_told, d_state_told, d_image_told, d_end_told, d_states_in, d_chain_image, d_chain_told, d__law_cell, d__law_whole, d__law_program, d__law_drawn_stand, d__law_stepped, d__law_row_image, d__law_next, d__law_many_steps, d__law_tape_stands, d__law_made_right, d__law_gone, d__law_goes, d__law_ends, d_law, d_Between_init, d_Between_state_for, d_Book_init, d_Book_frame, d_Book_sign_tree, d_Book_state_pick, d_Book_thing, d_Book_seat, d_Chain_init]
def fn : List He.DefD := fnL ++ fnR
def fa0 : List He.Fa := [.glo "counter_image", .glo "lap_of", .glo "copied", .glo "up_rules", .glo "down_rules", .glo "make_rows", .glo "counter_told", .glo "row_image", .glo "rules_for", .glo "make_tape", .glo "row_told", .glo "is_value", .glo "leaves", .glo "is_done", .glo "joint", .glo "became", .glo "opened", .glo "one_up", .glo "closed", .glo "tree_run", .glo "idle", .glo "is_joint", .glo "pick", .glo "pick_cost", .glo "picked", .glo "folded", .glo "is_cell", .glo "unfolded", .glo "list_of", .glo "things_of"]
def fa1 : List He.Fa := [.glo "pack", .glo "end_of", .glo "put_in", .glo "parted", .glo "taken_out", .glo "made_of", .glo "made_costs", .glo "handed", .glo "list_grown", .glo "next_term", .glo "end_names", .glo "side_names", .glo "bare_names", .glo "cell_names", .glo "chooser_names", .glo "made_pair", .glo "cost_of", .glo "with_last", .glo "state_tree", .glo "sides_of", .glo "tape_image", .glo "next_cost", .glo "tape_cost", .glo "side_told", .glo "stand_told", .glo "state_told", .glo "image_told", .glo "end_told", .glo "states_in", .glo "chain_image"]
def fa2 : List He.Fa := [.glo "chain_told", .glo "_law_cell", .glo "_law_whole", .glo "_law_program", .glo "_law_drawn_stand", .glo "_law_stepped", .glo "_law_row_image", .glo "_law_next", .glo "_law_many_steps", .glo "_law_tape_stands", .glo "_law_made_right", .glo "_law_gone", .glo "_law_goes", .glo "_law_ends", .glo "law", .glo "Between", .glo "Book", .glo "Chain", .int "PHASES" 3, .int "COPY" 0, .int "TAKEN" 1, .int "NOUGHT" 2, .str "BLANK" "_", .str "GO" "go", .str "BACK" "back", .str "SIGNS" "bei", .free "len", .free "range", .free "isinstance", .free "max"]
def fa3 : List He.Fa := [.free "min", .free "sum", .free "sorted", .free "enumerate", .free "reversed", .free "list", .free "tuple", .free "str", .free "int", .free "bool", .free "set", .free "all", .cls "Between", .mkr "Between", .keep "Between", .meth "Between" "state_for", .noat "Between" "top", .noat "Between" "numbers", .noat "Between" "waiting", .cls "Book", .mkr "Book", .keep "Book", .meth "Book" "frame", .meth "Book" "sign_tree", .meth "Book" "state_pick", .meth "Book" "thing", .meth "Book" "seat", .noat "Book" "rules", .noat "Book" "signs", .noat "Book" "states"]
def fa4 : List He.Fa := [.noat "Book" "acts", .noat "Book" "frames", .noat "Book" "costs", .noat "Book" "seats", .noat "Book" "table", .cls "Chain", .mkr "Chain", .keep "Chain", .noat "Chain" "program", .noat "Chain" "many", .noat "Chain" "rules", .noat "Chain" "top", .noat "Chain" "tape", .noat "Chain" "book"]
def fa : List He.Fa := fa0 ++ fa1 ++ fa2 ++ fa3 ++ fa4
def loose0 : List PySem.Str := ["PHASES", "COPY", "TAKEN", "NOUGHT", "counter_image", "lap_of", "copied", "up_rules", "down_rules", "make_rows", "counter_told", "BLANK", "GO", "BACK", "row_image", "Between", "rules_for", "make_tape", "row_told", "is_value", "leaves", "is_done", "joint", "became", "opened", "one_up", "closed", "tree_run", "idle", "is_joint"]
def loose1 : List PySem.Str := ["pick", "pick_cost", "picked", "folded", "is_cell", "unfolded", "list_of", "things_of", "pack", "end_of", "put_in", "parted", "taken_out", "made_of", "made_costs", "handed", "list_grown", "next_term", "end_names", "side_names", "bare_names", "cell_names", "chooser_names", "made_pair", "cost_of", "with_last", "Book", "state_tree", "sides_of", "tape_image"]
def loose2 : List PySem.Str := ["next_cost", "tape_cost", "side_told", "stand_told", "state_told", "image_told", "end_told", "SIGNS", "states_in", "Chain", "chain_image", "chain_told", "_law_cell", "_law_whole", "_law_program", "_law_drawn_stand", "_law_stepped", "_law_row_image", "_law_next", "_law_many_steps", "_law_tape_stands", "_law_made_right", "_law_gone", "_law_goes", "_law_ends"]
def loose : List PySem.Str := loose0 ++ loose1 ++ loose2
abbrev R : PySem.W.OpenRow := PySem.W.OpenLaw.row PySem.Challenge.rw_oneofall_k93_whole_chain
/-- an address put to those that were met -/
def addB (st : Nat × List Addr) (a : Addr) : Nat × List Addr := match Nat.testBit st.1 a with
  | true => st
  | false => (st.1 ||| (1 <<< a), a :: st.2)
def visB (g : Addr → Option Obj) (fr : List Addr) (m : Nat) : Nat × List Addr := fr.foldl (fun st a => match g a with
  | some o => (He.refsD o).foldl addB st
  | none => st) (m, [])
/-- what is met in so many rounds: the marks, the last round, all -/
def asB (g : Addr → Option Obj) : Nat → Nat × List Addr × List Addr
  | 0 => (1 <<< mainGlobals, [mainGlobals], [mainGlobals])
  | n + 1 => match asB g n with
    | (m, fr, al) => match visB g fr m with
      | (m2, nw) => (m2, nw, al ++ nw)
def obG (fa : List He.Fa) (fn : List He.DefD) (g : Addr → Option Obj) : He.AlD := He.obsD fa fn (He.frG g (asB g 4).2.2)
abbrev hk : PySem.W.Hook where
  α := He.AlD
  obs := fun s => obG fa fn s.heap.get?
  val := fun _ => He.valD fn
  says := fun _ h => ∃ K : PySem.W.Frag, K.In h ∧ He.SaysD fa fn K
  of := fun _ _ e => ⟨_, He.frG_in, e⟩
  keeps := fun _ _ _ ⟨K, hK, c⟩ k => ⟨K, PySem.W.Frag.In.keeps hK k, c⟩
def ob (s : PySem.W.SharedT) : He.AlD := obG fa fn (HandSHeadRun.getT s)
theorem ob_eq (s : PySem.W.SharedT) : ob s = hk.obs s.abs := by
  have e : HandSHeadRun.getT s = s.abs.heap.get? := funext (HandSHeadRun.getT_eq s)
  show obG fa fn (HandSHeadRun.getT s) = obG fa fn s.abs.heap.get?
  rw [e]
theorem run (w : World) : HandSHeadRun.RunEq R (PySem.W.view R.prog [93]) hk ob 4000 loose w := by
  intro os
  kernel_rfl
set_option maxHeartbeats 4000000
end My

/-! Lib1: data in the heap (tuples alone: Td), what evaluates to what (Ev), promises by graphs (SpT, SpL). -/
namespace My
open PySem PySem.Spec PyProof.Rows L2

/-! ### heaps -/
/-- tuples are kept -/
def Tx (H H' : Hp) : Prop := ∀ b xs, H b = some (.tup xs) → H' b = some (.tup xs)
theorem Tx.refl (H : Hp) : Tx H H := fun _ _ h => h
theorem Tx.trans {H H1 H2 : Hp} (a : Tx H H1) (b : Tx H1 H2) : Tx H H2 := fun c o h => b c o (a c o h)
theorem _root_.L2.Same.tx {H H' : Hp} (s : Same H H') : Tx H H' := fun b xs h => s b _ h
theorem Tx.put {H : Hp} {p : Addr} {o : HO} (h : ∀ xs, H p ≠ some (.tup xs)) : Tx H (upd H p o) := fun b xs e => by
  have : b ≠ p := fun q => h xs (q ▸ e)
  rw [upd_ne this]
  exact e
theorem Tx.new {H : Hp} {p : Addr} {o : HO} (h : H p = none) : Tx H (upd H p o) := Tx.put fun xs e => by rw [h] at e; cases e
theorem Tx.lst {H : Hp} {p : Addr} {o : HO} {ys : List V} (h : H p = some (.lst ys)) : Tx H (upd H p o) := Tx.put fun xs e => by rw [h] at e; cases e
theorem Tx.dK {H : Hp} {p : Addr} {o : HO} {ys} (h : H p = some (.dK ys)) : Tx H (upd H p o) := Tx.put fun xs e => by rw [h] at e; cases e
theorem Tx.dT {H : Hp} {p : Addr} {o : HO} {ys} (h : H p = some (.dT ys)) : Tx H (upd H p o) := Tx.put fun xs e => by rw [h] at e; cases e
theorem Tx.ins {H : Hp} {p : Addr} {o : HO} {C dx fs} (h : H p = some (.ins C dx fs)) : Tx H (upd H p o) := Tx.put fun xs e => by rw [h] at e; cases e
theorem _root_.L2.Same.new {H : Hp} {p : Addr} {o : HO} (h : H p = none) : Same H (upd H p o) := fun a u e => by
  rw [upd_ne (ne_of_none e h)]
  exact e
/-- an object that H does not know may change -/
theorem _root_.L2.Same.mut {H H' : Hp} {p : Addr} {o : HO} (e : Same H H') (h : H p = none) : Same H (upd H' p o) := fun a u ha => by
  rw [upd_ne (ne_of_none ha h)]
  exact e a u ha
theorem _root_.L2.Same.seqT {K : PySem.W.Frag} {H H' : Hp} {a : Addr} {xs : List V} (e : Same H H') (h : SqT K H a xs) : SqT K H' a xs := by
  rcases h with (h | ⟨o, h⟩) | h
  · exact .inl (.inl (e _ _ h))
  · exact .inl (.inr ⟨o, e _ _ h⟩)
  · exact .inr h

/-! ### data of tuples alone -/
mutual
inductive Td (H : Hp) : V → PyData → Prop
  | non : Td H .non .none
  | bl (b : Bool) : Td H (.bl b) (.bool b)
  | int (i : Int) : Td H (.int i) (.int i)
  | str (x : Str) : Td H (.str x) (.str x)
  | tup {a : Addr} {xs : List V} {ds : List PyData} : H a = some (.tup xs) → TdAll H xs ds → Td H (.ref a) (.tuple ds)
inductive TdAll (H : Hp) : List V → List PyData → Prop
  | nil : TdAll H [] []
  | cons {v : V} {vs : List V} {d : PyData} {ds : List PyData} : Td H v d → TdAll H vs ds → TdAll H (v :: vs) (d :: ds)
end
mutual
theorem Td.tx {H H' : Hp} (t : Tx H H') : ∀ {v : V} {d : PyData}, Td H v d → Td H' v d
  | _, _, .non => .non
  | _, _, .bl b => .bl b
  | _, _, .int i => .int i
  | _, _, .str x => .str x
  | _, _, .tup h a => .tup (t _ _ h) (TdAll.tx t a)
theorem TdAll.tx {H H' : Hp} (t : Tx H H') : ∀ {vs : List V} {ds : List PyData}, TdAll H vs ds → TdAll H' vs ds
  | _, _, .nil => .nil
  | _, _, .cons h a => .cons (Td.tx t h) (TdAll.tx t a)
end
mutual
theorem Td.dp {K : PySem.W.Frag} {H : Hp} : ∀ {v : V} {d : PyData}, Td H v d → Dp K H v d
  | _, _, .non => .non
  | _, _, .bl b => .bl b
  | _, _, .int i => .int i
  | _, _, .str x => .str x
  | _, _, .tup h a => .tup (SqT.of h) (TdAll.dp a)
theorem TdAll.dp {K : PySem.W.Frag} {H : Hp} : ∀ {vs : List V} {ds : List PyData}, TdAll H vs ds → DpAll K H vs ds
  | _, _, .nil => .nil
  | _, _, .cons h a => .cons (Td.dp h) (TdAll.dp a)
end
section
variable {H H' : Hp} {v : V} {vs ws : List V} {ds es : List PyData} {d : PyData}
theorem Td.sm (s : Same H H') (h : Td H v d) : Td H' v d := h.tx s.tx
theorem TdAll.sm (s : Same H H') (h : TdAll H vs ds) : TdAll H' vs ds := h.tx s.tx
theorem Td.int_of {i : Int} (h : Td H v (.int i)) : v = .int i := by cases h; rfl
theorem Td.str_of {x : Str} (h : Td H v (.str x)) : v = .str x := by cases h; rfl
theorem Td.bl_of {b : Bool} (h : Td H v (.bool b)) : v = .bl b := by cases h; rfl
theorem Td.non_of (h : Td H v .none) : v = .non := by cases h; rfl
theorem Td.tup_of (h : Td H v (.tuple ds)) : ∃ a xs, v = .ref a ∧ H a = some (.tup xs) ∧ TdAll H xs ds := by
  cases h with
  | tup h a => exact ⟨_, _, rfl, h, a⟩
theorem TdAll.length : ∀ {vs : List V} {ds : List PyData}, TdAll H vs ds → vs.length = ds.length
  | _, _, .nil => rfl
  | _, _, .cons _ a => congrArg Nat.succ (TdAll.length a)
theorem TdAll.get : ∀ {vs : List V} {ds : List PyData} {i : Nat} {d : PyData}, TdAll H vs ds → ds[i]? = some d → ∃ v, vs[i]? = some v ∧ Td H v d
  | _, _, _, _, .nil, e => by simp at e
  | _, _, 0, _, .cons h _, e => by simp at e; subst e; exact ⟨_, rfl, h⟩
  | _, _, i + 1, d, .cons _ a, e => by
    obtain ⟨v, h1, h2⟩ := TdAll.get (i := i) (d := d) a (by simpa using e)
    exact ⟨v, by simpa using h1, h2⟩
theorem TdAll.get' : ∀ {vs : List V} {ds : List PyData} {i : Nat} {v : V}, TdAll H vs ds → vs[i]? = some v → ∃ d, ds[i]? = some d ∧ Td H v d
  | _, _, _, _, .nil, e => by simp at e
  | _, _, 0, _, .cons h _, e => by simp at e; subst e; exact ⟨_, rfl, h⟩
  | _, _, i + 1, d, .cons _ a, e => by
    obtain ⟨v, h1, h2⟩ := TdAll.get' (i := i) (v := d) a (by simpa using e)
    exact ⟨v, by simpa using h1, h2⟩
theorem TdAll.append : ∀ {vs ws : List V} {ds es : List PyData}, TdAll H vs ds → TdAll H ws es → TdAll H (vs ++ ws) (ds ++ es)
  | _, _, _, _, .nil, b => b
  | _, _, _, _, .cons h a, b => .cons h (TdAll.append a b)
theorem TdAll.one (h : Td H v d) : TdAll H [v] [d] := .cons h .nil
theorem TdAll.take : ∀ {vs : List V} {ds : List PyData} (n : Nat), TdAll H vs ds → TdAll H (vs.take n) (ds.take n)
  | _, _, 0, _ => .nil
  | _, _, _ + 1, .nil => .nil
  | _, _, n + 1, .cons r t => .cons r (TdAll.take n t)
theorem TdAll.drop : ∀ {vs : List V} {ds : List PyData} (n : Nat), TdAll H vs ds → TdAll H (vs.drop n) (ds.drop n)
  | _, _, 0, r => r
  | _, _, _ + 1, .nil => .nil
  | _, _, n + 1, .cons _ t => TdAll.drop n t
theorem TdAll.rev : ∀ {vs : List V} {ds : List PyData}, TdAll H vs ds → TdAll H vs.reverse ds.reverse
  | _, _, .nil => .nil
  | _, _, .cons r t => by
    rw [List.reverse_cons, List.reverse_cons]
    exact TdAll.append (TdAll.rev t) (.one r)
theorem TdAll.set : ∀ {vs : List V} {ds : List PyData} (i : Nat), Td H v d → TdAll H vs ds → TdAll H (vs.set i v) (ds.set i d)
  | _, _, _, _, .nil => .nil
  | _, _, 0, h, .cons _ t => .cons h t
  | _, _, i + 1, h, .cons r t => .cons r (TdAll.set i h t)
theorem TdAll.ints : ∀ (ns : List Int), TdAll H (ns.map V.int) (ns.map PyData.int)
  | [] => .nil
  | n :: ns => .cons (.int n) (TdAll.ints ns)
theorem TdAll.ints_of : ∀ {vs : List V} {ns : List Int}, TdAll H vs (ns.map PyData.int) → vs = ns.map V.int
  | _, [], h => by cases h; rfl
  | _, n :: ns, h => by
    cases h with
    | cons h1 h2 => rw [h1.int_of, TdAll.ints_of h2]; rfl
theorem TdAll.strs_of : ∀ {vs : List V} {ns : List Str}, TdAll H vs (ns.map PyData.str) → vs = ns.map V.str
  | _, [], h => by cases h; rfl
  | _, n :: ns, h => by
    cases h with
    | cons h1 h2 => rw [h1.str_of, TdAll.strs_of h2]; rfl
theorem TdAll.bls_of : ∀ {vs : List V} {ns : List Bool}, TdAll H vs (ns.map PyData.bool) → vs = ns.map V.bl
  | _, [], h => by cases h; rfl
  | _, n :: ns, h => by
    cases h with
    | cons h1 h2 => rw [h1.bl_of, TdAll.bls_of h2]; rfl
theorem Td.t1 (h : Td H v (.tuple [d])) : ∃ a x, v = .ref a ∧ H a = some (.tup [x]) ∧ Td H x d := by
  obtain ⟨a, xs, rfl, h, t⟩ := h.tup_of
  cases t with
  | cons h1 t => cases t; exact ⟨a, _, rfl, h, h1⟩
theorem Td.t2 {d2 : PyData} (h : Td H v (.tuple [d, d2])) : ∃ a x y, v = .ref a ∧ H a = some (.tup [x, y]) ∧ Td H x d ∧ Td H y d2 := by
  obtain ⟨a, xs, rfl, h, t⟩ := h.tup_of
  cases t with
  | cons h1 t => cases t with
    | cons h2 t => cases t; exact ⟨a, _, _, rfl, h, h1, h2⟩
theorem Td.t3 {d2 d3 : PyData} (h : Td H v (.tuple [d, d2, d3])) : ∃ a x y z, v = .ref a ∧ H a = some (.tup [x, y, z]) ∧ Td H x d ∧ Td H y d2 ∧ Td H z d3 := by
  obtain ⟨a, xs, rfl, h, t⟩ := h.tup_of
  cases t with
  | cons h1 t => cases t with
    | cons h2 t => cases t with
      | cons h3 t => cases t; exact ⟨a, _, _, _, rfl, h, h1, h2, h3⟩
theorem Td.t4 {d2 d3 d4 : PyData} (h : Td H v (.tuple [d, d2, d3, d4])) : ∃ a x y z w, v = .ref a ∧ H a = some (.tup [x, y, z, w]) ∧ Td H x d ∧ Td H y d2 ∧ Td H z d3 ∧ Td H w d4 := by
  obtain ⟨a, xs, rfl, h, t⟩ := h.tup_of
  cases t with
  | cons h1 t => cases t with
    | cons h2 t => cases t with
      | cons h3 t => cases t with
        | cons h4 t => cases t; exact ⟨a, _, _, _, _, rfl, h, h1, h2, h3, h4⟩
theorem Td.t5 {d2 d3 d4 d5 : PyData} (h : Td H v (.tuple [d, d2, d3, d4, d5])) : ∃ a x y z w u, v = .ref a ∧ H a = some (.tup [x, y, z, w, u]) ∧ Td H x d ∧ Td H y d2 ∧ Td H z d3 ∧ Td H w d4 ∧ Td H u d5 := by
  obtain ⟨a, xs, rfl, h, t⟩ := h.tup_of
  cases t with
  | cons h1 t => cases t with
    | cons h2 t => cases t with
      | cons h3 t => cases t with
        | cons h4 t => cases t with
          | cons h5 t => cases t; exact ⟨a, _, _, _, _, _, rfl, h, h1, h2, h3, h4, h5⟩
end

/-! ### what a value stands for -/
def Mono (P : V → Hp → Prop) : Prop := ∀ v H H', Same H H' → P v H → P v H'
inductive Ag where
  /-- data of tuples alone -/
  | t (d : PyData)
  /-- a list of such that can be read -/
  | l (ds : List PyData)
  /-- anything else that stays -/
  | o (P : V → Hp → Prop) (m : Mono P)
def At (K : PySem.W.Frag) (H : Hp) (v : V) : Ag → Prop
  | .t d => Td H v d
  | .l ds => ∃ a xs, v = .ref a ∧ SqL K H a xs ∧ TdAll H xs ds
  | .o P _ => P v H
theorem At.sm {K : PySem.W.Frag} {H H' : Hp} {v : V} (s : Same H H') : ∀ {a : Ag}, At K H v a → At K H' v a
  | .t _, h => Td.sm s h
  | .l _, ⟨a, xs, e, h, t⟩ => ⟨a, xs, e, s.seq h, t.sm s⟩
  | .o _ m, h => m _ _ _ s h
inductive AtAll (K : PySem.W.Frag) (H : Hp) : List V → List Ag → Prop
  | nil : AtAll K H [] []
  | cons {v : V} {vs : List V} {a : Ag} {as : List Ag} : At K H v a → AtAll K H vs as → AtAll K H (v :: vs) (a :: as)
theorem AtAll.sm {K : PySem.W.Frag} {H H' : Hp} (s : Same H H') : ∀ {vs : List V} {as : List Ag}, AtAll K H vs as → AtAll K H' vs as
  | _, _, .nil => .nil
  | _, _, .cons h t => .cons (At.sm s h) (AtAll.sm s t)
theorem AtAll.length {K : PySem.W.Frag} {H : Hp} : ∀ {vs : List V} {as : List Ag}, AtAll K H vs as → vs.length = as.length
  | _, _, .nil => rfl
  | _, _, .cons _ t => congrArg Nat.succ (AtAll.length t)
section
variable {K : PySem.W.Frag} {H : Hp} {vs : List V} {a b c d e : Ag}
theorem AtAll.i0 (h : AtAll K H vs []) : vs = [] := by cases h; rfl
theorem AtAll.i1 (h : AtAll K H vs [a]) : ∃ x, vs = [x] ∧ At K H x a := by
  cases h with
  | cons h t => cases t; exact ⟨_, rfl, h⟩
theorem AtAll.i2 (h : AtAll K H vs [a, b]) : ∃ x y, vs = [x, y] ∧ At K H x a ∧ At K H y b := by
  cases h with
  | cons h t => cases t with
    | cons h2 t => cases t; exact ⟨_, _, rfl, h, h2⟩
theorem AtAll.i3 (h : AtAll K H vs [a, b, c]) : ∃ x y z, vs = [x, y, z] ∧ At K H x a ∧ At K H y b ∧ At K H z c := by
  cases h with
  | cons h t => cases t with
    | cons h2 t => cases t with
      | cons h3 t => cases t; exact ⟨_, _, _, rfl, h, h2, h3⟩
theorem AtAll.i4 (h : AtAll K H vs [a, b, c, d]) : ∃ x y z w, vs = [x, y, z, w] ∧ At K H x a ∧ At K H y b ∧ At K H z c ∧ At K H w d := by
  cases h with
  | cons h t => cases t with
    | cons h2 t => cases t with
      | cons h3 t => cases t with
        | cons h4 t => cases t; exact ⟨_, _, _, _, rfl, h, h2, h3, h4⟩
end

/-! ### what evaluates to what -/
def Ev (K : PySem.W.Frag) (te : TE) (σ : L2.St) (H : Hp) (a : Ag) : Prop := ∀ H1, Same H H1 → ∀ Q : VK, (∀ v H2, Same H1 H2 → At K H2 v a → Q v H2) → te σ H1 Q
/-- a new list -/
def Ef (te : TE) (σ : L2.St) (H : Hp) (ds : List PyData) : Prop := ∀ H1, Same H H1 → ∀ Q : VK, (∀ p xs H2, H1 p = none → Same H1 H2 → H2 p = some (.lst xs) → TdAll H2 xs ds → Q (.ref p) H2) → te σ H1 Q
def Eb (tt : TT) (σ : L2.St) (H : Hp) (b : Bool) : Prop := ∀ H1, Same H H1 → ∀ Q : Bool → Hp → Prop, (∀ H2, Same H1 H2 → Q b H2) → tt σ H1 Q
def Ea (K : PySem.W.Frag) (ta : TA) (σ : L2.St) (H : Hp) (as : List Ag) : Prop := ∀ H1, Same H H1 → ∀ Q : List V → Hp → Prop, (∀ vs H2, Same H1 H2 → AtAll K H2 vs as → Q vs H2) → ta σ H1 Q
def Eo (to : TO) (σ : L2.St) (H : Hp) (o : Option Int) : Prop := ∀ H1, Same H H1 → ∀ Q : Option Int → Hp → Prop, (∀ H2, Same H1 H2 → Q o H2) → to σ H1 Q
section
variable {K : PySem.W.Frag} {σ : L2.St} {H H' : Hp} {ta tb te : TE} {t u : TT} {a b : Ag} {d e : PyData} {ds es : List PyData}
theorem Ev.sm (s : Same H H') (h : Ev K te σ H a) : Ev K te σ H' a := fun H1 s1 => h H1 (s.trans s1)
theorem Ea.sm {ta : TA} {as : List Ag} (s : Same H H') (h : Ea K ta σ H as) : Ea K ta σ H' as := fun H1 s1 => h H1 (s.trans s1)
theorem Eb.sm {b : Bool} (s : Same H H') (h : Eb t σ H b) : Eb t σ H' b := fun H1 s1 => h H1 (s.trans s1)
theorem Ef.ev (h : Ef te σ H ds) : Ev K te σ H (.l ds) := fun H1 s Q q => h H1 s Q fun p xs H2 _ s2 hp hx => q _ H2 s2 ⟨p, xs, rfl, SqL.of hp, hx⟩
theorem ev_var {i : Nat} {v : V} (h : σ[i]? = some (some v)) (hv : At K H v a) : Ev K (tVar i) σ H a := fun H1 s Q q => ⟨v, h, q v H1 (Same.refl H1) (hv.sm s)⟩
theorem ev_int {i : Int} : Ev K (tC (.int i)) σ H (.t (.int i)) := fun H1 _ Q q => q _ H1 (Same.refl H1) (Td.int i)
theorem ev_str {i : Str} : Ev K (tC (.str i)) σ H (.t (.str i)) := fun H1 _ Q q => q _ H1 (Same.refl H1) (Td.str i)
theorem ev_bl {i : Bool} : Ev K (tC (.bl i)) σ H (.t (.bool i)) := fun H1 _ Q q => q _ H1 (Same.refl H1) (Td.bl i)
theorem ev_non : Ev K (tC .non) σ H (.t .none) := fun H1 _ Q q => q _ H1 (Same.refl H1) Td.non
theorem ea_nil : Ea K tNil σ H [] := fun H1 _ Q q => q [] H1 (Same.refl H1) .nil
theorem ea_cons {tr : TA} {as : List Ag} (h : Ev K ta σ H a) (hr : Ea K tr σ H as) : Ea K (tCons ta tr) σ H (a :: as) := fun H1 s Q q =>
  h H1 s _ fun v H2 s2 hv => hr H2 (s.trans s2) _ fun vs H3 s3 hvs => q _ H3 (s2.trans s3) (.cons (hv.sm s3) hvs)
theorem AtAll.td : ∀ {vs : List V} {ds : List PyData}, AtAll K H vs (ds.map Ag.t) → TdAll H vs ds
  | _, [], h => by cases h; exact .nil
  | _, d :: ds, h => by
    cases h with
    | cons h1 h2 => exact .cons h1 (AtAll.td h2)
theorem ev_tup {ta : TA} (h : Ea K ta σ H (ds.map Ag.t)) (hl : ds.length ≤ 1000) : Ev K (tTup ta) σ H (.t (.tuple ds)) := fun H1 s Q q =>
  h H1 s _ fun vs H2 s2 hvs => by
    have hv := hvs.td
    have hz : ds.length ≤ sizeLine := Nat.le_trans hl (by decide)
    exact ⟨by rw [hv.length]; exact hz, fun p hp => q _ _ (s2.trans (Same.new hp)) (Td.tup upd_same (hv.tx (Tx.new hp)))⟩
theorem ef_lst {ta : TA} (h : Ea K ta σ H (ds.map Ag.t)) (hl : ds.length ≤ 1000) : Ef (tLst ta) σ H ds := fun H1 s Q q =>
  h H1 s _ fun vs H2 s2 hvs => by
    have hv := hvs.td
    have hz : ds.length ≤ sizeLine := Nat.le_trans hl (by decide)
    exact ⟨by rw [hv.length]; exact hz, fun p hp => q _ _ _ (s2.free hp) (s2.trans (Same.new hp)) upd_same (hv.tx (Tx.new hp))⟩
/-- an operation on values: from what they stand for -/
def R2V (K : PySem.W.Frag) (r : R2) (a b c : Ag) : Prop := ∀ x y H, At K H x a → At K H y b → ∀ Q : VK, (∀ v H', Same H H' → At K H' v c → Q v H') → r x y H Q
theorem ev_op {r : R2} {c : Ag} (ha : Ev K ta σ H a) (hb : Ev K tb σ H b) (hr : R2V K r a b c) : Ev K (tOp r ta tb) σ H c := fun H1 s Q q =>
  ha H1 s _ fun x H2 s2 hx => hb H2 (s.trans s2) _ fun y H3 s3 hy => hr x y H3 (hx.sm s3) hy Q fun v H4 s4 hv => q v H4 ((s2.trans s3).trans s4) hv
theorem eb_test {b : Bool} (h : Ev K te σ H (.t (.bool b))) : Eb (tTest te) σ H b := fun H1 s Q q =>
  h H1 s _ fun v H2 s2 hv => ⟨b, Td.bl_of hv, q H2 s2⟩
theorem eb_B {b : Bool} (h : Ev K te σ H (.t (.bool b))) : Eb (tB te) σ H b := fun H1 s Q q =>
  h H1 s _ fun v H2 s2 hv => ⟨b, Td.bl_of hv, q H2 s2⟩
theorem eb_and {a b : Bool} (h1 : Eb t σ H a) (h2 : a = true → Eb u σ H b) : Eb (tAnd t u) σ H (a && b) := fun H1 s Q q => h1 H1 s _ fun H2 s2 => by
  cases a with
  | true =>
    show u σ H2 Q
    exact h2 rfl H2 (s.trans s2) Q fun H3 s3 => q H3 (s2.trans s3)
  | false =>
    show Q false H2
    exact q H2 s2
theorem eb_or {a b : Bool} (h1 : Eb t σ H a) (h2 : a = false → Eb u σ H b) : Eb (tOr t u) σ H (a || b) := fun H1 s Q q => h1 H1 s _ fun H2 s2 => by
  cases a with
  | true =>
    show Q true H2
    exact q H2 s2
  | false =>
    show u σ H2 Q
    exact h2 rfl H2 (s.trans s2) Q fun H3 s3 => q H3 (s2.trans s3)
theorem eb_not {a : Bool} (h1 : Eb t σ H a) : Eb (tNot t) σ H (!a) := fun H1 s Q q => h1 H1 s _ fun H2 s2 => q H2 s2
theorem Eb.is {a b : Bool} (h : Eb t σ H a) (e : a = b) : Eb t σ H b := e ▸ h
theorem Ev.is {a b : Ag} (h : Ev K te σ H a) (e : a = b) : Ev K te σ H b := e ▸ h
theorem ev_andV {a b : Bool} (h1 : Ev K ta σ H (.t (.bool a))) (h2 : a = true → Ev K tb σ H (.t (.bool b))) : Ev K (tAndV ta tb) σ H (.t (.bool (a && b))) := fun H1 s Q q => h1 H1 s _ fun v H2 s2 hv => ⟨a, Td.bl_of hv, by
  cases a with
  | true =>
    show tb σ H2 Q
    exact h2 rfl H2 (s.trans s2) Q fun v H3 s3 hv => q v H3 (s2.trans s3) hv
  | false =>
    show Q (.bl false) H2
    exact q _ H2 s2 (Td.bl false)⟩
theorem ev_orV {a b : Bool} (h1 : Ev K ta σ H (.t (.bool a))) (h2 : a = false → Ev K tb σ H (.t (.bool b))) : Ev K (tOrV ta tb) σ H (.t (.bool (a || b))) := fun H1 s Q q => h1 H1 s _ fun v H2 s2 hv => ⟨a, Td.bl_of hv, by
  cases a with
  | true =>
    show Q (.bl true) H2
    exact q _ H2 s2 (Td.bl true)
  | false =>
    show tb σ H2 Q
    exact h2 rfl H2 (s.trans s2) Q fun v H3 s3 hv => q v H3 (s2.trans s3) hv⟩
theorem ev_notV {a : Bool} (h1 : Ev K ta σ H (.t (.bool a))) : Ev K (tNotV ta) σ H (.t (.bool (!a))) := fun H1 s Q q => h1 H1 s _ fun v H2 s2 hv => ⟨a, Td.bl_of hv, q _ H2 s2 (Td.bl _)⟩
theorem eo_none : Eo tNoPart σ H none := fun H1 _ Q q => q H1 (Same.refl H1)
theorem eo_some {i : Int} (h : Ev K te σ H (.t (.int i))) : Eo (tPart te) σ H (some i) := fun H1 s Q q => h H1 s _ fun v H2 s2 hv => ⟨i, Td.int_of hv, q H2 s2⟩
end

/-! ### promises -/
abbrev Gr := List Ag → PyData → Prop
abbrev GrL := List Ag → List PyData → Prop
/-- hands back data of tuples alone -/
def SpT (K : PySem.W.Frag) (F : Gr) : Sp := fun vs H Q _ => ∃ as d, F as d ∧ AtAll K H vs as ∧ ∀ v H', Same H H' → Td H' v d → Q v H'
/-- hands back a new list -/
def SpL (K : PySem.W.Frag) (F : GrL) : Sp := fun vs H Q _ => ∃ as ds, F as ds ∧ AtAll K H vs as ∧ ∀ p xs H', H p = none → Same H H' → H' p = some (.lst xs) → TdAll H' xs ds → Q (.ref p) H'
/-- hands back what stands for r -/
def SpG (K : PySem.W.Frag) (F : List Ag → Ag → Prop) : Sp := fun vs H Q _ => ∃ as r, F as r ∧ AtAll K H vs as ∧ ∀ v H', Same H H' → At K H' v r → Q v H'
section
variable {K : PySem.W.Frag} {σ : L2.St} {H : Hp} {ta : TA} {as : List Ag} {d : PyData} {ds : List PyData} {E : XK}
theorem ev_callG {F : List Ag → Ag → Prop} {r : Ag} (hf : F as r) (h : Ea K ta σ H as) : Ev K (tCall (SpG K F) [] E ta) σ H r := fun H1 s Q q =>
  h H1 s _ fun vs H2 s2 hvs => ⟨as, r, hf, by rw [List.append_nil]; exact hvs, fun v H3 s3 hv => q v H3 (s2.trans s3) hv⟩
theorem ev_call {F : Gr} (hf : F as d) (h : Ea K ta σ H as) : Ev K (tCall (SpT K F) [] E ta) σ H (.t d) := fun H1 s Q q =>
  h H1 s _ fun vs H2 s2 hvs => ⟨as, d, hf, by rw [List.append_nil]; exact hvs, fun v H3 s3 hv => q v H3 (s2.trans s3) hv⟩
theorem ef_call {F : GrL} (hf : F as ds) (h : Ea K ta σ H as) : Ef (tCall (SpL K F) [] E ta) σ H ds := fun H1 s Q q =>
  h H1 s _ fun vs H2 s2 hvs => ⟨as, ds, hf, by rw [List.append_nil]; exact hvs, fun p xs H3 hp s3 h3 hx => q p xs H3 (s2.free hp) (s2.trans s3) h3 hx⟩
end
end My

/-! Lib2: operators over data, a def with its promise (Has). -/
namespace My
open PySem PySem.Spec PyProof.Rows L2

/-! ### equality of data at any depth -/
def rEqG (K : PySem.W.Frag) (N : Nat) : R2 := fun x y H Q => ∃ d e, Dp K H x d ∧ Dp K H y e ∧ d.canLay0 = true ∧ e.canLay0 = true ∧ min d.depth e.depth ≤ N ∧ Q (.bl (PyData.eqv d e)) H
def rNeG (K : PySem.W.Frag) (N : Nat) : R2 := fun x y H Q => ∃ d e, Dp K H x d ∧ Dp K H y e ∧ d.canLay0 = true ∧ e.canLay0 = true ∧ min d.depth e.depth ≤ N ∧ Q (.bl (!PyData.eqv d e)) H
section
variable {X : Cx}
theorem op_eqG (N : Nat) (hu : X.A.units + N < cLine) : OpR X (compareOp .Eq) (rEqG X.K N) := by
  intro pins s σ H x y v u Q I rx ry h
  obtain ⟨d, e, hd, he, sd, se, hn, q⟩ := h
  obtain ⟨as, r1⟩ := Dp.reads I d x v hd rx
  obtain ⟨bs, r2⟩ := Dp.reads I e y u he ry
  exact SeqAt.compareEq_reads r1 r2 sd se (by omega) ⟨.bl _, H, I, rfl, q⟩
theorem op_neG (N : Nat) (hu : X.A.units + N < cLine) : OpR X (compareOp .NotEq) (rNeG X.K N) := by
  intro pins s σ H x y v u Q I rx ry h
  obtain ⟨d, e, hd, he, sd, se, hn, q⟩ := h
  obtain ⟨as, r1⟩ := Dp.reads I d x v hd rx
  obtain ⟨bs, r2⟩ := Dp.reads I e y u he ry
  exact SeqAt.compareNe_reads r1 r2 sd se (by omega) ⟨.bl _, H, I, rfl, q⟩
theorem room_n {k N : Nat} {A : Around} (r : Room k A) (h : N ≤ 16 * k + 200) : A.units + N < cLine := by have := r.un; omega
/-- the short one: 200 -/
theorem op_eqS {k : Nat} (hr : Room k X.A) : OpR X (compareOp .Eq) (rEqG X.K 200) := op_eqG 200 (room_n hr (by omega))
theorem op_neS {k : Nat} (hr : Room k X.A) : OpR X (compareOp .NotEq) (rNeG X.K 200) := op_neG 200 (room_n hr (by omega))

/-! ### + and * of ints, texts -/
def rAddG : R2 := fun x y H Q => (∃ i j, x = .int i ∧ y = .int j ∧ Q (.int (i + j)) H) ∨ (∃ i j, x = .str i ∧ y = .str j ∧ i.length + j.length ≤ sizeLine ∧ Q (.str (i ++ j)) H) ∨ rCat x y H Q
theorem op_addG : OpR X (binaryOp .Add) rAddG := by
  intro pins s σ H x y v u Q I rx ry h
  rcases h with h | h | h
  · exact op_add pins s σ H x y v u Q I rx ry h
  · exact op_add_str pins s σ H x y v u Q I rx ry h
  · exact op_cat pins s σ H x y v u Q I rx ry h
end
section
variable {K : PySem.W.Frag} {σ : L2.St} {H H' : Hp} {ta tb te : TE} {a b : Ag} {d e : PyData}
def Ag.dat : Ag → Option PyData
  | .t d => some d
  | .l ds => some (.list ds)
  | .o _ _ => none
theorem At.dp {v : V} : ∀ {a : Ag} {d : PyData}, At K H v a → a.dat = some d → Dp K H v d
  | .t _, _, h, e => by cases e; exact Td.dp h
  | .l _, _, ⟨a, xs, ev, h, t⟩, e => by cases e; subst ev; exact .lst h t.dp
theorem ev_eqG {N : Nat} (ha : Ev K ta σ H a) (hb : Ev K tb σ H b) (da : a.dat = some d) (db : b.dat = some e) (c1 : d.canLay0 = true) (c2 : e.canLay0 = true) (hn : min d.depth e.depth ≤ N) :
    Ev K (tOp (rEqG K N) ta tb) σ H (.t (.bool (PyData.eqv d e))) := ev_op ha hb fun x y H1 hx hy Q q => ⟨d, e, hx.dp da, hy.dp db, c1, c2, hn, q _ H1 (Same.refl H1) (Td.bl _)⟩
theorem ev_neG {N : Nat} (ha : Ev K ta σ H a) (hb : Ev K tb σ H b) (da : a.dat = some d) (db : b.dat = some e) (c1 : d.canLay0 = true) (c2 : e.canLay0 = true) (hn : min d.depth e.depth ≤ N) :
    Ev K (tOp (rNeG K N) ta tb) σ H (.t (.bool (!PyData.eqv d e))) := ev_op ha hb fun x y H1 hx hy Q q => ⟨d, e, hx.dp da, hy.dp db, c1, c2, hn, q _ H1 (Same.refl H1) (Td.bl _)⟩
theorem ev_addI {i j : Int} (ha : Ev K ta σ H (.t (.int i))) (hb : Ev K tb σ H (.t (.int j))) : Ev K (tOp rAddG ta tb) σ H (.t (.int (i + j))) :=
  ev_op ha hb fun x y H1 hx hy Q q => .inl ⟨i, j, Td.int_of hx, Td.int_of hy, q _ H1 (Same.refl H1) (Td.int _)⟩
theorem ev_addS {i j : Str} (ha : Ev K ta σ H (.t (.str i))) (hb : Ev K tb σ H (.t (.str j))) (hz : i.length + j.length ≤ sizeLine) : Ev K (tOp rAddG ta tb) σ H (.t (.str (i ++ j))) :=
  ev_op ha hb fun x y H1 hx hy Q q => .inr (.inl ⟨i, j, Td.str_of hx, Td.str_of hy, hz, q _ H1 (Same.refl H1) (Td.str _)⟩)
theorem ef_addL {ds es : List PyData} (ha : Ef ta σ H ds) (hb : Ef tb σ H es) (hz : ds.length + es.length ≤ sizeLine) : Ef (tOp rAddG ta tb) σ H (ds ++ es) := fun H1 s Q q =>
  ha H1 s _ fun p xs H2 hp s2 h2 hx => hb H2 (s.trans s2) _ fun r ys H3 hr s3 h3 hy =>
    .inr (.inr ⟨p, r, xs, ys, rfl, rfl, s3 _ _ h2, h3, by rw [hx.length, hy.length]; exact hz, fun z hz0 => q z _ _ (s2.free (s3.free hz0)) ((s2.trans s3).trans (Same.new hz0)) upd_same
      (((hx.sm s3).append hy).tx (Tx.new hz0))⟩)
theorem ev_subI {i j : Int} (ha : Ev K ta σ H (.t (.int i))) (hb : Ev K tb σ H (.t (.int j))) : Ev K (tOp (rI0 fun i j => .int (i - j)) ta tb) σ H (.t (.int (i - j))) :=
  ev_op ha hb fun x y H1 hx hy Q q => ⟨i, j, Td.int_of hx, Td.int_of hy, q _ H1 (Same.refl H1) (Td.int _)⟩
theorem ev_mulI {i j : Int} (ha : Ev K ta σ H (.t (.int i))) (hb : Ev K tb σ H (.t (.int j))) (hc : CMul i j) : Ev K (tOp (rI CMul fun i j => .int (i * j)) ta tb) σ H (.t (.int (i * j))) :=
  ev_op ha hb fun x y H1 hx hy Q q => ⟨i, j, Td.int_of hx, Td.int_of hy, hc, q _ H1 (Same.refl H1) (Td.int _)⟩
theorem ev_modI {i j : Int} (ha : Ev K ta σ H (.t (.int i))) (hb : Ev K tb σ H (.t (.int j))) (hc : 0 < j) : Ev K (tOp (rI (fun _ j => 0 < j) fun i j => .int (i % j)) ta tb) σ H (.t (.int (i % j))) :=
  ev_op ha hb fun x y H1 hx hy Q q => ⟨i, j, Td.int_of hx, Td.int_of hy, hc, q _ H1 (Same.refl H1) (Td.int _)⟩
theorem ev_divI {i j : Int} (ha : Ev K ta σ H (.t (.int i))) (hb : Ev K tb σ H (.t (.int j))) (hc : CDiv i j) : Ev K (tOp (rI CDiv fun i j => .int (i / j)) ta tb) σ H (.t (.int (i / j))) :=
  ev_op ha hb fun x y H1 hx hy Q q => ⟨i, j, Td.int_of hx, Td.int_of hy, hc, q _ H1 (Same.refl H1) (Td.int _)⟩
/-- a comparison of ints -/
theorem ev_cmpI {f : Int → Int → Bool} {i j : Int} (ha : Ev K ta σ H (.t (.int i))) (hb : Ev K tb σ H (.t (.int j))) : Ev K (tOp (rI0 fun i j => .bl (f i j)) ta tb) σ H (.t (.bool (f i j))) :=
  ev_op ha hb fun x y H1 hx hy Q q => ⟨i, j, Td.int_of hx, Td.int_of hy, q _ H1 (Same.refl H1) (Td.bl _)⟩
/-! ### places -/
theorem atI_get {α : Type} {xs : List α} {i : Int} {v : α} {j : Nat} (hj : ixN xs.length i = some j) (hv : xs[j]? = some v) : atI xs i = some v := by
  unfold atI
  rw [hj]
  exact hv
theorem atI_nn {α : Type} {xs : List α} {j : Nat} {v : α} (hv : xs[j]? = some v) : atI xs (j : Int) = some v := by
  have h : j < xs.length := (List.getElem?_eq_some_iff.mp hv).1
  refine atI_get (j := j) ?_ hv
  unfold ixN
  rw [if_pos (by omega), if_pos (by omega)]
  simp
theorem ev_ixT {ds : List PyData} {i : Int} (ha : Ev K ta σ H (.t (.tuple ds))) (hb : Ev K tb σ H (.t (.int i))) (h : atI ds i = some d) : Ev K (tOp (rIx K) ta tb) σ H (.t d) :=
  ev_op ha hb fun x y H1 hx hy Q q => by
    obtain ⟨a, xs, rfl, h1, t⟩ := Td.tup_of hx
    have hl := t.length
    unfold atI at h
    cases hj : ixN ds.length i with
    | none => rw [hj] at h; cases h
    | some j =>
      rw [hj] at h
      obtain ⟨v, e1, e2⟩ := t.get (i := j) h
      exact .inr (.inl ⟨a, xs, i, v, rfl, Td.int_of hy, SqT.of h1, atI_get (by rw [hl]; exact hj) e1, q v H1 (Same.refl H1) e2⟩)
theorem ev_ixL {ds : List PyData} {i : Int} (ha : Ev K ta σ H (.l ds)) (hb : Ev K tb σ H (.t (.int i))) (h : atI ds i = some d) : Ev K (tOp (rIx K) ta tb) σ H (.t d) :=
  ev_op ha hb fun x y H1 hx hy Q q => by
    obtain ⟨a, xs, rfl, h1, t⟩ := hx
    have hl := t.length
    unfold atI at h
    cases hj : ixN ds.length i with
    | none => rw [hj] at h; cases h
    | some j =>
      rw [hj] at h
      obtain ⟨v, e1, e2⟩ := t.get (i := j) h
      exact .inl ⟨a, xs, i, v, rfl, Td.int_of hy, h1, atI_get (by rw [hl]; exact hj) e1, q v H1 (Same.refl H1) e2⟩
theorem ev_ixS {z : Str} {i : Int} {c : Nat} (ha : Ev K ta σ H (.t (.str z))) (hb : Ev K tb σ H (.t (.int i))) (hz : z.length ≤ sizeLine) (h : atI z.cps.toList i = some c) : Ev K (tOp (rIx K) ta tb) σ H (.t (.str ⟨#[c]⟩)) :=
  ev_op ha hb fun x y H1 hx hy Q q => .inr (.inr ⟨z, i, c, Td.str_of hx, Td.int_of hy, hz, h, q _ H1 (Same.refl H1) (Td.str _)⟩)
/-! ### is None -/
def isNonD : PyData → Bool
  | .none => true
  | _ => false
theorem non_td {v : V} (h : Td H v d) : decide (v = .non) = isNonD d := by
  cases h <;> simp [isNonD]
theorem ev_isN {r : Bool} (ha : Ev K ta σ H (.t d)) (hr : isNonD d = r) : Ev K (tIsN ta) σ H (.t (.bool r)) := fun H1 s Q q =>
  ha H1 s _ fun v H2 s2 hv => q _ H2 s2 (by rw [non_td hv, hr]; exact Td.bl _)
theorem ev_notN {r : Bool} (ha : Ev K ta σ H (.t d)) (hr : (!isNonD d) = r) : Ev K (tNotN ta) σ H (.t (.bool r)) := fun H1 s Q q =>
  ha H1 s _ fun v H2 s2 hv => q _ H2 s2 (by rw [non_td hv, hr]; exact Td.bl _)
end

/-! ### rules that name the written part -/
section
variable {X : Cx} {a b o : Expr} {ta tb : TE} {pos : Pos} {K : PySem.W.Frag}
theorem pe_ixK (ha : PE X a ta) (hb : PE X b tb) (hs : PlainIx b) (hK : X.K = K := by rfl) : PE X (.Subscript a b pos) (tOp (rIx K) ta tb) := by
  subst hK
  exact pe_ix ix_seq ha hb hs
theorem op_eqSK {k : Nat} (hr : Room k X.A) (hK : X.K = K := by rfl) : OpR X (compareOp .Eq) (rEqG K 200) := by
  subst hK
  exact op_eqS hr
theorem op_neSK {k : Nat} (hr : Room k X.A) (hK : X.K = K := by rfl) : OpR X (compareOp .NotEq) (rNeG K 200) := by
  subst hK
  exact op_neS hr
def rLenK (K : PySem.W.Frag) : List V → Hp → VK → Prop := fun xs H Q => ∃ x n, xs = [x] ∧ LenV K x H n ∧ Q (.int n) H
theorem call_lenK (hK : X.K = K := by rfl) : CallR X (.builtin "len") (rLenK K) := by
  subst hK
  exact call_len
theorem pe_fldK {f : Str} (he : PE X o ta) (hb : attributeBase o f X.env (eval o X.env) = eval o X.env) (hK : X.K = K := by rfl) : PE X (.Attribute o f pos) (tFld K ta f) := by
  subst hK
  exact pe_fld he hb
end

/-! ### a def with its promise -/
structure Has (P : Program) (w : World) (K : PySem.W.Frag) (mg : Str → Option Value) (base : Heap) (x : Str) (ps : List Str) (k : Nat) (sp : Sp) : Prop where
  ex : ∃ f fd, mg x = some (.ref f) ∧ PySem.W.keepIn K (.ref f) = true ∧ Binds K fd ps [] ∧ FnOk P w K mg base CX0 k f fd ps sp
section
variable {X : Cx} {x : Str} {ps : List Str} {k : Nat} {sp : Sp} {e : Expr} {es : List Expr} {t : TA} {p pos : Pos}
theorem pc (G : Has X.prog X.w X.K X.mg X.base x ps k sp) (hr : Room k X.A) (ha : PA X (e :: es) t) (hg : Gl X x := by rfl) (hdb : (x == ("__debug__" : Str)) = false := by decide)
    (he : starEach (e :: es) X.env = (false, eval e X.env) :: starEach es X.env := by rfl) (hpl : (backTo pos (starEach es X.env)).any (·.1) = false := by rfl) : PE X (.Call (.Name x p) (e :: es) [] pos) (tCall sp [] E0 t) := by
  obtain ⟨f, fd, hm, hk, hb, F⟩ := G.ex
  exact pe_call F hr hg hm hk hb .nil pass0 ha hdb he hpl
theorem pc0 (G : Has X.prog X.w X.K X.mg X.base x ps k sp) (hr : Room k X.A) (hg : Gl X x := by rfl) (hdb : (x == ("__debug__" : Str)) = false := by decide) : PE X (.Call (.Name x p) [] [] pos) (tCall sp [] E0 tNil) := by
  obtain ⟨f, fd, hm, hk, hb, F⟩ := G.ex
  exact pe_call0 F hr hg hm hk hb .nil pass0 hdb
end
theorem has_mk {P : Program} {w : World} {K : PySem.W.Frag} {mg : Str → Option Value} {base : Heap} {x : Str} {ps N : List Str} {k : Nat} {sp : Sp} {params : Arguments} {body : List Stmt} {scope : Scope} {f : Addr}
    (hm : mg x = some (.ref f)) (hF : ∃ fd, FunD K x x params body scope [] [] f fd) (S : FnScope N ps scope) (len : ∀ vs H Q E, sp vs H Q E → vs.length = ps.length)
    (bd : ∀ (kV doc pm : Value) (an : Option Addr) (cdv ct : Value) (us : List Value), us.length = ps.length → bindArgs (PySem.W.fnOf x x params body scope .none kV doc pm an cdv ct) ⟨us, []⟩ = pure (ps.zip us))
    (hb : ∀ (cdv : Value) (A : Around) (outer : List Env) (s : Shared) (H : Hp) (vs : List V) (Q : VK) (E : XK), Room k (A.deeper (envOfC x scope s.heap.objs.size f cdv)) → sp vs H Q E →
      ∃ t, PSs (cxOf CX0 P w K mg base N x scope f cdv A outer s H E).nox body t ∧ t { nx := fun _ H' => Q .non H', rt := Q } (start N vs) H) : Has P w K mg base x ps (k + 1) sp := by
  obtain ⟨fd, F⟩ := hF
  refine ⟨f, fd, hm, F.kp, F.bindsN bd, F.ok S len fun cdv A outer s H vs Q E hr h => ?_⟩
  obtain ⟨t, h1, h2⟩ := hb cdv A outer s H vs Q E hr h
  exact ⟨t, h1.nox, h2⟩
/-- a def with one default, all values given -/
theorem has_mkD {P : Program} {w : World} {K : PySem.W.Frag} {mg : Str → Option Value} {base : Heap} {x : Str} {ps N : List Str} {k : Nat} {sp : Sp} {params : Arguments} {body : List Stmt} {scope : Scope} {f : Addr} {dv : V}
    (hm : mg x = some (.ref f)) (hF : ∃ fd, FunD K x x params body scope [dv] [] f fd) (S : FnScope N ps scope) (len : ∀ vs H Q E, sp vs H Q E → vs.length = ps.length)
    (bd : ∀ (T : Addr) (kV doc pm : Value) (an : Option Addr) (cdv ct : Value) (us its : List Value), us.length = ps.length → its.length = 1 →
      ∃ k, bindArgs (PySem.W.fnOf x x params body scope (.ref T) kV doc pm an cdv ct) ⟨us, []⟩ = seqItems? (.ref T) >>= k ∧ k (some its.toArray) = pure (ps.zip (us ++ its.drop 1)))
    (hb : ∀ (cdv : Value) (A : Around) (outer : List Env) (s : Shared) (H : Hp) (vs : List V) (Q : VK) (E : XK), Room k (A.deeper (envOfC x scope s.heap.objs.size f cdv)) → sp vs H Q E →
      ∃ t, PSs (cxOf CX0 P w K mg base N x scope f cdv A outer s H E).nox body t ∧ t { nx := fun _ H' => Q .non H', rt := Q } (start N vs) H) : Has P w K mg base x ps (k + 1) sp := by
  obtain ⟨fd, F⟩ := hF
  obtain ⟨ds, hv, hd⟩ := F.binds1 ps.length 1 (by simp) (by simp) bd
  have e : ds = [] := by cases hv; rfl
  subst e
  refine ⟨f, fd, hm, F.kp, hd, F.ok S len fun cdv A outer s H vs Q E hr h => ?_⟩
  obtain ⟨t, h1, h2⟩ := hb cdv A outer s H vs Q E hr h
  exact ⟨t, h1.nox, h2⟩
/-- the same, called without the last value -/
structure HasD (P : Program) (w : World) (K : PySem.W.Frag) (mg : Str → Option Value) (base : Heap) (x : Str) (ps : List Str) (k : Nat) (sp : Sp) (dv : V) : Prop where
  ex : ∃ f fd ds, mg x = some (.ref f) ∧ PySem.W.keepIn K (.ref f) = true ∧ Vals [dv] ds ∧ Binds K fd ps ds ∧ FnOk P w K mg base CX0 k f fd ps sp
theorem hasD_mk {P : Program} {w : World} {K : PySem.W.Frag} {mg : Str → Option Value} {base : Heap} {x : Str} {ps N : List Str} {k n : Nat} {sp : Sp} {params : Arguments} {body : List Stmt} {scope : Scope} {f : Addr} {dv : V}
    (hm : mg x = some (.ref f)) (hF : ∃ fd, FunD K x x params body scope [dv] [] f fd) (S : FnScope N ps scope) (len : ∀ vs H Q E, sp vs H Q E → vs.length = ps.length) (hn : n + 1 = ps.length)
    (bd : ∀ (T : Addr) (kV doc pm : Value) (an : Option Addr) (cdv ct : Value) (us its : List Value), us.length = n → its.length = 1 →
      ∃ k, bindArgs (PySem.W.fnOf x x params body scope (.ref T) kV doc pm an cdv ct) ⟨us, []⟩ = seqItems? (.ref T) >>= k ∧ k (some its.toArray) = pure (ps.zip (us ++ its.drop 0)))
    (hb : ∀ (cdv : Value) (A : Around) (outer : List Env) (s : Shared) (H : Hp) (vs : List V) (Q : VK) (E : XK), Room k (A.deeper (envOfC x scope s.heap.objs.size f cdv)) → sp vs H Q E →
      ∃ t, PSs (cxOf CX0 P w K mg base N x scope f cdv A outer s H E).nox body t ∧ t { nx := fun _ H' => Q .non H', rt := Q } (start N vs) H) : HasD P w K mg base x ps (k + 1) sp dv := by
  obtain ⟨fd, F⟩ := hF
  obtain ⟨ds, hv, hd⟩ := F.binds1 n 0 (by simp) (by simpa using hn) bd
  refine ⟨f, fd, ds, hm, F.kp, hv, hd, F.ok S len fun cdv A outer s H vs Q E hr h => ?_⟩
  obtain ⟨t, h1, h2⟩ := hb cdv A outer s H vs Q E hr h
  exact ⟨t, h1.nox, h2⟩
theorem pcD {X : Cx} {x : Str} {ps : List Str} {k : Nat} {sp : Sp} {e : Expr} {es : List Expr} {t : TA} {p pos : Pos} {dv : V} (G : HasD X.prog X.w X.K X.mg X.base x ps k sp dv) (hr : Room k X.A) (ha : PA X (e :: es) t) (hg : Gl X x := by rfl) (hdb : (x == ("__debug__" : Str)) = false := by decide)
    (he : starEach (e :: es) X.env = (false, eval e X.env) :: starEach es X.env := by rfl) (hpl : (backTo pos (starEach es X.env)).any (·.1) = false := by rfl) : PE X (.Call (.Name x p) (e :: es) [] pos) (tCall sp [dv] E0 t) := by
  obtain ⟨f, fd, ds, hm, hk, hv, hb, F⟩ := G.ex
  exact pe_call F hr hg hm hk hb hv pass0 ha hdb he hpl
theorem SpT.len {K : PySem.W.Frag} {F : Gr} {n : Nat} (h : ∀ as d, F as d → as.length = n) : ∀ vs H Q E, SpT K F vs H Q E → vs.length = n := fun vs H Q E ⟨as, d, f, t, _⟩ => by rw [t.length]; exact h as d f
theorem SpG.len {K : PySem.W.Frag} {F : List Ag → Ag → Prop} {n : Nat} (h : ∀ as d, F as d → as.length = n) : ∀ vs H Q E, SpG K F vs H Q E → vs.length = n := fun vs H Q E ⟨as, d, f, t, _⟩ => by rw [t.length]; exact h as d f
theorem SpL.len {K : PySem.W.Frag} {F : GrL} {n : Nat} (h : ∀ as d, F as d → as.length = n) : ∀ vs H Q E, SpL K F vs H Q E → vs.length = n := fun vs H Q E ⟨as, d, f, t, _⟩ => by rw [t.length]; exact h as d f
end My

namespace My
open PySem PySem.Spec PyProof.Rows L2
structure Txt (P : Program) (w : World) (K : PySem.W.Frag) (mg : Str → Option Value) (base : Heap) : Prop where
  c : He.SaysD fa fn K
  hp : ∃ h : Heap, K.In h ∧ h.Ns mainGlobals mg
section
variable {P : Program} {w : World} {K : PySem.W.Frag} {mg : Str → Option Value} {base : Heap} {X : Cx}
theorem Txt.glo_counter_image (T : Txt P w K mg base) : mg "counter_image" = some (.ref (He.ga K "counter_image")) := let ⟨_, X, G⟩ := T.hp; He.glo_ok X G (T.c.fact 0 (f := .glo "counter_image") rfl)
theorem Txt.glo_lap_of (T : Txt P w K mg base) : mg "lap_of" = some (.ref (He.ga K "lap_of")) := let ⟨_, X, G⟩ := T.hp; He.glo_ok X G (T.c.fact 1 (f := .glo "lap_of") rfl)
theorem Txt.glo_copied (T : Txt P w K mg base) : mg "copied" = some (.ref (He.ga K "copied")) := let ⟨_, X, G⟩ := T.hp; He.glo_ok X G (T.c.fact 2 (f := .glo "copied") rfl)
theorem Txt.glo_up_rules (T : Txt P w K mg base) : mg "up_rules" = some (.ref (He.ga K "up_rules")) := let ⟨_, X, G⟩ := T.hp; He.glo_ok X G (T.c.fact 3 (f := .glo "up_rules") rfl)
theorem Txt.glo_down_rules (T : Txt P w K mg base) : mg "down_rules" = some (.ref (He.ga K "down_rules")) := let ⟨_, X, G⟩ := T.hp; He.glo_ok X G (T.c.fact 4 (f := .glo "down_rules") rfl)
theorem Txt.glo_make_rows (T : Txt P w K mg base) : mg "make_rows" = some (.ref (He.ga K "make_rows")) := let ⟨_, X, G⟩ := T.hp; He.glo_ok X G (T.c.fact 5 (f := .glo "make_rows") rfl)
theorem Txt.glo_counter_told (T : Txt P w K mg base) : mg "counter_told" = some (.ref (He.ga K "counter_told")) := let ⟨_, X, G⟩ := T.hp; He.glo_ok X G (T.c.fact 6 (f := .glo "counter_told") rfl)
theorem Txt.glo_row_image (T : Txt P w K mg base) : mg "row_image" = some (.ref (He.ga K "row_image")) := let ⟨_, X, G⟩ := T.hp; He.glo_ok X G (T.c.fact 7 (f := .glo "row_image") rfl)
theorem Txt.glo_rules_for (T : Txt P w K mg base) : mg "rules_for" = some (.ref (He.ga K "rules_for")) := let ⟨_, X, G⟩ := T.hp; He.glo_ok X G (T.c.fact 8 (f := .glo "rules_for") rfl)
theorem Txt.glo_make_tape (T : Txt P w K mg base) : mg "make_tape" = some (.ref (He.ga K "make_tape")) := let ⟨_, X, G⟩ := T.hp; He.glo_ok X G (T.c.fact 9 (f := .glo "make_tape") rfl)
theorem Txt.glo_row_told (T : Txt P w K mg base) : mg "row_told" = some (.ref (He.ga K "row_told")) := let ⟨_, X, G⟩ := T.hp; He.glo_ok X G (T.c.fact 10 (f := .glo "row_told") rfl)
theorem Txt.glo_is_value (T : Txt P w K mg base) : mg "is_value" = some (.ref (He.ga K "is_value")) := let ⟨_, X, G⟩ := T.hp; He.glo_ok X G (T.c.fact 11 (f := .glo "is_value") rfl)
theorem Txt.glo_leaves (T : Txt P w K mg base) : mg "leaves" = some (.ref (He.ga K "leaves")) := let ⟨_, X, G⟩ := T.hp; He.glo_ok X G (T.c.fact 12 (f := .glo "leaves") rfl)
theorem Txt.glo_is_done (T : Txt P w K mg base) : mg "is_done" = some (.ref (He.ga K "is_done")) := let ⟨_, X, G⟩ := T.hp; He.glo_ok X G (T.c.fact 13 (f := .glo "is_done") rfl)
theorem Txt.glo_joint (T : Txt P w K mg base) : mg "joint" = some (.ref (He.ga K "joint")) := let ⟨_, X, G⟩ := T.hp; He.glo_ok X G (T.c.fact 14 (f := .glo "joint") rfl)
theorem Txt.glo_became (T : Txt P w K mg base) : mg "became" = some (.ref (He.ga K "became")) := let ⟨_, X, G⟩ := T.hp; He.glo_ok X G (T.c.fact 15 (f := .glo "became") rfl)
theorem Txt.glo_opened (T : Txt P w K mg base) : mg "opened" = some (.ref (He.ga K "opened")) := let ⟨_, X, G⟩ := T.hp; He.glo_ok X G (T.c.fact 16 (f := .glo "opened") rfl)
theorem Txt.glo_one_up (T : Txt P w K mg base) : mg "one_up" = some (.ref (He.ga K "one_up")) := let ⟨_, X, G⟩ := T.hp; He.glo_ok X G (T.c.fact 17 (f := .glo "one_up") rfl)
theorem Txt.glo_closed (T : Txt P w K mg base) : mg "closed" = some (.ref (He.ga K "closed")) := let ⟨_, X, G⟩ := T.hp; He.glo_ok X G (T.c.fact 18 (f := .glo "closed") rfl)
theorem Txt.glo_tree_run (T : Txt P w K mg base) : mg "tree_run" = some (.ref (He.ga K "tree_run")) := let ⟨_, X, G⟩ := T.hp; He.glo_ok X G (T.c.fact 19 (f := .glo "tree_run") rfl)
theorem Txt.glo_idle (T : Txt P w K mg base) : mg "idle" = some (.ref (He.ga K "idle")) := let ⟨_, X, G⟩ := T.hp; He.glo_ok X G (T.c.fact 20 (f := .glo "idle") rfl)
theorem Txt.glo_is_joint (T : Txt P w K mg base) : mg "is_joint" = some (.ref (He.ga K "is_joint")) := let ⟨_, X, G⟩ := T.hp; He.glo_ok X G (T.c.fact 21 (f := .glo "is_joint") rfl)
theorem Txt.glo_pick (T : Txt P w K mg base) : mg "pick" = some (.ref (He.ga K "pick")) := let ⟨_, X, G⟩ := T.hp; He.glo_ok X G (T.c.fact 22 (f := .glo "pick") rfl)
theorem Txt.glo_pick_cost (T : Txt P w K mg base) : mg "pick_cost" = some (.ref (He.ga K "pick_cost")) := let ⟨_, X, G⟩ := T.hp; He.glo_ok X G (T.c.fact 23 (f := .glo "pick_cost") rfl)
theorem Txt.glo_picked (T : Txt P w K mg base) : mg "picked" = some (.ref (He.ga K "picked")) := let ⟨_, X, G⟩ := T.hp; He.glo_ok X G (T.c.fact 24 (f := .glo "picked") rfl)
theorem Txt.glo_folded (T : Txt P w K mg base) : mg "folded" = some (.ref (He.ga K "folded")) := let ⟨_, X, G⟩ := T.hp; He.glo_ok X G (T.c.fact 25 (f := .glo "folded") rfl)
theorem Txt.glo_is_cell (T : Txt P w K mg base) : mg "is_cell" = some (.ref (He.ga K "is_cell")) := let ⟨_, X, G⟩ := T.hp; He.glo_ok X G (T.c.fact 26 (f := .glo "is_cell") rfl)
theorem Txt.glo_unfolded (T : Txt P w K mg base) : mg "unfolded" = some (.ref (He.ga K "unfolded")) := let ⟨_, X, G⟩ := T.hp; He.glo_ok X G (T.c.fact 27 (f := .glo "unfolded") rfl)
theorem Txt.glo_list_of (T : Txt P w K mg base) : mg "list_of" = some (.ref (He.ga K "list_of")) := let ⟨_, X, G⟩ := T.hp; He.glo_ok X G (T.c.fact 28 (f := .glo "list_of") rfl)
theorem Txt.glo_things_of (T : Txt P w K mg base) : mg "things_of" = some (.ref (He.ga K "things_of")) := let ⟨_, X, G⟩ := T.hp; He.glo_ok X G (T.c.fact 29 (f := .glo "things_of") rfl)
theorem Txt.glo_pack (T : Txt P w K mg base) : mg "pack" = some (.ref (He.ga K "pack")) := let ⟨_, X, G⟩ := T.hp; He.glo_ok X G (T.c.fact 30 (f := .glo "pack") rfl)
theorem Txt.glo_end_of (T : Txt P w K mg base) : mg "end_of" = some (.ref (He.ga K "end_of")) := let ⟨_, X, G⟩ := T.hp; He.glo_ok X G (T.c.fact 31 (f := .glo "end_of") rfl)
theorem Txt.glo_put_in (T : Txt P w K mg base) : mg "put_in" = some (.ref (He.ga K "put_in")) := let ⟨_, X, G⟩ := T.hp; He.glo_ok X G (T.c.fact 32 (f := .glo "put_in") rfl)
theorem Txt.glo_parted (T : Txt P w K mg base) : mg "parted" = some (.ref (He.ga K "parted")) := let ⟨_, X, G⟩ := T.hp; He.glo_ok X G (T.c.fact 33 (f := .glo "parted") rfl)
theorem Txt.glo_taken_out (T : Txt P w K mg base) : mg "taken_out" = some (.ref (He.ga K "taken_out")) := let ⟨_, X, G⟩ := T.hp; He.glo_ok X G (T.c.fact 34 (f := .glo "taken_out") rfl)
theorem Txt.glo_made_of (T : Txt P w K mg base) : mg "made_of" = some (.ref (He.ga K "made_of")) := let ⟨_, X, G⟩ := T.hp; He.glo_ok X G (T.c.fact 35 (f := .glo "made_of") rfl)
theorem Txt.glo_made_costs (T : Txt P w K mg base) : mg "made_costs" = some (.ref (He.ga K "made_costs")) := let ⟨_, X, G⟩ := T.hp; He.glo_ok X G (T.c.fact 36 (f := .glo "made_costs") rfl)
theorem Txt.glo_handed (T : Txt P w K mg base) : mg "handed" = some (.ref (He.ga K "handed")) := let ⟨_, X, G⟩ := T.hp; He.glo_ok X G (T.c.fact 37 (f := .glo "handed") rfl)
theorem Txt.glo_list_grown (T : Txt P w K mg base) : mg "list_grown" = some (.ref (He.ga K "list_grown")) := let ⟨_, X, G⟩ := T.hp; He.glo_ok X G (T.c.fact 38 (f := .glo "list_grown") rfl)
theorem Txt.glo_next_term (T : Txt P w K mg base) : mg "next_term" = some (.ref (He.ga K "next_term")) := let ⟨_, X, G⟩ := T.hp; He.glo_ok X G (T.c.fact 39 (f := .glo "next_term") rfl)
theorem Txt.glo_end_names (T : Txt P w K mg base) : mg "end_names" = some (.ref (He.ga K "end_names")) := let ⟨_, X, G⟩ := T.hp; He.glo_ok X G (T.c.fact 40 (f := .glo "end_names") rfl)
theorem Txt.glo_side_names (T : Txt P w K mg base) : mg "side_names" = some (.ref (He.ga K "side_names")) := let ⟨_, X, G⟩ := T.hp; He.glo_ok X G (T.c.fact 41 (f := .glo "side_names") rfl)
theorem Txt.glo_bare_names (T : Txt P w K mg base) : mg "bare_names" = some (.ref (He.ga K "bare_names")) := let ⟨_, X, G⟩ := T.hp; He.glo_ok X G (T.c.fact 42 (f := .glo "bare_names") rfl)
theorem Txt.glo_cell_names (T : Txt P w K mg base) : mg "cell_names" = some (.ref (He.ga K "cell_names")) := let ⟨_, X, G⟩ := T.hp; He.glo_ok X G (T.c.fact 43 (f := .glo "cell_names") rfl)
theorem Txt.glo_chooser_names (T : Txt P w K mg base) : mg "chooser_names" = some (.ref (He.ga K "chooser_names")) := let ⟨_, X, G⟩ := T.hp; He.glo_ok X G (T.c.fact 44 (f := .glo "chooser_names") rfl)
theorem Txt.glo_made_pair (T : Txt P w K mg base) : mg "made_pair" = some (.ref (He.ga K "made_pair")) := let ⟨_, X, G⟩ := T.hp; He.glo_ok X G (T.c.fact 45 (f := .glo "made_pair") rfl)
theorem Txt.glo_cost_of (T : Txt P w K mg base) : mg "cost_of" = some (.ref (He.ga K "cost_of")) := let ⟨_, X, G⟩ := T.hp; He.glo_ok X G (T.c.fact 46 (f := .glo "cost_of") rfl)
theorem Txt.glo_with_last (T : Txt P w K mg base) : mg "with_last" = some (.ref (He.ga K "with_last")) := let ⟨_, X, G⟩ := T.hp; He.glo_ok X G (T.c.fact 47 (f := .glo "with_last") rfl)
theorem Txt.glo_state_tree (T : Txt P w K mg base) : mg "state_tree" = some (.ref (He.ga K "state_tree")) := let ⟨_, X, G⟩ := T.hp; He.glo_ok X G (T.c.fact 48 (f := .glo "state_tree") rfl)
theorem Txt.glo_sides_of (T : Txt P w K mg base) : mg "sides_of" = some (.ref (He.ga K "sides_of")) := let ⟨_, X, G⟩ := T.hp; He.glo_ok X G (T.c.fact 49 (f := .glo "sides_of") rfl)
theorem Txt.glo_tape_image (T : Txt P w K mg base) : mg "tape_image" = some (.ref (He.ga K "tape_image")) := let ⟨_, X, G⟩ := T.hp; He.glo_ok X G (T.c.fact 50 (f := .glo "tape_image") rfl)
theorem Txt.glo_next_cost (T : Txt P w K mg base) : mg "next_cost" = some (.ref (He.ga K "next_cost")) := let ⟨_, X, G⟩ := T.hp; He.glo_ok X G (T.c.fact 51 (f := .glo "next_cost") rfl)
theorem Txt.glo_tape_cost (T : Txt P w K mg base) : mg "tape_cost" = some (.ref (He.ga K "tape_cost")) := let ⟨_, X, G⟩ := T.hp; He.glo_ok X G (T.c.fact 52 (f := .glo "tape_cost") rfl)
theorem Txt.glo_side_told (T : Txt P w K mg base) : mg "side_told" = some (.ref (He.ga K "side_told")) := let ⟨_, X, G⟩ := T.hp; He.glo_ok X G (T.c.fact 53 (f := .glo "side_told") rfl)
theorem Txt.glo_stand_told (T : Txt P w K mg base) : mg "stand_told" = some (.ref (He.ga K "stand_told")) := let ⟨_, X, G⟩ := T.hp; He.glo_ok X G (T.c.fact 54 (f := .glo "stand_told") rfl)
theorem Txt.glo_state_told (T : Txt P w K mg base) : mg "state_told" = some (.ref (He.ga K "state_told")) := let ⟨_, X, G⟩ := T.hp; He.glo_ok X G (T.c.fact 55 (f := .glo "state_told") rfl)
theorem Txt.glo_image_told (T : Txt P w K mg base) : mg "image_told" = some (.ref (He.ga K "image_told")) := let ⟨_, X, G⟩ := T.hp; He.glo_ok X G (T.c.fact 56 (f := .glo "image_told") rfl)
theorem Txt.glo_end_told (T : Txt P w K mg base) : mg "end_told" = some (.ref (He.ga K "end_told")) := let ⟨_, X, G⟩ := T.hp; He.glo_ok X G (T.c.fact 57 (f := .glo "end_told") rfl)
theorem Txt.glo_states_in (T : Txt P w K mg base) : mg "states_in" = some (.ref (He.ga K "states_in")) := let ⟨_, X, G⟩ := T.hp; He.glo_ok X G (T.c.fact 58 (f := .glo "states_in") rfl)
theorem Txt.glo_chain_image (T : Txt P w K mg base) : mg "chain_image" = some (.ref (He.ga K "chain_image")) := let ⟨_, X, G⟩ := T.hp; He.glo_ok X G (T.c.fact 59 (f := .glo "chain_image") rfl)
theorem Txt.glo_chain_told (T : Txt P w K mg base) : mg "chain_told" = some (.ref (He.ga K "chain_told")) := let ⟨_, X, G⟩ := T.hp; He.glo_ok X G (T.c.fact 60 (f := .glo "chain_told") rfl)
theorem Txt.glo__law_cell (T : Txt P w K mg base) : mg "_law_cell" = some (.ref (He.ga K "_law_cell")) := let ⟨_, X, G⟩ := T.hp; He.glo_ok X G (T.c.fact 61 (f := .glo "_law_cell") rfl)
theorem Txt.glo__law_whole (T : Txt P w K mg base) : mg "_law_whole" = some (.ref (He.ga K "_law_whole")) := let ⟨_, X, G⟩ := T.hp; He.glo_ok X G (T.c.fact 62 (f := .glo "_law_whole") rfl)
theorem Txt.glo__law_program (T : Txt P w K mg base) : mg "_law_program" = some (.ref (He.ga K "_law_program")) := let ⟨_, X, G⟩ := T.hp; He.glo_ok X G (T.c.fact 63 (f := .glo "_law_program") rfl)
theorem Txt.glo__law_drawn_stand (T : Txt P w K mg base) : mg "_law_drawn_stand" = some (.ref (He.ga K "_law_drawn_stand")) := let ⟨_, X, G⟩ := T.hp; He.glo_ok X G (T.c.fact 64 (f := .glo "_law_drawn_stand") rfl)
theorem Txt.glo__law_stepped (T : Txt P w K mg base) : mg "_law_stepped" = some (.ref (He.ga K "_law_stepped")) := let ⟨_, X, G⟩ := T.hp; He.glo_ok X G (T.c.fact 65 (f := .glo "_law_stepped") rfl)
theorem Txt.glo__law_row_image (T : Txt P w K mg base) : mg "_law_row_image" = some (.ref (He.ga K "_law_row_image")) := let ⟨_, X, G⟩ := T.hp; He.glo_ok X G (T.c.fact 66 (f := .glo "_law_row_image") rfl)
theorem Txt.glo__law_next (T : Txt P w K mg base) : mg "_law_next" = some (.ref (He.ga K "_law_next")) := let ⟨_, X, G⟩ := T.hp; He.glo_ok X G (T.c.fact 67 (f := .glo "_law_next") rfl)
theorem Txt.glo__law_many_steps (T : Txt P w K mg base) : mg "_law_many_steps" = some (.ref (He.ga K "_law_many_steps")) := let ⟨_, X, G⟩ := T.hp; He.glo_ok X G (T.c.fact 68 (f := .glo "_law_many_steps") rfl)
theorem Txt.glo__law_tape_stands (T : Txt P w K mg base) : mg "_law_tape_stands" = some (.ref (He.ga K "_law_tape_stands")) := let ⟨_, X, G⟩ := T.hp; He.glo_ok X G (T.c.fact 69 (f := .glo "_law_tape_stands") rfl)
theorem Txt.glo__law_made_right (T : Txt P w K mg base) : mg "_law_made_right" = some (.ref (He.ga K "_law_made_right")) := let ⟨_, X, G⟩ := T.hp; He.glo_ok X G (T.c.fact 70 (f := .glo "_law_made_right") rfl)
theorem Txt.glo__law_gone (T : Txt P w K mg base) : mg "_law_gone" = some (.ref (He.ga K "_law_gone")) := let ⟨_, X, G⟩ := T.hp; He.glo_ok X G (T.c.fact 71 (f := .glo "_law_gone") rfl)
theorem Txt.glo__law_goes (T : Txt P w K mg base) : mg "_law_goes" = some (.ref (He.ga K "_law_goes")) := let ⟨_, X, G⟩ := T.hp; He.glo_ok X G (T.c.fact 72 (f := .glo "_law_goes") rfl)
theorem Txt.glo__law_ends (T : Txt P w K mg base) : mg "_law_ends" = some (.ref (He.ga K "_law_ends")) := let ⟨_, X, G⟩ := T.hp; He.glo_ok X G (T.c.fact 73 (f := .glo "_law_ends") rfl)
theorem Txt.glo_law (T : Txt P w K mg base) : mg "law" = some (.ref (He.ga K "law")) := let ⟨_, X, G⟩ := T.hp; He.glo_ok X G (T.c.fact 74 (f := .glo "law") rfl)
theorem Txt.glo_Between (T : Txt P w K mg base) : mg "Between" = some (.ref (He.ga K "Between")) := let ⟨_, X, G⟩ := T.hp; He.glo_ok X G (T.c.fact 75 (f := .glo "Between") rfl)
theorem Txt.glo_Book (T : Txt P w K mg base) : mg "Book" = some (.ref (He.ga K "Book")) := let ⟨_, X, G⟩ := T.hp; He.glo_ok X G (T.c.fact 76 (f := .glo "Book") rfl)
theorem Txt.glo_Chain (T : Txt P w K mg base) : mg "Chain" = some (.ref (He.ga K "Chain")) := let ⟨_, X, G⟩ := T.hp; He.glo_ok X G (T.c.fact 77 (f := .glo "Chain") rfl)
theorem Txt.c_PHASES {pos : Pos} (T : Txt X.prog X.w X.K X.mg X.base) (hg : Gl X "PHASES" := by rfl) : PE X (.Name "PHASES" pos) (tC (.int 3)) := by
  obtain ⟨h, hk, hn⟩ := T.hp
  obtain ⟨t, e⟩ := He.int_ok hk hn (T.c.fact 78 (f := .int "PHASES" 3) rfl)
  exact pe_glob hg e ⟨t, rfl⟩
theorem Txt.c_COPY {pos : Pos} (T : Txt X.prog X.w X.K X.mg X.base) (hg : Gl X "COPY" := by rfl) : PE X (.Name "COPY" pos) (tC (.int 0)) := by
  obtain ⟨h, hk, hn⟩ := T.hp
  obtain ⟨t, e⟩ := He.int_ok hk hn (T.c.fact 79 (f := .int "COPY" 0) rfl)
  exact pe_glob hg e ⟨t, rfl⟩
theorem Txt.c_TAKEN {pos : Pos} (T : Txt X.prog X.w X.K X.mg X.base) (hg : Gl X "TAKEN" := by rfl) : PE X (.Name "TAKEN" pos) (tC (.int 1)) := by
  obtain ⟨h, hk, hn⟩ := T.hp
  obtain ⟨t, e⟩ := He.int_ok hk hn (T.c.fact 80 (f := .int "TAKEN" 1) rfl)
  exact pe_glob hg e ⟨t, rfl⟩
theorem Txt.c_NOUGHT {pos : Pos} (T : Txt X.prog X.w X.K X.mg X.base) (hg : Gl X "NOUGHT" := by rfl) : PE X (.Name "NOUGHT" pos) (tC (.int 2)) := by
  obtain ⟨h, hk, hn⟩ := T.hp
  obtain ⟨t, e⟩ := He.int_ok hk hn (T.c.fact 81 (f := .int "NOUGHT" 2) rfl)
  exact pe_glob hg e ⟨t, rfl⟩
theorem Txt.c_BLANK {pos : Pos} (T : Txt X.prog X.w X.K X.mg X.base) (hg : Gl X "BLANK" := by rfl) : PE X (.Name "BLANK" pos) (tC (.str "_")) := by
  obtain ⟨h, hk, hn⟩ := T.hp
  obtain ⟨t, e⟩ := He.str_ok hk hn (T.c.fact 82 (f := .str "BLANK" "_") rfl)
  exact pe_glob hg e ⟨t, rfl⟩
theorem Txt.c_GO {pos : Pos} (T : Txt X.prog X.w X.K X.mg X.base) (hg : Gl X "GO" := by rfl) : PE X (.Name "GO" pos) (tC (.str "go")) := by
  obtain ⟨h, hk, hn⟩ := T.hp
  obtain ⟨t, e⟩ := He.str_ok hk hn (T.c.fact 83 (f := .str "GO" "go") rfl)
  exact pe_glob hg e ⟨t, rfl⟩
theorem Txt.c_BACK {pos : Pos} (T : Txt X.prog X.w X.K X.mg X.base) (hg : Gl X "BACK" := by rfl) : PE X (.Name "BACK" pos) (tC (.str "back")) := by
  obtain ⟨h, hk, hn⟩ := T.hp
  obtain ⟨t, e⟩ := He.str_ok hk hn (T.c.fact 84 (f := .str "BACK" "back") rfl)
  exact pe_glob hg e ⟨t, rfl⟩
theorem Txt.c_SIGNS {pos : Pos} (T : Txt X.prog X.w X.K X.mg X.base) (hg : Gl X "SIGNS" := by rfl) : PE X (.Name "SIGNS" pos) (tC (.str "bei")) := by
  obtain ⟨h, hk, hn⟩ := T.hp
  obtain ⟨t, e⟩ := He.str_ok hk hn (T.c.fact 85 (f := .str "SIGNS" "bei") rfl)
  exact pe_glob hg e ⟨t, rfl⟩
theorem Txt.free_len (T : Txt P w K mg base) : mg "len" = none := let ⟨_, X, G⟩ := T.hp; He.free_ok X G (T.c.fact 86 (f := .free "len") rfl)
theorem Txt.free_range (T : Txt P w K mg base) : mg "range" = none := let ⟨_, X, G⟩ := T.hp; He.free_ok X G (T.c.fact 87 (f := .free "range") rfl)
theorem Txt.free_isinstance (T : Txt P w K mg base) : mg "isinstance" = none := let ⟨_, X, G⟩ := T.hp; He.free_ok X G (T.c.fact 88 (f := .free "isinstance") rfl)
theorem Txt.free_max (T : Txt P w K mg base) : mg "max" = none := let ⟨_, X, G⟩ := T.hp; He.free_ok X G (T.c.fact 89 (f := .free "max") rfl)
theorem Txt.free_min (T : Txt P w K mg base) : mg "min" = none := let ⟨_, X, G⟩ := T.hp; He.free_ok X G (T.c.fact 90 (f := .free "min") rfl)
theorem Txt.free_sum (T : Txt P w K mg base) : mg "sum" = none := let ⟨_, X, G⟩ := T.hp; He.free_ok X G (T.c.fact 91 (f := .free "sum") rfl)
theorem Txt.free_sorted (T : Txt P w K mg base) : mg "sorted" = none := let ⟨_, X, G⟩ := T.hp; He.free_ok X G (T.c.fact 92 (f := .free "sorted") rfl)
theorem Txt.free_enumerate (T : Txt P w K mg base) : mg "enumerate" = none := let ⟨_, X, G⟩ := T.hp; He.free_ok X G (T.c.fact 93 (f := .free "enumerate") rfl)
theorem Txt.free_reversed (T : Txt P w K mg base) : mg "reversed" = none := let ⟨_, X, G⟩ := T.hp; He.free_ok X G (T.c.fact 94 (f := .free "reversed") rfl)
theorem Txt.free_list (T : Txt P w K mg base) : mg "list" = none := let ⟨_, X, G⟩ := T.hp; He.free_ok X G (T.c.fact 95 (f := .free "list") rfl)
theorem Txt.free_tuple (T : Txt P w K mg base) : mg "tuple" = none := let ⟨_, X, G⟩ := T.hp; He.free_ok X G (T.c.fact 96 (f := .free "tuple") rfl)
theorem Txt.free_str (T : Txt P w K mg base) : mg "str" = none := let ⟨_, X, G⟩ := T.hp; He.free_ok X G (T.c.fact 97 (f := .free "str") rfl)
theorem Txt.free_int (T : Txt P w K mg base) : mg "int" = none := let ⟨_, X, G⟩ := T.hp; He.free_ok X G (T.c.fact 98 (f := .free "int") rfl)
theorem Txt.free_bool (T : Txt P w K mg base) : mg "bool" = none := let ⟨_, X, G⟩ := T.hp; He.free_ok X G (T.c.fact 99 (f := .free "bool") rfl)
theorem Txt.free_set (T : Txt P w K mg base) : mg "set" = none := let ⟨_, X, G⟩ := T.hp; He.free_ok X G (T.c.fact 100 (f := .free "set") rfl)
theorem Txt.free_all (T : Txt P w K mg base) : mg "all" = none := let ⟨_, X, G⟩ := T.hp; He.free_ok X G (T.c.fact 101 (f := .free "all") rfl)
theorem Txt.cls_Between (T : Txt P w K mg base) : Cls K (He.ga K "Between") := He.cls_ok (T.c.fact 102 (f := .cls "Between") rfl)
theorem Txt.mkr_Between (T : Txt P w K mg base) : Mk K (He.ga K "Between") (He.ma K (He.ga K "Between") "__init__") := He.mkr_ok (T.c.fact 103 (f := .mkr "Between") rfl)
theorem Txt.meth_Between_state_for (T : Txt P w K mg base) : Meth K (He.ga K "Between") "state_for" (He.ma K (He.ga K "Between") "state_for") := He.meth_ok (T.c.fact 105 (f := .meth "Between" "state_for") rfl)
theorem Txt.no_Between_top (T : Txt P w K mg base) : NoAttr K (He.ga K "Between") "top" := He.noat_ok (T.c.fact 106 (f := .noat "Between" "top") rfl)
theorem Txt.no_Between_numbers (T : Txt P w K mg base) : NoAttr K (He.ga K "Between") "numbers" := He.noat_ok (T.c.fact 107 (f := .noat "Between" "numbers") rfl)
theorem Txt.no_Between_waiting (T : Txt P w K mg base) : NoAttr K (He.ga K "Between") "waiting" := He.noat_ok (T.c.fact 108 (f := .noat "Between" "waiting") rfl)
theorem Txt.cls_Book (T : Txt P w K mg base) : Cls K (He.ga K "Book") := He.cls_ok (T.c.fact 109 (f := .cls "Book") rfl)
theorem Txt.mkr_Book (T : Txt P w K mg base) : Mk K (He.ga K "Book") (He.ma K (He.ga K "Book") "__init__") := He.mkr_ok (T.c.fact 110 (f := .mkr "Book") rfl)
theorem Txt.meth_Book_frame (T : Txt P w K mg base) : Meth K (He.ga K "Book") "frame" (He.ma K (He.ga K "Book") "frame") := He.meth_ok (T.c.fact 112 (f := .meth "Book" "frame") rfl)
theorem Txt.meth_Book_sign_tree (T : Txt P w K mg base) : Meth K (He.ga K "Book") "sign_tree" (He.ma K (He.ga K "Book") "sign_tree") := He.meth_ok (T.c.fact 113 (f := .meth "Book" "sign_tree") rfl)
theorem Txt.meth_Book_state_pick (T : Txt P w K mg base) : Meth K (He.ga K "Book") "state_pick" (He.ma K (He.ga K "Book") "state_pick") := He.meth_ok (T.c.fact 114 (f := .meth "Book" "state_pick") rfl)
theorem Txt.meth_Book_thing (T : Txt P w K mg base) : Meth K (He.ga K "Book") "thing" (He.ma K (He.ga K "Book") "thing") := He.meth_ok (T.c.fact 115 (f := .meth "Book" "thing") rfl)
theorem Txt.meth_Book_seat (T : Txt P w K mg base) : Meth K (He.ga K "Book") "seat" (He.ma K (He.ga K "Book") "seat") := He.meth_ok (T.c.fact 116 (f := .meth "Book" "seat") rfl)
theorem Txt.no_Book_rules (T : Txt P w K mg base) : NoAttr K (He.ga K "Book") "rules" := He.noat_ok (T.c.fact 117 (f := .noat "Book" "rules") rfl)
theorem Txt.no_Book_signs (T : Txt P w K mg base) : NoAttr K (He.ga K "Book") "signs" := He.noat_ok (T.c.fact 118 (f := .noat "Book" "signs") rfl)
theorem Txt.no_Book_states (T : Txt P w K mg base) : NoAttr K (He.ga K "Book") "states" := He.noat_ok (T.c.fact 119 (f := .noat "Book" "states") rfl)
theorem Txt.no_Book_acts (T : Txt P w K mg base) : NoAttr K (He.ga K "Book") "acts" := He.noat_ok (T.c.fact 120 (f := .noat "Book" "acts") rfl)
theorem Txt.no_Book_frames (T : Txt P w K mg base) : NoAttr K (He.ga K "Book") "frames" := He.noat_ok (T.c.fact 121 (f := .noat "Book" "frames") rfl)
theorem Txt.no_Book_costs (T : Txt P w K mg base) : NoAttr K (He.ga K "Book") "costs" := He.noat_ok (T.c.fact 122 (f := .noat "Book" "costs") rfl)
theorem Txt.no_Book_seats (T : Txt P w K mg base) : NoAttr K (He.ga K "Book") "seats" := He.noat_ok (T.c.fact 123 (f := .noat "Book" "seats") rfl)
theorem Txt.no_Book_table (T : Txt P w K mg base) : NoAttr K (He.ga K "Book") "table" := He.noat_ok (T.c.fact 124 (f := .noat "Book" "table") rfl)
theorem Txt.cls_Chain (T : Txt P w K mg base) : Cls K (He.ga K "Chain") := He.cls_ok (T.c.fact 125 (f := .cls "Chain") rfl)
theorem Txt.mkr_Chain (T : Txt P w K mg base) : Mk K (He.ga K "Chain") (He.ma K (He.ga K "Chain") "__init__") := He.mkr_ok (T.c.fact 126 (f := .mkr "Chain") rfl)
theorem Txt.no_Chain_program (T : Txt P w K mg base) : NoAttr K (He.ga K "Chain") "program" := He.noat_ok (T.c.fact 128 (f := .noat "Chain" "program") rfl)
theorem Txt.no_Chain_many (T : Txt P w K mg base) : NoAttr K (He.ga K "Chain") "many" := He.noat_ok (T.c.fact 129 (f := .noat "Chain" "many") rfl)
theorem Txt.no_Chain_rules (T : Txt P w K mg base) : NoAttr K (He.ga K "Chain") "rules" := He.noat_ok (T.c.fact 130 (f := .noat "Chain" "rules") rfl)
theorem Txt.no_Chain_top (T : Txt P w K mg base) : NoAttr K (He.ga K "Chain") "top" := He.noat_ok (T.c.fact 131 (f := .noat "Chain" "top") rfl)
theorem Txt.no_Chain_tape (T : Txt P w K mg base) : NoAttr K (He.ga K "Chain") "tape" := He.noat_ok (T.c.fact 132 (f := .noat "Chain" "tape") rfl)
theorem Txt.no_Chain_book (T : Txt P w K mg base) : NoAttr K (He.ga K "Chain") "book" := He.noat_ok (T.c.fact 133 (f := .noat "Chain" "book") rfl)
end
end My

/-! Mir1: trees as plain data, their steps. -/
namespace My
open PySem PySem.Spec PyProof.Rows L2

inductive Nm where
  | f | l | r | q | y | b | a | t | n | s | tn | tc | ta | tb | td
  deriving DecidableEq
def Nm.str : Nm → Str
  | .f => "f" | .l => "l" | .r => "r" | .q => "q" | .y => "y" | .b => "b" | .a => "a" | .t => "t" | .n => "n" | .s => "s"
  | .tn => "tn" | .tc => "tc" | .ta => "ta" | .tb => "tb" | .td => "td"
inductive Tr where
  | S | K | nm (x : Nm) | j (l r : Tr)
  deriving DecidableEq
namespace Tr
def leaves : Tr → Nat
  | j l r => leaves l + leaves r
  | _ => 1
/-- whether a joint with this left part is a value, both parts being values -/
def hd : Tr → Bool
  | S => true
  | K => true
  | nm _ => false
  | j S _ => true
  | j _ _ => false
def isVal : Tr → Bool
  | j l r => isVal l && isVal r && hd l
  | _ => true
def isLeaf : Tr → Bool
  | j _ _ => false
  | _ => true
def d : Tr → PyData
  | S => .str "S"
  | K => .str "K"
  | nm x => .str x.str
  | j l r => .tuple [d l, d r, .int (leaves l + leaves r : Nat), .bool (isVal (j l r))]
def depth : Tr → Nat
  | j l r => max (depth l) (depth r) + 1
  | _ => 0
end Tr
theorem nm_inj : ∀ x y : Nm, x.str = y.str → x = y := by
  intro x y
  cases x <;> cases y <;> first | (intro _; rfl) | (intro h; exact absurd h (by decide +kernel))
theorem nm_S : ∀ x : Nm, ¬ x.str = ("S" : Str) := by intro x; cases x <;> decide +kernel
theorem nm_K : ∀ x : Nm, ¬ x.str = ("K" : Str) := by intro x; cases x <;> decide +kernel

theorem eqvAll_cons {x y : PyData} {xs ys : List PyData} : PyData.eqvAll (x :: xs) (y :: ys) = (PyData.eqv x y && PyData.eqvAll xs ys) := by
  first | rfl | simp [PyData.eqvAll]
theorem eqvAll_nil : PyData.eqvAll [] [] = true := by first | rfl | simp [PyData.eqvAll]
theorem Tr.lay (t : Tr) : (t.d).canLay0 = true := by
  induction t with
  | S => decide +kernel
  | K => decide +kernel
  | nm x => cases x <;> decide +kernel
  | j l r h1 h2 =>
    show PyData.canLayAll0 [l.d, r.d, .int _, .bool _] = true
    simp [PyData.canLayAll0, PyData.canLay0, h1, h2]
theorem Tr.dep (t : Tr) : (t.d).depth = t.depth := by
  induction t with
  | S => rfl
  | K => rfl
  | nm x => rfl
  | j l r h1 h2 =>
    show PyData.depthAll [l.d, r.d, .int _, .bool _] + 1 = _
    simp [PyData.depthAll, PyData.depth, h1, h2, Tr.depth]
theorem Tr.eqv_d : ∀ t u : Tr, PyData.eqv t.d u.d = decide (t = u)
  | .S, .S => by decide +kernel
  | .S, .K => by decide +kernel
  | .S, .nm x => by cases x <;> decide +kernel
  | .S, .j _ _ => by rw [decide_eq_false (by intro h; cases h)]; first | rfl | simp [Tr.d, PyData.eqv]
  | .K, .S => by decide +kernel
  | .K, .K => by decide +kernel
  | .K, .nm x => by cases x <;> decide +kernel
  | .K, .j _ _ => by rw [decide_eq_false (by intro h; cases h)]; first | rfl | simp [Tr.d, PyData.eqv]
  | .nm x, .S => by cases x <;> decide +kernel
  | .nm x, .K => by cases x <;> decide +kernel
  | .nm x, .nm y => by
    show PyData.eqv (.str x.str) (.str y.str) = _
    rw [show PyData.eqv (.str x.str) (.str y.str) = (x.str == y.str) from by first | rfl | simp [PyData.eqv], Bool.eq_iff_iff]
    constructor
    · intro h
      exact decide_eq_true (congrArg Tr.nm (nm_inj x y (eq_of_beq h)))
    · intro h
      have h := of_decide_eq_true h
      injection h with h
      rw [h]
      exact beq_self_eq_true _
  | .nm _, .j _ _ => by rw [decide_eq_false (by intro h; cases h)]; first | rfl | simp [Tr.d, PyData.eqv]
  | .j _ _, .S => by rw [decide_eq_false (by intro h; cases h)]; first | rfl | simp [Tr.d, PyData.eqv]
  | .j _ _, .K => by rw [decide_eq_false (by intro h; cases h)]; first | rfl | simp [Tr.d, PyData.eqv]
  | .j _ _, .nm _ => by rw [decide_eq_false (by intro h; cases h)]; first | rfl | simp [Tr.d, PyData.eqv]
  | .j a b, .j c e => by
    have h1 := Tr.eqv_d a c
    have h2 := Tr.eqv_d b e
    show PyData.eqv (.tuple [a.d, b.d, .int _, .bool _]) (.tuple [c.d, e.d, .int _, .bool _]) = _
    rw [show ∀ xs ys, PyData.eqv (.tuple xs) (.tuple ys) = PyData.eqvAll xs ys from by intro xs ys; first | rfl | simp [PyData.eqv]]
    rw [eqvAll_cons, eqvAll_cons, eqvAll_cons, eqvAll_cons, eqvAll_nil, h1, h2]
    by_cases e1 : a = c
    · by_cases e2 : b = e
      · subst e1
        subst e2
        simp [PyData.eqv]
      · simp [e2]
    · simp [e1]
/-- the name of a datum's type -/
def tyN : PyData → String
  | .none => "NoneType"
  | .bool _ => "bool"
  | .int _ => "int"
  | .str _ => "str"
  | .list _ => "list"
  | .tuple _ => "tuple"
  | .dict _ => "dict"
theorem Td.ty {K : PySem.W.Frag} {H : Hp} {v : V} {d : PyData} (h : Td H v d) : TyX K H v (.type (tyN d)) := by
  cases h with
  | non => exact .base .non
  | bl b => exact .base (.bl b)
  | int i => exact .base (.int i)
  | str x => exact .base (.str x)
  | tup h a => exact .base (.tup h)
theorem ev_isi {K : PySem.W.Frag} {σ : L2.St} {H : Hp} {ta : TE} {d : PyData} {n : String} {b : Bool} (ha : Ev K ta σ H (.t d)) (hb : kitB (tyN d) n = some b) :
    Ev K (tCB (rIsi K) (tCons ta (tCons (tC (.ty n)) tNil))) σ H (.t (.bool b)) := fun H1 s Q q =>
  ha H1 s _ fun v H2 s2 hv => ⟨v, .ty n, _, _, b, rfl, .ty n, Td.ty hv, kit_ty hb, q _ H2 s2 (Td.bl b)⟩
theorem kit_tr : ∀ t : Tr, kitB (tyN t.d) "str" = some t.isLeaf
  | .S => by decide +kernel
  | .K => by decide +kernel
  | .nm _ => by show kitB "str" "str" = some true; decide +kernel
  | .j _ _ => by show kitB "tuple" "str" = some false; decide +kernel
end My

/-! Lib3: loops, lists that grow. -/
namespace My
open PySem PySem.Spec PyProof.Rows L2

/-- the object at p may have changed, tuples are kept -/
structure Mut (p : Addr) (H H' : Hp) : Prop where
  but : ∀ b o, b ≠ p → H b = some o → H' b = some o
  tx : Tx H H'
theorem Mut.refl {p : Addr} {H : Hp} : Mut p H H := ⟨fun _ _ _ h => h, Tx.refl H⟩
theorem Mut.trans {p : Addr} {H H1 H2 : Hp} (a : Mut p H H1) (b : Mut p H1 H2) : Mut p H H2 := ⟨fun c o n h => b.but c o n (a.but c o n h), a.tx.trans b.tx⟩
theorem Mut.same {p : Addr} {H H1 : Hp} (a : Same H H1) : Mut p H H1 := ⟨fun c o _ h => a c o h, a.tx⟩
theorem Mut.lst {p : Addr} {H : Hp} {xs : List V} {o : HO} (h : H p = some (.lst xs)) : Mut p H (upd H p o) := ⟨fun c o n e => by rw [upd_ne n]; exact e, Tx.lst h⟩
theorem Mut.of {p : Addr} {H0 H H' : Hp} (a : Mut p H H') (s : Same H0 H) (h : H0 p = none) : Same H0 H' := fun b o e => a.but b o (ne_of_none e h) (s b o e)
theorem Mut.ne {p q : Addr} {H H' : Hp} {o : HO} (a : Mut p H H') (h : H q = some o) (n : q ≠ p) : H' q = some o := a.but q o n h

theorem while_eb {c : TT} {tb : TS} {D : Ends} {σ : L2.St} {H : Hp} (I : Nat → L2.St → Hp → Prop) (m0 : Nat) (h0 : I m0 σ H)
    (step : ∀ m σ H, I m σ H → ∃ b, Eb c σ H b ∧ ∀ H1, Same H H1 → if b = true then tb { D with nx := fun σ' H' => ∃ m', m' < m ∧ I m' σ' H', ct := fun σ' H' => ∃ m', m' < m ∧ I m' σ' H', bk := D.nx } σ H1 else D.nx σ H1) : tWhile c tb D σ H :=
  ⟨I, ⟨m0, h0⟩, fun m σ H i => by
    obtain ⟨b, hb, k⟩ := step m σ H i
    refine hb H (Same.refl H) _ fun H1 s1 => ?_
    have k1 := k H1 s1
    cases b with
    | true => exact ⟨_, fun _ _ x => x, by rw [if_pos rfl] at k1; exact k1⟩
    | false => exact k1⟩
section
variable {K : PySem.W.Frag} {σ : L2.St} {H : Hp} {D : Ends}
theorem st_append {i : Nat} {p : Addr} {xs : List V} {ds : List PyData} {te : TE} {d : PyData} (hv : σ[i]? = some (some (.ref p))) (hp : H p = some (.lst xs)) (ht : TdAll H xs ds) (he : Ev K te σ H (.t d)) (hl : ds.length < 10000000)
    (k : ∀ ys H', Mut p H H' → H' p = some (.lst ys) → TdAll H' ys (ds ++ [d]) → D.nx σ H') : tDrop (tBM K "list" rAppend (tVar i) (tCons te tNil)) D σ H := by
  refine ⟨_, hv, .inl ⟨rfl, _, SqL.of hp⟩, ?_⟩
  refine he H (Same.refl H) _ fun v H1 s1 hv1 => ?_
  have hp1 := s1 _ _ hp
  refine ⟨p, xs, v, rfl, rfl, hp1, by rw [ht.length]; exact Nat.lt_trans hl (by decide), ?_⟩
  exact k _ _ ((Mut.same s1).trans (Mut.lst hp1)) upd_same (((ht.sm s1).append (.one hv1)).tx (Tx.lst hp1))
theorem st_extend {i : Nat} {p : Addr} {xs : List V} {ds es : List PyData} {te : TE} (hv : σ[i]? = some (some (.ref p))) (hp : H p = some (.lst xs)) (ht : TdAll H xs ds) (he : Ef te σ H es) (hl : ds.length + es.length < 10000000)
    (k : ∀ ys H', Mut p H H' → H' p = some (.lst ys) → TdAll H' ys (ds ++ es) → D.nx σ H') : tDrop (tBM K "list" rExtend (tVar i) (tCons te tNil)) D σ H := by
  refine ⟨_, hv, .inl ⟨rfl, _, SqL.of hp⟩, ?_⟩
  refine he H (Same.refl H) _ fun r zs H1 hr s1 h1 hv1 => ?_
  have hp1 := s1 _ _ hp
  refine ⟨p, r, xs, zs, rfl, rfl, hp1, h1, by rw [ht.length, hv1.length]; exact Nat.le_trans (Nat.le_of_lt hl) (by decide), ?_⟩
  exact k _ _ ((Mut.same s1).trans (Mut.lst hp1)) upd_same (((ht.sm s1).append hv1).tx (Tx.lst hp1))
theorem st_set {i : Nat} {te : TE} {a : Ag} (he : Ev K te σ H a) (k : ∀ v H', Same H H' → At K H' v a → D.nx (σ.set i (some v)) H') : tAsg te (gName i) D σ H :=
  he H (Same.refl H) _ fun v H1 s1 h1 => k v H1 s1 h1
theorem st_setF {i : Nat} {te : TE} {ds : List PyData} (he : Ef te σ H ds) (k : ∀ p xs H', H p = none → Same H H' → H' p = some (.lst xs) → TdAll H' xs ds → D.nx (σ.set i (some (.ref p))) H') : tAsg te (gName i) D σ H :=
  he H (Same.refl H) _ fun p xs H1 hp s1 h1 hx => k p xs H1 hp s1 h1 hx
theorem st_ret {te : TE} {a : Ag} (he : Ev K te σ H a) (k : ∀ v H', Same H H' → At K H' v a → D.rt v H') : tRet te D σ H :=
  he H (Same.refl H) _ fun v H1 s1 h1 => k v H1 s1 h1
theorem st_retF {te : TE} {ds : List PyData} (he : Ef te σ H ds) (k : ∀ p xs H', H p = none → Same H H' → H' p = some (.lst xs) → TdAll H' xs ds → D.rt (.ref p) H') : tRet te D σ H :=
  he H (Same.refl H) _ fun p xs H1 hp s1 h1 hx => k p xs H1 hp s1 h1 hx
theorem st_if {c : TT} {t u : TS} {b : Bool} (hb : Eb c σ H b) (k : ∀ H', Same H H' → if b = true then t D σ H' else u D σ H') : tIfS c t u D σ H :=
  hb H (Same.refl H) _ fun H1 s1 => k H1 s1
theorem st_ifT {c : TT} {t u : TS} (hb : Eb c σ H true) (k : ∀ H', Same H H' → t D σ H') : tIfS c t u D σ H :=
  hb H (Same.refl H) _ fun H1 s1 => iteT (k H1 s1)
theorem st_ifF {c : TT} {t u : TS} (hb : Eb c σ H false) (k : ∀ H', Same H H' → u D σ H') : tIfS c t u D σ H :=
  hb H (Same.refl H) _ fun H1 s1 => iteF (k H1 s1)
/-! .. ahead of others -/
theorem q_set {u : TS} {i : Nat} {te : TE} {a : Ag} (he : Ev K te σ H a) (k : ∀ v H', Same H H' → At K H' v a → u D (σ.set i (some v)) H') : tSeq (tAsg te (gName i)) u D σ H := st_set (D := { D with nx := u D }) he k
theorem q_setF {u : TS} {i : Nat} {te : TE} {ds : List PyData} (he : Ef te σ H ds) (k : ∀ p xs H', H p = none → Same H H' → H' p = some (.lst xs) → TdAll H' xs ds → u D (σ.set i (some (.ref p))) H') : tSeq (tAsg te (gName i)) u D σ H := st_setF (D := { D with nx := u D }) he k
theorem q_ifT {c : TT} {t t' u : TS} (hb : Eb c σ H true) (k : ∀ H', Same H H' → t { D with nx := u D } σ H') : tSeq (tIfS c t t') u D σ H := st_ifT (D := { D with nx := u D }) hb k
theorem q_ifF {c : TT} {t t' u : TS} (hb : Eb c σ H false) (k : ∀ H', Same H H' → t' { D with nx := u D } σ H') : tSeq (tIfS c t t') u D σ H := st_ifF (D := { D with nx := u D }) hb k
/-- an if without else that isn't taken -/
theorem q_ifN {c : TT} {t u : TS} (hb : Eb c σ H false) (k : ∀ H', Same H H' → u D σ H') : tSeq (tIfS c t tNext) u D σ H := st_ifF (D := { D with nx := u D }) hb k
theorem q_append {u : TS} {i : Nat} {p : Addr} {xs : List V} {ds : List PyData} {te : TE} {d : PyData} (hv : σ[i]? = some (some (.ref p))) (hp : H p = some (.lst xs)) (ht : TdAll H xs ds) (he : Ev K te σ H (.t d)) (hl : ds.length < 10000000)
    (k : ∀ ys H', Mut p H H' → H' p = some (.lst ys) → TdAll H' ys (ds ++ [d]) → u D σ H') : tSeq (tDrop (tBM K "list" rAppend (tVar i) (tCons te tNil))) u D σ H := st_append (D := { D with nx := u D }) hv hp ht he hl k
theorem q_extend {u : TS} {i : Nat} {p : Addr} {xs : List V} {ds es : List PyData} {te : TE} (hv : σ[i]? = some (some (.ref p))) (hp : H p = some (.lst xs)) (ht : TdAll H xs ds) (he : Ef te σ H es) (hl : ds.length + es.length < 10000000)
    (k : ∀ ys H', Mut p H H' → H' p = some (.lst ys) → TdAll H' ys (ds ++ es) → u D σ H') : tSeq (tDrop (tBM K "list" rExtend (tVar i) (tCons te tNil))) u D σ H := st_extend (D := { D with nx := u D }) hv hp ht he hl k
/-- a while ahead of others -/
theorem q_while {u : TS} {c : TT} {tb : TS} (I : Nat → L2.St → Hp → Prop) (m0 : Nat) (h0 : I m0 σ H)
    (step : ∀ m σ H, I m σ H → ∃ b, Eb c σ H b ∧ ∀ H1, Same H H1 → if b = true then tb { nx := fun σ' H' => ∃ m', m' < m ∧ I m' σ' H', rt := D.rt, ct := fun σ' H' => ∃ m', m' < m ∧ I m' σ' H', bk := u D } σ H1 else u D σ H1) : tSeq (tWhile c tb) u D σ H :=
  while_eb (D := { D with nx := u D }) I m0 h0 step
end
end My

/-! Run: a tree's step, its runs, the way down and up again. -/
namespace My
namespace Tr
/-- no names -/
def cl : Tr → Bool
  | S => true
  | K => true
  | nm _ => false
  | j l r => cl l && cl r
/-- what a joint of two values becomes -/
def bec : Tr → Tr → Tr
  | j K v, _ => v
  | j (j _ u) v, w => j (j u w) (j v w)
  | _, _ => S
def step : Tr → Option Tr
  | j l r => if l.isVal = false then (step l).map (fun x => j x r) else if r.isVal = false then (step r).map (fun x => j l x) else if hd l = true then none else some (bec l r)
  | _ => none
/-- exactly so many steps -/
def iter : Nat → Tr → Option Tr
  | 0, t => some t
  | n + 1, t => (step t).bind (iter n)
def up (w : Bool × Tr) (t : Tr) : Tr := if w.1 = true then j w.2 t else j t w.2
def closeT (t : Tr) (ws : List (Bool × Tr)) : Tr := ws.foldr up t
def opT : Tr → Tr × List (Bool × Tr)
  | j l r => if l.isVal = false then ((opT l).1, (false, r) :: (opT l).2) else if r.isVal = false then ((opT r).1, (true, l) :: (opT r).2) else (j l r, [])
  | t => (t, [])
def okW (ws : List (Bool × Tr)) : Prop := ∀ w ∈ ws, w.1 = true → w.2.isVal = true

theorem isVal_j {l r : Tr} : (j l r).isVal = (l.isVal && r.isVal && hd l) := rfl
theorem step_val : ∀ {t : Tr}, t.isVal = true → step t = none
  | S, _ => rfl
  | K, _ => rfl
  | nm _, _ => rfl
  | j l r, h => by
    rw [isVal_j, Bool.and_eq_true, Bool.and_eq_true] at h
    unfold step
    rw [if_neg (by rw [h.1.1]; decide), if_neg (by rw [h.1.2]; decide), if_pos h.2]
theorem step_some : ∀ {t : Tr}, t.isVal = false → ∃ u, step t = some u
  | S, h => by cases h
  | K, h => by cases h
  | nm _, h => by cases h
  | j l r, h => by
    unfold step
    cases h1 : l.isVal with
    | false =>
      obtain ⟨u, e⟩ := step_some h1
      rw [if_pos rfl, e]
      exact ⟨_, rfl⟩
    | true =>
      rw [if_neg (by decide)]
      cases h2 : r.isVal with
      | false =>
        obtain ⟨u, e⟩ := step_some h2
        rw [if_pos rfl, e]
        exact ⟨_, rfl⟩
      | true =>
        rw [if_neg (by decide)]
        rw [isVal_j, h1, h2] at h
        rw [if_neg (by intro z; rw [z] at h; cases h)]
        exact ⟨_, rfl⟩
theorem val_of_none {t : Tr} (h : step t = none) : t.isVal = true := by
  cases e : t.isVal with
  | true => rfl
  | false =>
    obtain ⟨u, q⟩ := step_some e
    rw [q] at h
    cases h
theorem not_val {t u : Tr} (h : step t = some u) : t.isVal = false := by
  cases e : t.isVal with
  | false => rfl
  | true => rw [step_val e] at h; cases h
theorem step_l {l r u : Tr} (h : step l = some u) : step (j l r) = some (j u r) := by
  rw [step, if_pos (not_val h), h]
  rfl
theorem step_r {l r u : Tr} (hl : l.isVal = true) (h : step r = some u) : step (j l r) = some (j l u) := by
  rw [step, if_neg (by rw [hl]; decide), if_pos (not_val h), h]
  rfl
theorem step_bec {l r : Tr} (hl : l.isVal = true) (hr : r.isVal = true) (hh : hd l = false) : step (j l r) = some (bec l r) := by
  rw [step, if_neg (by rw [hl]; decide), if_neg (by rw [hr]; decide), if_neg (by rw [hh]; decide)]
theorem iter_add : ∀ (a b : Nat) (t : Tr), iter (a + b) t = (iter a t).bind (iter b)
  | 0, b, t => by rw [Nat.zero_add]; rfl
  | a + 1, b, t => by
    rw [Nat.succ_add]
    show (step t).bind (iter (a + b)) = ((step t).bind (iter a)).bind (iter b)
    cases step t with
    | none => rfl
    | some u => exact iter_add a b u
theorem iter_one (t : Tr) : iter 1 t = step t := by
  show (step t).bind (iter 0) = _
  cases step t <;> rfl
theorem iter_trans {a b : Nat} {t u v : Tr} (h1 : iter a t = some u) (h2 : iter b u = some v) : iter (a + b) t = some v := by
  rw [iter_add, h1]
  exact h2
theorem iter_l {r : Tr} : ∀ {n : Nat} {t u : Tr}, iter n t = some u → iter n (j t r) = some (j u r)
  | 0, t, u, h => by cases h; rfl
  | n + 1, t, u, h => by
    have h : (step t).bind (iter n) = some u := h
    cases e : step t with
    | none => rw [e] at h; cases h
    | some x =>
      rw [e] at h
      show (step (j t r)).bind (iter n) = _
      rw [step_l e]
      exact iter_l h
theorem iter_r {l : Tr} (hl : l.isVal = true) : ∀ {n : Nat} {t u : Tr}, iter n t = some u → iter n (j l t) = some (j l u)
  | 0, t, u, h => by cases h; rfl
  | n + 1, t, u, h => by
    have h : (step t).bind (iter n) = some u := h
    cases e : step t with
    | none => rw [e] at h; cases h
    | some x =>
      rw [e] at h
      show (step (j l t)).bind (iter n) = _
      rw [step_r hl e]
      exact iter_r hl h
/-- a part of a run -/
theorem iter_pre {a b : Nat} {t v : Tr} (h : iter (a + b) t = some v) : ∃ u, iter a t = some u ∧ iter b u = some v := by
  rw [iter_add] at h
  cases e : iter a t with
  | none => rw [e] at h; cases h
  | some u =>
    rw [e] at h
    exact ⟨u, rfl, h⟩

theorem closeT_app (t : Tr) (a b : List (Bool × Tr)) : closeT t (a ++ b) = closeT (closeT t b) a := by
  unfold closeT
  rw [List.foldr_append]
theorem closeT_up (t : Tr) (ws : List (Bool × Tr)) (w : Bool × Tr) : closeT t (ws ++ [w]) = closeT (up w t) ws := closeT_app t ws [w]
/-- the place -/
theorem opT_ok : ∀ {t : Tr}, t.isVal = false → ∃ l r, (opT t).1 = j l r ∧ l.isVal = true ∧ r.isVal = true ∧ hd l = false ∧ closeT (j l r) (opT t).2 = t ∧ okW (opT t).2 ∧ step t = some (closeT (bec l r) (opT t).2)
  | S, h => by cases h
  | K, h => by cases h
  | nm _, h => by cases h
  | j l r, h => by
    cases h1 : l.isVal with
    | false =>
      obtain ⟨a, b, e1, e2, e3, e4, e5, e6, e7⟩ := opT_ok h1
      have e : opT (j l r) = ((opT l).1, (false, r) :: (opT l).2) := by rw [opT, if_pos h1]
      rw [e]
      refine ⟨a, b, e1, e2, e3, e4, ?_, ?_, ?_⟩
      · show up (false, r) (closeT (j a b) (opT l).2) = j l r
        rw [e5]
        rfl
      · intro w hw
        rcases List.mem_cons.mp hw with z | z
        · rw [z]; intro q; cases q
        · exact e6 w z
      · rw [step_l e7]
        rfl
    | true =>
      cases h2 : r.isVal with
      | false =>
        obtain ⟨a, b, e1, e2, e3, e4, e5, e6, e7⟩ := opT_ok h2
        have e : opT (j l r) = ((opT r).1, (true, l) :: (opT r).2) := by rw [opT, if_neg (by rw [h1]; decide), if_pos h2]
        rw [e]
        refine ⟨a, b, e1, e2, e3, e4, ?_, ?_, ?_⟩
        · show up (true, l) (closeT (j a b) (opT r).2) = j l r
          rw [e5]
          rfl
        · intro w hw
          rcases List.mem_cons.mp hw with z | z
          · rw [z]; intro _; exact h1
          · exact e6 w z
        · rw [step_r h1 e7]
          rfl
      | true =>
        have e : opT (j l r) = (j l r, []) := by rw [opT, if_neg (by rw [h1]; decide), if_neg (by rw [h2]; decide)]
        rw [e]
        rw [isVal_j, h1, h2] at h
        have hh : hd l = false := by
          cases q : hd l with
          | false => rfl
          | true => rw [q] at h; cases h
        exact ⟨l, r, rfl, h1, h2, hh, rfl, (fun w hw => by cases hw), step_bec h1 h2 hh⟩
/-- a step within -/
theorem step_close : ∀ {ws : List (Bool × Tr)} {t u : Tr}, okW ws → step t = some u → step (closeT t ws) = some (closeT u ws)
  | [], _, _, _, h => h
  | (b, o) :: ws, t, u, hw, h => by
    have ih := step_close (ws := ws) (fun w m => hw w (List.mem_cons_of_mem _ m)) h
    show step (up (b, o) (closeT t ws)) = some (up (b, o) (closeT u ws))
    cases b with
    | false => exact step_l ih
    | true => exact step_r (hw _ List.mem_cons_self rfl) ih
theorem closeT_len : ∀ (ws : List (Bool × Tr)) (t : Tr), ws.length + t.depth ≤ (closeT t ws).depth
  | [], t => by show 0 + t.depth ≤ t.depth; omega
  | (b, o) :: ws, t => by
    have ih := closeT_len ws t
    show (ws.length + 1) + t.depth ≤ (up (b, o) (closeT t ws)).depth
    cases b with
    | false =>
      show _ ≤ max (closeT t ws).depth o.depth + 1
      omega
    | true =>
      show _ ≤ max o.depth (closeT t ws).depth + 1
      omega
theorem bec_depth {l r : Tr} : (bec l r).depth ≤ (j l r).depth + 1 := by
  match l with
  | S => exact Nat.zero_le _
  | K => exact Nat.zero_le _
  | nm _ => exact Nat.zero_le _
  | j K v =>
    show v.depth ≤ max (max 0 v.depth + 1) r.depth + 1 + 1
    omega
  | j S v => exact Nat.zero_le _
  | j (nm _) v => exact Nat.zero_le _
  | j (j a u) v =>
    show max (max u.depth r.depth + 1) (max v.depth r.depth + 1) + 1 ≤ max (max (max a.depth u.depth + 1) v.depth + 1) r.depth + 1 + 1
    omega
theorem step_depth : ∀ {t u : Tr}, step t = some u → u.depth ≤ t.depth + 1
  | S, _, h => by cases h
  | K, _, h => by cases h
  | nm _, _, h => by cases h
  | j l r, u, h => by
    unfold step at h
    split at h
    · cases e : step l with
      | none => rw [e] at h; cases h
      | some x =>
        rw [e] at h
        cases h
        have := step_depth e
        show max x.depth r.depth + 1 ≤ max l.depth r.depth + 1 + 1
        omega
    · split at h
      · cases e : step r with
        | none => rw [e] at h; cases h
        | some x =>
          rw [e] at h
          cases h
          have := step_depth e
          show max l.depth x.depth + 1 ≤ max l.depth r.depth + 1 + 1
          omega
      · split at h
        · cases h
        · cases h
          exact bec_depth
theorem iter_depth : ∀ {k : Nat} {t u : Tr}, iter k t = some u → u.depth ≤ t.depth + k
  | 0, t, u, h => by cases h; omega
  | k + 1, t, u, h => by
    have h : (step t).bind (iter k) = some u := h
    cases e : step t with
    | none => rw [e] at h; cases h
    | some x =>
      rw [e] at h
      have h1 := step_depth e
      have h2 := iter_depth (show iter k x = some u from h)
      omega
theorem bec_cl {l r : Tr} (h1 : cl l = true) (h2 : cl r = true) : cl (bec l r) = true := by
  match l, h1 with
  | S, _ => rfl
  | K, _ => rfl
  | j K v, h1 => exact h1
  | j S v, _ => rfl
  | j (nm _) v, _ => rfl
  | j (j a u) v, h1 =>
    have h1 : ((cl a && cl u) && cl v) = true := h1
    show ((cl u && cl r) && (cl v && cl r)) = true
    simp only [Bool.and_eq_true] at h1 ⊢
    exact ⟨⟨h1.1.2, h2⟩, h1.2, h2⟩
theorem closeT_cl : ∀ (ws : List (Bool × Tr)) (t : Tr), cl (closeT t ws) = true ↔ (cl t = true ∧ ∀ w ∈ ws, cl w.2 = true)
  | [], t => by simp [closeT]
  | (b, o) :: ws, t => by
    have ih := closeT_cl ws t
    show cl (up (b, o) (closeT t ws)) = true ↔ _
    have e : cl (up (b, o) (closeT t ws)) = (cl o && cl (closeT t ws)) := by
      cases b with
      | false => exact Bool.and_comm _ _
      | true => rfl
    rw [e, Bool.and_eq_true, ih]
    simp only [List.mem_cons, forall_eq_or_imp]
    constructor
    · rintro ⟨a, b, c⟩; exact ⟨b, a, c⟩
    · rintro ⟨b, a, c⟩; exact ⟨a, b, c⟩
theorem step_cl {t u : Tr} (h : cl t = true) (e : step t = some u) : cl u = true := by
  obtain ⟨l, r, e1, e2, e3, e4, e5, e6, e7⟩ := opT_ok (not_val e)
  rw [e7] at e
  cases e
  rw [← e5, closeT_cl] at h
  rw [closeT_cl]
  have h1 : (cl l && cl r) = true := h.1
  rw [Bool.and_eq_true] at h1
  exact ⟨bec_cl h1.1 h1.2, h.2⟩
theorem iter_cl : ∀ {k : Nat} {t u : Tr}, cl t = true → iter k t = some u → cl u = true
  | 0, t, u, c, h => by cases h; exact c
  | k + 1, t, u, c, h => by
    have h : (step t).bind (iter k) = some u := h
    cases e : step t with
    | none => rw [e] at h; cases h
    | some x =>
      rw [e] at h
      exact iter_cl (step_cl c e) h
/-- the left part of a place: what stands there -/
theorem place_form {l r : Tr} (c : cl l = true) (hl : l.isVal = true) (hh : hd l = false) : (∃ v, l = j K v ∧ bec l r = v) ∨ ∃ a u v, l = j (j a u) v ∧ bec l r = j (j u r) (j v r) := by
  match l, c, hl, hh with
  | j K v, _, _, _ => exact .inl ⟨v, rfl, rfl⟩
  | j (j a u) v, _, _, _ => exact .inr ⟨a, u, v, rfl, rfl⟩
end Tr
end My

/-! Lib4: walks of data: for, comprehensions. -/
namespace My
open PySem PySem.Spec PyProof.Rows L2

/-- what is walked gives these data, one by one, as long as what stood in Hb stands -/
def Wk (wi : TI) (σ : L2.St) (Hb H : Hp) (ds : List PyData) : Prop := ∀ R : It → Hp → Prop, (∀ J G Y H2, Same H H2 → Walk J ds.length G Y → (∀ H3, Same Hb H3 → G H3) →
  (∀ i H3 x H4, Same Hb H3 → Y i H3 x H4 → Same H3 H4 ∧ ∃ d, ds[i]? = some d ∧ Td H4 x d) → R J H2) → wi σ H R
section
variable {K : PySem.W.Frag} {σ : L2.St} {Hb H : Hp} {D : Ends} {ds : List PyData} {wi : TI} {te tl : TE} {ta : TA}
def refIs (a : Addr) : Ag := .o (fun v _ => v = .ref a) (fun _ _ _ _ h => h)
theorem ev_ref {i : Nat} {a : Addr} (h : σ[i]? = some (some (.ref a))) : Ev K (tVar i) σ H (refIs a) := ev_var h (show At K H (.ref a) (refIs a) from rfl)
theorem wk_list {a : Addr} {xs : List V} (hl : Ev K tl σ H (refIs a)) (hb : SqL K Hb a xs) (ht : TdAll Hb xs ds) (hH : Same Hb H) : Wk (iList K tl) σ Hb H ds := fun R hR =>
  hl H (Same.refl H) _ fun v H1 s1 e => by
    refine ⟨a, e, ⟨xs, (hH.trans s1).seq hb⟩, ?_⟩
    have wl := walk_list (K := K) (a := a) (xs := xs)
    rw [ht.length] at wl
    refine hR _ _ _ H1 s1 wl (fun H3 s3 => s3.seq hb) fun i H3 x H4 s3 y => ?_
    obtain ⟨rfl, y⟩ := y
    obtain ⟨d, h1, h2⟩ := ht.get' y
    exact ⟨Same.refl _, d, h1, h2.sm s3⟩
theorem wk_tup {a : Addr} {xs : List V} (hl : Ev K tl σ H (refIs a)) (hb : Hb a = some (.tup xs)) (ht : TdAll Hb xs ds) (hH : Same Hb H) : Wk (iTup K tl) σ Hb H ds := fun R hR =>
  hl H (Same.refl H) _ fun v H1 s1 e => by
    refine ⟨a, e, ⟨xs, SqT.of ((hH.trans s1) _ _ hb)⟩, ?_⟩
    have wl := walk_tup (K := K) (a := a) (xs := xs)
    rw [ht.length] at wl
    refine hR _ _ _ H1 s1 wl (fun H3 s3 => SqT.of (s3 _ _ hb)) fun i H3 x H4 s3 y => ?_
    obtain ⟨rfl, y⟩ := y
    obtain ⟨d, h1, h2⟩ := ht.get' y
    exact ⟨Same.refl _, d, h1, h2.sm s3⟩
theorem wk_rev {a : Addr} {xs : List V} (hl : Ea K ta σ H [refIs a]) (hb : SqL K Hb a xs) (ht : TdAll Hb xs ds) (hH : Same Hb H) : Wk (iRev K ta) σ Hb H ds.reverse := fun R hR =>
  hl H (Same.refl H) _ fun vs H1 s1 e => by
    obtain ⟨x, rfl, rfl⟩ := e.i1
    refine ⟨a, xs, rfl, (hH.trans s1).seq hb, ?_⟩
    have wl := walk_rev (K := K) (a := a) (xs := xs)
    have e : xs.length = ds.reverse.length := by rw [List.length_reverse, ht.length]
    have wl2 : Walk (Itv K a xs.length) ds.reverse.length (fun H => SqL K H a xs) (fun i H x H' => i < xs.length ∧ H' = H ∧ xs[xs.length - 1 - i]? = some x) := by
      rw [← e]
      exact ⟨wl.goes, wl.stops, fun i H x H' hi g y => ⟨hi, wl.yields i H x H' hi g y⟩⟩
    refine hR _ _ _ H1 s1 wl2 (fun H3 s3 => s3.seq hb) fun i H3 x H4 s3 y => ?_
    obtain ⟨hi, rfl, y⟩ := y
    obtain ⟨d, h1, h2⟩ := ht.get' y
    refine ⟨Same.refl _, d, ?_, h2.sm s3⟩
    rw [List.getElem?_reverse (by rw [← ht.length]; exact hi), ← ht.length]
    exact h1
theorem wk_range1 {j : Int} (hl : Ea K ta σ H [.t (.int j)]) (hj : -(2 ^ 62) ≤ j ∧ j < 2 ^ 62) : Wk (iRng1 ta) σ Hb H ((List.range j.toNat).map fun i => PyData.int (i : Nat)) := fun R hR =>
  hl H (Same.refl H) _ fun vs H1 s1 e => by
    obtain ⟨x, rfl, hx⟩ := e.i1
    refine ⟨j, by rw [Td.int_of hx], hj.1, hj.2, ?_⟩
    have wl := walk_range (lo := 0) (n := j.toNat)
    have e : j.toNat = ((List.range j.toNat).map fun i => PyData.int (i : Nat)).length := by rw [List.length_map, List.length_range]
    have wl2 : Walk (Itr 0 j.toNat) ((List.range j.toNat).map fun i => PyData.int (i : Nat)).length (fun _ => True) (fun i H x H' => i < j.toNat ∧ YFn (fun i => .int ((0 : Int) + i)) i H x H') := by
      rw [← e]
      exact ⟨wl.goes, wl.stops, fun i H x H' hi g y => ⟨hi, wl.yields i H x H' hi g y⟩⟩
    refine hR _ _ _ H1 s1 wl2 (fun _ _ => trivial) fun i H3 x H4 s3 y => ?_
    obtain ⟨hi, rfl, rfl⟩ := y
    refine ⟨Same.refl _, .int (i : Nat), ?_, ?_⟩
    · rw [List.getElem?_map, List.getElem?_range hi]; rfl
    · show Td _ (.int ((0 : Int) + (i : Int))) _
      rw [Int.zero_add]; exact Td.int _
theorem wk_range2 {i j : Nat} (hl : Ea K ta σ H [.t (.int i), .t (.int j)]) (hj : i < 1000000 ∧ j < 1000000) : Wk (iRng2 ta) σ Hb H ((List.range (j - i)).map fun k => PyData.int ((i + k : Nat) : Int)) := fun R hR =>
  hl H (Same.refl H) _ fun vs H1 s1 e => by
    obtain ⟨x, y, rfl, hx, hy⟩ := e.i2
    refine ⟨i, j, by rw [Td.int_of hx, Td.int_of hy], ⟨by omega, by omega, by omega, by omega⟩, ?_⟩
    have en : ((j : Int) - (i : Int)).toNat = j - i := by omega
    rw [en]
    have wl := walk_range (lo := (i : Int)) (n := j - i)
    have e : j - i = ((List.range (j - i)).map fun k => PyData.int ((i + k : Nat) : Int)).length := by rw [List.length_map, List.length_range]
    have wl2 : Walk (Itr i (j - i)) ((List.range (j - i)).map fun k => PyData.int ((i + k : Nat) : Int)).length (fun _ => True) (fun k H x H' => k < j - i ∧ YFn (fun k => .int ((i : Int) + k)) k H x H') := by
      rw [← e]
      exact ⟨wl.goes, wl.stops, fun i H x H' hi g y => ⟨hi, wl.yields i H x H' hi g y⟩⟩
    refine hR _ _ _ H1 s1 wl2 (fun _ _ => trivial) fun k H3 x H4 s3 y => ?_
    obtain ⟨hi, rfl, rfl⟩ := y
    refine ⟨Same.refl _, .int ((i + k : Nat) : Int), ?_, ?_⟩
    · rw [List.getElem?_map, List.getElem?_range hi]; rfl
    · show Td _ (.int ((i : Int) + (k : Int))) _
      rw [show (i : Int) + (k : Int) = ((i + k : Nat) : Int) from by omega]; exact Td.int _
def chs (z : Str) : List PyData := z.cps.toList.map fun c => .str ⟨#[c]⟩
theorem wk_str {z : Str} (hl : Ev K tl σ H (.t (.str z))) : Wk (iStr tl) σ Hb H (chs z) := fun R hR =>
  hl H (Same.refl H) _ fun v H1 s1 e => by
    refine ⟨z, Td.str_of e, ?_⟩
    have wl := walk_str (z := z)
    have e : z.cps.size = (chs z).length := by unfold chs; rw [List.length_map, Array.length_toList]
    rw [e] at wl
    refine hR _ _ _ H1 s1 wl (fun _ _ => trivial) fun i H3 x H4 s3 y => ?_
    obtain ⟨rfl, c, h1, rfl⟩ := y
    refine ⟨Same.refl _, .str ⟨#[c]⟩, ?_, Td.str _⟩
    unfold chs
    rw [List.getElem?_map, Array.getElem?_toList, h1]
    rfl
/-- a for ahead of others -/
theorem st_for {g : TG} {tb : TS} (hw : Wk wi σ Hb H ds) (Pv : Nat → L2.St → Hp → Prop) (h0 : ∀ H1, Same H H1 → Pv 0 σ H1) (hG : ∀ i σ H, Pv i σ H → Same Hb H)
    (hs : ∀ i d x σ H H', ds[i]? = some d → Td H' x d → Pv i σ H → Same H H' → g x σ H' fun σ2 H2 => tb { D with nx := Pv (i + 1), ct := Pv (i + 1), bk := D.nx } σ2 H2) (hd : ∀ σ H, Pv ds.length σ H → D.nx σ H) : tFor wi g tb D σ H :=
  hw _ fun J G Y H2 s2 wl hGG hY => for_it wl Pv (h0 H2 s2) (fun i σ H _ p => hGG H (hG i σ H p)) (fun i x σ H H' hi p y => by
    obtain ⟨s, d, h1, h2⟩ := hY i H x H' (hG i σ H p) y
    exact hs i d x σ H H' h1 h2 p s) hd
theorem q_for {u : TS} {g : TG} {tb : TS} (hw : Wk wi σ Hb H ds) (Pv : Nat → L2.St → Hp → Prop) (h0 : ∀ H1, Same H H1 → Pv 0 σ H1) (hG : ∀ i σ H, Pv i σ H → Same Hb H)
    (hs : ∀ i d x σ H H', ds[i]? = some d → Td H' x d → Pv i σ H → Same H H' → g x σ H' fun σ2 H2 => tb { nx := Pv (i + 1), rt := D.rt, ct := Pv (i + 1), bk := u D } σ2 H2) (hd : ∀ σ H, Pv ds.length σ H → u D σ H) : tSeq (tFor wi g tb) u D σ H :=
  st_for (D := { D with nx := u D }) hw Pv h0 hG hs hd
/-- [f(x) for x in .. if b(x)] -/
theorem ef_lc {i : Nat} {tt : TT} (b : PyData → Bool) (f : PyData → PyData) (hw : ∀ H', Same H H' → Wk wi σ Hb H' ds) (hH : Same Hb H) (hlen : ds.length ≤ 100000) (hi : ∀ x : Option V, wipe ((wipe σ [i]).set i x) [i] = wipe σ [i])
    (ht : ∀ d x H', d ∈ ds → Same H H' → Td H' x d → Eb tt ((wipe σ [i]).set i (some x)) H' (b d) ∧ (b d = true → Ev K te ((wipe σ [i]).set i (some x)) H' (.t (f d)))) : Ef (tLc wi (gName i) tt te [i]) σ H ((ds.filter b).map f) := fun H1 s1 Q q =>
  hw H1 s1 _ fun J G Y H2 s2 wl hGG hY D hD => by
    have sb : Same Hb H2 := hH.trans (s1.trans s2)
    have s02 : Same H H2 := s1.trans s2
    refine lc_it wl (fun k H3 => Same H2 H3 ∧ ∃ ys, H3 D = some (.lst ys) ∧ TdAll H3 ys (((ds.take k).filter b).map f)) ⟨Same.new hD, [], upd_same, .nil⟩ (fun k H3 _ p => hGG H3 (sb.trans p.1)) ?_ ?_
    · rintro k x H3 H4 hk ⟨s3, ys, h1, h2⟩ y
      obtain ⟨s4, d, h3, h4⟩ := hY k H3 x H4 (sb.trans s3) y
      have hm : d ∈ ds := List.mem_of_getElem? h3
      have hlt : k < ds.length := (List.getElem?_eq_some_iff.mp h3).1
      have etk : ds.take (k + 1) = ds.take k ++ [d] := by
        rw [List.take_add_one, h3]
        rfl
      obtain ⟨e1, e2⟩ := ht d x H4 hm (s02.trans (s3.trans s4)) h4
      refine ⟨hi _, e1 H4 (Same.refl _) _ fun H5 s5 => ?_⟩
      cases hb : b d with
      | true =>
        refine iteT (e2 hb H5 s5 _ fun v H6 s6 h6 => ?_)
        have s46 := s4.trans (s5.trans s6)
        have hD6 := s46 _ _ h1
        refine ⟨ys, hD6, ?_, ?_⟩
        · rw [h2.length, List.length_map]
          have l1 := List.length_filter_le b (ds.take k)
          have l2 : (ds.take k).length ≤ ds.length := by rw [List.length_take]; omega
          exact Nat.lt_of_le_of_lt (Nat.le_trans l1 (Nat.le_trans l2 hlen)) (by decide)
        · refine ⟨(Mut.lst hD6).of (s3.trans s46) hD, _, upd_same, ?_⟩
          rw [etk, List.filter_append, List.map_append]
          have e : ([d].filter b).map f = [f d] := by simp [hb]
          rw [e]
          exact ((h2.sm s46).append (.one h6)).tx (Tx.lst hD6)
      | false =>
        refine iteF ⟨s3.trans (s4.trans s5), ys, (s4.trans s5) _ _ h1, ?_⟩
        rw [etk, List.filter_append, List.map_append]
        have e : ([d].filter b).map f = [] := by simp [hb]
        rw [e, List.append_nil]
        exact h2.sm (s4.trans s5)
    · rintro H3 ⟨s3, ys, h1, h2⟩
      rw [List.take_length] at h2
      exact q D ys H3 (s2.free hD) (s2.trans s3) h1 h2
theorem filter_all {α : Type} (l : List α) : l.filter (fun _ => true) = l := List.filter_eq_self.mpr fun _ _ => rfl
theorem ef_lcY {i : Nat} (f : PyData → PyData) (hw : ∀ H', Same H H' → Wk wi σ Hb H' ds) (hH : Same Hb H) (hlen : ds.length ≤ 100000) (hi : ∀ x : Option V, wipe ((wipe σ [i]).set i x) [i] = wipe σ [i])
    (ht : ∀ d x H', d ∈ ds → Same H H' → Td H' x d → Ev K te ((wipe σ [i]).set i (some x)) H' (.t (f d))) : Ef (tLc wi (gName i) tYes te [i]) σ H (ds.map f) := by
  have h := ef_lc (K := K) (te := te) (tt := tYes) (i := i) (fun _ => true) f hw hH hlen hi fun d x H' hm s hx => ⟨fun H1 s1 Q q => q H1 (Same.refl _), fun _ => ht d x H' hm s hx⟩
  rw [filter_all] at h
  exact h
end
end My

/-! Mir2: picks, folds, lists as plain data. -/
namespace My
namespace Tr
def idle : Tr := j (j S K) K
def rep (f : Tr → Tr) : Nat → Tr → Tr
  | 0, t => t
  | n + 1, t => f (rep f n t)
def pickB (behind : Nat) : Tr := if behind = 0 then idle else K
def kf (t : Tr) : Tr := j K t
def sf (t : Tr) : Tr := j (j S (j K K)) t
def pickT (k many : Nat) : Tr := rep kf k (rep sf (many - 1 - k - 1) (pickB (many - 1 - k)))
def pickCost (k many : Nat) : Nat := if many - 1 - k = 0 then k + 2 else k + (many - 1 - k) + 2 * (many - 1 - k - 1)
def leadK : Tr → Nat
  | j K v => leadK v + 1
  | _ => 0
def pickedT (t : Tr) (many : Nat) : Option Nat := if leadK t < many ∧ t = pickT (leadK t) many then some (leadK t) else none
def foldS (t x : Tr) : Tr := j (j S t) (j K x)
def foldT (xs : List Tr) : Tr := xs.foldl foldS idle
def cellT : Tr → Bool
  | j (j a _) (j c _) => decide (a = S) && decide (c = K)
  | _ => false
/-- the things of a fold, the last first -/
def unfR : Tr → Option (List Tr)
  | j (j S t) (j K x) => (unfR t).map (x :: ·)
  | t => if t = idle then some [] else none
def unfT (t : Tr) : Option (List Tr) := (unfR t).map List.reverse
def listT (xs : List Tr) : Tr := xs.foldr (fun x t => j K (foldT [x, t])) K
def thT : Tr → Option (List Tr)
  | K => some []
  | j K (j (j S (j (j S (j (j S K) K)) (j K x))) (j K y)) => (thT y).map (x :: ·)
  | _ => none
def packT (a b c : Tr) : Tr := foldT [a, b, c]
def endT (a b c d : Tr) : Tr := foldT [a, b, c, d]

theorem rep_dep {f : Tr → Tr} {c : Nat} (h : ∀ t, depth (f t) ≤ max c (depth t) + 1) : ∀ n t, depth (rep f n t) ≤ max c (depth t) + n
  | 0, t => by show depth t ≤ _; omega
  | n + 1, t => by
    have h1 := h (rep f n t)
    have h2 := rep_dep h n t
    show depth (f (rep f n t)) ≤ _
    omega
theorem pick_depth (k many : Nat) : depth (pickT k many) ≤ many + k + 3 := by
  have h1 : ∀ t, depth (kf t) ≤ max 0 (depth t) + 1 := fun t => by show max (depth K) (depth t) + 1 ≤ _; show max 0 (depth t) + 1 ≤ _; omega
  have h2 : ∀ t, depth (sf t) ≤ max 2 (depth t) + 1 := fun t => by show max 2 (depth t) + 1 ≤ _; omega
  have e1 := rep_dep h1 k (rep sf (many - 1 - k - 1) (pickB (many - 1 - k)))
  have e2 := rep_dep h2 (many - 1 - k - 1) (pickB (many - 1 - k))
  have e3 : depth (pickB (many - 1 - k)) ≤ 2 := by
    unfold pickB
    split
    · exact Nat.le_refl _
    · exact Nat.zero_le _
  unfold pickT
  omega
theorem cell_form {t : Tr} (h : cellT t = true) : ∃ u x, t = j (j S u) (j K x) := by
  match t, h with
  | j (j a u) (j c x), h =>
    have h : (decide (a = S) && decide (c = K)) = true := h
    rw [Bool.and_eq_true, decide_eq_true_eq, decide_eq_true_eq] at h
    exact ⟨u, x, by rw [h.1, h.2]⟩
theorem unfR_cell (u x : Tr) : unfR (j (j S u) (j K x)) = (unfR u).map (x :: ·) := rfl
theorem unfR_not {t : Tr} (h : cellT t = false) : unfR t = if t = idle then some [] else none := by
  unfold unfR
  split
  · cases h
  · rfl
theorem fold_app (xs : List Tr) (x : Tr) : foldT (xs ++ [x]) = foldS (foldT xs) x := by
  unfold foldT
  rw [List.foldl_append]
  rfl
end Tr
end My

/-! W1: the defs of trees, walked. -/
namespace My
open PySem PySem.Spec PyProof.Rows L2
section
variable {P : Program} {w : World} {K : PySem.W.Frag} {mg : Str → Option Value} {base : Heap}
theorem eqv_S (t : Tr) : PyData.eqv t.d (.str "S") = decide (t = .S) := Tr.eqv_d t .S
theorem eqv_K (t : Tr) : PyData.eqv t.d (.str "K") = decide (t = .K) := Tr.eqv_d t .K
theorem strS_ok : PyData.canLay0 (.str "S") = true := by decide +kernel
theorem strK_ok : PyData.canLay0 (.str "K") = true := by decide +kernel
/-- a tree == 'S' -/
theorem ev_eqS {N : Nat} {σ : L2.St} {H : Hp} {ta : TE} {t : Tr} (h : Ev K ta σ H (.t t.d)) : Ev K (tOp (rEqG K N) ta (tC (.str "S"))) σ H (.t (.bool (decide (t = .S)))) := by
  rw [← eqv_S]
  exact ev_eqG h ev_str rfl rfl t.lay strS_ok (Nat.le_trans (Nat.min_le_right _ _) (Nat.zero_le _))
theorem ev_eqK {N : Nat} {σ : L2.St} {H : Hp} {ta : TE} {t : Tr} (h : Ev K ta σ H (.t t.d)) : Ev K (tOp (rEqG K N) ta (tC (.str "K"))) σ H (.t (.bool (decide (t = .K)))) := by
  rw [← eqv_K]
  exact ev_eqG h ev_str rfl rfl t.lay strK_ok (Nat.le_trans (Nat.min_le_right _ _) (Nat.zero_le _))
theorem ev_neK {N : Nat} {σ : L2.St} {H : Hp} {ta : TE} {t : Tr} (h : Ev K ta σ H (.t t.d)) : Ev K (tOp (rNeG K N) ta (tC (.str "K"))) σ H (.t (.bool (!decide (t = .K)))) := by
  rw [← eqv_K]
  exact ev_neG h ev_str rfl rfl t.lay strK_ok (Nat.le_trans (Nat.min_le_right _ _) (Nat.zero_le _))
/-- isinstance(tree, str) -/
theorem ev_leaf {σ : L2.St} {H : Hp} {ta : TE} {t : Tr} (h : Ev K ta σ H (.t t.d)) : Ev K (tCB (rIsi K) (tCons ta (tCons (tC (.ty "str")) tNil))) σ H (.t (.bool t.isLeaf)) := ev_isi h (kit_tr t)
/-- the parts of a joint -/
theorem ev_j0 {σ : L2.St} {H : Hp} {ta : TE} {l r : Tr} (h : Ev K ta σ H (.t (Tr.j l r).d)) : Ev K (tOp (rIx K) ta (tC (.int 0))) σ H (.t l.d) := ev_ixT h ev_int rfl
theorem ev_j1 {σ : L2.St} {H : Hp} {ta : TE} {l r : Tr} (h : Ev K ta σ H (.t (Tr.j l r).d)) : Ev K (tOp (rIx K) ta (tC (.int 1))) σ H (.t r.d) := ev_ixT h ev_int rfl
theorem ev_j2 {σ : L2.St} {H : Hp} {ta : TE} {l r : Tr} (h : Ev K ta σ H (.t (Tr.j l r).d)) : Ev K (tOp (rIx K) ta (tC (.int 2))) σ H (.t (.int (l.leaves + r.leaves : Nat))) := ev_ixT h ev_int rfl
theorem ev_j3 {σ : L2.St} {H : Hp} {ta : TE} {l r : Tr} (h : Ev K ta σ H (.t (Tr.j l r).d)) : Ev K (tOp (rIx K) ta (tC (.int 3))) σ H (.t (.bool (Tr.j l r).isVal)) := ev_ixT h ev_int rfl

def f_is_value : Gr := fun as d => ∃ t : Tr, as = [.t t.d] ∧ d = .bool t.isVal
theorem len_is_value {as : List Ag} {d : PyData} (h : f_is_value as d) : as.length = 1 := by obtain ⟨t, rfl, _⟩ := h; rfl
theorem sc_is_value : FnScope ["tree"] ["tree"] (defScope st_is_value) := ⟨rfl, rfl, rfl, by decide +kernel, rfl, by decide +kernel, by decide +kernel⟩
theorem has_is_value (T : Txt P w K mg base) : Has P w K mg base "is_value" ["tree"] 1 (SpT K f_is_value) := by
  refine has_mk T.glo_is_value (T.c.def_ 11 (d := d_is_value) rfl) sc_is_value (SpT.len (fun as d h => by exact len_is_value h)) (fun _ _ _ _ _ _ us hl => match us, hl with | [_], _ => rfl) (fun cdv A outer s H vs Q E hr h => ?_)
  refine ⟨_, (pss_one (ps_ret (pe_or (pe_callB call_isi (by rfl) T.free_isinstance (by decide +kernel) (pa_cons (pv 0) (pa_cons (pe_bltn (v := .ty "str") (u := .type "str") rfl T.free_str (by decide +kernel) rfl) pa_nil))) (pe_one (pe_ixK (K := K) (pv 0) pe_int (fun _ _ => rfl)))))), ?_⟩
  obtain ⟨as, d, ⟨t, rfl, rfl⟩, hv, k⟩ := h
  obtain ⟨x, rfl, hx⟩ := hv.i1
  have e0 : Ev K (tVar 0) (start ["tree"] [x]) H (.t t.d) := ev_var rfl hx
  cases t with
  | j l r => exact st_ret ((ev_orV (ev_leaf e0) fun _ => ev_j3 e0).is rfl) k
  | S => exact st_ret ((ev_orV (b := true) (ev_leaf e0) fun z => nomatch z).is rfl) k
  | K => exact st_ret ((ev_orV (b := true) (ev_leaf e0) fun z => nomatch z).is rfl) k
  | nm y => exact st_ret ((ev_orV (b := true) (ev_leaf e0) fun z => nomatch z).is rfl) k
def f_leaves : Gr := fun as d => ∃ t : Tr, as = [.t t.d] ∧ d = .int (t.leaves : Nat)
theorem len_leaves {as : List Ag} {d : PyData} (h : f_leaves as d) : as.length = 1 := by obtain ⟨t, rfl, _⟩ := h; rfl
theorem sc_leaves : FnScope ["tree"] ["tree"] (defScope st_leaves) := ⟨rfl, rfl, rfl, by decide +kernel, rfl, by decide +kernel, by decide +kernel⟩
theorem has_leaves (T : Txt P w K mg base) : Has P w K mg base "leaves" ["tree"] 1 (SpT K f_leaves) := by
  refine has_mk T.glo_leaves (T.c.def_ 12 (d := d_leaves) rfl) sc_leaves (SpT.len (fun as d h => by exact len_leaves h)) (fun _ _ _ _ _ _ us hl => match us, hl with | [_], _ => rfl) (fun cdv A outer s H vs Q E hr h => ?_)
  refine ⟨_, (pss_cons (ps_if (pt_val (pe_callB call_isi (by rfl) T.free_isinstance (by decide +kernel) (pa_cons (pv 0) (pa_cons (pe_bltn (v := .ty "str") (u := .type "str") rfl T.free_str (by decide +kernel) rfl) pa_nil)))) (pss_one (ps_ret pe_int)) pss_nil)
    (pss_one (ps_ret (pe_ixK (K := K) (pv 0) pe_int (fun _ _ => rfl))))), ?_⟩
  obtain ⟨as, d, ⟨t, rfl, rfl⟩, hv, k⟩ := h
  obtain ⟨x, rfl, hx⟩ := hv.i1
  have e0 : ∀ H', Same H H' → Ev K (tVar 0) (start ["tree"] [x]) H' (.t t.d) := fun H' s => ev_var rfl (hx.sm s)
  refine st_if (eb_B (ev_leaf (e0 H (Same.refl H)))) fun H1 s1 => ?_
  cases t with
  | j l r => exact st_ret (ev_j2 (e0 H1 s1)) fun v H' s h => k v H' (s1.trans s) h
  | S => exact st_ret (K := K) ev_int fun v H' s h => k v H' (s1.trans s) h
  | K => exact st_ret (K := K) ev_int fun v H' s h => k v H' (s1.trans s) h
  | nm y => exact st_ret (K := K) ev_int fun v H' s h => k v H' (s1.trans s) h
def f_is_done : Gr := fun as d => ∃ l r : Tr, as = [.t l.d, .t r.d] ∧ d = .bool (Tr.j l r).isVal
theorem len_is_done {as : List Ag} {d : PyData} (h : f_is_done as d) : as.length = 2 := by obtain ⟨l, r, rfl, _⟩ := h; rfl
theorem sc_is_done : FnScope ["left", "right"] ["left", "right"] (defScope st_is_done) := ⟨rfl, rfl, rfl, by decide +kernel, rfl, by decide +kernel, by decide +kernel⟩
theorem has_is_done (T : Txt P w K mg base) : Has P w K mg base "is_done" ["left", "right"] 2 (SpT K f_is_done) := by
  refine has_mk T.glo_is_done (T.c.def_ 13 (d := d_is_done) rfl) sc_is_done (SpT.len (fun as d h => by exact len_is_done h)) (fun _ _ _ _ _ _ us hl => match us, hl with | [_, _], _ => rfl) (fun cdv A outer s H vs Q E hr h => ?_)
  refine ⟨_, (pss_cons (ps_if (PW.pt (pw_or (pt_not (pt_val (pc (has_is_value T) (hr.mono (by decide)) (pa_cons (pv 0) pa_nil)))) (pw_or1 (pt_not (pt_val (pc (has_is_value T) (hr.mono (by decide)) (pa_cons (pv 1) pa_nil))))))) (pss_one (ps_ret pe_bl)) pss_nil)
    (pss_cons (ps_if (pt_val (pe_callB call_isi (by rfl) T.free_isinstance (by decide +kernel) (pa_cons (pv 0) (pa_cons (pe_bltn (v := .ty "str") (u := .type "str") rfl T.free_str (by decide +kernel) rfl) pa_nil)))) (pss_one (ps_ret (pe_or (pe_cmpR (op_eqSK (K := K) hr) (pv 0) pe_str (nomark _)) (pe_one (pe_cmpR (op_eqSK (K := K) hr) (pv 0) pe_str (nomark _)))))) pss_nil)
    (pss_one (ps_ret (pe_cmpR (op_eqSK (K := K) hr) (pe_ixK (K := K) (pv 0) pe_int (fun _ _ => rfl)) pe_str (nomark _)))))), ?_⟩
  obtain ⟨as, d, ⟨l, r, rfl, rfl⟩, hv, k⟩ := h
  obtain ⟨x, y, rfl, hx, hy⟩ := hv.i2
  have e0 : ∀ H', Same H H' → Ev K (tVar 0) (start ["left", "right"] [x, y]) H' (.t l.d) := fun H' s => ev_var rfl (hx.sm s)
  have e1 : ∀ H', Same H H' → Ev K (tVar 1) (start ["left", "right"] [x, y]) H' (.t r.d) := fun H' s => ev_var rfl (hy.sm s)
  refine st_if (eb_or (eb_not (eb_B (ev_call ⟨l, rfl, rfl⟩ (ea_cons (e0 H (Same.refl H)) ea_nil)))) fun _ => eb_not (eb_B (ev_call ⟨r, rfl, rfl⟩ (ea_cons (e1 H (Same.refl H)) ea_nil)))) fun H1 s1 => ?_
  cases hl : l.isVal with
  | false => exact st_ret (K := K) ev_bl fun v H' s h => k v H' (s1.trans s) (by rw [Tr.isVal_j, hl]; exact h)
  | true =>
    cases hr : r.isVal with
    | false => exact st_ret (K := K) ev_bl fun v H' s h => k v H' (s1.trans s) (by rw [Tr.isVal_j, hl, hr]; exact h)
    | true =>
      have k' : ∀ b : Bool, b = Tr.hd l → ∀ v H', Same H1 H' → Td H' v (.bool b) → Q v H' := fun b e v H' s h => k v H' (s1.trans s) (by rw [Tr.isVal_j, hl, hr, ← e]; exact h)
      refine iteF ?_
      refine st_if (eb_B (ev_leaf (e0 H1 s1))) fun H2 s2 => ?_
      cases l with
      | S => exact st_ret (ev_orV (b := true) (ev_eqS (e0 H2 (s1.trans s2))) fun z => nomatch z) fun v H' s h => k' _ rfl v H' (s2.trans s) h
      | K => exact st_ret (ev_orV (ev_eqS (e0 H2 (s1.trans s2))) fun z => ev_eqK (e0 H2 (s1.trans s2))) fun v H' s h => k' _ rfl v H' (s2.trans s) h
      | nm y => exact st_ret (ev_orV (ev_eqS (e0 H2 (s1.trans s2))) fun z => ev_eqK (e0 H2 (s1.trans s2))) fun v H' s h => k' _ (by simp [Tr.hd]) v H' (s2.trans s) h
      | j a b =>
        refine st_ret (ev_eqS (ev_j0 (e0 H2 (s1.trans s2)))) fun v H' s h => k' _ ?_ v H' (s2.trans s) h
        cases a <;> simp [Tr.hd]
def f_joint : Gr := fun as d => ∃ l r : Tr, as = [.t l.d, .t r.d] ∧ d = (Tr.j l r).d
theorem len_joint {as : List Ag} {d : PyData} (h : f_joint as d) : as.length = 2 := by obtain ⟨l, r, rfl, _⟩ := h; rfl
theorem sc_joint : FnScope ["left", "right"] ["left", "right"] (defScope st_joint) := ⟨rfl, rfl, rfl, by decide +kernel, rfl, by decide +kernel, by decide +kernel⟩
theorem has_joint (T : Txt P w K mg base) : Has P w K mg base "joint" ["left", "right"] 3 (SpT K f_joint) := by
  refine has_mk T.glo_joint (T.c.def_ 14 (d := d_joint) rfl) sc_joint (SpT.len (fun as d h => by exact len_joint h)) (fun _ _ _ _ _ _ us hl => match us, hl with | [_, _], _ => rfl) (fun cdv A outer s H vs Q E hr h => ?_)
  refine ⟨_, (pss_one (ps_ret (pe_tup (pa_cons (pv 0) (pa_cons (pv 1) (pa_cons (pe_op op_addG (pc (has_leaves T) (hr.mono (by decide)) (pa_cons (pv 0) pa_nil)) (pc (has_leaves T) (hr.mono (by decide)) (pa_cons (pv 1) pa_nil))) (pa_cons (pc (has_is_done T) (hr.mono (by decide)) (pa_cons (pv 0) (pa_cons (pv 1) pa_nil))) pa_nil))))))), ?_⟩
  obtain ⟨as, d, ⟨l, r, rfl, rfl⟩, hv, k⟩ := h
  obtain ⟨x, y, rfl, hx, hy⟩ := hv.i2
  have e0 : Ev K (tVar 0) (start ["left", "right"] [x, y]) H (.t l.d) := ev_var rfl hx
  have e1 : Ev K (tVar 1) (start ["left", "right"] [x, y]) H (.t r.d) := ev_var rfl hy
  refine st_ret (ev_tup (ds := [l.d, r.d, .int (l.leaves + r.leaves : Nat), .bool (Tr.j l r).isVal]) (ea_cons e0 (ea_cons e1 (ea_cons ((ev_addI (ev_call ⟨l, rfl, rfl⟩ (ea_cons e0 ea_nil)) (ev_call ⟨r, rfl, rfl⟩ (ea_cons e1 ea_nil))).is ?_) (ea_cons (ev_call ⟨l, r, rfl, rfl⟩ (ea_cons e0 (ea_cons e1 ea_nil))) ea_nil)))) (Nat.le_of_ble_eq_true rfl)) k
  rw [Int.natCast_add]
def f_became : Gr := fun as d => ∃ l r : Tr, as = [.t (Tr.j l r).d] ∧ d = (Tr.bec l r).d ∧ Tr.cl l = true ∧ l.isVal = true ∧ Tr.hd l = false
theorem len_became {as : List Ag} {d : PyData} (h : f_became as d) : as.length = 1 := by obtain ⟨l, r, rfl, _⟩ := h; rfl
/-- a tuple of four taken apart -/
theorem st_un4 {K : PySem.W.Frag} {σ : L2.St} {H : Hp} {D : Ends} {te : TE} {i1 i2 i3 i4 : Nat} {d1 d2 d3 d4 : PyData} (he : Ev K te σ H (.t (.tuple [d1, d2, d3, d4])))
    (k : ∀ a b c d H', Same H H' → Td H' a d1 → Td H' b d2 → Td H' c d3 → Td H' d d4 → D.nx ((((σ.set i1 (some a)).set i2 (some b)).set i3 (some c)).set i4 (some d)) H') :
    tAsg te (gTup K 4 (gCons (gName i1) (gCons (gName i2) (gCons (gName i3) (gCons (gName i4) gNil))))) D σ H :=
  he H (Same.refl H) _ fun v H1 s1 h1 => by
    obtain ⟨p, a, b, c, d, rfl, hp, ha, hb, hc, hd⟩ := Td.t4 h1
    exact ⟨p, _, rfl, SqT.of hp, rfl, a, _, rfl, b, _, rfl, c, _, rfl, d, _, rfl, rfl, k a b c d H1 s1 ha hb hc hd⟩
theorem sc_became : FnScope ["tree", "left", "right", "many", "done"] ["tree"] (defScope st_became) := ⟨rfl, rfl, rfl, by decide +kernel, rfl, by decide +kernel, by decide +kernel⟩
theorem has_became (T : Txt P w K mg base) : Has P w K mg base "became" ["tree"] 4 (SpT K f_became) := by
  refine has_mk T.glo_became (T.c.def_ 15 (d := d_became) rfl) sc_became (SpT.len (fun as d h => by exact len_became h)) (fun _ _ _ _ _ _ us hl => match us, hl with | [_], _ => rfl) (fun cdv A outer s H vs Q E hr h => ?_)
  refine ⟨_, (pss_cons (ps_asg (pv 0) (pg_tup rfl (pgs_cons (pg_name (i := 1) sc_became.nd rfl (by first | exact Or.inl rfl | exact Or.inr rfl)) (pgs_cons (pg_name (i := 2) sc_became.nd rfl (by first | exact Or.inl rfl | exact Or.inr rfl)) (pgs_cons (pg_name (i := 3) sc_became.nd rfl (by first | exact Or.inl rfl | exact Or.inr rfl)) (pgs_cons (pg_name (i := 4) sc_became.nd rfl (by first | exact Or.inl rfl | exact Or.inr rfl)) pgs_nil))))))
    (pss_cons (ps_if (pt_cmpR (op_eqSK (K := K) hr) (pe_ixK (K := K) (pv 1) pe_int (fun _ _ => rfl)) pe_str (nomark _)) (pss_one (ps_ret (pe_ixK (K := K) (pv 1) pe_int (fun _ _ => rfl)))) pss_nil)
    (pss_one (ps_ret (pc (has_joint T) (hr.mono (by decide)) (pa_cons (pc (has_joint T) (hr.mono (by decide)) (pa_cons (pe_ixK (K := K) (pe_ixK (K := K) (pv 1) pe_int (fun _ _ => rfl)) pe_int (fun _ _ => rfl)) (pa_cons (pv 2) pa_nil))) (pa_cons (pc (has_joint T) (hr.mono (by decide)) (pa_cons (pe_ixK (K := K) (pv 1) pe_int (fun _ _ => rfl)) (pa_cons (pv 2) pa_nil))) pa_nil))))))), ?_⟩
  obtain ⟨as, d, ⟨l, r, rfl, rfl, hcl, hl, hh⟩, hv, k⟩ := h
  obtain ⟨x, rfl, hx⟩ := hv.i1
  refine st_un4 (ev_var rfl hx) fun a b c e H1 s1 ha hb _ _ => ?_
  have e1 : ∀ H', Same H1 H' → Ev K (tVar 1) [some x, some a, some b, some c, some e] H' (.t l.d) := fun H' s => ev_var rfl (ha.sm s)
  have e2 : ∀ H', Same H1 H' → Ev K (tVar 2) [some x, some a, some b, some c, some e] H' (.t r.d) := fun H' s => ev_var rfl (hb.sm s)
  rcases Tr.place_form (r := r) hcl hl hh with ⟨v, rfl, eb⟩ | ⟨a', u, v, rfl, eb⟩
  · refine st_if (eb_test (ev_eqK (ev_j0 (e1 H1 (Same.refl H1))))) fun H2 s2 => ?_
    exact st_ret (ev_j1 (e1 H2 s2)) fun v H' s h => k v H' ((s1.trans s2).trans s) h
  · refine st_if (eb_test (ev_eqK (ev_j0 (e1 H1 (Same.refl H1))))) fun H2 s2 => ?_
    rw [eb] at k
    exact st_ret (ev_call ⟨_, _, rfl, rfl⟩ (ea_cons (ev_call ⟨u, r, rfl, rfl⟩ (ea_cons (ev_j1 (ev_j0 (e1 H2 s2))) (ea_cons (e2 H2 s2) ea_nil))) (ea_cons (ev_call ⟨v, r, rfl, rfl⟩ (ea_cons (ev_j1 (e1 H2 s2)) (ea_cons (e2 H2 s2) ea_nil))) ea_nil)))
      fun v H' s h => k v H' ((s1.trans s2).trans s) h
end
end My

/-! W2: the way down and up, the run. -/
namespace My
open PySem PySem.Spec PyProof.Rows L2
section
variable {P : Program} {w : World} {K : PySem.W.Frag} {mg : Str → Option Value} {base : Heap}
def wd (w : Bool × Tr) : PyData := .tuple [.bool w.1, w.2.d]
def wds (ws : List (Bool × Tr)) : List PyData := ws.map wd
theorem wds_app (a b : List (Bool × Tr)) : wds (a ++ b) = wds a ++ wds b := List.map_append
theorem wds_len (a : List (Bool × Tr)) : (wds a).length = a.length := List.length_map _
/-- a list of ways at p -/
def Ways (H : Hp) (p : Addr) (ws : List (Bool × Tr)) : Prop := ∃ xs, H p = some (.lst xs) ∧ TdAll H xs (wds ws)
theorem Ways.sm {H H' : Hp} {p : Addr} {ws : List (Bool × Tr)} (s : Same H H') (h : Ways H p ws) : Ways H' p ws := let ⟨xs, a, b⟩ := h; ⟨xs, s _ _ a, b.sm s⟩

def SpOpened : Sp := fun vs H Q _ => ∃ (x : V) (p : Addr) (ws : List (Bool × Tr)) (t : Tr), vs = [x, .ref p] ∧ Td H x t.d ∧ Ways H p ws ∧ t.isVal = false ∧ ws.length + t.depth ≤ 2000000 ∧
  ∀ v H', Mut p H H' → Ways H' p (ws ++ (Tr.opT t).2) → Td H' v (Tr.opT t).1.d → Q v H'
theorem len_opened {vs : List V} {H : Hp} {Q : VK} {E : XK} (h : SpOpened vs H Q E) : vs.length = 2 := by obtain ⟨x, p, ws, t, rfl, _⟩ := h; rfl
theorem sc_opened : FnScope ["tree", "ways", "deeper"] ["tree", "ways"] (defScope st_opened) := ⟨rfl, rfl, rfl, by decide +kernel, rfl, by decide +kernel, by decide +kernel⟩
theorem has_opened (T : Txt P w K mg base) : Has P w K mg base "opened" ["tree", "ways"] 2 (SpOpened) := by
  refine has_mk T.glo_opened (T.c.def_ 16 (d := d_opened) rfl) sc_opened (fun vs H Q E h => by exact len_opened h) (fun _ _ _ _ _ _ us hl => match us, hl with | [_, _], _ => rfl) (fun cdv A outer s H vs Q E hr h => ?_)
  refine ⟨_, (pss_cons (ps_set (i := 2) sc_opened.nd rfl (by first | exact Or.inl rfl | exact Or.inr rfl) pe_bl)
    (pss_cons (ps_while PassesOwn.never (pt_val (pv 2)) (pss_one (ps_if (pt_not (pt_val (pc (has_is_value T) (hr.mono (by decide)) (pa_cons (pe_ixK (K := K) (pv 0) pe_int (fun _ _ => rfl)) pa_nil)))) (pss_cons (ps_expr (pe_bm PySem.F.plainAttrs_list PySem.F.slot_list_append PySem.F.type_list_append mt_append (pv 1) (pa_cons (pe_tup (pa_cons pe_bl (pa_cons (pe_ixK (K := K) (pv 0) pe_int (fun _ _ => rfl)) pa_nil))) pa_nil)))
    (pss_one (ps_set (i := 0) sc_opened.nd rfl (by first | exact Or.inl rfl | exact Or.inr rfl) (pe_ixK (K := K) (pv 0) pe_int (fun _ _ => rfl))))) (pss_one (ps_if (pt_not (pt_val (pc (has_is_value T) (hr.mono (by decide)) (pa_cons (pe_ixK (K := K) (pv 0) pe_int (fun _ _ => rfl)) pa_nil)))) (pss_cons (ps_expr (pe_bm PySem.F.plainAttrs_list PySem.F.slot_list_append PySem.F.type_list_append mt_append (pv 1) (pa_cons (pe_tup (pa_cons pe_bl (pa_cons (pe_ixK (K := K) (pv 0) pe_int (fun _ _ => rfl)) pa_nil))) pa_nil)))
    (pss_one (ps_set (i := 0) sc_opened.nd rfl (by first | exact Or.inl rfl | exact Or.inr rfl) (pe_ixK (K := K) (pv 0) pe_int (fun _ _ => rfl))))) (pss_one (ps_set (i := 2) sc_opened.nd rfl (by first | exact Or.inl rfl | exact Or.inr rfl) pe_bl)))))))
    (pss_one (ps_ret (pv 0))))), ?_⟩
  obtain ⟨x, p, ws, t, rfl, hx, hw, hv, hl, k⟩ := h
  refine q_set (K := K) ev_bl fun u H1 s1 h1 => ?_
  cases Td.bl_of h1
  have m1 : Mut p H H1 := Mut.same s1
  have w1 := hw.sm s1
  have x1 := hx.sm s1
  -- deeper: the flag; cur: where one is
  · refine q_while (fun m σ H' => ∃ (b : Bool) (v : V) (cur : Tr) (acc : List (Bool × Tr)), σ = [some v, some (.ref p), some (.bl b)] ∧ m = cur.depth + (if b then 1 else 0) ∧ Mut p H H' ∧ Td H' v cur.d ∧ Ways H' p (ws ++ acc) ∧
      acc.length + cur.depth ≤ t.depth ∧ (b = true → cur.isVal = false ∧ (Tr.opT t).1 = (Tr.opT cur).1 ∧ (Tr.opT t).2 = acc ++ (Tr.opT cur).2) ∧ (b = false → (Tr.opT t).1 = cur ∧ (Tr.opT t).2 = acc))
      (t.depth + 1) ⟨true, x, t, [], rfl, rfl, m1, x1, by rw [List.append_nil]; exact w1, by rw [List.length_nil, Nat.zero_add]; exact Nat.le_refl _, fun _ => ⟨hv, rfl, rfl⟩, fun z => nomatch z⟩ ?_
    rintro m σ H2 ⟨b, v, cur, acc, rfl, rfl, m2, v2, w2, l2, ht, hf⟩
    refine ⟨b, eb_B (ev_var rfl (show At K H2 (.bl b) (.t (.bool b)) from Td.bl b)), fun H3 s3 => ?_⟩
    have m3 := m2.trans (Mut.same s3)
    cases b with
    | false =>
      obtain ⟨e1, e2⟩ := hf rfl
      refine iteF ?_
      have tv : Td H3 v (Tr.opT t).1.d := by rw [e1]; exact v2.sm s3
      have w' : Ways H3 p (ws ++ (Tr.opT t).2) := by rw [e2]; exact w2.sm s3
      exact st_ret (ev_var rfl (show At K H3 v (.t (Tr.opT t).1.d) from tv)) fun v H2 s2 h2 => k v H2 (m3.trans (Mut.same s2)) (w'.sm s2) h2
    | true =>
      refine iteT ?_
      obtain ⟨cv, e1, e2⟩ := ht rfl
      cases cur with
      | S => cases cv
      | K => cases cv
      | nm y => cases cv
      | j l r =>
        have ev0 : ∀ H', Same H2 H' → Ev K (tVar 0) [some v, some (.ref p), some (.bl true)] H' (.t (Tr.j l r).d) := fun H' s => ev_var rfl (v2.sm s)
        cases hl1 : l.isVal with
        | false =>
          have eo : Tr.opT (.j l r) = ((Tr.opT l).1, (false, r) :: (Tr.opT l).2) := by rw [Tr.opT, if_pos hl1]
          rw [eo] at e1 e2
          refine st_ifT ((eb_not (eb_B (ev_call ⟨l, rfl, rfl⟩ (ea_cons (ev_j0 (ev0 H3 s3)) ea_nil)))).is (by rw [hl1]; rfl)) fun H4 s4 => ?_
          obtain ⟨xs, h4, t4⟩ := w2.sm (s3.trans s4)
          refine q_append rfl h4 t4 (ev_tup (ds := [.bool false, r.d]) (ea_cons ev_bl (ea_cons (ev_j1 (ev0 H4 (s3.trans s4))) ea_nil)) (Nat.le_of_ble_eq_true rfl)) ?_ fun ys H5 m5 h5 t5 => ?_
          · rw [wds_len, List.length_append]; omega
          have v5 : Td H5 v (Tr.j l r).d := (v2.sm (s3.trans s4)).tx m5.tx
          refine st_set (ev_j0 (ev_var rfl (show At K H5 v (.t (Tr.j l r).d) from v5))) fun u H6 s6 h6 => ?_
          refine ⟨l.depth + 1, ?_, true, u, l, acc ++ [(false, r)], rfl, rfl, ((m3.trans (Mut.same s4)).trans m5).trans (Mut.same s6), h6, ?_, ?_, fun _ => ⟨hl1, e1, ?_⟩, fun z => nomatch z⟩
          · show l.depth + 1 < (max l.depth r.depth + 1) + 1
            omega
          · rw [← List.append_assoc]
            exact Ways.sm s6 ⟨ys, h5, by rw [wds_app]; exact t5⟩
          · have : acc.length + (max l.depth r.depth + 1) ≤ t.depth := l2
            rw [List.length_append, List.length_singleton]
            omega
          · rw [e2, List.append_assoc]; rfl
        | true =>
          refine st_ifF ((eb_not (eb_B (ev_call ⟨l, rfl, rfl⟩ (ea_cons (ev_j0 (ev0 H3 s3)) ea_nil)))).is (by rw [hl1]; rfl)) fun H4 s4 => ?_
          have s34 := s3.trans s4
          cases hr1 : r.isVal with
          | false =>
            have eo : Tr.opT (.j l r) = ((Tr.opT r).1, (true, l) :: (Tr.opT r).2) := by rw [Tr.opT, if_neg (by rw [hl1]; decide), if_pos hr1]
            rw [eo] at e1 e2
            refine st_ifT ((eb_not (eb_B (ev_call ⟨r, rfl, rfl⟩ (ea_cons (ev_j1 (ev0 H4 s34)) ea_nil)))).is (by rw [hr1]; rfl)) fun H5 s5 => ?_
            have s35 := s34.trans s5
            obtain ⟨xs, h4, t4⟩ := w2.sm s35
            refine q_append rfl h4 t4 (ev_tup (ds := [.bool true, l.d]) (ea_cons ev_bl (ea_cons (ev_j0 (ev0 H5 s35)) ea_nil)) (Nat.le_of_ble_eq_true rfl)) ?_ fun ys H6 m6 h6 t6 => ?_
            · rw [wds_len, List.length_append]; omega
            have v6 : Td H6 v (Tr.j l r).d := (v2.sm s35).tx m6.tx
            refine st_set (ev_j1 (ev_var rfl (show At K H6 v (.t (Tr.j l r).d) from v6))) fun u H7 s7 h7 => ?_
            refine ⟨r.depth + 1, ?_, true, u, r, acc ++ [(true, l)], rfl, rfl, ((m2.trans (Mut.same s35)).trans m6).trans (Mut.same s7), h7, ?_, ?_, fun _ => ⟨hr1, e1, ?_⟩, fun z => nomatch z⟩
            · show r.depth + 1 < (max l.depth r.depth + 1) + 1
              omega
            · rw [← List.append_assoc]
              exact Ways.sm s7 ⟨ys, h6, by rw [wds_app]; exact t6⟩
            · have : acc.length + (max l.depth r.depth + 1) ≤ t.depth := l2
              rw [List.length_append, List.length_singleton]
              omega
            · rw [e2, List.append_assoc]; rfl
          | true =>
            have eo : Tr.opT (.j l r) = (.j l r, []) := by rw [Tr.opT, if_neg (by rw [hl1]; decide), if_neg (by rw [hr1]; decide)]
            rw [eo] at e1 e2
            refine st_ifF ((eb_not (eb_B (ev_call ⟨r, rfl, rfl⟩ (ea_cons (ev_j1 (ev0 H4 s34)) ea_nil)))).is (by rw [hr1]; rfl)) fun H5 s5 => ?_
            have s35 := s34.trans s5
            refine st_set (K := K) ev_bl fun u H6 s6 h6 => ?_
            cases Td.bl_of h6
            exact ⟨(Tr.j l r).depth, Nat.lt_succ_self _, false, v, .j l r, acc, rfl, rfl, (m2.trans (Mut.same s35)).trans (Mut.same s6), v2.sm (s35.trans s6), w2.sm (s35.trans s6), l2, (fun z => nomatch z), fun _ => ⟨e1, by rw [e2, List.append_nil]⟩⟩
def SpOneUp : Sp := fun vs H Q _ => ∃ (x : V) (p : Addr) (ws : List (Bool × Tr)) (wy : Bool × Tr) (t : Tr), vs = [x, .ref p] ∧ Td H x t.d ∧ Ways H p (ws ++ [wy]) ∧
  ∀ v H', Mut p H H' → Ways H' p ws → Td H' v (Tr.up wy t).d → Q v H'
theorem len_one_up {vs : List V} {H : Hp} {Q : VK} {E : XK} (h : SpOneUp vs H Q E) : vs.length = 2 := by obtain ⟨x, p, ws, wy, t, rfl, _⟩ := h; rfl
theorem Ways.pop {H : Hp} {p : Addr} {ws : List (Bool × Tr)} {wy : Bool × Tr} (h : Ways H p (ws ++ [wy])) : ∃ xs y, H p = some (.lst xs) ∧ xs[xs.length - 1]? = some y ∧ Td H y (wd wy) ∧ TdAll H xs.dropLast (wds ws) := by
  obtain ⟨xs, h1, t⟩ := h
  rw [wds_app] at t
  have hl := t.length
  rw [List.length_append, wds_len] at hl
  have hl : xs.length = ws.length + 1 := hl
  obtain ⟨y, e1, e2⟩ := t.get (i := xs.length - 1) (d := wd wy) (by rw [hl, Nat.add_sub_cancel, List.getElem?_append_right (by rw [wds_len]; exact Nat.le_refl _), wds_len, Nat.sub_self]; rfl)
  refine ⟨xs, y, h1, e1, e2, ?_⟩
  have t2 := t.take ws.length
  rw [List.dropLast_eq_take, hl, Nat.add_sub_cancel]
  have e3 : (wds ws ++ wds [wy]).take ws.length = wds ws := by
    rw [← wds_len ws, List.take_left]
  rw [e3] at t2
  exact t2
theorem sc_one_up : FnScope ["tree", "ways", "behind", "other"] ["tree", "ways"] (defScope st_one_up) := ⟨rfl, rfl, rfl, by decide +kernel, rfl, by decide +kernel, by decide +kernel⟩
theorem has_one_up (T : Txt P w K mg base) : Has P w K mg base "one_up" ["tree", "ways"] 4 (SpOneUp) := by
  refine has_mk T.glo_one_up (T.c.def_ 17 (d := d_one_up) rfl) sc_one_up (fun vs H Q E h => by exact len_one_up h) (fun _ _ _ _ _ _ us hl => match us, hl with | [_, _], _ => rfl) (fun cdv A outer s H vs Q E hr h => ?_)
  refine ⟨_, (pss_cons (ps_asg (pe_bm0 PySem.F.plainAttrs_list PySem.F.slot_list_pop PySem.F.type_list_pop mt_pop (pv 1)) (pg_tup rfl (pgs_cons (pg_name (i := 2) sc_one_up.nd rfl (by first | exact Or.inl rfl | exact Or.inr rfl)) (pgs_cons (pg_name (i := 3) sc_one_up.nd rfl (by first | exact Or.inl rfl | exact Or.inr rfl)) pgs_nil))))
    (pss_cons (ps_if (pt_val (pv 2)) (pss_one (ps_ret (pc (has_joint T) (hr.mono (by decide)) (pa_cons (pv 3) (pa_cons (pv 0) pa_nil))))) pss_nil)
    (pss_one (ps_ret (pc (has_joint T) (hr.mono (by decide)) (pa_cons (pv 0) (pa_cons (pv 3) pa_nil))))))), ?_⟩
  obtain ⟨x, p, ws, wy, t, rfl, hx, hw, k⟩ := h
  obtain ⟨xs, y, h1, h2, h3, h4⟩ := hw.pop
  obtain ⟨a, b, c, rfl, ha, hb, hc⟩ := Td.t2 h3
  have m1 : Mut p H (upd H p (.lst xs.dropLast)) := Mut.lst h1
  refine ⟨_, rfl, .inl ⟨rfl, _, SqL.of h1⟩, p, xs, _, rfl, rfl, h1, h2, ?_⟩
  refine ⟨a, _, rfl, SqT.of (m1.tx _ _ ha), rfl, b, _, rfl, c, _, rfl, rfl, ?_⟩
  have hb1 := hb.tx m1.tx
  have hc1 := hc.tx m1.tx
  have hx1 := hx.tx m1.tx
  have w1 : Ways (upd H p (.lst xs.dropLast)) p ws := ⟨_, upd_same, h4.tx m1.tx⟩
  have e2 : ∀ H', Same (upd H p (.lst xs.dropLast)) H' → Ev K (tVar 2) [some x, some (.ref p), some b, some c] H' (.t (.bool wy.1)) := fun H' s => ev_var rfl (hb1.sm s)
  have e3 : ∀ H', Same (upd H p (.lst xs.dropLast)) H' → Ev K (tVar 3) [some x, some (.ref p), some b, some c] H' (.t wy.2.d) := fun H' s => ev_var rfl (hc1.sm s)
  have e0 : ∀ H', Same (upd H p (.lst xs.dropLast)) H' → Ev K (tVar 0) [some x, some (.ref p), some b, some c] H' (.t t.d) := fun H' s => ev_var rfl (hx1.sm s)
  obtain ⟨f, o⟩ := wy
  cases f with
  | true =>
    refine q_ifT (eb_B (e2 _ (Same.refl _))) fun H2 s2 => ?_
    exact st_ret (ev_call ⟨o, t, rfl, rfl⟩ (ea_cons (e3 H2 s2) (ea_cons (e0 H2 s2) ea_nil))) fun v H3 s3 h3 => k v H3 (m1.trans (Mut.same (s2.trans s3))) (w1.sm (s2.trans s3)) h3
  | false =>
    refine q_ifN (eb_B (e2 _ (Same.refl _))) fun H2 s2 => ?_
    exact st_ret (ev_call ⟨t, o, rfl, rfl⟩ (ea_cons (e0 H2 s2) (ea_cons (e3 H2 s2) ea_nil))) fun v H3 s3 h3 => k v H3 (m1.trans (Mut.same (s2.trans s3))) (w1.sm (s2.trans s3)) h3
def SpClosed : Sp := fun vs H Q _ => ∃ (x : V) (p : Addr) (ws : List (Bool × Tr)) (t : Tr), vs = [x, .ref p] ∧ Td H x t.d ∧ Ways H p ws ∧ ws.length ≤ 10000000 ∧
  ∀ v H', Mut p H H' → Td H' v (Tr.closeT t ws).d → Q v H'
theorem len_closed {vs : List V} {H : Hp} {Q : VK} {E : XK} (h : SpClosed vs H Q E) : vs.length = 2 := by obtain ⟨x, p, ws, t, rfl, _⟩ := h; rfl
theorem ev_lenW {K : PySem.W.Frag} {σ : L2.St} {H : Hp} {i : Nat} {p : Addr} {ws : List (Bool × Tr)} (hi : σ[i]? = some (some (.ref p))) (hw : Ways H p ws) :
    Ev K (tCB (rLenK K) (tCons (tVar i) tNil)) σ H (.t (.int ws.length)) := fun H1 s Q q => by
  obtain ⟨xs, h1, t⟩ := hw.sm s
  refine ⟨_, hi, _, ws.length, rfl, .inl ⟨xs, SqL.of h1, ?_⟩, q _ H1 (Same.refl H1) (Td.int _)⟩
  rw [t.length, wds_len]
/-- the last one taken off -/
theorem snoc_of {α : Type} : ∀ {l : List α}, l ≠ [] → ∃ a b, l = a ++ [b] := fun {l} h => ⟨l.dropLast, l.getLast h, (List.dropLast_concat_getLast h).symm⟩
theorem sc_closed : FnScope ["tree", "ways"] ["tree", "ways"] (defScope st_closed) := ⟨rfl, rfl, rfl, by decide +kernel, rfl, by decide +kernel, by decide +kernel⟩
theorem has_closed (T : Txt P w K mg base) : Has P w K mg base "closed" ["tree", "ways"] 5 (SpClosed) := by
  refine has_mk T.glo_closed (T.c.def_ 18 (d := d_closed) rfl) sc_closed (fun vs H Q E h => by exact len_closed h) (fun _ _ _ _ _ _ us hl => match us, hl with | [_, _], _ => rfl) (fun cdv A outer s H vs Q E hr h => ?_)
  refine ⟨_, (pss_cons (ps_while PassesOwn.never (pt_cmpR op_gt (pe_callB (call_lenK (K := K)) (by rfl) T.free_len PySem.boot_len (pa_cons (pv 1) pa_nil)) pe_int (nomark _)) (pss_one (ps_set (i := 0) sc_closed.nd rfl (by first | exact Or.inl rfl | exact Or.inr rfl) (pc (has_one_up T) (hr.mono (by decide)) (pa_cons (pv 0) (pa_cons (pv 1) pa_nil))))))
    (pss_one (ps_ret (pv 0)))), ?_⟩
  obtain ⟨x, p, ws, t, rfl, hx, hw, hz, k⟩ := h
  refine q_while (fun m σ H' => ∃ (v : V) (cur : Tr) (rs : List (Bool × Tr)), σ = [some v, some (.ref p)] ∧ m = rs.length ∧ Mut p H H' ∧ Td H' v cur.d ∧ Ways H' p rs ∧ Tr.closeT cur rs = Tr.closeT t ws)
    ws.length ⟨x, t, ws, rfl, rfl, Mut.refl, hx, hw, rfl⟩ ?_
  rintro m σ H1 ⟨v, cur, rs, rfl, rfl, m1, v1, w1, e1⟩
  refine ⟨decide ((0 : Int) < (rs.length : Int)), eb_test (ev_cmpI (f := fun i j => decide (j < i)) (ev_lenW rfl w1) ev_int), fun H2 s2 => ?_⟩
  by_cases hr0 : rs = []
  · subst hr0
    refine iteF ?_
    exact st_ret (ev_var rfl (show At K H2 v (.t (Tr.closeT t ws).d) from by rw [← e1]; exact v1.sm s2)) fun v H3 s3 h3 => k v H3 (m1.trans (Mut.same (s2.trans s3))) h3
  · obtain ⟨a, b, rfl⟩ := snoc_of hr0
    have hd : decide ((0 : Int) < ((a ++ [b]).length : Int)) = true := decide_eq_true (by rw [List.length_append, List.length_singleton]; omega)
    rw [hd]
    refine iteT ?_
    refine ⟨_, rfl, _, rfl, v, p, a, b, cur, rfl, v1.sm s2, w1.sm s2, fun u H3 m3 w3 h3 => ?_⟩
    refine ⟨a.length, by rw [List.length_append, List.length_singleton]; omega, u, Tr.up b cur, a, rfl, rfl, m1.trans ((Mut.same s2).trans m3), h3, w3, ?_⟩
    rw [← e1, Tr.closeT_up]
def f_tree_run : Gr := fun as d => ∃ (t u : Tr) (n : Nat), as = [.t t.d, .t (.int n)] ∧ Tr.cl t = true ∧ Tr.iter n t = some u ∧ t.depth + n ≤ 1000000 ∧ d = .tuple [.str (if u.isVal then "value" else "on"), u.d, .int n]
theorem len_tree_run {as : List Ag} {d : PyData} (h : f_tree_run as d) : as.length = 2 := by obtain ⟨t, u, n, rfl, _⟩ := h; rfl
theorem sc_tree_run : FnScope ["tree", "most", "ways", "steps"] ["tree", "most"] (defScope st_tree_run) := ⟨rfl, rfl, rfl, by decide +kernel, rfl, by decide +kernel, by decide +kernel⟩
theorem has_tree_run (T : Txt P w K mg base) : Has P w K mg base "tree_run" ["tree", "most"] 6 (SpT K f_tree_run) := by
  refine has_mkD T.glo_tree_run (T.c.def_ 19 (d := d_tree_run) rfl) sc_tree_run (SpT.len (fun as d h => by exact len_tree_run h)) (fun _ _ _ _ _ _ _ us its h1 h2 => match us, its, h1, h2 with | [_, _], [_], _, _ => ⟨_, rfl, rfl⟩) (fun cdv A outer s H vs Q E hr h => ?_)
  refine ⟨_, (pss_cons (ps_set (i := 2) sc_tree_run.nd rfl (by first | exact Or.inl rfl | exact Or.inr rfl) (pe_lst pa_nil))
    (pss_cons (ps_set (i := 3) sc_tree_run.nd rfl (by first | exact Or.inl rfl | exact Or.inr rfl) pe_int)
    (pss_one (ps_while PassesOwn.never (pt_val pe_bl) (pss_cons (ps_while PassesOwn.never (PW.pt (pw_and (pt_val (pc (has_is_value T) (hr.mono (by decide)) (pa_cons (pv 0) pa_nil))) (pw_and1 (pt_cmpR op_gt (pe_callB (call_lenK (K := K)) (by rfl) T.free_len PySem.boot_len (pa_cons (pv 2) pa_nil)) pe_int (nomark _))))) (pss_one (ps_set (i := 0) sc_tree_run.nd rfl (by first | exact Or.inl rfl | exact Or.inr rfl) (pc (has_one_up T) (hr.mono (by decide)) (pa_cons (pv 0) (pa_cons (pv 2) pa_nil))))))
    (pss_cons (ps_if (pt_val (pc (has_is_value T) (hr.mono (by decide)) (pa_cons (pv 0) pa_nil))) (pss_one (ps_ret (pe_tup (pa_cons pe_str (pa_cons (pv 0) (pa_cons (pv 3) pa_nil)))))) pss_nil)
    (pss_cons (ps_if (pt_cmpR (op_eqSK (K := K) hr) (pv 3) (pv 1) (nomark _)) (pss_one (ps_ret (pe_tup (pa_cons pe_str (pa_cons (pc (has_closed T) (hr.mono (by decide)) (pa_cons (pv 0) (pa_cons (pv 2) pa_nil))) (pa_cons (pv 3) pa_nil)))))) pss_nil)
    (pss_cons (ps_set (i := 0) sc_tree_run.nd rfl (by first | exact Or.inl rfl | exact Or.inr rfl) (pc (has_became T) (hr.mono (by decide)) (pa_cons (pc (has_opened T) (hr.mono (by decide)) (pa_cons (pv 0) (pa_cons (pv 2) pa_nil))) pa_nil)))
    (pss_one (ps_set (i := 3) sc_tree_run.nd rfl (by first | exact Or.inl rfl | exact Or.inr rfl) (pe_op op_addG (pv 3) pe_int))))))))))), ?_⟩
  obtain ⟨as, d, ⟨t, u, n, rfl, hcl, hit, hdp, rfl⟩, hv, k⟩ := h
  obtain ⟨x, y, rfl, hx, hy⟩ := hv.i2
  obtain rfl := Td.int_of hy
  refine q_setF (ef_lst (K := K) (ds := []) ea_nil (Nat.zero_le _)) fun p xs H1 hp s1 h1 t1 => ?_
  have w1 : Ways H1 p [] := ⟨xs, h1, t1⟩
  refine q_set (K := K) ev_int fun z H2 s2 h2 => ?_
  cases Td.int_of h2
  refine while_eb (fun m σ H' => ∃ (v : V) (cur full : Tr) (ws : List (Bool × Tr)) (j : Nat), σ = [some v, some (.int n), some (.ref p), some (.int j)] ∧ m = n - j ∧ j ≤ n ∧ Same H H' ∧ Td H' v cur.d ∧ Ways H' p ws ∧ Tr.okW ws ∧
      Tr.closeT cur ws = full ∧ Tr.iter j t = some full ∧ Tr.iter (n - j) full = some u)
    n ⟨x, t, t, [], 0, rfl, rfl, Nat.zero_le _, s1.trans s2, hx.sm (s1.trans s2), w1.sm s2, (fun w hw => by cases hw), rfl, rfl, hit⟩ ?_
  rintro m σ H3 ⟨v, cur, full, ws, j, rfl, rfl, hj, s3, v3, w3, ok3, e3, it3, re3⟩
  refine ⟨true, eb_B (ev_bl (K := K)), fun H4 s4 => iteT ?_⟩
  have hfd : full.depth ≤ t.depth + j := Tr.iter_depth it3
  have hfc : Tr.cl full = true := Tr.iter_cl hcl it3
  -- up while it is a value
  refine q_while (fun m σ H' => ∃ (v : V) (cur : Tr) (ws : List (Bool × Tr)), σ = [some v, some (.int n), some (.ref p), some (.int j)] ∧ m = ws.length ∧ Same H H' ∧ Td H' v cur.d ∧ Ways H' p ws ∧ Tr.okW ws ∧ Tr.closeT cur ws = full)
    ws.length ⟨v, cur, ws, rfl, rfl, s3.trans s4, v3.sm s4, w3.sm s4, ok3, e3⟩ ?_
  clear v3 w3 ok3 e3
  rintro m σ H5 ⟨v, cur, ws, rfl, rfl, s5, v5, w5, ok5, e5⟩
  have c0 : ∀ H', Same H5 H' → Ev K (tVar 0) [some v, some (.int n), some (.ref p), some (.int j)] H' (.t cur.d) := fun H' s => ev_var rfl (v5.sm s)
  refine ⟨cur.isVal && decide ((0 : Int) < (ws.length : Int)), eb_and (eb_B (ev_call ⟨cur, rfl, rfl⟩ (ea_cons (c0 H5 (Same.refl _)) ea_nil))) fun _ => eb_test (ev_cmpI (f := fun i j => decide (j < i)) (ev_lenW rfl w5) ev_int), fun H6 s6 => ?_⟩
  have hp0 : H p = none := hp
  by_cases hb : (cur.isVal && decide ((0 : Int) < (ws.length : Int))) = true
  · rw [hb]
    refine iteT ?_
    have hr0 : ws ≠ [] := by
      intro z
      subst z
      rw [Bool.and_eq_true] at hb
      exact absurd (of_decide_eq_true hb.2) (by decide)
    obtain ⟨a, b, rfl⟩ := snoc_of hr0
    refine ⟨_, rfl, _, rfl, v, p, a, b, cur, rfl, v5.sm s6, w5.sm s6, fun u' H7 m7 w7 h7 => ?_⟩
    refine ⟨a.length, by rw [List.length_append, List.length_singleton]; omega, u', Tr.up b cur, a, rfl, rfl, m7.of (s5.trans s6) hp0, h7, w7, fun w hw => ok5 w (List.mem_append_left _ hw), ?_⟩
    rw [← e5, Tr.closeT_up]
  · have hb : (cur.isVal && decide ((0 : Int) < (ws.length : Int))) = false := by
      cases z : (cur.isVal && decide ((0 : Int) < (ws.length : Int))) with
      | false => rfl
      | true => exact absurd z hb
    rw [hb]
    refine iteF ?_
    cases hcv : cur.isVal with
    | true =>
      have hw0 : ws = [] := by
        rw [hcv, Bool.true_and, decide_eq_false_iff_not] at hb
        cases ws with
        | nil => rfl
        | cons a b => exact absurd (by rw [List.length_cons]; omega) hb
      subst hw0
      have efull : cur = full := e5
      subst efull
      have hjn : j = n := by
        cases hh : n - j with
        | zero => omega
        | succ i =>
          rw [hh] at re3
          have re3 : (Tr.step cur).bind (Tr.iter i) = some u := re3
          rw [Tr.step_val hcv] at re3
          cases re3
      subst hjn
      have hu : u = cur := by
        rw [Nat.sub_self] at re3
        exact (Option.some.inj re3).symm
      subst hu
      refine q_ifT ((eb_B (ev_call ⟨_, rfl, rfl⟩ (ea_cons (c0 H6 s6) ea_nil))).is hcv) fun H7 s7 => ?_
      refine st_ret (ev_tup (ds := [.str "value", u.d, .int j]) (ea_cons (K := K) ev_str (ea_cons (c0 H7 (s6.trans s7)) (ea_cons (ev_var rfl (show At K H7 (.int j) (.t (.int j)) from Td.int _)) ea_nil))) (Nat.le_of_ble_eq_true rfl)) fun v H8 s8 h8 => k v H8 (((s5.trans s6).trans s7).trans s8) ?_
      rw [hcv]
      exact h8
    | false =>
      refine q_ifN ((eb_B (ev_call ⟨_, rfl, rfl⟩ (ea_cons (c0 H6 s6) ea_nil))).is hcv) fun H7 s7 => ?_
      have evj : Ev K (tVar 3) [some v, some (.int n), some (.ref p), some (.int j)] H7 (.t (.int j)) := ev_var rfl (show At K H7 (.int j) (.t (.int j)) from Td.int _)
      have evn : Ev K (tVar 1) [some v, some (.int n), some (.ref p), some (.int j)] H7 (.t (.int n)) := ev_var rfl (show At K H7 (.int n) (.t (.int n)) from Td.int _)
      have s57 := (s5.trans s6).trans s7
      have w7 := w5.sm (s6.trans s7)
      have v7 := v5.sm (s6.trans s7)
      by_cases hjn : j = n
      · subst hjn
        have hu : u = full := by
          rw [Nat.sub_self] at re3
          exact (Option.some.inj re3).symm
        subst hu
        refine q_ifT ((eb_test (ev_eqG evj evn rfl rfl rfl rfl (Nat.zero_le _))).is (by show ((j : Int) == (j : Int)) = true; exact beq_self_eq_true _)) fun H8 s8 => ?_
        have huv : u.isVal = false := by
          obtain ⟨z, hz⟩ := Tr.step_some hcv
          exact Tr.not_val (by rw [← e5]; exact Tr.step_close ok5 hz)
        -- closed(tree, ways)
        have hwl : ws.length ≤ 10000000 := by
          have := Tr.closeT_len ws cur
          rw [e5] at this
          omega
        refine ⟨_, rfl, _, rfl, v, p, ws, cur, rfl, v7.sm s8, w7.sm s8, hwl, fun c H9 m9 h9 => ?_⟩
        refine ⟨_, rfl, ?_⟩
        rw [e5] at h9
        have sz : ([V.str "on", c, V.int j] : List V).length ≤ sizeLine := by show 3 ≤ sizeLine; decide
        refine ⟨sz, fun q hq => ?_⟩
        refine k _ _ ((m9.of (s57.trans s8) hp0).trans (Same.new hq)) ?_
        rw [huv]
        exact Td.tup upd_same (.cons (.str _) (.cons (h9.tx (Tx.new hq)) (.cons (.int _) .nil)))
      · refine st_ifF ((eb_test (ev_eqG evj evn rfl rfl rfl rfl (Nat.zero_le _))).is (by show ((j : Int) == (n : Int)) = false; rw [beq_eq_false_iff_ne]; omega)) fun H8 s8 => ?_
        obtain ⟨l, r, e1, e2, e3, e4, e6, e7, e8⟩ := Tr.opT_ok hcv
        have hwl : ws.length + cur.depth ≤ 2000000 := by
          have := Tr.closeT_len ws cur
          rw [e5] at this
          omega
        -- tree = became(opened(tree, ways))
        have hcc : Tr.cl cur = true ∧ ∀ w ∈ ws, Tr.cl w.2 = true := (Tr.closeT_cl ws cur).mp (by rw [e5]; exact hfc)
        have hcl2 : Tr.cl l = true := by
          have z := hcc.1
          rw [← e6, Tr.closeT_cl] at z
          have z1 : (Tr.cl l && Tr.cl r) = true := z.1
          exact (Bool.and_eq_true_iff.mp z1).1
        refine ⟨_, rfl, _, rfl, v, p, ws, cur, rfl, v7.sm s8, w7.sm s8, hcv, hwl, fun c H9 m9 w9 h9 => ?_⟩
        rw [e1] at h9
        refine ⟨[.t (Tr.j l r).d], _, ⟨l, r, rfl, rfl, hcl2, e2, e4⟩, .cons h9 .nil, fun c2 H10 s10 h10 => ?_⟩
        refine st_set (ev_addI (ev_var rfl (show At K H10 (.int j) (.t (.int j)) from Td.int _)) ev_int) fun z H11 s11 h11 => ?_
        cases Td.int_of h11
        have hst : Tr.step full = some (Tr.closeT (Tr.bec l r) (ws ++ (Tr.opT cur).2)) := by
          rw [← e5, Tr.closeT_app]
          exact Tr.step_close ok5 e8
        refine ⟨n - (j + 1), by omega, c2, Tr.bec l r, _, ws ++ (Tr.opT cur).2, j + 1, rfl, rfl, by omega, (m9.of (s57.trans s8) hp0).trans (s10.trans s11), h10.sm s11, w9.sm (s10.trans s11), ?_, rfl, ?_, ?_⟩
        · intro w hw
          rcases List.mem_append.mp hw with z | z
          · exact ok5 w z
          · exact e7 w z
        · refine Tr.iter_trans it3 ?_
          rw [Tr.iter_one]
          exact hst
        · have hs : n - j = (n - (j + 1)) + 1 := by omega
          rw [hs] at re3
          have re3 : (Tr.step full).bind (Tr.iter (n - (j + 1))) = some u := re3
          rw [hst] at re3
          exact re3
end
end My

/-! W3: picks, folds, lists, walked. -/
namespace My
open PySem PySem.Spec PyProof.Rows L2
section
variable {P : Program} {w : World} {K : PySem.W.Frag} {mg : Str → Option Value} {base : Heap}
theorem ev_S {σ : L2.St} {H : Hp} : Ev K (tC (.str "S")) σ H (.t Tr.S.d) := ev_str
theorem ev_K {σ : L2.St} {H : Hp} : Ev K (tC (.str "K")) σ H (.t Tr.K.d) := ev_str
/-- joint(a, b) -/
theorem ev_joint {σ : L2.St} {H : Hp} {ta tb : TE} {l r : Tr} {E : XK} (h1 : Ev K ta σ H (.t l.d)) (h2 : Ev K tb σ H (.t r.d)) : Ev K (tCall (SpT K f_joint) [] E (tCons ta (tCons tb tNil))) σ H (.t (Tr.j l r).d) :=
  ev_call ⟨l, r, rfl, rfl⟩ (ea_cons h1 (ea_cons h2 ea_nil))
theorem ev_eqT {N : Nat} {σ : L2.St} {H : Hp} {ta tb : TE} {t u : Tr} (h : Ev K ta σ H (.t t.d)) (h2 : Ev K tb σ H (.t u.d)) (hn : u.depth ≤ N) : Ev K (tOp (rEqG K N) ta tb) σ H (.t (.bool (decide (t = u)))) := by
  rw [← Tr.eqv_d]
  exact ev_eqG h h2 rfl rfl t.lay u.lay (by rw [Tr.dep, Tr.dep]; exact Nat.le_trans (Nat.min_le_right _ _) hn)
theorem ev_neT {N : Nat} {σ : L2.St} {H : Hp} {ta tb : TE} {t u : Tr} (h : Ev K ta σ H (.t t.d)) (h2 : Ev K tb σ H (.t u.d)) (hn : u.depth ≤ N) : Ev K (tOp (rNeG K N) ta tb) σ H (.t (.bool (!decide (t = u)))) := by
  rw [← Tr.eqv_d]
  exact ev_neG h h2 rfl rfl t.lay u.lay (by rw [Tr.dep, Tr.dep]; exact Nat.le_trans (Nat.min_le_right _ _) hn)
/-- the trees of a list -/
def trs (ts : List Tr) : List PyData := ts.map Tr.d
theorem trs_app (a b : List Tr) : trs (a ++ b) = trs a ++ trs b := List.map_append
theorem trs_len (a : List Tr) : (trs a).length = a.length := List.length_map _

def f_idle : Gr := fun as d => as = [] ∧ d = Tr.idle.d
theorem len_idle {as : List Ag} {d : PyData} (h : f_idle as d) : as.length = 0 := by obtain ⟨rfl, _⟩ := h; rfl
theorem sc_idle : FnScope [] [] (defScope st_idle) := ⟨rfl, rfl, rfl, by decide +kernel, rfl, by decide +kernel, by decide +kernel⟩
theorem has_idle (T : Txt P w K mg base) : Has P w K mg base "idle" [] 4 (SpT K f_idle) := by
  refine has_mk T.glo_idle (T.c.def_ 20 (d := d_idle) rfl) sc_idle (SpT.len (fun as d h => by exact len_idle h)) (fun _ _ _ _ _ _ us hl => match us, hl with | [], _ => rfl) (fun cdv A outer s H vs Q E hr h => ?_)
  refine ⟨_, (pss_one (ps_ret (pc (has_joint T) (hr.mono (by decide)) (pa_cons (pc (has_joint T) (hr.mono (by decide)) (pa_cons pe_str (pa_cons pe_str pa_nil))) (pa_cons pe_str pa_nil))))), ?_⟩
  obtain ⟨as, d, ⟨rfl, rfl⟩, hv, k⟩ := h
  obtain rfl := hv.i0
  exact st_ret (ev_joint (l := .j .S .K) (r := .K) (ev_joint (K := K) ev_S ev_K) ev_K) k
def f_is_joint : Gr := fun as d => ∃ t : Tr, as = [.t t.d] ∧ d = .bool (!t.isLeaf)
theorem len_is_joint {as : List Ag} {d : PyData} (h : f_is_joint as d) : as.length = 1 := by obtain ⟨t, rfl, _⟩ := h; rfl
theorem sc_is_joint : FnScope ["tree"] ["tree"] (defScope st_is_joint) := ⟨rfl, rfl, rfl, by decide +kernel, rfl, by decide +kernel, by decide +kernel⟩
theorem has_is_joint (T : Txt P w K mg base) : Has P w K mg base "is_joint" ["tree"] 1 (SpT K f_is_joint) := by
  refine has_mk T.glo_is_joint (T.c.def_ 21 (d := d_is_joint) rfl) sc_is_joint (SpT.len (fun as d h => by exact len_is_joint h)) (fun _ _ _ _ _ _ us hl => match us, hl with | [_], _ => rfl) (fun cdv A outer s H vs Q E hr h => ?_)
  refine ⟨_, (pss_one (ps_ret (pe_not (pe_callB call_isi (by rfl) T.free_isinstance (by decide +kernel) (pa_cons (pv 0) (pa_cons (pe_bltn (v := .ty "str") (u := .type "str") rfl T.free_str (by decide +kernel) rfl) pa_nil)))))), ?_⟩
  obtain ⟨as, d, ⟨t, rfl, rfl⟩, hv, k⟩ := h
  obtain ⟨x, rfl, hx⟩ := hv.i1
  exact st_ret (ev_notV (ev_leaf (ev_var rfl hx))) k
def f_pick : Gr := fun as d => ∃ k many : Nat, k < many ∧ many ≤ 1000 ∧ as = [.t (.int k), .t (.int many)] ∧ d = (Tr.pickT k many).d
theorem len_pick {as : List Ag} {d : PyData} (h : f_pick as d) : as.length = 2 := by obtain ⟨k, m, _, _, rfl, _⟩ := h; rfl
theorem sc_pick : FnScope ["k", "many", "behind", "tree", "turn"] ["k", "many"] (defScope st_pick) := ⟨rfl, rfl, rfl, by decide +kernel, rfl, by decide +kernel, by decide +kernel⟩
theorem has_pick (T : Txt P w K mg base) : Has P w K mg base "pick" ["k", "many"] 5 (SpT K f_pick) := by
  refine has_mk T.glo_pick (T.c.def_ 22 (d := d_pick) rfl) sc_pick (SpT.len (fun as d h => by exact len_pick h)) (fun _ _ _ _ _ _ us hl => match us, hl with | [_, _], _ => rfl) (fun cdv A outer s H vs Q E hr h => ?_)
  refine ⟨_, (pss_cons (ps_set (i := 2) sc_pick.nd rfl (by first | exact Or.inl rfl | exact Or.inr rfl) (pe_op op_sub (pe_op op_sub (pv 1) pe_int) (pv 0)))
    (pss_cons (ps_set (i := 3) sc_pick.nd rfl (by first | exact Or.inl rfl | exact Or.inr rfl) pe_str)
    (pss_cons (ps_if (pt_cmpR (op_eqSK (K := K) hr) (pv 2) pe_int (nomark _)) (pss_one (ps_set (i := 3) sc_pick.nd rfl (by first | exact Or.inl rfl | exact Or.inr rfl) (pc0 (has_idle T) (hr.mono (by decide))))) pss_nil)
    (pss_cons (ps_for PassesOwn.never rfl (pi_range1 (by rfl) T.free_range (pa_cons (pe_op op_sub (pv 2) pe_int) pa_nil)) (pg_name (i := 4) sc_pick.nd rfl (by first | exact Or.inl rfl | exact Or.inr rfl))
    (pss_one (ps_set (i := 3) sc_pick.nd rfl (by first | exact Or.inl rfl | exact Or.inr rfl) (pc (has_joint T) (hr.mono (by decide)) (pa_cons (pc (has_joint T) (hr.mono (by decide)) (pa_cons pe_str (pa_cons (pc (has_joint T) (hr.mono (by decide)) (pa_cons pe_str (pa_cons pe_str pa_nil))) pa_nil))) (pa_cons (pv 3) pa_nil))))))
    (pss_cons (ps_for PassesOwn.never rfl (pi_range1 (by rfl) T.free_range (pa_cons (pv 0) pa_nil)) (pg_name (i := 4) sc_pick.nd rfl (by first | exact Or.inl rfl | exact Or.inr rfl))
    (pss_one (ps_set (i := 3) sc_pick.nd rfl (by first | exact Or.inl rfl | exact Or.inr rfl) (pc (has_joint T) (hr.mono (by decide)) (pa_cons pe_str (pa_cons (pv 3) pa_nil))))))
    (pss_one (ps_ret (pv 3)))))))), ?_⟩
  obtain ⟨as, d, ⟨i, m, hi, hm, rfl, rfl⟩, hv, k⟩ := h
  obtain ⟨x, y, rfl, hx, hy⟩ := hv.i2
  obtain rfl := Td.int_of hx
  obtain rfl := Td.int_of hy
  -- slots: k, many, behind, tree, turn
  refine q_set (a := .t (.int ((m - 1 - i : Nat) : Int))) ((ev_subI (ev_subI (ev_var rfl hy) ev_int) (ev_var rfl hx)).is (congrArg (fun z => Ag.t (.int z)) (by omega))) fun b H1 s1 h1 => ?_
  obtain rfl := Td.int_of h1
  refine q_set (K := K) ev_K fun t0 H2 s2 h2 => ?_
  have fin : ∀ (t1 : V) (H3 : Hp), Same H H3 → Td H3 t1 (Tr.pickB (m - 1 - i)).d → tSeq (tFor (iRng1 (tCons (tOp (rI0 fun i j => .int (i - j)) (tVar 2) (tC (.int 1))) tNil)) (gName 4) (tAsg (tCall (SpT K f_joint) [] E0 (tCons (tCall (SpT K f_joint) [] E0 (tCons (tC (.str "S")) (tCons (tCall (SpT K f_joint) [] E0 (tCons (tC (.str "K")) (tCons (tC (.str "K")) tNil))) tNil))) (tCons (tVar 3) tNil))) (gName 3)))
      (tSeq (tFor (iRng1 (tCons (tVar 0) tNil)) (gName 4) (tAsg (tCall (SpT K f_joint) [] E0 (tCons (tC (.str "K")) (tCons (tVar 3) tNil))) (gName 3))) (tRet (tVar 3))) { nx := fun _ H' => Q .non H', rt := Q } [some (.int i), some (.int m), some (.int ((m - 1 - i : Nat) : Int)), some t1, none] H3 := fun t1 H3 s3 h3 => by
    refine q_for (Hb := H3) (wk_range1 (j := ((m - 1 - i : Nat) : Int) - 1) (ea_cons (K := K) (ev_subI (ev_var rfl (show At K H3 (.int ((m - 1 - i : Nat) : Int)) (.t (.int ((m - 1 - i : Nat) : Int))) from Td.int _)) ev_int) ea_nil) ⟨by omega, by omega⟩)
      (fun n σ H' => ∃ v u, σ = [some (.int i), some (.int m), some (.int ((m - 1 - i : Nat) : Int)), some v, u] ∧ Same H3 H' ∧ Td H' v (Tr.rep Tr.sf n (Tr.pickB (m - 1 - i))).d) (fun H4 s4 => ⟨t1, none, rfl, s4, h3.sm s4⟩) (fun n σ H' ⟨_, _, _, s, _⟩ => s) ?_ ?_
    · rintro n d x σ H4 H5 hd hx ⟨v, u, rfl, s4, h4⟩ s5
      refine st_set (ev_joint (l := .j .S (.j .K .K)) (r := Tr.rep Tr.sf n (Tr.pickB (m - 1 - i))) (ev_joint (l := .S) (r := .j .K .K) (K := K) ev_S (ev_joint (l := .K) (r := .K) ev_K ev_K)) (ev_var rfl (show At K H5 v (.t (Tr.rep Tr.sf n (Tr.pickB (m - 1 - i))).d) from h4.sm s5))) fun v' H6 s6 h6 => ?_
      exact ⟨v', _, rfl, s4.trans (s5.trans s6), h6⟩
    · rintro σ H4 ⟨v, u, rfl, s4, h4⟩
      rw [List.length_map, List.length_range, show (((m - 1 - i : Nat) : Int) - 1).toNat = m - 1 - i - 1 from by omega] at h4
      refine q_for (Hb := H4) (wk_range1 (j := (i : Int)) (ea_cons (K := K) (ev_var rfl (show At K H4 (.int (i : Int)) (.t (.int (i : Int))) from Td.int _)) ea_nil) ⟨by omega, by omega⟩)
        (fun n σ H' => ∃ v u, σ = [some (.int i), some (.int m), some (.int ((m - 1 - i : Nat) : Int)), some v, u] ∧ Same H4 H' ∧ Td H' v (Tr.rep Tr.kf n (Tr.rep Tr.sf (m - 1 - i - 1) (Tr.pickB (m - 1 - i)))).d) (fun H5 s5 => ⟨v, u, rfl, s5, h4.sm s5⟩) (fun n σ H' ⟨_, _, _, s, _⟩ => s) ?_ ?_
      · rintro n d x σ H5 H6 hd hx ⟨v, u, rfl, s5, h5⟩ s6
        refine st_set (ev_joint (l := .K) (r := Tr.rep Tr.kf n (Tr.rep Tr.sf (m - 1 - i - 1) (Tr.pickB (m - 1 - i)))) (K := K) ev_K (ev_var rfl (show At K H6 v (.t (Tr.rep Tr.kf n (Tr.rep Tr.sf (m - 1 - i - 1) (Tr.pickB (m - 1 - i)))).d) from h5.sm s6))) fun v' H7 s7 h7 => ?_
        exact ⟨v', _, rfl, s5.trans (s6.trans s7), h7⟩
      · rintro σ H5 ⟨v, u, rfl, s5, h5⟩
        rw [List.length_map, List.length_range, show ((i : Int)).toNat = i from by omega] at h5
        exact st_ret (ev_var rfl (show At K H5 v (.t (Tr.pickT i m).d) from h5)) fun v H6 s6 h6 => k v H6 (s3.trans (s4.trans (s5.trans s6))) h6
  have eb : Ev K (tOp (rEqG K 200) (tVar 2) (tC (.int 0))) [some (.int i), some (.int m), some (.int ((m - 1 - i : Nat) : Int)), some t0, none] H2 (.t (.bool (((m - 1 - i : Nat) : Int) == 0))) :=
    ev_eqG (ev_var rfl (show At K H2 (.int ((m - 1 - i : Nat) : Int)) (.t (.int ((m - 1 - i : Nat) : Int))) from Td.int _)) ev_int rfl rfl rfl rfl (Nat.zero_le _)
  by_cases hb : m - 1 - i = 0
  · refine q_ifT ((eb_test eb).is (by rw [hb]; rfl)) fun H3 s3 => ?_
    refine st_set (ev_call (F := f_idle) (K := K) ⟨rfl, rfl⟩ ea_nil) fun t1 H4 s4 h4 => ?_
    exact fin t1 H4 (s1.trans (s2.trans (s3.trans s4))) (by unfold Tr.pickB; rw [if_pos hb]; exact h4)
  · refine q_ifN ((eb_test eb).is (by rw [beq_eq_false_iff_ne]; omega)) fun H3 s3 => ?_
    exact fin t0 H3 (s1.trans (s2.trans s3)) (by unfold Tr.pickB; rw [if_neg hb]; exact Td.sm s3 h2)
def f_pick_cost : Gr := fun as d => ∃ k many : Nat, k < many ∧ many ≤ 1000 ∧ as = [.t (.int k), .t (.int many)] ∧ d = .int (Tr.pickCost k many : Nat)
theorem len_pick_cost {as : List Ag} {d : PyData} (h : f_pick_cost as d) : as.length = 2 := by obtain ⟨k, m, _, _, rfl, _⟩ := h; rfl
theorem sc_pick_cost : FnScope ["k", "many", "behind"] ["k", "many"] (defScope st_pick_cost) := ⟨rfl, rfl, rfl, by decide +kernel, rfl, by decide +kernel, by decide +kernel⟩
theorem has_pick_cost (T : Txt P w K mg base) : Has P w K mg base "pick_cost" ["k", "many"] 1 (SpT K f_pick_cost) := by
  refine has_mk T.glo_pick_cost (T.c.def_ 23 (d := d_pick_cost) rfl) sc_pick_cost (SpT.len (fun as d h => by exact len_pick_cost h)) (fun _ _ _ _ _ _ us hl => match us, hl with | [_, _], _ => rfl) (fun cdv A outer s H vs Q E hr h => ?_)
  refine ⟨_, (pss_cons (ps_set (i := 2) sc_pick_cost.nd rfl (by first | exact Or.inl rfl | exact Or.inr rfl) (pe_op op_sub (pe_op op_sub (pv 1) pe_int) (pv 0)))
    (pss_cons (ps_if (pt_cmpR (op_eqSK (K := K) hr) (pv 2) pe_int (nomark _)) (pss_one (ps_ret (pe_op op_addG (pv 0) pe_int))) pss_nil)
    (pss_one (ps_ret (pe_op op_addG (pe_op op_addG (pv 0) (pv 2)) (pe_op op_mul pe_int (pe_op op_sub (pv 2) pe_int))))))), ?_⟩
  obtain ⟨as, d, ⟨i, m, hi, hm, rfl, rfl⟩, hv, k⟩ := h
  obtain ⟨x, y, rfl, hx, hy⟩ := hv.i2
  obtain rfl := Td.int_of hx
  obtain rfl := Td.int_of hy
  refine q_set (a := .t (.int ((m - 1 - i : Nat) : Int))) ((ev_subI (ev_subI (ev_var rfl hy) ev_int) (ev_var rfl hx)).is (congrArg (fun z => Ag.t (.int z)) (by omega))) fun b H1 s1 h1 => ?_
  obtain rfl := Td.int_of h1
  have e0 : ∀ H', Ev K (tVar 0) [some (.int i), some (.int m), some (.int ((m - 1 - i : Nat) : Int))] H' (.t (.int i)) := fun H' => ev_var rfl (show At K H' (.int i) (.t (.int i)) from Td.int _)
  have e2 : ∀ H', Ev K (tVar 2) [some (.int i), some (.int m), some (.int ((m - 1 - i : Nat) : Int))] H' (.t (.int ((m - 1 - i : Nat) : Int))) := fun H' => ev_var rfl (show At K H' (.int ((m - 1 - i : Nat) : Int)) (.t (.int ((m - 1 - i : Nat) : Int))) from Td.int _)
  by_cases hb : m - 1 - i = 0
  · refine q_ifT ((eb_test (ev_eqG (e2 H1) ev_int rfl rfl rfl rfl (Nat.zero_le _))).is (by rw [hb]; rfl)) fun H3 s3 => ?_
    refine st_ret (ev_addI (e0 H3) ev_int) fun v H4 s4 h4 => k v H4 (s1.trans (s3.trans s4)) ?_
    unfold Tr.pickCost
    rw [if_pos hb, Int.natCast_add]
    exact h4
  · refine q_ifN ((eb_test (ev_eqG (e2 H1) ev_int rfl rfl rfl rfl (Nat.zero_le _))).is (by show (((m - 1 - i : Nat) : Int) == 0) = false; rw [beq_eq_false_iff_ne]; omega)) fun H3 s3 => ?_
    refine st_ret (ev_addI (ev_addI (e0 H3) (e2 H3)) (ev_mulI ev_int (ev_subI (e2 H3) ev_int) (.inl ⟨by omega, by omega⟩))) fun v H4 s4 h4 => k v H4 (s1.trans (s3.trans s4)) ?_
    have e : ((Tr.pickCost i m : Nat) : Int) = (i : Int) + ((m - 1 - i : Nat) : Int) + 2 * (((m - 1 - i : Nat) : Int) - 1) := by
      unfold Tr.pickCost
      rw [if_neg hb]
      omega
    rw [e]
    exact h4
end
end My

/-! Rl1: list(reversed(a list)). -/
namespace RL
open PySem PySem.Spec PyProof.Rows RT
section
variable {prog : Program} {w : World} {A : Around} {E : Value → Shared → Prop} {s : Shared}
theorem extend_rev {it l S : Addr} {items : Array Value} {c0 : Nat} {R : Result → Shared → Prop} (hh : A.handled = none) (hit : s.heap.IsRevIter it l ((items.size : Int) - 1)) (hl : s.heap.IsList l items) (hne : l ≠ it) (hn : items.size ≤ sizeLine)
    (hSi : S ≠ it) (hSl : S ≠ l) (hS : s.heap.get? S = some { cls := .type "list", data := .seq #[] c0 })
    (hR : ∀ h' tk acc' c', (∀ b o, b ≠ S → b ≠ it → s.heap.get? b = some o → h'.get? b = some o) → h'.get? S = some { cls := .type "list", dict := none, data := .seq acc' c', slots := #[] } → ItemsOf (fun i v => items[items.size - 1 - i]? = some v) acc' items.size → R (.ok (.ret .none)) { s with heap := h', toks := tk }) :
    wpAny (model prog w) A.in1 (Builtin.List.listExtendWith (.ref S) (.ref it) .none)
      (fun fin s' => match fin with | .done f => R (.ok f) s' | .again c' => c'.quiet = true ∧ codeAny (model prog w) A c' R s') (fun e s' => R (.error e) s') s := by
  have W := (Walks.listRev (prog := prog) (w := w) (A := A.in1) hh it l hne items).toS
  have hSf : S ∉ [it, l] := by simp only [List.mem_cons, List.not_mem_nil, or_false, not_or]; exact ⟨hSi, hSl⟩
  have hT : s.TypeIs (.ref it) "list_reverseiterator" := Heap.IsRevIter.typeIs hit
  have h1 : Builtin.List.listSameRef (.ref S) (.ref it) = false := by simp [Builtin.List.listSameRef, hSi]
  unfold Builtin.List.listExtendWith
  refine wpAny_bind (wpAny_typeOf hT ?_)
  rw [if_neg (by rw [h1]; decide)]
  refine wpAny_bind (wpAny_pyIter_revIter hit ?_)
  refine wpAny_bind (wpAny_holding ?_)
  unfold Builtin.List.listLengthHint
  refine wpAny_bind (wpAny_specialOf hT nolen_lri ?_)
  show wpAny _ A.in1 (specialOf (Value.ref it) (Str.ofString "__length_hint__") >>= _) _ _ _
  refine wpAny_bind (wpAny_specialOf hT hint_lri ?_)
  generalize hid : ("list_reverseiterator.__length_hint__" : String) = id0
  wp_delta
  rw [show splitId id0 = some ("list_reverseiterator", "__length_hint__") from by subst hid; decide +kernel]
  subst hid
  refine wpAny_bind (wpAny_isInstance (b := true) hT (by rw [isSubtype_type]; kernel_rfl) ?_)
  refine wpAny_pure ?_
  rw [if_neg (by decide)]
  have e0 : ((items.size : Nat) : Int) - 1 - ((0 : Nat) : Int) = (items.size : Int) - 1 := by omega
  refine wpAny_pure ⟨plainId_quiet F.plain_extend_loop _, codeAny_extend_loopS W hn _ hSf _ items.size 0 _ _ _ rfl (Nat.zero_le _) ⟨Nat.zero_le _, by rw [e0]; exact hit, hl⟩ hS (ItemsOf.nil _) fun s' acc' c' hm hS' hacc => ?_⟩
  rw [Moved.eq_with hm]
  refine hR s'.heap s'.toks acc' c' (fun b o hb hb2 e => hm.heap b o (fun hmem => ?_) e) hS' hacc
  rcases List.mem_cons.mp hmem with e' | hmem
  · exact hb e'
  · exact hb2 (List.mem_singleton.mp hmem)
theorem init_rev {it l S : Addr} {items : Array Value} {R : Result → Shared → Prop} (hh : A.handled = none) (hit : s.heap.IsRevIter it l ((items.size : Int) - 1)) (hl : s.heap.IsList l items) (hne : l ≠ it) (hn : items.size ≤ sizeLine)
    (hSi : S ≠ it) (hSl : S ≠ l) (hS : s.heap.get? S = some { cls := .type "list", data := .seq #[] })
    (hR : ∀ h' tk acc' c', (∀ b o, b ≠ S → b ≠ it → s.heap.get? b = some o → h'.get? b = some o) → h'.get? S = some { cls := .type "list", dict := none, data := .seq acc' c', slots := #[] } → ItemsOf (fun i v => items[items.size - 1 - i]? = some v) acc' items.size → R (.ok (.ret .none)) { s with heap := h', toks := tk }) :
    wpAny (model prog w) A.in1 (Builtin.«list.__init__» ⟨[.ref S, .ref it], []⟩)
      (fun fin s' => match fin with | .done f => R (.ok f) s' | .again c' => c'.quiet = true ∧ codeAny (model prog w) A c' R s') (fun e s' => R (.error e) s') s := by
  show wpAny _ _ (do let old ← Builtin.List.listItems (.ref S); Builtin.List.listUpdate (.ref S) (fun _ => #[]); letGo old.toList.reverse; Builtin.List.listExtendWith (.ref S) (.ref it) .none) _ _ s
  refine wpAny_bind ?_
  unfold Builtin.List.listItems
  refine wpAny_bind (wpAny_seqItems hS rfl (wpAny_pure ?_))
  show wpAny _ _ (updateSeq S (fun _ => #[]) >>= fun _ => letGo (#[] : Array Value).toList.reverse >>= fun _ => Builtin.List.listExtendWith (.ref S) (.ref it) .none) _ _ s
  refine wpAny_bind (wpAny_updateSeq hS rfl ?_)
  have hS₂ := Heap.get?_update_self (Obj.mapSeq (fun _ => (#[] : Array Value))) hS rfl
  have oth : ∀ b o, b ≠ S → s.heap.get? b = some o → (s.heap.update S (Obj.mapSeq (fun _ => (#[] : Array Value)))).get? b = some o :=
    fun b o hb e => (Heap.get?_update_other _ _ (Ne.symm hb)).trans e
  refine wpAny_bind (wpAny_letGo ?_)
  obtain ⟨ol, hol, hol2⟩ := id hl
  refine extend_rev (s := { s with heap := s.heap.update S (Obj.mapSeq (fun _ => (#[] : Array Value))) }) hh (hit.at fun o e => oth _ _ hSi.symm e) ⟨ol, oth _ _ hSl.symm hol, hol2⟩ hne hn hSi hSl hS₂ (fun h' tk acc' c' hk hS' hacc => ?_)
  exact hR h' tk acc' c' (fun b o hb hb2 e => hk b o hb hb2 (oth b o hb e)) hS' hacc
theorem call_list_rev {it l : Addr} {items : Array Value} {Q : Value → Shared → Prop} (hh : A.handled = none) (hit : s.heap.IsRevIter it l ((items.size : Int) - 1)) (hl : s.heap.IsList l items) (hne : l ≠ it) (hn : items.size ≤ sizeLine)
    (hQ : ∀ h' tk acc' c', (∀ b o, b ≠ it → s.heap.get? b = some o → h'.get? b = some o) → h'.get? s.heap.objs.size = some { cls := .type "list", dict := none, data := .seq acc' c', slots := #[] } → ItemsOf (fun i v => items[items.size - 1 - i]? = some v) acc' items.size →
      Q (.ref s.heap.objs.size) { s with heap := h', toks := tk }) :
    wpAny (model prog w) A (call (.type "list") [.ref it]) Q E s := by
  refine callType_codes (Q₁ := fun obj s₁ => obj = .ref s.heap.objs.size ∧ s₁ = { s with heap := s.heap.push { cls := .type "list", data := .seq #[] } }) PySem.F.called_list (PySem.F.typeCall_list_1 _) PySem.F.entry_list_init
    (code_list_new _ ⟨rfl, rfl⟩) fun obj s₁ h₁ => ?_
  obtain ⟨rfl, rfl⟩ := h₁
  have hS : (s.heap.push { cls := .type "list", data := .seq #[] }).get? s.heap.objs.size = some { cls := .type "list", data := .seq #[] } := Heap.get?_push_size _ rfl
  obtain ⟨oi, hoi, _⟩ := id hit
  obtain ⟨ol, hol, _⟩ := id hl
  have hSi : s.heap.objs.size ≠ it := Nat.ne_of_gt (Heap.lt_size hoi)
  have hSl : s.heap.objs.size ≠ l := Nat.ne_of_gt (Heap.lt_size hol)
  refine ⟨⟨_, hS, rfl⟩, PySem.F.args_list_init_2 _ _, init_rev (A := A.in1) (s := { s with heap := s.heap.push { cls := .type "list", data := .seq #[] } }) hh (hit.at fun o e => Heap.get?_push_of_some _ e) (hl.push _) hne hn hSi hSl hS (fun h' tk acc' c' hk hS' hacc => ?_)⟩
  exact ⟨rfl, hQ h' tk acc' c' (fun b o hb e => hk b o (Nat.ne_of_lt (Heap.lt_size e)) hb (Heap.get?_push_of_some _ e)) hS' hacc⟩
end
end RL
namespace My
open PySem PySem.Spec PyProof.Rows L2
def tListRev (K : PySem.W.Frag) (te : TE) : TE := fun σ H Q => te σ H fun v H1 => ∃ (a : Addr) (xs : List V), v = .ref a ∧ SqL K H1 a xs ∧ ∀ q, H1 q = none → Q (.ref q) (upd H1 q (.lst xs.reverse))
section
variable {X : Cx}
theorem pe_listRev {e : Expr} {te : TE} {p p2 pos pos2 : Pos} (hm : X.mg "list" = none) (hm2 : X.mg "reversed" = none) (he : PE X e te) (hc : X.calm = true := by rfl) (hg : Gl X "list" := by rfl) (hg2 : Gl X "reversed" := by rfl)
    (hs : starEach [e] X.env = (false, eval e X.env) :: starEach [] X.env := by rfl)
    (hs2 : starEach [.Call (.Name "reversed" p2) [e] [] pos2] X.env = (false, eval (.Call (.Name "reversed" p2) [e] [] pos2) X.env) :: starEach [] X.env := by rfl) :
    PE X (.Call (.Name "list" p) [.Call (.Name "reversed" p2) [e] [] pos2] [] pos) (tListRev X.K te) := by
  refine ⟨fun pins s σ H Q I h => ?_⟩
  refine Call_ (ld_blt I hg hm boot_list (PyProof.Rows.callWith_type1 (args_cons (Call_ (ld_blt I hg2 hm2 PyProof.Rows.boot_reversed (PyProof.Rows.callWith_type1 (args_cons (thn (he.run pins s σ H _ I h) fun u s1 ⟨v, H1, I1, r1, q1⟩ => args_nil ?_) hs) hs rfl))) hs2) hs2 rfl))
  obtain ⟨a, xs, ev, hq, q⟩ := q1
  subst ev
  obtain rfl : u = Value.ref a := r1
  obtain ⟨its, rv, p', hz⟩ := I1.list hq
  refine call_reversed_list p'.isList (args_nil ?_)
  have k0 : ∀ b o, s1.heap.get? b = some o → (s1.heap.push (revObj a ((its.toArray.size : Int) - 1))).get? b = some o := fun b o e => Heap.get?_push_of_some _ e
  have I2 : Inv X pins σ H1 { s1 with heap := s1.heap.push (revObj a ((its.toArray.size : Int) - 1)) } := I1.kept (t' := s1.toks) k0
  obtain ⟨f0, f1, f2, f3, f4, f5⟩ := I1.fpOk (H' := H1) (b := s1.heap.objs.size) (Nat.le_refl _) (I1.hok.fresh (Nat.le_refl _))
  have hl := p'.isList
  obtain ⟨ol, hol, _⟩ := id hl
  have hne : a ≠ s1.heap.objs.size := Nat.ne_of_lt (Heap.lt_size hol)
  have hn : its.toArray.size ≤ sizeLine := by rw [List.size_toArray, ← rv.length]; exact hz
  refine RL.call_list_rev (s := { s1 with heap := s1.heap.push (revObj a ((its.toArray.size : Int) - 1)) }) (I1.ok.hd hc) ⟨_, Heap.get?_push_size _ rfl, rfl, rfl⟩ (hl.push _) hne hn fun h' tk acc c' hk hS hi => ?_
  obtain ⟨S, eS⟩ : ∃ S, S = (s1.heap.push (revObj a ((its.toArray.size : Int) - 1))).objs.size := ⟨_, rfl⟩
  rw [← eS] at hS
  have hSn : H1 S = none := I2.hok.fresh (by rw [eS]; exact Nat.le_refl _)
  have nit : ∀ b u, H1 b = some u → b ≠ s1.heap.objs.size := fun b u e z => by rw [z, f0] at e; cases e
  have neS : ∀ b o, (s1.heap.push (revObj a ((its.toArray.size : Int) - 1))).get? b = some o → b ≠ S := fun b o e => by rw [eS]; exact Nat.ne_of_lt (Heap.lt_size e)
  have new : ObjOk X.prog X.w (upd H1 S (.lst xs.reverse)) h' S (.lst xs.reverse) := ⟨by rw [List.length_reverse]; exact hz, acc.toList, c', RT.vals_rev rv hi, by rw [Array.toArray_toList]; exact hS⟩
  have hok : HOk X.prog X.w (upd H1 S (.lst xs.reverse)) h' := fun b u e => by
    by_cases hb : b = S
    · subst hb
      rw [upd_same] at e
      cases e
      exact new
    · rw [upd_ne hb] at e
      refine (I2.hok b u e).stay (fun c v hc q => hk c v ?_ q) (fun c q => by rw [upd_ne (ne_of_none q hSn)]; exact q) fun c ys q => by rw [upd_ne (ne_of_none q hSn)]; exact q
      rcases hc with z | z
      · rw [z]; exact nit b u e
      · exact nit c _ z
  have I3 : Inv X pins σ (upd H1 S (.lst xs.reverse)) { s1 with heap := h', toks := tk } := by
    refine L2.Inv.step (s := { s1 with heap := s1.heap.push (revObj a ((its.toArray.size : Int) - 1)) }) (h' := h') (g' := s1.gens) (d' := s1.drawn) (t' := tk) (ch := [s1.heap.objs.size]) I2 (fun b hb => ?_) (fun b o _ _ hc e _ => hk b o (fun z => hc (by simp [z])) e) (fun b o _ _ hc e _ => ⟨o.slots, hk b o (fun z => hc (by simp [z])) e⟩)
      (fun b o _ e n => by rw [upd_ne (neS b o e)]; exact n) (fun b o hc e => ⟨o, hk b o (fun z => hc (by simp [z])) e⟩) (fun b ys e => by rw [upd_ne (ne_of_none e hSn)]; exact e) (fun b o ys e => by rw [upd_ne (ne_of_none e hSn)]; exact e)
      (fun b ps e => ⟨#[], by rw [upd_ne (ne_of_none e hSn), e]; simp⟩) (fun m hm => ?_) hok I1.bare
    · have e : b = s1.heap.objs.size := by simpa using hb
      subst e
      exact ⟨f3, f1, f4, f5⟩
    · obtain ⟨o, es, ep, ho, r⟩ := hm
      exact ⟨o, es, ep, hk _ o (Ne.symm f1) ho, r⟩
  exact ⟨.ref S, _, I3, by rw [← eS]; rfl, q S hSn⟩
end
end My

/-! W4: picked, folds, lists, walked. -/
namespace My
open PySem PySem.Spec PyProof.Rows L2
section
variable {P : Program} {w : World} {K : PySem.W.Frag} {mg : Str → Option Value} {base : Heap}
def optI : Option Nat → PyData
  | none => .none
  | some k => .int k

def f_picked : Gr := fun as d => ∃ (t : Tr) (many : Nat), many ≤ 90 ∧ t.depth ≤ 1000000 ∧ as = [.t t.d, .t (.int many)] ∧ d = optI (Tr.pickedT t many)
theorem len_picked {as : List Ag} {d : PyData} (h : f_picked as d) : as.length = 2 := by obtain ⟨t, m, _, _, rfl, _⟩ := h; rfl
theorem leadK_depth : ∀ t : Tr, Tr.leadK t ≤ t.depth
  | .S => Nat.zero_le _
  | .K => Nat.zero_le _
  | .nm _ => Nat.zero_le _
  | .j .K v => by
    have := leadK_depth v
    show Tr.leadK v + 1 ≤ max 0 v.depth + 1
    omega
  | .j .S _ => Nat.zero_le _
  | .j (.nm _) _ => Nat.zero_le _
  | .j (.j _ _) _ => Nat.zero_le _
theorem leadK_not {a b : Tr} (h : a ≠ .K) : Tr.leadK (.j a b) = 0 := by
  cases a with
  | K => exact absurd rfl h
  | S => rfl
  | nm _ => rfl
  | j _ _ => rfl
theorem sc_picked : FnScope ["tree", "many", "k", "inner"] ["tree", "many"] (defScope st_picked) := ⟨rfl, rfl, rfl, by decide +kernel, rfl, by decide +kernel, by decide +kernel⟩
theorem has_picked (T : Txt P w K mg base) : Has P w K mg base "picked" ["tree", "many"] 6 (SpT K f_picked) := by
  refine has_mk T.glo_picked (T.c.def_ 24 (d := d_picked) rfl) sc_picked (SpT.len (fun as d h => by exact len_picked h)) (fun _ _ _ _ _ _ us hl => match us, hl with | [_, _], _ => rfl) (fun cdv A outer s H vs Q E hr h => ?_)
  refine ⟨_, (pss_cons (ps_set (i := 2) sc_picked.nd rfl (by first | exact Or.inl rfl | exact Or.inr rfl) pe_int)
    (pss_cons (ps_set (i := 3) sc_picked.nd rfl (by first | exact Or.inl rfl | exact Or.inr rfl) (pv 0))
    (pss_cons (ps_while PassesOwn.never (PW.pt (pw_and (pt_val (pc (has_is_joint T) (hr.mono (by decide)) (pa_cons (pv 3) pa_nil))) (pw_and1 (pt_cmpR (op_eqSK (K := K) hr) (pe_ixK (K := K) (pv 3) pe_int (fun _ _ => rfl)) pe_str (nomark _))))) (pss_cons (ps_set (i := 3) sc_picked.nd rfl (by first | exact Or.inl rfl | exact Or.inr rfl) (pe_ixK (K := K) (pv 3) pe_int (fun _ _ => rfl)))
    (pss_one (ps_set (i := 2) sc_picked.nd rfl (by first | exact Or.inl rfl | exact Or.inr rfl) (pe_op op_addG (pv 2) pe_int)))))
    (pss_cons (ps_if (PW.pt (pw_and (pt_cmpR op_lt (pv 2) (pv 1) (nomark _)) (pw_and1 (pt_cmpR (op_eqSK (K := K) hr) (pv 0) (pc (has_pick T) (hr.mono (by decide)) (pa_cons (pv 2) (pa_cons (pv 1) pa_nil))) (nomark _))))) (pss_one (ps_ret (pv 2))) pss_nil)
    (pss_one (ps_ret pe_non)))))), ?_⟩
  obtain ⟨as, d, ⟨t, m, hm, hdp, rfl, rfl⟩, hv, k⟩ := h
  obtain ⟨x, y, rfl, hx, hy⟩ := hv.i2
  obtain rfl := Td.int_of hy
  refine q_set (K := K) ev_int fun b H1 s1 h1 => ?_
  obtain rfl := Td.int_of h1
  refine q_set (ev_var (K := K) rfl (show At K H1 x (.t t.d) from At.sm s1 hx)) fun b H2 s2 h2 => ?_
  refine q_while (fun n σ H' => ∃ (v : V) (cur : Tr) (i : Nat), σ = [some x, some (.int m), some (.int i), some v] ∧ n = cur.depth ∧ Same H H' ∧ Td H' v cur.d ∧ i + Tr.leadK cur = Tr.leadK t) t.depth ⟨b, t, 0, rfl, rfl, s1.trans s2, h2, by omega⟩ ?_
  rintro n σ H3 ⟨v, cur, i, rfl, rfl, s3, h3, e3⟩
  have e0 : ∀ H', Same H3 H' → Ev K (tVar 3) [some x, some (.int m), some (.int i), some v] H' (.t cur.d) := fun H' s => ev_var rfl (show At K H' v (.t cur.d) from h3.sm s)
  -- what stands behind the loop
  have fin : ∀ H4, Same H3 H4 → i = Tr.leadK t → tSeq (tIfS (tAnd (tTest (tOp (rI0 fun i j => .bl (decide (i < j))) (tVar 2) (tVar 1))) (tTest (tOp (rEqG K 200) (tVar 0) (tCall (SpT K f_pick) [] E0 (tCons (tVar 2) (tCons (tVar 1) tNil)))))) (tRet (tVar 2)) tNext) (tRet (tC .non))
      { nx := fun _ H' => Q .non H', rt := Q } [some x, some (.int m), some (.int i), some v] H4 := fun H4 s4 ei => by
    subst ei
    have v2 : ∀ H', Ev K (tVar 2) [some x, some (.int m), some (.int (Tr.leadK t)), some v] H' (.t (.int (Tr.leadK t))) := fun H' => ev_var rfl (show At K H' (.int (Tr.leadK t)) (.t (.int (Tr.leadK t))) from Td.int _)
    have v1 : ∀ H', Ev K (tVar 1) [some x, some (.int m), some (.int (Tr.leadK t)), some v] H' (.t (.int m)) := fun H' => ev_var rfl (show At K H' (.int m) (.t (.int m)) from Td.int _)
    have v0 : Ev K (tVar 0) [some x, some (.int m), some (.int (Tr.leadK t)), some v] H4 (.t t.d) := ev_var rfl (show At K H4 x (.t t.d) from At.sm (s3.trans s4) hx)
    by_cases hlt : Tr.leadK t < m
    · have eb : Eb _ [some x, some (.int m), some (.int (Tr.leadK t)), some v] H4 (decide ((Tr.leadK t : Int) < (m : Int)) && decide (t = Tr.pickT (Tr.leadK t) m)) :=
        eb_and (eb_test (ev_cmpI (K := K) (f := fun i j => decide (i < j)) (v2 H4) (v1 H4))) fun _ => eb_test (ev_eqT (N := 200) v0 (ev_call (F := f_pick) (E := E0) ⟨Tr.leadK t, m, hlt, by omega, rfl, rfl⟩ (ea_cons (v2 H4) (ea_cons (v1 H4) ea_nil))) (Nat.le_trans (Tr.pick_depth _ _) (by omega)))
      have e1 : decide ((Tr.leadK t : Int) < (m : Int)) = true := decide_eq_true (by omega)
      rw [e1, Bool.true_and] at eb
      by_cases ht : t = Tr.pickT (Tr.leadK t) m
      · have hp : Tr.pickedT t m = some (Tr.leadK t) := if_pos ⟨hlt, ht⟩
        rw [hp] at k
        exact q_ifT (eb.is (decide_eq_true ht)) fun H5 s5 => st_ret (v2 H5) fun u H6 s6 h6 => k u H6 (s3.trans (s4.trans (s5.trans s6))) h6
      · have hp : Tr.pickedT t m = none := if_neg fun z => ht z.2
        rw [hp] at k
        exact q_ifN (eb.is (decide_eq_false ht)) fun H5 s5 => st_ret (K := K) ev_non fun u H6 s6 h6 => k u H6 (s3.trans (s4.trans (s5.trans s6))) h6
    · have hp : Tr.pickedT t m = none := if_neg fun z => hlt z.1
      rw [hp] at k
      refine q_ifN ((eb_and (b := false) (eb_test (ev_cmpI (K := K) (f := fun i j => decide (i < j)) (v2 H4) (v1 H4))) fun z => absurd (of_decide_eq_true z) (by omega)).is (Bool.and_false _)) fun H5 s5 => ?_
      exact st_ret (K := K) ev_non fun u H6 s6 h6 => k u H6 (s3.trans (s4.trans (s5.trans s6))) h6
  cases cur with
  | j a c =>
    refine ⟨true && decide (a = .K), eb_and (a := true) ((eb_B (ev_call (F := f_is_joint) ⟨.j a c, rfl, rfl⟩ (ea_cons (e0 H3 (Same.refl _)) ea_nil))).is rfl) fun _ => eb_test (ev_eqK (ev_j0 (e0 H3 (Same.refl _)))), fun H4 s4 => ?_⟩
    by_cases ha : a = .K
    · subst ha
      refine iteT ?_
      refine q_set (ev_j1 (e0 H4 s4)) fun u H5 s5 h5 => ?_
      refine st_set (ev_addI (K := K) (ev_var rfl (show At K H5 (.int i) (.t (.int i)) from Td.int _)) ev_int) fun z H6 s6 h6 => ?_
      obtain rfl := Td.int_of h6
      refine ⟨c.depth, ?_, u, c, i + 1, rfl, rfl, s3.trans (s4.trans (s5.trans s6)), Td.sm s6 h5, ?_⟩
      · show c.depth < max 0 c.depth + 1
        omega
      · have : Tr.leadK (.j .K c) = Tr.leadK c + 1 := rfl
        omega
    · rw [decide_eq_false ha]
      refine iteF (fin H4 s4 ?_)
      rw [leadK_not ha] at e3
      omega
  | S =>
    refine ⟨false && true, eb_and (a := false) ((eb_B (ev_call (F := f_is_joint) ⟨.S, rfl, rfl⟩ (ea_cons (e0 H3 (Same.refl _)) ea_nil))).is rfl) (fun z => nomatch z), fun H4 s4 => iteF (fin H4 s4 ?_)⟩
    have : Tr.leadK .S = 0 := rfl
    omega
  | K =>
    refine ⟨false && true, eb_and (a := false) ((eb_B (ev_call (F := f_is_joint) ⟨.K, rfl, rfl⟩ (ea_cons (e0 H3 (Same.refl _)) ea_nil))).is rfl) (fun z => nomatch z), fun H4 s4 => iteF (fin H4 s4 ?_)⟩
    have : Tr.leadK .K = 0 := rfl
    omega
  | nm y =>
    refine ⟨false && true, eb_and (a := false) ((eb_B (ev_call (F := f_is_joint) ⟨.nm y, rfl, rfl⟩ (ea_cons (e0 H3 (Same.refl _)) ea_nil))).is rfl) (fun z => nomatch z), fun H4 s4 => iteF (fin H4 s4 ?_)⟩
    have : Tr.leadK (.nm y) = 0 := rfl
    omega
def f_folded : Gr := fun as d => ∃ ts : List Tr, as = [.l (trs ts)] ∧ d = (Tr.foldT ts).d
theorem len_folded {as : List Ag} {d : PyData} (h : f_folded as d) : as.length = 1 := by obtain ⟨t, rfl, _⟩ := h; rfl
theorem take_more {α : Type} {l : List α} {i : Nat} {x : α} (h : l[i]? = some x) : l.take (i + 1) = l.take i ++ [x] := by
  rw [List.take_add_one, h]
  rfl
theorem trs_get {ts : List Tr} {i : Nat} {d : PyData} (h : (trs ts)[i]? = some d) : ∃ t, ts[i]? = some t ∧ d = t.d := by
  unfold trs at h
  rw [List.getElem?_map] at h
  cases e : ts[i]? with
  | none => rw [e] at h; cases h
  | some t => rw [e] at h; exact ⟨t, rfl, (Option.some.inj h).symm⟩
theorem sc_folded : FnScope ["things", "tree", "thing"] ["things"] (defScope st_folded) := ⟨rfl, rfl, rfl, by decide +kernel, rfl, by decide +kernel, by decide +kernel⟩
theorem has_folded (T : Txt P w K mg base) : Has P w K mg base "folded" ["things"] 5 (SpT K f_folded) := by
  refine has_mk T.glo_folded (T.c.def_ 25 (d := d_folded) rfl) sc_folded (SpT.len (fun as d h => by exact len_folded h)) (fun _ _ _ _ _ _ us hl => match us, hl with | [_], _ => rfl) (fun cdv A outer s H vs Q E hr h => ?_)
  refine ⟨_, (pss_cons (ps_set (i := 1) sc_folded.nd rfl (by first | exact Or.inl rfl | exact Or.inr rfl) (pc0 (has_idle T) (hr.mono (by decide))))
    (pss_cons (ps_for PassesOwn.never rfl (pi_list (pv 0)) (pg_name (i := 2) sc_folded.nd rfl (by first | exact Or.inl rfl | exact Or.inr rfl))
    (pss_one (ps_set (i := 1) sc_folded.nd rfl (by first | exact Or.inl rfl | exact Or.inr rfl) (pc (has_joint T) (hr.mono (by decide)) (pa_cons (pc (has_joint T) (hr.mono (by decide)) (pa_cons pe_str (pa_cons (pv 1) pa_nil))) (pa_cons (pc (has_joint T) (hr.mono (by decide)) (pa_cons pe_str (pa_cons (pv 2) pa_nil))) pa_nil))))))
    (pss_one (ps_ret (pv 1))))), ?_⟩
  obtain ⟨as, d, ⟨ts, rfl, rfl⟩, hv, k⟩ := h
  obtain ⟨x, rfl, a, xs, rfl, hs, ht⟩ := hv.i1
  refine q_set (K := K) (ev_call (F := f_idle) (K := K) ⟨rfl, rfl⟩ ea_nil) fun v H1 s1 h1 => ?_
  refine q_for (Hb := H) (wk_list (K := K) (ev_ref rfl) hs ht s1) (fun n σ H' => ∃ v u, σ = [some (.ref a), some v, u] ∧ Same H H' ∧ Td H' v (Tr.foldT (ts.take n)).d) (fun H2 s2 => ⟨v, none, rfl, s1.trans s2, Td.sm s2 h1⟩) (fun _ _ _ ⟨_, _, _, s, _⟩ => s) ?_ ?_
  · rintro n d y σ H2 H3 hd hy ⟨v, u, rfl, s2, h2⟩ s3
    obtain ⟨t, e1, rfl⟩ := trs_get hd
    rw [take_more e1, Tr.fold_app]
    refine st_set (ev_joint (l := .j .S (Tr.foldT (ts.take n))) (r := .j .K t) (ev_joint (K := K) ev_S (ev_var rfl (show At K H3 v (.t (Tr.foldT (ts.take n)).d) from h2.sm s3))) (ev_joint ev_K (ev_var rfl (show At K H3 y (.t t.d) from hy)))) fun v' H4 s4 h4 => ?_
    exact ⟨v', _, rfl, s2.trans (s3.trans s4), h4⟩
  · rintro σ H2 ⟨v, u, rfl, s2, h2⟩
    rw [trs_len, List.take_length] at h2
    exact st_ret (ev_var (K := K) rfl (show At K H2 v (.t (Tr.foldT ts).d) from h2)) fun v H3 s3 h3 => k v H3 (s2.trans s3) h3
def f_is_cell : Gr := fun as d => ∃ t : Tr, as = [.t t.d] ∧ d = .bool (Tr.cellT t)
theorem len_is_cell {as : List Ag} {d : PyData} (h : f_is_cell as d) : as.length = 1 := by obtain ⟨t, rfl, _⟩ := h; rfl
theorem ev_isj {σ : L2.St} {H : Hp} {ta : TE} {t : Tr} {E : XK} (h : Ev K ta σ H (.t t.d)) : Ev K (tCall (SpT K f_is_joint) [] E (tCons ta tNil)) σ H (.t (.bool (!t.isLeaf))) := ev_call ⟨t, rfl, rfl⟩ (ea_cons h ea_nil)
theorem leaf_or {t : Tr} : t.isLeaf = true ∨ ∃ a b, t = .j a b := by
  cases t with
  | j a b => exact .inr ⟨a, b, rfl⟩
  | _ => exact .inl rfl
theorem sc_is_cell : FnScope ["tree"] ["tree"] (defScope st_is_cell) := ⟨rfl, rfl, rfl, by decide +kernel, rfl, by decide +kernel, by decide +kernel⟩
theorem has_is_cell (T : Txt P w K mg base) : Has P w K mg base "is_cell" ["tree"] 2 (SpT K f_is_cell) := by
  refine has_mk T.glo_is_cell (T.c.def_ 26 (d := d_is_cell) rfl) sc_is_cell (SpT.len (fun as d h => by exact len_is_cell h)) (fun _ _ _ _ _ _ us hl => match us, hl with | [_], _ => rfl) (fun cdv A outer s H vs Q E hr h => ?_)
  refine ⟨_, (pss_cons (ps_if (PW.pt (pw_or (pt_not (pt_val (pc (has_is_joint T) (hr.mono (by decide)) (pa_cons (pv 0) pa_nil)))) (pw_or (pt_not (pt_val (pc (has_is_joint T) (hr.mono (by decide)) (pa_cons (pe_ixK (K := K) (pv 0) pe_int (fun _ _ => rfl)) pa_nil)))) (pw_or1 (pt_not (pt_val (pc (has_is_joint T) (hr.mono (by decide)) (pa_cons (pe_ixK (K := K) (pv 0) pe_int (fun _ _ => rfl)) pa_nil)))))))) (pss_one (ps_ret pe_bl)) pss_nil)
    (pss_one (ps_ret (pe_and (pe_cmpR (op_eqSK (K := K) hr) (pe_ixK (K := K) (pe_ixK (K := K) (pv 0) pe_int (fun _ _ => rfl)) pe_int (fun _ _ => rfl)) pe_str (nomark _)) (pe_one (pe_cmpR (op_eqSK (K := K) hr) (pe_ixK (K := K) (pe_ixK (K := K) (pv 0) pe_int (fun _ _ => rfl)) pe_int (fun _ _ => rfl)) pe_str (nomark _))))))), ?_⟩
  obtain ⟨as, d, ⟨t, rfl, rfl⟩, hv, k⟩ := h
  obtain ⟨x, rfl, hx⟩ := hv.i1
  have e0 : ∀ H', Same H H' → Ev K (tVar 0) [some x] H' (.t t.d) := fun H' s => ev_var rfl (show At K H' x (.t t.d) from At.sm s hx)
  have no : ∀ (tt : TT), Eb tt [some x] H true → Tr.cellT t = false → tSeq (tIfS tt (tRet (tC (.bl false))) tNext) (tRet (tAndV (tOp (rEqG K 200) (tOp (rIx K) (tOp (rIx K) (tVar 0) (tC (.int 0))) (tC (.int 0))) (tC (.str "S"))) (tOp (rEqG K 200) (tOp (rIx K) (tOp (rIx K) (tVar 0) (tC (.int 1))) (tC (.int 0))) (tC (.str "K"))))) { nx := fun _ H' => Q .non H', rt := Q } [some x] H := fun tt eb hc => q_ifT (D := { nx := fun _ H' => Q .non H', rt := Q }) (u := tRet (tAndV (tOp (rEqG K 200) (tOp (rIx K) (tOp (rIx K) (tVar 0) (tC (.int 0))) (tC (.int 0))) (tC (.str "S"))) (tOp (rEqG K 200) (tOp (rIx K) (tOp (rIx K) (tVar 0) (tC (.int 1))) (tC (.int 0))) (tC (.str "K"))))) (t' := tNext) (t := tRet (tC (.bl false))) eb fun H1 s1 => st_ret (K := K) ev_bl fun v H2 s2 h2 => k v H2 (s1.trans s2) (by rw [hc]; exact h2)
  rcases leaf_or (t := t) with hl | ⟨p, q, rfl⟩
  · refine no _ ((eb_or (eb_not ((eb_B (ev_isj (e0 H (Same.refl _)))).is (b := false) (by rw [hl]; rfl))) (b := true) (fun z => absurd z (by decide))).is rfl) ?_
    cases t <;> first | rfl | cases hl
  · rcases leaf_or (t := p) with hl | ⟨a, u, rfl⟩
    · refine no _ ((eb_or (eb_not ((eb_B (ev_isj (e0 H (Same.refl _)))).is (b := true) rfl)) fun _ => (eb_or (eb_not ((eb_B (ev_isj (ev_j0 (e0 H (Same.refl _))))).is (b := false) (by rw [hl]; rfl))) (b := true) (fun z => absurd z (by decide)))).is rfl) ?_
      cases p <;> first | rfl | cases hl
    · rcases leaf_or (t := q) with hl | ⟨c, y, rfl⟩
      · refine no _ ((eb_or (eb_not ((eb_B (ev_isj (e0 H (Same.refl _)))).is (b := true) rfl)) fun _ => (eb_or (eb_not ((eb_B (ev_isj (ev_j0 (e0 H (Same.refl _))))).is (b := true) rfl)) fun _ => eb_not ((eb_B (ev_isj (ev_j1 (e0 H (Same.refl _))))).is (b := false) (by rw [hl]; rfl)))).is rfl) ?_
        cases q <;> first | rfl | cases hl
      · refine q_ifN ((eb_or (eb_not ((eb_B (ev_isj (e0 H (Same.refl _)))).is (b := true) rfl)) fun _ => (eb_or (eb_not ((eb_B (ev_isj (ev_j0 (e0 H (Same.refl _))))).is (b := true) rfl)) fun _ => eb_not ((eb_B (ev_isj (ev_j1 (e0 H (Same.refl _))))).is (b := true) rfl))).is rfl) fun H1 s1 => ?_
        exact st_ret (ev_andV (ev_eqS (ev_j0 (ev_j0 (e0 H1 s1)))) fun _ => ev_eqK (ev_j0 (ev_j1 (e0 H1 s1)))) fun v H2 s2 h2 => k v H2 (s1.trans s2) h2
/-- hands back a new list of trees, or None -/
def SpUnf (K : PySem.W.Frag) : Sp := fun vs H Q _ => ∃ (x : V) (t : Tr), vs = [x] ∧ Td H x t.d ∧ t.depth ≤ 5000000 ∧ (Tr.unfT t = none → ∀ H', Same H H' → Q .non H') ∧
  (∀ ts, Tr.unfT t = some ts → ∀ p xs H', H p = none → Same H H' → H' p = some (.lst xs) → TdAll H' xs (trs ts) → Q (.ref p) H')
theorem len_unfolded {vs : List V} {H : Hp} {Q : VK} {E : XK} (h : SpUnf K vs H Q E) : vs.length = 1 := by obtain ⟨x, t, rfl, _⟩ := h; rfl
theorem unf_len : ∀ (t : Tr) (ts : List Tr), Tr.unfR t = some ts → ts.length ≤ t.depth
  | .S, ts, h => by cases h
  | .K, ts, h => by cases h
  | .nm _, ts, h => by cases h
  | .j l r, ts, h => by
    cases hc : Tr.cellT (.j l r) with
    | false =>
      rw [Tr.unfR_not hc] at h
      split at h
      · cases h; exact Nat.zero_le _
      · cases h
    | true =>
      obtain ⟨u, x, e⟩ := Tr.cell_form hc
      cases e
      rw [Tr.unfR_cell] at h
      cases e : Tr.unfR u with
      | none => rw [e] at h; cases h
      | some us =>
        rw [e] at h
        cases h
        have := unf_len u us e
        show us.length + 1 ≤ max (max 0 u.depth + 1) (max 0 x.depth + 1) + 1
        omega
theorem sc_unfolded : FnScope ["tree", "things"] ["tree"] (defScope st_unfolded) := ⟨rfl, rfl, rfl, by decide +kernel, rfl, by decide +kernel, by decide +kernel⟩
theorem has_unfolded (T : Txt P w K mg base) : Has P w K mg base "unfolded" ["tree"] 6 (SpUnf K) := by
  refine has_mk T.glo_unfolded (T.c.def_ 27 (d := d_unfolded) rfl) sc_unfolded (fun vs H Q E h => by exact len_unfolded h) (fun _ _ _ _ _ _ us hl => match us, hl with | [_], _ => rfl) (fun cdv A outer s H vs Q E hr h => ?_)
  refine ⟨_, (pss_cons (ps_set (i := 1) sc_unfolded.nd rfl (by first | exact Or.inl rfl | exact Or.inr rfl) (pe_lst pa_nil))
    (pss_cons (ps_while PassesOwn.never (pt_val (pc (has_is_cell T) (hr.mono (by decide)) (pa_cons (pv 0) pa_nil))) (pss_cons (ps_expr (pe_bm PySem.F.plainAttrs_list PySem.F.slot_list_append PySem.F.type_list_append mt_append (pv 1) (pa_cons (pe_ixK (K := K) (pe_ixK (K := K) (pv 0) pe_int (fun _ _ => rfl)) pe_int (fun _ _ => rfl)) pa_nil)))
    (pss_one (ps_set (i := 0) sc_unfolded.nd rfl (by first | exact Or.inl rfl | exact Or.inr rfl) (pe_ixK (K := K) (pe_ixK (K := K) (pv 0) pe_int (fun _ _ => rfl)) pe_int (fun _ _ => rfl))))))
    (pss_cons (ps_if (pt_cmpR (op_neSK (K := K) hr) (pv 0) (pc0 (has_idle T) (hr.mono (by decide))) (nomark _)) (pss_one (ps_ret pe_non)) pss_nil)
    (pss_one (ps_ret (pe_listRev T.free_list T.free_reversed (pv 1))))))), ?_⟩
  obtain ⟨x, t, rfl, hx, hdp, k1, k2⟩ := h
  refine q_setF (ef_lst (K := K) (ds := []) ea_nil (Nat.zero_le _)) fun p xs H1 hp s1 h1 t1 => ?_
  refine q_while (fun n σ H' => ∃ (v : V) (cur : Tr) (acc : List Tr) (ys : List V), σ = [some v, some (.ref p)] ∧ n = cur.depth ∧ Same H H' ∧ Td H' v cur.d ∧ H' p = some (.lst ys) ∧ TdAll H' ys (trs acc) ∧ Tr.unfR t = (Tr.unfR cur).map (acc ++ ·) ∧ acc.length + cur.depth ≤ t.depth)
    t.depth ⟨x, t, [], xs, rfl, rfl, s1, hx.sm s1, h1, t1, by cases Tr.unfR t <;> rfl, by rw [List.length_nil, Nat.zero_add]; exact Nat.le_refl _⟩ ?_
  rintro n σ H2 ⟨v, cur, acc, ys, rfl, rfl, s2, h2, hl2, t2, e2, l2⟩
  have e0 : ∀ H', Same H2 H' → Ev K (tVar 0) [some v, some (.ref p)] H' (.t cur.d) := fun H' s => ev_var rfl (show At K H' v (.t cur.d) from h2.sm s)
  refine ⟨Tr.cellT cur, eb_B (ev_call (F := f_is_cell) ⟨cur, rfl, rfl⟩ (ea_cons (e0 H2 (Same.refl _)) ea_nil)), fun H3 s3 => ?_⟩
  cases hc : Tr.cellT cur with
  | true =>
    obtain ⟨u, y, rfl⟩ := Tr.cell_form hc
    refine iteT ?_
    have hdep : max (max 0 u.depth + 1) (max 0 y.depth + 1) + 1 = (Tr.j (.j .S u) (.j .K y)).depth := rfl
    · have hacc : acc.length < 10000000 := by omega
      refine q_append (K := K) rfl (s3 _ _ hl2) (t2.sm s3) (ev_j1 (ev_j1 (e0 H3 s3))) (by rw [trs_len]; exact hacc) fun zs H4 m4 h4 t4 => ?_
      have v4 : Td H4 v (Tr.j (.j .S u) (.j .K y)).d := (h2.sm s3).tx m4.tx
      refine st_set (ev_j1 (ev_j0 (ev_var (K := K) rfl (show At K H4 v (.t (Tr.j (.j .S u) (.j .K y)).d) from v4)))) fun v' H5 s5 h5 => ?_
      refine ⟨u.depth, by omega, v', u, acc ++ [y], zs, rfl, rfl, ((m4.of (s2.trans s3) hp)).trans s5, h5, s5 _ _ h4, ?_, ?_, ?_⟩
      · rw [trs_app]; exact t4.sm s5
      · rw [e2, Tr.unfR_cell]
        cases Tr.unfR u <;> simp
      · rw [List.length_append, List.length_singleton]
        omega
  | false =>
    refine iteF ?_
    rw [Tr.unfR_not hc] at e2
    by_cases hi : cur = Tr.idle
    · refine q_ifN ((eb_test (ev_neT (N := 200) (e0 H3 s3) (ev_call (F := f_idle) (E := E0) (K := K) ⟨rfl, rfl⟩ ea_nil) (by decide))).is (by rw [decide_eq_true hi]; rfl)) fun H4 s4 => ?_
      rw [if_pos hi] at e2
      have eu : Tr.unfT t = some acc.reverse := by
        unfold Tr.unfT
        rw [e2]
        simp
      have s34 := s3.trans s4
      refine ⟨_, rfl, p, ys, rfl, SqL.of (s34 _ _ hl2), fun q hq => ?_⟩
      refine k2 _ eu q _ _ ((s2.trans s34).free hq) ((s2.trans s34).trans (Same.new hq)) upd_same ?_
      have hr := (t2.sm s34).rev.tx (Tx.new (o := .lst ys.reverse) hq)
      have e : (trs acc).reverse = trs acc.reverse := by unfold trs; rw [List.map_reverse]
      rw [← e]
      exact hr
    · refine q_ifT ((eb_test (ev_neT (N := 200) (e0 H3 s3) (ev_call (F := f_idle) (E := E0) (K := K) ⟨rfl, rfl⟩ ea_nil) (by decide))).is (by rw [decide_eq_false hi]; rfl)) fun H4 s4 => ?_
      rw [if_neg hi] at e2
      have eu : Tr.unfT t = none := by
        unfold Tr.unfT
        rw [e2]
        rfl
      exact st_ret (K := K) ev_non fun u H5 s5 h5 => by
        obtain rfl := Td.non_of h5
        exact k1 eu H5 (s2.trans (s3.trans (s4.trans s5)))
end
end My

/-! W5: lists, packs, ends, walked. -/
namespace My
open PySem PySem.Spec PyProof.Rows L2
section
variable {P : Program} {w : World} {K : PySem.W.Frag} {mg : Str → Option Value} {base : Heap}
/-- a displayed list of trees, as an argument -/
theorem ev_trs {σ : L2.St} {H : Hp} {ta : TA} (ts : List Tr) (h : Ea K ta σ H ((trs ts).map Ag.t)) (hl : ts.length ≤ 1000) : Ev K (tLst ta) σ H (.l (trs ts)) := Ef.ev (ef_lst h (by rw [trs_len]; exact hl))
/-- folded([..]) -/
theorem ev_folded {σ : L2.St} {H : Hp} {te : TE} {E : XK} {ts : List Tr} (h : Ev K te σ H (.l (trs ts))) : Ev K (tCall (SpT K f_folded) [] E (tCons te tNil)) σ H (.t (Tr.foldT ts).d) := ev_call ⟨ts, rfl, rfl⟩ (ea_cons h ea_nil)

def f_list_of : Gr := fun as d => ∃ ts : List Tr, as = [.l (trs ts)] ∧ d = (Tr.listT ts).d
theorem len_list_of {as : List Ag} {d : PyData} (h : f_list_of as d) : as.length = 1 := by obtain ⟨t, rfl, _⟩ := h; rfl
theorem foldr_rev_take {α β : Type} (f : α → β → β) (b : β) (l : List α) (n : Nat) (x : α) (h : l.reverse[n]? = some x) : (l.reverse.take (n + 1)).foldl (fun a c => f c a) b = f x ((l.reverse.take n).foldl (fun a c => f c a) b) := by
  rw [take_more h, List.foldl_append]
  rfl
theorem sc_list_of : FnScope ["things", "tree", "thing"] ["things"] (defScope st_list_of) := ⟨rfl, rfl, rfl, by decide +kernel, rfl, by decide +kernel, by decide +kernel⟩
theorem has_list_of (T : Txt P w K mg base) : Has P w K mg base "list_of" ["things"] 6 (SpT K f_list_of) := by
  refine has_mk T.glo_list_of (T.c.def_ 28 (d := d_list_of) rfl) sc_list_of (SpT.len (fun as d h => by exact len_list_of h)) (fun _ _ _ _ _ _ us hl => match us, hl with | [_], _ => rfl) (fun cdv A outer s H vs Q E hr h => ?_)
  refine ⟨_, (pss_cons (ps_set (i := 1) sc_list_of.nd rfl (by first | exact Or.inl rfl | exact Or.inr rfl) pe_str)
    (pss_cons (ps_for PassesOwn.never rfl (pi_reversed (by rfl) T.free_reversed (pa_cons (pv 0) pa_nil)) (pg_name (i := 2) sc_list_of.nd rfl (by first | exact Or.inl rfl | exact Or.inr rfl))
    (pss_one (ps_set (i := 1) sc_list_of.nd rfl (by first | exact Or.inl rfl | exact Or.inr rfl) (pc (has_joint T) (hr.mono (by decide)) (pa_cons pe_str (pa_cons (pc (has_folded T) (hr.mono (by decide)) (pa_cons (pe_lst (pa_cons (pv 2) (pa_cons (pv 1) pa_nil))) pa_nil)) pa_nil))))))
    (pss_one (ps_ret (pv 1))))), ?_⟩
  obtain ⟨as, d, ⟨ts, rfl, rfl⟩, hv, k⟩ := h
  obtain ⟨x, rfl, a, xs, rfl, hs, ht⟩ := hv.i1
  refine q_set (K := K) ev_K fun v H1 s1 h1 => ?_
  let g : Tr → Tr → Tr := fun x t => .j .K (Tr.foldT [x, t])
  refine q_for (Hb := H) (wk_rev (K := K) (ea_cons (ev_ref rfl) ea_nil) hs ht s1) (fun n σ H' => ∃ v u, σ = [some (.ref a), some v, u] ∧ Same H H' ∧ Td H' v ((ts.reverse.take n).foldl (fun a c => g c a) .K).d) (fun H2 s2 => ⟨v, none, rfl, s1.trans s2, Td.sm s2 h1⟩) (fun _ _ _ ⟨_, _, _, s, _⟩ => s) ?_ ?_
  · rintro n d y σ H2 H3 hd hy ⟨v, u, rfl, s2, h2⟩ s3
    have er : (trs ts).reverse = trs ts.reverse := by unfold trs; rw [List.map_reverse]
    rw [er] at hd
    obtain ⟨t, e1, rfl⟩ := trs_get hd
    rw [foldr_rev_take g .K ts n t e1]
    refine st_set (ev_joint (l := .K) (r := Tr.foldT [t, (ts.reverse.take n).foldl (fun a c => g c a) .K]) (K := K) ev_K (ev_folded (ts := [t, (ts.reverse.take n).foldl (fun a c => g c a) .K]) (ev_trs [t, (ts.reverse.take n).foldl (fun a c => g c a) .K]
      (ea_cons (ev_var rfl (show At K H3 y (.t t.d) from hy)) (ea_cons (ev_var rfl (show At K H3 v (.t ((ts.reverse.take n).foldl (fun a c => g c a) .K).d) from h2.sm s3)) ea_nil)) (Nat.le_of_ble_eq_true rfl)))) fun v' H4 s4 h4 => ?_
    exact ⟨v', _, rfl, s2.trans (s3.trans s4), h4⟩
  · rintro σ H2 ⟨v, u, rfl, s2, h2⟩
    rw [List.length_reverse, trs_len, ← List.length_reverse (as := ts), List.take_length, List.foldl_reverse] at h2
    exact st_ret (ev_var (K := K) rfl (show At K H2 v (.t (Tr.listT ts).d) from h2)) fun v H3 s3 h3 => k v H3 (s2.trans s3) h3
def f_pack : Gr := fun as d => ∃ a b c : Tr, as = [.t a.d, .t b.d, .t c.d] ∧ d = (Tr.packT a b c).d
theorem len_pack {as : List Ag} {d : PyData} (h : f_pack as d) : as.length = 3 := by obtain ⟨_, _, _, rfl, _⟩ := h; rfl
theorem sc_pack : FnScope ["one", "two", "three"] ["one", "two", "three"] (defScope st_pack) := ⟨rfl, rfl, rfl, by decide +kernel, rfl, by decide +kernel, by decide +kernel⟩
theorem has_pack (T : Txt P w K mg base) : Has P w K mg base "pack" ["one", "two", "three"] 6 (SpT K f_pack) := by
  refine has_mk T.glo_pack (T.c.def_ 30 (d := d_pack) rfl) sc_pack (SpT.len (fun as d h => by exact len_pack h)) (fun _ _ _ _ _ _ us hl => match us, hl with | [_, _, _], _ => rfl) (fun cdv A outer s H vs Q E hr h => ?_)
  refine ⟨_, (pss_one (ps_ret (pc (has_folded T) (hr.mono (by decide)) (pa_cons (pe_lst (pa_cons (pv 0) (pa_cons (pv 1) (pa_cons (pv 2) pa_nil)))) pa_nil)))), ?_⟩
  obtain ⟨as, d, ⟨a, b, c, rfl, rfl⟩, hv, k⟩ := h
  obtain ⟨x, y, z, rfl, hx, hy, hz⟩ := hv.i3
  exact st_ret (ev_folded (ts := [a, b, c]) (ev_trs [a, b, c] (ea_cons (ev_var rfl hx) (ea_cons (ev_var rfl hy) (ea_cons (ev_var rfl hz) ea_nil))) (Nat.le_of_ble_eq_true rfl))) k
def f_end_of : Gr := fun as d => ∃ a b c e : Tr, as = [.t a.d, .t b.d, .t c.d, .t e.d] ∧ d = (Tr.endT a b c e).d
theorem len_end_of {as : List Ag} {d : PyData} (h : f_end_of as d) : as.length = 4 := by obtain ⟨_, _, _, _, rfl, _⟩ := h; rfl
theorem sc_end_of : FnScope ["one", "two", "three", "four"] ["one", "two", "three", "four"] (defScope st_end_of) := ⟨rfl, rfl, rfl, by decide +kernel, rfl, by decide +kernel, by decide +kernel⟩
theorem has_end_of (T : Txt P w K mg base) : Has P w K mg base "end_of" ["one", "two", "three", "four"] 6 (SpT K f_end_of) := by
  refine has_mk T.glo_end_of (T.c.def_ 31 (d := d_end_of) rfl) sc_end_of (SpT.len (fun as d h => by exact len_end_of h)) (fun _ _ _ _ _ _ us hl => match us, hl with | [_, _, _, _], _ => rfl) (fun cdv A outer s H vs Q E hr h => ?_)
  refine ⟨_, (pss_one (ps_ret (pc (has_folded T) (hr.mono (by decide)) (pa_cons (pe_lst (pa_cons (pv 0) (pa_cons (pv 1) (pa_cons (pv 2) (pa_cons (pv 3) pa_nil))))) pa_nil)))), ?_⟩
  obtain ⟨as, d, ⟨a, b, c, e, rfl, rfl⟩, hv, k⟩ := h
  obtain ⟨x, y, z, u, rfl, hx, hy, hz, hu⟩ := hv.i4
  exact st_ret (ev_folded (ts := [a, b, c, e]) (ev_trs [a, b, c, e] (ea_cons (ev_var rfl hx) (ea_cons (ev_var rfl hy) (ea_cons (ev_var rfl hz) (ea_cons (ev_var rfl hu) ea_nil)))) (Nat.le_of_ble_eq_true rfl))) k
/-- hands back a new list of trees, or None -/
def SpThings (K : PySem.W.Frag) : Sp := fun vs H Q _ => ∃ (x : V) (t : Tr), vs = [x] ∧ Td H x t.d ∧ t.depth ≤ 5000000 ∧ (Tr.thT t = none → ∀ H', Same H H' → Q .non H') ∧
  (∀ ts, Tr.thT t = some ts → ∀ p xs H', H p = none → Same H H' → H' p = some (.lst xs) → TdAll H' xs (trs ts) → Q (.ref p) H')
theorem len_things_of {vs : List V} {H : Hp} {Q : VK} {E : XK} (h : SpThings K vs H Q E) : vs.length = 1 := by obtain ⟨x, t, rfl, _⟩ := h; rfl
/-- a joint K b: what b must be -/
theorem thT_two {b x y : Tr} (h : Tr.unfT b = some [x, y]) : b = Tr.foldT [x, y] := by
  unfold Tr.unfT at h
  have h1 : Tr.unfR b = some [y, x] := by
    cases e : Tr.unfR b with
    | none => rw [e] at h; cases h
    | some l =>
      rw [e] at h
      have h : l.reverse = [x, y] := Option.some.inj h
      have : l = [x, y].reverse := by rw [← h, List.reverse_reverse]
      rw [this]; rfl
  cases hc : Tr.cellT b with
  | false =>
    rw [Tr.unfR_not hc] at h1
    split at h1 <;> cases h1
  | true =>
    obtain ⟨u, z, rfl⟩ := Tr.cell_form hc
    rw [Tr.unfR_cell] at h1
    cases e : Tr.unfR u with
    | none => rw [e] at h1; cases h1
    | some l =>
      rw [e] at h1
      have h1 : z :: l = [y, x] := Option.some.inj h1
      cases h1
      cases hc2 : Tr.cellT u with
      | false =>
        rw [Tr.unfR_not hc2] at e
        split at e <;> cases e
      | true =>
        obtain ⟨u2, z2, rfl⟩ := Tr.cell_form hc2
        rw [Tr.unfR_cell] at e
        cases e2 : Tr.unfR u2 with
        | none => rw [e2] at e; cases e
        | some l2 =>
          rw [e2] at e
          have e : z2 :: l2 = [x] := Option.some.inj e
          cases e
          cases hc3 : Tr.cellT u2 with
          | true =>
            obtain ⟨u3, z3, rfl⟩ := Tr.cell_form hc3
            rw [Tr.unfR_cell] at e2
            cases e3 : Tr.unfR u3 with
            | none => rw [e3] at e2; cases e2
            | some l3 => rw [e3] at e2; cases e2
          | false =>
            rw [Tr.unfR_not hc3] at e2
            split at e2
            · rename_i hi
              rw [hi]
              rfl
            · cases e2
theorem unfT_two (x y : Tr) : Tr.unfT (Tr.foldT [x, y]) = some [x, y] := rfl
theorem thT_step (x y : Tr) : Tr.thT (.j .K (Tr.foldT [x, y])) = (Tr.thT y).map (x :: ·) := rfl
theorem thT_none {b : Tr} (h : ∀ x y, b ≠ Tr.foldT [x, y]) : Tr.thT (.j .K b) = none := by
  unfold Tr.thT
  split
  · rename_i e; cases e
  · rename_i x y e
    injection e with _ e
    exact absurd e (h x y)
  · rfl
theorem thT_notK {a b : Tr} (h : a ≠ .K) : Tr.thT (.j a b) = none := by
  cases a with
  | K => exact absurd rfl h
  | _ => rfl
theorem ev_lenL {σ : L2.St} {H : Hp} {i : Nat} {p : Addr} {xs : List V} {n : Nat} (hi : σ[i]? = some (some (.ref p))) (hp : H p = some (.lst xs)) (hn : xs.length = n) :
    Ev K (tCB (rLenK K) (tCons (tVar i) tNil)) σ H (.t (.int n)) := fun H1 s Q q =>
  ⟨_, hi, _, n, rfl, .inl ⟨xs, SqL.of (s _ _ hp), hn.symm⟩, q _ H1 (Same.refl H1) (Td.int _)⟩
theorem sc_things_of : FnScope ["tree", "things", "two"] ["tree"] (defScope st_things_of) := ⟨rfl, rfl, rfl, by decide +kernel, rfl, by decide +kernel, by decide +kernel⟩
theorem has_things_of (T : Txt P w K mg base) : Has P w K mg base "things_of" ["tree"] 7 (SpThings K) := by
  refine has_mk T.glo_things_of (T.c.def_ 29 (d := d_things_of) rfl) sc_things_of (fun vs H Q E h => by exact len_things_of h) (fun _ _ _ _ _ _ us hl => match us, hl with | [_], _ => rfl) (fun cdv A outer s H vs Q E hr h => ?_)
  refine ⟨_, (pss_cons (ps_set (i := 1) sc_things_of.nd rfl (by first | exact Or.inl rfl | exact Or.inr rfl) (pe_lst pa_nil))
    (pss_cons (ps_while PassesOwn.never (pt_val (pc (has_is_joint T) (hr.mono (by decide)) (pa_cons (pv 0) pa_nil))) (pss_cons (ps_if (pt_cmpR (op_neSK (K := K) hr) (pe_ixK (K := K) (pv 0) pe_int (fun _ _ => rfl)) pe_str (nomark _)) (pss_one (ps_ret pe_non)) pss_nil)
    (pss_cons (ps_set (i := 2) sc_things_of.nd rfl (by first | exact Or.inl rfl | exact Or.inr rfl) (pc (has_unfolded T) (hr.mono (by decide)) (pa_cons (pe_ixK (K := K) (pv 0) pe_int (fun _ _ => rfl)) pa_nil)))
    (pss_cons (ps_if (PW.pt (pw_or (pt_cmp (pc_isN (pv 2))) (pw_or1 (pt_cmpR (op_neSK (K := K) hr) (pe_callB (call_lenK (K := K)) (by rfl) T.free_len PySem.boot_len (pa_cons (pv 2) pa_nil)) pe_int (nomark _))))) (pss_one (ps_ret pe_non)) pss_nil)
    (pss_cons (ps_expr (pe_bm PySem.F.plainAttrs_list PySem.F.slot_list_append PySem.F.type_list_append mt_append (pv 1) (pa_cons (pe_ixK (K := K) (pv 2) pe_int (fun _ _ => rfl)) pa_nil)))
    (pss_one (ps_set (i := 0) sc_things_of.nd rfl (by first | exact Or.inl rfl | exact Or.inr rfl) (pe_ixK (K := K) (pv 2) pe_int (fun _ _ => rfl)))))))))
    (pss_cons (ps_if (pt_cmpR (op_neSK (K := K) hr) (pv 0) pe_str (nomark _)) (pss_one (ps_ret pe_non)) pss_nil)
    (pss_one (ps_ret (pv 1)))))), ?_⟩
  obtain ⟨x, t, rfl, hx, hdp, k1, k2⟩ := h
  refine q_setF (ef_lst (K := K) (ds := []) ea_nil (Nat.zero_le _)) fun p xs H1 hp s1 h1 t1 => ?_
  refine q_while (fun n σ H' => ∃ (v : V) (cur : Tr) (acc : List Tr) (ys : List V) (u : Option V), σ = [some v, some (.ref p), u] ∧ n = cur.depth ∧ Same H H' ∧ Td H' v cur.d ∧ H' p = some (.lst ys) ∧ TdAll H' ys (trs acc) ∧ Tr.thT t = (Tr.thT cur).map (acc ++ ·) ∧ acc.length + cur.depth ≤ t.depth)
    t.depth ⟨x, t, [], xs, none, rfl, rfl, s1, hx.sm s1, h1, t1, by cases Tr.thT t <;> rfl, by rw [List.length_nil, Nat.zero_add]; exact Nat.le_refl _⟩ ?_
  rintro n σ H2 ⟨v, cur, acc, ys, u, rfl, rfl, s2, h2, hl2, t2, e2, l2⟩
  have e0 : ∀ H', Same H2 H' → Ev K (tVar 0) [some v, some (.ref p), u] H' (.t cur.d) := fun H' s => ev_var rfl (show At K H' v (.t cur.d) from h2.sm s)
  refine ⟨!cur.isLeaf, eb_B (ev_isj (e0 H2 (Same.refl _))), fun H3 s3 => ?_⟩
  rcases leaf_or (t := cur) with hlf | ⟨a, b, rfl⟩
  · rw [hlf]
    refine iteF ?_
    by_cases hk : cur = .K
    · subst hk
      refine q_ifN ((eb_test (ev_neK (e0 H3 s3))).is rfl) fun H4 s4 => ?_
      have et : Tr.thT t = some acc := by rw [e2]; simp [Tr.thT]
      have s34 := s3.trans s4
      -- return things: the list is new
      exact ⟨_, rfl, k2 _ et p ys H4 hp (s2.trans s34) (s34 _ _ hl2) (t2.sm s34)⟩
    · refine q_ifT ((eb_test (ev_neK (e0 H3 s3))).is (by rw [decide_eq_false hk]; rfl)) fun H4 s4 => ?_
      have et : Tr.thT t = none := by
        rw [e2]
        cases cur with
        | K => exact absurd rfl hk
        | j _ _ => cases hlf
        | _ => rfl
      exact st_ret (K := K) ev_non fun u H5 s5 h5 => by
        obtain rfl := Td.non_of h5
        exact k1 et H5 (s2.trans (s3.trans (s4.trans s5)))
  · refine iteT ?_
    have hdep : max a.depth b.depth + 1 = (Tr.j a b).depth := rfl
    by_cases hk : a = .K
    · subst hk
      refine q_ifN ((eb_test (ev_neK (ev_j0 (e0 H3 s3)))).is rfl) fun H4 s4 => ?_
      have s34 := s3.trans s4
      -- two = unfolded(tree[1])
      refine ev_j1 (e0 H4 s34) H4 (Same.refl _) _ fun vb H5 s5 h5 => ?_
      have s35 := s34.trans s5
      refine ⟨vb, b, rfl, h5, by omega, fun hn H6 s6 => ?_, fun ts hts q zs H6 hq s6 h6 t6 => ?_⟩
      · -- None
        have et : Tr.thT t = none := by
          rw [e2, thT_none (fun x y e => by rw [e, unfT_two] at hn; cases hn)]
          rfl
        have v2 : Ev K (tVar 2) [some v, some (.ref p), some .non] H6 (.t .none) := ev_var rfl (show At K H6 .non (.t .none) from Td.non)
        refine q_ifT ((eb_or (b := true) (eb_B (ev_isN v2 rfl)) (fun z => absurd z (by decide))).is rfl) fun H7 s7 => ?_
        exact st_ret (K := K) ev_non fun u H8 s8 h8 => by
          obtain rfl := Td.non_of h8
          exact k1 et H8 (s2.trans (s35.trans (s6.trans (s7.trans s8))))
      · have vr : ∀ H', Ev K (tVar 2) [some v, some (.ref p), some (.ref q)] H' (.o (fun v _ => v = .ref q) (fun _ _ _ _ h => h)) := fun H' => ev_ref rfl
        have isn : Eb (tB (tIsN (tVar 2))) [some v, some (.ref p), some (.ref q)] H6 false := fun H' s' Q' q' => ⟨_, rfl, false, rfl, q' H' (Same.refl _)⟩
        have lz : zs.length = ts.length := by rw [t6.length, trs_len]
        have ln : Eb (tTest (tOp (rNeG K 200) (tCB (rLenK K) (tCons (tVar 2) tNil)) (tC (.int 2)))) [some v, some (.ref p), some (.ref q)] H6 (!((ts.length : Int) == 2)) :=
          eb_test (ev_neG (ev_lenL rfl h6 lz) ev_int rfl rfl rfl rfl (Nat.zero_le _))
        by_cases h22 : ts.length = 2
        · match ts, h22 with
          | [y1, y2], _ =>
          obtain rfl := thT_two hts
          refine q_ifN ((eb_or isn fun _ => ln).is rfl) fun H7 s7 => ?_
          have s37 := s35.trans (s6.trans s7)
          have two : ∀ H', Same H7 H' → Ev K (tVar 2) [some v, some (.ref p), some (.ref q)] H' (.l (trs [y1, y2])) := fun H' s => ev_var rfl ⟨q, zs, rfl, SqL.of ((s7.trans s) _ _ h6), t6.sm (s7.trans s)⟩
          have hdb : (Tr.foldT [y1, y2]).depth = max (max 0 (max (max 0 2 + 1) (max 0 y1.depth + 1) + 1) + 1) (max 0 y2.depth + 1) + 1 := rfl
          refine q_append (K := K) rfl (s37 _ _ hl2) (t2.sm s37) (ev_ixL (two H7 (Same.refl _)) ev_int rfl) (by rw [trs_len]; omega) fun ws H8 m8 h8 t8 => ?_
          have hqp : q ≠ p := by
            intro z
            subst z
            have z := s35 _ _ hl2
            rw [hq] at z
            cases z
          have h8q : H8 q = some (.lst zs) := m8.ne (s7 _ _ h6) hqp
          have t8q : TdAll H8 zs (trs [y1, y2]) := (t6.sm s7).tx m8.tx
          refine st_set (ev_ixL (ds := trs [y1, y2]) (d := y2.d) (ev_var (K := K) rfl (show At K H8 (.ref q) (.l (trs [y1, y2])) from ⟨q, zs, rfl, SqL.of h8q, t8q⟩)) ev_int rfl) fun v' H9 s9 h9 => ?_
          refine ⟨y2.depth, by omega, v', y2, acc ++ [y1], ws, _, rfl, rfl, (m8.of (s2.trans s37) hp).trans s9, h9, s9 _ _ h8, ?_, ?_, ?_⟩
          · rw [trs_app]; exact t8.sm s9
          · rw [e2, thT_step]
            cases Tr.thT y2 <;> simp
          · rw [List.length_append, List.length_singleton]
            omega
        · have et : Tr.thT t = none := by
            rw [e2, thT_none (fun x y e => by rw [e, unfT_two] at hts; cases hts; exact h22 rfl)]
            rfl
          refine q_ifT ((eb_or isn fun _ => ln).is (by rw [Bool.false_or, Bool.not_eq_true', beq_eq_false_iff_ne]; omega)) fun H7 s7 => ?_
          exact st_ret (K := K) ev_non fun u H8 s8 h8 => by
            obtain rfl := Td.non_of h8
            exact k1 et H8 (s2.trans (s35.trans (s6.trans (s7.trans s8))))
    · refine q_ifT ((eb_test (ev_neK (ev_j0 (e0 H3 s3)))).is (by rw [decide_eq_false hk]; rfl)) fun H4 s4 => ?_
      have et : Tr.thT t = none := by rw [e2, thT_notK hk]; rfl
      exact st_ret (K := K) ev_non fun u H5 s5 h5 => by
        obtain rfl := Td.non_of h5
        exact k1 et H5 (s2.trans (s3.trans (s4.trans s5)))
end
end My

/-! Mir3: names put in and taken out, as plain data. -/
namespace My
open PySem
namespace Tr
def putT (g : Nm → Option Tr) : Tr → Tr
  | nm x => (g x).getD (nm x)
  | j l r => j (putT g l) (putT g r)
  | t => t
def partT (x : Nm) : Tr → Bool × Tr × Nat
  | j a b => if ((j a b).isVal && !(partT x a).1 && !(partT x b).1) = true then (false, j K (j a b), 1) else if (decide (b = nm x) && a.isVal && !(partT x a).1) = true then (true, a, 0) else
      ((partT x a).1 || (partT x b).1, j (j S (partT x a).2.1) (partT x b).2.1, 1 + (partT x a).2.2 + (partT x b).2.2)
  | t => if t = nm x then (true, idle, 2) else (false, j K t, 1)
def takT (x : Nm) (t : Tr) : Tr := (partT x t).2.1
def madeT (ns : List Nm) (t : Tr) : Tr := ns.foldr takT t
def costsT : List Nm → Tr → List Nat
  | [], _ => []
  | x :: xs, t => (partT x (madeT xs t)).2.2 :: costsT xs t
/-- all that is met on the way is not too deep -/
def okD (n : Nat) : List Nm → Tr → Bool
  | [], t => decide (t.depth < n)
  | x :: xs, t => okD n xs t && decide ((madeT (x :: xs) t).depth < n)
def handT (t : Tr) (xs : List Tr) : Tr := xs.foldl j t
end Tr
def nms (ns : List Nm) : List PyData := ns.map fun x => PyData.str x.str
theorem okD_drop {n : Nat} {t : Tr} : ∀ {ns : List Nm} (k : Nat), Tr.okD n ns t = true → (Tr.madeT (ns.drop k) t).depth < n
  | [], 0, h => of_decide_eq_true h
  | [], k + 1, h => of_decide_eq_true h
  | x :: xs, 0, h => of_decide_eq_true (Bool.and_eq_true_iff.mp h).2
  | x :: xs, k + 1, h => okD_drop k (Bool.and_eq_true_iff.mp h).1
end My

/-! W6: names put in, taken out, walked. -/
namespace My
open PySem PySem.Spec PyProof.Rows L2
section
variable {P : Program} {w : World} {K : PySem.W.Frag} {mg : Str → Option Value} {base : Heap}
def OptAt (H : Hp) (o : Option V) : Option Tr → Prop
  | none => o = none
  | some t => ∃ v, o = some v ∧ Td H v t.d
/-- a dict of names and trees -/
def PutsAt (g : Nm → Option Tr) (v : V) (H : Hp) : Prop := ∃ p kvs, v = .ref p ∧ H p = some (.dK kvs) ∧ valV kvs (Sum.inr "S") = none ∧ valV kvs (Sum.inr "K") = none ∧ ∀ x : Nm, OptAt H (valV kvs (Sum.inr x.str)) (g x)
theorem OptAt.sm {H H' : Hp} {o : Option V} (s : Same H H') : ∀ {t : Option Tr}, OptAt H o t → OptAt H' o t
  | none, h => h
  | some _, ⟨v, e, h⟩ => ⟨v, e, h.sm s⟩
theorem PutsAt.mono (g : Nm → Option Tr) : Mono (PutsAt g) := fun v H H' s ⟨p, kvs, e, h, h1, h2, h3⟩ => ⟨p, kvs, e, s _ _ h, h1, h2, fun x => (h3 x).sm s⟩
def Ag.puts (g : Nm → Option Tr) : Ag := .o (PutsAt g) (PutsAt.mono g)
/-- puts.get(leaf, leaf) -/
theorem ev_get2 {σ : L2.St} {H : Hp} {td ty tx : TE} {g : Nm → Option Tr} {t : Tr} (h1 : Ev K td σ H (Ag.puts g)) (h2 : Ev K ty σ H (.t t.d)) (h3 : Ev K tx σ H (.t t.d)) (hl : t.isLeaf = true) :
    Ev K (tDGet2 td ty tx) σ H (.t (Tr.putT g t).d) := fun H1 s Q q =>
  h1 H1 s _ fun v H2 s2 hv => by
    obtain ⟨p, kvs, rfl, hp, hS, hK, hN⟩ := hv
    refine ⟨p, rfl, .inl ⟨kvs, .inl hp⟩, ?_⟩
    refine h2 H2 (s.trans s2) _ fun y H3 s3 hy => ?_
    refine h3 H3 ((s.trans s2).trans s3) _ fun z H4 s4 hz => ?_
    have hp4 := (s3.trans s4) _ _ hp
    have s14 := s2.trans (s3.trans s4)
    cases t with
    | j a b => cases hl
    | S =>
      cases Td.str_of hy
      exact ⟨_, DGet.k (k := Sum.inr "S") hp4, by rw [hS]; exact q z H4 s14 hz⟩
    | K =>
      cases Td.str_of hy
      exact ⟨_, DGet.k (k := Sum.inr "K") hp4, by rw [hK]; exact q z H4 s14 hz⟩
    | nm x =>
      cases Td.str_of hy
      refine ⟨_, DGet.k (k := Sum.inr x.str) hp4, ?_⟩
      have hx := hN x
      cases hg : g x with
      | none =>
        rw [hg] at hx
        have hx : valV kvs (Sum.inr x.str) = none := hx
        rw [hx]
        refine q z H4 s14 ?_
        show Td H4 z ((g x).getD (.nm x)).d
        rw [hg]
        exact hz
      | some t =>
        rw [hg] at hx
        obtain ⟨v, e, ht⟩ := hx
        rw [e]
        refine q v H4 s14 ?_
        show Td H4 v ((g x).getD (.nm x)).d
        rw [hg]
        exact ht.sm (s3.trans s4)
/-- a tuple of three taken apart -/
theorem q_un3 {u : TS} {σ : L2.St} {H : Hp} {D : Ends} {te : TE} {i1 i2 i3 : Nat} {d1 d2 d3 : PyData} (he : Ev K te σ H (.t (.tuple [d1, d2, d3])))
    (k : ∀ a b c H', Same H H' → Td H' a d1 → Td H' b d2 → Td H' c d3 → u D (((σ.set i1 (some a)).set i2 (some b)).set i3 (some c)) H') :
    tSeq (tAsg te (gTup K 3 (gCons (gName i1) (gCons (gName i2) (gCons (gName i3) gNil))))) u D σ H :=
  he H (Same.refl H) _ fun v H1 s1 h1 => by
    obtain ⟨p, a, b, c, rfl, hp, ha, hb, hc⟩ := Td.t3 h1
    exact ⟨p, _, rfl, SqT.of hp, rfl, a, _, rfl, b, _, rfl, c, _, rfl, rfl, k a b c H1 s1 ha hb hc⟩
def partD (p : Bool × Tr × Nat) : PyData := .tuple [.bool p.1, p.2.1.d, .int (p.2.2 : Nat)]
theorem ev_eqN {N : Nat} {σ : L2.St} {H : Hp} {ta tb : TE} {t : Tr} {x : Nm} (h : Ev K ta σ H (.t t.d)) (h2 : Ev K tb σ H (.t (.str x.str))) : Ev K (tOp (rEqG K N) ta tb) σ H (.t (.bool (decide (t = .nm x)))) := ev_eqT (u := .nm x) h h2 (Nat.zero_le _)

def f_put_in (n : Nat) : Gr := fun as d => ∃ (t : Tr) (g : Nm → Option Tr), t.depth < n ∧ as = [.t t.d, Ag.puts g] ∧ d = (Tr.putT g t).d
theorem len_put_in {n : Nat} {as : List Ag} {d : PyData} (h : f_put_in n as d) : as.length = 2 := by obtain ⟨t, g, _, rfl, _⟩ := h; rfl
theorem none_put_in {vs : List V} {H : Hp} {Q : VK} {E : XK} (h : SpT K (f_put_in 0) vs H Q E) : False := by obtain ⟨_, _, ⟨t, g, h, _⟩, _⟩ := h; exact Nat.not_lt_zero _ h
theorem sc_put_in : FnScope ["term", "puts"] ["term", "puts"] (defScope st_put_in) := ⟨rfl, rfl, rfl, by decide +kernel, rfl, by decide +kernel, by decide +kernel⟩
theorem has_put_in_step (T : Txt P w K mg base) {n : Nat} (ih : Has P w K mg base "put_in" ["term", "puts"] (n + 4) (SpT K (f_put_in n))) : Has P w K mg base "put_in" ["term", "puts"] (n + 1 + 4) (SpT K (f_put_in (n + 1))) := by
  refine has_mk (k := n + 4) T.glo_put_in (T.c.def_ 32 (d := d_put_in) rfl) sc_put_in (SpT.len (fun as d h => by exact len_put_in h)) (fun _ _ _ _ _ _ us hl => match us, hl with | [_, _], _ => rfl) (fun cdv A outer s H vs Q E hr h => ?_)
  refine ⟨_, (pss_cons (ps_if (pt_val (pe_callB call_isi (by rfl) T.free_isinstance (by decide +kernel) (pa_cons (pv 0) (pa_cons (pe_bltn (v := .ty "str") (u := .type "str") rfl T.free_str (by decide +kernel) rfl) pa_nil)))) (pss_one (ps_ret (pe_dget2 (hu_of hr) (pv 1) (pv 0) (pv 0) ⟨rfl, rfl, rfl, rfl⟩))) pss_nil)
    (pss_one (ps_ret (pc (has_joint T) (hr.mono (by omega)) (pa_cons (pc ih (hr.mono (by omega)) (pa_cons (pe_ixK (K := K) (pv 0) pe_int (fun _ _ => rfl)) (pa_cons (pv 1) pa_nil))) (pa_cons (pc ih (hr.mono (by omega)) (pa_cons (pe_ixK (K := K) (pv 0) pe_int (fun _ _ => rfl)) (pa_cons (pv 1) pa_nil))) pa_nil)))))), ?_⟩
  obtain ⟨as, d, ⟨t, g, hd, rfl, rfl⟩, hv, k⟩ := h
  obtain ⟨x, y, rfl, hx, hy⟩ := hv.i2
  have e0 : ∀ H', Same H H' → Ev K (tVar 0) [some x, some y] H' (.t t.d) := fun H' s => ev_var rfl (hx.sm s)
  have e1 : ∀ H', Same H H' → Ev K (tVar 1) [some x, some y] H' (Ag.puts g) := fun H' s => ev_var rfl (hy.sm s)
  rcases leaf_or (t := t) with hl | ⟨a, b, rfl⟩
  · refine q_ifT ((eb_B (ev_leaf (e0 H (Same.refl _)))).is hl) fun H1 s1 => ?_
    exact st_ret (ev_get2 (e1 H1 s1) (e0 H1 s1) (e0 H1 s1) hl) fun v H2 s2 h2 => k v H2 (s1.trans s2) h2
  · refine q_ifN ((eb_B (ev_leaf (e0 H (Same.refl _)))).is rfl) fun H1 s1 => ?_
    have hd : max a.depth b.depth + 1 < n + 1 := hd
    exact st_ret (ev_joint (l := Tr.putT g a) (r := Tr.putT g b) (ev_call ⟨a, g, by omega, rfl, rfl⟩ (ea_cons (ev_j0 (e0 H1 s1)) (ea_cons (e1 H1 s1) ea_nil))) (ev_call ⟨b, g, by omega, rfl, rfl⟩ (ea_cons (ev_j1 (e0 H1 s1)) (ea_cons (e1 H1 s1) ea_nil)))) fun v H2 s2 h2 => k v H2 (s1.trans s2) h2
theorem has_put_in0 (T : Txt P w K mg base) : Has P w K mg base "put_in" ["term", "puts"] 4 (SpT K (f_put_in 0)) := by
  refine has_mk T.glo_put_in (T.c.def_ 32 (d := d_put_in) rfl) sc_put_in (SpT.len (fun as d h => by exact len_put_in h)) (fun _ _ _ _ _ _ us hl => match us, hl with | [_, _], _ => rfl) (fun cdv A outer s H vs Q E hr h => ?_)
  exact (none_put_in h).elim
theorem has_put_inN (T : Txt P w K mg base) : ∀ n, Has P w K mg base "put_in" ["term", "puts"] (n + 4) (SpT K (f_put_in n))
  | 0 => by rw [Nat.zero_add]; exact has_put_in0 T
  | n + 1 => has_put_in_step T (has_put_inN T n)
def f_parted (n : Nat) : Gr := fun as d => ∃ (x : Nm) (t : Tr), t.depth < n ∧ as = [.t (.str x.str), .t t.d] ∧ d = partD (Tr.partT x t)
theorem len_parted {n : Nat} {as : List Ag} {d : PyData} (h : f_parted n as d) : as.length = 2 := by obtain ⟨t, g, _, rfl, _⟩ := h; rfl
theorem none_parted {vs : List V} {H : Hp} {Q : VK} {E : XK} (h : SpT K (f_parted 0) vs H Q E) : False := by obtain ⟨_, _, ⟨t, g, h, _⟩, _⟩ := h; exact Nat.not_lt_zero _ h
theorem ev_part {σ : L2.St} {H : Hp} {ta tb tc : TE} {b : Bool} {t : Tr} {n : Nat} (h1 : Ev K ta σ H (.t (.bool b))) (h2 : Ev K tb σ H (.t t.d)) (h3 : Ev K tc σ H (.t (.int (n : Nat)))) :
    Ev K (tTup (tCons ta (tCons tb (tCons tc tNil)))) σ H (.t (partD (b, t, n))) := ev_tup (ds := [.bool b, t.d, .int (n : Nat)]) (ea_cons h1 (ea_cons h2 (ea_cons h3 ea_nil))) (Nat.le_of_ble_eq_true rfl)
theorem partT_leaf {x : Nm} {t : Tr} (h : t.isLeaf = true) : Tr.partT x t = if t = .nm x then (true, Tr.idle, 2) else (false, .j .K t, 1) := by
  cases t <;> first | rfl | cases h
theorem sc_parted : FnScope ["name", "term", "holds", "left", "cost", "there", "right", "more"] ["name", "term"] (defScope st_parted) := ⟨rfl, rfl, rfl, by decide +kernel, rfl, by decide +kernel, by decide +kernel⟩
theorem has_parted_step (T : Txt P w K mg base) {n : Nat} (ih : Has P w K mg base "parted" ["name", "term"] (n + 4) (SpT K (f_parted n))) : Has P w K mg base "parted" ["name", "term"] (n + 1 + 4) (SpT K (f_parted (n + 1))) := by
  refine has_mk (k := n + 4) T.glo_parted (T.c.def_ 33 (d := d_parted) rfl) sc_parted (SpT.len (fun as d h => by exact len_parted h)) (fun _ _ _ _ _ _ us hl => match us, hl with | [_, _], _ => rfl) (fun cdv A outer s H vs Q E hr h => ?_)
  refine ⟨_, (pss_cons (ps_if (pt_val (pe_callB call_isi (by rfl) T.free_isinstance (by decide +kernel) (pa_cons (pv 1) (pa_cons (pe_bltn (v := .ty "str") (u := .type "str") rfl T.free_str (by decide +kernel) rfl) pa_nil)))) (pss_cons (ps_if (pt_cmpR (op_eqSK (K := K) hr) (pv 1) (pv 0) (nomark _)) (pss_one (ps_ret (pe_tup (pa_cons pe_bl (pa_cons (pc (has_joint T) (hr.mono (by omega)) (pa_cons (pc (has_joint T) (hr.mono (by omega)) (pa_cons pe_str (pa_cons pe_str pa_nil))) (pa_cons pe_str pa_nil))) (pa_cons pe_int pa_nil)))))) pss_nil)
    (pss_one (ps_ret (pe_tup (pa_cons pe_bl (pa_cons (pc (has_joint T) (hr.mono (by omega)) (pa_cons pe_str (pa_cons (pv 1) pa_nil))) (pa_cons pe_int pa_nil))))))) pss_nil)
    (pss_cons (ps_asg (pc ih (hr.mono (by omega)) (pa_cons (pv 0) (pa_cons (pe_ixK (K := K) (pv 1) pe_int (fun _ _ => rfl)) pa_nil))) (pg_tup rfl (pgs_cons (pg_name (i := 2) sc_parted.nd rfl (by first | exact Or.inl rfl | exact Or.inr rfl)) (pgs_cons (pg_name (i := 3) sc_parted.nd rfl (by first | exact Or.inl rfl | exact Or.inr rfl)) (pgs_cons (pg_name (i := 4) sc_parted.nd rfl (by first | exact Or.inl rfl | exact Or.inr rfl)) pgs_nil)))))
    (pss_cons (ps_asg (pc ih (hr.mono (by omega)) (pa_cons (pv 0) (pa_cons (pe_ixK (K := K) (pv 1) pe_int (fun _ _ => rfl)) pa_nil))) (pg_tup rfl (pgs_cons (pg_name (i := 5) sc_parted.nd rfl (by first | exact Or.inl rfl | exact Or.inr rfl)) (pgs_cons (pg_name (i := 6) sc_parted.nd rfl (by first | exact Or.inl rfl | exact Or.inr rfl)) (pgs_cons (pg_name (i := 7) sc_parted.nd rfl (by first | exact Or.inl rfl | exact Or.inr rfl)) pgs_nil)))))
    (pss_cons (ps_if (PW.pt (pw_and (pt_val (pc (has_is_value T) (hr.mono (by omega)) (pa_cons (pv 1) pa_nil))) (pw_and (pt_not (pt_val (pv 2))) (pw_and1 (pt_not (pt_val (pv 5))))))) (pss_one (ps_ret (pe_tup (pa_cons pe_bl (pa_cons (pc (has_joint T) (hr.mono (by omega)) (pa_cons pe_str (pa_cons (pv 1) pa_nil))) (pa_cons pe_int pa_nil)))))) pss_nil)
    (pss_cons (ps_if (PW.pt (pw_and (pt_cmpR (op_eqSK (K := K) hr) (pe_ixK (K := K) (pv 1) pe_int (fun _ _ => rfl)) (pv 0) (nomark _)) (pw_and (pt_val (pc (has_is_value T) (hr.mono (by omega)) (pa_cons (pe_ixK (K := K) (pv 1) pe_int (fun _ _ => rfl)) pa_nil))) (pw_and1 (pt_not (pt_val (pv 2))))))) (pss_one (ps_ret (pe_tup (pa_cons pe_bl (pa_cons (pe_ixK (K := K) (pv 1) pe_int (fun _ _ => rfl)) (pa_cons pe_int pa_nil)))))) pss_nil)
    (pss_one (ps_ret (pe_tup (pa_cons (pe_or (pv 2) (pe_one (pv 5))) (pa_cons (pc (has_joint T) (hr.mono (by omega)) (pa_cons (pc (has_joint T) (hr.mono (by omega)) (pa_cons pe_str (pa_cons (pv 3) pa_nil))) (pa_cons (pv 6) pa_nil))) (pa_cons (pe_op op_addG (pe_op op_addG pe_int (pv 4)) (pv 7)) pa_nil))))))))))), ?_⟩
  obtain ⟨as, d, ⟨x, t, hd, rfl, rfl⟩, hv, k⟩ := h
  obtain ⟨nv, tv, rfl, hn, ht⟩ := hv.i2
  rcases leaf_or (t := t) with hl | ⟨a, b, rfl⟩
  · have e1 : ∀ H', Same H H' → Ev K (tVar 1) (start ["name", "term", "holds", "left", "cost", "there", "right", "more"] [nv, tv]) H' (.t t.d) := fun H' s => ev_var rfl (ht.sm s)
    have e0 : ∀ H', Same H H' → Ev K (tVar 0) (start ["name", "term", "holds", "left", "cost", "there", "right", "more"] [nv, tv]) H' (.t (.str x.str)) := fun H' s => ev_var rfl (hn.sm s)
    rw [partT_leaf hl] at k
    refine q_ifT ((eb_B (ev_leaf (e1 H (Same.refl _)))).is hl) fun H1 s1 => ?_
    by_cases hx : t = .nm x
    · rw [if_pos hx] at k
      refine q_ifT ((eb_test (ev_eqN (e1 H1 s1) (e0 H1 s1))).is (decide_eq_true hx)) fun H2 s2 => ?_
      exact st_ret (ev_part (n := 2) ev_bl (ev_joint (l := .j .S .K) (r := .K) (ev_joint (K := K) ev_S ev_K) ev_K) ev_int) fun v H3 s3 h3 => k v H3 ((s1.trans s2).trans s3) h3
    · rw [if_neg hx] at k
      refine q_ifN ((eb_test (ev_eqN (e1 H1 s1) (e0 H1 s1))).is (decide_eq_false hx)) fun H2 s2 => ?_
      exact st_ret (ev_part (n := 1) ev_bl (ev_joint (l := .K) (r := t) (K := K) ev_K (e1 H2 (s1.trans s2))) ev_int) fun v H3 s3 h3 => k v H3 ((s1.trans s2).trans s3) h3
  · have hd : max a.depth b.depth + 1 < n + 1 := hd
    refine q_ifN ((eb_B (ev_leaf (ev_var (K := K) rfl ht))).is rfl) fun H1 s1 => ?_
    refine q_un3 (d1 := .bool (Tr.partT x a).1) (d2 := (Tr.partT x a).2.1.d) (d3 := .int ((Tr.partT x a).2.2 : Nat)) (ev_call ⟨x, a, by omega, rfl, rfl⟩ (ea_cons (ev_var (K := K) rfl (hn.sm s1)) (ea_cons (ev_j0 (ev_var rfl (ht.sm s1))) ea_nil))) fun v2 v3 v4 H2 s2 h2 h3 h4 => ?_
    have s12 := s1.trans s2
    refine q_un3 (d1 := .bool (Tr.partT x b).1) (d2 := (Tr.partT x b).2.1.d) (d3 := .int ((Tr.partT x b).2.2 : Nat)) (ev_call ⟨x, b, by omega, rfl, rfl⟩ (ea_cons (ev_var (K := K) rfl (hn.sm s12)) (ea_cons (ev_j1 (ev_var rfl (ht.sm s12))) ea_nil))) fun v5 v6 v7 H3 s3 h5 h6 h7 => ?_
    have s13 := s12.trans s3
    have e0 : ∀ H', Same H3 H' → Ev K (tVar 0) [some nv, some tv, some v2, some v3, some v4, some v5, some v6, some v7] H' (.t (.str x.str)) := fun H' s => ev_var rfl (hn.sm (s13.trans s))
    have e1 : ∀ H', Same H3 H' → Ev K (tVar 1) [some nv, some tv, some v2, some v3, some v4, some v5, some v6, some v7] H' (.t (Tr.j a b).d) := fun H' s => ev_var rfl (ht.sm (s13.trans s))
    have e2 : ∀ H', Same H3 H' → Ev K (tVar 2) [some nv, some tv, some v2, some v3, some v4, some v5, some v6, some v7] H' (.t (.bool (Tr.partT x a).1)) := fun H' s => ev_var rfl (h2.sm (s3.trans s))
    have e3 : ∀ H', Same H3 H' → Ev K (tVar 3) [some nv, some tv, some v2, some v3, some v4, some v5, some v6, some v7] H' (.t (Tr.partT x a).2.1.d) := fun H' s => ev_var rfl (h3.sm (s3.trans s))
    have e4 : ∀ H', Same H3 H' → Ev K (tVar 4) [some nv, some tv, some v2, some v3, some v4, some v5, some v6, some v7] H' (.t (.int ((Tr.partT x a).2.2 : Nat))) := fun H' s => ev_var rfl (h4.sm (s3.trans s))
    have e5 : ∀ H', Same H3 H' → Ev K (tVar 5) [some nv, some tv, some v2, some v3, some v4, some v5, some v6, some v7] H' (.t (.bool (Tr.partT x b).1)) := fun H' s => ev_var rfl (h5.sm s)
    have e6 : ∀ H', Same H3 H' → Ev K (tVar 6) [some nv, some tv, some v2, some v3, some v4, some v5, some v6, some v7] H' (.t (Tr.partT x b).2.1.d) := fun H' s => ev_var rfl (h6.sm s)
    have e7 : ∀ H', Same H3 H' → Ev K (tVar 7) [some nv, some tv, some v2, some v3, some v4, some v5, some v6, some v7] H' (.t (.int ((Tr.partT x b).2.2 : Nat))) := fun H' s => ev_var rfl (h7.sm s)
    have c1 : ∀ H', Same H3 H' → Eb _ [some nv, some tv, some v2, some v3, some v4, some v5, some v6, some v7] H' ((Tr.j a b).isVal && (!(Tr.partT x a).1 && !(Tr.partT x b).1)) := fun H' s =>
      eb_and (eb_B (ev_call (F := f_is_value) (E := E0) ⟨.j a b, rfl, rfl⟩ (ea_cons (e1 H' s) ea_nil))) fun _ => eb_and (eb_not (eb_B (e2 H' s))) fun _ => eb_not (eb_B (e5 H' s))
    have c2 : ∀ H', Same H3 H' → Eb _ [some nv, some tv, some v2, some v3, some v4, some v5, some v6, some v7] H' (decide (b = .nm x) && (a.isVal && !(Tr.partT x a).1)) := fun H' s =>
      eb_and (eb_test (ev_eqN (N := 200) (ev_j1 (e1 H' s)) (e0 H' s))) fun _ => eb_and (eb_B (ev_call (F := f_is_value) (E := E0) ⟨a, rfl, rfl⟩ (ea_cons (ev_j0 (e1 H' s)) ea_nil))) fun _ => eb_not (eb_B (e2 H' s))
    have ep : Tr.partT x (.j a b) = if ((Tr.j a b).isVal && !(Tr.partT x a).1 && !(Tr.partT x b).1) = true then (false, .j .K (.j a b), 1) else if (decide (b = .nm x) && a.isVal && !(Tr.partT x a).1) = true then (true, a, 0) else
      ((Tr.partT x a).1 || (Tr.partT x b).1, .j (.j .S (Tr.partT x a).2.1) (Tr.partT x b).2.1, 1 + (Tr.partT x a).2.2 + (Tr.partT x b).2.2) := rfl
    rw [ep, Bool.and_assoc, Bool.and_assoc] at k
    cases hc1 : ((Tr.j a b).isVal && (!(Tr.partT x a).1 && !(Tr.partT x b).1)) with
    | true =>
      rw [hc1, if_pos rfl] at k
      refine q_ifT ((c1 H3 (Same.refl _)).is hc1) fun H4 s4 => ?_
      exact st_ret (ev_part (n := 1) ev_bl (ev_joint (l := .K) (r := .j a b) (K := K) ev_K (e1 H4 s4)) ev_int) fun v H5 s5 h5 => k v H5 (s13.trans (s4.trans s5)) h5
    | false =>
      rw [hc1, if_neg (by decide)] at k
      refine q_ifN ((c1 H3 (Same.refl _)).is hc1) fun H4 s4 => ?_
      cases hc2 : (decide (b = .nm x) && (a.isVal && !(Tr.partT x a).1)) with
      | true =>
        rw [hc2, if_pos rfl] at k
        refine q_ifT ((c2 H4 s4).is hc2) fun H5 s5 => ?_
        exact st_ret (ev_part (n := 0) ev_bl (ev_j0 (e1 H5 (s4.trans s5))) ev_int) fun v H6 s6 h6 => k v H6 (s13.trans (s4.trans (s5.trans s6))) h6
      | false =>
        rw [hc2, if_neg (by decide)] at k
        refine q_ifN ((c2 H4 s4).is hc2) fun H5 s5 => ?_
        have s35 := s4.trans s5
        refine st_ret (ev_part (n := 1 + (Tr.partT x a).2.2 + (Tr.partT x b).2.2) (ev_orV (e2 H5 s35) fun _ => e5 H5 s35) (ev_joint (l := .j .S (Tr.partT x a).2.1) (r := (Tr.partT x b).2.1) (ev_joint (K := K) ev_S (e3 H5 s35)) (e6 H5 s35))
          ((ev_addI (ev_addI ev_int (e4 H5 s35)) (e7 H5 s35)).is (congrArg (fun z => Ag.t (.int z)) (by omega)))) fun v H6 s6 h6 => k v H6 (s13.trans (s35.trans s6)) h6
theorem has_parted0 (T : Txt P w K mg base) : Has P w K mg base "parted" ["name", "term"] 4 (SpT K (f_parted 0)) := by
  refine has_mk T.glo_parted (T.c.def_ 33 (d := d_parted) rfl) sc_parted (SpT.len (fun as d h => by exact len_parted h)) (fun _ _ _ _ _ _ us hl => match us, hl with | [_, _], _ => rfl) (fun cdv A outer s H vs Q E hr h => ?_)
  exact (none_parted h).elim
theorem has_partedN (T : Txt P w K mg base) : ∀ n, Has P w K mg base "parted" ["name", "term"] (n + 4) (SpT K (f_parted n))
  | 0 => by rw [Nat.zero_add]; exact has_parted0 T
  | n + 1 => has_parted_step T (has_partedN T n)
end
end My

/-! W7: made of names, walked; the terms of a book. -/
namespace My
open PySem PySem.Spec PyProof.Rows L2
section
variable {P : Program} {w : World} {K : PySem.W.Frag} {mg : Str → Option Value} {base : Heap}
theorem has_parted (T : Txt P w K mg base) : Has P w K mg base "parted" ["name", "term"] 68 (SpT K (f_parted 64)) := has_partedN T 64
theorem has_put_in (T : Txt P w K mg base) : Has P w K mg base "put_in" ["term", "puts"] 68 (SpT K (f_put_in 64)) := has_put_inN T 64
theorem nms_get {ns : List Nm} {i : Nat} {d : PyData} (h : (nms ns)[i]? = some d) : ∃ t, ns[i]? = some t ∧ d = .str t.str := by
  unfold nms at h
  rw [List.getElem?_map] at h
  cases e : ns[i]? with
  | none => rw [e] at h; cases h
  | some t => rw [e] at h; exact ⟨t, rfl, (Option.some.inj h).symm⟩
theorem nms_len (ns : List Nm) : (nms ns).length = ns.length := List.length_map _
theorem nms_rev (ns : List Nm) : (nms ns).reverse = nms ns.reverse := by unfold nms; rw [List.map_reverse]
theorem rev_get {α : Type} {l : List α} {n : Nat} {x : α} (h : l.reverse[n]? = some x) : n < l.length ∧ l.drop (l.length - (n + 1)) = x :: l.drop (l.length - n) := by
  have hn : n < l.length := by
    have := (List.getElem?_eq_some_iff.mp h).1
    rw [List.length_reverse] at this
    exact this
  refine ⟨hn, ?_⟩
  rw [List.getElem?_reverse hn] at h
  have h2 := (List.getElem?_eq_some_iff.mp h)
  obtain ⟨h3, h4⟩ := h2
  have e : l.length - (n + 1) = l.length - 1 - n := by omega
  rw [e, List.drop_eq_getElem_cons h3, h4]
  congr 2
  omega

def f_taken_out : Gr := fun as d => ∃ (x : Nm) (t : Tr), t.depth < 64 ∧ as = [.t (.str x.str), .t t.d] ∧ d = (Tr.takT x t).d
theorem len_taken_out {as : List Ag} {d : PyData} (h : f_taken_out as d) : as.length = 2 := by obtain ⟨t, g, _, rfl, _⟩ := h; rfl
theorem sc_taken_out : FnScope ["name", "term"] ["name", "term"] (defScope st_taken_out) := ⟨rfl, rfl, rfl, by decide +kernel, rfl, by decide +kernel, by decide +kernel⟩
theorem has_taken_out (T : Txt P w K mg base) : Has P w K mg base "taken_out" ["name", "term"] 69 (SpT K f_taken_out) := by
  refine has_mk T.glo_taken_out (T.c.def_ 34 (d := d_taken_out) rfl) sc_taken_out (SpT.len (fun as d h => by exact len_taken_out h)) (fun _ _ _ _ _ _ us hl => match us, hl with | [_, _], _ => rfl) (fun cdv A outer s H vs Q E hr h => ?_)
  refine ⟨_, (pss_one (ps_ret (pe_ixK (K := K) (pc (has_parted T) (hr.mono (by decide)) (pa_cons (pv 0) (pa_cons (pv 1) pa_nil))) pe_int (fun _ _ => rfl)))), ?_⟩
  obtain ⟨as, d, ⟨x, t, hd, rfl, rfl⟩, hv, k⟩ := h
  obtain ⟨nv, tv, rfl, hn, ht⟩ := hv.i2
  exact st_ret (ev_ixT (ds := [.bool (Tr.partT x t).1, (Tr.partT x t).2.1.d, .int ((Tr.partT x t).2.2 : Nat)]) (ev_call ⟨x, t, hd, rfl, rfl⟩ (ea_cons (ev_var (K := K) rfl hn) (ea_cons (ev_var rfl ht) ea_nil))) ev_int rfl) k
def f_made_of : Gr := fun as d => ∃ (ns : List Nm) (t : Tr), Tr.okD 64 ns t = true ∧ as = [.l (nms ns), .t t.d] ∧ d = (Tr.madeT ns t).d
theorem len_made_of {as : List Ag} {d : PyData} (h : f_made_of as d) : as.length = 2 := by obtain ⟨t, g, _, rfl, _⟩ := h; rfl
theorem sc_made_of : FnScope ["names", "term", "name"] ["names", "term"] (defScope st_made_of) := ⟨rfl, rfl, rfl, by decide +kernel, rfl, by decide +kernel, by decide +kernel⟩
theorem has_made_of (T : Txt P w K mg base) : Has P w K mg base "made_of" ["names", "term"] 70 (SpT K f_made_of) := by
  refine has_mk T.glo_made_of (T.c.def_ 35 (d := d_made_of) rfl) sc_made_of (SpT.len (fun as d h => by exact len_made_of h)) (fun _ _ _ _ _ _ us hl => match us, hl with | [_, _], _ => rfl) (fun cdv A outer s H vs Q E hr h => ?_)
  refine ⟨_, (pss_cons (ps_for PassesOwn.never rfl (pi_reversed (by rfl) T.free_reversed (pa_cons (pv 0) pa_nil)) (pg_name (i := 2) sc_made_of.nd rfl (by first | exact Or.inl rfl | exact Or.inr rfl))
    (pss_one (ps_set (i := 1) sc_made_of.nd rfl (by first | exact Or.inl rfl | exact Or.inr rfl) (pc (has_taken_out T) (hr.mono (by decide)) (pa_cons (pv 2) (pa_cons (pv 1) pa_nil))))))
    (pss_one (ps_ret (pv 1)))), ?_⟩
  obtain ⟨as, d, ⟨ns, t, hd, rfl, rfl⟩, hv, k⟩ := h
  obtain ⟨lv, tv, rfl, ⟨a, xs, rfl, hs, hx⟩, ht⟩ := hv.i2
  refine q_for (Hb := H) (wk_rev (K := K) (ea_cons (ev_ref rfl) ea_nil) hs hx (Same.refl H)) (fun n σ H' => ∃ v u, σ = [some (.ref a), some v, u] ∧ Same H H' ∧ Td H' v (Tr.madeT (ns.drop (ns.length - n)) t).d)
    (fun H2 s2 => ⟨tv, none, rfl, s2, by rw [Nat.sub_zero, List.drop_length]; exact ht.sm s2⟩) (fun _ _ _ ⟨_, _, _, s, _⟩ => s) ?_ ?_
  · rintro n d y σ H2 H3 hdd hy ⟨v, u, rfl, s2, h2⟩ s3
    rw [nms_rev] at hdd
    obtain ⟨x, e1, rfl⟩ := nms_get hdd
    obtain ⟨hn, e2⟩ := rev_get e1
    have hdp := okD_drop (ns.length - n) hd
    refine st_set (ev_call (F := f_taken_out) ⟨x, Tr.madeT (ns.drop (ns.length - n)) t, hdp, rfl, rfl⟩ (ea_cons (ev_var (K := K) rfl (show At K H3 y (.t (.str x.str)) from hy)) (ea_cons (ev_var rfl (show At K H3 v (.t (Tr.madeT (ns.drop (ns.length - n)) t).d) from h2.sm s3)) ea_nil))) fun v' H4 s4 h4 => ?_
    refine ⟨v', _, rfl, s2.trans (s3.trans s4), ?_⟩
    rw [e2]
    exact h4
  · rintro σ H2 ⟨v, u, rfl, s2, h2⟩
    rw [List.length_reverse, nms_len, Nat.sub_self] at h2
    exact st_ret (ev_var (K := K) rfl (show At K H2 v (.t (Tr.madeT ns t).d) from h2)) fun v H3 s3 h3 => k v H3 (s2.trans s3) h3
def f_made_costs : GrL := fun as ds => ∃ (ns : List Nm) (t : Tr), Tr.okD 64 ns t = true ∧ ns.length ≤ 1000 ∧ as = [.l (nms ns), .t t.d] ∧ ds = (Tr.costsT ns t).map fun n => PyData.int (n : Nat)
theorem len_made_costs {as : List Ag} {ds : List PyData} (h : f_made_costs as ds) : as.length = 2 := by obtain ⟨t, g, _, _, rfl, _⟩ := h; rfl
theorem costsT_len : ∀ (ns : List Nm) (t : Tr), (Tr.costsT ns t).length = ns.length
  | [], _ => rfl
  | _ :: ns, t => congrArg Nat.succ (costsT_len ns t)
theorem sc_made_costs : FnScope ["names", "term", "costs", "name", "holds", "cost"] ["names", "term"] (defScope st_made_costs) := ⟨rfl, rfl, rfl, by decide +kernel, rfl, by decide +kernel, by decide +kernel⟩
theorem has_made_costs (T : Txt P w K mg base) : Has P w K mg base "made_costs" ["names", "term"] 69 (SpL K f_made_costs) := by
  refine has_mk T.glo_made_costs (T.c.def_ 36 (d := d_made_costs) rfl) sc_made_costs (SpL.len (fun as d h => by exact len_made_costs h)) (fun _ _ _ _ _ _ us hl => match us, hl with | [_, _], _ => rfl) (fun cdv A outer s H vs Q E hr h => ?_)
  refine ⟨_, (pss_cons (ps_set (i := 2) sc_made_costs.nd rfl (by first | exact Or.inl rfl | exact Or.inr rfl) (pe_lst pa_nil))
    (pss_cons (ps_for PassesOwn.never rfl (pi_reversed (by rfl) T.free_reversed (pa_cons (pv 0) pa_nil)) (pg_name (i := 3) sc_made_costs.nd rfl (by first | exact Or.inl rfl | exact Or.inr rfl))
    (pss_cons (ps_asg (pc (has_parted T) (hr.mono (by decide)) (pa_cons (pv 3) (pa_cons (pv 1) pa_nil))) (pg_tup rfl (pgs_cons (pg_name (i := 4) sc_made_costs.nd rfl (by first | exact Or.inl rfl | exact Or.inr rfl)) (pgs_cons (pg_name (i := 1) sc_made_costs.nd rfl (by first | exact Or.inl rfl | exact Or.inr rfl)) (pgs_cons (pg_name (i := 5) sc_made_costs.nd rfl (by first | exact Or.inl rfl | exact Or.inr rfl)) pgs_nil)))))
    (pss_one (ps_expr (pe_bm PySem.F.plainAttrs_list PySem.F.slot_list_append PySem.F.type_list_append mt_append (pv 2) (pa_cons (pv 5) pa_nil))))))
    (pss_one (ps_ret (pe_listRev T.free_list T.free_reversed (pv 2)))))), ?_⟩
  obtain ⟨as, ds, ⟨ns, t, hd, hl, rfl, rfl⟩, hv, k⟩ := h
  obtain ⟨lv, tv, rfl, ⟨a, xs, rfl, hs, hx⟩, ht⟩ := hv.i2
  refine q_setF (ef_lst (K := K) (ds := []) ea_nil (Nat.zero_le _)) fun p zs H1 hp s1 h1 t1 => ?_
  refine q_for (Hb := H) (wk_rev (K := K) (ea_cons (ev_ref rfl) ea_nil) hs hx s1) (fun n σ H' => ∃ v u1 u2 u3 ys, σ = [some (.ref a), some v, some (.ref p), u1, u2, u3] ∧ Same H H' ∧ Td H' v (Tr.madeT (ns.drop (ns.length - n)) t).d ∧ H' p = some (.lst ys) ∧
      TdAll H' ys ((Tr.costsT (ns.drop (ns.length - n)) t).map fun n => PyData.int (n : Nat)).reverse ∧ n ≤ ns.length)
    (fun H2 s2 => ⟨tv, none, none, none, zs, rfl, s1.trans s2, by rw [Nat.sub_zero, List.drop_length]; exact ht.sm (s1.trans s2), s2 _ _ h1, by rw [Nat.sub_zero, List.drop_length]; exact t1.sm s2, Nat.zero_le _⟩) (fun _ _ _ ⟨_, _, _, _, _, _, s, _⟩ => s) ?_ ?_
  · rintro n d y σ H2 H3 hdd hy ⟨v, u1, u2, u3, ys, rfl, s2, h2, hy2, t2, _⟩ s3
    rw [nms_rev] at hdd
    obtain ⟨x, e1, rfl⟩ := nms_get hdd
    obtain ⟨hn, e2⟩ := rev_get e1
    have hdp := okD_drop (ns.length - n) hd
    refine q_un3 (d1 := .bool (Tr.partT x (Tr.madeT (ns.drop (ns.length - n)) t)).1) (d2 := (Tr.takT x (Tr.madeT (ns.drop (ns.length - n)) t)).d) (d3 := .int ((Tr.partT x (Tr.madeT (ns.drop (ns.length - n)) t)).2.2 : Nat))
      (ev_call ⟨x, Tr.madeT (ns.drop (ns.length - n)) t, hdp, rfl, rfl⟩ (ea_cons (ev_var (K := K) rfl (show At K H3 y (.t (.str x.str)) from hy)) (ea_cons (ev_var rfl (show At K H3 v (.t (Tr.madeT (ns.drop (ns.length - n)) t).d) from h2.sm s3)) ea_nil))) fun v4 v1 v5 H4 s4 h4 h1' h5 => ?_
    have s34 := s3.trans s4
    refine st_append (K := K) rfl (s34 _ _ hy2) (t2.sm s34) (ev_var rfl (show At K H4 v5 (.t (.int ((Tr.partT x (Tr.madeT (ns.drop (ns.length - n)) t)).2.2 : Nat))) from h5)) (by rw [List.length_reverse, List.length_map, costsT_len, List.length_drop]; omega) fun zs5 H5 m5 h5' t5 => ?_
    have hp0 : H p = none := hp
    refine ⟨v1, _, _, _, zs5, rfl, m5.of (s2.trans s34) hp0, ?_, h5', ?_, by omega⟩
    · rw [e2]
      exact h1'.tx m5.tx
    · rw [e2]
      show TdAll H5 zs5 (List.map _ (_ :: Tr.costsT (ns.drop (ns.length - n)) t)).reverse
      rw [List.map_cons, List.reverse_cons]
      exact t5
  · rintro σ H2 ⟨v, u1, u2, u3, ys, rfl, s2, h2, hy2, t2, _⟩
    rw [List.length_reverse, nms_len, Nat.sub_self] at t2
    refine ⟨_, rfl, p, ys, rfl, SqL.of hy2, fun q hq => ?_⟩
    refine k q _ _ (s2.free hq) (s2.trans (Same.new hq)) upd_same ?_
    have hr := t2.rev.tx (Tx.new (o := .lst ys.reverse) hq)
    rw [List.reverse_reverse] at hr
    exact hr
def f_handed : Gr := fun as d => ∃ (t : Tr) (ts : List Tr), as = [.t t.d, .l (trs ts)] ∧ d = (Tr.handT t ts).d
theorem len_handed {as : List Ag} {d : PyData} (h : f_handed as d) : as.length = 2 := by obtain ⟨t, g, rfl, _⟩ := h; rfl
theorem sc_handed : FnScope ["tree", "things", "thing"] ["tree", "things"] (defScope st_handed) := ⟨rfl, rfl, rfl, by decide +kernel, rfl, by decide +kernel, by decide +kernel⟩
theorem has_handed (T : Txt P w K mg base) : Has P w K mg base "handed" ["tree", "things"] 4 (SpT K f_handed) := by
  refine has_mk T.glo_handed (T.c.def_ 37 (d := d_handed) rfl) sc_handed (SpT.len (fun as d h => by exact len_handed h)) (fun _ _ _ _ _ _ us hl => match us, hl with | [_, _], _ => rfl) (fun cdv A outer s H vs Q E hr h => ?_)
  refine ⟨_, (pss_cons (ps_for PassesOwn.never rfl (pi_list (pv 1)) (pg_name (i := 2) sc_handed.nd rfl (by first | exact Or.inl rfl | exact Or.inr rfl))
    (pss_one (ps_set (i := 0) sc_handed.nd rfl (by first | exact Or.inl rfl | exact Or.inr rfl) (pc (has_joint T) (hr.mono (by decide)) (pa_cons (pv 0) (pa_cons (pv 2) pa_nil))))))
    (pss_one (ps_ret (pv 0)))), ?_⟩
  obtain ⟨as, d, ⟨t, ts, rfl, rfl⟩, hv, k⟩ := h
  obtain ⟨tv, lv, rfl, ht, ⟨a, xs, rfl, hs, hx⟩⟩ := hv.i2
  refine q_for (Hb := H) (wk_list (K := K) (ev_ref rfl) hs hx (Same.refl H)) (fun n σ H' => ∃ v u, σ = [some v, some (.ref a), u] ∧ Same H H' ∧ Td H' v (Tr.handT t (ts.take n)).d) (fun H2 s2 => ⟨tv, none, rfl, s2, ht.sm s2⟩) (fun _ _ _ ⟨_, _, _, s, _⟩ => s) ?_ ?_
  · rintro n d y σ H2 H3 hd hy ⟨v, u, rfl, s2, h2⟩ s3
    obtain ⟨x, e1, rfl⟩ := trs_get hd
    have e2 : Tr.handT t (ts.take (n + 1)) = .j (Tr.handT t (ts.take n)) x := by
      unfold Tr.handT
      rw [take_more e1, List.foldl_append]
      rfl
    rw [e2]
    refine st_set (ev_joint (l := Tr.handT t (ts.take n)) (r := x) (ev_var (K := K) rfl (show At K H3 v (.t (Tr.handT t (ts.take n)).d) from h2.sm s3)) (ev_var rfl (show At K H3 y (.t x.d) from hy))) fun v' H4 s4 h4 => ?_
    exact ⟨v', _, rfl, s2.trans (s3.trans s4), h4⟩
  · rintro σ H2 ⟨v, u, rfl, s2, h2⟩
    rw [trs_len, List.take_length] at h2
    exact st_ret (ev_var (K := K) rfl (show At K H2 v (.t (Tr.handT t ts).d) from h2)) fun v H3 s3 h3 => k v H3 (s2.trans s3) h3
def f_list_grown : Gr := fun as d => ∃ a b : Tr, as = [.t a.d, .t b.d] ∧ d = (Tr.j .K (Tr.foldT [a, b])).d
theorem len_list_grown {as : List Ag} {d : PyData} (h : f_list_grown as d) : as.length = 2 := by obtain ⟨t, g, rfl, _⟩ := h; rfl
theorem sc_list_grown : FnScope ["sign", "rest"] ["sign", "rest"] (defScope st_list_grown) := ⟨rfl, rfl, rfl, by decide +kernel, rfl, by decide +kernel, by decide +kernel⟩
theorem has_list_grown (T : Txt P w K mg base) : Has P w K mg base "list_grown" ["sign", "rest"] 6 (SpT K f_list_grown) := by
  refine has_mk T.glo_list_grown (T.c.def_ 38 (d := d_list_grown) rfl) sc_list_grown (SpT.len (fun as d h => by exact len_list_grown h)) (fun _ _ _ _ _ _ us hl => match us, hl with | [_, _], _ => rfl) (fun cdv A outer s H vs Q E hr h => ?_)
  refine ⟨_, (pss_one (ps_ret (pc (has_joint T) (hr.mono (by decide)) (pa_cons pe_str (pa_cons (pc (has_folded T) (hr.mono (by decide)) (pa_cons (pe_lst (pa_cons (pv 0) (pa_cons (pv 1) pa_nil))) pa_nil)) pa_nil))))), ?_⟩
  obtain ⟨as, d, ⟨a, b, rfl, rfl⟩, hv, k⟩ := h
  obtain ⟨x, y, rfl, hx, hy⟩ := hv.i2
  exact st_ret (ev_joint (l := .K) (r := Tr.foldT [a, b]) (K := K) ev_K (ev_folded (ts := [a, b]) (ev_trs [a, b] (ea_cons (ev_var rfl hx) (ea_cons (ev_var rfl hy) ea_nil)) (Nat.le_of_ble_eq_true rfl)))) k
def nextT (l s r : Tr) : Tr := .j (.j (.j (.nm .f) (.nm .f)) (.nm .q)) (Tr.packT l s r)
def f_next_term : Gr := fun as d => ∃ a b c : Tr, as = [.t a.d, .t b.d, .t c.d] ∧ d = (nextT a b c).d
theorem len_next_term {as : List Ag} {d : PyData} (h : f_next_term as d) : as.length = 3 := by obtain ⟨_, _, _, rfl, _⟩ := h; rfl
/-- a name's text -/
theorem ev_nm {σ : L2.St} {H : Hp} (x : Nm) : Ev K (tC (.str x.str)) σ H (.t (Tr.nm x).d) := ev_str
theorem ev_handed {σ : L2.St} {H : Hp} {ta tb : TE} {E : XK} {t : Tr} {ts : List Tr} (h1 : Ev K ta σ H (.t t.d)) (h2 : Ev K tb σ H (.l (trs ts))) : Ev K (tCall (SpT K f_handed) [] E (tCons ta (tCons tb tNil))) σ H (.t (Tr.handT t ts).d) := ev_call ⟨t, ts, rfl, rfl⟩ (ea_cons h1 (ea_cons h2 ea_nil))
theorem ev_pack {σ : L2.St} {H : Hp} {ta tb tc : TE} {E : XK} {a b c : Tr} (h1 : Ev K ta σ H (.t a.d)) (h2 : Ev K tb σ H (.t b.d)) (h3 : Ev K tc σ H (.t c.d)) : Ev K (tCall (SpT K f_pack) [] E (tCons ta (tCons tb (tCons tc tNil)))) σ H (.t (Tr.packT a b c).d) := ev_call ⟨a, b, c, rfl, rfl⟩ (ea_cons h1 (ea_cons h2 (ea_cons h3 ea_nil)))
theorem sc_next_term : FnScope ["left", "sign", "right"] ["left", "sign", "right"] (defScope st_next_term) := ⟨rfl, rfl, rfl, by decide +kernel, rfl, by decide +kernel, by decide +kernel⟩
theorem has_next_term (T : Txt P w K mg base) : Has P w K mg base "next_term" ["left", "sign", "right"] 7 (SpT K f_next_term) := by
  refine has_mk T.glo_next_term (T.c.def_ 39 (d := d_next_term) rfl) sc_next_term (SpT.len (fun as d h => by exact len_next_term h)) (fun _ _ _ _ _ _ us hl => match us, hl with | [_, _, _], _ => rfl) (fun cdv A outer s H vs Q E hr h => ?_)
  refine ⟨_, (pss_one (ps_ret (pc (has_joint T) (hr.mono (by decide)) (pa_cons (pc (has_handed T) (hr.mono (by decide)) (pa_cons pe_str (pa_cons (pe_lst (pa_cons pe_str (pa_cons pe_str pa_nil))) pa_nil))) (pa_cons (pc (has_pack T) (hr.mono (by decide)) (pa_cons (pv 0) (pa_cons (pv 1) (pa_cons (pv 2) pa_nil)))) pa_nil))))), ?_⟩
  obtain ⟨as, d, ⟨a, b, c, rfl, rfl⟩, hv, k⟩ := h
  obtain ⟨x, y, z, rfl, hx, hy, hz⟩ := hv.i3
  exact st_ret (ev_joint (l := Tr.handT (.nm .f) [.nm .f, .nm .q]) (r := Tr.packT a b c) (ev_handed (K := K) (t := .nm .f) (ts := [.nm .f, .nm .q]) (ev_nm .f) (ev_trs [.nm .f, .nm .q] (ea_cons (ev_nm .f) (ea_cons (ev_nm .q) ea_nil)) (Nat.le_of_ble_eq_true rfl)))
    (ev_pack (ev_var rfl hx) (ev_var rfl hy) (ev_var rfl hz))) k
/-- a pair of names and a term -/
def PairAt (ns : List Nm) (t : Tr) (v : V) (H : Hp) : Prop := ∃ a p x xs, v = .ref a ∧ H a = some (.tup [.ref p, x]) ∧ H p = some (.lst xs) ∧ TdAll H xs (nms ns) ∧ Td H x t.d
theorem PairAt.mono (ns : List Nm) (t : Tr) : Mono (PairAt ns t) := fun v H H' s ⟨a, p, x, xs, e, h1, h2, h3, h4⟩ => ⟨a, p, x, xs, e, s _ _ h1, s _ _ h2, h3.sm s, h4.sm s⟩
def Ag.pair (p : List Nm × Tr) : Ag := .o (PairAt p.1 p.2) (PairAt.mono p.1 p.2)
theorem ev_pair {σ : L2.St} {H : Hp} {ta tb : TE} {ns : List Nm} {t : Tr} (h1 : Ef ta σ H (nms ns)) (h2 : Ev K tb σ H (.t t.d)) : Ev K (tTup (tCons ta (tCons tb tNil))) σ H (Ag.pair (ns, t)) := fun H1 s Q q =>
  h1 H1 s _ fun p xs H2 hp s2 hl hx => h2 H2 (s.trans s2) _ fun v H3 s3 hv => ⟨by show 2 ≤ sizeLine; decide, fun a ha => q _ _ ((s2.trans s3).trans (Same.new ha))
    ⟨a, p, v, xs, rfl, upd_same, (Same.new ha) _ _ (s3 _ _ hl), (hx.sm s3).tx (Tx.new ha), Td.tx (Tx.new ha) hv⟩⟩
theorem ev_pair0 {σ : L2.St} {H : Hp} {ta : TE} {p : List Nm × Tr} (h : Ev K ta σ H (Ag.pair p)) : Ev K (tOp (rIx K) ta (tC (.int 0))) σ H (.l (nms p.1)) := fun H1 s Q q =>
  h H1 s _ fun v H2 s2 ⟨a, p, x, xs, e, h1, h2, h3, h4⟩ => .inr (.inl ⟨a, [.ref p, x], 0, .ref p, e, rfl, SqT.of h1, rfl, q _ H2 s2 ⟨p, xs, rfl, SqL.of h2, h3⟩⟩)
theorem ev_pair1 {σ : L2.St} {H : Hp} {ta : TE} {p : List Nm × Tr} (h : Ev K ta σ H (Ag.pair p)) : Ev K (tOp (rIx K) ta (tC (.int 1))) σ H (.t p.2.d) := fun H1 s Q q =>
  h H1 s _ fun v H2 s2 ⟨a, p, x, xs, e, h1, h2, h3, h4⟩ => .inr (.inl ⟨a, [.ref p, x], 1, x, e, rfl, SqT.of h1, rfl, q _ H2 s2 h4⟩)
def endP : List Nm × Tr := ([.f, .l, .r], Tr.endT (.nm .q) (.nm .l) (.nm .y) (.nm .r))
def f_end_names : List Ag → Ag → Prop := fun as r => as = [] ∧ r = Ag.pair endP
theorem len_end_names {as : List Ag} {r : Ag} (h : f_end_names as r) : as.length = 0 := by obtain ⟨rfl, _⟩ := h; rfl
theorem ef_nms {σ : L2.St} {H : Hp} {ta : TA} (ns : List Nm) (h : Ea K ta σ H ((nms ns).map Ag.t)) (hl : ns.length ≤ 1000) : Ef (tLst ta) σ H (nms ns) := ef_lst h (by rw [nms_len]; exact hl)
theorem sc_end_names : FnScope [] [] (defScope st_end_names) := ⟨rfl, rfl, rfl, by decide +kernel, rfl, by decide +kernel, by decide +kernel⟩
theorem has_end_names (T : Txt P w K mg base) : Has P w K mg base "end_names" [] 7 (SpG K f_end_names) := by
  refine has_mk T.glo_end_names (T.c.def_ 40 (d := d_end_names) rfl) sc_end_names (SpG.len (fun as d h => by exact len_end_names h)) (fun _ _ _ _ _ _ us hl => match us, hl with | [], _ => rfl) (fun cdv A outer s H vs Q E hr h => ?_)
  refine ⟨_, (pss_one (ps_ret (pe_tup (pa_cons (pe_lst (pa_cons pe_str (pa_cons pe_str (pa_cons pe_str pa_nil)))) (pa_cons (pc (has_end_of T) (hr.mono (by decide)) (pa_cons pe_str (pa_cons pe_str (pa_cons pe_str (pa_cons pe_str pa_nil))))) pa_nil))))), ?_⟩
  obtain ⟨as, d, ⟨rfl, rfl⟩, hv, k⟩ := h
  obtain rfl := hv.i0
  exact st_ret (ev_pair (ns := [.f, .l, .r]) (t := Tr.endT (.nm .q) (.nm .l) (.nm .y) (.nm .r)) (ef_nms (K := K) [.f, .l, .r] (ea_cons (ev_nm .f) (ea_cons (ev_nm .l) (ea_cons (ev_nm .r) ea_nil))) (Nat.le_of_ble_eq_true rfl))
    (ev_call (F := f_end_of) ⟨.nm .q, .nm .l, .nm .y, .nm .r, rfl, rfl⟩ (ea_cons (ev_nm .q) (ea_cons (ev_nm .l) (ea_cons (ev_nm .y) (ea_cons (ev_nm .r) ea_nil)))))) k
def mvS (r : Bool) : Str := if r then "r" else "l"
def sideP (r : Bool) : List Nm × Tr := ([.f, .l, .r], Tr.handT (.nm (if r then .r else .l)) [.nm .tn, .nm .tc, .nm .f, .nm (if r then .l else .r)])
def f_side_names : List Ag → Ag → Prop := fun as r => ∃ m, as = [.t (.str (mvS m))] ∧ r = Ag.pair (sideP m)
theorem len_side_names {as : List Ag} {r : Ag} (h : f_side_names as r) : as.length = 1 := by obtain ⟨_, rfl, _⟩ := h; rfl
theorem ev_mv {N : Nat} {σ : L2.St} {H : Hp} {ta : TE} {m : Bool} (h : Ev K ta σ H (.t (.str (mvS m)))) : Ev K (tOp (rEqG K N) ta (tC (.str "r"))) σ H (.t (.bool m)) := by
  have e := ev_eqG (N := N) h (ev_str (i := "r")) rfl rfl (by cases m <;> decide +kernel) (by decide +kernel) (Nat.zero_le _)
  have z : PyData.eqv (.str (mvS m)) (.str "r") = m := by cases m <;> decide +kernel
  rw [z] at e
  exact e
theorem sc_side_names : FnScope ["move"] ["move"] (defScope st_side_names) := ⟨rfl, rfl, rfl, by decide +kernel, rfl, by decide +kernel, by decide +kernel⟩
theorem has_side_names (T : Txt P w K mg base) : Has P w K mg base "side_names" ["move"] 7 (SpG K f_side_names) := by
  refine has_mk T.glo_side_names (T.c.def_ 41 (d := d_side_names) rfl) sc_side_names (SpG.len (fun as d h => by exact len_side_names h)) (fun _ _ _ _ _ _ us hl => match us, hl with | [_], _ => rfl) (fun cdv A outer s H vs Q E hr h => ?_)
  refine ⟨_, (pss_cons (ps_if (pt_cmpR (op_eqSK (K := K) hr) (pv 0) pe_str (nomark _)) (pss_one (ps_ret (pe_tup (pa_cons (pe_lst (pa_cons pe_str (pa_cons pe_str (pa_cons pe_str pa_nil)))) (pa_cons (pc (has_handed T) (hr.mono (by decide)) (pa_cons pe_str (pa_cons (pe_lst (pa_cons pe_str (pa_cons pe_str (pa_cons pe_str (pa_cons pe_str pa_nil))))) pa_nil))) pa_nil))))) pss_nil)
    (pss_one (ps_ret (pe_tup (pa_cons (pe_lst (pa_cons pe_str (pa_cons pe_str (pa_cons pe_str pa_nil)))) (pa_cons (pc (has_handed T) (hr.mono (by decide)) (pa_cons pe_str (pa_cons (pe_lst (pa_cons pe_str (pa_cons pe_str (pa_cons pe_str (pa_cons pe_str pa_nil))))) pa_nil))) pa_nil)))))), ?_⟩
  obtain ⟨as, d, ⟨m, rfl, rfl⟩, hv, k⟩ := h
  obtain ⟨x, rfl, hx⟩ := hv.i1
  cases m with
  | true =>
    refine q_ifT (eb_test (ev_mv (m := true) (ev_var (K := K) rfl hx))) fun H1 s1 => ?_
    exact st_ret (ev_pair (ns := [.f, .l, .r]) (ef_nms (K := K) [.f, .l, .r] (ea_cons (ev_nm .f) (ea_cons (ev_nm .l) (ea_cons (ev_nm .r) ea_nil))) (Nat.le_of_ble_eq_true rfl))
      (ev_handed (t := .nm .r) (ts := [.nm .tn, .nm .tc, .nm .f, .nm .l]) (ev_nm .r) (ev_trs [.nm .tn, .nm .tc, .nm .f, .nm .l] (ea_cons (ev_nm .tn) (ea_cons (ev_nm .tc) (ea_cons (ev_nm .f) (ea_cons (ev_nm .l) ea_nil)))) (Nat.le_of_ble_eq_true rfl)))) fun v H2 s2 h2 => k v H2 (s1.trans s2) h2
  | false =>
    refine q_ifN (eb_test (ev_mv (m := false) (ev_var (K := K) rfl hx))) fun H1 s1 => ?_
    exact st_ret (ev_pair (ns := [.f, .l, .r]) (ef_nms (K := K) [.f, .l, .r] (ea_cons (ev_nm .f) (ea_cons (ev_nm .l) (ea_cons (ev_nm .r) ea_nil))) (Nat.le_of_ble_eq_true rfl))
      (ev_handed (t := .nm .l) (ts := [.nm .tn, .nm .tc, .nm .f, .nm .r]) (ev_nm .l) (ev_trs [.nm .tn, .nm .tc, .nm .f, .nm .r] (ea_cons (ev_nm .tn) (ea_cons (ev_nm .tc) (ea_cons (ev_nm .f) (ea_cons (ev_nm .r) ea_nil)))) (Nat.le_of_ble_eq_true rfl)))) fun v H2 s2 h2 => k v H2 (s1.trans s2) h2
def bareP (r : Bool) : List Nm × Tr := if r then ([.f, .l], nextT (.j .K (Tr.foldT [.nm .y, .nm .l])) (.nm .b) .K) else ([.f, .r], nextT .K (.nm .b) (.j .K (Tr.foldT [.nm .y, .nm .r])))
def f_bare_names : List Ag → Ag → Prop := fun as r => ∃ m, as = [.t (.str (mvS m))] ∧ r = Ag.pair (bareP m)
theorem len_bare_names {as : List Ag} {r : Ag} (h : f_bare_names as r) : as.length = 1 := by obtain ⟨_, rfl, _⟩ := h; rfl
theorem ev_next {σ : L2.St} {H : Hp} {ta tb tc : TE} {E : XK} {a b c : Tr} (h1 : Ev K ta σ H (.t a.d)) (h2 : Ev K tb σ H (.t b.d)) (h3 : Ev K tc σ H (.t c.d)) : Ev K (tCall (SpT K f_next_term) [] E (tCons ta (tCons tb (tCons tc tNil)))) σ H (.t (nextT a b c).d) := ev_call ⟨a, b, c, rfl, rfl⟩ (ea_cons h1 (ea_cons h2 (ea_cons h3 ea_nil)))
theorem ev_grown {σ : L2.St} {H : Hp} {ta tb : TE} {E : XK} {a b : Tr} (h1 : Ev K ta σ H (.t a.d)) (h2 : Ev K tb σ H (.t b.d)) : Ev K (tCall (SpT K f_list_grown) [] E (tCons ta (tCons tb tNil))) σ H (.t (Tr.j .K (Tr.foldT [a, b])).d) := ev_call ⟨a, b, rfl, rfl⟩ (ea_cons h1 (ea_cons h2 ea_nil))
theorem sc_bare_names : FnScope ["move"] ["move"] (defScope st_bare_names) := ⟨rfl, rfl, rfl, by decide +kernel, rfl, by decide +kernel, by decide +kernel⟩
theorem has_bare_names (T : Txt P w K mg base) : Has P w K mg base "bare_names" ["move"] 8 (SpG K f_bare_names) := by
  refine has_mk T.glo_bare_names (T.c.def_ 42 (d := d_bare_names) rfl) sc_bare_names (SpG.len (fun as d h => by exact len_bare_names h)) (fun _ _ _ _ _ _ us hl => match us, hl with | [_], _ => rfl) (fun cdv A outer s H vs Q E hr h => ?_)
  refine ⟨_, (pss_cons (ps_if (pt_cmpR (op_eqSK (K := K) hr) (pv 0) pe_str (nomark _)) (pss_one (ps_ret (pe_tup (pa_cons (pe_lst (pa_cons pe_str (pa_cons pe_str pa_nil))) (pa_cons (pc (has_next_term T) (hr.mono (by decide)) (pa_cons (pc (has_list_grown T) (hr.mono (by decide)) (pa_cons pe_str (pa_cons pe_str pa_nil))) (pa_cons pe_str (pa_cons pe_str pa_nil)))) pa_nil))))) pss_nil)
    (pss_one (ps_ret (pe_tup (pa_cons (pe_lst (pa_cons pe_str (pa_cons pe_str pa_nil))) (pa_cons (pc (has_next_term T) (hr.mono (by decide)) (pa_cons pe_str (pa_cons pe_str (pa_cons (pc (has_list_grown T) (hr.mono (by decide)) (pa_cons pe_str (pa_cons pe_str pa_nil))) pa_nil)))) pa_nil)))))), ?_⟩
  obtain ⟨as, d, ⟨m, rfl, rfl⟩, hv, k⟩ := h
  obtain ⟨x, rfl, hx⟩ := hv.i1
  cases m with
  | true =>
    refine q_ifT (eb_test (ev_mv (m := true) (ev_var (K := K) rfl hx))) fun H1 s1 => ?_
    exact st_ret (ev_pair (ns := [.f, .l]) (ef_nms (K := K) [.f, .l] (ea_cons (ev_nm .f) (ea_cons (ev_nm .l) ea_nil)) (Nat.le_of_ble_eq_true rfl)) (ev_next (c := .K) (ev_grown (ev_nm .y) (ev_nm .l)) (ev_nm .b) ev_K)) fun v H2 s2 h2 => k v H2 (s1.trans s2) h2
  | false =>
    refine q_ifN (eb_test (ev_mv (m := false) (ev_var (K := K) rfl hx))) fun H1 s1 => ?_
    exact st_ret (ev_pair (ns := [.f, .r]) (ef_nms (K := K) [.f, .r] (ea_cons (ev_nm .f) (ea_cons (ev_nm .r) ea_nil)) (Nat.le_of_ble_eq_true rfl)) (ev_next (a := .K) ev_K (ev_nm .b) (ev_grown (ev_nm .y) (ev_nm .r)))) fun v H2 s2 h2 => k v H2 (s1.trans s2) h2
def cellP (r : Bool) : List Nm × Tr := if r then ([.a, .t, .f, .l], nextT (.j .K (Tr.foldT [.nm .y, .nm .l])) (.nm .a) (.nm .t)) else ([.a, .t, .f, .r], nextT (.nm .t) (.nm .a) (.j .K (Tr.foldT [.nm .y, .nm .r])))
def f_cell_names : List Ag → Ag → Prop := fun as r => ∃ m, as = [.t (.str (mvS m))] ∧ r = Ag.pair (cellP m)
theorem len_cell_names {as : List Ag} {r : Ag} (h : f_cell_names as r) : as.length = 1 := by obtain ⟨_, rfl, _⟩ := h; rfl
theorem sc_cell_names : FnScope ["move"] ["move"] (defScope st_cell_names) := ⟨rfl, rfl, rfl, by decide +kernel, rfl, by decide +kernel, by decide +kernel⟩
theorem has_cell_names (T : Txt P w K mg base) : Has P w K mg base "cell_names" ["move"] 8 (SpG K f_cell_names) := by
  refine has_mk T.glo_cell_names (T.c.def_ 43 (d := d_cell_names) rfl) sc_cell_names (SpG.len (fun as d h => by exact len_cell_names h)) (fun _ _ _ _ _ _ us hl => match us, hl with | [_], _ => rfl) (fun cdv A outer s H vs Q E hr h => ?_)
  refine ⟨_, (pss_cons (ps_if (pt_cmpR (op_eqSK (K := K) hr) (pv 0) pe_str (nomark _)) (pss_one (ps_ret (pe_tup (pa_cons (pe_lst (pa_cons pe_str (pa_cons pe_str (pa_cons pe_str (pa_cons pe_str pa_nil))))) (pa_cons (pc (has_next_term T) (hr.mono (by decide)) (pa_cons (pc (has_list_grown T) (hr.mono (by decide)) (pa_cons pe_str (pa_cons pe_str pa_nil))) (pa_cons pe_str (pa_cons pe_str pa_nil)))) pa_nil))))) pss_nil)
    (pss_one (ps_ret (pe_tup (pa_cons (pe_lst (pa_cons pe_str (pa_cons pe_str (pa_cons pe_str (pa_cons pe_str pa_nil))))) (pa_cons (pc (has_next_term T) (hr.mono (by decide)) (pa_cons pe_str (pa_cons pe_str (pa_cons (pc (has_list_grown T) (hr.mono (by decide)) (pa_cons pe_str (pa_cons pe_str pa_nil))) pa_nil)))) pa_nil)))))), ?_⟩
  obtain ⟨as, d, ⟨m, rfl, rfl⟩, hv, k⟩ := h
  obtain ⟨x, rfl, hx⟩ := hv.i1
  cases m with
  | true =>
    refine q_ifT (eb_test (ev_mv (m := true) (ev_var (K := K) rfl hx))) fun H1 s1 => ?_
    exact st_ret (ev_pair (ns := [.a, .t, .f, .l]) (ef_nms (K := K) [.a, .t, .f, .l] (ea_cons (ev_nm .a) (ea_cons (ev_nm .t) (ea_cons (ev_nm .f) (ea_cons (ev_nm .l) ea_nil)))) (Nat.le_of_ble_eq_true rfl)) (ev_next (ev_grown (ev_nm .y) (ev_nm .l)) (ev_nm .a) (ev_nm .t))) fun v H2 s2 h2 => k v H2 (s1.trans s2) h2
  | false =>
    refine q_ifN (eb_test (ev_mv (m := false) (ev_var (K := K) rfl hx))) fun H1 s1 => ?_
    exact st_ret (ev_pair (ns := [.a, .t, .f, .r]) (ef_nms (K := K) [.a, .t, .f, .r] (ea_cons (ev_nm .a) (ea_cons (ev_nm .t) (ea_cons (ev_nm .f) (ea_cons (ev_nm .r) ea_nil)))) (Nat.le_of_ble_eq_true rfl)) (ev_next (ev_nm .t) (ev_nm .a) (ev_grown (ev_nm .y) (ev_nm .r)))) fun v H2 s2 h2 => k v H2 (s1.trans s2) h2
end
end My

/-! W8: the chooser, pairs made, walked. -/
namespace My
open PySem PySem.Spec PyProof.Rows L2
section
variable {P : Program} {w : World} {K : PySem.W.Frag} {mg : Str → Option Value} {base : Heap}

def chooP : List Nm × Tr := ([.l, .s, .r, .n, .f], Tr.handT (.nm .s) [.nm .ta, .nm .tb, .nm .tc, .nm .td, .nm .f, .nm .l, .nm .r])
def f_chooser_names : List Ag → Ag → Prop := fun as r => as = [.t (.int 4)] ∧ r = Ag.pair chooP
theorem len_chooser_names {as : List Ag} {r : Ag} (h : f_chooser_names as r) : as.length = 1 := by obtain ⟨rfl, _⟩ := h; rfl
def chooF : PyData → PyData
  | .int 0 => .str "ta"
  | .int 1 => .str "tb"
  | .int 2 => .str "tc"
  | .int 3 => .str "td"
  | _ => .none
theorem t_add (c : Nat) (x : Str) (h : x = (("t" : Str) ++ (⟨#[c]⟩ : Str))) : PyData.str x = .str (("t" : Str) ++ (⟨#[c]⟩ : Str)) := congrArg PyData.str h
theorem sc_chooser_names : FnScope ["many", "things", "k"] ["many"] (defScope st_chooser_names) := ⟨rfl, rfl, rfl, by decide +kernel, rfl, by decide +kernel, by decide +kernel⟩
theorem has_chooser_names (T : Txt P w K mg base) : Has P w K mg base "chooser_names" ["many"] 7 (SpG K f_chooser_names) := by
  refine has_mk T.glo_chooser_names (T.c.def_ 44 (d := d_chooser_names) rfl) sc_chooser_names (SpG.len (fun as d h => by exact len_chooser_names h)) (fun _ _ _ _ _ _ us hl => match us, hl with | [_], _ => rfl) (fun cdv A outer s H vs Q E hr h => ?_)
  refine ⟨_, (pss_cons (ps_setLc (i := 1) (own := [("k", 2)]) (tt := tYes) rfl sc_chooser_names.nd rfl rfl (sw_true rfl rfl rfl (by decide +kernel)) (pi_range1 (by rfl) T.free_range (pa_cons (pv 0) pa_nil)) (blkOk_by (own := [("k", 2)]) (N := ["many", "things", "k"]) (sc := defScope st_chooser_names) (by decide +kernel)) (fun _ _ _ _ _ => (pg_name (i := 2) sc_chooser_names.nd rfl (by first | exact Or.inl rfl | exact Or.inr rfl))) (fun _ _ _ _ _ => pts_nil) (fun _ _ _ _ _ => (pe_op op_addG pe_str (pe_ixK (K := K) pe_str (pv 2) (fun _ _ => rfl)))))
    (pss_one (ps_ret (pe_tup (pa_cons (pe_lst (pa_cons pe_str (pa_cons pe_str (pa_cons pe_str (pa_cons pe_str (pa_cons pe_str pa_nil)))))) (pa_cons (pc (has_handed T) (hr.mono (by decide)) (pa_cons pe_str (pa_cons (pe_op op_addG (pv 1) (pe_lst (pa_cons pe_str (pa_cons pe_str (pa_cons pe_str pa_nil))))) pa_nil))) pa_nil)))))), ?_⟩
  obtain ⟨as, d, ⟨rfl, rfl⟩, hv, k⟩ := h
  obtain ⟨x, rfl, hx⟩ := hv.i1
  obtain rfl := Td.int_of hx
  refine q_setF (ef_lcY (K := K) (Hb := H) chooF (fun H' s => wk_range1 (j := 4) (ea_cons (ev_var (K := K) rfl (show At K H' (.int 4) (.t (.int 4)) from Td.int _)) ea_nil) (by decide)) (Same.refl H) (by decide) (fun x => rfl) fun d y H1 hd s1 hy => ?_) fun p xs H1 hp s1 h1 t1 => ?_
  · have hdd : d = .int 0 ∨ d = .int 1 ∨ d = .int 2 ∨ d = .int 3 := by
      have : d ∈ [PyData.int 0, .int 1, .int 2, .int 3] := hd
      simpa using this
    have key : ∀ (i : Int) (c : Nat) (r : Str), atI (("abcdefghi" : Str)).cps.toList i = some c → r = (("t" : Str) ++ (⟨#[c]⟩ : Str)) → d = .int i → Ev K (tOp rAddG (tC (.str "t")) (tOp (rIx K) (tC (.str "abcdefghi")) (tVar 2))) [some (V.int 4), none, some y] H1 (.t (.str r)) := fun i c r h1 h2 e => by
      subst e
      rw [h2]
      exact ev_addS ev_str (ev_ixS ev_str (ev_var rfl (show At K H1 y (.t (.int i)) from hy)) (by decide +kernel) h1) (by have e2 : (⟨#[c]⟩ : Str).length = 1 := rfl; rw [e2]; decide +kernel)
    rcases hdd with e | e | e | e
    · rw [e]; exact key 0 97 _ (by decide +kernel) (by decide +kernel) e
    · rw [e]; exact key 1 98 _ (by decide +kernel) (by decide +kernel) e
    · rw [e]; exact key 2 99 _ (by decide +kernel) (by decide +kernel) e
    · rw [e]; exact key 3 100 _ (by decide +kernel) (by decide +kernel) e
  · have t1 : TdAll H1 xs (trs [.nm .ta, .nm .tb, .nm .tc, .nm .td]) := t1
    refine st_ret (ev_pair (ns := [.l, .s, .r, .n, .f]) (ef_nms (K := K) [.l, .s, .r, .n, .f] (ea_cons (ev_nm .l) (ea_cons (ev_nm .s) (ea_cons (ev_nm .r) (ea_cons (ev_nm .n) (ea_cons (ev_nm .f) ea_nil))))) (Nat.le_of_ble_eq_true rfl))
      (ev_handed (t := .nm .s) (ts := [.nm .ta, .nm .tb, .nm .tc, .nm .td, .nm .f, .nm .l, .nm .r]) (ev_nm .s) fun H2 s2 Q' q' => ?_)) fun v H2 s2 h2 => k v H2 (s1.trans s2) h2
    -- things + ['f', 'l', 'r']
    refine ⟨_, rfl, ?_⟩
    refine ef_nms (K := K) [.f, .l, .r] (ea_cons (ev_nm .f) (ea_cons (ev_nm .l) (ea_cons (ev_nm .r) ea_nil))) (Nat.le_of_ble_eq_true rfl) H2 (Same.refl _) _ fun q ys H3 hq s3 h3 hy => ?_
    have hx3 := t1.sm (s2.trans s3)
    refine .inr (.inr ⟨p, q, xs, ys, rfl, rfl, (s2.trans s3) _ _ h1, h3, ?_, fun z hz => ?_⟩)
    · rw [hx3.length, hy.length]; decide
    · exact q' _ _ (s3.trans (Same.new hz)) ⟨z, _, rfl, SqL.of upd_same, (hx3.append hy).tx (Tx.new hz)⟩
def f_made_pair : Gr := fun as d => ∃ p : List Nm × Tr, Tr.okD 64 p.1 p.2 = true ∧ as = [Ag.pair p] ∧ d = (Tr.madeT p.1 p.2).d
theorem len_made_pair {as : List Ag} {d : PyData} (h : f_made_pair as d) : as.length = 1 := by obtain ⟨_, _, rfl, _⟩ := h; rfl
theorem sc_made_pair : FnScope ["pair"] ["pair"] (defScope st_made_pair) := ⟨rfl, rfl, rfl, by decide +kernel, rfl, by decide +kernel, by decide +kernel⟩
theorem has_made_pair (T : Txt P w K mg base) : Has P w K mg base "made_pair" ["pair"] 71 (SpT K f_made_pair) := by
  refine has_mk T.glo_made_pair (T.c.def_ 45 (d := d_made_pair) rfl) sc_made_pair (SpT.len (fun as d h => by exact len_made_pair h)) (fun _ _ _ _ _ _ us hl => match us, hl with | [_], _ => rfl) (fun cdv A outer s H vs Q E hr h => ?_)
  refine ⟨_, (pss_one (ps_ret (pc (has_made_of T) (hr.mono (by decide)) (pa_cons (pe_ixK (K := K) (pv 0) pe_int (fun _ _ => rfl)) (pa_cons (pe_ixK (K := K) (pv 0) pe_int (fun _ _ => rfl)) pa_nil))))), ?_⟩
  obtain ⟨as, d, ⟨p, hp, rfl, rfl⟩, hv, k⟩ := h
  obtain ⟨x, rfl, hx⟩ := hv.i1
  exact st_ret (ev_call ⟨p.1, p.2, hp, rfl, rfl⟩ (ea_cons (ev_pair0 (ev_var (K := K) rfl hx)) (ea_cons (ev_pair1 (ev_var rfl hx)) ea_nil))) k
def costT (p : List Nm × Tr) : Nat := (Tr.costsT p.1 p.2).sum
def f_cost_of : Gr := fun as d => ∃ p : List Nm × Tr, Tr.okD 64 p.1 p.2 = true ∧ p.1.length ≤ 1000 ∧ as = [Ag.pair p] ∧ d = .int (costT p : Nat)
theorem len_cost_of {as : List Ag} {d : PyData} (h : f_cost_of as d) : as.length = 1 := by obtain ⟨_, _, _, rfl, _⟩ := h; rfl
theorem sum_cast : ∀ l : List Nat, (l.map fun (n : Nat) => (n : Int)).sum = (l.sum : Nat)
  | [] => rfl
  | n :: l => by
    rw [List.map_cons, List.sum_cons, List.sum_cons, sum_cast l]
    omega
/-- sum(..) of a list of ints -/
theorem ev_sum {σ : L2.St} {H : Hp} {te : TE} {ns : List Int} (h : Ev K te σ H (.l (ns.map PyData.int))) : Ev K (tCB (rSum K) (tCons te tNil)) σ H (.t (.int ns.sum)) := fun H1 s Q q =>
  h H1 s _ fun v H2 s2 ⟨a, xs, e, hs, ht⟩ => by
    obtain rfl := TdAll.ints_of ht
    exact ⟨a, ns, by rw [e], hs, q _ H2 s2 (Td.int _)⟩
theorem sc_cost_of : FnScope ["pair"] ["pair"] (defScope st_cost_of) := ⟨rfl, rfl, rfl, by decide +kernel, rfl, by decide +kernel, by decide +kernel⟩
theorem has_cost_of (T : Txt P w K mg base) : Has P w K mg base "cost_of" ["pair"] 70 (SpT K f_cost_of) := by
  refine has_mk T.glo_cost_of (T.c.def_ 46 (d := d_cost_of) rfl) sc_cost_of (SpT.len (fun as d h => by exact len_cost_of h)) (fun _ _ _ _ _ _ us hl => match us, hl with | [_], _ => rfl) (fun cdv A outer s H vs Q E hr h => ?_)
  refine ⟨_, (pss_one (ps_ret (pe_callB (cr_sum rfl) (by rfl) T.free_sum (by decide +kernel) (pa_cons (pc (has_made_costs T) (hr.mono (by decide)) (pa_cons (pe_ixK (K := K) (pv 0) pe_int (fun _ _ => rfl)) (pa_cons (pe_ixK (K := K) (pv 0) pe_int (fun _ _ => rfl)) pa_nil))) pa_nil)))), ?_⟩
  obtain ⟨as, d, ⟨p, hp, hl, rfl, rfl⟩, hv, k⟩ := h
  obtain ⟨x, rfl, hx⟩ := hv.i1
  have e : (Tr.costsT p.1 p.2).map (fun n => PyData.int (n : Nat)) = ((Tr.costsT p.1 p.2).map fun (n : Nat) => (n : Int)).map PyData.int := by rw [List.map_map]; rfl
  have h1 : Ef (tCall (SpL K f_made_costs) [] E0 (tCons (tOp (rIx K) (tVar 0) (tC (.int 0))) (tCons (tOp (rIx K) (tVar 0) (tC (.int 1))) tNil))) [some x] H (((Tr.costsT p.1 p.2).map fun (n : Nat) => (n : Int)).map PyData.int) := by
    rw [← e]
    exact ef_call ⟨p.1, p.2, hp, hl, rfl, rfl⟩ (ea_cons (ev_pair0 (ev_var (K := K) rfl hx)) (ea_cons (ev_pair1 (ev_var rfl hx)) ea_nil))
  exact st_ret (ev_sum (K := K) h1.ev) fun v H1 s1 h => k v H1 s1 (by unfold costT; rw [← sum_cast]; exact h)
def wlT (t : Tr) : Tr := .j (.j .S (.j .K (.j .S t))) .K
def f_with_last : Gr := fun as d => ∃ t : Tr, as = [.t t.d] ∧ d = (wlT t).d
theorem len_with_last {as : List Ag} {d : PyData} (h : f_with_last as d) : as.length = 1 := by obtain ⟨_, rfl, _⟩ := h; rfl
theorem sc_with_last : FnScope ["tree"] ["tree"] (defScope st_with_last) := ⟨rfl, rfl, rfl, by decide +kernel, rfl, by decide +kernel, by decide +kernel⟩
theorem has_with_last (T : Txt P w K mg base) : Has P w K mg base "with_last" ["tree"] 4 (SpT K f_with_last) := by
  refine has_mk T.glo_with_last (T.c.def_ 47 (d := d_with_last) rfl) sc_with_last (SpT.len (fun as d h => by exact len_with_last h)) (fun _ _ _ _ _ _ us hl => match us, hl with | [_], _ => rfl) (fun cdv A outer s H vs Q E hr h => ?_)
  refine ⟨_, (pss_one (ps_ret (pc (has_joint T) (hr.mono (by decide)) (pa_cons (pc (has_joint T) (hr.mono (by decide)) (pa_cons pe_str (pa_cons (pc (has_joint T) (hr.mono (by decide)) (pa_cons pe_str (pa_cons (pc (has_joint T) (hr.mono (by decide)) (pa_cons pe_str (pa_cons (pv 0) pa_nil))) pa_nil))) pa_nil))) (pa_cons pe_str pa_nil))))), ?_⟩
  obtain ⟨as, d, ⟨t, rfl, rfl⟩, hv, k⟩ := h
  obtain ⟨x, rfl, hx⟩ := hv.i1
  exact st_ret (ev_joint (l := .j .S (.j .K (.j .S t))) (r := .K) (ev_joint (l := .S) (r := .j .K (.j .S t)) (K := K) ev_S (ev_joint (l := .K) (r := .j .S t) ev_K (ev_joint (l := .S) (r := t) ev_S (ev_var rfl hx)))) ev_K) k
end
end My

/-! Rl2: enumerate(text), text * int, text[::-1]. -/
namespace RL
open PySem PySem.Spec PyProof.Rows
section
variable {prog : Program} {w : World} {A : Around} {E : Value → Shared → Prop} {s : Shared}
theorem meets_enum_text (x : Str) (t : Tok) :
    Meets (Builtin.«enumerate.__new__» ⟨[.type "enumerate", .str x t], []⟩) (fun _ R s =>
      R (.ok (.ret (.ref (s.heap.push { cls := .type (strIterType x), data := .fields #[.str x t, .int 0 0] }).objs.size)))
        { s with heap := (s.heap.push { cls := .type (strIterType x), data := .fields #[.str x t, .int 0 0] }).push { cls := .type "enumerate", data := .fields #[.none, .bool false, .ref s.heap.objs.size, rawInt 0, .none, .none] } }) :=
  .of_wp fun prog w A R s h => by
    obtain ⟨hp, g, d, tk, os⟩ := s
    have hsub := sub_enumerate
    have q1 : ∀ {A' : Around} {E : Value → Shared → Prop} {Q : Value → Shared → Prop}, Q (.ref hp.objs.size) ⟨hp.push { cls := .type (strIterType x), data := .fields #[.str x t, .int 0 0] }, g, d, tk, os⟩ → wpAny (model prog w) A' (pyIter (.str x t)) Q E ⟨hp, g, d, tk, os⟩ :=
      fun q => (begins_text x t).iter prog w _ _ ⟨hp, g, d, tk, os⟩ _ trivial q
    wp_walk using q1
    refine wpAny_stack_any fun st => wpAny_pure ?_
    split
    · rename_i c _ _ _ _ _
      cases (c == Value.type "enumerate")
      · wp_walk using q1
        exact ⟨_, rfl, h⟩
      · wp_walk using q1
        exact ⟨_, rfl, h⟩
    · wp_walk using q1
      exact ⟨_, rfl, h⟩
theorem call_enum_text {x : Str} {t : Tok} {Q : Value → Shared → Prop}
    (h : ∀ h', IsEnum h' (s.heap.objs.size + 1) s.heap.objs.size 0 .none → h'.IsStrIter s.heap.objs.size (strIterType x) x t 0 → h'.objs.size = s.heap.objs.size + 2 →
      (∀ b o, s.heap.get? b = some o → h'.get? b = some o) → Q (.ref (s.heap.objs.size + 1)) { s with heap := h' }) :
    wpAny (model prog w) A (call (.type "enumerate") [.str x t]) Q E s := by
  refine callType_new F.called_enumerate (by decide) (F.typeCall_enumerate_1 _) (F.newCall_enumerate_1 _) (fun obj => F.args_object_init_2 obj _) F.entry_enumerate_new
    (meets_enum_text x t) ?_
  have hz : (s.heap.push { cls := .type (strIterType x), data := .fields #[.str x t, .int 0 0] }).objs.size = s.heap.objs.size + 1 := Heap.size_push ..
  rw [hz]
  have he : IsEnum ((s.heap.push { cls := .type (strIterType x), data := .fields #[.str x t, .int 0 0] }).push
      { cls := .type "enumerate", data := .fields #[.none, .bool false, .ref s.heap.objs.size, rawInt 0, .none, .none] }) (s.heap.objs.size + 1) s.heap.objs.size 0 .none := by
    have := Heap.get?_push_size (s.heap.push { cls := .type (strIterType x), data := .fields #[.str x t, .int 0 0] })
      (o := { cls := .type "enumerate", data := .fields #[.none, .bool false, .ref s.heap.objs.size, rawInt 0, .none, .none] }) rfl
    rw [hz] at this; exact this
  exact ⟨⟨_, he, rfl⟩, h _ he ⟨_, Heap.get?_push_of_some _ (Heap.get?_push_size _ rfl), rfl, rfl⟩ (by rw [Heap.size_push, hz]) fun b o x => Heap.get?_push_of_some _ (Heap.get?_push_of_some _ x)⟩
end
end RL
namespace My
open PySem PySem.Spec PyProof.Rows L2
/-! ### enumerate(a text) -/
def Ites (z : Str) : It :=
  ⟨fun i _ => i < z.cps.size, fun i H v H' => ∃ T c, v = .ref T ∧ H T = none ∧ H' = upd H T (.tup [.int (i : Nat), .str ⟨#[c]⟩]) ∧ z.cps[i]? = some c, fun i _ => z.cps.size ≤ i⟩
theorem turn_enumS {P : Program} {w : World} {K : PySem.W.Frag} {elts : List Expr} {kk : Nat} {tpos : Pos} (z : Str) (t : Tok) (e it : Addr) :
    Turn P w K (.Tuple elts kk tpos) (Ites z) [e, it] e (fun i h => (∃ old, IsEnum h e it ((i : Nat) : Int) old) ∧ h.IsStrIter it (strIterType z) z t i ∧ e ≠ it ∧ i ≤ z.cps.size) where
  mem := by simp
  obj := fun i h st b hb => by
    obtain ⟨⟨old, he⟩, ⟨o, ho, hc, hd⟩, _⟩ := st
    have e' : b = e ∨ b = it := by simpa using hb
    rcases e' with z | z
    · rw [z]; exact ⟨_, he, fun v q => nomatch q⟩
    · rw [z]; exact ⟨o, ho, fun v q => by rw [hd] at q; cases q⟩
  keep := fun i h h' st k => let ⟨⟨old, he⟩, ⟨o, ho, r⟩, hne, hle⟩ := st; ⟨⟨old, k e (by simp) _ he⟩, ⟨o, k it (by simp) o ho, r⟩, hne, hle⟩
  item := by
    intro X hP hw hK hc i pins s σ H E I hf st hg
    subst hP hw hK
    obtain ⟨⟨old, he⟩, hit, hne, hle⟩ := st
    have hg : i < z.cps.size := hg
    have hel : e < s.heap.objs.size := Heap.lt_size he
    have hil : it < s.heap.objs.size := by obtain ⟨_, q, _⟩ := hit; exact Heap.lt_size q
    have D := Draws.text (prog := X.prog) (w := X.w) (A := X.A.in1) (I.ok.hd hc) it z t
    refine wpAny_pyNext_enum_itemC D he hit hg hne (by simp [hne]) fun x h' tk hP ho hit' hT hsz hk => ?_
    obtain ⟨c, u, hcx, rfl⟩ := hP
    refine ⟨_, rfl, wpAny_letOwnedTupleGo_enum (s := { s with heap := h', toks := tk + 1 }) ho fun h'' he' sb => ?_⟩
    have hT2 : h''.get? s.heap.objs.size = some { cls := .type "tuple", data := .seq #[.int i tk, .str ⟨#[c]⟩ u] } := (sb.2 _ (Nat.ne_of_gt hel)).trans hT
    have new : ObjOk X.prog X.w (upd H s.heap.objs.size (.tup [.int (i : Nat), .str ⟨#[c]⟩])) h'' s.heap.objs.size (.tup [.int (i : Nat), .str ⟨#[c]⟩]) :=
      ⟨by show 2 ≤ sizeLine; decide, [.int i tk, .str ⟨#[c]⟩ u], .cons ⟨_, rfl⟩ (.cons ⟨_, rfl⟩ .nil), ⟨_, hT2, rfl, _, rfl⟩⟩
    have I1 : Inv X pins σ (upd H s.heap.objs.size (.tup [.int (i : Nat), .str ⟨#[c]⟩])) { s with heap := h'', toks := tk + 1 } :=
      I.turnedNew (ch := [e, it]) (fun b ob hb q => (sb.2 b (fun z => hb (by simp [z]))).trans (hk b ob (fun z => hb (by simp [z])) (fun z => hb (by simp [z])) q)) hf (Nat.le_refl _) new
    refine ⟨.ref s.heap.objs.size, _, I1, rfl, ⟨_, c, rfl, I.hok.fresh (Nat.le_refl _), rfl, hcx⟩, ⟨⟨.str ⟨#[c]⟩ u, ?_⟩, ?_, hne, hg⟩, fun b hb => ?_⟩
    · have e1 : ((i + 1 : Nat) : Int) = (i : Int) + 1 := by omega
      rw [e1]; exact he'
    · obtain ⟨oi, hoi, r⟩ := hit'
      exact ⟨oi, (sb.2 it (Ne.symm hne)).trans hoi, r⟩
    · have hb' : b < s.heap.objs.size := by
        have e' : b = e ∨ b = it := by simpa using hb
        rcases e' with z | z
        · rw [z]; exact hel
        · rw [z]; exact hil
      rw [upd_ne (Nat.ne_of_lt hb')]
      exact (hf b hb).1
  done := by
    intro X hP hw hK hc i pins s σ H E I hf st hg
    subst hP hw hK
    obtain ⟨⟨old, he⟩, hit, hne, hle⟩ := st
    have hg : z.cps.size ≤ i := hg
    obtain ⟨f0, f1, f2, f3, f4, f5⟩ := hf it (by simp)
    have D := Draws.text (prog := X.prog) (w := X.w) (A := X.A.in1) (I.ok.hd hc) it z t
    have ei : i = z.cps.size := Nat.le_antisymm hle hg
    subst ei
    exact wpAny_pyNext_enum_endD D he hit fun h' eb => ⟨rfl, I.turned (t' := s.toks) (fun b o hb q => eb b o hb q) f0 f1 f3 f4 f5⟩
  self := fun A i s Q E st h => let ⟨⟨_, he⟩, _⟩ := st; wpAny_pyIter_enum he h
def iEnumS (te : TE) : TI := fun σ H R => te σ H fun v H1 => ∃ z, v = .str z ∧ R (Ites z) H1
theorem pi_enumS {X : Cx} {e : Expr} {te : TE} {p pos tpos : Pos} {elts : List Expr} {kk : Nat} (hm : X.mg "enumerate" = none) (he : PE X e te) (hg : Gl X "enumerate" := by rfl) (hs : starEach [e] X.env = (false, eval e X.env) :: starEach [] X.env := by rfl) :
    PI X (.Tuple elts kk tpos) (.Call (.Name "enumerate" p) [e] [] pos) (iEnumS te) := by
  refine ⟨fun pins s σ H R I h => ?_⟩
  refine Call_ (ld_blt I hg hm boot_enumerate (PyProof.Rows.callWith_type1 (args_cons (thn (he.run pins s σ H _ I h) fun u s1 ⟨v, H1, I1, r1, z, ez, q⟩ => args_nil ?_) hs) hs rfl))
  subst ez
  obtain ⟨t, rfl⟩ := r1
  refine RL.call_enum_text fun h' he hit hsz hk => wpAny_pyIter_enum he ?_
  have I2 : Inv X pins σ H1 { s1 with heap := h' } := I1.kept (t' := s1.toks) hk
  refine ⟨s1.heap.objs.size + 1, [s1.heap.objs.size + 1, s1.heap.objs.size], _, _, H1, rfl, I2, turn_enumS z t (s1.heap.objs.size + 1) s1.heap.objs.size, ⟨⟨.none, he⟩, hit, Nat.succ_ne_self _, Nat.zero_le _⟩, fun b hb => ?_, q⟩
  have e' : b = s1.heap.objs.size + 1 ∨ b = s1.heap.objs.size := by simpa using hb
  have hle : s1.heap.objs.size ≤ b := by
    rcases e' with z | z
    · rw [z]; exact Nat.le_add_right _ _
    · rw [z]; exact Nat.le_refl _
  exact I1.fpOk hle (I1.hok.fresh hle)
end My

/-! Rl3: reversed(text), text[::-1], text * int. -/
namespace RL
open PySem PySem.Spec PyProof.Rows RT
theorem norev_str : typeLookup (.type "str") "__reversed__" = pure none := by rw [typeLookup_type, builtinLookup_eq_fast]; kernel_rfl
theorem get_str : typeLookup (.type "str") "__getitem__" = pure (some (.builtin "str.__getitem__")) := by rw [typeLookup_type, builtinLookup_eq_fast]; kernel_rfl
def rsObj (z : Str) (t : Tok) (i : Int) : Obj := { cls := .type "reversed", data := .fields #[.str z t, rawInt i] }
/-- reversed(z), the next place i -/
def IsRs (h : Heap) (a : Addr) (z : Str) (t : Tok) (i : Int) : Prop := ∃ o, h.get? a = some o ∧ o.cls = .type "reversed" ∧ o.data = .fields #[.str z t, rawInt i]
theorem IsRs.at {h h' : Heap} {a : Addr} {z : Str} {t : Tok} {i : Int} (x : IsRs h a z t i) (e : ∀ o, h.get? a = some o → h'.get? a = some o) : IsRs h' a z t i := let ⟨o, ho, r⟩ := x; ⟨o, e _ ho, r⟩
section
variable {prog : Program} {w : World} {A : Around} {E : Value → Shared → Prop} {s : Shared}
theorem IsRs.typeIs {a : Addr} {z : Str} {t : Tok} {i : Int} (x : IsRs s.heap a z t i) : s.TypeIs (.ref a) "reversed" := let ⟨o, ho, hc, _⟩ := x; ⟨o, ho, hc⟩
theorem code_reversed_str {z : Str} {t : Tok} {Q₁ : Value → Shared → Prop} (hz : z.length ≤ sizeLine)
    (h : Q₁ (.ref s.heap.objs.size) { s with heap := s.heap.push (rsObj z t ((z.length : Int) - 1)), toks := s.toks + 1 + 1 }) :
    codeAny (model prog w) A (.call (.builtin "reversed.__new__") ⟨[.type "reversed", .str z t], []⟩) (wants Q₁ E) s := by
  have hT : s.TypeIs (.str z t) "str" := typeIs_str s z t
  refine codeAny_of_tree ?_
  show wpAny _ A.in1 (do checkBuiltinCall "reversed.__new__" ⟨[.type "reversed", .str z t], []⟩; again (.builtin "reversed.__new__" ⟨[.type "reversed", .str z t], []⟩)) _ _ s
  refine wpAny_bind (wpAny_of_eq (F.newCall_reversed_1 _) (wpAny_pure ⟨plainId_quiet F.plain_reversed_new _, codeAny_builtin F.entry_reversed_new ?_⟩))
  rw [Around.under_plainId F.plain_reversed_new _]
  unfold Builtin.«reversed.__new__»
  refine wpAny_bind (wpAny_of_eq (newClass_reversed _) ?_)
  try dsimp only
  refine wpAny_bind (wpAny_of_eq (a := ()) (by first | rfl | kernel_rfl) ?_)
  try dsimp only
  refine wpAny_bind (wpAny_of_eq (a := ()) (by first | rfl | kernel_rfl) ?_)
  try dsimp only
  refine wpAny_bind (wpAny_specialOf hT norev_str ?_)
  try dsimp only
  refine wpAny_bind ?_
  wp_delta
  refine wpAny_bind (wpAny_isInstance (T := "str") (U := "dict") (b := false) hT (by rw [isSubtype_type]; kernel_rfl) ?_)
  try dsimp only
  try rw [if_neg Bool.false_ne_true]
  try dsimp only
  refine wpAny_bind (wpAny_specialOf hT get_str ?_)
  try dsimp only
  try rw [if_pos (by decide +kernel)]
  refine wpAny_pure ?_
  try dsimp only
  try rw [if_neg (by decide)]
  try dsimp only
  have hsl := sizeLine_eq
  refine wpAny_bind (PySem.P.len_str (by omega) ?_)
  refine wpAny_bind (wpAny_of_eq (a := some ((z.length : Nat) : Int)) rfl ?_)
  try dsimp only
  refine wpAny_bind ?_
  show wpAny _ _ (newObj (.type "reversed") (.fields #[.str z t, rawInt ((z.length : Int) - 1)])) _ _ _
  refine wpAny_newObj_type ?_
  exact wpAny_pure h
theorem call_reversed_str {z : Str} {t : Tok} {Q : Value → Shared → Prop} (hz : z.length ≤ sizeLine)
    (h : Q (.ref s.heap.objs.size) { s with heap := s.heap.push (rsObj z t ((z.length : Int) - 1)), toks := s.toks + 1 + 1 }) : wpAny (model prog w) A (call (.type "reversed") [.str z t]) Q E s := by
  refine callType_codes (Q₁ := fun obj s₁ => s₁.TypeIs obj "reversed" ∧ Q obj s₁) called_rt (F.typeCall_reversed_1 _) F.entry_object_init
    (code_reversed_str (A := A.in1) hz ⟨⟨_, Heap.get?_push_size _ rfl, rfl⟩, h⟩) fun obj s₁ h₁ => ?_
  exact ⟨h₁.1, F.args_object_init_2 obj _, object_init_meets called_rt.init.lookup called_rt.made (by decide) prog w A.in1 _ s₁ ⟨h₁.1, rfl, h₁.2⟩⟩
theorem next_rs_item {it : Addr} {i : Nat} {z : Str} {t : Tok} {c : Nat} {Q : Option Value → Shared → Prop} (hit : IsRs s.heap it z t (i : Int)) (hx : z.cps[i]? = some c) (hsz : z.length ≤ sizeLine)
    (hQ : ∀ h' u tk, IsRs h' it z t ((i : Int) - 1) → Heap.SameBut it s.heap h' → Q (some (.str ⟨#[c]⟩ u)) { s with heap := h', toks := tk }) : wpAny (model prog w) A (pyNext (.ref it)) Q E s := by
  obtain ⟨o, ho, hc, hd⟩ := id hit
  have hi : i < z.length := (Array.getElem?_eq_some_iff.mp hx).1
  have hT : s.TypeIs (.str z t) "str" := typeIs_str s z t
  rw [sizeLine_eq] at hsz
  unfold pyNext
  refine wpAny_bind (wpAny_attempt (wpAny_callSpecial?_slot (name := Str.ofString "__next__") hit.typeIs slot_rt_next
    (wpAny_call_entry slot_rt_next hit.typeIs entry_rt_next ?_ (args_rt_next _))))
  unfold Builtin.«reversed.__next__»
  refine wpAny_bind (wpAny_of_eq (a := (Value.ref it, [])) rfl ?_)
  try dsimp only
  refine wpAny_bind (wpAny_field ho hd (x := .str z t) rfl ?_)
  try dsimp only
  refine wpAny_bind (wpAny_field ho hd (x := rawInt (i : Int)) rfl ?_)
  show wpAny _ _ (if (i : Int) < 0 then _ else _) _ _ s
  rw [if_neg (by omega)]
  try dsimp only
  refine wpAny_bind (wpAny_specialOf hT get_str ?_)
  try dsimp only
  try rw [if_neg (by decide)]
  try dsimp only
  refine wpAny_bind (wpAny_mkInt ?_)
  refine wpAny_bind (wpAny_attempt ?_)
  have fin : seqIndex? (i : Int) z.length = some i := seqIndex_of (by omega) (by omega)
  refine PySem.P.getItem_str (s := { s with toks := s.toks + 1 }) (by simp only [Bool.or_eq_false_iff, decide_eq_false_iff_not]; omega) (c := c) (by rw [fin]; exact hx) ?_
  try dsimp only
  refine wpAny_bind (wpAny_field (s := { s with toks := s.toks + 1 + 1 }) ho hd (x := rawInt (i : Int)) rfl ?_)
  try dsimp only
  refine wpAny_bind (wpAny_setField (s := { s with toks := s.toks + 1 + 1 }) ho hd (by simp) ?_)
  first
  | refine wpAny_pure ⟨_, rfl, wpAny_pure (hQ _ _ _ ?_ (Heap.SameBut.update ..))⟩
  | refine wpAny_bind (wpAny_pure (wpAny_pure ⟨_, rfl, wpAny_pure (hQ _ _ _ ?_ (Heap.SameBut.update ..))⟩))
  exact ⟨_, Heap.get?_update_self _ ho (Obj.isFreed_of_fields (Obj.data_mapFields hd _)), (Obj.cls_mapFields ..).trans hc, by
    rw [Obj.data_mapFields hd]; simp⟩
theorem next_rs_end {it : Addr} {z : Str} {t : Tok} {Q : Option Value → Shared → Prop} (hh : A.handled = none) (hit : IsRs s.heap it z t (-1))
    (hQ : ∀ h', Heap.ExtBut it s.heap h' → Q none { s with heap := h' }) : wpAny (model prog w) A (pyNext (.ref it)) Q E s := by
  obtain ⟨o, ho, hc, hd⟩ := id hit
  unfold pyNext
  refine wpAny_bind (wpAny_attempt (wpAny_callSpecial?_slot (name := Str.ofString "__next__") hit.typeIs slot_rt_next
    (wpAny_call_entry slot_rt_next hit.typeIs entry_rt_next ?_ (args_rt_next _))))
  unfold Builtin.«reversed.__next__»
  refine wpAny_bind (wpAny_of_eq (a := (Value.ref it, [])) rfl ?_)
  try dsimp only
  refine wpAny_bind (wpAny_field ho hd (x := .str z t) rfl ?_)
  try dsimp only
  refine wpAny_bind (wpAny_field ho hd (x := rawInt (-1)) rfl ?_)
  show wpAny _ _ (if (-1 : Int) < 0 then _ else _) _ _ s
  rw [if_pos (by decide)]
  try dsimp only
  refine wpAny_bind (wpAny_rule ?_)
  refine wpAny_bind ?_
  wp_delta
  refine wpAny_bind (wpAny_setField ho hd (by simp) ?_)
  have ho2 := Heap.get?_update_self (Obj.mapFields (·.setIfInBounds 1 (rawInt (-1)))) ho (Obj.isFreed_of_fields (Obj.data_mapFields hd _))
  refine wpAny_setField (s := { s with heap := s.heap.update it (Obj.mapFields (·.setIfInBounds 1 (rawInt (-1)))) }) ho2 (Obj.data_mapFields hd _) (by simp) ?_
  try dsimp only
  first
  | show wpAny _ _ (newExc (.type "StopIteration") [] >>= _) _ _ _
  | (refine wpAny_bind ?_; show wpAny _ _ (newExc (.type "StopIteration") [] >>= _) _ _ _)
  | (refine wpAny_bind ?_; wp_delta; show wpAny _ _ (newExc (.type "StopIteration") [] >>= _) _ _ _)
  refine wpAny_bind ?_
  simp only [newExc, newTuple]
  refine wpAny_bind (wpAny_newObj_type ?_ (by size_fits))
  refine wpAny_bind (m := firstArgMember _ _) (wpAny_of_eq (a := Value.none) (by first | rfl | (simp only [firstArgMember]; rfl)) ?_)
  refine wpAny_newObj_type ?_ (by size_fits)
  simp only [raiseNew]
  refine wpAny_bind (wpAny_handled ?_)
  first | rw [show A.in1.handled = none from hh] | rw [hh]
  refine wpAny_bind (wpAny_pure (wpAny_throw ?_))
  refine wpAny_bind (wpAny_isInstance (T := "StopIteration") (b := true) ⟨_, Heap.get?_push_size _ rfl, rfl⟩ isSubtype_stop ?_)
  refine wpAny_pure (hQ _ ?_)
  refine ((?_ : Heap.ExtBut it s.heap _).push _).push _
  exact fun b ob hb e => (Heap.get?_update_other _ _ (Ne.symm hb)).trans ((Heap.get?_update_other _ _ (Ne.symm hb)).trans e)
theorem iter_rs {it : Addr} {z : Str} {t : Tok} {i : Int} {Q : Value → Shared → Prop} (hit : IsRs s.heap it z t i) (h : Q (.ref it) s) : wpAny (model prog w) A (pyIter (.ref it)) Q E s := by
  refine wpAny_pyIter_slot hit.typeIs slot_rt_iter (wpAny_call_entry slot_rt_iter hit.typeIs entry_rt_iter ?_ (args_rt_iter _))
  show wpAny _ _ (ret (.ref it)) _ _ s
  exact wpAny_pure ⟨_, rfl, "reversed", _, hit.typeIs, slot_rt_next.lookup, h⟩
end
end RL
namespace My
open PySem PySem.Spec PyProof.Rows L2 RL
/-! ### reversed(a text) -/
def Itrs (z : Str) : It :=
  ⟨fun i _ => i < z.cps.size, fun i H v H' => H' = H ∧ ∃ c, v = .str ⟨#[c]⟩ ∧ z.cps[z.cps.size - 1 - i]? = some c, fun i _ => z.cps.size ≤ i⟩
theorem turn_rs {P : Program} {w : World} {K : PySem.W.Frag} {tg : Expr} (z : Str) (t : Tok) (hz : z.length ≤ sizeLine) (it : Addr) : Turn P w K tg (Itrs z) [it] it (fun i h => i ≤ z.cps.size ∧ IsRs h it z t ((z.cps.size : Int) - 1 - (i : Nat))) where
  mem := by simp
  obj := fun i h st b hb => by
    have e : b = it := by simpa using hb
    subst e
    obtain ⟨_, o, e, c, d⟩ := st
    exact ⟨o, e, fun v z => by rw [d] at z; cases z⟩
  keep := fun i h h' st k => ⟨st.1, st.2.at fun o e => k it (by simp) o e⟩
  item := by
    intro X hP hw hK hc i pins s σ H E I hf st hg
    subst hP hw hK
    have hin : i < z.cps.size := hg
    have hlt : z.cps.size - 1 - i < z.cps.size := by omega
    obtain ⟨c, hx⟩ : ∃ c, z.cps[z.cps.size - 1 - i]? = some c := ⟨_, Array.getElem?_eq_getElem hlt⟩
    obtain ⟨f0, f1, f2, f3, f4, f5⟩ := hf it (by simp)
    obtain ⟨_, hit⟩ := st
    have e1 : (z.cps.size : Int) - 1 - ((i : Nat) : Int) = ((z.cps.size - 1 - i : Nat) : Int) := by omega
    rw [e1] at hit
    refine next_rs_item hit hx hz fun h' u tk st' sb => ?_
    have e2 : ((z.cps.size - 1 - i : Nat) : Int) - 1 = (z.cps.size : Int) - 1 - ((i + 1 : Nat) : Int) := by omega
    rw [e2] at st'
    have I1 : Inv X pins σ H { s with heap := h', toks := tk } := I.turned (t' := tk) (fun b o hb e => (sb.2 b hb).trans e) f0 f1 f3 f4 f5
    obtain ⟨o, e, c', d⟩ := id st'
    exact ⟨_, rfl, go_of (s := { s with heap := h', toks := tk }) e c' d (by decide) ⟨.str ⟨#[c]⟩, H, I1, ⟨u, rfl⟩, ⟨rfl, c, rfl, hx⟩, ⟨hin, st'⟩, fun b hb => (hf b hb).1⟩⟩
  done := by
    intro X hP hw hK hc i pins s σ H E I hf st hg
    subst hP hw hK
    obtain ⟨f0, f1, f2, f3, f4, f5⟩ := hf it (by simp)
    obtain ⟨hin, hit⟩ := st
    have hge : z.cps.size ≤ i := hg
    have e1 : (z.cps.size : Int) - 1 - ((i : Nat) : Int) = -1 := by omega
    rw [e1] at hit
    exact next_rs_end (I.ok.hd hc) hit fun h' eb => ⟨rfl, I.turned (t' := s.toks) (fun b o hb e => eb b o hb e) f0 f1 f3 f4 f5⟩
  self := fun A i s Q E st h => iter_rs st.2 h
def iRevS (te : TE) : TI := fun σ H R => te σ H fun v H1 => ∃ z, v = .str z ∧ z.length ≤ sizeLine ∧ R (Itrs z) H1
theorem pi_revS {X : Cx} {tg : Expr} {e : Expr} {te : TE} {p pos : Pos} (hm : X.mg "reversed" = none) (he : PE X e te) (hg : Gl X "reversed" := by rfl) (hs : starEach [e] X.env = (false, eval e X.env) :: starEach [] X.env := by rfl) :
    PI X tg (.Call (.Name "reversed" p) [e] [] pos) (iRevS te) := by
  refine ⟨fun pins s σ H R I h => ?_⟩
  refine Call_ (ld_blt I hg hm PyProof.Rows.boot_reversed (PyProof.Rows.callWith_type1 (args_cons (thn (he.run pins s σ H _ I h) fun u s1 ⟨v, H1, I1, r1, z, ez, hz, q⟩ => args_nil ?_) hs) hs rfl))
  subst ez
  obtain ⟨t, rfl⟩ := r1
  have e1 : ((z.length : Nat) : Int) - 1 = (z.cps.size : Int) - 1 - ((0 : Nat) : Int) := by show ((z.cps.size : Nat) : Int) - 1 = _; omega
  refine call_reversed_str hz (iter_rs (z := z) (t := t) (i := ((z.length : Nat) : Int) - 1) ⟨_, Heap.get?_push_size _ rfl, rfl, rfl⟩ ?_)
  refine pi_one (tk := s1.toks + 1 + 1) I1 _ (turn_rs z t hz _) ⟨Nat.zero_le _, ?_⟩ q
  rw [← e1]
  exact ⟨_, Heap.get?_push_size _ rfl, rfl, rfl⟩
/-! ### text[::-1] -/
def revS (z : Str) : Str := ⟨z.cps.toList.reverse.toArray⟩
def tRevS (te : TE) : TE := fun σ H Q => te σ H fun x H1 => ∃ z, x = .str z ∧ z.length ≤ sizeLine ∧ Q (.str (revS z)) H1
theorem rev_idx (n : Nat) : Builtin.Str.strSliceIndices none none (-1) n = (List.range n).reverse := by
  show sliceRange ((n : Int) - 1) (-1) (-1) = _
  rw [PySem.W.krv_sliceRange, PySem.W.krv_range]
theorem pe_revS {X : Cx} {e : Expr} {te : TE} {k : Nat} {p1 p2 p3 pos : Pos} (he : PE X e te) : PE X (.Subscript e (.Slice none none (some (.UnaryOp .USub (.Constant (.int 1) k p1) p2)) p3) pos) (tRevS te) := by
  refine ⟨fun pins s σ H Q I h => ?_⟩
  refine Subscript_ (thn (he.run pins s σ H _ I h) fun v s1 ⟨x, H1, I1, r1, q1⟩ => ?_)
  obtain ⟨z, ex, hz, q⟩ := q1
  subst ex
  obtain ⟨t, rfl⟩ := r1
  have hst : PO X (some (.UnaryOp .USub (.Constant (.int 1) k p1) p2)) (tPart (tUn (rU fun i => .int (-i)) (tC (.int 1)))) := po_some (pe_un un_neg pe_int)
  refine wpAny_Slice (thn (po_none.run pins s1 σ H1 (fun o H2 => o = none ∧ H2 = H1) I1 ⟨rfl, rfl⟩) fun vl s2 ⟨l, H2, I2, pl, el, e2⟩ => ?_)
  subst el e2
  refine thn (po_none.run pins s2 σ H2 (fun o H3 => o = none ∧ H3 = H2) I2 ⟨rfl, rfl⟩) fun vu s3 ⟨u, H3, I3, pu, eu, e3⟩ => ?_
  subst eu e3
  refine thn (hst.run pins s3 σ H3 (fun o H4 => o = some (-1) ∧ H4 = H3) I3 ⟨1, rfl, -1, rfl, rfl, rfl⟩) fun vs s4 ⟨o, H4, I4, ps, eo, e4⟩ => ?_
  subst eo e4
  obtain ⟨l, rfl, el⟩ := IsPart.raw pl
  obtain ⟨u, rfl, eu⟩ := IsPart.raw pu
  obtain ⟨st, rfl, es⟩ := IsPart.raw ps
  obtain rfl : l = none := by cases l with | none => rfl | some _ => exact nomatch el
  obtain rfl : u = none := by cases u with | none => rfl | some _ => exact nomatch eu
  have I5 : Inv X pins σ H4 { s4 with heap := s4.heap.push { cls := .type "slice", data := .fields #[partValue none, partValue none, partValue st] } } := I4.kept (t' := s4.toks) fun b ob q => Heap.get?_push_of_some _ q
  show wpAny (model X.prog X.w) X.A (subscriptTail e (.Slice none none (some (.UnaryOp .USub (.Constant (.int 1) k p1) p2)) p3) (.str z t) (.ref s4.heap.objs.size)) (EP X pins σ Q) X.xe { s4 with heap := s4.heap.push { cls := .type "slice", data := .fields #[partValue none, partValue none, partValue st] } }
  refine tail_any (ops := [.str z t, .ref s4.heap.objs.size]) (typeIs_str _ z t) (F.slot_str_getitem.lookup) ?_ (by with_unfolding_all rfl)
  refine wpAny_getItem_str_slice (l := none) (u := none) (st := st) ⟨_, Heap.get?_push_size _ rfl, rfl, rfl⟩ (by rw [es]; rfl) ?_
  have em : sliceMade z t none none st = .str (revS z) := by
    unfold sliceMade slicePicked
    rw [es]
    show (if ((-1 : Int) == 1 && _) = true then _ else _) = _
    rw [if_neg (by intro h; exact absurd (Bool.and_eq_true_iff.mp h).1 (by decide))]
    show Made.str ⟨((Builtin.Str.strSliceIndices none none (-1) z.length).filterMap (z.cps[·]?)).toArray⟩ = _
    rw [rev_idx, List.filterMap_reverse]
    have := PySem.W.krv_all z.cps
    rw [show z.length = z.cps.size from rfl, this]
    rfl
  rw [em]
  refine ⟨?_, .str _, H4, I5.tok _, ⟨_, rfl⟩, q⟩
  show (z.cps.toList.reverse.toArray).size ≤ sizeLine
  rw [List.size_toArray, List.length_reverse, Array.length_toList]
  exact hz
/-! ### text * int -/
def mulS (z : Str) (n : Nat) : Str := ⟨((List.replicate n z.cps.toList).flatten).toArray⟩
def rMulS : V → V → Hp → VK → Prop := fun x y H Q => ∃ z n, x = .str z ∧ y = .int ((n : Nat) : Int) ∧ z.length ≤ 1000 ∧ n ≤ 1000 ∧ Q (.str (mulS z n)) H
theorem fold_app : ∀ (l : List (Array Nat)) (a : Array Nat), l.foldl (· ++ ·) a = a ++ ((l.map Array.toList).flatten).toArray
  | [], a => by simp
  | x :: l, a => by
    rw [List.foldl_cons, fold_app l]
    apply Array.toList_inj.mp
    simp
theorem op_mulS {X : Cx} : OpR X (binaryOp .Mult) rMulS := by
  intro pins s σ H x y v u Q I rx ry h
  obtain ⟨z, n, rfl, rfl, hz, hn, q⟩ := h
  obtain ⟨t, rfl⟩ := rx
  obtain ⟨t', rfl⟩ := ry
  have hm : z.length * n ≤ 1000000 := Nat.mul_le_mul hz hn
  have hsl := sizeLine_eq
  have hb1 : ¬ ((n : Int) < -(2 ^ 63 : Int)) := by omega
  have hb2 : ¬ ((n : Int) ≥ 2 ^ 63) := by omega
  refine PySem.P.mul_str (by rw [decide_eq_false hb1, decide_eq_false hb2]; rfl) (fun h1 _ => ?_) (fun h1 _ => ?_) ?_
  · intro h2
    have h3 : (1 : Int) ≤ n := by omega
    have h4 : (z.length : Int) ≤ (2 ^ 63 - 1) / (n : Int) := by
      rw [Int.le_ediv_iff_mul_le (by omega)]
      have this : ((z.length * n : Nat) : Int) ≤ ((1000000 : Nat) : Int) := Int.ofNat_le.mpr hm
      rw [Int.natCast_mul] at this
      omega
    omega
  · rw [Int.toNat_natCast]
    exact decide_eq_false (by omega)
  · have em : mulS z n = ⟨(List.replicate n z.cps).foldl (· ++ ·) #[]⟩ := by
      unfold mulS
      rw [fold_app]
      congr 1
      rw [List.map_replicate]
      simp
    have hlen : (mulS z n).length ≤ sizeLine := by
      show ((List.replicate n z.cps.toList).flatten).toArray.size ≤ sizeLine
      rw [List.size_toArray, List.length_flatten, List.map_replicate, List.sum_replicate_nat, Array.length_toList]
      have : n * z.cps.size ≤ 1000000 := by rw [Nat.mul_comm]; exact hm
      omega
    split
    · rename_i h1
      have h0 : n = 0 := by omega
      subst h0
      exact ⟨by decide, .str _, H, I.tok _, ⟨_, rfl⟩, q⟩
    · split
      · rename_i h1 h2
        have : mulS z n = z := by
          rw [Bool.or_eq_true] at h2
          rcases h2 with h2 | h2
          · have h3 : (n : Int) = 1 := eq_of_beq h2
            have h3 : n = 1 := by omega
            subst h3
            simp [mulS]
          · have h3 : z.length = 0 := eq_of_beq h2
            have h4 : z.cps = #[] := Array.eq_empty_of_size_eq_zero h3
            cases z with
            | mk c =>
              have h4 : c = #[] := h4
              subst h4
              simp [mulS]
        rw [this] at q
        exact ⟨.str z, H, I, ⟨t, rfl⟩, q⟩
      · rw [Int.toNat_natCast, ← em]
        exact ⟨hlen, .str _, H, I.tok _, ⟨_, rfl⟩, q⟩
end My

/-! Rl4: a def where a token is out: for, if e.replace(..) != text. -/
namespace My
open PySem PySem.Spec PyProof.Rows L2 CwR
theorem PSsT.nox {X : Cx} {st : List Stmt} {t : TS} (h : PSsT X.nox st t) : PSsT X st t := fun pins s σ H D h0 I hw =>
  wpAny_mono (h pins s σ H D h0 (I.wish _) hw) (fun _ _ q => q.unwish) fun _ _ z => False.elim z
theorem has_mkT {P : Program} {w : World} {K : PySem.W.Frag} {mg : Str → Option Value} {base : Heap} {x : Str} {ps N : List Str} {k : Nat} {sp : Sp} {params : Arguments} {body : List Stmt} {scope : Scope} {f : Addr}
    (hm : mg x = some (.ref f)) (hF : ∃ fd, FunD K x x params body scope [] [] f fd) (S : FnScope N ps scope) (len : ∀ vs H Q E, sp vs H Q E → vs.length = ps.length)
    (hnc : ∀ y ∈ scope.names, y.2 ≠ .cell) (hps : 1 ≤ ps.length)
    (bd : ∀ (kV doc pm : Value) (an : Option Addr) (cdv ct : Value) (us : List Value), us.length = ps.length → bindArgs (PySem.W.fnOf x x params body scope .none kV doc pm an cdv ct) ⟨us, []⟩ = pure (ps.zip us))
    (hb : ∀ (cdv : Value) (A : Around) (outer : List Env) (s : Shared) (H : Hp) (vs : List V) (Q : VK) (E : XK), Room k (A.deeper (envOfC x scope s.heap.objs.size f cdv)) → sp vs H Q E →
      ∃ t, PSsT (cxOf CX0 P w K mg base N x scope f cdv A outer s H E).nox body t ∧ t { nx := fun _ H' => Q .non H', rt := Q } (start N vs) H) : Has P w K mg base x ps (k + 1) sp := by
  obtain ⟨fd, F⟩ := hF
  obtain ⟨oc, od, dV, kV, doc, pm, an, cdv, ct, osl, e, lk, hcd, h4, h5⟩ := F.ex
  refine ⟨f, fd, hm, F.kp, F.bindsN bd, ?_⟩
  subst e
  refine fn_ofT lk hcd S hnc hps len fun A outer s H vs Q E hr h => ?_
  obtain ⟨t, h1, h2⟩ := hb cdv A outer s H vs Q E hr h
  exact ⟨t, PSsT.nox h1, h2⟩
theorem thnT {α : Type} {M : Model} {A : Around} {t : Sem α} {Q Q' : α → Shared → Prop} {E : Value → Shared → Prop} {s : Shared} {n : Nat} (hn : n ≤ s.toks) (h : wpAny M A t Q E s) (f : ∀ a s', n ≤ s'.toks ∧ Q a s' → Q' a s') : wpAny M A t Q' E s :=
  wpAny_mono (wpAny_toks_of hn h) f fun _ _ z => z.2
section
variable {X : Cx} {pos : Pos}
theorem pst_forT {tg iter : Expr} {body : List Stmt} {wi : TI} {g : TG} {tb : TS} (hp : PassesOwn (model X.prog X.w) X.A X.env X.xe) (hc : X.calm = true) (hi : PI X tg iter wi) (hg : PG X tg g) (hb : PSsT X body tb)
    (hs : ∀ x, foldedSetIterable iter X.env x = pure x := by intro _; rfl) : PST X (.For tg iter body [] pos) (tFor wi g tb) := by
  intro pins s σ H D h0 I h
  refine wpAny_For (thnT h0 (hi.run pins s σ H _ I h) fun v s1 ⟨t1, h1⟩ => thnT t1 h1 fun itv s2 ⟨t2, h2⟩ => ?_) hs
  obtain ⟨it, fp, tn, J, H2, e, I2, T, st2, f2, W, ⟨m0, w0⟩, turn⟩ := h2
  subst e
  have stat : ∀ {H' : Hp}, (∀ b ∈ fp, H' b = none) → ∀ b ∈ fp, FpOk X pins H' b := fun hn b hb => ⟨hn b hb, (f2 b hb).2⟩
  refine codeAny_forLoop_any (fun n s' => 1 ≤ s'.toks ∧ ∃ i σ' H', Inv X pins σ' H' s' ∧ tn i s'.heap ∧ (∀ b ∈ fp, H' b = none) ∧ W i n σ' H') ?_ m0 ⟨t2, 0, σ, H2, I2, st2, fun b hb => (f2 b hb).1, w0⟩
  rintro n s3 ⟨t3, i, σ3, H3, I3, st3, fr3, w3⟩
  rcases turn i n σ3 H3 w3 with ⟨stop, qn⟩ | ⟨go, N, hN, step⟩
  · refine wpAny_passesOwn hp (thn (T.done X rfl rfl rfl hc i pins s3 σ3 H3 X.xe I3 (stat fr3) st3 stop) fun r s4 ⟨hr, I4⟩ => ?_)
    subst hr
    exact wpAny_execs_nil ⟨σ3, H3, I4, qn⟩
  · refine wpAny_passesOwn hp (thnT t3 (T.item X rfl rfl rfl hc i pins s3 σ3 H3 X.xe I3 (stat fr3) st3 go) fun r s4 ⟨t4, u, hr, h4⟩ => ?_)
    subst hr
    refine wpAny_passesOwn hp (thnT t4 h4 fun _ s5 ⟨t5, x, H5, I5, r5, y5, st5, fr5⟩ => ?_)
    have I5' := I5.pinned (stat fr5) (T.obj _ _ st5)
    refine wpAny_passesOwn hp (thnT t5 (hg.run _ s5 σ3 H5 x u _ I5' r5 (step x H5 y5)) fun _ s6 ⟨t6, σ6, H6, I6, q6⟩ => ?_)
    refine wpAny_passesOwn hp (thnT t6 (hb _ s6 σ6 H6 _ t6 I6 q6) fun f s7 ⟨t7, q7⟩ => ?_)
    have again : ∀ {σ7 : L2.St} {H7 : Hp}, Inv X (pins ++ pinsAt fp s5.heap) σ7 H7 s7 → N σ7 H7 → ∃ m, m < n ∧ 1 ≤ s7.toks ∧ ∃ i σ' H', Inv X pins σ' H' s7 ∧ tn i s7.heap ∧ (∀ b ∈ fp, H' b = none) ∧ W i m σ' H' := fun {σ7 H7} I7 n7 => by
      obtain ⟨m', hm, w7⟩ := hN σ7 H7 n7
      refine ⟨m', hm, t7, i + 1, σ7, H7, I7.unpinned, T.keep _ _ _ st5 fun b hb o e => (I7.pin (b, o) (List.mem_append_right _ (List.mem_append_right _ (mem_pinsAt hb e)))).1, fun b hb => ?_, w7⟩
      obtain ⟨o, e, d⟩ := T.obj _ _ st5 b hb
      exact (I7.pin (b, o) (List.mem_append_right _ (List.mem_append_right _ (mem_pinsAt hb e)))).2.1
    cases f with
    | next => obtain ⟨σ7, H7, I7, n7⟩ := q7; exact again I7 n7
    | cont => obtain ⟨σ7, H7, I7, n7⟩ := q7; exact again I7 n7
    | brk => obtain ⟨σ7, H7, I7, q7⟩ := q7; exact ⟨σ7, H7, I7.unpinned, q7⟩
    | ret v => obtain ⟨x7, σ7, H7, I7, r7, q7⟩ := q7; exact ⟨x7, σ7, H7, I7.unpinned, r7, q7⟩
theorem pst_ifR {op : CmpOp} {r : R2} {a b : Expr} {ta tb : TE} {p : Pos} {ss : List Stmt} {t : TS} (ho : OpR X (compareOp op) r) (ha : PET X a ta) (hb : PE X b tb) (hm : behindInMarks op b = false) (hs : PSs X ss t) :
    PST X (.If (.Compare a [op] [b] p) ss [] pos) (tIfS (tTest (tOp r ta tb)) t tNext) := by
  intro pins s σ H D h0 I h
  refine wpAny_If (wpAny_isTrue_Compare1 (thn (ha pins s σ H _ h0 I h) fun v s1 ⟨x, H1, I1, r1, q1⟩ => thn (hb.run pins s1 σ H1 _ I1 q1) fun u s2 ⟨y, H2, I2, r2, q2⟩ =>
    thn (ho pins s2 σ H2 x y v u _ I2 r1 r2 q2) fun c s3 ⟨z, H3, I3, r3, k, e, q3⟩ => ?_) hm)
  subst e
  cases r3
  refine wpAny_truthy_bool ?_
  cases k with
  | true => exact hs.run pins s3 σ H3 D I3 q3
  | false => exact wpAny_execs_nil ⟨σ, H3, I3, q3⟩
end
/-! ### e.replace(..), as a word on data -/
section
variable {K : PySem.W.Frag} {σ : L2.St} {H : Hp} {to : TE}
theorem ev_replC {x y z : Str} (h : Ev K to σ H (.t (.str x))) (hx : x.length + (x.length + 1) * z.length ≤ 16777216) : Ev K (tReplC to y z) σ H (.t (.str (Txt.replace x y z))) := fun H1 s Q q =>
  h H1 s _ fun v H2 s2 hv => ⟨x, Td.str_of hv, hx, q _ H2 s2 (Td.str _)⟩
end
end My

/-! Rl5: sorted(set(a list of ints)) (turned from the kit's rule for tuples). -/
namespace RL
open PySem PySem.Spec PyProof.Rows L2
section
variable {P : Program} {w : World} {A : Around} {E : Value → Shared → Prop} {s : Shared}
theorem call_set_lstI {l : Addr} {items : Array Value} (ns : List Int) {Q : Value → Shared → Prop} (hh : A.handled = none) (hl : s.heap.IsList l items) (hit : IntsAre items.toList ns) (hb : ns.length + 1 < scanBound)
    (h : ∀ (h' : Heap) (tk c : Nat), SetR w h' s.heap.objs.size (fun j => decide (j ∈ ns)) c → c ≤ ns.length → (∀ b o, s.heap.get? b = some o → h'.get? b = some o) → Q (.ref s.heap.objs.size) { s with heap := h', toks := tk }) :
    wpAny (model P w) A (call (.type "set") [.ref l]) Q E s := by
  have hisz : items.size = ns.length := by
    have q := IntsAre.length hit
    rw [Array.length_toList] at q
    exact q
  obtain ⟨c, tl, hmro⟩ := F.called_set.mro
  have hmade := F.called_set.made
  have hsub := F.called_set.sub
  refine wpAny_call (codeAny_of_tree ?_)
  show wpAny _ _ (callAny (.type "set") _) _ _ _
  refine wpAny_pure ⟨Code.quiet_builtin _ (by decide +kernel), codeAny_builtin F.entry_type_call ?_⟩
  rw [Around.under_plain (weight_type_call_type "set" [.ref l] []) rfl]
  have h1 := F.called_set.notType
  have h2 := F.called_set.canCreate
  have hct := F.typeCall_set_1 (.ref l)
  repeat (any_goals (first | assumption | wp_step))

  refine codeAny_mono (code_set_led1 (.ref l) (E := E) (Q₁ := fun obj s₁ => obj = .ref s.heap.objs.size ∧ s₁ = { s with heap := s.heap.push { cls := .type "set", dict := none, data := .set #[] 0 (.fresh 0 0 (!w.params.followText "set-order")) } }) ⟨rfl, rfl⟩) fun r s₁ hr => ?_
  cases r with
  | error e => exact hr
  | ok fl =>
    cases fl with
    | ret obj =>
      obtain ⟨rfl, rfl⟩ := hr
      have hS : (s.heap.push { cls := .type "set", dict := none, data := .set #[] 0 (.fresh 0 0 (!w.params.followText "set-order")) }).get? s.heap.objs.size = some { cls := .type "set", dict := none, data := .set #[] 0 (.fresh 0 0 (!w.params.followText "set-order")) } := Heap.get?_push_size _ rfl
      have hT : Shared.TypeIs { s with heap := s.heap.push { cls := .type "set", dict := none, data := .set #[] 0 (.fresh 0 0 (!w.params.followText "set-order")) } } (.ref s.heap.objs.size) "set" := ⟨_, hS, rfl⟩
      have hli := F.called_set.init.lookup
      have hbi := F.called_set.init.bind (.ref s.heap.objs.size)
      repeat (any_goals (first | assumption | wp_step))

      refine codeAny_mono (codeAny_call_builtin (R := wants (fun r s₂ => r = .none ∧ ∃ h' tk c, s₂ = { s with heap := h', toks := tk } ∧ SetR w h' s.heap.objs.size (fun j => decide (j ∈ ns)) c ∧ c ≤ ns.length ∧
          (∀ b o, s.heap.get? b = some o → h'.get? b = some o)) E) F.called_set.init.plain F.entry_set_init (check_set_init_1 hT ?_)) fun r₂ s₂ hr₂ => ?_
      · obtain ⟨ol, hol, hcl, nl, hdl⟩ := hl
        obtain ⟨ocls, odict, odata, oslots⟩ := ol
        simp only at hcl hdl
        subst hcl; subst hdl
        have hol' : (s.heap.push { cls := .type "set", dict := none, data := .set #[] 0 (.fresh 0 0 (!w.params.followText "set-order")) }).get? l = some { cls := .type "list", dict := odict, data := .seq items nl, slots := oslots } := Heap.get?_push_of_some _ hol
        have hsls : isSubtype (.type "list") (.type "set") = pure false := by rw [isSubtype_type]; kernel_rfl
        have hslf : isSubtype (.type "list") (.type "frozenset") = pure false := by rw [isSubtype_type]; kernel_rfl
        have hne : (Value.type "list" == Value.type "dict") = false := by decide
        have hl1 : (s.heap.push { cls := .type "set", dict := none, data := .set #[] 0 (.fresh 0 0 (!w.params.followText "set-order")) }).IsList l items := ⟨_, hol', rfl, nl, rfl⟩
        unfold Builtin.«set.__init__» noKeywords Builtin.Frozenset.updateFrom
        generalize hPI : pyIter = PI
        wp_walk
        subst hPI

        refine wpAny_pyIter_list hl1 ?_
        refine wpAny_bind (wpAny_runValue ?_)
        have hlS : l < s.heap.objs.size := Heap.lt_size hol
        have hh3 : A.in1.in1.in1.handled = none := by simp [hh]
        have hz1 : (s.heap.push { cls := .type "set", dict := none, data := .set #[] 0 (.fresh 0 0 (!w.params.followText "set-order")) }).objs.size = s.heap.objs.size + 1 := Heap.size_push ..
        have hneI : l ≠ (s.heap.push { cls := .type "set", dict := none, data := .set #[] 0 (.fresh 0 0 (!w.params.followText "set-order")) }).objs.size := by
          rw [Heap.size_push]; exact Nat.ne_of_lt (Nat.lt_succ_of_lt hlS)
        have hSf : s.heap.objs.size ∉ [(s.heap.push { cls := .type "set", dict := none, data := .set #[] 0 (.fresh 0 0 (!w.params.followText "set-order")) }).objs.size, l] := by
          rw [Heap.size_push]; simp only [List.mem_cons, List.mem_singleton, List.not_mem_nil, or_false, not_or]
          exact ⟨Nat.ne_of_lt (Nat.lt_succ_self _), Nat.ne_of_gt hlS⟩
        have hval : ∀ (i : Nat) (v : Value), items[i]? = some v → ∃ k t, ns[i]? = some k ∧ v = .int k t := fun i v hv => by
          have hi : i < ns.length := by rw [← hisz]; exact (Array.getElem?_eq_some_iff.mp hv).1
          obtain ⟨t, e⟩ := PyProof.Rows.IntsAre.int_at hit i v (by rw [Array.getElem?_toList]; exact hv)
          refine ⟨ns[i], t, List.getElem?_eq_getElem hi, ?_⟩
          rw [e, List.getD_eq_getElem?_getD, List.getElem?_eq_getElem hi] <;> rfl
        refine set_update_ints ((Walks.list hh3 _ l hneI items).toS) s.heap.objs.size
          hSf ns hisz hb hval (items.size - 0) 0 _ (by omega) (Nat.zero_le _)
          ⟨⟨_, Heap.get?_push_size _ rfl, rfl, rfl⟩, (hl1.push _)⟩ ?hS0 ?hR
        case hS0 =>
          have hget : ((s.heap.push { cls := .type "set", dict := none, data := .set #[] 0 (.fresh 0 0 (!w.params.followText "set-order")) }).push { cls := .type "list_iterator", data := .fields #[.ref l, .int 0 0] }).get? s.heap.objs.size
              = some { cls := .type "set", dict := none, data := .set #[] 0 (.fresh 0 0 (!w.params.followText "set-order")) } := Heap.get?_push_of_some _ hS
          exact ⟨0, Nat.le_refl 0, setR_new_at hget⟩
        case hR =>
          intro s' c' hm hc' hS'
          obtain ⟨h', g2, d', tk', os'⟩ := s'
          have eg : g2 = s.gens := hm.gens
          have ed : d' = s.drawn := hm.drawn
          have eo : os' = s.os := hm.os
          subst eg; subst ed; subst eo
          show wpAny _ _ _ _ _ _
          refine wpAny_pure ?_
          show wpAny _ _ (ret Value.none) _ _ _
          rw [hisz] at hc'
          refine wpAny_pure ⟨rfl, h', tk', c', rfl, hS', hc', fun b o e => ?_⟩
          have hb0 : b < s.heap.objs.size := Heap.lt_size e
          have hb1 : b ≠ s.heap.objs.size := Nat.ne_of_lt hb0
          have hb2 : b ≠ (s.heap.push { cls := .type "set", dict := none, data := .set #[] 0 (.fresh 0 0 (!w.params.followText "set-order")) }).objs.size := by
            rw [Heap.size_push]; exact Nat.ne_of_lt (Nat.lt_succ_of_lt hb0)
          exact hm.heap b o (by simp only [List.mem_cons, List.mem_singleton, List.not_mem_nil, or_false, not_or]; exact ⟨hb1, hb2⟩) (Heap.get?_push_of_some _ (Heap.get?_push_of_some _ e))

      · cases r₂ with
        | error e => exact hr₂
        | ok fl₂ =>
          cases fl₂ with
          | ret r =>
            obtain ⟨rfl, h', tk, c', rfl, hS', hc', hk'⟩ := hr₂
            repeat (any_goals (first | assumption | wp_step))
            exact h _ _ _ hS' hc' hk'
          | _ => exact hr₂.elim
    | _ => exact hr.elim

end
end RL

namespace My
open PySem PySem.Spec PyProof.Rows L2 RL
/-! ### what a rising row of all below N is -/
theorem nodup_le : ∀ (N : Nat) (l : List Int), l.Nodup → (∀ k ∈ l, 0 ≤ k ∧ k < (N : Nat)) → l.length ≤ N
  | 0, [], _, _ => Nat.le_refl _
  | 0, x :: l, _, h => by have := h x List.mem_cons_self; omega
  | N + 1, l, hn, h => by
    by_cases hm : ((N : Nat) : Int) ∈ l
    · have h1 := nodup_le N (l.erase N) (hn.erase _) (fun k hk => by
        have h2 := h k (List.mem_of_mem_erase hk)
        have h3 : k ≠ (N : Int) := fun z => by rw [z] at hk; exact hn.not_mem_erase hk
        omega)
      rw [List.length_erase_of_mem hm] at h1
      omega
    · have h1 := nodup_le N l hn (fun k hk => by
        have h2 := h k hk
        have h3 : k ≠ (N : Int) := fun z => by rw [z] at hk; exact hm hk
        omega)
      omega
theorem rise_eq : ∀ (N a : Nat) (l : List Int), l.Pairwise (· < ·) → (∀ k : Int, k ∈ l ↔ (a : Nat) ≤ k ∧ k < ((a + N : Nat) : Int)) → l = (List.range N).map fun i => ((a + i : Nat) : Int)
  | 0, a, [], _, _ => rfl
  | 0, a, x :: l, _, h => by have := (h x).1 List.mem_cons_self; omega
  | N + 1, a, [], _, h => by have := (h a).2 ⟨by omega, by omega⟩; cases this
  | N + 1, a, x :: l, hp, h => by
    obtain ⟨h1, h2⟩ := List.pairwise_cons.mp hp
    have hx : x = (a : Int) := by
      have h3 := (h x).1 List.mem_cons_self
      rcases List.mem_cons.mp ((h a).2 ⟨by omega, by omega⟩) with z | z
      · exact z.symm
      · have := h1 _ z
        omega
    subst hx
    have ih := rise_eq N (a + 1) l h2 fun k => by
      constructor
      · intro hk
        have h4 := (h k).1 (List.mem_cons_of_mem _ hk)
        have h5 := h1 k hk
        omega
      · intro hk
        rcases List.mem_cons.mp ((h k).2 (by omega)) with z | z
        · omega
        · exact z
    rw [List.range_succ_eq_map, List.map_cons, List.map_map, ih, Nat.add_zero]
    congr 1
    refine List.map_congr_left fun i _ => ?_
    show ((a + 1 + i : Nat) : Int) = ((a + (i + 1) : Nat) : Int)
    omega
theorem rise_all {N : Nat} {l : List Int} (hp : l.Pairwise (· < ·)) (h : ∀ k : Int, k ∈ l ↔ 0 ≤ k ∧ k < (N : Nat)) : l = (List.range N).map fun i => ((i : Nat) : Int) := by
  have e := rise_eq N 0 l hp fun k => by rw [h k]; omega
  rw [e]
  exact List.map_congr_left fun i _ => by rw [Nat.zero_add]
section
variable {X : Cx}
/-- set(a list of ints that are all below N) -/
def rSetL (K : PySem.W.Frag) (w : World) : List V → Hp → VK → Prop := fun xs H Q => ∃ (a : Addr) (ns : List Int) (N : Nat), xs = [.ref a] ∧ SqL K H a (ns.map V.int) ∧ ns.length ≤ 1000 ∧ (∀ k ∈ ns, 0 ≤ k ∧ k < (N : Nat)) ∧
  ∀ p n, n ≤ N → H p = none → Q (.ref p) (upd H p (SetO w p (fun j => decide (j ∈ ns)) n))
theorem cr_setL (hc : X.calm = true) : CallR X (.type "set") (rSetL X.K X.w) := by
  intro pins s σ H xs us Q I r h
  obtain ⟨a, ns, N, rfl, hq, hl, hN, q⟩ := h
  rw [Vals.ref1 r]
  obtain ⟨its, rv, pt, hz⟩ := I.list hq
  have hi : IntsAre its.toArray.toList ns := ints_of_vals rv
  refine call_set_lstI ns (I.ok.hd hc) pt.isList hi (by unfold scanBound; omega) fun h' tk c R hcn k => ?_
  have hcN : c ≤ N := by
    obtain ⟨o, es, ep, t, ho, hex, hd, g, nd, hm, hb, hf, hn, _⟩ := R
    have h1 := nodup_le N (es.toList.map keyOf) nd fun j hj => hN j (by have := (hm j).2 hj; exact of_decide_eq_true this)
    rw [List.length_map, Array.length_toList, hn] at h1
    exact h1
  exact ⟨.ref _, upd H s.heap.objs.size (SetO X.w s.heap.objs.size (fun j => decide (j ∈ ns)) c), I.laid (t' := tk) k (Nat.le_refl _) (setO_new R), rfl, q _ c hcN (I.hok.fresh (Nat.le_refl _))⟩
theorem cr_setLK {K : PySem.W.Frag} {w : World} (hc : X.calm = true) (hK : X.K = K := by rfl) (hw : X.w = w := by rfl) : CallR X (.type "set") (rSetL K w) := by
  subst hK hw
  exact cr_setL hc
theorem cr_sortedSetK {w : World} (hc : X.calm = true) (hw : X.w = w := by rfl) : CallR X (.builtin "sorted") (rSortedSet w) := by
  subst hw
  exact cr_sortedSet hc
end
def upto (N : Nat) : List PyData := (List.range N).map fun i => PyData.int (i : Nat)
section
variable {K : PySem.W.Frag} {w : World} {σ : L2.St} {H : Hp} {te : TE}
theorem ef_sortedSet {ns : List Int} {N : Nat} (h : Ev K te σ H (.l (ns.map PyData.int))) (hl : ns.length ≤ 1000) (hN : N < 64) (hm : ∀ k : Int, k ∈ ns ↔ 0 ≤ k ∧ k < (N : Nat)) :
    Ef (tCB (rSortedSet w) (tCons (tCB (rSetL K w) (tCons te tNil)) tNil)) σ H (upto N) := fun H1 s Q q =>
  h H1 s _ fun v H2 s2 ⟨a, xs, e, hs, ht⟩ => by
    obtain rfl := TdAll.ints_of ht
    subst e
    refine ⟨a, ns, N, rfl, hs, hl, fun k hk => (hm k).1 hk, fun p n hn hp => ?_⟩
    refine ⟨p, _, n, rfl, upd_same, Nat.lt_of_le_of_lt hn hN, fun ys p2 h1 h2 h3 h4 => ?_⟩
    have e := rise_all (N := N) h1 fun k => by rw [h2 k, decide_eq_true_eq, hm k]
    subst e
    have hp2 : p2 ≠ p := fun z => by rw [z, upd_same] at h4; cases h4
    have hp3 : H2 p2 = none := by rw [upd_ne hp2] at h4; exact h4
    have s3 : Same H2 (upd (upd H2 p (SetO w p (fun j => decide (j ∈ ns)) n)) p2 (.lst (((List.range N).map fun i => ((i : Nat) : Int)).map V.int))) := (Same.new hp).trans (Same.new h4)
    refine q p2 _ _ (s2.free hp3) (s2.trans s3) upd_same ?_
    unfold upto
    rw [List.map_map]
    have := TdAll.ints (H := upd (upd H2 p (SetO w p (fun j => decide (j ∈ ns)) n)) p2 (.lst (((List.range N).map fun i => ((i : Nat) : Int)).map V.int))) ((List.range N).map fun i => ((i : Nat) : Int))
    rw [List.map_map, List.map_map] at this
    exact this
end
end My

/-! Lib5: enumerate, reversed texts, as walks; texts times numbers; joins. -/
namespace My
open PySem PySem.Spec PyProof.Rows L2
section
variable {K : PySem.W.Frag} {σ : L2.St} {Hb H : Hp} {D : Ends} {ds : List PyData} {wi : TI} {te ta tb : TE} {tl : TA}
def enumD (ds : List PyData) : List PyData := ds.mapIdx fun i d => .tuple [.int (i : Nat), d]
theorem enumD_get {ds : List PyData} {i : Nat} {d : PyData} (h : ds[i]? = some d) : (enumD ds)[i]? = some (.tuple [.int (i : Nat), d]) := by
  unfold enumD
  rw [List.getElem?_mapIdx, h]
  rfl
theorem enumD_len {ds : List PyData} : (enumD ds).length = ds.length := List.length_mapIdx
theorem pair_td {H H' : Hp} {T : Addr} {x y : V} {a b : PyData} (hT : H' T = some (.tup [x, y])) (hx : Td H' x a) (hy : Td H' y b) : Td H' (.ref T) (.tuple [a, b]) := Td.tup hT (.cons hx (.cons hy .nil))
theorem wk_enum {a : Addr} {xs : List V} (hl : Ea K tl σ H [refIs a]) (hb : SqL K Hb a xs) (ht : TdAll Hb xs ds) (hH : Same Hb H) : Wk (iEnum K tl) σ Hb H (enumD ds) := fun R hR =>
  hl H (Same.refl H) _ fun vs H1 s1 e => by
    obtain ⟨x, rfl, rfl⟩ := e.i1
    refine ⟨a, xs, rfl, (hH.trans s1).seq hb, ?_⟩
    have wl := walk_enum (K := K) (a := a) (xs := xs)
    have e : xs.length = (enumD ds).length := by rw [enumD_len, ht.length]
    rw [e] at wl
    refine hR _ _ _ H1 s1 wl (fun H3 s3 => s3.seq hb) fun i H3 x H4 s3 y => ?_
    obtain ⟨T, u, v, rfl, hT, rfl, e1, e2⟩ := y
    cases e1
    obtain ⟨d, h1, h2⟩ := ht.get' e2
    have s34 : Same H3 (upd H3 T (.tup [.int (i : Nat), v])) := Same.new hT
    exact ⟨s34, _, enumD_get h1, pair_td (H := H3) upd_same (Td.int _) (h2.sm (s3.trans s34))⟩
theorem wk_enumS {z : Str} (hl : Ev K te σ H (.t (.str z))) : Wk (iEnumS te) σ Hb H (enumD (chs z)) := fun R hR =>
  hl H (Same.refl H) _ fun v H1 s1 e => by
    refine ⟨z, Td.str_of e, ?_⟩
    have el : (enumD (chs z)).length = z.cps.size := by rw [enumD_len]; unfold chs; rw [List.length_map, Array.length_toList]
    refine hR _ (fun _ => True) (fun i H v H' => ∃ T c, v = .ref T ∧ H T = none ∧ H' = upd H T (.tup [.int (i : Nat), .str ⟨#[c]⟩]) ∧ z.cps[i]? = some c) H1 s1 ?_ (fun _ _ => trivial) fun i H3 x H4 s3 y => ?_
    · rw [el]
      exact ⟨fun i _ hi _ => hi, fun _ _ => Nat.le_refl _, fun i H x H' _ _ y => y⟩
    · obtain ⟨T, c, rfl, hT, rfl, e1⟩ := y
      have s34 : Same H3 (upd H3 T (.tup [.int (i : Nat), .str ⟨#[c]⟩])) := Same.new hT
      refine ⟨s34, _, enumD_get (d := .str ⟨#[c]⟩) ?_, pair_td (H := H3) upd_same (Td.int _) (Td.str _)⟩
      unfold chs
      rw [List.getElem?_map, Array.getElem?_toList, e1]
      rfl
theorem wk_revS {z : Str} (hl : Ev K te σ H (.t (.str z))) (hz : z.length ≤ sizeLine) : Wk (iRevS te) σ Hb H (chs z).reverse := fun R hR =>
  hl H (Same.refl H) _ fun v H1 s1 e => by
    refine ⟨z, Td.str_of e, hz, ?_⟩
    have el : (chs z).reverse.length = z.cps.size := by rw [List.length_reverse]; unfold chs; rw [List.length_map, Array.length_toList]
    refine hR _ (fun _ => True) (fun i H v H' => i < z.cps.size ∧ H' = H ∧ ∃ c, v = .str ⟨#[c]⟩ ∧ z.cps[z.cps.size - 1 - i]? = some c) H1 s1 ?_ (fun _ _ => trivial) fun i H3 x H4 s3 y => ?_
    · rw [el]
      exact ⟨fun i _ hi _ => hi, fun _ _ => Nat.le_refl _, fun i H x H' hi _ y => ⟨hi, y⟩⟩
    · obtain ⟨hi, rfl, c, rfl, e1⟩ := y
      refine ⟨Same.refl _, .str ⟨#[c]⟩, ?_, Td.str _⟩
      rw [List.getElem?_reverse (by unfold chs; rw [List.length_map, Array.length_toList]; exact hi)]
      unfold chs
      rw [List.getElem?_map, List.length_map, Array.length_toList, Array.getElem?_toList, e1]
      rfl
theorem ev_mulS {z : Str} {n : Nat} (ha : Ev K ta σ H (.t (.str z))) (hb : Ev K tb σ H (.t (.int (n : Nat)))) (hz : z.length ≤ 1000) (hn : n ≤ 1000) : Ev K (tOp rMulS ta tb) σ H (.t (.str (mulS z n))) :=
  ev_op ha hb fun x y H1 hx hy Q q => ⟨z, n, Td.str_of hx, Td.int_of hy, hz, hn, q _ H1 (Same.refl H1) (Td.str _)⟩
theorem ev_revS {z : Str} (ha : Ev K te σ H (.t (.str z))) (hz : z.length ≤ sizeLine) : Ev K (tRevS te) σ H (.t (.str (revS z))) := fun H1 s Q q =>
  ha H1 s _ fun v H2 s2 hv => ⟨z, Td.str_of hv, hz, q _ H2 s2 (Td.str _)⟩
end
end My

/-! W9: rows of counters, walked. -/
namespace My
open PySem PySem.Spec PyProof.Rows L2
/-- the signs -/
inductive Lt where
  | u | b | e | i
  deriving DecidableEq
def Lt.code : Lt → Nat
  | .u => 95 | .b => 98 | .e => 101 | .i => 105
/-- a text of signs -/
def sw (l : List Lt) : Str := ⟨(l.map Lt.code).toArray⟩
structure RR where
  s : Nat
  c : Lt
  w : List Lt
  g : Nat
  deriving DecidableEq
def RR.d (r : RR) : PyData := .tuple [.int (r.s : Nat), .str (sw [r.c]), .str (sw r.w), .int (r.g : Nat)]
inductive Row where
  | up (c g : Nat)
  | down (c g z : Nat)
  deriving DecidableEq
def Row.d : Row → PyData
  | .up c g => .tuple [.str "up", .int (c : Nat), .int (g : Nat)]
  | .down c g z => .tuple [.str "down", .int (c : Nat), .int (g : Nat), .int (z : Nat)]
def Row.ct : Row → Nat
  | .up c _ => c
  | .down c _ _ => c
def lapT (first many phase at_ ends : Nat) : Nat := if at_ = many then ends else first + phase * many + at_
def copT (first many phase at_ : Nat) (w : List Lt) (ends : Nat) : List RR :=
  [⟨lapT first many phase at_ ends, .i, [.i], lapT first many phase at_ ends⟩, ⟨lapT first many phase at_ ends, .e, w, lapT first many phase (at_ + 1) ends⟩]
def upT (first many c g : Nat) : List RR := (List.range many).flatMap fun a => copT first many 0 a (if a = c then [.i, .e] else [.e]) g
def downT (first many c g z : Nat) : List RR :=
  (List.range c).flatMap (fun a => copT first many 0 a [.e] 0) ++ [⟨lapT first many 0 c 0, .i, [], lapT first many 1 c 0⟩, ⟨lapT first many 0 c 0, .e, [.e], lapT first many 2 (c + 1) z⟩] ++
    (List.range (many - c)).flatMap (fun k => copT first many 1 (c + k) [.e] g) ++ (List.range (many - (c + 1))).flatMap (fun k => copT first many 2 (c + 1 + k) [.e] z)
def rowT (first many : Nat) : Row → List RR
  | .up c g => upT first many c g
  | .down c g z => downT first many c g z
/-- the rules of the row at a place, as make_rows puts them -/
def placeT (size many : Nat) (p : Nat) (r : Row) : List RR := ⟨p, .b, [.b], size + 1 + p * 3 * many⟩ :: rowT (size + 1 + p * 3 * many) many r
def rowsT (many : Nat) (prog : List Row) : List RR := (prog.mapIdx fun p r => placeT prog.length many p r).flatten
section
variable {P : Program} {w : World} {K : PySem.W.Frag} {mg : Str → Option Value} {base : Heap}
theorem vD {σ : L2.St} {H : Hp} {i : Nat} {v : V} {d : PyData} (h : σ[i]? = some (some v)) (hv : Td H v d) : Ev K (tVar i) σ H (.t d) := ev_var h hv
theorem vI {σ : L2.St} {H : Hp} {i : Nat} {n : Int} (h : σ[i]? = some (some (V.int n))) : Ev K (tVar i) σ H (.t (.int n)) := ev_var h (Td.int n)
theorem vS {σ : L2.St} {H : Hp} {i : Nat} {x : Str} (h : σ[i]? = some (some (V.str x))) : Ev K (tVar i) σ H (.t (.str x)) := ev_var h (Td.str x)
theorem cmul_nat {i j : Nat} (h : i ≤ 1000000) : CMul (i : Int) (j : Int) := Or.inl ⟨by omega, by omega⟩

def f_lap_of : Gr := fun as d => ∃ first many phase at_ ends : Nat, phase ≤ 1000000 ∧ as = [.t (.int first), .t (.int many), .t (.int phase), .t (.int at_), .t (.int ends)] ∧ d = .int (lapT first many phase at_ ends : Nat)
theorem len_lap_of {as : List Ag} {d : PyData} (h : f_lap_of as d) : as.length = 5 := by obtain ⟨_, _, _, _, _, _, rfl, _⟩ := h; rfl
theorem _root_.My.AtAll.i5 {H : Hp} {vs : List V} {a b c d e : Ag} (h : AtAll K H vs [a, b, c, d, e]) : ∃ x y z u v, vs = [x, y, z, u, v] ∧ At K H x a ∧ At K H y b ∧ At K H z c ∧ At K H u d ∧ At K H v e := by
  cases h with
  | cons h1 h =>
    obtain ⟨y, z, u, v, rfl, h2⟩ := h.i4
    exact ⟨_, y, z, u, v, rfl, h1, h2⟩
theorem ev_eqI {σ : L2.St} {H : Hp} {ta tb : TE} {i j : Nat} (ha : Ev K ta σ H (.t (.int i))) (hb : Ev K tb σ H (.t (.int j))) : Ev K (tOp (rEqG K 200) ta tb) σ H (.t (.bool (decide (i = j)))) :=
  (ev_eqG ha hb rfl rfl rfl rfl (Nat.zero_le _)).is (by
    congr 2
    show PyData.eqv (.int i) (.int j) = _
    by_cases h : i = j
    · subst h
      rw [decide_eq_true rfl]
      first | rfl | simp [PyData.eqv]
    · rw [decide_eq_false h]
      have h2 : ¬ ((i : Int) = (j : Int)) := fun z => h (Int.ofNat.inj z)
      first | (simp [PyData.eqv, h]; done) | (simp [PyData.eqv]; omega))
theorem sc_lap_of : FnScope ["first", "many", "phase", "at", "ends"] ["first", "many", "phase", "at", "ends"] (defScope st_lap_of) := ⟨rfl, rfl, rfl, by decide +kernel, rfl, by decide +kernel, by decide +kernel⟩
theorem has_lap_of (T : Txt P w K mg base) : Has P w K mg base "lap_of" ["first", "many", "phase", "at", "ends"] 1 (SpT K f_lap_of) := by
  refine has_mk T.glo_lap_of (T.c.def_ 1 (d := d_lap_of) rfl) sc_lap_of (SpT.len (fun as d h => by exact len_lap_of h)) (fun _ _ _ _ _ _ us hl => match us, hl with | [_, _, _, _, _], _ => rfl) (fun cdv A outer s H vs Q E hr h => ?_)
  refine ⟨_, (pss_cons (ps_if (pt_cmpR (op_eqSK (K := K) hr) (pv 3) (pv 1) (nomark _)) (pss_one (ps_ret (pv 4))) pss_nil)
    (pss_one (ps_ret (pe_op op_addG (pe_op op_addG (pv 0) (pe_op op_mul (pv 2) (pv 1))) (pv 3))))), ?_⟩
  obtain ⟨as, d, ⟨f, m, p, a, e, hp, rfl, rfl⟩, hv, k⟩ := h
  obtain ⟨x1, x2, x3, x4, x5, rfl, h1, h2, h3, h4, h5⟩ := hv.i5
  obtain rfl := Td.int_of h1
  obtain rfl := Td.int_of h2
  obtain rfl := Td.int_of h3
  obtain rfl := Td.int_of h4
  obtain rfl := Td.int_of h5
  by_cases e1 : a = m
  · have el : lapT f m p a e = e := if_pos e1
    rw [el] at k
    exact q_ifT ((eb_test (ev_eqI (K := K) (vI rfl) (vI rfl))).is (decide_eq_true e1)) fun H1 s1 => st_ret (K := K) (vI rfl) fun v H2 s2 h => k v H2 (s1.trans s2) h
  · have el : lapT f m p a e = f + p * m + a := if_neg e1
    rw [el] at k
    refine q_ifN ((eb_test (ev_eqI (K := K) (vI rfl) (vI rfl))).is (decide_eq_false e1)) fun H1 s1 => st_ret (K := K) (ev_addI (ev_addI (vI rfl) (ev_mulI (vI rfl) (vI rfl) (cmul_nat hp))) (vI rfl)) fun v H2 s2 h => k v H2 (s1.trans s2) ?_
    have e2 : ((f + p * m + a : Nat) : Int) = (f : Int) + (p : Int) * (m : Int) + (a : Int) := by rw [Int.natCast_add, Int.natCast_add, Int.natCast_mul]
    rw [e2]
    exact h
def f_copied : GrL := fun as ds => ∃ (first many phase at_ : Nat) (wd : List Lt) (ends : Nat), phase ≤ 1000000 ∧ as = [.t (.int first), .t (.int many), .t (.int phase), .t (.int at_), .t (.str (sw wd)), .t (.int ends)] ∧ ds = (copT first many phase at_ wd ends).map RR.d
theorem len_copied {as : List Ag} {d : List PyData} (h : f_copied as d) : as.length = 6 := by obtain ⟨_, _, _, _, _, _, _, rfl, _⟩ := h; rfl
theorem _root_.My.AtAll.i6 {H : Hp} {vs : List V} {a b c d e f : Ag} (h : AtAll K H vs [a, b, c, d, e, f]) : ∃ x y z u v w, vs = [x, y, z, u, v, w] ∧ At K H x a ∧ At K H y b ∧ At K H z c ∧ At K H u d ∧ At K H v e ∧ At K H w f := by
  cases h with
  | cons h1 h =>
    obtain ⟨y, z, u, v, w, rfl, h2⟩ := h.i5
    exact ⟨_, y, z, u, v, w, rfl, h1, h2⟩
theorem ev_RR {σ : L2.St} {H : Hp} {t1 t2 t3 t4 : TE} {r : RR} (h1 : Ev K t1 σ H (.t (.int r.s))) (h2 : Ev K t2 σ H (.t (.str (sw [r.c])))) (h3 : Ev K t3 σ H (.t (.str (sw r.w)))) (h4 : Ev K t4 σ H (.t (.int r.g))) :
    Ev K (tTup (tCons t1 (tCons t2 (tCons t3 (tCons t4 tNil))))) σ H (.t r.d) := ev_tup (ds := [.int (r.s : Nat), .str (sw [r.c]), .str (sw r.w), .int (r.g : Nat)]) (ea_cons h1 (ea_cons h2 (ea_cons h3 (ea_cons h4 ea_nil)))) (Nat.le_of_ble_eq_true rfl)
theorem sc_copied : FnScope ["first", "many", "phase", "at", "word", "ends", "here"] ["first", "many", "phase", "at", "word", "ends"] (defScope st_copied) := ⟨rfl, rfl, rfl, by decide +kernel, rfl, by decide +kernel, by decide +kernel⟩
theorem has_copied (T : Txt P w K mg base) : Has P w K mg base "copied" ["first", "many", "phase", "at", "word", "ends"] 2 (SpL K f_copied) := by
  refine has_mk T.glo_copied (T.c.def_ 2 (d := d_copied) rfl) sc_copied (SpL.len (fun as d h => by exact len_copied h)) (fun _ _ _ _ _ _ us hl => match us, hl with | [_, _, _, _, _, _], _ => rfl) (fun cdv A outer s H vs Q E hr h => ?_)
  refine ⟨_, (pss_cons (ps_set (i := 6) sc_copied.nd rfl (by first | exact Or.inl rfl | exact Or.inr rfl) (pc (has_lap_of T) (hr.mono (by decide)) (pa_cons (pv 0) (pa_cons (pv 1) (pa_cons (pv 2) (pa_cons (pv 3) (pa_cons (pv 5) pa_nil)))))))
    (pss_one (ps_ret (pe_lst (pa_cons (pe_tup (pa_cons (pv 6) (pa_cons pe_str (pa_cons pe_str (pa_cons (pv 6) pa_nil))))) (pa_cons (pe_tup (pa_cons (pv 6) (pa_cons pe_str (pa_cons (pv 4) (pa_cons (pc (has_lap_of T) (hr.mono (by decide)) (pa_cons (pv 0) (pa_cons (pv 1) (pa_cons (pv 2) (pa_cons (pe_op op_addG (pv 3) pe_int) (pa_cons (pv 5) pa_nil)))))) pa_nil))))) pa_nil)))))), ?_⟩
  obtain ⟨as, ds, ⟨f, m, p, a, wd, e, hp, rfl, rfl⟩, hv, k⟩ := h
  obtain ⟨x1, x2, x3, x4, x5, x6, rfl, h1, h2, h3, h4, h5, h6⟩ := hv.i6
  obtain rfl := Td.int_of h1
  obtain rfl := Td.int_of h2
  obtain rfl := Td.int_of h3
  obtain rfl := Td.int_of h4
  obtain rfl := Td.str_of h5
  obtain rfl := Td.int_of h6
  refine q_set (K := K) (ev_call (F := f_lap_of) ⟨f, m, p, a, e, hp, rfl, rfl⟩ (ea_cons (vI rfl) (ea_cons (vI rfl) (ea_cons (vI rfl) (ea_cons (vI rfl) (ea_cons (vI rfl) ea_nil)))))) fun v H1 s1 hv1 => ?_
  obtain rfl := Td.int_of hv1
  refine st_retF (ef_lst (K := K) (ds := (copT f m p a wd e).map RR.d) (ea_cons (ev_RR (r := ⟨lapT f m p a e, .i, [.i], lapT f m p a e⟩) (vI rfl) ev_str ev_str (vI rfl)) (ea_cons (ev_RR (r := ⟨lapT f m p a e, .e, wd, lapT f m p (a + 1) e⟩) (vI rfl) ev_str (vS rfl) ?_) ea_nil)) (Nat.le_of_ble_eq_true rfl)) fun q xs H2 hq s2 h2 t2 => k q xs H2 (s1.free hq) (s1.trans s2) h2 t2
  exact ev_call (F := f_lap_of) ⟨f, m, p, a + 1, e, hp, rfl, rfl⟩ (ea_cons (vI rfl) (ea_cons (vI rfl) (ea_cons (vI rfl) (ea_cons (ev_addI (i := (a : Int)) (j := 1) (vI rfl) ev_int) (ea_cons (vI rfl) ea_nil)))))
end
end My

/-! W10: rows of counters, walked (2). -/
namespace My
open PySem PySem.Spec PyProof.Rows L2
section
variable {P : Program} {w : World} {K : PySem.W.Frag} {mg : Str → Option Value} {base : Heap}
theorem rng_get {j i : Nat} {d : PyData} (h : ((List.range ((j : Int)).toNat).map fun i => PyData.int (i : Nat))[i]? = some d) : i < j ∧ d = .int (i : Nat) := by
  rw [Int.toNat_natCast, List.getElem?_map] at h
  cases e : (List.range j)[i]? with
  | none => rw [e] at h; cases h
  | some y =>
    rw [e] at h
    cases h
    obtain ⟨h1, h2⟩ := List.getElem?_eq_some_iff.mp e
    rw [List.length_range] at h1
    rw [List.getElem_range] at h2
    exact ⟨h1, by rw [h2]⟩
theorem rng_len {j : Nat} : ((List.range ((j : Int)).toNat).map fun i => PyData.int (i : Nat)).length = j := by rw [List.length_map, List.length_range, Int.toNat_natCast]
theorem rng2_get {i j k : Nat} {d : PyData} (h : ((List.range (j - i)).map fun k => PyData.int ((i + k : Nat) : Int))[k]? = some d) : k < j - i ∧ d = .int ((i + k : Nat) : Int) := by
  rw [List.getElem?_map] at h
  cases e : (List.range (j - i))[k]? with
  | none => rw [e] at h; cases h
  | some y =>
    rw [e] at h
    cases h
    obtain ⟨h1, h2⟩ := List.getElem?_eq_some_iff.mp e
    rw [List.length_range] at h1
    rw [List.getElem_range] at h2
    exact ⟨h1, by rw [h2]⟩
theorem fm_succ {α : Type} (f : Nat → List α) (n : Nat) : (List.range (n + 1)).flatMap f = (List.range n).flatMap f ++ f n := by
  rw [List.range_succ, List.flatMap_append]
  simp
theorem fm_len {α : Type} (f : Nat → List α) (c : Nat) (h : ∀ i, (f i).length = c) : ∀ n, ((List.range n).flatMap f).length = c * n
  | 0 => rfl
  | n + 1 => by rw [fm_succ, List.length_append, fm_len f c h n, h n]; rw [Nat.mul_succ]
theorem cop_len {f m p a e : Nat} {wd : List Lt} : (copT f m p a wd e).length = 2 := rfl
/-- a call of copied -/
theorem ef_copied {σ : L2.St} {H : Hp} {t1 t2 t3 t4 t5 t6 : TE} {first many phase at_ : Nat} {wd : List Lt} {ends : Nat} (hp : phase ≤ 1000000) (h1 : Ev K t1 σ H (.t (.int first))) (h2 : Ev K t2 σ H (.t (.int many))) (h3 : Ev K t3 σ H (.t (.int phase))) (h4 : Ev K t4 σ H (.t (.int at_)))
    (h5 : Ev K t5 σ H (.t (.str (sw wd)))) (h6 : Ev K t6 σ H (.t (.int ends))) : Ef (tCall (SpL K f_copied) [] E0 (tCons t1 (tCons t2 (tCons t3 (tCons t4 (tCons t5 (tCons t6 tNil))))))) σ H ((copT first many phase at_ wd ends).map RR.d) :=
  ef_call ⟨first, many, phase, at_, wd, ends, hp, rfl, rfl⟩ (ea_cons h1 (ea_cons h2 (ea_cons h3 (ea_cons h4 (ea_cons h5 (ea_cons h6 ea_nil))))))

def f_up_rules : GrL := fun as ds => ∃ first many c g : Nat, many ≤ 1000 ∧ as = [.t (.int first), .t (.int many), .t (Row.up c g).d] ∧ ds = (upT first many c g).map RR.d
theorem len_up_rules {as : List Ag} {d : List PyData} (h : f_up_rules as d) : as.length = 3 := by obtain ⟨_, _, _, _, _, rfl, _⟩ := h; rfl
theorem sc_up_rules : FnScope ["first", "many", "row", "found", "at", "word"] ["first", "many", "row"] (defScope st_up_rules) := ⟨rfl, rfl, rfl, by decide +kernel, rfl, by decide +kernel, by decide +kernel⟩
theorem has_up_rules (T : Txt P w K mg base) : Has P w K mg base "up_rules" ["first", "many", "row"] 3 (SpL K f_up_rules) := by
  refine has_mk T.glo_up_rules (T.c.def_ 3 (d := d_up_rules) rfl) sc_up_rules (SpL.len (fun as d h => by exact len_up_rules h)) (fun _ _ _ _ _ _ us hl => match us, hl with | [_, _, _], _ => rfl) (fun cdv A outer s H vs Q E hr h => ?_)
  refine ⟨_, (pss_cons (ps_set (i := 3) sc_up_rules.nd rfl (by first | exact Or.inl rfl | exact Or.inr rfl) (pe_lst pa_nil))
    (pss_cons (ps_for PassesOwn.never rfl (pi_range1 (by rfl) T.free_range (pa_cons (pv 1) pa_nil)) (pg_name (i := 4) sc_up_rules.nd rfl (by first | exact Or.inl rfl | exact Or.inr rfl))
    (pss_cons (ps_set (i := 5) sc_up_rules.nd rfl (by first | exact Or.inl rfl | exact Or.inr rfl) pe_str)
    (pss_cons (ps_if (pt_cmpR (op_eqSK (K := K) hr) (pv 4) (pe_ixK (K := K) (pv 2) pe_int (fun _ _ => rfl)) (nomark _)) (pss_one (ps_set (i := 5) sc_up_rules.nd rfl (by first | exact Or.inl rfl | exact Or.inr rfl) pe_str)) pss_nil)
    (pss_one (ps_expr (pe_bm PySem.F.plainAttrs_list PySem.F.slot_list_extend PySem.F.type_list_extend mt_extend (pv 3) (pa_cons (pc (has_copied T) (hr.mono (by decide)) (pa_cons (pv 0) (pa_cons (pv 1) (pa_cons (T.c_COPY) (pa_cons (pv 4) (pa_cons (pv 5) (pa_cons (pe_ixK (K := K) (pv 2) pe_int (fun _ _ => rfl)) pa_nil))))))) pa_nil)))))))
    (pss_one (ps_ret (pv 3))))), ?_⟩
  obtain ⟨as, ds, ⟨f, m, c, gg, hm, rfl, rfl⟩, hv, k⟩ := h
  obtain ⟨x1, x2, x3, rfl, h1, h2, h3⟩ := hv.i3
  obtain rfl := Td.int_of h1
  obtain rfl := Td.int_of h2
  have h3 : Td H x3 (Row.up c gg).d := h3
  refine q_setF (ef_lst (K := K) (ds := []) ea_nil (by decide)) fun p xs H1 hp s1 h1 t1 => ?_
  let F : Nat → List RR := fun a => copT f m 0 a (if a = c then [.i, .e] else [.e]) gg
  have hF : ∀ i, (F i).length = 2 := fun i => rfl
  refine q_for (wk_range1 (K := K) (Hb := H) (j := (m : Int)) (ea_cons (vI rfl) ea_nil) (by omega)) (fun i σ' H' => ∃ o4 o5 ys, σ' = [some (.int f), some (.int m), some x3, some (.ref p), o4, o5] ∧ Same H H' ∧ H' p = some (.lst ys) ∧ TdAll H' ys (((List.range i).flatMap F).map RR.d))
    (fun H2 s2 => ⟨none, none, xs, rfl, s1.trans s2, s2 _ _ h1, t1.sm s2⟩) (fun i σ' H' ⟨_, _, _, _, s, _⟩ => s) ?_ ?_
  · rintro i d x σ' H2 H3 hd hx ⟨o4, o5, ys, rfl, s2, h2, t2⟩ s3
    obtain ⟨hi, rfl⟩ := rng_get hd
    obtain rfl := Td.int_of hx
    have s13 : Same H H3 := s2.trans s3
    have h23 := s3 _ _ h2
    have t23 := t2.sm s3
    have r3 : Td H3 x3 (Row.up c gg).d := h3.sm s13
    have hlen : (((List.range i).flatMap F).map RR.d).length = 2 * i := by rw [List.length_map, fm_len F 2 hF]
    have step : ∀ (wd : List Lt) (H5 : Hp), wd = (if i = c then [.i, .e] else [.e]) → Same H3 H5 →
        tDrop (tBM K "list" rExtend (tVar 3) (tCons (tCall (SpL K f_copied) [] E0 (tCons (tVar 0) (tCons (tVar 1) (tCons (tC (.int 0)) (tCons (tVar 4) (tCons (tVar 5) (tCons (tOp (rIx K) (tVar 2) (tC (.int 2))) tNil))))))) tNil))
          { nx := fun σ' H' => ∃ o4 o5 ys, σ' = [some (.int f), some (.int m), some x3, some (.ref p), o4, o5] ∧ Same H H' ∧ H' p = some (.lst ys) ∧ TdAll H' ys (((List.range (i + 1)).flatMap F).map RR.d), rt := Q,
            ct := fun σ' H' => ∃ o4 o5 ys, σ' = [some (.int f), some (.int m), some x3, some (.ref p), o4, o5] ∧ Same H H' ∧ H' p = some (.lst ys) ∧ TdAll H' ys (((List.range (i + 1)).flatMap F).map RR.d), bk := fun σ H => tRet (tVar 3) { nx := fun x H' => Q V.non H', rt := Q } σ H } [some (.int f), some (.int m), some x3, some (.ref p), some (.int i), some (.str (sw wd))] H5 := fun wd H5 hwd s5 => by
      subst hwd
      refine st_extend (K := K) rfl (s5 _ _ h23) (t23.sm s5) (ef_copied (phase := 0) (by decide) (vI rfl) (vI rfl) ev_int (vI rfl) (vS rfl) (ev_ixT (vD rfl (r3.sm s5)) ev_int rfl)) (by rw [hlen, List.length_map, cop_len]; omega) fun ys' H6 mu h6 t6 => ?_
      refine ⟨_, _, ys', rfl, mu.of (s13.trans s5) hp, h6, ?_⟩
      rw [fm_succ, List.map_append]
      exact t6
    refine q_set (K := K) ev_str fun v H4 s4 h4 => ?_
    obtain rfl := Td.str_of h4
    have ec : Eb (tTest (tOp (rEqG K 200) (tVar 4) (tOp (rIx K) (tVar 2) (tC (.int 1))))) [some (.int f), some (.int m), some x3, some (.ref p), some (.int i), some (.str "e")] H4 (decide (i = c)) := eb_test (ev_eqI (K := K) (vI rfl) (ev_ixT (i := 1) (vD rfl (r3.sm s4)) ev_int rfl))
    by_cases hc : i = c
    · refine q_ifT (ec.is (decide_eq_true hc)) fun H5 s5 => st_set (K := K) ev_str fun v H6 s6 h6 => ?_
      obtain rfl := Td.str_of h6
      exact step [.i, .e] H6 (by rw [if_pos hc]) (s4.trans (s5.trans s6))
    · exact q_ifN (ec.is (decide_eq_false hc)) fun H5 s5 => step [.e] H5 (by rw [if_neg hc]) (s4.trans s5)
  · rintro σ' H2 ⟨o4, o5, ys, rfl, s2, h2, t2⟩
    rw [rng_len] at t2
    refine ⟨_, rfl, k p ys H2 hp s2 h2 t2⟩
end
end My

/-! W11: rows of counters, walked (3). -/
namespace My
open PySem PySem.Spec PyProof.Rows L2
section
variable {P : Program} {w : World} {K : PySem.W.Frag} {mg : Str → Option Value} {base : Heap}
theorem same_none {H : Hp} : Same (fun _ => none) H := fun _ _ h => by cases h
/-- a row of extends -/
theorem q_loop {wi : TI} {te : TE} {u : TS} {D : Ends} {p : Addr} {x0 x1 x2 o4 o5 : Option V} {H : Hp} {ys : List V} {es : List PyData} {n a : Nat} {F : Nat → List PyData}
    (hw : Wk wi [x0, x1, x2, some (.ref p), o4, o5] (fun _ => none) H ((List.range n).map fun k => PyData.int ((a + k : Nat) : Int))) (hp : H p = some (.lst ys)) (ht : TdAll H ys es) (hF : ∀ i, (F i).length = 2) (hn : n ≤ 1000) (hl : es.length ≤ 1000000)
    (hb : ∀ i, i < n → ∀ H', Mut p H H' → Ef te [x0, x1, x2, some (.ref p), some (.int ((a + i : Nat) : Int)), o5] H' (F i))
    (hd : ∀ o ys' H', Mut p H H' → H' p = some (.lst ys') → TdAll H' ys' (es ++ (List.range n).flatMap F) → u D [x0, x1, x2, some (.ref p), o, o5] H') :
    tSeq (tFor wi (gName 4) (tDrop (tBM K "list" rExtend (tVar 3) (tCons te tNil)))) u D [x0, x1, x2, some (.ref p), o4, o5] H := by
  refine q_for hw (fun i σ' H' => ∃ o ys', σ' = [x0, x1, x2, some (.ref p), o, o5] ∧ Mut p H H' ∧ H' p = some (.lst ys') ∧ TdAll H' ys' (es ++ (List.range i).flatMap F))
    (fun H1 s1 => ⟨o4, ys, rfl, Mut.same s1, s1 _ _ hp, by simpa using ht.sm s1⟩) (fun _ _ _ _ => same_none) ?_ ?_
  · rintro i d x σ' H2 H3 hd2 hx ⟨o, ys', rfl, mu, h2, t2⟩ s3
    have hg : i < n ∧ d = .int ((a + i : Nat) : Int) := by
      rw [List.getElem?_map] at hd2
      cases e : (List.range n)[i]? with
      | none => rw [e] at hd2; cases hd2
      | some y =>
        rw [e] at hd2
        cases hd2
        obtain ⟨h1, h2⟩ := List.getElem?_eq_some_iff.mp e
        rw [List.length_range] at h1
        rw [List.getElem_range] at h2
        exact ⟨h1, by rw [h2]⟩
    obtain ⟨hi, rfl⟩ := hg
    obtain rfl := Td.int_of hx
    have hlen : (es ++ (List.range i).flatMap F).length = es.length + 2 * i := by rw [List.length_append, fm_len F 2 hF]
    refine st_extend (K := K) rfl (s3 _ _ h2) (t2.sm s3) (hb i hi H3 (mu.trans (Mut.same s3))) (by rw [hlen, hF]; omega) fun zs H6 m6 h6 t6 => ?_
    refine ⟨_, zs, rfl, (mu.trans (Mut.same s3)).trans m6, h6, ?_⟩
    rw [fm_succ, ← List.append_assoc]
    exact t6
  · rintro σ' H2 ⟨o, ys', rfl, mu, h2, t2⟩
    rw [List.length_map, List.length_range] at t2
    exact hd o ys' H2 mu h2 t2

def f_down_rules : GrL := fun as ds => ∃ first many c g z : Nat, many ≤ 1000 ∧ c < many ∧ as = [.t (.int first), .t (.int many), .t (Row.down c g z).d] ∧ ds = (downT first many c g z).map RR.d
theorem len_down_rules {as : List Ag} {d : List PyData} (h : f_down_rules as d) : as.length = 3 := by obtain ⟨_, _, _, _, _, _, _, rfl, _⟩ := h; rfl
theorem map_fm {α β : Type} (f : α → β) (F : Nat → List α) : ∀ n, ((List.range n).flatMap F).map f = (List.range n).flatMap fun i => (F i).map f
  | 0 => rfl
  | n + 1 => by rw [fm_succ, fm_succ, List.map_append, map_fm f F n]
theorem rng0 {c : Nat} : ((List.range ((c : Int)).toNat).map fun i => PyData.int (i : Nat)) = (List.range c).map fun k => PyData.int ((0 + k : Nat) : Int) := by
  rw [Int.toNat_natCast]
  exact List.map_congr_left fun i _ => by rw [Nat.zero_add]
theorem ev_succ {σ : L2.St} {H : Hp} {t : TE} {n : Nat} (h : Ev K t σ H (.t (.int n))) : Ev K (tOp rAddG t (tC (.int 1))) σ H (.t (.int ((n + 1 : Nat) : Int))) := ev_addI (i := (n : Int)) (j := 1) h ev_int
theorem sc_down_rules : FnScope ["first", "many", "row", "found", "at", "here"] ["first", "many", "row"] (defScope st_down_rules) := ⟨rfl, rfl, rfl, by decide +kernel, rfl, by decide +kernel, by decide +kernel⟩
theorem has_down_rules (T : Txt P w K mg base) : Has P w K mg base "down_rules" ["first", "many", "row"] 3 (SpL K f_down_rules) := by
  refine has_mk T.glo_down_rules (T.c.def_ 4 (d := d_down_rules) rfl) sc_down_rules (SpL.len (fun as d h => by exact len_down_rules h)) (fun _ _ _ _ _ _ us hl => match us, hl with | [_, _, _], _ => rfl) (fun cdv A outer s H vs Q E hr h => ?_)
  refine ⟨_, (pss_cons (ps_set (i := 3) sc_down_rules.nd rfl (by first | exact Or.inl rfl | exact Or.inr rfl) (pe_lst pa_nil))
    (pss_cons (ps_for PassesOwn.never rfl (pi_range1 (by rfl) T.free_range (pa_cons (pe_ixK (K := K) (pv 2) pe_int (fun _ _ => rfl)) pa_nil)) (pg_name (i := 4) sc_down_rules.nd rfl (by first | exact Or.inl rfl | exact Or.inr rfl))
    (pss_one (ps_expr (pe_bm PySem.F.plainAttrs_list PySem.F.slot_list_extend PySem.F.type_list_extend mt_extend (pv 3) (pa_cons (pc (has_copied T) (hr.mono (by decide)) (pa_cons (pv 0) (pa_cons (pv 1) (pa_cons (T.c_COPY) (pa_cons (pv 4) (pa_cons pe_str (pa_cons pe_int pa_nil))))))) pa_nil)))))
    (pss_cons (ps_set (i := 5) sc_down_rules.nd rfl (by first | exact Or.inl rfl | exact Or.inr rfl) (pc (has_lap_of T) (hr.mono (by decide)) (pa_cons (pv 0) (pa_cons (pv 1) (pa_cons (T.c_COPY) (pa_cons (pe_ixK (K := K) (pv 2) pe_int (fun _ _ => rfl)) (pa_cons pe_int pa_nil)))))))
    (pss_cons (ps_expr (pe_bm PySem.F.plainAttrs_list PySem.F.slot_list_append PySem.F.type_list_append mt_append (pv 3) (pa_cons (pe_tup (pa_cons (pv 5) (pa_cons pe_str (pa_cons pe_str (pa_cons (pc (has_lap_of T) (hr.mono (by decide)) (pa_cons (pv 0) (pa_cons (pv 1) (pa_cons (T.c_TAKEN) (pa_cons (pe_ixK (K := K) (pv 2) pe_int (fun _ _ => rfl)) (pa_cons pe_int pa_nil)))))) pa_nil))))) pa_nil)))
    (pss_cons (ps_expr (pe_bm PySem.F.plainAttrs_list PySem.F.slot_list_append PySem.F.type_list_append mt_append (pv 3) (pa_cons (pe_tup (pa_cons (pv 5) (pa_cons pe_str (pa_cons pe_str (pa_cons (pc (has_lap_of T) (hr.mono (by decide)) (pa_cons (pv 0) (pa_cons (pv 1) (pa_cons (T.c_NOUGHT) (pa_cons (pe_op op_addG (pe_ixK (K := K) (pv 2) pe_int (fun _ _ => rfl)) pe_int) (pa_cons (pe_ixK (K := K) (pv 2) pe_int (fun _ _ => rfl)) pa_nil)))))) pa_nil))))) pa_nil)))
    (pss_cons (ps_for PassesOwn.never rfl (pi_range2 (by rfl) T.free_range (pa_cons (pe_ixK (K := K) (pv 2) pe_int (fun _ _ => rfl)) (pa_cons (pv 1) pa_nil))) (pg_name (i := 4) sc_down_rules.nd rfl (by first | exact Or.inl rfl | exact Or.inr rfl))
    (pss_one (ps_expr (pe_bm PySem.F.plainAttrs_list PySem.F.slot_list_extend PySem.F.type_list_extend mt_extend (pv 3) (pa_cons (pc (has_copied T) (hr.mono (by decide)) (pa_cons (pv 0) (pa_cons (pv 1) (pa_cons (T.c_TAKEN) (pa_cons (pv 4) (pa_cons pe_str (pa_cons (pe_ixK (K := K) (pv 2) pe_int (fun _ _ => rfl)) pa_nil))))))) pa_nil)))))
    (pss_cons (ps_for PassesOwn.never rfl (pi_range2 (by rfl) T.free_range (pa_cons (pe_op op_addG (pe_ixK (K := K) (pv 2) pe_int (fun _ _ => rfl)) pe_int) (pa_cons (pv 1) pa_nil))) (pg_name (i := 4) sc_down_rules.nd rfl (by first | exact Or.inl rfl | exact Or.inr rfl))
    (pss_one (ps_expr (pe_bm PySem.F.plainAttrs_list PySem.F.slot_list_extend PySem.F.type_list_extend mt_extend (pv 3) (pa_cons (pc (has_copied T) (hr.mono (by decide)) (pa_cons (pv 0) (pa_cons (pv 1) (pa_cons (T.c_NOUGHT) (pa_cons (pv 4) (pa_cons pe_str (pa_cons (pe_ixK (K := K) (pv 2) pe_int (fun _ _ => rfl)) pa_nil))))))) pa_nil)))))
    (pss_one (ps_ret (pv 3)))))))))), ?_⟩
  obtain ⟨as, ds, ⟨f, m, c, gg, z, hm, hcm, rfl, rfl⟩, hv, k⟩ := h
  obtain ⟨x1, x2, x3, rfl, h1, h2, h3⟩ := hv.i3
  obtain rfl := Td.int_of h1
  obtain rfl := Td.int_of h2
  have h3 : Td H x3 (Row.down c gg z).d := h3
  refine q_setF (ef_lst (K := K) (ds := []) ea_nil (by decide)) fun p xs H1 hp s1 h1 t1 => ?_
  have r0 : ∀ {H'}, Tx H H' → ∀ {o3 o4 o5}, Ev K (tOp (rIx K) (tVar 2) (tC (.int 1))) [some (.int f), some (.int m), some x3, o3, o4, o5] H' (.t (.int c)) := fun tx => ev_ixT (i := 1) (vD rfl (h3.tx tx)) ev_int rfl
  have r2 : ∀ {H'}, Tx H H' → ∀ {o3 o4 o5}, Ev K (tOp (rIx K) (tVar 2) (tC (.int 2))) [some (.int f), some (.int m), some x3, o3, o4, o5] H' (.t (.int gg)) := fun tx => ev_ixT (i := 2) (vD rfl (h3.tx tx)) ev_int rfl
  have r3 : ∀ {H'}, Tx H H' → ∀ {o3 o4 o5}, Ev K (tOp (rIx K) (tVar 2) (tC (.int 3))) [some (.int f), some (.int m), some x3, o3, o4, o5] H' (.t (.int z)) := fun tx => ev_ixT (i := 3) (vD rfl (h3.tx tx)) ev_int rfl
  -- for at in range(row[1])
  refine q_loop (K := K) (n := c) (a := 0) (F := fun a => (copT f m 0 a [.e] 0).map RR.d) (by rw [← rng0]; exact wk_range1 (K := K) (j := (c : Int)) (ea_cons (r0 s1.tx) ea_nil) (by omega)) h1 t1 (fun _ => rfl) (by omega) (Nat.zero_le _)
    (fun i hi H' mu => by
      rw [show ((0 + i : Nat) : Int) = (i : Int) from by rw [Nat.zero_add]]
      exact ef_copied (phase := 0) (by decide) (vI rfl) (vI rfl) ev_int (vI rfl) ev_str ev_int) fun o ys2 H2 mu2 hp2 t2 => ?_
  have m12 : Mut p H H2 := (Mut.same s1).trans mu2
  -- here
  refine q_set (K := K) (ev_call (F := f_lap_of) ⟨f, m, 0, c, 0, by decide, rfl, rfl⟩ (ea_cons (vI rfl) (ea_cons (vI rfl) (ea_cons ev_int (ea_cons (r0 m12.tx) (ea_cons ev_int ea_nil)))))) fun v H3 s3 h3' => ?_
  obtain rfl := Td.int_of h3'
  have m13 : Mut p H H3 := m12.trans (Mut.same s3)
  refine q_append (K := K) rfl (s3 _ _ hp2) (t2.sm s3) (ev_RR (r := ⟨lapT f m 0 c 0, .i, [], lapT f m 1 c 0⟩) (vI rfl) ev_str ev_str
    (ev_call (F := f_lap_of) ⟨f, m, 1, c, 0, by decide, rfl, rfl⟩ (ea_cons (vI rfl) (ea_cons (vI rfl) (ea_cons ev_int (ea_cons (r0 m13.tx) (ea_cons ev_int ea_nil))))))) (by rw [List.length_append, fm_len _ 2 (fun _ => rfl), List.length_nil]; omega) fun ys4 H4 mu4 hp4 t4 => ?_
  have m14 : Mut p H H4 := m13.trans mu4
  refine q_append (K := K) rfl hp4 t4 (ev_RR (r := ⟨lapT f m 0 c 0, .e, [.e], lapT f m 2 (c + 1) z⟩) (vI rfl) ev_str ev_str
    (ev_call (F := f_lap_of) ⟨f, m, 2, c + 1, z, by decide, rfl, rfl⟩ (ea_cons (vI rfl) (ea_cons (vI rfl) (ea_cons ev_int (ea_cons (ev_succ (r0 m14.tx)) (ea_cons (r3 m14.tx) ea_nil))))))) (by rw [List.length_append, List.length_append, fm_len _ 2 (fun _ => rfl), List.length_nil]; simp only [List.length_singleton]; omega) fun ys5 H5 mu5 hp5 t5 => ?_
  have m15 : Mut p H H5 := m14.trans mu5
  -- for at in range(row[1], many)
  refine q_loop (K := K) (n := m - c) (a := c) (F := fun a => (copT f m 1 (c + a) [.e] gg).map RR.d) (wk_range2 (K := K) (i := c) (j := m) (ea_cons (r0 m15.tx) (ea_cons (vI rfl) ea_nil)) (by omega)) hp5 t5 (fun _ => rfl) (by omega)
    (by simp only [List.length_append, fm_len _ 2 (fun i => (rfl : ((copT f m 0 i [.e] 0).map RR.d).length = 2)), List.length_nil, List.length_singleton]; omega)
    (fun i hi H' mu => ef_copied (phase := 1) (by decide) (vI rfl) (vI rfl) ev_int (vI rfl) ev_str (r2 (m15.tx.trans mu.tx))) fun o6 ys6 H6 mu6 hp6 t6 => ?_
  have m16 : Mut p H H6 := m15.trans mu6
  refine q_loop (K := K) (n := m - (c + 1)) (a := c + 1) (F := fun a => (copT f m 2 (c + 1 + a) [.e] z).map RR.d) (wk_range2 (K := K) (i := c + 1) (j := m) (ea_cons (ev_succ (r0 m16.tx)) (ea_cons (vI rfl) ea_nil)) (by omega)) hp6 t6 (fun _ => rfl) (by omega)
    (by simp only [List.length_append, fm_len _ 2 (fun i => (rfl : ((copT f m 0 i [.e] 0).map RR.d).length = 2)), fm_len _ 2 (fun i => (rfl : ((copT f m 1 (c + i) [.e] gg).map RR.d).length = 2)), List.length_nil, List.length_singleton]; omega)
    (fun i hi H' mu => ef_copied (phase := 2) (by decide) (vI rfl) (vI rfl) ev_int (vI rfl) ev_str (r3 (m16.tx.trans mu.tx))) fun o7 ys7 H7 mu7 hp7 t7 => ?_
  refine ⟨_, rfl, k p ys7 H7 hp ((m16.trans mu7).of (Same.refl _) hp) hp7 ?_⟩
  have e : (downT f m c gg z).map RR.d = [] ++ (List.range c).flatMap (fun a => (copT f m 0 a [.e] 0).map RR.d) ++ [RR.d ⟨lapT f m 0 c 0, .i, [], lapT f m 1 c 0⟩] ++ [RR.d ⟨lapT f m 0 c 0, .e, [.e], lapT f m 2 (c + 1) z⟩] ++
      (List.range (m - c)).flatMap (fun a => (copT f m 1 (c + a) [.e] gg).map RR.d) ++ (List.range (m - (c + 1))).flatMap (fun a => (copT f m 2 (c + 1 + a) [.e] z).map RR.d) := by
    unfold downT
    rw [List.map_append, List.map_append, List.map_append, map_fm, map_fm, map_fm]
    simp
  rw [e]
  exact t7
end
end My

/-! Lib6: built-in words on data. -/
namespace My
open PySem PySem.Spec PyProof.Rows L2
theorem _root_.My.TdAll.strs {H : Hp} : ∀ (ns : List Str), TdAll H (ns.map V.str) (ns.map PyData.str)
  | [] => .nil
  | n :: ns => .cons (.str n) (TdAll.strs ns)
theorem _root_.My.TdAll.bls {H : Hp} : ∀ (ns : List Bool), TdAll H (ns.map V.bl) (ns.map PyData.bool)
  | [] => .nil
  | n :: ns => .cons (.bl n) (TdAll.bls ns)
section
variable {K : PySem.W.Frag} {σ : L2.St} {H : Hp} {te ta tb : TE} {tl th : TO} {ds : List PyData}
theorem ev_len {n : Nat} (h : Ev K te σ H (.l ds)) (hn : ds.length = n) : Ev K (tCB (rLenK K) (tCons te tNil)) σ H (.t (.int n)) := fun H1 s Q q =>
  h H1 s _ fun v H2 s2 ⟨a, xs, e, h1, t⟩ => ⟨v, n, rfl, by subst e; exact .inl ⟨xs, h1, by rw [t.length, hn]⟩, q _ H2 s2 (Td.int _)⟩
theorem ev_lenS {z : Str} (h : Ev K te σ H (.t (.str z))) (hz : z.length ≤ sizeLine) : Ev K (tCB (rLenK K) (tCons te tNil)) σ H (.t (.int z.length)) := fun H1 s Q q =>
  h H1 s _ fun v H2 s2 hv => ⟨v, z.length, rfl, by rw [Td.str_of hv]; exact ⟨hz, rfl⟩, q _ H2 s2 (Td.int _)⟩
theorem ev_slS {z : Str} {lo hi : Option Int} (h : Ev K te σ H (.t (.str z))) (h1 : Eo tl σ H lo) (h2 : Eo th σ H hi) (hz : z.length ≤ sizeLine) : Ev K (tSl rSlS te tl th) σ H (.t (.str (cutS z lo hi))) := fun H1 s Q q =>
  h H1 s _ fun v H2 s2 hv => h1 H2 (s.trans s2) _ fun H3 s3 => h2 H3 (s.trans (s2.trans s3)) _ fun H4 s4 => ⟨z, Td.str_of hv, hz, q _ H4 (s2.trans (s3.trans s4)) (Td.str _)⟩
def cutD (ds : List PyData) (lo hi : Option Int) : List PyData := (ds.drop (HT.sIx ds.length 0 lo)).take (HT.sIx ds.length ds.length hi - HT.sIx ds.length 0 lo)
theorem ef_slL {lo hi : Option Int} (h : Ev K te σ H (.l ds)) (h1 : Eo tl σ H lo) (h2 : Eo th σ H hi) : Ef (tSl (rSlL K) te tl th) σ H (cutD ds lo hi) := fun H1 s Q q =>
  h H1 s _ fun v H2 s2 ⟨a, xs, e, hs, t⟩ => h1 H2 (s.trans s2) _ fun H3 s3 => h2 H3 (s.trans (s2.trans s3)) _ fun H4 s4 =>
    ⟨a, xs, e, (s3.trans s4).seq hs, fun p hp => by
      refine q p _ _ (s2.free (s3.free (s4.free hp))) (s2.trans (s3.trans (s4.trans (Same.new hp)))) upd_same ?_
      have hl := t.length
      unfold cutV cutD
      rw [← hl]
      exact ((((t.sm (s3.trans s4)).drop _).take _).tx (Tx.new hp))⟩
abbrev rJoin (K : PySem.W.Frag) : V → List V → Hp → VK → Prop := fun x xs H Q => ∃ a p, ∃ ys : List Str, x = .str a ∧ xs = [.ref p] ∧ (SqL K H p (ys.map V.str) ∨ SqT K H p (ys.map V.str)) ∧ (ys.map (·.length)).sum + ys.length * a.length ≤ 16777216 ∧ Q (.str (Txt.join a ys)) H
theorem ev_join {a : Str} {ys : List Str} (h0 : Ev K ta σ H (.t (.str a))) (h : Ev K te σ H (.l (ys.map PyData.str))) (hz : (ys.map (·.length)).sum + ys.length * a.length ≤ 16777216) :
    Ev K (tM1 (rJoin K) ta te) σ H (.t (.str (Txt.join a ys))) := fun H1 s Q q =>
  h0 H1 s _ fun v H2 s2 hv => ⟨⟨a, Td.str_of hv⟩, h H2 (s.trans s2) _ fun u H3 s3 ⟨p, xs, e, h1, t⟩ => by
    obtain rfl := TdAll.strs_of t
    exact ⟨a, p, ys, Td.str_of hv, by rw [e], .inl h1, hz, q _ H3 (s2.trans s3) (Td.str _)⟩⟩
theorem ef_split {a b : Str} (h0 : Ev K ta σ H (.t (.str a))) (h : Ev K te σ H (.t (.str b))) (hb : (b.length == 0) = false) (hz : a.length + 2 ≤ sizeLine) :
    Ef (tM1 (fun x xs H Q => ∃ a b, x = .str a ∧ xs = [.str b] ∧ (b.length == 0) = false ∧ a.length + 2 ≤ sizeLine ∧ rNewStrs (Txt.split a b) H Q) ta te) σ H ((Txt.split a b).map PyData.str) := fun H1 s Q q =>
  h0 H1 s _ fun v H2 s2 hv => ⟨⟨a, Td.str_of hv⟩, h H2 (s.trans s2) _ fun u H3 s3 hu => ⟨a, b, Td.str_of hv, by rw [Td.str_of hu], hb, hz, fun p hp =>
    q p _ _ (s2.free (s3.free hp)) (s2.trans (s3.trans (Same.new hp))) upd_same (TdAll.strs _)⟩⟩
theorem ev_find {a b : Str} (h0 : Ev K ta σ H (.t (.str a))) (h : Ev K te σ H (.t (.str b))) : Ev K (tM1 (fun x xs H Q => ∃ a b, x = .str a ∧ xs = [.str b] ∧ Q (.int (Txt.find a b)) H) ta te) σ H (.t (.int (Txt.find a b))) := fun H1 s Q q =>
  h0 H1 s _ fun v H2 s2 hv => ⟨⟨a, Td.str_of hv⟩, h H2 (s.trans s2) _ fun u H3 s3 hu => ⟨a, b, Td.str_of hv, by rw [Td.str_of hu], q _ H3 (s2.trans s3) (Td.int _)⟩⟩
theorem ev_rstrip {a b : Str} (h0 : Ev K ta σ H (.t (.str a))) (h : Ev K te σ H (.t (.str b))) (hz : a.length ≤ sizeLine) :
    Ev K (tM1 (fun x xs H Q => ∃ a b, x = .str a ∧ xs = [.str b] ∧ a.length ≤ sizeLine ∧ Q (.str (Txt.rstripChars a b)) H) ta te) σ H (.t (.str (Txt.rstripChars a b))) := fun H1 s Q q =>
  h0 H1 s _ fun v H2 s2 hv => ⟨⟨a, Td.str_of hv⟩, h H2 (s.trans s2) _ fun u H3 s3 hu => ⟨a, b, Td.str_of hv, by rw [Td.str_of hu], hz, q _ H3 (s2.trans s3) (Td.str _)⟩⟩
abbrev rInC : R2 := fun x y H Q => ∃ (c : Nat) (z : Str), x = .str ⟨#[c]⟩ ∧ y = .str z ∧ Q (.bl (decide (c ∈ z.cps.toList))) H
theorem ev_inC {c : Nat} {z : Str} (ha : Ev K ta σ H (.t (.str ⟨#[c]⟩))) (hb : Ev K tb σ H (.t (.str z))) : Ev K (tOp rInC ta tb) σ H (.t (.bool (decide (c ∈ z.cps.toList)))) :=
  ev_op ha hb fun x y H1 hx hy Q q => ⟨c, z, Td.str_of hx, Td.str_of hy, q _ H1 (Same.refl H1) (Td.bl _)⟩
abbrev rListOf (K : PySem.W.Frag) : List V → Hp → VK → Prop := fun xs H Q => ∃ p ys, xs = [.ref p] ∧ (SqL K H p ys ∨ SqT K H p ys) ∧ ∀ l, H l = none → Q (.ref l) (upd H l (.lst ys))
theorem ef_list (h : Ev K te σ H (.l ds)) : Ef (tCB (rListOf K) (tCons te tNil)) σ H ds := fun H1 s Q q =>
  h H1 s _ fun v H2 s2 ⟨a, xs, e, h1, t⟩ => ⟨a, xs, by rw [e], .inl h1, fun p hp => q p xs _ (s2.free hp) (s2.trans (Same.new hp)) upd_same (t.tx (Tx.new hp))⟩
theorem ef_listT (h : Ev K te σ H (.t (.tuple ds))) : Ef (tCB (rListOf K) (tCons te tNil)) σ H ds := fun H1 s Q q =>
  h H1 s _ fun v H2 s2 hv => by
    obtain ⟨a, xs, e, h1, t⟩ := Td.tup_of hv
    exact ⟨a, xs, by rw [e], .inr (SqT.of h1), fun p hp => q p xs _ (s2.free hp) (s2.trans (Same.new hp)) upd_same (t.tx (Tx.new hp))⟩
abbrev rTupOf (K : PySem.W.Frag) : List V → Hp → VK → Prop := fun xs H Q => ∃ p ys, xs = [.ref p] ∧ ((SqL K H p ys ∧ ∀ l, H l = none → Q (.ref l) (upd H l (.tup ys))) ∨ (SqT K H p ys ∧ Q (.ref p) H))
theorem ev_tuple (h : Ev K te σ H (.l ds)) : Ev K (tCB (rTupOf K) (tCons te tNil)) σ H (.t (.tuple ds)) := fun H1 s Q q =>
  h H1 s _ fun v H2 s2 ⟨a, xs, e, h1, t⟩ => ⟨a, xs, by rw [e], .inl ⟨h1, fun p hp => q _ _ (s2.trans (Same.new hp)) (Td.tup upd_same (t.tx (Tx.new hp)))⟩⟩
theorem ev_max {ns : List Int} {m : Int} (h : Ev K te σ H (.l (ns.map PyData.int))) (hm : m ∈ ns) (hx : ∀ y ∈ ns, y ≤ m) : Ev K (tCB (rMax K) (tCons te tNil)) σ H (.t (.int m)) := fun H1 s Q q =>
  h H1 s _ fun v H2 s2 ⟨a, xs, e, hs, ht⟩ => by
    obtain rfl := TdAll.ints_of ht
    refine ⟨a, ns, by rw [e], hs, List.length_pos_of_mem hm, fun m' h1 h2 => ?_⟩
    have e : m' = m := Int.le_antisymm (hx m' h1) (h2 m hm)
    rw [e]
    exact q _ H2 s2 (Td.int _)
theorem ev_all {bs : List Bool} (h : Ev K te σ H (.l (bs.map PyData.bool))) : Ev K (tCB (rAll K) (tCons te tNil)) σ H (.t (.bool (bs.all id))) := fun H1 s Q q =>
  h H1 s _ fun v H2 s2 ⟨a, xs, e, hs, ht⟩ => by
    obtain rfl := TdAll.bls_of ht
    exact ⟨a, bs, by rw [e], hs, q _ H2 s2 (Td.bl _)⟩
theorem ev_max2 {i j : Int} (ha : Ev K ta σ H (.t (.int i))) (hb : Ev K tb σ H (.t (.int j))) : Ev K (tCB (fun xs H Q => ∃ i j, xs = [.int i, .int j] ∧ Q (.int (if j > i then j else i)) H) (tCons ta (tCons tb tNil))) σ H (.t (.int (if j > i then j else i))) := fun H1 s Q q =>
  ha H1 s _ fun v H2 s2 hv => hb H2 (s.trans s2) _ fun u H3 s3 hu => ⟨i, j, by rw [Td.int_of hv, Td.int_of hu], q _ H3 (s2.trans s3) (Td.int _)⟩
theorem ev_min2 {i j : Int} (ha : Ev K ta σ H (.t (.int i))) (hb : Ev K tb σ H (.t (.int j))) : Ev K (tCB (fun xs H Q => ∃ i j, xs = [.int i, .int j] ∧ Q (.int (if j < i then j else i)) H) (tCons ta (tCons tb tNil))) σ H (.t (.int (if j < i then j else i))) := fun H1 s Q q =>
  ha H1 s _ fun v H2 s2 hv => hb H2 (s.trans s2) _ fun u H3 s3 hu => ⟨i, j, by rw [Td.int_of hv, Td.int_of hu], q _ H3 (s2.trans s3) (Td.int _)⟩
theorem ev_intB {b : Bool} (ha : Ev K ta σ H (.t (.bool b))) : Ev K (tCB (fun xs H Q => (∃ i, xs = [.int i] ∧ Q (.int i) H) ∨ ∃ k, xs = [.bl k] ∧ Q (.int (if k then 1 else 0)) H) (tCons ta tNil)) σ H (.t (.int (if b then 1 else 0))) := fun H1 s Q q =>
  ha H1 s _ fun v H2 s2 hv => .inr ⟨b, by rw [Td.bl_of hv], q _ H2 s2 (Td.int _)⟩
/-- texts, the same or not -/
theorem ev_eqZ {x y : Str} (ha : Ev K ta σ H (.t (.str x))) (hb : Ev K tb σ H (.t (.str y))) (hx : (PyData.str x).canLay0 = true) (hy : (PyData.str y).canLay0 = true) : Ev K (tOp (rEqG K 200) ta tb) σ H (.t (.bool (x == y))) :=
  (ev_eqG ha hb rfl rfl hx hy (Nat.zero_le _)).is (by first | rfl | simp [PyData.eqv])
theorem ev_neZ {x y : Str} (ha : Ev K ta σ H (.t (.str x))) (hb : Ev K tb σ H (.t (.str y))) (hx : (PyData.str x).canLay0 = true) (hy : (PyData.str y).canLay0 = true) : Ev K (tOp (rNeG K 200) ta tb) σ H (.t (.bool (!(x == y)))) :=
  (ev_neG ha hb rfl rfl hx hy (Nat.zero_le _)).is (by first | rfl | simp [PyData.eqv])
theorem ev_neI {i j : Nat} (ha : Ev K ta σ H (.t (.int i))) (hb : Ev K tb σ H (.t (.int j))) : Ev K (tOp (rNeG K 200) ta tb) σ H (.t (.bool (!decide (i = j)))) :=
  (ev_neG ha hb rfl rfl rfl rfl (Nat.zero_le _)).is (by
    congr 3
    by_cases h : i = j
    · subst h
      rw [decide_eq_true rfl]
      first | rfl | simp [PyData.eqv]
    · rw [decide_eq_false h]
      have h2 : ¬ ((i : Int) = (j : Int)) := fun z => h (Int.ofNat.inj z)
      first | (simp [PyData.eqv, h]; done) | (simp [PyData.eqv]; omega))
end
/-! ### texts of signs -/
theorem sw_len (l : List Lt) : (sw l).length = l.length := by
  show ((l.map Lt.code).toArray).size = _
  rw [List.size_toArray, List.length_map]
theorem sw_tl (l : List Lt) : (sw l).cps.toList = l.map Lt.code := by
  show ((l.map Lt.code).toArray).toList = _
  simp
theorem str_ext {x y : Str} (h : x.cps.toList = y.cps.toList) : x = y := by
  cases x with
  | mk a =>
    cases y with
    | mk b =>
      congr 1
      exact Array.toList_inj.mp h
theorem add_tl (x y : Str) : (x ++ y).cps.toList = x.cps.toList ++ y.cps.toList := by
  show ((x.cps ++ y.cps)).toList = _
  simp
theorem sw_app (a b : List Lt) : sw a ++ sw b = sw (a ++ b) := str_ext (by rw [add_tl, sw_tl, sw_tl, sw_tl, List.map_append])
theorem code_inj : ∀ a b : Lt, a.code = b.code → a = b := by intro a b; cases a <;> cases b <;> decide
theorem sw_inj {a b : List Lt} (h : sw a = sw b) : a = b := by
  have h2 : a.map Lt.code = b.map Lt.code := by rw [← sw_tl, ← sw_tl, h]
  exact List.map_inj_right (fun x y => code_inj x y) |>.mp h2
theorem sw_beq (a b : List Lt) : (sw a == sw b) = decide (a = b) := by
  by_cases h : a = b
  · subst h
    rw [decide_eq_true rfl]
    exact beq_self_eq_true _
  · rw [decide_eq_false h]
    exact beq_eq_false_iff_ne.mpr fun z => h (sw_inj z)
theorem sw_lay (l : List Lt) : (PyData.str (sw l)).canLay0 = true := by
  have h : PyData.strOk (sw l) = true := by
    show (sw l).cps.all _ = true
    rw [← Array.all_toList, sw_tl, List.all_eq_true]
    intro x hx
    obtain ⟨c, _, rfl⟩ := List.mem_map.mp hx
    cases c <;> rfl
  first | exact h | simpa [PyData.canLay0] using h
theorem chs_sw (l : List Lt) : chs (sw l) = l.map fun c => .str (sw [c]) := by
  unfold chs
  rw [sw_tl, List.map_map]
  rfl
theorem revS_sw (l : List Lt) : revS (sw l) = sw l.reverse := by
  refine str_ext ?_
  show ((sw l).cps.toList.reverse.toArray).toList = _
  rw [sw_tl, sw_tl, List.map_reverse]
theorem mulS_sw (c : Lt) (n : Nat) : mulS (sw [c]) n = sw (List.replicate n c) := by
  refine str_ext ?_
  show ((List.replicate n (sw [c]).cps.toList).flatten.toArray).toList = _
  rw [sw_tl, sw_tl, List.map_replicate]
  simp
theorem cutS_sw (l : List Lt) (lo hi : Option Int) : cutS (sw l) lo hi = sw ((l.drop (HT.sIx l.length 0 lo)).take (HT.sIx l.length l.length hi - HT.sIx l.length 0 lo)) := by
  refine str_ext ?_
  unfold cutS
  rw [sw_len, sw_tl, sw_tl, ← List.map_drop, ← List.map_take]
theorem join_sw (ls : List (List Lt)) : Txt.join "" (ls.map sw) = sw ls.flatten := by
  have e : ls.map sw = (ls.map fun l => l.map Lt.code).map SX.S := by rw [List.map_map]; rfl
  have e0 : ("" : Str) = SX.S [] := rfl
  rw [e, e0, SX.join_S]
  have h : ∀ (l : List (List Nat)), TL.joinL [] l = l.flatten := by
    intro l
    induction l with
    | nil => rfl
    | cons a l ih =>
      cases l with
      | nil => simp [TL.joinL]
      | cons b l => simp [TL.joinL] at ih ⊢; first | exact ih | (rw [ih])
  rw [h]
  show SX.S _ = SX.S _
  rw [List.map_flatten]
end My

/-! W12: make_rows and images of counters, walked. -/
namespace My
open PySem PySem.Spec PyProof.Rows L2
section
variable {P : Program} {w : World} {K : PySem.W.Frag} {mg : Str → Option Value} {base : Heap}
theorem row_len {f m : Nat} : ∀ {r : Row}, r.ct < m → (rowT f m r).length ≤ 6 * m + 2
  | .up c g, h => by
    show (upT f m c g).length ≤ _
    unfold upT
    rw [fm_len _ 2 (fun _ => rfl)]
    omega
  | .down c g z, h => by
    have h : c < m := h
    show (downT f m c g z).length ≤ _
    unfold downT
    simp only [List.length_append, fm_len _ 2 (fun i => (rfl : (copT f m 0 i [.e] 0).length = 2)), fm_len _ 2 (fun i => (rfl : (copT f m 1 (c + i) [.e] g).length = 2)), fm_len _ 2 (fun i => (rfl : (copT f m 2 (c + 1 + i) [.e] z).length = 2)), List.length_cons, List.length_nil]
    omega

def f_make_rows : GrL := fun as ds => ∃ (prog : List Row) (many : Nat), many ≤ 100 ∧ prog.length ≤ 1000 ∧ (∀ r ∈ prog, r.ct < many) ∧ as = [.l (prog.map Row.d), .t (.int many)] ∧ ds = (rowsT many prog).map RR.d
theorem len_make_rows {as : List Ag} {d : List PyData} (h : f_make_rows as d) : as.length = 2 := by obtain ⟨_, _, _, _, _, rfl, _⟩ := h; rfl
theorem flat_len {α : Type} (c : Nat) : ∀ (l : List (List α)), (∀ x ∈ l, x.length ≤ c) → l.flatten.length ≤ c * l.length
  | [], _ => Nat.zero_le _
  | x :: l, h => by
    rw [List.flatten_cons, List.length_append, List.length_cons, Nat.mul_succ]
    have h1 := h x List.mem_cons_self
    have h2 := flat_len c l fun y hy => h y (List.mem_cons_of_mem _ hy)
    omega
theorem sc_make_rows : FnScope ["program", "many", "rules", "place", "row", "first"] ["program", "many"] (defScope st_make_rows) := ⟨rfl, rfl, rfl, by decide +kernel, rfl, by decide +kernel, by decide +kernel⟩
theorem has_make_rows (T : Txt P w K mg base) : Has P w K mg base "make_rows" ["program", "many"] 4 (SpL K f_make_rows) := by
  refine has_mk T.glo_make_rows (T.c.def_ 5 (d := d_make_rows) rfl) sc_make_rows (SpL.len (fun as d h => by exact len_make_rows h)) (fun _ _ _ _ _ _ us hl => match us, hl with | [_, _], _ => rfl) (fun cdv A outer s H vs Q E hr h => ?_)
  refine ⟨_, (pss_cons (ps_set (i := 2) sc_make_rows.nd rfl (by first | exact Or.inl rfl | exact Or.inr rfl) (pe_lst pa_nil))
    (pss_cons (ps_for PassesOwn.never rfl (pi_enum (by rfl) T.free_enumerate (pa_cons (pv 0) pa_nil)) (pg_tup rfl (pgs_cons (pg_name (i := 3) sc_make_rows.nd rfl (by first | exact Or.inl rfl | exact Or.inr rfl)) (pgs_cons (pg_name (i := 4) sc_make_rows.nd rfl (by first | exact Or.inl rfl | exact Or.inr rfl)) pgs_nil)))
    (pss_cons (ps_set (i := 5) sc_make_rows.nd rfl (by first | exact Or.inl rfl | exact Or.inr rfl) (pe_op op_addG (pe_op op_addG (pe_callB (call_lenK (K := K)) (by rfl) T.free_len PySem.boot_len (pa_cons (pv 0) pa_nil)) pe_int) (pe_op op_mul (pe_op op_mul (pv 3) (T.c_PHASES)) (pv 1))))
    (pss_cons (ps_expr (pe_bm PySem.F.plainAttrs_list PySem.F.slot_list_append PySem.F.type_list_append mt_append (pv 2) (pa_cons (pe_tup (pa_cons (pv 3) (pa_cons pe_str (pa_cons pe_str (pa_cons (pv 5) pa_nil))))) pa_nil)))
    (pss_one (ps_if (pt_cmpR (op_eqSK (K := K) hr) (pe_ixK (K := K) (pv 4) pe_int (fun _ _ => rfl)) pe_str (nomark _)) (pss_one (ps_expr (pe_bm PySem.F.plainAttrs_list PySem.F.slot_list_extend PySem.F.type_list_extend mt_extend (pv 2) (pa_cons (pc (has_up_rules T) (hr.mono (by decide)) (pa_cons (pv 5) (pa_cons (pv 1) (pa_cons (pv 4) pa_nil)))) pa_nil)))) (pss_one (ps_expr (pe_bm PySem.F.plainAttrs_list PySem.F.slot_list_extend PySem.F.type_list_extend mt_extend (pv 2) (pa_cons (pc (has_down_rules T) (hr.mono (by decide)) (pa_cons (pv 5) (pa_cons (pv 1) (pa_cons (pv 4) pa_nil)))) pa_nil)))))))))
    (pss_one (ps_ret (pv 2))))), ?_⟩
  obtain ⟨as, ds, ⟨prog, m, hm, hpl, hct, rfl, rfl⟩, hv, k⟩ := h
  obtain ⟨x1, x2, rfl, h1, h2⟩ := hv.i2
  obtain rfl := Td.int_of h2
  obtain ⟨a, ps, rfl, hps, tps⟩ := h1
  refine q_setF (ef_lst (K := K) (ds := []) ea_nil (by decide)) fun p xs H1 hp s1 hp1 t1 => ?_
  let G : List (List RR) := prog.mapIdx fun p r => placeT prog.length m p r
  have hG : ∀ i r, prog[i]? = some r → G[i]? = some (placeT prog.length m i r) := fun i r e => by
    show (prog.mapIdx fun p r => placeT prog.length m p r)[i]? = _
    rw [List.getElem?_mapIdx, e]
    rfl
  have hGl : G.length = prog.length := List.length_mapIdx
  have hGc : ∀ x ∈ G, x.length ≤ 6 * m + 3 := fun x hx => by
    obtain ⟨i, hi, e⟩ := List.getElem_of_mem hx
    have hi2 : i < prog.length := by rw [hGl] at hi; exact hi
    have e2 := hG i _ (List.getElem?_eq_getElem hi2)
    rw [List.getElem?_eq_getElem hi, e] at e2
    cases e2
    have := row_len (f := prog.length + 1 + i * 3 * m) (m := m) (hct _ (List.getElem_mem hi2))
    show (rowT _ _ _).length + 1 ≤ _
    omega
  have hGt : ∀ i, ((G.take i).flatten).length ≤ 6 * m * 1000 + 3000 := fun i => by
    have := flat_len (6 * m + 3) (G.take i) fun x hx => hGc x (List.mem_of_mem_take hx)
    have h3 : (G.take i).length ≤ 1000 := by rw [List.length_take, hGl]; omega
    have h4 : (6 * m + 3) * (G.take i).length ≤ (6 * m + 3) * 1000 := Nat.mul_le_mul (Nat.le_refl _) h3
    omega
  refine q_for (wk_enum (K := K) (Hb := H) (ds := prog.map Row.d) (ea_cons (ev_var rfl (show At K H1 (.ref a) (refIs a) from rfl)) ea_nil) hps tps s1)
    (fun i σ' H' => ∃ o3 o4 o5 ys, σ' = [some (.ref a), some (.int m), some (.ref p), o3, o4, o5] ∧ Same H H' ∧ H' p = some (.lst ys) ∧ TdAll H' ys (((G.take i).flatten).map RR.d))
    (fun H2 s2 => ⟨none, none, none, xs, rfl, s1.trans s2, s2 _ _ hp1, t1.sm s2⟩) (fun i σ' H' ⟨_, _, _, _, _, s, _⟩ => s) ?_ ?_
  · rintro i d x σ' H2 H3 hd hx ⟨o3, o4, o5, ys, rfl, s2, h2, t2⟩ s3
    obtain ⟨r, hr1, rfl⟩ : ∃ r, prog[i]? = some r ∧ d = .tuple [.int (i : Nat), r.d] := by
      unfold enumD at hd
      rw [List.getElem?_mapIdx, List.getElem?_map] at hd
      cases e : prog[i]? with
      | none => rw [e] at hd; cases hd
      | some r => rw [e] at hd; cases hd; exact ⟨r, rfl, rfl⟩
    obtain ⟨ta, u, v, rfl, hxt, tu, tv⟩ := Td.t2 hx
    obtain rfl := Td.int_of tu
    have s13 := s2.trans s3
    refine ⟨_, _, rfl, SqT.of hxt, rfl, _, _, rfl, _, _, rfl, rfl, ?_⟩
    have e4 : G.take (i + 1) = G.take i ++ [placeT prog.length m i r] := by
      rw [List.take_add_one, hG i r hr1]
      rfl
    have hil : i < prog.length := (List.getElem?_eq_some_iff.mp hr1).1
    have ht23 := t2.sm s3
    have hp3 := s3 _ _ h2
    -- first
    refine q_set (K := K) (a := .t (.int ((prog.length + 1 + i * 3 * m : Nat) : Int))) ?_ fun z H4 s4 h4 => ?_
    · have ev : Ev K (tOp rAddG (tOp rAddG (tCB (rLenK K) (tCons (tVar 0) tNil)) (tC (.int 1))) (tOp (rI CMul fun i j => .int (i * j)) (tOp (rI CMul fun i j => .int (i * j)) (tVar 3) (tC (.int 3))) (tVar 1)))
          [some (.ref a), some (.int m), some (.ref p), some (.int i), some v, o5] H3 (.t (.int ((prog.length : Int) + 1 + ((i : Int) * 3) * (m : Int)))) :=
        ev_addI (ev_addI (ev_len (ds := prog.map Row.d) (ev_var rfl (show At K H3 (.ref a) (.l (prog.map Row.d)) from ⟨a, ps, rfl, s13.seq hps, tps.sm s13⟩)) (List.length_map _)) ev_int) (ev_mulI (ev_mulI (vI rfl) ev_int (Or.inr (by decide))) (vI rfl) (Or.inr ⟨by omega, by omega⟩))
      have e5 : ((prog.length : Int) + 1 + ((i : Int) * 3) * (m : Int)) = ((prog.length + 1 + i * 3 * m : Nat) : Int) := by
        rw [Int.natCast_add, Int.natCast_add, Int.natCast_mul, Int.natCast_mul]
        rfl
      rw [e5] at ev
      exact ev
    · obtain rfl := Td.int_of h4
      refine q_append (K := K) rfl (s4 _ _ hp3) (ht23.sm s4) (ev_RR (r := ⟨i, .b, [.b], prog.length + 1 + i * 3 * m⟩) (vI rfl) ev_str ev_str (vI rfl)) (by rw [List.length_map]; have := hGt i; omega) fun ys5 H5 mu5 hp5 t5 => ?_
      have s5 : Same H H5 := mu5.of (s13.trans s4) hp
      have tv5 : Td H5 v r.d := (tv.sm s4).tx mu5.tx
      have er : (placeT prog.length m i r) = ⟨i, .b, [.b], prog.length + 1 + i * 3 * m⟩ :: rowT (prog.length + 1 + i * 3 * m) m r := rfl
      have hc := hct r (List.mem_of_getElem? hr1)
      have hrl := row_len (f := prog.length + 1 + i * 3 * m) (m := m) hc
      cases r with
      | up c gg =>
        refine st_ifT ((eb_test (ev_eqZ (K := K) (ev_ixT (i := 0) (vD rfl tv5) ev_int rfl) ev_str (by decide +kernel) (by decide +kernel))).is (by decide +kernel)) fun H6 s6 => ?_
        refine st_extend (K := K) rfl (s6 _ _ hp5) (t5.sm s6) (ef_call (F := f_up_rules) ⟨prog.length + 1 + i * 3 * m, m, c, gg, by omega, rfl, rfl⟩ (ea_cons (vI rfl) (ea_cons (vI rfl) (ea_cons (vD rfl (tv5.sm s6)) ea_nil))))
          (by rw [List.length_append, List.length_map, List.length_map]; have := hGt i; have h7 : (upT (prog.length + 1 + i * 3 * m) m c gg).length ≤ 6 * m + 2 := hrl; simp only [List.length_singleton]; omega) fun ys7 H7 mu7 hp7 t7 => ?_
        refine ⟨_, _, _, ys7, rfl, mu7.of (s5.trans s6) hp, hp7, ?_⟩
        rw [e4, List.flatten_append, List.map_append, er]
        simpa [rowT] using t7
      | down c gg z =>
        refine st_ifF ((eb_test (ev_eqZ (K := K) (ev_ixT (i := 0) (vD rfl tv5) ev_int rfl) ev_str (by decide +kernel) (by decide +kernel))).is (by decide +kernel)) fun H6 s6 => ?_
        refine st_extend (K := K) rfl (s6 _ _ hp5) (t5.sm s6) (ef_call (F := f_down_rules) ⟨prog.length + 1 + i * 3 * m, m, c, gg, z, by omega, hc, rfl, rfl⟩ (ea_cons (vI rfl) (ea_cons (vI rfl) (ea_cons (vD rfl (tv5.sm s6)) ea_nil))))
          (by rw [List.length_append, List.length_map, List.length_map]; have := hGt i; have h7 : (downT (prog.length + 1 + i * 3 * m) m c gg z).length ≤ 6 * m + 2 := hrl; simp only [List.length_singleton]; omega) fun ys7 H7 mu7 hp7 t7 => ?_
        refine ⟨_, _, _, ys7, rfl, mu7.of (s5.trans s6) hp, hp7, ?_⟩
        rw [e4, List.flatten_append, List.map_append, er]
        simpa [rowT] using t7
  · rintro σ' H2 ⟨o3, o4, o5, ys, rfl, s2, h2, t2⟩
    refine ⟨_, rfl, k p ys H2 hp s2 h2 ?_⟩
    have e : G.take (enumD (prog.map Row.d)).length = G := by
      rw [enumD_len, List.length_map, ← hGl, List.take_length]
    rw [e] at t2
    exact t2
end
end My

/-! W13: images of counters and rows, walked. -/
namespace My
open PySem PySem.Spec PyProof.Rows L2
section
variable {P : Program} {w : World} {K : PySem.W.Frag} {mg : Str → Option Value} {base : Heap}

def cntW (cs : List Nat) : List Lt := .b :: cs.flatMap fun c => List.replicate c .i ++ [.e]
def csD (cs : List Nat) : PyData := .tuple (cs.map fun (c : Nat) => PyData.int c)
def f_counter_image : Gr := fun as d => ∃ (p : Nat) (cs : List Nat), cs.length ≤ 100 ∧ (∀ c ∈ cs, c ≤ 100) ∧ as = [.t (.tuple [.int p, csD cs])] ∧ d = .tuple [.int p, .str (sw (cntW cs))]
theorem len_counter_image {as : List Ag} {d : PyData} (h : f_counter_image as d) : as.length = 1 := by obtain ⟨_, _, _, _, rfl, _⟩ := h; rfl
def cntP (d : PyData) : PyData := match d with
  | .int n => .str (sw (List.replicate n.toNat .i ++ [.e]))
  | d => d
theorem ev_cntP {σ : L2.St} {H : Hp} {i : Nat} {cs : List Nat} {d : PyData} {x : V} (hc : ∀ c ∈ cs, c ≤ 100) (hd : d ∈ cs.map fun (c : Nat) => PyData.int c) (hx : Td H x d) (hj : σ[i]? = some (some x)) : Ev K (tOp rAddG (tOp rMulS (tC (.str "i")) (tVar i)) (tC (.str "e"))) σ H (.t (cntP d)) := by
  obtain ⟨c, hcm, rfl⟩ := List.mem_map.mp hd
  obtain rfl := Td.int_of hx
  have hc2 := hc c hcm
  have e1 : Ev K (tOp rAddG (tOp rMulS (tC (.str "i")) (tVar i)) (tC (.str "e"))) σ H (.t (.str (mulS (sw [.i]) c ++ sw [.e]))) :=
    ev_addS (ev_mulS (z := sw [.i]) ev_str (vI hj) (by decide) (by omega)) ev_str (by rw [mulS_sw, sw_len, sw_len, List.length_replicate]; show c + 1 ≤ sizeLine; rw [sizeLine_eq]; omega)
  rw [mulS_sw, sw_app] at e1
  exact e1
/-- [i times count, e] of all counts, joined behind b -/
theorem ev_cntW0 {σ : L2.St} {H : Hp} {wi : TI} {i : Nat} {cs : List Nat} (hl : cs.length ≤ 100) (hc : ∀ c ∈ cs, c ≤ 100) (h1 : Ef (tLc wi (gName i) tYes (tOp rAddG (tOp rMulS (tC (.str "i")) (tVar i)) (tC (.str "e"))) [i]) σ H ((cs.map fun (c : Nat) => PyData.int c).map cntP)) :
    Ev K (tOp rAddG (tC (.str "b")) (tM1 (rJoin K) (tC (.str "")) (tLc wi (gName i) tYes (tOp rAddG (tOp rMulS (tC (.str "i")) (tVar i)) (tC (.str "e"))) [i]))) σ H (.t (.str (sw (cntW cs)))) := by
  have e2 : (cs.map fun (c : Nat) => PyData.int c).map cntP = ((cs.map fun c => List.replicate c .i ++ [.e]).map sw).map PyData.str := by
    rw [List.map_map, List.map_map, List.map_map]
    exact List.map_congr_left fun c _ => rfl
  rw [e2] at h1
  have hsum : ∀ (l : List Nat), (∀ c ∈ l, c ≤ 100) → ((((l.map fun c => List.replicate c Lt.i ++ [.e]).map sw).map (·.length)).sum) ≤ 101 * l.length := by
    intro l
    induction l with
    | nil => intro _; exact Nat.zero_le _
    | cons c l ih =>
      intro h
      have h2 := ih fun x hx => h x (List.mem_cons_of_mem _ hx)
      have h3 := h c List.mem_cons_self
      rw [List.map_cons, List.map_cons, List.map_cons, List.sum_cons, List.length_cons, sw_len, List.length_append, List.length_replicate, List.length_singleton]
      omega
  have h2 := ev_join (K := K) (a := "") (ta := tC (.str "")) ev_str h1.ev (by
    have := hsum cs hc
    have e0 : ("" : Str).length = 0 := rfl
    rw [e0, Nat.mul_zero]
    omega)
  rw [join_sw] at h2
  have hlen : ∀ (l : List Nat), (∀ c ∈ l, c ≤ 100) → ((l.map fun c => List.replicate c Lt.i ++ [.e]).flatten).length ≤ 101 * l.length := by
    intro l
    induction l with
    | nil => intro _; exact Nat.zero_le _
    | cons c l ih =>
      intro h
      have h2 := ih fun x hx => h x (List.mem_cons_of_mem _ hx)
      have h3 := h c List.mem_cons_self
      rw [List.map_cons, List.flatten_cons, List.length_append, List.length_cons, List.length_append, List.length_replicate, List.length_singleton]
      omega
  have h3 := ev_addS (i := sw [.b]) (ta := tC (.str "b")) ev_str h2 (by
    rw [sw_len, sw_len, sizeLine_eq]
    have := hlen cs hc
    show 1 + _ ≤ _
    omega)
  rw [sw_app] at h3
  have e3 : [Lt.b] ++ (cs.map fun c => List.replicate c Lt.i ++ [.e]).flatten = cntW cs := by
    show _ = Lt.b :: _
    rw [List.flatMap_def]
    rfl
  rw [e3] at h3
  exact h3
theorem ev_cntW {σ : L2.St} {H : Hp} {wi : TI} {i : Nat} {cs : List Nat} (hl : cs.length ≤ 100) (hc : ∀ c ∈ cs, c ≤ 100) {Hb : Hp} (hw : ∀ H', Same H H' → Wk wi σ Hb H' (cs.map fun (c : Nat) => PyData.int c)) (hH : Same Hb H) (hi : ∀ x : Option V, wipe ((wipe σ [i]).set i x) [i] = wipe σ [i])
    (hj : ∀ x : V, ((wipe σ [i]).set i (some x))[i]? = some (some x)) :
    Ev K (tOp rAddG (tC (.str "b")) (tM1 (rJoin K) (tC (.str "")) (tLc wi (gName i) tYes (tOp rAddG (tOp rMulS (tC (.str "i")) (tVar i)) (tC (.str "e"))) [i]))) σ H (.t (.str (sw (cntW cs)))) :=
  ev_cntW0 hl hc (ef_lcY (K := K) cntP hw hH (by rw [List.length_map]; omega) hi fun d x H' hd s1 hx => ev_cntP hc hd hx (hj x))
theorem sc_counter_image : FnScope ["stand", "place", "counts", "count"] ["stand"] (defScope st_counter_image) := ⟨rfl, rfl, rfl, by decide +kernel, rfl, by decide +kernel, by decide +kernel⟩
theorem has_counter_image (T : Txt P w K mg base) : Has P w K mg base "counter_image" ["stand"] 1 (SpT K f_counter_image) := by
  refine has_mk T.glo_counter_image (T.c.def_ 0 (d := d_counter_image) rfl) sc_counter_image (SpT.len (fun as d h => by exact len_counter_image h)) (fun _ _ _ _ _ _ us hl => match us, hl with | [_], _ => rfl) (fun cdv A outer s H vs Q E hr h => ?_)
  refine ⟨_, (pss_cons (ps_asg (pv 0) (pg_tup rfl (pgs_cons (pg_name (i := 1) sc_counter_image.nd rfl (by first | exact Or.inl rfl | exact Or.inr rfl)) (pgs_cons (pg_name (i := 2) sc_counter_image.nd rfl (by first | exact Or.inl rfl | exact Or.inr rfl)) pgs_nil))))
    (pss_one (ps_ret (pe_tup (pa_cons (pv 1) (pa_cons (pe_op op_addG pe_str (pe_join pe_str (pe_lc (own := [("count", 3)]) (tt := tYes) rfl sc_counter_image.nd (pi_tup (pv 2)) (blkOk_by (own := [("count", 3)]) (N := ["stand", "place", "counts", "count"]) (sc := defScope st_counter_image) (by decide +kernel)) (fun _ _ _ _ _ => (pg_name (i := 3) sc_counter_image.nd rfl (by first | exact Or.inl rfl | exact Or.inr rfl))) (fun _ _ _ _ _ => pts_nil) (fun _ _ _ _ _ => (pe_op op_addG (pe_op op_mulS pe_str (pv 3)) pe_str))))) pa_nil)))))), ?_⟩
  obtain ⟨as, d, ⟨p, cs, hl, hc, rfl, rfl⟩, hv, k⟩ := h
  obtain ⟨x, rfl, hx⟩ := hv.i1
  have hx : Td H x (.tuple [.int p, csD cs]) := hx
  obtain ⟨ta, u, v, rfl, hxt, tu, tv⟩ := Td.t2 hx
  obtain rfl := Td.int_of tu
  refine ⟨_, rfl, _, _, rfl, SqT.of hxt, rfl, _, _, rfl, _, _, rfl, rfl, ?_⟩
  obtain ⟨b, zs, rfl, hb, tz⟩ := Td.tup_of tv
  exact st_ret (ev_tup (K := K) (ds := [.int p, .str (sw (cntW cs))]) (ea_cons (vI rfl) (ea_cons (ev_cntW (Hb := H) hl hc (fun H' s => wk_tup (K := K) (ev_ref rfl) hb tz s) (Same.refl H) (fun x => rfl) (fun x => rfl)) ea_nil)) (Nat.le_of_ble_eq_true rfl)) k
/-- a stand of the row, on the tape -/
def f_row_image : Gr := fun as d => ∃ (p : Nat) (c : Lt) (l : List Lt), l.length ≤ 100000 ∧ as = [.t (.tuple [.int p, .str (sw (c :: l))]), .t (.int 0)] ∧ d = .tuple [.int p, .str (sw []), .str (sw [c]), .str (sw l)]
theorem len_row_image {as : List Ag} {d : PyData} (h : f_row_image as d) : as.length = 2 := by obtain ⟨_, _, _, _, rfl, _⟩ := h; rfl
theorem at0 {α : Type} (c : α) (l : List α) : atI (c :: l) 0 = some c := by
  refine atI_get (j := 0) ?_ rfl
  unfold ixN
  simp
theorem cut1 (c : Lt) (l : List Lt) : cutS (sw (c :: l)) (some 1) none = sw l := by
  rw [cutS_sw]
  have e1 : HT.sIx (c :: l).length 0 (some 1) = 1 := by
    first
    | (simp [HT.sIx]; done)
    | (simp [HT.sIx]; omega)
  have e2 : HT.sIx (c :: l).length (c :: l).length none = (c :: l).length := rfl
  rw [e1, e2]
  show sw (l.take ((l.length + 1) - 1)) = sw l
  rw [Nat.add_sub_cancel, List.take_length]
theorem sc_row_image : FnScope ["stand", "k", "state", "row", "right"] ["stand", "k"] (defScope st_row_image) := ⟨rfl, rfl, rfl, by decide +kernel, rfl, by decide +kernel, by decide +kernel⟩
theorem has_row_image (T : Txt P w K mg base) : HasD P w K mg base "row_image" ["stand", "k"] 1 (SpT K f_row_image) (.int 0) := by
  refine hasD_mk (n := 1) T.glo_row_image (T.c.def_ 7 (d := d_row_image) rfl) sc_row_image (SpT.len (fun as d h => by exact len_row_image h)) rfl (fun _ _ _ _ _ _ _ us its h1 h2 => match us, its, h1, h2 with | [_], [_], _, _ => ⟨_, rfl, rfl⟩) (fun cdv A outer s H vs Q E hr h => ?_)
  refine ⟨_, (pss_cons (ps_asg (pv 0) (pg_tup rfl (pgs_cons (pg_name (i := 2) sc_row_image.nd rfl (by first | exact Or.inl rfl | exact Or.inr rfl)) (pgs_cons (pg_name (i := 3) sc_row_image.nd rfl (by first | exact Or.inl rfl | exact Or.inr rfl)) pgs_nil))))
    (pss_cons (ps_if (pt_cmpR (op_eqSK (K := K) hr) (pv 3) pe_str (nomark _)) (pss_one (ps_ret (pe_tup (pa_cons (pv 2) (pa_cons (pe_op op_mulS (T.c_BLANK) (pv 1)) (pa_cons (T.c_BLANK) (pa_cons pe_str pa_nil))))))) pss_nil)
    (pss_cons (ps_set (i := 4) sc_row_image.nd rfl (by first | exact Or.inl rfl | exact Or.inr rfl) (pe_slice sl_str (pv 3) (po_some pe_int) po_none))
    (pss_cons (ps_if (pt_cmpR op_gt (pv 1) pe_int (nomark _)) (pss_one (ps_set (i := 4) sc_row_image.nd rfl (by first | exact Or.inl rfl | exact Or.inr rfl) (pe_op op_addG (pv 4) (T.c_BLANK)))) pss_nil)
    (pss_one (ps_ret (pe_tup (pa_cons (pv 2) (pa_cons (pe_op op_mulS (T.c_BLANK) (pv 1)) (pa_cons (pe_ixK (K := K) (pv 3) pe_int (fun _ _ => rfl)) (pa_cons (pv 4) pa_nil))))))))))), ?_⟩
  obtain ⟨as, d, ⟨p, c, l, hl, rfl, rfl⟩, hv, k⟩ := h
  obtain ⟨x, y, rfl, hx, hy⟩ := hv.i2
  obtain rfl := Td.int_of hy
  have hx : Td H x (.tuple [.int p, .str (sw (c :: l))]) := hx
  obtain ⟨ta, u, v, rfl, hxt, tu, tv⟩ := Td.t2 hx
  obtain rfl := Td.int_of tu
  obtain rfl := Td.str_of tv
  have hz : (sw (c :: l)).length ≤ sizeLine := by rw [sw_len, sizeLine_eq, List.length_cons]; omega
  refine ⟨_, rfl, _, _, rfl, SqT.of hxt, rfl, _, _, rfl, _, _, rfl, rfl, ?_⟩
  refine q_ifN ((eb_test (ev_eqZ (K := K) (y := sw []) (vS rfl) ev_str (sw_lay _) (sw_lay []))).is (by rw [sw_beq]; rfl)) fun H1 s1 => ?_
  refine q_set (K := K) (ev_slS (K := K) (vS rfl) (eo_some (K := K) ev_int) eo_none hz) fun r H2 s2 h2 => ?_
  obtain rfl := Td.str_of h2
  rw [cut1]
  refine q_ifN ((eb_test (ev_cmpI (K := K) (f := fun i j => decide (i > j)) (vI rfl) ev_int)).is rfl) fun H3 s3 => ?_
  have e0 : mulS (sw [.u]) 0 = sw [] := rfl
  refine st_ret (ev_tup (K := K) (ds := [.int p, .str (sw []), .str (sw [c]), .str (sw l)]) (ea_cons (vI rfl) (ea_cons (by rw [← e0]; exact ev_mulS (z := sw [.u]) (n := 0) ev_str (vI rfl) (by decide) (by decide)) (ea_cons (ev_ixS (z := sw (c :: l)) (i := 0) (c := c.code) (vS rfl) ev_int hz (by rw [sw_tl]; exact at0 _ _)) (ea_cons (vS rfl) ea_nil)))) (Nat.le_of_ble_eq_true rfl)) fun v H4 s4 h => k v H4 (s1.trans (s2.trans (s3.trans s4))) h
end
end My

/-! Lib7: comprehensions over what has just come. -/
namespace My
open PySem PySem.Spec PyProof.Rows L2
/-- what is walked gives these data, one by one, as long as what stands when the walk begins stands -/
def WkF (wi : TI) (σ : L2.St) (H : Hp) (ds : List PyData) : Prop := ∀ R : It → Hp → Prop, (∀ J G Y H2, Same H H2 → Walk J ds.length G Y → (∀ H3, Same H2 H3 → G H3) →
  (∀ i H3 x H4, Same H2 H3 → Y i H3 x H4 → Same H3 H4 ∧ ∃ d, ds[i]? = some d ∧ Td H4 x d) → R J H2) → wi σ H R
section
variable {K : PySem.W.Frag} {σ : L2.St} {Hb H : Hp} {ds : List PyData} {wi : TI} {te tl : TE}
theorem Wk.f (h : Wk wi σ Hb H ds) (hb : Same Hb H) : WkF wi σ H ds := fun R hR => h R fun J G Y H2 s2 wl hG hY => hR J G Y H2 s2 wl (fun H3 s3 => hG H3 (hb.trans (s2.trans s3))) fun i H3 x H4 s3 y => hY i H3 x H4 (hb.trans (s2.trans s3)) y
theorem wkf_list (hl : Ev K tl σ H (.l ds)) : WkF (iList K tl) σ H ds := fun R hR =>
  hl H (Same.refl H) _ fun v H1 s1 ⟨a, xs, e, hb, ht⟩ => by
    refine ⟨a, e, ⟨xs, hb⟩, ?_⟩
    have wl := walk_list (K := K) (a := a) (xs := xs)
    rw [ht.length] at wl
    refine hR _ _ _ H1 s1 wl (fun H3 s3 => s3.seq hb) fun i H3 x H4 s3 y => ?_
    obtain ⟨rfl, y⟩ := y
    obtain ⟨d, h1, h2⟩ := ht.get' y
    exact ⟨Same.refl _, d, h1, h2.sm s3⟩
theorem wkf_tup (hl : Ev K tl σ H (.t (.tuple ds))) : WkF (iTup K tl) σ H ds := fun R hR =>
  hl H (Same.refl H) _ fun v H1 s1 hv => by
    obtain ⟨a, xs, e, hb, ht⟩ := Td.tup_of hv
    have hb := SqT.of (K := K) hb
    refine ⟨a, e, ⟨xs, hb⟩, ?_⟩
    have wl := walk_tup (K := K) (a := a) (xs := xs)
    rw [ht.length] at wl
    refine hR _ _ _ H1 s1 wl (fun H3 s3 => s3.seqT hb) fun i H3 x H4 s3 y => ?_
    obtain ⟨rfl, y⟩ := y
    obtain ⟨d, h1, h2⟩ := ht.get' y
    exact ⟨Same.refl _, d, h1, h2.sm s3⟩
/-- [f(x) for x in .. if b(x)] -/
theorem ef_lcF {i : Nat} {tt : TT} (b : PyData → Bool) (f : PyData → PyData) (hw : ∀ H', Same H H' → WkF wi σ H' ds) (hlen : ds.length ≤ 100000) (hi : ∀ x : Option V, wipe ((wipe σ [i]).set i x) [i] = wipe σ [i])
    (ht : ∀ d x H', d ∈ ds → Same H H' → Td H' x d → Eb tt ((wipe σ [i]).set i (some x)) H' (b d) ∧ (b d = true → Ev K te ((wipe σ [i]).set i (some x)) H' (.t (f d)))) : Ef (tLc wi (gName i) tt te [i]) σ H ((ds.filter b).map f) := fun H1 s1 Q q =>
  hw H1 s1 _ fun J G Y H2 s2 wl hGG hY D hD => by
    have s02 : Same H H2 := s1.trans s2
    refine lc_it wl (fun k H3 => Same H2 H3 ∧ ∃ ys, H3 D = some (.lst ys) ∧ TdAll H3 ys (((ds.take k).filter b).map f)) ⟨Same.new hD, [], upd_same, .nil⟩ (fun k H3 _ p => hGG H3 p.1) ?_ ?_
    · rintro k x H3 H4 hk ⟨s3, ys, h1, h2⟩ y
      obtain ⟨s4, d, h3, h4⟩ := hY k H3 x H4 s3 y
      have hm : d ∈ ds := List.mem_of_getElem? h3
      have hlt : k < ds.length := (List.getElem?_eq_some_iff.mp h3).1
      have etk : ds.take (k + 1) = ds.take k ++ [d] := by
        rw [List.take_add_one, h3]
        rfl
      obtain ⟨e1, e2⟩ := ht d x H4 hm (s02.trans (s3.trans s4)) h4
      refine ⟨hi _, e1 H4 (Same.refl _) _ fun H5 s5 => ?_⟩
      cases hb : b d with
      | true =>
        refine iteT (e2 hb H5 s5 _ fun v H6 s6 h6 => ?_)
        have s46 := s4.trans (s5.trans s6)
        have hD6 := s46 _ _ h1
        refine ⟨ys, hD6, ?_, ?_⟩
        · rw [h2.length, List.length_map]
          have l1 := List.length_filter_le b (ds.take k)
          have l2 : (ds.take k).length ≤ ds.length := by rw [List.length_take]; omega
          exact Nat.lt_of_le_of_lt (Nat.le_trans l1 (Nat.le_trans l2 hlen)) (by decide)
        · refine ⟨(Mut.lst hD6).of (s3.trans s46) hD, _, upd_same, ?_⟩
          rw [etk, List.filter_append, List.map_append]
          have e : ([d].filter b).map f = [f d] := by simp [hb]
          rw [e]
          exact ((h2.sm s46).append (.one h6)).tx (Tx.lst hD6)
      | false =>
        refine iteF ⟨s3.trans (s4.trans s5), ys, (s4.trans s5) _ _ h1, ?_⟩
        rw [etk, List.filter_append, List.map_append]
        have e : ([d].filter b).map f = [] := by simp [hb]
        rw [e, List.append_nil]
        exact h2.sm (s4.trans s5)
    · rintro H3 ⟨s3, ys, h1, h2⟩
      rw [List.take_length] at h2
      exact q D ys H3 (s2.free hD) (s2.trans s3) h1 h2
theorem ef_lcFY {i : Nat} (f : PyData → PyData) (hw : ∀ H', Same H H' → WkF wi σ H' ds) (hlen : ds.length ≤ 100000) (hi : ∀ x : Option V, wipe ((wipe σ [i]).set i x) [i] = wipe σ [i])
    (ht : ∀ d x H', d ∈ ds → Same H H' → Td H' x d → Ev K te ((wipe σ [i]).set i (some x)) H' (.t (f d))) : Ef (tLc wi (gName i) tYes te [i]) σ H (ds.map f) := by
  have h := ef_lcF (K := K) (te := te) (tt := tYes) (i := i) (fun _ => true) f hw hlen hi fun d x H' hm s hx => ⟨fun H1 s1 Q q => q H1 (Same.refl _), fun _ => ht d x H' hm s hx⟩
  rw [filter_all] at h
  exact h
end
end My

/-! W14: what a row and its counters tell, walked. -/
namespace My
open PySem PySem.Spec PyProof.Rows L2
section
variable {P : Program} {w : World} {K : PySem.W.Frag} {mg : Str → Option Value} {base : Heap}
theorem tw_all {α : Type} (p : α → Bool) : ∀ (a b : List α), (∀ x ∈ a, p x = true) → (∀ x, b.head? = some x → p x = false) → (a ++ b).takeWhile p = a
  | [], [], _, _ => rfl
  | [], x :: b, _, h => by rw [List.nil_append, List.takeWhile_cons, if_neg (by rw [h x rfl]; decide)]
  | x :: a, b, h1, h2 => by
    rw [List.cons_append, List.takeWhile_cons, if_pos (h1 x List.mem_cons_self), tw_all p a b (fun y hy => h1 y (List.mem_cons_of_mem _ hy)) h2]
theorem rstrip_sw {l : List Lt} (n : Nat) (h : Lt.u ∉ l) : Txt.rstripChars (sw (l ++ List.replicate n .u)) (sw [.u]) = sw l := by
  have hg : ∀ x : Nat, (sw [.u]).cps.contains x = decide (x = 95) := fun x => by
    show (#[95] : Array Nat).contains x = _
    rw [Bool.eq_iff_iff, decide_eq_true_eq]
    simp
  unfold Txt.rstripChars
  rw [stripBy_eq]
  have e0 : stripLo (sw [.u]).cps.contains false (sw (l ++ List.replicate n .u)) = 0 := rfl
  rw [e0]
  have e1 : stripHi (sw [.u]).cps.contains true (sw (l ++ List.replicate n .u)) 0 = l.length := by
    unfold stripHi
    rw [if_pos rfl, List.drop_zero, sw_tl, sw_len, List.map_append, List.reverse_append, tw_all]
    · rw [List.length_reverse, List.length_map, List.length_append, List.length_replicate]
      omega
    · intro x hx
      rw [hg]
      rw [List.mem_reverse, List.map_replicate, List.mem_replicate] at hx
      exact decide_eq_true hx.2
    · intro x hx
      rw [hg]
      have hm : x ∈ (l.map Lt.code).reverse := List.mem_of_head? hx
      rw [List.mem_reverse] at hm
      obtain ⟨c, hc, rfl⟩ := List.mem_map.mp hm
      refine decide_eq_false fun z => ?_
      have : c = .u := by cases c <;> first | rfl | (exact absurd z (by decide))
      exact h (this ▸ hc)
  rw [e1]
  refine str_ext ?_
  show ((sw (l ++ List.replicate n .u)).cps.extract 0 l.length).toList = _
  rw [Array.toList_extract, sw_tl, sw_tl, List.map_append]
  simp

def stD (q : Nat) (l : List Lt) (c : Lt) (r : List Lt) : PyData := .tuple [.int q, .str (sw l), .str (sw [c]), .str (sw r)]
def f_row_told : Gr := fun as d => ∃ (top q : Nat) (l : List Lt) (c : Lt) (r : List Lt), r.length ≤ 100000 ∧ as = [.t (.int top), .t (stD q l c r)] ∧
  ((top < q ∧ d = .none) ∨ (q ≤ top ∧ ∃ (x : List Lt) (n : Nat), c :: r = x ++ List.replicate n .u ∧ Lt.u ∉ x ∧ d = .tuple [.int q, .str (sw x)]))
theorem len_row_told {as : List Ag} {d : PyData} (h : f_row_told as d) : as.length = 2 := by obtain ⟨_, _, _, _, _, _, rfl, _⟩ := h; rfl
theorem rstrip_len (x y : Str) : (Txt.rstripChars x y).length ≤ x.length := PyProof.Rows.len_rstripChars x y
theorem sc_row_told : FnScope ["top", "stand", "state", "left", "sign", "right", "row"] ["top", "stand"] (defScope st_row_told) := ⟨rfl, rfl, rfl, by decide +kernel, rfl, by decide +kernel, by decide +kernel⟩
theorem has_row_told (T : Txt P w K mg base) : Has P w K mg base "row_told" ["top", "stand"] 2 (SpT K f_row_told) := by
  refine has_mk T.glo_row_told (T.c.def_ 10 (d := d_row_told) rfl) sc_row_told (SpT.len (fun as d h => by exact len_row_told h)) (fun _ _ _ _ _ _ us hl => match us, hl with | [_, _], _ => rfl) (fun cdv A outer s H vs Q E hr h => ?_)
  refine ⟨_, (pss_cons (ps_asg (pv 1) (pg_tup rfl (pgs_cons (pg_name (i := 2) sc_row_told.nd rfl (by first | exact Or.inl rfl | exact Or.inr rfl)) (pgs_cons (pg_name (i := 3) sc_row_told.nd rfl (by first | exact Or.inl rfl | exact Or.inr rfl)) (pgs_cons (pg_name (i := 4) sc_row_told.nd rfl (by first | exact Or.inl rfl | exact Or.inr rfl)) (pgs_cons (pg_name (i := 5) sc_row_told.nd rfl (by first | exact Or.inl rfl | exact Or.inr rfl)) pgs_nil))))))
    (pss_cons (ps_set (i := 6) sc_row_told.nd rfl (by first | exact Or.inl rfl | exact Or.inr rfl) (pe_m1 F.slot_str_rstrip F.type_str_rstrip mt_rstripChars (pe_op op_addG (pv 4) (pv 5)) (T.c_BLANK)))
    (pss_cons (ps_if (PW.pt (pw_or (pt_cmpR op_gt (pv 2) (pv 0) (nomark _)) (pw_or1 (pt_cmpR op_in_sign (T.c_BLANK) (pv 6) rfl)))) (pss_one (ps_ret pe_non)) pss_nil)
    (pss_one (ps_ret (pe_tup (pa_cons (pv 2) (pa_cons (pv 6) pa_nil)))))))), ?_⟩
  obtain ⟨as, d, ⟨top, q, l, c, r, hr1, rfl, hd⟩, hv, k⟩ := h
  obtain ⟨x, y, rfl, hx, hy⟩ := hv.i2
  obtain rfl := Td.int_of hx
  have hy : Td H y (stD q l c r) := hy
  obtain ⟨ta, v1, v2, v3, v4, rfl, hyt, t1, t2, t3, t4⟩ := Td.t4 hy
  obtain rfl := Td.int_of t1
  obtain rfl := Td.str_of t2
  obtain rfl := Td.str_of t3
  obtain rfl := Td.str_of t4
  refine ⟨_, rfl, _, _, rfl, SqT.of hyt, rfl, _, _, rfl, _, _, rfl, _, _, rfl, _, _, rfl, rfl, ?_⟩
  have hz : (sw [c]).length + (sw r).length ≤ sizeLine := by rw [sw_len, sw_len, sizeLine_eq, List.length_singleton]; omega
  have ea := ev_addS (K := K) (σ := [some (.int top), some (.ref ta), some (.int q), some (.str (sw l)), some (.str (sw [c])), some (.str (sw r)), none]) (H := H) (ta := tVar 4) (tb := tVar 5) (vS rfl) (vS rfl) hz
  rw [sw_app] at ea
  refine q_set (K := K) (ev_rstrip (K := K) (b := sw [.u]) ea ev_str (by rw [sw_len, sizeLine_eq]; show r.length + 1 ≤ _; omega)) fun u H1 s1 h1 => ?_
  obtain rfl := Td.str_of h1
  rcases hd with ⟨hlt, rfl⟩ | ⟨hle, x, n, e, hx, rfl⟩
  · refine q_ifT ((eb_or (a := true) (b := true) ((eb_test (ev_cmpI (K := K) (f := fun i j => decide (i > j)) (vI rfl) (vI rfl))).is (decide_eq_true (by omega))) (fun z => nomatch z)).is rfl) fun H2 s2 => st_ret (K := K) ev_non fun v H3 s3 h => k v H3 (s1.trans (s2.trans s3)) h
  · have e1 : Txt.rstripChars (sw ([c] ++ r)) (sw [.u]) = sw x := by
      show Txt.rstripChars (sw (c :: r)) (sw [.u]) = sw x
      rw [e, rstrip_sw n hx]
    rw [e1]
    have hn : decide ((95 : Nat) ∈ (sw x).cps.toList) = false := by
      refine decide_eq_false fun z => ?_
      rw [sw_tl] at z
      obtain ⟨c, hc, hz⟩ := List.mem_map.mp z
      have : c = .u := by cases c <;> first | rfl | (exact absurd hz (by decide))
      exact hx (this ▸ hc)
    refine q_ifN ((eb_or (a := false) (b := false) ((eb_test (ev_cmpI (K := K) (f := fun i j => decide (i > j)) (vI rfl) (vI rfl))).is (decide_eq_false (by omega))) (fun _ => (eb_test (ev_inC (K := K) (c := 95) (z := sw x) ev_str (vS rfl))).is hn)).is rfl) fun H2 s2 => ?_
    exact st_ret (ev_tup (K := K) (ds := [.int q, .str (sw x)]) (ea_cons (vI rfl) (ea_cons (vS rfl) ea_nil)) (Nat.le_of_ble_eq_true rfl)) fun v H3 s3 h => k v H3 (s1.trans (s2.trans s3)) h
def f_counter_told : Gr := fun as d => ∃ (size many q : Nat) (x : List Lt), x.length ≤ 100000 ∧ as = [.t (.int size), .t (.int many), .t (.tuple [.int q, .str (sw x)])] ∧
  ((size < q ∧ d = .none) ∨ (q ≤ size ∧ ∃ cs : List Nat, cs.length = many ∧ x = cntW cs ∧ d = .tuple [.int q, csD cs]))
theorem len_counter_told {as : List Ag} {d : PyData} (h : f_counter_told as d) : as.length = 3 := by obtain ⟨_, _, _, _, _, rfl, _⟩ := h; rfl
def pcs (cs : List Nat) : List (List Lt) := cs.map (fun c => List.replicate c .i) ++ [[]]
theorem split_cnt (cs : List Nat) : Txt.split (sw (cs.flatMap fun c => List.replicate c .i ++ [.e])) (sw [.e]) = (pcs cs).map sw := by
  have e1 : ∀ cs : List Nat, (cs.flatMap fun c => List.replicate c Lt.i ++ [.e]).map Lt.code = TL.joinL [101] ((pcs cs).map fun l => l.map Lt.code) := by
    intro cs
    induction cs with
    | nil => rfl
    | cons c cs ih =>
      have hne : ∃ p r, (pcs cs).map (fun l => l.map Lt.code) = p :: r := by
        cases cs with
        | nil => exact ⟨_, _, rfl⟩
        | cons c cs => exact ⟨_, _, rfl⟩
      obtain ⟨p, r, e⟩ := hne
      have e2 : (pcs (c :: cs)).map (fun l => l.map Lt.code) = (List.replicate c .i).map Lt.code :: p :: r := by
        show _ :: (pcs cs).map (fun l => l.map Lt.code) = _
        rw [e]
      rw [e2]
      show _ = (List.replicate c Lt.i).map Lt.code ++ ([101] ++ TL.joinL [101] (p :: r))
      rw [← e, ← ih, List.flatMap_cons, List.map_append, List.map_append, List.append_assoc]
      rfl
  have e3 := SX.split_S (a := (cs.flatMap fun c => List.replicate c Lt.i ++ [.e]).map Lt.code) (b := [101]) (by decide) (by decide)
  show Txt.split (SX.S _) (SX.S [101]) = _
  rw [e3, e1, TL.spl_join]
  · rw [List.map_map]
    exact List.map_congr_left fun l _ => rfl
  · unfold pcs
    simp
  · intro p hp
    obtain ⟨l, hl, rfl⟩ := List.mem_map.mp hp
    intro hm
    obtain ⟨x, hx, hc⟩ := List.mem_map.mp hm
    unfold pcs at hl
    rcases List.mem_append.mp hl with h | h
    · obtain ⟨c, _, rfl⟩ := List.mem_map.mp h
      rw [(List.mem_replicate.mp hx).2] at hc
      exact absurd hc (by decide)
    · rw [List.mem_singleton.mp h] at hx
      cases hx
theorem strike_i (c : Nat) : Txt.replace (sw (List.replicate c .i)) (sw [.i]) (sw []) = sw [] := by
  refine str_ext ?_
  have := replace_strikes (sw (List.replicate c .i)) 105
  refine this.trans ?_
  rw [sw_tl, List.map_replicate, List.filter_eq_nil_iff.mpr]
  · rfl
  · intro x hx
    rw [(List.mem_replicate.mp hx).2]
    decide
theorem ev_neg1 {σ : L2.St} {H : Hp} : Ev K (tUn (rU fun i => .int (-i)) (tC (.int 1))) σ H (.t (.int (-1))) := fun H1 s Q q => ⟨1, rfl, q _ H1 (Same.refl _) (Td.int _)⟩
theorem at_last {α : Type} (l : List α) (x : α) : atI (l ++ [x]) (-1) = some x := by
  refine atI_get (j := l.length) ?_ ?_
  · unfold ixN
    rw [List.length_append, List.length_singleton, if_neg (by decide), if_pos (by omega)]
    congr 1
    omega
  · rw [List.getElem?_append_right (Nat.le_refl _), Nat.sub_self]
    rfl
theorem cnt_len (cs : List Nat) : cs.length ≤ (cntW cs).length := by
  show _ ≤ (_ :: _).length
  rw [List.length_cons]
  have h9 : ∀ cs : List Nat, cs.length ≤ (cs.flatMap fun c => List.replicate c Lt.i ++ [.e]).length := by
    intro cs
    induction cs with
    | nil => exact Nat.le_refl _
    | cons x cs ih => rw [List.flatMap_cons, List.length_append, List.length_append, List.length_replicate, List.length_cons, List.length_singleton]; omega
  have := h9 cs
  omega
theorem cnt_mem (cs : List Nat) (c : Nat) (h : c ∈ cs) : c ≤ (cntW cs).length := by
  have h9 : ∀ cs : List Nat, c ∈ cs → c ≤ (cs.flatMap fun c => List.replicate c Lt.i ++ [.e]).length := by
    intro cs
    induction cs with
    | nil => intro h; cases h
    | cons x cs ih =>
      intro h
      rw [List.flatMap_cons, List.length_append, List.length_append, List.length_replicate]
      rcases List.mem_cons.mp h with h | h
      · omega
      · have := ih h
        omega
  have h8 := h9 cs h
  show c ≤ (_ :: _).length
  rw [List.length_cons]
  omega
def lenD (d : PyData) : PyData := match d with
  | .str z => .int z.length
  | d => d
theorem cut_1 (c : Lt) (l : List Lt) : cutS (sw (c :: l)) none (some 1) = sw [c] := by
  rw [cutS_sw]
  have e1 : HT.sIx (c :: l).length (c :: l).length (some 1) = 1 := by
    first
    | (simp [HT.sIx]; done)
    | (simp [HT.sIx]; omega)
  have e2 : HT.sIx (c :: l).length 0 none = 0 := rfl
  rw [e1, e2]
  rfl
theorem sc_counter_told : FnScope ["size", "many", "stand", "state", "row", "pieces", "piece"] ["size", "many", "stand"] (defScope st_counter_told) := ⟨rfl, rfl, rfl, by decide +kernel, rfl, by decide +kernel, by decide +kernel⟩
theorem has_counter_told (T : Txt P w K mg base) : Has P w K mg base "counter_told" ["size", "many", "stand"] 3 (SpT K f_counter_told) := by
  refine has_mkT T.glo_counter_told (T.c.def_ 6 (d := d_counter_told) rfl) sc_counter_told (SpT.len (fun as d h => by exact len_counter_told h)) (by decide +kernel) (by decide) (fun _ _ _ _ _ _ us hl => match us, hl with | [_, _, _], _ => rfl) (fun cdv A outer s H vs Q E hr h => ?_)
  refine ⟨_, (psst_cons (PST.of (ps_asg (pv 2) (pg_tup rfl (pgs_cons (pg_name (i := 3) sc_counter_told.nd rfl (by first | exact Or.inl rfl | exact Or.inr rfl)) (pgs_cons (pg_name (i := 4) sc_counter_told.nd rfl (by first | exact Or.inl rfl | exact Or.inr rfl)) pgs_nil)))))
    (psst_cons (PST.of (ps_set (i := 5) sc_counter_told.nd rfl (by first | exact Or.inl rfl | exact Or.inr rfl) (pe_split (pe_slice sl_str (pv 4) (po_some pe_int) po_none) pe_str)))
    (psst_cons (PST.of (ps_if (PW.pt (pw_or (pt_cmpR op_gt (pv 3) (pv 0) (nomark _)) (pw_or (pt_cmpR (op_neSK (K := K) hr) (pe_slice sl_str (pv 4) po_none (po_some pe_int)) pe_str (nomark _)) (pw_or (pt_cmpR (op_neSK (K := K) hr) (pe_callB (call_lenK (K := K)) (by rfl) T.free_len PySem.boot_len (pa_cons (pv 5) pa_nil)) (pe_op op_addG (pv 1) pe_int) (nomark _)) (pw_or1 (pt_cmpR (op_neSK (K := K) hr) (pe_ixK (K := K) (pv 5) (pe_un un_neg pe_int) (fun _ _ => rfl)) pe_str (nomark _))))))) (pss_one (ps_ret pe_non)) pss_nil))
    (psst_cons (pst_forT PassesOwn.never rfl (pi_list (pv 5)) (pg_name (i := 6) sc_counter_told.nd rfl (by first | exact Or.inl rfl | exact Or.inr rfl)) (CwR.psst_one (pst_ifR (op_neSK (K := K) hr) (CwR.pet_replC (pv 6)) pe_str (nomark _) (pss_one (ps_ret pe_non)))))
    (CwR.psst_one (PST.of (ps_ret (pe_tup (pa_cons (pv 3) (pa_cons (pe_callTy call_tuple_of (by rfl) T.free_tuple (by decide +kernel) (pa_cons (pe_lc (own := [("piece", 6)]) (tt := tYes) rfl sc_counter_told.nd (pi_list (pe_slice sl_list (pv 5) po_none (po_some (pv 1)))) (blkOk_by (own := [("piece", 6)]) (N := ["size", "many", "stand", "state", "row", "pieces", "piece"]) (sc := defScope st_counter_told) (by decide +kernel)) (fun _ _ _ _ _ => (pg_name (i := 6) sc_counter_told.nd rfl (by first | exact Or.inl rfl | exact Or.inr rfl))) (fun _ _ _ _ _ => pts_nil) (fun _ _ _ _ _ => (pe_callB (call_lenK (K := K)) (by rfl) T.free_len PySem.boot_len (pa_cons (pv 6) pa_nil)))) pa_nil)) pa_nil)))))))))), ?_⟩
  obtain ⟨as, d, ⟨size, many, q, x, hxl, rfl, hd⟩, hv, k⟩ := h
  obtain ⟨x1, x2, x3, rfl, h1, h2, h3⟩ := hv.i3
  obtain rfl := Td.int_of h1
  obtain rfl := Td.int_of h2
  have h3 : Td H x3 (.tuple [.int q, .str (sw x)]) := h3
  obtain ⟨ta, u, v, rfl, hxt, tu, tv⟩ := Td.t2 h3
  obtain rfl := Td.int_of tu
  obtain rfl := Td.str_of tv
  have hz : (sw x).length ≤ sizeLine := by rw [sw_len, sizeLine_eq]; omega
  refine ⟨_, rfl, _, _, rfl, SqT.of hxt, rfl, _, _, rfl, _, _, rfl, rfl, ?_⟩
  refine q_setF (ef_split (K := K) (b := sw [.e]) (ev_slS (K := K) (vS rfl) (eo_some (K := K) ev_int) eo_none hz) ev_str rfl (by
    have := cutS_length (sw x) (some 1) none
    rw [sizeLine_eq]
    have h9 := sw_len x
    omega)) fun p ys H1 hp s1 hp1 t1 => ?_
  rcases hd with ⟨hlt, rfl⟩ | ⟨hle, cs, hcs, rfl, rfl⟩
  · refine q_ifT ((eb_or (a := true) (b := true) ((eb_test (ev_cmpI (K := K) (f := fun i j => decide (i > j)) (vI rfl) (vI rfl))).is (decide_eq_true (by omega))) (fun z => nomatch z)).is rfl) fun H2 s2 => st_ret (K := K) ev_non fun v H3 s3 h => k v H3 (s1.trans (s2.trans s3)) h
  · have e0 : cutS (sw (cntW cs)) (some 1) none = sw (cs.flatMap fun c => List.replicate c .i ++ [.e]) := cut1 _ _
    rw [e0, split_cnt] at t1
    have hpl : (((pcs cs).map sw).map PyData.str).length = many + 1 := by
      rw [List.length_map, List.length_map]
      unfold pcs
      rw [List.length_append, List.length_map, hcs]
      rfl
    have vP : ∀ {H'} {o5}, Same H1 H' → Ev K (tVar 5) [some (.int size), some (.int many), some (.ref ta), some (.int q), some (.str (sw (cntW cs))), some (.ref p), o5] H' (.l (((pcs cs).map sw).map PyData.str)) := fun s => ev_var rfl (show At K _ (.ref p) (.l _) from ⟨p, ys, rfl, SqL.of (s _ _ hp1), t1.sm s⟩)
    refine q_ifN ((eb_or (a := false) (b := false) ((eb_test (ev_cmpI (K := K) (f := fun i j => decide (i > j)) (vI rfl) (vI rfl))).is (decide_eq_false (by omega))) (fun _ =>
      (eb_or (a := false) (b := false) ((eb_test (ev_neZ (K := K) (x := cutS (sw (cntW cs)) none (some 1)) (y := sw [.b]) (ev_slS (K := K) (vS rfl) eo_none (eo_some (K := K) ev_int) hz) ev_str (by rw [show cntW cs = .b :: _ from rfl, cut_1]; exact sw_lay _) (sw_lay _))).is (by rw [show cntW cs = .b :: _ from rfl, cut_1, sw_beq]; rfl)) fun _ =>
      (eb_or (a := false) (b := false) ((eb_test (ev_neI (K := K) (i := many + 1) (j := many + 1) (ev_len (vP (Same.refl _)) hpl) (ev_succ (vI rfl)))).is (by rw [decide_eq_true rfl]; rfl)) fun _ =>
      (eb_test (ev_neZ (K := K) (x := sw []) (y := sw []) (ev_ixL (vP (Same.refl _)) ev_neg1 (by
        unfold pcs
        rw [List.map_append, List.map_append]
        exact at_last _ _)) ev_str (sw_lay _) (sw_lay _))).is (by rw [sw_beq]; rfl)).is rfl).is rfl)).is rfl) fun H2 s2 => ?_
    -- for piece in pieces
    refine q_for (wk_list (K := K) (Hb := H1) (ev_ref rfl) (SqL.of hp1) t1 s2) (fun i σ' H' => ∃ o, σ' = [some (.int size), some (.int many), some (.ref ta), some (.int q), some (.str (sw (cntW cs))), some (.ref p), o] ∧ Same H1 H')
      (fun H3 s3 => ⟨none, rfl, s2.trans s3⟩) (fun i σ' H' ⟨_, _, s⟩ => s) ?_ ?_
    · rintro i d z σ' H3 H4 hd hz2 ⟨o, rfl, s3⟩ s4
      have hm := List.mem_of_getElem? hd
      rw [List.map_map] at hm
      obtain ⟨l, hl, rfl⟩ := List.mem_map.mp hm
      obtain rfl := Td.str_of hz2
      have hlr : ∃ c, l = List.replicate c .i := by
        unfold pcs at hl
        rcases List.mem_append.mp hl with h | h
        · obtain ⟨c, _, rfl⟩ := List.mem_map.mp h
          exact ⟨c, rfl⟩
        · exact ⟨0, List.mem_singleton.mp h⟩
      obtain ⟨c, rfl⟩ := hlr
      have hcl : c ≤ 100000 := by
        rcases List.mem_append.mp (show List.replicate c Lt.i ∈ cs.map (fun c => List.replicate c Lt.i) ++ [[]] from hl) with h | h
        · obtain ⟨x, hx, e⟩ := List.mem_map.mp h
          have h2 : (List.replicate x Lt.i).length = (List.replicate c Lt.i).length := by rw [e]
          rw [List.length_replicate, List.length_replicate] at h2
          have := cnt_mem cs x hx
          omega
        · have h2 : (List.replicate c Lt.i).length = 0 := by rw [List.mem_singleton.mp h]; rfl
          rw [List.length_replicate] at h2
          omega
      refine st_ifF ((eb_test (ev_neZ (K := K) (x := sw []) (y := sw []) ((ev_replC (K := K) (x := sw (List.replicate c .i)) (y := sw [.i]) (z := sw []) (vS rfl) (by rw [sw_len, List.length_replicate]; show c + (c + 1) * 0 ≤ _; omega)).is (by rw [strike_i])) ev_str (sw_lay _) (sw_lay _))).is (by rw [sw_beq]; rfl)) fun H5 s5 => ?_
      exact ⟨_, rfl, s3.trans (s4.trans s5)⟩
    · rintro σ' H3 ⟨o, rfl, s3⟩
      have hcut : cutD (((pcs cs).map sw).map PyData.str) none (some (many : Int)) = (cs.map fun c => PyData.str (sw (List.replicate c .i))) := by
        unfold cutD
        have e1 : HT.sIx (((pcs cs).map sw).map PyData.str).length 0 none = 0 := rfl
        have e2 : HT.sIx (((pcs cs).map sw).map PyData.str).length (((pcs cs).map sw).map PyData.str).length (some (many : Int)) = many := by
          rw [hpl]
          first
          | (simp [HT.sIx]; done)
          | (simp [HT.sIx]; omega)
        rw [e1, e2, List.drop_zero, Nat.sub_zero, ← List.map_take, ← List.map_take]
        unfold pcs
        rw [List.take_left' (by rw [List.length_map, hcs]), List.map_map, List.map_map]
        exact List.map_congr_left fun c _ => rfl
      have hlc := ef_lcFY (K := K) (σ := [some (.int size), some (.int many), some (.ref ta), some (.int q), some (.str (sw (cntW cs))), some (.ref p), o]) (H := H3) (i := 6) lenD (te := tCB (rLenK K) (tCons (tVar 6) tNil))
        (wi := iList K (tSl (rSlL K) (tVar 5) tNoPart (tPart (tVar 1)))) (fun H' s => wkf_list (ef_slL (K := K) (lo := none) (hi := some (many : Int)) (vP (s3.trans s)) eo_none (eo_some (K := K) (vI rfl))).ev) (by rw [hcut, List.length_map]; have := cnt_len cs; omega) (fun x => rfl) fun d y H4 hd s4 hy => by
          rw [hcut] at hd
          obtain ⟨c, hc, rfl⟩ := List.mem_map.mp hd
          obtain rfl := Td.str_of hy
          have hc3 : c ≤ 16777216 := by have := cnt_mem cs c hc; omega
          exact ev_lenS (vS rfl) (by rw [sw_len, List.length_replicate, sizeLine_eq]; exact hc3)
      rw [hcut, List.map_map] at hlc
      have e9 : cs.map (lenD ∘ fun c => PyData.str (sw (List.replicate c .i))) = cs.map fun (c : Nat) => PyData.int c := List.map_congr_left fun c _ => by
        show PyData.int ((sw (List.replicate c Lt.i)).length : Nat) = _
        rw [sw_len, List.length_replicate]
      rw [e9] at hlc
      exact st_ret (ev_tup (K := K) (ds := [.int q, csD cs]) (ea_cons (vI rfl) (ea_cons (ev_tuple hlc.ev) ea_nil)) (Nat.le_of_ble_eq_true rfl)) fun v H4 s4 h => k v H4 (s1.trans (s3.trans s4)) h
end
end My

/-! Lib8: methods, instances, dicts. -/
namespace My
open PySem PySem.Spec PyProof.Rows L2
/-! ### a method with its promise -/
structure HasM (P : Program) (w : World) (K : PySem.W.Frag) (mg : Str → Option Value) (base : Heap) (f : Addr) (ps : List Str) (k : Nat) (sp : Sp) : Prop where
  ex : ∃ fd, Binds K fd ps [] ∧ FnOk P w K mg base CX0 k f fd ps sp
theorem hasM_mk {P : Program} {w : World} {K : PySem.W.Frag} {mg : Str → Option Value} {base : Heap} {x qual : Str} {ps N : List Str} {k : Nat} {sp : Sp} {params : Arguments} {body : List Stmt} {scope : Scope} {f : Addr}
    (hF : ∃ fd, FunD K x qual params body scope [] [] f fd) (S : FnScope N ps scope) (len : ∀ vs H Q E, sp vs H Q E → vs.length = ps.length)
    (bd : ∀ (kV doc pm : Value) (an : Option Addr) (cdv ct : Value) (us : List Value), us.length = ps.length → bindArgs (PySem.W.fnOf x qual params body scope .none kV doc pm an cdv ct) ⟨us, []⟩ = pure (ps.zip us))
    (hb : ∀ (cdv : Value) (A : Around) (outer : List Env) (s : Shared) (H : Hp) (vs : List V) (Q : VK) (E : XK), Room k (A.deeper (envOfC qual scope s.heap.objs.size f cdv)) → sp vs H Q E →
      ∃ t, PSs (cxOf CX0 P w K mg base N qual scope f cdv A outer s H E).nox body t ∧ t { nx := fun _ H' => Q .non H', rt := Q } (start N vs) H) : HasM P w K mg base f ps (k + 1) sp := by
  obtain ⟨fd, F⟩ := hF
  refine ⟨fd, F.bindsN bd, F.ok S len fun cdv A outer s H vs Q E hr h => ?_⟩
  obtain ⟨t, h1, h2⟩ := hb cdv A outer s H vs Q E hr h
  exact ⟨t, h1.nox, h2⟩
section
variable {X : Cx} {m x : Str} {ps : List Str} {k : Nat} {sp : Sp} {o e : Expr} {es : List Expr} {ta : TE} {t : TA} {p pos apos : Pos} {f C : Addr}
theorem pm {pl : Sem Bool} (G : HasM X.prog X.w X.K X.mg X.base f ps k sp) (c : Cls X.K C) (hm : Meth X.K C m f) (hr : Room k X.A) (he : PE X o ta) (ha : PA X (e :: es) t)
    (hst : starEach (e :: es) X.env = (false, eval e X.env) :: starEach es X.env := by rfl) (hpl : (backTo pos (starEach es X.env)).any (·.1) = false := by rfl)
    (ht : eval (.Call (.Attribute o m apos) (e :: es) [] pos) X.env = (do
      let ov ← eval o X.env
      standAt apos.atName
      let (f, first) ← holding [ov] (getMethod ov m pl)
      callWith pos f first (backTo pos (starEach (e :: es) X.env)) (backToKw pos (keywordEach [] X.env))) := by rfl) :
    PE X (.Call (.Attribute o m apos) (e :: es) [] pos) (tMeth C m sp [] E0 ta t) := by
  obtain ⟨fd, hb, F⟩ := G.ex
  exact pe_meth (pl := pl) he c hm F hr hb .nil pass0 ha hst hpl ht
theorem pmk (G : HasM X.prog X.w X.K X.mg X.base f ps k sp) (M : Mk X.K C f) (hm : X.mg x = some (.ref C)) (hr : Room (k + 1) X.A) (ha : PA X (e :: es) t) (hg : Gl X x := by rfl) (hdb : (x == ("__debug__" : Str)) = false := by decide)
    (he : starEach (e :: es) X.env = (false, eval e X.env) :: starEach es X.env := by rfl) (hpl : (backTo pos (starEach es X.env)).any (·.1) = false := by rfl) :
    PE X (.Call (.Name x p) (e :: es) [] pos) (tMake C sp [] E0 t) := by
  obtain ⟨fd, hb, F⟩ := G.ex
  exact pe_make M F hr hg hm hb .nil pass0 ha hdb he hpl
end
/-! ### instances -/
section
variable {K : PySem.W.Frag} {σ : L2.St} {H : Hp} {te : TE}
theorem ev_fld {a C dx : Addr} {fs : List (Str × V)} {f : Str} {v : V} {ag : Ag} (he : Ev K te σ H (refIs a)) (ha : H a = some (.ins C dx fs)) (c : Cls K C) (n : NoAttr K C f) (l : fs.lookup f = some v) (hv : At K H v ag) : Ev K (tFld K te f) σ H ag := fun H1 s Q q =>
  he H1 s _ fun u H2 s2 e => ⟨a, C, dx, fs, v, e, (s.trans s2) _ _ ha, c, n, l, q v H2 s2 (hv.sm (s.trans s2))⟩
theorem st_fld {u : TE} {a C dx : Addr} {fs : List (Str × V)} {f : Str} {ag : Ag} {D : Ends} (hv : Ev K te σ H ag) (he : Ev K u σ H (refIs a)) (ha : H a = some (.ins C dx fs)) (c : Cls K C) (n : NoAttr K C f) (hl : fs.length < 1000)
    (k : ∀ v H', Same H H' → At K H' v ag → D.nx σ (upd H' a (.ins C dx (putF f v fs)))) : sFld K u te f D σ H :=
  hv H (Same.refl H) _ fun v H1 s1 h1 => he H1 s1 _ fun x H2 s2 e => ⟨a, C, dx, fs, e, (s1.trans s2) _ _ ha, c, n, hl, k v H2 (s1.trans s2) (h1.sm s2)⟩
end
end My

/-! W15: states between, walked. -/
namespace My
open PySem PySem.Spec PyProof.Rows L2
/-- a key of a state between -/
structure BK where
  go : Bool
  w : List Lt
  g : Nat
  deriving DecidableEq
def BK.nm (k : BK) : Str := if k.go = true then "go" else "back"
def BK.d (k : BK) : PyData := .tuple [.str k.nm, .str (sw k.w), .int (k.g : Nat)]
def BK.key (k : BK) : List Key := [.inr k.nm, .inr (sw k.w), .inl (k.g : Nat)]
structure BtS where
  top : Nat
  ks : List BK
  ws : List BK
def BtS.num (s : BtS) (k : BK) : Nat := s.top + 1 + s.ks.idxOf k
def BtS.add (s : BtS) (k : BK) : BtS := if k ∈ s.ks then s else ⟨s.top, s.ks ++ [k], s.ws ++ [k]⟩
/-- the numbers' dict -/
def kvB : Nat → List BK → List (List Key × V)
  | _, [] => []
  | n, k :: ks => (k.key, V.int (n : Nat)) :: kvB (n + 1) ks
theorem nm_inj2 {a b : Bool} (h : (if a = true then ("go" : Str) else "back") = (if b = true then ("go" : Str) else "back")) : a = b := by
  cases a <;> cases b <;> first | rfl | (exact absurd h (by decide +kernel))
theorem key_inj {a b : BK} (h : a.key = b.key) : a = b := by
  cases a with
  | mk g1 w1 n1 =>
    cases b with
    | mk g2 w2 n2 =>
      unfold BK.key at h
      injection h with h1 h
      injection h with h2 h
      injection h with h3 _
      have e1 := nm_inj2 (Sum.inr.inj h1)
      have e2 := sw_inj (Sum.inr.inj h2)
      have e3 : n1 = n2 := Int.ofNat.inj (Sum.inl.inj h3)
      have e2 : w1 = w2 := e2
      have e1 : g1 = g2 := e1
      rw [e1, e2, e3]
theorem valV_kvB (k : BK) : ∀ (n : Nat) (ks : List BK), valV (kvB n ks) k.key = if k ∈ ks then some (V.int ((n + ks.idxOf k : Nat) : Int)) else none
  | n, [] => rfl
  | n, x :: ks => by
    show valV ((x.key, V.int (n : Nat)) :: kvB (n + 1) ks) k.key = _
    by_cases h : x = k
    · subst h
      rw [valV_pos rfl, if_pos List.mem_cons_self, List.idxOf_cons_self]
      rfl
    · rw [valV_neg (fun z => h (key_inj z)), valV_kvB k (n + 1) ks]
      have hk : ¬ k = x := fun z => h z.symm
      have hb : (x == k) = false := beq_eq_false_iff_ne.mpr h
      by_cases hm : k ∈ ks
      · rw [if_pos hm, if_pos (List.mem_cons_of_mem _ hm), List.idxOf_cons, hb]
        simp only [cond_false]
        congr 3
        omega
      · rw [if_neg hm, if_neg fun z => (List.mem_cons.mp z).elim hk hm]
theorem kvB_app (k : BK) : ∀ (n : Nat) (ks : List BK), kvB n (ks ++ [k]) = kvB n ks ++ [(k.key, V.int ((n + ks.length : Nat) : Int))]
  | n, [] => rfl
  | n, x :: ks => by
    show (x.key, V.int (n : Nat)) :: kvB (n + 1) (ks ++ [k]) = _
    rw [kvB_app k (n + 1) ks]
    show _ = (x.key, V.int (n : Nat)) :: (kvB (n + 1) ks ++ [(k.key, V.int ((n + (ks.length + 1) : Nat) : Int))])
    rw [show n + 1 + ks.length = n + (ks.length + 1) from by omega]
theorem kvB_len : ∀ (n : Nat) (ks : List BK), (kvB n ks).length = ks.length
  | _, [] => rfl
  | n, x :: ks => by
    show (kvB (n + 1) ks).length + 1 = _
    rw [kvB_len (n + 1) ks]
    rfl
/-- two objects may have changed -/
structure Fx (n q : Addr) (H H' : Hp) : Prop where
  but : ∀ b o, b ≠ n → b ≠ q → H b = some o → H' b = some o
  tx : Tx H H'
theorem Fx.refl {n q : Addr} {H : Hp} : Fx n q H H := ⟨fun _ _ _ _ h => h, Tx.refl H⟩
theorem Fx.trans {n q : Addr} {H H1 H2 : Hp} (a : Fx n q H H1) (b : Fx n q H1 H2) : Fx n q H H2 := ⟨fun c o h1 h2 h => b.but c o h1 h2 (a.but c o h1 h2 h), a.tx.trans b.tx⟩
theorem Fx.same {n q : Addr} {H H1 : Hp} (s : Same H H1) : Fx n q H H1 := ⟨fun c o _ _ h => s c o h, s.tx⟩
theorem Fx.mut1 {n q : Addr} {H H1 : Hp} (m : Mut n H H1) : Fx n q H H1 := ⟨fun c o h _ e => m.but c o h e, m.tx⟩
theorem Fx.mut2 {n q : Addr} {H H1 : Hp} (m : Mut q H H1) : Fx n q H H1 := ⟨fun c o _ h e => m.but c o h e, m.tx⟩
/-- the keeper of the states between, at a; its dict at n, its list at q -/
def BtAt (K : PySem.W.Frag) (H : Hp) (a n q : Addr) (s : BtS) : Prop := ∃ dx fs ws, H a = some (.ins (He.ga K "Between") dx fs) ∧ fs.lookup ("top" : Str) = some (.int (s.top : Nat)) ∧ fs.lookup ("numbers" : Str) = some (.ref n) ∧ fs.lookup ("waiting" : Str) = some (.ref q) ∧ fs.lookup ("state_for" : Str) = none ∧
  H n = some (.dT (kvB (s.top + 1) s.ks)) ∧ H q = some (.lst ws) ∧ TdAll H ws (s.ws.map BK.d)
theorem BtAt.sm {K : PySem.W.Frag} {H H' : Hp} {a n q : Addr} {s : BtS} (h : BtAt K H a n q s) (e : Same H H') : BtAt K H' a n q s := by
  obtain ⟨dx, fs, ws, h1, h2, h3, h4, h5, h6, h7, h8⟩ := h
  exact ⟨dx, fs, ws, e _ _ h1, h2, h3, h4, h5, e _ _ h6, e _ _ h7, h8.sm e⟩
theorem putF_len (f : Str) (v : V) : ∀ fs : List (Str × V), (putF f v fs).length ≤ fs.length + 1
  | [] => Nat.le_refl _
  | (g, x) :: r => by
    unfold putF
    split
    · exact Nat.le_succ _
    · exact Nat.succ_le_succ (putF_len f v r)
theorem lkP (f : Str) (v : V) (fs : List (Str × V)) : (putF f v fs).lookup f = some v := by rw [lookup_putF, if_pos rfl]
theorem lkN {f g : Str} (v : V) {fs : List (Str × V)} {o : Option V} (h : ¬ g = f) (e : fs.lookup g = o) : (putF f v fs).lookup g = o := by rw [lookup_putF, if_neg h]; exact e
theorem Mut.ins {a : Addr} {H : Hp} {C dx : Addr} {fs : List (Str × V)} {o : HO} (h : H a = some (.ins C dx fs)) : Mut a H (upd H a o) := ⟨fun c o n e => by rw [upd_ne n]; exact e, Tx.ins h⟩
theorem st_fldF {K : PySem.W.Frag} {σ : L2.St} {H : Hp} {te u : TE} {a C dx : Addr} {fs : List (Str × V)} {f : Str} {ds : List PyData} {D : Ends} (hv : Ef te σ H ds) (he : Ev K u σ H (refIs a)) (ha : H a = some (.ins C dx fs)) (c : Cls K C) (n : NoAttr K C f) (hl : fs.length < 1000)
    (k : ∀ p xs H', H p = none → p ≠ a → Same H H' → H' p = some (.lst xs) → TdAll H' xs ds → D.nx σ (upd H' a (.ins C dx (putF f (.ref p) fs)))) : sFld K u te f D σ H :=
  hv H (Same.refl H) _ fun p xs H1 hp s1 h1 t1 => he H1 s1 _ fun x H2 s2 e => ⟨a, C, dx, fs, e, (s1.trans s2) _ _ ha, c, n, hl, k p xs H2 hp (ne_of_none ha hp).symm (s1.trans s2) (s2 _ _ h1) (t1.sm s2)⟩
section
variable {P : Program} {w : World} {K : PySem.W.Frag} {mg : Str → Option Value} {base : Heap}

/-- __init__, on what tMake laid -/
def SpBtInit (K : PySem.W.Frag) : Sp := fun vs H Q _ => ∃ (a dx : Addr) (top : Nat), vs = [.ref a, .int top] ∧ H a = some (.ins (He.ga K "Between") dx []) ∧ (∀ n q H', n ≠ a → q ≠ a → H n = none → H q = none → Mut a H H' → BtAt K H' a n q ⟨top, [], []⟩ → Q .non H')
theorem len_Between_init {vs : List V} {H : Hp} {Q : VK} {E : XK} (h : SpBtInit K vs H Q E) : vs.length = 2 := by obtain ⟨_, _, _, rfl, _⟩ := h; rfl
theorem sc_Between_init : FnScope ["self", "top"] ["self", "top"] (defScope st_Between_init) := ⟨rfl, rfl, rfl, by decide +kernel, rfl, by decide +kernel, by decide +kernel⟩
theorem ok_Between_init (T : Txt P w K mg base) : HasM P w K mg base (He.ma K (He.ga K "Between") "__init__") ["self", "top"] 1 (SpBtInit K) := by
  refine hasM_mk (T.c.def_ 75 (d := d_Between_init) rfl) sc_Between_init (fun vs H Q E h => by exact len_Between_init h) (fun _ _ _ _ _ _ us hl => match us, hl with | [_, _], _ => rfl) (fun cdv A outer s H vs Q E hr h => ?_)
  refine ⟨_, (pss_cons (ps_fld (pv 0) (pv 1) rfl)
    (pss_cons (ps_fld (pv 0) pe_dnewT rfl)
    (pss_one (ps_fld (pv 0) (pe_lst pa_nil) rfl)))), ?_⟩
  obtain ⟨a, dx, top, rfl, ha, k⟩ := h
  refine st_fld (K := K) (D := { nx := _, rt := _, ct := _, bk := _ }) (ag := .t (.int top)) (vI rfl) (ev_ref rfl) ha T.cls_Between T.no_Between_top (by decide) fun v H1 s1 h1 => ?_
  obtain rfl := Td.int_of h1
  have ha1 := s1 _ _ ha
  have m1 := (Mut.same s1).trans (Mut.ins (o := .ins (He.ga K "Between") dx (putF "top" (.int top) [])) ha1)
  refine fun n hn => ⟨_, rfl, a, _, dx, putF "top" (.int top) [], rfl, ?_, T.cls_Between, T.no_Between_numbers, Nat.lt_of_le_of_lt (putF_len _ _ _) (by decide), ?_⟩
  · have hna : a ≠ n := fun z => by rw [z, upd_same] at hn; cases hn
    rw [upd_ne hna]
    exact upd_same
  · have hna : n ≠ a := fun z => by rw [z, upd_same] at hn; cases hn
    have hn1 : H1 n = none := by rw [upd_ne hna] at hn; exact hn
    have hH2 : ∀ o, upd (upd (upd H1 a (.ins (He.ga K "Between") dx (putF "top" (.int top) []))) n (.dT [])) a o = upd (upd H1 n (.dT [])) a o := fun o => by
      funext b
      by_cases hb : b = a
      · rw [hb, upd_same, upd_same]
      · rw [upd_ne hb, upd_ne hb]
        by_cases hb2 : b = n
        · rw [hb2, upd_same, upd_same]
        · rw [upd_ne hb2, upd_ne hb2, upd_ne hb]
    rw [hH2]
    have s2 : Same H1 (upd H1 n (.dT [])) := Same.new hn1
    have m2 : Mut a H1 (upd (upd H1 n (.dT [])) a (.ins (He.ga K "Between") dx (putF "numbers" (.ref n) (putF "top" (.int top) [])))) := (Mut.same s2).trans (Mut.ins (s2 _ _ ha1))
    refine st_fldF (K := K) (D := { nx := fun _ H' => Q .non H', rt := Q }) (ds := []) (ef_lst (K := K) ea_nil (by decide)) (ev_ref rfl) upd_same T.cls_Between T.no_Between_waiting (Nat.lt_of_le_of_lt (Nat.le_trans (putF_len _ _ _) (Nat.succ_le_succ (putF_len _ _ _))) (by decide)) fun q xs H3 hq hqa s3 hq3 t3 => ?_
    have hq1 : H1 q = none := by
      rw [upd_ne hqa] at hq
      exact s2.free hq
    have hqn : q ≠ n := fun z => by rw [upd_ne hqa, z, upd_same] at hq; cases hq
    have ha3 : H3 a = some (.ins (He.ga K "Between") dx (putF "numbers" (.ref n) (putF "top" (.int top) []))) := s3 _ _ upd_same
    have hn3 : H3 n = some (.dT []) := s3 _ _ (by rw [upd_ne hna]; exact upd_same)
    refine k n q _ hna hqa (s1.free hn1) (s1.free hq1) (((Mut.same s1).trans m2).trans ((Mut.same s3).trans (Mut.ins ha3))) ⟨dx, _, xs, upd_same, ?_, ?_, lkP _ _ _, ?_, ?_, ?_, ?_⟩
    · exact lkN _ (by decide +kernel) (lkN _ (by decide +kernel) (lkP _ _ _))
    · exact lkN _ (by decide +kernel) (lkP _ _ _)
    · exact lkN _ (by decide +kernel) (lkN _ (by decide +kernel) (lkN _ (by decide +kernel) rfl))
    · rw [upd_ne hna]; exact hn3
    · rw [upd_ne hqa]; exact hq3
    · exact t3.tx (Tx.ins ha3)
/-- state_for: a number; the dict and the list may grow -/
def SpSf (K : PySem.W.Frag) : Sp := fun vs H Q _ => ∃ (a n q : Addr) (st : BtS) (x : V) (b : BK), vs = [.ref a, x] ∧ BtAt K H a n q st ∧ Td H x b.d ∧ st.ks.length ≤ 10000 ∧ st.ws.length ≤ 10000 ∧ (∀ H', Fx n q H H' → BtAt K H' a n q (st.add b) → Q (.int (st.num b : Nat)) H')
theorem len_Between_state_for {vs : List V} {H : Hp} {Q : VK} {E : XK} (h : SpSf K vs H Q E) : vs.length = 2 := by obtain ⟨_, _, _, _, _, _, rfl, _⟩ := h; rfl
theorem sc_Between_state_for : FnScope ["self", "key"] ["self", "key"] (defScope st_Between_state_for) := ⟨rfl, rfl, rfl, by decide +kernel, rfl, by decide +kernel, by decide +kernel⟩
theorem ok_Between_state_for (T : Txt P w K mg base) : HasM P w K mg base (He.ma K (He.ga K "Between") "state_for") ["self", "key"] 1 (SpSf K) := by
  refine hasM_mk (T.c.def_ 76 (d := d_Between_state_for) rfl) sc_Between_state_for (fun vs H Q E h => by exact len_Between_state_for h) (fun _ _ _ _ _ _ us hl => match us, hl with | [_, _], _ => rfl) (fun cdv A outer s H vs Q E hr h => ?_)
  refine ⟨_, (pss_cons (ps_if (pt_cmp (pc_dnotin (hu_of hr) (pv 1) (pe_fldK (K := K) (pv 0) rfl))) (pss_cons (ps_dput (hu_of hr) (pe_fldK (K := K) (pv 0) rfl) (pv 1) (pe_op op_addG (pe_op op_addG (pe_fldK (K := K) (pv 0) rfl) pe_int) (pe_callB call_len_dT (by rfl) T.free_len PySem.boot_len (pa_cons (pe_fldK (K := K) (pv 0) rfl) pa_nil))) rfl)
    (pss_one (ps_expr (pe_bm PySem.F.plainAttrs_list PySem.F.slot_list_append PySem.F.type_list_append mt_append (pe_fldK (K := K) (pv 0) rfl) (pa_cons (pv 1) pa_nil))))) pss_nil)
    (pss_one (ps_ret (pe_dget (hu_of hr) (pe_fldK (K := K) (pv 0) rfl) (pv 1) (fun _ _ => rfl))))), ?_⟩
  obtain ⟨a, n, q, st, x, b, rfl, hb, hx, hl1, hl2, k⟩ := h
  obtain ⟨dx, fs, ws, h1, h2, h3, h4, h5, h6, h7, h8⟩ := hb
  have hx : Td H x (.tuple [.str b.nm, .str (sw b.w), .int (b.g : Nat)]) := hx
  obtain ⟨c, v1, v2, v3, rfl, hc, t1, t2, t3⟩ := Td.t3 hx
  obtain rfl := Td.str_of t1
  obtain rfl := Td.str_of t2
  obtain rfl := Td.int_of t3
  have hkey : H c = some (.tup (b.key.map kV)) := hc
  have F : ∀ {f : Str} {v : V} {H' : Hp} {fs'}, H' a = some (.ins (He.ga K "Between") dx fs') → NoAttr K (He.ga K "Between") f → fs'.lookup f = some v → ∀ Q', Q' v H' → tFld K (tVar 0) f [some (.ref a), some (.ref c)] H' Q' := fun ha n l Q' q' => ⟨_, rfl, a, _, dx, _, _, rfl, ha, T.cls_Between, n, l, q'⟩
  have G : ∀ {H' : Hp} {ks : List BK}, H' n = some (.dT (kvB (st.top + 1) ks)) → H' c = some (.tup (b.key.map kV)) → DGet H' n (.ref c) (if b ∈ ks then some (V.int ((st.top + 1 + ks.idxOf b : Nat) : Int)) else none) := fun hn hc => by
    rw [← valV_kvB]
    exact DGet.t hn hc
  by_cases hm : b ∈ st.ks
  · have ea : st.add b = st := if_pos hm
    rw [ea] at k
    refine ⟨_, rfl, F h1 T.no_Between_numbers h3 _ ⟨n, _, rfl, G h6 hkey, ?_⟩⟩
    rw [if_pos hm]
    refine ⟨_, rfl, iteF ?_⟩
    show tDGet (tFld K (tVar 0) "numbers") (tVar 1) [some (.ref a), some (.ref c)] H Q
    unfold tDGet
    refine F h1 T.no_Between_numbers h3 _ ⟨_, rfl, n, _, rfl, by rw [← if_pos (c := b ∈ st.ks) (t := some (V.int ((st.top + 1 + st.ks.idxOf b : Nat) : Int))) (e := none) hm]; exact G h6 hkey, ?_⟩
    exact k H Fx.refl ⟨dx, fs, ws, h1, h2, h3, h4, h5, h6, h7, h8⟩
  · have ea : st.add b = ⟨st.top, st.ks ++ [b], st.ws ++ [b]⟩ := if_neg hm
    rw [ea] at k
    refine ⟨_, rfl, F h1 T.no_Between_numbers h3 _ ⟨n, _, rfl, G h6 hkey, ?_⟩⟩
    rw [if_neg hm]
    refine ⟨_, rfl, iteT ?_⟩
    -- self.numbers[key] = self.top + 1 + len(self.numbers)
    show tOp rAddG (tOp rAddG (tFld K (tVar 0) "top") (tC (V.int 1))) (tCB rLenT (tCons (tFld K (tVar 0) "numbers") tNil)) [some (.ref a), some (.ref c)] H fun v H1 => tFld K (tVar 0) "numbers" [some (.ref a), some (.ref c)] H1 fun x H2 => tVar 1 [some (.ref a), some (.ref c)] H2 fun y H3 => ∃ a2 H4, x = .ref a2 ∧ DPut H3 a2 y v H4 ∧
      tFld K (tVar 0) "waiting" [some (.ref a), some (.ref c)] H4 fun x H5 => tyV K "list" x H5 ∧ tVar 1 [some (.ref a), some (.ref c)] H5 fun y H6 => rAppend x [y] H6 fun _ H7 => tDGet (tFld K (tVar 0) "numbers") (tVar 1) [some (.ref a), some (.ref c)] H7 Q
    unfold tOp
    refine F h1 T.no_Between_top h2 _ (.inl ⟨_, _, rfl, rfl, ?_⟩)
    refine F h1 T.no_Between_numbers h3 _ ⟨n, _, rfl, h6, .inl ⟨_, _, rfl, rfl, ?_⟩⟩
    rw [kvB_len]
    have e1 : ((st.top : Nat) : Int) + 1 + ((st.ks.length : Nat) : Int) = ((st.top + 1 + st.ks.length : Nat) : Int) := by omega
    rw [e1]
    refine F h1 T.no_Between_numbers h3 _ ⟨_, rfl, n, _, rfl, DPut.t h6 hkey (by rw [kvB_len, sizeLine_eq]; omega), ?_⟩
    have ep : putK (kvB (st.top + 1) st.ks) b.key (V.int ((st.top + 1 + st.ks.length : Nat) : Int)) = kvB (st.top + 1) (st.ks ++ [b]) := by
      rw [kvB_app, putK_new]
      rw [valV_kvB, if_neg hm]
    rw [ep]
    have hca : c ≠ n := fun z => by rw [z, h6] at hc; cases hc
    have hqn : q ≠ n := fun z => by rw [z, h6] at h7; cases h7
    have han : a ≠ n := fun z => by rw [z, h6] at h1; cases h1
    have hqa : q ≠ a := fun z => by rw [z, h1] at h7; cases h7
    have hcq : c ≠ q := fun z => by rw [z, h7] at hc; cases hc
    have x2 : Tx H (upd H n (.dT (kvB (st.top + 1) (st.ks ++ [b])))) := Tx.dT h6
    have h12 : upd H n (.dT (kvB (st.top + 1) (st.ks ++ [b]))) a = some (.ins (He.ga K "Between") dx fs) := by rw [upd_ne han]; exact h1
    have h72 : upd H n (.dT (kvB (st.top + 1) (st.ks ++ [b]))) q = some (.lst ws) := by rw [upd_ne hqn]; exact h7
    -- self.waiting.append(key)
    refine F h12 T.no_Between_waiting h4 _ ⟨.inl ⟨rfl, _, SqL.of h72⟩, _, rfl, q, ws, _, rfl, rfl, h72, by rw [h8.length, List.length_map, sizeLine_eq]; omega, ?_⟩
    have x3 : Tx (upd H n (.dT (kvB (st.top + 1) (st.ks ++ [b])))) (upd (upd H n (.dT (kvB (st.top + 1) (st.ks ++ [b])))) q (.lst (ws ++ [.ref c]))) := Tx.lst h72
    have h13 : upd (upd H n (.dT (kvB (st.top + 1) (st.ks ++ [b])))) q (.lst (ws ++ [.ref c])) a = some (.ins (He.ga K "Between") dx fs) := by rw [upd_ne (Ne.symm hqa)]; exact h12
    have h63 : upd (upd H n (.dT (kvB (st.top + 1) (st.ks ++ [b])))) q (.lst (ws ++ [.ref c])) n = some (.dT (kvB (st.top + 1) (st.ks ++ [b]))) := by rw [upd_ne (Ne.symm hqn)]; exact upd_same
    have hc3 : upd (upd H n (.dT (kvB (st.top + 1) (st.ks ++ [b])))) q (.lst (ws ++ [.ref c])) c = some (.tup (b.key.map kV)) := (x2.trans x3) _ _ hkey
    have hm3 : b ∈ st.ks ++ [b] := List.mem_append_right _ (List.mem_singleton.mpr rfl)
    have ei : (st.ks ++ [b]).idxOf b = st.ks.idxOf b := by
      rw [List.idxOf_append, if_neg hm, List.idxOf_cons_self, List.idxOf_eq_length hm]
      omega
    have g3 := G h63 hc3
    rw [if_pos hm3, ei] at g3
    refine F h13 T.no_Between_numbers h3 _ ⟨_, rfl, n, _, rfl, g3, ?_⟩
    refine k _ ((Fx.mut1 ⟨fun b o hb e => by rw [upd_ne hb]; exact e, x2⟩).trans (Fx.mut2 ⟨fun b o hb e => by rw [upd_ne hb]; exact e, x3⟩)) ⟨dx, fs, ws ++ [.ref c], h13, h2, h3, h4, h5, h63, upd_same, ?_⟩
    rw [List.map_append]
    exact (((h8.tx x2).append (.one (hx.tx x2))).tx x3)
end
end My

/-! W16: the tape's rules, walked. -/
namespace My
open PySem PySem.Spec PyProof.Rows L2
/-- a rule of the tape -/
structure TR where
  s : Nat
  c : Lt
  w : Lt
  r : Bool
  g : Nat
  deriving DecidableEq
def mvD (r : Bool) : Str := if r = true then "r" else "l"
def TR.d (t : TR) : PyData := .tuple [.int (t.s : Nat), .str (sw [t.c]), .str (sw [t.w]), .str (mvD t.r), .int (t.g : Nat)]
def sgn : List Lt := [.b, .e, .i]
def rulesFor (st : BtS) (k : BK) : BtS × List TR :=
  if k.go = false then (st.add k, sgn.map (fun c => ⟨st.num k, c, c, false, st.num k⟩) ++ [⟨st.num k, .u, .u, true, k.g⟩])
  else match k.w with
    | [] => ((st.add k).add ⟨false, [], k.g⟩, sgn.map (fun c => ⟨st.num k, c, c, true, st.num k⟩) ++ [⟨st.num k, .u, .u, false, (st.add k).num ⟨false, [], k.g⟩⟩])
    | c0 :: w => ((st.add k).add ⟨true, w, k.g⟩, sgn.map (fun c => ⟨st.num k, c, c, true, st.num k⟩) ++ [⟨st.num k, .u, c0, true, (st.add k).num ⟨true, w, k.g⟩⟩])
/-- some objects may have changed -/
structure Kp (ps : List Addr) (H H' : Hp) : Prop where
  but : ∀ b o, b ∉ ps → H b = some o → H' b = some o
  tx : Tx H H'
theorem Kp.refl {ps : List Addr} {H : Hp} : Kp ps H H := ⟨fun _ _ _ h => h, Tx.refl H⟩
theorem Kp.trans {ps : List Addr} {H H1 H2 : Hp} (a : Kp ps H H1) (b : Kp ps H1 H2) : Kp ps H H2 := ⟨fun c o h1 h => b.but c o h1 (a.but c o h1 h), a.tx.trans b.tx⟩
theorem Kp.same {ps : List Addr} {H H1 : Hp} (s : Same H H1) : Kp ps H H1 := ⟨fun c o _ h => s c o h, s.tx⟩
theorem Kp.mono {ps qs : List Addr} {H H1 : Hp} (a : Kp ps H H1) (h : ∀ x ∈ ps, x ∈ qs) : Kp qs H H1 := ⟨fun c o hc e => a.but c o (fun z => hc (h c z)) e, a.tx⟩
theorem Mut.kp {p : Addr} {H H1 : Hp} (m : Mut p H H1) : Kp [p] H H1 := ⟨fun c o hc e => m.but c o (fun z => hc (List.mem_singleton.mpr z)) e, m.tx⟩
theorem Fx.kp {n q : Addr} {H H1 : Hp} (m : Fx n q H H1) : Kp [n, q] H H1 := ⟨fun c o hc e => m.but c o (fun z => hc (List.mem_cons.mpr (.inl z))) (fun z => hc (List.mem_cons_of_mem _ (List.mem_singleton.mpr z))) e, m.tx⟩
theorem Kp.fx {n q : Addr} {H H1 : Hp} (m : Kp [n, q] H H1) : Fx n q H H1 := ⟨fun c o h1 h2 e => m.but c o (fun z => (List.mem_cons.mp z).elim h1 fun z => h2 (List.mem_singleton.mp z)) e, m.tx⟩
/-- what H did not know may change -/
theorem Kp.drop {ps qs : List Addr} {H H1 : Hp} (a : Kp ps H H1) (h : ∀ x ∈ ps, x ∈ qs ∨ H x = none) : Kp qs H H1 := ⟨fun c o hc e => a.but c o (fun z => (h c z).elim hc fun z => by rw [z] at e; cases e) e, a.tx⟩
theorem Kp.ne {ps : List Addr} {H H' : Hp} {b : Addr} {o : HO} (a : Kp ps H H') (h : H b = some o) (n : b ∉ ps) : H' b = some o := a.but b o n h
section
variable {P : Program} {w : World} {K : PySem.W.Frag} {mg : Str → Option Value} {base : Heap}
/-- between.state_for(..) -/
theorem t_sf {σ : L2.St} {H : Hp} {i : Nat} {te : TE} {a n q : Addr} {st : BtS} {b : BK} {Q : VK} (hσ : σ[i]? = some (some (.ref a))) (hb : BtAt K H a n q st) (he : Ev K te σ H (.t b.d)) (l1 : st.ks.length ≤ 10000) (l2 : st.ws.length ≤ 10000)
    (k : ∀ H', Fx n q H H' → BtAt K H' a n q (st.add b) → Q (.int (st.num b : Nat)) H') : tMeth (He.ga K "Between") "state_for" (SpSf K) [] E0 (tVar i) (tCons te tNil) σ H Q := by
  obtain ⟨dx, fs, ws, h1, h2, h3, h4, h5, h6, h7, h8⟩ := id hb
  refine ⟨_, hσ, a, dx, fs, rfl, h1, h5, ?_⟩
  refine he H (Same.refl H) _ fun v H1 s1 hv => ?_
  exact ⟨a, n, q, st, v, b, rfl, hb.sm s1, hv, l1, l2, fun H' fx hb' => k H' ((Fx.same s1).trans fx) hb'⟩
/-- made.append((.., between.state_for(..))) -/
theorem st_appSf {σ : L2.St} {H : Hp} {D : Ends} {i j : Nat} {t1 t2 t3 t4 tk : TE} {a n q p : Addr} {st : BtS} {b : BK} {ys : List V} {ds : List PyData} {s : Nat} {c wr : Lt} {r : Bool} (hσ : σ[i]? = some (some (.ref a))) (hj : σ[j]? = some (some (.ref p)))
    (hb : BtAt K H a n q st) (hp : H p = some (.lst ys)) (ht : TdAll H ys ds) (hpq : p ≠ q) (h1 : Ev K t1 σ H (.t (.int s))) (h2 : Ev K t2 σ H (.t (.str (sw [c])))) (h3 : Ev K t3 σ H (.t (.str (sw [wr])))) (h4 : Ev K t4 σ H (.t (.str (mvD r)))) (hk : Ev K tk σ H (.t b.d))
    (l1 : st.ks.length ≤ 10000) (l2 : st.ws.length ≤ 10000) (l3 : ds.length ≤ 100000)
    (k : ∀ ys' H', Kp [n, q, p] H H' → BtAt K H' a n q (st.add b) → H' p = some (.lst ys') → TdAll H' ys' (ds ++ [TR.d ⟨s, c, wr, r, st.num b⟩]) → D.nx σ H') :
    tDrop (tBM K "list" rAppend (tVar j) (tCons (tTup (tCons t1 (tCons t2 (tCons t3 (tCons t4 (tCons (tMeth (He.ga K "Between") "state_for" (SpSf K) [] E0 (tVar i) (tCons tk tNil)) tNil)))))) tNil)) D σ H := by
  refine ⟨_, hj, .inl ⟨rfl, _, SqL.of hp⟩, ?_⟩
  refine h1 H (Same.refl H) _ fun v1 H1 s1 e1 => h2 H1 s1 _ fun v2 H2 s2 e2 => h3 H2 (s1.trans s2) _ fun v3 H3 s3 e3 => h4 H3 (s1.trans (s2.trans s3)) _ fun v4 H4 s4 e4 => ?_
  obtain rfl := Td.int_of e1
  obtain rfl := Td.str_of e2
  obtain rfl := Td.str_of e3
  obtain rfl := Td.str_of e4
  have s14 := s1.trans (s2.trans (s3.trans s4))
  refine t_sf hσ (hb.sm s14) (hk.sm s14) l1 l2 fun H5 fx hb5 => ?_
  refine ⟨by show (5 : Nat) ≤ sizeLine; decide, fun z hz => ?_⟩
  have hpn : p ≠ n := fun e => by
    obtain ⟨_, _, _, _, _, _, _, _, h6, _⟩ := hb
    rw [← e, hp] at h6
    cases h6
  have hp5 : H5 p = some (.lst ys) := fx.but _ _ hpn hpq (s14 _ _ hp)
  have s56 : Same H5 (upd H5 z (.tup [.int (s : Nat), .str (sw [c]), .str (sw [wr]), .str (mvD r), .int (st.num b : Nat)])) := Same.new hz
  have hp6 := s56 _ _ hp5
  refine ⟨p, ys, _, rfl, rfl, hp6, by rw [ht.length, sizeLine_eq]; omega, ?_⟩
  have k15 : Kp [n, q, p] H H5 := (Kp.same s14).trans (fx.kp.mono fun x hx => by
    rcases List.mem_cons.mp hx with h | h
    · exact List.mem_cons.mpr (.inl h)
    · exact List.mem_cons_of_mem _ (List.mem_cons.mpr (.inl (List.mem_singleton.mp h))))
  have tl : Tx (upd H5 z (.tup [.int (s : Nat), .str (sw [c]), .str (sw [wr]), .str (mvD r), .int (st.num b : Nat)])) (upd (upd H5 z (.tup [.int (s : Nat), .str (sw [c]), .str (sw [wr]), .str (mvD r), .int (st.num b : Nat)])) p (.lst (ys ++ [.ref z]))) := Tx.lst hp6
  refine k _ _ ((k15.trans (Kp.same s56)).trans ((Mut.lst hp6).kp.mono fun x hx => ?_)) ?_ upd_same ?_
  · rw [List.mem_singleton.mp hx]
    exact List.mem_cons_of_mem _ (List.mem_cons_of_mem _ (List.mem_singleton.mpr rfl))
  · obtain ⟨dx, fs, ws, g1, g2, g3, g4, g5, g6, g7, g8⟩ := hb5.sm s56
    have hap : a ≠ p := fun e => by rw [e, hp6] at g1; cases g1
    exact ⟨dx, fs, ws, by rw [upd_ne hap]; exact g1, g2, g3, g4, g5, by rw [upd_ne (Ne.symm hpn)]; exact g6, by rw [upd_ne (Ne.symm hpq)]; exact g7, g8.tx tl⟩
  · refine TdAll.tx tl ?_
    refine TdAll.append ((ht.tx k15.tx).sm s56) (.one ?_)
    exact Td.tup upd_same (.cons (Td.int _) (.cons (Td.str _) (.cons (Td.str _) (.cons (Td.str _) (.cons (Td.int _) .nil)))))
theorem ev_BK {σ : L2.St} {H : Hp} {t1 t2 t3 : TE} {b : BK} (h1 : Ev K t1 σ H (.t (.str b.nm))) (h2 : Ev K t2 σ H (.t (.str (sw b.w)))) (h3 : Ev K t3 σ H (.t (.int b.g))) : Ev K (tTup (tCons t1 (tCons t2 (tCons t3 tNil)))) σ H (.t b.d) :=
  ev_tup (ds := [.str b.nm, .str (sw b.w), .int (b.g : Nat)]) (ea_cons h1 (ea_cons h2 (ea_cons h3 ea_nil))) (Nat.le_of_ble_eq_true rfl)
theorem ev_TR {σ : L2.St} {H : Hp} {t1 t2 t3 t4 t5 : TE} {b : TR} (h1 : Ev K t1 σ H (.t (.int b.s))) (h2 : Ev K t2 σ H (.t (.str (sw [b.c])))) (h3 : Ev K t3 σ H (.t (.str (sw [b.w])))) (h4 : Ev K t4 σ H (.t (.str (mvD b.r)))) (h5 : Ev K t5 σ H (.t (.int b.g))) :
    Ev K (tTup (tCons t1 (tCons t2 (tCons t3 (tCons t4 (tCons t5 tNil)))))) σ H (.t b.d) :=
  ev_tup (ds := [.int (b.s : Nat), .str (sw [b.c]), .str (sw [b.w]), .str (mvD b.r), .int (b.g : Nat)]) (ea_cons h1 (ea_cons h2 (ea_cons h3 (ea_cons h4 (ea_cons h5 ea_nil))))) (Nat.le_of_ble_eq_true rfl)
/-- the rules that stay in a state, a sign each -/
def stayD (s : Nat) (r : Bool) (d : PyData) : PyData := match d with
  | .str z => .tuple [.int s, .str z, .str z, .str (mvD r), .int s]
  | d => d
theorem stay_eq (s : Nat) (r : Bool) : (chs (sw sgn)).map (stayD s r) = (sgn.map fun c => TR.d ⟨s, c, c, r, s⟩) := rfl

def SpRf (K : PySem.W.Frag) : Sp := fun vs H Q _ => ∃ (a n q : Addr) (st : BtS) (x : V) (b : BK), vs = [.ref a, x, .str (sw sgn)] ∧ BtAt K H a n q st ∧ Td H x b.d ∧ st.ks.length ≤ 9000 ∧ st.ws.length ≤ 9000 ∧ b.w.length ≤ 1000 ∧
  (∀ p xs H', H p = none → Kp [n, q] H H' → BtAt K H' a n q (rulesFor st b).1 → H' p = some (.lst xs) → TdAll H' xs ((rulesFor st b).2.map TR.d) → Q (.ref p) H')
theorem len_rules_for {vs : List V} {H : Hp} {Q : VK} {E : XK} (h : SpRf K vs H Q E) : vs.length = 3 := by obtain ⟨_, _, _, _, _, _, rfl, _⟩ := h; rfl
theorem add_len (st : BtS) (b : BK) : (st.add b).ks.length ≤ st.ks.length + 1 ∧ (st.add b).ws.length ≤ st.ws.length + 1 := by
  unfold BtS.add
  split
  · exact ⟨Nat.le_succ _, Nat.le_succ _⟩
  · simp
theorem sc_rules_for : FnScope ["between", "key", "signs", "deed", "word", "goal", "state", "made", "sign"] ["between", "key", "signs"] (defScope st_rules_for) := ⟨rfl, rfl, rfl, by decide +kernel, rfl, by decide +kernel, by decide +kernel⟩
theorem has_rules_for (T : Txt P w K mg base) : Has P w K mg base "rules_for" ["between", "key", "signs"] 2 (SpRf K) := by
  refine has_mk T.glo_rules_for (T.c.def_ 8 (d := d_rules_for) rfl) sc_rules_for (fun vs H Q E h => by exact len_rules_for h) (fun _ _ _ _ _ _ us hl => match us, hl with | [_, _, _], _ => rfl) (fun cdv A outer s H vs Q E hr h => ?_)
  refine ⟨_, (pss_cons (ps_asg (pv 1) (pg_tup rfl (pgs_cons (pg_name (i := 3) sc_rules_for.nd rfl (by first | exact Or.inl rfl | exact Or.inr rfl)) (pgs_cons (pg_name (i := 4) sc_rules_for.nd rfl (by first | exact Or.inl rfl | exact Or.inr rfl)) (pgs_cons (pg_name (i := 5) sc_rules_for.nd rfl (by first | exact Or.inl rfl | exact Or.inr rfl)) pgs_nil)))))
    (pss_cons (ps_set (i := 6) sc_rules_for.nd rfl (by first | exact Or.inl rfl | exact Or.inr rfl) (pm (ok_Between_state_for T) T.cls_Between T.meth_Between_state_for (hr.mono (by decide)) (pv 0) (pa_cons (pv 1) pa_nil)))
    (pss_cons (ps_if (pt_cmpR (op_eqSK (K := K) hr) (pv 3) (T.c_BACK) (nomark _)) (pss_one (ps_ret (pe_op op_addG (pe_lc (own := [("sign", 8)]) (tt := tYes) rfl sc_rules_for.nd (pi_str (pv 2)) (blkOk_by (own := [("sign", 8)]) (N := ["between", "key", "signs", "deed", "word", "goal", "state", "made", "sign"]) (sc := defScope st_rules_for) (by decide +kernel)) (fun _ _ _ _ _ => (pg_name (i := 8) sc_rules_for.nd rfl (by first | exact Or.inl rfl | exact Or.inr rfl))) (fun _ _ _ _ _ => pts_nil) (fun _ _ _ _ _ => (pe_tup (pa_cons (pv 6) (pa_cons (pv 8) (pa_cons (pv 8) (pa_cons pe_str (pa_cons (pv 6) pa_nil)))))))) (pe_lst (pa_cons (pe_tup (pa_cons (pv 6) (pa_cons (T.c_BLANK) (pa_cons (T.c_BLANK) (pa_cons pe_str (pa_cons (pv 5) pa_nil)))))) pa_nil))))) pss_nil)
    (pss_cons (ps_setLc (i := 7) (own := [("sign", 8)]) (tt := tYes) rfl sc_rules_for.nd rfl rfl (sw_true rfl rfl rfl (by decide +kernel)) (pi_str (pv 2)) (blkOk_by (own := [("sign", 8)]) (N := ["between", "key", "signs", "deed", "word", "goal", "state", "made", "sign"]) (sc := defScope st_rules_for) (by decide +kernel)) (fun _ _ _ _ _ => (pg_name (i := 8) sc_rules_for.nd rfl (by first | exact Or.inl rfl | exact Or.inr rfl))) (fun _ _ _ _ _ => pts_nil) (fun _ _ _ _ _ => (pe_tup (pa_cons (pv 6) (pa_cons (pv 8) (pa_cons (pv 8) (pa_cons pe_str (pa_cons (pv 6) pa_nil))))))))
    (pss_cons (ps_if (pt_cmpR (op_eqSK (K := K) hr) (pv 4) pe_str (nomark _)) (pss_one (ps_expr (pe_bm PySem.F.plainAttrs_list PySem.F.slot_list_append PySem.F.type_list_append mt_append (pv 7) (pa_cons (pe_tup (pa_cons (pv 6) (pa_cons (T.c_BLANK) (pa_cons (T.c_BLANK) (pa_cons pe_str (pa_cons (pm (ok_Between_state_for T) T.cls_Between T.meth_Between_state_for (hr.mono (by decide)) (pv 0) (pa_cons (pe_tup (pa_cons (T.c_BACK) (pa_cons pe_str (pa_cons (pv 5) pa_nil)))) pa_nil)) pa_nil)))))) pa_nil)))) (pss_one (ps_expr (pe_bm PySem.F.plainAttrs_list PySem.F.slot_list_append PySem.F.type_list_append mt_append (pv 7) (pa_cons (pe_tup (pa_cons (pv 6) (pa_cons (T.c_BLANK) (pa_cons (pe_ixK (K := K) (pv 4) pe_int (fun _ _ => rfl)) (pa_cons pe_str (pa_cons (pm (ok_Between_state_for T) T.cls_Between T.meth_Between_state_for (hr.mono (by decide)) (pv 0) (pa_cons (pe_tup (pa_cons (T.c_GO) (pa_cons (pe_slice sl_str (pv 4) (po_some pe_int) po_none) (pa_cons (pv 5) pa_nil)))) pa_nil)) pa_nil)))))) pa_nil)))))
    (pss_one (ps_ret (pv 7)))))))), ?_⟩
  obtain ⟨a, n, q, st, x, b, rfl, hb, hx, l1, l2, l3, k⟩ := h
  have hx : Td H x (.tuple [.str b.nm, .str (sw b.w), .int (b.g : Nat)]) := hx
  obtain ⟨c, v1, v2, v3, rfl, hc, t1, t2, t3⟩ := Td.t3 hx
  obtain rfl := Td.str_of t1
  obtain rfl := Td.str_of t2
  obtain rfl := Td.int_of t3
  refine ⟨_, rfl, _, _, rfl, SqT.of hc, rfl, _, _, rfl, _, _, rfl, _, _, rfl, rfl, ?_⟩
  have hx0 : Td H (.ref c) b.d := hx
  show tMeth (He.ga K "Between") "state_for" (SpSf K) [] E0 (tVar 0) (tCons (tVar 1) tNil) [some (.ref a), some (.ref c), some (.str (sw sgn)), some (.str b.nm), some (.str (sw b.w)), some (.int b.g), none, none, none] H _
  refine t_sf rfl hb (vD rfl hx0) (by omega) (by omega) fun H1 fx hb1 => ?_
  obtain ⟨g1, g2⟩ := add_len st b
  have hb : b.go = false ∨ b.go = true := by cases b.go <;> simp
  have eb : ∀ {o7 o8 : Option V} {H' : Hp}, Eb (tTest (tOp (rEqG K 200) (tVar 3) (tC (.str "back")))) [some (.ref a), some (.ref c), some (.str (sw sgn)), some (.str b.nm), some (.str (sw b.w)), some (.int b.g), some (.int (st.num b : Nat)), o7, o8] H' (!b.go) := fun {o7 o8 H'} => by
    refine (eb_test (ev_eqZ (K := K) (x := b.nm) (y := "back") (vS rfl) ev_str ?_ (by decide +kernel))).is ?_
    · unfold BK.nm
      cases b.go <;> decide +kernel
    · unfold BK.nm
      cases b.go <;> decide +kernel
  rcases hb with hgo | hgo
  · rw [hgo] at eb
    refine q_ifT eb fun H2 s2 => ?_
    have er : rulesFor st b = (st.add b, sgn.map (fun c => ⟨st.num b, c, c, false, st.num b⟩) ++ [⟨st.num b, .u, .u, true, b.g⟩]) := by
      unfold rulesFor
      rw [if_pos hgo]
    rw [er] at k
    have h9 : Ev K (tTup (tCons (tVar 6) (tCons (tC (.str "_")) (tCons (tC (.str "_")) (tCons (tC (.str "r")) (tCons (tVar 5) tNil)))))) [some (.ref a), some (.ref c), some (.str (sw sgn)), some (.str b.nm), some (.str (sw b.w)), some (.int b.g), some (.int (st.num b : Nat)), none, none] H2 (.t (TR.d ⟨st.num b, .u, .u, true, b.g⟩)) :=
      ev_TR (b := ⟨st.num b, .u, .u, true, b.g⟩) (vI rfl) ev_str ev_str ev_str (vI rfl)
    refine st_retF (ef_addL (ds := (chs (sw sgn)).map (stayD (st.num b) false)) (es := [TR.d ⟨st.num b, .u, .u, true, b.g⟩]) (ef_lcY (K := K) (i := 8) (Hb := H2) (stayD (st.num b) false) (fun H' s => wk_str (K := K) (z := sw sgn) (vS rfl)) (Same.refl _) (Nat.le_of_ble_eq_true rfl) (fun x => rfl) fun d y H3 hd s3 hy => ?_)
      (ef_lst (K := K) (ds := [TR.d ⟨st.num b, .u, .u, true, b.g⟩]) (ea_cons h9 ea_nil) (Nat.le_of_ble_eq_true rfl)) (Nat.le_trans (Nat.le_of_ble_eq_true (n := 4) (m := 1000) rfl) (by decide))) fun p xs H3 hp s3 h3 t3 => ?_
    · rw [chs_sw] at hd
      obtain ⟨c', _, rfl⟩ := List.mem_map.mp hd
      obtain rfl := Td.str_of hy
      exact ev_TR (b := ⟨st.num b, c', c', false, st.num b⟩) (vI rfl) (vS rfl) (vS rfl) ev_str (vI rfl)
    · have hpH : H p = none := by
        cases e : H p with
        | none => rfl
        | some o => 
          by_cases h1 : p = n
          · obtain ⟨_, _, _, _, _, _, _, _, h6, _⟩ := hb1
            rw [← h1] at h6
            have := s2 _ _ h6
            rw [hp] at this
            cases this
          · by_cases h2 : p = q
            · obtain ⟨_, _, _, _, _, _, _, _, _, h7, _⟩ := hb1
              rw [← h2] at h7
              have := s2 _ _ h7
              rw [hp] at this
              cases this
            · have := s2 _ _ (fx.but _ _ h1 h2 e)
              rw [hp] at this
              cases this
      refine k p xs H3 hpH (fx.kp.trans (Kp.same (s2.trans s3))) (hb1.sm (s2.trans s3)) h3 ?_
      rw [stay_eq] at t3
      rw [List.map_append]
      exact t3
  · rw [hgo] at eb
    refine q_ifN eb fun H2 s2 => ?_
    refine q_setF (ef_lcY (K := K) (i := 8) (Hb := H2) (stayD (st.num b) true) (fun H' s => wk_str (K := K) (z := sw sgn) (vS rfl)) (Same.refl _) (Nat.le_of_ble_eq_true rfl) (fun x => rfl) fun d y H3 hd s3 hy => ?_) fun p xs H3 hp s3 h3 t3 => ?_
    · rw [chs_sw] at hd
      obtain ⟨c', _, rfl⟩ := List.mem_map.mp hd
      obtain rfl := Td.str_of hy
      exact ev_TR (b := ⟨st.num b, c', c', true, st.num b⟩) (vI rfl) (vS rfl) (vS rfl) ev_str (vI rfl)
    · rw [stay_eq] at t3
      have hb3 : BtAt K H3 a n q (st.add b) := hb1.sm (s2.trans s3)
      have hp2 : H2 p = none := hp
      have hpH : H p = none := by
        cases e : H p with
        | none => rfl
        | some o =>
          by_cases h1 : p = n
          · obtain ⟨_, _, _, _, _, _, _, _, h6, _⟩ := hb1
            rw [← h1] at h6
            have := s2 _ _ h6
            rw [hp2] at this
            cases this
          · by_cases h2 : p = q
            · obtain ⟨_, _, _, _, _, _, _, _, _, h7, _⟩ := hb1
              rw [← h2] at h7
              have := s2 _ _ h7
              rw [hp2] at this
              cases this
            · have := s2 _ _ (fx.but _ _ h1 h2 e)
              rw [hp2] at this
              cases this
      have hpq : p ≠ q := fun e => by
        obtain ⟨_, _, _, _, _, _, _, _, _, h7, _⟩ := hb1
        have := s2 _ _ h7
        rw [← e, hp2] at this
        cases this
      have k03 : Kp [n, q] H H3 := fx.kp.trans (Kp.same (s2.trans s3))
      have fin : ∀ (σ' : L2.St) (H5 : Hp) (ys : List V) (z : BK) (x : TR), σ'[7]? = some (some (.ref p)) → rulesFor st b = ((st.add b).add z, sgn.map (fun c => ⟨st.num b, c, c, true, st.num b⟩) ++ [x]) → Kp [n, q, p] H3 H5 → BtAt K H5 a n q ((st.add b).add z) → H5 p = some (.lst ys) → TdAll H5 ys ((sgn.map fun c => TR.d ⟨st.num b, c, c, true, st.num b⟩) ++ [x.d]) → tRet (tVar 7) { nx := fun x H' => Q V.non H', rt := Q } σ' H5 := fun σ' H5 ys z x e7 er kp hb5 hp5 t5 => by
        rw [er] at k
        refine ⟨_, e7, k p ys H5 hpH ((k03.mono (fun x hx => (show x ∈ [n, q, p] from by
          rcases List.mem_cons.mp hx with h | h
          · exact List.mem_cons.mpr (.inl h)
          · exact List.mem_cons_of_mem _ (List.mem_cons.mpr (.inl (List.mem_singleton.mp h)))))).trans kp |>.drop fun x hx => ?_) hb5 hp5 ?_⟩
        · rcases List.mem_cons.mp hx with h | h
          · exact .inl (List.mem_cons.mpr (.inl h))
          · rcases List.mem_cons.mp h with h | h
            · exact .inl (List.mem_cons_of_mem _ (List.mem_singleton.mpr h))
            · exact .inr (by rw [List.mem_singleton.mp h]; exact hpH)
        · rw [List.map_append, List.map_map]
          exact t5
      have l3d : ((sgn.map fun c => TR.d ⟨st.num b, c, c, true, st.num b⟩)).length ≤ 100000 := Nat.le_of_ble_eq_true rfl
      have ew : ∀ {H'}, Eb (tTest (tOp (rEqG K 200) (tVar 4) (tC (.str "")))) [some (.ref a), some (.ref c), some (.str (sw sgn)), some (.str b.nm), some (.str (sw b.w)), some (.int b.g), some (.int (st.num b : Nat)), some (.ref p), none] H' (decide (b.w = [])) := fun {H'} => by
        refine (eb_test (ev_eqZ (K := K) (x := sw b.w) (y := sw []) (vS rfl) ev_str (sw_lay _) (sw_lay _))).is (sw_beq _ _)
      cases hw : b.w with
      | nil =>
        have er : rulesFor st b = ((st.add b).add ⟨false, [], b.g⟩, sgn.map (fun c => ⟨st.num b, c, c, true, st.num b⟩) ++ [⟨st.num b, .u, .u, false, (st.add b).num ⟨false, [], b.g⟩⟩]) := by
          unfold rulesFor
          rw [if_neg (by rw [hgo]; decide), hw]
        rw [hw] at ew
        refine q_ifT (ew.is (decide_eq_true rfl)) fun H4 s4 => ?_
        refine st_appSf (K := K) (b := ⟨false, [], b.g⟩) (st := st.add b) (c := .u) (wr := .u) (r := false) (s := st.num b) rfl rfl (hb3.sm s4) (s4 _ _ h3) (t3.sm s4) hpq (vI rfl) ev_str ev_str ev_str (ev_BK (b := ⟨false, [], b.g⟩) ev_str ev_str (vI rfl)) (by omega) (by omega) l3d fun ys H5 kp hb5 hp5 t5 => ?_
        exact fin _ H5 ys _ _ rfl er ((Kp.same s4).trans kp) hb5 hp5 t5
      | cons c0 wr =>
        have er : rulesFor st b = ((st.add b).add ⟨true, wr, b.g⟩, sgn.map (fun c => ⟨st.num b, c, c, true, st.num b⟩) ++ [⟨st.num b, .u, c0, true, (st.add b).num ⟨true, wr, b.g⟩⟩]) := by
          unfold rulesFor
          rw [if_neg (by rw [hgo]; decide), hw]
        have hz : (sw (c0 :: wr)).length ≤ sizeLine := by rw [sw_len, sizeLine_eq, ← hw]; omega
        rw [hw] at ew
        refine q_ifF (ew.is (decide_eq_false (by simp))) fun H4 s4 => ?_
        refine st_appSf (K := K) (b := ⟨true, wr, b.g⟩) (st := st.add b) (c := .u) (wr := c0) (r := true) (s := st.num b) rfl rfl (hb3.sm s4) (s4 _ _ h3) (t3.sm s4) hpq (vI rfl) ev_str (ev_ixS (z := sw (c0 :: wr)) (i := 0) (c := c0.code) (vS rfl) ev_int hz (by rw [sw_tl]; exact at0 _ _)) ev_str
          (ev_BK (b := ⟨true, wr, b.g⟩) ev_str ((ev_slS (z := sw (c0 :: wr)) (lo := some 1) (hi := none) (vS rfl) (eo_some (K := K) ev_int) eo_none hz).is (by rw [cut1])) (vI rfl)) (by omega) (by omega) l3d fun ys H5 kp hb5 hp5 t5 => ?_
        exact fin _ H5 ys _ _ rfl er ((Kp.same s4).trans kp) hb5 hp5 t5
end
end My

/-! W17: make_tape, walked. -/
namespace My
open PySem PySem.Spec PyProof.Rows L2
/-- the state of make_tape -/
abbrev MtS := BtS × List TR
def mt1 (x : MtS) (r : RR) : MtS := (x.1.add ⟨true, r.w, r.g⟩, x.2 ++ [⟨r.s, r.c, .u, true, x.1.num ⟨true, r.w, r.g⟩⟩])
def mt2 (x : MtS) : MtS := match x.1.ws with
  | [] => x
  | k :: ws => ((rulesFor ⟨x.1.top, x.1.ks, ws⟩ k).1, x.2 ++ (rulesFor ⟨x.1.top, x.1.ks, ws⟩ k).2)
def mtN : Nat → MtS → MtS
  | 0, x => x
  | n + 1, x => mt2 (mtN n x)
def mt0 (rules : List RR) (top : Nat) : MtS := rules.foldl mt1 (⟨top, [], []⟩, [])
theorem mt2_fix {x : MtS} (h : x.1.ws = []) : mt2 x = x := by unfold mt2; rw [h]
theorem mtN_fix {x : MtS} {i : Nat} (h : (mtN i x).1.ws = []) : ∀ n, i ≤ n → mtN n x = mtN i x
  | 0, hn => by
    have : i = 0 := by omega
    rw [this]
  | n + 1, hn => by
    rcases Nat.lt_or_ge n i with hl | hl
    · have : i = n + 1 := by omega
      rw [this]
    · show mt2 (mtN n x) = _
      rw [mtN_fix h n hl, mt2_fix h]
theorem rulesFor_len (st : BtS) (k : BK) : (rulesFor st k).1.ks.length ≤ st.ks.length + 2 ∧ (rulesFor st k).1.ws.length ≤ st.ws.length + 2 ∧ (rulesFor st k).2.length = 4 := by
  have h1 := add_len st k
  unfold rulesFor
  split
  · exact ⟨by show (st.add k).ks.length ≤ _; omega, by show (st.add k).ws.length ≤ _; omega, rfl⟩
  · split
    · have h2 := add_len (st.add k) ⟨false, [], k.g⟩
      exact ⟨by show ((st.add k).add _).ks.length ≤ _; omega, by show ((st.add k).add _).ws.length ≤ _; omega, rfl⟩
    · rename_i c0 w hw
      have h2 := add_len (st.add k) ⟨true, w, k.g⟩
      exact ⟨by show ((st.add k).add _).ks.length ≤ _; omega, by show ((st.add k).add _).ws.length ≤ _; omega, rfl⟩
theorem mtN_len (x : MtS) : ∀ n, (mtN n x).1.ks.length ≤ x.1.ks.length + 2 * n ∧ (mtN n x).1.ws.length ≤ x.1.ws.length + 2 * n ∧ (mtN n x).2.length ≤ x.2.length + 4 * n
  | 0 => ⟨Nat.le_refl _, Nat.le_refl _, Nat.le_refl _⟩
  | n + 1 => by
    obtain ⟨h1, h2, h3⟩ := mtN_len x n
    show (mt2 (mtN n x)).1.ks.length ≤ _ ∧ (mt2 (mtN n x)).1.ws.length ≤ _ ∧ (mt2 (mtN n x)).2.length ≤ _
    unfold mt2
    split
    · exact ⟨by omega, by omega, by omega⟩
    · rename_i k ws hw
      obtain ⟨g1, g2, g3⟩ := rulesFor_len ⟨(mtN n x).1.top, (mtN n x).1.ks, ws⟩ k
      have hl : (mtN n x).1.ws.length = ws.length + 1 := by rw [hw]; rfl
      have g1 : (rulesFor ⟨(mtN n x).1.top, (mtN n x).1.ks, ws⟩ k).1.ks.length ≤ (mtN n x).1.ks.length + 2 := g1
      have g2 : (rulesFor ⟨(mtN n x).1.top, (mtN n x).1.ks, ws⟩ k).1.ws.length ≤ ws.length + 2 := g2
      refine ⟨by show (rulesFor ⟨(mtN n x).1.top, (mtN n x).1.ks, ws⟩ k).1.ks.length ≤ _; omega, by show (rulesFor ⟨(mtN n x).1.top, (mtN n x).1.ks, ws⟩ k).1.ws.length ≤ _; omega, ?_⟩
      show ((mtN n x).2 ++ (rulesFor ⟨(mtN n x).1.top, (mtN n x).1.ks, ws⟩ k).2).length ≤ _
      rw [List.length_append, g3]
      omega
theorem mt1_len (x : MtS) : ∀ rs : List RR, (rs.foldl mt1 x).1.ks.length ≤ x.1.ks.length + rs.length ∧ (rs.foldl mt1 x).1.ws.length ≤ x.1.ws.length + rs.length ∧ (rs.foldl mt1 x).2.length = x.2.length + rs.length := by
  intro rs
  induction rs generalizing x with
  | nil => exact ⟨Nat.le_refl _, Nat.le_refl _, rfl⟩
  | cons r rs ih =>
    obtain ⟨h1, h2, h3⟩ := ih (mt1 x r)
    obtain ⟨g1, g2⟩ := add_len x.1 ⟨true, r.w, r.g⟩
    have e : (mt1 x r).2.length = x.2.length + 1 := by show (x.2 ++ [_]).length = _; rw [List.length_append]; rfl
    have g1 : (mt1 x r).1.ks.length ≤ x.1.ks.length + 1 := g1
    have g2 : (mt1 x r).1.ws.length ≤ x.1.ws.length + 1 := g2
    rw [List.foldl_cons, List.length_cons]
    exact ⟨by omega, by omega, by omega⟩
/-- the longest word of the waiting -/
def shortW (ws : List BK) : Prop := ∀ k ∈ ws, k.w.length ≤ 1000
theorem short_add {st : BtS} {k : BK} (h : shortW st.ws) (hk : k.w.length ≤ 1000) : shortW (st.add k).ws := by
  unfold BtS.add
  split
  · exact h
  · intro x hx
    rcases List.mem_append.mp hx with h1 | h1
    · exact h x h1
    · rw [List.mem_singleton.mp h1]
      exact hk
theorem short_mt1 : ∀ (rs : List RR) (x : MtS), shortW x.1.ws → (∀ r ∈ rs, r.w.length ≤ 1000) → shortW (rs.foldl mt1 x).1.ws
  | [], _, h, _ => h
  | r :: rs, x, h, hr => short_mt1 rs (mt1 x r) (short_add h (hr r List.mem_cons_self)) fun y hy => hr y (List.mem_cons_of_mem _ hy)
theorem short_mtN {x : MtS} (h : shortW x.1.ws) : ∀ n, shortW (mtN n x).1.ws
  | 0 => h
  | n + 1 => by
    have ih := short_mtN h n
    show shortW (mt2 (mtN n x)).1.ws
    unfold mt2
    split
    · exact ih
    · rename_i k ws hw
      have hws : shortW ws := fun y hy => ih y (by rw [hw]; exact List.mem_cons_of_mem _ hy)
      have hk : k.w.length ≤ 1000 := ih k (by rw [hw]; exact List.mem_cons_self)
      show shortW (rulesFor ⟨(mtN n x).1.top, (mtN n x).1.ks, ws⟩ k).1.ws
      unfold rulesFor
      split
      · exact short_add hws hk
      · split
        · exact short_add (short_add hws hk) (Nat.zero_le _)
        · rename_i c0 wr hwr
          have : wr.length + 1 ≤ 1000 := by rw [hwr] at hk; exact hk
          exact short_add (short_add hws hk) (by show wr.length ≤ 1000; omega)
section
variable {P : Program} {w : World} {K : PySem.W.Frag} {mg : Str → Option Value} {base : Heap}

def f_make_tape : GrL := fun as ds => ∃ (rules : List RR) (top n : Nat), rules.length ≤ 1000 ∧ (∀ r ∈ rules, r.w.length ≤ 1000) ∧ n ≤ 1000 ∧ (mtN n (mt0 rules top)).1.ws = [] ∧ as = [.l (rules.map RR.d), .t (.str (sw sgn)), .t (.int top)] ∧ ds = (mtN n (mt0 rules top)).2.map TR.d
theorem len_make_tape {as : List Ag} {ds : List PyData} (h : f_make_tape as ds) : as.length = 3 := by obtain ⟨_, _, _, _, _, _, _, rfl, _⟩ := h; rfl
theorem Kp.of {ps : List Addr} {H0 H H' : Hp} (a : Kp ps H H') (s : Same H0 H) (h : ∀ x ∈ ps, H0 x = none) : Same H0 H' := fun b o e => a.but b o (fun z => by rw [h b z] at e; cases e) (s b o e)
theorem BtAt.ne {H : Hp} {a n q p : Addr} {st : BtS} {ys : List V} (h : BtAt K H a n q st) (hp : H p = some (.lst ys)) : p ≠ a ∧ p ≠ n := by
  obtain ⟨_, _, _, h1, _, _, _, _, h6, _⟩ := h
  exact ⟨fun z => (by rw [z, h1] at hp; cases hp), fun z => (by rw [z, h6] at hp; cases hp)⟩
theorem BK.lay (b : BK) : b.d.canLay0 = true := by
  have h1 : (PyData.str b.nm).canLay0 = true := by unfold BK.nm; split <;> decide +kernel
  have h2 := sw_lay b.w
  show PyData.canLayAll0 [.str b.nm, .str (sw b.w), .int _] = true
  simp only [PyData.canLayAll0, h1, h2, Bool.and_true, Bool.true_and]
  rfl
theorem lay_all : ∀ (ds : List PyData), (∀ d ∈ ds, d.canLay0 = true) → (PyData.list ds).canLay0 = true := by
  intro ds h
  show PyData.canLayAll0 ds = true
  induction ds with
  | nil => rfl
  | cons d ds ih =>
    have h1 := h d List.mem_cons_self
    have h2 := ih fun x hx => h x (List.mem_cons_of_mem _ hx)
    simp only [PyData.canLayAll0, h1, h2, Bool.and_true]
theorem ev_ne0 {σ : L2.St} {H : Hp} {te : TE} {ds : List PyData} (h : Ev K te σ H (.l ds)) (hl : ∀ d ∈ ds, d.canLay0 = true) : Ev K (tOp (rNeG K 200) te (tLst tNil)) σ H (.t (.bool (!ds.isEmpty))) :=
  (ev_neG h (ef_lst (K := K) (ds := []) ea_nil (Nat.zero_le _)).ev rfl rfl (lay_all ds hl) rfl (Nat.le_trans (Nat.min_le_right _ _) (by decide))).is (by
    cases ds with
    | nil => first | rfl | simp [PyData.eqv, PyData.eqvAll]
    | cons d ds => first | rfl | simp [PyData.eqv, PyData.eqvAll])
theorem sc_make_tape : FnScope ["rules", "signs", "top", "between", "made", "state", "sign", "word", "goal"] ["rules", "signs", "top"] (defScope st_make_tape) := ⟨rfl, rfl, rfl, by decide +kernel, rfl, by decide +kernel, by decide +kernel⟩
theorem has_make_tape (T : Txt P w K mg base) : Has P w K mg base "make_tape" ["rules", "signs", "top"] 3 (SpL K f_make_tape) := by
  refine has_mk T.glo_make_tape (T.c.def_ 9 (d := d_make_tape) rfl) sc_make_tape (SpL.len (fun as d h => by exact len_make_tape h)) (fun _ _ _ _ _ _ us hl => match us, hl with | [_, _, _], _ => rfl) (fun cdv A outer s H vs Q E hr h => ?_)
  refine ⟨_, (pss_cons (ps_set (i := 3) sc_make_tape.nd rfl (by first | exact Or.inl rfl | exact Or.inr rfl) (pmk (ok_Between_init T) T.mkr_Between T.glo_Between (hr.mono (by decide)) (pa_cons (pv 2) pa_nil)))
    (pss_cons (ps_set (i := 4) sc_make_tape.nd rfl (by first | exact Or.inl rfl | exact Or.inr rfl) (pe_lst pa_nil))
    (pss_cons (ps_for PassesOwn.never rfl (pi_list (pv 0)) (pg_tup rfl (pgs_cons (pg_name (i := 5) sc_make_tape.nd rfl (by first | exact Or.inl rfl | exact Or.inr rfl)) (pgs_cons (pg_name (i := 6) sc_make_tape.nd rfl (by first | exact Or.inl rfl | exact Or.inr rfl)) (pgs_cons (pg_name (i := 7) sc_make_tape.nd rfl (by first | exact Or.inl rfl | exact Or.inr rfl)) (pgs_cons (pg_name (i := 8) sc_make_tape.nd rfl (by first | exact Or.inl rfl | exact Or.inr rfl)) pgs_nil)))))
    (pss_one (ps_expr (pe_bm PySem.F.plainAttrs_list PySem.F.slot_list_append PySem.F.type_list_append mt_append (pv 4) (pa_cons (pe_tup (pa_cons (pv 5) (pa_cons (pv 6) (pa_cons (T.c_BLANK) (pa_cons pe_str (pa_cons (pm (ok_Between_state_for T) T.cls_Between T.meth_Between_state_for (hr.mono (by decide)) (pv 3) (pa_cons (pe_tup (pa_cons (T.c_GO) (pa_cons (pv 7) (pa_cons (pv 8) pa_nil)))) pa_nil)) pa_nil)))))) pa_nil)))))
    (pss_cons (ps_while PassesOwn.never (pt_cmpR (op_neSK (K := K) hr) (pe_fldK (K := K) (pv 3) rfl) (pe_lst pa_nil) (nomark _)) (pss_one (ps_expr (pe_bm PySem.F.plainAttrs_list PySem.F.slot_list_extend PySem.F.type_list_extend mt_extend (pv 4) (pa_cons (pc (has_rules_for T) (hr.mono (by decide)) (pa_cons (pv 3) (pa_cons (pe_bm PySem.F.plainAttrs_list PySem.F.slot_list_pop PySem.F.type_list_pop mt_popAt (pe_fldK (K := K) (pv 3) rfl) (pa_cons pe_int pa_nil)) (pa_cons (pv 1) pa_nil)))) pa_nil)))))
    (pss_one (ps_ret (pv 4))))))), ?_⟩
  obtain ⟨as, ds, ⟨rules, top, N, hrl, hrw, hN, hend, rfl, rfl⟩, hv, k⟩ := h
  obtain ⟨x1, x2, x3, rfl, h1, h2, h3⟩ := hv.i3
  obtain ⟨ra, rs, rfl, hrs, trs⟩ := h1
  obtain rfl := Td.str_of h2
  obtain rfl := Td.int_of h3
  -- between = Between(top)
  refine ⟨_, rfl, fun a dx ha hdx hne => ⟨a, dx, top, rfl, upd_same, fun n q H1 hna hqa hn hq mu hb => ⟨rfl, ?_⟩⟩⟩
  have hH0 : Same H (upd (upd H dx (.own a)) a (.ins (He.ga K "Between") dx [])) := (Same.new hdx).trans (Same.new (by rw [upd_ne (Ne.symm hne)]; exact ha))
  have s1 : Same H H1 := mu.of hH0 ha
  have hnH : H n = none := hH0.free hn
  have hqH : H q = none := hH0.free hq
  refine q_setF (ef_lst (K := K) (ds := []) ea_nil (Nat.zero_le _)) fun p xs H2 hp s2 hp2 t2 => ?_
  have hpH : H p = none := s1.free hp
  have hb2 := hb.sm s2
  have hpq : p ≠ q := fun e => by
    obtain ⟨_, _, _, _, _, _, _, _, _, h7, _⟩ := hb
    rw [← e, hp] at h7
    cases h7
  have fr : ∀ x ∈ [n, q, p], H x = none := fun x hx => by
    rcases List.mem_cons.mp hx with h | h
    · rw [h]; exact hnH
    · rcases List.mem_cons.mp h with h | h
      · rw [h]; exact hqH
      · rw [List.mem_singleton.mp h]; exact hpH
  let S : Nat → MtS := fun i => (rules.take i).foldl mt1 (⟨top, [], []⟩, [])
  have hSl : ∀ i, i ≤ rules.length → (S i).1.ks.length ≤ 1000 ∧ (S i).1.ws.length ≤ 1000 ∧ (S i).2.length ≤ 1000 := fun i hi => by
    obtain ⟨h1, h2, h3⟩ := mt1_len (⟨top, [], []⟩, []) (rules.take i)
    have h4 : (rules.take i).length = i := by rw [List.length_take]; omega
    have h1 : (S i).1.ks.length ≤ 0 + (rules.take i).length := h1
    have h2 : (S i).1.ws.length ≤ 0 + (rules.take i).length := h2
    have h3 : (S i).2.length = 0 + (rules.take i).length := h3
    omega
  refine q_for (wk_list (K := K) (Hb := H) (ds := rules.map RR.d) (ev_ref rfl) hrs trs (s1.trans s2))
    (fun i σ' H' => ∃ o5 o6 o7 o8 ys, σ' = [some (.ref ra), some (.str (sw sgn)), some (.int top), some (.ref a), some (.ref p), o5, o6, o7, o8] ∧ Same H H' ∧ BtAt K H' a n q (S i).1 ∧ H' p = some (.lst ys) ∧ TdAll H' ys ((S i).2.map TR.d))
    (fun H3 s3 => ⟨none, none, none, none, xs, rfl, s1.trans (s2.trans s3), hb2.sm s3, s3 _ _ hp2, t2.sm s3⟩) (fun i σ' H' ⟨_, _, _, _, _, _, s, _⟩ => s) ?_ ?_
  · rintro i d x σ' H3 H4 hd hx ⟨o5, o6, o7, o8, ys, rfl, s3, hb3, hp3, t3⟩ s4
    obtain ⟨r, hr1, rfl⟩ : ∃ r, rules[i]? = some r ∧ d = r.d := by
      rw [List.getElem?_map] at hd
      cases e : rules[i]? with
      | none => rw [e] at hd; cases hd
      | some r => rw [e] at hd; cases hd; exact ⟨r, rfl, rfl⟩
    have hx : Td H4 x (.tuple [.int (r.s : Nat), .str (sw [r.c]), .str (sw r.w), .int (r.g : Nat)]) := hx
    obtain ⟨ta, v1, v2, v3, v4, rfl, hxt, t1', t2', t3', t4'⟩ := Td.t4 hx
    obtain rfl := Td.int_of t1'
    obtain rfl := Td.str_of t2'
    obtain rfl := Td.str_of t3'
    obtain rfl := Td.int_of t4'
    have hil : i < rules.length := (List.getElem?_eq_some_iff.mp hr1).1
    obtain ⟨l1, l2, l3⟩ := hSl i (Nat.le_of_lt hil)
    have eS : S (i + 1) = mt1 (S i) r := by
      show (rules.take (i + 1)).foldl mt1 _ = _
      rw [List.take_add_one, hr1, List.foldl_append]
      rfl
    refine ⟨_, _, rfl, SqT.of hxt, rfl, _, _, rfl, _, _, rfl, _, _, rfl, _, _, rfl, rfl, ?_⟩
    refine st_appSf (K := K) (b := ⟨true, r.w, r.g⟩) (st := (S i).1) (c := r.c) (wr := .u) (r := true) (s := r.s) rfl rfl (hb3.sm s4) (s4 _ _ hp3) (t3.sm s4) hpq (vI rfl) (vS rfl) ev_str ev_str (ev_BK (b := ⟨true, r.w, r.g⟩) ev_str (vS rfl) (vI rfl)) (by omega) (by omega) (by rw [List.length_map]; omega) fun ys' H5 kp hb5 hp5 t5 => ?_
    refine ⟨_, _, _, _, ys', rfl, kp.of (s3.trans s4) fr, by rw [eS]; exact hb5, hp5, ?_⟩
    rw [eS]
    show TdAll H5 ys' (((S i).2 ++ [_]).map TR.d)
    rw [List.map_append]
    exact t5
  · rintro σ' H3 ⟨o5, o6, o7, o8, ys, rfl, s3, hb3, hp3, t3⟩
    have eS : S (rules.map RR.d).length = mt0 rules top := by
      show (rules.take _).foldl mt1 _ = _
      rw [List.length_map, List.take_length]
      rfl
    rw [eS] at hb3 t3
    obtain ⟨b1, b2, b3⟩ := mt1_len (⟨top, [], []⟩, []) rules
    have b1 : (mt0 rules top).1.ks.length ≤ 0 + rules.length := b1
    have b2 : (mt0 rules top).1.ws.length ≤ 0 + rules.length := b2
    have b3 : (mt0 rules top).2.length = 0 + rules.length := b3
    have hsh : shortW (mt0 rules top).1.ws := short_mt1 rules _ (fun _ h => by cases h) hrw
    refine q_while (fun m σ' H' => ∃ i ys, m = N - i ∧ i ≤ N ∧ σ' = [some (.ref ra), some (.str (sw sgn)), some (.int top), some (.ref a), some (.ref p), o5, o6, o7, o8] ∧ Same H H' ∧ BtAt K H' a n q (mtN i (mt0 rules top)).1 ∧ H' p = some (.lst ys) ∧ TdAll H' ys ((mtN i (mt0 rules top)).2.map TR.d))
      N ⟨0, ys, by omega, Nat.zero_le _, rfl, s3, hb3, hp3, t3⟩ ?_
    rintro m σ' H4 ⟨i, ys, rfl, hi, rfl, s4, hb4, hp4, t4⟩
    obtain ⟨c1, c2, c3⟩ := mtN_len (mt0 rules top) i
    obtain ⟨dx4, fs4, ws4, g1, g2, g3, g4, g5, g6, g7, g8⟩ := id hb4
    have evw : Ev K (tFld K (tVar 3) "waiting") [some (.ref ra), some (.str (sw sgn)), some (.int top), some (.ref a), some (.ref p), o5, o6, o7, o8] H4 (.l ((mtN i (mt0 rules top)).1.ws.map BK.d)) :=
      ev_fld (ev_ref rfl) g1 T.cls_Between T.no_Between_waiting g4 (show At K H4 (.ref q) (.l _) from ⟨q, ws4, rfl, SqL.of g7, g8⟩)
    refine ⟨_, eb_test (ev_ne0 (K := K) evw fun d hd => by obtain ⟨b, _, rfl⟩ := List.mem_map.mp hd; exact BK.lay b), fun H5 s5 => ?_⟩
    cases hw : (mtN i (mt0 rules top)).1.ws with
    | nil =>
      refine iteF ?_
      have ef : mtN N (mt0 rules top) = mtN i (mt0 rules top) := mtN_fix hw N hi
      rw [ef] at k
      exact ⟨_, rfl, k p ys H5 hpH (s4.trans s5) (s5 _ _ hp4) (t4.sm s5)⟩
    | cons b wr =>
      refine iteT ?_
      have hlt : i < N := by
        rcases Nat.lt_or_ge i N with h | h
        · exact h
        · have : i = N := by omega
          rw [this, hend] at hw
          cases hw
      have e2 : mtN (i + 1) (mt0 rules top) = ((rulesFor ⟨(mtN i (mt0 rules top)).1.top, (mtN i (mt0 rules top)).1.ks, wr⟩ b).1, (mtN i (mt0 rules top)).2 ++ (rulesFor ⟨(mtN i (mt0 rules top)).1.top, (mtN i (mt0 rules top)).1.ks, wr⟩ b).2) := by
        show mt2 (mtN i (mt0 rules top)) = _
        unfold mt2
        rw [hw]
      obtain ⟨dx5, fs5, ws5, g1, g2, g3, g4, g5, g6, g7, g8⟩ := hb4.sm s5
      rw [hw] at g8
      obtain ⟨y, ws', rfl, hy, hws⟩ : ∃ y ws', ws5 = y :: ws' ∧ Td H5 y b.d ∧ TdAll H5 ws' (wr.map BK.d) := by
        cases g8 with
        | cons h1 h2 => exact ⟨_, _, rfl, h1, h2⟩
      have hp5 := s5 _ _ hp4
      have hlw : (mtN i (mt0 rules top)).1.ws.length = wr.length + 1 := by rw [hw]; rfl
      refine ⟨_, rfl, .inl ⟨rfl, _, SqL.of hp5⟩, ?_⟩
      refine ⟨_, rfl, ⟨_, rfl, a, _, dx5, fs5, _, rfl, g1, T.cls_Between, T.no_Between_waiting, g4, .inl ⟨rfl, _, SqL.of g7⟩, q, _, 0, 0, y, rfl, rfl, g7, by decide, by decide, ?_, rfl, ?_⟩⟩
      · exact seqIndex_of (by omega) (by simp)
      · have hqa : a ≠ q := fun z => by rw [z, g7] at g1; cases g1
        have hqn : n ≠ q := fun z => by rw [z, g7] at g6; cases g6
        have txq : Tx H5 (upd H5 q (.lst ((y :: ws').eraseIdx 0))) := Tx.lst g7
        refine ⟨_, rfl, a, n, q, ⟨(mtN i (mt0 rules top)).1.top, (mtN i (mt0 rules top)).1.ks, wr⟩, y, b, rfl, ⟨dx5, fs5, ws', by rw [upd_ne hqa]; exact g1, g2, g3, g4, g5, by rw [upd_ne hqn]; exact g6, upd_same, hws.tx txq⟩, hy.tx txq, by show (mtN i (mt0 rules top)).1.ks.length ≤ 9000; omega, by show wr.length ≤ 9000; omega, short_mtN hsh i b (by rw [hw]; exact List.mem_cons_self), ?_⟩
        intro r zs H6 hr kp hb6 hr6 t6
        have hp6a : upd H5 q (.lst ((y :: ws').eraseIdx 0)) p = some (.lst ys) := by rw [upd_ne hpq]; exact hp5
        have hpn := (hb4.ne hp4).2
        have hp6 : H6 p = some (.lst ys) := kp.ne hp6a (fun z => (List.mem_cons.mp z).elim hpn fun z => hpq (List.mem_singleton.mp z))
        have hrl4 := (rulesFor_len ⟨(mtN i (mt0 rules top)).1.top, (mtN i (mt0 rules top)).1.ks, wr⟩ b).2.2
        refine ⟨p, r, ys, zs, rfl, rfl, hp6, hr6, by rw [t4.length, t6.length, List.length_map, List.length_map, hrl4, sizeLine_eq]; omega, ?_⟩
        have tx6 : Tx H6 (upd H6 p (.lst (ys ++ zs))) := Tx.lst hp6
        have m06 : Kp [n, q, p] H5 (upd H6 p (.lst (ys ++ zs))) := by
          refine (Kp.trans (?_ : Kp [n, q, p] H5 (upd H5 q (.lst ((y :: ws').eraseIdx 0)))) (kp.mono fun x hx => ?_)).trans ((Mut.lst hp6).kp.mono fun x hx => ?_)
          · exact (Mut.lst g7).kp.mono fun x hx => by rw [List.mem_singleton.mp hx]; exact List.mem_cons_of_mem _ List.mem_cons_self
          · rcases List.mem_cons.mp hx with h | h
            · exact List.mem_cons.mpr (.inl h)
            · exact List.mem_cons_of_mem _ (List.mem_cons.mpr (.inl (List.mem_singleton.mp h)))
          · rw [List.mem_singleton.mp hx]
            exact List.mem_cons_of_mem _ (List.mem_cons_of_mem _ (List.mem_singleton.mpr rfl))
        refine ⟨N - (i + 1), by omega, i + 1, ys ++ zs, rfl, hlt, rfl, m06.of (s4.trans s5) fr, ?_, upd_same, ?_⟩
        · rw [e2]
          obtain ⟨dx6, fs6, ws6, f1, f2, f3, f4, f5, f6, f7, f8⟩ := id hb6
          exact ⟨dx6, fs6, ws6, by rw [upd_ne (Ne.symm (hb6.ne hp6).1)]; exact f1, f2, f3, f4, f5, by rw [upd_ne (Ne.symm hpn)]; exact f6, by rw [upd_ne (Ne.symm hpq)]; exact f7, f8.tx tx6⟩
        · rw [e2, List.map_append]
          exact (((((t4.sm s5).tx txq).tx kp.tx).append t6).tx tx6)
end
end My

/-! W18: states_in, walked. -/
namespace My
open PySem PySem.Spec PyProof.Rows L2
/-- the keys of a dict are these ints -/
def IK (kvs : List (Key × V)) (S : Int → Prop) : Prop := ∃ ks : List Int, kvs.map (·.1) = ks.map Sum.inl ∧ ks.Nodup ∧ ∀ k, k ∈ ks ↔ S k
theorem IK.put {kvs : List (Key × V)} {S : Int → Prop} (h : IK kvs S) (k : Int) (v : V) : IK (putK kvs (Sum.inl k) v) (fun j => S j ∨ j = k) := by
  obtain ⟨ks, h1, h2, h3⟩ := h
  by_cases hm : k ∈ ks
  · have e : (kvs.any fun kv => decide (kv.1 = Sum.inl k)) = true := by
      rw [List.any_eq_true]
      have : (Sum.inl k : Key) ∈ kvs.map (·.1) := by rw [h1]; exact List.mem_map.mpr ⟨k, hm, rfl⟩
      obtain ⟨x, hx, e⟩ := List.mem_map.mp this
      exact ⟨x, hx, decide_eq_true e⟩
    refine ⟨ks, ?_, h2, fun j => ?_⟩
    · unfold putK
      rw [if_pos e, List.map_map, ← h1]
      refine List.map_congr_left fun x _ => ?_
      show (if x.1 = Sum.inl k then (x.1, v) else x).1 = x.1
      split <;> rfl
    · rw [h3 j]
      exact ⟨fun z => .inl z, fun z => z.elim id fun z => by rw [z]; exact (h3 k).1 hm⟩
  · have e : ¬ (kvs.any fun kv => decide (kv.1 = Sum.inl k)) = true := by
      rw [List.any_eq_true]
      rintro ⟨x, hx, e⟩
      have e := of_decide_eq_true e
      have : (Sum.inl k : Key) ∈ kvs.map (·.1) := List.mem_map.mpr ⟨x, hx, e⟩
      rw [h1] at this
      obtain ⟨y, hy, e2⟩ := List.mem_map.mp this
      cases e2
      exact hm hy
    refine ⟨ks ++ [k], ?_, ?_, fun j => ?_⟩
    · unfold putK
      rw [if_neg e, List.map_append, List.map_append, h1]
      rfl
    · rw [List.nodup_append]
      exact ⟨h2, by simp, fun x hx y hy => by rw [List.mem_singleton.mp hy]; exact fun z => hm (z ▸ hx)⟩
    · rw [List.mem_append, h3 j, List.mem_singleton]
theorem IK.len {kvs : List (Key × V)} {S : Int → Prop} {N : Nat} (h : IK kvs S) (hS : ∀ k, S k → 0 ≤ k ∧ k < (N : Nat)) : kvs.length ≤ N := by
  obtain ⟨ks, h1, h2, h3⟩ := h
  have e : kvs.length = ks.length := by
    have := congrArg List.length h1
    rw [List.length_map, List.length_map] at this
    exact this
  rw [e]
  exact nodup_le N ks h2 fun k hk => hS k ((h3 k).1 hk)
section
variable {P : Program} {w : World} {K : PySem.W.Frag} {mg : Str → Option Value} {base : Heap}
/-- found[k] = True -/
theorem st_mark {σ : L2.St} {H : Hp} {D : Ends} {i : Nat} {p : Addr} {kvs : List (Key × V)} {te : TE} {k : Int} (hi : σ[i]? = some (some (.ref p))) (hp : H p = some (.dK kvs)) (he : Ev K te σ H (.t (.int k))) (hl : kvs.length ≤ 100000)
    (kk : ∀ H', Mut p H H' → H' p = some (.dK (putK kvs (Sum.inl k) (.bl true))) → D.nx σ H') : sDPut (tVar i) te (tC (.bl true)) D σ H := by
  refine ⟨_, hi, he H (Same.refl _) _ fun v H1 s1 hv => ?_⟩
  obtain rfl := Td.int_of hv
  have hp1 := s1 _ _ hp
  refine ⟨p, _, rfl, DPut.k (k := Sum.inl k) hp1 (by rw [sizeLine_eq]; omega), ?_⟩
  exact kk _ ((Mut.same s1).trans ⟨fun c o n e => by rw [upd_ne n]; exact e, Tx.dK hp1⟩) upd_same

def f_states_in : GrL := fun as ds => ∃ (tape : List TR) (top N : Nat), N < 64 ∧ (∀ k : Nat, (k ≤ top ∨ ∃ r ∈ tape, k = r.s ∨ k = r.g) ↔ k < N) ∧ as = [.l (tape.map TR.d), .t (.int top)] ∧ ds = upto N
theorem len_states_in {as : List Ag} {ds : List PyData} (h : f_states_in as ds) : as.length = 2 := by obtain ⟨_, _, _, _, _, rfl, _⟩ := h; rfl
theorem sc_states_in : FnScope ["rules", "top", "found", "state", "rule"] ["rules", "top"] (defScope st_states_in) := ⟨rfl, rfl, rfl, by decide +kernel, rfl, by decide +kernel, by decide +kernel⟩
theorem has_states_in (T : Txt P w K mg base) : Has P w K mg base "states_in" ["rules", "top"] 1 (SpL K f_states_in) := by
  refine has_mk T.glo_states_in (T.c.def_ 58 (d := d_states_in) rfl) sc_states_in (SpL.len (fun as d h => by exact len_states_in h)) (fun _ _ _ _ _ _ us hl => match us, hl with | [_, _], _ => rfl) (fun cdv A outer s H vs Q E hr h => ?_)
  refine ⟨_, (pss_cons (ps_set (i := 2) sc_states_in.nd rfl (by first | exact Or.inl rfl | exact Or.inr rfl) pe_dnewK)
    (pss_cons (ps_for PassesOwn.never rfl (pi_range1 (by rfl) T.free_range (pa_cons (pe_op op_addG (pv 1) pe_int) pa_nil)) (pg_name (i := 3) sc_states_in.nd rfl (by first | exact Or.inl rfl | exact Or.inr rfl))
    (pss_one (ps_dput (hu_of hr) (pv 2) (pv 3) pe_bl rfl)))
    (pss_cons (ps_for PassesOwn.never rfl (pi_list (pv 0)) (pg_name (i := 4) sc_states_in.nd rfl (by first | exact Or.inl rfl | exact Or.inr rfl))
    (pss_cons (ps_dput (hu_of hr) (pv 2) (pe_ixK (K := K) (pv 4) pe_int (fun _ _ => rfl)) pe_bl rfl)
    (pss_one (ps_dput (hu_of hr) (pv 2) (pe_ixK (K := K) (pv 4) pe_int (fun _ _ => rfl)) pe_bl rfl))))
    (pss_one (ps_ret (pe_callB (call_sortedDI rfl) (by rfl) T.free_sorted PyProof.Rows.boot_sorted (pa_cons (pv 2) pa_nil))))))), ?_⟩
  obtain ⟨as, ds, ⟨tape, top, N, hN, hk, rfl, rfl⟩, hv, k⟩ := h
  obtain ⟨x1, x2, rfl, h1, h2⟩ := hv.i2
  obtain ⟨ra, rs, rfl, hrs, trs⟩ := h1
  obtain rfl := Td.int_of h2
  refine fun p hp => ?_
  have s1 : Same H (upd H p (.dK [])) := Same.new hp
  have htop : top < N := (hk top).1 (.inl (Nat.le_refl _))
  show tSeq (tFor (iRng1 (tCons (tOp rAddG (tVar 1) (tC (.int 1))) tNil)) (gName 3) (sDPut (tVar 2) (tVar 3) (tC (.bl true)))) _ { nx := fun _ H' => Q .non H', rt := Q } [some (.ref ra), some (.int top), some (.ref p), none, none] (upd H p (.dK []))
  refine q_for (wk_range1 (K := K) (Hb := H) (j := ((top + 1 : Nat) : Int)) (ea_cons (ev_succ (vI rfl)) ea_nil) (by omega))
    (fun i σ' H' => ∃ o3 kvs, σ' = [some (.ref ra), some (.int top), some (.ref p), o3, none] ∧ Same H H' ∧ H' p = some (.dK kvs) ∧ IK kvs (fun j => 0 ≤ j ∧ j < (i : Nat)))
    (fun H2 s2 => ⟨none, [], rfl, s1.trans s2, s2 _ _ upd_same, [], rfl, List.nodup_nil, fun k => by first | (simp; done) | (simp; omega)⟩) (fun i σ' H' ⟨_, _, _, s, _⟩ => s) ?_ ?_
  · rintro i d x σ' H2 H3 hd hx ⟨o3, kvs, rfl, s2, h2, ik⟩ s3
    obtain ⟨hi, rfl⟩ := rng_get hd
    obtain rfl := Td.int_of hx
    refine st_mark (K := K) rfl (s3 _ _ h2) (vI rfl) (Nat.le_trans (ik.len (N := i) fun k h => h) (by omega)) fun H4 mu h4 => ?_
    refine ⟨_, _, rfl, mu.of (s2.trans s3) hp, h4, ?_⟩
    obtain ⟨ks, q1, q2, q3⟩ := ik.put (i : Int) (.bl true)
    exact ⟨ks, q1, q2, fun j => by rw [q3 j]; omega⟩
  · rintro σ' H2 ⟨o3, kvs, rfl, s2, h2, ik⟩
    rw [rng_len] at ik
    have hkey : ∀ r ∈ tape, r.s < N ∧ r.g < N := fun r hr => ⟨(hk r.s).1 (.inr ⟨r, hr, .inl rfl⟩), (hk r.g).1 (.inr ⟨r, hr, .inr rfl⟩)⟩
    let S : Nat → Int → Prop := fun i j => (0 ≤ j ∧ j < ((top + 1 : Nat) : Int)) ∨ ∃ r ∈ tape.take i, j = (r.s : Int) ∨ j = (r.g : Int)
    have hSN : ∀ i j, S i j → 0 ≤ j ∧ j < (N : Nat) := fun i j h => by
      rcases h with h | ⟨r, hr, h⟩
      · omega
      · have := hkey r (List.mem_of_mem_take hr)
        omega
    refine q_for (wk_list (K := K) (Hb := H) (ds := tape.map TR.d) (ev_ref rfl) hrs trs s2)
      (fun i σ' H' => ∃ o4 kvs, σ' = [some (.ref ra), some (.int top), some (.ref p), o3, o4] ∧ Same H H' ∧ H' p = some (.dK kvs) ∧ IK kvs (S i))
      (fun H3 s3 => ⟨none, kvs, rfl, s2.trans s3, s3 _ _ h2, by
        obtain ⟨ks, q1, q2, q3⟩ := ik
        exact ⟨ks, q1, q2, fun j => by rw [q3 j]; exact ⟨fun z => .inl z, fun z => z.elim id fun ⟨r, hr, _⟩ => by cases hr⟩⟩⟩) (fun i σ' H' ⟨_, _, _, s, _⟩ => s) ?_ ?_
    · rintro i d x σ' H3 H4 hd hx ⟨o4, kvs, rfl, s3, h3, ik⟩ s4
      obtain ⟨r, hr1, rfl⟩ : ∃ r, tape[i]? = some r ∧ d = r.d := by
        rw [List.getElem?_map] at hd
        cases e : tape[i]? with
        | none => rw [e] at hd; cases hd
        | some r => rw [e] at hd; cases hd; exact ⟨r, rfl, rfl⟩
      have hx : Td H4 x (.tuple [.int (r.s : Nat), .str (sw [r.c]), .str (sw [r.w]), .str (mvD r.r), .int (r.g : Nat)]) := hx
      have ik1 := ik.put (r.s : Int) (.bl true)
      have hr := hkey r (List.mem_of_getElem? hr1)
      have l1 := ik.len (hSN i)
      have l2 := ik1.len (N := N) fun j h => h.elim (hSN i j) fun h => by omega
      refine st_mark (D := { nx := _, rt := _, ct := _, bk := _ }) (K := K) rfl (s4 _ _ h3) (ev_ixT (i := 0) (vD rfl hx) ev_int rfl) (by omega) fun H5 m5 h5 => ?_
      refine st_mark (K := K) rfl h5 (ev_ixT (i := 4) (vD rfl (hx.tx m5.tx)) ev_int rfl) (by omega) fun H6 m6 h6 => ?_
      refine ⟨_, _, rfl, (m5.trans m6).of (s3.trans s4) hp, h6, ?_⟩
      obtain ⟨ks, q1, q2, q3⟩ := ik1.put (r.g : Int) (.bl true)
      refine ⟨ks, q1, q2, fun j => ?_⟩
      rw [q3 j]
      show ((S i j ∨ _) ∨ _) ↔ S (i + 1) j
      have e4 : tape.take (i + 1) = tape.take i ++ [r] := by rw [List.take_add_one, hr1]; rfl
      constructor
      · rintro ((h | h) | h)
        · rcases h with h | ⟨x, hx, h⟩
          · exact .inl h
          · exact .inr ⟨x, by rw [e4]; exact List.mem_append_left _ hx, h⟩
        · exact .inr ⟨r, by rw [e4]; exact List.mem_append_right _ (List.mem_singleton.mpr rfl), .inl h⟩
        · exact .inr ⟨r, by rw [e4]; exact List.mem_append_right _ (List.mem_singleton.mpr rfl), .inr h⟩
      · rintro (h | ⟨x, hx, h⟩)
        · exact .inl (.inl (.inl h))
        · rw [e4] at hx
          rcases List.mem_append.mp hx with hx | hx
          · exact .inl (.inl (.inr ⟨x, hx, h⟩))
          · rw [List.mem_singleton.mp hx] at h
            rcases h with h | h
            · exact .inl (.inr h)
            · exact .inr h
    · rintro σ' H3 ⟨o4, kvs, rfl, s3, h3, ik⟩
      rw [List.length_map] at ik
      have hl := ik.len (hSN _)
      obtain ⟨ks, q1, q2, q3⟩ := ik
      have e : kvs.length = ks.length := by
        have := congrArg List.length q1
        rw [List.length_map, List.length_map] at this
        exact this
      refine ⟨_, rfl, p, kvs, ks, rfl, .inl h3, q1, by omega, fun ys z hz1 hz2 hz3 => ?_⟩
      have hys : ys = (List.range N).map fun i => ((i : Nat) : Int) := rise_all (lt_of_le_nodup ys hz2 (hz1.nodup_iff.mpr q2)) fun j => by
        rw [hz1.mem_iff, q3 j]
        constructor
        · exact hSN _ j
        · rintro ⟨h1, h2⟩
          obtain ⟨n, rfl⟩ := Int.eq_ofNat_of_zero_le h1
          have h2 : n < N := by omega
          rcases (hk n).2 h2 with h | ⟨r, hr, h⟩
          · exact .inl (by omega)
          · exact .inr ⟨r, by rw [List.take_length]; exact hr, by omega⟩
      subst hys
      refine k z _ _ (s3.free hz3) (s3.trans (Same.new hz3)) upd_same ?_
      unfold upto
      have := TdAll.ints (H := upd H3 z (.lst (((List.range N).map fun i => ((i : Nat) : Int)).map V.int))) ((List.range N).map fun i => ((i : Nat) : Int))
      rw [List.map_map, List.map_map] at this
      rw [List.map_map]
      exact this
end
end My

/-! W19: the book's trees, walked. -/
namespace My
open PySem PySem.Spec PyProof.Rows L2
theorem mvD_eq (r : Bool) : mvD r = mvS r := by cases r <;> rfl
/-- the place of a sign -/
def sIx : Lt → Nat
  | .u => 0 | .b => 1 | .e => 2 | .i => 3
def sgT (c : Lt) : Tr := Tr.pickT (sIx c) 4
/-- what the tape's rules say at a state and a sign: the last such rule -/
def actT (tape : List TR) (q : Nat) (c : Lt) : Option (Lt × Bool × Nat) := (tape.reverse.find? fun t => decide (t.s = q ∧ t.c = c)).map fun t => (t.w, t.r, t.g)
def actD (a : Lt × Bool × Nat) : PyData := .tuple [.str (sw [a.1]), .str (mvD a.2.1), .int (a.2.2 : Nat)]
def frT (p : List Nm × Tr) : Tr := Tr.madeT p.1 p.2
/-- what is put for names -/
def glT (l : List (Nm × Tr)) : Nm → Option Tr := l.foldl (fun g p y => if y = p.1 then some p.2 else g y) fun _ => none
def thingT (tape : List TR) (N q : Nat) (c : Lt) : Tr := match actT tape q c with
  | none => Tr.putT (glT [(.q, Tr.pickT q N), (.y, sgT c)]) (frT endP)
  | some (w, r, g) => Tr.putT (glT [(.tn, Tr.putT (glT [(.q, Tr.pickT g N), (.y, sgT w), (.b, sgT .u)]) (frT (bareP r))), (.tc, Tr.putT (glT [(.q, Tr.pickT g N), (.y, sgT w), (.b, sgT .u)]) (frT (cellP r)))]) (frT (sideP r))
def seatT (tape : List TR) (N q : Nat) : Tr := Tr.foldT [Tr.putT (glT [(.ta, thingT tape N q .u), (.tb, thingT tape N q .b), (.tc, thingT tape N q .e), (.td, thingT tape N q .i)]) (frT chooP), Tr.pickT q N]
def akey (q : Nat) (c : Lt) : List Key := [.inl (q : Nat), .inr (sw [c])]
/-- the dict of the acts -/
def ActAt (tape : List TR) (kvs : List (List Key × V)) (H : Hp) : Prop := ∀ q c, match actT tape q c with
  | none => valV kvs (akey q c) = none
  | some a => ∃ v, valV kvs (akey q c) = some v ∧ Td H v (actD a)
theorem ActAt.tx {tape : List TR} {kvs : List (List Key × V)} {H H' : Hp} (h : ActAt tape kvs H) (t : Tx H H') : ActAt tape kvs H' := fun q c => by
  have h1 := h q c
  split at h1
  · exact h1
  · exact let ⟨v, e1, e2⟩ := h1; ⟨v, e1, e2.tx t⟩
/-- the lists behind a dict's words -/
def WordsAt (kvs : List (Key × V)) (H : Hp) (l : List (Str × List PyData)) : Prop := ∀ x ∈ l, ∃ p xs, valV kvs (Sum.inr x.1) = some (.ref p) ∧ H p = some (.lst xs) ∧ TdAll H xs x.2
theorem WordsAt.sm {kvs : List (Key × V)} {H H' : Hp} {l : List (Str × List PyData)} (h : WordsAt kvs H l) (s : Same H H') : WordsAt kvs H' l := fun x hx => let ⟨p, xs, h1, h2, h3⟩ := h x hx; ⟨p, xs, h1, s _ _ h2, h3.sm s⟩
def frW : List (Str × List PyData) := [("l", trs [frT (sideP false), frT (bareP false), frT (cellP false)]), ("r", trs [frT (sideP true), frT (bareP true), frT (cellP true)]), ("end", trs [frT endP]), ("state", trs [frT chooP])]
def coD (l : List (List Nm × Tr)) : List PyData := l.map fun p => .int (costT p : Nat)
def coW : List (Str × List PyData) := [("l", coD [sideP false, bareP false, cellP false]), ("r", coD [sideP true, bareP true, cellP true]), ("end", coD [endP]), ("state", coD [chooP])]
def bkM : List Str := ["frame", "sign_tree", "state_pick", "thing", "seat"]
/-- the book at a, as far as its trees' parts go -/
def BkAt (K : PySem.W.Frag) (tape : List TR) (N : Nat) (v : V) (H : Hp) : Prop := ∃ a dx fs rp sp ap fp cp xr xs kA kF kC, v = .ref a ∧ H a = some (.ins (He.ga K "Book") dx fs) ∧ (∀ m ∈ bkM, fs.lookup m = none) ∧
  (fs.lookup ("rules" : Str) = some (.ref rp) ∧ H rp = some (.lst xr) ∧ TdAll H xr (tape.map TR.d)) ∧ fs.lookup ("signs" : Str) = some (.str (sw sgn)) ∧ (fs.lookup ("states" : Str) = some (.ref sp) ∧ H sp = some (.lst xs) ∧ TdAll H xs (upto N)) ∧
  (fs.lookup ("acts" : Str) = some (.ref ap) ∧ H ap = some (.dT kA) ∧ ActAt tape kA H) ∧ (fs.lookup ("frames" : Str) = some (.ref fp) ∧ H fp = some (.dK kF) ∧ WordsAt kF H frW) ∧ (fs.lookup ("costs" : Str) = some (.ref cp) ∧ H cp = some (.dK kC) ∧ WordsAt kC H coW)
theorem BkAt.mono (K : PySem.W.Frag) (tape : List TR) (N : Nat) : Mono (BkAt K tape N) := fun v H H' s ⟨a, dx, fs, rp, sp, ap, fp, cp, xr, xs, kA, kF, kC, e, h1, h2, h3, h4, h5, h6, h7, h8⟩ =>
  ⟨a, dx, fs, rp, sp, ap, fp, cp, xr, xs, kA, kF, kC, e, s _ _ h1, h2, ⟨h3.1, s _ _ h3.2.1, h3.2.2.sm s⟩, h4, ⟨h5.1, s _ _ h5.2.1, h5.2.2.sm s⟩, ⟨h6.1, s _ _ h6.2.1, h6.2.2.tx s.tx⟩, ⟨h7.1, s _ _ h7.2.1, h7.2.2.sm s⟩, ⟨h8.1, s _ _ h8.2.1, h8.2.2.sm s⟩⟩
def Ag.bk (K : PySem.W.Frag) (tape : List TR) (N : Nat) : Ag := .o (BkAt K tape N) (BkAt.mono K tape N)
section
variable {P : Program} {w : World} {K : PySem.W.Frag} {mg : Str → Option Value} {base : Heap}
/-- a method that hands back data -/
theorem ev_bkm {σ : L2.St} {H : Hp} {te : TE} {t : TA} {m : Str} {F : Gr} {tape : List TR} {N : Nat} {as : List Ag} {d : PyData} (hm : m ∈ bkM) (he : Ev K te σ H (Ag.bk K tape N)) (ha : Ea K t σ H as) (hf : F (Ag.bk K tape N :: as) d) :
    Ev K (tMeth (He.ga K "Book") m (SpT K F) [] E0 te t) σ H (.t d) := fun H1 s Q q =>
  he H1 s _ fun v H2 s2 hv => by
    obtain ⟨a, dx, fs, rp, sp, ap, fp, cp, xr, xs, kA, kF, kC, rfl, h1, h2, hr⟩ := id hv
    refine ⟨a, dx, fs, rfl, h1, h2 m hm, ha H2 (s.trans s2) _ fun vs H3 s3 hvs => ?_⟩
    refine ⟨_, d, hf, .cons (hv.sm s3) (by rw [List.append_nil]; exact hvs), fun u H4 s4 hu => q u H4 (s2.trans (s3.trans s4)) hu⟩
/-- its fields -/
theorem ev_bkF {σ : L2.St} {H : Hp} {te : TE} {tape : List TR} {N : Nat} {f : Str} {ag : Ag} (T : Txt P w K mg base) (he : Ev K te σ H (Ag.bk K tape N)) (n : NoAttr K (He.ga K "Book") f)
    (g : ∀ a dx fs rp sp ap fp cp xr xs kA kF kC H', H' a = some (.ins (He.ga K "Book") dx fs) ∧ (∀ m ∈ bkM, fs.lookup m = none) ∧
      (fs.lookup ("rules" : Str) = some (.ref rp) ∧ H' rp = some (.lst xr) ∧ TdAll H' xr (tape.map TR.d)) ∧ fs.lookup ("signs" : Str) = some (.str (sw sgn)) ∧ (fs.lookup ("states" : Str) = some (.ref sp) ∧ H' sp = some (.lst xs) ∧ TdAll H' xs (upto N)) ∧
      (fs.lookup ("acts" : Str) = some (.ref ap) ∧ H' ap = some (.dT kA) ∧ ActAt tape kA H') ∧ (fs.lookup ("frames" : Str) = some (.ref fp) ∧ H' fp = some (.dK kF) ∧ WordsAt kF H' frW) ∧ (fs.lookup ("costs" : Str) = some (.ref cp) ∧ H' cp = some (.dK kC) ∧ WordsAt kC H' coW) → ∃ v, fs.lookup f = some v ∧ At K H' v ag) :
    Ev K (tFld K te f) σ H ag := fun H1 s Q q =>
  he H1 s _ fun v H2 s2 hv => by
    obtain ⟨a, dx, fs, rp, sp, ap, fp, cp, xr, xs, kA, kF, kC, rfl, hr⟩ := id hv
    obtain ⟨u, e, hu⟩ := g _ _ _ _ _ _ _ _ _ _ _ _ _ H2 hr
    exact ⟨a, _, dx, fs, u, rfl, hr.1, T.cls_Book, n, e, q u H2 s2 hu⟩
theorem ev_bkSigns {σ : L2.St} {H : Hp} {te : TE} {tape : List TR} {N : Nat} (T : Txt P w K mg base) (he : Ev K te σ H (Ag.bk K tape N)) : Ev K (tFld K te "signs") σ H (.t (.str (sw sgn))) :=
  ev_bkF T he T.no_Book_signs fun a dx fs rp sp ap fp cp xr xs kA kF kC H' h => ⟨_, h.2.2.2.1, Td.str _⟩
theorem ev_bkStates {σ : L2.St} {H : Hp} {te : TE} {tape : List TR} {N : Nat} (T : Txt P w K mg base) (he : Ev K te σ H (Ag.bk K tape N)) : Ev K (tFld K te "states") σ H (.l (upto N)) :=
  ev_bkF T he T.no_Book_states fun a dx fs rp sp ap fp cp xr xs kA kF kC H' h => ⟨_, h.2.2.2.2.1.1, ⟨sp, xs, rfl, SqL.of h.2.2.2.2.1.2.1, h.2.2.2.2.1.2.2⟩⟩
theorem ev_bkRules {σ : L2.St} {H : Hp} {te : TE} {tape : List TR} {N : Nat} (T : Txt P w K mg base) (he : Ev K te σ H (Ag.bk K tape N)) : Ev K (tFld K te "rules") σ H (.l (tape.map TR.d)) :=
  ev_bkF T he T.no_Book_rules fun a dx fs rp sp ap fp cp xr xs kA kF kC H' h => ⟨_, h.2.2.1.1, ⟨rp, xr, rfl, SqL.of h.2.2.1.2.1, h.2.2.1.2.2⟩⟩
/-- a dict of words and lists -/
def WdAt (l : List (Str × List PyData)) (v : V) (H : Hp) : Prop := ∃ p kvs, v = .ref p ∧ H p = some (.dK kvs) ∧ WordsAt kvs H l
theorem WdAt.mono (l : List (Str × List PyData)) : Mono (WdAt l) := fun v H H' s ⟨p, kvs, e, h1, h2⟩ => ⟨p, kvs, e, s _ _ h1, h2.sm s⟩
def Ag.wd (l : List (Str × List PyData)) : Ag := .o (WdAt l) (WdAt.mono l)
theorem ev_wd {σ : L2.St} {H : Hp} {td ty : TE} {l : List (Str × List PyData)} {x : Str} {ds : List PyData} (h1 : Ev K td σ H (Ag.wd l)) (h2 : Ev K ty σ H (.t (.str x))) (hx : (x, ds) ∈ l) : Ev K (tDGet td ty) σ H (.l ds) := fun H1 s Q q =>
  h1 H1 s _ fun v H2 s2 hv => h2 H2 (s.trans s2) _ fun y H3 s3 hy => by
    obtain ⟨p, kvs, rfl, hp, hw⟩ := hv
    obtain ⟨r, xs, e, h3, h4⟩ := (hw.sm s3) _ hx
    have hy := Td.str_of hy
    subst hy
    have g := DGet.k (k := Sum.inr x) (s3 _ _ hp)
    rw [e] at g
    exact ⟨p, _, rfl, g, q _ H3 (s2.trans s3) ⟨r, xs, rfl, SqL.of h3, h4⟩⟩
theorem ev_bkFrames {σ : L2.St} {H : Hp} {te : TE} {tape : List TR} {N : Nat} (T : Txt P w K mg base) (he : Ev K te σ H (Ag.bk K tape N)) : Ev K (tFld K te "frames") σ H (Ag.wd frW) :=
  ev_bkF T he T.no_Book_frames fun a dx fs rp sp ap fp cp xr xs kA kF kC H' h => ⟨_, h.2.2.2.2.2.2.1.1, ⟨fp, kF, rfl, h.2.2.2.2.2.2.1.2.1, h.2.2.2.2.2.2.1.2.2⟩⟩
theorem ev_bkCosts {σ : L2.St} {H : Hp} {te : TE} {tape : List TR} {N : Nat} (T : Txt P w K mg base) (he : Ev K te σ H (Ag.bk K tape N)) : Ev K (tFld K te "costs") σ H (Ag.wd coW) :=
  ev_bkF T he T.no_Book_costs fun a dx fs rp sp ap fp cp xr xs kA kF kC H' h => ⟨_, h.2.2.2.2.2.2.2.1, ⟨cp, kC, rfl, h.2.2.2.2.2.2.2.2.1, h.2.2.2.2.2.2.2.2.2⟩⟩
/-- the acts' dict -/
def AcAt (tape : List TR) (v : V) (H : Hp) : Prop := ∃ p kvs, v = .ref p ∧ H p = some (.dT kvs) ∧ ActAt tape kvs H
theorem AcAt.mono (tape : List TR) : Mono (AcAt tape) := fun v H H' s ⟨p, kvs, e, h1, h2⟩ => ⟨p, kvs, e, s _ _ h1, h2.tx s.tx⟩
def Ag.ac (tape : List TR) : Ag := .o (AcAt tape) (AcAt.mono tape)
def optAct : Option (Lt × Bool × Nat) → PyData
  | none => .none
  | some a => actD a
theorem ev_bkActs {σ : L2.St} {H : Hp} {te : TE} {tape : List TR} {N : Nat} (T : Txt P w K mg base) (he : Ev K te σ H (Ag.bk K tape N)) : Ev K (tFld K te "acts") σ H (Ag.ac tape) :=
  ev_bkF T he T.no_Book_acts fun a dx fs rp sp ap fp cp xr xs kA kF kC H' h => ⟨_, h.2.2.2.2.2.1.1, ⟨ap, kA, rfl, h.2.2.2.2.2.1.2.1, h.2.2.2.2.2.1.2.2⟩⟩
/-- acts.get((q, c)) -/
theorem ev_act {σ : L2.St} {H : Hp} {td t1 t2 : TE} {tape : List TR} {q : Nat} {c : Lt} (h : Ev K td σ H (Ag.ac tape)) (h1 : Ev K t1 σ H (.t (.int q))) (h2 : Ev K t2 σ H (.t (.str (sw [c])))) :
    Ev K (tDGet1 td (tTup (tCons t1 (tCons t2 tNil)))) σ H (.t (optAct (actT tape q c))) := fun H1 s Q qq =>
  h H1 s _ fun v H2 s2 hv => by
    obtain ⟨p, kvs, rfl, hp, ha⟩ := hv
    refine ⟨p, rfl, .inr ⟨kvs, .inl hp⟩, ?_⟩
    refine ev_tup (K := K) (ds := [.int q, .str (sw [c])]) (ea_cons h1 (ea_cons h2 ea_nil)) (Nat.le_of_ble_eq_true rfl) H2 (s.trans s2) _ fun y H3 s3 hy => ?_
    obtain ⟨b, x1, x2, rfl, hb, e1, e2⟩ := Td.t2 hy
    obtain rfl := Td.int_of e1
    obtain rfl := Td.str_of e2
    have hb : H3 b = some (.tup ((akey q c).map kV)) := hb
    have g := DGet.t (s3 _ _ hp) hb
    have ha3 := (ha.tx s3.tx) q c
    split at ha3
    · rename_i e
      rw [ha3] at g
      refine ⟨none, g, qq _ H3 (s2.trans s3) ?_⟩
      rw [e]
      exact Td.non
    · rename_i a e
      obtain ⟨u, e1, e2⟩ := ha3
      rw [e1] at g
      refine ⟨some u, g, qq _ H3 (s2.trans s3) ?_⟩
      rw [e]
      exact e2
theorem find_sg (c : Lt) : Txt.find (sw sgn) (sw [c]) + 1 = ((sIx c : Nat) : Int) := by cases c <;> decide +kernel
theorem upto_len (N : Nat) : (upto N).length = N := by unfold upto; rw [List.length_map, List.length_range]
theorem sIx_lt (c : Lt) : sIx c < 4 := by cases c <;> decide

def f_sign_tree (K : PySem.W.Frag) : Gr := fun as d => ∃ (tape : List TR) (N : Nat) (c : Lt), as = [Ag.bk K tape N, .t (.str (sw [c]))] ∧ d = (sgT c).d
theorem len_Book_sign_tree {vs : List V} {H : Hp} {Q : VK} {E : XK} (h : SpT K (f_sign_tree K) vs H Q E) : vs.length = 2 := SpT.len (fun as d h => by obtain ⟨_, _, _, rfl, _⟩ := h; rfl) vs H Q E h
theorem sc_Book_sign_tree : FnScope ["self", "sign"] ["self", "sign"] (defScope st_Book_sign_tree) := ⟨rfl, rfl, rfl, by decide +kernel, rfl, by decide +kernel, by decide +kernel⟩
theorem ok_Book_sign_tree (T : Txt P w K mg base) : HasM P w K mg base (He.ma K (He.ga K "Book") "sign_tree") ["self", "sign"] 6 (SpT K (f_sign_tree K)) := by
  refine hasM_mk (T.c.def_ 79 (d := d_Book_sign_tree) rfl) sc_Book_sign_tree (fun vs H Q E h => by exact len_Book_sign_tree h) (fun _ _ _ _ _ _ us hl => match us, hl with | [_, _], _ => rfl) (fun cdv A outer s H vs Q E hr h => ?_)
  refine ⟨_, (pss_one (ps_ret (pc (has_pick T) (hr.mono (by decide)) (pa_cons (pe_op op_addG (pe_m1 F.slot_str_find F.type_str_find mt_find (pe_fldK (K := K) (pv 0) rfl) (pv 1)) pe_int) (pa_cons (pe_op op_addG (pe_callB (call_lenK (K := K)) (by rfl) T.free_len PySem.boot_len (pa_cons (pe_fldK (K := K) (pv 0) rfl) pa_nil)) pe_int) pa_nil))))), ?_⟩
  obtain ⟨as, d, ⟨tape, N, c, rfl, rfl⟩, hv, k⟩ := h
  obtain ⟨x, y, rfl, hx, hy⟩ := hv.i2
  obtain rfl := Td.str_of hy
  have ex : Ev K (tVar 0) [some x, some (.str (sw [c]))] H (Ag.bk K tape N) := ev_var rfl hx
  have e1 := ev_addI (K := K) (i := Txt.find (sw sgn) (sw [c])) (j := 1) (ev_find (K := K) (ev_bkSigns T ex) (vS (σ := [some x, some (.str (sw [c]))]) (i := 1) rfl)) ev_int
  rw [find_sg] at e1
  exact st_ret (ev_call (F := f_pick) ⟨sIx c, 4, sIx_lt c, by decide, rfl, rfl⟩ (ea_cons e1 (ea_cons (ev_addI (i := 3) (j := 1) ((ev_lenS (ev_bkSigns T ex) (by decide)).is rfl) ev_int) ea_nil))) k
end
end My

/-! W20: the book's trees, walked (2). -/
namespace My
open PySem PySem.Spec PyProof.Rows L2
section
variable {P : Program} {w : World} {K : PySem.W.Frag} {mg : Str → Option Value} {base : Heap}
theorem ev_index {σ : L2.St} {H : Hp} {te ta : TE} {N q : Nat} (h : Ev K te σ H (.l (upto N))) (h1 : Ev K ta σ H (.t (.int q))) (hq : q < N) : Ev K (tBM K "list" (rIndex K) te (tCons ta tNil)) σ H (.t (.int q)) := fun H1 s Q qq =>
  h H1 s _ fun v H2 s2 ⟨a, xs, e, hs, ht⟩ => by
    subst e
    refine ⟨.inl ⟨rfl, _, hs⟩, h1 H2 (s.trans s2) _ fun y H3 s3 hy => ?_⟩
    obtain rfl := Td.int_of hy
    have e : upto N = ((List.range N).map fun i => ((i : Nat) : Int)).map PyData.int := by unfold upto; rw [List.map_map]; rfl
    rw [e] at ht
    have exs := TdAll.ints_of ht
    have hget : ∀ m : Nat, m < N → xs[m]? = some (V.int (m : Nat)) := fun m hm => by
      rw [exs, List.getElem?_map, List.getElem?_map, List.getElem?_range hm]
      rfl
    refine ⟨a, xs, _, q, .int q, rfl, rfl, s3.seq hs, rfl, ?_, hget q hq, ?_, fun m z hm hz => ?_, qq _ H3 (s2.trans s3) (Td.int _)⟩
    · rw [exs, List.all_eq_true]
      intro x hx
      obtain ⟨i, _, rfl⟩ := List.mem_map.mp hx
      rfl
    · first | rfl | simp [eqV] | exact beq_self_eq_true _
    · rw [hget m (by omega)] at hz
      cases hz
      first
      | (simp [eqV]; omega)
      | (unfold eqV; simp; omega)

def f_state_pick (K : PySem.W.Frag) : Gr := fun as d => ∃ (tape : List TR) (N q : Nat), q < N ∧ N ≤ 1000 ∧ as = [Ag.bk K tape N, .t (.int q)] ∧ d = (Tr.pickT q N).d
theorem len_Book_state_pick {vs : List V} {H : Hp} {Q : VK} {E : XK} (h : SpT K (f_state_pick K) vs H Q E) : vs.length = 2 := SpT.len (fun as d h => by obtain ⟨_, _, _, _, _, rfl, _⟩ := h; rfl) vs H Q E h
theorem sc_Book_state_pick : FnScope ["self", "state"] ["self", "state"] (defScope st_Book_state_pick) := ⟨rfl, rfl, rfl, by decide +kernel, rfl, by decide +kernel, by decide +kernel⟩
theorem ok_Book_state_pick (T : Txt P w K mg base) : HasM P w K mg base (He.ma K (He.ga K "Book") "state_pick") ["self", "state"] 6 (SpT K (f_state_pick K)) := by
  refine hasM_mk (T.c.def_ 80 (d := d_Book_state_pick) rfl) sc_Book_state_pick (fun vs H Q E h => by exact len_Book_state_pick h) (fun _ _ _ _ _ _ us hl => match us, hl with | [_, _], _ => rfl) (fun cdv A outer s H vs Q E hr h => ?_)
  refine ⟨_, (pss_one (ps_ret (pc (has_pick T) (hr.mono (by decide)) (pa_cons (pe_bm PySem.F.plainAttrs_list PySem.F.slot_list_index PySem.F.type_list_index mt_index (pe_fldK (K := K) (pv 0) rfl) (pa_cons (pv 1) pa_nil)) (pa_cons (pe_callB (call_lenK (K := K)) (by rfl) T.free_len PySem.boot_len (pa_cons (pe_fldK (K := K) (pv 0) rfl) pa_nil)) pa_nil))))), ?_⟩
  obtain ⟨as, d, ⟨tape, N, q, hq, hN, rfl, rfl⟩, hv, k⟩ := h
  obtain ⟨x, y, rfl, hx, hy⟩ := hv.i2
  obtain rfl := Td.int_of hy
  have ex : Ev K (tVar 0) [some x, some (.int q)] H (Ag.bk K tape N) := ev_var rfl hx
  exact st_ret (ev_call (F := f_pick) ⟨q, N, hq, hN, rfl, rfl⟩ (ea_cons (ev_index (ev_bkStates T ex) (vI rfl) hq) (ea_cons (ev_len (ev_bkStates T ex) (upto_len N)) ea_nil))) k
def f_thing (K : PySem.W.Frag) : Gr := fun as d => ∃ (tape : List TR) (N q : Nat) (c : Lt), q < N ∧ N ≤ 1000 ∧ (∀ t ∈ tape, t.g < N) ∧ as = [Ag.bk K tape N, .t (.int q), .t (.str (sw [c]))] ∧ d = (thingT tape N q c).d
theorem len_Book_thing {vs : List V} {H : Hp} {Q : VK} {E : XK} (h : SpT K (f_thing K) vs H Q E) : vs.length = 3 := SpT.len (fun as d h => by obtain ⟨_, _, _, _, _, _, _, rfl, _⟩ := h; rfl) vs H Q E h
/-- what stands in a display's pairs -/
def EvPs (K : PySem.W.Frag) (σ : L2.St) (H : Hp) : List (TE × TE) → List (Nm × Tr) → Prop
  | [], [] => True
  | (tk, tv) :: r, (x, t) :: l => tk = tC (.str x.str) ∧ Ev K tv σ H (.t t.d) ∧ EvPs K σ H r l
  | _, _ => False
theorem EvPs.sm {σ : L2.St} {H H' : Hp} (s : Same H H') : ∀ {r : List (TE × TE)} {l : List (Nm × Tr)}, EvPs K σ H r l → EvPs K σ H' r l
  | [], [], _ => trivial
  | (_, _) :: _, (_, _) :: _, ⟨a, b, c⟩ => ⟨a, b.sm s, EvPs.sm s c⟩
def glG (g : Nm → Option Tr) (l : List (Nm × Tr)) : Nm → Option Tr := l.foldl (fun g p y => if y = p.1 then some p.2 else g y) g
/-- the dict of a display, so far -/
def GAt (kvs : List (Key × V)) (H : Hp) (g : Nm → Option Tr) : Prop := valV kvs (Sum.inr "S") = none ∧ valV kvs (Sum.inr "K") = none ∧ ∀ x : Nm, OptAt H (valV kvs (Sum.inr x.str)) (g x)
theorem GAt.sm {kvs : List (Key × V)} {H H' : Hp} {g : Nm → Option Tr} (h : GAt kvs H g) (s : Same H H') : GAt kvs H' g := ⟨h.1, h.2.1, fun x => (h.2.2 x).sm s⟩
theorem OptAt.tx {H H' : Hp} {o : Option V} (s : Tx H H') : ∀ {t : Option Tr}, OptAt H o t → OptAt H' o t
  | none, h => h
  | some _, ⟨v, e, h⟩ => ⟨v, e, h.tx s⟩
theorem GAt.tx {kvs : List (Key × V)} {H H' : Hp} {g : Nm → Option Tr} (h : GAt kvs H g) (s : Tx H H') : GAt kvs H' g := ⟨h.1, h.2.1, fun x => (h.2.2 x).tx s⟩
theorem GAt.put {kvs : List (Key × V)} {H : Hp} {g : Nm → Option Tr} (h : GAt kvs H g) (x : Nm) {v : V} {t : Tr} (hv : Td H v t.d) : GAt (putK kvs (Sum.inr x.str) v) H (fun y => if y = x then some t else g y) := by
  refine ⟨?_, ?_, fun y => ?_⟩
  · rw [valV_put, if_neg (fun z => nm_S x (Sum.inr.inj z).symm)]
    exact h.1
  · rw [valV_put, if_neg (fun z => nm_K x (Sum.inr.inj z).symm)]
    exact h.2.1
  · rw [valV_put]
    by_cases e : y = x
    · subst e
      rw [if_pos rfl]
      show OptAt H _ (if y = y then _ else _)
      rw [if_pos rfl]
      exact ⟨v, rfl, hv⟩
    · rw [if_neg fun z => e (nm_inj y x (Sum.inr.inj z))]
      show OptAt H _ (if y = x then _ else _)
      rw [if_neg e]
      exact h.2.2 y
theorem GAt.nil {H : Hp} : GAt [] H (fun _ => none) := ⟨rfl, rfl, fun _ => rfl⟩
theorem ps_ok {σ : L2.St} : ∀ {r : List (TE × TE)} {l : List (Nm × Tr)} {H : Hp}, EvPs K σ H r l → ∀ Q : List (V × V) → Hp → Prop,
    (∀ (kvs : List (Key × V)) H2, Same H H2 → kvs.length = l.length → (∀ acc g, GAt acc H2 g → GAt (mergeK acc kvs) H2 (glG g l)) → Q (kvs.map fun kv => (kV kv.1, kv.2)) H2) → tPairs r σ H Q
  | [], [], H, _, Q, q => q [] H (Same.refl H) rfl fun _ _ h => h
  | (tk, tv) :: r, (x, t) :: l, H, h, Q, q => by
    obtain ⟨e, h2, h3⟩ := h
    subst e
    refine h2 H (Same.refl H) _ fun v H1 s1 hv => ?_
    refine ps_ok (EvPs.sm s1 h3) _ fun kvs H2 s2 hl hg => ?_
    refine q ((Sum.inr x.str, v) :: kvs) H2 (s1.trans s2) (by rw [List.length_cons, List.length_cons, hl]) fun acc g ha => ?_
    exact hg _ _ (ha.put x (Td.sm s2 hv))
theorem ev_disp {σ : L2.St} {H : Hp} {r : List (TE × TE)} {l : List (Nm × Tr)} (h : EvPs K σ H r l) (hl : l.length ≤ 15) : Ev K (tDisp r) σ H (Ag.puts (glT l)) := fun H1 s Q q p hp => by
  refine ps_ok (EvPs.sm (s.trans (Same.new hp)) h) _ fun kvs H2 s2 hk hg => ?_
  have hp2 := s2 _ _ upd_same
  refine ⟨hp2, kvs, rfl, by omega, q _ _ (((Same.new hp).trans s2).mut hp) ?_⟩
  have g2 := (hg [] _ GAt.nil).tx (Tx.dK (o := .dK (mergeK [] kvs)) hp2)
  exact ⟨p, _, rfl, upd_same, g2.1, g2.2.1, g2.2.2⟩
theorem sc_Book_thing : FnScope ["self", "state", "sign", "act", "write", "move", "behind", "side", "bare", "cell", "puts"] ["self", "state", "sign"] (defScope st_Book_thing) := ⟨rfl, rfl, rfl, by decide +kernel, rfl, by decide +kernel, by decide +kernel⟩
theorem ok_Book_thing (T : Txt P w K mg base) : HasM P w K mg base (He.ma K (He.ga K "Book") "thing") ["self", "state", "sign"] 69 (SpT K (f_thing K)) := by
  refine hasM_mk (T.c.def_ 81 (d := d_Book_thing) rfl) sc_Book_thing (fun vs H Q E h => by exact len_Book_thing h) (fun _ _ _ _ _ _ us hl => match us, hl with | [_, _, _], _ => rfl) (fun cdv A outer s H vs Q E hr h => ?_)
  refine ⟨_, (pss_cons (ps_set (i := 3) sc_Book_thing.nd rfl (by first | exact Or.inl rfl | exact Or.inr rfl) (pe_dget1 (hu_of hr) (pe_fldK (K := K) (pv 0) rfl) (pe_tup (pa_cons (pv 1) (pa_cons (pv 2) pa_nil))) ⟨rfl, rfl, rfl, rfl⟩))
    (pss_cons (ps_if (pt_cmp (pc_isN (pv 3))) (pss_one (ps_ret (pc (has_put_in T) (hr.mono (by decide)) (pa_cons (pe_ixK (K := K) (pe_dget (hu_of hr) (pe_fldK (K := K) (pv 0) rfl) pe_str (fun _ _ => rfl)) pe_int (fun _ _ => rfl)) (pa_cons (pe_disp (pps_cons pe_str (pm (ok_Book_state_pick T) T.cls_Book T.meth_Book_state_pick (hr.mono (by decide)) (pv 0) (pa_cons (pv 1) pa_nil)) (pps_cons pe_str (pm (ok_Book_sign_tree T) T.cls_Book T.meth_Book_sign_tree (hr.mono (by decide)) (pv 0) (pa_cons (pv 2) pa_nil)) pps_nil)) (by rfl) (by rfl) (fun z => by cases z) (by decide)) pa_nil))))) pss_nil)
    (pss_cons (ps_asg (pv 3) (pg_tup rfl (pgs_cons (pg_name (i := 4) sc_Book_thing.nd rfl (by first | exact Or.inl rfl | exact Or.inr rfl)) (pgs_cons (pg_name (i := 5) sc_Book_thing.nd rfl (by first | exact Or.inl rfl | exact Or.inr rfl)) (pgs_cons (pg_name (i := 6) sc_Book_thing.nd rfl (by first | exact Or.inl rfl | exact Or.inr rfl)) pgs_nil)))))
    (pss_cons (ps_asg (pe_dget (hu_of hr) (pe_fldK (K := K) (pv 0) rfl) (pv 5) (fun _ _ => rfl)) (pg_unl rfl (pgs_cons (pg_name (i := 7) sc_Book_thing.nd rfl (by first | exact Or.inl rfl | exact Or.inr rfl)) (pgs_cons (pg_name (i := 8) sc_Book_thing.nd rfl (by first | exact Or.inl rfl | exact Or.inr rfl)) (pgs_cons (pg_name (i := 9) sc_Book_thing.nd rfl (by first | exact Or.inl rfl | exact Or.inr rfl)) pgs_nil)))))
    (pss_cons (ps_set (i := 10) sc_Book_thing.nd rfl (by first | exact Or.inl rfl | exact Or.inr rfl) (pe_disp (pps_cons pe_str (pm (ok_Book_state_pick T) T.cls_Book T.meth_Book_state_pick (hr.mono (by decide)) (pv 0) (pa_cons (pv 6) pa_nil)) (pps_cons pe_str (pm (ok_Book_sign_tree T) T.cls_Book T.meth_Book_sign_tree (hr.mono (by decide)) (pv 0) (pa_cons (pv 4) pa_nil)) (pps_cons pe_str (pm (ok_Book_sign_tree T) T.cls_Book T.meth_Book_sign_tree (hr.mono (by decide)) (pv 0) (pa_cons pe_str pa_nil)) pps_nil))) (by rfl) (by rfl) (fun z => by cases z) (by decide)))
    (pss_one (ps_ret (pc (has_put_in T) (hr.mono (by decide)) (pa_cons (pv 7) (pa_cons (pe_disp (pps_cons pe_str (pc (has_put_in T) (hr.mono (by decide)) (pa_cons (pv 8) (pa_cons (pv 10) pa_nil))) (pps_cons pe_str (pc (has_put_in T) (hr.mono (by decide)) (pa_cons (pv 9) (pa_cons (pv 10) pa_nil))) pps_nil)) (by rfl) (by rfl) (fun z => by cases z) (by decide)) pa_nil)))))))))), ?_⟩
  obtain ⟨as, d, ⟨tape, N, q, c, hq, hN, ht, rfl, rfl⟩, hv, k⟩ := h
  obtain ⟨x, y, z, rfl, hx, hy, hz⟩ := hv.i3
  obtain rfl := Td.int_of hy
  obtain rfl := Td.str_of hz
  have ex : ∀ {H'} {o3 o4 o5 o6 o7 o8 o9 o10}, Same H H' → Ev K (tVar 0) [some x, some (.int q), some (.str (sw [c])), o3, o4, o5, o6, o7, o8, o9, o10] H' (Ag.bk K tape N) := fun s => ev_var rfl (At.sm s hx)
  have epk : ∀ {σ : L2.St} {H' : Hp} {t1 ts : TE} {j : Nat}, Ev K t1 σ H' (Ag.bk K tape N) → Ev K ts σ H' (.t (.int j)) → j < N → Ev K (tMeth (He.ga K "Book") "state_pick" (SpT K (f_state_pick K)) [] E0 t1 (tCons ts tNil)) σ H' (.t (Tr.pickT j N).d) := fun h1 h2 hj =>
    ev_bkm (by decide +kernel) h1 (ea_cons h2 ea_nil) ⟨tape, N, _, hj, hN, rfl, rfl⟩
  have esg : ∀ {σ : L2.St} {H' : Hp} {t1 ts : TE} {s : Lt}, Ev K t1 σ H' (Ag.bk K tape N) → Ev K ts σ H' (.t (.str (sw [s]))) → Ev K (tMeth (He.ga K "Book") "sign_tree" (SpT K (f_sign_tree K)) [] E0 t1 (tCons ts tNil)) σ H' (.t (sgT s).d) := fun h1 h2 =>
    ev_bkm (by decide +kernel) h1 (ea_cons h2 ea_nil) ⟨tape, N, _, rfl, rfl⟩
  refine q_set (K := K) (ev_act (ev_bkActs T (ex (Same.refl _))) (vI rfl) (vS rfl)) fun v H1 s1 h1 => ?_
  have h1 : Td H1 v (optAct (actT tape q c)) := h1
  cases ea : actT tape q c with
  | none =>
    rw [ea] at h1
    have et : thingT tape N q c = Tr.putT (glT [(.q, Tr.pickT q N), (.y, sgT c)]) (frT endP) := by unfold thingT; rw [ea]
    rw [et] at k
    refine q_ifT ((eb_B (ev_isN (K := K) (r := true) (vD rfl h1) rfl)).is rfl) fun H2 s2 => ?_
    refine st_ret (ev_call (F := f_put_in 64) ⟨frT endP, glT [(.q, Tr.pickT q N), (.y, sgT c)], by decide +kernel, rfl, rfl⟩ (ea_cons (ev_ixL (ds := trs [frT endP]) (i := 0) (ev_wd (K := K) (x := "end") (ev_bkFrames T (ex (s1.trans s2))) ev_str (by simp [frW])) ev_int rfl)
      (ea_cons (ev_disp ⟨rfl, epk (ex (s1.trans s2)) (vI rfl) hq, rfl, esg (ex (s1.trans s2)) (vS rfl), trivial⟩ (Nat.le_of_ble_eq_true rfl)) ea_nil))) fun u H3 s3 h3 => k u H3 (s1.trans (s2.trans s3)) h3
  | some a =>
    obtain ⟨wr, r, g⟩ := a
    rw [ea] at h1
    have et : thingT tape N q c = Tr.putT (glT [(.tn, Tr.putT (glT [(.q, Tr.pickT g N), (.y, sgT wr), (.b, sgT .u)]) (frT (bareP r))), (.tc, Tr.putT (glT [(.q, Tr.pickT g N), (.y, sgT wr), (.b, sgT .u)]) (frT (cellP r)))]) (frT (sideP r)) := by unfold thingT; rw [ea]
    rw [et] at k
    have hg : g < N := by
      unfold actT at ea
      cases e : tape.reverse.find? (fun t => decide (t.s = q ∧ t.c = c)) with
      | none => rw [e] at ea; cases ea
      | some t =>
        rw [e] at ea
        cases ea
        exact ht t (List.mem_reverse.mp (List.mem_of_find?_eq_some e))
    refine q_ifN ((eb_B (ev_isN (K := K) (r := false) (vD rfl h1) rfl)).is rfl) fun H2 s2 => ?_
    have h2 : Td H2 v (.tuple [.str (sw [wr]), .str (mvD r), .int (g : Nat)]) := h1.sm s2
    obtain ⟨tp, v1, v2, v3, rfl, htp, t1, t2, t3⟩ := Td.t3 h2
    obtain rfl := Td.str_of t1
    obtain rfl := Td.str_of t2
    obtain rfl := Td.int_of t3
    refine ⟨_, rfl, _, _, rfl, SqT.of htp, rfl, _, _, rfl, _, _, rfl, _, _, rfl, rfl, ?_⟩
    have efr : Ev K (tDGet (tFld K (tVar 0) "frames") (tVar 5)) [some x, some (.int q), some (.str (sw [c])), some (.ref tp), some (.str (sw [wr])), some (.str (mvD r)), some (.int g), none, none, none, none] H2 (.l (trs [frT (sideP r), frT (bareP r), frT (cellP r)])) := by
      refine ev_wd (K := K) (x := mvD r) (ev_bkFrames T (ex (s1.trans s2))) (vS rfl) ?_
      cases r <;> simp [frW, mvD]
    refine efr H2 (Same.refl _) _ fun u H3 s3 ⟨fa, xs, e, hs, hxs⟩ => ?_
    subst e
    obtain ⟨u1, u2, u3, rfl, y1, y2, y3⟩ : ∃ u1 u2 u3, xs = [u1, u2, u3] ∧ Td H3 u1 (frT (sideP r)).d ∧ Td H3 u2 (frT (bareP r)).d ∧ Td H3 u3 (frT (cellP r)).d := by
      cases hxs with
      | cons a1 b1 =>
        cases b1 with
        | cons a2 b2 =>
          cases b2 with
          | cons a3 b3 =>
            cases b3
            exact ⟨_, _, _, rfl, a1, a2, a3⟩
    refine ⟨fa, _, rfl, hs, rfl, _, _, rfl, _, _, rfl, _, _, rfl, rfl, ?_⟩
    have s13 := s1.trans (s2.trans s3)
    dsimp only
    refine q_set (K := K) (a := Ag.puts (glT [(.q, Tr.pickT g N), (.y, sgT wr), (.b, sgT .u)])) ?_ fun pv H4 s4 h4 => ?_
    · exact ev_disp ⟨rfl, epk (ex s13) (vI rfl) hg, rfl, esg (ex s13) (vS rfl), rfl, esg (s := .u) (ex s13) ev_str, trivial⟩ (Nat.le_of_ble_eq_true rfl)
    refine st_ret (ev_call (F := f_put_in 64) ⟨frT (sideP r), _, by cases r <;> decide +kernel, rfl, rfl⟩ (ea_cons (vD rfl (y1.sm s4)) (ea_cons (ev_disp (l := [(.tn, Tr.putT (glT [(.q, Tr.pickT g N), (.y, sgT wr), (.b, sgT .u)]) (frT (bareP r))), (.tc, Tr.putT (glT [(.q, Tr.pickT g N), (.y, sgT wr), (.b, sgT .u)]) (frT (cellP r)))])
      ⟨rfl, ev_call (F := f_put_in 64) ⟨frT (bareP r), _, by cases r <;> decide +kernel, rfl, rfl⟩ (ea_cons (vD rfl (y2.sm s4)) (ea_cons (ev_var rfl h4) ea_nil)), rfl, ev_call (F := f_put_in 64) ⟨frT (cellP r), _, by cases r <;> decide +kernel, rfl, rfl⟩ (ea_cons (vD rfl (y3.sm s4)) (ea_cons (ev_var rfl h4) ea_nil)), trivial⟩ (Nat.le_of_ble_eq_true rfl)) ea_nil))) fun u H5 s5 h5 => k u H5 (s13.trans (s4.trans s5)) h5
end
end My

/-! W21: the book's seats and frames, walked. -/
namespace My
open PySem PySem.Spec PyProof.Rows L2
section
variable {P : Program} {w : World} {K : PySem.W.Frag} {mg : Str → Option Value} {base : Heap}

def f_seat (K : PySem.W.Frag) : Gr := fun as d => ∃ (tape : List TR) (N q : Nat), q < N ∧ N ≤ 1000 ∧ (∀ t ∈ tape, t.g < N) ∧ as = [Ag.bk K tape N, .t (.int q)] ∧ d = (seatT tape N q).d
theorem len_Book_seat {vs : List V} {H : Hp} {Q : VK} {E : XK} (h : SpT K (f_seat K) vs H Q E) : vs.length = 2 := SpT.len (fun as d h => by obtain ⟨_, _, _, _, _, _, rfl, _⟩ := h; rfl) vs H Q E h
def nmI : Nat → Nm
  | 0 => .ta | 1 => .tb | 2 => .tc | _ => .td
def ltI : Nat → Lt
  | 0 => .u | 1 => .b | 2 => .e | _ => .i
theorem enum_get {i : Nat} {d : PyData} (h : (enumD (chs (sw (.u :: sgn))))[i]? = some d) : i < 4 ∧ d = .tuple [.int (i : Nat), .str (sw [ltI i])] := by
  match i, h with
  | 0, h => cases h; exact ⟨by decide, rfl⟩
  | 1, h => cases h; exact ⟨by decide, rfl⟩
  | 2, h => cases h; exact ⟨by decide, rfl⟩
  | 3, h => cases h; exact ⟨by decide, rfl⟩
  | n + 4, h =>
    have h2 := (List.getElem?_eq_some_iff.mp h).1
    have : (enumD (chs (sw (.u :: sgn)))).length = 4 := rfl
    omega
theorem ev_tname {σ : L2.St} {H : Hp} {t : TE} {i : Nat} (hi : i < 4) (h : Ev K t σ H (.t (.int i))) : Ev K (tOp rAddG (tC (.str "t")) (tOp (rIx K) (tC (.str "abcdefghi")) t)) σ H (.t (.str (nmI i).str)) := by
  have key : ∀ (j : Nat) (c : Nat) (r : Str), atI (("abcdefghi" : Str)).cps.toList (j : Int) = some c → r = (("t" : Str) ++ (⟨#[c]⟩ : Str)) → i = j → Ev K (tOp rAddG (tC (.str "t")) (tOp (rIx K) (tC (.str "abcdefghi")) t)) σ H (.t (.str r)) := fun j c r h1 h2 e => by
    subst e
    rw [h2]
    exact ev_addS ev_str (ev_ixS ev_str h (by decide +kernel) h1) (by have e2 : (⟨#[c]⟩ : Str).length = 1 := rfl; rw [e2]; decide +kernel)
  match i, hi, key with
  | 0, _, key => exact key 0 97 _ (by decide +kernel) (by decide +kernel) rfl
  | 1, _, key => exact key 1 98 _ (by decide +kernel) (by decide +kernel) rfl
  | 2, _, key => exact key 2 99 _ (by decide +kernel) (by decide +kernel) rfl
  | 3, _, key => exact key 3 100 _ (by decide +kernel) (by decide +kernel) rfl
def seatL (tape : List TR) (N q : Nat) : List (Nm × Tr) := [(.ta, thingT tape N q .u), (.tb, thingT tape N q .b), (.tc, thingT tape N q .e), (.td, thingT tape N q .i)]
theorem seatL_get (tape : List TR) (N q : Nat) {i : Nat} (h : i < 4) : (seatL tape N q)[i]? = some (nmI i, thingT tape N q (ltI i)) := by
  match i, h with
  | 0, _ => rfl
  | 1, _ => rfl
  | 2, _ => rfl
  | 3, _ => rfl
theorem ev_bthing {σ : L2.St} {H : Hp} {t1 t2 t3 : TE} {tape : List TR} {N q : Nat} {c : Lt} (h1 : Ev K t1 σ H (Ag.bk K tape N)) (h2 : Ev K t2 σ H (.t (.int q))) (h3 : Ev K t3 σ H (.t (.str (sw [c])))) (hq : q < N) (hN : N ≤ 1000) (ht : ∀ t ∈ tape, t.g < N) :
    Ev K (tMeth (He.ga K "Book") "thing" (SpT K (f_thing K)) [] E0 t1 (tCons t2 (tCons t3 tNil))) σ H (.t (thingT tape N q c).d) := ev_bkm (by decide +kernel) h1 (ea_cons h2 (ea_cons h3 ea_nil)) ⟨tape, N, q, c, hq, hN, ht, rfl, rfl⟩
theorem ev_bpick {σ : L2.St} {H : Hp} {t1 t2 : TE} {tape : List TR} {N q : Nat} (h1 : Ev K t1 σ H (Ag.bk K tape N)) (h2 : Ev K t2 σ H (.t (.int q))) (hq : q < N) (hN : N ≤ 1000) :
    Ev K (tMeth (He.ga K "Book") "state_pick" (SpT K (f_state_pick K)) [] E0 t1 (tCons t2 tNil)) σ H (.t (Tr.pickT q N).d) := ev_bkm (by decide +kernel) h1 (ea_cons h2 ea_nil) ⟨tape, N, q, hq, hN, rfl, rfl⟩
theorem ev_bsign {σ : L2.St} {H : Hp} {t1 t2 : TE} {tape : List TR} {N : Nat} {c : Lt} (h1 : Ev K t1 σ H (Ag.bk K tape N)) (h2 : Ev K t2 σ H (.t (.str (sw [c])))) :
    Ev K (tMeth (He.ga K "Book") "sign_tree" (SpT K (f_sign_tree K)) [] E0 t1 (tCons t2 tNil)) σ H (.t (sgT c).d) := ev_bkm (by decide +kernel) h1 (ea_cons h2 ea_nil) ⟨tape, N, c, rfl, rfl⟩
theorem sc_Book_seat : FnScope ["self", "state", "puts", "k", "sign"] ["self", "state"] (defScope st_Book_seat) := ⟨rfl, rfl, rfl, by decide +kernel, rfl, by decide +kernel, by decide +kernel⟩
theorem ok_Book_seat (T : Txt P w K mg base) : HasM P w K mg base (He.ma K (He.ga K "Book") "seat") ["self", "state"] 70 (SpT K (f_seat K)) := by
  refine hasM_mk (T.c.def_ 82 (d := d_Book_seat) rfl) sc_Book_seat (fun vs H Q E h => by exact len_Book_seat h) (fun _ _ _ _ _ _ us hl => match us, hl with | [_, _], _ => rfl) (fun cdv A outer s H vs Q E hr h => ?_)
  refine ⟨_, (pss_cons (ps_set (i := 2) sc_Book_seat.nd rfl (by first | exact Or.inl rfl | exact Or.inr rfl) pe_dnewK)
    (pss_cons (ps_for PassesOwn.never rfl (pi_enumS T.free_enumerate (pe_op op_addG pe_str (pe_fldK (K := K) (pv 0) rfl))) (pg_tup rfl (pgs_cons (pg_name (i := 3) sc_Book_seat.nd rfl (by first | exact Or.inl rfl | exact Or.inr rfl)) (pgs_cons (pg_name (i := 4) sc_Book_seat.nd rfl (by first | exact Or.inl rfl | exact Or.inr rfl)) pgs_nil)))
    (pss_one (ps_dput (hu_of hr) (pv 2) (pe_op op_addG pe_str (pe_ixK (K := K) pe_str (pv 3) (fun _ _ => rfl))) (pm (ok_Book_thing T) T.cls_Book T.meth_Book_thing (hr.mono (by decide)) (pv 0) (pa_cons (pv 1) (pa_cons (pv 4) pa_nil))) rfl)))
    (pss_one (ps_ret (pc (has_folded T) (hr.mono (by decide)) (pa_cons (pe_lst (pa_cons (pc (has_put_in T) (hr.mono (by decide)) (pa_cons (pe_ixK (K := K) (pe_dget (hu_of hr) (pe_fldK (K := K) (pv 0) rfl) pe_str (fun _ _ => rfl)) pe_int (fun _ _ => rfl)) (pa_cons (pv 2) pa_nil))) (pa_cons (pm (ok_Book_state_pick T) T.cls_Book T.meth_Book_state_pick (hr.mono (by decide)) (pv 0) (pa_cons (pv 1) pa_nil)) pa_nil))) pa_nil)))))), ?_⟩
  obtain ⟨as, d, ⟨tape, N, q, hq, hN, ht, rfl, rfl⟩, hv, k⟩ := h
  obtain ⟨x, y, rfl, hx, hy⟩ := hv.i2
  obtain rfl := Td.int_of hy
  refine fun p hp => ?_
  have s1 : Same H (upd H p (.dK [])) := Same.new hp
  have ex : ∀ {H'} {o2 o3 o4}, Same H H' → Ev K (tVar 0) [some x, some (.int q), o2, o3, o4] H' (Ag.bk K tape N) := fun s => ev_var rfl (At.sm s hx)
  refine q_for (wi := iEnumS (tOp rAddG (tC (.str "_")) (tFld K (tVar 0) "signs"))) (wk_enumS (K := K) (Hb := H) (z := sw (.u :: sgn)) (ev_addS (i := sw [.u]) (j := sw sgn) ev_str (ev_bkSigns T (ex s1)) (by decide)))
    (fun i σ' H' => ∃ o3 o4 kvs, σ' = [some x, some (.int q), some (.ref p), o3, o4] ∧ Same H H' ∧ H' p = some (.dK kvs) ∧ kvs.length ≤ i ∧ GAt kvs H' (glT ((seatL tape N q).take i)))
    (fun H2 s2 => ⟨none, none, [], rfl, s1.trans s2, s2 _ _ upd_same, Nat.le_refl _, GAt.nil⟩) (fun i σ' H' ⟨_, _, _, _, s, _⟩ => s) ?_ ?_
  · rintro i d z σ' H2 H3 hd hz ⟨o3, o4, kvs, rfl, s2, h2, hl, g2⟩ s3
    obtain ⟨hi, rfl⟩ := enum_get hd
    obtain ⟨ta, u, v, rfl, hzt, tu, tv⟩ := Td.t2 hz
    obtain rfl := Td.int_of tu
    obtain rfl := Td.str_of tv
    refine ⟨_, _, rfl, SqT.of hzt, rfl, _, _, rfl, _, _, rfl, rfl, ?_⟩
    have s23 := s2.trans s3
    refine ev_bthing (K := K) (ex s23) (vI rfl) (vS rfl) hq hN ht H3 (Same.refl _) _ fun u H4 s4 h4 => ?_
    refine ⟨_, rfl, ev_tname (K := K) hi (vI rfl) H4 (Same.refl _) _ fun z H5 s5 h5 => ?_⟩
    obtain rfl := Td.str_of h5
    have s35 := s3.trans (s4.trans s5)
    have hp5 := s35 _ _ h2
    refine ⟨p, _, rfl, DPut.k (k := Sum.inr (nmI i).str) hp5 (by rw [sizeLine_eq]; omega), ?_⟩
    have tx : Tx H5 (upd H5 p (.dK (putK kvs (Sum.inr (nmI i).str) u))) := Tx.dK hp5
    refine ⟨_, _, _, rfl, (s2.trans s35).mut hp, upd_same, Nat.le_trans (length_putK _ _ _) (by omega), ?_⟩
    have e : (seatL tape N q).take (i + 1) = (seatL tape N q).take i ++ [(nmI i, thingT tape N q (ltI i))] := by rw [List.take_add_one, seatL_get tape N q hi]; rfl
    rw [e]
    have e2 : glT ((seatL tape N q).take i ++ [(nmI i, thingT tape N q (ltI i))]) = fun y => if y = nmI i then some (thingT tape N q (ltI i)) else glT ((seatL tape N q).take i) y := by
      unfold glT
      rw [List.foldl_append]
      rfl
    rw [e2]
    exact ((g2.sm s35).put (nmI i) (Td.sm s5 h4)).tx tx
  · rintro σ' H2 ⟨o3, o4, kvs, rfl, s2, h2, hl, g2⟩
    have e : (seatL tape N q).take (enumD (chs (sw (.u :: sgn)))).length = seatL tape N q := rfl
    rw [e] at g2
    have ep : Ev K (tVar 2) [some x, some (.int q), some (.ref p), o3, o4] H2 (Ag.puts (glT (seatL tape N q))) := ev_var rfl ⟨p, kvs, rfl, h2, g2.1, g2.2.1, g2.2.2⟩
    refine st_ret (ev_call (F := f_folded) ⟨[Tr.putT (glT (seatL tape N q)) (frT chooP), Tr.pickT q N], rfl, rfl⟩ (ea_cons (ef_lst (K := K) (ds := trs [Tr.putT (glT (seatL tape N q)) (frT chooP), Tr.pickT q N]) (ea_cons (ev_call (F := f_put_in 64) ⟨frT chooP, _, by decide +kernel, rfl, rfl⟩ (ea_cons (ev_ixL (ds := trs [frT chooP]) (i := 0) (ev_wd (K := K) (x := "state") (ev_bkFrames T (ex s2)) ev_str (by simp [frW])) ev_int rfl) (ea_cons ep ea_nil)))
      (ea_cons (ev_bpick (ex s2) (vI rfl) hq hN) ea_nil)) (Nat.le_of_ble_eq_true rfl)).ev ea_nil)) fun u H3 s3 h3 => k u H3 (s2.trans s3) h3
def SpFr (K : PySem.W.Frag) : Sp := fun vs H Q _ => ∃ (a dx : Addr) (fs : List (Str × V)) (fp cp lp : Addr) (kF kC : List (Key × V)) (x : Str) (xs : List V) (ps : List (List Nm × Tr)), vs = [.ref a, .str x, .ref lp] ∧ H a = some (.ins (He.ga K "Book") dx fs) ∧ fs.lookup ("frames" : Str) = some (.ref fp) ∧ fs.lookup ("costs" : Str) = some (.ref cp) ∧
  H fp = some (.dK kF) ∧ H cp = some (.dK kC) ∧ fp ≠ cp ∧ kF.length ≤ 1000 ∧ kC.length ≤ 1000 ∧ H lp = some (.lst xs) ∧ AtAll K H xs (ps.map Ag.pair) ∧ ps.length ≤ 1000 ∧ (∀ p ∈ ps, Tr.okD 64 p.1 p.2 = true ∧ p.1.length ≤ 1000) ∧
  (∀ p1 p2 x1 x2 H', H p1 = none → H p2 = none → Kp [fp, cp] H H' → H' fp = some (.dK (putK kF (Sum.inr x) (.ref p1))) → H' cp = some (.dK (putK kC (Sum.inr x) (.ref p2))) → H' p1 = some (.lst x1) → TdAll H' x1 (trs (ps.map frT)) → H' p2 = some (.lst x2) → TdAll H' x2 (coD ps) → Q .non H')
theorem len_Book_frame {vs : List V} {H : Hp} {Q : VK} {E : XK} (h : SpFr K vs H Q E) : vs.length = 3 := by obtain ⟨_, _, _, _, _, _, _, _, _, _, _, rfl, _⟩ := h; rfl
theorem AtAll.get {H : Hp} : ∀ {as : List Ag} {vs : List V}, AtAll K H vs as → ∀ {i : Nat} {v : V}, vs[i]? = some v → ∃ a, as[i]? = some a ∧ At K H v a
  | [], _, h, i, v, e => by cases h; cases e
  | a :: as, _, h, i, v, e => by
    cases h with
    | cons h1 h2 =>
      cases i with
      | zero => cases e; exact ⟨a, rfl, h1⟩
      | succ i =>
        obtain ⟨b, e1, e2⟩ := AtAll.get h2 (i := i) (v := v) e
        exact ⟨b, e1, e2⟩
theorem st_dputF {σ : L2.St} {H : Hp} {D : Ends} {td ty tv : TE} {ds : List PyData} (hv : Ef tv σ H ds) (kk : ∀ p xs H1, H p = none → Same H H1 → H1 p = some (.lst xs) → TdAll H1 xs ds → td σ H1 fun x H2 => ty σ H2 fun y H3 => ∃ a H4, x = .ref a ∧ DPut H3 a y (.ref p) H4 ∧ D.nx σ H4) : sDPut td ty tv D σ H :=
  hv H (Same.refl H) _ kk
theorem q_dputF {σ : L2.St} {H : Hp} {D : Ends} {u : TS} {td ty tv : TE} {ds : List PyData} (hv : Ef tv σ H ds) (kk : ∀ p xs H1, H p = none → Same H H1 → H1 p = some (.lst xs) → TdAll H1 xs ds → td σ H1 fun x H2 => ty σ H2 fun y H3 => ∃ a H4, x = .ref a ∧ DPut H3 a y (.ref p) H4 ∧ u D σ H4) : tSeq (sDPut td ty tv) u D σ H :=
  hv H (Same.refl H) _ kk
/-- all that is no dict is kept -/
def NoD (H H' : Hp) : Prop := ∀ b o, H b = some o → (∀ kvs, o ≠ .dK kvs) → H' b = some o
theorem PairAt.nd {H H' : Hp} {ns : List Nm} {t : Tr} {v : V} (s : NoD H H') (h : PairAt ns t v H) : PairAt ns t v H' := by
  obtain ⟨a, p, x, xs, e, h1, h2, h3, h4⟩ := h
  have tx : Tx H H' := fun b ys e => s b _ e fun kvs z => by cases z
  exact ⟨a, p, x, xs, e, tx _ _ h1, s _ _ h2 (fun kvs z => by cases z), h3.tx tx, h4.tx tx⟩
theorem pairs_nd {H H' : Hp} (s : NoD H H') : ∀ {ps : List (List Nm × Tr)} {xs : List V}, AtAll K H xs (ps.map Ag.pair) → AtAll K H' xs (ps.map Ag.pair)
  | [], _, h => by cases h; exact .nil
  | p :: ps, _, h => by
    cases h with
    | cons h1 h2 => exact .cons (PairAt.nd s h1) (pairs_nd s h2)
/-- [f(x) for x in l], l a list of what stands for a(y) -/
theorem ef_lcA {σ : L2.St} {H : Hp} {te tl : TE} {i : Nat} {α : Type} {p : Addr} {xs : List V} (ag : α → Ag) (f : α → PyData) (l : List α) (hl : Ev K tl σ H (refIs p)) (hp : SqL K H p xs) (hx : AtAll K H xs (l.map ag)) (hlen : l.length ≤ 100000) (hi : ∀ x : Option V, wipe ((wipe σ [i]).set i x) [i] = wipe σ [i])
    (ht : ∀ y x H', y ∈ l → Same H H' → At K H' x (ag y) → Ev K te ((wipe σ [i]).set i (some x)) H' (.t (f y))) : Ef (tLc (iList K tl) (gName i) tYes te [i]) σ H (l.map f) := fun H1 s1 Q q =>
  hl H1 s1 _ fun v H2 s2 e => by
    have s02 : Same H H2 := s1.trans s2
    refine ⟨p, e, ⟨xs, s02.seq hp⟩, fun D hD => ?_⟩
    have wl := walk_list (K := K) (a := p) (xs := xs)
    have hxl : xs.length = l.length := by rw [hx.length, List.length_map]
    refine lc_it wl (fun k H3 => Same H2 H3 ∧ ∃ ys, H3 D = some (.lst ys) ∧ TdAll H3 ys ((l.take k).map f)) ⟨Same.new hD, [], upd_same, .nil⟩ (fun k H3 _ p' => (s02.trans p'.1).seq hp) ?_ ?_
    · rintro k x H3 H4 hk ⟨s3, ys, h1, h2⟩ y
      obtain ⟨rfl, y⟩ := y
      obtain ⟨a, ha1, ha2⟩ := hx.get y
      rw [List.getElem?_map] at ha1
      obtain ⟨z, hz, rfl⟩ : ∃ z, l[k]? = some z ∧ a = ag z := by
        cases e : l[k]? with
        | none => rw [e] at ha1; cases ha1
        | some z => rw [e] at ha1; cases ha1; exact ⟨z, rfl, rfl⟩
      have etk : l.take (k + 1) = l.take k ++ [z] := by rw [List.take_add_one, hz]; rfl
      refine ⟨hi _, ?_⟩
      unfold tYes
      refine iteT ?_
      refine ht z x H4 (List.mem_of_getElem? hz) (s02.trans s3) (ha2.sm (s02.trans s3)) H4 (Same.refl _) _ fun v H6 s6 h6 => ?_
      have hD6 := s6 _ _ h1
      refine ⟨ys, hD6, ?_, (Mut.lst hD6).of (s3.trans s6) hD, _, upd_same, ?_⟩
      · rw [h2.length, List.length_map]
        have l2 : (l.take k).length ≤ l.length := by rw [List.length_take]; omega
        exact Nat.lt_of_le_of_lt (Nat.le_trans l2 hlen) (by decide)
      · rw [etk, List.map_append]
        exact ((h2.sm s6).append (.one h6)).tx (Tx.lst hD6)
    · rintro H3 ⟨s3, ys, h1, h2⟩
      rw [hxl, List.take_length] at h2
      exact q D ys H3 (s2.free hD) (s2.trans s3) h1 h2
theorem sc_Book_frame : FnScope ["self", "word", "pairs", "pair"] ["self", "word", "pairs"] (defScope st_Book_frame) := ⟨rfl, rfl, rfl, by decide +kernel, rfl, by decide +kernel, by decide +kernel⟩
theorem ok_Book_frame (T : Txt P w K mg base) : HasM P w K mg base (He.ma K (He.ga K "Book") "frame") ["self", "word", "pairs"] 72 (SpFr K) := by
  refine hasM_mk (T.c.def_ 78 (d := d_Book_frame) rfl) sc_Book_frame (fun vs H Q E h => by exact len_Book_frame h) (fun _ _ _ _ _ _ us hl => match us, hl with | [_, _, _], _ => rfl) (fun cdv A outer s H vs Q E hr h => ?_)
  refine ⟨_, (pss_cons (ps_dput (hu_of hr) (pe_fldK (K := K) (pv 0) rfl) (pv 1) (pe_lc (own := [("pair", 3)]) (tt := tYes) rfl sc_Book_frame.nd (pi_list (pv 2)) (blkOk_by (own := [("pair", 3)]) (N := ["self", "word", "pairs", "pair"]) (sc := defScope st_Book_frame) (by decide +kernel)) (fun _ _ _ _ _ => (pg_name (i := 3) sc_Book_frame.nd rfl (by first | exact Or.inl rfl | exact Or.inr rfl))) (fun _ _ _ _ _ => pts_nil) (fun _ _ _ _ _ => (pc (has_made_pair T) (hr.mono (by decide)) (pa_cons (pv 3) pa_nil)))) rfl)
    (pss_one (ps_dput (hu_of hr) (pe_fldK (K := K) (pv 0) rfl) (pv 1) (pe_lc (own := [("pair", 3)]) (tt := tYes) rfl sc_Book_frame.nd (pi_list (pv 2)) (blkOk_by (own := [("pair", 3)]) (N := ["self", "word", "pairs", "pair"]) (sc := defScope st_Book_frame) (by decide +kernel)) (fun _ _ _ _ _ => (pg_name (i := 3) sc_Book_frame.nd rfl (by first | exact Or.inl rfl | exact Or.inr rfl))) (fun _ _ _ _ _ => pts_nil) (fun _ _ _ _ _ => (pc (has_cost_of T) (hr.mono (by decide)) (pa_cons (pv 3) pa_nil)))) rfl))), ?_⟩
  obtain ⟨a, dx, fs, fp, cp, lp, kF, kC, x, xs, ps, rfl, h1, hf, hc, hF, hC, hne, hl1, hl2, hlp, hxs, hpl, hok, k⟩ := h
  have hfa : fp ≠ a := fun z => by rw [z, h1] at hF; cases hF
  have hca : cp ≠ a := fun z => by rw [z, h1] at hC; cases hC
  -- self.frames[word] = [made_pair(pair) ..]
  refine q_dputF (ef_lcA (K := K) (i := 3) (p := lp) (xs := xs) (σ := [some (.ref a), some (.str x), some (.ref lp), none]) (tl := tVar 2) (te := tCall (SpT K f_made_pair) [] E0 (tCons (tVar 3) tNil)) Ag.pair (fun p => (frT p).d) ps (ev_ref rfl) (SqL.of hlp) hxs (by omega) (fun x => rfl) (fun y z H' hy s hz => ev_call (F := f_made_pair) ⟨y, (hok y hy).1, rfl, rfl⟩ (ea_cons (ev_var (σ := [some (.ref a), some (.str x), some (.ref lp), some z]) (i := 3) rfl hz) ea_nil))) fun p1 x1 H1 hp1 s1 h1p t1 => ?_
  refine ⟨_, rfl, a, _, dx, fs, _, rfl, s1 _ _ h1, T.cls_Book, T.no_Book_frames, hf, _, rfl, fp, _, rfl, DPut.k (k := Sum.inr x) (s1 _ _ hF) (by rw [sizeLine_eq]; omega), ?_⟩
  have hp1f : p1 ≠ fp := fun z => by rw [z, hF] at hp1; cases hp1
  have hp1c : p1 ≠ cp := fun z => by rw [z, hC] at hp1; cases hp1
  have tx1 : Tx H1 (upd H1 fp (.dK (putK kF (Sum.inr x) (.ref p1)))) := Tx.dK (s1 _ _ hF)
  have k1 : Kp [fp] H (upd H1 fp (.dK (putK kF (Sum.inr x) (.ref p1)))) := (Kp.same s1).trans ⟨fun c o hc e => by rw [upd_ne (fun z => hc (List.mem_singleton.mpr z))]; exact e, tx1⟩
  have hne1 : ∀ {b o}, H b = some o → b ≠ fp → upd H1 fp (.dK (putK kF (Sum.inr x) (.ref p1))) b = some o := fun e n => k1.ne e fun z => n (List.mem_singleton.mp z)
  have hlpf : lp ≠ fp := fun z => by rw [z, hF] at hlp; cases hlp
  have nd1 : NoD H (upd H1 fp (.dK (putK kF (Sum.inr x) (.ref p1)))) := fun b o e n => hne1 e fun z => by
    rw [z, hF] at e
    exact n _ (Option.some.inj e).symm
  have hxs1 := pairs_nd nd1 hxs
  have hC1 := hne1 hC (Ne.symm hne)
  have hlp1 := hne1 hlp hlpf
  have h11 := hne1 h1 (Ne.symm hfa)
  have tF : upd H1 fp (.dK (putK kF (Sum.inr x) (.ref p1))) fp = some (.dK (putK kF (Sum.inr x) (.ref p1))) := upd_same
  have hp11 : upd H1 fp (.dK (putK kF (Sum.inr x) (.ref p1))) p1 = some (.lst x1) := by rw [upd_ne hp1f]; exact h1p
  have t11 : TdAll (upd H1 fp (.dK (putK kF (Sum.inr x) (.ref p1)))) x1 (trs (ps.map frT)) := by
    have := t1.tx tx1
    unfold trs
    rw [List.map_map]
    exact this
  generalize upd H1 fp (.dK (putK kF (Sum.inr x) (.ref p1))) = H2 at *
  refine st_dputF (ef_lcA (K := K) (H := H2) (i := 3) (p := lp) (xs := xs) (σ := [some (.ref a), some (.str x), some (.ref lp), none]) (tl := tVar 2) (te := tCall (SpT K f_cost_of) [] E0 (tCons (tVar 3) tNil)) Ag.pair (fun p => .int (costT p : Nat)) ps (ev_ref rfl) (SqL.of hlp1) hxs1 (by omega) (fun x => rfl) (fun y z H' hy s hz => ev_call (F := f_cost_of) ⟨y, (hok y hy).1, (hok y hy).2, rfl, rfl⟩ (ea_cons (ev_var (σ := [some (.ref a), some (.str x), some (.ref lp), some z]) (i := 3) rfl hz) ea_nil))) fun p2 x2 H3 hp2 s3 h3p t3 => ?_
  have hp2H : H p2 = none := by
    cases e : H p2 with
    | none => rfl
    | some o =>
      by_cases z : p2 = fp
      · rw [z, tF] at hp2; cases hp2
      · have := hne1 e z
        rw [hp2] at this
        cases this
  have hp2c : p2 ≠ cp := fun z => by rw [z, hC1] at hp2; cases hp2
  refine ⟨_, rfl, a, _, dx, fs, _, rfl, s3 _ _ h11, T.cls_Book, T.no_Book_costs, hc, _, rfl, cp, _, rfl, DPut.k (k := Sum.inr x) (s3 _ _ hC1) (by rw [sizeLine_eq]; omega), ?_⟩
  have tx3 : Tx H3 (upd H3 cp (.dK (putK kC (Sum.inr x) (.ref p2)))) := Tx.dK (s3 _ _ hC1)
  refine k p1 p2 x1 x2 _ hp1 hp2H ?_ ?_ upd_same ?_ ?_ ?_ ?_
  · refine ((k1.mono fun x hx => ?_).trans (Kp.same s3)).trans ⟨fun c o hc e => by rw [upd_ne (fun z => hc (List.mem_cons_of_mem _ (List.mem_singleton.mpr z)))]; exact e, tx3⟩
    rw [List.mem_singleton.mp hx]
    exact List.mem_cons_self
  · rw [upd_ne hne]; exact s3 _ _ tF
  · rw [upd_ne hp1c]; exact s3 _ _ hp11
  · exact (t11.sm s3).tx tx3
  · rw [upd_ne hp2c]; exact h3p
  · exact t3.tx tx3
end
end My

/-! W22: the book is made, walked. -/
namespace My
open PySem PySem.Spec PyProof.Rows L2
def tableT (tape : List TR) (N : Nat) : Tr := wlT (Tr.foldT ((List.range N).map fun q => wlT (seatT tape N q)))
def seatsT (tape : List TR) (N : Nat) : List Tr := (List.range N).map fun q => seatT tape N q
/-- the whole book -/
def BfAt (K : PySem.W.Frag) (tape : List TR) (N : Nat) (v : V) (H : Hp) : Prop := BkAt K tape N v H ∧ ∃ a dx fs sp xs tv, v = .ref a ∧ H a = some (.ins (He.ga K "Book") dx fs) ∧ fs.lookup ("seats" : Str) = some (.ref sp) ∧ H sp = some (.lst xs) ∧ TdAll H xs (trs (seatsT tape N)) ∧ fs.lookup ("table" : Str) = some tv ∧ Td H tv (tableT tape N).d
theorem BfAt.mono (K : PySem.W.Frag) (tape : List TR) (N : Nat) : Mono (BfAt K tape N) := fun v H H' s ⟨h, a, dx, fs, sp, xs, tv, e, h1, h2, h3, h4, h5, h6⟩ => ⟨BkAt.mono K tape N v H H' s h, a, dx, fs, sp, xs, tv, e, s _ _ h1, h2, s _ _ h3, h4.sm s, h5, h6.sm s⟩
def Ag.bf (K : PySem.W.Frag) (tape : List TR) (N : Nat) : Ag := .o (BfAt K tape N) (BfAt.mono K tape N)
theorem akey_inj {q q' : Nat} {c c' : Lt} (h : akey q c = akey q' c') : q = q' ∧ c = c' := by
  unfold akey at h
  injection h with h1 h
  injection h with h2 _
  have e1 : q = q' := Int.ofNat.inj (Sum.inl.inj h1)
  have e2 := sw_inj (Sum.inr.inj h2)
  exact ⟨e1, by injection e2⟩
theorem actT_app (tp : List TR) (t : TR) (q : Nat) (c : Lt) : actT (tp ++ [t]) q c = if t.s = q ∧ t.c = c then some (t.w, t.r, t.g) else actT tp q c := by
  unfold actT
  rw [List.reverse_append, List.reverse_singleton, List.singleton_append, List.find?_cons]
  by_cases h : t.s = q ∧ t.c = c
  · rw [decide_eq_true h, if_pos h]
    rfl
  · rw [decide_eq_false h, if_neg h]
theorem ActAt.put {tp : List TR} {kvs : List (List Key × V)} {H : Hp} (h : ActAt tp kvs H) (t : TR) {v : V} (hv : Td H v (actD (t.w, t.r, t.g))) : ActAt (tp ++ [t]) (putK kvs (akey t.s t.c) v) H := fun q c => by
  rw [actT_app, valV_put]
  by_cases e : t.s = q ∧ t.c = c
  · obtain ⟨e1, e2⟩ := e
    subst e1 e2
    rw [if_pos ⟨rfl, rfl⟩, if_pos rfl]
    exact ⟨v, rfl, hv⟩
  · rw [if_neg e, if_neg fun z => e (by obtain ⟨z1, z2⟩ := akey_inj z; exact ⟨z1.symm, z2.symm⟩)]
    exact h q c
theorem ActAt.nil {H : Hp} : ActAt [] [] H := fun q c => rfl
section
variable {P : Program} {w : World} {K : PySem.W.Frag} {mg : Str → Option Value} {base : Heap}
/-- self.f = {} -/
theorem q_fldT {σ : L2.St} {H : Hp} {D : Ends} {u : TS} {i : Nat} {a C dx : Addr} {fs : List (Str × V)} {f : Str} (hi : σ[i]? = some (some (.ref a))) (ha : H a = some (.ins C dx fs)) (c : Cls K C) (n : NoAttr K C f) (hl : fs.length < 1000)
    (k : ∀ p H', H p = none → Kp [a] H H' → H' a = some (.ins C dx (putF f (.ref p) fs)) → H' p = some (.dT []) → u D σ H') : tSeq (sFld K (tVar i) tDNewT f) u D σ H := fun p hp => by
  have hpa : a ≠ p := fun z => by rw [z, hp] at ha; cases ha
  have ha1 : upd H p (.dT []) a = some (.ins C dx fs) := by rw [upd_ne hpa]; exact ha
  refine ⟨_, hi, a, C, dx, fs, rfl, ha1, c, n, hl, ?_⟩
  exact k p _ hp ((Kp.same (Same.new hp)).trans (Mut.ins ha1).kp) upd_same (by rw [upd_ne (Ne.symm hpa)]; exact upd_same)
theorem q_fldK {σ : L2.St} {H : Hp} {D : Ends} {u : TS} {i : Nat} {a C dx : Addr} {fs : List (Str × V)} {f : Str} (hi : σ[i]? = some (some (.ref a))) (ha : H a = some (.ins C dx fs)) (c : Cls K C) (n : NoAttr K C f) (hl : fs.length < 1000)
    (k : ∀ p H', H p = none → Kp [a] H H' → H' a = some (.ins C dx (putF f (.ref p) fs)) → H' p = some (.dK []) → u D σ H') : tSeq (sFld K (tVar i) tDNewK f) u D σ H := fun p hp => by
  have hpa : a ≠ p := fun z => by rw [z, hp] at ha; cases ha
  have ha1 : upd H p (.dK []) a = some (.ins C dx fs) := by rw [upd_ne hpa]; exact ha
  refine ⟨_, hi, a, C, dx, fs, rfl, ha1, c, n, hl, ?_⟩
  exact k p _ hp ((Kp.same (Same.new hp)).trans (Mut.ins ha1).kp) upd_same (by rw [upd_ne (Ne.symm hpa)]; exact upd_same)
theorem q_fldL {σ : L2.St} {H : Hp} {D : Ends} {u : TS} {te : TE} {ds : List PyData} {i : Nat} {a C dx : Addr} {fs : List (Str × V)} {f : Str} (he : Ef te σ H ds) (hi : σ[i]? = some (some (.ref a))) (ha : H a = some (.ins C dx fs)) (c : Cls K C) (n : NoAttr K C f) (hl : fs.length < 1000)
    (k : ∀ p xs H', H p = none → Kp [a] H H' → H' a = some (.ins C dx (putF f (.ref p) fs)) → H' p = some (.lst xs) → TdAll H' xs ds → u D σ H') : tSeq (sFld K (tVar i) te f) u D σ H :=
  st_fldF (K := K) (D := { D with nx := u D }) he (ev_ref hi) ha c n hl fun p xs H1 hp hpa s1 h1 t1 => by
    have ha1 := s1 _ _ ha
    exact k p xs _ hp ((Kp.same s1).trans (Mut.ins ha1).kp) upd_same (by rw [upd_ne hpa]; exact h1) (t1.tx (Tx.ins ha1))
theorem q_fldD {σ : L2.St} {H : Hp} {D : Ends} {u : TS} {te : TE} {d : PyData} {i : Nat} {a C dx : Addr} {fs : List (Str × V)} {f : Str} (he : Ev K te σ H (.t d)) (hi : σ[i]? = some (some (.ref a))) (ha : H a = some (.ins C dx fs)) (c : Cls K C) (n : NoAttr K C f) (hl : fs.length < 1000)
    (k : ∀ v H', Kp [a] H H' → H' a = some (.ins C dx (putF f v fs)) → Td H' v d → u D σ H') : tSeq (sFld K (tVar i) te f) u D σ H :=
  st_fld (K := K) (D := { D with nx := u D }) he (ev_ref hi) ha c n hl fun v H1 s1 h1 => by
    have ha1 := s1 _ _ ha
    exact k v _ ((Kp.same s1).trans (Mut.ins ha1).kp) upd_same (Td.tx (Tx.ins ha1) h1)
/-- self.frame(word, [..]) -/
theorem q_frame {σ : L2.St} {H : Hp} {D : Ends} {u : TS} {ta : TA} {x : Str} {i : Nat} {a dx fp cp : Addr} {fs : List (Str × V)} {kF kC : List (Key × V)} {ps : List (List Nm × Tr)} (hi : σ[i]? = some (some (.ref a))) (h1 : H a = some (.ins (He.ga K "Book") dx fs)) (hm : fs.lookup ("frame" : Str) = none)
    (hf : fs.lookup ("frames" : Str) = some (.ref fp)) (hc : fs.lookup ("costs" : Str) = some (.ref cp)) (hF : H fp = some (.dK kF)) (hC : H cp = some (.dK kC)) (hne : fp ≠ cp) (hl1 : kF.length ≤ 1000) (hl2 : kC.length ≤ 1000) (ha : Ea K ta σ H (ps.map Ag.pair)) (hpl : ps.length ≤ 1000) (hok : ∀ p ∈ ps, Tr.okD 64 p.1 p.2 = true ∧ p.1.length ≤ 1000)
    (k : ∀ p1 p2 x1 x2 H', H p1 = none → H p2 = none → Kp [fp, cp] H H' → H' fp = some (.dK (putK kF (Sum.inr x) (.ref p1))) → H' cp = some (.dK (putK kC (Sum.inr x) (.ref p2))) → H' p1 = some (.lst x1) → TdAll H' x1 (trs (ps.map frT)) → H' p2 = some (.lst x2) → TdAll H' x2 (coD ps) → u D σ H') :
    tSeq (tDrop (tMeth (He.ga K "Book") "frame" (SpFr K) [] E0 (tVar i) (tCons (tC (.str x)) (tCons (tLst ta) tNil)))) u D σ H := by
  refine ⟨_, hi, a, dx, fs, rfl, h1, hm, ha H (Same.refl _) _ fun vs H1 s1 hvs => ⟨by rw [hvs.length, List.length_map, sizeLine_eq]; omega, fun lp hlp => ?_⟩⟩
  have s2 : Same H (upd H1 lp (.lst vs)) := s1.trans (Same.new hlp)
  refine ⟨a, dx, fs, fp, cp, lp, kF, kC, x, vs, ps, rfl, s2 _ _ h1, hf, hc, s2 _ _ hF, s2 _ _ hC, hne, hl1, hl2, upd_same, ?_, hpl, hok, ?_⟩
  · have : ∀ {as : List Ag} {vs : List V}, AtAll K H1 vs as → AtAll K (upd H1 lp (.lst vs)) vs as := fun h => h.sm (Same.new hlp)
    exact hvs.sm (Same.new hlp)
  · intro p1 p2 x1 x2 H' n1 n2 kp e1 e2 e3 e4 e5 e6
    exact k p1 p2 x1 x2 H' (s2.free n1) (s2.free n2) ((Kp.same s2).trans kp) e1 e2 e3 e4 e5 e6
theorem kp_seq {ps : List Addr} {H H' : Hp} {p : Addr} {xs : List V} (h : SqL K H p xs) (s : Kp ps H H') (hx : ∀ x ∈ ps, (∀ ys, H x ≠ some (.lst ys)) ∧ ∀ o u, H x ≠ some (.frz o u)) : SqL K H' p xs := by
  rcases h with (h | ⟨o, h⟩) | h
  · exact .inl (.inl (s.ne h fun z => (hx p z).1 _ h))
  · exact .inl (.inr ⟨o, s.ne h fun z => (hx p z).2 _ _ h⟩)
  · exact .inr h
theorem words_kp {fp cp p : Addr} {H H' : Hp} {kvs kF kC : List (Key × V)} {l : List (Str × List PyData)} {x : Str} {ds : List PyData} {xs : List V} (h : WordsAt kvs H l) (s : Kp [fp, cp] H H') (hF : H fp = some (.dK kF)) (hC : H cp = some (.dK kC)) (hp : H' p = some (.lst xs)) (ht : TdAll H' xs ds) (hx : ∀ y ∈ l, y.1 ≠ x) :
    WordsAt (putK kvs (Sum.inr x) (.ref p)) H' (l ++ [(x, ds)]) := fun y hy => by
  rcases List.mem_append.mp hy with hy | hy
  · obtain ⟨p2, xs2, e1, e2, e3⟩ := h y hy
    refine ⟨p2, xs2, ?_, s.ne e2 fun z => ?_, e3.tx s.tx⟩
    · rw [valV_put, if_neg fun z => hx y hy (Sum.inr.inj z)]
      exact e1
    · rcases List.mem_cons.mp z with z | z
      · rw [z, hF] at e2; cases e2
      · rw [List.mem_singleton.mp z, hC] at e2; cases e2
  · rw [List.mem_singleton.mp hy]
    exact ⟨p, xs, by rw [valV_put, if_pos rfl], hp, ht⟩
theorem WordsAt.nd {kvs : List (Key × V)} {H H' : Hp} {l : List (Str × List PyData)} {a : Addr} (h : WordsAt kvs H l) (s : Kp [a] H H') {C dx : Addr} {fs : List (Str × V)} (ha : H a = some (.ins C dx fs)) : WordsAt kvs H' l := fun y hy => by
  obtain ⟨p2, xs2, e1, e2, e3⟩ := h y hy
  exact ⟨p2, xs2, e1, s.ne e2 fun z => (by rw [List.mem_singleton.mp z, ha] at e2; cases e2), e3.tx s.tx⟩
theorem ne1 {H : Hp} {b p : Addr} {o : HO} (h : H b = some o) (h' : H p = none) : b ∉ [p] := fun z => by rw [List.mem_singleton.mp z, h'] at h; cases h
theorem ne2 {b p q : Addr} (h : b ≠ p) (h' : b ≠ q) : b ∉ [p, q] := fun z => (List.mem_cons.mp z).elim h fun z => h' (List.mem_singleton.mp z)
theorem nea {b a : Addr} (h : b ≠ a) : b ∉ [a] := fun z => h (List.mem_singleton.mp z)
theorem nk {H : Hp} {b a : Addr} {o o' : HO} (h : H b = some o) (h' : H a = some o') (hn : o ≠ o') : b ≠ a := fun z => by rw [z, h'] at h; exact hn (Option.some.inj h).symm
/-- self.f[q, c] = value -/
theorem st_dputT {σ : L2.St} {H : Hp} {D : Ends} {tk tv : TE} {dv : PyData} {i q : Nat} {c : Lt} {a C dx ap : Addr} {fs : List (Str × V)} {f : Str} {kvs : List (List Key × V)} (hv : Ev K tv σ H (.t dv)) (hk : Ev K tk σ H (.t (.tuple [.int q, .str (sw [c])]))) (hi : σ[i]? = some (some (.ref a))) (ha : H a = some (.ins C dx fs)) (cl : Cls K C) (n : NoAttr K C f)
    (lk : fs.lookup f = some (.ref ap)) (hp : H ap = some (.dT kvs)) (hl : kvs.length ≤ 100000) (k : ∀ v H', Kp [ap] H H' → H' ap = some (.dT (putK kvs (akey q c) v)) → Td H' v dv → D.nx σ H') : sDPut (tFld K (tVar i) f) tk tv D σ H := by
  refine hv H (Same.refl _) _ fun v H1 s1 h1 => ⟨_, hi, a, C, dx, fs, _, rfl, s1 _ _ ha, cl, n, lk, hk H1 s1 _ fun y H2 s2 h2 => ?_⟩
  obtain ⟨b, y1, y2, rfl, hb, e5, e6⟩ := Td.t2 h2
  obtain rfl := Td.int_of e5
  obtain rfl := Td.str_of e6
  have hb : H2 b = some (.tup ((akey q c).map kV)) := hb
  have hp2 := (s1.trans s2) _ _ hp
  have tx : Tx H2 (upd H2 ap (.dT (putK kvs (akey q c) v))) := Tx.dT hp2
  exact ⟨ap, _, rfl, DPut.t hp2 hb (by rw [sizeLine_eq]; omega), k v _ ((Kp.same (s1.trans s2)).trans ⟨fun c o hc e => by rw [upd_ne (fun z => hc (List.mem_singleton.mpr z))]; exact e, tx⟩) upd_same ((Td.sm s2 h1).tx tx)⟩
theorem kp_add {a b : Addr} {H H1 H2 : Hp} (h : Kp [a] H H1) (s : Kp [b] H1 H2) (n : H b = none) : Kp [a] H H2 := ((h.mono (qs := [a, b]) fun x hx => by rw [List.mem_singleton.mp hx]; exact List.mem_cons_self).trans (s.mono (qs := [a, b]) fun x hx => by rw [List.mem_singleton.mp hx]; exact List.mem_cons_of_mem _ List.mem_cons_self)).drop fun x hx => by
  rcases List.mem_cons.mp hx with z | z
  · exact .inl (List.mem_singleton.mpr z)
  · exact .inr (by rw [List.mem_singleton.mp z]; exact n)
theorem kp_add2 {a b c : Addr} {H H1 H2 : Hp} (h : Kp [a] H H1) (s : Kp [b, c] H1 H2) (n : H b = none) (n2 : H c = none) : Kp [a] H H2 := ((h.mono (qs := [a, b, c]) fun x hx => by rw [List.mem_singleton.mp hx]; exact List.mem_cons_self).trans (s.mono (qs := [a, b, c]) fun x hx => List.mem_cons_of_mem _ hx)).drop fun x hx => by
  rcases List.mem_cons.mp hx with z | z
  · exact .inl (List.mem_singleton.mpr z)
  · rcases List.mem_cons.mp z with z | z
    · exact .inr (by rw [z]; exact n)
    · exact .inr (by rw [List.mem_singleton.mp z]; exact n2)
/-- what was not there is new -/
theorem kp_new {a p : Addr} {H H' : Hp} {C dx : Addr} {fs : List (Str × V)} (s : Kp [a] H H') (h : H' p = none) (ha : H' a = some (.ins C dx fs)) : H p = none := by
  cases e : H p with
  | none => rfl
  | some o =>
    have hne : p ≠ a := fun z => by rw [z, ha] at h; cases h
    have := s.ne e (nea hne)
    rw [h] at this
    cases this
theorem BkAt.fld {tape : List TR} {N : Nat} {H H' : Hp} {a dx : Addr} {fs : List (Str × V)} {f : Str} {v : V} (h : BkAt K tape N (.ref a) H) (s : Kp [a] H H') (ha : H a = some (.ins (He.ga K "Book") dx fs)) (ha' : H' a = some (.ins (He.ga K "Book") dx (putF f v fs)))
    (hf : ∀ m ∈ bkM ++ (["rules", "signs", "states", "acts", "frames", "costs"] : List Str), ¬ m = f) : BkAt K tape N (.ref a) H' := by
  obtain ⟨a', dx', fs', rp, sp, ap, fp, cp, xr, xs, kA, kF, kC, e, h1, h2, h3, h4, h5, h6, h7, h8⟩ := h
  cases e
  rw [ha] at h1
  cases h1
  have hf2 : ∀ m ∈ (["rules", "signs", "states", "acts", "frames", "costs"] : List Str), ¬ m = f := fun m hm => hf m (List.mem_append_right _ hm)
  have L : ∀ m ∈ (["rules", "signs", "states", "acts", "frames", "costs"] : List Str), ∀ o, fs.lookup m = o → (putF f v fs).lookup m = o := fun m hm o e => lkN _ (hf2 m hm) e
  exact ⟨a, dx, _, rp, sp, ap, fp, cp, xr, xs, kA, kF, kC, rfl, ha', fun m hm => lkN _ (hf m (List.mem_append_left _ hm)) (h2 m hm),
    ⟨L _ (by decide +kernel) _ h3.1, s.ne h3.2.1 (nea (nk h3.2.1 ha (by simp))), h3.2.2.tx s.tx⟩, L _ (by decide +kernel) _ h4, ⟨L _ (by decide +kernel) _ h5.1, s.ne h5.2.1 (nea (nk h5.2.1 ha (by simp))), h5.2.2.tx s.tx⟩,
    ⟨L _ (by decide +kernel) _ h6.1, s.ne h6.2.1 (nea (nk h6.2.1 ha (by simp))), h6.2.2.tx s.tx⟩, ⟨L _ (by decide +kernel) _ h7.1, s.ne h7.2.1 (nea (nk h7.2.1 ha (by simp))), h7.2.2.nd s ha⟩, ⟨L _ (by decide +kernel) _ h8.1, s.ne h8.2.1 (nea (nk h8.2.1 ha (by simp))), h8.2.2.nd s ha⟩⟩
def seatD (tape : List TR) (N : Nat) (d : PyData) : PyData := match d with
  | .int n => (seatT tape N n.toNat).d
  | d => d
theorem seatD_eq (tape : List TR) (N : Nat) : (upto N).map (seatD tape N) = trs (seatsT tape N) := by
  unfold upto trs seatsT
  rw [List.map_map, List.map_map]
  exact List.map_congr_left fun q _ => rfl
/-- what is left of a heap when what was there before is let go, but for one object and the tuples -/
def rs (H : Hp) (a : Addr) (H' : Hp) : Hp := fun b => match H b with
  | none => H' b
  | some _ => if b = a then H' b else match H' b with
    | some (.tup xs) => some (.tup xs)
    | _ => none
theorem rs_a {H H' : Hp} {a : Addr} {o : HO} (h : H' a = some o) : rs H a H' a = some o := by
  unfold rs
  split
  · exact h
  · rw [if_pos rfl]; exact h
theorem rsn {H H' : Hp} {a b : Addr} {o : HO} (h : H b = none) (h' : H' b = some o) : rs H a H' b = some o := by
  unfold rs
  rw [h]
  exact h'
theorem rs_cases {H H' : Hp} {a b : Addr} {o : HO} (h : rs H a H' b = some o) : H' b = some o ∧ (H b = none ∨ b = a ∨ ∃ xs, o = .tup xs) := by
  unfold rs at h
  cases e : H b with
  | none =>
    rw [e] at h
    exact ⟨h, .inl rfl⟩
  | some o2 =>
    rw [e] at h
    dsimp only at h
    by_cases z : b = a
    · rw [if_pos z] at h
      exact ⟨h, .inr (.inl z)⟩
    · rw [if_neg z] at h
      split at h
      · rename_i xs e2
        cases h
        exact ⟨e2, .inr (.inr ⟨xs, rfl⟩)⟩
      · cases h
theorem rs_le {H H' : Hp} {a : Addr} : Same (rs H a H') H' := fun b o h => (rs_cases h).1
theorem rs_tx {H H' : Hp} {a : Addr} : Tx H' (rs H a H') := fun b xs h => by
  unfold rs
  cases e : H b with
  | none => exact h
  | some o2 =>
    dsimp only
    by_cases z : b = a
    · rw [if_pos z]; exact h
    · rw [if_neg z, h]
theorem rs_tup {H H' : Hp} {a b : Addr} {xs : List V} (h : H' b = some (.tup xs)) : rs H a H' b = some (.tup xs) := rs_tx b xs h
theorem rs_kp {H H1 H2 : Hp} {a : Addr} {ps : List Addr} (s : Kp ps H1 H2) : Kp ps (rs H a H1) (rs H a H2) := by
  refine ⟨fun b o hb h => ?_, fun b xs h => rs_tup (s.tx b xs (rs_le b _ h))⟩
  obtain ⟨h1, h2⟩ := rs_cases h
  have h3 := s.but b o hb h1
  rcases h2 with h2 | h2 | ⟨xs, h2⟩
  · exact rsn h2 h3
  · rw [h2]; rw [h2] at h3; exact rs_a h3
  · rw [h2]; rw [h2] at h3; exact rs_tup h3
theorem trs_at {H : Hp} : ∀ {ts : List Tr} {xs : List V}, TdAll H xs (trs ts) → AtAll K H xs (ts.map fun t => .t t.d)
  | [], _, h => by cases h; exact .nil
  | t :: ts, _, h => by
    cases h with
    | cons h1 h2 => exact .cons h1 (trs_at h2)

def SpBkInit (K : PySem.W.Frag) : Sp := fun vs H Q _ => ∃ (a dx : Addr) (r s : V) (tape : List TR) (N : Nat), vs = [.ref a, r, .str (sw sgn), s] ∧ H a = some (.ins (He.ga K "Book") dx []) ∧ At K H r (.l (tape.map TR.d)) ∧ At K H s (.l (upto N)) ∧ N ≤ 1000 ∧ tape.length ≤ 10000 ∧ (∀ t ∈ tape, t.g < N) ∧
  (∀ H', Kp [a] H H' → BfAt K tape N (.ref a) (rs H a H') → Q .non H')
theorem len_Book_init {vs : List V} {H : Hp} {Q : VK} {E : XK} (h : SpBkInit K vs H Q E) : vs.length = 4 := by obtain ⟨_, _, _, _, _, _, rfl, _⟩ := h; rfl
theorem sc_Book_init : FnScope ["self", "rules", "signs", "states", "rule", "state", "seat"] ["self", "rules", "signs", "states"] (defScope st_Book_init) := ⟨rfl, rfl, rfl, by decide +kernel, rfl, by decide +kernel, by decide +kernel⟩
theorem ok_Book_init (T : Txt P w K mg base) : HasM P w K mg base (He.ma K (He.ga K "Book") "__init__") ["self", "rules", "signs", "states"] 73 (SpBkInit K) := by
  refine hasM_mk (T.c.def_ 77 (d := d_Book_init) rfl) sc_Book_init (fun vs H Q E h => by exact len_Book_init h) (fun _ _ _ _ _ _ us hl => match us, hl with | [_, _, _, _], _ => rfl) (fun cdv A outer s H vs Q E hr h => ?_)
  refine ⟨_, (pss_cons (ps_fld (pv 0) (pe_callTy call_list_of (by rfl) T.free_list (by decide +kernel) (pa_cons (pv 1) pa_nil)) rfl)
    (pss_cons (ps_fld (pv 0) (pv 2) rfl)
    (pss_cons (ps_fld (pv 0) (pe_callTy call_list_of (by rfl) T.free_list (by decide +kernel) (pa_cons (pv 3) pa_nil)) rfl)
    (pss_cons (ps_fld (pv 0) pe_dnewT rfl)
    (pss_cons (ps_for PassesOwn.never rfl (pi_list (pv 1)) (pg_name (i := 4) sc_Book_init.nd rfl (by first | exact Or.inl rfl | exact Or.inr rfl))
    (pss_one (ps_dput (hu_of hr) (pe_fldK (K := K) (pv 0) rfl) (pe_tup (pa_cons (pe_ixK (K := K) (pv 4) pe_int (fun _ _ => rfl)) (pa_cons (pe_ixK (K := K) (pv 4) pe_int (fun _ _ => rfl)) pa_nil))) (pe_tup (pa_cons (pe_ixK (K := K) (pv 4) pe_int (fun _ _ => rfl)) (pa_cons (pe_ixK (K := K) (pv 4) pe_int (fun _ _ => rfl)) (pa_cons (pe_ixK (K := K) (pv 4) pe_int (fun _ _ => rfl)) pa_nil)))) rfl)))
    (pss_cons (ps_fld (pv 0) pe_dnewK rfl)
    (pss_cons (ps_fld (pv 0) pe_dnewK rfl)
    (pss_cons (ps_expr (pm (ok_Book_frame T) T.cls_Book T.meth_Book_frame (hr.mono (by decide)) (pv 0) (pa_cons pe_str (pa_cons (pe_lst (pa_cons (pc (has_side_names T) (hr.mono (by decide)) (pa_cons pe_str pa_nil)) (pa_cons (pc (has_bare_names T) (hr.mono (by decide)) (pa_cons pe_str pa_nil)) (pa_cons (pc (has_cell_names T) (hr.mono (by decide)) (pa_cons pe_str pa_nil)) pa_nil)))) pa_nil))))
    (pss_cons (ps_expr (pm (ok_Book_frame T) T.cls_Book T.meth_Book_frame (hr.mono (by decide)) (pv 0) (pa_cons pe_str (pa_cons (pe_lst (pa_cons (pc (has_side_names T) (hr.mono (by decide)) (pa_cons pe_str pa_nil)) (pa_cons (pc (has_bare_names T) (hr.mono (by decide)) (pa_cons pe_str pa_nil)) (pa_cons (pc (has_cell_names T) (hr.mono (by decide)) (pa_cons pe_str pa_nil)) pa_nil)))) pa_nil))))
    (pss_cons (ps_expr (pm (ok_Book_frame T) T.cls_Book T.meth_Book_frame (hr.mono (by decide)) (pv 0) (pa_cons pe_str (pa_cons (pe_lst (pa_cons (pc0 (has_end_names T) (hr.mono (by decide))) pa_nil)) pa_nil))))
    (pss_cons (ps_expr (pm (ok_Book_frame T) T.cls_Book T.meth_Book_frame (hr.mono (by decide)) (pv 0) (pa_cons pe_str (pa_cons (pe_lst (pa_cons (pc (has_chooser_names T) (hr.mono (by decide)) (pa_cons (pe_op op_addG (pe_callB (call_lenK (K := K)) (by rfl) T.free_len PySem.boot_len (pa_cons (pv 2) pa_nil)) pe_int) pa_nil)) pa_nil)) pa_nil))))
    (pss_cons (ps_fld (pv 0) (pe_lc (own := [("state", 5)]) (tt := tYes) rfl sc_Book_init.nd (pi_list (pv 3)) (blkOk_by (own := [("state", 5)]) (N := ["self", "rules", "signs", "states", "rule", "state", "seat"]) (sc := defScope st_Book_init) (by decide +kernel)) (fun _ _ _ _ _ => (pg_name (i := 5) sc_Book_init.nd rfl (by first | exact Or.inl rfl | exact Or.inr rfl))) (fun _ _ _ _ _ => pts_nil) (fun _ _ _ _ _ => (pm (ok_Book_seat T) T.cls_Book T.meth_Book_seat (hr.mono (by decide)) (pv 0) (pa_cons (pv 5) pa_nil)))) rfl)
    (pss_one (ps_fld (pv 0) (pc (has_with_last T) (hr.mono (by decide)) (pa_cons (pc (has_folded T) (hr.mono (by decide)) (pa_cons (pe_lc (own := [("seat", 6)]) (tt := tYes) rfl sc_Book_init.nd (pi_list (pe_fldK (K := K) (pv 0) rfl)) (blkOk_by (own := [("seat", 6)]) (N := ["self", "rules", "signs", "states", "rule", "state", "seat"]) (sc := defScope st_Book_init) (by decide +kernel)) (fun _ _ _ _ _ => (pg_name (i := 6) sc_Book_init.nd rfl (by first | exact Or.inl rfl | exact Or.inr rfl))) (fun _ _ _ _ _ => pts_nil) (fun _ _ _ _ _ => (pc (has_with_last T) (hr.mono (by decide)) (pa_cons (pv 6) pa_nil)))) pa_nil)) pa_nil)) rfl)))))))))))))), ?_⟩
  obtain ⟨a, dx, r, s0, tape, N, rfl, ha, hr0, hs0, hN, htl, ht, k⟩ := h
  obtain ⟨ra, xr, rfl, hra, tra⟩ := hr0
  obtain ⟨sa, xs, rfl, hsa, tsa⟩ := hs0
  have hxa : ∀ x ∈ [a], (∀ ys, H x ≠ some (.lst ys)) ∧ ∀ o u, H x ≠ some (.frz o u) := fun x hx => by
    rw [List.mem_singleton.mp hx, ha]
    exact ⟨fun ys z => (by cases z), fun o u z => (by cases z)⟩
  have vR : ∀ {H' o4 o5 o6}, Kp [a] H H' → Ev K (tVar 1) [some (.ref a), some (.ref ra), some (.str (sw sgn)), some (.ref sa), o4, o5, o6] H' (.l (tape.map TR.d)) := fun s => ev_var rfl (show At K _ (.ref ra) (.l _) from ⟨ra, xr, rfl, kp_seq hra s hxa, tra.tx s.tx⟩)
  have vSt : ∀ {H' o4 o5 o6}, Kp [a] H H' → Ev K (tVar 3) [some (.ref a), some (.ref ra), some (.str (sw sgn)), some (.ref sa), o4, o5, o6] H' (.l (upto N)) := fun s => ev_var rfl (show At K _ (.ref sa) (.l _) from ⟨sa, xs, rfl, kp_seq hsa s hxa, tsa.tx s.tx⟩)
  have fl0 : ([] : List (Str × V)).length < 1000 := by decide
  have fl : ∀ {f v} {fs : List (Str × V)} {n}, fs.length ≤ n → n + 1 < 1000 → (putF f v fs).length ≤ n + 1 := fun h _ => Nat.le_trans (putF_len _ _ _) (Nat.succ_le_succ h)
  refine q_fldL (K := K) (f := "rules") (ef_list (vR Kp.refl)) rfl ha T.cls_Book T.no_Book_rules fl0 fun rp x1 H1 n1 s1 a1 h1 t1 => ?_
  have k1 : Kp [a] H H1 := s1
  refine q_fldD (K := K) (f := "signs") (vS rfl) rfl a1 T.cls_Book T.no_Book_signs (Nat.lt_of_le_of_lt (fl (Nat.le_refl 0) (by decide)) (by decide)) fun v2 H2 s2 a2 h2 => ?_
  obtain rfl := Td.str_of h2
  have k2 : Kp [a] H H2 := k1.trans s2
  refine q_fldL (K := K) (f := "states") (ef_list (vSt k2)) rfl a2 T.cls_Book T.no_Book_states (Nat.lt_of_le_of_lt (fl (fl (Nat.le_refl 0) (by decide)) (by decide)) (by decide)) fun sp x3 H3 n3 s3 a3 h3 t3 => ?_
  have k3 : Kp [a] H H3 := k2.trans s3
  refine q_fldT (K := K) (f := "acts") rfl a3 T.cls_Book T.no_Book_acts (Nat.lt_of_le_of_lt (fl (fl (fl (Nat.le_refl 0) (by decide)) (by decide)) (by decide)) (by decide)) fun ap H4 n4 s4 a4 h4 => ?_
  have k4 : Kp [a] H H4 := k3.trans s4
  -- what stands at rp, sp
  have e1 : H4 rp = some (.lst x1) := s4.ne (s3.ne (s2.ne h1 (nea (nk h1 a1 (by simp)))) (nea (nk (s2.ne h1 (nea (nk h1 a1 (by simp)))) a2 (by simp)))) (nea (nk (s3.ne (s2.ne h1 (nea (nk h1 a1 (by simp)))) (nea (nk (s2.ne h1 (nea (nk h1 a1 (by simp)))) a2 (by simp)))) a3 (by simp)))
  have e3 : H4 sp = some (.lst x3) := s4.ne h3 (nea (nk h3 a3 (by simp)))
  have u1 : TdAll H4 x1 (tape.map TR.d) := t1.tx (s2.tx.trans (s3.tx.trans s4.tx))
  have u3 : TdAll H4 x3 (upto N) := t3.tx s4.tx
  have napH : H ap = none := by
    cases e : H ap with
    | none => rfl
    | some o =>
      have hne : ap ≠ a := fun z => by rw [z, a3] at n4; cases n4
      have := k3.ne e (nea hne)
      rw [n4] at this
      cases this
  -- the acts
  have kb : Kp [ap] H4 (fun b => if b = ap then none else H4 b) := ⟨fun c o hc e => by
      show (if c = ap then none else H4 c) = some o
      rw [if_neg (fun z => hc (List.mem_singleton.mpr z))]
      exact e, fun b ys e => by
      show (if b = ap then none else H4 b) = some _
      rw [if_neg (fun z => by rw [z, h4] at e; cases e)]
      exact e⟩
  have sb : ∀ {H'}, Kp [ap] H4 H' → Same (fun b => if b = ap then none else H4 b) H' := fun s b o e => by
    have e : (if b = ap then none else H4 b) = some o := e
    by_cases hb : b = ap
    · rw [if_pos hb] at e; cases e
    · rw [if_neg hb] at e
      exact s.ne e (nea hb)
  have hxp : ∀ x ∈ [ap], (∀ ys, H4 x ≠ some (.lst ys)) ∧ ∀ o u, H4 x ≠ some (.frz o u) := fun x hx => by
    rw [List.mem_singleton.mp hx, h4]
    exact ⟨fun ys z => (by cases z), fun o u z => (by cases z)⟩
  refine q_for (wk_list (K := K) (Hb := fun b => if b = ap then none else H4 b) (xs := xr) (ds := tape.map TR.d) (ev_ref rfl) (kp_seq (kp_seq hra k4 hxa) kb hxp) ((tra.tx k4.tx).tx kb.tx) (sb Kp.refl))
    (fun i σ' H' => ∃ o4 kvs, σ' = [some (.ref a), some (.ref ra), some (.str (sw sgn)), some (.ref sa), o4, none, none] ∧ Kp [ap] H4 H' ∧ H' ap = some (.dT kvs) ∧ kvs.length ≤ i ∧ ActAt (tape.take i) kvs H')
    (fun H5 s5 => ⟨none, [], rfl, Kp.same s5, s5 _ _ h4, Nat.le_refl _, ActAt.nil⟩) (fun i σ' H' ⟨_, _, _, s, _⟩ => sb s) ?_ ?_
  · rintro i d x σ' H5 H6 hd hx ⟨o4, kvs, rfl, s5, h5, hl, at5⟩ s6
    obtain ⟨t, ht1, rfl⟩ : ∃ t, tape[i]? = some t ∧ d = t.d := by
      rw [List.getElem?_map] at hd
      cases e : tape[i]? with
      | none => rw [e] at hd; cases hd
      | some r => rw [e] at hd; cases hd; exact ⟨r, rfl, rfl⟩
    have hil : i < tape.length := (List.getElem?_eq_some_iff.mp ht1).1
    have hx : Td H6 x (.tuple [.int (t.s : Nat), .str (sw [t.c]), .str (sw [t.w]), .str (mvD t.r), .int (t.g : Nat)]) := hx
    have eT : tape.take (i + 1) = tape.take i ++ [t] := by rw [List.take_add_one, ht1]; rfl
    have s46 : Kp [ap] H4 H6 := s5.trans (Kp.same s6)
    refine st_dputT (K := K) (q := t.s) (c := t.c) (dv := actD (t.w, t.r, t.g)) (ev_tup (K := K) (ds := [.str (sw [t.w]), .str (mvD t.r), .int (t.g : Nat)]) (ea_cons (ev_ixT (i := 2) (vD rfl hx) ev_int rfl) (ea_cons (ev_ixT (i := 3) (vD rfl hx) ev_int rfl) (ea_cons (ev_ixT (i := 4) (vD rfl hx) ev_int rfl) ea_nil))) (Nat.le_of_ble_eq_true rfl))
      (ev_tup (K := K) (ds := [.int (t.s : Nat), .str (sw [t.c])]) (ea_cons (ev_ixT (i := 0) (vD rfl hx) ev_int rfl) (ea_cons (ev_ixT (i := 1) (vD rfl hx) ev_int rfl) ea_nil)) (Nat.le_of_ble_eq_true rfl)) rfl (s46.ne a4 (nea (nk a4 h4 (by simp)))) T.cls_Book T.no_Book_acts (lkP _ _ _) (s6 _ _ h5) (by omega) fun v H7 s7 h7 hv7 => ?_
    refine ⟨_, _, rfl, s46.trans s7, h7, Nat.le_trans (length_putK _ _ _) (by omega), ?_⟩
    rw [eT]
    exact ((at5.tx s6.tx).tx s7.tx).put t hv7
  · rintro σ' H5 ⟨o4, kvs, rfl, s5, h5, hl, at5⟩
    rw [List.length_map, List.take_length] at at5
    have a5 := s5.ne a4 (nea (nk a4 h4 (by simp)))
    have f1 := s5.ne e1 (nea (nk e1 h4 (by simp)))
    have f3 := s5.ne e3 (nea (nk e3 h4 (by simp)))
    have k5 : Kp [a] H H5 := kp_add k4 s5 napH
    have l4 : (putF ("acts" : Str) (V.ref ap) (putF "states" (V.ref sp) (putF "signs" (V.str (sw sgn)) (putF "rules" (V.ref rp) [])))).length ≤ 4 := fl (fl (fl (fl (Nat.le_refl 0) (by decide)) (by decide)) (by decide)) (by decide)
    refine q_fldK (K := K) (f := "frames") rfl a5 T.cls_Book T.no_Book_frames (Nat.lt_of_le_of_lt l4 (by decide)) fun fp H6 n6 s6 a6 h6 => ?_
    have k6 : Kp [a] H H6 := k5.trans s6
    refine q_fldK (K := K) (f := "costs") rfl a6 T.cls_Book T.no_Book_costs (Nat.lt_of_le_of_lt (fl l4 (by decide)) (by decide)) fun cp H7 n7 s7 a7 h7 => ?_
    have k7 : Kp [a] H H7 := k6.trans s7
    have hF7 : H7 fp = some (.dK []) := s7.ne h6 (nea (nk h6 a6 (by simp)))
    have hfc : fp ≠ cp := fun z => by rw [z, n7] at h6; cases h6
    have g1 := s7.ne (s6.ne f1 (nea (nk f1 a5 (by simp)))) (nea (nk (s6.ne f1 (nea (nk f1 a5 (by simp)))) a6 (by simp)))
    have g3 := s7.ne (s6.ne f3 (nea (nk f3 a5 (by simp)))) (nea (nk (s6.ne f3 (nea (nk f3 a5 (by simp)))) a6 (by simp)))
    have g5 := s7.ne (s6.ne h5 (nea (nk h5 a5 (by simp)))) (nea (nk (s6.ne h5 (nea (nk h5 a5 (by simp)))) a6 (by simp)))
    have at7 := at5.tx (s6.tx.trans s7.tx)
    have w1 := (u1.tx s5.tx).tx (s6.tx.trans s7.tx)
    have w3 := (u3.tx s5.tx).tx (s6.tx.trans s7.tx)
    generalize hfs : putF ("costs" : Str) (V.ref cp) (putF "frames" (V.ref fp) (putF "acts" (V.ref ap) (putF "states" (V.ref sp) (putF "signs" (V.str (sw sgn)) (putF "rules" (V.ref rp) []))))) = fs at a7
    have J1 : fs.lookup ("rules" : Str) = some (.ref rp) := by rw [← hfs]; exact lkN _ (by decide +kernel) (lkN _ (by decide +kernel) (lkN _ (by decide +kernel) (lkN _ (by decide +kernel) (lkN _ (by decide +kernel) (lkP _ _ _)))))
    have J2 : fs.lookup ("signs" : Str) = some (.str (sw sgn)) := by rw [← hfs]; exact lkN _ (by decide +kernel) (lkN _ (by decide +kernel) (lkN _ (by decide +kernel) (lkN _ (by decide +kernel) (lkP _ _ _))))
    have J3 : fs.lookup ("states" : Str) = some (.ref sp) := by rw [← hfs]; exact lkN _ (by decide +kernel) (lkN _ (by decide +kernel) (lkN _ (by decide +kernel) (lkP _ _ _)))
    have J4 : fs.lookup ("acts" : Str) = some (.ref ap) := by rw [← hfs]; exact lkN _ (by decide +kernel) (lkN _ (by decide +kernel) (lkP _ _ _))
    have J5 : fs.lookup ("frames" : Str) = some (.ref fp) := by rw [← hfs]; exact lkN _ (by decide +kernel) (lkP _ _ _)
    have J6 : fs.lookup ("costs" : Str) = some (.ref cp) := by rw [← hfs]; exact lkP _ _ _
    have LM : ∀ m ∈ bkM, fs.lookup m = none := fun m hm => by
      rw [← hfs]
      have : ∀ m ∈ bkM, ¬ m = ("costs" : Str) ∧ ¬ m = ("frames" : Str) ∧ ¬ m = ("acts" : Str) ∧ ¬ m = ("states" : Str) ∧ ¬ m = ("signs" : Str) ∧ ¬ m = ("rules" : Str) := by decide +kernel
      obtain ⟨b1, b2, b3, b4, b5, b6⟩ := this m hm
      exact lkN _ b1 (lkN _ b2 (lkN _ b3 (lkN _ b4 (lkN _ b5 (lkN _ b6 rfl)))))
    have lfs : fs.length ≤ 6 := by rw [← hfs]; exact fl (fl l4 (by decide)) (by decide)
    clear hfs
    have bf : ("frame" : Str) ∈ bkM := by decide +kernel
    have nfH : H fp = none := kp_new k5 n6 a5
    have ncH : H cp = none := kp_new k6 n7 a6
    have okS : ∀ r : Bool, Tr.okD 64 (sideP r).1 (sideP r).2 = true ∧ (sideP r).1.length ≤ 1000 := by intro r; cases r <;> decide +kernel
    have okB : ∀ r : Bool, Tr.okD 64 (bareP r).1 (bareP r).2 = true ∧ (bareP r).1.length ≤ 1000 := by intro r; cases r <;> decide +kernel
    have okC : ∀ r : Bool, Tr.okD 64 (cellP r).1 (cellP r).2 = true ∧ (cellP r).1.length ≤ 1000 := by intro r; cases r <;> decide +kernel
    have okE : Tr.okD 64 endP.1 endP.2 = true ∧ endP.1.length ≤ 1000 := by decide +kernel
    have okH : Tr.okD 64 chooP.1 chooP.2 = true ∧ chooP.1.length ≤ 1000 := by decide +kernel
    have ok3 : ∀ r : Bool, ∀ p ∈ [sideP r, bareP r, cellP r], Tr.okD 64 p.1 p.2 = true ∧ p.1.length ≤ 1000 := fun r p hp => by
      rcases List.mem_cons.mp hp with z | z
      · rw [z]; exact okS r
      · rcases List.mem_cons.mp z with z | z
        · rw [z]; exact okB r
        · rw [List.mem_singleton.mp z]; exact okC r
    have st : ∀ {H H' : Hp} {b : Addr} {o : HO}, Kp [fp, cp] H H' → H b = some o → H fp = some (.dK []) ∨ True → b ≠ fp → b ≠ cp → H' b = some o := fun s e _ h1 h2 => s.ne e (ne2 h1 h2)
    -- the frames
    have frame : ∀ (r : Bool) (x : Str) (H8 : Hp) (kF kC : List (Key × V)) (u : TS) (D : Ends) (σ : L2.St), x = mvS r → σ[0]? = some (some (.ref a)) → H8 a = some (.ins (He.ga K "Book") dx fs) → H8 fp = some (.dK kF) → H8 cp = some (.dK kC) → kF.length ≤ 10 → kC.length ≤ 10 →
        (∀ p1 p2 x1 x2 H', H8 p1 = none → H8 p2 = none → Kp [fp, cp] H8 H' → H' fp = some (.dK (putK kF (Sum.inr x) (.ref p1))) → H' cp = some (.dK (putK kC (Sum.inr x) (.ref p2))) → H' p1 = some (.lst x1) → TdAll H' x1 (trs ([sideP r, bareP r, cellP r].map frT)) → H' p2 = some (.lst x2) → TdAll H' x2 (coD [sideP r, bareP r, cellP r]) → u D σ H') →
        tSeq (tDrop (tMeth (He.ga K "Book") "frame" (SpFr K) [] E0 (tVar 0) (tCons (tC (.str x)) (tCons (tLst (tCons (tCall (SpG K f_side_names) [] E0 (tCons (tC (.str x)) tNil)) (tCons (tCall (SpG K f_bare_names) [] E0 (tCons (tC (.str x)) tNil)) (tCons (tCall (SpG K f_cell_names) [] E0 (tCons (tC (.str x)) tNil)) tNil)))) tNil)))) u D σ H8 := fun r x H8 kF kC u D σ hx hs ha8 hF hC l1 l2 kk => by
      subst hx
      exact q_frame (K := K) (ps := [sideP r, bareP r, cellP r]) hs ha8 (LM _ bf) J5 J6 hF hC hfc (by omega) (by omega) (ea_cons (ev_callG ⟨r, rfl, rfl⟩ (ea_cons ev_str ea_nil)) (ea_cons (ev_callG ⟨r, rfl, rfl⟩ (ea_cons ev_str ea_nil)) (ea_cons (ev_callG ⟨r, rfl, rfl⟩ (ea_cons ev_str ea_nil)) ea_nil))) (Nat.le_of_ble_eq_true rfl) (ok3 r) kk
    refine frame false "l" H7 [] [] _ _ _ rfl rfl a7 hF7 h7 (by decide) (by decide) fun p1 p2 y1 y2 H8 m1 m2 s8 hF8 hC8 q1 q2 q3 q4 => ?_
    have a8 := s8.ne a7 (ne2 (nk a7 hF7 (by simp)) (nk a7 h7 (by simp)))
    have wF8 : WordsAt (putK [] (Sum.inr "l") (.ref p1)) H8 (frW.take 1) := words_kp (l := []) (x := "l") (fun y hy => by cases hy) s8 hF7 h7 q1 q2 (fun y hy => by cases hy)
    have wC8 : WordsAt (putK [] (Sum.inr "l") (.ref p2)) H8 (coW.take 1) := words_kp (l := []) (x := "l") (fun y hy => by cases hy) s8 hF7 h7 q3 q4 (fun y hy => by cases hy)
    have rF8 : WordsAt (putK [] (Sum.inr "l") (.ref p1)) (rs H a H8) (frW.take 1) := words_kp (l := []) (x := "l") (fun y hy => by cases hy) (rs_kp s8) (rsn nfH hF7) (rsn ncH h7) (rsn (kp_new k7 m1 a7) q1) (q2.tx rs_tx) (fun y hy => by cases hy)
    have rC8 : WordsAt (putK [] (Sum.inr "l") (.ref p2)) (rs H a H8) (coW.take 1) := words_kp (l := []) (x := "l") (fun y hy => by cases hy) (rs_kp s8) (rsn nfH hF7) (rsn ncH h7) (rsn (kp_new k7 m2 a7) q3) (q4.tx rs_tx) (fun y hy => by cases hy)
    have k8 : Kp [a] H H8 := kp_add2 k7 s8 nfH ncH
    have lp : ∀ {kvs : List (Key × V)} {k v n}, kvs.length ≤ n → (putK kvs k v).length ≤ n + 1 := fun h => Nat.le_trans (length_putK _ _ _) (Nat.succ_le_succ h)
    refine frame true "r" H8 _ _ _ _ _ rfl rfl a8 hF8 hC8 (Nat.le_trans (lp (Nat.le_refl 0)) (by decide)) (Nat.le_trans (lp (Nat.le_refl 0)) (by decide)) fun p3 p4 y3 y4 H9 m3 m4 s9 hF9 hC9 q5 q6 q7 q8 => ?_
    have a9 := s9.ne a8 (ne2 (nk a8 hF8 (by simp)) (nk a8 hC8 (by simp)))
    have wF9 : WordsAt _ H9 (frW.take 2) := words_kp (l := frW.take 1) (x := "r") wF8 s9 hF8 hC8 q5 q6 (by decide +kernel)
    have wC9 : WordsAt _ H9 (coW.take 2) := words_kp (l := coW.take 1) (x := "r") wC8 s9 hF8 hC8 q7 q8 (by decide +kernel)
    have rF9 : WordsAt _ (rs H a H9) (frW.take 2) := words_kp (l := frW.take 1) (x := "r") rF8 (rs_kp s9) (rsn nfH hF8) (rsn ncH hC8) (rsn (kp_new k8 m3 a8) q5) (q6.tx rs_tx) (by decide +kernel)
    have rC9 : WordsAt _ (rs H a H9) (coW.take 2) := words_kp (l := coW.take 1) (x := "r") rC8 (rs_kp s9) (rsn nfH hF8) (rsn ncH hC8) (rsn (kp_new k8 m4 a8) q7) (q8.tx rs_tx) (by decide +kernel)
    have k9 : Kp [a] H H9 := kp_add2 k8 s9 nfH ncH
    refine q_frame (K := K) (x := "end") (ps := [endP]) rfl a9 (LM _ bf) J5 J6 hF9 hC9 hfc (Nat.le_trans (lp (lp (Nat.le_refl 0))) (by decide)) (Nat.le_trans (lp (lp (Nat.le_refl 0))) (by decide)) (ea_cons (ev_callG ⟨rfl, rfl⟩ ea_nil) ea_nil) (Nat.le_of_ble_eq_true rfl) (fun p hp => by rw [List.mem_singleton.mp hp]; exact okE) fun p5 p6 y5 y6 H10 m5 m6 s10 hF10 hC10 q9 q10 q11 q12 => ?_
    have a10 := s10.ne a9 (ne2 (nk a9 hF9 (by simp)) (nk a9 hC9 (by simp)))
    have wF10 : WordsAt _ H10 (frW.take 3) := words_kp (l := frW.take 2) (x := "end") wF9 s10 hF9 hC9 q9 q10 (by decide +kernel)
    have wC10 : WordsAt _ H10 (coW.take 3) := words_kp (l := coW.take 2) (x := "end") wC9 s10 hF9 hC9 q11 q12 (by decide +kernel)
    have rF10 : WordsAt _ (rs H a H10) (frW.take 3) := words_kp (l := frW.take 2) (x := "end") rF9 (rs_kp s10) (rsn nfH hF9) (rsn ncH hC9) (rsn (kp_new k9 m5 a9) q9) (q10.tx rs_tx) (by decide +kernel)
    have rC10 : WordsAt _ (rs H a H10) (coW.take 3) := words_kp (l := coW.take 2) (x := "end") rC9 (rs_kp s10) (rsn nfH hF9) (rsn ncH hC9) (rsn (kp_new k9 m6 a9) q11) (q12.tx rs_tx) (by decide +kernel)
    have k10 : Kp [a] H H10 := kp_add2 k9 s10 nfH ncH
    refine q_frame (K := K) (x := "state") (ps := [chooP]) rfl a10 (LM _ bf) J5 J6 hF10 hC10 hfc (Nat.le_trans (lp (lp (lp (Nat.le_refl 0)))) (by decide)) (Nat.le_trans (lp (lp (lp (Nat.le_refl 0)))) (by decide)) (ea_cons (ev_callG (F := f_chooser_names) ⟨rfl, rfl⟩ (ea_cons (ev_addI (i := 3) (j := 1) ((ev_lenS (z := sw sgn) (vS rfl) (by decide)).is rfl) ev_int) ea_nil)) ea_nil) (Nat.le_of_ble_eq_true rfl) (fun p hp => by rw [List.mem_singleton.mp hp]; exact okH) fun p7 p8 y7 y8 H11 m7 m8 s11 hF11 hC11 q13 q14 q15 q16 => ?_
    have a11 := s11.ne a10 (ne2 (nk a10 hF10 (by simp)) (nk a10 hC10 (by simp)))
    have wF11 : WordsAt _ H11 frW := words_kp (l := frW.take 3) (x := "state") wF10 s11 hF10 hC10 q13 q14 (by decide +kernel)
    have wC11 : WordsAt _ H11 coW := words_kp (l := coW.take 3) (x := "state") wC10 s11 hF10 hC10 q15 q16 (by decide +kernel)
    have rF11 : WordsAt _ (rs H a H11) frW := words_kp (l := frW.take 3) (x := "state") rF10 (rs_kp s11) (rsn nfH hF10) (rsn ncH hC10) (rsn (kp_new k10 m7 a10) q13) (q14.tx rs_tx) (by decide +kernel)
    have rC11 : WordsAt _ (rs H a H11) coW := words_kp (l := coW.take 3) (x := "state") rC10 (rs_kp s11) (rsn nfH hF10) (rsn ncH hC10) (rsn (kp_new k10 m8 a10) q15) (q16.tx rs_tx) (by decide +kernel)
    have k11 : Kp [a] H H11 := kp_add2 k10 s11 nfH ncH
    have s711 : Kp [fp, cp] H7 H11 := s8.trans (s9.trans (s10.trans s11))
    have v1 := s711.ne g1 (ne2 (nk g1 hF7 (by simp)) (nk g1 h7 (by simp)))
    have v3 := s711.ne g3 (ne2 (nk g3 hF7 (by simp)) (nk g3 h7 (by simp)))
    have v5 := s711.ne g5 (ne2 (nk g5 hF7 (by simp)) (nk g5 h7 (by simp)))
    have bk : BkAt K tape N (.ref a) H11 := ⟨a, dx, fs, rp, sp, ap, fp, cp, x1, x3, _, _, _, rfl, a11, LM, ⟨J1, v1, w1.tx s711.tx⟩, J2, ⟨J3, v3, w3.tx s711.tx⟩, ⟨J4, v5, at7.tx s711.tx⟩, ⟨J5, hF11, wF11⟩, ⟨J6, hC11, wC11⟩⟩
    have bkr : BkAt K tape N (.ref a) (rs H a H11) := ⟨a, dx, fs, rp, sp, ap, fp, cp, x1, x3, _, _, _, rfl, rs_a a11, LM, ⟨J1, rsn n1 v1, (w1.tx s711.tx).tx rs_tx⟩, J2, ⟨J3, rsn (kp_new k2 n3 a2) v3, (w3.tx s711.tx).tx rs_tx⟩, ⟨J4, rsn napH v5, (at7.tx s711.tx).tx rs_tx⟩, ⟨J5, rsn nfH hF11, rF11⟩, ⟨J6, rsn ncH hC11, rC11⟩⟩
    have bkv : ∀ {H' o4 o5 o6}, Same H11 H' → Ev K (tVar 0) [some (.ref a), some (.ref ra), some (.str (sw sgn)), some (.ref sa), o4, o5, o6] H' (Ag.bk K tape N) := fun s => ev_var rfl (show At K _ (.ref a) (Ag.bk K tape N) from BkAt.mono K tape N _ _ _ s bk)
    -- the seats
    refine q_fldL (K := K) (f := "seats") (ds := (upto N).map (seatD tape N)) (ef_lcFY (K := K) (i := 5) (wi := iList K (tVar 3)) (σ := [some (.ref a), some (.ref ra), some (.str (sw sgn)), some (.ref sa), o4, none, none]) (seatD tape N) (fun H' s => wkf_list (vSt (k11.trans (Kp.same s)))) (by rw [upto_len]; omega) (fun x => rfl) (te := tMeth (He.ga K "Book") "seat" (SpT K (f_seat K)) [] E0 (tVar 0) (tCons (tVar 5) tNil)) fun d x H' hd s hx => ?_) rfl a11 T.cls_Book T.no_Book_seats (Nat.lt_of_le_of_lt lfs (by decide)) fun sp2 x12 H12 n12 s12 a12 h12 t12 => ?_
    · obtain ⟨q, hq, rfl⟩ := List.mem_map.mp hd
      obtain rfl := Td.int_of hx
      have hq := List.mem_range.mp hq
      exact ev_bkm (by decide +kernel) (bkv s) (ea_cons (vI (i := 5) rfl) ea_nil) ⟨tape, N, q, hq, hN, ht, rfl, rfl⟩
    · rw [seatD_eq] at t12
      have bk12 := bkr.fld (rs_kp s12) (rs_a a11) (rs_a a12) (by decide +kernel)
      have k12 : Kp [a] H H12 := k11.trans s12
      -- the table
      have ef : Ef (tLc (iList K (tFld K (tVar 0) "seats")) (gName 6) tYes (tCall (SpT K f_with_last) [] E0 (tCons (tVar 6) tNil)) [6]) [some (.ref a), some (.ref ra), some (.str (sw sgn)), some (.ref sa), o4, none, none] H12 ((seatsT tape N).map fun t => (wlT t).d) :=
        ef_lcA (K := K) (i := 6) (p := sp2) (xs := x12) (σ := [some (.ref a), some (.ref ra), some (.str (sw sgn)), some (.ref sa), o4, none, none]) (tl := tFld K (tVar 0) "seats") (te := tCall (SpT K f_with_last) [] E0 (tCons (tVar 6) tNil)) (fun t => .t t.d) (fun t => (wlT t).d) (seatsT tape N) (ev_fld (ev_ref rfl) a12 T.cls_Book T.no_Book_seats (lkP _ _ _) (show At K H12 (.ref sp2) (refIs sp2) from rfl)) (SqL.of h12) (trs_at t12) (by unfold seatsT; rw [List.length_map, List.length_range]; omega) (fun x => rfl)
          (fun y z H' hy s hz => ev_call (F := f_with_last) ⟨y, rfl, rfl⟩ (ea_cons (ev_var (σ := [some (.ref a), some (.ref ra), some (.str (sw sgn)), some (.ref sa), o4, none, some z]) (i := 6) rfl hz) ea_nil))
      have e2 : (seatsT tape N).map (fun t => (wlT t).d) = trs ((List.range N).map fun q => wlT (seatT tape N q)) := by
        unfold trs seatsT
        rw [List.map_map, List.map_map]
        exact List.map_congr_left fun q _ => rfl
      rw [e2] at ef
      refine st_fld (K := K) (D := { nx := fun _ H' => Q .non H', rt := Q }) (ag := .t (tableT tape N).d) (ev_call (F := f_with_last) ⟨_, rfl, rfl⟩ (ea_cons (ev_call (F := f_folded) ⟨_, rfl, rfl⟩ (ea_cons ef.ev ea_nil)) ea_nil)) (ev_ref rfl) a12 T.cls_Book T.no_Book_table (Nat.lt_of_le_of_lt (fl lfs (by decide)) (by decide)) fun v13 H13 s13 h13 => ?_
      have a13 := s13 _ _ a12
      have s14 : Kp [a] H12 (upd H13 a (.ins (He.ga K "Book") dx (putF "table" v13 (putF "seats" (.ref sp2) fs)))) := (Kp.same s13).trans (Mut.ins a13).kp
      have ts : Tx H13 (upd H13 a (.ins (He.ga K "Book") dx (putF "table" v13 (putF "seats" (.ref sp2) fs)))) := Tx.ins a13
      refine k _ (k12.trans s14) ⟨bk12.fld (rs_kp s14) (rs_a a12) (rs_a upd_same) (by decide +kernel), a, dx, _, sp2, x12, v13, rfl, rs_a upd_same, lkN _ (by decide +kernel) (lkP _ _ _), rsn (kp_new k11 n12 a11) (s14.ne h12 (nea (nk h12 a12 (by simp)))), (t12.tx s14.tx).tx rs_tx, lkP _ _ _, Td.tx rs_tx (Td.tx ts h13)⟩
end
end My

/-! W23: images on trees, walked. -/
namespace My
open PySem PySem.Spec PyProof.Rows L2
def stT (tape : List TR) (N q : Nat) : Tr := .j (.j .S (seatT tape N q)) (.j .K (tableT tape N))
def txT (l : List Lt) : Tr := Tr.listT (l.map sgT)
def imT (tape : List TR) (N q : Nat) (l : List Lt) (c : Lt) (r : List Lt) : Tr := .j (stT tape N q) (Tr.packT (txT l.reverse) (sgT c) (txT r))
def ncT (N q : Nat) : Nat := 2 * N + 8 + Tr.pickCost q N
def tcT (tape : List TR) (N q : Nat) (l : List Lt) (c : Lt) (r : List Lt) : Nat := match actT tape q c with
  | none => 16 + costT chooP + Tr.pickCost (sIx c) 4 + costT endP
  | some (_, m, g) => if (if m = true then r else l) = [] then 16 + costT chooP + Tr.pickCost (sIx c) 4 + costT (sideP m) + ncT N g + 1 + costT (bareP m) else 16 + costT chooP + Tr.pickCost (sIx c) 4 + costT (sideP m) + ncT N g + 7 + costT (cellP m)
section
variable {P : Program} {w : World} {K : PySem.W.Frag} {mg : Str → Option Value} {base : Heap}
theorem op_neNK {X : Cx} {k : Nat} (N : Nat) (hr : Room k X.A) (h : N ≤ 16 * k + 200) (hK : X.K = K := by rfl) : OpR X (compareOp .NotEq) (rNeG K N) := by
  subst hK
  exact op_neG N (room_n hr h)
theorem Ev.bk {σ : L2.St} {H : Hp} {te : TE} {tape : List TR} {N : Nat} (h : Ev K te σ H (Ag.bf K tape N)) : Ev K te σ H (Ag.bk K tape N) := fun H1 s Q q => h H1 s _ fun v H2 s2 hv => q v H2 s2 hv.1
theorem ev_bfSeats {σ : L2.St} {H : Hp} {te : TE} {tape : List TR} {N : Nat} (T : Txt P w K mg base) (he : Ev K te σ H (Ag.bf K tape N)) : Ev K (tFld K te "seats") σ H (.l (trs (seatsT tape N))) := fun H1 s Q q =>
  he H1 s _ fun v H2 s2 ⟨_, a, dx, fs, sp, xs, tv, e, h1, h2, h3, h4, h5, h6⟩ => ⟨a, _, dx, fs, _, e, h1, T.cls_Book, T.no_Book_seats, h2, q _ H2 s2 ⟨sp, xs, rfl, SqL.of h3, h4⟩⟩
theorem ev_bfTable {σ : L2.St} {H : Hp} {te : TE} {tape : List TR} {N : Nat} (T : Txt P w K mg base) (he : Ev K te σ H (Ag.bf K tape N)) : Ev K (tFld K te "table") σ H (.t (tableT tape N).d) := fun H1 s Q q =>
  he H1 s _ fun v H2 s2 ⟨_, a, dx, fs, sp, xs, tv, e, h1, h2, h3, h4, h5, h6⟩ => ⟨a, _, dx, fs, _, e, h1, T.cls_Book, T.no_Book_table, h5, q _ H2 s2 h6⟩
theorem at_range {α : Type} {N q : Nat} (f : Nat → α) (h : q < N) : atI ((List.range N).map f) (q : Int) = some (f q) := by
  refine atI_get (j := q) ?_ ?_
  · unfold ixN
    rw [List.length_map, List.length_range, if_pos (by omega), if_pos (by omega)]
    rfl
  · rw [List.getElem?_map, List.getElem?_range h]
    rfl

def f_state_tree (K : PySem.W.Frag) : Gr := fun as d => ∃ (tape : List TR) (N q : Nat), q < N ∧ as = [Ag.bf K tape N, .t (.int q)] ∧ d = (stT tape N q).d
theorem len_state_tree {as : List Ag} {d : PyData} (h : f_state_tree K as d) : as.length = 2 := by obtain ⟨_, _, _, _, rfl, _⟩ := h; rfl
theorem sc_state_tree : FnScope ["book", "state", "seat"] ["book", "state"] (defScope st_state_tree) := ⟨rfl, rfl, rfl, by decide +kernel, rfl, by decide +kernel, by decide +kernel⟩
theorem has_state_tree (T : Txt P w K mg base) : Has P w K mg base "state_tree" ["book", "state"] 4 (SpT K (f_state_tree K)) := by
  refine has_mk T.glo_state_tree (T.c.def_ 48 (d := d_state_tree) rfl) sc_state_tree (SpT.len (fun as d h => by exact len_state_tree h)) (fun _ _ _ _ _ _ us hl => match us, hl with | [_, _], _ => rfl) (fun cdv A outer s H vs Q E hr h => ?_)
  refine ⟨_, (pss_cons (ps_set (i := 2) sc_state_tree.nd rfl (by first | exact Or.inl rfl | exact Or.inr rfl) (pe_ixK (K := K) (pe_fldK (K := K) (pv 0) rfl) (pe_bm PySem.F.plainAttrs_list PySem.F.slot_list_index PySem.F.type_list_index mt_index (pe_fldK (K := K) (pv 0) rfl) (pa_cons (pv 1) pa_nil)) (fun _ _ => rfl)))
    (pss_one (ps_ret (pc (has_joint T) (hr.mono (by decide)) (pa_cons (pc (has_joint T) (hr.mono (by decide)) (pa_cons pe_str (pa_cons (pv 2) pa_nil))) (pa_cons (pc (has_joint T) (hr.mono (by decide)) (pa_cons pe_str (pa_cons (pe_fldK (K := K) (pv 0) rfl) pa_nil))) pa_nil)))))), ?_⟩
  obtain ⟨as, d, ⟨tape, N, q, hq, rfl, rfl⟩, hv, k⟩ := h
  obtain ⟨x, y, rfl, hx, hy⟩ := hv.i2
  obtain rfl := Td.int_of hy
  have ex : ∀ {H' o2}, Same H H' → Ev K (tVar 0) [some x, some (.int q), o2] H' (Ag.bf K tape N) := fun s => ev_var rfl (At.sm s hx)
  have e1 : atI (trs (seatsT tape N)) (q : Int) = some (seatT tape N q).d := by
    unfold trs seatsT
    rw [List.map_map]
    exact at_range _ hq
  refine q_set (K := K) (ev_ixL (ev_bfSeats T (ex (Same.refl _))) (ev_index (ev_bkStates T (ex (Same.refl _)).bk) (vI rfl) hq) e1) fun v H1 s1 h1 => ?_
  exact st_ret (ev_joint (l := .j .S (seatT tape N q)) (r := .j .K (tableT tape N)) (ev_joint (l := .S) ev_str (vD rfl h1)) (ev_joint (l := .K) ev_str (ev_bfTable T (ex s1)))) fun v H2 s2 h => k v H2 (s1.trans s2) h
def f_sides_of (K : PySem.W.Frag) : GrL := fun as ds => ∃ (tape : List TR) (N q : Nat) (l : List Lt) (c : Lt) (r : List Lt), l.length ≤ 1000 ∧ r.length ≤ 1000 ∧ as = [Ag.bf K tape N, .t (stD q l c r)] ∧ ds = trs [txT l.reverse, sgT c, txT r]
theorem len_sides_of {as : List Ag} {ds : List PyData} (h : f_sides_of K as ds) : as.length = 2 := by obtain ⟨_, _, _, _, _, _, _, _, rfl, _⟩ := h; rfl
def sgD (d : PyData) : PyData := match d with
  | .str z => if z == sw [.u] then (sgT .u).d else if z == sw [.b] then (sgT .b).d else if z == sw [.e] then (sgT .e).d else (sgT .i).d
  | d => d
theorem sgD_eq (c : Lt) : sgD (.str (sw [c])) = (sgT c).d := by
  show (if (sw [c] == sw [.u]) = true then (sgT .u).d else if (sw [c] == sw [.b]) = true then (sgT .b).d else if (sw [c] == sw [.e]) = true then (sgT .e).d else (sgT .i).d) = _
  rw [sw_beq, sw_beq, sw_beq]
  cases c <;> rfl
theorem sgs_eq (l : List Lt) : (l.map fun c => PyData.str (sw [c])).map sgD = trs (l.map sgT) := by
  unfold trs
  rw [List.map_map, List.map_map]
  exact List.map_congr_left fun c _ => sgD_eq c
theorem sc_sides_of : FnScope ["book", "stand", "left", "right", "sign"] ["book", "stand"] (defScope st_sides_of) := ⟨rfl, rfl, rfl, by decide +kernel, rfl, by decide +kernel, by decide +kernel⟩
theorem has_sides_of (T : Txt P w K mg base) : Has P w K mg base "sides_of" ["book", "stand"] 70 (SpL K (f_sides_of K)) := by
  refine has_mk T.glo_sides_of (T.c.def_ 49 (d := d_sides_of) rfl) sc_sides_of (SpL.len (fun as d h => by exact len_sides_of h)) (fun _ _ _ _ _ _ us hl => match us, hl with | [_, _], _ => rfl) (fun cdv A outer s H vs Q E hr h => ?_)
  refine ⟨_, (pss_cons (ps_set (i := 2) sc_sides_of.nd rfl (by first | exact Or.inl rfl | exact Or.inr rfl) (pc (has_list_of T) (hr.mono (by decide)) (pa_cons (pe_lc (own := [("sign", 4)]) (tt := tYes) rfl sc_sides_of.nd (pi_revS T.free_reversed (pe_ixK (K := K) (pv 1) pe_int (fun _ _ => rfl))) (blkOk_by (own := [("sign", 4)]) (N := ["book", "stand", "left", "right", "sign"]) (sc := defScope st_sides_of) (by decide +kernel)) (fun _ _ _ _ _ => (pg_name (i := 4) sc_sides_of.nd rfl (by first | exact Or.inl rfl | exact Or.inr rfl))) (fun _ _ _ _ _ => pts_nil) (fun _ _ _ _ _ => (pm (ok_Book_sign_tree T) T.cls_Book T.meth_Book_sign_tree (hr.mono (by decide)) (pv 0) (pa_cons (pv 4) pa_nil)))) pa_nil)))
    (pss_cons (ps_set (i := 3) sc_sides_of.nd rfl (by first | exact Or.inl rfl | exact Or.inr rfl) (pc (has_list_of T) (hr.mono (by decide)) (pa_cons (pe_lc (own := [("sign", 4)]) (tt := tYes) rfl sc_sides_of.nd (pi_str (pe_ixK (K := K) (pv 1) pe_int (fun _ _ => rfl))) (blkOk_by (own := [("sign", 4)]) (N := ["book", "stand", "left", "right", "sign"]) (sc := defScope st_sides_of) (by decide +kernel)) (fun _ _ _ _ _ => (pg_name (i := 4) sc_sides_of.nd rfl (by first | exact Or.inl rfl | exact Or.inr rfl))) (fun _ _ _ _ _ => pts_nil) (fun _ _ _ _ _ => (pm (ok_Book_sign_tree T) T.cls_Book T.meth_Book_sign_tree (hr.mono (by decide)) (pv 0) (pa_cons (pv 4) pa_nil)))) pa_nil)))
    (pss_one (ps_ret (pe_lst (pa_cons (pv 2) (pa_cons (pm (ok_Book_sign_tree T) T.cls_Book T.meth_Book_sign_tree (hr.mono (by decide)) (pv 0) (pa_cons (pe_ixK (K := K) (pv 1) pe_int (fun _ _ => rfl)) pa_nil)) (pa_cons (pv 3) pa_nil)))))))), ?_⟩
  obtain ⟨as, ds, ⟨tape, N, q, l, c, r, hl, hr2, rfl, rfl⟩, hv, k⟩ := h
  obtain ⟨x, y, rfl, hx, hy⟩ := hv.i2
  have hy : Td H y (stD q l c r) := hy
  have ex : ∀ {H' o2 o3 o4}, Same H H' → Ev K (tVar 0) [some x, some y, o2, o3, o4] H' (Ag.bf K tape N) := fun s => ev_var rfl (At.sm s hx)
  have ey : ∀ {H' o2 o3 o4}, Same H H' → Ev K (tVar 1) [some x, some y, o2, o3, o4] H' (.t (stD q l c r)) := fun s => vD rfl (hy.sm s)
  have hzl : (sw l).length ≤ sizeLine := by rw [sw_len, sizeLine_eq]; omega
  have el : Ef (tLc (iRevS (tOp (rIx K) (tVar 1) (tC (.int 1)))) (gName 4) tYes (tMeth (He.ga K "Book") "sign_tree" (SpT K (f_sign_tree K)) [] E0 (tVar 0) (tCons (tVar 4) tNil)) [4]) [some x, some y, none, none, none] H ((chs (sw l)).reverse.map sgD) :=
    ef_lcY (K := K) (i := 4) (Hb := H) sgD (fun H' s => wk_revS (K := K) (z := sw l) (ev_ixT (i := 1) (ey s) ev_int rfl) hzl) (Same.refl _) (by rw [List.length_reverse, chs_sw, List.length_map]; omega) (fun x => rfl) fun d z H' hd s hz => by
      rw [chs_sw, List.mem_reverse] at hd
      obtain ⟨c', _, rfl⟩ := List.mem_map.mp hd
      obtain rfl := Td.str_of hz
      rw [sgD_eq]
      exact ev_bsign (ex s).bk (vS rfl)
  rw [chs_sw, ← List.map_reverse, sgs_eq] at el
  refine q_set (K := K) (ev_call (F := f_list_of) ⟨_, rfl, rfl⟩ (ea_cons el.ev ea_nil)) fun v1 H1 s1 h1 => ?_
  have h1 : Td H1 v1 (txT l.reverse).d := h1
  have er : Ef (tLc (iStr (tOp (rIx K) (tVar 1) (tC (.int 3)))) (gName 4) tYes (tMeth (He.ga K "Book") "sign_tree" (SpT K (f_sign_tree K)) [] E0 (tVar 0) (tCons (tVar 4) tNil)) [4]) [some x, some y, some v1, none, none] H1 ((chs (sw r)).map sgD) :=
    ef_lcY (K := K) (i := 4) (Hb := H1) sgD (fun H' s => wk_str (K := K) (z := sw r) (ev_ixT (i := 3) (ey (s1.trans s)) ev_int rfl)) (Same.refl _) (by rw [chs_sw, List.length_map]; omega) (fun x => rfl) fun d z H' hd s hz => by
      rw [chs_sw] at hd
      obtain ⟨c', _, rfl⟩ := List.mem_map.mp hd
      obtain rfl := Td.str_of hz
      rw [sgD_eq]
      exact ev_bsign (ex (s1.trans s)).bk (vS rfl)
  rw [chs_sw, sgs_eq] at er
  refine q_set (K := K) (ev_call (F := f_list_of) ⟨_, rfl, rfl⟩ (ea_cons er.ev ea_nil)) fun v2 H2 s2 h2 => ?_
  have h2 : Td H2 v2 (txT r).d := h2
  have s12 := s1.trans s2
  exact st_retF (ef_lst (K := K) (ds := trs [txT l.reverse, sgT c, txT r]) (ea_cons (vD rfl (h1.sm s2)) (ea_cons (ev_bsign (ex s12).bk (ev_ixT (i := 2) (ey s12) ev_int rfl)) (ea_cons (vD rfl h2) ea_nil))) (Nat.le_of_ble_eq_true rfl)) fun p xs H3 hp s3 h3 t3 => k p xs H3 (s12.free hp) (s12.trans s3) h3 t3
def f_tape_image (K : PySem.W.Frag) : Gr := fun as d => ∃ (tape : List TR) (N q : Nat) (l : List Lt) (c : Lt) (r : List Lt), q < N ∧ l.length ≤ 1000 ∧ r.length ≤ 1000 ∧ as = [Ag.bf K tape N, .t (stD q l c r)] ∧ d = (imT tape N q l c r).d
theorem len_tape_image {as : List Ag} {d : PyData} (h : f_tape_image K as d) : as.length = 2 := by obtain ⟨_, _, _, _, _, _, _, _, _, rfl, _⟩ := h; rfl
theorem sc_tape_image : FnScope ["book", "stand", "left", "sign", "right"] ["book", "stand"] (defScope st_tape_image) := ⟨rfl, rfl, rfl, by decide +kernel, rfl, by decide +kernel, by decide +kernel⟩
theorem has_tape_image (T : Txt P w K mg base) : Has P w K mg base "tape_image" ["book", "stand"] 71 (SpT K (f_tape_image K)) := by
  refine has_mk T.glo_tape_image (T.c.def_ 50 (d := d_tape_image) rfl) sc_tape_image (SpT.len (fun as d h => by exact len_tape_image h)) (fun _ _ _ _ _ _ us hl => match us, hl with | [_, _], _ => rfl) (fun cdv A outer s H vs Q E hr h => ?_)
  refine ⟨_, (pss_cons (ps_asg (pc (has_sides_of T) (hr.mono (by decide)) (pa_cons (pv 0) (pa_cons (pv 1) pa_nil))) (pg_unl rfl (pgs_cons (pg_name (i := 2) sc_tape_image.nd rfl (by first | exact Or.inl rfl | exact Or.inr rfl)) (pgs_cons (pg_name (i := 3) sc_tape_image.nd rfl (by first | exact Or.inl rfl | exact Or.inr rfl)) (pgs_cons (pg_name (i := 4) sc_tape_image.nd rfl (by first | exact Or.inl rfl | exact Or.inr rfl)) pgs_nil)))))
    (pss_one (ps_ret (pc (has_joint T) (hr.mono (by decide)) (pa_cons (pc (has_state_tree T) (hr.mono (by decide)) (pa_cons (pv 0) (pa_cons (pe_ixK (K := K) (pv 1) pe_int (fun _ _ => rfl)) pa_nil))) (pa_cons (pc (has_pack T) (hr.mono (by decide)) (pa_cons (pv 2) (pa_cons (pv 3) (pa_cons (pv 4) pa_nil)))) pa_nil)))))), ?_⟩
  obtain ⟨as, d, ⟨tape, N, q, l, c, r, hq, hl, hr2, rfl, rfl⟩, hv, k⟩ := h
  obtain ⟨x, y, rfl, hx, hy⟩ := hv.i2
  have hy : Td H y (stD q l c r) := hy
  have ex : ∀ {H' o2 o3 o4}, Same H H' → Ev K (tVar 0) [some x, some y, o2, o3, o4] H' (Ag.bf K tape N) := fun s => ev_var rfl (At.sm s hx)
  have ey : ∀ {H' o2 o3 o4}, Same H H' → Ev K (tVar 1) [some x, some y, o2, o3, o4] H' (.t (stD q l c r)) := fun s => vD rfl (hy.sm s)
  have es : Ef (tCall (SpL K (f_sides_of K)) [] E0 (tCons (tVar 0) (tCons (tVar 1) tNil))) [some x, some y, none, none, none] H (trs [txT l.reverse, sgT c, txT r]) := ef_call ⟨tape, N, q, l, c, r, hl, hr2, rfl, rfl⟩ (ea_cons (ex (Same.refl _)) (ea_cons (ey (Same.refl _)) ea_nil))
  refine es H (Same.refl _) _ fun p xs H1 hp s1 h1 t1 => ?_
  obtain ⟨u1, u2, u3, rfl, y1, y2, y3⟩ : ∃ u1 u2 u3, xs = [u1, u2, u3] ∧ Td H1 u1 (txT l.reverse).d ∧ Td H1 u2 (sgT c).d ∧ Td H1 u3 (txT r).d := by
    cases t1 with
    | cons a1 b1 =>
      cases b1 with
      | cons a2 b2 =>
        cases b2 with
        | cons a3 b3 =>
          cases b3
          exact ⟨_, _, _, rfl, a1, a2, a3⟩
  refine ⟨p, _, rfl, SqL.of h1, rfl, _, _, rfl, _, _, rfl, _, _, rfl, rfl, ?_⟩
  refine st_ret (K := K) (ev_joint (l := stT tape N q) (ev_call (F := f_state_tree K) ⟨tape, N, q, hq, rfl, rfl⟩ (ea_cons (ex s1) (ea_cons (ev_ixT (i := 0) (ey s1) ev_int rfl) ea_nil))) (ev_call (F := f_pack) ⟨_, _, _, rfl, rfl⟩ (ea_cons (vD rfl y1) (ea_cons (vD rfl y2) (ea_cons (vD rfl y3) ea_nil))))) fun v H2 s2 h => k v H2 (s1.trans s2) h
def f_next_cost (K : PySem.W.Frag) : Gr := fun as d => ∃ (tape : List TR) (N q : Nat), q < N ∧ N ≤ 1000 ∧ as = [Ag.bf K tape N, .t (.int q)] ∧ d = .int (ncT N q : Nat)
theorem len_next_cost {as : List Ag} {d : PyData} (h : f_next_cost K as d) : as.length = 2 := by obtain ⟨_, _, _, _, _, rfl, _⟩ := h; rfl
theorem sc_next_cost : FnScope ["book", "state", "many"] ["book", "state"] (defScope st_next_cost) := ⟨rfl, rfl, rfl, by decide +kernel, rfl, by decide +kernel, by decide +kernel⟩
theorem has_next_cost (T : Txt P w K mg base) : Has P w K mg base "next_cost" ["book", "state"] 2 (SpT K (f_next_cost K)) := by
  refine has_mk T.glo_next_cost (T.c.def_ 51 (d := d_next_cost) rfl) sc_next_cost (SpT.len (fun as d h => by exact len_next_cost h)) (fun _ _ _ _ _ _ us hl => match us, hl with | [_, _], _ => rfl) (fun cdv A outer s H vs Q E hr h => ?_)
  refine ⟨_, (pss_cons (ps_set (i := 2) sc_next_cost.nd rfl (by first | exact Or.inl rfl | exact Or.inr rfl) (pe_callB (call_lenK (K := K)) (by rfl) T.free_len PySem.boot_len (pa_cons (pe_fldK (K := K) (pv 0) rfl) pa_nil)))
    (pss_one (ps_ret (pe_op op_addG (pe_op op_addG (pe_op op_mul pe_int (pv 2)) pe_int) (pc (has_pick_cost T) (hr.mono (by decide)) (pa_cons (pe_bm PySem.F.plainAttrs_list PySem.F.slot_list_index PySem.F.type_list_index mt_index (pe_fldK (K := K) (pv 0) rfl) (pa_cons (pv 1) pa_nil)) (pa_cons (pv 2) pa_nil))))))), ?_⟩
  obtain ⟨as, d, ⟨tape, N, q, hq, hN, rfl, rfl⟩, hv, k⟩ := h
  obtain ⟨x, y, rfl, hx, hy⟩ := hv.i2
  obtain rfl := Td.int_of hy
  have ex : ∀ {H' o2}, Same H H' → Ev K (tVar 0) [some x, some (.int q), o2] H' (Ag.bf K tape N) := fun s => ev_var rfl (At.sm s hx)
  refine q_set (K := K) (ev_len (ev_bkStates T (ex (Same.refl _)).bk) (upto_len N)) fun v H1 s1 h1 => ?_
  obtain rfl := Td.int_of h1
  refine st_ret (K := K) (ev_addI (ev_addI (ev_mulI ev_int (vI rfl) (Or.inl (by decide))) ev_int) (ev_call (F := f_pick_cost) ⟨q, N, hq, hN, rfl, rfl⟩ (ea_cons (ev_index (ev_bkStates T (ex s1).bk) (vI rfl) hq) (ea_cons (vI rfl) ea_nil)))) fun v H2 s2 h => k v H2 (s1.trans s2) ?_
  have e : (2 : Int) * (N : Int) + 8 + ((Tr.pickCost q N : Nat) : Int) = ((ncT N q : Nat) : Int) := by
    unfold ncT
    omega
  rw [← e]
  exact h
end
end My

/-! W24: costs and what trees tell, walked. -/
namespace My
open PySem PySem.Spec PyProof.Rows L2
/-- the texts that trees tell -/
def rdL : List Tr → Option (List Lt)
  | [] => some []
  | x :: xs => match Tr.pickedT x 4 with
    | none => none
    | some k => (rdL xs).map (ltI k :: ·)
def sideTold (t : Tr) : Option (List Lt) := (Tr.thT t).bind rdL
def optW : Option (List Lt) → PyData
  | none => .none
  | some l => .str (sw l)
def standTold (k : Option Nat) (a b c : Tr) : PyData := match k, sideTold a, Tr.pickedT b 4, sideTold c with
  | some j, some l, some s, some r => stD j l.reverse (ltI s) r
  | _, _, _, _ => .none
def stateTold (tape : List TR) (N : Nat) (t : Tr) : Option Nat := match Tr.unfT t with
  | some [_, b, _] => (Tr.pickedT b N).bind fun k => if t = stT tape N k then some k else none
  | _ => none
def imageTold (tape : List TR) (N : Nat) : Tr → PyData
  | .j a b => if ((Tr.j a b).isVal || a.isLeaf) = true then .none else match Tr.unfT b with
    | some [x, y, z] => standTold (stateTold tape N a) x y z
    | _ => .none
  | _ => .none
def endTold (N : Nat) (t : Tr) : PyData := match Tr.unfT t with
  | some [w, x, y, z] => standTold (Tr.pickedT w N) x y z
  | _ => .none
theorem picked_lt {t : Tr} {m k : Nat} (h : Tr.pickedT t m = some k) : k < m := by
  unfold Tr.pickedT at h
  split at h
  · rename_i h1
    cases h
    exact h1.1
  · cases h
theorem thT_dep : ∀ (t : Tr) (ts : List Tr), Tr.thT t = some ts → ts.length ≤ t.depth ∧ ∀ x ∈ ts, x.depth ≤ t.depth := by
  intro t
  induction hn : t.depth using Nat.strongRecOn generalizing t with
  | ind n ih =>
    intro ts h
    unfold Tr.thT at h
    split at h
    · cases h
      exact ⟨Nat.zero_le _, fun x hx => by cases hx⟩
    · rename_i x y
      cases e : Tr.thT y with
      | none => rw [e] at h; cases h
      | some l =>
        rw [e] at h
        cases h
        have hd : y.depth < n ∧ x.depth < n := by
          rw [← hn]
          simp only [Tr.depth]
          omega
        obtain ⟨h1, h2⟩ := ih y.depth hd.1 y rfl l e
        refine ⟨by rw [List.length_cons]; omega, fun z hz => ?_⟩
        rcases List.mem_cons.mp hz with h | h
        · rw [h]; omega
        · have := h2 z h; omega
    · cases h
theorem unfR_dep : ∀ (t : Tr) (ts : List Tr), Tr.unfR t = some ts → ∀ x ∈ ts, x.depth ≤ t.depth := by
  intro t
  induction hn : t.depth using Nat.strongRecOn generalizing t with
  | ind n ih =>
    intro ts h
    unfold Tr.unfR at h
    split at h
    · rename_i t' x
      cases e : Tr.unfR t' with
      | none => rw [e] at h; cases h
      | some l =>
        rw [e] at h
        cases h
        have hd : t'.depth < n ∧ x.depth < n := by
          rw [← hn]
          simp only [Tr.depth]
          omega
        have h2 := ih t'.depth hd.1 t' rfl l e
        intro z hz
        rcases List.mem_cons.mp hz with h | h
        · rw [h]; omega
        · have := h2 z h; omega
    · split at h
      · cases h
        intro x hx
        cases hx
      · cases h
theorem unfT_dep {t : Tr} {ts : List Tr} (h : Tr.unfT t = some ts) : ∀ x ∈ ts, x.depth ≤ t.depth := by
  unfold Tr.unfT at h
  cases e : Tr.unfR t with
  | none => rw [e] at h; cases h
  | some l =>
    rw [e] at h
    cases h
    intro x hx
    exact unfR_dep t l e x (List.mem_reverse.mp hx)
section
variable {P : Program} {w : World} {K : PySem.W.Frag} {mg : Str → Option Value} {base : Heap}
theorem q_unf {σ : L2.St} {H : Hp} {D : Ends} {u : TS} {te : TE} {t : Tr} {i : Nat} (he : Ev K te σ H (.t t.d)) (hd : t.depth ≤ 5000000) (k1 : Tr.unfT t = none → ∀ H', Same H H' → u D (σ.set i (some .non)) H')
    (k2 : ∀ ts, Tr.unfT t = some ts → ∀ p xs H', H p = none → Same H H' → H' p = some (.lst xs) → TdAll H' xs (trs ts) → u D (σ.set i (some (.ref p))) H') : tSeq (tAsg (tCall (SpUnf K) [] E0 (tCons te tNil)) (gName i)) u D σ H :=
  he H (Same.refl _) _ fun v H1 s1 hv => ⟨v, t, rfl, hv, hd, fun e H' s => k1 e H' (s1.trans s), fun ts e p xs H' hp s h1 h2 => k2 ts e p xs H' (s1.free hp) (s1.trans s) h1 h2⟩
theorem q_things {σ : L2.St} {H : Hp} {D : Ends} {u : TS} {te : TE} {t : Tr} {i : Nat} (he : Ev K te σ H (.t t.d)) (hd : t.depth ≤ 5000000) (k1 : Tr.thT t = none → ∀ H', Same H H' → u D (σ.set i (some .non)) H')
    (k2 : ∀ ts, Tr.thT t = some ts → ∀ p xs H', H p = none → Same H H' → H' p = some (.lst xs) → TdAll H' xs (trs ts) → u D (σ.set i (some (.ref p))) H') : tSeq (tAsg (tCall (SpThings K) [] E0 (tCons te tNil)) (gName i)) u D σ H :=
  he H (Same.refl _) _ fun v H1 s1 hv => ⟨v, t, rfl, hv, hd, fun e H' s => k1 e H' (s1.trans s), fun ts e p xs H' hp s h1 h2 => k2 ts e p xs H' (s1.free hp) (s1.trans s) h1 h2⟩
theorem eb_isNl {σ : L2.St} {H : Hp} {i : Nat} {p : Addr} (h : σ[i]? = some (some (.ref p))) : Eb (tB (tIsN (tVar i))) σ H false := fun H1 s Q q => ⟨_, h, false, by rfl, q H1 (Same.refl _)⟩
theorem eb_isNn {σ : L2.St} {H : Hp} {i : Nat} (h : σ[i]? = some (some .non)) : Eb (tB (tIsN (tVar i))) σ H true := fun H1 s Q q => ⟨_, h, true, by rfl, q H1 (Same.refl _)⟩

def f_tape_cost (K : PySem.W.Frag) : Gr := fun as d => ∃ (tape : List TR) (N q : Nat) (l : List Lt) (c : Lt) (r : List Lt), N ≤ 1000 ∧ (∀ t ∈ tape, t.g < N) ∧ as = [Ag.bf K tape N, .t (stD q l c r)] ∧ d = .int (tcT tape N q l c r : Nat)
theorem len_tape_cost {as : List Ag} {d : PyData} (h : f_tape_cost K as d) : as.length = 2 := by obtain ⟨_, _, _, _, _, _, _, _, rfl, _⟩ := h; rfl
theorem Ev.nat {σ : L2.St} {H : Hp} {te : TE} {i : Int} {n : Nat} (h : Ev K te σ H (.t (.int i))) (e : i = (n : Int)) : Ev K te σ H (.t (.int (n : Int))) := by rw [← e]; exact h
theorem sc_tape_cost : FnScope ["book", "stand", "state", "left", "sign", "right", "cost", "act", "ahead", "side", "bare", "cell"] ["book", "stand"] (defScope st_tape_cost) := ⟨rfl, rfl, rfl, by decide +kernel, rfl, by decide +kernel, by decide +kernel⟩
theorem has_tape_cost (T : Txt P w K mg base) : Has P w K mg base "tape_cost" ["book", "stand"] 3 (SpT K (f_tape_cost K)) := by
  refine has_mk T.glo_tape_cost (T.c.def_ 52 (d := d_tape_cost) rfl) sc_tape_cost (SpT.len (fun as d h => by exact len_tape_cost h)) (fun _ _ _ _ _ _ us hl => match us, hl with | [_, _], _ => rfl) (fun cdv A outer s H vs Q E hr h => ?_)
  refine ⟨_, (pss_cons (ps_asg (pv 1) (pg_tup rfl (pgs_cons (pg_name (i := 2) sc_tape_cost.nd rfl (by first | exact Or.inl rfl | exact Or.inr rfl)) (pgs_cons (pg_name (i := 3) sc_tape_cost.nd rfl (by first | exact Or.inl rfl | exact Or.inr rfl)) (pgs_cons (pg_name (i := 4) sc_tape_cost.nd rfl (by first | exact Or.inl rfl | exact Or.inr rfl)) (pgs_cons (pg_name (i := 5) sc_tape_cost.nd rfl (by first | exact Or.inl rfl | exact Or.inr rfl)) pgs_nil))))))
    (pss_cons (ps_set (i := 6) sc_tape_cost.nd rfl (by first | exact Or.inl rfl | exact Or.inr rfl) (pe_op op_addG pe_int (pe_ixK (K := K) (pe_dget (hu_of hr) (pe_fldK (K := K) (pv 0) rfl) pe_str (fun _ _ => rfl)) pe_int (fun _ _ => rfl))))
    (pss_cons (ps_set (i := 6) sc_tape_cost.nd rfl (by first | exact Or.inl rfl | exact Or.inr rfl) (pe_op op_addG (pv 6) (pc (has_pick_cost T) (hr.mono (by decide)) (pa_cons (pe_op op_addG (pe_m1 F.slot_str_find F.type_str_find mt_find (pe_fldK (K := K) (pv 0) rfl) (pv 4)) pe_int) (pa_cons (pe_op op_addG (pe_callB (call_lenK (K := K)) (by rfl) T.free_len PySem.boot_len (pa_cons (pe_fldK (K := K) (pv 0) rfl) pa_nil)) pe_int) pa_nil)))))
    (pss_cons (ps_set (i := 7) sc_tape_cost.nd rfl (by first | exact Or.inl rfl | exact Or.inr rfl) (pe_dget1 (hu_of hr) (pe_fldK (K := K) (pv 0) rfl) (pe_tup (pa_cons (pv 2) (pa_cons (pv 4) pa_nil))) ⟨rfl, rfl, rfl, rfl⟩))
    (pss_cons (ps_if (pt_cmp (pc_isN (pv 7))) (pss_one (ps_ret (pe_op op_addG (pv 6) (pe_ixK (K := K) (pe_dget (hu_of hr) (pe_fldK (K := K) (pv 0) rfl) pe_str (fun _ _ => rfl)) pe_int (fun _ _ => rfl))))) pss_nil)
    (pss_cons (ps_set (i := 8) sc_tape_cost.nd rfl (by first | exact Or.inl rfl | exact Or.inr rfl) (pv 3))
    (pss_cons (ps_if (pt_cmpR (op_eqSK (K := K) hr) (pe_ixK (K := K) (pv 7) pe_int (fun _ _ => rfl)) pe_str (nomark _)) (pss_one (ps_set (i := 8) sc_tape_cost.nd rfl (by first | exact Or.inl rfl | exact Or.inr rfl) (pv 5))) pss_nil)
    (pss_cons (ps_asg (pe_dget (hu_of hr) (pe_fldK (K := K) (pv 0) rfl) (pe_ixK (K := K) (pv 7) pe_int (fun _ _ => rfl)) (fun _ _ => rfl)) (pg_unl rfl (pgs_cons (pg_name (i := 9) sc_tape_cost.nd rfl (by first | exact Or.inl rfl | exact Or.inr rfl)) (pgs_cons (pg_name (i := 10) sc_tape_cost.nd rfl (by first | exact Or.inl rfl | exact Or.inr rfl)) (pgs_cons (pg_name (i := 11) sc_tape_cost.nd rfl (by first | exact Or.inl rfl | exact Or.inr rfl)) pgs_nil)))))
    (pss_cons (ps_set (i := 6) sc_tape_cost.nd rfl (by first | exact Or.inl rfl | exact Or.inr rfl) (pe_op op_addG (pe_op op_addG (pv 6) (pv 9)) (pc (has_next_cost T) (hr.mono (by decide)) (pa_cons (pv 0) (pa_cons (pe_ixK (K := K) (pv 7) pe_int (fun _ _ => rfl)) pa_nil)))))
    (pss_cons (ps_if (pt_cmpR (op_eqSK (K := K) hr) (pv 8) pe_str (nomark _)) (pss_one (ps_ret (pe_op op_addG (pe_op op_addG (pv 6) pe_int) (pv 10)))) pss_nil)
    (pss_one (ps_ret (pe_op op_addG (pe_op op_addG (pv 6) pe_int) (pv 11)))))))))))))), ?_⟩
  obtain ⟨as, d, ⟨tape, N, q, l, c, r, hN, ht, rfl, rfl⟩, hv, k⟩ := h
  obtain ⟨x, y, rfl, hx, hy⟩ := hv.i2
  have hy : Td H y (stD q l c r) := hy
  have ex : ∀ {H' o1 o2 o3 o4 o5 o6 o7 o8 o9 o10 o11}, Same H H' → Ev K (tVar 0) [some x, o1, o2, o3, o4, o5, o6, o7, o8, o9, o10, o11] H' (Ag.bf K tape N) := fun s => ev_var rfl (At.sm s hx)
  obtain ⟨ta, v1, v2, v3, v4, rfl, hyt, t1, t2, t3, t4⟩ := Td.t4 hy
  obtain rfl := Td.int_of t1
  obtain rfl := Td.str_of t2
  obtain rfl := Td.str_of t3
  obtain rfl := Td.str_of t4
  refine ⟨_, rfl, _, _, rfl, SqT.of hyt, rfl, _, _, rfl, _, _, rfl, _, _, rfl, _, _, rfl, rfl, ?_⟩
  dsimp only
  refine q_set (K := K) (a := .t (.int ((16 + costT chooP : Nat) : Int))) ?_ fun v H1 s1 h1 => ?_
  · exact (ev_addI (K := K) ev_int (ev_ixL (ds := coD [chooP]) (i := 0) (ev_wd (K := K) (x := "state") (ev_bkCosts T (ex (Same.refl _)).bk) ev_str (by simp [coW])) ev_int rfl)).nat (by omega)
  obtain rfl := Td.int_of h1
  refine q_set (K := K) (a := .t (.int ((16 + costT chooP + Tr.pickCost (sIx c) 4 : Nat) : Int))) ?_ fun v H2 s2 h2 => ?_
  · have e1 := ev_addI (K := K) (i := Txt.find (sw sgn) (sw [c])) (j := 1) (ev_find (K := K) (ev_bkSigns T (ex s1).bk) (vS (i := 4) (σ := [some x, some (.ref ta), some (.int q), some (.str (sw l)), some (.str (sw [c])), some (.str (sw r)), some (.int ((16 + costT chooP : Nat) : Int)), none, none, none, none, none]) rfl)) ev_int
    rw [find_sg] at e1
    exact (ev_addI (K := K) (vI rfl) (ev_call (F := f_pick_cost) ⟨sIx c, 4, sIx_lt c, by decide, rfl, rfl⟩ (ea_cons e1 (ea_cons (ev_addI (i := 3) (j := 1) ((ev_lenS (ev_bkSigns T (ex s1).bk) (by decide)).is rfl) ev_int) ea_nil)))).nat (by omega)
  obtain rfl := Td.int_of h2
  have s12 := s1.trans s2
  refine q_set (K := K) (ev_act (ev_bkActs T (ex s12).bk) (vI rfl) (vS rfl)) fun va H3 s3 h3 => ?_
  have h3 : Td H3 va (optAct (actT tape q c)) := h3
  have s13 := s12.trans s3
  cases ea : actT tape q c with
  | none =>
    rw [ea] at h3
    have et : tcT tape N q l c r = 16 + costT chooP + Tr.pickCost (sIx c) 4 + costT endP := by unfold tcT; rw [ea]
    rw [et] at k
    refine q_ifT ((eb_B (ev_isN (K := K) (r := true) (vD rfl h3) rfl)).is rfl) fun H4 s4 => ?_
    have s14 := s13.trans s4
    refine st_ret (K := K) ((ev_addI (K := K) (vI rfl) (ev_ixL (ds := coD [endP]) (i := 0) (ev_wd (K := K) (x := "end") (ev_bkCosts T (ex s14).bk) ev_str (by simp [coW])) ev_int rfl)).nat (by omega)) fun u H5 s5 h5 => k u H5 (s14.trans s5) h5
  | some a =>
    obtain ⟨wr, m, g⟩ := a
    rw [ea] at h3
    have hg : g < N := by
      unfold actT at ea
      cases e : tape.reverse.find? (fun t => decide (t.s = q ∧ t.c = c)) with
      | none => rw [e] at ea; cases ea
      | some t =>
        rw [e] at ea
        cases ea
        exact ht t (List.mem_reverse.mp (List.mem_of_find?_eq_some e))
    have h3 : Td H3 va (.tuple [.str (sw [wr]), .str (mvD m), .int (g : Nat)]) := h3
    refine q_ifN ((eb_B (ev_isN (K := K) (r := false) (vD rfl h3) rfl)).is rfl) fun H4 s4 => ?_
    have s14 := s13.trans s4
    have act1 : ∀ {H' o8 o9 o10 o11 n}, Same H4 H' → Ev K (tOp (rIx K) (tVar 7) (tC (.int 1))) [some x, some (.ref ta), some (.int q), some (.str (sw l)), some (.str (sw [c])), some (.str (sw r)), some (.int n), some va, o8, o9, o10, o11] H' (.t (.str (mvD m))) := fun s => ev_ixT (i := 1) (vD rfl (h3.sm (s4.trans s))) ev_int rfl
    have act2 : ∀ {H' o8 o9 o10 o11 n}, Same H4 H' → Ev K (tOp (rIx K) (tVar 7) (tC (.int 2))) [some x, some (.ref ta), some (.int q), some (.str (sw l)), some (.str (sw [c])), some (.str (sw r)), some (.int n), some va, o8, o9, o10, o11] H' (.t (.int g)) := fun s => ev_ixT (i := 2) (vD rfl (h3.sm (s4.trans s))) ev_int rfl
    refine q_set (K := K) (vS rfl) fun v5 H5 s5 h5 => ?_
    obtain rfl := Td.str_of h5
    -- ahead
    have rest : ∀ (z : List Lt) (H6 : Hp), z = (if m = true then r else l) → Same H5 H6 → ∀ D : Ends, D.rt = Q → ∀ t2 : TS, t2 = (tSeq (tAsg (tDGet (tFld K (tVar 0) "costs") (tOp (rIx K) (tVar 7) (tC (.int 1)))) (gUnl K 3 (gCons (gName 9) (gCons (gName 10) (gCons (gName 11) gNil)))))
        (tSeq (tAsg (tOp rAddG (tOp rAddG (tVar 6) (tVar 9)) (tCall (SpT K (f_next_cost K)) [] E0 (tCons (tVar 0) (tCons (tOp (rIx K) (tVar 7) (tC (.int 2))) tNil)))) (gName 6))
        (tSeq (tIfS (tTest (tOp (rEqG K 200) (tVar 8) (tC (.str "")))) (tRet (tOp rAddG (tOp rAddG (tVar 6) (tC (.int 1))) (tVar 10))) tNext) (tRet (tOp rAddG (tOp rAddG (tVar 6) (tC (.int 7))) (tVar 11)))))) →
        t2 D [some x, some (.ref ta), some (.int q), some (.str (sw l)), some (.str (sw [c])), some (.str (sw r)), some (.int ((16 + costT chooP + Tr.pickCost (sIx c) 4 : Nat) : Int)), some va, some (.str (sw z)), none, none, none] H6 := fun z H6 hz s6 D hD t2 ht2 => by
      subst ht2
      have s46 := s5.trans s6
      have s16 := s14.trans s46
      have ec : Ev K (tDGet (tFld K (tVar 0) "costs") (tOp (rIx K) (tVar 7) (tC (.int 1)))) [some x, some (.ref ta), some (.int q), some (.str (sw l)), some (.str (sw [c])), some (.str (sw r)), some (.int ((16 + costT chooP + Tr.pickCost (sIx c) 4 : Nat) : Int)), some va, some (.str (sw z)), none, none, none] H6 (.l (coD [sideP m, bareP m, cellP m])) := by
        refine ev_wd (K := K) (x := mvD m) (ev_bkCosts T (ex s16).bk) (act1 s46) ?_
        cases m <;> simp [coW, mvD]
      refine ec H6 (Same.refl _) _ fun u H7 s7 ⟨fa, xs, e, hs, hxs⟩ => ?_
      subst e
      obtain rfl : xs = [.int (costT (sideP m) : Nat), .int (costT (bareP m) : Nat), .int (costT (cellP m) : Nat)] := TdAll.ints_of (ns := [((costT (sideP m) : Nat) : Int), ((costT (bareP m) : Nat) : Int), ((costT (cellP m) : Nat) : Int)]) hxs
      refine ⟨fa, _, rfl, hs, rfl, _, _, rfl, _, _, rfl, _, _, rfl, rfl, ?_⟩
      have s47 := s46.trans s7
      dsimp only
      refine q_set (K := K) (a := .t (.int ((16 + costT chooP + Tr.pickCost (sIx c) 4 + costT (sideP m) + ncT N g : Nat) : Int))) ?_ fun v8 H8 s8 h8 => ?_
      · exact (ev_addI (K := K) (ev_addI (vI rfl) (vI rfl)) (ev_call (F := f_next_cost K) ⟨tape, N, g, hg, hN, rfl, rfl⟩ (ea_cons (ex (s14.trans s47)) (ea_cons (act2 s47) ea_nil)))).nat (by omega)
      obtain rfl := Td.int_of h8
      have ez := (eb_test (ev_eqZ (K := K) (H := H8) (x := sw z) (y := sw []) (vS (i := 8) (σ := [some x, some (.ref ta), some (.int q), some (.str (sw l)), some (.str (sw [c])), some (.str (sw r)), some (.int ((16 + costT chooP + Tr.pickCost (sIx c) 4 + costT (sideP m) + ncT N g : Nat) : Int)), some va, some (.str (sw z)), some (.int (costT (sideP m) : Nat)), some (.int (costT (bareP m) : Nat)), some (.int (costT (cellP m) : Nat))]) rfl) (tb := tC (.str "")) ev_str (sw_lay _) (sw_lay _))).is (sw_beq _ _)
      by_cases hz0 : z = []
      · have et : tcT tape N q l c r = 16 + costT chooP + Tr.pickCost (sIx c) 4 + costT (sideP m) + ncT N g + 1 + costT (bareP m) := by unfold tcT; rw [ea]; show (if (if m = true then r else l) = [] then _ else _) = _; rw [if_pos (hz ▸ hz0)]
        rw [et] at k
        refine q_ifT (ez.is (decide_eq_true hz0)) fun H9 s9 => ?_
        refine st_ret (K := K) ((ev_addI (K := K) (ev_addI (vI rfl) ev_int) (vI rfl)).nat (n := 16 + costT chooP + Tr.pickCost (sIx c) 4 + costT (sideP m) + ncT N g + 1 + costT (bareP m)) (by omega)) fun u H10 s10 h10 => ?_
        show D.rt u H10
        rw [hD]
        exact k u H10 (s14.trans (s47.trans (s8.trans (s9.trans s10)))) h10
      · have et : tcT tape N q l c r = 16 + costT chooP + Tr.pickCost (sIx c) 4 + costT (sideP m) + ncT N g + 7 + costT (cellP m) := by unfold tcT; rw [ea]; show (if (if m = true then r else l) = [] then _ else _) = _; rw [if_neg (hz ▸ hz0)]
        rw [et] at k
        refine q_ifN (ez.is (decide_eq_false hz0)) fun H9 s9 => ?_
        refine st_ret (K := K) ((ev_addI (K := K) (ev_addI (vI rfl) ev_int) (vI rfl)).nat (n := 16 + costT chooP + Tr.pickCost (sIx c) 4 + costT (sideP m) + ncT N g + 7 + costT (cellP m)) (by omega)) fun u H10 s10 h10 => ?_
        rw [hD]
        exact k u H10 (s14.trans (s47.trans (s8.trans (s9.trans s10)))) h10
    have em : ∀ {H' o8}, Same H4 H' → Eb (tTest (tOp (rEqG K 200) (tOp (rIx K) (tVar 7) (tC (.int 1))) (tC (.str "r")))) [some x, some (.ref ta), some (.int q), some (.str (sw l)), some (.str (sw [c])), some (.str (sw r)), some (.int ((16 + costT chooP + Tr.pickCost (sIx c) 4 : Nat) : Int)), some va, o8, none, none, none] H' m := fun s => (eb_test (ev_eqZ (K := K) (x := mvD m) (y := "r") (act1 s) ev_str (by cases m <;> decide +kernel) (by decide +kernel))).is (by cases m <;> decide +kernel)
    cases m with
    | true =>
      refine q_ifT (em s5) fun H6 s6 => st_set (K := K) (vS rfl) fun v7 H7 s7 h7 => ?_
      obtain rfl := Td.str_of h7
      exact rest r H7 rfl (s6.trans s7) { nx := fun _ H' => Q .non H', rt := Q } rfl _ rfl
    | false =>
      refine q_ifN (em s5) fun H6 s6 => ?_
      exact rest l H6 rfl s6 { nx := fun _ H' => Q .non H', rt := Q } rfl _ rfl
end
end My

/-! W25: what trees tell, walked. -/
namespace My
open PySem PySem.Spec PyProof.Rows L2
section
variable {P : Program} {w : World} {K : PySem.W.Frag} {mg : Str → Option Value} {base : Heap}
theorem rdL_app : ∀ (a b : List Tr), rdL (a ++ b) = (rdL a).bind fun l => (rdL b).map (l ++ ·)
  | [], b => by cases e : rdL b <;> simp [rdL, e]
  | x :: a, b => by
    show (match Tr.pickedT x 4 with | none => none | some k => (rdL (a ++ b)).map (ltI k :: ·)) = _
    cases e : Tr.pickedT x 4 with
    | none => simp [rdL, e]
    | some k =>
      simp only [rdL, e, rdL_app a b]
      cases rdL a with
      | none => rfl
      | some l => cases rdL b <;> simp
theorem rdL_none {a : Tr} : ∀ (ts : List Tr), a ∈ ts → Tr.pickedT a 4 = none → rdL ts = none
  | x :: xs, h, e => by
    show (match Tr.pickedT x 4 with | none => none | some k => (rdL xs).map (ltI k :: ·)) = _
    rcases List.mem_cons.mp h with z | z
    · rw [← z, e]
    · rw [rdL_none xs z e]
      split <;> rfl
theorem at_sg {k : Nat} (h : k < 4) : atI (sw (.u :: sgn)).cps.toList (k : Int) = some (ltI k).code := by
  match k, h with
  | 0, _ => decide +kernel
  | 1, _ => decide +kernel
  | 2, _ => decide +kernel
  | 3, _ => decide +kernel

def f_side_told (K : PySem.W.Frag) : Gr := fun as d => ∃ (tape : List TR) (N : Nat) (t : Tr), t.depth ≤ 1000000 ∧ as = [Ag.bf K tape N, .t t.d] ∧ d = optW (sideTold t)
theorem len_side_told {as : List Ag} {d : PyData} (h : f_side_told K as d) : as.length = 2 := by obtain ⟨_, _, _, _, rfl, _⟩ := h; rfl
theorem ev_sgs {σ : L2.St} {H : Hp} {te tk : TE} {tape : List TR} {N k : Nat} (T : Txt P w K mg base) (h : Ev K te σ H (Ag.bf K tape N)) (h2 : Ev K tk σ H (.t (.int k))) (hk : k < 4) : Ev K (tOp (rIx K) (tOp rAddG (tC (.str "_")) (tFld K te "signs")) tk) σ H (.t (.str (sw [ltI k]))) :=
  ev_ixS (z := sw (.u :: sgn)) (i := (k : Int)) (c := (ltI k).code) (ev_addS (i := sw [.u]) (j := sw sgn) ev_str (ev_bkSigns T h.bk) (by decide)) h2 (by decide) (at_sg hk)
theorem sc_side_told : FnScope ["book", "tree", "things", "text", "thing", "k"] ["book", "tree"] (defScope st_side_told) := ⟨rfl, rfl, rfl, by decide +kernel, rfl, by decide +kernel, by decide +kernel⟩
theorem has_side_told (T : Txt P w K mg base) : Has P w K mg base "side_told" ["book", "tree"] 8 (SpT K (f_side_told K)) := by
  refine has_mk T.glo_side_told (T.c.def_ 53 (d := d_side_told) rfl) sc_side_told (SpT.len (fun as d h => by exact len_side_told h)) (fun _ _ _ _ _ _ us hl => match us, hl with | [_, _], _ => rfl) (fun cdv A outer s H vs Q E hr h => ?_)
  refine ⟨_, (pss_cons (ps_set (i := 2) sc_side_told.nd rfl (by first | exact Or.inl rfl | exact Or.inr rfl) (pc (has_things_of T) (hr.mono (by decide)) (pa_cons (pv 1) pa_nil)))
    (pss_cons (ps_if (pt_cmp (pc_isN (pv 2))) (pss_one (ps_ret pe_non)) pss_nil)
    (pss_cons (ps_set (i := 3) sc_side_told.nd rfl (by first | exact Or.inl rfl | exact Or.inr rfl) pe_str)
    (pss_cons (ps_for PassesOwn.never rfl (pi_list (pv 2)) (pg_name (i := 4) sc_side_told.nd rfl (by first | exact Or.inl rfl | exact Or.inr rfl))
    (pss_cons (ps_set (i := 5) sc_side_told.nd rfl (by first | exact Or.inl rfl | exact Or.inr rfl) (pc (has_picked T) (hr.mono (by decide)) (pa_cons (pv 4) (pa_cons (pe_op op_addG (pe_callB (call_lenK (K := K)) (by rfl) T.free_len PySem.boot_len (pa_cons (pe_fldK (K := K) (pv 0) rfl) pa_nil)) pe_int) pa_nil))))
    (pss_cons (ps_if (pt_cmp (pc_isN (pv 5))) (pss_one (ps_ret pe_non)) pss_nil)
    (pss_one (ps_set (i := 3) sc_side_told.nd rfl (by first | exact Or.inl rfl | exact Or.inr rfl) (pe_op op_addG (pv 3) (pe_ixK (K := K) (pe_op op_addG pe_str (pe_fldK (K := K) (pv 0) rfl)) (pv 5) (fun _ _ => rfl))))))))
    (pss_one (ps_ret (pv 3))))))), ?_⟩
  obtain ⟨as, d, ⟨tape, N, t, hd, rfl, rfl⟩, hv, k⟩ := h
  obtain ⟨x, y, rfl, hx, hy⟩ := hv.i2
  have hy : Td H y t.d := hy
  have ex : ∀ {H' o2 o3 o4 o5}, Same H H' → Ev K (tVar 0) [some x, some y, o2, o3, o4, o5] H' (Ag.bf K tape N) := fun s => ev_var rfl (At.sm s hx)
  refine q_things (K := K) (vD rfl hy) (by omega) (fun e H1 s1 => ?_) (fun ts e p xs H1 hp s1 h1 t1 => ?_)
  · have es : sideTold t = none := by unfold sideTold; rw [e]; rfl
    rw [es] at k
    exact q_ifT (eb_isNn rfl) fun H2 s2 => st_ret (K := K) ev_non fun v H3 s3 h3 => k v H3 (s1.trans (s2.trans s3)) h3
  · have es : sideTold t = rdL ts := by unfold sideTold; rw [e]; rfl
    rw [es] at k
    obtain ⟨hl, hx2⟩ := thT_dep t ts e
    refine q_ifN (eb_isNl rfl) fun H2 s2 => ?_
    refine q_set (K := K) ev_str fun v H3 s3 h3 => ?_
    obtain rfl := Td.str_of h3
    have s13 := s2.trans s3
    refine q_for (wk_list (K := K) (Hb := H1) (ds := trs ts) (ev_ref rfl) (SqL.of h1) t1 s13)
      (fun i σ' H' => ∃ ls o4 o5, σ' = [some x, some y, some (.ref p), some (.str (sw ls)), o4, o5] ∧ Same H1 H' ∧ rdL (ts.take i) = some ls ∧ ls.length ≤ i)
      (fun H4 s4 => ⟨[], none, none, rfl, s13.trans s4, rfl, Nat.le_refl _⟩) (fun i σ' H' ⟨_, _, _, _, s, _⟩ => s) ?_ ?_
    · rintro i d z σ' H4 H5 hd2 hz ⟨ls, o4, o5, rfl, s4, hls, hll⟩ s5
      obtain ⟨a, ha, rfl⟩ : ∃ a, ts[i]? = some a ∧ d = a.d := by
        unfold trs at hd2
        rw [List.getElem?_map] at hd2
        cases e : ts[i]? with
        | none => rw [e] at hd2; cases hd2
        | some r => rw [e] at hd2; cases hd2; exact ⟨r, rfl, rfl⟩
      have hil : i < ts.length := (List.getElem?_eq_some_iff.mp ha).1
      have had := hx2 a (List.mem_of_getElem? ha)
      have s15 := s4.trans s5
      have etk : ts.take (i + 1) = ts.take i ++ [a] := by rw [List.take_add_one, ha]; rfl
      refine q_set (K := K) (ev_call (F := f_picked) ⟨a, 4, by decide, by omega, rfl, rfl⟩ (ea_cons (vD rfl hz) (ea_cons (ev_addI (i := 3) (j := 1) ((ev_lenS (ev_bkSigns T (ex (s1.trans s15)).bk) (by decide)).is rfl) ev_int) ea_nil))) fun v6 H6 s6 h6 => ?_
      have h6 : Td H6 v6 (optI (Tr.pickedT a 4)) := h6
      cases ep : Tr.pickedT a 4 with
      | none =>
        rw [ep] at h6
        have en : rdL ts = none := rdL_none ts (List.mem_of_getElem? ha) ep
        rw [en] at k
        refine q_ifT ((eb_B (ev_isN (K := K) (r := true) (vD rfl h6) rfl)).is rfl) fun H7 s7 => st_ret (K := K) ev_non fun v H8 s8 h8 => k v H8 (s1.trans (s15.trans (s6.trans (s7.trans s8)))) h8
      | some j =>
        rw [ep] at h6
        have hj := picked_lt ep
        obtain rfl := Td.int_of (show Td H6 v6 (.int (j : Nat)) from h6)
        refine q_ifN ((eb_B (ev_isN (K := K) (r := false) (vI rfl) rfl)).is rfl) fun H7 s7 => ?_
        refine st_set (K := K) (a := .t (.str (sw (ls ++ [ltI j])))) ?_ fun v8 H8 s8 h8 => ?_
        · have := ev_addS (K := K) (ta := tVar 3) (i := sw ls) (j := sw [ltI j]) (vS rfl) (ev_sgs (tk := tVar 5) (σ := [some x, some y, some (.ref p), some (.str (sw ls)), some z, some (.int j)]) T (ex (s1.trans (s15.trans (s6.trans s7)))) (vI rfl) hj) (by rw [sw_len, sw_len, sizeLine_eq, List.length_singleton]; omega)
          rw [sw_app] at this
          exact this
        · obtain rfl := Td.str_of h8
          refine ⟨_, _, _, rfl, s15.trans (s6.trans (s7.trans s8)), ?_, by rw [List.length_append, List.length_singleton]; omega⟩
          rw [etk, rdL_app, hls]
          simp [rdL, ep]
    · rintro σ' H4 ⟨ls, o4, o5, rfl, s4, hls, hll⟩
      rw [trs_len, List.take_length] at hls
      rw [hls] at k
      exact st_ret (K := K) (vS rfl) fun v H5 s5 h5 => k v H5 (s1.trans (s4.trans s5)) h5
def f_stand_told (K : PySem.W.Frag) : Gr := fun as d => ∃ (tape : List TR) (N : Nat) (kk : Option Nat) (a b c : Tr), (∀ j, kk = some j → j < N) ∧ a.depth ≤ 1000000 ∧ b.depth ≤ 1000000 ∧ c.depth ≤ 1000000 ∧ as = [Ag.bf K tape N, .t (optI kk), .l (trs [a, b, c])] ∧ d = standTold kk a b c
theorem len_stand_told {as : List Ag} {d : PyData} (h : f_stand_told K as d) : as.length = 3 := by obtain ⟨_, _, _, _, _, _, _, _, _, _, rfl, _⟩ := h; rfl
def isNo {α : Type} : Option α → Bool
  | none => true
  | some _ => false
theorem isNo_I (o : Option Nat) : isNonD (optI o) = isNo o := by cases o <;> rfl
theorem isNo_W (o : Option (List Lt)) : isNonD (optW o) = isNo o := by cases o <;> rfl
theorem standTold_no {kk : Option Nat} {a b c : Tr} (h : (isNo kk || (isNo (sideTold a) || (isNo (Tr.pickedT b 4) || isNo (sideTold c)))) = true) : standTold kk a b c = .none := by
  unfold standTold
  cases kk with
  | none => rfl
  | some j =>
    cases e2 : sideTold a with
    | none => rfl
    | some l =>
      cases e3 : Tr.pickedT b 4 with
      | none => rfl
      | some s =>
        cases e4 : sideTold c with
        | none => rfl
        | some r => rw [e2, e3, e4] at h; cases h
theorem rdL_len : ∀ (ts : List Tr) (l : List Lt), rdL ts = some l → l.length = ts.length
  | [], l, h => by cases h; rfl
  | x :: xs, l, h => by
    unfold rdL at h
    split at h
    · cases h
    · cases e : rdL xs with
      | none => rw [e] at h; cases h
      | some m => rw [e] at h; cases h; rw [List.length_cons, List.length_cons, rdL_len xs m e]
theorem side_len {t : Tr} {l : List Lt} (h : sideTold t = some l) : l.length ≤ t.depth := by
  unfold sideTold at h
  cases e : Tr.thT t with
  | none => rw [e] at h; cases h
  | some ts =>
    rw [e] at h
    have h : rdL ts = some l := h
    rw [rdL_len ts l h]
    exact (thT_dep t ts e).1
theorem sc_stand_told : FnScope ["book", "k", "sides", "left", "sign", "right"] ["book", "k", "sides"] (defScope st_stand_told) := ⟨rfl, rfl, rfl, by decide +kernel, rfl, by decide +kernel, by decide +kernel⟩
theorem has_stand_told (T : Txt P w K mg base) : Has P w K mg base "stand_told" ["book", "k", "sides"] 9 (SpT K (f_stand_told K)) := by
  refine has_mk T.glo_stand_told (T.c.def_ 54 (d := d_stand_told) rfl) sc_stand_told (SpT.len (fun as d h => by exact len_stand_told h)) (fun _ _ _ _ _ _ us hl => match us, hl with | [_, _, _], _ => rfl) (fun cdv A outer s H vs Q E hr h => ?_)
  refine ⟨_, (pss_cons (ps_set (i := 3) sc_stand_told.nd rfl (by first | exact Or.inl rfl | exact Or.inr rfl) (pc (has_side_told T) (hr.mono (by decide)) (pa_cons (pv 0) (pa_cons (pe_ixK (K := K) (pv 2) pe_int (fun _ _ => rfl)) pa_nil))))
    (pss_cons (ps_set (i := 4) sc_stand_told.nd rfl (by first | exact Or.inl rfl | exact Or.inr rfl) (pc (has_picked T) (hr.mono (by decide)) (pa_cons (pe_ixK (K := K) (pv 2) pe_int (fun _ _ => rfl)) (pa_cons (pe_op op_addG (pe_callB (call_lenK (K := K)) (by rfl) T.free_len PySem.boot_len (pa_cons (pe_fldK (K := K) (pv 0) rfl) pa_nil)) pe_int) pa_nil))))
    (pss_cons (ps_set (i := 5) sc_stand_told.nd rfl (by first | exact Or.inl rfl | exact Or.inr rfl) (pc (has_side_told T) (hr.mono (by decide)) (pa_cons (pv 0) (pa_cons (pe_ixK (K := K) (pv 2) pe_int (fun _ _ => rfl)) pa_nil))))
    (pss_cons (ps_if (PW.pt (pw_or (pt_cmp (pc_isN (pv 1))) (pw_or (pt_cmp (pc_isN (pv 3))) (pw_or (pt_cmp (pc_isN (pv 4))) (pw_or1 (pt_cmp (pc_isN (pv 5)))))))) (pss_one (ps_ret pe_non)) pss_nil)
    (pss_one (ps_ret (pe_tup (pa_cons (pe_ixK (K := K) (pe_fldK (K := K) (pv 0) rfl) (pv 1) (fun _ _ => rfl)) (pa_cons (pe_revS (pv 3)) (pa_cons (pe_ixK (K := K) (pe_op op_addG pe_str (pe_fldK (K := K) (pv 0) rfl)) (pv 4) (fun _ _ => rfl)) (pa_cons (pv 5) pa_nil))))))))))), ?_⟩
  obtain ⟨as, d, ⟨tape, N, kk, a, b, c, hk, da, db, dc, rfl, rfl⟩, hv, k⟩ := h
  obtain ⟨x, y, z, rfl, hx, hy, hz⟩ := hv.i3
  have hy : Td H y (optI kk) := hy
  obtain ⟨pz, xs, rfl, hps, tps⟩ := hz
  have ex : ∀ {H' o2 o3 o4 o5}, Same H H' → Ev K (tVar 0) [some x, some y, o2, o3, o4, o5] H' (Ag.bf K tape N) := fun s => ev_var rfl (At.sm s hx)
  have ez : ∀ {H' o3 o4 o5}, Same H H' → Ev K (tVar 2) [some x, some y, some (.ref pz), o3, o4, o5] H' (.l (trs [a, b, c])) := fun s => ev_var rfl (show At K _ (.ref pz) (.l _) from ⟨pz, xs, rfl, s.seq hps, tps.sm s⟩)
  refine q_set (K := K) (ev_call (F := f_side_told K) ⟨tape, N, a, da, rfl, rfl⟩ (ea_cons (ex (Same.refl _)) (ea_cons (ev_ixL (i := 0) (ez (Same.refl _)) ev_int rfl) ea_nil))) fun v1 H1 s1 h1 => ?_
  have h1 : Td H1 v1 (optW (sideTold a)) := h1
  refine q_set (K := K) (ev_call (F := f_picked) ⟨b, 4, by decide, db, rfl, rfl⟩ (ea_cons (ev_ixL (i := 1) (ez s1) ev_int rfl) (ea_cons (ev_addI (i := 3) (j := 1) ((ev_lenS (ev_bkSigns T (ex s1).bk) (by decide)).is rfl) ev_int) ea_nil))) fun v2 H2 s2 h2 => ?_
  have h2 : Td H2 v2 (optI (Tr.pickedT b 4)) := h2
  have s12 := s1.trans s2
  refine q_set (K := K) (ev_call (F := f_side_told K) ⟨tape, N, c, dc, rfl, rfl⟩ (ea_cons (ex s12) (ea_cons (ev_ixL (i := 2) (ez s12) ev_int rfl) ea_nil))) fun v3 H3 s3 h3 => ?_
  have h3 : Td H3 v3 (optW (sideTold c)) := h3
  have s13 := s12.trans s3
  have eb : Eb (tOr (tB (tIsN (tVar 1))) (tOr (tB (tIsN (tVar 3))) (tOr (tB (tIsN (tVar 4))) (tB (tIsN (tVar 5)))))) [some x, some y, some (.ref pz), some v1, some v2, some v3] H3 (isNo kk || (isNo (sideTold a) || (isNo (Tr.pickedT b 4) || isNo (sideTold c)))) :=
    eb_or (eb_B (ev_isN (K := K) (vD rfl (hy.sm s13)) (isNo_I kk))) fun _ => eb_or (eb_B (ev_isN (K := K) (vD rfl (h1.sm (s2.trans s3))) (isNo_W _))) fun _ => eb_or (eb_B (ev_isN (K := K) (vD rfl (h2.sm s3)) (isNo_I _))) fun _ => eb_B (ev_isN (K := K) (vD rfl h3) (isNo_W _))
  by_cases hall : (isNo kk || (isNo (sideTold a) || (isNo (Tr.pickedT b 4) || isNo (sideTold c)))) = true
  · have es : standTold kk a b c = .none := standTold_no hall
    rw [es] at k
    exact q_ifT (eb.is hall) fun H4 s4 => st_ret (K := K) ev_non fun v H5 s5 h5 => k v H5 (s13.trans (s4.trans s5)) h5
  · obtain ⟨j, l, sg, r, rfl, e2, e3, e4⟩ : ∃ j l sg r, kk = some j ∧ sideTold a = some l ∧ Tr.pickedT b 4 = some sg ∧ sideTold c = some r := by
      cases kk with
      | none => exact absurd rfl hall
      | some j =>
        cases e2 : sideTold a with
        | none => rw [e2] at hall; exact absurd rfl hall
        | some l =>
          cases e3 : Tr.pickedT b 4 with
          | none => rw [e2, e3] at hall; exact absurd rfl hall
          | some sg =>
            cases e4 : sideTold c with
            | none => rw [e2, e3, e4] at hall; exact absurd rfl hall
            | some r => exact ⟨j, l, sg, r, rfl, rfl, rfl, rfl⟩
    have es : standTold (some j) a b c = stD j l.reverse (ltI sg) r := by unfold standTold; rw [e2, e3, e4]
    rw [es] at k
    rw [e2] at h1
    rw [e3] at h2
    rw [e4] at h3
    obtain rfl := Td.int_of (show Td H y (.int (j : Nat)) from hy)
    obtain rfl := Td.str_of (show Td H1 v1 (.str (sw l)) from h1)
    obtain rfl := Td.int_of (show Td H2 v2 (.int (sg : Nat)) from h2)
    obtain rfl := Td.str_of (show Td H3 v3 (.str (sw r)) from h3)
    refine q_ifN (eb.is (by rw [e2, e3, e4]; rfl)) fun H4 s4 => ?_
    have s14 := s13.trans s4
    have hll := side_len e2
    refine st_ret (ev_tup (K := K) (ds := [.int (j : Nat), .str (sw l.reverse), .str (sw [ltI sg]), .str (sw r)]) (ea_cons (ev_ixL (ev_bkStates T (ex s14).bk) (vI rfl) (at_range _ (hk j rfl))) (ea_cons ((ev_revS (z := sw l) (vS rfl) (by rw [sw_len, sizeLine_eq]; omega)).is (by rw [revS_sw])) (ea_cons (ev_sgs (tk := tVar 4) (σ := [some x, some (.int j), some (.ref pz), some (.str (sw l)), some (.int sg), some (.str (sw r))]) T (ex s14) (vI rfl) (picked_lt e3)) (ea_cons (vS rfl) ea_nil)))) (Nat.le_of_ble_eq_true rfl)) fun v H5 s5 h5 => k v H5 (s14.trans s5) h5
def f_state_told (K : PySem.W.Frag) : Gr := fun as d => ∃ (tape : List TR) (N : Nat) (t : Tr), N ≤ 90 ∧ (∀ q, q < N → (stT tape N q).depth ≤ 500) ∧ t.depth ≤ 1000000 ∧ as = [Ag.bf K tape N, .t t.d] ∧ d = optI (stateTold tape N t)
theorem len_state_told {as : List Ag} {d : PyData} (h : f_state_told K as d) : as.length = 2 := by obtain ⟨_, _, _, _, _, _, rfl, _⟩ := h; rfl
theorem ev_neT5 {σ : L2.St} {H : Hp} {ta tb : TE} {t u : Tr} (h : Ev K ta σ H (.t t.d)) (h2 : Ev K tb σ H (.t u.d)) (hn : u.depth ≤ 500) : Ev K (tOp (rNeG K 500) ta tb) σ H (.t (.bool (!decide (t = u)))) := ev_neT h h2 hn
theorem sc_state_told : FnScope ["book", "tree", "things", "k"] ["book", "tree"] (defScope st_state_told) := ⟨rfl, rfl, rfl, by decide +kernel, rfl, by decide +kernel, by decide +kernel⟩
theorem has_state_told (T : Txt P w K mg base) : Has P w K mg base "state_told" ["book", "tree"] 20 (SpT K (f_state_told K)) := by
  refine has_mk T.glo_state_told (T.c.def_ 55 (d := d_state_told) rfl) sc_state_told (SpT.len (fun as d h => by exact len_state_told h)) (fun _ _ _ _ _ _ us hl => match us, hl with | [_, _], _ => rfl) (fun cdv A outer s H vs Q E hr h => ?_)
  refine ⟨_, (pss_cons (ps_set (i := 2) sc_state_told.nd rfl (by first | exact Or.inl rfl | exact Or.inr rfl) (pc (has_unfolded T) (hr.mono (by decide)) (pa_cons (pv 1) pa_nil)))
    (pss_cons (ps_if (PW.pt (pw_or (pt_cmp (pc_isN (pv 2))) (pw_or1 (pt_cmpR (op_neSK (K := K) hr) (pe_callB (call_lenK (K := K)) (by rfl) T.free_len PySem.boot_len (pa_cons (pv 2) pa_nil)) pe_int (nomark _))))) (pss_one (ps_ret pe_non)) pss_nil)
    (pss_cons (ps_set (i := 3) sc_state_told.nd rfl (by first | exact Or.inl rfl | exact Or.inr rfl) (pc (has_picked T) (hr.mono (by decide)) (pa_cons (pe_ixK (K := K) (pv 2) pe_int (fun _ _ => rfl)) (pa_cons (pe_callB (call_lenK (K := K)) (by rfl) T.free_len PySem.boot_len (pa_cons (pe_fldK (K := K) (pv 0) rfl) pa_nil)) pa_nil))))
    (pss_cons (ps_if (PW.pt (pw_or (pt_cmp (pc_isN (pv 3))) (pw_or1 (pt_cmpR (op_neNK (K := K) 500 hr (by decide)) (pv 1) (pc (has_state_tree T) (hr.mono (by decide)) (pa_cons (pv 0) (pa_cons (pe_ixK (K := K) (pe_fldK (K := K) (pv 0) rfl) (pv 3) (fun _ _ => rfl)) pa_nil))) (nomark _))))) (pss_one (ps_ret pe_non)) pss_nil)
    (pss_one (ps_ret (pv 3))))))), ?_⟩
  obtain ⟨as, d, ⟨tape, N, t, hN, hst, hd, rfl, rfl⟩, hv, k⟩ := h
  obtain ⟨x, y, rfl, hx, hy⟩ := hv.i2
  have hy : Td H y t.d := hy
  have ex : ∀ {H' o2 o3}, Same H H' → Ev K (tVar 0) [some x, some y, o2, o3] H' (Ag.bf K tape N) := fun s => ev_var rfl (At.sm s hx)
  refine q_unf (K := K) (vD rfl hy) (by omega) (fun e H1 s1 => ?_) (fun ts e p xs H1 hp s1 h1 t1 => ?_)
  · have es : stateTold tape N t = none := by unfold stateTold; rw [e]
    rw [es] at k
    exact q_ifT ((eb_or (a := true) (b := true) (eb_isNn rfl) fun z => nomatch z).is rfl) fun H2 s2 => st_ret (K := K) ev_non fun v H3 s3 h3 => k v H3 (s1.trans (s2.trans s3)) h3
  · have et : ∀ {H' o3}, Same H1 H' → Ev K (tVar 2) [some x, some y, some (.ref p), o3] H' (.l (trs ts)) := fun s => ev_var rfl (show At K _ (.ref p) (.l _) from ⟨p, xs, rfl, SqL.of (s _ _ h1), t1.sm s⟩)
    have eb : Eb (tOr (tB (tIsN (tVar 2))) (tTest (tOp (rNeG K 200) (tCB (rLenK K) (tCons (tVar 2) tNil)) (tC (.int 3))))) [some x, some y, some (.ref p), none] H1 (!decide (ts.length = 3)) :=
      (eb_or (a := false) (eb_isNl rfl) fun _ => eb_test (ev_neI (K := K) (i := ts.length) (j := 3) (ev_len (et (Same.refl _)) (trs_len ts)) ev_int)).is rfl
    by_cases h3 : ts.length = 3
    · obtain ⟨a, b, c, rfl⟩ : ∃ a b c, ts = [a, b, c] := by
        match ts, h3 with
        | [a, b, c], _ => exact ⟨a, b, c, rfl⟩
      have db := unfT_dep e b (by simp)
      refine q_ifN (eb.is rfl) fun H2 s2 => ?_
      refine q_set (K := K) (ev_call (F := f_picked) ⟨b, N, hN, by omega, rfl, rfl⟩ (ea_cons (ev_ixL (i := 1) (et s2) ev_int rfl) (ea_cons (ev_len (ev_bkStates T (ex (s1.trans s2)).bk) (upto_len N)) ea_nil))) fun v3 H3 s3 h3 => ?_
      have h3 : Td H3 v3 (optI (Tr.pickedT b N)) := h3
      have s13 := s1.trans (s2.trans s3)
      have es : stateTold tape N t = (Tr.pickedT b N).bind fun k => if t = stT tape N k then some k else none := by unfold stateTold; rw [e]
      rw [es] at k
      cases ep : Tr.pickedT b N with
      | none =>
        rw [ep] at h3 k
        exact q_ifT ((eb_or (a := true) (b := true) ((eb_B (ev_isN (K := K) (r := true) (vD rfl h3) rfl)).is rfl) fun z => nomatch z).is rfl) fun H4 s4 => st_ret (K := K) ev_non fun v H5 s5 h5 => k v H5 (s13.trans (s4.trans s5)) h5
      | some j =>
        rw [ep] at h3 k
        have hj := picked_lt ep
        obtain rfl := Td.int_of (show Td H3 v3 (.int (j : Nat)) from h3)
        have eb2 : Eb (tOr (tB (tIsN (tVar 3))) (tTest (tOp (rNeG K 500) (tVar 1) (tCall (SpT K (f_state_tree K)) [] E0 (tCons (tVar 0) (tCons (tOp (rIx K) (tFld K (tVar 0) "states") (tVar 3)) tNil)))))) [some x, some y, some (.ref p), some (.int j)] H3 (!decide (t = stT tape N j)) :=
          (eb_or (a := false) ((eb_B (ev_isN (K := K) (r := false) (vI rfl) rfl)).is rfl) fun _ => eb_test (ev_neT5 (vD rfl (hy.sm s13)) (ev_call (F := f_state_tree K) ⟨tape, N, j, hj, rfl, rfl⟩ (ea_cons (ex s13) (ea_cons (ev_ixL (ev_bkStates T (ex s13).bk) (vI rfl) (at_range _ hj)) ea_nil))) (hst j hj))).is rfl
        by_cases he : t = stT tape N j
        · have e9 : ((some j : Option Nat).bind fun k => if t = stT tape N k then some k else none) = some j := if_pos he
          rw [e9] at k
          exact q_ifN (eb2.is (by rw [decide_eq_true he]; rfl)) fun H4 s4 => st_ret (K := K) (vI rfl) fun v H5 s5 h5 => k v H5 (s13.trans (s4.trans s5)) h5
        · have e9 : ((some j : Option Nat).bind fun k => if t = stT tape N k then some k else none) = none := if_neg he
          rw [e9] at k
          exact q_ifT (eb2.is (by rw [decide_eq_false he]; rfl)) fun H4 s4 => st_ret (K := K) ev_non fun v H5 s5 h5 => k v H5 (s13.trans (s4.trans s5)) h5
    · have es : stateTold tape N t = none := by
        unfold stateTold
        rw [e]
        match ts, h3 with
        | [], _ => rfl
        | [_], _ => rfl
        | [_, _], _ => rfl
        | [_, _, _], h => exact absurd rfl h
        | _ :: _ :: _ :: _ :: _, _ => rfl
      rw [es] at k
      exact q_ifT (eb.is (by rw [decide_eq_false h3]; rfl)) fun H2 s2 => st_ret (K := K) ev_non fun v H3 s3 h3 => k v H3 (s1.trans (s2.trans s3)) h3
end
end My

/-! W26: image_told, end_told, walked. -/
namespace My
open PySem PySem.Spec PyProof.Rows L2
section
variable {P : Program} {w : World} {K : PySem.W.Frag} {mg : Str → Option Value} {base : Heap}
theorem isVal_leaf {t : Tr} (h : t.isLeaf = true) : t.isVal = true := by
  cases t with
  | j _ _ => cases h
  | _ => rfl
theorem leaf_cases (t : Tr) : t.isLeaf = true ∨ ∃ a b, t = .j a b := by
  cases t with
  | j a b => exact .inr ⟨a, b, rfl⟩
  | _ => exact .inl rfl
theorem three {α : Type} {l : List α} (h : l.length = 3) : ∃ a b c, l = [a, b, c] := by
  match l, h with
  | [a, b, c], _ => exact ⟨a, b, c, rfl⟩
theorem four {α : Type} {l : List α} (h : l.length = 4) : ∃ a b c d, l = [a, b, c, d] := by
  match l, h with
  | [a, b, c, d], _ => exact ⟨a, b, c, d, rfl⟩

def f_image_told (K : PySem.W.Frag) : Gr := fun as d => ∃ (tape : List TR) (N : Nat) (t : Tr), N ≤ 90 ∧ (∀ q, q < N → (stT tape N q).depth ≤ 500) ∧ t.depth ≤ 1000000 ∧ as = [Ag.bf K tape N, .t t.d] ∧ d = imageTold tape N t
theorem len_image_told {as : List Ag} {d : PyData} (h : f_image_told K as d) : as.length = 2 := by obtain ⟨_, _, _, _, _, _, rfl, _⟩ := h; rfl
theorem state_lt {tape : List TR} {N : Nat} {t : Tr} {j : Nat} (h : stateTold tape N t = some j) : j < N := by
  unfold stateTold at h
  split at h
  · rename_i b _ _
    cases e : Tr.pickedT b N with
    | none => rw [e] at h; cases h
    | some k =>
      rw [e] at h
      have h : (if t = stT tape N k then some k else none) = some j := h
      split at h
      · cases h; exact picked_lt e
      · cases h
  · cases h
theorem sc_image_told : FnScope ["book", "tree", "sides"] ["book", "tree"] (defScope st_image_told) := ⟨rfl, rfl, rfl, by decide +kernel, rfl, by decide +kernel, by decide +kernel⟩
theorem has_image_told (T : Txt P w K mg base) : Has P w K mg base "image_told" ["book", "tree"] 21 (SpT K (f_image_told K)) := by
  refine has_mk T.glo_image_told (T.c.def_ 56 (d := d_image_told) rfl) sc_image_told (SpT.len (fun as d h => by exact len_image_told h)) (fun _ _ _ _ _ _ us hl => match us, hl with | [_, _], _ => rfl) (fun cdv A outer s H vs Q E hr h => ?_)
  refine ⟨_, (pss_cons (ps_if (PW.pt (pw_or (pt_val (pc (has_is_value T) (hr.mono (by decide)) (pa_cons (pv 1) pa_nil))) (pw_or1 (pt_not (pt_val (pc (has_is_joint T) (hr.mono (by decide)) (pa_cons (pe_ixK (K := K) (pv 1) pe_int (fun _ _ => rfl)) pa_nil))))))) (pss_one (ps_ret pe_non)) pss_nil)
    (pss_cons (ps_set (i := 2) sc_image_told.nd rfl (by first | exact Or.inl rfl | exact Or.inr rfl) (pc (has_unfolded T) (hr.mono (by decide)) (pa_cons (pe_ixK (K := K) (pv 1) pe_int (fun _ _ => rfl)) pa_nil)))
    (pss_cons (ps_if (PW.pt (pw_or (pt_cmp (pc_isN (pv 2))) (pw_or1 (pt_cmpR (op_neSK (K := K) hr) (pe_callB (call_lenK (K := K)) (by rfl) T.free_len PySem.boot_len (pa_cons (pv 2) pa_nil)) pe_int (nomark _))))) (pss_one (ps_ret pe_non)) pss_nil)
    (pss_one (ps_ret (pc (has_stand_told T) (hr.mono (by decide)) (pa_cons (pv 0) (pa_cons (pc (has_state_told T) (hr.mono (by decide)) (pa_cons (pv 0) (pa_cons (pe_ixK (K := K) (pv 1) pe_int (fun _ _ => rfl)) pa_nil))) (pa_cons (pv 2) pa_nil))))))))), ?_⟩
  obtain ⟨as, d, ⟨tape, N, t, hN, hst, hd, rfl, rfl⟩, hv, k⟩ := h
  obtain ⟨x, y, rfl, hx, hy⟩ := hv.i2
  have hy : Td H y t.d := hy
  have ex : ∀ {H' o2}, Same H H' → Ev K (tVar 0) [some x, some y, o2] H' (Ag.bf K tape N) := fun s => ev_var rfl (At.sm s hx)
  have ey : ∀ {H' o2}, Same H H' → Ev K (tVar 1) [some x, some y, o2] H' (.t t.d) := fun s => vD rfl (hy.sm s)
  have e1 : Eb (tB (tCall (SpT K f_is_value) [] E0 (tCons (tVar 1) tNil))) [some x, some y, none] H t.isVal := eb_B (ev_call (F := f_is_value) ⟨t, rfl, rfl⟩ (ea_cons (ey (Same.refl _)) ea_nil))
  rcases leaf_cases t with hl | ⟨a, b, rfl⟩
  · have es : imageTold tape N t = .none := by
      cases t with
      | j _ _ => cases hl
      | _ => rfl
    rw [es] at k
    exact q_ifT ((eb_or (a := true) (b := true) (e1.is (isVal_leaf hl)) fun z => nomatch z).is rfl) fun H2 s2 => st_ret (K := K) ev_non fun v H3 s3 h3 => k v H3 (s2.trans s3) h3
  · have e2 : Eb (tOr (tB (tCall (SpT K f_is_value) [] E0 (tCons (tVar 1) tNil))) (tNot (tB (tCall (SpT K f_is_joint) [] E0 (tCons (tOp (rIx K) (tVar 1) (tC (.int 0))) tNil))))) [some x, some y, none] H ((Tr.j a b).isVal || a.isLeaf) :=
      (eb_or e1 fun _ => eb_not (eb_B (ev_isj (ev_j0 (ey (Same.refl _)))))).is (by rw [Bool.not_not])
    have da : a.depth ≤ 1000000 := by have : (Tr.j a b).depth = max a.depth b.depth + 1 := rfl; omega
    have db : b.depth ≤ 1000000 := by have : (Tr.j a b).depth = max a.depth b.depth + 1 := rfl; omega
    by_cases hb : ((Tr.j a b).isVal || a.isLeaf) = true
    · have es : imageTold tape N (.j a b) = .none := if_pos hb
      rw [es] at k
      exact q_ifT (e2.is hb) fun H2 s2 => st_ret (K := K) ev_non fun v H3 s3 h3 => k v H3 (s2.trans s3) h3
    · have es : imageTold tape N (.j a b) = match Tr.unfT b with
        | some [x, y, z] => standTold (stateTold tape N a) x y z
        | _ => .none := if_neg hb
      rw [es] at k
      refine q_ifN (e2.is (by simpa using hb)) fun H2 s2 => ?_
      refine q_unf (K := K) (t := b) (ev_j1 (ey s2)) (by omega) (fun e H3 s3 => ?_) (fun ts e p xs H3 hp s3 h3 t3 => ?_)
      · rw [e] at k
        exact q_ifT ((eb_or (a := true) (b := true) (eb_isNn rfl) fun z => nomatch z).is rfl) fun H4 s4 => st_ret (K := K) ev_non fun v H5 s5 h5 => k v H5 (s2.trans (s3.trans (s4.trans s5))) h5
      · have et : ∀ {H'}, Same H3 H' → Ev K (tVar 2) [some x, some y, some (.ref p)] H' (.l (trs ts)) := fun s => ev_var rfl (show At K _ (.ref p) (.l _) from ⟨p, xs, rfl, SqL.of (s _ _ h3), t3.sm s⟩)
        have eb : Eb (tOr (tB (tIsN (tVar 2))) (tTest (tOp (rNeG K 200) (tCB (rLenK K) (tCons (tVar 2) tNil)) (tC (.int 3))))) [some x, some y, some (.ref p)] H3 (!decide (ts.length = 3)) :=
          (eb_or (a := false) (eb_isNl rfl) fun _ => eb_test (ev_neI (K := K) (i := ts.length) (j := 3) (ev_len (et (Same.refl _)) (trs_len ts)) ev_int)).is rfl
        by_cases hl3 : ts.length = 3
        · obtain ⟨u1, u2, u3, rfl⟩ := three hl3
          rw [e] at k
          have dd := unfT_dep e
          refine q_ifN (eb.is rfl) fun H4 s4 => ?_
          have s24 := s2.trans (s3.trans s4)
          refine st_ret (K := K) (ev_call (F := f_stand_told K) ⟨tape, N, stateTold tape N a, u1, u2, u3, fun j hj => state_lt hj, ?_, ?_, ?_, rfl, rfl⟩ (ea_cons (ex s24) (ea_cons (ev_call (F := f_state_told K) ⟨tape, N, a, hN, hst, da, rfl, rfl⟩ (ea_cons (ex s24) (ea_cons (ev_j0 (ey s24)) ea_nil))) (ea_cons (et s4) ea_nil)))) fun v H5 s5 h5 => k v H5 (s24.trans s5) h5
          · have := dd u1 (by simp); omega
          · have := dd u2 (by simp); omega
          · have := dd u3 (by simp); omega
        · have en : (match Tr.unfT b with
            | some [x, y, z] => standTold (stateTold tape N a) x y z
            | _ => .none) = PyData.none := by
            rw [e]
            match ts, hl3 with
            | [], _ => rfl
            | [_], _ => rfl
            | [_, _], _ => rfl
            | [_, _, _], h => exact absurd rfl h
            | _ :: _ :: _ :: _ :: _, _ => rfl
          rw [en] at k
          exact q_ifT (eb.is (by rw [decide_eq_false hl3]; rfl)) fun H4 s4 => st_ret (K := K) ev_non fun v H5 s5 h5 => k v H5 (s2.trans (s3.trans (s4.trans s5))) h5
def f_end_told (K : PySem.W.Frag) : Gr := fun as d => ∃ (tape : List TR) (N : Nat) (t : Tr), N ≤ 90 ∧ t.depth ≤ 1000000 ∧ as = [Ag.bf K tape N, .t t.d] ∧ d = endTold N t
theorem len_end_told {as : List Ag} {d : PyData} (h : f_end_told K as d) : as.length = 2 := by obtain ⟨_, _, _, _, _, rfl, _⟩ := h; rfl
theorem sc_end_told : FnScope ["book", "tree", "things"] ["book", "tree"] (defScope st_end_told) := ⟨rfl, rfl, rfl, by decide +kernel, rfl, by decide +kernel, by decide +kernel⟩
theorem has_end_told (T : Txt P w K mg base) : Has P w K mg base "end_told" ["book", "tree"] 10 (SpT K (f_end_told K)) := by
  refine has_mk T.glo_end_told (T.c.def_ 57 (d := d_end_told) rfl) sc_end_told (SpT.len (fun as d h => by exact len_end_told h)) (fun _ _ _ _ _ _ us hl => match us, hl with | [_, _], _ => rfl) (fun cdv A outer s H vs Q E hr h => ?_)
  refine ⟨_, (pss_cons (ps_set (i := 2) sc_end_told.nd rfl (by first | exact Or.inl rfl | exact Or.inr rfl) (pc (has_unfolded T) (hr.mono (by decide)) (pa_cons (pv 1) pa_nil)))
    (pss_cons (ps_if (PW.pt (pw_or (pt_cmp (pc_isN (pv 2))) (pw_or1 (pt_cmpR (op_neSK (K := K) hr) (pe_callB (call_lenK (K := K)) (by rfl) T.free_len PySem.boot_len (pa_cons (pv 2) pa_nil)) pe_int (nomark _))))) (pss_one (ps_ret pe_non)) pss_nil)
    (pss_one (ps_ret (pc (has_stand_told T) (hr.mono (by decide)) (pa_cons (pv 0) (pa_cons (pc (has_picked T) (hr.mono (by decide)) (pa_cons (pe_ixK (K := K) (pv 2) pe_int (fun _ _ => rfl)) (pa_cons (pe_callB (call_lenK (K := K)) (by rfl) T.free_len PySem.boot_len (pa_cons (pe_fldK (K := K) (pv 0) rfl) pa_nil)) pa_nil))) (pa_cons (pe_slice sl_list (pv 2) (po_some pe_int) po_none) pa_nil)))))))), ?_⟩
  obtain ⟨as, d, ⟨tape, N, t, hN, hd, rfl, rfl⟩, hv, k⟩ := h
  obtain ⟨x, y, rfl, hx, hy⟩ := hv.i2
  have hy : Td H y t.d := hy
  have ex : ∀ {H' o2}, Same H H' → Ev K (tVar 0) [some x, some y, o2] H' (Ag.bf K tape N) := fun s => ev_var rfl (At.sm s hx)
  refine q_unf (K := K) (vD rfl hy) (by omega) (fun e H1 s1 => ?_) (fun ts e p xs H1 hp s1 h1 t1 => ?_)
  · have es : endTold N t = .none := by unfold endTold; rw [e]
    rw [es] at k
    exact q_ifT ((eb_or (a := true) (b := true) (eb_isNn rfl) fun z => nomatch z).is rfl) fun H2 s2 => st_ret (K := K) ev_non fun v H3 s3 h3 => k v H3 (s1.trans (s2.trans s3)) h3
  · have et : ∀ {H'}, Same H1 H' → Ev K (tVar 2) [some x, some y, some (.ref p)] H' (.l (trs ts)) := fun s => ev_var rfl (show At K _ (.ref p) (.l _) from ⟨p, xs, rfl, SqL.of (s _ _ h1), t1.sm s⟩)
    have eb : Eb (tOr (tB (tIsN (tVar 2))) (tTest (tOp (rNeG K 200) (tCB (rLenK K) (tCons (tVar 2) tNil)) (tC (.int 4))))) [some x, some y, some (.ref p)] H1 (!decide (ts.length = 4)) :=
      (eb_or (a := false) (eb_isNl rfl) fun _ => eb_test (ev_neI (K := K) (i := ts.length) (j := 4) (ev_len (et (Same.refl _)) (trs_len ts)) ev_int)).is rfl
    by_cases hl : ts.length = 4
    · obtain ⟨u0, u1, u2, u3, rfl⟩ := four hl
      have es : endTold N t = standTold (Tr.pickedT u0 N) u1 u2 u3 := by unfold endTold; rw [e]
      rw [es] at k
      have dd := unfT_dep e
      refine q_ifN (eb.is rfl) fun H2 s2 => ?_
      have s12 := s1.trans s2
      refine st_ret (K := K) (ev_call (F := f_stand_told K) ⟨tape, N, Tr.pickedT u0 N, u1, u2, u3, fun j hj => picked_lt hj, ?_, ?_, ?_, rfl, rfl⟩ (ea_cons (ex s12) (ea_cons (ev_call (F := f_picked) ⟨u0, N, hN, ?_, rfl, rfl⟩ (ea_cons (ev_ixL (i := 0) (et s2) ev_int rfl) (ea_cons (ev_len (ev_bkStates T (ex s12).bk) (upto_len N)) ea_nil))) (ea_cons (ef_slL (K := K) (lo := some 1) (hi := none) (et s2) (eo_some (K := K) ev_int) eo_none).ev ea_nil)))) fun v H5 s5 h5 => k v H5 (s12.trans s5) h5
      · have := dd u1 (by simp); omega
      · have := dd u2 (by simp); omega
      · have := dd u3 (by simp); omega
      · have := dd u0 (by simp); omega
    · have es : endTold N t = .none := by
        unfold endTold
        rw [e]
        match ts, hl with
        | [], _ => rfl
        | [_], _ => rfl
        | [_, _], _ => rfl
        | [_, _, _], _ => rfl
        | [_, _, _, _], h => exact absurd rfl h
        | _ :: _ :: _ :: _ :: _ :: _, _ => rfl
      rw [es] at k
      exact q_ifT (eb.is (by rw [decide_eq_false hl]; rfl)) fun H2 s2 => st_ret (K := K) ev_non fun v H3 s3 h3 => k v H3 (s1.trans (s2.trans s3)) h3
end
end My

/-! W27: the chain is made, walked. -/
namespace My
open PySem PySem.Spec PyProof.Rows L2
/-- what is asked of a chain's numbers -/
structure ChOk (prog : List Row) (many top N : Nat) (tape : List TR) : Prop where
  m : many ≤ 100
  pl : prog.length ≤ 1000
  ct : ∀ r ∈ prog, r.ct < many
  rl : (rowsT many prog).length ≤ 1000
  rw_ : ∀ r ∈ rowsT many prog, r.w.length ≤ 1000
  top1 : top = prog.length ∨ ∃ r ∈ rowsT many prog, top = r.s ∨ top = r.g
  top2 : prog.length ≤ top ∧ ∀ r ∈ rowsT many prog, r.s ≤ top ∧ r.g ≤ top
  tp : ∃ n, n ≤ 1000 ∧ (mtN n (mt0 (rowsT many prog) top)).1.ws = [] ∧ tape = (mtN n (mt0 (rowsT many prog) top)).2
  tl : tape.length ≤ 10000
  n64 : N < 64
  st : ∀ k : Nat, (k ≤ top ∨ ∃ r ∈ tape, k = r.s ∨ k = r.g) ↔ k < N
theorem ChOk.tg {prog : List Row} {many top N : Nat} {tape : List TR} (h : ChOk prog many top N tape) : ∀ t ∈ tape, t.g < N := fun t ht => (h.st t.g).1 (.inr ⟨t, ht, .inr rfl⟩)
/-- the chain at a -/
def ChAt (K : PySem.W.Frag) (prog : List Row) (many top N : Nat) (tape : List TR) (v : V) (H : Hp) : Prop := ∃ a dx fs vp vr vt vb, v = .ref a ∧ H a = some (.ins (He.ga K "Chain") dx fs) ∧ (fs.lookup ("program" : Str) = some vp ∧ At K H vp (.l (prog.map Row.d))) ∧ fs.lookup ("many" : Str) = some (.int (many : Nat)) ∧
  (fs.lookup ("rules" : Str) = some vr ∧ At K H vr (.l ((rowsT many prog).map RR.d))) ∧ fs.lookup ("top" : Str) = some (.int (top : Nat)) ∧ (fs.lookup ("tape" : Str) = some vt ∧ At K H vt (.l (tape.map TR.d))) ∧ (fs.lookup ("book" : Str) = some vb ∧ At K H vb (Ag.bf K tape N))
theorem ChAt.mono (K : PySem.W.Frag) (prog : List Row) (many top N : Nat) (tape : List TR) : Mono (ChAt K prog many top N tape) := fun v H H' s ⟨a, dx, fs, vp, vr, vt, vb, e, h1, h2, h3, h4, h5, h6, h7⟩ =>
  ⟨a, dx, fs, vp, vr, vt, vb, e, s _ _ h1, ⟨h2.1, h2.2.sm s⟩, h3, ⟨h4.1, h4.2.sm s⟩, h5, ⟨h6.1, h6.2.sm s⟩, ⟨h7.1, h7.2.sm s⟩⟩
def Ag.ch (K : PySem.W.Frag) (prog : List Row) (many top N : Nat) (tape : List TR) : Ag := .o (ChAt K prog many top N tape) (ChAt.mono K prog many top N tape)
section
variable {P : Program} {w : World} {K : PySem.W.Frag} {mg : Str → Option Value} {base : Heap}
theorem BfAt.kp {tape : List TR} {N : Nat} {H H' : Hp} {a b C dx : Addr} {fs : List (Str × V)} (h : BfAt K tape N (.ref b) H) (s : Kp [a] H H') (ha : H a = some (.ins C dx fs)) (hb : b ≠ a) : BfAt K tape N (.ref b) H' := by
  obtain ⟨⟨a', dx', fs', rp, sp, ap, fp, cp, xr, xs, kA, kF, kC, e, h1, h2, h3, h4, h5, h6, h7, h8⟩, a2, dx2, fs2, sp2, xs2, tv, e2, g1, g2, g3, g4, g5, g6⟩ := h
  cases e
  cases e2
  exact ⟨⟨b, dx', fs', rp, sp, ap, fp, cp, xr, xs, kA, kF, kC, rfl, s.ne h1 (nea hb), h2, ⟨h3.1, s.ne h3.2.1 (nea (nk h3.2.1 ha (by simp))), h3.2.2.tx s.tx⟩, h4, ⟨h5.1, s.ne h5.2.1 (nea (nk h5.2.1 ha (by simp))), h5.2.2.tx s.tx⟩,
    ⟨h6.1, s.ne h6.2.1 (nea (nk h6.2.1 ha (by simp))), h6.2.2.tx s.tx⟩, ⟨h7.1, s.ne h7.2.1 (nea (nk h7.2.1 ha (by simp))), h7.2.2.nd s ha⟩, ⟨h8.1, s.ne h8.2.1 (nea (nk h8.2.1 ha (by simp))), h8.2.2.nd s ha⟩⟩,
    b, dx2, fs2, sp2, xs2, tv, rfl, s.ne g1 (nea hb), g2, s.ne g3 (nea (nk g3 ha (by simp))), g4.tx s.tx, g5, Td.tx s.tx g6⟩
theorem l_kp {H H' : Hp} {v : V} {ds : List PyData} {a C dx : Addr} {fs : List (Str × V)} (h : At K H v (.l ds)) (s : Kp [a] H H') (ha : H a = some (.ins C dx fs)) : At K H' v (.l ds) := by
  obtain ⟨p, xs, e, h1, h2⟩ := h
  refine ⟨p, xs, e, kp_seq h1 s fun x hx => ?_, h2.tx s.tx⟩
  rw [List.mem_singleton.mp hx, ha]
  exact ⟨fun ys z => (by cases z), fun o u z => (by cases z)⟩
def mxD (d : PyData) : PyData := match d with
  | .tuple [.int s, _, _, .int g] => .int (if g > s then g else s)
  | d => d
theorem st_fldMk {σ : L2.St} {H : Hp} {D : Ends} {t : TA} {as : List Ag} {i : Nat} {C : Addr} {sp : Sp} {f : Str} (ha : Ea K t σ H as)
    (k : ∀ vs H1, Same H H1 → AtAll K H1 vs as → ∀ x dx2, H1 x = none → H1 dx2 = none → dx2 ≠ x → sp (.ref x :: (vs ++ [])) (upd (upd H1 dx2 (.own x)) x (.ins C dx2 [])) (fun v H2 => v = .non ∧ tVar i σ H2 fun y H3 => ∃ a C' dx fs, y = .ref a ∧ H3 a = some (.ins C' dx fs) ∧ Cls K C' ∧ NoAttr K C' f ∧ fs.length < 1000 ∧ D.nx σ (upd H3 a (.ins C' dx (putF f (.ref x) fs)))) E0) :
    sFld K (tVar i) (tMake C sp [] E0 t) f D σ H := ha H (Same.refl _) _ k

def SpChInit (K : PySem.W.Frag) : Sp := fun vs H Q _ => ∃ (a dx : Addr) (v : V) (prog : List Row) (many top N : Nat) (tape : List TR), vs = [.ref a, v, .int many] ∧ H a = some (.ins (He.ga K "Chain") dx []) ∧ At K H v (.l (prog.map Row.d)) ∧ ChOk prog many top N tape ∧ (∀ H', Kp [a] H H' → ChAt K prog many top N tape (.ref a) (rs H a H') → Q .non H')
theorem len_Chain_init {vs : List V} {H : Hp} {Q : VK} {E : XK} (h : SpChInit K vs H Q E) : vs.length = 3 := by obtain ⟨_, _, _, _, _, _, _, _, rfl, _⟩ := h; rfl
theorem sc_Chain_init : FnScope ["self", "program", "many", "rule"] ["self", "program", "many"] (defScope st_Chain_init) := ⟨rfl, rfl, rfl, by decide +kernel, rfl, by decide +kernel, by decide +kernel⟩
theorem ok_Chain_init (T : Txt P w K mg base) : HasM P w K mg base (He.ma K (He.ga K "Chain") "__init__") ["self", "program", "many"] 75 (SpChInit K) := by
  refine hasM_mk (T.c.def_ 83 (d := d_Chain_init) rfl) sc_Chain_init (fun vs H Q E h => by exact len_Chain_init h) (fun _ _ _ _ _ _ us hl => match us, hl with | [_, _, _], _ => rfl) (fun cdv A outer s H vs Q E hr h => ?_)
  refine ⟨_, (pss_cons (ps_fld (pv 0) (pe_callTy call_list_of (by rfl) T.free_list (by decide +kernel) (pa_cons (pv 1) pa_nil)) rfl)
    (pss_cons (ps_fld (pv 0) (pv 2) rfl)
    (pss_cons (ps_fld (pv 0) (pc (has_make_rows T) (hr.mono (by decide)) (pa_cons (pv 1) (pa_cons (pv 2) pa_nil))) rfl)
    (pss_cons (ps_fld (pv 0) (pe_callB (cr_max rfl) (by rfl) T.free_max (by decide +kernel) (pa_cons (pe_op op_addG (pe_lst (pa_cons (pe_callB (call_lenK (K := K)) (by rfl) T.free_len PySem.boot_len (pa_cons (pv 1) pa_nil)) pa_nil)) (pe_lc (own := [("rule", 3)]) (tt := tYes) rfl sc_Chain_init.nd (pi_list (pe_fldK (K := K) (pv 0) rfl)) (blkOk_by (own := [("rule", 3)]) (N := ["self", "program", "many", "rule"]) (sc := defScope st_Chain_init) (by decide +kernel)) (fun _ _ _ _ _ => (pg_name (i := 3) sc_Chain_init.nd rfl (by first | exact Or.inl rfl | exact Or.inr rfl))) (fun _ _ _ _ _ => pts_nil) (fun _ _ _ _ _ => (pe_callB (call_max2 rfl) (by rfl) T.free_max (by decide +kernel) (pa_cons (pe_ixK (K := K) (pv 3) pe_int (fun _ _ => rfl)) (pa_cons (pe_ixK (K := K) (pv 3) pe_int (fun _ _ => rfl)) pa_nil)))))) pa_nil)) rfl)
    (pss_cons (ps_fld (pv 0) (pc (has_make_tape T) (hr.mono (by decide)) (pa_cons (pe_fldK (K := K) (pv 0) rfl) (pa_cons (T.c_SIGNS) (pa_cons (pe_fldK (K := K) (pv 0) rfl) pa_nil)))) rfl)
    (pss_one (ps_fld (pv 0) (pmk (ok_Book_init T) T.mkr_Book T.glo_Book (hr.mono (by decide)) (pa_cons (pe_fldK (K := K) (pv 0) rfl) (pa_cons (T.c_SIGNS) (pa_cons (pc (has_states_in T) (hr.mono (by decide)) (pa_cons (pe_fldK (K := K) (pv 0) rfl) (pa_cons (pe_fldK (K := K) (pv 0) rfl) pa_nil))) pa_nil)))) rfl))))))), ?_⟩
  obtain ⟨a, dx, v0, prog, many, top, N, tape, rfl, ha, hv0, ok, k⟩ := h
  have fl0 : ([] : List (Str × V)).length < 1000 := by decide
  have fl : ∀ {f v} {fs : List (Str × V)} {n}, fs.length ≤ n → n + 1 < 1000 → (putF f v fs).length ≤ n + 1 := fun h _ => Nat.le_trans (putF_len _ _ _) (Nat.succ_le_succ h)
  have vP : ∀ {H' o2 o3}, Kp [a] H H' → Ev K (tVar 1) [some (.ref a), some v0, o2, o3] H' (.l (prog.map Row.d)) := fun s => ev_var rfl (l_kp hv0 s ha)
  refine q_fldL (K := K) (f := "program") (ef_list (vP Kp.refl)) rfl ha T.cls_Chain T.no_Chain_program fl0 fun p1 x1 H1 n1 s1 a1 h1 t1 => ?_
  refine q_fldD (K := K) (f := "many") (vI rfl) rfl a1 T.cls_Chain T.no_Chain_many (Nat.lt_of_le_of_lt (fl (Nat.le_refl 0) (by decide)) (by decide)) fun v2 H2 s2 a2 h2 => ?_
  obtain rfl := Td.int_of h2
  have k2 : Kp [a] H H2 := s1.trans s2
  have A1 : At K H2 (.ref p1) (.l (prog.map Row.d)) := l_kp (show At K H1 (.ref p1) (.l _) from ⟨p1, x1, rfl, SqL.of h1, t1⟩) s2 a1
  refine q_fldL (K := K) (f := "rules") (ds := (rowsT many prog).map RR.d) (ef_call (F := f_make_rows) ⟨prog, many, ok.m, ok.pl, ok.ct, rfl, rfl⟩ (ea_cons (vP k2) (ea_cons (vI rfl) ea_nil))) rfl a2 T.cls_Chain T.no_Chain_rules (Nat.lt_of_le_of_lt (fl (fl (Nat.le_refl 0) (by decide)) (by decide)) (by decide)) fun p3 x3 H3 n3 s3 a3 h3 t3 => ?_
  have k3 : Kp [a] H H3 := k2.trans s3
  have A2 := l_kp A1 s3 a2
  have B1 : At K H3 (.ref p3) (.l ((rowsT many prog).map RR.d)) := ⟨p3, x3, rfl, SqL.of h3, t3⟩
  have l3 : (putF ("rules" : Str) (V.ref p3) (putF "many" (V.int (many : Nat)) (putF "program" (V.ref p1) []))).length ≤ 3 := fl (fl (fl (Nat.le_refl 0) (by decide)) (by decide)) (by decide)
  -- the top
  have er : ∀ {H'}, Same H3 H' → Ev K (tFld K (tVar 0) "rules") [some (.ref a), some v0, some (.int many), none] H' (.l ((rowsT many prog).map RR.d)) := fun s => ev_fld (ev_ref rfl) (s _ _ a3) T.cls_Chain T.no_Chain_rules (lkP _ _ _) (B1.sm s)
  have em : Ef (tLc (iList K (tFld K (tVar 0) "rules")) (gName 3) tYes (tCB (fun xs H Q => ∃ i j, xs = [.int i, .int j] ∧ Q (.int (if j > i then j else i)) H) (tCons (tOp (rIx K) (tVar 3) (tC (.int 0))) (tCons (tOp (rIx K) (tVar 3) (tC (.int 3))) tNil))) [3]) [some (.ref a), some v0, some (.int many), none] H3 (((rowsT many prog).map RR.d).map mxD) :=
    ef_lcFY (K := K) (i := 3) mxD (fun H' s => wkf_list (er s)) (by rw [List.length_map]; have := ok.rl; omega) (fun x => rfl) fun d z H' hd s hz => by
      obtain ⟨r, _, rfl⟩ := List.mem_map.mp hd
      have hz : Td H' z (.tuple [.int (r.s : Nat), .str (sw [r.c]), .str (sw r.w), .int (r.g : Nat)]) := hz
      exact ev_max2 (ev_ixT (i := 0) (vD rfl hz) ev_int rfl) (ev_ixT (i := 3) (vD rfl hz) ev_int rfl)
  have emx : ((rowsT many prog).map RR.d).map mxD = ((rowsT many prog).map fun r => (if (r.g : Int) > (r.s : Int) then (r.g : Int) else (r.s : Int))).map PyData.int := by
    rw [List.map_map, List.map_map]
    exact List.map_congr_left fun r _ => rfl
  rw [emx] at em
  have el : Ef (tLst (tCons (tCB (rLenK K) (tCons (tVar 1) tNil)) tNil)) [some (.ref a), some v0, some (.int many), none] H3 ([(prog.length : Int)].map PyData.int) := ef_lst (K := K) (ds := [.int (prog.length : Int)]) (ea_cons (ev_len (vP k3) (List.length_map _)) ea_nil) (Nat.le_of_ble_eq_true rfl)
  have eA := ef_addL el em (by rw [List.length_map, List.length_map, List.length_map, sizeLine_eq]; have := ok.rl; simp only [List.length_singleton]; omega)
  rw [← List.map_append] at eA
  refine q_fldD (K := K) (f := "top") (d := .int (top : Nat)) (ev_max (K := K) (m := (top : Int)) eA.ev ?_ ?_) rfl a3 T.cls_Chain T.no_Chain_top (Nat.lt_of_le_of_lt l3 (by decide)) fun v4 H4 s4 a4 h4 => ?_
  · rcases ok.top1 with h | ⟨r, hr, h⟩
    · exact List.mem_append_left _ (List.mem_singleton.mpr (by rw [h]))
    · refine List.mem_append_right _ (List.mem_map.mpr ⟨r, hr, ?_⟩)
      have h2 := (ok.top2.2 r hr)
      rcases h with h | h
      · rw [if_neg (by omega)]; omega
      · by_cases hgt : (r.g : Int) > (r.s : Int)
        · rw [if_pos hgt]; omega
        · rw [if_neg hgt]; omega
  · intro y hy
    rcases List.mem_append.mp hy with h | h
    · rw [List.mem_singleton.mp h]; have := ok.top2.1; omega
    · obtain ⟨r, hr, rfl⟩ := List.mem_map.mp h
      have h2 := (ok.top2.2 r hr)
      split <;> omega
  · obtain rfl := Td.int_of h4
    have k4 : Kp [a] H H4 := k3.trans s4
    have A3 := l_kp A2 s4 a3
    have B2 := l_kp B1 s4 a3
    obtain ⟨n, hn, hw, rfl⟩ := ok.tp
    have er4 : Ev K (tFld K (tVar 0) "rules") [some (.ref a), some v0, some (.int many), none] H4 (.l ((rowsT many prog).map RR.d)) := ev_fld (ev_ref rfl) a4 T.cls_Chain T.no_Chain_rules (lkN _ (by decide +kernel) (lkP _ _ _)) B2
    have et4 : Ev K (tFld K (tVar 0) "top") [some (.ref a), some v0, some (.int many), none] H4 (.t (.int (top : Nat))) := ev_fld (ev_ref rfl) a4 T.cls_Chain T.no_Chain_top (lkP _ _ _) (Td.int _)
    refine q_fldL (K := K) (f := "tape") (ef_call (F := f_make_tape) ⟨rowsT many prog, top, n, ok.rl, ok.rw_, hn, hw, rfl, rfl⟩ (ea_cons er4 (ea_cons ev_str (ea_cons et4 ea_nil)))) rfl a4 T.cls_Chain T.no_Chain_tape (Nat.lt_of_le_of_lt (fl l3 (by decide)) (by decide)) fun p5 x5 H5 n5 s5 a5 h5 t5 => ?_
    have k5 : Kp [a] H H5 := k4.trans s5
    have A4 := l_kp A3 s5 a4
    have B3 := l_kp B2 s5 a4
    have C1 : At K H5 (.ref p5) (.l ((mtN n (mt0 (rowsT many prog) top)).2.map TR.d)) := ⟨p5, x5, rfl, SqL.of h5, t5⟩
    -- the book
    have etp : Ev K (tFld K (tVar 0) "tape") [some (.ref a), some v0, some (.int many), none] H5 (.l ((mtN n (mt0 (rowsT many prog) top)).2.map TR.d)) := ev_fld (ev_ref rfl) a5 T.cls_Chain T.no_Chain_tape (lkP _ _ _) C1
    have etop : Ev K (tFld K (tVar 0) "top") [some (.ref a), some v0, some (.int many), none] H5 (.t (.int (top : Nat))) := ev_fld (ev_ref rfl) a5 T.cls_Chain T.no_Chain_top (lkN _ (by decide +kernel) (lkP _ _ _)) (Td.int _)
    have ea : Ea K (tCons (tFld K (tVar 0) "tape") (tCons (tC (.str (sw sgn))) (tCons (tCall (SpL K f_states_in) [] E0 (tCons (tFld K (tVar 0) "tape") (tCons (tFld K (tVar 0) "top") tNil))) tNil))) [some (.ref a), some v0, some (.int many), none] H5 [.l ((mtN n (mt0 (rowsT many prog) top)).2.map TR.d), .t (.str (sw sgn)), .l (upto N)] :=
      ea_cons etp (ea_cons ev_str (ea_cons (ef_call (F := f_states_in) ⟨_, top, N, ok.n64, ok.st, rfl, rfl⟩ (ea_cons etp (ea_cons etop ea_nil))).ev ea_nil))
    refine st_fldMk (K := K) ea fun vs H6 s6 hvs => ?_
    obtain ⟨u1, u2, u3, rfl, g1, g2, g3⟩ := hvs.i3
    obtain rfl := Td.str_of g2
    intro x dx2 hx hdx hne
    have s67 : Same H6 (upd (upd H6 dx2 (.own x)) x (.ins (He.ga K "Book") dx2 [])) := (Same.new hdx).trans (Same.new (by rw [upd_ne (Ne.symm hne)]; exact hx))
    refine ⟨x, dx2, u1, u3, (mtN n (mt0 (rowsT many prog) top)).2, N, rfl, upd_same, g1.sm s67, g3.sm s67, Nat.le_of_lt (Nat.lt_trans ok.n64 (by decide)), ok.tl, ok.tg, fun H7 kx hb => ⟨rfl, ?_⟩⟩
    have s57 : Same H5 H7 := kx.of (s6.trans s67) fun y hy => by rw [List.mem_singleton.mp hy]; exact s6.free hx
    have a7 := s57 _ _ a5
    have hxa : x ≠ a := fun z => by
      have := s6 _ _ a5
      rw [← z, hx] at this
      cases this
    refine ⟨_, rfl, a, _, dx, _, rfl, a7, T.cls_Chain, T.no_Chain_book, Nat.lt_of_le_of_lt (fl (fl l3 (by decide)) (by decide)) (by decide), ?_⟩
    have s8 : Kp [a] H7 (upd H7 a (.ins (He.ga K "Chain") dx (putF "book" (.ref x) (putF "tape" (.ref p5) (putF "top" (.int (top : Nat)) (putF "rules" (V.ref p3) (putF "many" (V.int (many : Nat)) (putF "program" (V.ref p1) [])))))))) := (Mut.ins a7).kp
    have c1 : H7 p1 = some (.lst x1) := s57 _ _ (s5.ne (s4.ne (s3.ne (s2.ne h1 (nea (nk h1 a1 (by simp)))) (nea (nk (s2.ne h1 (nea (nk h1 a1 (by simp)))) a2 (by simp)))) (nea (nk (s3.ne (s2.ne h1 (nea (nk h1 a1 (by simp)))) (nea (nk (s2.ne h1 (nea (nk h1 a1 (by simp)))) a2 (by simp)))) a3 (by simp)))) (nea (nk (s4.ne (s3.ne (s2.ne h1 (nea (nk h1 a1 (by simp)))) (nea (nk (s2.ne h1 (nea (nk h1 a1 (by simp)))) a2 (by simp)))) (nea (nk (s3.ne (s2.ne h1 (nea (nk h1 a1 (by simp)))) (nea (nk (s2.ne h1 (nea (nk h1 a1 (by simp)))) a2 (by simp)))) a3 (by simp)))) a4 (by simp))))
    have c3 : H7 p3 = some (.lst x3) := s57 _ _ (s5.ne (s4.ne h3 (nea (nk h3 a3 (by simp)))) (nea (nk (s4.ne h3 (nea (nk h3 a3 (by simp)))) a4 (by simp))))
    have c5 : H7 p5 = some (.lst x5) := s57 _ _ h5
    have d1 := s8.ne c1 (nea (nk c1 a7 (by simp)))
    have d3 := s8.ne c3 (nea (nk c3 a7 (by simp)))
    have d5 := s8.ne c5 (nea (nk c5 a7 (by simp)))
    have g1 : TdAll H7 x1 (prog.map Row.d) := t1.tx (s2.tx.trans (s3.tx.trans (s4.tx.trans (s5.tx.trans s57.tx))))
    have g3 : TdAll H7 x3 ((rowsT many prog).map RR.d) := t3.tx (s4.tx.trans (s5.tx.trans s57.tx))
    have g5 := t5.sm s57
    have hxH : H x = none := by
      cases e : H x with
      | none => rfl
      | some o =>
        have := s6 _ _ (k5.ne e (nea hxa))
        rw [hx] at this
        cases this
    have hS : Same (rs (upd (upd H6 dx2 (.own x)) x (.ins (He.ga K "Book") dx2 [])) x H7) (rs H a (upd H7 a (.ins (He.ga K "Chain") dx (putF "book" (.ref x) (putF "tape" (.ref p5) (putF "top" (.int (top : Nat)) (putF "rules" (V.ref p3) (putF "many" (V.int (many : Nat)) (putF "program" (V.ref p1) []))))))))) := fun b o hb2 => by
      obtain ⟨e1, e2⟩ := rs_cases hb2
      have ha6 : (upd (upd H6 dx2 (.own x)) x (.ins (He.ga K "Book") dx2 [])) a = some _ := s67 _ _ (s6 _ _ a5)
      have hba : b ≠ a := fun z => by
        subst z
        rcases e2 with e2 | e2 | ⟨ys, e2⟩
        · rw [ha6] at e2; cases e2
        · exact hxa e2.symm
        · rw [a7, e2] at e1; cases e1
      have e3 := s8.ne e1 (nea hba)
      have hnH : H b = none → rs H a (upd H7 a _) b = some o := fun z => rsn z e3
      rcases e2 with e2 | e2 | ⟨ys, e2⟩
      · refine hnH ?_
        cases e : H b with
        | none => rfl
        | some o2 =>
          have := s67 _ _ (s6 _ _ (k5.ne e (nea hba)))
          rw [e2] at this
          cases this
      · exact hnH (by rw [e2]; exact hxH)
      · rw [e2]; rw [e2] at e3; exact rs_tup e3
    refine k _ ((k5.trans (Kp.same s57)).trans s8) ⟨a, dx, _, .ref p1, .ref p3, .ref p5, .ref x, rfl, rs_a upd_same, ⟨?_, p1, x1, rfl, SqL.of (rsn n1 d1), (g1.tx s8.tx).tx rs_tx⟩, ?_, ⟨?_, p3, x3, rfl, SqL.of (rsn (kp_new k2 n3 a2) d3), (g3.tx s8.tx).tx rs_tx⟩, ?_, ⟨?_, p5, x5, rfl, SqL.of (rsn (kp_new k4 n5 a4) d5), (g5.tx s8.tx).tx rs_tx⟩, ⟨lkP _ _ _, BfAt.mono K _ N _ _ _ hS hb⟩⟩
    · exact lkN _ (by decide +kernel) (lkN _ (by decide +kernel) (lkN _ (by decide +kernel) (lkN _ (by decide +kernel) (lkN _ (by decide +kernel) (lkP _ _ _)))))
    · exact lkN _ (by decide +kernel) (lkN _ (by decide +kernel) (lkN _ (by decide +kernel) (lkN _ (by decide +kernel) (lkP _ _ _))))
    · exact lkN _ (by decide +kernel) (lkN _ (by decide +kernel) (lkN _ (by decide +kernel) (lkP _ _ _)))
    · exact lkN _ (by decide +kernel) (lkN _ (by decide +kernel) (lkP _ _ _))
    · exact lkN _ (by decide +kernel) (lkP _ _ _)
end
end My

/-! W28: the chain's images, walked. -/
namespace My
open PySem PySem.Spec PyProof.Rows L2
section
variable {P : Program} {w : World} {K : PySem.W.Frag} {mg : Str → Option Value} {base : Heap}
section
variable {prog : List Row} {many top N : Nat} {tape : List TR} {σ : L2.St} {H : Hp} {te : TE}
theorem ev_chBook (T : Txt P w K mg base) (he : Ev K te σ H (Ag.ch K prog many top N tape)) : Ev K (tFld K te "book") σ H (Ag.bf K tape N) := fun H1 s Q q =>
  he H1 s _ fun v H2 s2 ⟨a, dx, fs, vp, vr, vt, vb, e, h1, h2, h3, h4, h5, h6, h7⟩ => ⟨a, _, dx, fs, _, e, h1, T.cls_Chain, T.no_Chain_book, h7.1, q _ H2 s2 h7.2⟩
theorem ev_chTop (T : Txt P w K mg base) (he : Ev K te σ H (Ag.ch K prog many top N tape)) : Ev K (tFld K te "top") σ H (.t (.int (top : Nat))) := fun H1 s Q q =>
  he H1 s _ fun v H2 s2 ⟨a, dx, fs, vp, vr, vt, vb, e, h1, h2, h3, h4, h5, h6, h7⟩ => ⟨a, _, dx, fs, _, e, h1, T.cls_Chain, T.no_Chain_top, h5, q _ H2 s2 (Td.int _)⟩
theorem ev_chMany (T : Txt P w K mg base) (he : Ev K te σ H (Ag.ch K prog many top N tape)) : Ev K (tFld K te "many") σ H (.t (.int (many : Nat))) := fun H1 s Q q =>
  he H1 s _ fun v H2 s2 ⟨a, dx, fs, vp, vr, vt, vb, e, h1, h2, h3, h4, h5, h6, h7⟩ => ⟨a, _, dx, fs, _, e, h1, T.cls_Chain, T.no_Chain_many, h3, q _ H2 s2 (Td.int _)⟩
theorem ev_chProg (T : Txt P w K mg base) (he : Ev K te σ H (Ag.ch K prog many top N tape)) : Ev K (tFld K te "program") σ H (.l (prog.map Row.d)) := fun H1 s Q q =>
  he H1 s _ fun v H2 s2 ⟨a, dx, fs, vp, vr, vt, vb, e, h1, h2, h3, h4, h5, h6, h7⟩ => ⟨a, _, dx, fs, _, e, h1, T.cls_Chain, T.no_Chain_program, h2.1, q _ H2 s2 h2.2⟩
theorem ev_chRules (T : Txt P w K mg base) (he : Ev K te σ H (Ag.ch K prog many top N tape)) : Ev K (tFld K te "rules") σ H (.l ((rowsT many prog).map RR.d)) := fun H1 s Q q =>
  he H1 s _ fun v H2 s2 ⟨a, dx, fs, vp, vr, vt, vb, e, h1, h2, h3, h4, h5, h6, h7⟩ => ⟨a, _, dx, fs, _, e, h1, T.cls_Chain, T.no_Chain_rules, h4.1, q _ H2 s2 h4.2⟩
theorem ev_chTape (T : Txt P w K mg base) (he : Ev K te σ H (Ag.ch K prog many top N tape)) : Ev K (tFld K te "tape") σ H (.l (tape.map TR.d)) := fun H1 s Q q =>
  he H1 s _ fun v H2 s2 ⟨a, dx, fs, vp, vr, vt, vb, e, h1, h2, h3, h4, h5, h6, h7⟩ => ⟨a, _, dx, fs, _, e, h1, T.cls_Chain, T.no_Chain_tape, h6.1, q _ H2 s2 h6.2⟩
end
theorem ev_callD {σ : L2.St} {H : Hp} {ta : TA} {as : List Ag} {d : PyData} {E : XK} {F : Gr} (hf : F (as ++ [.t (.int 0)]) d) (h : Ea K ta σ H as) : Ev K (tCall (SpT K F) [.int 0] E ta) σ H (.t d) := fun H1 s Q q =>
  h H1 s _ fun vs H2 s2 hvs => ⟨as ++ [.t (.int 0)], d, hf, by
    have : ∀ {as : List Ag} {vs : List V}, AtAll K H2 vs as → AtAll K H2 (vs ++ [.int 0]) (as ++ [.t (.int 0)]) := by
      intro as
      induction as with
      | nil => intro vs h; cases h; exact .cons (Td.int 0) .nil
      | cons a as ih =>
        intro vs h
        cases h with
        | cons h1 h2 => exact .cons h1 (ih h2)
    exact this hvs, fun v H3 s3 hv => q v H3 (s2.trans s3) hv⟩
def cntR (cs : List Nat) : List Lt := cs.flatMap fun c => List.replicate c .i ++ [.e]
theorem cntW_eq (cs : List Nat) : cntW cs = .b :: cntR cs := rfl

def f_chain_image (K : PySem.W.Frag) : Gr := fun as d => ∃ (prog : List Row) (many top N : Nat) (tape : List TR) (p : Nat) (cs : List Nat), p < N ∧ cs.length ≤ 100 ∧ (∀ c ∈ cs, c ≤ 100) ∧ (cntR cs).length ≤ 1000 ∧ as = [Ag.ch K prog many top N tape, .t (.tuple [.int p, csD cs])] ∧ d = (imT tape N p [] .b (cntR cs)).d
theorem len_chain_image {as : List Ag} {d : PyData} (h : f_chain_image K as d) : as.length = 2 := by obtain ⟨_, _, _, _, _, _, _, _, _, _, _, rfl, _⟩ := h; rfl
theorem sc_chain_image : FnScope ["chain", "stand"] ["chain", "stand"] (defScope st_chain_image) := ⟨rfl, rfl, rfl, by decide +kernel, rfl, by decide +kernel, by decide +kernel⟩
theorem has_chain_image (T : Txt P w K mg base) : Has P w K mg base "chain_image" ["chain", "stand"] 72 (SpT K (f_chain_image K)) := by
  refine has_mk T.glo_chain_image (T.c.def_ 59 (d := d_chain_image) rfl) sc_chain_image (SpT.len (fun as d h => by exact len_chain_image h)) (fun _ _ _ _ _ _ us hl => match us, hl with | [_, _], _ => rfl) (fun cdv A outer s H vs Q E hr h => ?_)
  refine ⟨_, (pss_one (ps_ret (pc (has_tape_image T) (hr.mono (by decide)) (pa_cons (pe_fldK (K := K) (pv 0) rfl) (pa_cons (pcD (has_row_image T) (hr.mono (by decide)) (pa_cons (pc (has_counter_image T) (hr.mono (by decide)) (pa_cons (pv 1) pa_nil)) pa_nil)) pa_nil))))), ?_⟩
  obtain ⟨as, d, ⟨prog, many, top, N, tape, p, cs, hp, hl, hc, hr2, rfl, rfl⟩, hv, k⟩ := h
  obtain ⟨x, y, rfl, hx, hy⟩ := hv.i2
  have ex : Ev K (tVar 0) [some x, some y] H (Ag.ch K prog many top N tape) := ev_var rfl hx
  exact st_ret (ev_call (F := f_tape_image K) ⟨tape, N, p, [], .b, cntR cs, hp, by decide, hr2, rfl, rfl⟩ (ea_cons (ev_chBook T ex) (ea_cons (ev_callD (F := f_row_image) ⟨p, .b, cntR cs, by omega, rfl, rfl⟩ (ea_cons (ev_call (F := f_counter_image) ⟨p, cs, hl, hc, rfl, rfl⟩ (ea_cons (vD rfl hy) ea_nil)) ea_nil)) ea_nil))) k
/-- what the tree tells of the tape -/
def tapeTold (tape : List TR) (N : Nat) (t : Tr) : PyData := if isNonD (imageTold tape N t) = true then endTold N t else imageTold tape N t
/-- what it tells of the counters -/
def Told (size many top : Nat) (td d : PyData) : Prop := (td = .none ∧ d = .none) ∨ ∃ (q : Nat) (l : List Lt) (c : Lt) (r : List Lt), td = stD q l c r ∧ r.length ≤ 90000 ∧
  ((top < q ∧ d = .none) ∨ (q ≤ top ∧ ∃ (x : List Lt) (n : Nat), c :: r = x ++ List.replicate n .u ∧ Lt.u ∉ x ∧ ((size < q ∧ d = .none) ∨ (q ≤ size ∧ ∃ cs : List Nat, cs.length = many ∧ x = cntW cs ∧ d = .tuple [.int q, csD cs]))))
def f_chain_told (K : PySem.W.Frag) : Gr := fun as d => ∃ (prog : List Row) (many top N : Nat) (tape : List TR) (t : Tr), N ≤ 90 ∧ (∀ q, q < N → (stT tape N q).depth ≤ 500) ∧ t.depth ≤ 1000000 ∧ as = [Ag.ch K prog many top N tape, .t t.d] ∧ Told prog.length many top (tapeTold tape N t) d
theorem len_chain_told {as : List Ag} {d : PyData} (h : f_chain_told K as d) : as.length = 2 := by obtain ⟨_, _, _, _, _, _, _, _, _, rfl, _⟩ := h; rfl
theorem sc_chain_told : FnScope ["chain", "tree", "tape", "row"] ["chain", "tree"] (defScope st_chain_told) := ⟨rfl, rfl, rfl, by decide +kernel, rfl, by decide +kernel, by decide +kernel⟩
theorem has_chain_told (T : Txt P w K mg base) : Has P w K mg base "chain_told" ["chain", "tree"] 22 (SpT K (f_chain_told K)) := by
  refine has_mk T.glo_chain_told (T.c.def_ 60 (d := d_chain_told) rfl) sc_chain_told (SpT.len (fun as d h => by exact len_chain_told h)) (fun _ _ _ _ _ _ us hl => match us, hl with | [_, _], _ => rfl) (fun cdv A outer s H vs Q E hr h => ?_)
  refine ⟨_, (pss_cons (ps_set (i := 2) sc_chain_told.nd rfl (by first | exact Or.inl rfl | exact Or.inr rfl) (pc (has_image_told T) (hr.mono (by decide)) (pa_cons (pe_fldK (K := K) (pv 0) rfl) (pa_cons (pv 1) pa_nil))))
    (pss_cons (ps_if (pt_cmp (pc_isN (pv 2))) (pss_one (ps_set (i := 2) sc_chain_told.nd rfl (by first | exact Or.inl rfl | exact Or.inr rfl) (pc (has_end_told T) (hr.mono (by decide)) (pa_cons (pe_fldK (K := K) (pv 0) rfl) (pa_cons (pv 1) pa_nil))))) pss_nil)
    (pss_cons (ps_if (pt_cmp (pc_isN (pv 2))) (pss_one (ps_ret pe_non)) pss_nil)
    (pss_cons (ps_set (i := 3) sc_chain_told.nd rfl (by first | exact Or.inl rfl | exact Or.inr rfl) (pc (has_row_told T) (hr.mono (by decide)) (pa_cons (pe_fldK (K := K) (pv 0) rfl) (pa_cons (pv 2) pa_nil))))
    (pss_cons (ps_if (pt_cmp (pc_isN (pv 3))) (pss_one (ps_ret pe_non)) pss_nil)
    (pss_one (ps_ret (pc (has_counter_told T) (hr.mono (by decide)) (pa_cons (pe_callB (call_lenK (K := K)) (by rfl) T.free_len PySem.boot_len (pa_cons (pe_fldK (K := K) (pv 0) rfl) pa_nil)) (pa_cons (pe_fldK (K := K) (pv 0) rfl) (pa_cons (pv 3) pa_nil))))))))))), ?_⟩
  obtain ⟨as, d, ⟨prog, many, top, N, tape, t, hN, hst, hd, rfl, htold⟩, hv, k⟩ := h
  obtain ⟨x, y, rfl, hx, hy⟩ := hv.i2
  have hy : Td H y t.d := hy
  have ex : ∀ {H' o2 o3}, Same H H' → Ev K (tVar 0) [some x, some y, o2, o3] H' (Ag.ch K prog many top N tape) := fun s => ev_var rfl (At.sm s hx)
  have ey : ∀ {H' o2 o3}, Same H H' → Ev K (tVar 1) [some x, some y, o2, o3] H' (.t t.d) := fun s => vD rfl (hy.sm s)
  -- behind the two looks
  have fin : ∀ (v : V) (H3 : Hp) (D : Ends), Same H H3 → Td H3 v (tapeTold tape N t) → D.rt = Q → tSeq (tIfS (tB (tIsN (tVar 2))) (tRet (tC .non)) tNext)
      (tSeq (tAsg (tCall (SpT K f_row_told) [] E0 (tCons (tFld K (tVar 0) "top") (tCons (tVar 2) tNil))) (gName 3)) (tSeq (tIfS (tB (tIsN (tVar 3))) (tRet (tC .non)) tNext)
        (tRet (tCall (SpT K f_counter_told) [] E0 (tCons (tCB (rLenK K) (tCons (tFld K (tVar 0) "program") tNil)) (tCons (tFld K (tVar 0) "many") (tCons (tVar 3) tNil))))))) D [some x, some y, some v, none] H3 := fun v H3 D s3 hv3 hD => by
    have rt : ∀ (v : V) (H' : Hp), Same H3 H' → Td H' v d → D.rt v H' := fun v H' s h => by rw [hD]; exact k v H' (s3.trans s) h
    rcases htold with ⟨e1, rfl⟩ | ⟨q, l, c, r, e1, hrl, hcase⟩
    · rw [e1] at hv3
      exact q_ifT ((eb_B (ev_isN (K := K) (r := true) (vD rfl hv3) rfl)).is rfl) fun H4 s4 => st_ret (K := K) ev_non fun v H5 s5 h5 => rt v H5 (s4.trans s5) h5
    · rw [e1] at hv3
      refine q_ifN ((eb_B (ev_isN (K := K) (r := false) (vD rfl hv3) rfl)).is rfl) fun H4 s4 => ?_
      have s04 := s3.trans s4
      rcases hcase with ⟨hlt, rfl⟩ | ⟨hle, w', n, e2, hu, hc2⟩
      · refine q_set (K := K) (ev_call (F := f_row_told) ⟨top, q, l, c, r, by omega, rfl, .inl ⟨hlt, rfl⟩⟩ (ea_cons (ev_chTop T (ex s04)) (ea_cons (vD rfl (hv3.sm s4)) ea_nil))) fun v5 H5 s5 h5 => ?_
        exact q_ifT ((eb_B (ev_isN (K := K) (r := true) (vD rfl h5) rfl)).is rfl) fun H6 s6 => st_ret (K := K) ev_non fun v H7 s7 h7 => rt v H7 (s4.trans (s5.trans (s6.trans s7))) h7
      · refine q_set (K := K) (ev_call (F := f_row_told) ⟨top, q, l, c, r, by omega, rfl, .inr ⟨hle, w', n, e2, hu, rfl⟩⟩ (ea_cons (ev_chTop T (ex s04)) (ea_cons (vD rfl (hv3.sm s4)) ea_nil))) fun v5 H5 s5 h5 => ?_
        have h5 : Td H5 v5 (.tuple [.int q, .str (sw w')]) := h5
        refine q_ifN ((eb_B (ev_isN (K := K) (r := false) (vD rfl h5) rfl)).is rfl) fun H6 s6 => ?_
        have s36 := s4.trans (s5.trans s6)
        have hwl : w'.length ≤ 100000 := by
          have := congrArg List.length e2
          rw [List.length_cons, List.length_append] at this
          omega
        refine st_ret (K := K) (ev_call (F := f_counter_told) ⟨prog.length, many, q, w', hwl, rfl, hc2⟩ (ea_cons (ev_len (ev_chProg T (ex (s3.trans s36))) (List.length_map _)) (ea_cons (ev_chMany T (ex (s3.trans s36))) (ea_cons (vD rfl (h5.sm s6)) ea_nil)))) fun v H7 s7 h7 => rt v H7 (s36.trans s7) h7
  refine q_set (K := K) (ev_call (F := f_image_told K) ⟨tape, N, t, hN, hst, hd, rfl, rfl⟩ (ea_cons (ev_chBook T (ex (Same.refl _))) (ea_cons (ey (Same.refl _)) ea_nil))) fun v1 H1 s1 h1 => ?_
  have h1 : Td H1 v1 (imageTold tape N t) := h1
  cases hn : isNonD (imageTold tape N t) with
  | true =>
    have et : tapeTold tape N t = endTold N t := if_pos hn
    refine q_ifT ((eb_B (ev_isN (K := K) (r := true) (vD rfl h1) hn)).is rfl) fun H2 s2 => ?_
    refine st_set (K := K) (ev_call (F := f_end_told K) ⟨tape, N, t, hN, hd, rfl, rfl⟩ (ea_cons (ev_chBook T (ex (s1.trans s2))) (ea_cons (ey (s1.trans s2)) ea_nil))) fun v3 H3 s3 h3 => ?_
    exact fin v3 H3 { nx := fun _ H' => Q .non H', rt := Q } (s1.trans (s2.trans s3)) (by rw [et]; exact h3) rfl
  | false =>
    have et : tapeTold tape N t = imageTold tape N t := if_neg (by rw [hn]; decide)
    refine q_ifN ((eb_B (ev_isN (K := K) (r := false) (vD rfl h1) hn)).is rfl) fun H2 s2 => ?_
    exact fin v1 H2 { nx := fun _ H' => Q .non H', rt := Q } (s1.trans s2) (by rw [et]; exact h1.sm s2) rfl
end
end My

/-! W29: the law's draws, walked. -/
namespace My
open PySem PySem.Spec PyProof.Rows L2
section
variable {P : Program} {w : World} {K : PySem.W.Frag} {mg : Str → Option Value} {base : Heap}
theorem eqv_int (i j : Int) : PyData.eqv (.int i) (.int j) = decide (i = j) := by
  by_cases h : i = j
  · subst h
    rw [decide_eq_true rfl]
    first | rfl | simp [PyData.eqv]
  · rw [decide_eq_false h]
    first | (simp [PyData.eqv, h]; done) | (simp [PyData.eqv]; omega)
theorem ev_eqJ {σ : L2.St} {H : Hp} {ta tb : TE} {i j : Int} (ha : Ev K ta σ H (.t (.int i))) (hb : Ev K tb σ H (.t (.int j))) : Ev K (tOp (rEqG K 200) ta tb) σ H (.t (.bool (decide (i = j)))) := (ev_eqG ha hb rfl rfl rfl rfl (Nat.zero_le _)).is (by rw [eqv_int])
theorem ev_neJ {σ : L2.St} {H : Hp} {ta tb : TE} {i j : Int} (ha : Ev K ta σ H (.t (.int i))) (hb : Ev K tb σ H (.t (.int j))) : Ev K (tOp (rNeG K 200) ta tb) σ H (.t (.bool (!decide (i = j)))) := (ev_neG ha hb rfl rfl rfl rfl (Nat.zero_le _)).is (by rw [eqv_int])

def cellT (ns : List Int) (k : Nat) : Int := match ns[k]? with
  | some v => v
  | none => if ns = [] then ((k : Int) * 7919 + 5) * ((k : Int) * 7919 + 5) % 2147483629 else
      ((ns.getD (k * 7 % ns.length) 0 * 48271 + (k : Int) * 7919) % 2147483647) * ((ns.getD (k * 7 % ns.length) 0 * 48271 + (k : Int) * 7919) % 2147483647) % 2147483629
def f_law_cell : Gr := fun as d => ∃ (ns : List Int) (k : Nat), k ≤ 1000 ∧ as = [.l (ns.map PyData.int), .t (.int k)] ∧ d = .int (cellT ns k)
theorem len__law_cell {as : List Ag} {d : PyData} (h : f_law_cell as d) : as.length = 2 := by obtain ⟨_, _, _, rfl, _⟩ := h; rfl
theorem at_ints {ns : List Int} {k : Nat} {v : Int} (h : ns[k]? = some v) : atI (ns.map PyData.int) (k : Int) = some (.int v) := by
  have hl := (List.getElem?_eq_some_iff.mp h).1
  refine atI_get (j := k) ?_ ?_
  · unfold ixN
    rw [List.length_map, if_pos (by omega), if_pos (by omega)]
    rfl
  · rw [List.getElem?_map, h]
    rfl
theorem sc__law_cell : FnScope ["_law_script", "_law_k", "_law_number"] ["_law_script", "_law_k"] (defScope st__law_cell) := ⟨rfl, rfl, rfl, by decide +kernel, rfl, by decide +kernel, by decide +kernel⟩
theorem has__law_cell (T : Txt P w K mg base) : Has P w K mg base "_law_cell" ["_law_script", "_law_k"] 1 (SpT K f_law_cell) := by
  refine has_mk T.glo__law_cell (T.c.def_ 61 (d := d__law_cell) rfl) sc__law_cell (SpT.len (fun as d h => by exact len__law_cell h)) (fun _ _ _ _ _ _ us hl => match us, hl with | [_, _], _ => rfl) (fun cdv A outer s H vs Q E hr h => ?_)
  refine ⟨_, (pss_cons (ps_if (pt_cmpR op_lt (pv 1) (pe_callB (call_lenK (K := K)) (by rfl) T.free_len PySem.boot_len (pa_cons (pv 0) pa_nil)) (nomark _)) (pss_one (ps_ret (pe_ixK (K := K) (pv 0) (pv 1) (fun _ _ => rfl)))) pss_nil)
    (pss_cons (ps_set (i := 2) sc__law_cell.nd rfl (by first | exact Or.inl rfl | exact Or.inr rfl) (pe_op op_addG (pe_op op_mul (pv 1) pe_int) pe_int))
    (pss_cons (ps_if (pt_cmpR op_gt (pe_callB (call_lenK (K := K)) (by rfl) T.free_len PySem.boot_len (pa_cons (pv 0) pa_nil)) pe_int (nomark _)) (pss_one (ps_set (i := 2) sc__law_cell.nd rfl (by first | exact Or.inl rfl | exact Or.inr rfl) (pe_op op_mod (pe_op op_addG (pe_op op_mul (pe_ixK (K := K) (pv 0) (pe_op op_mod (pe_op op_mul (pv 1) pe_int) (pe_callB (call_lenK (K := K)) (by rfl) T.free_len PySem.boot_len (pa_cons (pv 0) pa_nil))) (fun _ _ => rfl)) pe_int) (pe_op op_mul (pv 1) pe_int)) pe_int))) pss_nil)
    (pss_one (ps_ret (pe_op op_mod (pe_op op_mul (pv 2) (pv 2)) pe_int)))))), ?_⟩
  obtain ⟨as, d, ⟨ns, n, hn, rfl, rfl⟩, hv, k⟩ := h
  obtain ⟨x, y, rfl, hx, hy⟩ := hv.i2
  obtain rfl := Td.int_of hy
  have ex : ∀ {H' o2}, Same H H' → Ev K (tVar 0) [some x, some (.int n), o2] H' (.l (ns.map PyData.int)) := fun s => ev_var rfl (At.sm s hx)
  have el : ∀ {H' o2}, Same H H' → Ev K (tCB (rLenK K) (tCons (tVar 0) tNil)) [some x, some (.int n), o2] H' (.t (.int ns.length)) := fun s => ev_len (ex s) (List.length_map _)
  have e1 : Eb (tTest (tOp (rI0 fun i j => .bl (decide (i < j))) (tVar 1) (tCB (rLenK K) (tCons (tVar 0) tNil)))) [some x, some (.int n), none] H (decide ((n : Int) < (ns.length : Int))) := eb_test (ev_cmpI (K := K) (f := fun i j => decide (i < j)) (vI rfl) (el (Same.refl _)))
  by_cases h1 : n < ns.length
  · obtain ⟨v, hv1⟩ : ∃ v, ns[n]? = some v := ⟨_, List.getElem?_eq_getElem h1⟩
    have ec : cellT ns n = v := by unfold cellT; rw [hv1]
    rw [ec] at k
    exact q_ifT (e1.is (decide_eq_true (by omega))) fun H2 s2 => st_ret (ev_ixL (ex s2) (vI rfl) (at_ints hv1)) fun v H3 s3 h3 => k v H3 (s2.trans s3) h3
  · have hno : ns[n]? = none := List.getElem?_eq_none (by omega)
    refine q_ifN (e1.is (decide_eq_false (by omega))) fun H2 s2 => ?_
    refine q_set (K := K) (ev_addI (K := K) (ev_mulI (vI rfl) ev_int (Or.inr (by decide))) ev_int) fun v3 H3 s3 h3 => ?_
    obtain rfl := Td.int_of h3
    have s13 := s2.trans s3
    have e2 : Eb (tTest (tOp (rI0 fun i j => .bl (decide (i > j))) (tCB (rLenK K) (tCons (tVar 0) tNil)) (tC (.int 0)))) [some x, some (.int n), some (.int ((n : Int) * 7919 + 5))] H3 (decide ((ns.length : Int) > 0)) := eb_test (ev_cmpI (K := K) (f := fun i j => decide (i > j)) (el s13) ev_int)
    have fin : ∀ (z : Int) (H4 : Hp) (D : Ends), D.rt = Q → Same H H4 → (z.natAbs : Int) ≤ 2147483647 → cellT ns n = z * z % 2147483629 → tRet (tOp (rI (fun _ j => 0 < j) fun i j => .int (i % j)) (tOp (rI CMul fun i j => .int (i * j)) (tVar 2) (tVar 2)) (tC (.int 2147483629))) D [some x, some (.int n), some (.int z)] H4 := fun z H4 D hD s4 hz ez => by
      rw [ez] at k
      refine st_ret (K := K) (ev_modI (ev_mulI (vI rfl) (vI rfl) (Or.inl ⟨by omega, by omega⟩)) ev_int (by decide)) fun v H5 s5 h5 => ?_
      rw [hD]
      exact k v H5 (s4.trans s5) h5
    by_cases h0 : ns = []
    · refine q_ifN (e2.is (decide_eq_false (by rw [h0]; decide))) fun H4 s4 => ?_
      exact fin _ H4 { nx := fun _ H' => Q .non H', rt := Q } rfl (s13.trans s4) (by omega) (by unfold cellT; rw [hno, if_pos h0])
    · have hlp : 0 < ns.length := List.length_pos_iff.mpr h0
      refine q_ifT (e2.is (decide_eq_true (by omega))) fun H4 s4 => ?_
      have s14 := s13.trans s4
      have hlt : n * 7 % ns.length < ns.length := Nat.mod_lt _ hlp
      have hg : ns[n * 7 % ns.length]? = some (ns.getD (n * 7 % ns.length) 0) := by rw [List.getD_eq_getElem?_getD, List.getElem?_eq_getElem hlt]; rfl
      have ei : (n : Int) * 7 % (ns.length : Int) = ((n * 7 % ns.length : Nat) : Int) := by rw [Int.natCast_emod, Int.natCast_mul]; rfl
      have eix := ev_modI (K := K) (σ := [some x, some (.int n), some (.int ((n : Int) * 7919 + 5))]) (H := H4) (ev_mulI (ta := tVar 1) (vI rfl) (ev_int (i := 7)) (Or.inr (by decide))) (el s14) (by omega)
      rw [ei] at eix
      refine st_set (K := K) (ev_modI (ev_addI (ev_mulI (ev_ixL (ex s14) eix (at_ints hg)) ev_int (Or.inr (by decide))) (ev_mulI (vI rfl) ev_int (Or.inr (by decide)))) ev_int (by decide)) fun v5 H5 s5 h5 => ?_
      obtain rfl := Td.int_of h5
      refine fin _ H5 { nx := fun _ H' => Q .non H', rt := Q } rfl (s14.trans s5) ?_ (by unfold cellT; rw [hno, if_neg h0])
      have m1 := Int.emod_nonneg (ns.getD (n * 7 % ns.length) 0 * 48271 + (n : Int) * 7919) (b := 2147483647) (by decide)
      have m2 := Int.emod_lt_of_pos (ns.getD (n * 7 % ns.length) 0 * 48271 + (n : Int) * 7919) (b := 2147483647) (by decide)
      omega
def f_law_whole : Gr := fun as d => ∃ i : Int, as = [.t (.int i)] ∧ d = .bool true
theorem len__law_whole {as : List Ag} {d : PyData} (h : f_law_whole as d) : as.length = 1 := by obtain ⟨_, rfl, _⟩ := h; rfl
theorem sc__law_whole : FnScope ["_law_found"] ["_law_found"] (defScope st__law_whole) := ⟨rfl, rfl, rfl, by decide +kernel, rfl, by decide +kernel, by decide +kernel⟩
theorem has__law_whole (T : Txt P w K mg base) : Has P w K mg base "_law_whole" ["_law_found"] 1 (SpT K f_law_whole) := by
  refine has_mk T.glo__law_whole (T.c.def_ 62 (d := d__law_whole) rfl) sc__law_whole (SpT.len (fun as d h => by exact len__law_whole h)) (fun _ _ _ _ _ _ us hl => match us, hl with | [_], _ => rfl) (fun cdv A outer s H vs Q E hr h => ?_)
  refine ⟨_, (pss_one (ps_ret (pe_and (pe_callB call_isi (by rfl) T.free_isinstance (by decide +kernel) (pa_cons (pv 0) (pa_cons (pe_bltn (v := .ty "int") (u := .type "int") rfl T.free_int (by decide +kernel) rfl) pa_nil))) (pe_one (pe_not (pe_callB call_isi (by rfl) T.free_isinstance (by decide +kernel) (pa_cons (pv 0) (pa_cons (pe_bltn (v := .ty "bool") (u := .type "bool") rfl T.free_bool (by decide +kernel) rfl) pa_nil)))))))), ?_⟩
  obtain ⟨as, d, ⟨i, rfl, rfl⟩, hv, k⟩ := h
  obtain ⟨x, rfl, hx⟩ := hv.i1
  obtain rfl := Td.int_of hx
  exact st_ret (K := K) (ev_andV (a := true) (b := true) (ev_isi (d := .int i) (vI rfl) (by show kitB "int" "int" = some true; decide +kernel)) fun _ => (ev_notV (a := false) (ev_isi (d := .int i) (vI rfl) (by show kitB "int" "bool" = some false; decide +kernel)))) k
end
end My

/-! W30: the law's program and stand, walked. -/
namespace My
open PySem PySem.Spec PyProof.Rows L2
def b01 (b : Bool) : Nat := if b = true then 1 else 0
def sizeT (c : Int) : Nat := (1 + c % 2).toNat * b01 (!decide (c / 6 % 8 = 1))
def manyT (c : Int) : Nat := 1 + b01 (decide (c / 2 % (if c % 2 = 0 then 3 else 6) = 1))
def rowOf (c : Int) (many size : Nat) : Row := if c % 3 = 0 then .up (c / 3 % (many : Int)).toNat (c / 6 % ((size + 1 : Nat) : Int)).toNat else .down (c / 3 % (many : Int)).toNat (c / 6 % ((size + 1 : Nat) : Int)).toNat (c / 24 % ((size + 1 : Nat) : Int)).toNat
def progT (ns : List Int) : List Row := (List.range (sizeT (cellT ns 0))).map fun k => rowOf (cellT ns (1 + k)) (manyT (cellT ns 0)) (sizeT (cellT ns 0))
def standT (ns : List Int) (size many : Nat) : Nat × List Nat :=
  ((cellT ns 3 % ((size + 1 : Nat) : Int)).toNat, if many = 2 then ([[0, 0], [1, 0], [0, 1]].getD ((cellT ns 3 / 3 % 3).toNat * b01 (decide (size < 2))) []) else [(cellT ns 3 / 3 % 2).toNat])
theorem b01_le (b : Bool) : b01 b ≤ 1 := by cases b <;> decide
theorem size_le (c : Int) : sizeT c ≤ 2 := by
  unfold sizeT b01
  have h1 := Int.emod_nonneg c (b := 2) (by decide)
  have h2 := Int.emod_lt_of_pos c (b := 2) (by decide)
  split <;> omega
theorem many_le (c : Int) : 1 ≤ manyT c ∧ manyT c ≤ 2 := by
  have := b01_le (decide (c / 2 % (if c % 2 = 0 then 3 else 6) = 1))
  unfold manyT
  omega
theorem em_nat (c : Int) (m : Nat) (h : 0 < m) : c % (m : Int) = (((c % (m : Int)).toNat : Nat) : Int) := (Int.toNat_of_nonneg (Int.emod_nonneg _ (by omega))).symm
theorem em_lt (c : Int) (m : Nat) (h : 0 < m) : (c % (m : Int)).toNat < m := by
  have h1 := Int.emod_nonneg c (b := (m : Int)) (by omega)
  have h2 := Int.emod_lt_of_pos c (b := (m : Int)) (by omega)
  omega
/-- a list and a number, in a tuple -/
def LnAt (ds : List PyData) (n : Nat) (v : V) (H : Hp) : Prop := ∃ a p xs, v = .ref a ∧ H a = some (.tup [.ref p, .int (n : Nat)]) ∧ H p = some (.lst xs) ∧ TdAll H xs ds
theorem LnAt.mono (ds : List PyData) (n : Nat) : Mono (LnAt ds n) := fun v H H' s ⟨a, p, xs, e, h1, h2, h3⟩ => ⟨a, p, xs, e, s _ _ h1, s _ _ h2, h3.sm s⟩
def Ag.ln (ds : List PyData) (n : Nat) : Ag := .o (LnAt ds n) (LnAt.mono ds n)
section
variable {P : Program} {w : World} {K : PySem.W.Frag} {mg : Str → Option Value} {base : Heap}
theorem Ev.int {σ : L2.St} {H : Hp} {te : TE} {i j : Int} (h : Ev K te σ H (.t (.int i))) (e : i = j) : Ev K te σ H (.t (.int j)) := by rw [← e]; exact h
theorem ev_int01 {σ : L2.St} {H : Hp} {te : TE} {b : Bool} (h : Ev K te σ H (.t (.bool b))) : Ev K (tCB (fun xs H Q => (∃ i, xs = [.int i] ∧ Q (.int i) H) ∨ ∃ k, xs = [.bl k] ∧ Q (.int (if k then 1 else 0)) H) (tCons te tNil)) σ H (.t (.int (b01 b : Nat))) := (ev_intB h).is (by cases b <;> rfl)
theorem ev_cell {σ : L2.St} {H : Hp} {ta tb : TE} {ns : List Int} {k : Nat} (hk : k ≤ 1000) (h1 : Ev K ta σ H (.l (ns.map PyData.int))) (h2 : Ev K tb σ H (.t (.int k))) : Ev K (tCall (SpT K f_law_cell) [] E0 (tCons ta (tCons tb tNil))) σ H (.t (.int (cellT ns k))) := ev_call (F := f_law_cell) ⟨ns, k, hk, rfl, rfl⟩ (ea_cons h1 (ea_cons h2 ea_nil))

def f_law_program : List Ag → Ag → Prop := fun as r => ∃ ns : List Int, as = [.l (ns.map PyData.int)] ∧ r = Ag.ln ((progT ns).map Row.d) (manyT (cellT ns 0))
theorem len__law_program {as : List Ag} {r : Ag} (h : f_law_program as r) : as.length = 1 := by obtain ⟨_, rfl, _⟩ := h; rfl
theorem sc__law_program : FnScope ["_law_script", "_law_cell_here", "_law_size", "_law_many", "_law_rows", "_law_k", "_law_counter"] ["_law_script"] (defScope st__law_program) := ⟨rfl, rfl, rfl, by decide +kernel, rfl, by decide +kernel, by decide +kernel⟩
theorem has__law_program (T : Txt P w K mg base) : Has P w K mg base "_law_program" ["_law_script"] 2 (SpG K f_law_program) := by
  refine has_mk T.glo__law_program (T.c.def_ 63 (d := d__law_program) rfl) sc__law_program (SpG.len (fun as d h => by exact len__law_program h)) (fun _ _ _ _ _ _ us hl => match us, hl with | [_], _ => rfl) (fun cdv A outer s H vs Q E hr h => ?_)
  refine ⟨_, (pss_cons (ps_set (i := 1) sc__law_program.nd rfl (by first | exact Or.inl rfl | exact Or.inr rfl) (pc (has__law_cell T) (hr.mono (by decide)) (pa_cons (pv 0) (pa_cons pe_int pa_nil))))
    (pss_cons (ps_set (i := 2) sc__law_program.nd rfl (by first | exact Or.inl rfl | exact Or.inr rfl) (pe_op op_mul (pe_op op_addG pe_int (pe_op op_mod (pv 1) pe_int)) (pe_callTy call_int1 (by rfl) T.free_int (by decide +kernel) (pa_cons (pe_cmpR (op_neSK (K := K) hr) (pe_op op_mod (pe_op op_fdiv (pv 1) pe_int) pe_int) pe_int (nomark _)) pa_nil))))
    (pss_cons (ps_set (i := 3) sc__law_program.nd rfl (by first | exact Or.inl rfl | exact Or.inr rfl) (pe_op op_addG pe_int (pe_callTy call_int1 (by rfl) T.free_int (by decide +kernel) (pa_cons (pe_cmpR (op_eqSK (K := K) hr) (pe_op op_mod (pe_op op_fdiv (pv 1) pe_int) (pe_ixK (K := K) (pe_lst (pa_cons pe_int (pa_cons pe_int pa_nil))) (pe_op op_mod (pv 1) pe_int) (fun _ _ => rfl))) pe_int (nomark _)) pa_nil))))
    (pss_cons (ps_set (i := 4) sc__law_program.nd rfl (by first | exact Or.inl rfl | exact Or.inr rfl) (pe_lst pa_nil))
    (pss_cons (ps_for PassesOwn.never rfl (pi_range1 (by rfl) T.free_range (pa_cons (pv 2) pa_nil)) (pg_name (i := 5) sc__law_program.nd rfl (by first | exact Or.inl rfl | exact Or.inr rfl))
    (pss_cons (ps_set (i := 1) sc__law_program.nd rfl (by first | exact Or.inl rfl | exact Or.inr rfl) (pc (has__law_cell T) (hr.mono (by decide)) (pa_cons (pv 0) (pa_cons (pe_op op_addG pe_int (pv 5)) pa_nil))))
    (pss_cons (ps_set (i := 6) sc__law_program.nd rfl (by first | exact Or.inl rfl | exact Or.inr rfl) (pe_op op_mod (pe_op op_fdiv (pv 1) pe_int) (pv 3)))
    (pss_one (ps_if (pt_cmpR (op_eqSK (K := K) hr) (pe_op op_mod (pv 1) pe_int) pe_int (nomark _)) (pss_one (ps_expr (pe_bm PySem.F.plainAttrs_list PySem.F.slot_list_append PySem.F.type_list_append mt_append (pv 4) (pa_cons (pe_tup (pa_cons pe_str (pa_cons (pv 6) (pa_cons (pe_op op_mod (pe_op op_fdiv (pv 1) pe_int) (pe_op op_addG (pv 2) pe_int)) pa_nil)))) pa_nil)))) (pss_one (ps_expr (pe_bm PySem.F.plainAttrs_list PySem.F.slot_list_append PySem.F.type_list_append mt_append (pv 4) (pa_cons (pe_tup (pa_cons pe_str (pa_cons (pv 6) (pa_cons (pe_op op_mod (pe_op op_fdiv (pv 1) pe_int) (pe_op op_addG (pv 2) pe_int)) (pa_cons (pe_op op_mod (pe_op op_fdiv (pv 1) pe_int) (pe_op op_addG (pv 2) pe_int)) pa_nil))))) pa_nil)))))))))
    (pss_one (ps_ret (pe_tup (pa_cons (pv 4) (pa_cons (pv 3) pa_nil)))))))))), ?_⟩
  obtain ⟨as, r, ⟨ns, rfl, rfl⟩, hv, k⟩ := h
  obtain ⟨x, rfl, hx⟩ := hv.i1
  have ex : ∀ {H' o1 o2 o3 o4 o5 o6}, Same H H' → Ev K (tVar 0) [some x, o1, o2, o3, o4, o5, o6] H' (.l (ns.map PyData.int)) := fun s => ev_var rfl (At.sm s hx)
  refine q_set (K := K) (ev_cell (k := 0) (by decide) (ex (Same.refl _)) ev_int) fun v1 H1 s1 h1 => ?_
  obtain rfl := Td.int_of h1
  generalize hc : cellT ns 0 = c at k
  -- size
  refine q_set (K := K) (a := .t (.int (sizeT c : Nat))) ?_ fun v2 H2 s2 h2 => ?_
  · have h2 := ev_mulI (K := K) (σ := [some x, some (.int c), none, none, none, none, none]) (H := H1) (ev_addI (ta := tC (.int 1)) ev_int (ev_modI (ta := tVar 1) (tb := tC (.int 2)) (i := c) (j := 2) (vI rfl) ev_int (by decide))) (ev_int01 (ev_neJ (ev_modI (ev_divI (ta := tVar 1) (tb := tC (.int 6)) (i := c) (j := 6) (vI rfl) ev_int ⟨by decide, by decide⟩) (tb := tC (.int 8)) ev_int (by decide)) (tb := tC (.int 1)) ev_int)) (Or.inr (by unfold b01; split <;> decide))
    refine h2.int ?_
    have m1 := Int.emod_nonneg c (b := 2) (by decide)
    unfold sizeT
    rw [Int.natCast_mul]
    congr 1
    omega
  obtain rfl := Td.int_of h2
  refine q_set (K := K) (a := .t (.int (manyT c : Nat))) ?_ fun v3 H3 s3 h3 => ?_
  · have e36 : Ev K (tOp (rIx K) (tLst (tCons (tC (.int 3)) (tCons (tC (.int 6)) tNil))) (tOp (rI (fun _ j => 0 < j) fun i j => .int (i % j)) (tVar 1) (tC (.int 2)))) [some x, some (.int c), some (.int (sizeT c : Nat)), none, none, none, none] H2 (.t (.int (if c % 2 = 0 then 3 else 6))) := by
      refine ev_ixL (ds := [.int 3, .int 6]) (i := c % 2) (ef_lst (K := K) (ds := [.int 3, .int 6]) (ea_cons ev_int (ea_cons ev_int ea_nil)) (by decide)).ev (ev_modI (i := c) (j := 2) (vI rfl) ev_int (by decide)) ?_
      have m1 := Int.emod_nonneg c (b := 2) (by decide)
      have m2 := Int.emod_lt_of_pos c (b := 2) (by decide)
      rcases (show c % 2 = 0 ∨ c % 2 = 1 by omega) with e | e
      · rw [e]; rfl
      · rw [e]; rfl
    have h3 := ev_addI (K := K) (ta := tC (.int 1)) ev_int (ev_int01 (ev_eqJ (ev_modI (ev_divI (ta := tVar 1) (tb := tC (.int 2)) (i := c) (j := 2) (vI rfl) ev_int ⟨by decide, by decide⟩) e36 (by split <;> decide)) (tb := tC (.int 1)) ev_int))
    exact h3.int (by unfold manyT; omega)
  obtain rfl := Td.int_of h3
  have s13 := s1.trans (s2.trans s3)
  have hms := many_le c
  have hss := size_le c
  refine q_setF (ef_lst (K := K) (ds := []) ea_nil (by decide)) fun p xs H4 hp s4 h4 t4 => ?_
  have hpH : H p = none := s13.free hp
  let F : Nat → Row := fun i => rowOf (cellT ns (1 + i)) (manyT c) (sizeT c)
  refine q_for (wk_range1 (K := K) (Hb := H) (j := (sizeT c : Int)) (ea_cons (vI rfl) ea_nil) (by omega)) (fun i σ' H' => ∃ c' o5 o6 ys, σ' = [some x, some (.int c'), some (.int (sizeT c : Nat)), some (.int (manyT c : Nat)), some (.ref p), o5, o6] ∧ Same H H' ∧ H' p = some (.lst ys) ∧ TdAll H' ys (((List.range i).map F).map Row.d))
    (fun H5 s5 => ⟨c, none, none, xs, rfl, s13.trans (s4.trans s5), s5 _ _ h4, t4.sm s5⟩) (fun i σ' H' ⟨_, _, _, _, _, s, _⟩ => s) ?_ ?_
  · rintro i d z σ' H5 H6 hd hz ⟨c', o5, o6, ys, rfl, s5, h5, t5⟩ s6
    obtain ⟨hi, rfl⟩ := rng_get hd
    obtain rfl := Td.int_of hz
    have s06 := s5.trans s6
    have eF : (List.range (i + 1)).map F = (List.range i).map F ++ [F i] := by rw [List.range_succ, List.map_append]; rfl
    refine q_set (K := K) (ev_cell (k := 1 + i) (by omega) (ex s06) ((ev_addI (ta := tC (.int 1)) ev_int (vI rfl)).int (by omega))) fun v7 H7 s7 h7 => ?_
    obtain rfl := Td.int_of h7
    generalize hce : cellT ns (1 + i) = e at *
    have hml : 0 < manyT c := by omega
    refine q_set (K := K) (a := .t (.int ((e / 3 % (manyT c : Int)).toNat : Nat))) ?_ fun v8 H8 s8 h8 => ?_
    · exact (ev_modI (K := K) (ev_divI (vI rfl) ev_int ⟨by decide, by decide⟩) (vI rfl) (by omega)).int (em_nat _ _ hml)
    obtain rfl := Td.int_of h8
    have s58 := s6.trans (s7.trans s8)
    have hp8 := s58 _ _ h5
    have t8 := t5.sm s58
    have eq3 : Eb (tTest (tOp (rEqG K 200) (tOp (rI (fun _ j => 0 < j) fun i j => .int (i % j)) (tVar 1) (tC (.int 3))) (tC (.int 0)))) [some x, some (.int e), some (.int (sizeT c : Nat)), some (.int (manyT c : Nat)), some (.ref p), some (.int i), some (.int ((e / 3 % (manyT c : Int)).toNat : Nat))] H8 (decide (e % 3 = 0)) := eb_test (ev_eqJ (ev_modI (vI rfl) ev_int (by decide)) ev_int)
    have ed : ∀ {H'} (n : Int), CDiv e n → Ev K (tOp (rI (fun _ j => 0 < j) fun i j => .int (i % j)) (tOp (rI CDiv fun i j => .int (i / j)) (tVar 1) (tC (.int n))) (tOp rAddG (tVar 2) (tC (.int 1)))) [some x, some (.int e), some (.int (sizeT c : Nat)), some (.int (manyT c : Nat)), some (.ref p), some (.int i), some (.int ((e / 3 % (manyT c : Int)).toNat : Nat))] H' (.t (.int ((e / n % ((sizeT c + 1 : Nat) : Int)).toNat : Nat))) := fun n hn =>
      (ev_modI (K := K) (ev_divI (vI rfl) ev_int hn) (ev_succ (vI rfl)) (by omega)).int (em_nat _ _ (by omega))
    have hlen : (((List.range i).map F).map Row.d).length < 10000000 := by rw [List.length_map, List.length_map, List.length_range]; omega
    by_cases h3e : e % 3 = 0
    · have er : F i = .up (e / 3 % (manyT c : Int)).toNat (e / 6 % ((sizeT c + 1 : Nat) : Int)).toNat := by show rowOf (cellT ns (1 + i)) _ _ = _; rw [hce]; exact if_pos h3e
      refine st_ifT (eq3.is (decide_eq_true h3e)) fun H9 s9 => ?_
      refine st_append (K := K) rfl (s9 _ _ hp8) (t8.sm s9) (d := (F i).d) ?_ hlen fun ys' H10 mu h10 t10 => ?_
      · rw [er]
        exact ev_tup (ds := [.str "up", .int ((e / 3 % (manyT c : Int)).toNat : Nat), .int ((e / 6 % ((sizeT c + 1 : Nat) : Int)).toNat : Nat)]) (ea_cons ev_str (ea_cons (vI rfl) (ea_cons (ed 6 ⟨by decide, by decide⟩) ea_nil))) (Nat.le_of_ble_eq_true rfl)
      · refine ⟨_, _, _, ys', rfl, mu.of (s5.trans (s58.trans s9)) hpH, h10, ?_⟩
        rw [eF, List.map_append]
        exact t10
    · have er : F i = .down (e / 3 % (manyT c : Int)).toNat (e / 6 % ((sizeT c + 1 : Nat) : Int)).toNat (e / 24 % ((sizeT c + 1 : Nat) : Int)).toNat := by show rowOf (cellT ns (1 + i)) _ _ = _; rw [hce]; exact if_neg h3e
      refine st_ifF (eq3.is (decide_eq_false h3e)) fun H9 s9 => ?_
      refine st_append (K := K) rfl (s9 _ _ hp8) (t8.sm s9) (d := (F i).d) ?_ hlen fun ys' H10 mu h10 t10 => ?_
      · rw [er]
        exact ev_tup (ds := [.str "down", .int ((e / 3 % (manyT c : Int)).toNat : Nat), .int ((e / 6 % ((sizeT c + 1 : Nat) : Int)).toNat : Nat), .int ((e / 24 % ((sizeT c + 1 : Nat) : Int)).toNat : Nat)]) (ea_cons ev_str (ea_cons (vI rfl) (ea_cons (ed 6 ⟨by decide, by decide⟩) (ea_cons (ed 24 ⟨by decide, by decide⟩) ea_nil)))) (Nat.le_of_ble_eq_true rfl)
      · refine ⟨_, _, _, ys', rfl, mu.of (s5.trans (s58.trans s9)) hpH, h10, ?_⟩
        rw [eF, List.map_append]
        exact t10
  · rintro σ' H5 ⟨c', o5, o6, ys, rfl, s5, h5, t5⟩
    rw [rng_len] at t5
    have ep : (List.range (sizeT c)).map F = progT ns := by unfold progT; rw [hc]
    rw [ep] at t5
    -- (rows, many)
    refine ⟨_, rfl, _, rfl, by show (2 : Nat) ≤ sizeLine; decide, fun z hz => ?_⟩
    have s6 : Same H5 (upd H5 z (.tup [.ref p, .int (manyT c : Nat)])) := Same.new hz
    exact k _ _ (s5.trans s6) ⟨z, p, ys, rfl, upd_same, s6 _ _ h5, t5.sm s6⟩
def f_law_drawn : Gr := fun as d => ∃ (ns : List Int) (size many : Nat), size ≤ 1000 ∧ (many = 1 ∨ many = 2) ∧ as = [.l (ns.map PyData.int), .t (.int size), .t (.int many)] ∧ d = .tuple [.int (standT ns size many).1, csD (standT ns size many).2]
theorem len__law_drawn_stand {as : List Ag} {d : PyData} (h : f_law_drawn as d) : as.length = 3 := by obtain ⟨_, _, _, _, _, rfl, _⟩ := h; rfl
theorem sc__law_drawn_stand : FnScope ["_law_script", "_law_size", "_law_many", "_law_cell_here", "_law_counts"] ["_law_script", "_law_size", "_law_many"] (defScope st__law_drawn_stand) := ⟨rfl, rfl, rfl, by decide +kernel, rfl, by decide +kernel, by decide +kernel⟩
theorem has__law_drawn_stand (T : Txt P w K mg base) : Has P w K mg base "_law_drawn_stand" ["_law_script", "_law_size", "_law_many"] 2 (SpT K f_law_drawn) := by
  refine has_mk T.glo__law_drawn_stand (T.c.def_ 64 (d := d__law_drawn_stand) rfl) sc__law_drawn_stand (SpT.len (fun as d h => by exact len__law_drawn_stand h)) (fun _ _ _ _ _ _ us hl => match us, hl with | [_, _, _], _ => rfl) (fun cdv A outer s H vs Q E hr h => ?_)
  refine ⟨_, (pss_cons (ps_set (i := 3) sc__law_drawn_stand.nd rfl (by first | exact Or.inl rfl | exact Or.inr rfl) (pc (has__law_cell T) (hr.mono (by decide)) (pa_cons (pv 0) (pa_cons pe_int pa_nil))))
    (pss_cons (ps_set (i := 4) sc__law_drawn_stand.nd rfl (by first | exact Or.inl rfl | exact Or.inr rfl) (pe_tup (pa_cons (pe_op op_mod (pe_op op_fdiv (pv 3) pe_int) pe_int) pa_nil)))
    (pss_cons (ps_if (pt_cmpR (op_eqSK (K := K) hr) (pv 2) pe_int (nomark _)) (pss_one (ps_set (i := 4) sc__law_drawn_stand.nd rfl (by first | exact Or.inl rfl | exact Or.inr rfl) (pe_ixK (K := K) (pe_lst (pa_cons (pe_tup (pa_cons pe_int (pa_cons pe_int pa_nil))) (pa_cons (pe_tup (pa_cons pe_int (pa_cons pe_int pa_nil))) (pa_cons (pe_tup (pa_cons pe_int (pa_cons pe_int pa_nil))) pa_nil)))) (pe_op op_mul (pe_op op_mod (pe_op op_fdiv (pv 3) pe_int) pe_int) (pe_callTy call_int1 (by rfl) T.free_int (by decide +kernel) (pa_cons (pe_cmpR op_lt (pv 1) pe_int (nomark _)) pa_nil))) (fun _ _ => rfl)))) pss_nil)
    (pss_one (ps_ret (pe_tup (pa_cons (pe_op op_mod (pv 3) (pe_op op_addG (pv 1) pe_int)) (pa_cons (pv 4) pa_nil)))))))), ?_⟩
  obtain ⟨as, d, ⟨ns, size, many, hs, hm, rfl, rfl⟩, hv, k⟩ := h
  obtain ⟨x, y, z, rfl, hx, hy, hz⟩ := hv.i3
  obtain rfl := Td.int_of hy
  obtain rfl := Td.int_of hz
  have ex : ∀ {H' o1 o2 o3 o4}, Same H H' → Ev K (tVar 0) [some x, o1, o2, o3, o4] H' (.l (ns.map PyData.int)) := fun s => ev_var rfl (At.sm s hx)
  refine q_set (K := K) (ev_cell (k := 3) (by decide) (ex (Same.refl _)) ev_int) fun v1 H1 s1 h1 => ?_
  obtain rfl := Td.int_of h1
  have e0 := em_nat (cellT ns 3 / 3) 2 (by decide)
  refine q_set (K := K) (a := .t (csD [(cellT ns 3 / 3 % 2).toNat])) ?_ fun v2 H2 s2 h2 => ?_
  · exact ev_tup (ds := [.int ((cellT ns 3 / 3 % 2).toNat : Nat)]) (ea_cons ((ev_modI (ev_divI (vI rfl) ev_int ⟨by decide, by decide⟩) ev_int (by decide)).int e0) ea_nil) (Nat.le_of_ble_eq_true rfl)
  have h2 : Td H2 v2 (csD [(cellT ns 3 / 3 % 2).toNat]) := h2
  have s12 := s1.trans s2
  have fin : ∀ (cs : List Nat) (v : V) (H4 : Hp) (D : Ends), D.rt = Q → Same H H4 → Td H4 v (csD cs) → (standT ns size many).2 = cs → tRet (tTup (tCons (tOp (rI (fun _ j => 0 < j) fun i j => .int (i % j)) (tVar 3) (tOp rAddG (tVar 1) (tC (.int 1)))) (tCons (tVar 4) tNil))) D [some x, some (.int size), some (.int many), some (.int (cellT ns 3)), some v] H4 := fun cs v H4 D hD s4 hv4 ecs => by
    rw [ecs] at k
    refine st_ret (K := K) (ev_tup (ds := [.int ((standT ns size many).1 : Nat), csD cs]) (ea_cons ((ev_modI (vI rfl) (ev_succ (vI rfl)) (by omega)).int (em_nat _ _ (by omega))) (ea_cons (vD rfl hv4) ea_nil)) (Nat.le_of_ble_eq_true rfl)) fun u H5 s5 h5 => ?_
    rw [hD]
    exact k u H5 (s4.trans s5) h5
  have em : Eb (tTest (tOp (rEqG K 200) (tVar 2) (tC (.int 2)))) [some x, some (.int size), some (.int many), some (.int (cellT ns 3)), some v2] H2 (decide (many = 2)) := eb_test (ev_eqI (i := many) (j := 2) (vI rfl) ev_int)
  rcases hm with rfl | rfl
  · refine q_ifN (em.is rfl) fun H3 s3 => ?_
    exact fin _ v2 H3 { nx := fun _ H' => Q .non H', rt := Q } rfl (s12.trans s3) (h2.sm s3) rfl
  · refine q_ifT (em.is rfl) fun H3 s3 => ?_
    have hb := b01_le (decide (size < 2))
    have hm3 := em_lt (cellT ns 3 / 3) 3 (by decide)
    have e3 := em_nat (cellT ns 3 / 3) 3 (by decide)
    have hi : (cellT ns 3 / 3 % 3).toNat * b01 (decide (size < 2)) < 3 := by
      have h9 : (cellT ns 3 / 3 % 3).toNat * b01 (decide (size < 2)) ≤ (cellT ns 3 / 3 % 3).toNat * 1 := Nat.mul_le_mul (Nat.le_refl _) hb
      have hm3 : (cellT ns 3 / 3 % 3).toNat < 3 := hm3
      omega
    have eidx := ev_mulI (K := K) (σ := [some x, some (.int size), some (.int 2), some (.int (cellT ns 3)), some v2]) (H := H3) (ev_modI (ev_divI (ta := tVar 3) (tb := tC (.int 3)) (i := cellT ns 3) (j := 3) (vI rfl) ev_int ⟨by decide, by decide⟩) (tb := tC (.int 3)) ev_int (by decide)) (ev_int01 (ev_cmpI (f := fun i j => decide (i < j)) (ta := tVar 1) (i := (size : Int)) (vI rfl) (tb := tC (.int 2)) ev_int)) (Or.inr (by unfold b01; split <;> decide))
    have eb0 : decide ((size : Int) < 2) = decide (size < 2) := by
      by_cases h : size < 2
      · rw [decide_eq_true h, decide_eq_true (by omega)]
      · rw [decide_eq_false h, decide_eq_false (by omega)]
    rw [eb0] at eidx
    have eidx2 := eidx.int (j := (((cellT ns 3 / 3 % 3).toNat * b01 (decide (size < 2)) : Nat) : Int)) (by rw [Int.natCast_mul]; congr 1)
    refine st_set (K := K) (a := .t (csD ([[0, 0], [1, 0], [0, 1]].getD ((cellT ns 3 / 3 % 3).toNat * b01 (decide (size < 2))) []))) ?_ fun v4 H4 s4 h4 => ?_
    · have et : ∀ a b : Nat, Ev K (tTup (tCons (tC (.int a)) (tCons (tC (.int b)) tNil))) [some x, some (.int size), some (.int 2), some (.int (cellT ns 3)), some v2] H3 (.t (csD [a, b])) := fun a b => ev_tup (ds := [.int a, .int b]) (ea_cons ev_int (ea_cons ev_int ea_nil)) (Nat.le_of_ble_eq_true rfl)
      refine ev_ixL (ds := [csD [0, 0], csD [1, 0], csD [0, 1]]) (ef_lst (K := K) (ds := [csD [0, 0], csD [1, 0], csD [0, 1]]) (ea_cons (et 0 0) (ea_cons (et 1 0) (ea_cons (et 0 1) ea_nil))) (Nat.le_of_ble_eq_true rfl)).ev eidx2 ?_
      generalize (cellT ns 3 / 3 % 3).toNat * b01 (decide (size < 2)) = i at hi
      match i, hi with
      | 0, _ => rfl
      | 1, _ => rfl
      | 2, _ => rfl
    · exact fin _ v4 H4 { nx := fun _ H' => Q .non H', rt := Q } rfl (s12.trans (s3.trans s4)) h4 rfl
end
end My

/-! W31: the law's own machines, walked. -/
namespace My
open PySem PySem.Spec PyProof.Rows L2
def stepT (prog : List Row) (p : Nat) (cs : List Nat) : Option (Nat × List Nat) := match prog[p]? with
  | none => none
  | some (.up c g) => some (g, cs.set c (cs.getD c 0 + 1))
  | some (.down c g z) => if cs.getD c 0 = 0 then some (z, cs) else some (g, cs.set c (cs.getD c 0 - 1))
def csSt (p : Nat) (cs : List Nat) : PyData := .tuple [.int p, csD cs]
def optSt : Option (Nat × List Nat) → PyData
  | none => .none
  | some x => csSt x.1 x.2
section
variable {P : Program} {w : World} {K : PySem.W.Frag} {mg : Str → Option Value} {base : Heap}
theorem TdAll.set2 {H : Hp} : ∀ {xs : List V} {ds : List PyData} (j : Nat) {v : V} {d : PyData}, TdAll H xs ds → Td H v d → TdAll H (xs.set j v) (ds.set j d)
  | _, [], j, v, d, h, _ => by cases h; exact .nil
  | _, _ :: _, 0, v, d, h, hv => by
    cases h with
    | cons h1 h2 => exact .cons hv h2
  | _, _ :: _, j + 1, v, d, h, hv => by
    cases h with
    | cons h1 h2 => exact .cons h1 (TdAll.set2 j h2 hv)
/-- l[j] = value -/
theorem q_setix {σ : L2.St} {H : Hp} {D : Ends} {u : TS} {te ti : TE} {i : Nat} {q : Addr} {xs : List V} {ds : List PyData} {d : PyData} {j : Nat} (hi : σ[i]? = some (some (.ref q))) (hq : H q = some (.lst xs)) (ht : TdAll H xs ds) (he : Ev K te σ H (.t d)) (hj : Ev K ti σ H (.t (.int j))) (hl : j < ds.length)
    (k : ∀ ys H', Mut q H H' → H' q = some (.lst ys) → TdAll H' ys (ds.set j d) → u D σ H') : tSeq (tAsg te (gSub (tVar i) ti L2.rSetL)) u D σ H := by
  refine he H (Same.refl _) _ fun v H1 s1 h1 => ⟨_, hi, hj H1 s1 _ fun y H2 s2 h2 => ?_⟩
  obtain rfl := Td.int_of h2
  have s12 := s1.trans s2
  have hq2 := s12 _ _ hq
  have ht2 := ht.sm s12
  refine ⟨q, xs, _, j, rfl, rfl, hq2, ?_, ?_⟩
  · unfold ixN
    rw [if_pos (by omega), if_pos (by rw [ht.length]; omega)]
    rfl
  · exact k _ _ ((Mut.same s12).trans (Mut.lst hq2)) upd_same ((TdAll.set2 j ht2 (Td.sm s2 h1)).tx (Tx.lst hq2))
theorem at_cs {cs : List Nat} {c : Nat} (h : c < cs.length) : atI (cs.map fun (c : Nat) => PyData.int c) (c : Int) = some (.int (cs.getD c 0 : Nat)) := by
  refine atI_get (j := c) ?_ ?_
  · unfold ixN
    rw [List.length_map, if_pos (by omega), if_pos (by omega)]
    rfl
  · rw [List.getElem?_map, List.getElem?_eq_getElem h, List.getD_eq_getElem?_getD, List.getElem?_eq_getElem h]
    rfl
theorem set_cs (cs : List Nat) (c n : Nat) : (cs.map fun (c : Nat) => PyData.int c).set c (.int n) = (cs.set c n).map fun (c : Nat) => PyData.int c := by rw [List.map_set]

def f_law_stepped : Gr := fun as d => ∃ (prog : List Row) (p : Nat) (cs : List Nat), p ≤ prog.length ∧ prog.length ≤ 1000 ∧ (∀ r ∈ prog, r.ct < cs.length) ∧ as = [.l (prog.map Row.d), .t (csSt p cs)] ∧ d = optSt (stepT prog p cs)
theorem len__law_stepped {as : List Ag} {d : PyData} (h : f_law_stepped as d) : as.length = 2 := by obtain ⟨_, _, _, _, _, _, rfl, _⟩ := h; rfl
theorem sc__law_stepped : FnScope ["_law_program_here", "_law_stand", "_law_place", "_law_counts", "_law_row"] ["_law_program_here", "_law_stand"] (defScope st__law_stepped) := ⟨rfl, rfl, rfl, by decide +kernel, rfl, by decide +kernel, by decide +kernel⟩
theorem has__law_stepped (T : Txt P w K mg base) : Has P w K mg base "_law_stepped" ["_law_program_here", "_law_stand"] 1 (SpT K f_law_stepped) := by
  refine has_mk T.glo__law_stepped (T.c.def_ 65 (d := d__law_stepped) rfl) sc__law_stepped (SpT.len (fun as d h => by exact len__law_stepped h)) (fun _ _ _ _ _ _ us hl => match us, hl with | [_, _], _ => rfl) (fun cdv A outer s H vs Q E hr h => ?_)
  refine ⟨_, (pss_cons (ps_asg (pv 1) (pg_tup rfl (pgs_cons (pg_name (i := 2) sc__law_stepped.nd rfl (by first | exact Or.inl rfl | exact Or.inr rfl)) (pgs_cons (pg_name (i := 3) sc__law_stepped.nd rfl (by first | exact Or.inl rfl | exact Or.inr rfl)) pgs_nil))))
    (pss_cons (ps_if (pt_cmpR (op_eqSK (K := K) hr) (pv 2) (pe_callB (call_lenK (K := K)) (by rfl) T.free_len PySem.boot_len (pa_cons (pv 0) pa_nil)) (nomark _)) (pss_one (ps_ret pe_non)) pss_nil)
    (pss_cons (ps_set (i := 4) sc__law_stepped.nd rfl (by first | exact Or.inl rfl | exact Or.inr rfl) (pe_ixK (K := K) (pv 0) (pv 2) (fun _ _ => rfl)))
    (pss_cons (ps_set (i := 3) sc__law_stepped.nd rfl (by first | exact Or.inl rfl | exact Or.inr rfl) (pe_callTy call_list_of (by rfl) T.free_list (by decide +kernel) (pa_cons (pv 3) pa_nil)))
    (pss_cons (ps_if (pt_cmpR (op_eqSK (K := K) hr) (pe_ixK (K := K) (pv 4) pe_int (fun _ _ => rfl)) pe_str (nomark _)) (pss_cons (ps_asg (pe_op op_addG (pe_ixK (K := K) (pv 3) (pe_ixK (K := K) (pv 4) pe_int (fun _ _ => rfl)) (fun _ _ => rfl)) pe_int) (pg_sub (pv 3) (pe_ixK (K := K) (pv 4) pe_int (fun _ _ => rfl)) set_list))
    (pss_one (ps_ret (pe_tup (pa_cons (pe_ixK (K := K) (pv 4) pe_int (fun _ _ => rfl)) (pa_cons (pe_callTy call_tuple_of (by rfl) T.free_tuple (by decide +kernel) (pa_cons (pv 3) pa_nil)) pa_nil)))))) pss_nil)
    (pss_cons (ps_if (pt_cmpR (op_eqSK (K := K) hr) (pe_ixK (K := K) (pv 3) (pe_ixK (K := K) (pv 4) pe_int (fun _ _ => rfl)) (fun _ _ => rfl)) pe_int (nomark _)) (pss_one (ps_ret (pe_tup (pa_cons (pe_ixK (K := K) (pv 4) pe_int (fun _ _ => rfl)) (pa_cons (pe_callTy call_tuple_of (by rfl) T.free_tuple (by decide +kernel) (pa_cons (pv 3) pa_nil)) pa_nil))))) pss_nil)
    (pss_cons (ps_asg (pe_op op_sub (pe_ixK (K := K) (pv 3) (pe_ixK (K := K) (pv 4) pe_int (fun _ _ => rfl)) (fun _ _ => rfl)) pe_int) (pg_sub (pv 3) (pe_ixK (K := K) (pv 4) pe_int (fun _ _ => rfl)) set_list))
    (pss_one (ps_ret (pe_tup (pa_cons (pe_ixK (K := K) (pv 4) pe_int (fun _ _ => rfl)) (pa_cons (pe_callTy call_tuple_of (by rfl) T.free_tuple (by decide +kernel) (pa_cons (pv 3) pa_nil)) pa_nil)))))))))))), ?_⟩
  obtain ⟨as, d, ⟨prog, p, cs, hp, hpl, hct, rfl, rfl⟩, hv, k⟩ := h
  obtain ⟨x, y, rfl, hx, hy⟩ := hv.i2
  have hy : Td H y (.tuple [.int p, csD cs]) := hy
  have ex : ∀ {H' o1 o2 o3 o4}, Same H H' → Ev K (tVar 0) [some x, o1, o2, o3, o4] H' (.l (prog.map Row.d)) := fun s => ev_var rfl (At.sm s hx)
  obtain ⟨ta, u, v, rfl, hyt, tu, tv⟩ := Td.t2 hy
  obtain rfl := Td.int_of tu
  refine ⟨_, rfl, _, _, rfl, SqT.of hyt, rfl, _, _, rfl, _, _, rfl, rfl, ?_⟩
  dsimp only
  have e1 : Eb (tTest (tOp (rEqG K 200) (tVar 2) (tCB (rLenK K) (tCons (tVar 0) tNil)))) [some x, some (.ref ta), some (.int p), some v, none] H (decide (p = prog.length)) := eb_test (ev_eqI (vI rfl) (ev_len (ex (Same.refl _)) (List.length_map _)))
  by_cases he : p = prog.length
  · have es : stepT prog p cs = none := by unfold stepT; rw [List.getElem?_eq_none (by omega)]
    rw [es] at k
    exact q_ifT (e1.is (decide_eq_true he)) fun H2 s2 => st_ret (K := K) ev_non fun v H3 s3 h3 => k v H3 (s2.trans s3) h3
  · obtain ⟨r, hr1⟩ : ∃ r, prog[p]? = some r := ⟨_, List.getElem?_eq_getElem (by omega)⟩
    refine q_ifN (e1.is (decide_eq_false he)) fun H2 s2 => ?_
    have ea : atI (prog.map Row.d) (p : Int) = some r.d := by
      refine atI_get (j := p) ?_ (by rw [List.getElem?_map, hr1]; rfl)
      unfold ixN
      rw [List.length_map, if_pos (by omega), if_pos (by omega)]
      rfl
    refine q_set (K := K) (ev_ixL (ex s2) (vI rfl) ea) fun vr H3 s3 h3 => ?_
    have h3 : Td H3 vr r.d := h3
    have s23 := s2.trans s3
    refine q_setF (ef_listT (K := K) (ds := cs.map fun (c : Nat) => PyData.int c) (vD rfl (tv.sm s23))) fun q xs H4 hq s4 h4 t4 => ?_
    have hc := hct r (List.mem_of_getElem? hr1)
    have s24 := s23.trans s4
    have eL : ∀ {H' : Hp} {ys : List V} {ds : List PyData}, H' q = some (.lst ys) → TdAll H' ys ds → Ev K (tVar 3) [some x, some (.ref ta), some (.int p), some (.ref q), some vr] H' (.l ds) := fun hq ht => ev_var rfl (show At K _ (.ref q) (.l _) from ⟨q, _, rfl, SqL.of hq, ht⟩)
    have ret : ∀ (g : Nat) (cs' : List Nat) (ix : Int) (H5 : Hp) (ys : List V) (D : Ends), D.rt = Q → Mut q H4 H5 → H5 q = some (.lst ys) → TdAll H5 ys (cs'.map fun (c : Nat) => PyData.int c) → stepT prog p cs = some (g, cs') → (∀ {H'}, Tx H3 H' → Ev K (tOp (rIx K) (tVar 4) (tC (.int ix))) [some x, some (.ref ta), some (.int p), some (.ref q), some vr] H' (.t (.int g))) →
        tRet (tTup (tCons (tOp (rIx K) (tVar 4) (tC (.int ix))) (tCons (tCB (rTupOf K) (tCons (tVar 3) tNil)) tNil))) D [some x, some (.ref ta), some (.int p), some (.ref q), some vr] H5 := fun g cs' ix H5 ys D hD mu hq5 t5 es ei => by
      rw [es] at k
      refine st_ret (K := K) (ev_tup (ds := [.int g, csD cs']) (ea_cons (ei (s4.tx.trans mu.tx)) (ea_cons (ev_tuple (eL hq5 t5)) ea_nil)) (Nat.le_of_ble_eq_true rfl)) fun v H6 s6 h6 => ?_
      rw [hD]
      exact k v H6 ((mu.of s24 (s23.free hq)).trans s6) h6
    cases r with
    | up c g =>
      have hc : c < cs.length := hc
      have h3 : ∀ {H'}, Tx H3 H' → Td H' vr (.tuple [.str "up", .int (c : Nat), .int (g : Nat)]) := fun tx => Td.tx tx h3
      have es : stepT prog p cs = some (g, cs.set c (cs.getD c 0 + 1)) := by unfold stepT; rw [hr1]
      have ic : ∀ {H'}, Tx H3 H' → Ev K (tOp (rIx K) (tVar 4) (tC (.int 1))) [some x, some (.ref ta), some (.int p), some (.ref q), some vr] H' (.t (.int c)) := fun tx => ev_ixT (i := 1) (vD rfl (h3 tx)) ev_int rfl
      refine q_ifT ((eb_test (ev_eqZ (K := K) (x := "up") (y := "up") (ev_ixT (i := 0) (vD rfl (h3 s4.tx)) ev_int rfl) ev_str (by decide +kernel) (by decide +kernel))).is (by decide +kernel)) fun H5 s5 => ?_
      have s35 := s4.trans s5
      refine q_setix (K := K) rfl (s5 _ _ h4) (t4.sm s5) (ev_succ (ev_ixL (eL (s5 _ _ h4) (t4.sm s5)) (ic s35.tx) (at_cs hc))) (ic s35.tx) (by rw [List.length_map]; exact hc) fun ys H6 mu h6 t6 => ?_
      rw [set_cs] at t6
      exact ret g _ 2 H6 ys _ rfl ((Mut.same s5).trans mu) h6 t6 es fun tx => ev_ixT (i := 2) (vD rfl (h3 tx)) ev_int rfl
    | down c g z =>
      have hc : c < cs.length := hc
      have h3 : ∀ {H'}, Tx H3 H' → Td H' vr (.tuple [.str "down", .int (c : Nat), .int (g : Nat), .int (z : Nat)]) := fun tx => Td.tx tx h3
      have ic : ∀ {H'}, Tx H3 H' → Ev K (tOp (rIx K) (tVar 4) (tC (.int 1))) [some x, some (.ref ta), some (.int p), some (.ref q), some vr] H' (.t (.int c)) := fun tx => ev_ixT (i := 1) (vD rfl (h3 tx)) ev_int rfl
      refine q_ifN ((eb_test (ev_eqZ (K := K) (x := "down") (y := "up") (ev_ixT (i := 0) (vD rfl (h3 s4.tx)) ev_int rfl) ev_str (by decide +kernel) (by decide +kernel))).is (by decide +kernel)) fun H5 s5 => ?_
      have s35 := s4.trans s5
      have e0 : Eb (tTest (tOp (rEqG K 200) (tOp (rIx K) (tVar 3) (tOp (rIx K) (tVar 4) (tC (.int 1)))) (tC (.int 0)))) [some x, some (.ref ta), some (.int p), some (.ref q), some vr] H5 (decide (cs.getD c 0 = 0)) := eb_test (ev_eqI (j := 0) (ev_ixL (eL (s5 _ _ h4) (t4.sm s5)) (ic s35.tx) (at_cs hc)) ev_int)
      by_cases hz : cs.getD c 0 = 0
      · have es : stepT prog p cs = some (z, cs) := by unfold stepT; rw [hr1]; exact if_pos hz
        refine q_ifT (e0.is (decide_eq_true hz)) fun H6 s6 => ?_
        exact ret z _ 3 H6 xs _ rfl (Mut.same (s5.trans s6)) ((s5.trans s6) _ _ h4) (t4.sm (s5.trans s6)) es fun tx => ev_ixT (i := 3) (vD rfl (h3 tx)) ev_int rfl
      · have es : stepT prog p cs = some (g, cs.set c (cs.getD c 0 - 1)) := by unfold stepT; rw [hr1]; exact if_neg hz
        refine q_ifN (e0.is (decide_eq_false hz)) fun H6 s6 => ?_
        have s36 := s35.trans s6
        refine q_setix (K := K) (d := .int ((cs.getD c 0 - 1 : Nat) : Int)) rfl ((s5.trans s6) _ _ h4) (t4.sm (s5.trans s6)) ((ev_subI (j := 1) (ev_ixL (eL ((s5.trans s6) _ _ h4) (t4.sm (s5.trans s6))) (ic s36.tx) (at_cs hc)) ev_int).int (by omega)) (ic s36.tx) (by rw [List.length_map]; exact hc) fun ys H7 mu h7 t7 => ?_
        rw [set_cs] at t7
        exact ret g _ 2 H7 ys _ rfl ((Mut.same (s5.trans s6)).trans mu) h7 t7 es fun tx => ev_ixT (i := 2) (vD rfl (h3 tx)) ev_int rfl
def f_law_row_image : Gr := fun as d => ∃ (p : Nat) (cs : List Nat), cs.length ≤ 100 ∧ (∀ c ∈ cs, c ≤ 100) ∧ as = [.t (csSt p cs)] ∧ d = .tuple [.int p, .str (sw (cntW cs))]
theorem len__law_row_image {as : List Ag} {d : PyData} (h : f_law_row_image as d) : as.length = 1 := by obtain ⟨_, _, _, _, rfl, _⟩ := h; rfl
theorem sc__law_row_image : FnScope ["_law_stand", "_law_count"] ["_law_stand"] (defScope st__law_row_image) := ⟨rfl, rfl, rfl, by decide +kernel, rfl, by decide +kernel, by decide +kernel⟩
theorem has__law_row_image (T : Txt P w K mg base) : Has P w K mg base "_law_row_image" ["_law_stand"] 1 (SpT K f_law_row_image) := by
  refine has_mk T.glo__law_row_image (T.c.def_ 66 (d := d__law_row_image) rfl) sc__law_row_image (SpT.len (fun as d h => by exact len__law_row_image h)) (fun _ _ _ _ _ _ us hl => match us, hl with | [_], _ => rfl) (fun cdv A outer s H vs Q E hr h => ?_)
  refine ⟨_, (pss_one (ps_ret (pe_tup (pa_cons (pe_ixK (K := K) (pv 0) pe_int (fun _ _ => rfl)) (pa_cons (pe_op op_addG pe_str (pe_join pe_str (pe_lc (own := [("_law_count", 1)]) (tt := tYes) rfl sc__law_row_image.nd (pi_tup (pe_ixK (K := K) (pv 0) pe_int (fun _ _ => rfl))) (blkOk_by (own := [("_law_count", 1)]) (N := ["_law_stand", "_law_count"]) (sc := defScope st__law_row_image) (by decide +kernel)) (fun _ _ _ _ _ => (pg_name (i := 1) sc__law_row_image.nd rfl (by first | exact Or.inl rfl | exact Or.inr rfl))) (fun _ _ _ _ _ => pts_nil) (fun _ _ _ _ _ => (pe_op op_addG (pe_op op_mulS pe_str (pv 1)) pe_str))))) pa_nil))))), ?_⟩
  obtain ⟨as, d, ⟨p, cs, hl, hc, rfl, rfl⟩, hv, k⟩ := h
  obtain ⟨x, rfl, hx⟩ := hv.i1
  have hx : Td H x (.tuple [.int p, csD cs]) := hx
  exact st_ret (ev_tup (K := K) (ds := [.int p, .str (sw (cntW cs))]) (ea_cons (ev_ixT (i := 0) (vD rfl hx) ev_int rfl) (ea_cons (ev_cntW0 (wi := iTup K (tOp (rIx K) (tVar 0) (tC (.int 1)))) (i := 1) hl hc (ef_lcFY (K := K) (i := 1) (σ := [some x, none]) cntP (fun H' s => wkf_tup (K := K) (ev_ixT (i := 1) (vD rfl (hx.sm s)) ev_int rfl)) (by rw [List.length_map]; omega) (fun x => rfl) (fun d z H' hd s hz => ev_cntP hc hd hz rfl))) ea_nil)) (Nat.le_of_ble_eq_true rfl)) k
end
end My

/-! W32: the law's tape machine, walked. -/
namespace My
open PySem PySem.Spec PyProof.Rows L2
/-- a stand of the tape -/
structure Ts where
  q : Nat
  l : List Lt
  c : Lt
  r : List Lt
  deriving DecidableEq
def Ts.d (s : Ts) : PyData := stD s.q s.l s.c s.r
def hdR : List Lt → Lt
  | [] => .u
  | c :: _ => c
def lstL (l : List Lt) : Lt := l.getLast?.getD .u
def nxT (tape : List TR) (s : Ts) : Option Ts := match actT tape s.q s.c with
  | none => none
  | some (w, m, g) => some (if m = true then ⟨g, s.l ++ [w], hdR s.r, s.r.drop 1⟩ else ⟨g, s.l.dropLast, lstL s.l, w :: s.r⟩)
def optTs : Option Ts → PyData
  | none => .none
  | some s => s.d
section
variable {P : Program} {w : World} {K : PySem.W.Frag} {mg : Str → Option Value} {base : Heap}
theorem at_neg {α : Type} {l : List α} {x : α} (h : l.getLast? = some x) : atI l (-1) = some x := by
  have hne : l ≠ [] := fun z => by rw [z] at h; cases h
  have e : l = l.dropLast ++ [x] := by
    rw [List.getLast?_eq_some_getLast hne] at h
    cases h
    exact (List.dropLast_concat_getLast hne).symm
  rw [e]
  exact at_last _ _
theorem cut_m1 (l : List Lt) : cutS (sw l) none (some (-1)) = sw l.dropLast := by
  rw [cutS_sw]
  have e2 : HT.sIx l.length 0 none = 0 := rfl
  have e1 : HT.sIx l.length l.length (some (-1)) = l.length - 1 := by
    first
    | (simp [HT.sIx]; done)
    | (simp [HT.sIx]; omega)
    | (unfold HT.sIx; split <;> omega)
  rw [e1, e2, List.drop_zero, Nat.sub_zero, List.dropLast_eq_take]
theorem eb_acNot {σ : L2.St} {H : Hp} {td t1 t2 : TE} {tape : List TR} {q : Nat} {c : Lt} (h : Ev K td σ H (Ag.ac tape)) (h1 : Ev K t1 σ H (.t (.int q))) (h2 : Ev K t2 σ H (.t (.str (sw [c])))) :
    Eb (tB (tDNotIn (tTup (tCons t1 (tCons t2 tNil))) td)) σ H (actT tape q c).isNone := fun H1 s Q qq => by
  show tTup (tCons t1 (tCons t2 tNil)) σ H1 (fun y H2 => td σ H2 fun x H3 => ∃ a o, x = .ref a ∧ DGet H3 a y o ∧ ∃ dd, V.bl (!o.isSome) = .bl dd ∧ Q dd H3)
  refine ev_tup (K := K) (ds := [.int q, .str (sw [c])]) (ea_cons h1 (ea_cons h2 ea_nil)) (Nat.le_of_ble_eq_true rfl) H1 s _ fun y H3 s3 hy => ?_
  refine h H3 (s.trans s3) _ fun v H4 s4 hv => ?_
  obtain ⟨p, kvs, rfl, hp, ha⟩ := hv
  obtain ⟨b, x1, x2, rfl, hb, e1, e2⟩ := Td.t2 (Td.sm s4 hy)
  obtain rfl := Td.int_of e1
  obtain rfl := Td.str_of e2
  have hb : H4 b = some (.tup ((akey q c).map kV)) := hb
  have g := DGet.t hp hb
  have ha3 := ha q c
  split at ha3
  · rename_i e
    rw [ha3] at g
    refine ⟨p, none, rfl, g, _, rfl, ?_⟩
    rw [e] at qq
    exact qq H4 (s3.trans s4)
  · rename_i a e
    obtain ⟨u, e1, e2⟩ := ha3
    rw [e1] at g
    refine ⟨p, some u, rfl, g, _, rfl, ?_⟩
    rw [e] at qq
    exact qq H4 (s3.trans s4)
theorem ev_acGet {σ : L2.St} {H : Hp} {td t1 t2 : TE} {tape : List TR} {q : Nat} {c : Lt} {a : Lt × Bool × Nat} (h : Ev K td σ H (Ag.ac tape)) (h1 : Ev K t1 σ H (.t (.int q))) (h2 : Ev K t2 σ H (.t (.str (sw [c])))) (ea : actT tape q c = some a) :
    Ev K (tDGet td (tTup (tCons t1 (tCons t2 tNil)))) σ H (.t (actD a)) := fun H1 s Q qq =>
  h H1 s _ fun v H2 s2 hv => by
    obtain ⟨p, kvs, rfl, hp, ha⟩ := hv
    refine ev_tup (K := K) (ds := [.int q, .str (sw [c])]) (ea_cons h1 (ea_cons h2 ea_nil)) (Nat.le_of_ble_eq_true rfl) H2 (s.trans s2) _ fun y H3 s3 hy => ?_
    obtain ⟨b, x1, x2, rfl, hb, e1, e2⟩ := Td.t2 hy
    obtain rfl := Td.int_of e1
    obtain rfl := Td.str_of e2
    have hb : H3 b = some (.tup ((akey q c).map kV)) := hb
    have g := DGet.t (s3 _ _ hp) hb
    have ha3 := (ha.tx s3.tx) q c
    rw [ea] at ha3
    obtain ⟨u, e1, e2⟩ := ha3
    rw [e1] at g
    exact ⟨p, u, rfl, g, qq _ H3 (s2.trans s3) e2⟩

def f_law_next : Gr := fun as d => ∃ (tape : List TR) (s : Ts), s.l.length ≤ 100000 ∧ s.r.length ≤ 100000 ∧ as = [Ag.ac tape, .t s.d] ∧ d = optTs (nxT tape s)
theorem len__law_next {as : List Ag} {d : PyData} (h : f_law_next as d) : as.length = 2 := by obtain ⟨_, _, _, _, rfl, _⟩ := h; rfl
theorem sc__law_next : FnScope ["_law_table", "_law_stand", "_law_state", "_law_left", "_law_sign", "_law_right", "_law_write", "_law_move", "_law_goal"] ["_law_table", "_law_stand"] (defScope st__law_next) := ⟨rfl, rfl, rfl, by decide +kernel, rfl, by decide +kernel, by decide +kernel⟩
theorem has__law_next (T : Txt P w K mg base) : Has P w K mg base "_law_next" ["_law_table", "_law_stand"] 1 (SpT K f_law_next) := by
  refine has_mk T.glo__law_next (T.c.def_ 67 (d := d__law_next) rfl) sc__law_next (SpT.len (fun as d h => by exact len__law_next h)) (fun _ _ _ _ _ _ us hl => match us, hl with | [_, _], _ => rfl) (fun cdv A outer s H vs Q E hr h => ?_)
  refine ⟨_, (pss_cons (ps_asg (pv 1) (pg_tup rfl (pgs_cons (pg_name (i := 2) sc__law_next.nd rfl (by first | exact Or.inl rfl | exact Or.inr rfl)) (pgs_cons (pg_name (i := 3) sc__law_next.nd rfl (by first | exact Or.inl rfl | exact Or.inr rfl)) (pgs_cons (pg_name (i := 4) sc__law_next.nd rfl (by first | exact Or.inl rfl | exact Or.inr rfl)) (pgs_cons (pg_name (i := 5) sc__law_next.nd rfl (by first | exact Or.inl rfl | exact Or.inr rfl)) pgs_nil))))))
    (pss_cons (ps_if (pt_cmp (pc_dnotin (hu_of hr) (pe_tup (pa_cons (pv 2) (pa_cons (pv 4) pa_nil))) (pv 0))) (pss_one (ps_ret pe_non)) pss_nil)
    (pss_cons (ps_asg (pe_dget (hu_of hr) (pv 0) (pe_tup (pa_cons (pv 2) (pa_cons (pv 4) pa_nil))) (fun _ _ => rfl)) (pg_tup rfl (pgs_cons (pg_name (i := 6) sc__law_next.nd rfl (by first | exact Or.inl rfl | exact Or.inr rfl)) (pgs_cons (pg_name (i := 7) sc__law_next.nd rfl (by first | exact Or.inl rfl | exact Or.inr rfl)) (pgs_cons (pg_name (i := 8) sc__law_next.nd rfl (by first | exact Or.inl rfl | exact Or.inr rfl)) pgs_nil)))))
    (pss_cons (ps_if (pt_cmpR (op_eqSK (K := K) hr) (pv 7) pe_str (nomark _)) (pss_one (ps_ret (pe_tup (pa_cons (pv 8) (pa_cons (pe_op op_addG (pv 3) (pv 6)) (pa_cons (pe_ixK (K := K) (pe_op op_addG (pv 5) pe_str) pe_int (fun _ _ => rfl)) (pa_cons (pe_slice sl_str (pv 5) (po_some pe_int) po_none) pa_nil))))))) pss_nil)
    (pss_one (ps_ret (pe_tup (pa_cons (pv 8) (pa_cons (pe_slice sl_str (pv 3) po_none (po_some (pe_un un_neg pe_int))) (pa_cons (pe_ixK (K := K) (pe_op op_addG pe_str (pv 3)) (pe_un un_neg pe_int) (fun _ _ => rfl)) (pa_cons (pe_op op_addG (pv 6) (pv 5)) pa_nil))))))))))), ?_⟩
  obtain ⟨as, d, ⟨tape, ⟨q, l, c, r⟩, hl, hr2, rfl, rfl⟩, hv, k⟩ := h
  have hl : l.length ≤ 100000 := hl
  have hr2 : r.length ≤ 100000 := hr2
  obtain ⟨x, y, rfl, hx, hy⟩ := hv.i2
  have hy : Td H y (stD q l c r) := hy
  have ex : ∀ {H' o1 o2 o3 o4 o5 o6 o7 o8}, Same H H' → Ev K (tVar 0) [some x, o1, o2, o3, o4, o5, o6, o7, o8] H' (Ag.ac tape) := fun s => ev_var rfl (At.sm s hx)
  obtain ⟨ta, v1, v2, v3, v4, rfl, hyt, t1, t2, t3, t4⟩ := Td.t4 hy
  obtain rfl := Td.int_of t1
  obtain rfl := Td.str_of t2
  obtain rfl := Td.str_of t3
  obtain rfl := Td.str_of t4
  refine ⟨_, rfl, _, _, rfl, SqT.of hyt, rfl, _, _, rfl, _, _, rfl, _, _, rfl, _, _, rfl, rfl, ?_⟩
  dsimp only
  have eb := eb_acNot (K := K) (H := H) (q := q) (c := c) (td := tVar 0) (t1 := tVar 2) (t2 := tVar 4) (σ := [some x, some (.ref ta), some (.int q), some (.str (sw l)), some (.str (sw [c])), some (.str (sw r)), none, none, none]) (ex (Same.refl _)) (vI rfl) (vS rfl)
  cases ea : actT tape q c with
  | none =>
    have es : nxT tape ⟨q, l, c, r⟩ = none := by unfold nxT; rw [ea]
    rw [es] at k
    exact q_ifT (eb.is (by rw [ea]; rfl)) fun H2 s2 => st_ret (K := K) ev_non fun v H3 s3 h3 => k v H3 (s2.trans s3) h3
  | some a =>
    obtain ⟨wr, m, g⟩ := a
    have es : nxT tape ⟨q, l, c, r⟩ = some (if m = true then ⟨g, l ++ [wr], hdR r, r.drop 1⟩ else ⟨g, l.dropLast, lstL l, wr :: r⟩) := by unfold nxT; rw [ea]
    rw [es] at k
    refine q_ifN (eb.is (by rw [ea]; rfl)) fun H2 s2 => ?_
    have eg := ev_acGet (K := K) (H := H2) (q := q) (c := c) (td := tVar 0) (t1 := tVar 2) (t2 := tVar 4) (σ := [some x, some (.ref ta), some (.int q), some (.str (sw l)), some (.str (sw [c])), some (.str (sw r)), none, none, none]) (ex s2) (vI rfl) (vS rfl) ea
    refine eg H2 (Same.refl _) _ fun v H3 s3 h3 => ?_
    have h3 : Td H3 v (.tuple [.str (sw [wr]), .str (mvD m), .int (g : Nat)]) := h3
    obtain ⟨tp, w1, w2, w3, rfl, htp, z1, z2, z3⟩ := Td.t3 h3
    obtain rfl := Td.str_of z1
    obtain rfl := Td.str_of z2
    obtain rfl := Td.int_of z3
    refine ⟨_, _, rfl, SqT.of htp, rfl, _, _, rfl, _, _, rfl, _, _, rfl, rfl, ?_⟩
    dsimp only
    have em : Eb (tTest (tOp (rEqG K 200) (tVar 7) (tC (.str "r")))) [some x, some (.ref ta), some (.int q), some (.str (sw l)), some (.str (sw [c])), some (.str (sw r)), some (.str (sw [wr])), some (.str (mvD m)), some (.int g)] H3 m :=
      (eb_test (ev_eqZ (K := K) (x := mvD m) (y := "r") (vS rfl) ev_str (by cases m <;> decide +kernel) (by decide +kernel))).is (by cases m <;> decide +kernel)
    have s23 := s2.trans s3
    cases m with
    | true =>
      refine q_ifT em fun H4 s4 => ?_
      refine st_ret (ev_tup (K := K) (ds := [.int (g : Nat), .str (sw (l ++ [wr])), .str (sw [hdR r]), .str (sw (r.drop 1))]) (ea_cons (vI rfl) (ea_cons ?_ (ea_cons ?_ (ea_cons ?_ ea_nil)))) (Nat.le_of_ble_eq_true rfl)) fun v H5 s5 h5 => k v H5 (s23.trans (s4.trans s5)) h5
      · exact (ev_addS (i := sw l) (j := sw [wr]) (vS rfl) (vS rfl) (by rw [sw_len, sw_len, sizeLine_eq, List.length_singleton]; omega)).is (by rw [sw_app])
      · have e := ev_addS (K := K) (σ := [some x, some (.ref ta), some (.int q), some (.str (sw l)), some (.str (sw [c])), some (.str (sw r)), some (.str (sw [wr])), some (.str (mvD true)), some (.int g)]) (H := H4) (ta := tVar 5) (tb := tC (.str "_")) (i := sw r) (j := sw [.u]) (vS rfl) ev_str (by rw [sw_len, sw_len, sizeLine_eq, List.length_singleton]; omega)
        rw [sw_app] at e
        refine ev_ixS (z := sw (r ++ [Lt.u])) (i := 0) (c := (hdR r).code) e ev_int (by rw [sw_len, sizeLine_eq, List.length_append, List.length_singleton]; omega) ?_
        rw [sw_tl]
        cases r with
        | nil => rfl
        | cons a r => exact at0 _ _
      · refine (ev_slS (z := sw r) (lo := some 1) (hi := none) (vS rfl) (eo_some (K := K) ev_int) eo_none (by rw [sw_len, sizeLine_eq]; omega)).is ?_
        cases r with
        | nil => rfl
        | cons a r => rw [cut1]; rfl
    | false =>
      refine q_ifN em fun H4 s4 => ?_
      refine st_ret (ev_tup (K := K) (ds := [.int (g : Nat), .str (sw l.dropLast), .str (sw [lstL l]), .str (sw (wr :: r))]) (ea_cons (vI rfl) (ea_cons ?_ (ea_cons ?_ (ea_cons ?_ ea_nil)))) (Nat.le_of_ble_eq_true rfl)) fun v H5 s5 h5 => k v H5 (s23.trans (s4.trans s5)) h5
      · exact (ev_slS (z := sw l) (lo := none) (hi := some (-1)) (vS rfl) eo_none (eo_some (K := K) ev_neg1) (by rw [sw_len, sizeLine_eq]; omega)).is (by rw [cut_m1])
      · have e := ev_addS (K := K) (σ := [some x, some (.ref ta), some (.int q), some (.str (sw l)), some (.str (sw [c])), some (.str (sw r)), some (.str (sw [wr])), some (.str (mvD false)), some (.int g)]) (H := H4) (ta := tC (.str "_")) (tb := tVar 3) (i := sw [.u]) (j := sw l) ev_str (vS rfl) (by rw [sw_len, sw_len, sizeLine_eq, List.length_singleton]; omega)
        rw [sw_app] at e
        refine ev_ixS (z := sw ([Lt.u] ++ l)) (i := -1) (c := (lstL l).code) e ev_neg1 (by rw [sw_len, sizeLine_eq, List.length_append, List.length_singleton]; omega) ?_
        rw [sw_tl]
        refine at_neg ?_
        rw [List.getLast?_map]
        show ((Lt.u :: l).getLast?).map Lt.code = _
        cases l with
        | nil => rfl
        | cons a l =>
          unfold lstL
          rw [List.getLast?_cons_cons, List.getLast?_eq_some_getLast (by simp)]
          rfl
      · exact (ev_addS (i := sw [wr]) (j := sw r) (vS rfl) (vS rfl) (by rw [sw_len, sw_len, sizeLine_eq, List.length_singleton]; omega)).is (by rw [sw_app]; rfl)
end
end My

/-! W33: the law's runs, walked. -/
namespace My
open PySem PySem.Spec PyProof.Rows L2
/-- a run of the rows: the cost so far, the state, the row -/
def rrS (rules : List RR) (x : Nat × Nat × List Lt) : Option (Nat × Nat × List Lt) := match x.2.2 with
  | [] => none
  | c :: rest => match rules.filter fun r => decide (r.s = x.2.1 ∧ r.c = c) with
    | [r] => some (x.1 + 2 * (rest.length + 1) + 2 * r.w.length + 1, r.g, rest ++ r.w)
    | _ => none
def rrF (rules : List RR) : Nat → Nat × Nat × List Lt → Option (Nat × Nat × List Lt)
  | 0, x => some x
  | n + 1, x => (rrF rules n x).bind (rrS rules)
section
variable {P : Program} {w : World} {K : PySem.W.Frag} {mg : Str → Option Value} {base : Heap}

def f_law_many : Gr := fun as d => ∃ (rules : List RR) (q : Nat) (x : List Lt) (m q' : Nat) (x' : List Lt), rules.length ≤ 100000 ∧ (∀ r ∈ rules, r.w.length ≤ 100) ∧ x.length ≤ 100 ∧ rrF rules x.length (0, q, x) = some (m, q', x') ∧ as = [.l (rules.map RR.d), .t (.tuple [.int q, .str (sw x)])] ∧ d = .int (m : Nat)
theorem len__law_many_steps {as : List Ag} {d : PyData} (h : f_law_many as d) : as.length = 2 := by obtain ⟨_, _, _, _, _, _, _, _, _, _, rfl, _⟩ := h; rfl
theorem rrF_pre {rules : List RR} {x y : Nat × Nat × List Lt} : ∀ {n i : Nat}, i ≤ n → rrF rules n x = some y → ∃ z, rrF rules i x = some z ∧ (i < n → ∃ z2, rrS rules z = some z2)
  | 0, i, hi, h => by
    have : i = 0 := by omega
    subst this
    exact ⟨x, rfl, fun z => absurd z (by omega)⟩
  | n + 1, i, hi, h => by
    have h : (rrF rules n x).bind (rrS rules) = some y := h
    cases e : rrF rules n x with
    | none => rw [e] at h; cases h
    | some z =>
      rw [e] at h
      have h : rrS rules z = some y := h
      rcases Nat.lt_or_ge n i with hl | hl
      · have : i = n + 1 := by omega
        subst this
        exact ⟨y, by show (rrF rules n x).bind _ = _; rw [e]; exact h, fun z => absurd z (by omega)⟩
      · obtain ⟨u, h1, h2⟩ := rrF_pre hl e
        refine ⟨u, h1, fun hi2 => ?_⟩
        rcases Nat.lt_or_ge i n with hl2 | hl2
        · exact h2 hl2
        · have : i = n := by omega
          subst this
          rw [e] at h1
          cases h1
          exact ⟨y, by assumption⟩
theorem rrS_some {rules : List RR} {x y : Nat × Nat × List Lt} (h : rrS rules x = some y) : ∃ c rest r, x.2.2 = c :: rest ∧ (rules.filter fun r => decide (r.s = x.2.1 ∧ r.c = c)) = [r] ∧ y = (x.1 + 2 * (rest.length + 1) + 2 * r.w.length + 1, r.g, rest ++ r.w) ∧ r ∈ rules := by
  unfold rrS at h
  split at h
  · cases h
  · rename_i c rest e
    split at h
    · rename_i r er
      cases h
      refine ⟨c, rest, r, e, er, rfl, ?_⟩
      have : r ∈ rules.filter fun r => decide (r.s = x.2.1 ∧ r.c = c) := by rw [er]; exact List.mem_singleton.mpr rfl
      exact (List.mem_filter.mp this).1
    · cases h
def fndD (q : Nat) (c : Lt) (d : PyData) : Bool := match d with
  | .tuple [.int s, .str z, _, _] => decide (s = (q : Int)) && (z == sw [c])
  | _ => false
theorem fndD_eq (q : Nat) (c : Lt) (r : RR) : fndD q c r.d = decide (r.s = q ∧ r.c = c) := by
  show (decide ((r.s : Int) = (q : Int)) && (sw [r.c] == sw [c])) = _
  rw [sw_beq]
  by_cases h1 : r.s = q
  · by_cases h2 : r.c = c
    · rw [decide_eq_true (show (r.s : Int) = (q : Int) by omega), decide_eq_true (show [r.c] = [c] by rw [h2]), decide_eq_true (show r.s = q ∧ r.c = c from ⟨h1, h2⟩)]
      rfl
    · rw [decide_eq_false (show ¬ [r.c] = [c] from fun z => h2 (by injection z)), decide_eq_false (show ¬ (r.s = q ∧ r.c = c) from fun z => h2 z.2), Bool.and_false]
  · rw [decide_eq_false (show ¬ (r.s : Int) = (q : Int) by omega), decide_eq_false (show ¬ (r.s = q ∧ r.c = c) from fun z => h1 z.1)]
    rfl
theorem filter_d (q : Nat) (c : Lt) : ∀ (rules : List RR), ((rules.map RR.d).filter (fndD q c)) = (rules.filter fun r => decide (r.s = q ∧ r.c = c)).map RR.d
  | [] => rfl
  | r :: rs => by
    rw [List.map_cons, List.filter_cons, List.filter_cons, fndD_eq, filter_d q c rs]
    split <;> rfl
theorem sc__law_many_steps : FnScope ["_law_rules", "_law_here", "_law_many", "_law_turn", "_law_found", "_law_rule"] ["_law_rules", "_law_here"] (defScope st__law_many_steps) := ⟨rfl, rfl, rfl, by decide +kernel, rfl, by decide +kernel, by decide +kernel⟩
theorem has__law_many_steps (T : Txt P w K mg base) : Has P w K mg base "_law_many_steps" ["_law_rules", "_law_here"] 1 (SpT K f_law_many) := by
  refine has_mk T.glo__law_many_steps (T.c.def_ 68 (d := d__law_many_steps) rfl) sc__law_many_steps (SpT.len (fun as d h => by exact len__law_many_steps h)) (fun _ _ _ _ _ _ us hl => match us, hl with | [_, _], _ => rfl) (fun cdv A outer s H vs Q E hr h => ?_)
  refine ⟨_, (pss_cons (ps_set (i := 2) sc__law_many_steps.nd rfl (by first | exact Or.inl rfl | exact Or.inr rfl) pe_int)
    (pss_cons (ps_for PassesOwn.never rfl (pi_range1 (by rfl) T.free_range (pa_cons (pe_callB (call_lenK (K := K)) (by rfl) T.free_len PySem.boot_len (pa_cons (pe_ixK (K := K) (pv 1) pe_int (fun _ _ => rfl)) pa_nil)) pa_nil)) (pg_name (i := 3) sc__law_many_steps.nd rfl (by first | exact Or.inl rfl | exact Or.inr rfl))
    (pss_cons (ps_setLc (i := 4) (own := [("_law_rule", 5)]) rfl sc__law_many_steps.nd rfl rfl (sw_true rfl rfl rfl (by decide +kernel)) (pi_list (pv 0)) (blkOk_by (own := [("_law_rule", 5)]) (N := ["_law_rules", "_law_here", "_law_many", "_law_turn", "_law_found", "_law_rule"]) (sc := defScope st__law_many_steps) (by decide +kernel)) (fun _ _ _ _ _ => (pg_name (i := 5) sc__law_many_steps.nd rfl (by first | exact Or.inl rfl | exact Or.inr rfl))) (fun _ _ _ _ _ => (pts_one (PW.pt (pw_and (pt_cmpR (op_eqSK (K := K) hr) (pe_ixK (K := K) (pv 5) pe_int (fun _ _ => rfl)) (pe_ixK (K := K) (pv 1) pe_int (fun _ _ => rfl)) (nomark _)) (pw_and1 (pt_cmpR (op_eqSK (K := K) hr) (pe_ixK (K := K) (pv 5) pe_int (fun _ _ => rfl)) (pe_ixK (K := K) (pe_ixK (K := K) (pv 1) pe_int (fun _ _ => rfl)) pe_int (fun _ _ => rfl)) (nomark _))))))) (fun _ _ _ _ _ => (pv 5)))
    (pss_cons (ps_if (pt_cmpR (op_neSK (K := K) hr) (pe_callB (call_lenK (K := K)) (by rfl) T.free_len PySem.boot_len (pa_cons (pv 4) pa_nil)) pe_int (nomark _)) (pss_one (ps_ret pe_non)) pss_nil)
    (pss_cons (ps_set (i := 2) sc__law_many_steps.nd rfl (by first | exact Or.inl rfl | exact Or.inr rfl) (pe_op op_addG (pe_op op_addG (pe_op op_addG (pv 2) (pe_op op_mul pe_int (pe_callB (call_lenK (K := K)) (by rfl) T.free_len PySem.boot_len (pa_cons (pe_ixK (K := K) (pv 1) pe_int (fun _ _ => rfl)) pa_nil)))) (pe_op op_mul pe_int (pe_callB (call_lenK (K := K)) (by rfl) T.free_len PySem.boot_len (pa_cons (pe_ixK (K := K) (pe_ixK (K := K) (pv 4) pe_int (fun _ _ => rfl)) pe_int (fun _ _ => rfl)) pa_nil)))) pe_int))
    (pss_one (ps_set (i := 1) sc__law_many_steps.nd rfl (by first | exact Or.inl rfl | exact Or.inr rfl) (pe_tup (pa_cons (pe_ixK (K := K) (pe_ixK (K := K) (pv 4) pe_int (fun _ _ => rfl)) pe_int (fun _ _ => rfl)) (pa_cons (pe_op op_addG (pe_slice sl_str (pe_ixK (K := K) (pv 1) pe_int (fun _ _ => rfl)) (po_some pe_int) po_none) (pe_ixK (K := K) (pe_ixK (K := K) (pv 4) pe_int (fun _ _ => rfl)) pe_int (fun _ _ => rfl))) pa_nil)))))))))
    (pss_one (ps_ret (pv 2))))), ?_⟩
  obtain ⟨as, d, ⟨rules, q, x0, m, q', x', hrl, hrw, hxl, hrun, rfl, rfl⟩, hv, k⟩ := h
  obtain ⟨x, y, rfl, hx, hy⟩ := hv.i2
  have hy : Td H y (.tuple [.int q, .str (sw x0)]) := hy
  have ex : ∀ {H' o1 o2 o3 o4 o5}, Same H H' → Ev K (tVar 0) [some x, o1, o2, o3, o4, o5] H' (.l (rules.map RR.d)) := fun s => ev_var rfl (At.sm s hx)
  refine q_set (K := K) ev_int fun v1 H1 s1 h1 => ?_
  obtain rfl := Td.int_of h1
  refine q_for (wk_range1 (K := K) (Hb := H) (j := (x0.length : Int)) (ea_cons ((ev_lenS (z := sw x0) (ev_ixT (i := 1) (vD rfl (hy.sm s1)) ev_int rfl) (by rw [sw_len, sizeLine_eq]; omega)).is (by rw [sw_len])) ea_nil) (by omega))
    (fun i σ' H' => ∃ m' q1 x1 v o3 o4 o5, σ' = [some x, some v, some (.int (m' : Nat)), o3, o4, o5] ∧ Same H H' ∧ Td H' v (.tuple [.int (q1 : Nat), .str (sw x1)]) ∧ rrF rules i (0, q, x0) = some (m', q1, x1) ∧ x1.length ≤ 100 + 100 * i)
    (fun H2 s2 => ⟨0, q, x0, y, none, none, none, rfl, s1.trans s2, hy.sm (s1.trans s2), rfl, by omega⟩) (fun i σ' H' ⟨_, _, _, _, _, _, _, _, s, _⟩ => s) ?_ ?_
  · rintro i d z σ' H2 H3 hd hz ⟨m', q1, x1, v, o3, o4, o5, rfl, s2, hv2, hrr, hl1⟩ s3
    obtain ⟨hi, rfl⟩ := rng_get hd
    obtain rfl := Td.int_of hz
    obtain ⟨zz, ez, ezn⟩ := rrF_pre (Nat.le_of_lt hi) hrun
    rw [hrr] at ez
    cases ez
    obtain ⟨z2, hz2⟩ := ezn hi
    obtain ⟨c, rest, r, e1, e2, e3, hmr⟩ := rrS_some hz2
    have e1 : x1 = c :: rest := e1
    subst e1
    have e2 : (rules.filter fun r => decide (r.s = q1 ∧ r.c = c)) = [r] := e2
    have hwr := hrw r hmr
    have s03 := s2.trans s3
    have hv3 := hv2.sm s3
    have hzl : (sw (c :: rest)).length ≤ sizeLine := by rw [sw_len, sizeLine_eq]; omega
    have evh : ∀ {H' : Hp} {o3 o4 o5 : Option V}, Same H3 H' → Ev K (tVar 1) [some x, some v, some (.int (m' : Nat)), o3, o4, o5] H' (.t (.tuple [.int (q1 : Nat), .str (sw (c :: rest))])) := fun s => vD rfl (hv3.sm s)
    have ef : Ef (tLc (iList K (tVar 0)) (gName 5) (tAnd (tTest (tOp (rEqG K 200) (tOp (rIx K) (tVar 5) (tC (.int 0))) (tOp (rIx K) (tVar 1) (tC (.int 0))))) (tTest (tOp (rEqG K 200) (tOp (rIx K) (tVar 5) (tC (.int 1))) (tOp (rIx K) (tOp (rIx K) (tVar 1) (tC (.int 1))) (tC (.int 0)))))) (tVar 5) [5]) [some x, some v, some (.int (m' : Nat)), some (.int i), o4, o5] H3 (((rules.map RR.d).filter (fndD q1 c)).map id) :=
      ef_lcF (K := K) (i := 5) (fndD q1 c) id (fun H' s => wkf_list (ex (s03.trans s))) (by rw [List.length_map]; omega) (fun x => rfl) fun d z H' hd s hz => by
        obtain ⟨r2, _, rfl⟩ := List.mem_map.mp hd
        have hz : Td H' z (.tuple [.int (r2.s : Nat), .str (sw [r2.c]), .str (sw r2.w), .int (r2.g : Nat)]) := hz
        refine ⟨?_, fun _ => vD (v := z) rfl hz⟩
        have eb := eb_and (eb_test (ev_eqI (K := K) (σ := [some x, some v, some (.int (m' : Nat)), some (.int i), o4, some z]) (H := H') (ev_ixT (i := 0) (vD (i := 5) rfl hz) ev_int rfl) (ev_ixT (i := 0) (evh s) ev_int rfl))) fun _ => eb_test (ev_eqZ (K := K) (x := sw [r2.c]) (y := sw [c]) (ev_ixT (i := 1) (vD (i := 5) (σ := [some x, some v, some (.int (m' : Nat)), some (.int i), o4, some z]) rfl hz) ev_int rfl) (ev_ixS (z := sw (c :: rest)) (i := 0) (c := c.code) (ev_ixT (i := 1) (evh s) ev_int rfl) ev_int hzl (by rw [sw_tl]; exact at0 _ _)) (sw_lay _) (sw_lay _))
        refine eb.is ?_
        rw [fndD_eq, sw_beq]
        by_cases h1 : r2.s = q1
        · by_cases h2 : r2.c = c
          · rw [decide_eq_true h1, decide_eq_true (show [r2.c] = [c] by rw [h2]), decide_eq_true (show r2.s = q1 ∧ r2.c = c from ⟨h1, h2⟩)]; rfl
          · rw [decide_eq_false (show ¬ [r2.c] = [c] from fun z => h2 (by injection z)), decide_eq_false (show ¬ (r2.s = q1 ∧ r2.c = c) from fun z => h2 z.2), Bool.and_false]
        · rw [decide_eq_false h1, decide_eq_false (show ¬ (r2.s = q1 ∧ r2.c = c) from fun z => h1 z.1)]; rfl
    rw [filter_d, e2, List.map_id] at ef
    refine q_setF ef fun p xs H4 hp s4 h4 t4 => ?_
    have efd : ∀ {H' : Hp} {o5 : Option V} {v1 : V} {n : Int}, Same H4 H' → Ev K (tVar 4) [some x, some v1, some (.int n), some (.int i), some (.ref p), o5] H' (.l [r.d]) := fun s => ev_var rfl (show At K _ (.ref p) (.l _) from ⟨p, xs, rfl, SqL.of (s _ _ h4), t4.sm s⟩)
    refine q_ifN ((eb_test (ev_neI (K := K) (i := 1) (j := 1) (ev_len (efd (Same.refl _)) rfl) ev_int)).is rfl) fun H5 s5 => ?_
    have s35 := s4.trans s5
    have efr : ∀ {H' : Hp} {o5 : Option V} {v1 : V} {n : Int}, Same H5 H' → Ev K (tOp (rIx K) (tVar 4) (tC (.int 0))) [some x, some v1, some (.int n), some (.int i), some (.ref p), o5] H' (.t r.d) := fun s => ev_ixL (i := 0) (efd (s5.trans s)) ev_int rfl
    have e2w : ∀ {H' : Hp} {o5 : Option V} {v1 : V} {n : Int}, Same H5 H' → Ev K (tOp (rIx K) (tOp (rIx K) (tVar 4) (tC (.int 0))) (tC (.int 2))) [some x, some v1, some (.int n), some (.int i), some (.ref p), o5] H' (.t (.str (sw r.w))) := fun s => ev_ixT (ds := [.int (r.s : Nat), .str (sw [r.c]), .str (sw r.w), .int (r.g : Nat)]) (i := 2) (efr s) ev_int rfl
    have hwz : (sw r.w).length ≤ sizeLine := by rw [sw_len, sizeLine_eq]; omega
    refine q_set (K := K) (a := .t (.int ((m' + 2 * (rest.length + 1) + 2 * r.w.length + 1 : Nat) : Int))) ?_ fun v6 H6 s6 h6 => ?_
    · have e9 := ev_addI (K := K) (σ := [some x, some v, some (.int (m' : Nat)), some (.int i), some (.ref p), o5]) (H := H5) (ev_addI (ev_addI (ta := tVar 2) (vI rfl) (ev_mulI (ta := tC (.int 2)) ev_int (ev_lenS (ev_ixT (i := 1) (evh s35) (tb := tC (.int 1)) ev_int rfl) hzl) (Or.inl (by decide)))) (ev_mulI (ta := tC (.int 2)) ev_int (ev_lenS (e2w (Same.refl _)) hwz) (Or.inl (by decide)))) (tb := tC (.int 1)) ev_int
      refine e9.int ?_
      rw [sw_len, sw_len, List.length_cons]
      omega
    obtain rfl := Td.int_of h6
    have s36 := s35.trans s6
    refine st_set (K := K) (a := .t (.tuple [.int (r.g : Nat), .str (sw (rest ++ r.w))])) ?_ fun v7 H7 s7 h7 => ?_
    · refine ev_tup (ds := [.int (r.g : Nat), .str (sw (rest ++ r.w))]) (ea_cons (ev_ixT (ds := [.int (r.s : Nat), .str (sw [r.c]), .str (sw r.w), .int (r.g : Nat)]) (i := 3) (efr s6) ev_int rfl) (ea_cons ?_ ea_nil)) (Nat.le_of_ble_eq_true rfl)
      exact (ev_addS (i := sw rest) (j := sw r.w) ((ev_slS (z := sw (c :: rest)) (lo := some 1) (hi := none) (ev_ixT (i := 1) (evh s36) ev_int rfl) (eo_some (K := K) ev_int) eo_none hzl).is (by rw [cut1])) (e2w s6) (by rw [sw_len, sw_len, sizeLine_eq]; rw [List.length_cons] at hl1; omega)).is (by rw [sw_app])
    · refine ⟨_, _, _, v7, _, _, _, rfl, s03.trans (s36.trans s7), h7, ?_, ?_⟩
      · show (rrF rules i (0, q, x0)).bind (rrS rules) = _
        rw [hrr]
        show rrS rules (m', q1, c :: rest) = _
        rw [hz2, e3]
      · rw [List.length_append]
        rw [List.length_cons] at hl1
        omega
  · rintro σ' H2 ⟨m', q1, x1, v, o3, o4, o5, rfl, s2, hv2, hrr, hl1⟩
    rw [rng_len, hrun] at hrr
    cases hrr
    exact st_ret (K := K) (vI rfl) fun v H3 s3 h3 => k v H3 (s2.trans s3) h3
end
end My

/-! W34: the law's stands and steps, walked. -/
namespace My
open PySem PySem.Spec PyProof.Rows L2
section
variable {P : Program} {w : World} {K : PySem.W.Frag} {mg : Str → Option Value} {base : Heap}
/-- d[q, c] = value -/
theorem st_dputD {σ : L2.St} {H : Hp} {D : Ends} {td tk tv : TE} {dv : PyData} {q : Nat} {c : Lt} {ap : Addr} {kvs : List (List Key × V)} (hv : Ev K tv σ H (.t dv)) (hd : Ev K td σ H (refIs ap)) (hk : Ev K tk σ H (.t (.tuple [.int q, .str (sw [c])]))) (hp : H ap = some (.dT kvs)) (hl : kvs.length ≤ 100000)
    (k : ∀ v H', Kp [ap] H H' → H' ap = some (.dT (putK kvs (akey q c) v)) → Td H' v dv → D.nx σ H') : sDPut td tk tv D σ H := by
  refine hv H (Same.refl _) _ fun v H1 s1 h1 => hd H1 s1 _ fun x H2 s2 e => hk H2 (s1.trans s2) _ fun y H3 s3 h2 => ?_
  obtain ⟨b, y1, y2, rfl, hb, e5, e6⟩ := Td.t2 h2
  obtain rfl := Td.int_of e5
  obtain rfl := Td.str_of e6
  have hb : H3 b = some (.tup ((akey q c).map kV)) := hb
  have s13 := s1.trans (s2.trans s3)
  have hp2 := s13 _ _ hp
  have tx : Tx H3 (upd H3 ap (.dT (putK kvs (akey q c) v))) := Tx.dT hp2
  exact ⟨ap, _, e, DPut.t hp2 hb (by rw [sizeLine_eq]; omega), k v _ ((Kp.same s13).trans ⟨fun c o hc e => by rw [upd_ne (fun z => hc (List.mem_singleton.mpr z))]; exact e, tx⟩) upd_same ((Td.sm (s2.trans s3) h1).tx tx)⟩

def f_law_stands (K : PySem.W.Frag) : GrL := fun as ds => ∃ (prog : List Row) (many top N : Nat) (tape : List TR) (S : Nat → Ts) (n : Nat), n ≤ 1000 ∧ tape.length ≤ 10000 ∧ (∀ i, i < n → nxT tape (S i) = some (S (i + 1))) ∧ (∀ i, i ≤ n → (S i).l.length ≤ 1000 ∧ (S i).r.length ≤ 1000) ∧ as = [Ag.ch K prog many top N tape, .t (S 0).d, .t (.int n)] ∧ ds = (List.range (n + 1)).map fun i => (S i).d
theorem len__law_tape_stands {as : List Ag} {d : List PyData} (h : f_law_stands K as d) : as.length = 3 := by obtain ⟨_, _, _, _, _, _, _, _, _, _, _, rfl, _⟩ := h; rfl
theorem Td5 {H : Hp} {v : V} {a b c d e : PyData} (h : Td H v (.tuple [a, b, c, d, e])) : ∃ t x1 x2 x3 x4 x5, v = .ref t ∧ H t = some (.tup [x1, x2, x3, x4, x5]) ∧ Td H x1 a ∧ Td H x2 b ∧ Td H x3 c ∧ Td H x4 d ∧ Td H x5 e := by
  obtain ⟨t, xs, rfl, h, z⟩ := h.tup_of
  cases z with
  | cons h1 z =>
    cases z with
    | cons h2 z =>
      cases z with
      | cons h3 z =>
        cases z with
        | cons h4 z =>
          cases z with
          | cons h5 z =>
            cases z
            exact ⟨t, _, _, _, _, _, rfl, h, h1, h2, h3, h4, h5⟩
theorem sc__law_tape_stands : FnScope ["_law_chain", "_law_here", "_law_many", "_law_table", "_law_state", "_law_sign", "_law_write", "_law_move", "_law_goal", "_law_stands", "_law_turn"] ["_law_chain", "_law_here", "_law_many"] (defScope st__law_tape_stands) := ⟨rfl, rfl, rfl, by decide +kernel, rfl, by decide +kernel, by decide +kernel⟩
theorem has__law_tape_stands (T : Txt P w K mg base) : Has P w K mg base "_law_tape_stands" ["_law_chain", "_law_here", "_law_many"] 2 (SpL K (f_law_stands K)) := by
  refine has_mk T.glo__law_tape_stands (T.c.def_ 69 (d := d__law_tape_stands) rfl) sc__law_tape_stands (SpL.len (fun as d h => by exact len__law_tape_stands h)) (fun _ _ _ _ _ _ us hl => match us, hl with | [_, _, _], _ => rfl) (fun cdv A outer s H vs Q E hr h => ?_)
  refine ⟨_, (pss_cons (ps_set (i := 3) sc__law_tape_stands.nd rfl (by first | exact Or.inl rfl | exact Or.inr rfl) pe_dnewT)
    (pss_cons (ps_for PassesOwn.never rfl (pi_list (pe_fldK (K := K) (pv 0) rfl)) (pg_tup rfl (pgs_cons (pg_name (i := 4) sc__law_tape_stands.nd rfl (by first | exact Or.inl rfl | exact Or.inr rfl)) (pgs_cons (pg_name (i := 5) sc__law_tape_stands.nd rfl (by first | exact Or.inl rfl | exact Or.inr rfl)) (pgs_cons (pg_name (i := 6) sc__law_tape_stands.nd rfl (by first | exact Or.inl rfl | exact Or.inr rfl)) (pgs_cons (pg_name (i := 7) sc__law_tape_stands.nd rfl (by first | exact Or.inl rfl | exact Or.inr rfl)) (pgs_cons (pg_name (i := 8) sc__law_tape_stands.nd rfl (by first | exact Or.inl rfl | exact Or.inr rfl)) pgs_nil))))))
    (pss_one (ps_dput (hu_of hr) (pv 3) (pe_tup (pa_cons (pv 4) (pa_cons (pv 5) pa_nil))) (pe_tup (pa_cons (pv 6) (pa_cons (pv 7) (pa_cons (pv 8) pa_nil)))) rfl)))
    (pss_cons (ps_set (i := 9) sc__law_tape_stands.nd rfl (by first | exact Or.inl rfl | exact Or.inr rfl) (pe_lst (pa_cons (pv 1) pa_nil)))
    (pss_cons (ps_for PassesOwn.never rfl (pi_range1 (by rfl) T.free_range (pa_cons (pv 2) pa_nil)) (pg_name (i := 10) sc__law_tape_stands.nd rfl (by first | exact Or.inl rfl | exact Or.inr rfl))
    (pss_cons (ps_set (i := 1) sc__law_tape_stands.nd rfl (by first | exact Or.inl rfl | exact Or.inr rfl) (pc (has__law_next T) (hr.mono (by decide)) (pa_cons (pv 3) (pa_cons (pe_ixK (K := K) (pv 9) (pe_un un_neg pe_int) (fun _ _ => rfl)) pa_nil))))
    (pss_cons (ps_if (pt_cmp (pc_isN (pv 1))) (pss_one (ps_ret pe_non)) pss_nil)
    (pss_one (ps_expr (pe_bm PySem.F.plainAttrs_list PySem.F.slot_list_append PySem.F.type_list_append mt_append (pv 9) (pa_cons (pv 1) pa_nil)))))))
    (pss_one (ps_ret (pv 9))))))), ?_⟩
  obtain ⟨as, ds, ⟨prog, many, top, N, tape, S, n, hn, htl, hS, hSl, rfl, rfl⟩, hv, k⟩ := h
  obtain ⟨x, y, z, rfl, hx, hy, hz⟩ := hv.i3
  have hy : Td H y (S 0).d := hy
  obtain rfl := Td.int_of hz
  obtain ⟨a, dx, fs, vp, vr, vt, vb, rfl, h1, h2, h3, h4, h5, h6, h7⟩ := hx
  obtain ⟨pt, xt, ept, hpt, tpt⟩ := h6.2
  have h6 := h6.1
  rw [ept] at h6
  refine fun ap hap => ?_
  have s1 : Same H (upd H ap (.dT [])) := Same.new hap
  show tSeq (tFor (iList K (tFld K (tVar 0) "tape")) (gTup K 5 (gCons (gName 4) (gCons (gName 5) (gCons (gName 6) (gCons (gName 7) (gCons (gName 8) gNil)))))) (sDPut (tVar 3) (tTup (tCons (tVar 4) (tCons (tVar 5) tNil))) (tTup (tCons (tVar 6) (tCons (tVar 7) (tCons (tVar 8) tNil)))))) _ { nx := fun _ H' => Q .non H', rt := Q } [some (.ref a), some y, some (.int n), some (.ref ap), none, none, none, none, none, none, none] (upd H ap (.dT []))
  refine q_for (wk_list (K := K) (Hb := H) (ds := tape.map TR.d) (ev_fld (ev_ref rfl) (s1 _ _ h1) T.cls_Chain T.no_Chain_tape h6 (show At K _ (.ref pt) (refIs pt) from rfl)) hpt tpt s1)
    (fun i σ' H' => ∃ o4 o5 o6 o7 o8 kvs, σ' = [some (.ref a), some y, some (.int n), some (.ref ap), o4, o5, o6, o7, o8, none, none] ∧ Same H H' ∧ H' ap = some (.dT kvs) ∧ kvs.length ≤ i ∧ ActAt (tape.take i) kvs H')
    (fun H2 s2 => ⟨none, none, none, none, none, [], rfl, s1.trans s2, s2 _ _ upd_same, Nat.le_refl _, ActAt.nil⟩) (fun i σ' H' ⟨_, _, _, _, _, _, _, s, _⟩ => s) ?_ ?_
  · rintro i d zz σ' H2 H3 hd hzz ⟨o4, o5, o6, o7, o8, kvs, rfl, s2, hk2, hl2, at2⟩ s3
    obtain ⟨t, ht1, rfl⟩ : ∃ t, tape[i]? = some t ∧ d = t.d := by
      rw [List.getElem?_map] at hd
      cases e : tape[i]? with
      | none => rw [e] at hd; cases hd
      | some r => rw [e] at hd; cases hd; exact ⟨r, rfl, rfl⟩
    have hil : i < tape.length := (List.getElem?_eq_some_iff.mp ht1).1
    have eT : tape.take (i + 1) = tape.take i ++ [t] := by rw [List.take_add_one, ht1]; rfl
    have hzz : Td H3 zz (.tuple [.int (t.s : Nat), .str (sw [t.c]), .str (sw [t.w]), .str (mvD t.r), .int (t.g : Nat)]) := hzz
    obtain ⟨tt, x1, x2, x3, x4, x5, rfl, htt, b1, b2, b3, b4, b5⟩ := Td5 hzz
    obtain rfl := Td.int_of b1
    obtain rfl := Td.str_of b2
    obtain rfl := Td.str_of b3
    obtain rfl := Td.str_of b4
    obtain rfl := Td.int_of b5
    refine ⟨tt, _, rfl, SqT.of htt, rfl, _, _, rfl, _, _, rfl, _, _, rfl, _, _, rfl, _, _, rfl, rfl, ?_⟩
    refine st_dputD (K := K) (q := t.s) (c := t.c) (dv := actD (t.w, t.r, t.g)) (ev_tup (ds := [.str (sw [t.w]), .str (mvD t.r), .int (t.g : Nat)]) (ea_cons (vS rfl) (ea_cons (vS rfl) (ea_cons (vI rfl) ea_nil))) (Nat.le_of_ble_eq_true rfl)) (ev_ref rfl) (ev_tup (ds := [.int (t.s : Nat), .str (sw [t.c])]) (ea_cons (vI rfl) (ea_cons (vS rfl) ea_nil)) (Nat.le_of_ble_eq_true rfl)) (s3 _ _ hk2) (by omega) fun v H4 s4 h4' hv4 => ?_
    refine ⟨_, _, _, _, _, _, rfl, s4.of (s2.trans s3) (fun x hx => by rw [List.mem_singleton.mp hx]; exact hap), h4', Nat.le_trans (length_putK _ _ _) (by omega), ?_⟩
    rw [eT]
    exact ((at2.tx s3.tx).tx s4.tx).put t hv4
  · rintro σ' H2 ⟨o4, o5, o6, o7, o8, kvs, rfl, s2, hk2, hl2, at2⟩
    rw [List.length_map, List.take_length] at at2
    have eac : ∀ {H' : Hp} {v1 : V} {o9 o10 : Option V}, Same H2 H' → Ev K (tVar 3) [some (.ref a), some v1, some (.int n), some (.ref ap), o4, o5, o6, o7, o8, o9, o10] H' (Ag.ac tape) := fun s => ev_var rfl ⟨ap, kvs, rfl, s _ _ hk2, at2.tx s.tx⟩
    refine q_setF (ef_lst (K := K) (ds := [(S 0).d]) (ea_cons (vD rfl (hy.sm s2)) ea_nil) (Nat.le_of_ble_eq_true rfl)) fun p xs H3 hp s3 hp3 t3 => ?_
    have hpH : H p = none := s2.free hp
    have hpap : ap ≠ p := fun e => by rw [← e, hk2] at hp; cases hp
    refine q_for (wk_range1 (K := K) (Hb := H) (j := (n : Int)) (ea_cons (vI rfl) ea_nil) (by omega))
      (fun i σ' H' => ∃ v1 o10 ys, σ' = [some (.ref a), some v1, some (.int n), some (.ref ap), o4, o5, o6, o7, o8, some (.ref p), o10] ∧ Same H2 H' ∧ H' p = some (.lst ys) ∧ TdAll H' ys ((List.range (i + 1)).map fun i => (S i).d))
      (fun H4 s4 => ⟨y, none, xs, rfl, s3.trans s4, s4 _ _ hp3, t3.sm s4⟩) (fun i σ' H' ⟨_, _, _, _, s, _⟩ => s2.trans s) ?_ ?_
    · rintro i d zz σ' H4 H5 hd hzz ⟨v1, o10, ys, rfl, s4, hp4, t4⟩ s5
      obtain ⟨hi, rfl⟩ := rng_get hd
      obtain rfl := Td.int_of hzz
      have s25 := s4.trans s5
      obtain ⟨l1, l2⟩ := hSl i (Nat.le_of_lt hi)
      have eR : (List.range (i + 1)).map (fun i => (S i).d) = (List.range i).map (fun i => (S i).d) ++ [(S i).d] := by rw [List.range_succ, List.map_append]; rfl
      have elast : Ev K (tOp (rIx K) (tVar 9) (tUn (rU fun i => .int (-i)) (tC (.int 1)))) [some (.ref a), some v1, some (.int n), some (.ref ap), o4, o5, o6, o7, o8, some (.ref p), some (.int i)] H5 (.t (S i).d) :=
        ev_ixL (ev_var rfl (show At K H5 (.ref p) (.l ((List.range (i + 1)).map fun i => (S i).d)) from ⟨p, ys, rfl, SqL.of (s5 _ _ hp4), t4.sm s5⟩)) ev_neg1 (by rw [eR]; exact at_last _ _)
      refine q_set (K := K) (ev_call (F := f_law_next) ⟨tape, S i, by omega, by omega, rfl, rfl⟩ (ea_cons (eac s25) (ea_cons elast ea_nil))) fun v6 H6 s6 h6' => ?_
      have h6' : Td H6 v6 (S (i + 1)).d := by
        have h9 : Td H6 v6 (optTs (nxT tape (S i))) := h6'
        rw [hS i hi] at h9
        exact h9
      refine q_ifN ((eb_B (ev_isN (K := K) (r := false) (vD rfl h6') rfl)).is rfl) fun H7 s7 => ?_
      have s57 := s5.trans (s6.trans s7)
      refine st_append (K := K) rfl (s57 _ _ hp4) (t4.sm s57) (vD rfl (h6'.sm s7)) (by rw [List.length_map, List.length_range]; omega) fun ys' H8 mu h8 t8 => ?_
      refine ⟨v6, _, ys', rfl, mu.of (s4.trans s57) hp, h8, ?_⟩
      rw [List.range_succ, List.map_append]
      exact t8
    · rintro σ' H4 ⟨v1, o10, ys, rfl, s4, hp4, t4⟩
      rw [rng_len] at t4
      exact ⟨_, rfl, k p ys H4 hpH (s2.trans s4) hp4 t4⟩
def f_law_gone : Gr := fun as d => ∃ (t u : Tr) (n : Nat), Tr.cl t = true ∧ Tr.iter n t = some u ∧ u.isVal = false ∧ t.depth + n ≤ 1000000 ∧ as = [.t t.d, .t (.int n)] ∧ d = u.d
theorem len__law_gone {as : List Ag} {d : PyData} (h : f_law_gone as d) : as.length = 2 := by obtain ⟨_, _, _, _, _, _, _, rfl, _⟩ := h; rfl
theorem sc__law_gone : FnScope ["_law_tree", "_law_many", "_law_word", "_law_steps"] ["_law_tree", "_law_many"] (defScope st__law_gone) := ⟨rfl, rfl, rfl, by decide +kernel, rfl, by decide +kernel, by decide +kernel⟩
theorem has__law_gone (T : Txt P w K mg base) : Has P w K mg base "_law_gone" ["_law_tree", "_law_many"] 7 (SpT K f_law_gone) := by
  refine has_mk T.glo__law_gone (T.c.def_ 71 (d := d__law_gone) rfl) sc__law_gone (SpT.len (fun as d h => by exact len__law_gone h)) (fun _ _ _ _ _ _ us hl => match us, hl with | [_, _], _ => rfl) (fun cdv A outer s H vs Q E hr h => ?_)
  refine ⟨_, (pss_cons (ps_while PassesOwn.never (pt_cmpR op_gt (pv 1) pe_int (nomark _)) (pss_cons (ps_asg (pc (has_tree_run T) (hr.mono (by decide)) (pa_cons (pv 0) (pa_cons (pe_callB (call_min2 rfl) (by rfl) T.free_min (by decide +kernel) (pa_cons (pv 1) (pa_cons pe_int pa_nil))) pa_nil))) (pg_tup rfl (pgs_cons (pg_name (i := 2) sc__law_gone.nd rfl (by first | exact Or.inl rfl | exact Or.inr rfl)) (pgs_cons (pg_name (i := 0) sc__law_gone.nd rfl (by first | exact Or.inl rfl | exact Or.inr rfl)) (pgs_cons (pg_name (i := 3) sc__law_gone.nd rfl (by first | exact Or.inl rfl | exact Or.inr rfl)) pgs_nil)))))
    (pss_cons (ps_if (PW.pt (pw_or (pt_cmpR (op_neSK (K := K) hr) (pv 2) pe_str (nomark _)) (pw_or (pt_not (pt_val (pc (has__law_whole T) (hr.mono (by decide)) (pa_cons (pv 3) pa_nil)))) (pw_or1 (pt_cmpR (op_neSK (K := K) hr) (pv 3) (pe_callB (call_min2 rfl) (by rfl) T.free_min (by decide +kernel) (pa_cons (pv 1) (pa_cons pe_int pa_nil))) (nomark _)))))) (pss_one (ps_ret pe_non)) pss_nil)
    (pss_one (ps_set (i := 1) sc__law_gone.nd rfl (by first | exact Or.inl rfl | exact Or.inr rfl) (pe_op op_sub (pv 1) (pv 3)))))))
    (pss_one (ps_ret (pv 0)))), ?_⟩
  obtain ⟨as, d, ⟨t, u, n, hcl, hit, huv, hdp, rfl, rfl⟩, hv, k⟩ := h
  obtain ⟨x, y, rfl, hx, hy⟩ := hv.i2
  have hx : Td H x t.d := hx
  obtain rfl := Td.int_of hy
  refine q_while (fun m σ' H' => ∃ v o2 o3 c, σ' = [some v, some (.int (m : Nat)), o2, o3] ∧ Same H H' ∧ Td H' v (Tr.d c) ∧ Tr.cl c = true ∧ Tr.iter m c = some u ∧ c.depth + m ≤ 1000000) n ⟨x, none, none, t, rfl, Same.refl _, hx, hcl, hit, hdp⟩ ?_
  rintro m σ' H1 ⟨v, o2, o3, c, rfl, s1, hv1, hc, hi1, hd1⟩
  refine ⟨_, eb_test (ev_cmpI (K := K) (f := fun i j => decide (i > j)) (vI rfl) ev_int), fun H2 s2 => ?_⟩
  by_cases hm : m = 0
  · subst hm
    refine iteF ?_
    cases hi1
    exact st_ret (K := K) (vD rfl (hv1.sm s2)) fun z H3 s3 h3 => k z H3 (s1.trans (s2.trans s3)) h3
  · rw [if_pos (decide_eq_true (by omega))]
    let b : Nat := if 4000 < m then 4000 else m
    have hb : 0 < b ∧ b ≤ m := by show 0 < (if 4000 < m then 4000 else m) ∧ (if 4000 < m then 4000 else m) ≤ m; split <;> omega
    have emin : ∀ {H' : Hp} {v : V} {o2 o3 : Option V}, Ev K (tCB (fun xs H Q => ∃ i j, xs = [.int i, .int j] ∧ Q (.int (if j < i then j else i)) H) (tCons (tVar 1) (tCons (tC (.int 4000)) tNil))) [some v, some (.int (m : Nat)), o2, o3] H' (.t (.int b)) := (ev_min2 (vI rfl) ev_int).int (by
      show (if (4000 : Int) < (m : Int) then (4000 : Int) else (m : Int)) = ((if 4000 < m then 4000 else m : Nat) : Int)
      split <;> split <;> omega)
    have e0 : m = b + (m - b) := by omega
    rw [e0] at hi1
    obtain ⟨c2, hc2, hr2⟩ := Tr.iter_pre hi1
    have hnv : c2.isVal = false := by
      cases hmb : m - b with
      | zero => rw [hmb] at hr2; cases hr2; exact huv
      | succ j =>
        rw [hmb] at hr2
        have hr2 : (Tr.step c2).bind (Tr.iter j) = some u := hr2
        cases es : Tr.step c2 with
        | none => rw [es] at hr2; cases hr2
        | some z => exact Tr.not_val es
    have er := ev_call (K := K) (E := E0) (σ := [some v, some (.int (m : Nat)), o2, o3]) (H := H2) (F := f_tree_run) (as := [.t c.d, .t (.int b)]) (d := .tuple [.str (if c2.isVal then "value" else "on"), c2.d, .int b]) ⟨c, c2, b, rfl, hc, hc2, by omega, rfl⟩ (ea_cons (vD (i := 0) rfl (hv1.sm s2)) (ea_cons emin ea_nil))
    rw [hnv] at er
    refine er H2 (Same.refl _) _ fun z H3 s3 h3 => ?_
    have h3 : Td H3 z (.tuple [.str "on", c2.d, .int (b : Nat)]) := h3
    obtain ⟨tt, w1, w2, w3, rfl, htt, z1, z2, z3⟩ := Td.t3 h3
    obtain rfl := Td.str_of z1
    obtain rfl := Td.int_of z3
    refine ⟨_, _, rfl, SqT.of htt, rfl, _, _, rfl, _, _, rfl, _, _, rfl, rfl, ?_⟩
    dsimp only
    have s13 := s1.trans (s2.trans s3)
    have eo : Eb (tOr (tTest (tOp (rNeG K 200) (tVar 2) (tC (.str "on")))) (tOr (tNot (tB (tCall (SpT K f_law_whole) [] E0 (tCons (tVar 3) tNil)))) (tTest (tOp (rNeG K 200) (tVar 3) (tCB (fun xs H Q => ∃ i j, xs = [.int i, .int j] ∧ Q (.int (if j < i then j else i)) H) (tCons (tVar 1) (tCons (tC (.int 4000)) tNil)))))))
        [some w2, some (.int (m : Nat)), some (.str "on"), some (.int (b : Nat))] H3 false :=
      (eb_or (a := false) (b := false) ((eb_test (ev_neZ (K := K) (x := "on") (y := "on") (vS rfl) ev_str (by decide +kernel) (by decide +kernel))).is (by decide +kernel)) fun _ =>
        (eb_or (a := false) (b := false) ((eb_not (eb_B (ev_call (F := f_law_whole) ⟨(b : Int), rfl, rfl⟩ (ea_cons (vI rfl) ea_nil)))).is rfl) fun _ => (eb_test (ev_neI (K := K) (i := b) (j := b) (vI rfl) emin)).is (by rw [decide_eq_true rfl]; rfl)).is rfl).is rfl
    refine q_ifN eo fun H4 s4 => ?_
    refine st_set (K := K) (a := .t (.int ((m - b : Nat) : Int))) ((ev_subI (K := K) (vI rfl) (vI rfl)).int (by omega)) fun v5 H5 s5 h5 => ?_
    obtain rfl := Td.int_of h5
    refine ⟨m - b, by omega, w2, _, _, c2, rfl, s13.trans (s4.trans s5), z2.sm (s4.trans s5), Tr.iter_cl hc hc2, hr2, ?_⟩
    have := Tr.iter_depth hc2
    omega
end
end My

/-! W35: the law's look at what is made, walked. -/
namespace My
open PySem PySem.Spec PyProof.Rows L2
section
variable {P : Program} {w : World} {K : PySem.W.Frag} {mg : Str → Option Value} {base : Heap}
theorem depth_list {k : Nat} : ∀ {ds : List PyData}, (∀ d ∈ ds, d.depth ≤ k) → (PyData.list ds).depth ≤ k + 1 := by
  intro ds h
  show PyData.depthAll ds + 1 ≤ k + 1
  have : PyData.depthAll ds ≤ k := by
    induction ds with
    | nil => exact Nat.zero_le _
    | cons d ds ih =>
      have h1 := h d List.mem_cons_self
      have h2 := ih fun x hx => h x (List.mem_cons_of_mem _ hx)
      simp only [PyData.depthAll]
      omega
  omega
theorem Row.lay (r : Row) : r.d.canLay0 = true := by
  cases r with
  | up c g =>
    show PyData.canLayAll0 [.str "up", .int _, .int _] = true
    simp only [PyData.canLayAll0, show (PyData.str "up").canLay0 = true from by decide +kernel]
    rfl
  | down c g z =>
    show PyData.canLayAll0 [.str "down", .int _, .int _, .int _] = true
    simp only [PyData.canLayAll0, show (PyData.str "down").canLay0 = true from by decide +kernel]
    rfl
theorem RR.lay (r : RR) : r.d.canLay0 = true := by
  show PyData.canLayAll0 [.int _, .str (sw [r.c]), .str (sw r.w), .int _] = true
  simp only [PyData.canLayAll0, sw_lay]
  rfl
theorem TR.lay (r : TR) : r.d.canLay0 = true := by
  show PyData.canLayAll0 [.int _, .str (sw [r.c]), .str (sw [r.w]), .str (mvD r.r), .int _] = true
  have h : (PyData.str (mvD r.r)).canLay0 = true := by cases r.r <;> decide +kernel
  simp only [PyData.canLayAll0, sw_lay, h]
  rfl
theorem Row.dep (r : Row) : r.d.depth ≤ 1 := by cases r <;> exact Nat.le_refl _
theorem RR.dep (r : RR) : r.d.depth ≤ 1 := Nat.le_refl _
theorem TR.dep (r : TR) : r.d.depth ≤ 1 := Nat.le_refl _
theorem ev_neL {σ : L2.St} {H : Hp} {ta tb : TE} {ds : List PyData} (ha : Ev K ta σ H (.l ds)) (hb : Ev K tb σ H (.l ds)) (hl : ∀ d ∈ ds, d.canLay0 = true) (hd : ∀ d ∈ ds, d.depth ≤ 1) : Ev K (tOp (rNeG K 200) ta tb) σ H (.t (.bool false)) :=
  (ev_neG ha hb rfl rfl (lay_all ds hl) (lay_all ds hl) (Nat.le_trans (Nat.min_le_left _ _) (Nat.le_trans (depth_list hd) (by decide)))).is (by rw [PySem.SeqAt.eqv_refl _ (lay_all ds hl)]; rfl)
theorem ev_eqL {σ : L2.St} {H : Hp} {ta tb : TE} {ds : List PyData} (ha : Ev K ta σ H (.l ds)) (hb : Ev K tb σ H (.l ds)) (hl : ∀ d ∈ ds, d.canLay0 = true) (hd : ∀ d ∈ ds, d.depth ≤ 1) : Ev K (tOp (rEqG K 200) ta tb) σ H (.t (.bool true)) :=
  (ev_eqG ha hb rfl rfl (lay_all ds hl) (lay_all ds hl) (Nat.le_trans (Nat.min_le_left _ _) (Nat.le_trans (depth_list hd) (by decide)))).is (by rw [PySem.SeqAt.eqv_refl _ (lay_all ds hl)])
/-- a list that stands, known by its place -/
theorem ef_addV {σ : L2.St} {H : Hp} {ta : TE} {ds es : List PyData} {i : Nat} {p : Addr} {xs : List V} (ha : Ef ta σ H ds) (hi : σ[i]? = some (some (.ref p))) (hp : H p = some (.lst xs)) (ht : TdAll H xs es) (hz : ds.length + es.length ≤ sizeLine) : Ef (tOp rAddG ta (tVar i)) σ H (ds ++ es) := fun H1 s Q q =>
  ha H1 s _ fun r ys H2 hr s2 h2 hx => ⟨_, hi, .inr (.inr ⟨r, p, ys, xs, rfl, rfl, h2, (s.trans s2) _ _ hp, by rw [hx.length, ht.length]; exact hz, fun z hz0 => q z _ _ (s2.free hz0) (s2.trans (Same.new hz0)) upd_same ((hx.append (ht.sm (s.trans s2))).tx (Tx.new hz0))⟩)⟩
theorem ef_addV2 {σ : L2.St} {H : Hp} {tb : TE} {ds es : List PyData} {i : Nat} {p : Addr} {xs : List V} (hi : σ[i]? = some (some (.ref p))) (hp : H p = some (.lst xs)) (ht : TdAll H xs ds) (hb : Ef tb σ H es) (hz : ds.length + es.length ≤ sizeLine) : Ef (tOp rAddG (tVar i) tb) σ H (ds ++ es) := fun H1 s Q q =>
  ⟨_, hi, hb H1 s _ fun r ys H2 hr s2 h2 hx => .inr (.inr ⟨p, r, xs, ys, rfl, rfl, (s.trans s2) _ _ hp, h2, by rw [hx.length, ht.length]; exact hz, fun z hz0 => q z _ _ (s2.free hz0) (s2.trans (Same.new hz0)) upd_same (((ht.sm (s.trans s2)).append hx).tx (Tx.new hz0))⟩)⟩
theorem ef_rng {σ : L2.St} {H : Hp} {te : TE} {n : Nat} (h : Ev K te σ H (.t (.int n))) (hn : n ≤ 100000) : Ef (tLstRg (tRg1 te)) σ H (upto n) := fun H1 s Q q =>
  h H1 s _ fun v H2 s2 hv => ⟨n, Td.int_of hv, ⟨by decide, by decide, by omega, by omega, by omega⟩, fun p hp => by
    refine q p _ _ (s2.free hp) (s2.trans (Same.new hp)) upd_same ?_
    have e : rgV 0 (n : Int) = ((List.range n).map fun i => ((i : Nat) : Int)).map V.int := by
      unfold rgV
      rw [List.map_map, Int.sub_zero, Int.toNat_natCast]
      exact List.map_congr_left fun i _ => by show V.int (0 + (i : Int)) = V.int (i : Int); rw [Int.zero_add]
    have e2 : upto n = ((List.range n).map fun i => ((i : Nat) : Int)).map PyData.int := by unfold upto; rw [List.map_map]; rfl
    rw [e, e2]
    exact TdAll.ints _⟩
theorem upto_int (n : Nat) : upto n = ((List.range n).map fun i => ((i : Nat) : Int)).map PyData.int := by unfold upto; rw [List.map_map]; rfl
theorem upto_lay (n : Nat) : ∀ d ∈ upto n, d.canLay0 = true := fun d hd => by
  obtain ⟨i, _, rfl⟩ := List.mem_map.mp hd
  rfl
theorem upto_dep (n : Nat) : ∀ d ∈ upto n, d.depth ≤ 1 := fun d hd => by
  obtain ⟨i, _, rfl⟩ := List.mem_map.mp hd
  exact Nat.zero_le _
def f0D (d : PyData) : PyData := match d with
  | .tuple (x :: _) => x
  | d => d
def f3D (d : PyData) : PyData := match d with
  | .tuple (_ :: _ :: _ :: x :: _) => x
  | d => d
def f4D (d : PyData) : PyData := match d with
  | .tuple (_ :: _ :: _ :: _ :: x :: _) => x
  | d => d

def f_law_right (K : PySem.W.Frag) : Gr := fun as d => ∃ (prog : List Row) (many top N : Nat) (tape : List TR), ChOk prog many top N tape ∧ tape.length ≤ 400 ∧ as = [Ag.ch K prog many top N tape, .l (prog.map Row.d), .t (.int many)] ∧ d = .bool true
theorem len__law_made_right {as : List Ag} {d : PyData} (h : f_law_right K as d) : as.length = 3 := by obtain ⟨_, _, _, _, _, _, _, rfl, _⟩ := h; rfl
theorem sc__law_made_right : FnScope ["_law_chain", "_law_program_here", "_law_many", "_law_states", "_law_rule"] ["_law_chain", "_law_program_here", "_law_many"] (defScope st__law_made_right) := ⟨rfl, rfl, rfl, by decide +kernel, rfl, by decide +kernel, by decide +kernel⟩
theorem has__law_made_right (T : Txt P w K mg base) : Has P w K mg base "_law_made_right" ["_law_chain", "_law_program_here", "_law_many"] 5 (SpT K (f_law_right K)) := by
  refine has_mk T.glo__law_made_right (T.c.def_ 70 (d := d__law_made_right) rfl) sc__law_made_right (SpT.len (fun as d h => by exact len__law_made_right h)) (fun _ _ _ _ _ _ us hl => match us, hl with | [_, _, _], _ => rfl) (fun cdv A outer s H vs Q E hr h => ?_)
  refine ⟨_, (pss_cons (ps_if (PW.pt (pw_or (pt_cmpR (op_neSK (K := K) hr) (pe_fldK (K := K) (pv 0) rfl) (pv 1) (nomark _)) (pw_or (pt_cmpR (op_neSK (K := K) hr) (pe_fldK (K := K) (pv 0) rfl) (pv 2) (nomark _)) (pw_or1 (pt_cmpR (op_neSK (K := K) hr) (pe_fldK (K := K) (pe_fldK (K := K) (pv 0) rfl) rfl) pe_str (nomark _)))))) (pss_one (ps_ret pe_bl)) pss_nil)
    (pss_cons (ps_if (PW.pt (pw_or (pt_cmpR (op_neSK (K := K) hr) (pe_fldK (K := K) (pv 0) rfl) (pc (has_make_rows T) (hr.mono (by decide)) (pa_cons (pv 1) (pa_cons (pv 2) pa_nil))) (nomark _)) (pw_or1 (pt_cmpR (op_neSK (K := K) hr) (pe_fldK (K := K) (pv 0) rfl) (pc (has_make_tape T) (hr.mono (by decide)) (pa_cons (pe_fldK (K := K) (pv 0) rfl) (pa_cons pe_str (pa_cons (pe_fldK (K := K) (pv 0) rfl) pa_nil)))) (nomark _))))) (pss_one (ps_ret pe_bl)) pss_nil)
    (pss_cons (ps_set (i := 3) sc__law_made_right.nd rfl (by first | exact Or.inl rfl | exact Or.inr rfl) (pe_op op_addG (pe_lc (own := [("_law_rule", 4)]) (tt := tYes) rfl sc__law_made_right.nd (pi_list (pe_fldK (K := K) (pv 0) rfl)) (blkOk_by (own := [("_law_rule", 4)]) (N := ["_law_chain", "_law_program_here", "_law_many", "_law_states", "_law_rule"]) (sc := defScope st__law_made_right) (by decide +kernel)) (fun _ _ _ _ _ => (pg_name (i := 4) sc__law_made_right.nd rfl (by first | exact Or.inl rfl | exact Or.inr rfl))) (fun _ _ _ _ _ => pts_nil) (fun _ _ _ _ _ => (pe_ixK (K := K) (pv 4) pe_int (fun _ _ => rfl)))) (pe_lc (own := [("_law_rule", 4)]) (tt := tYes) rfl sc__law_made_right.nd (pi_list (pe_fldK (K := K) (pv 0) rfl)) (blkOk_by (own := [("_law_rule", 4)]) (N := ["_law_chain", "_law_program_here", "_law_many", "_law_states", "_law_rule"]) (sc := defScope st__law_made_right) (by decide +kernel)) (fun _ _ _ _ _ => (pg_name (i := 4) sc__law_made_right.nd rfl (by first | exact Or.inl rfl | exact Or.inr rfl))) (fun _ _ _ _ _ => pts_nil) (fun _ _ _ _ _ => (pe_ixK (K := K) (pv 4) pe_int (fun _ _ => rfl))))))
    (pss_cons (ps_if (PW.pt (pw_or (pt_cmpR (op_neSK (K := K) hr) (pe_fldK (K := K) (pv 0) rfl) (pe_callB (cr_max rfl) (by rfl) T.free_max (by decide +kernel) (pa_cons (pe_op op_addG (pe_lst (pa_cons (pe_callB (call_lenK (K := K)) (by rfl) T.free_len PySem.boot_len (pa_cons (pv 1) pa_nil)) pa_nil)) (pv 3)) pa_nil)) (nomark _)) (pw_or1 (pt_cmpR (op_neSK (K := K) hr) (pe_fldK (K := K) (pe_fldK (K := K) (pv 0) rfl) rfl) (pe_fldK (K := K) (pv 0) rfl) (nomark _))))) (pss_one (ps_ret pe_bl)) pss_nil)
    (pss_cons (ps_set (i := 3) sc__law_made_right.nd rfl (by first | exact Or.inl rfl | exact Or.inr rfl) (pe_op op_addG (pe_lc (own := [("_law_rule", 4)]) (tt := tYes) rfl sc__law_made_right.nd (pi_list (pe_fldK (K := K) (pv 0) rfl)) (blkOk_by (own := [("_law_rule", 4)]) (N := ["_law_chain", "_law_program_here", "_law_many", "_law_states", "_law_rule"]) (sc := defScope st__law_made_right) (by decide +kernel)) (fun _ _ _ _ _ => (pg_name (i := 4) sc__law_made_right.nd rfl (by first | exact Or.inl rfl | exact Or.inr rfl))) (fun _ _ _ _ _ => pts_nil) (fun _ _ _ _ _ => (pe_ixK (K := K) (pv 4) pe_int (fun _ _ => rfl)))) (pe_lc (own := [("_law_rule", 4)]) (tt := tYes) rfl sc__law_made_right.nd (pi_list (pe_fldK (K := K) (pv 0) rfl)) (blkOk_by (own := [("_law_rule", 4)]) (N := ["_law_chain", "_law_program_here", "_law_many", "_law_states", "_law_rule"]) (sc := defScope st__law_made_right) (by decide +kernel)) (fun _ _ _ _ _ => (pg_name (i := 4) sc__law_made_right.nd rfl (by first | exact Or.inl rfl | exact Or.inr rfl))) (fun _ _ _ _ _ => pts_nil) (fun _ _ _ _ _ => (pe_ixK (K := K) (pv 4) pe_int (fun _ _ => rfl))))))
    (pss_one (ps_ret (pe_cmpR (op_eqSK (K := K) hr) (pe_fldK (K := K) (pe_fldK (K := K) (pv 0) rfl) rfl) (pe_callB (cr_sortedSetK (w := w) rfl) (by rfl) T.free_sorted PyProof.Rows.boot_sorted (pa_cons (pe_callTy (cr_setLK (K := K) (w := w) rfl) (by rfl) T.free_set PyProof.Rows.boot_set (pa_cons (pe_op op_addG (pv 3) (pe_listRg rfl rfl T.free_list (prg_1 rfl T.free_range (pe_op op_addG (pe_fldK (K := K) (pv 0) rfl) pe_int)))) pa_nil)) pa_nil)) (nomark _))))))))), ?_⟩
  obtain ⟨as, d, ⟨prog, many, top, N, tape, ok, htl, rfl, rfl⟩, hv, k⟩ := h
  obtain ⟨x, y, z, rfl, hx, hy, hz⟩ := hv.i3
  obtain rfl := Td.int_of hz
  have ex : ∀ {H' o2 o3}, Same H H' → Ev K (tVar 0) [some x, some y, some (.int many), o2, o3] H' (Ag.ch K prog many top N tape) := fun s => ev_var rfl (At.sm s hx)
  have ey : ∀ {H' o2 o3}, Same H H' → Ev K (tVar 1) [some x, some y, some (.int many), o2, o3] H' (.l (prog.map Row.d)) := fun s => ev_var rfl (At.sm s hy)
  have lR : ∀ d ∈ prog.map Row.d, d.canLay0 = true := fun d hd => by obtain ⟨r, _, rfl⟩ := List.mem_map.mp hd; exact r.lay
  have dR : ∀ d ∈ prog.map Row.d, d.depth ≤ 1 := fun d hd => by obtain ⟨r, _, rfl⟩ := List.mem_map.mp hd; exact r.dep
  have lU : ∀ d ∈ (rowsT many prog).map RR.d, d.canLay0 = true := fun d hd => by obtain ⟨r, _, rfl⟩ := List.mem_map.mp hd; exact r.lay
  have dU : ∀ d ∈ (rowsT many prog).map RR.d, d.depth ≤ 1 := fun d hd => by obtain ⟨r, _, rfl⟩ := List.mem_map.mp hd; exact r.dep
  have lT : ∀ d ∈ tape.map TR.d, d.canLay0 = true := fun d hd => by obtain ⟨r, _, rfl⟩ := List.mem_map.mp hd; exact r.lay
  have dT : ∀ d ∈ tape.map TR.d, d.depth ≤ 1 := fun d hd => by obtain ⟨r, _, rfl⟩ := List.mem_map.mp hd; exact r.dep
  refine q_ifN ((eb_or (a := false) (b := false) (eb_test (ev_neL (ev_chProg T (ex (Same.refl _))) (ey (Same.refl _)) lR dR)) fun _ => (eb_or (a := false) (b := false) ((eb_test (ev_neI (K := K) (i := many) (j := many) (ev_chMany T (ex (Same.refl _))) (vI rfl))).is (by rw [decide_eq_true rfl]; rfl)) fun _ =>
    (eb_test (ev_neZ (K := K) (x := sw sgn) (y := sw sgn) (ev_bkSigns T (ev_chBook T (ex (Same.refl _))).bk) ev_str (sw_lay _) (sw_lay _))).is (by rw [sw_beq]; rfl)).is rfl).is rfl) fun H1 s1 => ?_
  obtain ⟨n, hn, hw, htp⟩ := ok.tp
  refine q_ifN ((eb_or (a := false) (b := false) (eb_test (ev_neL (ev_chRules T (ex s1)) (ef_call (F := f_make_rows) ⟨prog, many, ok.m, ok.pl, ok.ct, rfl, rfl⟩ (ea_cons (ey s1) (ea_cons (vI rfl) ea_nil))).ev lU dU)) fun _ =>
    (eb_test (ev_neL (ev_chTape T (ex s1)) (ef_call (F := f_make_tape) ⟨rowsT many prog, top, n, ok.rl, ok.rw_, hn, hw, rfl, by rw [← htp]⟩ (ea_cons (ev_chRules T (ex s1)) (ea_cons ev_str (ea_cons (ev_chTop T (ex s1)) ea_nil)))).ev lT dT))).is rfl) fun H2 s2 => ?_
  have s12 := s1.trans s2
  -- states of the rows
  have ecU : ∀ (f : PyData → PyData) (ix : Int) (H' : Hp), Same H H' → (∀ r : RR, f r.d = PyData.int 0 ∨ True) → (∀ r : RR, atI [PyData.int (r.s : Nat), .str (sw [r.c]), .str (sw r.w), .int (r.g : Nat)] ix = some (f r.d)) →
      Ef (tLc (iList K (tFld K (tVar 0) "rules")) (gName 4) tYes (tOp (rIx K) (tVar 4) (tC (.int ix))) [4]) [some x, some y, some (.int many), none, none] H' (((rowsT many prog).map RR.d).map f) := fun f ix H' s _ hf =>
    ef_lcFY (K := K) (i := 4) f (fun H'' s' => wkf_list (ev_chRules T (ex (s.trans s')))) (by rw [List.length_map]; have := ok.rl; omega) (fun x => rfl) fun d z H'' hd s' hz => by
      obtain ⟨r, _, rfl⟩ := List.mem_map.mp hd
      have hz : Td H'' z (.tuple [.int (r.s : Nat), .str (sw [r.c]), .str (sw r.w), .int (r.g : Nat)]) := hz
      exact ev_ixT (vD rfl hz) ev_int (hf r)
  have e1 := ecU f0D 0 H2 s12 (fun _ => .inr trivial) fun r => rfl
  have e2 := ecU f3D 3 H2 s12 (fun _ => .inr trivial) fun r => rfl
  have m1 : ((rowsT many prog).map RR.d).map f0D = ((rowsT many prog).map fun r => (r.s : Int)).map PyData.int := by rw [List.map_map, List.map_map]; exact List.map_congr_left fun r _ => rfl
  have m2 : ((rowsT many prog).map RR.d).map f3D = ((rowsT many prog).map fun r => (r.g : Int)).map PyData.int := by rw [List.map_map, List.map_map]; exact List.map_congr_left fun r _ => rfl
  rw [m1] at e1
  rw [m2] at e2
  have hrl := ok.rl
  have e12 := ef_addL e1 e2 (by simp only [List.length_map]; rw [sizeLine_eq]; omega)
  rw [← List.map_append] at e12
  refine q_setF e12 fun p1 x1 H3 hp1 s3 h3 t3 => ?_
  have s13 := s12.trans s3
  have est : ∀ {H' : Hp} {o4 : Option V}, Same H3 H' → Ev K (tVar 3) [some x, some y, some (.int many), some (.ref p1), o4] H' (.l (((rowsT many prog).map (fun r => (r.s : Int)) ++ (rowsT many prog).map (fun r => (r.g : Int))).map PyData.int)) := fun s => ev_var rfl (show At K _ (.ref p1) (.l _) from ⟨p1, x1, rfl, SqL.of (s _ _ h3), t3.sm s⟩)
  have el : Ef (tLst (tCons (tCB (rLenK K) (tCons (tVar 1) tNil)) tNil)) [some x, some y, some (.int many), some (.ref p1), none] H3 ([(prog.length : Int)].map PyData.int) := ef_lst (K := K) (ds := [.int (prog.length : Int)]) (ea_cons (ev_len (ey s13) (List.length_map _)) ea_nil) (Nat.le_of_ble_eq_true rfl)
  have eA := ef_addV (i := 3) el rfl h3 t3 (by simp only [List.length_map, List.length_append, List.length_singleton]; rw [sizeLine_eq]; omega)
  rw [← List.map_append] at eA
  have etop := ev_max (K := K) (m := (top : Int)) eA.ev ?_ ?_
  · have ert : Eb (tOr (tTest (tOp (rNeG K 200) (tFld K (tVar 0) "top") (tCB (rMax K) (tCons (tOp rAddG (tLst (tCons (tCB (rLenK K) (tCons (tVar 1) tNil)) tNil)) (tVar 3)) tNil)))) (tTest (tOp (rNeG K 200) (tFld K (tFld K (tVar 0) "book") "rules") (tFld K (tVar 0) "tape")))) [some x, some y, some (.int many), some (.ref p1), none] H3 false :=
      (eb_or (a := false) (b := false) ((eb_test (ev_neI (K := K) (i := top) (j := top) (ev_chTop T (ex s13)) etop)).is (by rw [decide_eq_true rfl]; rfl)) fun _ => eb_test (ev_neL (ev_bkRules T (ev_chBook T (ex s13)).bk) (ev_chTape T (ex s13)) lT dT)).is rfl
    refine q_ifN ert fun H4 s4 => ?_
    have s14 := s13.trans s4
    -- states of the tape
    have ecT : ∀ (f : PyData → PyData) (ix : Int) (H' : Hp) (o3 : Option V), Same H H' → (∀ r : TR, atI [PyData.int (r.s : Nat), .str (sw [r.c]), .str (sw [r.w]), .str (mvD r.r), .int (r.g : Nat)] ix = some (f r.d)) →
        Ef (tLc (iList K (tFld K (tVar 0) "tape")) (gName 4) tYes (tOp (rIx K) (tVar 4) (tC (.int ix))) [4]) [some x, some y, some (.int many), o3, none] H' ((tape.map TR.d).map f) := fun f ix H' o3 s hf =>
      ef_lcFY (K := K) (i := 4) f (fun H'' s' => wkf_list (ev_chTape T (ex (s.trans s')))) (by rw [List.length_map]; omega) (fun x => rfl) fun d z H'' hd s' hz => by
        obtain ⟨r, _, rfl⟩ := List.mem_map.mp hd
        have hz : Td H'' z (.tuple [.int (r.s : Nat), .str (sw [r.c]), .str (sw [r.w]), .str (mvD r.r), .int (r.g : Nat)]) := hz
        exact ev_ixT (vD rfl hz) ev_int (hf r)
    have e5 := ecT f0D 0 H4 (some (.ref p1)) s14 fun r => rfl
    have e6 := ecT f4D 4 H4 (some (.ref p1)) s14 fun r => rfl
    have m5 : (tape.map TR.d).map f0D = (tape.map fun r => (r.s : Int)).map PyData.int := by rw [List.map_map, List.map_map]; exact List.map_congr_left fun r _ => rfl
    have m6 : (tape.map TR.d).map f4D = (tape.map fun r => (r.g : Int)).map PyData.int := by rw [List.map_map, List.map_map]; exact List.map_congr_left fun r _ => rfl
    rw [m5] at e5
    rw [m6] at e6
    have e56 := ef_addL e5 e6 (by simp only [List.length_map]; rw [sizeLine_eq]; omega)
    rw [← List.map_append] at e56
    refine q_setF e56 fun p2 x2 H5 hp2 s5 h5 t5 => ?_
    have s15 := s14.trans s5
    have hN := ok.n64
    have htN : top < N := (ok.st top).1 (.inl (Nat.le_refl _))
    have erg := ef_rng (K := K) (σ := [some x, some y, some (.int many), some (.ref p2), none]) (H := H5) (n := top + 1) (te := tOp rAddG (tFld K (tVar 0) "top") (tC (.int 1))) (ev_succ (ev_chTop T (ex s15))) (by omega)
    rw [upto_int] at erg
    have eall := ef_addV2 (i := 3) (ds := ((tape.map fun r => (r.s : Int)) ++ (tape.map fun r => (r.g : Int))).map PyData.int) rfl h5 t5 erg (by simp only [List.length_map, List.length_append, List.length_range]; rw [sizeLine_eq]; omega)
    rw [← List.map_append] at eall
    have esort := ef_sortedSet (K := K) (w := w) (N := N) eall.ev (by simp only [List.length_map, List.length_append, List.length_range]; omega) hN fun j => by
      rw [List.mem_append, List.mem_append]
      constructor
      · rintro ((h | h) | h)
        · obtain ⟨r, hr, rfl⟩ := List.mem_map.mp h
          have := (ok.st r.s).1 (.inr ⟨r, hr, .inl rfl⟩)
          omega
        · obtain ⟨r, hr, rfl⟩ := List.mem_map.mp h
          have := (ok.st r.g).1 (.inr ⟨r, hr, .inr rfl⟩)
          omega
        · obtain ⟨i, hi, rfl⟩ := List.mem_map.mp h
          have := List.mem_range.mp hi
          omega
      · rintro ⟨j1, j2⟩
        obtain ⟨i, rfl⟩ := Int.eq_ofNat_of_zero_le j1
        rcases (ok.st i).2 (by omega) with h | ⟨r, hr, h | h⟩
        · exact .inr (List.mem_map.mpr ⟨i, List.mem_range.mpr (by omega), rfl⟩)
        · exact .inl (.inl (List.mem_map.mpr ⟨r, hr, by rw [h]⟩))
        · exact .inl (.inr (List.mem_map.mpr ⟨r, hr, by rw [h]⟩))
    exact st_ret (ev_eqL (ev_bkStates T (ev_chBook T (ex s15)).bk) esort.ev (upto_lay N) (upto_dep N)) fun v H6 s6 h6 => k v H6 (s15.trans s6) h6
  · rcases ok.top1 with h | ⟨r, hr, h | h⟩
    · exact List.mem_append_left _ (List.mem_singleton.mpr (by rw [h]))
    · exact List.mem_append_right _ (List.mem_append_left _ (List.mem_map.mpr ⟨r, hr, by rw [h]⟩))
    · exact List.mem_append_right _ (List.mem_append_right _ (List.mem_map.mpr ⟨r, hr, by rw [h]⟩))
  · intro y hy
    rcases List.mem_append.mp hy with h | h
    · rw [List.mem_singleton.mp h]; have := ok.top2.1; omega
    · rcases List.mem_append.mp h with h | h
      · obtain ⟨r, hr, rfl⟩ := List.mem_map.mp h
        have := (ok.top2.2 r hr).1; omega
      · obtain ⟨r, hr, rfl⟩ := List.mem_map.mp h
        have := (ok.top2.2 r hr).2; omega
end
end My

/-! W36: the law's ends, walked. -/
namespace My
open PySem PySem.Spec PyProof.Rows L2
section
variable {P : Program} {w : World} {K : PySem.W.Frag} {mg : Str → Option Value} {base : Heap}
theorem Ts.lay (s : Ts) : s.d.canLay0 = true := by
  show PyData.canLayAll0 [.int _, .str (sw s.l), .str (sw [s.c]), .str (sw s.r)] = true
  simp only [PyData.canLayAll0, sw_lay]
  rfl
theorem Ts.dep (s : Ts) : s.d.depth ≤ 1 := Nat.le_refl _
theorem lay_ints : ∀ cs : List Nat, (csD cs).canLay0 = true := by
  intro cs
  show PyData.canLayAll0 (cs.map fun (c : Nat) => PyData.int c) = true
  induction cs with
  | nil => rfl
  | cons c cs ih =>
    rw [List.map_cons]
    simp only [PyData.canLayAll0, ih]
    rfl
theorem dep_ints (cs : List Nat) : (csD cs).depth ≤ 1 := by
  show PyData.depthAll (cs.map fun (c : Nat) => PyData.int c) + 1 ≤ 1
  have : PyData.depthAll (cs.map fun (c : Nat) => PyData.int c) = 0 := by
    induction cs with
    | nil => rfl
    | cons c cs ih =>
      rw [List.map_cons]
      simp only [PyData.depthAll, ih]
      rfl
  omega
theorem csSt_lay (p : Nat) (cs : List Nat) : (csSt p cs).canLay0 = true := by
  show PyData.canLayAll0 [.int _, csD cs] = true
  simp only [PyData.canLayAll0, lay_ints]
  rfl
theorem csSt_dep (p : Nat) (cs : List Nat) : (csSt p cs).depth ≤ 2 := by
  have := dep_ints cs
  show PyData.depthAll [.int _, csD cs] + 1 ≤ 2
  simp only [PyData.depthAll, PyData.depth]
  omega
/-- data that is the same -/
theorem ev_neS {σ : L2.St} {H : Hp} {ta tb : TE} {d : PyData} (ha : Ev K ta σ H (.t d)) (hb : Ev K tb σ H (.t d)) (hl : d.canLay0 = true) (hd : d.depth ≤ 200) : Ev K (tOp (rNeG K 200) ta tb) σ H (.t (.bool false)) :=
  (ev_neG ha hb rfl rfl hl hl (Nat.le_trans (Nat.min_le_left _ _) hd)).is (by rw [PySem.SeqAt.eqv_refl _ hl]; rfl)
theorem ev_eqS2 {σ : L2.St} {H : Hp} {ta tb : TE} {d : PyData} (ha : Ev K ta σ H (.t d)) (hb : Ev K tb σ H (.t d)) (hl : d.canLay0 = true) (hd : d.depth ≤ 200) : Ev K (tOp (rEqG K 200) ta tb) σ H (.t (.bool true)) :=
  (ev_eqG ha hb rfl rfl hl hl (Nat.le_trans (Nat.min_le_left _ _) hd)).is (by rw [PySem.SeqAt.eqv_refl _ hl])

def f_law_ends (K : PySem.W.Frag) : Gr := fun as d => ∃ (prog : List Row) (many top N : Nat) (tape : List TR) (t u v : Tr) (s : Ts) (p : Nat) (cs : List Nat), N ≤ 90 ∧ (∀ q, q < N → (stT tape N q).depth ≤ 500) ∧ (∀ t ∈ tape, t.g < N) ∧ Tr.cl t = true ∧ 0 < tcT tape N s.q s.l s.c s.r ∧ Tr.iter (tcT tape N s.q s.l s.c s.r - 1) t = some u ∧ Tr.step u = some v ∧ v.isVal = true ∧
  t.depth + tcT tape N s.q s.l s.c s.r ≤ 900000 ∧ endTold N v = s.d ∧ Told prog.length many top s.d (csSt p cs) ∧ as = [Ag.ch K prog many top N tape, .t t.d, .t s.d, .t (csSt p cs)] ∧ d = .bool true
theorem len__law_ends {as : List Ag} {d : PyData} (h : f_law_ends K as d) : as.length = 4 := by obtain ⟨_, _, _, _, _, _, _, _, _, _, _, _, _, _, _, _, _, _, _, _, _, _, rfl, _⟩ := h; rfl
theorem image_val {tape : List TR} {N : Nat} {v : Tr} (h : v.isVal = true) : imageTold tape N v = .none := by
  cases v with
  | j a b => exact if_pos (by rw [h]; rfl)
  | _ => rfl
theorem sc__law_ends : FnScope ["_law_chain", "_law_tree", "_law_tape", "_law_stand", "_law_word", "_law_many"] ["_law_chain", "_law_tree", "_law_tape", "_law_stand"] (defScope st__law_ends) := ⟨rfl, rfl, rfl, by decide +kernel, rfl, by decide +kernel, by decide +kernel⟩
theorem has__law_ends (T : Txt P w K mg base) : Has P w K mg base "_law_ends" ["_law_chain", "_law_tree", "_law_tape", "_law_stand"] 23 (SpT K (f_law_ends K)) := by
  refine has_mk T.glo__law_ends (T.c.def_ 73 (d := d__law_ends) rfl) sc__law_ends (SpT.len (fun as d h => by exact len__law_ends h)) (fun _ _ _ _ _ _ us hl => match us, hl with | [_, _, _, _], _ => rfl) (fun cdv A outer s H vs Q E hr h => ?_)
  refine ⟨_, (pss_cons (ps_set (i := 1) sc__law_ends.nd rfl (by first | exact Or.inl rfl | exact Or.inr rfl) (pc (has__law_gone T) (hr.mono (by decide)) (pa_cons (pv 1) (pa_cons (pe_op op_sub (pc (has_tape_cost T) (hr.mono (by decide)) (pa_cons (pe_fldK (K := K) (pv 0) rfl) (pa_cons (pv 2) pa_nil))) pe_int) pa_nil))))
    (pss_cons (ps_if (pt_cmp (pc_isN (pv 1))) (pss_one (ps_ret pe_bl)) pss_nil)
    (pss_cons (ps_asg (pc (has_tree_run T) (hr.mono (by decide)) (pa_cons (pv 1) (pa_cons pe_int pa_nil))) (pg_tup rfl (pgs_cons (pg_name (i := 4) sc__law_ends.nd rfl (by first | exact Or.inl rfl | exact Or.inr rfl)) (pgs_cons (pg_name (i := 1) sc__law_ends.nd rfl (by first | exact Or.inl rfl | exact Or.inr rfl)) (pgs_cons (pg_name (i := 5) sc__law_ends.nd rfl (by first | exact Or.inl rfl | exact Or.inr rfl)) pgs_nil)))))
    (pss_cons (ps_if (PW.pt (pw_or (pt_cmpR (op_neSK (K := K) hr) (pv 4) pe_str (nomark _)) (pw_or (pt_cmpR (op_neSK (K := K) hr) (pv 5) pe_int (nomark _)) (pw_or1 (pt_cmpR (op_neSK (K := K) hr) (pc (has_end_told T) (hr.mono (by decide)) (pa_cons (pe_fldK (K := K) (pv 0) rfl) (pa_cons (pv 1) pa_nil))) (pv 2) (nomark _)))))) (pss_one (ps_ret pe_bl)) pss_nil)
    (pss_one (ps_ret (pe_and (pe_cmp (pc_isN (pc (has_image_told T) (hr.mono (by decide)) (pa_cons (pe_fldK (K := K) (pv 0) rfl) (pa_cons (pv 1) pa_nil))))) (pe_one (pe_cmpR (op_eqSK (K := K) hr) (pc (has_chain_told T) (hr.mono (by decide)) (pa_cons (pv 0) (pa_cons (pv 1) pa_nil))) (pv 3) (nomark _)))))))))), ?_⟩
  obtain ⟨as, d, ⟨prog, many, top, N, tape, t, u, v, s, p, cs, hN, hst, htg, hcl, hc, hit, hst1, hval, hdp, hend, htold, rfl, rfl⟩, hv, k⟩ := h
  obtain ⟨x, y, z, z2, rfl, hx, hy, hz, hz2⟩ := hv.i4
  have hy : Td H y t.d := hy
  have hz : Td H z s.d := hz
  have hz2 : Td H z2 (csSt p cs) := hz2
  have ex : ∀ {H' o1 o2 o3 o4 o5}, Same H H' → Ev K (tVar 0) [some x, o1, o2, o3, o4, o5] H' (Ag.ch K prog many top N tape) := fun s => ev_var rfl (At.sm s hx)
  have ecost := ev_call (K := K) (E := E0) (F := f_tape_cost K) (σ := [some x, some y, some z, some z2, none, none]) (H := H) (as := [Ag.bf K tape N, .t s.d]) (d := .int (tcT tape N s.q s.l s.c s.r : Nat)) ⟨tape, N, s.q, s.l, s.c, s.r, by omega, htg, rfl, rfl⟩ (ea_cons (ev_chBook T (ex (Same.refl _))) (ea_cons (vD (i := 2) rfl hz) ea_nil))
  have hu : u.isVal = false := Tr.not_val hst1
  have hdu := Tr.iter_depth hit
  have hdv := Tr.step_depth hst1
  refine q_set (K := K) (ev_call (F := f_law_gone) ⟨t, u, tcT tape N s.q s.l s.c s.r - 1, hcl, hit, hu, by omega, rfl, rfl⟩ (ea_cons (vD rfl hy) (ea_cons ((ev_subI ecost ev_int).int (by omega)) ea_nil))) fun v1 H1 s1 h1 => ?_
  have h1 : Td H1 v1 u.d := h1
  have hnn : isNonD u.d = false := by
    cases u with
    | j _ _ => rfl
    | _ => cases hu
  refine q_ifN ((eb_B (ev_isN (K := K) (r := false) (vD rfl h1) hnn)).is rfl) fun H2 s2 => ?_
  have s12 := s1.trans s2
  have er := ev_call (K := K) (E := E0) (σ := [some x, some v1, some z, some z2, none, none]) (H := H2) (F := f_tree_run) (as := [.t u.d, .t (.int 1)]) (d := .tuple [.str (if v.isVal then "value" else "on"), v.d, .int 1]) ⟨u, v, 1, rfl, Tr.iter_cl hcl hit, by rw [Tr.iter_one]; exact hst1, by omega, rfl⟩ (ea_cons (vD (i := 1) rfl (h1.sm s2)) (ea_cons ev_int ea_nil))
  rw [hval] at er
  refine er H2 (Same.refl _) _ fun zz H3 s3 h3 => ?_
  have h3 : Td H3 zz (.tuple [.str "value", v.d, .int 1]) := h3
  obtain ⟨tt, w1, w2, w3, rfl, htt, z1, zv, z3⟩ := Td.t3 h3
  obtain rfl := Td.str_of z1
  obtain rfl := Td.int_of z3
  refine ⟨_, _, rfl, SqT.of htt, rfl, _, _, rfl, _, _, rfl, _, _, rfl, rfl, ?_⟩
  dsimp only
  have s13 := s12.trans s3
  have ev2 : ∀ {H' o2 o3 o4 o5}, Same H3 H' → Ev K (tVar 1) [some x, some w2, o2, o3, o4, o5] H' (.t v.d) := fun s => vD rfl (zv.sm s)
  have hvd : v.depth ≤ 1000000 := by omega
  refine q_ifN ((eb_or (a := false) (b := false) ((eb_test (ev_neZ (K := K) (x := "value") (y := "value") (vS rfl) ev_str (by decide +kernel) (by decide +kernel))).is (by decide +kernel)) fun _ => (eb_or (a := false) (b := false) ((eb_test (ev_neI (K := K) (i := 1) (j := 1) (vI rfl) ev_int)).is rfl) fun _ =>
    eb_test (ev_neS (ev_call (F := f_end_told K) ⟨tape, N, v, hN, hvd, rfl, hend.symm⟩ (ea_cons (ev_chBook T (ex s13)) (ea_cons (ev2 (Same.refl _)) ea_nil))) (vD rfl (hz.sm s13)) s.lay (Nat.le_trans s.dep (by decide)))).is rfl).is rfl) fun H4 s4 => ?_
  have s14 := s13.trans s4
  refine st_ret (ev_andV (a := true) (b := true) (ev_isN (r := true) (ev_call (F := f_image_told K) ⟨tape, N, v, hN, hst, hvd, rfl, (image_val hval).symm⟩ (ea_cons (ev_chBook T (ex s14)) (ea_cons (ev2 s4) ea_nil))) rfl) fun _ =>
    ev_eqS2 (ev_call (F := f_chain_told K) ⟨prog, many, top, N, tape, v, hN, hst, hvd, rfl, ?_⟩ (ea_cons (ex s14) (ea_cons (ev2 s4) ea_nil))) (vD rfl (hz2.sm s14)) (csSt_lay p cs) (Nat.le_trans (csSt_dep p cs) (by decide))) fun q H5 s5 h5 => k q H5 (s14.trans s5) h5
  have e : tapeTold tape N v = s.d := by
    unfold tapeTold
    rw [image_val hval]
    exact hend
  rw [e]
  exact htold
end
end My

/-! W37: the law's way, walked. -/
namespace My
open PySem PySem.Spec PyProof.Rows L2
def Ts.im (tape : List TR) (N : Nat) (s : Ts) : Tr := imT tape N s.q s.l s.c s.r
def Ts.co (tape : List TR) (N : Nat) (s : Ts) : Nat := tcT tape N s.q s.l s.c s.r
def sumR (C : Nat → Nat) (a n : Nat) : Nat := ((List.range n).map fun i => C (a + i)).sum
section
variable {P : Program} {w : World} {K : PySem.W.Frag} {mg : Str → Option Value} {base : Heap}
theorem isN_tr {u : Tr} (h : u.isVal = false) : isNonD u.d = false := by
  cases u with
  | j _ _ => rfl
  | _ => cases h
theorem ev_chain {σ : L2.St} {H : Hp} {ta tb tc : TE} {i j l : Int} {f g : Int → Int → Bool} (ha : Ev K ta σ H (.t (.int i))) (hb : Ev K tb σ H (.t (.int j))) (hc : Ev K tc σ H (.t (.int l))) (hf : f i j = true) :
    Ev K (tChain (rI0 fun i j => .bl (f i j)) (rI0 fun i j => .bl (g i j)) ta tb tc) σ H (.t (.bool (g j l))) := fun H1 s Q q =>
  ha H1 s _ fun v1 H2 s2 h1 => hb H2 (s.trans s2) _ fun v2 H3 s3 h2 => ⟨i, j, Td.int_of h1, Td.int_of h2, true, by show V.bl (f i j) = _; rw [hf], by
    rw [if_pos rfl]
    exact hc H3 (s.trans (s2.trans s3)) _ fun v3 H4 s4 h3 => ⟨j, l, Td.int_of h2, Td.int_of h3, q _ H4 (s2.trans (s3.trans s4)) (Td.bl _)⟩⟩
theorem cut_to (ds : List PyData) (a : Nat) (h : a ≤ ds.length) : cutD ds none (some (a : Int)) = ds.take a := by
  unfold cutD
  have e1 : HT.sIx ds.length 0 none = 0 := rfl
  rw [e1, HT.sIx_nat, List.drop_zero, Nat.sub_zero, Nat.min_eq_left h]
theorem cut_mid (ds : List PyData) (a : Nat) (h : a ≤ ds.length) : cutD ds (some (a : Int)) (some (-1)) = (ds.drop a).take (ds.length - 1 - a) := by
  unfold cutD
  have e1 : HT.sIx ds.length ds.length (some (-1)) = ds.length - 1 := by
    first
    | (simp [HT.sIx]; done)
    | (simp [HT.sIx]; omega)
    | (unfold HT.sIx; split <;> omega)
  rw [HT.sIx_nat, e1, Nat.min_eq_left h]
def coI (C : Nat → Nat) (n : Nat) : List PyData := (List.range n).map fun i => PyData.int (C i : Nat)
theorem coI_len (C : Nat → Nat) (n : Nat) : (coI C n).length = n := by unfold coI; rw [List.length_map, List.length_range]
theorem coI_take (C : Nat → Nat) {n a : Nat} (h : a ≤ n) : (coI C n).take a = ((List.range a).map fun i => ((C (0 + i) : Nat) : Int)).map PyData.int := by
  unfold coI
  rw [← List.map_take, List.take_range, Nat.min_eq_left h, List.map_map]
  exact List.map_congr_left fun i _ => by show PyData.int ((C i : Nat) : Int) = PyData.int ((C (0 + i) : Nat) : Int); rw [Nat.zero_add]
theorem coI_mid (C : Nat → Nat) {n a k : Nat} (h : a + k ≤ n) : ((coI C n).drop a).take k = ((List.range k).map fun i => ((C (a + i) : Nat) : Int)).map PyData.int := by
  apply List.ext_getElem?
  intro i
  unfold coI
  rw [List.getElem?_take, List.getElem?_map, List.getElem?_map]
  by_cases hi : i < k
  · rw [if_pos hi, List.getElem?_drop, List.getElem?_map, List.getElem?_range (by omega), List.getElem?_range hi]
    rfl
  · rw [if_neg hi, List.getElem?_eq_none (by rw [List.length_range]; omega)]
    rfl
theorem sumR_cast (C : Nat → Nat) (a n : Nat) : (((List.range n).map fun i => ((C (a + i) : Nat) : Int))).sum = ((sumR C a n : Nat) : Int) := by
  unfold sumR
  rw [← sum_cast, List.map_map]
  rfl

structure GoOk (prog : List Row) (many top N : Nat) (tape : List TR) (S : Nat → Ts) (n a p p' : Nat) (cs cs' : List Nat) (u : Tr) : Prop where
  hN : N ≤ 90
  hst : ∀ q, q < N → (stT tape N q).depth ≤ 500
  htg : ∀ t ∈ tape, t.g < N
  han : a < n
  hn : n ≤ 1000
  hco : ∀ i, i ≤ n → 0 < (S i).co tape N ∧ (S i).co tape N ≤ 2600 + 20 * N
  hS0 : S 0 = ⟨p, [], .b, cntR cs⟩
  hpN : p < N
  hcl1 : cs.length ≤ 100
  hcl2 : ∀ c ∈ cs, c ≤ 100
  hcl3 : (cntR cs).length ≤ 1000
  hcl : Tr.cl ((S 0).im tape N) = true
  hitA : Tr.iter (sumR (fun i => (S i).co tape N) 0 a) ((S 0).im tape N) = some ((S a).im tape N)
  hvA : ((S a).im tape N).isVal = false
  hiA : imageTold tape N ((S a).im tape N) = (S a).d
  htA : Told prog.length many top (tapeTold tape N ((S a).im tape N)) (if a = 0 then csSt p cs else .none)
  hq0 : 0 < sumR (fun i => (S i).co tape N) a (n - a)
  hitB : Tr.iter (sumR (fun i => (S i).co tape N) a (n - a) - 1) ((S a).im tape N) = some u
  htB : Told prog.length many top (tapeTold tape N u) .none
  hstp : Tr.step u = some ((S n).im tape N)
  hvn : ((S n).im tape N).isVal = false
  hin : imageTold tape N ((S n).im tape N) = (S n).d
  htn : Told prog.length many top (tapeTold tape N ((S n).im tape N)) (csSt p' cs')
  hdep : ((S 0).im tape N).depth + sumR (fun i => (S i).co tape N) 0 a + sumR (fun i => (S i).co tape N) a (n - a) ≤ 900000
def f_law_goes (K : PySem.W.Frag) : Gr := fun as d => ∃ (prog : List Row) (many top N : Nat) (tape : List TR) (S : Nat → Ts) (n a p p' : Nat) (cs cs' : List Nat) (u : Tr), GoOk prog many top N tape S n a p p' cs cs' u ∧
  as = [Ag.ch K prog many top N tape, .l ((List.range (n + 1)).map fun i => (S i).d), .t (.tuple [csSt p cs, .none, csSt p' cs']), .t (.int a)] ∧ d = ((S n).im tape N).d
theorem len__law_goes {as : List Ag} {d : PyData} (h : f_law_goes K as d) : as.length = 4 := by obtain ⟨_, _, _, _, _, _, _, _, _, _, _, _, _, _, rfl, _⟩ := h; rfl
def coD2 (tape : List TR) (N : Nat) (S : Nat → Ts) (d : PyData) : PyData := d
theorem at_rng {α : Type} (f : Nat → α) {n i : Nat} (h : i < n) : atI ((List.range n).map f) (i : Int) = some (f i) := at_range f h
theorem at_rng_last {α : Type} (f : Nat → α) (n : Nat) : atI ((List.range (n + 1)).map f) (-1) = some (f n) := by
  rw [List.range_succ, List.map_append]
  exact at_last _ _
theorem sc__law_goes : FnScope ["_law_chain", "_law_stands", "_law_due", "_law_at", "_law_costs", "_law_tree", "_law_stand", "_law_cost"] ["_law_chain", "_law_stands", "_law_due", "_law_at"] (defScope st__law_goes) := ⟨rfl, rfl, rfl, by decide +kernel, rfl, by decide +kernel, by decide +kernel⟩
theorem has__law_goes (T : Txt P w K mg base) : Has P w K mg base "_law_goes" ["_law_chain", "_law_stands", "_law_due", "_law_at"] 73 (SpT K (f_law_goes K)) := by
  refine has_mk T.glo__law_goes (T.c.def_ 72 (d := d__law_goes) rfl) sc__law_goes (SpT.len (fun as d h => by exact len__law_goes h)) (fun _ _ _ _ _ _ us hl => match us, hl with | [_, _, _, _], _ => rfl) (fun cdv A outer s H vs Q E hr h => ?_)
  refine ⟨_, (pss_cons (ps_setLc (i := 4) (own := [("_law_stand", 6)]) (tt := tYes) rfl sc__law_goes.nd rfl rfl (sw_true rfl rfl rfl (by decide +kernel)) (pi_list (pv 1)) (blkOk_by (own := [("_law_stand", 6)]) (N := ["_law_chain", "_law_stands", "_law_due", "_law_at", "_law_costs", "_law_tree", "_law_stand", "_law_cost"]) (sc := defScope st__law_goes) (by decide +kernel)) (fun _ _ _ _ _ => (pg_name (i := 6) sc__law_goes.nd rfl (by first | exact Or.inl rfl | exact Or.inr rfl))) (fun _ _ _ _ _ => pts_nil) (fun _ _ _ _ _ => (pc (has_tape_cost T) (hr.mono (by decide)) (pa_cons (pe_fldK (K := K) (pv 0) rfl) (pa_cons (pv 6) pa_nil)))))
    (pss_cons (ps_if (pt_not (pt_val (pe_callB (cr_all rfl) (by rfl) T.free_all (by decide +kernel) (pa_cons (pe_lc (own := [("_law_cost", 7)]) (tt := tYes) rfl sc__law_goes.nd (pi_list (pv 4)) (blkOk_by (own := [("_law_cost", 7)]) (N := ["_law_chain", "_law_stands", "_law_due", "_law_at", "_law_costs", "_law_tree", "_law_stand", "_law_cost"]) (sc := defScope st__law_goes) (by decide +kernel)) (fun _ _ _ _ _ => (pg_name (i := 7) sc__law_goes.nd rfl (by first | exact Or.inl rfl | exact Or.inr rfl))) (fun _ _ _ _ _ => pts_nil) (fun _ _ _ _ _ => (pe_and (pc (has__law_whole T) (hr.mono (by decide)) (pa_cons (pv 7) pa_nil)) (pe_one (pe_chain op_lt op_le pe_int (pv 7) (pe_op op_addG pe_int (pe_op op_mul pe_int (pe_callB (call_lenK (K := K)) (by rfl) T.free_len PySem.boot_len (pa_cons (pe_fldK (K := K) (pe_fldK (K := K) (pv 0) rfl) rfl) pa_nil))))))))) pa_nil)))) (pss_one (ps_ret pe_non)) pss_nil)
    (pss_cons (ps_set (i := 5) sc__law_goes.nd rfl (by first | exact Or.inl rfl | exact Or.inr rfl) (pc (has__law_gone T) (hr.mono (by decide)) (pa_cons (pc (has_chain_image T) (hr.mono (by decide)) (pa_cons (pv 0) (pa_cons (pe_ixK (K := K) (pv 2) pe_int (fun _ _ => rfl)) pa_nil))) (pa_cons (pe_callB (cr_sum rfl) (by rfl) T.free_sum (by decide +kernel) (pa_cons (pe_slice sl_list (pv 4) po_none (po_some (pv 3))) pa_nil)) pa_nil))))
    (pss_cons (ps_if (PW.pt (pw_or (pt_cmp (pc_isN (pv 5))) (pw_or (pt_cmpR (op_neSK (K := K) hr) (pc (has_image_told T) (hr.mono (by decide)) (pa_cons (pe_fldK (K := K) (pv 0) rfl) (pa_cons (pv 5) pa_nil))) (pe_ixK (K := K) (pv 1) (pv 3) (fun _ _ => rfl)) (nomark _)) (pw_or1 (pt_cmpR (op_neSK (K := K) hr) (pc (has_chain_told T) (hr.mono (by decide)) (pa_cons (pv 0) (pa_cons (pv 5) pa_nil))) (pe_ixK (K := K) (pv 2) (pe_callTy call_int1 (by rfl) T.free_int (by decide +kernel) (pa_cons (pe_cmpR op_gt (pv 3) pe_int (nomark _)) pa_nil)) (fun _ _ => rfl)) (nomark _)))))) (pss_one (ps_ret pe_non)) pss_nil)
    (pss_cons (ps_set (i := 5) sc__law_goes.nd rfl (by first | exact Or.inl rfl | exact Or.inr rfl) (pc (has__law_gone T) (hr.mono (by decide)) (pa_cons (pv 5) (pa_cons (pe_op op_sub (pe_callB (cr_sum rfl) (by rfl) T.free_sum (by decide +kernel) (pa_cons (pe_slice sl_list (pv 4) (po_some (pv 3)) (po_some (pe_un un_neg pe_int))) pa_nil)) pe_int) pa_nil))))
    (pss_cons (ps_if (PW.pt (pw_or (pt_cmp (pc_isN (pv 5))) (pw_or1 (pt_cmp (pc_notN (pc (has_chain_told T) (hr.mono (by decide)) (pa_cons (pv 0) (pa_cons (pv 5) pa_nil)))))))) (pss_one (ps_ret pe_non)) pss_nil)
    (pss_cons (ps_set (i := 5) sc__law_goes.nd rfl (by first | exact Or.inl rfl | exact Or.inr rfl) (pc (has__law_gone T) (hr.mono (by decide)) (pa_cons (pv 5) (pa_cons pe_int pa_nil))))
    (pss_cons (ps_if (PW.pt (pw_or (pt_cmp (pc_isN (pv 5))) (pw_or (pt_cmpR (op_neSK (K := K) hr) (pc (has_image_told T) (hr.mono (by decide)) (pa_cons (pe_fldK (K := K) (pv 0) rfl) (pa_cons (pv 5) pa_nil))) (pe_ixK (K := K) (pv 1) (pe_un un_neg pe_int) (fun _ _ => rfl)) (nomark _)) (pw_or1 (pt_cmpR (op_neSK (K := K) hr) (pc (has_chain_told T) (hr.mono (by decide)) (pa_cons (pv 0) (pa_cons (pv 5) pa_nil))) (pe_ixK (K := K) (pv 2) pe_int (fun _ _ => rfl)) (nomark _)))))) (pss_one (ps_ret pe_non)) pss_nil)
    (pss_one (ps_ret (pv 5))))))))))), ?_⟩
  obtain ⟨as, d, ⟨prog, many, top, N, tape, S, n, a, p, p', cs, cs', u, G, rfl, rfl⟩, hv, k⟩ := h
  have hN := G.hN
  have hn := G.hn
  have han := G.han
  have hst := G.hst
  obtain ⟨x, y, z, z2, rfl, hx, hy, hz, hz2⟩ := hv.i4
  obtain rfl := Td.int_of hz2
  have hz : Td H z (.tuple [csSt p cs, .none, csSt p' cs']) := hz
  have ex : ∀ {H' o1 o2 o3 o4 o5 o6 o7}, Same H H' → Ev K (tVar 0) [some x, o1, o2, o3, o4, o5, o6, o7] H' (Ag.ch K prog many top N tape) := fun s => ev_var rfl (At.sm s hx)
  have ey : ∀ {H' o2 o3 o4 o5 o6 o7}, Same H H' → Ev K (tVar 1) [some x, some y, o2, o3, o4, o5, o6, o7] H' (.l ((List.range (n + 1)).map fun i => (S i).d)) := fun s => ev_var rfl (At.sm s hy)
  have ez : ∀ {H' o3 o4 o5 o6 o7}, Same H H' → Ev K (tVar 2) [some x, some y, some z, o3, o4, o5, o6, o7] H' (.t (.tuple [csSt p cs, .none, csSt p' cs'])) := fun s => vD rfl (hz.sm s)
  let C : Nat → Nat := fun i => (S i).co tape N
  -- the costs
  have ec : Ef (tLc (iList K (tVar 1)) (gName 6) tYes (tCall (SpT K (f_tape_cost K)) [] E0 (tCons (tFld K (tVar 0) "book") (tCons (tVar 6) tNil))) [6]) [some x, some y, some z, some (.int a), none, none, none, none] H (coI C (n + 1)) := by
    obtain ⟨py, xy, rfl, hpy, txy⟩ := hy
    have h9 := ef_lcA (K := K) (i := 6) (σ := [some x, some (.ref py), some z, some (.int a), none, none, none, none]) (H := H) (p := py) (xs := xy) (tl := tVar 1) (te := tCall (SpT K (f_tape_cost K)) [] E0 (tCons (tFld K (tVar 0) "book") (tCons (tVar 6) tNil))) (fun i => .t (S i).d) (fun i => .int (C i : Nat)) (List.range (n + 1)) (ev_ref rfl) hpy (by
      have : ∀ {l : List Nat} {xs : List V}, TdAll H xs (l.map fun i => (S i).d) → AtAll K H xs (l.map fun i => Ag.t (S i).d) := by
        intro l
        induction l with
        | nil => intro xs h; cases h; exact .nil
        | cons i l ih =>
          intro xs h
          cases h with
          | cons h1 h2 => exact .cons h1 (ih h2)
      exact this txy) (by rw [List.length_range]; omega) (fun x => rfl) (fun i z' H' hi s hz' => ev_call (F := f_tape_cost K) ⟨tape, N, (S i).q, (S i).l, (S i).c, (S i).r, by omega, G.htg, rfl, rfl⟩ (ea_cons (ev_chBook T (ex s)) (ea_cons (ev_var (σ := [some x, some (.ref py), some z, some (.int a), none, none, some z', none]) (i := 6) rfl hz') ea_nil)))
    exact h9
  refine q_setF ec fun pc xc H1 hpc s1 hc1 tc1 => ?_
  have ecv : ∀ {H' o5 o6 o7}, Same H1 H' → Ev K (tVar 4) [some x, some y, some z, some (.int a), some (.ref pc), o5, o6, o7] H' (.l (coI C (n + 1))) := fun s => ev_var rfl (show At K _ (.ref pc) (.l _) from ⟨pc, xc, rfl, SqL.of (s _ _ hc1), tc1.sm s⟩)
  -- all of them are right
  have eall : Ef (tLc (iList K (tVar 4)) (gName 7) tYes (tAndV (tCall (SpT K f_law_whole) [] E0 (tCons (tVar 7) tNil)) (tChain (rI0 fun i j => .bl (decide (i < j))) (rI0 fun i j => .bl (decide (i ≤ j))) (tC (.int 0)) (tVar 7) (tOp rAddG (tC (.int 2600)) (tOp (rI CMul fun i j => .int (i * j)) (tC (.int 20)) (tCB (rLenK K) (tCons (tFld K (tFld K (tVar 0) "book") "states") tNil)))))) [7]) [some x, some y, some z, some (.int a), some (.ref pc), none, none, none] H1 ((coI C (n + 1)).map fun _ => .bool true) :=
    ef_lcFY (K := K) (i := 7) (fun _ => .bool true) (fun H' s => wkf_list (ecv s)) (by rw [coI_len]; omega) (fun x => rfl) fun d z' H' hd s hz' => by
      obtain ⟨i, hi, rfl⟩ := List.mem_map.mp hd
      obtain rfl := Td.int_of hz'
      have hi := List.mem_range.mp hi
      obtain ⟨c1, c2⟩ := G.hco i (by omega)
      have c1 : 0 < C i := c1
      have c2 : C i ≤ 2600 + 20 * N := c2
      refine (ev_andV (a := true) (b := true) (ev_call (F := f_law_whole) ⟨_, rfl, rfl⟩ (ea_cons (vI rfl) ea_nil)) fun _ => ?_).is rfl
      refine (ev_chain (i := 0) (j := (C i : Int)) (l := 2600 + 20 * (N : Int)) (f := fun i j => decide (i < j)) (g := fun i j => decide (i ≤ j)) ev_int (vI rfl) (ev_addI ev_int (ev_mulI ev_int (ev_len (ev_bkStates T (ev_chBook T (ex (s1.trans s))).bk) (upto_len N)) (Or.inl (by decide)))) (decide_eq_true (by omega))).is (by rw [decide_eq_true (by omega)])
  have ebs : ((coI C (n + 1)).map fun _ => PyData.bool true) = (List.replicate (n + 1) true).map PyData.bool := by
    unfold coI
    rw [List.map_map, List.map_replicate, List.eq_replicate_iff]
    refine ⟨by rw [List.length_map, List.length_range], fun b hb => ?_⟩
    obtain ⟨_, _, rfl⟩ := List.mem_map.mp hb
    rfl
  rw [ebs] at eall
  refine q_ifN ((eb_not (eb_B (ev_all eall.ev))).is (by simp)) fun H2 s2 => ?_
  have s12 := s1.trans s2
  -- to the stand at a
  have eim := ev_call (K := K) (E := E0) (σ := [some x, some y, some z, some (.int a), some (.ref pc), none, none, none]) (H := H2) (F := f_chain_image K) (as := [Ag.ch K prog many top N tape, .t (csSt p cs)]) (d := ((S 0).im tape N).d) ⟨prog, many, top, N, tape, p, cs, G.hpN, G.hcl1, G.hcl2, G.hcl3, rfl, by rw [G.hS0]; rfl⟩ (ea_cons (ex s12) (ea_cons (ev_ixT (i := 0) (ez s12) ev_int rfl) ea_nil))
  have esA := ef_slL (K := K) (lo := none) (hi := some (a : Int)) (tl := tNoPart) (th := tPart (tVar 3)) (ecv (o5 := none) (o6 := none) (o7 := none) s2) eo_none (eo_some (K := K) (vI rfl))
  rw [cut_to _ _ (by rw [coI_len]; omega), coI_take C (by omega)] at esA
  have esA2 := ev_sum (K := K) esA.ev
  rw [sumR_cast] at esA2
  have hdA : ((S 0).im tape N).depth + sumR C 0 a ≤ 1000000 := by have := G.hdep; show ((S 0).im tape N).depth + sumR (fun i => (S i).co tape N) 0 a ≤ 1000000; omega
  refine q_set (K := K) (ev_call (F := f_law_gone) ⟨(S 0).im tape N, (S a).im tape N, sumR C 0 a, G.hcl, G.hitA, G.hvA, hdA, rfl, rfl⟩ (ea_cons eim (ea_cons esA2 ea_nil))) fun v3 H3 s3 h3 => ?_
  have h3 : Td H3 v3 ((S a).im tape N).d := h3
  have s13 := s12.trans s3
  have ddA : ((S a).im tape N).depth ≤ ((S 0).im tape N).depth + sumR C 0 a := Tr.iter_depth G.hitA
  have hdA2 : ((S a).im tape N).depth ≤ 1000000 := by omega
  have et3 : ∀ {H' o6 o7}, Same H3 H' → Ev K (tVar 5) [some x, some y, some z, some (.int a), some (.ref pc), some v3, o6, o7] H' (.t ((S a).im tape N).d) := fun s => vD rfl (h3.sm s)
  have edue : Ev K (tOp (rIx K) (tVar 2) (tCB (fun xs H Q => (∃ i, xs = [.int i] ∧ Q (.int i) H) ∨ ∃ k, xs = [.bl k] ∧ Q (.int (if k then 1 else 0)) H) (tCons (tOp (rI0 fun i j => .bl (decide (i > j))) (tVar 3) (tC (.int 0))) tNil))) [some x, some y, some z, some (.int a), some (.ref pc), some v3, none, none] H3 (.t (if a = 0 then csSt p cs else .none)) := by
    refine ev_ixT (ez s13) (ev_int01 (ev_cmpI (f := fun i j => decide (i > j)) (vI rfl) ev_int)) ?_
    by_cases h0 : a = 0
    · rw [if_pos h0, decide_eq_false (by omega)]
      rfl
    · rw [if_neg h0, decide_eq_true (by omega)]
      rfl
  have lduA : (if a = 0 then csSt p cs else PyData.none).canLay0 = true := by split; exact csSt_lay _ _; rfl
  have dduA : (if a = 0 then csSt p cs else PyData.none).depth ≤ 200 := by split; exact Nat.le_trans (csSt_dep _ _) (by decide); exact Nat.zero_le _
  refine q_ifN ((eb_or (a := false) (b := false) ((eb_B (ev_isN (K := K) (r := false) (vD rfl h3) (isN_tr G.hvA))).is rfl) fun _ => (eb_or (a := false) (b := false) (eb_test (ev_neS (d := (S a).d) (ev_call (F := f_image_told K) ⟨tape, N, (S a).im tape N, hN, hst, hdA2, rfl, G.hiA.symm⟩ (ea_cons (ev_chBook T (ex s13)) (ea_cons (et3 (Same.refl _)) ea_nil))) (ev_ixL (ey s13) (vI rfl) (at_rng _ (by omega))) (S a).lay (Nat.le_trans (S a).dep (by decide)))) fun _ =>
    eb_test (ev_neS (ev_call (F := f_chain_told K) ⟨prog, many, top, N, tape, _, hN, hst, hdA2, rfl, G.htA⟩ (ea_cons (ex s13) (ea_cons (et3 (Same.refl _)) ea_nil))) edue lduA dduA)).is rfl).is rfl) fun H4 s4 => ?_
  have s14 := s13.trans s4
  -- one step ahead of the last
  have esB := ef_slL (K := K) (lo := some (a : Int)) (hi := some (-1)) (tl := tPart (tVar 3)) (th := tPart (tUn (rU fun i => .int (-i)) (tC (.int 1)))) (ecv (o5 := some v3) (o6 := none) (o7 := none) (s2.trans (s3.trans s4))) (eo_some (K := K) (vI rfl)) (eo_some (K := K) ev_neg1)
  rw [cut_mid _ _ (by rw [coI_len]; omega), coI_len, show n + 1 - 1 - a = n - a by omega, coI_mid C (by omega)] at esB
  have esB2 := ev_sum (K := K) esB.ev
  rw [sumR_cast] at esB2
  have hq0 : 0 < sumR C a (n - a) := G.hq0
  have hdep : ((S 0).im tape N).depth + sumR C 0 a + sumR C a (n - a) ≤ 900000 := G.hdep
  have hclA := Tr.iter_cl G.hcl G.hitA
  have hclu := Tr.iter_cl hclA G.hitB
  have hun : u.isVal = false := Tr.not_val G.hstp
  have ddu : u.depth ≤ ((S a).im tape N).depth + (sumR C a (n - a) - 1) := Tr.iter_depth G.hitB
  have ddn := Tr.step_depth G.hstp
  refine q_set (K := K) (ev_call (F := f_law_gone) ⟨(S a).im tape N, u, sumR C a (n - a) - 1, hclA, G.hitB, hun, by omega, rfl, rfl⟩ (ea_cons (et3 s4) (ea_cons ((ev_subI esB2 ev_int).int (by omega)) ea_nil))) fun v5 H5 s5 h5 => ?_
  have h5 : Td H5 v5 u.d := h5
  have s15 := s14.trans s5
  have hdu : u.depth ≤ 1000000 := by omega
  refine q_ifN ((eb_or (a := false) (b := false) ((eb_B (ev_isN (K := K) (r := false) (vD rfl h5) (isN_tr hun))).is rfl) fun _ =>
    (eb_B (ev_notN (K := K) (r := false) (ev_call (F := f_chain_told K) ⟨prog, many, top, N, tape, u, hN, hst, hdu, rfl, G.htB⟩ (ea_cons (ex s15) (ea_cons (vD rfl h5) ea_nil))) rfl))).is rfl) fun H6 s6 => ?_
  have s16 := s15.trans s6
  -- the last step
  have hdn : ((S n).im tape N).depth ≤ 1000000 := by omega
  refine q_set (K := K) (ev_call (F := f_law_gone) ⟨u, (S n).im tape N, 1, hclu, by rw [Tr.iter_one]; exact G.hstp, G.hvn, by omega, rfl, rfl⟩ (ea_cons (vD rfl (h5.sm s6)) (ea_cons ev_int ea_nil))) fun v7 H7 s7 h7 => ?_
  have h7 : Td H7 v7 ((S n).im tape N).d := h7
  have s17 := s16.trans s7
  refine q_ifN ((eb_or (a := false) (b := false) ((eb_B (ev_isN (K := K) (r := false) (vD rfl h7) (isN_tr G.hvn))).is rfl) fun _ => (eb_or (a := false) (b := false) (eb_test (ev_neS (d := (S n).d) (ev_call (F := f_image_told K) ⟨tape, N, (S n).im tape N, hN, hst, hdn, rfl, G.hin.symm⟩ (ea_cons (ev_chBook T (ex s17)) (ea_cons (vD rfl h7) ea_nil))) (ev_ixL (ey s17) ev_neg1 (at_rng_last _ n)) (S n).lay (Nat.le_trans (S n).dep (by decide)))) fun _ =>
    eb_test (ev_neS (ev_call (F := f_chain_told K) ⟨prog, many, top, N, tape, _, hN, hst, hdn, rfl, G.htn⟩ (ea_cons (ex s17) (ea_cons (vD rfl h7) ea_nil))) (ev_ixT (i := 2) (ez s17) ev_int rfl) (csSt_lay p' cs') (Nat.le_trans (csSt_dep p' cs') (by decide)))).is rfl).is rfl) fun H8 s8 => ?_
  exact st_ret (K := K) (vD rfl (h7.sm s8)) fun v H9 s9 h9 => k v H9 (s17.trans (s8.trans s9)) h9
end
end My

/-! P1: steps of trees with names in them; the segments of a tape's step. -/
namespace My
namespace Tr
/-- no name heads a joint -/
def noHd : Tr → Bool
  | j (nm _) _ => false
  | j l r => noHd l && noHd r
  | _ => true
/-- so many steps, no name ahead at any -/
def srun : Nat → Tr → Option Tr
  | 0, t => some t
  | n + 1, t => if noHd t = true then (step t).bind (srun n) else none
theorem noHd_j {l r : Tr} (h : noHd (j l r) = true) : (∀ x, l ≠ nm x) ∧ noHd l = true ∧ noHd r = true := by
  cases l with
  | nm x => cases h
  | S => exact ⟨fun x e => Tr.noConfusion e, rfl, h⟩
  | K => exact ⟨fun x e => Tr.noConfusion e, rfl, h⟩
  | j a b =>
    have h : (noHd (j a b) && noHd r) = true := h
    rw [Bool.and_eq_true] at h
    exact ⟨fun x e => Tr.noConfusion e, h.1, h.2⟩
/-- what is put is a value -/
def Vals (g : Nm → Option Tr) : Prop := ∀ x v, g x = some v → v.isVal = true
theorem nmV {g : Nm → Option Tr} (hg : Vals g) (x : Nm) : (putT g (nm x)).isVal = true := by
  show ((g x).getD (nm x)).isVal = true
  cases e : g x with
  | none => rfl
  | some v => exact hg x v e
theorem isVal_put {g : Nm → Option Tr} (hg : Vals g) : ∀ {t : Tr}, noHd t = true → (putT g t).isVal = t.isVal
  | S, _ => rfl
  | K, _ => rfl
  | nm x, _ => nmV hg x
  | j l r, h => by
    obtain ⟨h0, h1, h2⟩ := noHd_j h
    have e1 := isVal_put hg h1
    have e2 := isVal_put hg h2
    show ((putT g l).isVal && (putT g r).isVal && hd (putT g l)) = (l.isVal && r.isVal && hd l)
    rw [e1, e2]
    congr 1
    cases l with
    | nm x => exact absurd rfl (h0 x)
    | S => rfl
    | K => rfl
    | j a b =>
      cases a with
      | nm x => exact absurd rfl ((noHd_j h1).1 x)
      | S => rfl
      | K => rfl
      | j _ _ => rfl
theorem step_put {g : Nm → Option Tr} (hg : Vals g) : ∀ {t u : Tr}, noHd t = true → step t = some u → step (putT g t) = some (putT g u)
  | S, _, _, h => by cases h
  | K, _, _, h => by cases h
  | nm _, _, _, h => by cases h
  | j l r, u, hn, h => by
    obtain ⟨h0, h1, h2⟩ := noHd_j hn
    have e1 := isVal_put hg h1
    have e2 := isVal_put hg h2
    cases hl : l.isVal with
    | false =>
      obtain ⟨x, q⟩ := step_some hl
      rw [step_l q] at h
      cases h
      exact step_l (step_put hg h1 q)
    | true =>
      cases hr : r.isVal with
      | false =>
        obtain ⟨x, q⟩ := step_some hr
        rw [step_r hl q] at h
        cases h
        exact step_r (by rw [e1, hl]) (step_put hg h2 q)
      | true =>
        have hv := not_val h
        rw [isVal_j, hl, hr] at hv
        have hh : hd l = false := by
          cases q : hd l with
          | false => rfl
          | true => rw [q] at hv; cases hv
        rw [step_bec hl hr hh] at h
        cases h
        have g1 : (putT g l).isVal = true := by rw [e1, hl]
        have g2 : (putT g r).isVal = true := by rw [e2, hr]
        cases l with
        | nm x => exact absurd rfl (h0 x)
        | S => cases hh
        | K => cases hh
        | j a b =>
          cases a with
          | nm x => exact absurd rfl ((noHd_j h1).1 x)
          | S => cases hh
          | K => exact step_bec g1 g2 rfl
          | j a c => exact step_bec g1 g2 rfl
theorem iter_put {g : Nm → Option Tr} (hg : Vals g) : ∀ {n : Nat} {t u : Tr}, srun n t = some u → iter n (putT g t) = some (putT g u)
  | 0, t, u, h => by cases h; rfl
  | n + 1, t, u, h => by
    unfold srun at h
    split at h
    · rename_i hn
      cases e : step t with
      | none => rw [e] at h; cases h
      | some x =>
        rw [e] at h
        show (step (putT g t)).bind (iter n) = _
        rw [step_put hg hn e]
        exact iter_put hg h
    · cases h
end Tr
open Tr
/-! the segments -/
def tnm : Lt → Nm
  | .u => .ta | .b => .tb | .e => .tc | .i => .td
def n1 : Lt → Nat
  | .u => 90 | .b => 88 | .e => 86 | .i => 88
def seg1 (c : Lt) : Tr := j (j (j S (foldT [frT chooP, nm .n])) (j K (nm .f))) (packT (nm .l) (sgT c) (nm .r))
theorem seg1_run : ∀ c, srun (n1 c) (seg1 c) = some (j (j (j (nm (tnm c)) (j idle (nm .f))) (j (j K (nm .l)) (nm .f))) (j (j K (nm .r)) (nm .f))) := by
  intro c
  cases c <;> decide +kernel
def side2 (m : Bool) : Tr := putT (glT [(.tn, frT (bareP m)), (.tc, frT (cellP m))]) (frT (sideP m))
/-- the side to which the head goes: nothing, or a first thing and the others -/
def ahd (cell : Bool) : Tr := if cell = true then j K (foldT [nm .a, nm .t]) else K
def seg2 (m cell : Bool) : Tr := j (j (j (side2 m) (j idle (nm .f))) (j (j K (if m = true then nm .l else ahd cell)) (nm .f))) (j (j K (if m = true then ahd cell else nm .r)) (nm .f))
def n2 (m cell : Bool) : Nat := match m, cell with
  | true, false => 42 | true, true => 74 | false, false => 56 | false, true => 98
def rgt : Tr → Tr
  | j _ x => x
  | t => t
def nmS (m : Bool) : Nm := if m = true then .l else .r
def segX (m cell : Bool) : Tr := match srun (n2 m cell) (seg2 m cell) with
  | some t => rgt t
  | none => S
theorem seg2_run : ∀ m cell, srun (n2 m cell) (seg2 m cell) = some (j (j (j (nm .f) (j (j K (nm .f)) (nm (nmS m)))) (j (j K (nm .q)) (nm (nmS m)))) (segX m cell)) := by
  intro m cell
  cases m <;> cases cell <;> decide +kernel
def n4 (m : Bool) : Nat := if m = true then 15 else 7
def segY (m cell : Bool) : Tr := match srun (n4 m) (segX m cell) with
  | some t => t
  | none => S
theorem segX_run : ∀ m cell, srun (n4 m) (segX m cell) = some (segY m cell) := by
  intro m cell
  cases m <;> cases cell <;> decide +kernel
def segZ (m cell : Bool) : Tr := if m = true then packT (j K (foldT [nm .y, nm .l])) (if cell = true then nm .a else nm .b) (if cell = true then nm .t else K)
  else packT (if cell = true then nm .t else K) (if cell = true then nm .a else nm .b) (j K (foldT [nm .y, nm .r]))
theorem segY_run : ∀ m cell, srun 1 (segY m cell) = some (segZ m cell) := by
  intro m cell
  cases m <;> cases cell <;> decide +kernel
def segE : Tr := j (j (j (frT endP) (j idle (nm .f))) (j (j K (nm .l)) (nm .f))) (j (j K (nm .r)) (nm .f))
def segF : Tr := match srun 20 segE with
  | some t => t
  | none => S
theorem segE_run : srun 20 segE = some segF := by decide +kernel
theorem segF_run : srun 1 segF = some (endT (nm .q) (nm .l) (nm .y) (nm .r)) := by decide +kernel
end My

/-! P2: picks, folds, the table. -/
namespace My
namespace Tr
theorem v_j {l r : Tr} (h1 : l.isVal = true) (h2 : r.isVal = true) (h3 : hd l = true) : (j l r).isVal = true := by
  rw [isVal_j, h1, h2, h3]; rfl
theorem v_foldS {t x : Tr} (h1 : t.isVal = true) (h2 : x.isVal = true) : (foldS t x).isVal = true :=
  v_j (v_j rfl h1 rfl) (v_j rfl h2 rfl) rfl
theorem v_foldl : ∀ {xs : List Tr} {t : Tr}, t.isVal = true → (∀ x ∈ xs, x.isVal = true) → (xs.foldl foldS t).isVal = true
  | [], _, h, _ => h
  | x :: xs, t, h, hx => v_foldl (xs := xs) (v_foldS h (hx x List.mem_cons_self)) fun y hy => hx y (List.mem_cons_of_mem _ hy)
theorem v_fold {xs : List Tr} (h : ∀ x ∈ xs, x.isVal = true) : (foldT xs).isVal = true := v_foldl rfl h
theorem v_rep {f : Tr → Tr} (hf : ∀ t, t.isVal = true → (f t).isVal = true) : ∀ {n : Nat} {t : Tr}, t.isVal = true → (rep f n t).isVal = true
  | 0, _, h => h
  | n + 1, t, h => hf _ (v_rep hf h)
theorem v_kf {t : Tr} (h : t.isVal = true) : (kf t).isVal = true := v_j rfl h rfl
theorem v_sf {t : Tr} (h : t.isVal = true) : (sf t).isVal = true := v_j rfl h rfl
theorem v_pick (k m : Nat) : (pickT k m).isVal = true := by
  unfold pickT
  refine v_rep (fun t => v_kf) (v_rep (fun t => v_sf) ?_)
  unfold pickB
  split <;> rfl
/-- K x y -/
theorem s_K {x y : Tr} (hx : x.isVal = true) (hy : y.isVal = true) : step (j (j K x) y) = some x := step_bec (v_j rfl hx rfl) hy rfl
theorem s_S {a b y : Tr} (ha : a.isVal = true) (hb : b.isVal = true) (hy : y.isVal = true) : step (j (j (j S a) b) y) = some (j (j a y) (j b y)) :=
  step_bec (v_j (v_j rfl ha rfl) hb rfl) hy rfl
theorem i1 {t u : Tr} (h : step t = some u) : iter 1 t = some u := by rw [iter_one, h]
theorem i_K {x y : Tr} (hx : x.isVal = true) (hy : y.isVal = true) : iter 1 (j (j K x) y) = some x := i1 (s_K hx hy)
theorem i_S {a b y : Tr} (ha : a.isVal = true) (hb : b.isVal = true) (hy : y.isVal = true) : iter 1 (j (j (j S a) b) y) = some (j (j a y) (j b y)) := i1 (s_S ha hb hy)
theorem i_idle {y : Tr} (hy : y.isVal = true) : iter 2 (j idle y) = some y :=
  iter_trans (a := 1) (b := 1) (i_S rfl rfl hy) (i1 (by
    by_cases h : (j K y).isVal = true
    · exact step_bec h (v_j rfl hy rfl) rfl
    · exact absurd (v_j rfl hy rfl) h))
/-- handed one thing after the other -/
def Ap : List Tr → Tr → Nat → Tr → Prop
  | [], p, n, r => n = 0 ∧ r = p
  | x :: xs, p, n, r => ∃ c p' c', iter c (j p x) = some p' ∧ p'.isVal = true ∧ Ap xs p' c' r ∧ n = c + c'
theorem ap_fold : ∀ {xs : List Tr} {t p r0 r : Tr} {n c : Nat}, t.isVal = true → p.isVal = true → (∀ x ∈ xs, x.isVal = true) → iter n (j t p) = some r0 → r0.isVal = true → Ap xs r0 c r → iter (n + 2 * xs.length + c) (j (xs.foldl foldS t) p) = some r
  | [], t, p, r0, r, n, c, ht, hp, hx, h, h0, ⟨e1, e2⟩ => by
    subst e1
    subst e2
    exact h
  | x :: xs, t, p, r0, r, n, c, ht, hp, hx, h, h0, ⟨c1, p', c2, e1, e2, e3, e4⟩ => by
    have hxv := hx x List.mem_cons_self
    have hb : iter (1 + n + 1 + c1) (j (foldS t x) p) = some p' := by
      refine iter_trans (iter_trans (iter_trans (i_S ht (v_j rfl hxv rfl) hp) (iter_l h)) (iter_r h0 (i_K hxv hp))) e1
    have := ap_fold (xs := xs) (v_foldS ht hxv) hp (fun y hy => hx y (List.mem_cons_of_mem _ hy)) hb e2 e3
    rw [List.length_cons, show n + 2 * (xs.length + 1) + c = 1 + n + 1 + c1 + 2 * xs.length + c2 by omega]
    exact this
theorem ap_foldT {xs : List Tr} {p r : Tr} {c : Nat} (hp : p.isVal = true) (hx : ∀ x ∈ xs, x.isVal = true) (h : Ap xs p c r) : iter (2 + 2 * xs.length + c) (j (foldT xs) p) = some r :=
  ap_fold rfl hp hx (i_idle hp) hp h
theorem ap_kf : ∀ {ys : List Tr} {t r : Tr} {xs : List Tr} {c : Nat}, t.isVal = true → (∀ y ∈ ys, y.isVal = true) → Ap xs t c r → Ap (ys ++ xs) (rep kf ys.length t) (ys.length + c) r
  | [], t, r, xs, c, ht, hy, h => by rw [List.length_nil, Nat.zero_add]; exact h
  | y :: ys, t, r, xs, c, ht, hy, h => by
    refine ⟨1, rep kf ys.length t, ys.length + c, i_K (v_rep (fun t => v_kf) ht) (hy y List.mem_cons_self), v_rep (fun t => v_kf) ht, ap_kf ht (fun z hz => hy z (List.mem_cons_of_mem _ hz)) h, ?_⟩
    rw [List.length_cons]
    omega
theorem sf_run {x : Tr} (hx : x.isVal = true) : ∀ n, iter (2 * n) (j (rep sf n K) x) = some (rep kf n (j K x))
  | 0 => rfl
  | n + 1 => by
    have hv : (rep sf n K).isVal = true := v_rep (fun t => v_sf) rfl
    have h1 : iter 1 (j (rep sf (n + 1) K) x) = some (j (j (j K K) x) (j (rep sf n K) x)) := i_S rfl hv hx
    have h2 : iter 1 (j (j (j K K) x) (j (rep sf n K) x)) = some (j K (j (rep sf n K) x)) := iter_l (i_K rfl hx)
    have h3 := iter_r (l := K) rfl (sf_run hx n)
    rw [show 2 * (n + 1) = 1 + 1 + 2 * n by omega]
    exact iter_trans (iter_trans h1 h2) h3
theorem rep_succ (f : Tr → Tr) : ∀ n t, rep f n (f t) = rep f (n + 1) t
  | 0, _ => rfl
  | n + 1, t => by show f (rep f n (f t)) = f (rep f (n + 1) t); rw [rep_succ f n t]
/-- a pick takes its thing -/
theorem ap_pick {xs ys : List Tr} {x : Tr} (hx : ∀ z ∈ xs ++ x :: ys, z.isVal = true) : Ap (xs ++ x :: ys) (pickT xs.length (xs ++ x :: ys).length) (pickCost xs.length (xs ++ x :: ys).length) x := by
  have e : (xs ++ x :: ys).length - 1 - xs.length = ys.length := by
    rw [List.length_append, List.length_cons]; omega
  unfold pickT pickCost
  rw [e]
  have hxv : x.isVal = true := hx x (List.mem_append_right _ List.mem_cons_self)
  have h1 : ∀ z ∈ xs, z.isVal = true := fun z hz => hx z (List.mem_append_left _ hz)
  have h2 : ∀ z ∈ ys, z.isVal = true := fun z hz => hx z (List.mem_append_right _ (List.mem_cons_of_mem _ hz))
  cases ys with
  | nil =>
    rw [if_pos (List.length_nil)]
    exact ap_kf (t := idle) (c := 2) rfl h1 ⟨2, x, 0, i_idle hxv, hxv, ⟨rfl, rfl⟩, rfl⟩
  | cons y ys =>
    rw [if_neg (by rw [List.length_cons]; omega)]
    have e2 : (y :: ys).length - 1 = ys.length := rfl
    rw [e2]
    show Ap _ (rep kf xs.length (rep sf ys.length (pickB (ys.length + 1)))) _ _
    unfold pickB
    rw [if_neg (by omega)]
    have h3 : Ap (x :: y :: ys) (rep sf ys.length K) (2 * ys.length + (ys.length + 1)) x := by
      refine ⟨2 * ys.length, rep kf ys.length (j K x), ys.length + 1, sf_run hxv _, v_rep (fun t => v_kf) (v_kf hxv), ?_, rfl⟩
      have := ap_kf (ys := y :: ys) (t := x) (xs := []) (c := 0) (r := x) hxv h2 ⟨rfl, rfl⟩
      rw [List.append_nil] at this
      rw [show rep kf ys.length (j K x) = rep kf (y :: ys).length x from rep_succ kf _ _]
      exact this
    have := ap_kf (v_rep (f := sf) (fun t => v_sf) (n := ys.length) (t := K) rfl) h1 h3
    rw [show xs.length + (y :: ys).length + 2 * ys.length = xs.length + (2 * ys.length + (ys.length + 1)) by rw [List.length_cons]; omega]
    exact this
theorem split_at {α : Type} (f : Nat → α) {q N : Nat} (h : q < N) : (List.range N).map f = (List.range q).map f ++ f q :: (List.range (N - q - 1)).map fun i => f (q + 1 + i) := by
  apply List.ext_getElem?
  intro i
  rw [List.getElem?_map]
  rcases Nat.lt_trichotomy i q with h1 | h1 | h1
  · rw [List.getElem?_append_left (by rw [List.length_map, List.length_range]; exact h1), List.getElem?_map, List.getElem?_range (by omega), List.getElem?_range h1]
  · subst h1
    rw [List.getElem?_append_right (by rw [List.length_map, List.length_range]; exact Nat.le_refl _), List.length_map, List.length_range, Nat.sub_self, List.getElem?_range h]
    rfl
  · rw [List.getElem?_append_right (by rw [List.length_map, List.length_range]; omega), List.length_map, List.length_range, show i - q = (i - q - 1) + 1 by omega, List.getElem?_cons_succ, List.getElem?_map]
    rcases Nat.lt_or_ge i N with h2 | h2
    · rw [List.getElem?_range h2, List.getElem?_range (by omega)]
      show some (f i) = some (f _)
      congr 2
      omega
    · rw [List.getElem?_eq_none (by rw [List.length_range]; exact h2), List.getElem?_eq_none (by rw [List.length_range]; omega)]
      rfl
theorem fold_pick {f : Nat → Tr} {q N : Nat} (h : q < N) (hv : ∀ i, i < N → (f i).isVal = true) : iter (2 + 2 * N + pickCost q N) (j (foldT ((List.range N).map f)) (pickT q N)) = some (f q) := by
  have hx : ∀ z ∈ (List.range N).map f, z.isVal = true := fun z hz => by
    obtain ⟨i, hi, rfl⟩ := List.mem_map.mp hz
    exact hv i (List.mem_range.mp hi)
  have e := split_at f h
  have hl : ((List.range N).map f).length = N := by rw [List.length_map, List.length_range]
  have h1 := ap_pick (xs := (List.range q).map f) (x := f q) (ys := (List.range (N - q - 1)).map fun i => f (q + 1 + i)) (by rw [← e]; exact hx)
  rw [← e, hl, List.length_map, List.length_range] at h1
  have := ap_foldT (v_pick q N) hx h1
  rw [hl] at this
  exact this
end Tr
open Tr
theorem v_wl {t : Tr} (h : t.isVal = true) : (wlT t).isVal = true := v_j (v_j rfl (v_j rfl (v_j rfl h rfl) rfl) rfl) rfl rfl
theorem wl_run {t f : Tr} (ht : t.isVal = true) (hf : f.isVal = true) : iter 2 (j (wlT t) f) = some (foldS t f) := by
  have h1 : iter 1 (j (wlT t) f) = some (j (j (j K (j S t)) f) (j K f)) := i_S (v_j rfl (v_j rfl ht rfl) rfl) rfl hf
  exact iter_trans h1 (iter_l (i_K (v_j rfl ht rfl) hf))
/-- the table, handed itself and a state's pick, comes to the state's tree -/
theorem table_run {tape : List TR} {N q : Nat} {e : Tr} (hq : q < N) (hs : ∀ i, i < N → (seatT tape N i).isVal = true) (he : e.isVal = true) :
    iter (ncT N q + 2) (j (j (tableT tape N) (j (j K (tableT tape N)) e)) (j (j K (pickT q N)) e)) = some (stT tape N q) := by
  have hF : (foldT ((List.range N).map fun q => wlT (seatT tape N q))).isVal = true := v_fold fun x hx => by
    obtain ⟨i, hi, rfl⟩ := List.mem_map.mp hx
    exact v_wl (hs i (List.mem_range.mp hi))
  have hT : (tableT tape N).isVal = true := v_wl hF
  have hp := v_pick q N
  have h1 : iter 1 (j (j (tableT tape N) (j (j K (tableT tape N)) e)) (j (j K (pickT q N)) e)) = some (j (j (tableT tape N) (tableT tape N)) (j (j K (pickT q N)) e)) := iter_l (iter_r hT (i_K hT he))
  have h2 : iter 2 (j (j (tableT tape N) (tableT tape N)) (j (j K (pickT q N)) e)) = some (j (foldS (foldT ((List.range N).map fun q => wlT (seatT tape N q))) (tableT tape N)) (j (j K (pickT q N)) e)) := iter_l (wl_run hF hT)
  have h3 := iter_r (v_foldS hF hT) (i_K hp he)
  have h4 : iter 1 (j (foldS (foldT ((List.range N).map fun q => wlT (seatT tape N q))) (tableT tape N)) (pickT q N)) = some _ := i_S hF (v_j rfl hT rfl) hp
  have h5 := iter_l (r := j (j K (tableT tape N)) (pickT q N)) (fold_pick (f := fun q => wlT (seatT tape N q)) hq fun i hi => v_wl (hs i hi))
  have h6 := iter_r (v_wl (hs q hq)) (i_K hT hp)
  have h7 := wl_run (hs q hq) hT
  have := iter_trans (iter_trans (iter_trans (iter_trans (iter_trans (iter_trans h1 h2) h3) h4) h5) h6) h7
  rw [show ncT N q + 2 = 1 + 2 + 1 + 1 + (2 + 2 * N + pickCost q N) + 1 + 2 by unfold ncT; omega]
  exact this
end My

/-! P3: a tape's step, gone by the trees. -/
namespace My
open Tr
theorem v_put {g : Nm → Option Tr} (hg : Vals g) {t : Tr} (h : (noHd t && t.isVal) = true) : (putT g t).isVal = true := by
  rw [Bool.and_eq_true] at h
  rw [isVal_put hg h.1, h.2]
theorem vals_foldl : ∀ {l : List (Nm × Tr)} {g : Nm → Option Tr}, Vals g → (∀ p ∈ l, p.2.isVal = true) → Vals (l.foldl (fun g p y => if y = p.1 then some p.2 else g y) g)
  | [], _, h, _ => h
  | p :: l, g, h, hl => vals_foldl (l := l) (g := fun y => if y = p.1 then some p.2 else g y) (by
      intro x v hx
      dsimp only at hx
      split at hx
      · cases hx
        exact hl p List.mem_cons_self
      · exact h x v hx) fun z hz => hl z (List.mem_cons_of_mem _ hz)
theorem vals_gl {l : List (Nm × Tr)} (h : ∀ p ∈ l, p.2.isVal = true) : Vals (glT l) := vals_foldl (fun _ _ e => by cases e) h
theorem vals1 {a : Nm} {x : Tr} {l : List (Nm × Tr)} (hx : x.isVal = true) (h : ∀ p ∈ l, p.2.isVal = true) : ∀ p ∈ (a, x) :: l, p.2.isVal = true := fun p hp => by
  rcases List.mem_cons.mp hp with rfl | hp
  · exact hx
  · exact h p hp
theorem vals0 : ∀ p ∈ ([] : List (Nm × Tr)), p.2.isVal = true := fun _ h => by cases h
theorem v_sg (c : Lt) : (sgT c).isVal = true := v_pick _ _
theorem v_list : ∀ {xs : List Tr}, (∀ x ∈ xs, x.isVal = true) → (listT xs).isVal = true
  | [], _ => rfl
  | x :: xs, h => v_j rfl (v_foldl (xs := [x, listT xs]) rfl (by
      intro y hy
      rcases List.mem_cons.mp hy with rfl | hy
      · exact h _ List.mem_cons_self
      · rcases List.mem_cons.mp hy with rfl | hy
        · exact v_list fun z hz => h z (List.mem_cons_of_mem _ hz)
        · cases hy)) rfl
theorem v_tx (l : List Lt) : (txT l).isVal = true := v_list fun x hx => by
  obtain ⟨c, _, rfl⟩ := List.mem_map.mp hx
  exact v_sg c
theorem v_thing (tape : List TR) (N q : Nat) (c : Lt) : (thingT tape N q c).isVal = true := by
  unfold thingT
  cases actT tape q c with
  | none => exact v_put (vals_gl (vals1 (v_pick _ _) (vals1 (v_sg _) vals0))) (by decide +kernel)
  | some a =>
    obtain ⟨w, m, g⟩ := a
    have hv : Vals (glT [(.q, Tr.pickT g N), (.y, sgT w), (.b, sgT .u)]) := vals_gl (vals1 (v_pick _ _) (vals1 (v_sg _) (vals1 (v_sg _) vals0)))
    refine v_put (vals_gl (vals1 (v_put hv ?_) (vals1 (v_put hv ?_) vals0))) ?_ <;> cases m <;> decide +kernel
theorem v_seat (tape : List TR) (N q : Nat) : (seatT tape N q).isVal = true :=
  v_foldl rfl (by
    intro y hy
    rcases List.mem_cons.mp hy with rfl | hy
    · exact v_put (vals_gl (vals1 (v_thing _ _ _ _) (vals1 (v_thing _ _ _ _) (vals1 (v_thing _ _ _ _) (vals1 (v_thing _ _ _ _) vals0))))) (by decide +kernel)
    · rcases List.mem_cons.mp hy with rfl | hy
      · exact v_pick _ _
      · cases hy)
theorem v_table (tape : List TR) (N : Nat) : (tableT tape N).isVal = true := v_wl (v_fold fun x hx => by
  obtain ⟨i, _, rfl⟩ := List.mem_map.mp hx
  exact v_wl (v_seat _ _ _))
theorem v_st (tape : List TR) (N q : Nat) : (stT tape N q).isVal = true := v_foldS (v_seat _ _ _) (v_table _ _)
/-- a thing, handed the table and the sides -/
def tailT (A T L R : Tr) : Tr := j (j (j A (j idle T)) (j (j K L) T)) (j (j K R) T)
theorem run1 (tape : List TR) (N q : Nat) (l : List Lt) (c : Lt) (r : List Lt) :
    iter (n1 c) (imT tape N q l c r) = some (tailT (thingT tape N q c) (tableT tape N) (txT l.reverse) (txT r)) := by
  let g : Nm → Option Tr := glT [(.ta, thingT tape N q .u), (.tb, thingT tape N q .b), (.tc, thingT tape N q .e), (.td, thingT tape N q .i), (.n, pickT q N), (.f, tableT tape N), (.l, txT l.reverse), (.r, txT r)]
  have hg : Vals g := vals_gl (vals1 (v_thing _ _ _ _) (vals1 (v_thing _ _ _ _) (vals1 (v_thing _ _ _ _) (vals1 (v_thing _ _ _ _) (vals1 (v_pick _ _) (vals1 (v_table _ _) (vals1 (v_tx _) (vals1 (v_tx _) vals0))))))))
  have h := iter_put hg (seg1_run c)
  have e1 : putT g (seg1 c) = imT tape N q l c r := by
    cases c <;> rfl
  rw [e1] at h
  rw [h]
  cases c <;> rfl
/-- what is put in the second part of a step -/
def g2 (tape : List TR) (N g : Nat) (w : Lt) (L R a t : Tr) : Nm → Option Tr := glT [(.q, pickT g N), (.y, sgT w), (.b, sgT .u), (.f, tableT tape N), (.l, L), (.r, R), (.a, a), (.t, t)]
theorem g2_v {tape : List TR} {N g : Nat} {w : Lt} {L R a t : Tr} (h1 : L.isVal = true) (h2 : R.isVal = true) (h3 : a.isVal = true) (h4 : t.isVal = true) : Vals (g2 tape N g w L R a t) :=
  vals_gl (vals1 (v_pick _ _) (vals1 (v_sg _) (vals1 (v_sg _) (vals1 (v_table _ _) (vals1 h1 (vals1 h2 (vals1 h3 (vals1 h4 vals0))))))))
def thA (N g : Nat) (w : Lt) (m : Bool) : Tr := Tr.putT (glT [(.tn, Tr.putT (glT [(.q, Tr.pickT g N), (.y, sgT w), (.b, sgT .u)]) (frT (bareP m))), (.tc, Tr.putT (glT [(.q, Tr.pickT g N), (.y, sgT w), (.b, sgT .u)]) (frT (cellP m)))]) (frT (sideP m))
def sideA (cell : Bool) (a t : Tr) : Tr := if cell = true then j K (foldT [a, t]) else K
theorem run2 (tape : List TR) (N g : Nat) (w : Lt) (m cell : Bool) (L R a t : Tr) (hg : g < N) (h1 : L.isVal = true) (h2 : R.isVal = true) (h3 : a.isVal = true) (h4 : t.isVal = true) (hL : m = false → L = sideA cell a t) (hR : m = true → R = sideA cell a t) :
    iter (n2 m cell + (ncT N g + 2) + n4 m) (tailT (thA N g w m) (tableT tape N) L R) = some (j (stT tape N g) (putT (g2 tape N g w L R a t) (segY m cell))) ∧
      step (j (stT tape N g) (putT (g2 tape N g w L R a t) (segY m cell))) = some (j (stT tape N g) (putT (g2 tape N g w L R a t) (segZ m cell))) := by
  have hv := g2_v (tape := tape) (N := N) (g := g) (w := w) h1 h2 h3 h4
  have e0 : putT (g2 tape N g w L R a t) (seg2 m cell) = tailT (thA N g w m) (tableT tape N) L R := by
    cases m
    · rw [hL rfl]
      cases cell <;> rfl
    · rw [hR rfl]
      cases cell <;> rfl
  have i2 := iter_put hv (seg2_run m cell)
  rw [e0] at i2
  have i3 := table_run (tape := tape) (e := if m = true then L else R) hg (fun i _ => v_seat tape N i) (by cases m <;> assumption)
  have e2 : putT (g2 tape N g w L R a t) (j (j (j (nm .f) (j (j K (nm .f)) (nm (nmS m)))) (j (j K (nm .q)) (nm (nmS m)))) (segX m cell)) =
      j (j (j (tableT tape N) (j (j K (tableT tape N)) (if m = true then L else R))) (j (j K (pickT g N)) (if m = true then L else R))) (putT (g2 tape N g w L R a t) (segX m cell)) := by
    cases m <;> rfl
  rw [e2] at i2
  have i4 := iter_r (v_st tape N g) (iter_put hv (segX_run m cell))
  have i5 := iter_put hv (segY_run m cell)
  rw [iter_one] at i5
  exact ⟨iter_trans (iter_trans i2 (iter_l i3)) i4, step_r (v_st tape N g) i5⟩
theorem thing_some {tape : List TR} {N q g : Nat} {c w : Lt} {m : Bool} (h : actT tape q c = some (w, m, g)) : thingT tape N q c = thA N g w m := by
  unfold thingT
  rw [h]
  rfl
theorem cost_side : costT (sideP true) = 22 ∧ costT (sideP false) = 36 := by decide +kernel
theorem cost_bare : costT (bareP true) = 33 ∧ costT (bareP false) = 25 := by decide +kernel
theorem cost_cell : costT (cellP true) = 59 ∧ costT (cellP false) = 61 := by decide +kernel
theorem cost_choo : costT chooP = 71 := by decide +kernel
theorem cost_end : costT endP = 17 := by decide +kernel
theorem cost_n1 (c : Lt) : 16 + costT chooP + pickCost (sIx c) 4 = n1 c + 4 := by
  rw [cost_choo]
  cases c <;> rfl
/-- the next stand's sides as trees -/
theorem img_r (tape : List TR) (N g : Nat) (w : Lt) (l : List Lt) : ∀ r : List Lt, imT tape N g (l ++ [w]) (hdR r) (r.drop 1) =
    j (stT tape N g) (putT (g2 tape N g w (txT l.reverse) (txT r) (sgT (hdR r)) (txT (r.drop 1))) (segZ true (!r.isEmpty)))
  | [] => by
    unfold imT
    rw [List.reverse_append]
    rfl
  | x :: r => by
    unfold imT
    rw [List.reverse_append]
    rfl
theorem last_form : ∀ {l : List Lt}, l ≠ [] → l.reverse = lstL l :: l.dropLast.reverse := by
  intro l h
  have e := List.dropLast_concat_getLast h
  have e2 : lstL l = l.getLast h := by unfold lstL; rw [List.getLast?_eq_some_getLast h]; rfl
  rw [e2]
  conv => lhs; rw [← e]
  rw [List.reverse_append]
  rfl
theorem img_l (tape : List TR) (N g : Nat) (w : Lt) (l r : List Lt) : imT tape N g l.dropLast (lstL l) (w :: r) =
    j (stT tape N g) (putT (g2 tape N g w (txT l.reverse) (txT r) (sgT (lstL l)) (txT l.dropLast.reverse)) (segZ false (!l.isEmpty))) := by
  cases l with
  | nil => rfl
  | cons x l => rfl
theorem side_r (r : List Lt) : txT r = sideA (!r.isEmpty) (sgT (hdR r)) (txT (r.drop 1)) := by
  cases r <;> rfl
theorem side_l (l : List Lt) : txT l.reverse = sideA (!l.isEmpty) (sgT (lstL l)) (txT l.dropLast.reverse) := by
  cases l with
  | nil => rfl
  | cons x l =>
    rw [last_form (by simp)]
    rfl
/-- what stands one step ahead of a next image -/
def preT (tape : List TR) (N g : Nat) (w : Lt) (L R a t : Tr) (m cell : Bool) : Tr := j (stT tape N g) (putT (g2 tape N g w L R a t) (segY m cell))
theorem act_mem {tape : List TR} {q g : Nat} {c w : Lt} {m : Bool} (h : actT tape q c = some (w, m, g)) : ∃ t ∈ tape, t.s = q ∧ t.c = c ∧ t.w = w ∧ t.r = m ∧ t.g = g := by
  unfold actT at h
  cases e : tape.reverse.find? fun t => decide (t.s = q ∧ t.c = c) with
  | none => rw [e] at h; cases h
  | some t =>
    rw [e] at h
    cases h
    have h1 := List.mem_of_find?_eq_some e
    have h2 := of_decide_eq_true (List.find?_some (p := fun t : TR => decide (t.s = q ∧ t.c = c)) e)
    exact ⟨t, List.mem_reverse.mp h1, h2.1, h2.2, rfl, rfl, rfl⟩
/-- a step of the tape, gone by its tree: first to one step ahead, then on -/
theorem im_step {tape : List TR} {N : Nat} (hN : ∀ t ∈ tape, t.g < N) {s s' : Ts} (h : nxT tape s = some s') :
    ∃ u g w L R a t m cell, u = preT tape N g w L R a t m cell ∧ 0 < s.co tape N ∧ iter (s.co tape N - 1) (s.im tape N) = some u ∧ step u = some (s'.im tape N) := by
  unfold nxT at h
  cases e : actT tape s.q s.c with
  | none => rw [e] at h; cases h
  | some x =>
    obtain ⟨w, m, g⟩ := x
    rw [e] at h
    have hg : g < N := by
      obtain ⟨t, ht, _, _, _, _, h5⟩ := act_mem e
      rw [← h5]
      exact hN t ht
    have r1 := run1 tape N s.q s.l s.c s.r
    rw [thing_some e] at r1
    have hc : s.co tape N = if (if m = true then s.r else s.l) = [] then n1 s.c + 4 + costT (sideP m) + ncT N g + 1 + costT (bareP m) else n1 s.c + 4 + costT (sideP m) + ncT N g + 7 + costT (cellP m) := by
      show tcT tape N s.q s.l s.c s.r = _
      unfold tcT
      rw [e]
      dsimp only
      rw [cost_n1]
    cases m with
    | true =>
      have h : some (⟨g, s.l ++ [w], hdR s.r, s.r.drop 1⟩ : Ts) = some s' := h
      cases h
      have r2 := run2 tape N g w true (!s.r.isEmpty) (txT s.l.reverse) (txT s.r) (sgT (hdR s.r)) (txT (s.r.drop 1)) hg (v_tx _) (v_tx _) (v_sg _) (v_tx _) (fun z => by cases z) (fun _ => side_r s.r)
      have hc2 : s.co tape N = n1 s.c + (n2 true (!s.r.isEmpty) + (ncT N g + 2) + n4 true) + 1 := by
        rw [hc, cost_side.1, cost_bare.1, cost_cell.1, show (if true = true then s.r else s.l) = s.r from rfl]
        cases s.r with
        | nil =>
          rw [if_pos rfl]
          show _ = n1 s.c + (42 + (ncT N g + 2) + 15) + 1
          omega
        | cons x r =>
          rw [if_neg (by simp)]
          show _ = n1 s.c + (74 + (ncT N g + 2) + 15) + 1
          omega
      refine ⟨_, g, w, txT s.l.reverse, txT s.r, sgT (hdR s.r), txT (s.r.drop 1), true, !s.r.isEmpty, rfl, by omega, ?_, ?_⟩
      · rw [hc2]
        exact iter_trans r1 r2.1
      · have := r2.2
        rw [← img_r] at this
        exact this
    | false =>
      have h : some (⟨g, s.l.dropLast, lstL s.l, w :: s.r⟩ : Ts) = some s' := h
      cases h
      have r2 := run2 tape N g w false (!s.l.isEmpty) (txT s.l.reverse) (txT s.r) (sgT (lstL s.l)) (txT s.l.dropLast.reverse) hg (v_tx _) (v_tx _) (v_sg _) (v_tx _) (fun _ => side_l s.l) (fun z => by cases z)
      have hc2 : s.co tape N = n1 s.c + (n2 false (!s.l.isEmpty) + (ncT N g + 2) + n4 false) + 1 := by
        rw [hc, cost_side.2, cost_bare.2, cost_cell.2, show (if false = true then s.r else s.l) = s.l from rfl]
        cases s.l with
        | nil =>
          rw [if_pos rfl]
          show _ = n1 s.c + (56 + (ncT N g + 2) + 7) + 1
          omega
        | cons x r =>
          rw [if_neg (by simp)]
          show _ = n1 s.c + (98 + (ncT N g + 2) + 7) + 1
          omega
      refine ⟨_, g, w, txT s.l.reverse, txT s.r, sgT (lstL s.l), txT s.l.dropLast.reverse, false, !s.l.isEmpty, rfl, by omega, ?_, ?_⟩
      · rw [hc2]
        exact iter_trans r1 r2.1
      · have := r2.2
        rw [← img_l] at this
        exact this
/-- at a stop: the end, one step behind the last that is no value -/
theorem im_end {tape : List TR} {N : Nat} {s : Ts} (h : actT tape s.q s.c = none) : ∃ u, 0 < s.co tape N ∧ iter (s.co tape N - 1) (s.im tape N) = some u ∧
    step u = some (endT (pickT s.q N) (txT s.l.reverse) (sgT s.c) (txT s.r)) := by
  have r1 := run1 tape N s.q s.l s.c s.r
  have e : thingT tape N s.q s.c = Tr.putT (glT [(.q, Tr.pickT s.q N), (.y, sgT s.c)]) (frT endP) := by
    unfold thingT
    rw [h]
  rw [e] at r1
  let g : Nm → Option Tr := glT [(.q, pickT s.q N), (.y, sgT s.c), (.f, tableT tape N), (.l, txT s.l.reverse), (.r, txT s.r)]
  have hg : Vals g := vals_gl (vals1 (v_pick _ _) (vals1 (v_sg _) (vals1 (v_table _ _) (vals1 (v_tx _) (vals1 (v_tx _) vals0)))))
  have i2 := iter_put hg segE_run
  have i3 := iter_put hg segF_run
  rw [iter_one] at i3
  have e0 : putT g segE = tailT (Tr.putT (glT [(.q, Tr.pickT s.q N), (.y, sgT s.c)]) (frT endP)) (tableT tape N) (txT s.l.reverse) (txT s.r) := rfl
  rw [e0] at i2
  have hc : s.co tape N = n1 s.c + 20 + 1 := by
    show tcT tape N s.q s.l s.c s.r = _
    unfold tcT
    rw [h]
    dsimp only
    rw [cost_n1, cost_end]
  refine ⟨putT g segF, by omega, ?_, i3⟩
  rw [hc]
  exact iter_trans r1 i2
theorem v_end (N q : Nat) (l r : List Lt) (c : Lt) : (endT (pickT q N) (txT l) (sgT c) (txT r)).isVal = true :=
  v_foldS (v_foldS (v_foldS (v_foldS rfl (v_pick _ _)) (v_tx _)) (v_sg _)) (v_tx _)
theorem nv_im (tape : List TR) (N : Nat) (s : Ts) : (s.im tape N).isVal = false := by
  show ((stT tape N s.q).isVal && _ && false) = false
  rw [Bool.and_false]
end My

/-! P4: what trees tell. -/
namespace My
open Tr
theorem leadK_rep : ∀ (n : Nat) (t : Tr), leadK (rep kf n t) = n + leadK t
  | 0, t => by show leadK t = _; omega
  | n + 1, t => by show leadK (rep kf n t) + 1 = _; rw [leadK_rep n t]; omega
theorem leadK_b : ∀ (n b : Nat), leadK (rep sf n (pickB b)) = 0
  | 0, b => by
    show leadK (pickB b) = 0
    unfold pickB
    split <;> rfl
  | n + 1, b => rfl
theorem leadK_pick (k m : Nat) : leadK (pickT k m) = k := by
  unfold pickT
  rw [leadK_rep, leadK_b]
  rfl
theorem picked_pick {k m : Nat} (h : k < m) : pickedT (pickT k m) m = some k := by
  unfold pickedT
  rw [leadK_pick, if_pos ⟨h, rfl⟩]
theorem picked_sg (c : Lt) : pickedT (sgT c) 4 = some (sIx c) := picked_pick (by cases c <;> decide)
theorem ltI_ix (c : Lt) : ltI (sIx c) = c := by cases c <;> rfl
theorem thT_list : ∀ xs : List Tr, thT (listT xs) = some xs
  | [] => rfl
  | x :: xs => by
    show (thT (listT xs)).map (x :: ·) = _
    rw [thT_list xs]
    rfl
theorem rdL_sg : ∀ l : List Lt, rdL (l.map sgT) = some l
  | [] => rfl
  | c :: l => by
    show (match pickedT (sgT c) 4 with | none => none | some k => (rdL (l.map sgT)).map (ltI k :: ·)) = _
    rw [picked_sg, rdL_sg l]
    show some (ltI (sIx c) :: l) = _
    rw [ltI_ix]
theorem side_tx (l : List Lt) : sideTold (txT l) = some l := by
  unfold sideTold txT
  rw [thT_list]
  exact rdL_sg l
theorem unf3 (a b c : Tr) : unfT (packT a b c) = some [a, b, c] := rfl
theorem unf4 (a b c e : Tr) : unfT (endT a b c e) = some [a, b, c, e] := rfl
theorem unf_st (tape : List TR) (N q : Nat) : ∃ a b, unfT (stT tape N q) = some [a, pickT q N, b] := ⟨_, _, rfl⟩
theorem state_st {tape : List TR} {N q : Nat} (h : q < N) : stateTold tape N (stT tape N q) = some q := by
  obtain ⟨a, b, e⟩ := unf_st tape N q
  unfold stateTold
  rw [e]
  dsimp only
  rw [picked_pick h]
  exact if_pos rfl
/-- a state's tree with something behind it is no fold -/
theorem unf_not {a b : Tr} (h : Tr.cellT (j a b) = false) (h2 : j a b ≠ idle) : unfT (j a b) = none := by
  unfold unfT
  rw [unfR_not h, if_neg h2]
  rfl
theorem unf_stj (tape : List TR) (N q : Nat) (y : Tr) : unfT (j (stT tape N q) y) = none := by
  refine unf_not ?_ ?_
  · cases y with
    | j c x => show (decide (j S (seatT tape N q) = S) && decide (c = K)) = false; rw [decide_eq_false (by intro h; cases h)]; rfl
    | S => rfl
    | K => rfl
    | nm _ => rfl
  · intro h
    injection h with h1 h2
    injection h1 with h3 h4
    cases h3
/-- a step ahead of an image the last part is no fold of three things that tell sides -/
theorem pre_not (tape : List TR) (N g : Nat) (w : Lt) (L R a t : Tr) : ∀ m cell, unfT (putT (g2 tape N g w L R a t) (segY m cell)) = none ∨ ∃ x y z, unfT (putT (g2 tape N g w L R a t) (segY m cell)) = some [x, y, z] ∧ sideTold z = none
  | true, false => .inl rfl
  | true, true => .inl rfl
  | false, false => .inr ⟨_, _, _, rfl, rfl⟩
  | false, true => .inr ⟨_, _, _, rfl, rfl⟩
/-! costs -/
theorem pickCost_le {k m : Nat} (h : k < m) : pickCost k m ≤ 3 * m + 2 := by
  unfold pickCost
  split <;> omega
theorem sg_cost (c : Lt) : pickCost (sIx c) 4 ≤ 14 := pickCost_le (m := 4) (by cases c <;> decide)
theorem co_le {tape : List TR} {N : Nat} (hN : ∀ t ∈ tape, t.g < N) (s : Ts) : 0 < s.co tape N ∧ s.co tape N ≤ 300 + 5 * N := by
  show 0 < tcT tape N s.q s.l s.c s.r ∧ tcT tape N s.q s.l s.c s.r ≤ _
  have h1 := sg_cost s.c
  have h2 := cost_choo
  unfold tcT
  cases e : actT tape s.q s.c with
  | none =>
    dsimp only
    have := cost_end
    omega
  | some x =>
    obtain ⟨w, m, g⟩ := x
    dsimp only
    have hg : g < N := by
      obtain ⟨t, ht, _, _, _, _, h5⟩ := act_mem e
      rw [← h5]
      exact hN t ht
    have h3 := pickCost_le hg
    have a1 := cost_side
    have a2 := cost_bare
    have a3 := cost_cell
    unfold ncT
    cases m
    · rw [a1.2, a2.2, a3.2, show (if false = true then s.r else s.l) = s.l from rfl]
      split <;> omega
    · rw [a1.1, a2.1, a3.1, show (if true = true then s.r else s.l) = s.r from rfl]
      split <;> omega
/-! no names -/
def hasN (x : Nm) : Tr → Bool
  | nm y => decide (y = x)
  | j l r => hasN x l || hasN x r
  | _ => false
theorem cl_put {g : Nm → Option Tr} : ∀ {t : Tr}, (∀ x, hasN x t = true → ∃ v, g x = some v ∧ cl v = true) → cl (putT g t) = true
  | S, _ => rfl
  | K, _ => rfl
  | nm x, h => by
    obtain ⟨v, e1, e2⟩ := h x (decide_eq_true rfl)
    show cl ((g x).getD (nm x)) = true
    rw [e1]
    exact e2
  | j l r, h => by
    show (cl (putT g l) && cl (putT g r)) = true
    rw [cl_put fun x hx => h x (by show (hasN x l || hasN x r) = true; rw [hx]; rfl), cl_put fun x hx => h x (by show (hasN x l || hasN x r) = true; rw [hx, Bool.or_true])]
    rfl
theorem cl_rep {f : Tr → Tr} (hf : ∀ t, cl t = true → cl (f t) = true) : ∀ {n : Nat} {t : Tr}, cl t = true → cl (rep f n t) = true
  | 0, _, h => h
  | n + 1, t, h => hf _ (cl_rep hf h)
theorem cl_pick (k m : Nat) : cl (pickT k m) = true := by
  unfold pickT
  refine cl_rep (f := kf) (fun t h => h) (cl_rep (f := sf) (fun t h => h) ?_)
  unfold pickB
  split <;> rfl
theorem cl_foldl : ∀ {xs : List Tr} {t : Tr}, cl t = true → (∀ x ∈ xs, cl x = true) → cl (xs.foldl foldS t) = true
  | [], _, h, _ => h
  | x :: xs, t, h, hx => cl_foldl (xs := xs) (by
      have := hx x List.mem_cons_self
      show ((true && cl t) && (true && cl x)) = true
      rw [h, this]; rfl) fun y hy => hx y (List.mem_cons_of_mem _ hy)
theorem cl_list : ∀ {xs : List Tr}, (∀ x ∈ xs, cl x = true) → cl (listT xs) = true
  | [], _ => rfl
  | x :: xs, h => cl_foldl (xs := [x, listT xs]) (t := idle) rfl (by
      intro y hy
      rcases List.mem_cons.mp hy with rfl | hy
      · exact h _ List.mem_cons_self
      · rcases List.mem_cons.mp hy with rfl | hy
        · exact cl_list fun z hz => h z (List.mem_cons_of_mem _ hz)
        · cases hy)
theorem cl_tx (l : List Lt) : cl (txT l) = true := cl_list fun x hx => by
  obtain ⟨c, _, rfl⟩ := List.mem_map.mp hx
  exact cl_pick _ _
theorem cl_bc (N g : Nat) (w : Lt) (t : Tr) (h : ∀ x, hasN x t = true → x = .q ∨ x = .y ∨ x = .b) : cl (putT (glT [(.q, Tr.pickT g N), (.y, sgT w), (.b, sgT .u)]) t) = true :=
  cl_put fun x hx => by
    rcases h x hx with rfl | rfl | rfl
    · exact ⟨_, rfl, cl_pick _ _⟩
    · exact ⟨_, rfl, cl_pick _ _⟩
    · exact ⟨_, rfl, cl_pick _ _⟩
theorem nm_bare : ∀ m x, hasN x (frT (bareP m)) = true → x = .q ∨ x = .y ∨ x = .b := by intro m x; cases m <;> cases x <;> decide +kernel
theorem nm_cell : ∀ m x, hasN x (frT (cellP m)) = true → x = .q ∨ x = .y ∨ x = .b := by intro m x; cases m <;> cases x <;> decide +kernel
theorem nm_side : ∀ m x, hasN x (frT (sideP m)) = true → x = .tn ∨ x = .tc := by intro m x; cases m <;> cases x <;> decide +kernel
theorem nm_end : ∀ x, hasN x (frT endP) = true → x = .q ∨ x = .y := by intro x; cases x <;> decide +kernel
theorem nm_choo : ∀ x, hasN x (frT chooP) = true → x = .ta ∨ x = .tb ∨ x = .tc ∨ x = .td := by intro x; cases x <;> decide +kernel
theorem cl_thing (tape : List TR) (N q : Nat) (c : Lt) : cl (thingT tape N q c) = true := by
  unfold thingT
  cases actT tape q c with
  | none =>
    exact cl_put fun x hx => by
      rcases nm_end x hx with rfl | rfl
      · exact ⟨_, rfl, cl_pick _ _⟩
      · exact ⟨_, rfl, cl_pick _ _⟩
  | some a =>
    obtain ⟨w, m, g⟩ := a
    exact cl_put fun x hx => by
      rcases nm_side m x hx with rfl | rfl
      · exact ⟨_, rfl, cl_bc N g w _ (nm_bare m)⟩
      · exact ⟨_, rfl, cl_bc N g w _ (nm_cell m)⟩
theorem cl_seat (tape : List TR) (N q : Nat) : cl (seatT tape N q) = true := cl_foldl (t := idle) rfl (by
  intro y hy
  rcases List.mem_cons.mp hy with rfl | hy
  · exact cl_put fun x hx => by
      rcases nm_choo x hx with rfl | rfl | rfl | rfl <;> exact ⟨_, rfl, cl_thing _ _ _ _⟩
  · rcases List.mem_cons.mp hy with rfl | hy
    · exact cl_pick _ _
    · cases hy)
theorem cl_wl {t : Tr} (h : cl t = true) : cl (wlT t) = true := by
  show ((true && (true && (true && cl t))) && true) = true
  rw [h]; rfl
theorem cl_table (tape : List TR) (N : Nat) : cl (tableT tape N) = true := cl_wl (cl_foldl (t := idle) rfl fun x hx => by
  obtain ⟨i, _, rfl⟩ := List.mem_map.mp hx
  exact cl_wl (cl_seat _ _ _))
theorem cl_im (tape : List TR) (N : Nat) (s : Ts) : cl (s.im tape N) = true := by
  have h1 : cl (stT tape N s.q) = true := by
    show ((true && cl (seatT tape N s.q)) && (true && cl (tableT tape N))) = true
    rw [cl_seat, cl_table]; rfl
  have h2 : cl (packT (txT s.l.reverse) (sgT s.c) (txT s.r)) = true := cl_foldl (t := idle) rfl (by
    intro y hy
    rcases List.mem_cons.mp hy with rfl | hy
    · exact cl_tx _
    · rcases List.mem_cons.mp hy with rfl | hy
      · exact cl_pick _ _
      · rcases List.mem_cons.mp hy with rfl | hy
        · exact cl_tx _
        · cases hy)
  show (cl (stT tape N s.q) && cl (packT (txT s.l.reverse) (sgT s.c) (txT s.r))) = true
  rw [h1, h2]; rfl
/-! depths -/
theorem put_depth {g : Nm → Option Tr} {c : Nat} (hg : ∀ x v, g x = some v → v.depth ≤ c) : ∀ t : Tr, (putT g t).depth ≤ t.depth + c
  | S => Nat.zero_le _
  | K => Nat.zero_le _
  | nm x => by
    show ((g x).getD (nm x)).depth ≤ _
    cases e : g x with
    | none => exact Nat.zero_le _
    | some v => have := hg x v e; show v.depth ≤ 0 + c; omega
  | j l r => by
    have h1 := put_depth hg l
    have h2 := put_depth hg r
    show max _ _ + 1 ≤ max l.depth r.depth + 1 + c
    omega
theorem gl_depth {c : Nat} : ∀ {l : List (Nm × Tr)} {g : Nm → Option Tr}, (∀ x v, g x = some v → v.depth ≤ c) → (∀ p ∈ l, p.2.depth ≤ c) → ∀ x v, l.foldl (fun g p y => if y = p.1 then some p.2 else g y) g x = some v → v.depth ≤ c
  | [], _, h, _ => h
  | p :: l, g, h, hl => gl_depth (l := l) (g := fun y => if y = p.1 then some p.2 else g y) (by
      intro x v hx
      split at hx
      · cases hx
        exact hl p List.mem_cons_self
      · exact h x v hx) fun z hz => hl z (List.mem_cons_of_mem _ hz)
theorem putl_depth {l : List (Nm × Tr)} {c e : Nat} (h : ∀ p ∈ l, p.2.depth ≤ c) {t : Tr} (ht : t.depth ≤ e) : (putT (glT l) t).depth ≤ e + c := by
  have := put_depth (g := glT l) (c := c) (gl_depth (fun _ _ z => by cases z) h) t
  omega
theorem dl1 {a : Nm} {x : Tr} {c : Nat} {l : List (Nm × Tr)} (hx : x.depth ≤ c) (h : ∀ p ∈ l, p.2.depth ≤ c) : ∀ p ∈ (a, x) :: l, p.2.depth ≤ c := fun p hp => by
  rcases List.mem_cons.mp hp with rfl | hp
  · exact hx
  · exact h p hp
theorem dl0 {c : Nat} : ∀ p ∈ ([] : List (Nm × Tr)), p.2.depth ≤ c := fun _ h => by cases h
theorem dp_pick {k m : Nat} (h : k < m) : (pickT k m).depth ≤ 2 * m + 2 := by
  have := pick_depth k m
  omega
theorem dp_sg (c : Lt) : (sgT c).depth ≤ 10 := by cases c <;> decide +kernel
theorem dp_fr : (∀ m, (frT (bareP m)).depth ≤ 30 ∧ (frT (cellP m)).depth ≤ 30 ∧ (frT (sideP m)).depth ≤ 30) ∧ (frT endP).depth ≤ 30 ∧ (frT chooP).depth ≤ 30 := by
  refine ⟨fun m => ?_, by decide +kernel, by decide +kernel⟩
  cases m <;> decide +kernel
theorem dp_foldl : ∀ {xs : List Tr} {t : Tr} {c : Nat}, (∀ x ∈ xs, x.depth ≤ c) → (xs.foldl foldS t).depth ≤ max t.depth c + 2 * xs.length
  | [], t, c, _ => by show t.depth ≤ _; omega
  | x :: xs, t, c, h => by
    have h1 := h x List.mem_cons_self
    have h2 := dp_foldl (xs := xs) (t := foldS t x) (c := c) fun y hy => h y (List.mem_cons_of_mem _ hy)
    have h3 : (foldS t x).depth = max (max 0 t.depth + 1) (max 0 x.depth + 1) + 1 := rfl
    show (xs.foldl foldS (foldS t x)).depth ≤ _
    rw [List.length_cons]
    omega
theorem dp_thing {tape : List TR} {N q : Nat} {c : Lt} (hN : ∀ t ∈ tape, t.g < N) (hq : q < N) : (thingT tape N q c).depth ≤ 2 * N + 72 := by
  have e1 := dp_fr
  have hs : ∀ c, (sgT c).depth ≤ 2 * N + 12 := fun c => Nat.le_trans (dp_sg c) (by omega)
  have hp : ∀ {k}, k < N → (pickT k N).depth ≤ 2 * N + 12 := fun h => Nat.le_trans (dp_pick h) (by omega)
  unfold thingT
  cases e : actT tape q c with
  | none =>
    have := putl_depth (dl1 (a := .q) (hp hq) (dl1 (a := .y) (hs c) dl0)) e1.2.1
    show (putT (glT [(.q, pickT q N), (.y, sgT c)]) (frT endP)).depth ≤ _
    omega
  | some a =>
    obtain ⟨w, m, g⟩ := a
    have hg : g < N := by
      obtain ⟨t, ht, _, _, _, _, h5⟩ := act_mem e
      rw [← h5]
      exact hN t ht
    dsimp only
    have a0 := dl1 (a := .q) (hp hg) (dl1 (a := .y) (hs w) (dl1 (a := .b) (hs .u) dl0))
    have a1 := putl_depth a0 (e1.1 m).1
    have a2 := putl_depth a0 (e1.1 m).2.1
    have := putl_depth (dl1 (a := .tn) a1 (dl1 (a := .tc) a2 dl0)) (e1.1 m).2.2
    omega
theorem dp_seat {tape : List TR} {N q : Nat} (hN : ∀ t ∈ tape, t.g < N) (hq : q < N) : (seatT tape N q).depth ≤ 2 * N + 110 := by
  have e1 := dp_fr
  have a1 := putl_depth (dl1 (a := .ta) (dp_thing (c := .u) hN hq) (dl1 (a := .tb) (dp_thing (c := .b) hN hq) (dl1 (a := .tc) (dp_thing (c := .e) hN hq) (dl1 (a := .td) (dp_thing (c := .i) hN hq) dl0)))) e1.2.2
  have a2 := dp_pick hq
  have := dp_foldl (t := idle) (c := 2 * N + 102) (xs := [Tr.putT (glT [(.ta, thingT tape N q .u), (.tb, thingT tape N q .b), (.tc, thingT tape N q .e), (.td, thingT tape N q .i)]) (frT chooP), Tr.pickT q N]) (by
    intro x hx
    rcases List.mem_cons.mp hx with rfl | hx
    · omega
    · rcases List.mem_cons.mp hx with rfl | hx
      · omega
      · cases hx)
  have h0 : idle.depth = 2 := rfl
  have h2 : (seatT tape N q).depth ≤ max idle.depth (2 * N + 102) + 2 * 2 := this
  omega
theorem dp_table {tape : List TR} {N : Nat} (hN : ∀ t ∈ tape, t.g < N) : (tableT tape N).depth ≤ 4 * N + 124 := by
  have hw : ∀ t : Tr, (wlT t).depth = max (max 0 (max 0 (max 0 t.depth + 1) + 1) + 1) 0 + 1 := fun _ => rfl
  have := dp_foldl (t := idle) (c := 2 * N + 114) (xs := (List.range N).map fun q => wlT (seatT tape N q)) (by
    intro x hx
    obtain ⟨i, hi, rfl⟩ := List.mem_map.mp hx
    have := dp_seat hN (List.mem_range.mp hi)
    rw [hw]
    omega)
  rw [List.length_map, List.length_range] at this
  have h0 : idle.depth = 2 := rfl
  unfold tableT
  rw [hw]
  unfold foldT
  omega
theorem dp_st {tape : List TR} {N : Nat} (hN : ∀ t ∈ tape, t.g < N) {q : Nat} (hq : q < N) : (stT tape N q).depth ≤ 4 * N + 126 := by
  have h1 := dp_seat hN hq
  have h2 := dp_table hN
  show max (max 0 (seatT tape N q).depth + 1) (max 0 (tableT tape N).depth + 1) + 1 ≤ _
  omega
theorem dp_list : ∀ {xs : List Tr} {c : Nat}, (∀ x ∈ xs, x.depth ≤ c) → (listT xs).depth ≤ c + 7 * xs.length
  | [], c, _ => Nat.zero_le _
  | x :: xs, c, h => by
    have h1 := h x List.mem_cons_self
    have h2 := dp_list (xs := xs) (c := c) fun y hy => h y (List.mem_cons_of_mem _ hy)
    have h3 := dp_foldl (t := idle) (c := max c (listT xs).depth) (xs := [x, listT xs]) (by
      intro y hy
      rcases List.mem_cons.mp hy with rfl | hy
      · omega
      · rcases List.mem_cons.mp hy with rfl | hy
        · omega
        · cases hy)
    have h0 : idle.depth = 2 := rfl
    have h4 : ([x, listT xs].foldl foldS idle).depth ≤ max idle.depth (max c (listT xs).depth) + 2 * 2 := h3
    show max 0 ([x, listT xs].foldl foldS idle).depth + 1 ≤ _
    rw [List.length_cons]
    omega
theorem dp_tx (l : List Lt) : (txT l).depth ≤ 10 + 7 * l.length := by
  have := dp_list (xs := l.map sgT) (c := 10) (fun x hx => by
    obtain ⟨c, _, rfl⟩ := List.mem_map.mp hx
    exact dp_sg c)
  rw [List.length_map] at this
  exact this
theorem dp_im {tape : List TR} {N : Nat} (hN : ∀ t ∈ tape, t.g < N) {s : Ts} (hq : s.q < N) : (s.im tape N).depth ≤ 4 * N + 150 + 7 * s.l.length + 7 * s.r.length := by
  have h1 := dp_st hN hq
  have h2 := dp_tx s.l.reverse
  have h3 := dp_tx s.r
  have h4 := dp_sg s.c
  rw [List.length_reverse] at h2
  have h5 := dp_foldl (t := idle) (c := 10 + 7 * s.l.length + 7 * s.r.length) (xs := [txT s.l.reverse, sgT s.c, txT s.r]) (by
    intro y hy
    rcases List.mem_cons.mp hy with rfl | hy
    · omega
    · rcases List.mem_cons.mp hy with rfl | hy
      · omega
      · rcases List.mem_cons.mp hy with rfl | hy
        · omega
        · cases hy)
  have h0 : idle.depth = 2 := rfl
  have h6 : (packT (txT s.l.reverse) (sgT s.c) (txT s.r)).depth ≤ max idle.depth (10 + 7 * s.l.length + 7 * s.r.length) + 2 * 3 := h5
  show max (stT tape N s.q).depth (packT (txT s.l.reverse) (sgT s.c) (txT s.r)).depth + 1 ≤ _
  omega
end My

/-! P5: the tape made for rows: its rules, and a row's lap gone on the tape. -/
namespace My
def kn (top : Nat) (ks : List BK) (k : BK) : Nat := top + 1 + ks.idxOf k
def sucK (k : BK) : List BK := if k.go = false then [] else match k.w with
  | [] => [⟨false, [], k.g⟩]
  | _ :: w => [⟨true, w, k.g⟩]
/-- the rules of a state between -/
def blk (top : Nat) (ks : List BK) (k : BK) : List TR :=
  if k.go = false then sgn.map (fun c => ⟨kn top ks k, c, c, false, kn top ks k⟩) ++ [⟨kn top ks k, .u, .u, true, k.g⟩]
  else match k.w with
    | [] => sgn.map (fun c => ⟨kn top ks k, c, c, true, kn top ks k⟩) ++ [⟨kn top ks k, .u, .u, false, kn top ks ⟨false, [], k.g⟩⟩]
    | c0 :: w => sgn.map (fun c => ⟨kn top ks k, c, c, true, kn top ks k⟩) ++ [⟨kn top ks k, .u, c0, true, kn top ks ⟨true, w, k.g⟩⟩]
def keyR (r : RR) : BK := ⟨true, r.w, r.g⟩
def frR (top : Nat) (ks : List BK) (r : RR) : TR := ⟨r.s, r.c, .u, true, kn top ks (keyR r)⟩
structure Inv (rules : List RR) (top : Nat) (ps : List BK) (x : MtS) : Prop where
  tp : x.1.top = top
  nd : x.1.ks.Nodup
  ks : x.1.ks = ps ++ x.1.ws
  tape : x.2 = rules.map (frR top x.1.ks) ++ ps.flatMap (blk top x.1.ks)
  ru : ∀ r ∈ rules, keyR r ∈ x.1.ks
  su : ∀ k ∈ ps, ∀ k' ∈ sucK k, k' ∈ x.1.ks
theorem idx_app {ks es : List BK} {k : BK} (h : k ∈ ks) : (ks ++ es).idxOf k = ks.idxOf k := by
  rw [List.idxOf_append, if_pos h]
theorem idx_new {ks : List BK} {k : BK} (h : k ∉ ks) : (ks ++ [k]).idxOf k = ks.length := by
  rw [List.idxOf_append, if_neg h]
  simp
theorem kn_app {top : Nat} {ks es : List BK} {k : BK} (h : k ∈ ks) : kn top (ks ++ es) k = kn top ks k := by
  unfold kn
  rw [idx_app h]
theorem add_ok (s : BtS) (k : BK) : ∃ es, (s.add k).ks = s.ks ++ es ∧ (s.add k).ws = s.ws ++ es ∧ (s.add k).top = s.top ∧ k ∈ (s.add k).ks ∧ (s.ks.Nodup → (s.add k).ks.Nodup) ∧ s.num k = kn s.top (s.add k).ks k := by
  unfold BtS.add
  by_cases h : k ∈ s.ks
  · rw [if_pos h]
    exact ⟨[], by simp, by simp, rfl, h, id, rfl⟩
  · rw [if_neg h]
    refine ⟨[k], rfl, rfl, rfl, List.mem_append_right _ List.mem_cons_self, fun hn => ?_, ?_⟩
    · rw [List.nodup_append]
      refine ⟨hn, by simp, ?_⟩
      intro a ha b hb e
      rcases List.mem_cons.mp hb with z | z
      · subst z
        subst e
        exact h ha
      · cases z
    · unfold BtS.num kn
      rw [idx_new h, List.idxOf_eq_length h]
theorem frR_app {top : Nat} {ks es : List BK} {r : RR} (h : keyR r ∈ ks) : frR top (ks ++ es) r = frR top ks r := by
  unfold frR
  rw [kn_app h]
theorem blk_app {top : Nat} {ks es : List BK} {k : BK} (h : k ∈ ks) (h2 : ∀ k' ∈ sucK k, k' ∈ ks) : blk top (ks ++ es) k = blk top ks k := by
  obtain ⟨go, w, g⟩ := k
  unfold blk
  rw [kn_app h]
  cases go with
  | false => rfl
  | true =>
    cases w with
    | nil =>
      have := h2 ⟨false, [], g⟩ (by show _ ∈ [_]; exact List.mem_cons_self)
      dsimp only
      rw [kn_app this]
    | cons c w =>
      have := h2 ⟨true, w, g⟩ (by show _ ∈ [_]; exact List.mem_cons_self)
      dsimp only
      rw [kn_app this]
theorem map_frR {top : Nat} {ks es : List BK} {rules : List RR} (h : ∀ r ∈ rules, keyR r ∈ ks) : rules.map (frR top (ks ++ es)) = rules.map (frR top ks) :=
  List.map_congr_left fun r hr => frR_app (h r hr)
theorem fm_congr {α β : Type} {f g : α → List β} : ∀ {l : List α}, (∀ x ∈ l, f x = g x) → l.flatMap f = l.flatMap g
  | [], _ => rfl
  | x :: l, h => by
    rw [List.flatMap_cons, List.flatMap_cons, h x List.mem_cons_self, fm_congr fun y hy => h y (List.mem_cons_of_mem _ hy)]
theorem inv1 {rules : List RR} {top : Nat} {x : MtS} {r : RR} (h : Inv rules top [] x) : Inv (rules ++ [r]) top [] (mt1 x r) := by
  obtain ⟨es, e1, e2, e3, e4, e5, e6⟩ := add_ok x.1 (keyR r)
  have htop := h.tp
  refine ⟨e3.trans htop, e5 h.nd, ?_, ?_, ?_, fun k hk => by cases hk⟩
  · show (x.1.add (keyR r)).ks = [] ++ (x.1.add (keyR r)).ws
    rw [e1, e2, h.ks]
    rfl
  · show x.2 ++ [⟨r.s, r.c, .u, true, x.1.num (keyR r)⟩] = (rules ++ [r]).map (frR top (x.1.add (keyR r)).ks) ++ []
    rw [e6, h.tape, List.flatMap_nil, List.append_nil, List.append_nil, List.map_append, htop]
    conv => rhs; lhs; rw [e1, map_frR h.ru]
    rfl
  · intro r' hr'
    show keyR r' ∈ (x.1.add (keyR r)).ks
    rcases List.mem_append.mp hr' with z | z
    · rw [e1]
      exact List.mem_append_left _ (h.ru r' z)
    · rcases List.mem_cons.mp z with z | z
      · rw [z]; exact e4
      · cases z
theorem inv0 {top : Nat} : ∀ {rules done : List RR} {x : MtS}, Inv done top [] x → Inv (done ++ rules) top [] (rules.foldl mt1 x)
  | [], done, x, h => by rw [List.append_nil]; exact h
  | r :: rules, done, x, h => by
    have := inv0 (rules := rules) (inv1 (r := r) h)
    rw [List.append_assoc] at this
    exact this
theorem inv_mt0 (rules : List RR) (top : Nat) : Inv rules top [] (mt0 rules top) := by
  have := inv0 (top := top) (rules := rules) (done := []) (x := (⟨top, [], []⟩, [])) ⟨rfl, List.nodup_nil, rfl, rfl, (fun r hr => by cases hr), fun k hk => by cases hk⟩
  exact this
theorem add_old {s : BtS} {k : BK} (h : k ∈ s.ks) : s.add k = s := by
  unfold BtS.add
  rw [if_pos h]
theorem inv2 {rules : List RR} {top : Nat} {ps : List BK} {x : MtS} {k : BK} {ws : List BK} (h : Inv rules top ps x) (hw : x.1.ws = k :: ws) : Inv rules top (ps ++ [k]) (mt2 x) := by
  have hk : k ∈ x.1.ks := by
    rw [h.ks, hw]
    exact List.mem_append_right _ List.mem_cons_self
  have htop := h.tp
  have hks := h.ks
  have e0 : mt2 x = ((rulesFor ⟨x.1.top, x.1.ks, ws⟩ k).1, x.2 ++ (rulesFor ⟨x.1.top, x.1.ks, ws⟩ k).2) := by
    unfold mt2
    rw [hw]
  have eo : (BtS.add ⟨x.1.top, x.1.ks, ws⟩ k) = ⟨x.1.top, x.1.ks, ws⟩ := add_old hk
  have hks2 : x.1.ks = (ps ++ [k]) ++ ws := by rw [hks, hw, List.append_assoc]; rfl
  -- with one key more, or none
  have gen : ∀ (s : BtS) (rs : List TR) (es : List BK), s.ks = x.1.ks ++ es → s.ws = ws ++ es → s.top = top → s.ks.Nodup → rs = blk top s.ks k → (∀ k' ∈ sucK k, k' ∈ s.ks) → Inv rules top (ps ++ [k]) (s, x.2 ++ rs) := by
    intro s rs es g1 g2 g3 g4 g5 g6
    refine ⟨g3, g4, ?_, ?_, ?_, ?_⟩
    · show s.ks = (ps ++ [k]) ++ s.ws
      rw [g1, g2, hks2, List.append_assoc]
    · show x.2 ++ rs = rules.map (frR top s.ks) ++ (ps ++ [k]).flatMap (blk top s.ks)
      rw [List.flatMap_append, ← List.append_assoc, h.tape, g5]
      have h1 : rules.map (frR top s.ks) = rules.map (frR top x.1.ks) := by rw [g1, map_frR h.ru]
      have h2 : ps.flatMap (blk top s.ks) = ps.flatMap (blk top x.1.ks) := by
        refine fm_congr fun k' hk' => ?_
        rw [g1]
        refine blk_app ?_ (h.su k' hk')
        rw [hks]
        exact List.mem_append_left _ hk'
      rw [h1, h2]
      simp
    · intro r hr
      show keyR r ∈ s.ks
      rw [g1]
      exact List.mem_append_left _ (h.ru r hr)
    · intro k' hk' k2 hk2
      show k2 ∈ s.ks
      rcases List.mem_append.mp hk' with z | z
      · rw [g1]
        exact List.mem_append_left _ (h.su k' z k2 hk2)
      · rcases List.mem_cons.mp z with z | z
        · subst z
          exact g6 k2 hk2
        · cases z
  rw [e0]
  obtain ⟨go, w, g⟩ := k
  unfold rulesFor
  cases go with
  | false =>
    rw [if_pos rfl, eo]
    refine gen _ _ [] (by simp) (by simp) htop h.nd ?_ (fun k' hk' => by cases hk')
    unfold blk
    rw [if_pos rfl]
    show _ = _
    rw [← htop]
    rfl
  | true =>
    rw [if_neg (by intro z; cases z)]
    cases w with
    | nil =>
      dsimp only
      rw [eo]
      obtain ⟨es, e1, e2, e3, e4, e5, e6⟩ := add_ok ⟨x.1.top, x.1.ks, ws⟩ ⟨false, [], g⟩
      refine gen _ _ es e1 e2 (e3.trans htop) (e5 h.nd) ?_ (fun k' hk' => by
        rcases List.mem_cons.mp hk' with z | z
        · rw [z]; exact e4
        · cases z)
      unfold blk
      rw [if_neg (by intro z; cases z)]
      dsimp only
      have e7 : BtS.num ⟨x.1.top, x.1.ks, ws⟩ ⟨true, [], g⟩ = kn top (BtS.add ⟨x.1.top, x.1.ks, ws⟩ ⟨false, [], g⟩).ks ⟨true, [], g⟩ := by
        rw [e1, kn_app hk, ← htop]
        rfl
      rw [e6, e7, htop]
    | cons c w =>
      dsimp only
      rw [eo]
      obtain ⟨es, e1, e2, e3, e4, e5, e6⟩ := add_ok ⟨x.1.top, x.1.ks, ws⟩ ⟨true, w, g⟩
      refine gen _ _ es e1 e2 (e3.trans htop) (e5 h.nd) ?_ (fun k' hk' => by
        rcases List.mem_cons.mp hk' with z | z
        · rw [z]; exact e4
        · cases z)
      unfold blk
      rw [if_neg (by intro z; cases z)]
      dsimp only
      have e7 : BtS.num ⟨x.1.top, x.1.ks, ws⟩ ⟨true, c :: w, g⟩ = kn top (BtS.add ⟨x.1.top, x.1.ks, ws⟩ ⟨true, w, g⟩).ks ⟨true, c :: w, g⟩ := by
        rw [e1, kn_app hk, ← htop]
        rfl
      rw [e6, e7, htop]
/-- after so many turns: all done, or so many keys done -/
theorem inv_mtN (rules : List RR) (top : Nat) : ∀ n, ∃ ps, Inv rules top ps (mtN n (mt0 rules top)) ∧ ((mtN n (mt0 rules top)).1.ws = [] ∨ ps.length = n)
  | 0 => ⟨[], inv_mt0 rules top, .inr rfl⟩
  | n + 1 => by
    obtain ⟨ps, h1, h2⟩ := inv_mtN rules top n
    show ∃ ps, Inv rules top ps (mt2 (mtN n (mt0 rules top))) ∧ ((mt2 (mtN n (mt0 rules top))).1.ws = [] ∨ ps.length = n + 1)
    cases e : (mtN n (mt0 rules top)).1.ws with
    | nil =>
      have : mt2 (mtN n (mt0 rules top)) = mtN n (mt0 rules top) := by
        unfold mt2
        rw [e]
      rw [this]
      exact ⟨ps, h1, .inl e⟩
    | cons k ws =>
      refine ⟨ps ++ [k], inv2 h1 e, .inr ?_⟩
      rcases h2 with h2 | h2
      · rw [h2] at e; cases e
      · rw [List.length_append, h2]; rfl
/-- the finished tape -/
structure TpOk (rules : List RR) (top : Nat) (ks : List BK) (tape : List TR) : Prop where
  nd : ks.Nodup
  tape : tape = rules.map (frR top ks) ++ ks.flatMap (blk top ks)
  ru : ∀ r ∈ rules, keyR r ∈ ks
  su : ∀ k ∈ ks, ∀ k' ∈ sucK k, k' ∈ ks
  tp : ∀ r ∈ rules, r.s ≤ top
theorem blk_s {top : Nat} {ks : List BK} {k : BK} {t : TR} (h : t ∈ blk top ks k) : t.s = kn top ks k := by
  obtain ⟨go, w, g⟩ := k
  unfold blk sgn at h
  cases go with
  | false => simp at h; rcases h with rfl | rfl | rfl | rfl <;> rfl
  | true =>
    cases w with
    | nil => simp at h; rcases h with rfl | rfl | rfl | rfl <;> rfl
    | cons c w => simp at h; rcases h with rfl | rfl | rfl | rfl <;> rfl
theorem blk_u {top : Nat} {ks : List BK} {k : BK} {t t' : TR} (h : t ∈ blk top ks k) (h' : t' ∈ blk top ks k) (hc : t'.c = t.c) : t' = t := by
  obtain ⟨go, w, g⟩ := k
  unfold blk sgn at h h'
  cases go with
  | false => simp at h h'; rcases h with rfl | rfl | rfl | rfl <;> rcases h' with rfl | rfl | rfl | rfl <;> first | rfl | cases hc
  | true =>
    cases w with
    | nil => simp at h h'; rcases h with rfl | rfl | rfl | rfl <;> rcases h' with rfl | rfl | rfl | rfl <;> first | rfl | cases hc
    | cons c w => simp at h h'; rcases h with rfl | rfl | rfl | rfl <;> rcases h' with rfl | rfl | rfl | rfl <;> first | rfl | cases hc
theorem act_uniq {tape : List TR} {t : TR} (h : t ∈ tape) (hu : ∀ t' ∈ tape, t'.s = t.s → t'.c = t.c → t' = t) : actT tape t.s t.c = some (t.w, t.r, t.g) := by
  unfold actT
  cases e : tape.reverse.find? fun x : TR => decide (x.s = t.s ∧ x.c = t.c) with
  | none =>
    rw [List.find?_eq_none] at e
    exact absurd (decide_eq_true ⟨rfl, rfl⟩) (e t (List.mem_reverse.mpr h))
  | some x =>
    have h1 := List.mem_reverse.mp (List.mem_of_find?_eq_some e)
    have h2 := of_decide_eq_true (List.find?_some (p := fun x : TR => decide (x.s = t.s ∧ x.c = t.c)) e)
    rw [hu x h1 h2.1 h2.2]
    rfl
section
variable {rules : List RR} {top : Nat} {ks : List BK} {tape : List TR}
theorem kn_inj (h : TpOk rules top ks tape) {a b : BK} (ha : a ∈ ks) (hb : b ∈ ks) (e : kn top ks a = kn top ks b) : a = b := by
  unfold kn at e
  have e : ks.idxOf a = ks.idxOf b := by omega
  have h1 := List.idxOf_lt_length_of_mem ha
  have h2 := List.idxOf_lt_length_of_mem hb
  have g1 := List.getElem_idxOf h1
  have g2 := List.getElem_idxOf h2
  rw [← g1, ← g2]
  congr 1
theorem act_blk (h : TpOk rules top ks tape) {k : BK} (hk : k ∈ ks) {t : TR} (ht : t ∈ blk top ks k) : actT tape (kn top ks k) t.c = some (t.w, t.r, t.g) := by
  have hs := blk_s ht
  rw [← hs]
  refine act_uniq ?_ ?_
  · rw [h.tape]
    exact List.mem_append_right _ (List.mem_flatMap.mpr ⟨k, hk, ht⟩)
  · intro t' ht' es ec
    rw [h.tape] at ht'
    rcases List.mem_append.mp ht' with z | z
    · obtain ⟨r, hr, rfl⟩ := List.mem_map.mp z
      have h1 := h.tp r hr
      have h2 : r.s = t.s := es
      rw [hs] at h2
      unfold kn at h2
      omega
    · obtain ⟨k', hk', z⟩ := List.mem_flatMap.mp z
      have h2 := blk_s z
      rw [es, hs] at h2
      have := kn_inj h hk hk' h2
      subst this
      exact blk_u ht z ec
theorem act_rule (h : TpOk rules top ks tape) {q : Nat} {c : Lt} {r : RR} (hf : rules.filter (fun r => decide (r.s = q ∧ r.c = c)) = [r]) : r ∈ rules ∧ actT tape q c = some (.u, true, kn top ks (keyR r)) := by
  have hr : r ∈ rules.filter (fun r => decide (r.s = q ∧ r.c = c)) := by rw [hf]; exact List.mem_cons_self
  obtain ⟨hr, hq⟩ := List.mem_filter.mp hr
  have hq := of_decide_eq_true hq
  refine ⟨hr, ?_⟩
  have := act_uniq (tape := tape) (t := frR top ks r) (by rw [h.tape]; exact List.mem_append_left _ (List.mem_map.mpr ⟨r, hr, rfl⟩)) (by
    intro t' ht' es ec
    rw [h.tape] at ht'
    rcases List.mem_append.mp ht' with z | z
    · obtain ⟨r', hr', rfl⟩ := List.mem_map.mp z
      have h1 : r'.s = r.s := es
      have h2 : r'.c = r.c := ec
      have h3 : r' ∈ rules.filter (fun r => decide (r.s = q ∧ r.c = c)) := List.mem_filter.mpr ⟨hr', decide_eq_true ⟨h1.trans hq.1, h2.trans hq.2⟩⟩
      rw [hf] at h3
      rcases List.mem_cons.mp h3 with z | z
      · rw [z]
      · cases z
    · obtain ⟨k', hk', z⟩ := List.mem_flatMap.mp z
      have h2 := blk_s z
      have h3 := h.tp r hr
      rw [es] at h2
      have h4 : r.s = kn top ks k' := h2
      unfold kn at h4
      omega)
  have e1 : (frR top ks r).s = q := hq.1
  have e2 : (frR top ks r).c = c := hq.2
  rw [e1, e2] at this
  exact this
/-- at a sign that is no blank -/
theorem act_go {k : BK} (h : TpOk rules top ks tape) (hk : k ∈ ks) {c : Lt} (hc : c ≠ .u) : actT tape (kn top ks k) c = some (c, k.go, kn top ks k) := by
  have ht : (⟨kn top ks k, c, c, k.go, kn top ks k⟩ : TR) ∈ blk top ks k := by
    obtain ⟨go, w, g⟩ := k
    unfold blk sgn
    cases go with
    | false => cases c <;> first | exact absurd rfl hc | simp
    | true => cases w <;> cases c <;> first | exact absurd rfl hc | simp
  exact act_blk h hk ht
theorem act_w (h : TpOk rules top ks tape) {c : Lt} {w : List Lt} {g : Nat} (hk : ⟨true, c :: w, g⟩ ∈ ks) : actT tape (kn top ks ⟨true, c :: w, g⟩) .u = some (c, true, kn top ks ⟨true, w, g⟩) :=
  act_blk h hk (t := ⟨kn top ks ⟨true, c :: w, g⟩, .u, c, true, kn top ks ⟨true, w, g⟩⟩) (by unfold blk; simp)
theorem act_t (h : TpOk rules top ks tape) {g : Nat} (hk : ⟨true, [], g⟩ ∈ ks) : actT tape (kn top ks ⟨true, [], g⟩) .u = some (.u, false, kn top ks ⟨false, [], g⟩) :=
  act_blk h hk (t := ⟨kn top ks ⟨true, [], g⟩, .u, .u, false, kn top ks ⟨false, [], g⟩⟩) (by unfold blk; simp)
theorem act_b (h : TpOk rules top ks tape) {w : List Lt} {g : Nat} (hk : ⟨false, w, g⟩ ∈ ks) : actT tape (kn top ks ⟨false, w, g⟩) .u = some (.u, true, g) :=
  act_blk h hk (t := ⟨kn top ks ⟨false, w, g⟩, .u, .u, true, g⟩) (by unfold blk; simp)
end
/-- a stand on the way: no row's image, or one of a state above -/
def Md (lo top : Nat) (s : Ts) : Prop := top < s.q ∨ (lo < s.q ∧ ∃ (x : List Lt) (n : Nat), s.c :: s.r = x ++ List.replicate n .u ∧ Lt.u ∉ x)
/-- a run of the tape; what stands on the way -/
def RunP (tape : List TR) (lo top : Nat) : Nat → Ts → Ts → Prop
  | 0, s, t => s = t
  | n + 1, s, t => ∃ s', nxT tape s = some s' ∧ (n ≠ 0 → Md lo top s') ∧ RunP tape lo top n s' t
theorem run_trans {tape : List TR} {lo top : Nat} {b : Nat} {t u : Ts} (hb : RunP tape lo top b t u) : ∀ {a : Nat} {s : Ts}, RunP tape lo top a s t → (b ≠ 0 → a ≠ 0 → Md lo top t) → RunP tape lo top (a + b) s u
  | 0, s, h, _ => by
    have h : s = t := h
    rw [Nat.zero_add, h]
    exact hb
  | a + 1, s, ⟨s', h1, h2, h3⟩, hp => by
    rw [show a + 1 + b = (a + b) + 1 by omega]
    refine ⟨s', h1, fun hn => ?_, run_trans hb h3 fun z _ => hp z (by omega)⟩
    by_cases ha : a = 0
    · subst ha
      have h3 : s' = t := h3
      rw [h3]
      exact hp (by omega) (by omega)
    · exact h2 ha
theorem run_one {tape : List TR} {lo top : Nat} {s t : Ts} (h : nxT tape s = some t) : RunP tape lo top 1 s t := ⟨t, h, fun z => absurd rfl z, rfl⟩
/-- stands -/
def mkR (q : Nat) (L zs : List Lt) : Ts := ⟨q, L, hdR zs, zs.drop 1⟩
def mkL (q : Nat) (M rs : List Lt) : Ts := ⟨q, M.dropLast, lstL M, rs⟩
theorem nx_r {tape : List TR} {q : Nat} {L zs : List Lt} {w : Lt} {g : Nat} (h : actT tape q (hdR zs) = some (w, true, g)) : nxT tape (mkR q L zs) = some (mkR g (L ++ [w]) (zs.drop 1)) := by
  unfold nxT
  have : actT tape (mkR q L zs).q (mkR q L zs).c = some (w, true, g) := h
  rw [this]
  rfl
theorem nx_l {tape : List TR} {q : Nat} {M rs : List Lt} {w : Lt} {g : Nat} (h : actT tape q (lstL M) = some (w, false, g)) : nxT tape (mkL q M rs) = some (mkL g M.dropLast (w :: rs)) := by
  unfold nxT
  have : actT tape (mkL q M rs).q (mkL q M rs).c = some (w, false, g) := h
  rw [this]
  rfl
theorem lst_app (M : List Lt) (y : Lt) : lstL (M ++ [y]) = y ∧ (M ++ [y]).dropLast = M := by
  unfold lstL
  rw [List.getLast?_append]
  simp
section
variable {rules : List RR} {top : Nat} {ks : List BK} {tape : List TR} {lo top : Nat}
theorem md_k {s : Ts} {k : BK} (h : s.q = kn top ks k) : Md lo top s := .inl (by rw [h]; unfold kn; omega)
theorem md_r {q : Nat} {Z x B : List Lt} (hq : lo < q) (hx : Lt.u ∉ x) (hB : B = [] ∨ B = [.u]) : Md lo top (mkR q Z (x ++ B)) := by
  refine .inr ⟨hq, ?_⟩
  cases x with
  | nil => rcases hB with rfl | rfl <;> exact ⟨[], 1, rfl, by simp⟩
  | cons c x =>
    rcases hB with rfl | rfl
    · exact ⟨c :: x, 0, rfl, hx⟩
    · exact ⟨c :: x, 1, rfl, hx⟩
theorem go_right (h : TpOk rules top ks tape) (hl : lo ≤ top) {k : BK} (hk : k ∈ ks) (hg : k.go = true) : ∀ {xs L B : List Lt}, Lt.u ∉ xs → RunP tape lo top xs.length (mkR (kn top ks k) L (xs ++ B)) (mkR (kn top ks k) (L ++ xs) B)
  | [], L, B, _ => by rw [List.append_nil]; rfl
  | x :: xs, L, B, hx => by
    have hx0 : x ≠ .u := fun z => hx (by rw [z]; exact List.mem_cons_self)
    have ha := act_go h hk hx0
    rw [hg] at ha
    refine ⟨_, nx_r (zs := x :: (xs ++ B)) ha, fun _ => md_k rfl, ?_⟩
    have := go_right h hl hk hg (xs := xs) (L := L ++ [x]) (B := B) fun z => hx (List.mem_cons_of_mem _ z)
    rw [List.append_assoc] at this
    exact this
theorem mkR_nil (q : Nat) (L : List Lt) : mkR q L [.u] = mkR q L [] := rfl
theorem go_write (h : TpOk rules top ks tape) (hl : lo ≤ top) {g : Nat} : ∀ {w L : List Lt}, ⟨true, w, g⟩ ∈ ks → RunP tape lo top w.length (mkR (kn top ks ⟨true, w, g⟩) L []) (mkR (kn top ks ⟨true, [], g⟩) (L ++ w) []) ∧ (⟨true, [], g⟩ : BK) ∈ ks
  | [], L, hk => ⟨by rw [List.append_nil]; rfl, hk⟩
  | c :: w, L, hk => by
    have hk2 : (⟨true, w, g⟩ : BK) ∈ ks := h.su _ hk _ List.mem_cons_self
    have ih := go_write h hl (w := w) (L := L ++ [c]) hk2
    refine ⟨⟨_, nx_r (zs := []) (act_w h hk), fun _ => md_k rfl, ?_⟩, ih.2⟩
    have := ih.1
    rw [List.append_assoc] at this
    exact this
theorem go_left (h : TpOk rules top ks tape) (hl : lo ≤ top) {k : BK} (hk : k ∈ ks) (hg : k.go = false) {M : List Lt} : ∀ (ys : List Lt) {rs : List Lt}, Lt.u ∉ ys → RunP tape lo top ys.length (mkL (kn top ks k) (M ++ ys.reverse) rs) (mkL (kn top ks k) M (ys.reverse ++ rs))
  | [], rs, _ => by rw [List.reverse_nil, List.append_nil]; rfl
  | y :: ys, rs, hy => by
    have hy0 : y ≠ .u := fun z => hy (by rw [z]; exact List.mem_cons_self)
    have ha := act_go h hk hy0
    rw [hg] at ha
    rw [List.reverse_cons, ← List.append_assoc]
    have e := lst_app (M ++ ys.reverse) y
    have hn := nx_l (M := M ++ ys.reverse ++ [y]) (rs := rs) (by rw [e.1]; exact ha)
    rw [e.2] at hn
    refine ⟨_, hn, fun _ => md_k rfl, ?_⟩
    have := go_left h hl hk hg (M := M) ys (rs := y :: rs) fun z => hy (List.mem_cons_of_mem _ z)
    rw [List.append_assoc]
    exact this
/-- a row's rule, gone on the tape -/
theorem lap_run (h : TpOk rules top ks tape) (hl : lo ≤ top) {q : Nat} {c : Lt} {r : RR} {Z rest B : List Lt} (hf : rules.filter (fun r => decide (r.s = q ∧ r.c = c)) = [r]) (hr : Lt.u ∉ rest) (hw : Lt.u ∉ r.w) (hB : B = [] ∨ B = [.u]) :
    RunP tape lo top (2 * (rest.length + 1) + 2 * r.w.length + 1) (mkR q Z (c :: rest ++ B)) (mkR r.g (Z ++ [.u]) ((rest ++ r.w) ++ [.u])) := by
  obtain ⟨hrm, ha⟩ := act_rule h hf
  have hk := h.ru r hrm
  have h1 : RunP tape lo top 1 (mkR q Z (c :: rest ++ B)) (mkR (kn top ks (keyR r)) (Z ++ [.u]) (rest ++ B)) := run_one (nx_r (zs := c :: (rest ++ B)) ha)
  have h2 := go_right h hl hk rfl (xs := rest) (L := Z ++ [.u]) (B := B) hr
  have h3 := go_write h hl (w := r.w) (g := r.g) (L := Z ++ [.u] ++ rest) hk
  have hk2 := h3.2
  have hk3 : (⟨false, [], r.g⟩ : BK) ∈ ks := h.su _ hk2 _ List.mem_cons_self
  have eB : mkR (kn top ks (keyR r)) (Z ++ [.u] ++ rest) B = mkR (kn top ks ⟨true, r.w, r.g⟩) (Z ++ [.u] ++ rest) [] := by
    rcases hB with rfl | rfl <;> rfl
  rw [eB] at h2
  have ht := act_t h hk2
  have h4 : RunP tape lo top 1 (mkR (kn top ks ⟨true, [], r.g⟩) (Z ++ [.u] ++ rest ++ r.w) []) (mkL (kn top ks ⟨false, [], r.g⟩) (Z ++ [.u] ++ rest ++ r.w) [.u]) := by
    refine run_one ?_
    unfold nxT
    have : actT tape (mkR (kn top ks ⟨true, [], r.g⟩) (Z ++ [.u] ++ rest ++ r.w) []).q (mkR (kn top ks ⟨true, [], r.g⟩) (Z ++ [.u] ++ rest ++ r.w) []).c = some (.u, false, kn top ks ⟨false, [], r.g⟩) := ht
    rw [this]
    rfl
  have hu : Lt.u ∉ (rest ++ r.w).reverse := by
    rw [List.mem_reverse, List.mem_append]
    exact fun z => z.elim hr hw
  have h5 := go_left h hl hk3 rfl (M := Z ++ [.u]) (rest ++ r.w).reverse (rs := [.u]) hu
  rw [List.reverse_reverse, List.length_reverse, List.length_append, ← List.append_assoc] at h5
  have hb := act_b h hk3
  have h6 : RunP tape lo top 1 (mkL (kn top ks ⟨false, [], r.g⟩) (Z ++ [.u]) (rest ++ r.w ++ [.u])) (mkR r.g (Z ++ [.u]) (rest ++ r.w ++ [.u])) := by
    refine run_one ?_
    have e := lst_app Z .u
    unfold nxT
    have : actT tape (mkL (kn top ks ⟨false, [], r.g⟩) (Z ++ [.u]) (rest ++ r.w ++ [.u])).q (mkL (kn top ks ⟨false, [], r.g⟩) (Z ++ [.u]) (rest ++ r.w ++ [.u])).c = some (.u, true, r.g) := by
      show actT tape (kn top ks ⟨false, [], r.g⟩) (lstL (Z ++ [.u])) = _
      rw [e.1]
      exact hb
    rw [this]
    show some (⟨r.g, (Z ++ [Lt.u]).dropLast ++ [.u], _, _⟩ : Ts) = some _
    rw [e.2]
    rfl
  have f5 := run_trans h6 h5 fun _ _ => md_k rfl
  have f4 := run_trans f5 h4 fun _ _ => md_k rfl
  have f3 := run_trans f4 h3.1 fun _ _ => md_k rfl
  have f2 := run_trans f3 h2 fun _ _ => md_k rfl
  have f1 := run_trans f2 h1 fun _ _ => md_k rfl
  rw [show 2 * (rest.length + 1) + 2 * r.w.length + 1 = 1 + (rest.length + (r.w.length + (1 + (rest.length + r.w.length + 1)))) by omega]
  exact f1
/-- so many rows' rules, gone on the tape -/
theorem rows_run (h : TpOk rules top ks tape) (hl : lo ≤ top) (hw : ∀ r ∈ rules, Lt.u ∉ r.w) {q : Nat} {x : List Lt} (hx : Lt.u ∉ x) : ∀ {n m q' : Nat} {x' : List Lt}, rrF rules n (0, q, x) = some (m, q', x') →
    (∀ i, 0 < i → i < n → ∃ y, rrF rules i (0, q, x) = some y ∧ lo < y.2.1) → RunP tape lo top m (mkR q [] x) (mkR q' (List.replicate n .u) (x' ++ if n = 0 then [] else [.u])) ∧ Lt.u ∉ x' ∧ (n ≠ 0 → 0 < m)
  | 0, m, q', x', he, _ => by
    cases he
    refine ⟨?_, hx, fun z => absurd rfl z⟩
    show mkR q [] x = mkR q [] (x ++ [])
    rw [List.append_nil]
  | n + 1, m, q', x', he, hi => by
    have he : (rrF rules n (0, q, x)).bind (rrS rules) = some (m, q', x') := he
    cases e1 : rrF rules n (0, q, x) with
    | none => rw [e1] at he; cases he
    | some y =>
      obtain ⟨m1, q1, x1⟩ := y
      rw [e1] at he
      have he : rrS rules (m1, q1, x1) = some (m, q', x') := he
      obtain ⟨ih1, ih2, ih3⟩ := rows_run h hl hw hx e1 fun i h1 h2 => hi i h1 (by omega)
      cases x1 with
      | nil => cases he
      | cons c rest =>
        unfold rrS at he
        dsimp only at he
        split at he
        · rename_i r hf
          cases he
          have hr : Lt.u ∉ rest := fun z => ih2 (List.mem_cons_of_mem _ z)
          have hrm := (act_rule h hf).1
          have lr := lap_run (lo := lo) (Z := List.replicate n .u) h hl hf hr (hw r hrm) (B := if n = 0 then [] else [.u]) (by
            by_cases z : n = 0
            · rw [if_pos z]; exact .inl rfl
            · rw [if_neg z]; exact .inr rfl)
          refine ⟨?_, ?_, fun _ => by omega⟩
          · have := run_trans lr ih1 (fun _ hm => by
              by_cases z : n = 0
              · subst z
                have : m1 = 0 := by
                  have e1 : some ((0, q, x) : Nat × Nat × List Lt) = some (m1, q1, c :: rest) := e1
                  cases e1
                  rfl
                exact absurd this hm
              · obtain ⟨y, e2, e3⟩ := hi n (by omega) (by omega)
                rw [e1] at e2
                cases e2
                rw [if_neg z]
                exact md_r (x := c :: rest) e3 ih2 (.inr rfl))
            rw [if_neg (by omega), List.replicate_succ', show m1 + 2 * (rest.length + 1) + 2 * r.w.length + 1 = m1 + (2 * (rest.length + 1) + 2 * r.w.length + 1) by omega]
            exact this
          · rw [List.mem_append]
            exact fun z => z.elim hr (hw r hrm)
        · cases he
end
/-- the stands of a run -/
theorem run_seq {tape : List TR} {lo top : Nat} : ∀ {n : Nat} {s t : Ts}, RunP tape lo top n s t → ∃ F : Nat → Ts, F 0 = s ∧ F n = t ∧ (∀ i, i < n → nxT tape (F i) = some (F (i + 1))) ∧ ∀ i, 0 < i → i < n → Md lo top (F i)
  | 0, s, t, h => ⟨fun _ => s, rfl, h, fun i hi => by omega, fun i h1 h2 => by omega⟩
  | n + 1, s, t, ⟨s', h1, h2, h3⟩ => by
    obtain ⟨F, f0, fn, f1, f2⟩ := run_seq h3
    refine ⟨fun i => match i with | 0 => s | j + 1 => F j, rfl, fn, ?_, ?_⟩
    · intro i hi
      cases i with
      | zero =>
        show nxT tape s = some (F 0)
        rw [f0]
        exact h1
      | succ j => exact f1 j (by omega)
    · intro i g1 g2
      cases i with
      | zero => omega
      | succ j =>
        show Md lo top (F j)
        cases j with
        | zero =>
          rw [f0]
          exact h2 (by omega)
        | succ j => exact f2 _ (by omega) (by omega)
/-- a step makes a stand longer by one sign at most -/
theorem nx_len {tape : List TR} {s s' : Ts} (h : nxT tape s = some s') : s'.l.length + s'.r.length ≤ s.l.length + s.r.length + 1 := by
  unfold nxT at h
  cases e : actT tape s.q s.c with
  | none => rw [e] at h; cases h
  | some x =>
    obtain ⟨w, m, g⟩ := x
    rw [e] at h
    cases m with
    | true =>
      cases h
      show (s.l ++ [w]).length + (s.r.drop 1).length ≤ _
      rw [List.length_append, List.length_drop]
      show s.l.length + 1 + (s.r.length - 1) ≤ _
      omega
    | false =>
      cases h
      show s.l.dropLast.length + (s.r.length + 1) ≤ _
      rw [List.length_dropLast]
      omega
theorem seq_len {tape : List TR} {F : Nat → Ts} {n : Nat} (h : ∀ i, i < n → nxT tape (F i) = some (F (i + 1))) : ∀ i, i ≤ n → (F i).l.length + (F i).r.length ≤ (F 0).l.length + (F 0).r.length + i
  | 0, _ => Nat.le_refl _
  | i + 1, hi => by
    have h1 := seq_len h i (by omega)
    have h2 := nx_len (h i (by omega))
    omega
end My

/-! P6: the programs, looked at one by one. -/
namespace My
def wc (l : List Lt) : Nat := l.foldr (fun c a => 5 * a + (sIx c + 1)) 0
def kcode (k : BK) : Nat := (k.g * 128 + wc k.w) * 2 + (if k.go = true then 1 else 0)
noncomputable def inR (x : Nat) (l : List Nat) : Bool := List.rec false (fun y _ ih => Bool.rec ih true (Nat.beq y x)) l
/-- put to the distinct ones -/
noncomputable def addR (l : List Nat) (x : Nat) : List Nat := Bool.rec (x :: l) l (inR x l)
/-- the codes of a word's ends and the way back -/
def clo (w : List Lt) (g : Nat) : List Nat := match w with
  | [] => [(g * 128 + wc []) * 2 + 1, g * 256]
  | c :: w => ((g * 128 + wc (c :: w)) * 2 + 1) :: clo w g
noncomputable def allR (rules : List RR) : List Nat := List.rec [] (fun r _ ih => (clo r.w r.g).foldl addR ih) rules
noncomputable def topR (size : Nat) (rules : List RR) : Nat := List.rec size (fun r _ ih => Bool.rec (Bool.rec ih r.g (Nat.ble ih r.g)) (Bool.rec r.s r.g (Nat.ble r.s r.g)) (Nat.ble ih r.s)) rules
noncomputable def chkN (size : Nat) (rules : List RR) : Bool := Nat.blt (topR size rules + 1 + (allR rules).length) 64
def wOk (w : List Lt) : Bool := match w with
  | [] => true
  | [a] => !Nat.beq (sIx a) 0
  | [a, b] => !Nat.beq (sIx a) 0 && !Nat.beq (sIx b) 0
  | _ => false
def chkW (size : Nat) (rules : List RR) : Bool := Nat.ble rules.length 100 && rules.all fun r => wOk r.w && !Nat.beq r.s size
/-- a row's run: at most one rule for a stand -/
def okRun (rules : List RR) (size : Nat) (q : Nat) (x : List Lt) (q' : Nat) (x' : List Lt) : Bool :=
  match rrF rules x.length (0, q, x) with
  | some y => decide (y.1 ≤ 500) && decide (y.2 = (q', x')) && (List.range x.length).all fun i => decide (i = 0) || match rrF rules i (0, q, x) with
    | some z => decide (size < z.2.1)
    | none => false
  | none => false
def cssT (size many : Nat) : List (List Nat) := if many = 2 then (if size < 2 then [[0, 0], [1, 0], [0, 1]] else [[0, 0]]) else [[0], [1]]
def chkRuns (prog : List Row) (many : Nat) : Bool :=
  (List.range prog.length).all fun p => (cssT prog.length many).all fun cs => match stepT prog p cs with
    | some y => okRun (rowsT many prog) prog.length p (cntW cs) y.1 (cntW y.2)
    | none => false
def chkC (prog : List Row) (many : Nat) : Bool := prog.all fun r => decide (r.ct < many)
noncomputable def chkP (many : Nat) (prog : List Row) : Bool := chkN prog.length (rowsT many prog) && chkW prog.length (rowsT many prog) && chkRuns prog many
def rowsAll (size many : Nat) : List Row := (List.range many).flatMap fun c => (List.range (size + 1)).flatMap fun g => .up c g :: (List.range (size + 1)).map fun z => .down c g z
def progsT (size many : Nat) : List (List Row) := match size with
  | 0 => [[]]
  | 1 => (rowsAll 1 many).map fun a => [a]
  | _ => (rowsAll 2 many).flatMap fun a => (rowsAll 2 many).map fun b => [a, b]
theorem chk01 : (progsT 0 1).all (chkP 1) = true := by decide +kernel
theorem chk02 : (progsT 0 2).all (chkP 2) = true := by decide +kernel
theorem chk11 : (progsT 1 1).all (chkP 1) = true := by decide +kernel
theorem chk12 : (progsT 1 2).all (chkP 2) = true := by decide +kernel
theorem chk21 : (progsT 2 1).all (chkP 1) = true := by decide +kernel
theorem chk22 : (progsT 2 2).all (chkP 2) = true := by decide +kernel
end My

/-! P7: what the checks say. -/
namespace My
theorem topR_cons (size : Nat) (r : RR) (rs : List RR) : topR size (r :: rs) = max (topR size rs) (max r.s r.g) := by
  show Bool.rec (motive := fun _ => Nat) (Bool.rec (motive := fun _ => Nat) (topR size rs) r.g (Nat.ble (topR size rs) r.g)) (Bool.rec (motive := fun _ => Nat) r.s r.g (Nat.ble r.s r.g)) (Nat.ble (topR size rs) r.s) = _
  cases h1 : Nat.ble (topR size rs) r.s with
  | false =>
    have h1 : ¬ topR size rs ≤ r.s := fun z => by rw [Nat.ble_eq_true_of_le z] at h1; cases h1
    cases h2 : Nat.ble (topR size rs) r.g with
    | false =>
      have h2 : ¬ topR size rs ≤ r.g := fun z => by rw [Nat.ble_eq_true_of_le z] at h2; cases h2
      show topR size rs = _
      omega
    | true =>
      have h2 := Nat.le_of_ble_eq_true h2
      show r.g = _
      omega
  | true =>
    have h1 := Nat.le_of_ble_eq_true h1
    cases h2 : Nat.ble r.s r.g with
    | false =>
      have h2 : ¬ r.s ≤ r.g := fun z => by rw [Nat.ble_eq_true_of_le z] at h2; cases h2
      show r.s = _
      omega
    | true =>
      have h2 := Nat.le_of_ble_eq_true h2
      show r.g = _
      omega
theorem topR_ge (size : Nat) : ∀ rs : List RR, size ≤ topR size rs ∧ ∀ r ∈ rs, r.s ≤ topR size rs ∧ r.g ≤ topR size rs
  | [] => ⟨Nat.le_refl _, fun r h => by cases h⟩
  | r :: rs => by
    obtain ⟨h1, h2⟩ := topR_ge size rs
    rw [topR_cons]
    refine ⟨by omega, fun x hx => ?_⟩
    rcases List.mem_cons.mp hx with rfl | hx
    · omega
    · have := h2 x hx
      omega
theorem topR_is (size : Nat) : ∀ rs : List RR, topR size rs = size ∨ ∃ r ∈ rs, topR size rs = r.s ∨ topR size rs = r.g
  | [] => .inl rfl
  | r :: rs => by
    have h := topR_is size rs
    rw [topR_cons]
    by_cases h1 : topR size rs ≤ max r.s r.g
    · refine .inr ⟨r, List.mem_cons_self, ?_⟩
      omega
    · rcases h with h | ⟨x, hx, h⟩
      · exact .inl (by omega)
      · exact .inr ⟨x, List.mem_cons_of_mem _ hx, by omega⟩
theorem inR_iff (x : Nat) : ∀ l : List Nat, inR x l = true ↔ x ∈ l
  | [] => Iff.intro (fun h => Bool.noConfusion (h : false = true)) (fun h => nomatch h)
  | y :: l => by
    have ih := inR_iff x l
    show Bool.rec (motive := fun _ => Bool) (inR x l) true (Nat.beq y x) = true ↔ _
    cases h : Nat.beq y x with
    | false =>
      have h : ¬ y = x := fun z => by subst z; rw [Nat.beq_refl] at h; cases h
      show inR x l = true ↔ _
      rw [ih, List.mem_cons]
      exact ⟨.inr, fun z => z.elim (fun e => absurd e.symm h) id⟩
    | true =>
      have h := Nat.eq_of_beq_eq_true h
      exact ⟨fun _ => by rw [h]; exact List.mem_cons_self, fun _ => rfl⟩
theorem addR_mem (l : List Nat) (x : Nat) : x ∈ addR l x ∧ ∀ y ∈ l, y ∈ addR l x := by
  show x ∈ Bool.rec (motive := fun _ => List Nat) (x :: l) l (inR x l) ∧ ∀ y ∈ l, y ∈ Bool.rec (motive := fun _ => List Nat) (x :: l) l (inR x l)
  cases h : inR x l with
  | false => exact ⟨List.mem_cons_self, fun y hy => List.mem_cons_of_mem _ hy⟩
  | true => exact ⟨(inR_iff x l).mp h, fun y hy => hy⟩
theorem fold_mem : ∀ (xs l : List Nat), (∀ x ∈ xs, x ∈ xs.foldl addR l) ∧ ∀ y ∈ l, y ∈ xs.foldl addR l
  | [], l => And.intro (fun x h => nomatch h) (fun y h => h)
  | x :: xs, l => by
    obtain ⟨h1, h2⟩ := fold_mem xs (addR l x)
    refine ⟨fun z hz => ?_, fun y hy => h2 y ((addR_mem l x).2 y hy)⟩
    rcases List.mem_cons.mp hz with rfl | hz
    · exact h2 _ (addR_mem l _).1
    · exact h1 z hz
theorem allR_mem : ∀ {rules : List RR} {r : RR}, r ∈ rules → ∀ c ∈ clo r.w r.g, c ∈ allR rules
  | r' :: rules, r, h, c, hc => by
    show c ∈ (clo r'.w r'.g).foldl addR (allR rules)
    rcases List.mem_cons.mp h with e | h
    · subst e
      exact (fold_mem _ _).1 c hc
    · exact (fold_mem _ _).2 c (allR_mem h c hc)
theorem clo_suf : ∀ {w w' : List Lt} {g : Nat}, w' <:+ w → (g * 128 + wc w') * 2 + 1 ∈ clo w g
  | [], w', g, h => by
    have := List.suffix_nil.mp h
    subst this
    exact List.mem_cons_self
  | c :: w, w', g, h => by
    rcases List.suffix_cons_iff.mp h with e | h
    · subst e
      exact List.mem_cons_self
    · exact List.mem_cons_of_mem _ (clo_suf h)
theorem clo_back : ∀ {w : List Lt} {g : Nat}, g * 256 ∈ clo w g
  | [], g => List.mem_cons_of_mem _ List.mem_cons_self
  | c :: w, g => List.mem_cons_of_mem _ (clo_back (w := w))
/-- the keys that can come -/
def Come (rules : List RR) (k : BK) : Prop := ∃ r ∈ rules, k.g = r.g ∧ ((k.go = false ∧ k.w = []) ∨ (k.go = true ∧ k.w <:+ r.w))
theorem come_suc {rules : List RR} {k k' : BK} (h : Come rules k) (h' : k' ∈ sucK k) : Come rules k' := by
  obtain ⟨go, w, g⟩ := k
  obtain ⟨r, hr, e, h⟩ := h
  cases go with
  | false => cases h'
  | true =>
    rcases h with h | ⟨_, h⟩
    · cases h.1
    · cases w with
      | nil =>
        rcases List.mem_cons.mp h' with z | z
        · subst z
          exact ⟨r, hr, e, .inl ⟨rfl, rfl⟩⟩
        · cases z
      | cons c w =>
        rcases List.mem_cons.mp h' with z | z
        · subst z
          exact ⟨r, hr, e, .inr ⟨rfl, (List.suffix_cons c w).trans h⟩⟩
        · cases z
theorem add_all {C : BK → Prop} {s : BtS} {k : BK} (hs : ∀ x ∈ s.ks, C x) (hk : C k) : ∀ x ∈ (s.add k).ks, C x := by
  obtain ⟨es, e1, e2, e3, e4, e5, e6⟩ := add_ok s k
  unfold BtS.add
  split
  · exact hs
  · intro x hx
    rcases List.mem_append.mp hx with z | z
    · exact hs x z
    · rcases List.mem_cons.mp z with z | z
      · rw [z]; exact hk
      · cases z
theorem mt1_all {C : BK → Prop} : ∀ {rules : List RR} {x : MtS}, (∀ r ∈ rules, C (keyR r)) → (∀ k ∈ x.1.ks, C k) → ∀ k ∈ (rules.foldl mt1 x).1.ks, C k
  | [], x, _, h => h
  | r :: rules, x, hr, h => mt1_all (rules := rules) (x := mt1 x r) (fun r' h' => hr r' (List.mem_cons_of_mem _ h')) (add_all (s := x.1) h (hr r List.mem_cons_self))
theorem mtN_all {C : BK → Prop} {rules : List RR} {top : Nat} (hr : ∀ r ∈ rules, C (keyR r)) (hs : ∀ k k', C k → k' ∈ sucK k → C k') : ∀ n, ∀ k ∈ (mtN n (mt0 rules top)).1.ks, C k
  | 0 => mt1_all (x := (⟨top, [], []⟩, [])) hr (fun k h => by cases h)
  | n + 1 => by
    have ih := mtN_all (top := top) hr hs n
    obtain ⟨ps, hI, _⟩ := inv_mtN rules top n
    show ∀ k ∈ (mt2 (mtN n (mt0 rules top))).1.ks, C k
    generalize mtN n (mt0 rules top) = x at ih hI
    unfold mt2
    cases e : x.1.ws with
    | nil => exact ih
    | cons k ws =>
      have hk : C k := ih k (by rw [hI.ks, e]; exact List.mem_append_right _ List.mem_cons_self)
      have h0 : ∀ y ∈ (BtS.add ⟨x.1.top, x.1.ks, ws⟩ k).ks, C y := add_all (s := ⟨x.1.top, x.1.ks, ws⟩) ih hk
      obtain ⟨go, w, g⟩ := k
      show ∀ y ∈ (rulesFor ⟨x.1.top, x.1.ks, ws⟩ ⟨go, w, g⟩).1.ks, C y
      unfold rulesFor
      cases go with
      | false => exact h0
      | true =>
        cases w with
        | nil => exact add_all h0 (hs _ _ hk List.mem_cons_self)
        | cons c w => exact add_all h0 (hs _ _ hk List.mem_cons_self)
theorem wc_inj : ∀ {a b : List Lt}, wc a = wc b → a = b
  | [], [], _ => rfl
  | [], c :: b, h => by
    have h : 0 = 5 * wc b + (sIx c + 1) := h
    omega
  | c :: a, [], h => by
    have h : 5 * wc a + (sIx c + 1) = 0 := h
    omega
  | c :: a, e :: b, h => by
    have h : 5 * wc a + (sIx c + 1) = 5 * wc b + (sIx e + 1) := h
    have h1 : sIx c < 4 := by cases c <;> decide
    have h2 : sIx e < 4 := by cases e <;> decide
    have h3 : wc a = wc b := by omega
    have h4 : sIx c = sIx e := by omega
    rw [wc_inj h3]
    congr 1
    cases c <;> cases e <;> first | rfl | cases h4
theorem wc_lt {w : List Lt} (h : w.length ≤ 2) : wc w < 128 := by
  have h0 : ∀ c, sIx c < 4 := by intro c; cases c <;> decide
  match w, h with
  | [], _ => decide
  | [a], _ =>
    have := h0 a
    show 5 * 0 + (sIx a + 1) < 128
    omega
  | [a, b], _ =>
    have h1 := h0 a
    have h2 := h0 b
    show 5 * (5 * 0 + (sIx b + 1)) + (sIx a + 1) < 128
    omega
theorem kcode_inj {a b : BK} (ha : a.w.length ≤ 2) (hb : b.w.length ≤ 2) (h : kcode a = kcode b) : a = b := by
  have h1 := wc_lt ha
  have h2 := wc_lt hb
  obtain ⟨g1, w1, e1⟩ := a
  obtain ⟨g2, w2, e2⟩ := b
  unfold kcode at h
  dsimp only at h h1 h2
  have h3 : (if g1 = true then 1 else 0 : Nat) = if g2 = true then 1 else 0 := by
    cases g1 <;> cases g2 <;> simp at h ⊢ <;> omega
  have h4 : g1 = g2 := by
    cases g1 <;> cases g2 <;> first | rfl | cases h3
  have h5 : e1 * 128 + wc w1 = e2 * 128 + wc w2 := by omega
  have h6 : wc w1 = wc w2 := by omega
  have h7 : e1 = e2 := by omega
  rw [h4, h7, wc_inj h6]
theorem len_le {α : Type} [DecidableEq α] : ∀ {l : List α} {m : List α}, l.Nodup → (∀ x ∈ l, x ∈ m) → l.length ≤ m.length
  | [], _, _, _ => Nat.zero_le _
  | x :: l, m, hn, h => by
    have hx := h x List.mem_cons_self
    rw [List.nodup_cons] at hn
    have h1 := len_le (m := m.erase x) hn.2 fun y hy => by
      have hne : y ≠ x := fun z => hn.1 (by rw [← z]; exact hy)
      rw [List.mem_erase_of_ne hne]
      exact h y (List.mem_cons_of_mem _ hy)
    rw [List.length_erase_of_mem hx] at h1
    have h2 : 0 < m.length := List.length_pos_of_mem hx
    rw [List.length_cons]
    omega
theorem nodup_map {α β : Type} {f : α → β} : ∀ {l : List α}, l.Nodup → (∀ x ∈ l, ∀ y ∈ l, f x = f y → x = y) → (l.map f).Nodup
  | [], _, _ => List.nodup_nil
  | x :: l, hn, h => by
    rw [List.nodup_cons] at hn
    rw [List.map_cons, List.nodup_cons]
    refine ⟨fun z => ?_, nodup_map hn.2 fun a ha b hb => h a (List.mem_cons_of_mem _ ha) b (List.mem_cons_of_mem _ hb)⟩
    obtain ⟨y, hy, e⟩ := List.mem_map.mp z
    have := h y (List.mem_cons_of_mem _ hy) x List.mem_cons_self e
    rw [this] at hy
    exact hn.1 hy
theorem wOk_ok {w : List Lt} (h : wOk w = true) : w.length ≤ 2 ∧ Lt.u ∉ w := by
  match w, h with
  | [], _ => exact ⟨by decide, by simp⟩
  | [a], h =>
    refine ⟨by show 1 ≤ 2; decide, ?_⟩
    cases a <;> first | (cases h; done) | simp
  | [a, b], h =>
    refine ⟨Nat.le_refl _, ?_⟩
    cases a <;> cases b <;> first | (cases h; done) | simp
theorem blk_len (top : Nat) (ks : List BK) (k : BK) : (blk top ks k).length = 4 := by
  obtain ⟨go, w, g⟩ := k
  cases go with
  | false => rfl
  | true => cases w <;> rfl
theorem fmb_len (top : Nat) (ks : List BK) : ∀ l : List BK, (l.flatMap (blk top ks)).length = 4 * l.length
  | [] => rfl
  | k :: l => by
    rw [List.flatMap_cons, List.length_append, blk_len, fmb_len top ks l, List.length_cons]
    omega
theorem blk_g {top : Nat} {ks : List BK} {k : BK} {t : TR} (h : t ∈ blk top ks k) : t.g = kn top ks k ∨ t.g = k.g ∨ ∃ k' ∈ sucK k, t.g = kn top ks k' := by
  obtain ⟨go, w, g⟩ := k
  unfold blk sgn at h
  cases go with
  | false => simp at h; rcases h with rfl | rfl | rfl | rfl <;> first | exact .inl rfl | exact .inr (.inl rfl)
  | true =>
    cases w with
    | nil => simp at h; rcases h with rfl | rfl | rfl | rfl <;> first | exact .inl rfl | exact .inr (.inr ⟨_, List.mem_cons_self, rfl⟩)
    | cons c w => simp at h; rcases h with rfl | rfl | rfl | rfl <;> first | exact .inl rfl | exact .inr (.inr ⟨_, List.mem_cons_self, rfl⟩)
/-- all that is known of a program's chain -/
structure PrOk (prog : List Row) (many top N : Nat) (ks : List BK) (tape : List TR) : Prop where
  ch : ChOk prog many top N tape
  tp : TpOk (rowsT many prog) top ks tape
  tl : tape.length ≤ 400
  pt : prog.length ≤ top
  w : ∀ r ∈ rowsT many prog, Lt.u ∉ r.w ∧ r.w.length ≤ 2
  rl : (rowsT many prog).length ≤ 100
  ns : ∀ r ∈ rowsT many prog, r.s ≠ prog.length
  runs : chkRuns prog many = true
theorem pr_ok {prog : List Row} {many : Nat} (h : chkP many prog = true) (hct : ∀ r ∈ prog, r.ct < many) (hm : many ≤ 2) (hp : prog.length ≤ 2) : ∃ top N ks tape, PrOk prog many top N ks tape := by
  unfold chkP at h
  rw [Bool.and_eq_true, Bool.and_eq_true] at h
  obtain ⟨⟨h1, h2⟩, h3⟩ := h
  have h1 : topR prog.length (rowsT many prog) + 1 + (allR (rowsT many prog)).length + 1 ≤ 64 := Nat.le_of_ble_eq_true h1
  unfold chkW at h2
  rw [Bool.and_eq_true] at h2
  have hrl : (rowsT many prog).length ≤ 100 := Nat.le_of_ble_eq_true h2.1
  have hr : ∀ r ∈ rowsT many prog, (Lt.u ∉ r.w ∧ r.w.length ≤ 2) ∧ r.s ≠ prog.length := by
    intro r hr
    have h4 := List.all_eq_true.mp h2.2 r hr
    rw [Bool.and_eq_true] at h4
    have h5 := wOk_ok h4.1
    refine ⟨⟨h5.2, h5.1⟩, fun z => ?_⟩
    have h6 := h4.2
    rw [z, Nat.beq_refl] at h6
    cases h6
  obtain ⟨t1, t2⟩ := topR_ge prog.length (rowsT many prog)
  have t3 := topR_is prog.length (rowsT many prog)
  generalize hR : rowsT many prog = rules at *
  generalize hT : topR prog.length rules = top at *
  obtain ⟨ps, hI, hd⟩ := inv_mtN rules top 64
  have hC := mtN_all (C := Come rules) (top := top) (rules := rules) (fun r hr => ⟨r, hr, rfl, .inr ⟨rfl, List.suffix_refl _⟩⟩) (fun k k' h h' => come_suc h h') 64
  have hX : ∃ x, x = mtN 64 (mt0 rules top) := ⟨_, rfl⟩
  obtain ⟨x, ex⟩ := hX
  rw [← ex] at hI hd hC
  have hlen : x.1.ks.length ≤ (allR rules).length := by
    have := len_le (l := x.1.ks.map kcode) (m := allR rules) (nodup_map hI.nd (by
      intro a ha b hb e
      have hw : ∀ k, Come rules k → k.w.length ≤ 2 := by
        rintro k ⟨r, h1, _, h2⟩
        rcases h2 with h2 | h2
        · rw [h2.2]; decide
        · exact Nat.le_trans h2.2.length_le (hr r h1).1.2
      exact kcode_inj (hw a (hC a ha)) (hw b (hC b hb)) e)) (by
      intro c hc
      obtain ⟨k, hk, rfl⟩ := List.mem_map.mp hc
      obtain ⟨r, h1, e, h2⟩ := hC k hk
      refine allR_mem h1 _ ?_
      unfold kcode
      rw [e]
      rcases h2 with h2 | h2
      · rw [h2.1, h2.2]
        have := clo_back (w := r.w) (g := r.g)
        show (r.g * 128 + 0) * 2 + 0 ∈ _
        rw [show (r.g * 128 + 0) * 2 + 0 = r.g * 256 by omega]
        exact this
      · rw [h2.1]
        exact clo_suf h2.2)
    rw [List.length_map] at this
    exact this
  have hws : x.1.ws = [] := by
    rcases hd with hd | hd
    · exact hd
    · have := congrArg List.length hI.ks
      rw [List.length_append] at this
      omega
  have hps : x.1.ks = ps := by
    have := hI.ks
    rw [hws, List.append_nil] at this
    exact this
  have hT : TpOk rules top x.1.ks x.2 := ⟨hI.nd, by rw [hI.tape, ← hps], hI.ru, fun k hk => hI.su k (by rw [← hps]; exact hk), fun r hr => (t2 r hr).1⟩
  have hlt : ∀ k ∈ x.1.ks, kn top x.1.ks k < top + 1 + x.1.ks.length := fun k hk => by
    have := List.idxOf_lt_length_of_mem hk
    unfold kn
    omega
  refine ⟨top, top + 1 + x.1.ks.length, x.1.ks, x.2, ?_, ?_, ?_, t1, ?_, ?_, ?_, h3⟩
  · refine ⟨by omega, by omega, hct, by rw [hR]; omega, ?_, ?_, ?_, ?_, ?_, by omega, ?_⟩
    · rw [hR]
      intro r h
      have := (hr r h).1.2
      omega
    · rw [hR]; exact t3
    · rw [hR]; exact ⟨t1, t2⟩
    · rw [hR]
      exact ⟨64, by decide, by rw [← ex]; exact hws, by rw [ex]⟩
    · rw [hT.tape, List.length_append, List.length_map, fmb_len]
      omega
    · intro k
      constructor
      · rintro (h | ⟨t, ht, h⟩)
        · omega
        · rw [hT.tape] at ht
          rcases List.mem_append.mp ht with z | z
          · obtain ⟨r, hr', rfl⟩ := List.mem_map.mp z
            rcases h with h | h
            · have : k = r.s := h
              have := (t2 r hr').1
              omega
            · rw [h]
              exact hlt _ (hI.ru r hr')
          · obtain ⟨k', hk', z⟩ := List.mem_flatMap.mp z
            rcases h with h | h
            · rw [h, blk_s z]
              exact hlt _ hk'
            · rcases blk_g z with g | g | ⟨k2, g1, g2⟩
              · rw [h, g]; exact hlt _ hk'
              · obtain ⟨r, hr', e, _⟩ := hC k' hk'
                have := (t2 r hr').2
                omega
              · rw [h, g2]; exact hlt _ (hT.su k' hk' k2 g1)
      · intro h
        by_cases h5 : k ≤ top
        · exact .inl h5
        · refine .inr ?_
          have hi : k - (top + 1) < x.1.ks.length := by omega
          have hk : x.1.ks[k - (top + 1)] ∈ x.1.ks := List.getElem_mem hi
          have hn : kn top x.1.ks (x.1.ks[k - (top + 1)]) = k := by
            unfold kn
            rw [hI.nd.idxOf_getElem]
            omega
          obtain ⟨t, ht⟩ : ∃ t, t ∈ blk top x.1.ks (x.1.ks[k - (top + 1)]) := by
            have := blk_len top x.1.ks (x.1.ks[k - (top + 1)])
            cases e : blk top x.1.ks (x.1.ks[k - (top + 1)]) with
            | nil => rw [e] at this; cases this
            | cons t _ => exact ⟨t, List.mem_cons_self⟩
          refine ⟨t, ?_, .inl ?_⟩
          · rw [hT.tape]
            exact List.mem_append_right _ (List.mem_flatMap.mpr ⟨_, hk, ht⟩)
          · rw [blk_s ht, hn]
  · rw [hR]; exact hT
  · rw [hT.tape, List.length_append, List.length_map, fmb_len]
    omega
  · rw [hR]; exact fun r h => (hr r h).1
  · rw [hR]; exact hrl
  · rw [hR]; exact fun r h => (hr r h).2
end My

/-! P8: what is told on the way. -/
namespace My
open PySem PySem.Spec PyProof.Rows L2
open Tr (step iter isVal)
theorem image_j (tape : List TR) (N : Nat) (a b : Tr) : imageTold tape N (.j a b) = if ((Tr.j a b).isVal || a.isLeaf) = true then .none else match Tr.unfT b with
    | some [x, y, z] => standTold (stateTold tape N a) x y z
    | _ => .none := rfl
theorem told_pack {tape : List TR} {N : Nat} {a x y z : Tr} (h : (Tr.j a (Tr.packT x y z)).isVal = false) (ha : a.isLeaf = false) : imageTold tape N (.j a (Tr.packT x y z)) = standTold (stateTold tape N a) x y z := by
  rw [image_j, h, ha]
  rfl
theorem told_im {tape : List TR} {N : Nat} {s : Ts} (h : s.q < N) : imageTold tape N (s.im tape N) = s.d := by
  have h1 : imageTold tape N (s.im tape N) = standTold (stateTold tape N (stT tape N s.q)) (txT s.l.reverse) (sgT s.c) (txT s.r) := told_pack (nv_im tape N s) rfl
  rw [h1, state_st h]
  unfold standTold
  rw [side_tx, side_tx, picked_sg]
  dsimp only
  rw [List.reverse_reverse, ltI_ix]
  rfl
theorem tape_im {tape : List TR} {N : Nat} {s : Ts} (h : s.q < N) : tapeTold tape N (s.im tape N) = s.d := by
  unfold tapeTold
  rw [told_im h]
  exact if_neg (by intro z; cases z)
theorem told_end {N q : Nat} {l r : List Lt} {c : Lt} (h : q < N) : endTold N (Tr.endT (Tr.pickT q N) (txT l.reverse) (sgT c) (txT r)) = stD q l c r := by
  unfold endTold
  rw [unf4]
  dsimp only
  rw [picked_pick h]
  unfold standTold
  rw [side_tx, side_tx, picked_sg]
  dsimp only
  rw [List.reverse_reverse, ltI_ix]
theorem stand_none {k : Option Nat} {a b c : Tr} (h : sideTold c = none) : standTold k a b c = .none := by
  unfold standTold
  rw [h]
  split
  · rename_i h1
    cases h1
  · rfl
theorem told_pre {tape : List TR} {N g : Nat} {w : Lt} {L R a t : Tr} {m cell : Bool} : tapeTold tape N (preT tape N g w L R a t m cell) = .none := by
  have h1 : imageTold tape N (preT tape N g w L R a t m cell) = .none := by
    unfold preT
    rw [image_j]
    split
    · rfl
    · rcases pre_not tape N g w L R a t m cell with h | ⟨x, y, z, h, h2⟩
      · rw [h]
      · rw [h]
        exact stand_none h2
  unfold tapeTold
  rw [h1]
  have h2 : endTold N (preT tape N g w L R a t m cell) = .none := by
    unfold endTold preT
    rw [unf_stj]
  rw [h2]
  rfl
theorem told_none {size many top : Nat} : Told size many top .none .none := .inl ⟨rfl, rfl⟩
theorem told_mid {size many top : Nat} {s : Ts} (h : Md size top s) (hr : s.r.length ≤ 90000) : Told size many top s.d .none := by
  refine .inr ⟨s.q, s.l, s.c, s.r, rfl, hr, ?_⟩
  by_cases h1 : top < s.q
  · exact .inl ⟨h1, rfl⟩
  · rcases h with h | ⟨h, x, n, e, hx⟩
    · exact absurd h h1
    · exact .inr ⟨by omega, x, n, e, hx, .inl ⟨h, rfl⟩⟩
theorem u_cnt (cs : List Nat) : Lt.u ∉ cntW cs := by
  unfold cntW
  intro h
  rcases List.mem_cons.mp h with h | h
  · cases h
  · obtain ⟨c, _, h⟩ := List.mem_flatMap.mp h
    rcases List.mem_append.mp h with h | h
    · cases List.eq_of_mem_replicate h
    · rcases List.mem_cons.mp h with h | h
      · cases h
      · cases h
theorem told_row {size many top p : Nat} {cs : List Nat} {l r : List Lt} {c : Lt} {n : Nat} (hp : p ≤ size) (ht : size ≤ top) (hc : cs.length = many) (e : c :: r = cntW cs ++ List.replicate n .u) (hr : r.length ≤ 90000) : Told size many top (stD p l c r) (csSt p cs) :=
  .inr ⟨p, l, c, r, rfl, hr, .inr ⟨by omega, cntW cs, n, e, u_cnt cs, .inr ⟨hp, cs, hc, rfl, rfl⟩⟩⟩
/-- a run of stands, gone by the trees -/
theorem im_run {tape : List TR} {N : Nat} (hN : ∀ t ∈ tape, t.g < N) {S : Nat → Ts} {n : Nat} (h : ∀ i, i < n → nxT tape (S i) = some (S (i + 1))) (a : Nat) : ∀ k, a + k ≤ n → iter (sumR (fun i => (S i).co tape N) a k) ((S a).im tape N) = some ((S (a + k)).im tape N)
  | 0, _ => rfl
  | k + 1, hk => by
    have ih := im_run hN h a k (by omega)
    obtain ⟨u, g, w, L, R, x, t, m, cell, e, h0, h1, h2⟩ := im_step hN (h (a + k) (by omega))
    have h3 := Tr.iter_trans h1 (Tr.i1 h2)
    rw [show (S (a + k)).co tape N - 1 + 1 = (S (a + k)).co tape N by omega] at h3
    have h4 := Tr.iter_trans ih h3
    have e2 : sumR (fun i => (S i).co tape N) a (k + 1) = sumR (fun i => (S i).co tape N) a k + (S (a + k)).co tape N := by
      unfold sumR
      rw [List.range_succ, List.map_append, List.sum_append]
      simp
    rw [e2]
    exact h4
theorem sumR_succ {C : Nat → Nat} {a k : Nat} : sumR C a (k + 1) = sumR C a k + C (a + k) := by
  unfold sumR
  rw [List.range_succ, List.map_append, List.sum_append]
  simp
theorem sumR_le {C : Nat → Nat} {c : Nat} (h : ∀ i, C i ≤ c) (a : Nat) : ∀ k, sumR C a k ≤ c * k
  | 0 => Nat.zero_le _
  | k + 1 => by
    rw [sumR_succ, Nat.mul_succ]
    have := sumR_le h a k
    have := h (a + k)
    omega
theorem sumR_pos {C : Nat → Nat} (h : ∀ i, 0 < C i) (a : Nat) {k : Nat} (hk : 0 < k) : 0 < sumR C a k := by
  cases k with
  | zero => omega
  | succ k => rw [sumR_succ]; have := h (a + k); omega
end My

/-! P9: all that the law asks, of a program's chain. -/
namespace My
open PySem PySem.Spec PyProof.Rows L2
open Tr (step iter isVal)
def tgT (size : Nat) : Row → Prop
  | .up _ g => g ≤ size
  | .down _ g z => g ≤ size ∧ z ≤ size
theorem emodN {c : Int} {n : Nat} (h : 0 < n) : (c % (n : Int)).toNat < n := by
  have h1 := Int.emod_nonneg c (b := (n : Int)) (by omega)
  have h2 := Int.emod_lt_of_pos c (b := (n : Int)) (by omega)
  omega
theorem rowOf_all {c : Int} {many size : Nat} (hm : 0 < many) : rowOf c many size ∈ rowsAll size many := by
  have h1 := emodN (c := c / 3) hm
  have h2 := emodN (c := c / 6) (n := size + 1) (by omega)
  have h3 := emodN (c := c / 24) (n := size + 1) (by omega)
  unfold rowOf rowsAll
  refine List.mem_flatMap.mpr ⟨(c / 3 % (many : Int)).toNat, List.mem_range.mpr h1, List.mem_flatMap.mpr ⟨(c / 6 % ((size + 1 : Nat) : Int)).toNat, List.mem_range.mpr h2, ?_⟩⟩
  split
  · exact List.mem_cons_self
  · exact List.mem_cons_of_mem _ (List.mem_map.mpr ⟨_, List.mem_range.mpr h3, rfl⟩)
theorem rows_ok {size many : Nat} {r : Row} (h : r ∈ rowsAll size many) : r.ct < many ∧ tgT size r := by
  unfold rowsAll at h
  obtain ⟨c, hc, h⟩ := List.mem_flatMap.mp h
  obtain ⟨g, hg, h⟩ := List.mem_flatMap.mp h
  have hc := List.mem_range.mp hc
  have hg := List.mem_range.mp hg
  rcases List.mem_cons.mp h with h | h
  · subst h
    exact ⟨hc, (by omega : g ≤ size)⟩
  · obtain ⟨z, hz, rfl⟩ := List.mem_map.mp h
    have hz := List.mem_range.mp hz
    exact ⟨hc, (by omega : g ≤ size), (by omega : z ≤ size)⟩
/-- the program drawn -/
theorem prog_in (ns : List Int) : (progT ns).length = sizeT (cellT ns 0) ∧ progT ns ∈ progsT (sizeT (cellT ns 0)) (manyT (cellT ns 0)) ∧ ∀ r ∈ progT ns, r ∈ rowsAll (sizeT (cellT ns 0)) (manyT (cellT ns 0)) := by
  have hs := size_le (cellT ns 0)
  have hm := many_le (cellT ns 0)
  have hr : ∀ k, rowOf (cellT ns (1 + k)) (manyT (cellT ns 0)) (sizeT (cellT ns 0)) ∈ rowsAll (sizeT (cellT ns 0)) (manyT (cellT ns 0)) := fun k => rowOf_all (by omega)
  unfold progT
  refine ⟨by rw [List.length_map, List.length_range], ?_, fun r h => ?_⟩
  · generalize sizeT (cellT ns 0) = size at *
    match size, hs with
    | 0, _ => exact List.mem_cons_self
    | 1, _ => exact List.mem_map.mpr ⟨_, hr 0, rfl⟩
    | 2, _ => exact List.mem_flatMap.mpr ⟨_, hr 0, List.mem_map.mpr ⟨_, hr 1, rfl⟩⟩
  · obtain ⟨k, _, rfl⟩ := List.mem_map.mp h
    exact hr k
theorem chk_all {size many : Nat} (h1 : size ≤ 2) (h2 : 1 ≤ many) (h3 : many ≤ 2) {prog : List Row} (h : prog ∈ progsT size many) : chkP many prog = true := by
  have hA : (progsT size many).all (chkP many) = true := by
    match size, many, h1, h2, h3 with
    | 0, 1, _, _, _ => exact chk01
    | 0, 2, _, _, _ => exact chk02
    | 1, 1, _, _, _ => exact chk11
    | 1, 2, _, _, _ => exact chk12
    | 2, 1, _, _, _ => exact chk21
    | 2, 2, _, _, _ => exact chk22
  exact List.all_eq_true.mp hA prog h
theorem stand_in (ns : List Int) {size many : Nat} (hm1 : 1 ≤ many) (hm : many ≤ 2) (hs : size ≤ 2) : (standT ns size many).1 ≤ size ∧ (standT ns size many).2 ∈ cssT size many := by
  have h1 := emodN (c := cellT ns 3) (n := size + 1) (by omega)
  have h2 := emodN (c := cellT ns 3 / 3) (n := 3) (by omega)
  have h3 := emodN (c := cellT ns 3 / 3) (n := 2) (by omega)
  refine ⟨by show (cellT ns 3 % ((size + 1 : Nat) : Int)).toNat ≤ size; omega, ?_⟩
  unfold standT cssT
  dsimp only
  by_cases e : many = 2
  · rw [if_pos e, if_pos e]
    generalize hk : (cellT ns 3 / 3 % 3).toNat = k
    have hk3 : k < 3 := by
      have : (cellT ns 3 / 3 % ((3 : Nat) : Int)).toNat < 3 := h2
      rw [← hk]
      exact this
    by_cases e2 : size < 2
    · rw [if_pos e2, decide_eq_true e2]
      match k, hk3 with
      | 0, _ => decide
      | 1, _ => decide
      | 2, _ => decide
    · rw [if_neg e2, decide_eq_false e2]
      match k, hk3 with
      | 0, _ => decide
      | 1, _ => decide
      | 2, _ => decide
  · rw [if_neg e, if_neg e]
    generalize hk : (cellT ns 3 / 3 % 2).toNat = k
    have hk3 : k < 2 := by
      have : (cellT ns 3 / 3 % ((2 : Nat) : Int)).toNat < 2 := h3
      rw [← hk]
      exact this
    match k, hk3 with
    | 0, _ => decide
    | 1, _ => decide
theorem css_ok {size many : Nat} (hm1 : 1 ≤ many) (hm : many ≤ 2) {cs : List Nat} (h : cs ∈ cssT size many) : cs.length = many ∧ (∀ c ∈ cs, c ≤ 1) ∧ (cntR cs).length ≤ 10 := by
  unfold cssT at h
  split at h
  · rename_i e
    subst e
    split at h
    · rcases List.mem_cons.mp h with rfl | h
      · decide
      · rcases List.mem_cons.mp h with rfl | h
        · decide
        · rcases List.mem_cons.mp h with rfl | h
          · decide
          · cases h
    · rcases List.mem_cons.mp h with rfl | h
      · decide
      · cases h
  · have e : many = 1 := by omega
    subst e
    rcases List.mem_cons.mp h with rfl | h
    · decide
    · rcases List.mem_cons.mp h with rfl | h
      · decide
      · cases h
theorem step_len {prog : List Row} {p p' : Nat} {cs cs' : List Nat} {size : Nat} (ht : ∀ r ∈ prog, tgT size r) (h : stepT prog p cs = some (p', cs')) : p' ≤ size ∧ cs'.length = cs.length := by
  unfold stepT at h
  cases e : prog[p]? with
  | none => rw [e] at h; cases h
  | some r =>
    rw [e] at h
    have hr := ht r (List.mem_of_getElem? e)
    cases r with
    | up c g =>
      cases h
      exact ⟨hr, List.length_set⟩
    | down c g z =>
      dsimp only at h
      split at h
      · cases h
        exact ⟨hr.2, rfl⟩
      · cases h
        exact ⟨hr.1, List.length_set⟩
theorem step_none {prog : List Row} {p : Nat} {cs : List Nat} (h : stepT prog p cs = none) : prog.length ≤ p := by
  unfold stepT at h
  cases e : prog[p]? with
  | none => exact List.getElem?_eq_none_iff.mp e
  | some r =>
    rw [e] at h
    cases r with
    | up c g => cases h
    | down c g z =>
      dsimp only at h
      split at h <;> cases h
/-- what the end of a tree is asked -/
structure EnOk (prog : List Row) (many top N : Nat) (tape : List TR) (t u v : Tr) (s : Ts) (p : Nat) (cs : List Nat) : Prop where
  hN : N ≤ 90
  hst : ∀ q, q < N → (stT tape N q).depth ≤ 500
  htg : ∀ t ∈ tape, t.g < N
  hcl : Tr.cl t = true
  hc : 0 < tcT tape N s.q s.l s.c s.r
  hi : Tr.iter (tcT tape N s.q s.l s.c s.r - 1) t = some u
  hs : Tr.step u = some v
  hv : v.isVal = true
  hd : t.depth + tcT tape N s.q s.l s.c s.r ≤ 900000
  he : endTold N v = s.d
  ht : Told prog.length many top s.d (csSt p cs)
section
variable {prog : List Row} {many top N : Nat} {ks : List BK} {tape : List TR}
theorem nx_q (P : PrOk prog many top N ks tape) {s s' : Ts} (h : nxT tape s = some s') : s'.q < N := by
  unfold nxT at h
  cases e : actT tape s.q s.c with
  | none => rw [e] at h; cases h
  | some x =>
    obtain ⟨w, m, g⟩ := x
    rw [e] at h
    have hg : g < N := by
      obtain ⟨t, ht, _, _, _, _, h5⟩ := act_mem e
      rw [← h5]
      exact P.ch.tg t ht
    cases m <;> (cases h; exact hg)
theorem act_size (P : PrOk prog many top N ks tape) (c : Lt) : actT tape prog.length c = none := by
  cases e : actT tape prog.length c with
  | none => rfl
  | some x =>
    obtain ⟨w, m, g⟩ := x
    obtain ⟨t, ht, h1, _⟩ := act_mem e
    rw [P.tp.tape] at ht
    rcases List.mem_append.mp ht with z | z
    · obtain ⟨r, hr, rfl⟩ := List.mem_map.mp z
      exact absurd h1 (P.ns r hr)
    · obtain ⟨k, _, z⟩ := List.mem_flatMap.mp z
      have h2 := blk_s z
      rw [h1] at h2
      have := P.pt
      unfold kn at h2
      omega
theorem st_dep (P : PrOk prog many top N ks tape) : ∀ q, q < N → (stT tape N q).depth ≤ 500 := fun q hq => by
  have := dp_st P.ch.tg hq
  have := P.ch.n64
  omega
theorem topN (P : PrOk prog many top N ks tape) : top < N := (P.ch.st top).1 (.inl (Nat.le_refl _))
theorem en_ok (P : PrOk prog many top N ks tape) {s : Ts} {cs : List Nat} {n : Nat} (hq : s.q = prog.length) (hc : cs.length = many) (e : s.c :: s.r = cntW cs ++ List.replicate n .u) (hl : s.l.length ≤ 1000) (hr : s.r.length ≤ 1000) :
    ∃ u v, EnOk prog many top N tape (s.im tape N) u v s prog.length cs := by
  have h64 := P.ch.n64
  have hpt := P.pt
  have hN := topN P
  have hqN : s.q < N := by omega
  obtain ⟨u, h0, h1, h2⟩ := im_end (N := N) (s := s) (by rw [hq]; exact act_size P s.c)
  have h3 := co_le P.ch.tg s
  have h4 := dp_im P.ch.tg hqN
  refine ⟨u, _, by omega, st_dep P, P.ch.tg, cl_im tape N s, h0, h1, h2, v_end N s.q s.l.reverse s.r s.c, ?_, told_end hqN, ?_⟩
  · show (s.im tape N).depth + s.co tape N ≤ 900000
    omega
  · show Told prog.length many top (stD s.q s.l s.c s.r) (csSt prog.length cs)
    rw [hq]
    exact told_row (Nat.le_refl _) hpt hc e (by omega)
theorem okRun_ok {rules : List RR} {size q : Nat} {x : List Lt} {q' : Nat} {x' : List Lt} (h : okRun rules size q x q' x' = true) : ∃ m, rrF rules x.length (0, q, x) = some (m, q', x') ∧ m ≤ 500 ∧ ∀ i, 0 < i → i < x.length → ∃ y, rrF rules i (0, q, x) = some y ∧ size < y.2.1 := by
  unfold okRun at h
  cases e : rrF rules x.length (0, q, x) with
  | none => rw [e] at h; cases h
  | some y =>
    rw [e] at h
    obtain ⟨m, y⟩ := y
    dsimp only at h
    rw [Bool.and_eq_true, Bool.and_eq_true] at h
    have h1 := of_decide_eq_true h.1.1
    have h2 := of_decide_eq_true h.1.2
    subst h2
    refine ⟨m, rfl, h1, fun i h3 h4 => ?_⟩
    have h5 := List.all_eq_true.mp h.2 i (List.mem_range.mpr h4)
    rw [Bool.or_eq_true] at h5
    rcases h5 with h5 | h5
    · have := of_decide_eq_true h5
      omega
    · cases e2 : rrF rules i (0, q, x) with
      | none => rw [e2] at h5; cases h5
      | some z =>
        rw [e2] at h5
        exact ⟨z, rfl, of_decide_eq_true h5⟩
/-- a step of the counters, gone by rows, by the tape, and by the trees -/
theorem go_ok (P : PrOk prog many top N ks tape) (hm1 : 1 ≤ many) (hm : many ≤ 2) (ht : ∀ r ∈ prog, tgT prog.length r) {p p' : Nat} {cs cs' : List Nat} (hp : p < prog.length) (hcs : cs ∈ cssT prog.length many) (hst : stepT prog p cs = some (p', cs')) :
    ∃ (m : Nat) (S : Nat → Ts), rrF (rowsT many prog) (cntW cs).length (0, p, cntW cs) = some (m, p', cntW cs') ∧ 0 < m ∧ m ≤ 500 ∧ (∀ i, i < m → nxT tape (S i) = some (S (i + 1))) ∧ (∀ i, i ≤ m → (S i).l.length ≤ 1000 ∧ (S i).r.length ≤ 1000) ∧
      S 0 = ⟨p, [], .b, cntR cs⟩ ∧ S m = ⟨p', List.replicate (cntW cs).length .u, .b, cntR cs' ++ [.u]⟩ ∧ p' ≤ prog.length ∧ cs'.length = many ∧ ∀ a, a < m → ∃ u, GoOk prog many top N tape S m a p p' cs cs' u := by
  obtain ⟨hc1, hc2, hc3⟩ := css_ok hm1 hm hcs
  obtain ⟨hp', hc'⟩ := step_len ht hst
  have h64 := P.ch.n64
  have hpt := P.pt
  have hN := topN P
  have hR := P.runs
  unfold chkRuns at hR
  have hR := List.all_eq_true.mp hR p (List.mem_range.mpr hp)
  have hR := List.all_eq_true.mp hR cs hcs
  rw [hst] at hR
  obtain ⟨m, e1, e2, e3⟩ := okRun_ok hR
  obtain ⟨r1, r2, r3⟩ := rows_run (lo := prog.length) P.tp hpt (fun r h => (P.w r h).1) (u_cnt cs) e1 e3
  have hn0 : (cntW cs).length ≠ 0 := by
    show (cntR cs).length + 1 ≠ 0
    omega
  have hm0 := r3 hn0
  rw [if_neg hn0] at r1
  obtain ⟨S, s0, sm, sn, sd⟩ := run_seq r1
  have s0 : S 0 = ⟨p, [], .b, cntR cs⟩ := s0
  have sm : S m = ⟨p', List.replicate (cntW cs).length .u, .b, cntR cs' ++ [.u]⟩ := sm
  have hlen : ∀ i, i ≤ m → (S i).l.length + (S i).r.length ≤ 510 := fun i hi => by
    have h1 := seq_len sn i hi
    have h2 : (S 0).l.length + (S 0).r.length = 0 + (cntR cs).length := by rw [s0]; rfl
    omega
  have hq : ∀ i, i ≤ m → (S i).q < N := fun i hi => by
    cases i with
    | zero => rw [s0]; show p < N; omega
    | succ i => exact nx_q P (sn i (by omega))
  have tg := P.ch.tg
  refine ⟨m, S, e1, hm0, e2, sn, fun i hi => ?_, s0, sm, hp', by omega, fun a ha => ?_⟩
  · have := hlen i hi
    omega
  have hco : ∀ i, 0 < (S i).co tape N ∧ (S i).co tape N ≤ 300 + 5 * N := fun i => co_le tg (S i)
  have iA := im_run tg sn 0 a (by omega)
  rw [Nat.zero_add] at iA
  have iB := im_run tg sn a (m - 1 - a) (by omega)
  rw [show a + (m - 1 - a) = m - 1 by omega] at iB
  have hlast := sn (m - 1) (by omega)
  rw [show m - 1 + 1 = m by omega] at hlast
  obtain ⟨u, g, w, L, R, x, t, mv, cell, eu, c0, c1, c2⟩ := im_step tg hlast
  have eS : sumR (fun i => (S i).co tape N) a (m - a) = sumR (fun i => (S i).co tape N) a (m - 1 - a) + (S (m - 1)).co tape N := by
    rw [show m - a = (m - 1 - a) + 1 by omega, sumR_succ, show a + (m - 1 - a) = m - 1 by omega]
  have iB2 := Tr.iter_trans iB c1
  refine ⟨u, ⟨by omega, st_dep P, tg, ha, by omega, fun i hi => ⟨(hco i).1, Nat.le_trans (hco i).2 (by omega)⟩, s0, by omega, by omega, fun c hc => Nat.le_trans (hc2 c hc) (by decide), by omega, cl_im tape N (S 0), iA, nv_im tape N (S a), told_im (hq a (by omega)), ?_, ?_, ?_, ?_, c2, nv_im tape N (S m), told_im (hq m (Nat.le_refl _)), ?_, ?_⟩⟩
  · rw [tape_im (hq a (by omega))]
    by_cases z : a = 0
    · subst z
      rw [if_pos rfl, s0]
      show Told prog.length many top (stD p [] .b (cntR cs)) (csSt p cs)
      exact told_row (n := 0) (by omega) hpt hc1 (by rw [List.replicate_zero, List.append_nil]; rfl) (by omega)
    · rw [if_neg z]
      exact told_mid (sd a (by omega) ha) (by have := hlen a (by omega); omega)
  · exact sumR_pos (fun i => (hco i).1) a (by omega)
  · rw [eS, show sumR (fun i => (S i).co tape N) a (m - 1 - a) + (S (m - 1)).co tape N - 1 = sumR (fun i => (S i).co tape N) a (m - 1 - a) + ((S (m - 1)).co tape N - 1) by omega]
    exact iB2
  · rw [eu, told_pre]
    exact told_none
  · rw [tape_im (hq m (Nat.le_refl _)), sm]
    refine told_row (n := 1) hp' hpt (by omega) rfl ?_
    have h1 := hlen m (Nat.le_refl _)
    rw [sm] at h1
    have h2 : (List.replicate (cntW cs).length Lt.u).length + (cntR cs' ++ [Lt.u]).length ≤ 510 := h1
    omega
  · have h1 := dp_im tg (hq 0 (by omega))
    have h2 := hlen 0 (by omega)
    have h3 := sumR_le (C := fun i => (S i).co tape N) (fun i => (hco i).2) 0 a
    have h4 := sumR_le (C := fun i => (S i).co tape N) (fun i => (hco i).2) a (m - a)
    have h5 : (300 + 5 * N) * a ≤ 615 * 500 := Nat.mul_le_mul (by omega) (by omega)
    have h6 : (300 + 5 * N) * (m - a) ≤ 615 * 500 := Nat.mul_le_mul (by omega) (by omega)
    omega
end
/-- all that is asked for a script -/
structure LawF (ns : List Int) (top N : Nat) (tape : List TR) (p : Nat) (cs : List Nat) : Prop where
  ch : ChOk (progT ns) (manyT (cellT ns 0)) top N tape
  tl : tape.length ≤ 400
  hN : N ≤ 90
  hst : ∀ q, q < N → (stT tape N q).depth ≤ 500
  sz : (progT ns).length ≤ 2
  my : manyT (cellT ns 0) = 1 ∨ manyT (cellT ns 0) = 2
  sd : standT ns (progT ns).length (manyT (cellT ns 0)) = (p, cs)
  pp : p ≤ (progT ns).length
  pN : p < N
  ct : ∀ r ∈ progT ns, r.ct < cs.length
  cl1 : cs.length ≤ 100
  cl2 : ∀ c ∈ cs, c ≤ 1
  cl3 : (cntR cs).length ≤ 10
  rl : (rowsT (manyT (cellT ns 0)) (progT ns)).length ≤ 100
  rw_ : ∀ r ∈ rowsT (manyT (cellT ns 0)) (progT ns), r.w.length ≤ 2
  d1 : (imT tape N p [.i, .e, .b, .u] .b (cntR cs)).depth ≤ 10000
  t1 : Told (progT ns).length (manyT (cellT ns 0)) top (tapeTold tape N (imT tape N p [.i, .e, .b, .u] .b (cntR cs))) (csSt p cs)
  e1 : stepT (progT ns) p cs = none → ∃ u v, EnOk (progT ns) (manyT (cellT ns 0)) top N tape (imT tape N p [] .b (cntR cs)) u v ⟨p, [], .b, cntR cs⟩ p cs
  g1 : ∀ p' cs', stepT (progT ns) p cs = some (p', cs') → ∃ (m : Nat) (S : Nat → Ts), rrF (rowsT (manyT (cellT ns 0)) (progT ns)) (cntW cs).length (0, p, cntW cs) = some (m, p', cntW cs') ∧ 0 < m ∧ m ≤ 500 ∧
    (∀ i, i < m → nxT tape (S i) = some (S (i + 1))) ∧ (∀ i, i ≤ m → (S i).l.length ≤ 1000 ∧ (S i).r.length ≤ 1000) ∧ S 0 = ⟨p, [], .b, cntR cs⟩ ∧ S m = ⟨p', List.replicate (cntW cs).length .u, .b, cntR cs' ++ [.u]⟩ ∧ p' ≤ (progT ns).length ∧
    cs'.length ≤ 100 ∧ (∀ c ∈ cs', c ≤ 100) ∧ (∀ a, a < m → ∃ u, GoOk (progT ns) (manyT (cellT ns 0)) top N tape S m a p p' cs cs' u) ∧
    (p' = (progT ns).length → ∃ u v, EnOk (progT ns) (manyT (cellT ns 0)) top N tape ((S m).im tape N) u v (S m) p' cs')
theorem step_small {prog : List Row} {p p' : Nat} {cs cs' : List Nat} (h : stepT prog p cs = some (p', cs')) (hc : ∀ c ∈ cs, c ≤ 1) : ∀ c ∈ cs', c ≤ 2 := by
  have hg : ∀ c, cs.getD c 0 ≤ 1 := fun c => by
    rw [List.getD_eq_getElem?_getD]
    cases e : cs[c]? with
    | none => exact Nat.zero_le _
    | some x => exact hc x (List.mem_of_getElem? e)
  have hs : ∀ c v, v ≤ 2 → ∀ x ∈ cs.set c v, x ≤ 2 := fun c v hv x hx => by
    rcases List.mem_or_eq_of_mem_set hx with z | z
    · exact Nat.le_trans (hc x z) (by decide)
    · omega
  unfold stepT at h
  cases e : prog[p]? with
  | none => rw [e] at h; cases h
  | some r =>
    rw [e] at h
    cases r with
    | up c g =>
      cases h
      exact hs _ _ (by have := hg c; omega)
    | down c g z =>
      dsimp only at h
      split at h
      · cases h
        exact fun x hx => Nat.le_trans (hc x hx) (by decide)
      · cases h
        exact hs _ _ (by have := hg c; omega)
theorem law_facts (ns : List Int) : ∃ top N tape p cs, LawF ns top N tape p cs := by
  obtain ⟨h1, h2, h3⟩ := prog_in ns
  have hs := size_le (cellT ns 0)
  have hm := many_le (cellT ns 0)
  have hck := chk_all hs hm.1 hm.2 h2
  rw [← h1] at hs h3
  obtain ⟨top, N, ks, tape, P⟩ := pr_ok hck (fun r h => (rows_ok (h3 r h)).1) hm.2 hs
  obtain ⟨g1, g2⟩ := stand_in ns hm.1 hm.2 hs
  have ht : ∀ r ∈ progT ns, tgT (progT ns).length r := fun r h => (rows_ok (h3 r h)).2
  generalize hS : standT ns (progT ns).length (manyT (cellT ns 0)) = s at g1 g2
  obtain ⟨p, cs⟩ := s
  have g1 : p ≤ (progT ns).length := g1
  have g2 : cs ∈ cssT (progT ns).length (manyT (cellT ns 0)) := g2
  obtain ⟨hc1, hc2, hc3⟩ := css_ok hm.1 hm.2 g2
  have h64 := P.ch.n64
  have hpt := P.pt
  have hN := topN P
  have hpN : p < N := by omega
  refine ⟨top, N, tape, p, cs, P.ch, P.tl, by omega, st_dep P, hs, by omega, hS, g1, hpN, fun r h => by rw [hc1]; exact (rows_ok (h3 r h)).1, by omega, hc2, hc3, P.rl, fun r h => (P.w r h).2, ?_, ?_, ?_, ?_⟩
  · have := dp_im P.ch.tg (s := ⟨p, [.i, .e, .b, .u], .b, cntR cs⟩) hpN
    have h5 : (imT tape N p [.i, .e, .b, .u] .b (cntR cs)).depth ≤ 4 * N + 150 + 7 * 4 + 7 * (cntR cs).length := this
    omega
  · have := tape_im (tape := tape) (N := N) (s := ⟨p, [.i, .e, .b, .u], .b, cntR cs⟩) hpN
    have h5 : tapeTold tape N (imT tape N p [.i, .e, .b, .u] .b (cntR cs)) = stD p [.i, .e, .b, .u] .b (cntR cs) := this
    rw [h5]
    exact told_row (n := 0) g1 hpt hc1 (by rw [List.replicate_zero, List.append_nil]; rfl) (by omega)
  · intro hn
    have hq := step_none hn
    have hq : p = (progT ns).length := by omega
    have := en_ok P (s := ⟨p, [], .b, cntR cs⟩) (cs := cs) (n := 0) hq hc1 (by rw [List.replicate_zero, List.append_nil]; rfl) (Nat.zero_le _) (by show (cntR cs).length ≤ 1000; omega)
    rw [← hq] at this
    exact this
  · intro p' cs' hst
    have hpl : p < (progT ns).length := by
      rcases Nat.lt_or_ge p (progT ns).length with h | h
      · exact h
      · unfold stepT at hst
        rw [List.getElem?_eq_none h] at hst
        cases hst
    obtain ⟨m, S, e1, e2, e3, e4, e5, e6, e7, e8, e9, e10⟩ := go_ok P hm.1 hm.2 ht hpl g2 hst
    refine ⟨m, S, e1, e2, e3, e4, e5, e6, e7, e8, by omega, fun c hc => Nat.le_trans (step_small hst hc2 c hc) (by decide), e10, fun hz => ?_⟩
    have := en_ok P (s := S m) (cs := cs') (n := 1) (by rw [e7]; exact hz) e9 (by rw [e7]; rfl) (e5 m (Nat.le_refl _)).1 (e5 m (Nat.le_refl _)).2
    rw [← hz] at this
    exact this
end My

/-! W38: the law, walked. -/
namespace My
open PySem PySem.Spec PyProof.Rows L2
section
variable {P : Program} {w : World} {K : PySem.W.Frag} {mg : Str → Option Value} {base : Heap}
theorem okF {N ps : List Str} {x n : Str} {k : Nat} {sp : Sp} {params : Arguments} {body : List Stmt} {scope : Scope} {f : Addr} {fd : FuncData}
    (F : FunD K x n params body scope [] [] f fd) (S : FnScope N ps scope) (len : ∀ vs H Q E, sp vs H Q E → vs.length = ps.length)
    (hb : ∀ (cdv : Value) (A : Around) (outer : List Env) (s : Shared) (H : Hp) (vs : List V) (Q : VK) (E : XK), Room k (A.deeper (envOfC n scope s.heap.objs.size f cdv)) → sp vs H Q E →
      ∃ t, PSs (cxOf CX0 P w K mg base N n scope f cdv A outer s H E).nox body t ∧ t { nx := fun _ H' => Q .non H', rt := Q } (start N vs) H) : FnOk P w K mg base CX0 (k + 1) f fd ps sp := by
  refine F.ok S len fun cdv A outer s H vs Q E hr h => ?_
  obtain ⟨t, h1, h2⟩ := hb cdv A outer s H vs Q E hr h
  exact ⟨t, h1.nox, h2⟩

def f_law : Gr := fun as d => ∃ ns : List Int, as = [.l (ns.map PyData.int)] ∧ d = .bool true
theorem len_law {as : List Ag} {d : PyData} (h : f_law as d) : as.length = 1 := by obtain ⟨_, rfl, _⟩ := h; rfl
/-- a row's stand, taken apart -/
theorem ev_row0 {σ : L2.St} {H : Hp} {te : TE} {p : Nat} {x : List Lt} (h : Ev K te σ H (.t (.tuple [.int p, .str (sw x)]))) : Ev K (tOp (rIx K) te (tC (.int 0))) σ H (.t (.int p)) := ev_ixT (i := 0) h ev_int rfl
theorem ev_row1 {σ : L2.St} {H : Hp} {te : TE} {p : Nat} {x : List Lt} (h : Ev K te σ H (.t (.tuple [.int p, .str (sw x)]))) : Ev K (tOp (rIx K) te (tC (.int 1))) σ H (.t (.str (sw x))) := ev_ixT (i := 1) h ev_int rfl
theorem ev_rowb {σ : L2.St} {H : Hp} {te : TE} {c : Lt} {x : List Lt} (hx : x.length ≤ 1000) (h : Ev K te σ H (.t (.str (sw (c :: x))))) : Ev K (tOp (rIx K) te (tC (.int 0))) σ H (.t (.str (sw [c]))) :=
  ev_ixS (z := sw (c :: x)) (i := 0) (c := c.code) h ev_int (by rw [sw_len, sizeLine_eq, List.length_cons]; omega) (by rw [sw_tl]; exact at0 _ _)
theorem ev_rowr {σ : L2.St} {H : Hp} {te : TE} {c : Lt} {x : List Lt} (hx : x.length ≤ 1000) (h : Ev K te σ H (.t (.str (sw (c :: x))))) : Ev K (tSl rSlS te (tPart (tC (.int 1))) tNoPart) σ H (.t (.str (sw x))) := by
  have h2 := ev_slS (K := K) (lo := some 1) (hi := none) h (eo_some (K := K) ev_int) eo_none (by rw [sw_len, sizeLine_eq, List.length_cons]; omega)
  rw [cut1] at h2
  exact h2
theorem sc_law : FnScope ["_law_script", "_law_program_here", "_law_many", "_law_given", "_law_chain", "_law_stand", "_law_due", "_law_row", "_law_tape", "_law_steps", "_law_stands", "_law_last", "_law_tree"] ["_law_script"] (defScope st_law) := ⟨rfl, rfl, rfl, by decide +kernel, rfl, by decide +kernel, by decide +kernel⟩
theorem ok_law (T : Txt P w K mg base) {f : Addr} {fd : FuncData} (F : FunD K "law" "law" d_law.params d_law.body d_law.scope [] [] f fd) : FnOk P w K mg base CX0 77 f fd ["_law_script"] (SpT K f_law) := by
  refine okF F sc_law (SpT.len (fun as d h => by exact len_law h)) (fun cdv A outer s H vs Q E hr h => ?_)
  refine ⟨_, (pss_cons (ps_asg (pc (has__law_program T) (hr.mono (by decide)) (pa_cons (pv 0) pa_nil)) (pg_tup rfl (pgs_cons (pg_name (i := 1) sc_law.nd rfl (by first | exact Or.inl rfl | exact Or.inr rfl)) (pgs_cons (pg_name (i := 2) sc_law.nd rfl (by first | exact Or.inl rfl | exact Or.inr rfl)) pgs_nil))))
    (pss_cons (ps_set (i := 3) sc_law.nd rfl (by first | exact Or.inl rfl | exact Or.inr rfl) (pe_callTy call_list_of (by rfl) T.free_list (by decide +kernel) (pa_cons (pv 1) pa_nil)))
    (pss_cons (ps_set (i := 4) sc_law.nd rfl (by first | exact Or.inl rfl | exact Or.inr rfl) (pmk (ok_Chain_init T) T.mkr_Chain T.glo_Chain (hr.mono (by decide)) (pa_cons (pv 3) (pa_cons (pv 2) pa_nil))))
    (pss_cons (ps_expr (pe_bm0 PySem.F.plainAttrs_list PySem.F.slot_list_clear PySem.F.type_list_clear mt_clear (pv 3)))
    (pss_cons (ps_if (pt_not (pt_val (pc (has__law_made_right T) (hr.mono (by decide)) (pa_cons (pv 4) (pa_cons (pv 1) (pa_cons (pv 2) pa_nil)))))) (pss_one (ps_ret pe_bl)) pss_nil)
    (pss_cons (ps_set (i := 5) sc_law.nd rfl (by first | exact Or.inl rfl | exact Or.inr rfl) (pc (has__law_drawn_stand T) (hr.mono (by decide)) (pa_cons (pv 0) (pa_cons (pe_callB (call_lenK (K := K)) (by rfl) T.free_len PySem.boot_len (pa_cons (pv 1) pa_nil)) (pa_cons (pv 2) pa_nil)))))
    (pss_cons (ps_set (i := 6) sc_law.nd rfl (by first | exact Or.inl rfl | exact Or.inr rfl) (pc (has__law_stepped T) (hr.mono (by decide)) (pa_cons (pv 1) (pa_cons (pv 5) pa_nil))))
    (pss_cons (ps_set (i := 7) sc_law.nd rfl (by first | exact Or.inl rfl | exact Or.inr rfl) (pc (has__law_row_image T) (hr.mono (by decide)) (pa_cons (pv 5) pa_nil)))
    (pss_cons (ps_set (i := 8) sc_law.nd rfl (by first | exact Or.inl rfl | exact Or.inr rfl) (pe_tup (pa_cons (pe_ixK (K := K) (pv 7) pe_int (fun _ _ => rfl)) (pa_cons pe_str (pa_cons (pe_ixK (K := K) (pe_ixK (K := K) (pv 7) pe_int (fun _ _ => rfl)) pe_int (fun _ _ => rfl)) (pa_cons (pe_slice sl_str (pe_ixK (K := K) (pv 7) pe_int (fun _ _ => rfl)) (po_some pe_int) po_none) pa_nil))))))
    (pss_cons (ps_if (pt_cmpR (op_neSK (K := K) hr) (pc (has_chain_told T) (hr.mono (by decide)) (pa_cons (pv 4) (pa_cons (pc (has_tape_image T) (hr.mono (by decide)) (pa_cons (pe_fldK (K := K) (pv 4) rfl) (pa_cons (pe_tup (pa_cons (pe_ixK (K := K) (pv 7) pe_int (fun _ _ => rfl)) (pa_cons pe_str (pa_cons (pe_ixK (K := K) (pe_ixK (K := K) (pv 7) pe_int (fun _ _ => rfl)) pe_int (fun _ _ => rfl)) (pa_cons (pe_slice sl_str (pe_ixK (K := K) (pv 7) pe_int (fun _ _ => rfl)) (po_some pe_int) po_none) pa_nil))))) pa_nil))) pa_nil))) (pv 5) (nomark _)) (pss_one (ps_ret pe_bl)) pss_nil)
    (pss_cons (ps_if (pt_cmp (pc_isN (pv 6))) (pss_one (ps_ret (pc (has__law_ends T) (hr.mono (by decide)) (pa_cons (pv 4) (pa_cons (pc (has_chain_image T) (hr.mono (by decide)) (pa_cons (pv 4) (pa_cons (pv 5) pa_nil))) (pa_cons (pv 8) (pa_cons (pv 5) pa_nil))))))) pss_nil)
    (pss_cons (ps_set (i := 9) sc_law.nd rfl (by first | exact Or.inl rfl | exact Or.inr rfl) (pc (has__law_many_steps T) (hr.mono (by decide)) (pa_cons (pe_fldK (K := K) (pv 4) rfl) (pa_cons (pv 7) pa_nil))))
    (pss_cons (ps_if (pt_cmp (pc_isN (pv 9))) (pss_one (ps_ret pe_bl)) pss_nil)
    (pss_cons (ps_set (i := 10) sc_law.nd rfl (by first | exact Or.inl rfl | exact Or.inr rfl) (pc (has__law_tape_stands T) (hr.mono (by decide)) (pa_cons (pv 4) (pa_cons (pv 8) (pa_cons (pv 9) pa_nil)))))
    (pss_cons (ps_set (i := 11) sc_law.nd rfl (by first | exact Or.inl rfl | exact Or.inr rfl) (pc (has__law_row_image T) (hr.mono (by decide)) (pa_cons (pv 6) pa_nil)))
    (pss_cons (ps_if (PW.pt (pw_or (pt_cmp (pc_isN (pv 10))) (pw_or1 (pt_cmpR (op_neSK (K := K) hr) (pe_ixK (K := K) (pv 10) (pe_un un_neg pe_int) (fun _ _ => rfl)) (pe_tup (pa_cons (pe_ixK (K := K) (pv 11) pe_int (fun _ _ => rfl)) (pa_cons (pe_op op_mulS pe_str (pe_callB (call_lenK (K := K)) (by rfl) T.free_len PySem.boot_len (pa_cons (pe_ixK (K := K) (pv 7) pe_int (fun _ _ => rfl)) pa_nil))) (pa_cons (pe_ixK (K := K) (pe_ixK (K := K) (pv 11) pe_int (fun _ _ => rfl)) pe_int (fun _ _ => rfl)) (pa_cons (pe_op op_addG (pe_slice sl_str (pe_ixK (K := K) (pv 11) pe_int (fun _ _ => rfl)) (po_some pe_int) po_none) pe_str) pa_nil))))) (nomark _))))) (pss_one (ps_ret pe_bl)) pss_nil)
    (pss_cons (ps_set (i := 12) sc_law.nd rfl (by first | exact Or.inl rfl | exact Or.inr rfl) (pc (has__law_goes T) (hr.mono (by decide)) (pa_cons (pv 4) (pa_cons (pv 10) (pa_cons (pe_tup (pa_cons (pv 5) (pa_cons pe_non (pa_cons (pv 6) pa_nil)))) (pa_cons (pe_op op_mod (pc (has__law_cell T) (hr.mono (by decide)) (pa_cons (pv 0) (pa_cons pe_int pa_nil))) (pv 9)) pa_nil))))))
    (pss_cons (ps_if (pt_cmp (pc_isN (pv 12))) (pss_one (ps_ret pe_bl)) pss_nil)
    (pss_one (ps_ret (pe_or (pe_cmpR op_lt (pe_ixK (K := K) (pv 6) pe_int (fun _ _ => rfl)) (pe_callB (call_lenK (K := K)) (by rfl) T.free_len PySem.boot_len (pa_cons (pv 1) pa_nil)) (nomark _)) (pe_one (pc (has__law_ends T) (hr.mono (by decide)) (pa_cons (pv 4) (pa_cons (pv 12) (pa_cons (pe_ixK (K := K) (pv 10) (pe_un un_neg pe_int) (fun _ _ => rfl)) (pa_cons (pv 6) pa_nil))))))))))))))))))))))))))), ?_⟩
  obtain ⟨as, d, ⟨ns, rfl, rfl⟩, hv, k⟩ := h
  obtain ⟨x, rfl, hx⟩ := hv.i1
  obtain ⟨top, N, tape, p, cs, F⟩ := law_facts ns
  have ex : ∀ {H' o1 o2 o3 o4 o5 o6 o7 o8 o9 o10 o11 o12}, Same H H' → Ev K (tVar 0) [some x, o1, o2, o3, o4, o5, o6, o7, o8, o9, o10, o11, o12] H' (.l (ns.map PyData.int)) := fun s => ev_var rfl (At.sm s hx)
  -- the program
  refine (ev_callG (K := K) (F := f_law_program) ⟨ns, rfl, rfl⟩ (ea_cons (ex (Same.refl _)) ea_nil)) H (Same.refl _) _ fun v H1 s1 hv1 => ?_
  obtain ⟨ap, pp, xp, rfl, hap, hpp, tpp⟩ := hv1
  refine ⟨ap, _, rfl, SqT.of hap, rfl, _, _, rfl, _, _, rfl, rfl, ?_⟩
  dsimp only
  -- the copy given, the chain made of it, the copy cleared
  have eprog1 : ∀ {H' o2 o3 o4 o5 o6 o7 o8 o9 o10 o11 o12}, Same H1 H' → Ev K (tVar 1) [some x, some (.ref pp), o2, o3, o4, o5, o6, o7, o8, o9, o10, o11, o12] H' (.l ((progT ns).map Row.d)) := fun s => ev_var rfl (show At K _ (.ref pp) (.l _) from ⟨pp, xp, rfl, SqL.of (s _ _ hpp), tpp.sm s⟩)
  refine q_setF (ef_list (eprog1 (Same.refl _))) fun pg xg H2 hgn s2 hg tg => ?_
  refine ⟨_, rfl, _, rfl, fun a dx ha hdx hne => ?_⟩
  have s23 : Same H2 (upd (upd H2 dx (.own a)) a (.ins (He.ga K "Chain") dx [])) := (Same.new hdx).trans (Same.new (by rw [upd_ne (Ne.symm hne)]; exact ha))
  have hga : pg ≠ a := fun z => by rw [z, ha] at hg; cases hg
  refine ⟨a, dx, .ref pg, progT ns, manyT (cellT ns 0), top, N, tape, rfl, upd_same, ⟨pg, xg, rfl, SqL.of (s23 _ _ hg), tg.sm s23⟩, F.ch, fun H4 kp hch => ⟨rfl, ?_⟩⟩
  have s24 : Same H2 H4 := kp.of s23 fun y hy => by rw [List.mem_singleton.mp hy]; exact ha
  have hg4 := s24 _ _ hg
  refine ⟨_, rfl, .inl ⟨rfl, _, SqL.of hg4⟩, pg, xg, rfl, rfl, hg4, ?_⟩
  have s15 : Same H1 (upd H4 pg (.lst [])) := fun b o e => by
    have hb : b ≠ pg := fun z => by rw [z, hgn] at e; cases e
    rw [upd_ne hb]
    exact (s2.trans s24) _ _ e
  have hS : Same (rs (upd (upd H2 dx (.own a)) a (.ins (He.ga K "Chain") dx [])) a H4) (upd H4 pg (.lst [])) := fun b o e => by
    obtain ⟨e1, e2⟩ := rs_cases e
    have hb : b ≠ pg := fun z => by
      subst z
      rcases e2 with e2 | e2 | ⟨ys, e2⟩
      · rw [s23 _ _ hg] at e2; cases e2
      · exact hga e2
      · rw [e2, hg4] at e1; cases e1
    rw [upd_ne hb]
    exact e1
  have hch5 := ChAt.mono K (progT ns) (manyT (cellT ns 0)) top N tape _ _ _ hS hch
  generalize (upd H4 pg (.lst [])) = H5 at s15 hch5 ⊢
  have x5 : ∀ {H'}, Same H5 H' → Same H H' := fun s => s1.trans (s15.trans s)
  have eprog : ∀ {H' o2 o3 o4 o5 o6 o7 o8 o9 o10 o11 o12}, Same H5 H' → Ev K (tVar 1) [some x, some (.ref pp), o2, o3, o4, o5, o6, o7, o8, o9, o10, o11, o12] H' (.l ((progT ns).map Row.d)) := fun s => eprog1 (s15.trans s)
  have ech : ∀ {H' o0 o1 o2 o3 o5 o6 o7 o8 o9 o10 o11 o12}, Same H5 H' → Ev K (tVar 4) [o0, o1, o2, o3, some (.ref a), o5, o6, o7, o8, o9, o10, o11, o12] H' (Ag.ch K (progT ns) (manyT (cellT ns 0)) top N tape) := fun s => ev_var rfl (show At K _ (.ref a) (Ag.ch K _ _ _ _ _) from ChAt.mono K _ _ _ _ _ _ _ _ s hch5)
  refine q_ifN ((eb_not (eb_B (ev_call (F := f_law_right K) ⟨progT ns, manyT (cellT ns 0), top, N, tape, F.ch, F.tl, rfl, rfl⟩ (ea_cons (ech (Same.refl _)) (ea_cons (eprog (Same.refl _)) (ea_cons (vI rfl) ea_nil)))))).is rfl) fun H6 s6 => ?_
  -- the stand, what is due, the row
  have hsz := F.sz
  refine q_set (K := K) (ev_call (F := f_law_drawn) ⟨ns, (progT ns).length, manyT (cellT ns 0), by omega, F.my, rfl, rfl⟩ (ea_cons (ex (x5 s6)) (ea_cons (ev_len (eprog s6) (List.length_map _)) (ea_cons (vI rfl) ea_nil)))) fun v5 H7 s7 h7 => ?_
  rw [F.sd] at h7
  have h7 : Td H7 v5 (csSt p cs) := h7
  have s67 := s6.trans s7
  refine q_set (K := K) (ev_call (F := f_law_stepped) ⟨progT ns, p, cs, F.pp, by omega, F.ct, rfl, rfl⟩ (ea_cons (eprog s67) (ea_cons (vD rfl h7) ea_nil))) fun v6 H8 s8 h8 => ?_
  have h8 : Td H8 v6 (optSt (stepT (progT ns) p cs)) := h8
  have s68 := s67.trans s8
  refine q_set (K := K) (ev_call (F := f_law_row_image) ⟨p, cs, F.cl1, fun c hc => Nat.le_trans (F.cl2 c hc) (by decide), rfl, rfl⟩ (ea_cons (vD rfl (h7.sm s8)) ea_nil)) fun v7 H9 s9 h9 => ?_
  have h9 : Td H9 v7 (.tuple [.int p, .str (sw (cntW cs))]) := h9
  have s69 := s68.trans s9
  have cl3 := F.cl3
  have hcl : (cntR cs).length ≤ 1000 := by omega
  have er1 : ∀ {H' o0 o1 o2 o3 o4 o5 o6 o8 o9 o10 o11 o12}, Same H9 H' → Ev K (tOp (rIx K) (tVar 7) (tC (.int 1))) [o0, o1, o2, o3, o4, o5, o6, some v7, o8, o9, o10, o11, o12] H' (.t (.str (sw (.b :: cntR cs)))) := fun s => ev_row1 (p := p) (vD rfl (h9.sm s))
  have er0 : ∀ {H' o0 o1 o2 o3 o4 o5 o6 o8 o9 o10 o11 o12}, Same H9 H' → Ev K (tOp (rIx K) (tVar 7) (tC (.int 0))) [o0, o1, o2, o3, o4, o5, o6, some v7, o8, o9, o10, o11, o12] H' (.t (.int p)) := fun s => ev_row0 (x := cntW cs) (vD rfl (h9.sm s))
  refine q_set (K := K) (ev_tup (ds := [.int p, .str (sw []), .str (sw [.b]), .str (sw (cntR cs))]) (ea_cons (er0 (Same.refl _)) (ea_cons ev_str (ea_cons (ev_rowb hcl (er1 (Same.refl _))) (ea_cons (ev_rowr hcl (er1 (Same.refl _))) ea_nil)))) (Nat.le_of_ble_eq_true rfl)) fun v8 H10 s10 h10 => ?_
  have h10 : Td H10 v8 (stD p [] .b (cntR cs)) := h10
  have s610 := s69.trans s10
  -- an image with signs at the left side
  have hd1 := F.d1
  refine q_ifN (eb_test (ev_neS (d := csSt p cs) (ev_call (F := f_chain_told K) ⟨progT ns, manyT (cellT ns 0), top, N, tape, _, F.hN, F.hst, by omega, rfl, F.t1⟩ (ea_cons (ech s610) (ea_cons (ev_call (F := f_tape_image K) ⟨tape, N, p, [.i, .e, .b, .u], .b, cntR cs, F.pN, by decide, hcl, rfl, rfl⟩ (ea_cons (ev_chBook T (ech s610))
    (ea_cons (ev_tup (ds := [.int p, .str (sw [.i, .e, .b, .u]), .str (sw [.b]), .str (sw (cntR cs))]) (ea_cons (er0 s10) (ea_cons ev_str (ea_cons (ev_rowb hcl (er1 s10)) (ea_cons (ev_rowr hcl (er1 s10)) ea_nil)))) (Nat.le_of_ble_eq_true rfl)) ea_nil))) ea_nil))) (vD rfl (h7.sm (s8.trans (s9.trans s10)))) (csSt_lay p cs) (Nat.le_trans (csSt_dep p cs) (by decide)))) fun H11 s11 => ?_
  have s611 := s610.trans s11
  have h8b := h8.sm (s9.trans (s10.trans s11))
  have h7b := h7.sm (s8.trans (s9.trans (s10.trans s11)))
  have h9b := h9.sm (s10.trans s11)
  have h10b := h10.sm s11
  cases hst : stepT (progT ns) p cs with
  | none =>
    rw [hst] at h8b
    obtain ⟨u, v, E⟩ := F.e1 hst
    refine q_ifT (eb_B (ev_isN (K := K) (r := true) (vD rfl h8b) rfl)) fun H12 s12 => ?_
    exact st_ret (K := K) (ev_call (F := f_law_ends K) ⟨progT ns, manyT (cellT ns 0), top, N, tape, _, u, v, ⟨p, [], .b, cntR cs⟩, p, cs, E.hN, E.hst, E.htg, E.hcl, E.hc, E.hi, E.hs, E.hv, E.hd, E.he, E.ht, rfl, rfl⟩
      (ea_cons (ech (s611.trans s12)) (ea_cons (ev_call (F := f_chain_image K) ⟨progT ns, manyT (cellT ns 0), top, N, tape, p, cs, F.pN, F.cl1, fun c hc => Nat.le_trans (F.cl2 c hc) (by decide), hcl, rfl, rfl⟩ (ea_cons (ech (s611.trans s12)) (ea_cons (vD rfl (h7b.sm s12)) ea_nil)))
        (ea_cons (vD rfl (h10b.sm s12)) (ea_cons (vD rfl (h7b.sm s12)) ea_nil))))) fun v H13 s13 h13 => k v H13 (x5 (s611.trans (s12.trans s13))) h13
  | some y =>
    obtain ⟨p', cs'⟩ := y
    rw [hst] at h8b
    have h8b : Td H11 v6 (csSt p' cs') := h8b
    obtain ⟨m, S, e1, e2, e3, e4, e5, e6, e7, e8, e9, e9b, e10, e11⟩ := F.g1 p' cs' hst
    have hlW : (cntW cs).length ≤ 11 := by
      show (cntR cs).length + 1 ≤ 11
      omega
    have hrl := F.rl
    refine q_ifN (eb_B (ev_isN (K := K) (r := false) (vD rfl h8b) rfl)) fun H12 s12 => ?_
    have s612 := s611.trans s12
    -- how many steps
    refine q_set (K := K) (ev_call (F := f_law_many) ⟨rowsT (manyT (cellT ns 0)) (progT ns), p, cntW cs, m, p', cntW cs', by omega, fun r hr => Nat.le_trans (F.rw_ r hr) (by decide), by omega, e1, rfl, rfl⟩ (ea_cons (ev_chRules T (ech s612)) (ea_cons (vD rfl (h9b.sm s12)) ea_nil))) fun v9 H13 s13 h13 => ?_
    obtain rfl := Td.int_of h13
    refine q_ifN (eb_B (ev_isN (K := K) (r := false) (vI rfl) rfl)) fun H14 s14 => ?_
    have s12_14 := s12.trans (s13.trans s14)
    have s614 := s611.trans s12_14
    -- the tape's stands
    have hS0 : (S 0).d = stD p [] .b (cntR cs) := by rw [e6]; rfl
    refine q_setF (ef_call (F := f_law_stands K) ⟨progT ns, manyT (cellT ns 0), top, N, tape, S, m, by omega, Nat.le_trans F.tl (by decide), e4, e5, rfl, rfl⟩ (ea_cons (ech s614) (ea_cons (by rw [hS0]; exact vD rfl (h10b.sm s12_14)) (ea_cons (vI rfl) ea_nil)))) fun ps xs H15 hps s15' hs15 t15 => ?_
    have s11_15 := s12_14.trans s15'
    have s615 := s611.trans s11_15
    refine q_set (K := K) (ev_call (F := f_law_row_image) ⟨p', cs', e9, e9b, rfl, rfl⟩ (ea_cons (vD rfl (h8b.sm s11_15)) ea_nil)) fun v11 H16 s16 h16 => ?_
    have h16 : Td H16 v11 (.tuple [.int p', .str (sw (cntW cs'))]) := h16
    have s11_16 := s11_15.trans s16
    have s616 := s611.trans s11_16
    have est : ∀ {H' o0 o1 o2 o3 o4 o5 o6 o7 o8 o9 o11 o12}, Same H15 H' → Ev K (tVar 10) [o0, o1, o2, o3, o4, o5, o6, o7, o8, o9, some (.ref ps), o11, o12] H' (.l ((List.range (m + 1)).map fun i => (S i).d)) := fun s => ev_var rfl (show At K _ (.ref ps) (.l _) from ⟨ps, xs, rfl, SqL.of (s _ _ hs15), t15.sm s⟩)
    have hmd : (S m).d = .tuple [.int p', .str (sw (List.replicate (cntW cs).length .u)), .str (sw [.b]), .str (sw (cntR cs' ++ [.u]))] := by rw [e7]; rfl
    have hcl' : (cntR cs').length ≤ 1000 := by
      have h1 := (e5 m (Nat.le_refl _)).2
      rw [e7] at h1
      have h2 : (cntR cs' ++ [Lt.u]).length ≤ 1000 := h1
      rw [List.length_append] at h2
      omega
    have el1 : Ev K (tOp (rIx K) (tVar 11) (tC (.int 1))) [some x, some (.ref pp), some (.int (manyT (cellT ns 0) : Nat)), some (.ref pg), some (.ref a), some v5, some v6, some v7, some v8, some (.int (m : Nat)), some (.ref ps), some v11, none] H16 (.t (.str (sw (.b :: cntR cs')))) := ev_row1 (p := p') (vD rfl h16)
    have el0 : Ev K (tOp (rIx K) (tVar 11) (tC (.int 0))) [some x, some (.ref pp), some (.int (manyT (cellT ns 0) : Nat)), some (.ref pg), some (.ref a), some v5, some v6, some v7, some v8, some (.int (m : Nat)), some (.ref ps), some v11, none] H16 (.t (.int p')) := ev_row0 (x := cntW cs') (vD rfl h16)
    refine q_ifN ((eb_or (a := false) (b := false) (eb_isNl rfl) fun _ => eb_test (ev_neS (d := (S m).d) (ev_ixL (est s16) ev_neg1 (at_rng_last _ m)) (by
      rw [hmd]
      refine ev_tup (ds := [.int p', .str (sw (List.replicate (cntW cs).length .u)), .str (sw [.b]), .str (sw (cntR cs' ++ [.u]))]) (ea_cons el0 (ea_cons ?_ (ea_cons (ev_rowb hcl' el1) (ea_cons ?_ ea_nil)))) (Nat.le_of_ble_eq_true rfl)
      · have h := ev_mulS (K := K) (σ := [some x, some (.ref pp), some (.int (manyT (cellT ns 0) : Nat)), some (.ref pg), some (.ref a), some v5, some v6, some v7, some v8, some (.int (m : Nat)), some (.ref ps), some v11, none]) (z := sw [.u]) (n := (cntW cs).length) ev_str ((ev_lenS (z := sw (.b :: cntR cs)) (er1 ((s10.trans s11).trans s11_16)) (by rw [sw_len, sizeLine_eq, List.length_cons]; omega)).int (by rw [sw_len]; rfl)) (by decide) (by omega)
        rw [mulS_sw] at h
        exact h
      · have h := ev_addS (K := K) (σ := [some x, some (.ref pp), some (.int (manyT (cellT ns 0) : Nat)), some (.ref pg), some (.ref a), some v5, some v6, some v7, some v8, some (.int (m : Nat)), some (.ref ps), some v11, none]) (i := sw (cntR cs')) (j := sw [.u]) (ev_rowr hcl' el1) ev_str (by rw [sw_len, sw_len, sizeLine_eq, List.length_singleton]; omega)
        rw [sw_app] at h
        exact h) (S m).lay (Nat.le_trans (S m).dep (by decide)))).is rfl) fun H17 s17 => ?_
    have s11_17 := s11_16.trans s17
    have s617 := s611.trans s11_17
    -- gone by the trees
    have hm0 : (0 : Int) < (m : Int) := by omega
    have hmod := Int.emod_nonneg (cellT ns 4) (b := (m : Int)) (by omega)
    have hmod2 := Int.emod_lt_of_pos (cellT ns 4) hm0
    obtain ⟨u, G⟩ := e10 (cellT ns 4 % (m : Int)).toNat (by omega)
    refine q_set (K := K) (ev_call (F := f_law_goes K) ⟨progT ns, manyT (cellT ns 0), top, N, tape, S, m, (cellT ns 4 % (m : Int)).toNat, p, p', cs, cs', u, G, rfl, rfl⟩ (ea_cons (ech s617) (ea_cons (est (s16.trans s17)) (ea_cons (ev_tup (ds := [csSt p cs, .none, csSt p' cs']) (ea_cons (vD rfl (h7b.sm s11_17)) (ea_cons ev_non (ea_cons (vD rfl (h8b.sm s11_17)) ea_nil))) (Nat.le_of_ble_eq_true rfl))
      (ea_cons ((ev_modI (ev_cell (k := 4) (by decide) (ex (x5 s617)) ev_int) (vI rfl) hm0).int (by omega)) ea_nil))))) fun v12 H18 s18 h18 => ?_
    have h18 : Td H18 v12 ((S m).im tape N).d := h18
    refine q_ifN (eb_B (ev_isN (K := K) (r := false) (vD rfl h18) (isN_tr G.hvn))) fun H19 s19 => ?_
    have s11_19 := s11_17.trans (s18.trans s19)
    have s619 := s611.trans s11_19
    have elt : Ev K (tOp (rI0 fun i j => .bl (decide (i < j))) (tOp (rIx K) (tVar 6) (tC (.int 0))) (tCB (rLenK K) (tCons (tVar 1) tNil))) [some x, some (.ref pp), some (.int (manyT (cellT ns 0) : Nat)), some (.ref pg), some (.ref a), some v5, some v6, some v7, some v8, some (.int (m : Nat)), some (.ref ps), some v11, some v12] H19 (.t (.bool (decide ((p' : Int) < ((progT ns).length : Int))))) :=
      ev_cmpI (f := fun i j => decide (i < j)) (ev_ixT (i := 0) (vD rfl (h8b.sm s11_19)) ev_int rfl) (ev_len (eprog s619) (List.length_map _))
    refine st_ret (K := K) (a := .t (.bool true)) ((ev_orV (b := true) elt fun hf => ?_).is (by rw [Bool.or_true])) fun v H20 s20 h20 => k v H20 (x5 (s619.trans s20)) h20
    have hp' : p' = (progT ns).length := by
      have := of_decide_eq_false hf
      omega
    obtain ⟨u2, v2, E⟩ := e11 hp'
    exact ev_call (F := f_law_ends K) ⟨progT ns, manyT (cellT ns 0), top, N, tape, _, u2, v2, S m, p', cs', E.hN, E.hst, E.htg, E.hcl, E.hc, E.hi, E.hs, E.hv, E.hd, E.he, E.ht, rfl, rfl⟩ (ea_cons (ech s619) (ea_cons (vD rfl (h18.sm s19)) (ea_cons (ev_ixL (est ((s16.trans s17).trans (s18.trans s19))) ev_neg1 (at_rng_last _ m)) (ea_cons (vD rfl (h8b.sm s11_19)) ea_nil))))
end
end My

namespace My
open PySem PySem.Spec PyProof.Rows L2
theorem facts {P : Program} {w : World} {K : PySem.W.Frag} {h : Heap} {mg : Str → Option Value} {f : Addr} (X : K.In h) (G : h.Ns mainGlobals mg) (hfa : mg ("law" : Str) = some (.ref f)) (c : He.SaysD fa fn K) :
    ∃ fd : FuncData, (∀ (s : Shared) (v : Value), BindsTo s fd ⟨[v], []⟩ [("_law_script", v)]) ∧ ∀ base : Heap, K.In base → base.Ns mainGlobals mg → FnOk P w K mg base CX0 77 f fd ["_law_script"] (SpT K f_law) := by
  have T0 : Txt P w K mg h := ⟨c, h, X, G⟩
  obtain ⟨fd, F⟩ := c.def_ 74 (d := d_law) rfl
  have e := hfa.symm.trans (T0.glo_law)
  cases e
  have b := FunD.bindsA (ps := ["_law_script"]) F fun _ _ _ _ _ _ us hl => match us, hl with | [_], _ => rfl
  exact ⟨fd, fun s v => b s [v] rfl, fun base _ _ => ok_law (T := ⟨c, h, X, G⟩) F⟩
theorem promise {K : PySem.W.Frag} {H : Hp} {a : Addr} {ns : List Int} (hS : SqL K H a (ns.map V.int)) : SpT K f_law [V.ref a] H (fun v x => v = V.bl true) fun x x_1 x_2 => False :=
  ⟨[.l (ns.map PyData.int)], .bool true, ⟨ns, rfl, rfl⟩, .cons ⟨a, _, rfl, hS, TdAll.ints ns⟩ .nil, fun v H' _ h => Td.bl_of h⟩
theorem room : Room 77 callerA := ⟨rfl, by decide, by decide⟩
end My

open PySem PySem.W PySem.Calls PyProof.Rows
set_option maxHeartbeats 0
theorem PySem.Challenge.cw_oneofall_k93_whole_chain_holds : PySem.Challenge.rw_oneofall_k93_whole_chain.Holds := by
  w_on; o_law
  refine HandSHeadRun.head_any (r := OpenLaw.row PySem.Challenge.rw_oneofall_k93_whole_chain) (q := view (OpenLaw.row PySem.Challenge.rw_oneofall_k93_whole_chain).prog [93]) (H := My.hk) (ob := My.ob) (M := 4000) (loose := My.loose) (d := HandSHeadRun.topDef (OpenLaw.row PySem.Challenge.rw_oneofall_k93_whole_chain).prog 93) (kwd := []) My.ob_eq
    (by kernel_rfl) (fun s => by kernel_rfl) My.run (by kernel_rfl) (by kernel_rfl) (by kernel_rfl) (by rfl) (by first | assumption | decide +kernel) (by decide +kernel) ⟨rfl, rfl, rfl, rfl, rfl, by decide +kernel⟩ ?hw ?hc
  case hw => w_witness2
  case hc =>
    refine L2.walk_ofE (l := PySem.Challenge.rw_oneofall_k93_whole_chain) (n := 63) (k := 77) (x := "_law_script") (CX := L2.CX0) rfl (by decide) (by kernel_rfl) My.room ?F (fun _ _ _ _ z => z)
    intro w mg fa h Y G hmg0
    obtain ⟨K, KX, c⟩ := Y
    have hmg : mg ("law" : PySem.Str) = some (.ref fa) := by
      have e : (HandSHeadRun.topDef (OpenLaw.row PySem.Challenge.rw_oneofall_k93_whole_chain).prog 93).name = ("law" : PySem.Str) := by kernel_rfl
      rw [← e]
      exact hmg0
    obtain ⟨fd, hb, hF⟩ := My.facts (P := (PySem.Challenge.rw_oneofall_k93_whole_chain).prog) (w := w) KX G hmg c
    exact ⟨K, fd, My.SpT K My.f_law, KX, hb, fun H a ns hl _ hS => My.promise hS, hF⟩
